import PyProof.Rows.All
import Wide.All
import OpenK.AllK
import Wide.FinOn
import HandS.ForMost
import HandS.Wide
import HandS.ExcOwn
import HandS.ExcCtx
import HandS.CallSlots
import HandS.Defaults
import HandS.IsInst
import HandS.Property
import HandS.TupAny
import HandS.Style
import HandS.More
import HandS.Conv
import HandS.SortInts
import HandS.Ends
import HandS.Codes
import HandS.EndBits
import HandS.Head0
import HandS.Head1
import HandS.Head2
import HandS.HeadEnd
import HandS.HeadHook1
import HandS.HeadHook2
import HandS.HeadHook3
import HandS.HeadHook4
import KE.SortData
import KE.DataEq
import HandS.Rev
import HandS.Lambda
import KE.KOpsOwn
import KE.KFmtOwn
import HandS.FStr
import HandS.MakeKw
import HandS.MakeKwOnly
import HandS.ExcInit
import HandS.ExcField
import HandS.ExcIs
import HandS.HotCalls
import KE.KExcSuper
import KE.Datum
import KE.KExcIs
import HandS.EndTab
import HandS.NestedK
import PySem.Challenge.RW_tollbooks_k02_rounded_by_rule
set_option Elab.async false
set_option linter.all false
set_option maxRecDepth 100000
set_option maxHeartbeats 0
/-! DL0: pure data, cells, the small language and its evaluator. -/
namespace DL
open PySem L2
/-! ### data -/
/-- a key of a dict -/
inductive DK where
  | i (n : Int) | s (x : Str) | t (ks : List Key)
  deriving DecidableEq
/-- a value through and through, without places -/
inductive D where
  | non | bl (b : Bool) | int (i : Int) | str (x : Str)
  | lst (xs : List D) | kls (xs : List D) | tup (xs : List D) | dic (kvs : List (DK × D)) | kdic (kvs : List (Str × D))
  | ins (c : Nat) (fs : List (Str × D))
  | fn (j : Nat) | cls (c : Nat)
/-- what a name holds: a value, or the place of a thing that may change -/
inductive X where
  | d (x : D) | r (k : Nat)
/-- a thing that may change -/
inductive Node where
  | lst (xs : List D) | dic (kvs : List (DK × D)) | ins (c : Nat) (fs : List (Str × X))
abbrev Mu := List (Option Node)
abbrev Env := List (Option X)
/-- an exception of an own class -/
structure Exn where
  c : Nat
  fs : List (Str × D)
/-- an end -/
inductive R (α : Type) where
  | ok (a : α) (μ : Mu) | er (e : Exn) (μ : Mu) | no
def R.bind {α β : Type} : R α → (α → Mu → R β) → R β
  | .ok a μ, f => f a μ
  | .er e μ, _ => .er e μ
  | .no, _ => .no
def R.lift {α : Type} (o : Option α) (μ : Mu) : R α := match o with
  | some a => .ok a μ
  | none => .no
/-! ### the language -/
inductive Bop where | add | sub | mul | fdiv | mod | pow
inductive Cop where | eq | ne | lt | le | gt | ge | isin | notin | is_ | isnot
  deriving DecidableEq
inductive Ty where | int | bool | str | lst | tup | dic | cls (c : Nat)
inductive Blt where | len | abs | min2 | max2 | sum | all | any | int | str | bool | list | tuple | sorted
  deriving DecidableEq
inductive Lm where | append | count | index | pop | extend
  deriving DecidableEq
/-- a built-in method: join of a text, index and count of a list, get of a dict -/
inductive Bm where | join | index | count | get1 | get2
  deriving DecidableEq
/-- what a parameter behind the positional ones gets: a keyword's value, its default -/
inductive KA where
  | k (m : Nat) | d (x : D)
/-- a target: a name's slot, names' slots of a tuple, a tuple that has tuples of names in it -/
inductive Tg where
  | nm (i : Nat) | tp (is : List Nat) | tn (ts : List (Nat ⊕ List Nat))
mutual
inductive E where
  | var (i : Nat)
  | con (x : D)
  | glo (g : Nat)
  | bin (op : Bop) (a b : E)
  | binC (a b : E)
  | rv (cell : Bool) (a : E)
  | fmt (a : E)
  | jn1 (a : E)
  | jn (es : Es)
  | never
  | neg (a : E)
  | cmp (op : Cop) (a b : E)
  | chain (o1 o2 : Cop) (a b c : E)
  | bop (conj : Bool) (es : Es)
  | not (a : E)
  | ife (c : T) (a b : E)
  | tup (es : Es)
  | lst (cell : Bool) (es : Es)
  | dic (cell : Bool) (kvs : Es)
  | idx (a i : E)
  | sl (cell : Bool) (a : E) (lo hi : Eo)
  | fld (a : E) (f : Str)
  | call (j : Nat) (es : Es) (ds : List D)
  | mk (c : Nat) (es : Es) (ds : List D)
  | meth (m : Str) (o : E) (es : Es) (ds : List D)
  | callK (j : Nat) (es : Es) (ks : List Str) (kes : Es) (tl : List KA)
  | mkK (c : Nat) (es : Es) (ks : List Str) (kes : Es) (tl : List KA)
  | methK (m : Str) (o : E) (es : Es) (ks : List Str) (kes : Es) (tl : List KA)
  | bm (m : Bm) (o : E) (es : Es)
  | dnew
  | blt (cell : Bool) (b : Blt) (es : Es)
  | isi (a : E) (ts : List Ty)
  | lm (m : Lm) (o : E) (es : Es)
  | lrng (cell : Bool) (a : E) (b : Eo)
  | lc (cell : Bool) (tg : Tg) (it : It) (ifs : To) (elt : E) (own : List Nat)
  | frz (a : E)
  | told (i : Nat) (e : E)
inductive Es where
  | nil | cons (e : E) (r : Es)
inductive Eo where
  | none | some (e : E)
/-- a test -/
inductive T where
  | bop (conj : Bool) (ts : Ts) | not (t : T) | cmp (op : Cop) (a b : E) | chain (o1 o2 : Cop) (a b c : E) | isi (a : E) (ts : List Ty) | val (e : E)
inductive Ts where
  | nil | cons (t : T) (r : Ts)
inductive To where
  | none | some (t : T)
/-- what is walked -/
inductive It where
  | seq (e : E) | rng1 (e : E) | rng2 (a b : E) | enum (e : E) | zip (a b : E) | rev (e : E)
end
mutual
inductive S where
  | set (i : Nat) (e : E)
  | unp (is : List Nat) (e : E)
  | par (i j : Nat) (a b : E)
  | setI (o i e : E)
  | setD (o i e : E)
  | setF (o : E) (f : Str) (e : E)
  | augN (i : Nat) (sub : Bool) (e : E)
  | ex (e : E)
  | ite (c : T) (t f : Ss)
  | for_ (tg : Tg) (it : It) (b : Ss)
  | whl (c : T) (b : Ss)
  | ret (e : E)
  | retN
  | pass | brk | cnt
  | frz (i : Nat)
  | rais (c : Nat) (es : Es)
  | never
inductive Ss where
  | nil | cons (s : S) (r : Ss)
end
/-! ### operations -/
def Node.toD : Node → Option D
  | .lst xs => some (.lst xs)
  | .dic kvs => some (.dic kvs)
  | .ins _ _ => none
/-- what stands there as a value, read -/
def view (μ : Mu) : X → Option D
  | .d x => some x
  | .r k => match μ[k]? with
    | some (some n) => n.toD
    | _ => none
/-- a list that one only reads, as a list -/
def unk : D → D
  | .kls xs => .lst xs
  | d => d
def viewS (μ : Mu) (x : X) : Option D := (view μ x).map unk
def X.dOf : X → Option D
  | .d x => some x
  | .r _ => none
mutual
def toP : D → Option PyData
  | .non => some .none
  | .bl b => some (.bool b)
  | .int i => some (.int i)
  | .str x => some (.str x)
  | .lst xs => (toPs xs).map PyData.list
  | .kls xs => (toPs xs).map PyData.list
  | .tup xs => (toPs xs).map PyData.tuple
  | _ => none
def toPs : List D → Option (List PyData)
  | [] => some []
  | x :: xs => match toP x, toPs xs with
    | some p, some ps => some (p :: ps)
    | _, _ => none
end
def scalar : D → Bool
  | .non => true
  | .bl _ => true
  | .int _ => true
  | .str _ => true
  | _ => false
/-- == of flat values -/
def eqF : D → D → Bool
  | .non, .non => true
  | .bl a, .bl b => decide (a = b)
  | .int a, .int b => decide (a = b)
  | .str a, .str b => decide (a = b)
  | .bl a, .int b => decide ((if a then 1 else 0) = b)
  | .int a, .bl b => decide (a = (if b then 1 else 0))
  | _, _ => false
def eqD (x y : D) : Option Bool :=
  if scalar x && scalar y then some (eqF x y) else
  match toP x, toP y with
  | some p, some q => if SeqAt.shaped p && SeqAt.shaped q then some (PyData.eqv p q) else none
  | _, _ => none
def keyOf : D → Option DK
  | .int i => some (.i i)
  | .str x => some (.s x)
  | _ => none
def dget (kvs : List (DK × D)) (k : DK) : Option D := kvs.lookup k
/-- data among data -/
def inP (x : D) (ys : List D) : Option Bool := match toP x, toPs ys with
  | some p, some ps => if (p.plain && PyData.plainAll ps) && decide (min (PyData.depthAll ps) p.depth < 32) then some (ps.any fun y => PyData.eqv y p) else none
  | _, _ => none
def inD (x : D) : D → Option Bool
  | .lst ys => if scalar x && ys.all scalar then some (ys.any fun y => eqF y x) else inP x ys
  | .tup ys => if scalar x && ys.all scalar then some (ys.any fun y => eqF y x) else inP x ys
  | .dic kvs => (keyOf x).map fun k => (dget kvs k).isSome
  | .kdic kvs => (match x with
    | .str z => some (kvs.lookup z).isSome
    | _ => none)
  | .str s => (match x with
    | .str z => (match z.cps.toList with
      | [c] => some (decide (c ∈ s.cps.toList))
      | _ => none)
    | _ => none)
  | _ => none
def truth : D → Option Bool
  | .non => some false
  | .bl b => some b
  | .int i => some (i != 0)
  | .str s => if s.length ≤ 1000000 then some (s.length != 0) else none
  | .lst xs => some (!xs.isEmpty)
  | .kls xs => some (!xs.isEmpty)
  | .tup xs => some (!xs.isEmpty)
  | _ => none
@[irreducible] def mulOk (i j : Int) : Bool := decide (i.natAbs.log2 + j.natAbs.log2 < 1000000)
@[irreducible] def divOk (j : Int) : Bool := decide (0 < j) && decide (j.natAbs.log2 < 9000)
/-- .. below 0 -/
@[irreducible] def divNeg (j : Int) : Bool := decide (j < 0) && decide (j.natAbs.log2 < 9000)
def powOk (i j : Int) : Bool := decide (0 ≤ j) && (decide (j ≤ 1000000) && decide (i.natAbs < 2 ^ 64))
def binI : Bop → Int → Int → Option Int
  | .add, i, j => some (i + j)
  | .sub, i, j => some (i - j)
  | .mul, i, j => if mulOk i j then some (i * j) else none
  | .fdiv, i, j => if divOk j then some (i / j) else if divNeg j then some (i.fdiv j) else none
  | .mod, i, j => if decide (0 < j) then some (i % j) else none
  | .pow, i, j => if powOk i j then some (i ^ j.toNat) else none
def eqX (μ : Mu) (x y : X) : Option Bool := (view μ x).bind fun a => (view μ y).bind fun b => eqD a b
def inX (μ : Mu) (x y : X) : Option Bool := x.dOf.bind fun a => (viewS μ y).bind fun b => inD a b
def isN : X → Bool
  | .d .non => true
  | _ => false
def isNX (x y : X) : Option Bool := match y with
  | .d .non => some (isN x)
  | .d (.bl b) => (match x with
    | .d (.bl a) => some (decide (a = b))
    | _ => none)
  | _ => none
def intX : X → Option Int
  | .d (.int i) => some i
  | _ => none
/-- as pure data -/
def pD (d : D) : PyData := (toP d).getD .none
def isNoP : PyData → Bool
  | .none => true
  | _ => false
/-- < of data that are alike -/
def ltDt (x y : D) : Option Bool := match toP x, toP y with
  | some p, some q => if PySem.W.alike p q && (!isNoP p && decide (min p.depth q.depth < 64)) then some (PySem.W.dataLt p q) else none
  | _, _ => none
def ltX (x y : X) : Option Bool := match intX x, intX y with
  | some i, some j => some (decide (i < j))
  | _, _ => x.dOf.bind fun a => y.dOf.bind fun b => ltDt a b
def cmpD (μ : Mu) (op : Cop) (x y : X) : Option Bool := match op with
  | .eq => eqX μ x y
  | .ne => (eqX μ x y).map not
  | .isin => inX μ x y
  | .notin => (inX μ x y).map not
  | .is_ => isNX x y
  | .isnot => (isNX x y).map not
  | .lt => ltX x y
  | .le => (intX x).bind fun i => (intX y).map fun j => decide (i ≤ j)
  | .gt => (intX x).bind fun i => (intX y).map fun j => decide (j < i)
  | .ge => (intX x).bind fun i => (intX y).map fun j => decide (j ≤ i)
def Node.size : Node → Nat
  | .lst xs => xs.length
  | .dic kvs => kvs.length
  | .ins _ fs => fs.length
/-- a new list, tuple .. : a cell, or a value -/
def alloc (cell : Bool) (n : Node) (μ : Mu) : R X := if n.size ≤ 1000000 then (match cell with
  | true => .ok (.r μ.length) (μ ++ [some n])
  | false => R.lift (n.toD.map X.d) μ) else .no
def oneS (c : Nat) : Str := ⟨#[c]⟩
def seqOf : D → Option (List D)
  | .lst xs => some xs
  | .kls xs => some xs
  | .tup xs => some xs
  | .str z => some (z.cps.toList.map fun c => .str (oneS c))
  | _ => none
def idxD (a i : D) : Option D := match a with
  | .lst xs => (match i with | .int j => atI xs j | _ => none)
  | .tup xs => (match i with | .int j => atI xs j | _ => none)
  | .str z => (match i with | .int j => if z.length ≤ 1000000 then (atI z.cps.toList j).map fun c => .str (oneS c) else none | _ => none)
  | .dic kvs => (keyOf i).bind (dget kvs)
  | .kdic kvs => (match i with | .str z => kvs.lookup z | _ => none)
  | _ => none
def cutD (xs : List D) (lo hi : Option Int) : List D := (xs.drop (HT.sIx xs.length 0 lo)).take (HT.sIx xs.length xs.length hi - HT.sIx xs.length 0 lo)
def intsD : List D → Option (List Int)
  | [] => some []
  | .int i :: r => (intsD r).map (i :: ·)
  | _ :: _ => none
def boolsD : List D → Option (List Bool)
  | [] => some []
  | .bl i :: r => (boolsD r).map (i :: ·)
  | _ :: _ => none
/-- the class of an instance -/
def insOf (μ : Mu) : X → Option Nat
  | .d (.ins c _) => some c
  | .r k => (match μ[k]? with | some (some (.ins c _)) => some c | _ => none)
  | _ => none
def isTy (μ : Mu) (x : X) : Ty → Bool
  | .int => (match x with | .d (.int _) => true | .d (.bl _) => true | _ => false)
  | .bool => (match x with | .d (.bl _) => true | _ => false)
  | .str => (match x with | .d (.str _) => true | _ => false)
  | .lst => (match viewS μ x with | some (.lst _) => true | _ => false)
  | .tup => (match x with | .d (.tup _) => true | _ => false)
  | .dic => (match viewS μ x with | some (.dic _) => true | some (.kdic _) => true | _ => false)
  | .cls c => (match insOf μ x with
    | some c' => c' == c
    | none => false)
/-- the type is known -/
def tyKnown (μ : Mu) (x : X) : Bool := match x with
  | .d (.fn _) => false
  | .d (.cls _) => false
  | .d _ => true
  | .r k => (match μ[k]? with | some (some _) => true | _ => false)
def sizeOk {α : Type} (xs : List α) : Bool := decide (xs.length ≤ 1000000)
def small (i : Int) : Bool := decide (-(2 ^ 62) ≤ i) && decide (i < 2 ^ 62)
def upTo (lo : Int) (n : Nat) : List D := (List.range n).map fun (i : Nat) => D.int (lo + (i : Int))
def keyD : DK → D
  | .i n => .int n
  | .s x => .str x
  | .t ks => .tup (ks.map fun k => match k with | .inl n => .int n | .inr x => .str x)
def strLe (a b : Str) : Bool := !decide (b.cps.toList < a.cps.toList)
def sortS (zs : List Str) : List Str := zs.mergeSort strLe
def strsD : List D → Option (List Str)
  | [] => some []
  | .str z :: r => (strsD r).map (z :: ·)
  | _ :: _ => none
/-- by the order of data that are alike -/
def leDt (x y : D) : Bool := !PySem.W.dataLt (pD y) (pD x)
def sortDt (xs : List D) : List D := xs.mergeSort leDt
def isTup1 : PyData → Bool
  | .tuple (_ :: _) => true
  | _ => false
def sortOk (xs : List D) : Bool := xs.all (fun x => (toP x).isSome) && (xs.all (fun x => isTup1 (pD x)) && (xs.all (fun x => decide ((pD x).depth < 32)) && xs.all fun x => xs.all fun y => PySem.W.alike (pD x) (pD y)))
def bltD (μ : Mu) (cell : Bool) : Blt → List X → R X
  | .len, [x] => (match viewS μ x with
    | some (.lst xs) => .ok (.d (.int xs.length)) μ
    | some (.tup xs) => .ok (.d (.int xs.length)) μ
    | some (.str s) => if s.length ≤ 1000000 then .ok (.d (.int s.length)) μ else .no
    | _ => .no)
  | .abs, [.d (.int i)] => .ok (.d (.int (if i < 0 then -i else i))) μ
  | .min2, [.d (.int i), .d (.int j)] => .ok (.d (.int (if j < i then j else i))) μ
  | .max2, [.d (.int i), .d (.int j)] => .ok (.d (.int (if j > i then j else i))) μ
  | .sum, [x] => (match viewS μ x with
    | some (.lst xs) => (match intsD xs with
      | some ns => .ok (.d (.int ns.sum)) μ
      | none => .no)
    | _ => .no)
  | .all, [x] => (match viewS μ x with
    | some (.lst xs) => (match boolsD xs with
      | some bs => .ok (.d (.bl (bs.all id))) μ
      | none => .no)
    | _ => .no)
  | .any, [x] => (match viewS μ x with
    | some (.lst xs) => (match boolsD xs with
      | some bs => .ok (.d (.bl (bs.any id))) μ
      | none => .no)
    | _ => .no)
  | .int, [.d (.int i)] => .ok (.d (.int i)) μ
  | .int, [.d (.bl b)] => .ok (.d (.int (if b then 1 else 0))) μ
  | .list, [x] => (match viewS μ x with
    | some (.lst xs) => alloc cell (.lst xs) μ
    | some (.tup xs) => alloc cell (.lst xs) μ
    | some (.dic kvs) => alloc cell (.lst (kvs.map fun p => keyD p.1)) μ
    | _ => .no)
  | .bool, [.d (.int i)] => .ok (.d (.bl (i != 0))) μ
  | .bool, [.d (.bl b)] => .ok (.d (.bl b)) μ
  | .str, [.d (.int i)] => if i.natAbs.log2 < 1920 then .ok (.d (.str (toString i))) μ else .no
  | .tuple, [x] => (match viewS μ x with
    | some (.lst xs) => if xs.length ≤ 1000000 then .ok (.d (.tup xs)) μ else .no
    | some (.tup xs) => .ok (.d (.tup xs)) μ
    | _ => .no)
  | .sorted, [x] => (match viewS μ x with
    | some (.lst xs) => (match intsD xs with
      | some ns => alloc cell (.lst ((ns.mergeSort (fun a b => decide (a ≤ b))).map D.int)) μ
      | none => (match strsD xs with
        | some zs => if zs.length < 64 then alloc cell (.lst ((sortS zs).map D.str)) μ else .no
        | none => if sortOk xs then alloc cell (.lst (sortDt xs)) μ else .no))
    | some (.dic kvs) => (match strsD (kvs.map fun p => keyD p.1) with
      | some zs => if zs.length < 64 then alloc cell (.lst ((sortS zs).map D.str)) μ else .no
      | none => .no)
    | _ => .no)
  | _, _ => .no
def Mu.put (μ : Mu) (k : Nat) (n : Node) : Mu := μ.set k (some n)
def isLst (μ : Mu) (x : X) : Bool := match viewS μ x with
  | some (.lst _) => true
  | _ => false
/-- a method of a list that stands in a cell -/
def lmD (μ : Mu) : Lm → X → List X → R X
  | .append, .r k, [.d x] => (match μ[k]? with
    | some (some (.lst xs)) => if sizeOk xs then .ok (.d .non) (μ.set k (some (.lst (xs ++ [x])))) else .no
    | _ => .no)
  | _, _, _ => .no
/-- d[q] = v -/
def dput (kvs : List (DK × D)) (q : DK) (v : D) : List (DK × D) := if kvs.any fun p => decide (p.1 = q) then kvs.map fun p => if p.1 = q then (q, v) else p else kvs ++ [(q, v)]
def setIX (μ : Mu) : X → X → X → R Unit
  | .r k, .d i, .d v => (match μ[k]? with
    | some (some (.lst xs)) => (match i with
      | .int j => (match ixN xs.length j with
        | some n => .ok () (μ.set k (some (.lst (xs.set n v))))
        | none => .no)
      | _ => .no)
    | _ => .no)
  | _, _, _ => .no
def setDX (μ : Mu) : X → X → X → R Unit
  | .r k, .d i, .d v => (match μ[k]? with
    | some (some (.dic kvs)) => (match keyOf i with
      | some q => if kvs.length ≤ 1000000 then .ok () (μ.set k (some (.dic (dput kvs q v)))) else .no
      | none => .no)
    | _ => .no)
  | _, _, _ => .no
def fldX (μ : Mu) (x : X) (f : Str) : Option X := match x with
  | .d (.ins _ fs) => (fs.lookup f).map X.d
  | .r k => (match μ[k]? with
    | some (some (.ins _ fs)) => fs.lookup f
    | _ => none)
  | _ => none
def valF : List (Str × X) → Option (List (Str × D))
  | [] => some []
  | (f, x) :: r => match x, valF r with
    | .d d, some fs => some ((f, d) :: fs)
    | _, _ => none
/-- .. made fast -/
def Node.fast : Node → Option D
  | .lst xs => some (.lst xs)
  | .dic kvs => some (.dic kvs)
  | .ins c fs => (valF fs).map fun fs => .ins c fs
def frzX (μ : Mu) : X → R X
  | .d x => .ok (.d x) μ
  | .r k => (match μ[k]? with
    | some (some n) => (match n.fast with
      | some x => .ok (.d x) (μ.set k none)
      | none => .no)
    | _ => .no)
def putX (f : Str) (y : X) : List (Str × X) → List (Str × X)
  | [] => [(f, y)]
  | (g, x) :: r => if g = f then (g, y) :: r else (g, x) :: putX f y r
/-- a field is stored -/
def setFX (μ : Mu) (x : X) (f : Str) (v : X) : R Unit := match x with
  | .r k => (match μ[k]? with
    | some (some (.ins c fs)) => if fs.length < 500 then .ok () (μ.set k (some (.ins c (putX f v fs)))) else .no
    | _ => .no)
  | _ => .no
/-- the cells from n on are dropped: no cell below names one of them -/
def Node.below (n : Nat) : Node → Bool
  | .ins _ fs => fs.all fun p => match p.2 with
    | .d _ => true
    | .r k => decide (k < n)
  | _ => true
def belowAll (n : Nat) : Mu → Bool
  | [] => true
  | o :: r => (match o with | some nd => nd.below n | none => true) && belowAll n r
def clr (n : Nat) : Option X → Option X
  | some (.r k) => if k < n then some (.r k) else none
  | o => o
def tidy (n : Nat) (ρ : Env) (μ : Mu) : Env × Mu := if belowAll n (μ.take n) then (ρ.map (clr n), μ.take n) else (ρ, μ)
/-! ### targets, walks -/
def bind1 : Nat ⊕ List Nat → D → Env → Option Env
  | .inl i, x, ρ => some (ρ.set i (some (.d x)))
  | .inr is, .tup xs, ρ => if is.length = xs.length then some ((is.zip xs).foldl (fun ρ p => ρ.set p.1 (some (.d p.2))) ρ) else none
  | .inr _, _, _ => none
def bindN : List (Nat ⊕ List Nat) → List D → Env → Option Env
  | [], [], ρ => some ρ
  | t :: ts, x :: xs, ρ => (bind1 t x ρ).bind (bindN ts xs)
  | _, _, _ => none
def bindTg : Tg → D → Env → Option Env
  | .tn ts, .tup xs, ρ => bindN ts xs ρ
  | .nm i, x, ρ => some (ρ.set i (some (.d x)))
  | .tp is, .tup xs, ρ => if is.length = xs.length then some ((is.zip xs).foldl (fun ρ p => ρ.set p.1 (some (.d p.2))) ρ) else none
  | _, _, _ => none
/-- a call's answers -/
abbrev CallF := Nat → List X → Mu → R X
structure Par where
  C : CallF
  C1 : CallF
  W : Nat
  glo : Nat → Option D
  methOf : Nat → Str → Option Nat
  propOf : Nat → Str → Option Nat
  fldOk : Nat → Str → Bool
  /-- an own exception's fields; what is told of an exception -/
  exf : Nat → Option (List Str)
  tell : Nat → Exn → Option D
/-- nothing is raised -/
def quiet : R X → R X
  | .er _ _ => .no
  | r => r
def boolR : R X → R Bool
  | .ok (.d (.bl b)) μ => .ok b μ
  | .er e μ => .er e μ
  | _ => .no
def notR : R Bool → R Bool
  | .ok b μ => .ok (!b) μ
  | r => r
/-- a method of the own text -/
def ownM (P : Par) (c : Nat) (m : Str) (xs : List X) (μ : Mu) : R X := match P.methOf c m with
  | some j => quiet (P.C1 j xs μ)
  | none => .no
def eqTo (μ : Mu) (y : X) : Bool := (insOf μ y).isSome || (match y with | .d (.lst _) => true | .d (.tup _) => true | .d d => scalar d | _ => false)
def ownCmp (P : Par) (op : Cop) (x y : X) (μ : Mu) : Option (R Bool) := match op with
  | .isin => (insOf μ y).map fun c => boolR (ownM P c "__contains__" [y, x] μ)
  | .notin => (insOf μ y).map fun c => notR (boolR (ownM P c "__contains__" [y, x] μ))
  | .eq => (insOf μ x).map fun c => if eqTo μ y then boolR (ownM P c "__eq__" [x, y] μ) else .no
  | .ne => (insOf μ x).map fun c => if eqTo μ y then notR (boolR (ownM P c "__eq__" [x, y] μ)) else .no
  | _ => none
def cmpX (P : Par) (op : Cop) (x y : X) (μ : Mu) : R Bool := match ownCmp P op x y μ with
  | some r => r
  | none => R.lift (cmpD μ op x y) μ
def opMeth : Bop → Str
  | .add => "__add__"
  | .sub => "__sub__"
  | .mul => "__mul__"
  | .fdiv => "__floordiv__"
  | .mod => "__mod__"
  | .pow => "__pow__"
/-- a method that the interpreter itself calls -/
def dun (m : Str) : Bool := decide (m ∈ ([("__add__" : Str), "__sub__", "__mul__", "__floordiv__", "__mod__", "__pow__", "__contains__", "__eq__", "__abs__", "__bool__", "__neg__", "__len__", "__iter__"] : List Str))
/-- a built-in of an own instance -/
def ownB (P : Par) (b : Blt) (xs : List X) (μ : Mu) : Option (R X) := match b with
  | .abs => (match xs with
    | [.d (.ins c fs)] => some (ownM P c "__abs__" [.d (.ins c fs)] μ)
    | _ => none)
  | .bool => (match xs with
    | [.d (.ins c fs)] => some ((boolR (ownM P c "__bool__" [.d (.ins c fs)] μ)).bind fun b μ => .ok (.d (.bl b)) μ)
    | _ => none)
  | _ => none
def bltP (P : Par) (μ : Mu) (cell : Bool) (b : Blt) (xs : List X) : R X := match ownB P b xs μ with
  | some r => r
  | none => bltD μ cell b xs
/-- an operator on two ints -/
def binZ (op : Bop) : X → X → Option (Option Int)
  | .d (.int i), .d (.int j) => some (binI op i j)
  | _, _ => none
def addD (μ : Mu) (x y : X) : R X := match view μ x with
  | some (.str s) => (match view μ y with
    | some (.str t) => if s.length + t.length ≤ 1000000 then .ok (.d (.str (s ++ t))) μ else .no
    | _ => .no)
  | some (.tup xs) => (match view μ y with
    | some (.tup ys) => if xs.length + ys.length ≤ 1000000 then .ok (.d (.tup (xs ++ ys))) μ else .no
    | _ => .no)
  | some (.lst xs) => (match view μ y with
    | some (.lst ys) => alloc false (.lst (xs ++ ys)) μ
    | _ => .no)
  | _ => .no
def binX (P : Par) (op : Bop) (x y : X) (μ : Mu) : R X := match binZ op x y with
  | some o => R.lift (o.map fun k => X.d (.int k)) μ
  | none => (match insOf μ x with
    | some c => if insOf μ y = some c then ownM P c (opMeth op) [x, y] μ else .no
    | none => (match op with
      | .add => addD μ x y
      | _ => .no))
def addC (μ : Mu) (x y : X) : R X := match view μ x with
  | some (.lst xs) => (match view μ y with
    | some (.lst ys) => alloc true (.lst (xs ++ ys)) μ
    | _ => .no)
  | _ => .no
def optI : Option X → Option (Option Int)
  | none => some none
  | some (.d (.int i)) => some (some i)
  | _ => none
def cutSt (z : Str) (lo hi : Option Int) : Str := ⟨((z.cps.toList.drop (HT.sIx z.length 0 lo)).take (HT.sIx z.length z.length hi - HT.sIx z.length 0 lo)).toArray⟩
def slD (μ : Mu) (cell : Bool) (x : X) (lo hi : Option Int) : R X := match viewS μ x with
  | some (.lst xs) => alloc cell (.lst (cutD xs lo hi)) μ
  | some (.tup xs) => .ok (.d (.tup (cutD xs lo hi))) μ
  | some (.str z) => if z.length ≤ 1000000 then .ok (.d (.str (cutSt z lo hi))) μ else .no
  | _ => .no
def rvD (μ : Mu) (cell : Bool) (x : X) : R X := match viewS μ x with
  | some (.lst xs) => alloc cell (.lst xs.reverse) μ
  | _ => .no
/-- a field, a property -/
def fldP (P : Par) (x : X) (f : Str) (μ : Mu) : R X := match insOf μ x with
  | some c => (match P.propOf c f with
    | some j => quiet (P.C1 j [x] μ)
    | none => if P.fldOk c f then R.lift (fldX μ x f) μ else .no)
  | none => .no
/-- a value in an f-string -/
def fmtX (x : X) (μ : Mu) : R X := match x with
  | .d (.str z) => if z.length ≤ 1000000 then .ok (.d (.str z)) μ else .no
  | .d (.int i) => if i.natAbs.log2 < 1920 then .ok (.d (.str (toString i))) μ else .no
  | _ => .no
/-- the parameters behind the positional ones -/
def tlX (zs : List X) : List KA → Option (List X)
  | [] => some []
  | .k m :: r => (zs[m]?).bind fun z => (tlX zs r).map (z :: ·)
  | .d x :: r => (tlX zs r).map (X.d x :: ·)
/-- the first place -/
def idxOf (y : D) : List D → Nat → Option Nat
  | [], _ => none
  | x :: xs, n => if eqF x y then some n else idxOf y xs (n + 1)
/-- the receiver's type -/
def bmOk (μ : Mu) (m : Bm) (x : X) : Bool := match m with
  | .join => (match x with | .d (.str _) => true | _ => false)
  | .index => isLst μ x
  | .get1 => (match view μ x with | some (.dic _) => true | _ => false)
  | .get2 => (match view μ x with | some (.dic _) => true | _ => false)
  | .count => false
def joinD (μ : Mu) : X → List X → R X
  | .d (.str s), [x] => (match viewS μ x with
    | some (.lst xs) => (match strsD xs with
      | some zs => if (zs.map (·.length)).sum + zs.length * s.length ≤ 1000000 then .ok (.d (.str (Txt.join s zs))) μ else .no
      | none => .no)
    | _ => .no)
  | _, _ => .no
def indexD (μ : Mu) (o : X) : List X → R X
  | [.d y] => (match viewS μ o with
    | some (.lst xs) => if scalar y && xs.all scalar then (match idxOf y xs 0 with
      | some n => .ok (.d (.int n)) μ
      | none => .no) else .no
    | _ => .no)
  | _ => .no
def get1D (μ : Mu) (o : X) : List X → R X
  | [.d k] => (match view μ o with
    | some (.dic kvs) => (match keyOf k with
      | some q => .ok (.d ((dget kvs q).getD .non)) μ
      | none => .no)
    | _ => .no)
  | _ => .no
def get2D (μ : Mu) (o : X) : List X → R X
  | [.d k, .d y] => (match view μ o with
    | some (.dic kvs) => (match keyOf k with
      | some q => .ok (.d ((dget kvs q).getD y)) μ
      | none => .no)
    | _ => .no)
  | _ => .no
/-- a built-in method -/
def bmD (μ : Mu) (m : Bm) (o : X) (xs : List X) : R X := match m with
  | .join => joinD μ o xs
  | .index => indexD μ o xs
  | .get1 => get1D μ o xs
  | .get2 => get2D μ o xs
  | .count => .no
/-- the pairs of a display -/
def pairs : List X → Option (List (DK × D))
  | [] => some []
  | .d k :: .d v :: r => match keyOf k, pairs r with
    | some q, some kvs => if (kvs.lookup q).isSome then none else some ((q, v) :: kvs)
    | _, _ => none
  | _ => none
/-- a comprehension's turns -/
def lcD (bind : D → Env → Option Env) (test : Env → Mu → R Bool) (elt : Env → Mu → R X) (ρ : Env) : List D → List D → Mu → R (List D)
  | [], acc, μ => .ok acc μ
  | x :: xs, acc, μ => match bind x ρ with
    | none => .no
    | some ρ' => match test ρ' μ with
      | .ok true μ1 => (match elt ρ' μ1 with
        | .ok (.d y) μ2 => if sizeOk acc then lcD bind test elt ρ xs (acc ++ [y]) (tidy μ.length [] μ2).2 else .no
        | _ => .no)
      | .ok false μ1 => lcD bind test elt ρ xs acc (tidy μ.length [] μ1).2
      | _ => .no
def wipeE (ρ : Env) : List Nat → Env
  | [] => ρ
  | v :: vs => (wipeE ρ vs).set v none
def zipD : List D → List D → List D
  | a :: as, b :: bs => .tup [a, b] :: zipD as bs
  | _, _ => []
def enumD : Int → List D → List D
  | _, [] => []
  | n, a :: as => .tup [.int n, a] :: enumD (n + 1) as
mutual
def evE (P : Par) : E → Env → Mu → R X
  | .var i, ρ, μ => (match ρ[i]? with | some (some x) => .ok x μ | _ => .no)
  | .con x, _, μ => .ok (.d x) μ
  | .glo g, _, μ => R.lift ((P.glo g).map X.d) μ
  | .bin op a b, ρ, μ => (evE P a ρ μ).bind fun x μ1 => (evE P b ρ μ1).bind fun y μ2 => binX P op x y μ2
  | .binC a b, ρ, μ => (evE P a ρ μ).bind fun x μ1 => (evE P b ρ μ1).bind fun y μ2 => addC μ2 x y
  | .rv c a, ρ, μ => (evE P a ρ μ).bind fun x μ1 => rvD μ1 c x
  | .fmt a, ρ, μ => (evE P a ρ μ).bind fun x μ1 => fmtX x μ1
  | .jn1 a, ρ, μ => evE P a ρ μ
  | .jn es, ρ, μ => (evJ P es Str.empty ρ μ).bind fun z μ1 => .ok (.d (.str z)) μ1
  | .never, _, _ => .no
  | .neg a, ρ, μ => (evE P a ρ μ).bind fun x μ1 => (match x with
    | .d (.int i) => .ok (.d (.int (-i))) μ1
    | .d (.ins c fs) => ownM P c "__neg__" [.d (.ins c fs)] μ1
    | _ => .no)
  | .cmp op a b, ρ, μ => (evE P a ρ μ).bind fun x μ1 => (evE P b ρ μ1).bind fun y μ2 => (cmpX P op x y μ2).bind fun b μ3 => .ok (.d (.bl b)) μ3
  | .chain o1 o2 a b c, ρ, μ => (evE P a ρ μ).bind fun x μ1 => (evE P b ρ μ1).bind fun y μ2 => (cmpX P o1 x y μ2).bind fun k μ3 =>
    if k then (evE P c ρ μ3).bind fun z μ4 => (cmpX P o2 y z μ4).bind fun b μ5 => .ok (.d (.bl b)) μ5 else .ok (.d (.bl false)) μ3
  | .bop cj es, ρ, μ => evB P cj es ρ μ
  | .not a, ρ, μ => (evE P a ρ μ).bind fun x μ1 => (match x with
    | .d (.bl b) => .ok (.d (.bl (!b))) μ1
    | _ => .no)
  | .ife c a b, ρ, μ => (evT P c ρ μ).bind fun k μ1 => if k then evE P a ρ μ1 else evE P b ρ μ1
  | .tup es, ρ, μ => (evEs P es ρ μ).bind fun xs μ1 => R.lift ((xs.mapM X.dOf).bind fun ds => if ds.length ≤ 1000000 then some (X.d (.tup ds)) else none) μ1
  | .lst c es, ρ, μ => (evEs P es ρ μ).bind fun xs μ1 => (match xs.mapM X.dOf with
    | some ds => alloc c (.lst ds) μ1
    | none => .no)
  | .dic c es, ρ, μ => (evEs P es ρ μ).bind fun xs μ1 => (match pairs xs with
    | some kvs => if xs.length ≤ 30 && !xs.isEmpty then (match c with
      | true => .ok (.r μ1.length) (μ1 ++ [some (.dic kvs)])
      | false => .ok (.d (.dic kvs)) μ1) else .no
    | none => .no)
  | .idx a i, ρ, μ => (evE P a ρ μ).bind fun x μ1 => (evE P i ρ μ1).bind fun y μ2 => (match viewS μ2 x, y with
    | some x, .d y => R.lift ((idxD x y).map X.d) μ2
    | _, _ => .no)
  | .sl c a lo hi, ρ, μ => (evE P a ρ μ).bind fun x μ1 => (evO P lo ρ μ1).bind fun l μ2 => (evO P hi ρ μ2).bind fun h μ3 => slD μ3 c x l h
  | .fld a f, ρ, μ => (evE P a ρ μ).bind fun x μ1 => fldP P x f μ1
  | .call j es ds, ρ, μ => (evEs P es ρ μ).bind fun xs μ1 => P.C j (xs ++ ds.map X.d) μ1
  | .mk c es ds, ρ, μ => (evEs P es ρ μ).bind fun xs μ1 => (match P.methOf c "__init__" with
    | some j => (P.C1 j (.r μ1.length :: (xs ++ ds.map X.d)) (μ1 ++ [some (.ins c [])])).bind fun y μ2 => (match y with
      | .d .non => .ok (.r μ1.length) μ2
      | _ => .no)
    | none => .no)
  | .meth m o es ds, ρ, μ => (evE P o ρ μ).bind fun x μ1 => (match insOf μ1 x with
    | some c => (match P.methOf c m with
      | some j => if (fldX μ1 x m).isNone then (evEs P es ρ μ1).bind fun xs μ2 => P.C j (x :: (xs ++ ds.map X.d)) μ2 else .no
      | none => .no)
    | none => .no)
  | .callK j es _ kes tl, ρ, μ => (evEs P es ρ μ).bind fun xs μ1 => (evEs P kes ρ μ1).bind fun zs μ2 => (match tlX zs tl with
    | some ts => P.C j (xs ++ ts) μ2
    | none => .no)
  | .mkK c es _ kes tl, ρ, μ => (evEs P es ρ μ).bind fun xs μ1 => (evEs P kes ρ μ1).bind fun zs μ2 => (match tlX zs tl with
    | some ts => (match P.methOf c "__init__" with
      | some j => (P.C1 j (.r μ2.length :: (xs ++ ts)) (μ2 ++ [some (.ins c [])])).bind fun y μ3 => (match y with
        | .d .non => .ok (.r μ2.length) μ3
        | _ => .no)
      | none => .no)
    | none => .no)
  | .methK m o es _ kes tl, ρ, μ => (evE P o ρ μ).bind fun x μ1 => (match insOf μ1 x with
    | some c => (match P.methOf c m with
      | some j => if (fldX μ1 x m).isNone then (evEs P es ρ μ1).bind fun xs μ2 => (evEs P kes ρ μ2).bind fun zs μ3 => (match tlX zs tl with
        | some ts => P.C j (x :: (xs ++ ts)) μ3
        | none => .no) else .no
      | none => .no)
    | none => .no)
  | .bm m o es, ρ, μ => (evE P o ρ μ).bind fun x μ1 => if bmOk μ1 m x then (evEs P es ρ μ1).bind fun xs μ2 => bmD μ2 m x xs else .no
  | .dnew, _, μ => .ok (.r μ.length) (μ ++ [some (.dic [])])
  | .blt c b es, ρ, μ => (evEs P es ρ μ).bind fun xs μ1 => bltP P μ1 c b xs
  | .isi a ts, ρ, μ => (evE P a ρ μ).bind fun x μ1 => if tyKnown μ1 x then .ok (.d (.bl (ts.any (isTy μ1 x)))) μ1 else .no
  | .lm m o es, ρ, μ => (evE P o ρ μ).bind fun x μ1 => if isLst μ1 x then (evEs P es ρ μ1).bind fun xs μ2 => lmD μ2 m x xs else .no
  | .lrng c a b, ρ, μ => (match b with
    | .none => (evE P a ρ μ).bind fun x μ1 => (match intX x with
      | some j => if small j then alloc c (.lst (upTo 0 j.toNat)) μ1 else .no
      | none => .no)
    | .some b => (evE P a ρ μ).bind fun x μ1 => (evE P b ρ μ1).bind fun y μ2 => (match intX x, intX y with
      | some i, some j => if small i && small j then alloc c (.lst (upTo i (j - i).toNat)) μ2 else .no
      | _, _ => .no))
  | .lc c tg it ifs elt own, ρ, μ => (evIt P it ρ μ).bind fun ds μ1 =>
    (lcD (bindTg tg) (evA P ifs) (evE P elt) (wipeE ρ own) ds [] μ1).bind fun ys μ2 => alloc c (.lst ys) μ2
  | .frz a, ρ, μ => (evE P a ρ μ).bind fun x μ1 => frzX μ1 x
  | .told i a, ρ, μ => (match evE P a ρ μ with
    | .ok (.d x) μ1 => .ok (.d (.tup [.str "told", x])) μ1
    | .er e μ1 => R.lift ((P.tell i e).map X.d) μ1
    | _ => .no)
/-- a slice's end -/
def evO (P : Par) : Eo → Env → Mu → R (Option Int)
  | .none, _, μ => .ok none μ
  | .some e, ρ, μ => (evE P e ρ μ).bind fun x μ1 => R.lift ((intX x).map some) μ1
def evEs (P : Par) : Es → Env → Mu → R (List X)
  | .nil, _, μ => .ok [] μ
  | .cons e r, ρ, μ => (evE P e ρ μ).bind fun x μ1 => (evEs P r ρ μ1).bind fun xs μ2 => .ok (x :: xs) μ2
/-- an f-string's parts, joined -/
def evJ (P : Par) : Es → Str → Env → Mu → R Str
  | .nil, acc, _, μ => .ok acc μ
  | .cons e r, acc, ρ, μ => (evE P e ρ μ).bind fun x μ1 => (match x with
    | .d (.str y) => if (acc ++ y).length ≤ 1000000 then evJ P r (acc ++ y) ρ μ1 else .no
    | _ => .no)
/-- and, or: all but the last True or False -/
def evB (P : Par) (cj : Bool) : Es → Env → Mu → R X
  | .nil, _, _ => .no
  | .cons e r, ρ, μ => (evE P e ρ μ).bind fun x μ1 => (match r with
    | .nil => .ok x μ1
    | .cons _ _ => (match x with
      | .d (.bl b) => if b = cj then evB P cj r ρ μ1 else .ok (.d (.bl b)) μ1
      | _ => .no))
/-- a test -/
def evT (P : Par) : T → Env → Mu → R Bool
  | .bop cj ts, ρ, μ => evTs P cj ts ρ μ
  | .not a, ρ, μ => (evT P a ρ μ).bind fun k μ1 => .ok (!k) μ1
  | .cmp op a b, ρ, μ => (evE P a ρ μ).bind fun x μ1 => (evE P b ρ μ1).bind fun y μ2 => cmpX P op x y μ2
  | .chain o1 o2 a b c, ρ, μ => (evE P a ρ μ).bind fun x μ1 => (evE P b ρ μ1).bind fun y μ2 => (cmpX P o1 x y μ2).bind fun k μ3 =>
    if k then (evE P c ρ μ3).bind fun z μ4 => cmpX P o2 y z μ4 else .ok false μ3
  | .isi a ts, ρ, μ => (evE P a ρ μ).bind fun x μ1 => if tyKnown μ1 x then .ok (ts.any (isTy μ1 x)) μ1 else .no
  | .val e, ρ, μ => (evE P e ρ μ).bind fun x μ1 => (match view μ1 x with
    | some d => R.lift (truth d) μ1
    | none => .no)
def evTs (P : Par) (cj : Bool) : Ts → Env → Mu → R Bool
  | .nil, _, μ => .ok cj μ
  | .cons t r, ρ, μ => (evT P t ρ μ).bind fun k μ1 => if k = cj then evTs P cj r ρ μ1 else .ok k μ1
/-- a clause's test -/
def evA (P : Par) : To → Env → Mu → R Bool
  | .none, _, μ => .ok true μ
  | .some t, ρ, μ => evT P t ρ μ
def evIt (P : Par) : It → Env → Mu → R (List D)
  | .seq e, ρ, μ => (evE P e ρ μ).bind fun x μ1 => (match x with
    | .d x => R.lift (seqOf x) μ1
    | _ => .no)
  | .rng1 e, ρ, μ => (evE P e ρ μ).bind fun x μ1 => (match intX x with
    | some j => if small j then .ok (upTo 0 j.toNat) μ1 else .no
    | none => .no)
  | .rng2 a b, ρ, μ => (evE P a ρ μ).bind fun x μ1 => (evE P b ρ μ1).bind fun y μ2 => (match intX x, intX y with
    | some i, some j => if small i && small j then .ok (upTo i (j - i).toNat) μ2 else .no
    | _, _ => .no)
  | .enum e, ρ, μ => (evE P e ρ μ).bind fun x μ1 => (match x with
    | .d (.lst xs) => .ok (enumD 0 xs) μ1
    | _ => .no)
  | .zip a b, ρ, μ => (evE P a ρ μ).bind fun x μ1 => (evE P b ρ μ1).bind fun y μ2 => (match x, y with
    | .d (.lst xs), .d (.lst ys) => .ok (zipD xs ys) μ2
    | _, _ => .no)
  | .rev e, ρ, μ => (evE P e ρ μ).bind fun x μ1 => (match x with
    | .d (.lst xs) => .ok xs.reverse μ1
    | .d (.tup xs) => .ok xs.reverse μ1
    | _ => .no)
end
/-- a statement's end -/
inductive Fl where
  | nx (ρ : Env) | rt (x : X) | bk (ρ : Env) | ct (ρ : Env) | ex (e : Exn) (ρ : Env)
/-- statements' ends: nothing but .ok is used for what is raised -/
def R.st {α : Type} (ρ : Env) : R α → (α → Mu → R Fl) → R Fl
  | .ok a μ, f => f a μ
  | .er e μ, _ => .ok (.ex e ρ) μ
  | .no, _ => .no
def whileD (c : Env → Mu → R Bool) (b : Env → Mu → R Fl) : Nat → Env → Mu → R Fl
  | 0, _, _ => .no
  | n + 1, ρ, μ => (c ρ μ).st ρ fun k μ1 => if k then (match b ρ μ1 with
      | .ok (.nx ρ') μ2 => let t := tidy μ.length ρ' μ2; whileD c b n t.1 t.2
      | .ok (.ct ρ') μ2 => let t := tidy μ.length ρ' μ2; whileD c b n t.1 t.2
      | .ok (.bk ρ') μ2 => .ok (.nx ρ') μ2
      | r => r) else .ok (.nx ρ) μ1
def forD (bind : D → Env → Option Env) (b : Env → Mu → R Fl) : List D → Env → Mu → R Fl
  | [], ρ, μ => .ok (.nx ρ) μ
  | x :: xs, ρ, μ => match bind x ρ with
    | none => .no
    | some ρ1 => match b ρ1 μ with
      | .ok (.nx ρ') μ2 => let t := tidy μ.length ρ' μ2; forD bind b xs t.1 t.2
      | .ok (.ct ρ') μ2 => let t := tidy μ.length ρ' μ2; forD bind b xs t.1 t.2
      | .ok (.bk ρ') μ2 => .ok (.nx ρ') μ2
      | r => r
mutual
def evS (P : Par) : S → Env → Mu → R Fl
  | .set i e, ρ, μ => (evE P e ρ μ).st ρ fun x μ1 => .ok (.nx (ρ.set i (some x))) μ1
  | .unp is e, ρ, μ => (evE P e ρ μ).st ρ fun x μ1 => (match x with
    | .d x => (match bindTg (.tp is) x ρ with
      | some ρ' => .ok (.nx ρ') μ1
      | none => .no)
    | _ => .no)
  | .par i j a b, ρ, μ => (evE P a ρ μ).st ρ fun x μ1 => (evE P b ρ μ1).st ρ fun y μ2 => .ok (.nx ((ρ.set i (some x)).set j (some y))) μ2
  | .setI o i e, ρ, μ => (evE P e ρ μ).st ρ fun v μ1 => (evE P o ρ μ1).st ρ fun x μ2 => (evE P i ρ μ2).st ρ fun y μ3 => (setIX μ3 x y v).st ρ fun _ μ4 => .ok (.nx ρ) μ4
  | .setD o i e, ρ, μ => (evE P e ρ μ).st ρ fun v μ1 => (evE P o ρ μ1).st ρ fun x μ2 => (evE P i ρ μ2).st ρ fun y μ3 => (setDX μ3 x y v).st ρ fun _ μ4 => .ok (.nx ρ) μ4
  | .setF o f e, ρ, μ => (evE P e ρ μ).st ρ fun v μ1 => (evE P o ρ μ1).st ρ fun x μ2 => (match insOf μ2 x with
    | some c => if P.fldOk c f then (setFX μ2 x f v).st ρ fun _ μ3 => .ok (.nx ρ) μ3 else .no
    | none => .no)
  | .augN i sub e, ρ, μ => (match ρ[i]? with
    | some (some (.d (.int a))) => (evE P e ρ μ).st ρ fun x μ1 => (match x with
      | .d (.int b) => .ok (.nx (ρ.set i (some (.d (.int (if sub then a - b else a + b)))))) μ1
      | _ => .no)
    | _ => .no)
  | .ex e, ρ, μ => (evE P e ρ μ).st ρ fun _ μ1 => .ok (.nx ρ) μ1
  | .ite c t f, ρ, μ => (evT P c ρ μ).st ρ fun k μ1 => if k then evSs P t ρ μ1 else evSs P f ρ μ1
  | .for_ tg it b, ρ, μ => (evIt P it ρ μ).st ρ fun ds μ1 => forD (bindTg tg) (evSs P b) ds ρ μ1
  | .whl c b, ρ, μ => whileD (evT P c) (evSs P b) P.W ρ μ
  | .ret e, ρ, μ => (evE P e ρ μ).st ρ fun x μ1 => .ok (.rt x) μ1
  | .retN, _, μ => .ok (.rt (.d .non)) μ
  | .pass, ρ, μ => .ok (.nx ρ) μ
  | .brk, ρ, μ => .ok (.bk ρ) μ
  | .cnt, ρ, μ => .ok (.ct ρ) μ
  | .frz i, ρ, μ => (match ρ[i]? with
    | some (some x) => (match frzX μ x with
      | .ok y μ1 => .ok (.nx (ρ.set i (some y))) μ1
      | _ => .no)
    | _ => .no)
  | .rais c es, ρ, μ => (evEs P es ρ μ).st ρ fun xs μ1 => (match xs.mapM X.dOf with
    | some ds => (match P.exf c with
      | some fs => if ds.length = fs.length ∧ ds.length ≤ 800 then .ok (.ex ⟨c, (fs.zip ds).reverse⟩ ρ) μ1 else .no
      | none => .no)
    | none => .no)
  | .never, _, _ => .no
def evSs (P : Par) : Ss → Env → Mu → R Fl
  | .nil, ρ, μ => .ok (.nx ρ) μ
  | .cons s r, ρ, μ => match evS P s ρ μ with
    | .ok (.nx ρ1) μ1 => evSs P r ρ1 μ1
    | z => z
end
/-- a def: how many parameters, how many slots, its body -/
structure Fn where
  ar : Nat
  sl : Nat
  body : Ss
structure Tab where
  fns : List Fn
  glo : Nat → Option D
  methOf : Nat → Str → Option Nat
  propOf : Nat → Str → Option Nat
  fldOk : Nat → Str → Bool
  exf : Nat → Option (List Str)
  tell : Nat → Exn → Option D
def fin (n : Nat) : R Fl → R X
  | .ok (.rt x) μ => (match x with
    | .d y => .ok (.d y) (tidy n [] μ).2
    | .r k => .ok (.r k) μ)
  | .ok (.nx _) μ => .ok (.d .non) (tidy n [] μ).2
  | .ok (.ex e _) μ => .er e (tidy n [] μ).2
  | _ => .no
/-- a def's body -/
def bodyD (T : Tab) (W : Nat) (C C1 : CallF) : CallF := fun j xs μ => match T.fns[j]? with
  | none => .no
  | some f => if xs.length = f.ar then
      fin μ.length (evSs ⟨C, C1, W, T.glo, T.methOf, T.propOf, T.fldOk, T.exf, T.tell⟩ f.body (xs.map some ++ List.replicate (f.sl - f.ar) none) μ)
    else .no
def noC : CallF := fun _ _ _ => .no
/-- calls of a depth, and of one less -/
def callP (T : Tab) (W : Nat) : Nat → CallF × CallF
  | 0 => (noC, noC)
  | n + 1 => (bodyD T W (callP T W n).1 (callP T W n).2, (callP T W n).1)
def callD (T : Tab) (W n : Nat) : CallF := (callP T W n).1
def callE (T : Tab) (W n : Nat) : CallF := (callP T W n).2
abbrev parOf (T : Tab) (W n : Nat) : Par := ⟨callD T W n, callE T W n, W, T.glo, T.methOf, T.propOf, T.fldOk, T.exf, T.tell⟩
theorem callE_succ (T : Tab) (W n : Nat) : callE T W (n + 1) = callD T W n := rfl
theorem callD_succ (T : Tab) (W n : Nat) : callD T W (n + 1) = bodyD T W (callD T W n) (callE T W n) := rfl
end DL
/-! DL1: what values stand for, the relation of states, expressions. -/
namespace DL
open PySem PySem.Spec PyProof.Rows L2
/-- the setting -/
structure G where
  P : Program
  w : World
  K : PySem.W.Frag
  mg : Str → Option Value
  base : Heap
  cA : Nat → Addr
  fA : Nat → Addr
  nC : Nat
  /-- the own exceptions' classes; the tables of the defs' code objects -/
  xA : Nat → Addr
  T : List (Addr × Str)
/-! ### what a value stands for -/
inductive DKey : Key → DK → Prop
  | i (n : Int) : DKey (.inl n) (.i n)
  | s (x : Str) : DKey (.inr x) (.s x)
/-- a list, a tuple of the written part -/
def WrL (K : PySem.W.Frag) (a : Addr) (vs : List V) : Prop := ∀ H, SqL K H a vs
def WrT (K : PySem.W.Frag) (a : Addr) (vs : List V) : Prop := ∀ H, SqT K H a vs
mutual
/-- a constant of the written part -/
inductive CDen (K : PySem.W.Frag) : V → D → Prop
  | non : CDen K .non .non
  | bl (b : Bool) : CDen K (.bl b) (.bl b)
  | int (i : Int) : CDen K (.int i) (.int i)
  | str (x : Str) : CDen K (.str x) (.str x)
  | kls {a : Addr} {vs : List V} {ds : List D} : WrL K a vs → CDens K vs ds → CDen K (.ref a) (.kls ds)
  | tup {a : Addr} {vs : List V} {ds : List D} : WrT K a vs → CDens K vs ds → CDen K (.ref a) (.tup ds)
inductive CDens (K : PySem.W.Frag) : List V → List D → Prop
  | nil : CDens K [] []
  | cons {v : V} {vs : List V} {d : D} {ds : List D} : CDen K v d → CDens K vs ds → CDens K (v :: vs) (d :: ds)
end
/-- a written dict with text keys -/
def KVal (K : PySem.W.Frag) : Option D → Option Value → Prop
  | some d, some u => ∃ v, RelV v u ∧ CDen K v d
  | none, none => True
  | _, _ => False
def KDicR (K : PySem.W.Frag) (w : World) (a : Addr) (kvs : List (Str × D)) : Prop := ∃ es n, KDict K w a es n ∧ ∀ z : Str, ∃ r, PySem.W.nsIn K a z = some r ∧ KVal K (kvs.lookup z) r
section
variable (g : G) (H : Hp)
mutual
inductive Den : V → D → Prop
  | non : Den .non .non
  | bl (b : Bool) : Den (.bl b) (.bl b)
  | int (i : Int) : Den (.int i) (.int i)
  | str (x : Str) : Den (.str x) (.str x)
  | lst {a : Addr} {vs : List V} {ds : List D} : H a = some (.lst vs) → Dens vs ds → Den (.ref a) (.lst ds)
  | kls {a : Addr} {vs : List V} {ds : List D} : SqL g.K H a vs → Dens vs ds → Den (.ref a) (.kls ds)
  | tup {a : Addr} {vs : List V} {ds : List D} : SqT g.K H a vs → Dens vs ds → Den (.ref a) (.tup ds)
  | dic {a : Addr} {ks : List (Key × V)} {kvs : List (DK × D)} : H a = some (.dK ks) → Denk ks kvs → Den (.ref a) (.dic kvs)
  | kdic {a : Addr} {kvs : List (Str × D)} : KDicR g.K g.w a kvs → Den (.ref a) (.kdic kvs)
  | ins {a dx : Addr} {c : Nat} {vf : List (Str × V)} {fs : List (Str × D)} : c < g.nC → H a = some (.ins (g.cA c) dx vf) → Denf vf fs → Den (.ref a) (.ins c fs)
  | fn (j : Nat) : Den (.ref (g.fA j)) (.fn j)
  | cls (c : Nat) : Den (.ref (g.cA c)) (.cls c)
inductive Dens : List V → List D → Prop
  | nil : Dens [] []
  | cons {v : V} {vs : List V} {d : D} {ds : List D} : Den v d → Dens vs ds → Dens (v :: vs) (d :: ds)
inductive Denf : List (Str × V) → List (Str × D) → Prop
  | nil : Denf [] []
  | cons {f : Str} {v : V} {vs : List (Str × V)} {d : D} {ds : List (Str × D)} : Den v d → Denf vs ds → Denf ((f, v) :: vs) ((f, d) :: ds)
inductive Denk : List (Key × V) → List (DK × D) → Prop
  | nil : Denk [] []
  | cons {k : Key} {q : DK} {v : V} {vs : List (Key × V)} {d : D} {ds : List (DK × D)} : DKey k q → Den v d → Denk vs ds → Denk ((k, v) :: vs) ((q, d) :: ds)
end
end
def Ex (H H' : Hp) : Prop := ∀ a o, H a = some o → H' a = some o
theorem Ex.refl (H : Hp) : Ex H H := fun _ _ h => h
theorem Ex.trans {H H1 H2 : Hp} (a : Ex H H1) (b : Ex H1 H2) : Ex H H2 := fun x o h => b x o (a x o h)
theorem Ex.new {H : Hp} {p : Addr} {o : HO} (h : H p = none) : Ex H (upd H p o) := fun a u e => by
  rw [upd_ne (ne_of_none e h)]
  exact e
theorem ex_rd {H H' : Hp} {a : Addr} {u : HO} (e : Ex H H') (h : Rd H a u) : Rd H' a u := by
  rcases h with h | ⟨o, h⟩
  · exact Or.inl (e a _ h)
  · exact Or.inr ⟨o, e a _ h⟩
theorem ex_l {K : PySem.W.Frag} {H H' : Hp} {a : Addr} {xs : List V} (e : Ex H H') (h : SqL K H a xs) : SqL K H' a xs := by
  rcases h with h | h
  · exact Or.inl (ex_rd e h)
  · exact Or.inr h
theorem ex_t {K : PySem.W.Frag} {H H' : Hp} {a : Addr} {xs : List V} (e : Ex H H') (h : SqT K H a xs) : SqT K H' a xs := by
  rcases h with h | h
  · exact Or.inl (ex_rd e h)
  · exact Or.inr h
section
variable {g : G} {H H' : Hp}
mutual
theorem Den.mono (e : Ex H H') : ∀ {v : V} {d : D}, Den g H v d → Den g H' v d
  | _, _, .non => .non
  | _, _, .bl b => .bl b
  | _, _, .int i => .int i
  | _, _, .str x => .str x
  | _, _, .lst h hs => .lst (e _ _ h) (Dens.mono e hs)
  | _, _, .kls h hs => .kls (ex_l e h) (Dens.mono e hs)
  | _, _, .tup h hs => .tup (ex_t e h) (Dens.mono e hs)
  | _, _, .dic h hs => .dic (e _ _ h) (Denk.mono e hs)
  | _, _, .kdic h => .kdic h
  | _, _, .ins hc h hs => .ins hc (e _ _ h) (Denf.mono e hs)
  | _, _, .fn j => .fn j
  | _, _, .cls c => .cls c
theorem Dens.mono (e : Ex H H') : ∀ {vs : List V} {ds : List D}, Dens g H vs ds → Dens g H' vs ds
  | _, _, .nil => .nil
  | _, _, .cons h hs => .cons (Den.mono e h) (Dens.mono e hs)
theorem Denf.mono (e : Ex H H') : ∀ {vs : List (Str × V)} {ds : List (Str × D)}, Denf g H vs ds → Denf g H' vs ds
  | _, _, .nil => .nil
  | _, _, .cons h hs => .cons (Den.mono e h) (Denf.mono e hs)
theorem Denk.mono (e : Ex H H') : ∀ {vs : List (Key × V)} {ds : List (DK × D)}, Denk g H vs ds → Denk g H' vs ds
  | _, _, .nil => .nil
  | _, _, .cons k h hs => .cons k (Den.mono e h) (Denk.mono e hs)
end
theorem Dens.length : ∀ {vs : List V} {ds : List D}, Dens g H vs ds → vs.length = ds.length
  | _, _, .nil => rfl
  | _, _, .cons _ hs => congrArg (· + 1) hs.length
theorem Dens.get : ∀ {vs : List V} {ds : List D} {i : Nat} {d : D}, Dens g H vs ds → ds[i]? = some d → ∃ v, vs[i]? = some v ∧ Den g H v d
  | _, _, i, d, .nil, e => by simp at e
  | _, _, 0, d, .cons h _, e => by
    simp at e
    subst e
    exact ⟨_, rfl, h⟩
  | _, _, i + 1, d, .cons _ hs, e => by
    obtain ⟨v, h1, h2⟩ := Dens.get (i := i) hs (by simpa using e)
    exact ⟨v, by simpa using h1, h2⟩
theorem Dens.get' : ∀ {vs : List V} {ds : List D} {i : Nat} {v : V}, Dens g H vs ds → vs[i]? = some v → ∃ d, ds[i]? = some d ∧ Den g H v d
  | _, _, i, d, .nil, e => by simp at e
  | _, _, 0, d, .cons h _, e => by
    simp at e
    subst e
    exact ⟨_, rfl, h⟩
  | _, _, i + 1, d, .cons _ hs, e => by
    obtain ⟨v, h1, h2⟩ := Dens.get' (i := i) hs (by simpa using e)
    exact ⟨v, by simpa using h1, h2⟩
theorem Dens.append : ∀ {vs ws : List V} {ds es : List D}, Dens g H vs ds → Dens g H ws es → Dens g H (vs ++ ws) (ds ++ es)
  | _, _, _, _, .nil, h => h
  | _, _, _, _, .cons h hs, h2 => .cons h (hs.append h2)
theorem Dens.set {x : V} {d : D} (r : Den g H x d) : ∀ {vs : List V} {ds : List D} (i : Nat), Dens g H vs ds → Dens g H (vs.set i x) (ds.set i d)
  | _, _, _, .nil => .nil
  | _, _, 0, .cons _ t => .cons r t
  | _, _, i + 1, .cons q t => .cons q (Dens.set r i t)
theorem Denf.look : ∀ {vs : List (Str × V)} {ds : List (Str × D)} {f : Str} {d : D}, Denf g H vs ds → ds.lookup f = some d → ∃ v, vs.lookup f = some v ∧ Den g H v d
  | _, _, f, d, .nil, e => by cases e
  | _, _, f, d, .cons (f := f') h hs, e => by
    rw [List.lookup_cons] at e
    rw [List.lookup_cons]
    cases q : (f == f') with
    | true =>
      rw [q] at e
      cases e
      exact ⟨_, rfl, h⟩
    | false =>
      rw [q] at e
      exact hs.look e
theorem Denf.none : ∀ {vs : List (Str × V)} {ds : List (Str × D)} {f : Str}, Denf g H vs ds → ds.lookup f = none → vs.lookup f = none
  | _, _, f, .nil, e => rfl
  | _, _, f, .cons (f := f') h hs, e => by
    rw [List.lookup_cons] at e
    rw [List.lookup_cons]
    cases q : (f == f') with
    | true =>
      rw [q] at e
      cases e
    | false =>
      rw [q] at e
      exact hs.none e
end
/-! ### places -/
def XDen (g : G) (H : Hp) (ι : List Addr) (v : V) : X → Prop
  | .d x => Den g H v x
  | .r k => ∃ a, ι[k]? = some a ∧ v = .ref a
inductive XDens (g : G) (H : Hp) (ι : List Addr) : List V → List X → Prop
  | nil : XDens g H ι [] []
  | cons {v : V} {vs : List V} {x : X} {xs : List X} : XDen g H ι v x → XDens g H ι vs xs → XDens g H ι (v :: vs) (x :: xs)
inductive XDenf (g : G) (H : Hp) (ι : List Addr) : List (Str × V) → List (Str × X) → Prop
  | nil : XDenf g H ι [] []
  | cons {f : Str} {v : V} {vs : List (Str × V)} {x : X} {xs : List (Str × X)} : XDen g H ι v x → XDenf g H ι vs xs → XDenf g H ι ((f, v) :: vs) ((f, x) :: xs)
section
variable {g : G} {H H' : Hp} {ι ι' : List Addr}
theorem XDen.mono (e : Ex H H') (p : ∃ m, ι' = ι ++ m) {v : V} : ∀ {x : X}, XDen g H ι v x → XDen g H' ι' v x
  | .d x, h => Den.mono e h
  | .r k, ⟨a, h, q⟩ => by
    obtain ⟨m, rfl⟩ := p
    exact ⟨a, by rw [List.getElem?_append_left (List.getElem?_eq_some_iff.mp h).1]; exact h, q⟩
theorem XDens.mono (e : Ex H H') (p : ∃ m, ι' = ι ++ m) : ∀ {vs : List V} {xs : List X}, XDens g H ι vs xs → XDens g H' ι' vs xs
  | _, _, .nil => .nil
  | _, _, .cons h hs => .cons (XDen.mono e p h) (XDens.mono e p hs)
theorem XDenf.mono (e : Ex H H') (p : ∃ m, ι' = ι ++ m) : ∀ {vs : List (Str × V)} {xs : List (Str × X)}, XDenf g H ι vs xs → XDenf g H' ι' vs xs
  | _, _, .nil => .nil
  | _, _, .cons h hs => .cons (XDen.mono e p h) (XDenf.mono e p hs)
theorem XDens.length : ∀ {vs : List V} {ds : List X}, XDens g H ι vs ds → vs.length = ds.length
  | _, _, .nil => rfl
  | _, _, .cons _ hs => congrArg (· + 1) hs.length
theorem XDens.toD : ∀ {vs : List V} {xs : List X} {ds : List D}, XDens g H ι vs xs → xs.mapM X.dOf = some ds → Dens g H vs ds
  | _, _, ds, .nil, e => by
    cases e
    exact .nil
  | _, _, ds, .cons (x := x) (xs := xs) h hs, e => by
    rw [List.mapM_cons] at e
    cases x with
    | r k => cases e
    | d x =>
      cases q : xs.mapM X.dOf with
      | none =>
        rw [q] at e
        cases e
      | some r =>
        rw [q] at e
        cases e
        exact .cons h (hs.toD q)
theorem XDenf.look : ∀ {vs : List (Str × V)} {ds : List (Str × X)} {f : Str} {d : X}, XDenf g H ι vs ds → ds.lookup f = some d → ∃ v, vs.lookup f = some v ∧ XDen g H ι v d
  | _, _, f, d, .nil, e => by cases e
  | _, _, f, d, .cons (f := f') h hs, e => by
    rw [List.lookup_cons] at e
    rw [List.lookup_cons]
    cases q : (f == f') with
    | true =>
      rw [q] at e
      cases e
      exact ⟨_, rfl, h⟩
    | false =>
      rw [q] at e
      exact hs.look e
end
theorem XDenf.none {g : G} {H : Hp} {ι : List Addr} : ∀ {vs : List (Str × V)} {ds : List (Str × X)} {f : Str}, XDenf g H ι vs ds → ds.lookup f = none → vs.lookup f = none
  | _, _, f, .nil, e => rfl
  | _, _, f, .cons (f := f') h hs, e => by
    rw [List.lookup_cons] at e
    rw [List.lookup_cons]
    cases q : (f == f') with
    | true =>
      rw [q] at e
      cases e
    | false =>
      rw [q] at e
      exact hs.none e
/-- what stands in a cell -/
def CellRel (g : G) (H0 : Hp) (ι : List Addr) (H : Hp) (a : Addr) : Node → Prop
  | .lst xs => ∃ vs, H a = some (.lst vs) ∧ Dens g H0 vs xs
  | .dic kvs => ∃ ks, H a = some (.dK ks) ∧ Denk g H0 ks kvs
  | .ins c fs => c < g.nC ∧ ∃ dx vf, H a = some (.ins (g.cA c) dx vf) ∧ XDenf g H0 ι vf fs
theorem CellRel.mono {g : G} {H0 H0' H H' : Hp} {ι ι' : List Addr} {a : Addr} {nd : Node} (e : Ex H0 H0') (p : ∃ m, ι' = ι ++ m) (k : ∀ o, H a = some o → H' a = some o) (h : CellRel g H0 ι H a nd) : CellRel g H0' ι' H' a nd := by
  cases nd with
  | lst xs =>
    obtain ⟨vs, h5, h6⟩ := h
    exact ⟨vs, k _ h5, h6.mono e⟩
  | dic kvs =>
    obtain ⟨vs, h5, h6⟩ := h
    exact ⟨vs, k _ h5, h6.mono e⟩
  | ins c fs =>
    obtain ⟨hc, dx, vf, h5, h6⟩ := h
    exact ⟨hc, dx, vf, k _ h5, h6.mono e p⟩
theorem CellRel.some {g : G} {H0 H : Hp} {ι : List Addr} {a : Addr} {nd : Node} (h : CellRel g H0 ι H a nd) : ∃ o, H a = some o := by
  cases nd with
  | lst xs => exact ⟨_, h.choose_spec.1⟩
  | dic kvs => exact ⟨_, h.choose_spec.1⟩
  | ins c fs => obtain ⟨_, dx, vf, h5, h6⟩ := h; exact ⟨_, h5⟩
structure Rel (g : G) (H0 H : Hp) (σ : L2.St) (ρ : Env) (μ : Mu) (ι : List Addr) : Prop where
  ex : Ex H0 H
  slot : ∀ (i : Nat) (x : X), ρ[i]? = some (some x) → ∃ v, σ[i]? = some (some v) ∧ XDen g H0 ι v x
  sl : ρ.length ≤ σ.length
  len : ι.length = μ.length
  inj : ι.Nodup
  tr : ∀ a ∈ ι, H a ≠ none
  cell : ∀ (k : Nat) (nd : Node) (a : Addr), μ[k]? = some (some nd) → ι[k]? = some a → H0 a = none ∧ CellRel g H0 ι H a nd
  tb : LamX.Tabs g.T H
  t0 : ∀ p ∈ g.T, H0 p.1 = none ∧ p.1 ∉ ι
/-- neither a table nor told by itself -/
def NT (o : HO) : Prop := (∀ ps, o ≠ .tbl ps) ∧ ∀ φ, o ≠ .ext φ
theorem nt_lst {xs : List V} : NT (.lst xs) := ⟨fun ps z => (by cases z), fun φ z => (by cases z)⟩
theorem nt_dK {ks : List (Key × V)} : NT (.dK ks) := ⟨fun ps z => (by cases z), fun φ z => (by cases z)⟩
theorem nt_ins {c dx : Addr} {fs : List (Str × V)} : NT (.ins c dx fs) := ⟨fun ps z => (by cases z), fun φ z => (by cases z)⟩
theorem tabs_put {T : List (Addr × Str)} {H : Hp} {a : Addr} {o : HO} (t : LamX.Tabs T H) (h : ∀ u, H a = some u → NT u) : LamX.Tabs T (upd H a o) := fun p hp => by
  obtain ⟨ps, h1, h2, h3⟩ := t p hp
  have n1 : p.1 ≠ a := fun z => (h _ (by rw [← z]; exact h1)).1 ps rfl
  refine ⟨ps, by rw [upd_ne n1]; exact h1, h2, fun pos cv e => ?_⟩
  obtain ⟨c, e1, e2⟩ := h3 pos cv e
  have n2 : c ≠ a := fun z => (h _ (by rw [← z]; exact e2)).2 _ rfl
  exact ⟨c, e1, by rw [upd_ne n2]; exact e2⟩
theorem tabs_new {T : List (Addr × Str)} {H : Hp} {a : Addr} {o : HO} (t : LamX.Tabs T H) (h : H a = none) : LamX.Tabs T (upd H a o) := tabs_put t fun u e => by
  rw [h] at e
  cases e
theorem tabs_ne {T : List (Addr × Str)} {H : Hp} {a : Addr} {p : Addr × Str} (t : LamX.Tabs T H) (hp : p ∈ T) (h : ∀ u, H a = some u → NT u) : p.1 ≠ a := fun z => by
  obtain ⟨ps, h1, h2, h3⟩ := t p hp
  exact (h _ (by rw [← z]; exact h1)).1 ps rfl
theorem cell_nt {g : G} {H0 H : Hp} {ι : List Addr} {a : Addr} {nd : Node} (h : CellRel g H0 ι H a nd) : ∀ u, H a = some u → NT u := fun u e => by
  cases nd with
  | lst xs =>
    obtain ⟨vs, h5, h6⟩ := h
    rw [h5] at e
    cases e
    exact nt_lst
  | dic kvs =>
    obtain ⟨vs, h5, h6⟩ := h
    rw [h5] at e
    cases e
    exact nt_dK
  | ins c fs =>
    obtain ⟨hc, dx, vf, h5, h6⟩ := h
    rw [h5] at e
    cases e
    exact nt_ins
/-- a step of a state -/
structure Stp (H0 H : Hp) (ι : List Addr) (H0' H' : Hp) (ι' : List Addr) : Prop where
  e0 : Ex H0 H0'
  pre : ∃ m, ι' = ι ++ m ∧ ∀ a ∈ m, H a = none
  fr : ∀ b o, H b = some o → b ∉ ι → (∀ ps, o ≠ .tbl ps) → H' b = some o
  nw : ∀ b o, H b = some o → H0 b = none → b ∉ ι → (∀ ps, o ≠ .tbl ps) → H0' b = none
  th : ∀ b, H' b = none → H b = none
section
variable {g : G} {H0 H H0' H' H0'' H'' : Hp} {ι ι' ι'' : List Addr} {σ σ' : L2.St} {ρ ρ' : Env} {μ μ' : Mu}
theorem Stp.refl : Stp H0 H ι H0 H ι := ⟨Ex.refl _, ⟨[], by simp, fun a h => by cases h⟩, fun _ _ h _ _ => h, fun _ _ _ h _ _ => h, fun _ h => h⟩
theorem Stp.p (s : Stp H0 H ι H0' H' ι') : ∃ m, ι' = ι ++ m := let ⟨m, e, _⟩ := s.pre; ⟨m, e⟩
theorem Stp.out (s : Stp H0 H ι H0' H' ι') {b : Addr} {o : HO} (h : H b = some o) (n : b ∉ ι) : b ∉ ι' := by
  obtain ⟨m, e, f⟩ := s.pre
  rw [e]
  intro z
  rcases List.mem_append.mp z with z | z
  · exact n z
  · rw [f b z] at h
    cases h
theorem Stp.trans (s : Stp H0 H ι H0' H' ι') (t : Stp H0' H' ι' H0'' H'' ι'') : Stp H0 H ι H0'' H'' ι'' := by
  obtain ⟨m, e, f⟩ := s.pre
  obtain ⟨m', e', f'⟩ := t.pre
  refine ⟨s.e0.trans t.e0, ⟨m ++ m', by rw [e', e, List.append_assoc], fun a ha => ?_⟩, fun b o h n q => t.fr b o (s.fr b o h n q) (s.out h n) q, fun b o h h0 n q => t.nw b o (s.fr b o h n q) (s.nw b o h h0 n q) (s.out h n) q, fun b h => s.th b (t.th b h)⟩
  rcases List.mem_append.mp ha with z | z
  · exact f a z
  · exact s.th a (f' a z)
theorem XDen.stp (s : Stp H0 H ι H0' H' ι') {v : V} {x : X} (h : XDen g H0 ι v x) : XDen g H0' ι' v x := h.mono s.e0 s.p
/-- the slots' part -/
theorem Rel.slots (r : Rel g H0 H σ ρ μ ι) (hl : ρ'.length ≤ σ'.length) (h : ∀ (i : Nat) (x : X), ρ'[i]? = some (some x) → ∃ v, σ'[i]? = some (some v) ∧ XDen g H0 ι v x) : Rel g H0 H σ' ρ' μ ι := ⟨r.ex, h, hl, r.len, r.inj, r.tr, r.cell, r.tb, r.t0⟩
theorem Rel.bare (r : Rel g H0 H σ ρ μ ι) : Rel g H0 H [] [] μ ι := r.slots (Nat.le_refl _) fun i x e => by simp at e
theorem Rel.noSlots (r : Rel g H0 H σ ρ μ ι) : Rel g H0 H σ [] μ ι := r.slots (Nat.zero_le _) fun i x e => by simp at e
theorem Rel.setSlot (r : Rel g H0 H σ ρ μ ι) {i : Nat} {v : V} {x : X} (h : XDen g H0 ι v x) : Rel g H0 H (σ.set i (some v)) (ρ.set i (some x)) μ ι := r.slots (by rw [List.length_set, List.length_set]; exact r.sl) fun j y e => by
  by_cases hj : j = i
  · subst hj
    have hl : j < ρ.length := by
      have := (List.getElem?_eq_some_iff.mp e).1
      rw [List.length_set] at this
      exact this
    rw [List.getElem?_set_self hl] at e
    have e' : x = y := by simpa using e
    subst e'
    exact ⟨v, List.getElem?_set_self (Nat.lt_of_lt_of_le hl r.sl), h⟩
  · rw [List.getElem?_set_ne (Ne.symm hj)] at e
    rw [List.getElem?_set_ne (Ne.symm hj)]
    exact r.slot j y e
theorem Rel.free (r : Rel g H0 H σ ρ μ ι) {p : Addr} (hp : H p = none) : H0 p = none := by
  cases q : H0 p with
  | none => rfl
  | some u =>
    rw [r.ex p u q] at hp
    cases hp
theorem Rel.notIn (r : Rel g H0 H σ ρ μ ι) {p : Addr} (hp : H p = none) : p ∉ ι := fun z => r.tr p z hp
/-- a new object that is a value -/
theorem Rel.value (r : Rel g H0 H σ ρ μ ι) {p : Addr} {o : HO} (hp : H p = none) : Rel g (upd H0 p o) (upd H p o) σ ρ μ ι ∧ Stp H0 H ι (upd H0 p o) (upd H p o) ι := by
  have h0 := r.free hp
  have e0 : Ex H0 (upd H0 p o) := Ex.new h0
  have i0 : ∃ m, ι = ι ++ m := ⟨[], by simp⟩
  refine ⟨⟨fun b u h => ?_, fun i x e => ?_, r.sl, r.len, r.inj, fun a ha h => ?_, fun k nd a h1 h2 => ?_, tabs_new r.tb hp, fun q hq => ⟨by rw [upd_ne (tabs_ne r.tb hq fun u e => by rw [hp] at e; cases e)]; exact (r.t0 q hq).1, (r.t0 q hq).2⟩⟩, e0, ⟨[], by simp, fun a h => by cases h⟩, fun b u h _ _ => Ex.new hp b u h, fun b u h h0' n _ => ?_, fun b h => ?_⟩
  · by_cases hb : b = p
    · subst hb
      rw [upd_same] at h ⊢
      exact h
    · rw [upd_ne hb] at h ⊢
      exact r.ex b u h
  · obtain ⟨v, h1, h2⟩ := r.slot i x e
    exact ⟨v, h1, h2.mono e0 i0⟩
  · have ne : a ≠ p := fun z => r.tr a ha (by rw [z]; exact hp)
    rw [upd_ne ne] at h
    exact r.tr a ha h
  · obtain ⟨h3, h4⟩ := r.cell k nd a h1 h2
    obtain ⟨o', h5⟩ := h4.some
    have ne := ne_of_none h5 hp
    exact ⟨by rw [upd_ne ne]; exact h3, h4.mono e0 i0 fun o q => by rw [upd_ne ne]; exact q⟩
  · rw [upd_ne (ne_of_none h hp)]
    exact h0'
  · by_cases hb : b = p
    · rw [hb]; exact hp
    · rw [upd_ne hb] at h
      exact h
/-- a new object that is a cell -/
theorem Rel.newCell (r : Rel g H0 H σ ρ μ ι) {p : Addr} {o : HO} {nd : Node} (hp : H p = none) (hn : CellRel g H0 (ι ++ [p]) (upd H p o) p nd) :
    Rel g H0 (upd H p o) σ ρ (μ ++ [some nd]) (ι ++ [p]) ∧ Stp H0 H ι H0 (upd H p o) (ι ++ [p]) := by
  have h0 := r.free hp
  have pm : ∃ m, ι ++ [p] = ι ++ m := ⟨[p], rfl⟩
  refine ⟨⟨fun b u h => ?_, fun i x e => ?_, r.sl, by simp [r.len], ?_, fun a ha h => ?_, fun k nd' a h1 h2 => ?_, tabs_new r.tb hp, fun q hq => ⟨(r.t0 q hq).1, fun z => (List.mem_append.mp z).elim (r.t0 q hq).2 fun z => tabs_ne r.tb hq (fun u e => by rw [hp] at e; cases e) (List.mem_singleton.mp z)⟩⟩, Ex.refl _, ⟨[p], rfl, fun a h => by rw [List.mem_singleton.mp h]; exact hp⟩, fun b u h _ _ => Ex.new hp b u h, fun b u h h0' n _ => h0', fun b h => ?_⟩
  · exact Ex.new hp b u (r.ex b u h)
  · obtain ⟨v, h1, h2⟩ := r.slot i x e
    exact ⟨v, h1, h2.mono (Ex.refl _) pm⟩
  · rw [List.nodup_append]
    refine ⟨r.inj, by simp, fun a ha b hb => ?_⟩
    rw [List.mem_singleton.mp hb]
    rintro rfl
    exact r.notIn hp ha
  · rcases List.mem_append.mp ha with z | z
    · have ne : a ≠ p := fun q => r.tr a z (by rw [q]; exact hp)
      rw [upd_ne ne] at h
      exact r.tr a z h
    · rw [List.mem_singleton.mp z, upd_same] at h
      cases h
  · by_cases hk : k < μ.length
    · rw [List.getElem?_append_left hk] at h1
      rw [List.getElem?_append_left (by rw [r.len]; exact hk)] at h2
      obtain ⟨h3, h4⟩ := r.cell k nd' a h1 h2
      obtain ⟨o', h5⟩ := h4.some
      exact ⟨h3, h4.mono (Ex.refl _) pm fun o q => by rw [upd_ne (ne_of_none h5 hp)]; exact q⟩
    · have hk' : μ.length ≤ k := by omega
      rw [List.getElem?_append_right hk'] at h1
      rw [List.getElem?_append_right (by rw [r.len]; exact hk')] at h2
      have e : k - μ.length = 0 := by
        cases q : k - μ.length with
        | zero => rfl
        | succ n => rw [q] at h1; simp at h1
      rw [e] at h1
      rw [r.len, e] at h2
      simp at h1 h2
      subst h1 h2
      exact ⟨h0, hn⟩
  · by_cases hb : b = p
    · rw [hb]; exact hp
    · rw [upd_ne hb] at h
      exact h
theorem ix_inj {a : Addr} {j k : Nat} (n : ι.Nodup) (h1 : ι[j]? = some a) (h2 : ι[k]? = some a) : j = k := by
  obtain ⟨l1, e1⟩ := List.getElem?_eq_some_iff.mp h1
  obtain ⟨l2, e2⟩ := List.getElem?_eq_some_iff.mp h2
  exact (List.getElem_inj n).mp (e1.trans e2.symm)
/-- a cell is changed -/
theorem Rel.put (r : Rel g H0 H σ ρ μ ι) {k : Nat} {a : Addr} {o : HO} {nd nd' : Node} (hk : μ[k]? = some (some nd)) (ha : ι[k]? = some a) (hn : CellRel g H0 ι (upd H a o) a nd') :
    Rel g H0 (upd H a o) σ ρ (μ.set k (some nd')) ι ∧ Stp H0 H ι H0 (upd H a o) ι := by
  obtain ⟨h0, hc⟩ := r.cell k nd a hk ha
  obtain ⟨oa, hoa⟩ := hc.some
  have hkl := (List.getElem?_eq_some_iff.mp hk).1
  have ma : a ∈ ι := List.mem_of_getElem? ha
  have th : ∀ b, upd H a o b = none → H b = none := fun b h => by
    by_cases hb : b = a
    · rw [hb, upd_same] at h
      cases h
    · rw [upd_ne hb] at h
      exact h
  have i0 : ∃ m, ι = ι ++ m := ⟨[], by simp⟩
  refine ⟨⟨fun b u h => ?_, r.slot, r.sl, by simp [r.len], r.inj, fun b hb h => r.tr b hb (th b h), fun j nd2 b h1 h2 => ?_, tabs_put r.tb (cell_nt hc), r.t0⟩, Ex.refl _, ⟨[], by simp, fun a h => by cases h⟩, fun b u h n _ => ?_, fun b u h h0' n _ => h0', th⟩
  · have ne : b ≠ a := fun z => by
      rw [z, h0] at h
      cases h
    rw [upd_ne ne]
    exact r.ex b u h
  · by_cases hj : j = k
    · subst hj
      rw [List.getElem?_set_self hkl] at h1
      have e1 : nd' = nd2 := by simpa using h1
      rw [ha] at h2
      have e2 : a = b := by simpa using h2
      subst e1 e2
      exact ⟨h0, hn⟩
    · rw [List.getElem?_set_ne (Ne.symm hj)] at h1
      obtain ⟨h3, h4⟩ := r.cell j nd2 b h1 h2
      have ne : b ≠ a := fun z => hj (ix_inj r.inj (by rw [← z]; exact h2) ha)
      exact ⟨h3, h4.mono (Ex.refl _) i0 fun u q => by rw [upd_ne ne]; exact q⟩
  · have ne : b ≠ a := fun z => n (by rw [z]; exact ma)
    rw [upd_ne ne]
    exact h
/-- a cell becomes a value -/
theorem Rel.freeze (r : Rel g H0 H σ ρ μ ι) {k : Nat} {a : Addr} {o : HO} {nd : Node} (hk : μ[k]? = some (some nd)) (ha : ι[k]? = some a) (ho : H a = some o) :
    Rel g (upd H0 a o) H σ ρ (μ.set k none) ι ∧ Stp H0 H ι (upd H0 a o) H ι := by
  obtain ⟨h0, hc⟩ := r.cell k nd a hk ha
  have e0 : Ex H0 (upd H0 a o) := Ex.new h0
  have ma : a ∈ ι := List.mem_of_getElem? ha
  have i0 : ∃ m, ι = ι ++ m := ⟨[], by simp⟩
  refine ⟨⟨fun b u h => ?_, fun i x e => ?_, r.sl, by simp [r.len], r.inj, r.tr, fun j nd2 b h1 h2 => ?_, r.tb, fun q hq => ⟨by rw [upd_ne fun z => (r.t0 q hq).2 (by rw [z]; exact ma)]; exact (r.t0 q hq).1, (r.t0 q hq).2⟩⟩, e0, ⟨[], by simp, fun a h => by cases h⟩, fun b u h n _ => h, fun b u h h0' n _ => ?_, fun b h => h⟩
  · by_cases hb : b = a
    · subst hb
      rw [upd_same] at h
      rw [← h]
      exact ho
    · rw [upd_ne hb] at h
      exact r.ex b u h
  · obtain ⟨v, h1, h2⟩ := r.slot i x e
    exact ⟨v, h1, h2.mono e0 i0⟩
  · by_cases hj : j = k
    · subst hj
      rw [List.getElem?_set_self (List.getElem?_eq_some_iff.mp hk).1] at h1
      cases h1
    · rw [List.getElem?_set_ne (Ne.symm hj)] at h1
      obtain ⟨h3, h4⟩ := r.cell j nd2 b h1 h2
      have ne : b ≠ a := fun z => hj (ix_inj r.inj (by rw [← z]; exact h2) ha)
      exact ⟨by rw [upd_ne ne]; exact h3, h4.mono e0 i0 fun u q => q⟩
  · have ne : b ≠ a := fun z => n (by rw [z]; exact ma)
    rw [upd_ne ne]
    exact h0'
/-- fields that name no cell from n on -/
theorem XDenf.cut {n : Nat} : ∀ {vf : List (Str × V)} {fs : List (Str × X)}, XDenf g H0 ι vf fs → (fs.all fun p => match p.2 with | .d _ => true | .r k => decide (k < n)) = true → XDenf g H0 (ι.take n) vf fs
  | _, _, .nil, _ => .nil
  | _, _, .cons (x := x) h hs, e => by
    rw [List.all_cons, Bool.and_eq_true] at e
    refine .cons ?_ (hs.cut e.2)
    cases x with
    | d x => exact h
    | r k =>
      obtain ⟨a, h1, h2⟩ := h
      have hk : k < n := by simpa using e.1
      exact ⟨a, by rw [List.getElem?_take_of_lt hk]; exact h1, h2⟩
theorem belowAll_get {n : Nat} : ∀ {μ : Mu} {k : Nat} {nd : Node}, belowAll n μ = true → μ[k]? = some (some nd) → nd.below n = true
  | [], k, nd, _, e => by simp at e
  | o :: μ, 0, nd, h, e => by
    have e' : o = some nd := by simpa using e
    subst e'
    unfold belowAll at h
    exact (Bool.and_eq_true_iff.mp h).1
  | o :: μ, k + 1, nd, h, e => by
    unfold belowAll at h
    exact belowAll_get (Bool.and_eq_true_iff.mp h).2 (by simpa using e)
/-- cells are dropped -/
theorem Rel.drop (r : Rel g H0 H σ ρ μ ι) {n : Nat} (hb : belowAll n (μ.take n) = true) : Rel g H0 H σ (ρ.map (clr n)) (μ.take n) (ι.take n) := by
  refine ⟨r.ex, fun i x e => ?_, by rw [List.length_map]; exact r.sl, by simp [r.len], r.inj.sublist (List.take_sublist _ _), fun a ha => r.tr a (List.mem_of_mem_take ha), fun k nd a h1 h2 => ?_, r.tb, fun q hq => ⟨(r.t0 q hq).1, fun z => (r.t0 q hq).2 (List.mem_of_mem_take z)⟩⟩
  · rw [List.getElem?_map] at e
    cases q : ρ[i]? with
    | none => rw [q] at e; cases e
    | some o =>
      rw [q] at e
      have e' : clr n o = some x := by simpa using e
      cases o with
      | none => cases e'
      | some y =>
        obtain ⟨v, h1, h2⟩ := r.slot i y q
        cases y with
        | d y =>
          cases e'
          exact ⟨v, h1, h2⟩
        | r k =>
          unfold clr at e'
          by_cases hk : k < n
          · simp only [if_pos hk] at e'
            cases e'
            obtain ⟨a, h3, h4⟩ := h2
            exact ⟨v, h1, a, by rw [List.getElem?_take_of_lt hk]; exact h3, h4⟩
          · simp only [if_neg hk] at e'
            cases e'
  · have hk : k < n := by
      have := (List.getElem?_eq_some_iff.mp h1).1
      rw [List.length_take] at this
      omega
    have hbk := belowAll_get hb h1
    rw [List.getElem?_take_of_lt hk] at h1 h2
    obtain ⟨h3, h4⟩ := r.cell k nd a h1 h2
    refine ⟨h3, ?_⟩
    cases nd with
    | lst xs => exact h4
    | dic kvs => exact h4
    | ins c fs =>
      obtain ⟨hc, dx, vf, h5, h6⟩ := h4
      exact ⟨hc, dx, vf, h5, h6.cut hbk⟩
/-- .. where it can be done -/
theorem Rel.tidy (r : Rel g H0' H' σ ρ μ ι') (s : Stp H0 H ι H0' H' ι') {n : Nat} (hn : ι.length = n) : ∃ ι2, Rel g H0' H' σ (tidy n ρ μ).1 (tidy n ρ μ).2 ι2 ∧ Stp H0 H ι H0' H' ι2 ∧ (∃ m, ι' = ι2 ++ m) := by
  unfold DL.tidy
  by_cases hb : belowAll n (μ.take n) = true
  · rw [if_pos hb]
    obtain ⟨m, e, f⟩ := s.pre
    have e2 : ι'.take n = ι := by rw [e, ← hn, List.take_left]
    refine ⟨ι'.take n, r.drop hb, ?_, ⟨ι'.drop n, (List.take_append_drop n ι').symm⟩⟩
    rw [e2]
    exact ⟨s.e0, ⟨[], by simp, fun a h => by cases h⟩, s.fr, s.nw, s.th⟩
  · rw [if_neg hb]
    exact ⟨ι', r, s, ⟨[], by simp⟩⟩
end
end DL
/-! DL2: what an end is worth; expressions. -/
namespace DL
open PySem PySem.Spec PyProof.Rows L2
/-- an exception by the abstract heap -/
def EDen (g : G) (H0 H : Hp) (cls : Value) (d : Option Addr) (e : Exn) : Prop := cls = .ref (g.xA e.c) ∧ ∃ dd vf, d = some dd ∧ H dd = some (.xd vf) ∧ Denf g H0 vf e.fs
/-- an end, seen from a state: rel tells what the answer stands for -/
def Post (g : G) (W : WX) (σ : L2.St) (ρ : Env) {α β : Type} (rel : Hp → List Addr → β → α → Prop) (H0 H : Hp) (ι : List Addr) (r : R α) (Q : β → Hp → Prop) : Prop := match r with
  | .ok x μ' => ∀ v H0' H' ι', Stp H0 H ι H0' H' ι' → Rel g H0' H' σ ρ μ' ι' → rel H0' ι' v x → Q v H'
  | .er e μ' => ∀ cls d H0' H' ι', Stp H0 H ι H0' H' ι' → Rel g H0' H' σ ρ μ' ι' → EDen g H0' H' cls d e → W cls d σ H'
  | .no => False
def run (g : G) (W : WX) {α β : Type} (rel : Hp → List Addr → β → α → Prop) (ev : Env → Mu → R α) : L2.St → Hp → (β → Hp → Prop) → Prop := fun σ H Q =>
  ∃ H0 ρ μ ι, Rel g H0 H σ ρ μ ι ∧ Post g W σ ρ rel H0 H ι (ev ρ μ) Q
abbrev rX (g : G) : Hp → List Addr → V → X → Prop := fun H ι v x => XDen g H ι v x
abbrev rXs (g : G) : Hp → List Addr → List V → List X → Prop := fun H ι v x => XDens g H ι v x
abbrev rB : Hp → List Addr → Bool → Bool → Prop := fun _ _ v x => v = x
abbrev tE (g : G) (W : WX) (ev : Env → Mu → R X) : TE := run g W (rX g) ev
abbrev tT (g : G) (W : WX) (ev : Env → Mu → R Bool) : TT := run g W rB ev
abbrev tA (g : G) (W : WX) (ev : Env → Mu → R (List X)) : TA := run g W (rXs g) ev
section
variable {g : G} {W : WX} {σ : L2.St} {ρ : Env} {α β α' β' : Type} {rel : Hp → List Addr → β → α → Prop} {rel' : Hp → List Addr → β' → α' → Prop} {H0 H H0' H' : Hp} {ι ι' : List Addr} {μ μ' : Mu}
theorem Post.step (s : Stp H0 H ι H0' H' ι') {r : R α} {Q : β → Hp → Prop} (h : Post g W σ ρ rel H0 H ι r Q) : Post g W σ ρ rel H0' H' ι' r Q := by
  cases r with
  | ok x μ' => exact fun v A B C t => h v A B C (s.trans t)
  | er e μ' => exact fun c d A B C t => h c d A B C (s.trans t)
  | no => exact h
theorem Post.now {x : α} {v : β} {Q : β → Hp → Prop} (h : Post g W σ ρ rel H0 H ι (.ok x μ) Q) (r : Rel g H0 H σ ρ μ ι) (d : rel H0 ι v x) : Q v H := h v H0 H ι Stp.refl r d
theorem run_bind {ev : Env → Mu → R α} {k : α → Mu → R α'} {Q : β' → Hp → Prop} {S : β → Hp → Prop} (r : Rel g H0 H σ ρ μ ι) (h : Post g W σ ρ rel' H0 H ι ((ev ρ μ).bind k) Q)
    (hk : ∀ v x μ' H0' H' ι', Stp H0 H ι H0' H' ι' → Rel g H0' H' σ ρ μ' ι' → rel H0' ι' v x → Post g W σ ρ rel' H0' H' ι' (k x μ') Q → S v H') : run g W rel ev σ H S := by
  refine ⟨H0, ρ, μ, ι, r, ?_⟩
  cases e : ev ρ μ with
  | ok x μ' =>
    rw [e] at h
    exact fun v A B C s t d => hk v x μ' A B C s t d (Post.step s h)
  | er x μ' =>
    rw [e] at h
    exact h
  | no =>
    rw [e] at h
    exact h
theorem run_of {ev : Env → Mu → R α} {Q : β → Hp → Prop} (r : Rel g H0 H σ ρ μ ι) (h : Post g W σ ρ rel H0 H ι (ev ρ μ) Q) : run g W rel ev σ H Q := ⟨H0, ρ, μ, ι, r, h⟩
end
theorem PE_imp {X : Cx} {e : Expr} {t t' : TE} (h : PE X e t) (i : ∀ σ H Q, t' σ H Q → t σ H Q) : PE X e t' := ⟨fun pins s σ H Q I q => h.run pins s σ H Q I (i _ _ _ q)⟩
theorem PT_imp {X : Cx} {e : Expr} {t t' : TT} (h : PT X e t) (i : ∀ σ H Q, t' σ H Q → t σ H Q) : PT X e t' := ⟨fun pins s σ H Q I q => h.run pins s σ H Q I (i _ _ _ q)⟩
theorem PA_imp {X : Cx} {e : List Expr} {t t' : TA} (h : PA X e t) (i : ∀ σ H Q, t' σ H Q → t σ H Q) : PA X e t' := ⟨fun pos pins s σ H Q I q => h.run pos pins s σ H Q I (i _ _ _ q)⟩
theorem PW_imp {X : Cx} {e : Expr} {t t' : TT} (h : PW X e t) (i : ∀ σ H Q, t' σ H Q → t σ H Q) : PW X e t' := ⟨fun wh pins s σ H Q I q => h.run wh pins s σ H Q I (i _ _ _ q)⟩
/-! ### views -/
theorem view_r {μ : Mu} {k : Nat} {d : D} (e : view μ (.r k) = some d) : ∃ nd, μ[k]? = some (some nd) ∧ nd.toD = some d := by
  unfold view at e
  dsimp only at e
  split at e
  · rename_i n q
    exact ⟨n, q, e⟩
  · cases e
section
variable {g : G} {σ : L2.St} {ρ : Env} {H0 H : Hp} {ι : List Addr} {μ : Mu} {v : V} {x : X}
theorem Rel.den (r : Rel g H0 H σ ρ μ ι) (h : XDen g H0 ι v x) {d : D} (e : view μ x = some d) : Den g H v d := by
  cases x with
  | d y =>
    cases e
    exact Den.mono r.ex h
  | r k =>
    obtain ⟨a, h1, rfl⟩ := h
    obtain ⟨nd, q, e⟩ := view_r e
    obtain ⟨_, c⟩ := r.cell k nd a q h1
    cases nd with
    | lst xs =>
      cases e
      obtain ⟨vs, c1, c2⟩ := c
      exact .lst c1 (c2.mono r.ex)
    | dic kvs =>
      cases e
      obtain ⟨ks, c1, c2⟩ := c
      exact .dic c1 (c2.mono r.ex)
    | ins c fs => cases e
theorem Rel.viewL (r : Rel g H0 H σ ρ μ ι) (h : XDen g H0 ι v x) {ds : List D} (e : viewS μ x = some (.lst ds)) : ∃ a vs, v = .ref a ∧ SqL g.K H a vs ∧ Dens g H0 vs ds := by
  unfold viewS at e
  cases x with
  | d y =>
    have h : Den g H0 v y := h
    cases h with
    | lst h1 h2 =>
      cases e
      exact ⟨_, _, rfl, SqL.of (r.ex _ _ h1), h2⟩
    | kls h1 h2 =>
      cases e
      exact ⟨_, _, rfl, ex_l r.ex h1, h2⟩
    | _ => cases e
  | r k =>
    obtain ⟨a, h1, rfl⟩ := h
    obtain ⟨z, e1, e2⟩ := Option.map_eq_some_iff.mp e
    obtain ⟨nd, q, e3⟩ := view_r e1
    obtain ⟨_, c⟩ := r.cell k nd a q h1
    cases nd with
    | lst xs =>
      cases e3
      cases e2
      obtain ⟨vs, c1, c2⟩ := c
      exact ⟨a, vs, rfl, SqL.of c1, c2⟩
    | dic kvs =>
      cases e3
      cases e2
    | ins c fs => cases e3
theorem view_S {μ : Mu} {x : X} {d : D} (e : view μ x = some d) : viewS μ x = some (unk d) := by
  unfold viewS
  rw [e]
  rfl
theorem viewS_t {μ : Mu} {x : X} {ds : List D} (e : viewS μ x = some (.tup ds)) : view μ x = some (.tup ds) := by
  unfold viewS at e
  obtain ⟨z, e1, e2⟩ := Option.map_eq_some_iff.mp e
  cases z <;> first | (cases e2; exact e1) | cases e2
theorem viewS_d {μ : Mu} {x : X} {ds : List (DK × D)} (e : viewS μ x = some (.dic ds)) : view μ x = some (.dic ds) := by
  unfold viewS at e
  obtain ⟨z, e1, e2⟩ := Option.map_eq_some_iff.mp e
  cases z <;> first | (cases e2; exact e1) | cases e2
theorem Rel.viewT (r : Rel g H0 H σ ρ μ ι) (h : XDen g H0 ι v x) {ds : List D} (e : viewS μ x = some (.tup ds)) : ∃ a vs, v = .ref a ∧ SqT g.K H a vs ∧ Dens g H0 vs ds := by
  have e := viewS_t e
  cases x with
  | d y =>
    cases e
    cases h with
    | tup h1 h2 => exact ⟨_, _, rfl, ex_t r.ex h1, h2⟩
  | r k =>
    obtain ⟨nd, q, e⟩ := view_r e
    cases nd <;> cases e
theorem Rel.viewK (r : Rel g H0 H σ ρ μ ι) (h : XDen g H0 ι v x) {kvs : List (DK × D)} (e : viewS μ x = some (.dic kvs)) : ∃ a ks, v = .ref a ∧ H a = some (.dK ks) ∧ Denk g H0 ks kvs := by
  have e := viewS_d e
  cases x with
  | d y =>
    cases e
    cases h with
    | dic h1 h2 => exact ⟨_, _, rfl, r.ex _ _ h1, h2⟩
  | r k =>
    obtain ⟨a, h1, rfl⟩ := h
    obtain ⟨nd, q, e⟩ := view_r e
    obtain ⟨_, c⟩ := r.cell k nd a q h1
    cases nd with
    | lst xs => cases e
    | dic kvs =>
      cases e
      obtain ⟨vs, c1, c2⟩ := c
      exact ⟨a, vs, rfl, c1, c2⟩
    | ins c fs => cases e
end
mutual
theorem Den.dp {g : G} {H : Hp} : ∀ {v : V} {d : D} {p : PyData}, Den g H v d → toP d = some p → Dp g.K H v p
  | _, _, p, .non, e => by cases e; exact .non
  | _, _, p, .bl b, e => by cases e; exact .bl b
  | _, _, p, .int i, e => by cases e; exact .int i
  | _, _, p, .str x, e => by cases e; exact .str x
  | _, _, p, .lst (ds := ds) h hs, e => by
    unfold toP at e
    cases q : toPs ds with
    | none => rw [q] at e; cases e
    | some ps =>
      rw [q] at e
      cases e
      exact .lst (SqL.of h) (Dens.dp hs q)
  | _, _, p, .kls (ds := ds) h hs, e => by
    unfold toP at e
    cases q : toPs ds with
    | none => rw [q] at e; cases e
    | some ps =>
      rw [q] at e
      cases e
      exact .lst h (Dens.dp hs q)
  | _, _, p, .tup (ds := ds) h hs, e => by
    unfold toP at e
    cases q : toPs ds with
    | none => rw [q] at e; cases e
    | some ps =>
      rw [q] at e
      cases e
      exact .tup h (Dens.dp hs q)
  | _, _, p, .dic h hs, e => by unfold toP at e; cases e
  | _, _, p, .kdic h, e => by unfold toP at e; cases e
  | _, _, p, .ins _ h hs, e => by unfold toP at e; cases e
  | _, _, p, .fn j, e => by unfold toP at e; cases e
  | _, _, p, .cls j, e => by unfold toP at e; cases e
theorem Dens.dp {g : G} {H : Hp} : ∀ {vs : List V} {ds : List D} {ps : List PyData}, Dens g H vs ds → toPs ds = some ps → DpAll g.K H vs ps
  | _, _, ps, .nil, e => by
    unfold toPs at e
    cases e
    exact .nil
  | _, _, ps, .cons (d := d) (ds := ds) h hs, e => by
    unfold toPs at e
    cases q1 : toP d with
    | none => rw [q1] at e; cases e
    | some p =>
      cases q2 : toPs ds with
      | none => rw [q1, q2] at e; cases e
      | some qs =>
        rw [q1, q2] at e
        cases e
        exact .cons (Den.dp h q1) (Dens.dp hs q2)
end
/-! ### where one stands -/
/-- a scope with names of its own: a def's -/
def ownSc (sc : Scope) : Bool := sc.names.any fun y => decide (y.2 = .local) || decide (y.2 = .cell)
/-- what a lambda that is made here needs -/
def LamAt (g : G) (env : PySem.Env) : Prop := ∃ cc P, env.code = .ref cc ∧ LamX.TabB g.base g.mg cc P ∧ (P, env.qual ++ "<lambda>") ∈ g.T ∧ ∀ p ∈ g.T, p.1 = P → p.2 = env.qual ++ "<lambda>"
structure Ok (g : G) (X : Cx) (W : WX) (Nm : List Str) (sc : Scope) (k : Nat) : Prop where
  P : X.prog = g.P
  w : X.w = g.w
  K : X.K = g.K
  mg : X.mg = g.mg
  base : X.base = g.base
  N : X.N = Nm
  nd : Nm.Nodup
  sc : X.env.scope = sc
  calm : X.calm = true
  room : Room (k + 1) X.A
  takes : L2N.Takes X W
  lam : ownSc X.env.scope = true → Room (k + 3) X.A ∧ LamAt g X.env
end DL


/-! DL3: expressions. -/
namespace DL
open PySem PySem.Spec PyProof.Rows L2
section
variable {g : G} {X : Cx} {W : WX} {P : Par} {pos : Pos}
abbrev SE (g : G) (W : WX) (X : Cx) (e : Expr) (ev : Env → Mu → R DL.X) : Prop := PE X e (tE g W ev)
abbrev ST (g : G) (W : WX) (X : Cx) (e : Expr) (ev : Env → Mu → R Bool) : Prop := PT X e (tT g W ev)
abbrev SA (g : G) (W : WX) (X : Cx) (e : List Expr) (ev : Env → Mu → R (List DL.X)) : Prop := PA X e (tA g W ev)
/-! ### calls of the text's defs -/
def WC (E : XK) : WX := fun c d _ H => E c d H
def spF (g : G) (C : CallF) (j : Nat) : Sp := fun vs H Q E => ∃ H0 μ ι xs, Rel g H0 H [] [] μ ι ∧ XDens g H0 ι vs xs ∧ Post g (WC E) [] [] (rX g) H0 H ι (C j xs μ) Q
theorem Rel.unbare {σ σ' : L2.St} {ρ : Env} {H0 H H0' H' : Hp} {ι ι' : List Addr} {μ μ' : Mu} {ρ' : Env} (r : Rel g H0 H σ ρ μ ι) (s : Stp H0 H ι H0' H' ι') (r' : Rel g H0' H' σ' ρ' μ' ι') : Rel g H0' H' σ ρ μ' ι' :=
  r'.slots r.sl fun i x e => by
    obtain ⟨v, h1, h2⟩ := r.slot i x e
    exact ⟨v, h1, h2.stp s⟩
theorem XDens.stp {H0 H H0' H' : Hp} {ι ι' : List Addr} (s : Stp H0 H ι H0' H' ι') {vs : List V} {xs : List DL.X} (h : XDens g H0 ι vs xs) : XDens g H0' ι' vs xs := h.mono s.e0 s.p
theorem XDens.append {H0 : Hp} {ι : List Addr} : ∀ {vs ws : List V} {xs ys : List DL.X}, XDens g H0 ι vs xs → XDens g H0 ι ws ys → XDens g H0 ι (vs ++ ws) (xs ++ ys)
  | _, _, _, _, .nil, h => h
  | _, _, _, _, .cons h hs, h2 => .cons h (hs.append h2)
theorem XDens.ofD {H0 : Hp} {ι : List Addr} : ∀ {vs : List V} {ds : List D}, Dens g H0 vs ds → XDens g H0 ι vs (ds.map DL.X.d)
  | _, _, .nil => .nil
  | _, _, .cons h hs => .cons h (XDens.ofD hs)
/-- a call from a state -/
theorem sp_call {σ : L2.St} {ρ : Env} {H0 H : Hp} {ι : List Addr} {μ : Mu} {C : CallF} {j : Nat} {vs : List V} {xs : List DL.X} {Q : VK} (r : Rel g H0 H σ ρ μ ι) (d : XDens g H0 ι vs xs) (h : Post g W σ ρ (rX g) H0 H ι (C j xs μ) Q) : spF g C j vs H Q (WE W σ) := by
  refine ⟨H0, μ, ι, xs, r.bare, d, ?_⟩
  cases e : C j xs μ with
  | ok x μ' =>
    rw [e] at h
    exact fun v A B K s t q => h v A B K s (r.unbare s t) q
  | er x μ' =>
    rw [e] at h
    exact fun c q A B K s t z => h c q A B K s (r.unbare s t) z
  | no =>
    rw [e] at h
    exact h

/-! ### what the common __ne__, abs and bool do with an own instance -/
theorem entry_one : entryFor table "object.__ne__" = some Builtin.«object.__ne__» := entryFor_of_tree (by kernel_rfl)
theorem args_one (a b : Value) : argsOk "object.__ne__" ⟨[a, b], []⟩ := by unfold argsOk; kernel_rfl
section
variable {prog : Program} {w : World} {M : Model} {A : Around} {E : Value → Shared → Prop} {s : Shared} {K : PySem.W.Frag} {x C f : Addr} {ox : Obj} {od : Option Obj}
open PySem.W in
theorem ifBound_B {M : Model} {name : Str} {id : String} {args : List Value} {Q : Option Value → Shared → Prop} (X : K.In s.heap) (I : InstAt s.heap x ox C od) (hs : findIn K (.ref C) name = some (some (.builtin id)))
    (hb : ∀ self, bindSpecial (.builtin id) self = pure (.builtin id, [self]))
    (h : wpAny M A (call (.builtin id) (.ref x :: args)) (fun v => Q (some v)) E s) : wpAny M A (callSpecialIfBound? (.ref x) name args) Q E s := by
  simp only [callSpecialIfBound?, bindSpecialIfBound?]
  refine wpAny_holding (wpAny_bind (wpAny_bind (wpAny_bind (I.type.here ((looks_findIn X hs).here ?_)))))
  refine wpAny_bind (wpAny_askSetting (wpAny_ite ?_))
  have fin : wpAny M A (call (.builtin id) ([.ref x] ++ args) >>= fun v => pure (some v)) Q E s := wpAny_bind (wpAny_mono h (fun v s' h' => wpAny_pure h') fun _ _ h' => h')
  split
  · exact wpAny_bind ((Looks.of_pure (hb _)).here (wpAny_pure (by exact fin)))
  · exact wpAny_tryCatch (wpAny_bind ((Looks.of_pure (hb _)).here (wpAny_pure (by exact fin))))
open PySem.W Builtin in
theorem one_K {b : Value} {Q : Value → Shared → Prop} (hu : A.in1.units < cLine) (X : K.In s.heap) (I : InstAt s.heap x ox C od) (hm : mroIn K C (.type "object") = some true) (hr : findIn K (.ref C) "__eq__" = some (some (.ref f))) (hf : isFn K (.ref f) = true)
    (h : wpAny (model prog w) A.in1 (call (.ref f) [.ref x, b]) (fun v s' => ∃ r, v = .bool r ∧ Q (.bool (!r)) s') E s) : wpAny (model prog w) A (call (.builtin "object.__ne__") [.ref x, b]) Q E s := by
  refine wpAny_call (codeAny_call_builtin PySem.F.slot_object_ne.plain entry_one (check_slot (i := "object.__ne__") (owner := "object") (n := "__ne__") (by decide +kernel) (by decide +kernel) (I.type.andThen (looks_mroIn X hm)) (args_one _ _) ?_))
  unfold Builtin.«object.__ne__»
  refine wpAny_bind (m := slotArgs "__ne__" 1 _) (wpAny_pure ?_)
  refine wpAny_bind (m := cRoomFor _ _) (wpAny_cRoomFor hu ?_)
  refine wpAny_bind (m := callSpecialIfBound? (.ref x) (Str.ofString "__eq__") _) (ifBound_K X I hr hf (wpAny_mono h (fun r s' hq => ?_) fun _ _ y => y))
  obtain ⟨r', rfl, hq⟩ := hq
  exact wpAny_bind (wpAny_truthy_bool (wpAny_pure hq))
open PySem.W Builtin in
/-- x != b, x's class with an own __eq__ and the common __ne__ -/
theorem ne_K {h₀ : Heap} {L : Addr} {m : Str → Option Value} {b tb : Value} {Q : Value → Shared → Prop} (hu : A.units + 1 < cLine) (F : Fr h₀ L s.heap m) (X₀ : K.In h₀) (I : InstAt s.heap x ox C od) (hb : Looks (model prog w) s.heap (typeOf b) tb) (hn : notFirst K C tb = true)
    (hm : mroIn K C (.type "object") = some true) (hs : findIn K (.ref C) "__ne__" = some (some (.builtin "object.__ne__"))) (hr : findIn K (.ref C) "__eq__" = some (some (.ref f))) (hf : isFn K (.ref f) = true)
    (h : wpAny (model prog w) A.in1 (call (.ref f) [.ref x, b]) (fun v s' => ∃ r, v = .bool r ∧ Q (.bool (!r)) s') E s) : wpAny (model prog w) A (richCompare .NotEq (.ref x) b) Q E s := by
  have X := X₀.keeps F.keep
  have one : wpAny (model prog w) A (tryCompare (.ref x) "__ne__" b) (fun r s' => ∃ v, r = some v ∧ Q v s') E s := by
    unfold tryCompare
    refine wpAny_bind (ifBound_B X I hs PySem.F.slot_object_ne.bind (one_K (by show A.units + 1 < cLine; exact hu) X I hm hr hf (wpAny_mono h (fun v s' hv => ?_) fun _ _ e => e)))
    obtain ⟨r, rfl, hq⟩ := hv
    exact ⟨r, rfl, wpAny_pure ⟨_, rfl, hq⟩⟩
  unfold richCompare
  simp only [oneThing_ref]
  refine wpAny_holding (wpAny_bind (wpAny_cRoomFor (by omega) ?_))
  refine wpAny_bind (I.type.here (wpAny_bind (hb.here ?_)))
  split
  · rename_i q
    have e : subIn K tb (.ref C) = some false := by
      rcases Bool.or_eq_true_iff.mp hn with e | e
      · rw [beq_iff_eq.mp e] at q; simp at q
      · exact beq_iff_eq.mp e
    refine wpAny_bind ((looks_subIn X e).here ?_)
    simp only [Bool.false_eq_true, if_false]
    refine wpAny_bind (wpAny_mono one (fun r s' z => ?_) fun _ _ e => e)
    obtain ⟨v, rfl, hq⟩ := z
    exact wpAny_pure hq
  · refine wpAny_bind (wpAny_pure ?_)
    simp only [Bool.false_eq_true, if_false]
    refine wpAny_bind (wpAny_mono one (fun r s' z => ?_) fun _ _ e => e)
    obtain ⟨v, rfl, hq⟩ := z
    exact wpAny_pure hq
open PySem.W in
/-- abs(x), own -/
theorem abs_K {Q : Value → Shared → Prop} (X : K.In s.heap) (I : InstAt s.heap x ox C od) (hs : findIn K (.ref C) "__abs__" = some (some (.ref f))) (hf : isFn K (.ref f) = true)
    (h : wpAny (model prog w) A.in1 (call (.ref f) [.ref x]) Q E s) : wpAny (model prog w) A (call (.builtin "abs") [.ref x]) Q E s := by
  refine PySem.Calls.call_function_entry kind_abs plain_abs entry_abs (args_abs _) ?_
  unfold Builtin.«abs»
  refine wpAny_bind (m := oneArg "abs" _) (wpAny_pure ?_)
  refine wpAny_bind (m := callSpecial? (.ref x) (Str.ofString "__abs__")) (special_fn X I hs (beq_iff_eq.mp hf) (wpAny_mono h (fun v s' hv => ?_) fun _ _ e => e))
  exact wpAny_pure ⟨_, rfl, hv⟩
open PySem.W in
/-- bool(x), own -/
theorem bool_K {h₀ : Heap} {L : Addr} {m : Str → Option Value} {Q : Value → Shared → Prop} (F : Fr h₀ L s.heap m) (X₀ : K.In h₀) (I : InstAt s.heap x ox C od) (hs : findIn K (.ref C) "__bool__" = some (some (.ref f))) (hf : isFn K (.ref f) = true)
    (h : wpAny (model prog w) A.in1.in1 (call (.ref f) [.ref x]) (fun v s' => ∃ r, v = .bool r ∧ Q (.bool r) s') E s) : wpAny (model prog w) A (call (.type "bool") [.ref x]) Q E s := by
  refine callType_codes (T := "bool") (Bi := Builtin.«object.__init__») (Q₁ := fun r s₁ => ∃ y, r = .bool y ∧ Q r s₁) PySem.F.called_bool (PySem.F.typeCall_bool_1 _) PySem.F.entry_object_init ?_ ?_
  · refine codeAny_of_tree ?_
    show wpAny _ A.in1.in1 (do checkBuiltinCall "bool.__new__" ⟨[.type "bool", .ref x], []⟩; again (.builtin "bool.__new__" ⟨[.type "bool", .ref x], []⟩)) _ _ s
    refine wpAny_bind (wpAny_of_eq (PySem.F.newCall_bool_1 _) (wpAny_pure ⟨plainId_quiet (by decide +kernel) _, codeAny_builtin PySem.F.entry_bool_new ?_⟩))
    rw [Around.under_plainId (by decide +kernel) _]
    unfold Builtin.«bool.__new__»
    refine wpAny_bind (wpAny_pure ?_)
    refine wpAny_bind (wpAny_of_eq PySem.F.conv_sub_bool ?_)
    refine wpAny_bind (wpAny_pure ?_)
    refine wpAny_bind (truthy_K F X₀ I hs hf (wpAny_mono h (fun r s₁ hr => ?_) fun _ _ y => y))
    obtain ⟨y, rfl, hq⟩ := hr
    exact wpAny_pure ⟨y, rfl, hq⟩
  · rintro obj s₁ ⟨y, rfl, hq⟩
    exact ⟨rfl, PySem.F.args_object_init_2 _ _, object_init_meets PySem.F.called_bool.init.lookup PySem.F.called_bool.made (by decide) prog w A.in1 _ s₁ ⟨rfl, rfl, hq⟩⟩
end
section
variable {X : Cx}
theorem run_fn2 {k : Nat} {f : Addr} {fd : FuncData} {ps : List Str} {sp : Sp} {ds : List Value} {dvs : List V} {CX : CXT} {E : XK} {pins : List (Addr × Obj)} {σ : L2.St} {H : Hp} {s : Shared} {Q : VK} {us : List Value} {vs : List V} (F : FnOk X.prog X.w X.K X.mg X.base CX k f fd ps sp) (hr : Room k X.A.in1.in1) (hb : Binds X.K fd ps ds) (hd : Vals dvs ds) (hx : Passes CX X E)
    (I : Inv X pins σ H s) (r : Vals vs us) (h : sp (vs ++ dvs) H Q E) : wpAny (model X.prog X.w) X.A.in1.in1 (call (.ref f) us) (EP X pins σ Q) X.xe s := by
  have r2 : Vals (vs ++ dvs) (us ++ ds) := r.append hd
  have hl : (us ++ ds).length = ps.length := by rw [← r2.length]; exact F.len _ _ _ _ h
  refine wpAny_call (codeAny_mono (F.run X.A.in1.in1 X.stack s H ⟨us, []⟩ (us ++ ds) (vs ++ dvs) Q E hr I.env0.in1.in1 (hb s us I.kIn hl) r2 h) fun r s' hq => ?_)
  cases r with
  | error e => exact hx pins σ H s e s' I hq
  | ok fl =>
    cases fl with
    | ret u => exact I.after hq
    | next => exact False.elim hq
    | brk => exact False.elim hq
    | cont => exact False.elim hq
theorem run_fn1 {k : Nat} {f : Addr} {fd : FuncData} {ps : List Str} {sp : Sp} {ds : List Value} {dvs : List V} {CX : CXT} {E : XK} {pins : List (Addr × Obj)} {σ : L2.St} {H : Hp} {s : Shared} {Q : VK} {us : List Value} {vs : List V} (F : FnOk X.prog X.w X.K X.mg X.base CX k f fd ps sp) (hr : Room (k + 1) X.A) (hb : Binds X.K fd ps ds) (hd : Vals dvs ds) (hx : Passes CX X E)
    (I : Inv X pins σ H s) (r : Vals vs us) (h : sp (vs ++ dvs) H Q E) : wpAny (model X.prog X.w) X.A.in1 (call (.ref f) us) (EP X pins σ Q) X.xe s := by
  have r2 : Vals (vs ++ dvs) (us ++ ds) := r.append hd
  have hl : (us ++ ds).length = ps.length := by rw [← r2.length]; exact F.len _ _ _ _ h
  refine wpAny_call (codeAny_mono (F.run X.A.in1 X.stack s H ⟨us, []⟩ (us ++ ds) (vs ++ dvs) Q E hr.in1 I.env0.in1 (hb s us I.kIn hl) r2 h) fun r s' hq => ?_)
  cases r with
  | error e => exact hx pins σ H s e s' I hq
  | ok fl =>
    cases fl with
    | ret u => exact I.after hq
    | next => exact False.elim hq
    | brk => exact False.elim hq
    | cont => exact False.elim hq
end
/-! ### the own text's classes -/
/-- a type as the machine's value -/
def tyName : Ty → String
  | .int => "int" | .bool => "bool" | .str => "str" | .lst => "list" | .tup => "tuple" | .dic => "dict" | .cls _ => "?"
def Ty.plain : Ty → Bool
  | .cls _ => false
  | _ => true
def tyV (g : G) : Ty → Value
  | .cls c => .ref (g.cA c)
  | t => .type (tyName t)
def tyW (g : G) : Ty → V
  | .cls c => .ref (g.cA c)
  | t => .ty (tyName t)
def tyIn (g : G) : Ty → Prop
  | .cls c => c < g.nC
  | _ => True
def kinds : List String := ["NoneType", "bool", "int", "str", "list", "tuple", "dict"]
structure ClsOk (g : G) (c : Nat) : Prop where
  cl : Cls g.K (g.cA c)
  ha : PySem.W.findIn g.K (.ref (g.cA c)) "__class__" = some (some (.builtin "object.__class__"))
  hn : PySem.W.specialIn g.K (.builtin "object.__class__") "__get__" = some (some (.builtin "getset_descriptor.__get__"))
  htk : PySem.W.takesIn g.K (.builtin "object.__class__") = some true
  hm : PySem.W.mroIn g.K (g.cA c) (.type "object") = some true
  own : ∀ ty : Ty, tyIn g ty → PySem.W.kitOne g.K (.ref (g.cA c)) (tyV g ty) = some (match ty with | .cls c' => c == c' | _ => false)
  bt : ∀ s ∈ kinds, PySem.W.kitOne g.K (.type s) (.ref (g.cA c)) = some false
  nf : ∀ s ∈ kinds, PySem.W.notFirst g.K (g.cA c) (.type s) = true
  nfo : ∀ c', c' < g.nC → PySem.W.notFirst g.K (g.cA c) (.ref (g.cA c')) = true
  sf : PySem.W.selfFirst g.K (g.cA c) = true
  ne : PySem.W.findIn g.K (.ref (g.cA c)) "__ne__" = some (some (.builtin "object.__ne__"))
/-- what the rules ask of the own classes and their methods -/
structure Own (g : G) (X : Cx) (P : Par) (k : Nat) : Prop where
  K : X.K = g.K
  cls : ∀ c, c < g.nC → ClsOk g c
  room : Room (k + 1) X.A
  meth : ∀ c m j, c < g.nC → P.methOf c m = some j → ∃ fd ps, Meth g.K (g.cA c) m (g.fA j) ∧ FnOk X.prog X.w X.K X.mg X.base (L2N.CX X.prog X.w) (k + 1) (g.fA j) fd ps (spF g P.C j) ∧
    FnOk X.prog X.w X.K X.mg X.base (L2N.CX X.prog X.w) k (g.fA j) fd ps (spF g P.C1 j) ∧ (dun m = true → Binds X.K fd ps [])
  prop : ∀ c m j, c < g.nC → P.propOf c m = some j → ∃ p fd ps, PropOf g.K (g.cA c) m p (g.fA j) ∧ FnOk X.prog X.w X.K X.mg X.base (L2N.CX X.prog X.w) k (g.fA j) fd ps (spF g P.C1 j) ∧ Binds X.K fd ps []
  fld : ∀ c f, c < g.nC → P.fldOk c f = true → NoAttr g.K (g.cA c) f
theorem passNo {CX0 : Cx} : Passes (L2N.CX CX0.prog CX0.w) CX0 (fun _ _ _ => False) := fun pins σ H s e s' I z => by
  obtain ⟨_, _, _, _, _, _, _, _, _, _, _, _, z⟩ := z
  exact z.elim
theorem passNoN {CX0 : Cx} : Passes (L2N.CX CX0.prog CX0.w) CX0.nox (fun _ _ _ => False) := fun pins σ H s e s' I z => by
  obtain ⟨_, _, _, _, _, _, _, _, _, _, _, _, z⟩ := z
  exact z.elim
/-- an instance -/
theorem insOf_read {σ : L2.St} {ρ : Env} {H0 H : Hp} {ι : List Addr} {μ : Mu} {v : V} {x : DL.X} {c : Nat} (r : Rel g H0 H σ ρ μ ι) (d : XDen g H0 ι v x) (e : insOf μ x = some c) : c < g.nC ∧ ∃ a dx vf, v = .ref a ∧ H a = some (.ins (g.cA c) dx vf) ∧
    (∀ f, fldX μ x f = none → vf.lookup f = none) ∧ (∀ f y, fldX μ x f = some y → ∃ u, vf.lookup f = some u ∧ XDen g H0 ι u y) := by
  cases x with
  | d y =>
    have d : Den g H0 v y := d
    cases d with
    | ins hc h hs =>
      cases e
      refine ⟨hc, _, _, _, rfl, r.ex _ _ h, fun f hf => ?_, fun f y hf => ?_⟩
      · exact hs.none (Option.map_eq_none_iff.mp hf)
      · obtain ⟨z, h1, rfl⟩ := Option.map_eq_some_iff.mp hf
        obtain ⟨u, h2, h3⟩ := hs.look h1
        exact ⟨u, h2, h3⟩
    | _ => cases e
  | r k =>
    obtain ⟨a, h1, rfl⟩ := d
    unfold insOf at e
    dsimp only at e
    split at e
    · rename_i c' fs q
      cases e
      obtain ⟨_, hc, dx, vf, h2, h3⟩ := r.cell _ _ a q h1
      refine ⟨hc, a, dx, vf, rfl, h2, fun f hf => ?_, fun f y hf => ?_⟩
      · simp only [fldX, q] at hf
        exact h3.none hf
      · simp only [fldX, q] at hf
        exact h3.look hf
    · cases e
/-- a call that raises nothing -/
theorem sp_quiet {σ : L2.St} {ρ : Env} {H0 H : Hp} {ι : List Addr} {μ : Mu} {C : CallF} {j : Nat} {vs : List V} {xs : List DL.X} {Q : VK} (r : Rel g H0 H σ ρ μ ι) (d : XDens g H0 ι vs xs) (h : Post g W σ ρ (rX g) H0 H ι (quiet (C j xs μ)) Q) : spF g C j vs H Q (fun _ _ _ => False) := by
  refine ⟨H0, μ, ι, xs, r.bare, d, ?_⟩
  cases e : C j xs μ with
  | ok x μ' =>
    rw [e] at h
    exact fun v A B K s t q => h v A B K s (r.unbare s t) q
  | er x μ' =>
    rw [e] at h
    exact (show False from h).elim
  | no =>
    rw [e] at h
    exact (show False from h).elim
/-! ### names, constants -/
theorem se_var {i : Nat} {x : Str} (h : PE X (.Name x pos) (tVar i)) : SE g W X (.Name x pos) (evE P (.var i)) := PE_imp h fun σ H Q ⟨H0, ρ, μ, ι, r, h⟩ => by
  simp only [evE] at h
  split at h
  · rename_i y q
    obtain ⟨v, h1, h2⟩ := r.slot i y q
    exact ⟨v, h1, h.now r h2⟩
  · exact h.elim
theorem se_con {e : Expr} {v : V} {x : D} (h : PE X e (tC v)) (d : ∀ H, Den g H v x) : SE g W X e (evE P (.con x)) := PE_imp h fun σ H Q ⟨H0, ρ, μ, ι, r, h⟩ => by
  simp only [evE] at h
  exact h.now r (d H0)
theorem se_glo {e : Expr} {v : V} {j : Nat} (h : PE X e (tC v)) (d : ∀ x, P.glo j = some x → ∀ H, Den g H v x) : SE g W X e (evE P (.glo j)) := PE_imp h fun σ H Q ⟨H0, ρ, μ, ι, r, h⟩ => by
  simp only [evE] at h
  cases q : P.glo j with
  | none =>
    rw [q] at h
    exact h.elim
  | some x =>
    rw [q] at h
    exact h.now r (d x q H0)
/-! ### operators -/
def opOf : Bop → Operator
  | .add => .Add
  | .sub => .Sub
  | .mul => .Mult
  | .fdiv => .FloorDiv
  | .mod => .Mod
  | .pow => .Pow
def rBop (op : Bop) : R2 := fun x y H Q => ∃ i j z, x = .int i ∧ y = .int j ∧ binI op i j = some z ∧ Q (.int z) H
/-- // by a number below 0 -/
theorem op_fdivNW : OpR X (binaryOp .FloorDiv) (rI (fun _ j => j < 0 ∧ j.natAbs.log2 < 9000) fun i j => .int (i.fdiv j)) := opI fun i j _ _ _ _ _ hc q => by
  have h1 : j < 0 := hc.1
  exact floordiv_int (by omega) q (.inl (PyProof.noPylong_of_log2 hc.2))
theorem op_bop (op : Bop) : OpR X (binaryOp (opOf op)) (rBop op) := by
  intro pins s σ H x y v u Q I rx ry h
  obtain ⟨i, j, z, rfl, rfl, e, q⟩ := h
  cases op with
  | add =>
    cases e
    exact op_add pins s σ H _ _ v u Q I rx ry ⟨i, j, rfl, rfl, q⟩
  | sub =>
    cases e
    exact op_sub pins s σ H _ _ v u Q I rx ry ⟨i, j, rfl, rfl, q⟩
  | mul =>
    simp only [binI] at e
    split at e
    · rename_i k
      cases e
      unfold mulOk at k
      have k2 : i.natAbs.log2 + j.natAbs.log2 < 1000000 := of_decide_eq_true k
      exact op_mulW pins s σ H _ _ v u Q I rx ry ⟨i, j, rfl, rfl, k2, q⟩
    · cases e
  | fdiv =>
    simp only [binI] at e
    split at e
    · rename_i k
      cases e
      unfold divOk at k
      have k2 := Bool.and_eq_true_iff.mp k
      exact op_fdivW pins s σ H _ _ v u Q I rx ry ⟨i, j, rfl, rfl, ⟨of_decide_eq_true k2.1, of_decide_eq_true k2.2⟩, q⟩
    · split at e
      · rename_i k
        cases e
        unfold divNeg at k
        have k2 := Bool.and_eq_true_iff.mp k
        exact op_fdivNW pins s σ H _ _ v u Q I rx ry ⟨i, j, rfl, rfl, ⟨of_decide_eq_true k2.1, of_decide_eq_true k2.2⟩, q⟩
      · cases e
  | mod =>
    simp only [binI] at e
    split at e
    · rename_i k
      cases e
      exact op_mod pins s σ H _ _ v u Q I rx ry ⟨i, j, rfl, rfl, of_decide_eq_true k, q⟩
    · cases e
  | pow =>
    simp only [binI] at e
    split at e
    · rename_i k
      cases e
      have k2 := Bool.and_eq_true_iff.mp k
      have k3 := Bool.and_eq_true_iff.mp k2.2
      exact op_pow pins s σ H _ _ v u Q I rx ry ⟨i, j, rfl, rfl, ⟨of_decide_eq_true k2.1, of_decide_eq_true k3.1, of_decide_eq_true k3.2⟩, q⟩
    · cases e
/-! ### signs, abs, bool of an own instance -/
def rOne (X : Cx) (nm : Str) : V → Hp → VK → Prop := fun x H Q => ∃ a C dx fs f k fd ps sp, x = .ref a ∧ H a = some (.ins C dx fs) ∧ Meth X.K C nm f ∧
  FnOk X.prog X.w X.K X.mg X.base (L2N.CX X.prog X.w) k f fd ps sp ∧ Room (k + 1) X.A ∧ Binds X.K fd ps [] ∧ sp [x] H Q (fun _ _ _ => False)
def rNeg (X : Cx) : V → Hp → VK → Prop := fun x H Q => (∃ i, x = .int i ∧ Q (.int (-i)) H) ∨ rOne X "__neg__" x H Q
theorem un_negA : UnR X (unaryOp .USub) (rNeg X) := by
  intro pins s σ H x v Q I rx h
  rcases h with h | h
  · exact un_neg pins s σ H x v Q I rx h
  · obtain ⟨a, C, dx, fs, f, k, fd, ps, sp, rfl, ha, M, F, hr, bd, h⟩ := h
    cases rx
    obtain ⟨mA, J, _⟩ := ins_get I.hok ha
    obtain ⟨od, J, _⟩ := J.look
    obtain ⟨m, hF⟩ := I.fr
    exact PySem.W.ksp_neg hF I.ok.mod.kin J M.at_ M.fn (run_fn (us := [.ref a]) (vs := [.ref a]) F (hr.mono (Nat.le_succ k)) bd .nil passNo I (.cons rfl .nil) h)
theorem call_absO : CallR X (.builtin "abs") (fun xs H Q => ∃ x, xs = [x] ∧ rOne X "__abs__" x H Q) := by
  intro pins s σ H xs us Q I r h
  obtain ⟨x, rfl, a, C, dx, fs, f, k, fd, ps, sp, rfl, ha, M, F, hr, bd, h⟩ := h
  obtain rfl := Vals.ref1 r
  obtain ⟨mA, J, _⟩ := ins_get I.hok ha
  obtain ⟨od, J, _⟩ := J.look
  obtain ⟨m, hF⟩ := I.fr
  exact abs_K I.kIn J M.at_ M.fn (run_fn1 (us := [.ref a]) (vs := [.ref a]) F hr bd .nil passNo I (.cons rfl .nil) h)
theorem Room.in2 {k : Nat} {A : Around} (r : Room (k + 1) A) : Room k A.in1.in1 :=
  ⟨r.hd, by have := r.dp; show A.depth + 3 * k + 5 < _; omega, by have := r.un; show A.units + 1 + 1 + 16 * k + 200 < _; omega⟩
theorem call_boolO : CallR X (.type "bool") (fun xs H Q => ∃ x, xs = [x] ∧ rOne X "__bool__" x H (fun v H' => ∃ b, v = .bl b ∧ Q v H')) := by
  intro pins s σ H xs us Q I r h
  obtain ⟨x, rfl, a, C, dx, fs, f, k, fd, ps, sp, rfl, ha, M, F, hr, bd, h⟩ := h
  obtain rfl := Vals.ref1 r
  obtain ⟨mA, J, _⟩ := ins_get I.hok ha
  obtain ⟨od, J, _⟩ := J.look
  obtain ⟨m, hF⟩ := I.fr
  refine bool_K hF I.ok.mod.kin J M.at_ M.fn (wpAny_mono (run_fn2 (us := [.ref a]) (vs := [.ref a]) F (Room.in2 hr) bd .nil passNo I (.cons rfl .nil) h) (fun r s' q => ?_) fun _ _ z => z)
  obtain ⟨z, H', I', rz, b, rfl, q⟩ := q
  cases rz
  exact ⟨b, rfl, .bl b, H', I', rfl, q⟩
/-- an operator of an own class -/
def rOwn (X : Cx) (nm : Str) : R2 := fun x y H Q => ∃ a b C dx dy fs gs f k fd ps sp, x = .ref a ∧ y = .ref b ∧ H a = some (.ins C dx fs) ∧ H b = some (.ins C dy gs) ∧ PySem.W.selfFirst X.K C = true ∧ Meth X.K C nm f ∧
  FnOk X.prog X.w X.K X.mg X.base (L2N.CX X.prog X.w) k f fd ps sp ∧ Room k X.A ∧ Binds X.K fd ps [] ∧ sp [x, y] H Q (fun _ _ _ => False)
theorem relV_ni {v : V} {u : Value} (r : RelV v u) : u ≠ .notImplemented := by
  intro e
  subst e
  cases v <;> first | (cases r; done) | (obtain ⟨_, z⟩ := r; cases z)
theorem cmpBack {Q : Value → Shared → Prop} {u : Value} {s : Shared} (h : u ≠ .notImplemented) (q : Q u s) : PySem.W.CmpBack Q u s := by
  cases u <;> first | exact q | exact (h rfl).elim
theorem op_own (op : Bop) : OpR X (binaryOp (opOf op)) (rOwn X (opMeth op)) := by
  intro pins s σ H x y v u Q I rx ry h
  obtain ⟨a, b, C, dx, dy, fs, gs, f, k, fd, ps, sp, rfl, rfl, ha, hb, sf, M, F, hr, bd, h⟩ := h
  cases rx
  cases ry
  obtain ⟨mA, J, _⟩ := ins_get I.hok ha
  obtain ⟨mB, J', _⟩ := ins_get I.hok hb
  obtain ⟨od, J, _⟩ := J.look
  obtain ⟨od', J', _⟩ := J'.look
  obtain ⟨m, hF⟩ := I.fr
  refine PySem.W.binop_K (op := opOf op) hF I.ok.mod.kin J J'.type sf (by
    have e := M.at_
    cases op <;> exact e) M.fn ?_
  refine wpAny_mono (run_fn (us := [.ref a, .ref b]) (vs := [.ref a, .ref b]) F hr bd .nil passNo I (.cons rfl (.cons rfl .nil)) h) (fun r s' q => ?_) fun _ _ z => z
  obtain ⟨z, H', I', rz, q⟩ := q
  exact cmpBack (relV_ni rz) ⟨z, H', I', rz, q⟩
def rAddAll (K : PySem.W.Frag) : R2 := fun x y H Q => (∃ i j, x = .str i ∧ y = .str j ∧ i.length + j.length ≤ sizeLine ∧ Q (.str (i ++ j)) H) ∨ (rCatA K x y H Q ∨ rCat x y H Q)
def rBinAll (X : Cx) (op : Bop) : R2 := fun x y H Q => rBop op x y H Q ∨ (rOwn X (opMeth op) x y H Q ∨ (op = .add ∧ rAddAll X.K x y H Q))
theorem op_all (op : Bop) : OpR X (binaryOp (opOf op)) (rBinAll X op) := by
  refine OpR.or (op_bop op) (OpR.or (op_own op) ?_)
  intro pins s σ H x y v u Q I rx ry h
  obtain ⟨rfl, h⟩ := h
  exact (OpR.or op_add_str (OpR.or op_catA op_cat)) pins s σ H x y v u Q I rx ry h
section
variable {a b c : Expr} {ia ib ic : E}
section
variable {σ : L2.St} {ρ : Env} {H0 H : Hp} {ι : List Addr} {μ : Mu} {v u : V} {x y : DL.X} {k : Nat}
theorem line6 : (1000000 : Nat) ≤ sizeLine := by rw [sizeLine_eq]; decide
/-- a new list -/
theorem alloc_lst {cell : Bool} {xs : List D} {vs : List V} {Q : VK} (r : Rel g H0 H σ ρ μ ι) (hs : Dens g H0 vs xs) (h : Post g W σ ρ (rX g) H0 H ι (alloc cell (.lst xs) μ) Q) :
    vs.length ≤ 1000000 ∧ ∀ p, H p = none → Q (.ref p) (upd H p (.lst vs)) := by
  unfold alloc at h
  split at h
  · rename_i hz
    have hz' : xs.length ≤ 1000000 := hz
    refine ⟨by rw [hs.length]; exact hz', fun p hp => ?_⟩
    cases cell with
    | true =>
      obtain ⟨r2, s2⟩ := r.newCell (o := .lst vs) (nd := .lst xs) hp ⟨vs, upd_same, hs⟩
      exact h (.ref p) _ _ _ s2 r2 ⟨p, by rw [← r.len]; simp, rfl⟩
    | false =>
      obtain ⟨r2, s2⟩ := r.value (o := .lst vs) hp
      exact h (.ref p) _ _ _ s2 r2 (Den.lst upd_same (hs.mono s2.e0))
  · exact h.elim
/-- a new tuple -/
theorem new_tup {xs : List D} {vs : List V} {Q : VK} (r : Rel g H0 H σ ρ μ ι) (hs : Dens g H0 vs xs) (h : Post g W σ ρ (rX g) H0 H ι (.ok (.d (.tup xs)) μ) Q) : ∀ p, H p = none → Q (.ref p) (upd H p (.tup vs)) := fun p hp => by
  obtain ⟨r2, s2⟩ := r.value (o := .tup vs) hp
  exact h (.ref p) _ _ _ s2 r2 (Den.tup (SqT.of upd_same) (hs.mono s2.e0))
/-- a list that is tracked -/
theorem view_lst {xs : List D} (r : Rel g H0 H σ ρ μ ι) (d : XDen g H0 ι v x) (e : view μ x = some (.lst xs)) : ∃ a vs, v = .ref a ∧ H a = some (.lst vs) ∧ Dens g H0 vs xs := by
  cases x with
  | d y =>
    have d : Den g H0 v y := d
    cases e
    cases d with
    | lst h hs => exact ⟨_, _, rfl, r.ex _ _ h, hs⟩
  | r k =>
    obtain ⟨a, h1, rfl⟩ := d
    obtain ⟨nd, q, e⟩ := view_r e
    obtain ⟨_, c⟩ := r.cell k nd a q h1
    cases nd with
    | lst ys =>
      cases e
      obtain ⟨vs, c1, c2⟩ := c
      exact ⟨a, vs, rfl, c1, c2⟩
    | dic ys => cases e
    | ins c fs => cases e
theorem view_str {z : Str} (r : Rel g H0 H σ ρ μ ι) (d : XDen g H0 ι v x) (e : view μ x = some (.str z)) : v = .str z := by
  have := r.den d e
  cases this
  rfl
theorem view_tup {xs : List D} (r : Rel g H0 H σ ρ μ ι) (d : XDen g H0 ι v x) (e : view μ x = some (.tup xs)) : x = .d (.tup xs) := by
  cases x with
  | d y =>
    cases e
    rfl
  | r k =>
    obtain ⟨nd, q, e⟩ := view_r e
    cases nd <;> cases e
theorem cat_read {cell : Bool} {xs ys : List D} {Q : VK} (r : Rel g H0 H σ ρ μ ι) (dx : XDen g H0 ι v x) (dy : XDen g H0 ι u y) (e1 : view μ x = some (.lst xs)) (e2 : view μ y = some (.lst ys)) (h : Post g W σ ρ (rX g) H0 H ι (alloc cell (.lst (xs ++ ys)) μ) Q) : rCat v u H Q := by
  obtain ⟨a, vs, rfl, h1, h2⟩ := view_lst r dx e1
  obtain ⟨b, us, rfl, h3, h4⟩ := view_lst r dy e2
  obtain ⟨q1, q2⟩ := alloc_lst r (h2.append h4) h
  rw [List.length_append] at q1
  exact ⟨a, b, vs, us, rfl, rfl, h1, h3, Nat.le_trans q1 line6, q2⟩
theorem binZ_some {op : Bop} {o : Option Int} (e : binZ op x y = some o) : ∃ i j, x = .d (.int i) ∧ y = .d (.int j) ∧ o = binI op i j := by
  unfold binZ at e
  split at e
  · cases e
    exact ⟨_, _, rfl, rfl, rfl⟩
  · cases e
theorem ownM_some {c : Nat} {m : Str} {xs : List DL.X} {rel : Hp → List Addr → V → DL.X → Prop} {Q : VK} (h : Post g W σ ρ rel H0 H ι (ownM P c m xs μ) Q) : ∃ j, P.methOf c m = some j ∧ Post g W σ ρ rel H0 H ι (quiet (P.C1 j xs μ)) Q := by
  unfold ownM at h
  split at h
  · rename_i j e
    exact ⟨j, e, h⟩
  · exact h.elim
theorem own_read {op : Bop} {c : Nat} {Q : VK} (O : Own g X P k) (r : Rel g H0 H σ ρ μ ι) (dx : XDen g H0 ι v x) (dy : XDen g H0 ι u y) (e1 : insOf μ x = some c) (e2 : insOf μ y = some c) (h : Post g W σ ρ (rX g) H0 H ι (ownM P c (opMeth op) [x, y] μ) Q) : rOwn X (opMeth op) v u H Q := by
  obtain ⟨j, ej, h⟩ := ownM_some h
  obtain ⟨hc, a, dx', vf, ea, ha, _⟩ := insOf_read r dx e1
  obtain ⟨_, b, dy', vg, eb, hb, _⟩ := insOf_read r dy e2
  obtain ⟨fd, ps, M, _, F, bd⟩ := O.meth c _ j hc ej
  have bd := bd (by cases op <;> decide +kernel)
  have sf := (O.cls c hc).sf
  rw [← O.K] at M sf
  exact ⟨a, b, _, _, _, _, _, _, _, fd, ps, _, ea, eb, ha, hb, sf, M, F, O.room.mono (Nat.le_succ k), bd, sp_quiet r (.cons dx (.cons dy .nil)) h⟩
theorem bin_read {op : Bop} {Q : VK} (O : Own g X P k) (r : Rel g H0 H σ ρ μ ι) (dx : XDen g H0 ι v x) (dy : XDen g H0 ι u y) (h : Post g W σ ρ (rX g) H0 H ι (binX P op x y μ) Q) : rBinAll X op v u H Q := by
  unfold binX at h
  split at h
  · rename_i o e
    obtain ⟨i, j, rfl, rfl, rfl⟩ := binZ_some e
    cases dx
    cases dy
    cases q : binI op i j with
    | none => rw [q] at h; exact h.elim
    | some z =>
      rw [q] at h
      exact .inl ⟨i, j, z, rfl, rfl, q, h.now r (Den.int z)⟩
  · split at h
    · rename_i c e1
      split at h
      · rename_i e2
        exact .inr (.inl (own_read O r dx dy e1 e2 h))
      · exact h.elim
    · split at h
      · refine .inr (.inr ⟨rfl, ?_⟩)
        unfold addD at h
        split at h
        · rename_i s e1
          split at h
          · rename_i t e2
            split at h
            · rename_i hz
              cases view_str r dx e1
              cases view_str r dy e2
              exact .inl ⟨s, t, rfl, rfl, Nat.le_trans hz line6, h.now r (Den.str _)⟩
            · exact h.elim
          · exact h.elim
        · rename_i xs e1
          split at h
          · rename_i ys e2
            split at h
            · rename_i hz
              obtain rfl := view_tup r dx e1
              obtain rfl := view_tup r dy e2
              have dx : Den g H0 v (.tup xs) := dx
              have dy : Den g H0 u (.tup ys) := dy
              refine .inr (.inl ?_)
              rw [O.K]
              cases dx with
              | tup hx hxs =>
                cases dy with
                | tup hy hys =>
                  refine ⟨_, _, _, _, rfl, rfl, ex_t r.ex hx, ex_t r.ex hy, ?_, fun e => ?_, fun e1 e2 => ?_, fun e1 e2 => ?_⟩
                  · rw [hxs.length, hys.length]; exact Nat.le_trans hz line6
                  · subst e
                    cases hxs
                    exact h.now r (Den.tup hy hys)
                  · subst e2
                    cases hys
                    refine h.now r ?_
                    show Den g H0 _ (.tup (xs ++ []))
                    rw [List.append_nil]
                    exact Den.tup hx hxs
                  · exact new_tup r (hxs.append hys) h
            · exact h.elim
          · exact h.elim
        · rename_i xs e1
          split at h
          · rename_i ys e2
            exact .inr (.inr (cat_read r dx dy e1 e2 h))
          · exact h.elim
        · exact h.elim
      · exact h.elim
end
theorem se_bin {op : Bop} {k : Nat} (O : Own g X P k) (ha : SE g W X a (evE P ia)) (hb : SE g W X b (evE P ib)) : SE g W X (.BinOp a (opOf op) b pos) (evE P (.bin op ia ib)) := PE_imp (pe_op (op_all op) ha hb) fun σ H Q ⟨H0, ρ, μ, ι, r, h⟩ => by
  simp only [evE] at h
  refine run_bind r h fun v x μ1 A1 H1 ι1 s1 r1 d1 h => ?_
  refine run_bind r1 h fun v2 y μ2 A2 H2 ι2 s2 r2 d2 h => ?_
  exact bin_read O r2 (d1.stp s2) d2 h
theorem se_binC (O : Own g X P k) (ha : SE g W X a (evE P ia)) (hb : SE g W X b (evE P ib)) : SE g W X (.BinOp a .Add b pos) (evE P (.binC ia ib)) := PE_imp (pe_op op_cat ha hb) fun σ H Q ⟨H0, ρ, μ, ι, r, h⟩ => by
  simp only [evE] at h
  refine run_bind r h fun v x μ1 A1 H1 ι1 s1 r1 d1 h => ?_
  refine run_bind r1 h fun v2 y μ2 A2 H2 ι2 s2 r2 d2 h => ?_
  unfold addC at h
  split at h
  · rename_i xs e1
    split at h
    · rename_i ys e2
      exact cat_read r2 (d1.stp s2) d2 e1 e2 h
    · exact h.elim
  · exact h.elim
theorem one_read {nm : Str} {c k : Nat} {σ : L2.St} {ρ : Env} {H0 H : Hp} {ι : List Addr} {μ : Mu} {v : V} {x : DL.X} {Q : VK} (O : Own g X P k) (r : Rel g H0 H σ ρ μ ι) (dx : XDen g H0 ι v x) (hdn : dun nm = true) (e1 : insOf μ x = some c) (h : Post g W σ ρ (rX g) H0 H ι (ownM P c nm [x] μ) Q) : rOne X nm v H Q := by
  obtain ⟨j, ej, h⟩ := ownM_some h
  obtain ⟨hc, a, dx', vf, ea, ha, _⟩ := insOf_read r dx e1
  obtain ⟨fd, ps, M, _, F, bd⟩ := O.meth c _ j hc ej
  have bd := bd hdn
  rw [← O.K] at M
  exact ⟨a, _, _, _, _, _, fd, ps, _, ea, ha, M, F, O.room, bd, sp_quiet r (.cons dx .nil) h⟩
theorem se_neg {k : Nat} (O : Own g X P k) (ha : SE g W X a (evE P ia)) : SE g W X (.UnaryOp .USub a pos) (evE P (.neg ia)) := PE_imp (pe_un un_negA ha) fun σ H Q ⟨H0, ρ, μ, ι, r, h⟩ => by
  simp only [evE] at h
  refine run_bind r h fun v x μ1 A1 H1 ι1 s1 r1 d1 h => ?_
  split at h
  · rename_i i
    cases d1
    exact .inl ⟨i, rfl, h.now r1 (Den.int _)⟩
  · exact .inr (one_read O r1 d1 (by decide +kernel) rfl h)
  · exact h.elim
end
theorem rd_tyL {K : PySem.W.Frag} {H : Hp} {a : Addr} {vs : List V} (h : SqL K H a vs) : TyX K H (.ref a) (.type "list") := by
  rcases h with (h | ⟨o, h⟩) | ⟨o, its, n, hk, hc, _⟩
  · exact .base (.lst h)
  · exact .base (.frz h)
  · exact .kList hk hc
theorem rd_tyT {K : PySem.W.Frag} {H : Hp} {a : Addr} {vs : List V} (h : SqT K H a vs) : TyX K H (.ref a) (.type "tuple") := by
  rcases h with (h | ⟨o, h⟩) | ⟨o, its, n, hk, hc, _⟩
  · exact .base (.tup h)
  · exact .fTuple h
  · exact .kTuple hk hc
/-! ### comparisons -/
def copOf : Cop → CmpOp
  | .eq => .Eq | .ne => .NotEq | .lt => .Lt | .le => .LtE | .gt => .Gt | .ge => .GtE | .isin => .In | .notin => .NotIn | .is_ => .Is | .isnot => .IsNot
def rI2 (f : Int → Int → Bool) : R2 := rI0 fun i j => .bl (f i j)
/-- x in d, d a dict -/
def rInD (neg : Bool) : R2 := fun x y H Q => ∃ a o, y = .ref a ∧ DGet H a x o ∧ Q (.bl (if neg then !o.isSome else o.isSome)) H
def rInK (K : PySem.W.Frag) (w : World) (neg : Bool) : R2 := fun x y H Q => ∃ a z es n r, y = .ref a ∧ x = .str z ∧ KDict K w a es n ∧ PySem.W.nsIn K a z = some r ∧ Q (.bl (if neg then !r.isSome else r.isSome)) H
def rInS (neg : Bool) : R2 := fun x y H Q => ∃ (c : Nat) (z : Str), x = .str ⟨#[c]⟩ ∧ y = .str z ∧ Q (.bl (if neg then !decide (c ∈ z.cps.toList) else decide (c ∈ z.cps.toList))) H
/-- x in o, o an own instance -/
def rInO (X : Cx) (neg : Bool) : R2 := fun x y H Q => ∃ b C dy gs f k fd ps sp, y = .ref b ∧ H b = some (.ins C dy gs) ∧ Meth X.K C "__contains__" f ∧
  FnOk X.prog X.w X.K X.mg X.base (L2N.CX X.prog X.w) k f fd ps sp ∧ Room k X.A ∧ Binds X.K fd ps [] ∧ sp [y, x] H (fun v H' => ∃ r, v = .bl r ∧ Q (.bl (if neg then !r else r)) H') (fun _ _ _ => False)
/-- x == y, x an own instance -/
def rEqO (X : Cx) : R2 := fun x y H Q => ∃ a C dx fs f k fd ps sp tb, x = .ref a ∧ H a = some (.ins C dx fs) ∧ TyX X.K H y tb ∧ PySem.W.notFirst X.K C tb = true ∧ Meth X.K C "__eq__" f ∧
  FnOk X.prog X.w X.K X.mg X.base (L2N.CX X.prog X.w) k f fd ps sp ∧ Room k X.A ∧ Binds X.K fd ps [] ∧ sp [x, y] H Q (fun _ _ _ => False)
theorem op_inD (neg : Bool) (hu : X.A.units + 64 < cLine) : OpR X (compareOp (if neg then .NotIn else .In)) (rInD neg) := by
  intro pins s σ H x y v u Q I rx ry h
  obtain ⟨a, o, rfl, g, q⟩ := h
  cases ry
  cases neg with
  | false => exact d_in (by omega) I g rx fun s3 I3 => ⟨.bl o.isSome, H, I3, rfl, q⟩
  | true => exact d_notIn (by omega) I g rx fun s3 I3 => ⟨.bl (!o.isSome), H, I3, rfl, q⟩
theorem op_inK (neg : Bool) : OpR X (compareOp (if neg then .NotIn else .In)) (rInK X.K X.w neg) := by
  intro pins s σ H x y v u Q I rx ry h
  obtain ⟨a, z, es, n, r, rfl, rfl, D, e, q⟩ := h
  cases neg with
  | false => exact op_in_kd D pins s σ H _ _ v u Q I rx ry ⟨z, r, rfl, rfl, e, q⟩
  | true => exact op_notIn_kd D pins s σ H _ _ v u Q I rx ry ⟨z, r, rfl, rfl, e, q⟩
theorem op_inS (neg : Bool) : OpR X (compareOp (if neg then .NotIn else .In)) (rInS neg) := by
  intro pins s σ H x y v u Q I rx ry h
  obtain ⟨c, z, rfl, rfl, q⟩ := h
  cases neg with
  | false => exact op_in_sign pins s σ H _ _ v u Q I rx ry ⟨c, z, rfl, rfl, q⟩
  | true => exact op_notIn_sign pins s σ H _ _ v u Q I rx ry ⟨c, z, rfl, rfl, q⟩
theorem op_inO (neg : Bool) : OpR X (compareOp (if neg then .NotIn else .In)) (rInO X neg) := by
  intro pins s σ H x y v u Q I rx ry h
  obtain ⟨b, C, dy, gs, f, k, fd, ps, sp, rfl, hb, M, F, hr, bd, h⟩ := h
  cases ry
  obtain ⟨mB, J, _⟩ := ins_get I.hok hb
  obtain ⟨od, J, _⟩ := J.look
  obtain ⟨m, hF⟩ := I.fr
  have key : wpAny (model X.prog X.w) X.A (call (.ref f) [.ref b, v]) (EP X pins σ fun w H' => ∃ r, w = .bl r ∧ Q (.bl (if neg then !r else r)) H') X.xe s := run_fn (us := [.ref b, v]) (vs := [.ref b, x]) F hr bd .nil passNo I (.cons rfl (.cons rx .nil)) h
  cases neg with
  | false =>
    refine PySem.W.in_K hF I.ok.mod.kin J M.at_ M.fn (wpAny_mono key (fun r s' q => ?_) fun _ _ z => z)
    obtain ⟨z, H', I', rz, b', rfl, q⟩ := q
    cases rz
    exact wpAny_truthy_bool ⟨.bl b', H', I', rfl, q⟩
  | true =>
    refine PySem.W.notIn_K hF I.ok.mod.kin J M.at_ M.fn (wpAny_mono key (fun r s' q => ?_) fun _ _ z => z)
    obtain ⟨z, H', I', rz, b', rfl, q⟩ := q
    cases rz
    exact wpAny_truthy_bool ⟨.bl (!b'), H', I', rfl, q⟩
theorem tyX_looks {pins : List (Addr × Obj)} {σ : L2.St} {H : Hp} {s : Shared} {x : V} {u t : Value} (I : Inv X pins σ H s) (rx : RelV x u) (ty : TyX X.K H x t) : PySem.W.Looks (model X.prog X.w) s.heap (typeOf u) t := by
  obtain ⟨P, Z, p, _⟩ := kit_of I rx ty
  exact Z.ty _ _ I.kIn p
theorem op_eqO (hu : X.A.units + 64 < cLine) : OpR X (compareOp .Eq) (rEqO X) := by
  intro pins s σ H x y v u Q I rx ry h
  obtain ⟨a, C, dx, fs, f, k, fd, ps, sp, tb, rfl, ha, ty, nf, M, F, hr, bd, h⟩ := h
  cases rx
  obtain ⟨mB, J, _⟩ := ins_get I.hok ha
  obtain ⟨od, J, _⟩ := J.look
  obtain ⟨m, hF⟩ := I.fr
  show wpAny (model X.prog X.w) X.A (richCompare .Eq (.ref a) u) (EP X pins σ Q) X.xe s
  refine PySem.W.cmp_K (op := .Eq) (by omega) hF I.ok.mod.kin J (tyX_looks I ry ty) nf M.at_ M.fn ?_
  refine wpAny_mono (run_fn (us := [.ref a, u]) (vs := [.ref a, y]) F hr bd .nil passNo I (.cons rfl (.cons ry .nil)) h) (fun r s' q => ?_) fun _ _ z => z
  obtain ⟨z, H', I', rz, q⟩ := q
  exact cmpBack (relV_ni rz) ⟨z, H', I', rz, q⟩
/-- x != y -/
def rNeO (X : Cx) : R2 := fun x y H Q => ∃ a C dx fs f k fd ps sp tb, x = .ref a ∧ H a = some (.ins C dx fs) ∧ TyX X.K H y tb ∧ PySem.W.notFirst X.K C tb = true ∧ PySem.W.mroIn X.K C (.type "object") = some true ∧ PySem.W.findIn X.K (.ref C) "__ne__" = some (some (.builtin "object.__ne__")) ∧ Meth X.K C "__eq__" f ∧
  FnOk X.prog X.w X.K X.mg X.base (L2N.CX X.prog X.w) k f fd ps sp ∧ Room (k + 1) X.A ∧ Binds X.K fd ps [] ∧ sp [x, y] H (fun v H' => ∃ r, v = .bl r ∧ Q (.bl (!r)) H') (fun _ _ _ => False)
theorem op_neO (hu : X.A.units + 64 < cLine) : OpR X (compareOp .NotEq) (rNeO X) := by
  intro pins s σ H x y v u Q I rx ry h
  obtain ⟨a, C, dx, fs, f, k, fd, ps, sp, tb, rfl, ha, ty, nf, hm, hn, M, F, hr, bd, h⟩ := h
  cases rx
  obtain ⟨mB, J, _⟩ := ins_get I.hok ha
  obtain ⟨od, J, _⟩ := J.look
  obtain ⟨m, hF⟩ := I.fr
  show wpAny (model X.prog X.w) X.A (richCompare .NotEq (.ref a) u) (EP X pins σ Q) X.xe s
  refine ne_K (by omega) hF I.ok.mod.kin J (tyX_looks I ry ty) nf hm hn M.at_ M.fn ?_
  refine wpAny_mono (run_fn1 (us := [.ref a, u]) (vs := [.ref a, y]) F hr bd .nil passNo I (.cons rfl (.cons ry .nil)) h) (fun r s' q => ?_) fun _ _ z => z
  obtain ⟨z, H', I', rz, b, rfl, q⟩ := q
  cases rz
  exact ⟨b, rfl, .bl (!b), H', I', rfl, q⟩
/-- data among data -/
def rInP (K : PySem.W.Frag) (neg : Bool) : R2 := fun x y H Q => ∃ xs d, (Dp K H y (.list xs) ∨ Dp K H y (.tuple xs)) ∧ Dp K H x d ∧ PyData.plainAll xs = true ∧ d.plain = true ∧ min (PyData.depthAll xs) d.depth < 32 ∧ Q (.bl (if neg then !(xs.any fun y => PyData.eqv y d) else xs.any fun y => PyData.eqv y d)) H
theorem op_inP (neg : Bool) (hu : X.A.units + 64 < cLine) : OpR X (compareOp (if neg then .NotIn else .In)) (rInP X.K neg) := by
  intro pins s σ H x y v u Q I rx ry h
  obtain ⟨xs, d, hy, hd, hp, hq, hz, q⟩ := h
  obtain ⟨bs, r2⟩ := Dp.reads I d x v hd rx
  rcases hy with hy | hy
  · obtain ⟨as, r1⟩ := Dp.reads I _ y u hy ry
    cases neg with
    | false => exact PySem.SeqAt.in_list_data r1 r2 hp hq (by omega) ⟨.bl _, H, I, rfl, q⟩
    | true => exact PySem.SeqAt.notIn_list_data r1 r2 hp hq (by omega) ⟨.bl _, H, I, rfl, q⟩
  · obtain ⟨as, r1⟩ := Dp.reads I _ y u hy ry
    cases neg with
    | false => exact PySem.SeqAt.in_tuple_data r1 r2 hp hq (by omega) ⟨.bl _, H, I, rfl, q⟩
    | true => exact PySem.SeqAt.notIn_tuple_data r1 r2 hp hq (by omega) ⟨.bl _, H, I, rfl, q⟩
def rInAll (X : Cx) (neg : Bool) : R2 := fun x y H Q => rIn X.K neg x y H Q ∨ (rInD neg x y H Q ∨ (rInK X.K X.w neg x y H Q ∨ (rInS neg x y H Q ∨ (rInO X neg x y H Q ∨ rInP X.K neg x y H Q))))
/-- < of data that are alike -/
def rLtD (K : PySem.W.Frag) : R2 := fun x y H Q => ∃ d e, Dp K H x d ∧ Dp K H y e ∧ PySem.W.alike d e = true ∧ d ≠ .none ∧ min d.depth e.depth < 64 ∧ Q (.bl (PySem.W.dataLt d e)) H
theorem op_ltD (hu : X.A.units + 64 < cLine) : OpR X (compareOp .Lt) (rLtD X.K) := by
  intro pins s σ H x y v u Q I rx ry h
  obtain ⟨d, e, hd, he, ha, hn, hz, q⟩ := h
  obtain ⟨as, r1⟩ := Dp.reads I d x v hd rx
  obtain ⟨bs, r2⟩ := Dp.reads I e y u he ry
  exact PySem.W.rcLt_alike d e _ _ _ _ _ _ r1 r2 ha hn (by omega) _ _ _ _ ⟨.bl _, H, I, rfl, q⟩
def rCmp (X : Cx) : Cop → R2
  | .eq => fun x y H Q => rEq x y H Q ∨ (rEqD X.K x y H Q ∨ rEqO X x y H Q)
  | .ne => fun x y H Q => rNe x y H Q ∨ (rNeD X.K x y H Q ∨ rNeO X x y H Q)
  | .lt => fun x y H Q => rI2 (fun i j => decide (i < j)) x y H Q ∨ rLtD X.K x y H Q
  | .le => rI2 fun i j => decide (i ≤ j)
  | .gt => rI2 fun i j => decide (j < i)
  | .ge => rI2 fun i j => decide (j ≤ i)
  | .isin => rInAll X false
  | .notin => rInAll X true
  | .is_ => fun x y H Q => (y = .non ∧ Q (.bl (decide (x = .non))) H) ∨ rIsB x y H Q
  | .isnot => fun x y H Q => (y = .non ∧ Q (.bl (!decide (x = .non))) H) ∨ rNotB x y H Q
theorem op_cmp (op : Cop) (hu : X.A.units + 64 < cLine) : OpR X (compareOp (copOf op)) (rCmp X op) := by
  cases op with
  | eq => exact OpR.or op_eq (OpR.or (op_eqD hu) (op_eqO hu))
  | ne => exact OpR.or op_ne (OpR.or (op_neD hu) (op_neO hu))
  | lt => exact OpR.or op_lt (op_ltD hu)
  | le => exact op_le
  | gt => exact op_gt
  | ge => exact op_ge
  | isin => exact OpR.or op_in_seq (OpR.or (op_inD false hu) (OpR.or (op_inK false) (OpR.or (op_inS false) (OpR.or (op_inO false) (op_inP false hu)))))
  | notin => exact OpR.or op_notIn_seq (OpR.or (op_inD true hu) (OpR.or (op_inK true) (OpR.or (op_inS true) (OpR.or (op_inO true) (op_inP true hu)))))
  | is_ => exact OpR.or op_isN op_isBl
  | isnot => exact OpR.or op_notN op_notBl
/-- scalars' == -/
theorem eqF_read {H : Hp} {v u : V} {x y : D} (hx : Den g H v x) (hy : Den g H u y) (sx : scalar x = true) (sy : scalar y = true) : (scal v u = true ∧ decide (v = u) = eqF x y) ∨ (∃ p q, Dp g.K H v p ∧ Dp g.K H u q ∧ SeqAt.shaped p = true ∧ SeqAt.shaped q = true ∧ PyData.eqv p q = eqF x y) := by
  cases hx <;> first | (cases sx; done) | skip
  all_goals (cases hy <;> first | (cases sy; done) | skip)
  all_goals first
    | (refine .inl ⟨rfl, ?_⟩; simp [eqF]; done)
    | (refine .inr ⟨_, _, .bl _, .int _, rfl, rfl, ?_⟩; simp only [PyData.eqv, eqF, Bool.beq_eq_decide_eq]; done)
    | (refine .inr ⟨_, _, .int _, .bl _, rfl, rfl, ?_⟩; simp only [PyData.eqv, eqF, Bool.beq_eq_decide_eq]; done)
theorem eqD_read {H : Hp} {v u : V} {x y : D} {b : Bool} (hx : Den g H v x) (hy : Den g H u y) (e : eqD x y = some b) : (scal v u = true ∧ decide (v = u) = b) ∨ (∃ p q, Dp g.K H v p ∧ Dp g.K H u q ∧ SeqAt.shaped p = true ∧ SeqAt.shaped q = true ∧ PyData.eqv p q = b) := by
  unfold eqD at e
  split at e
  · rename_i k
    cases e
    have k2 := Bool.and_eq_true_iff.mp k
    exact eqF_read hx hy k2.1 k2.2
  · split at e
    · rename_i p q e1 e2
      split at e
      · rename_i k
        cases e
        have k2 := Bool.and_eq_true_iff.mp k
        exact .inr ⟨p, q, hx.dp e1, hy.dp e2, k2.1, k2.2, rfl⟩
      · cases e
    · cases e
theorem flat_of {H : Hp} {v : V} {x : D} (h : Den g H v x) (s : scalar x = true) : flatV v = true := by
  cases h <;> first | rfl | cases s
theorem flats_of {H : Hp} : ∀ {vs : List V} {xs : List D}, Dens g H vs xs → xs.all scalar = true → vs.all flatV = true
  | _, _, .nil, _ => rfl
  | _, _, .cons h hs, s => by
    rw [List.all_cons, Bool.and_eq_true] at s
    rw [List.all_cons, flat_of h s.1, flats_of hs s.2]
    rfl
theorem eqV_of {H : Hp} {v u : V} {x y : D} (hx : Den g H v x) (hy : Den g H u y) (sx : scalar x = true) (sy : scalar y = true) : eqV v u = eqF x y := by
  cases hx <;> first | (cases sx; done) | skip
  all_goals (cases hy <;> first | (cases sy; done) | skip)
  all_goals first | rfl | (simp only [eqV, eqF, Bool.beq_eq_decide_eq]; done)
theorem inV_of {H : Hp} {v : V} {x : D} (hx : Den g H v x) (sx : scalar x = true) : ∀ {vs : List V} {xs : List D}, Dens g H vs xs → xs.all scalar = true → inV v vs = xs.any fun y => eqF y x
  | _, _, .nil, _ => rfl
  | _, _, .cons h hs, s => by
    rw [List.all_cons, Bool.and_eq_true] at s
    have ih := inV_of hx sx hs s.2
    unfold inV at ih ⊢
    rw [List.any_cons, List.any_cons, ih, eqV_of h hx s.1 sx]
theorem dOf_eq {x : DL.X} {d : D} (e : x.dOf = some d) : x = .d d := by
  cases x with
  | d y => cases e; rfl
  | r k => cases e
theorem isN_eq {x : DL.X} (e : isN x = true) : x = .d .non := by
  unfold isN at e
  split at e
  · rfl
  · cases e
theorem intX_eq {x : DL.X} {i : Int} (e : intX x = some i) : x = .d (.int i) := by
  unfold intX at e
  split at e
  · cases e; rfl
  · cases e
theorem isN_V {H0 : Hp} {ι : List Addr} {v : V} {x : DL.X} (h : XDen g H0 ι v x) : decide (v = V.non) = isN x := by
  cases x with
  | d y =>
    have h : Den g H0 v y := h
    cases h <;> simp [isN]
  | r k =>
    obtain ⟨a, _, rfl⟩ := h
    simp [isN]
section
variable {σ : L2.St} {ρ : Env} {H0 H : Hp} {ι : List Addr} {μ : Mu} {v u : V} {x y : DL.X} {b : Bool}
theorem eqX_read (r : Rel g H0 H σ ρ μ ι) (hx : XDen g H0 ι v x) (hy : XDen g H0 ι u y) (e : eqX μ x y = some b) : (scal v u = true ∧ decide (v = u) = b) ∨ (∃ p q, Dp g.K H v p ∧ Dp g.K H u q ∧ SeqAt.shaped p = true ∧ SeqAt.shaped q = true ∧ PyData.eqv p q = b) := by
  unfold eqX at e
  obtain ⟨a, e1, e'⟩ := Option.bind_eq_some_iff.mp e
  obtain ⟨c, e2, e3⟩ := Option.bind_eq_some_iff.mp e'
  clear e e'
  have e := e3
  clear e3
  exact eqD_read (r.den hx e1) (r.den hy e2) e
theorem keyOf_den {H : Hp} {v : V} {x : D} {q : DK} (d : Den g H v x) (e : keyOf x = some q) : ∃ k, DKey k q ∧ v = kV k := by
  cases d <;> first | (cases e; done) | skip
  · cases e
    exact ⟨.inl _, .i _, rfl⟩
  · cases e
    exact ⟨.inr _, .s _, rfl⟩
theorem dkey_eq {k k' : Key} {q q' : DK} (h : DKey k q) (h' : DKey k' q') : (k' = k ↔ q = q') := by
  cases h <;> cases h' <;> simp [eq_comm]
theorem denk_get {H : Hp} {k : Key} {q : DK} (hk : DKey k q) : ∀ {ks : List (Key × V)} {kvs : List (DK × D)}, Denk g H ks kvs → (kvs.lookup q = none ∧ valV ks k = none) ∨ (∃ d v, kvs.lookup q = some d ∧ valV ks k = some v ∧ Den g H v d)
  | _, _, .nil => .inl ⟨rfl, rfl⟩
  | _, _, .cons (k := k') (q := q') (v := v) (vs := vs) (d := d) h hv hs => by
    have e := dkey_eq hk h
    rw [List.lookup_cons]
    unfold valV
    rw [List.find?_cons]
    by_cases c : q = q'
    · have c2 : k' = k := e.mpr c
      have b1 : (q == q') = true := by simp [c]
      rw [b1]
      simp only [c2, decide_true, Option.map_some]
      exact .inr ⟨d, v, rfl, rfl, hv⟩
    · have c2 : ¬ k' = k := fun z => c (e.mp z)
      have b1 : (q == q') = false := by simpa using c
      rw [b1]
      simp only [c2, decide_false]
      exact denk_get hk hs
theorem viewS_den (r : Rel g H0 H σ ρ μ ι) (h : XDen g H0 ι v x) {d : D} (e : viewS μ x = some d) (n : ∀ ds, d ≠ .lst ds) : Den g H v d := by
  unfold viewS at e
  obtain ⟨z, e1, e2⟩ := Option.map_eq_some_iff.mp e
  have hz := r.den h e1
  cases z <;> first | (cases e2; exact (n _ rfl).elim) | (cases e2; exact hz)
theorem inP_parts {x : D} {ys : List D} {b : Bool} (e : inP x ys = some b) : ∃ ps p, toPs ys = some ps ∧ toP x = some p ∧ PyData.plainAll ps = true ∧ p.plain = true ∧ min (PyData.depthAll ps) p.depth < 32 ∧ (ps.any fun y => PyData.eqv y p) = b := by
  unfold inP at e
  split at e
  · rename_i p ps e1 e2
    split at e
    · rename_i h
      simp only [Bool.and_eq_true, decide_eq_true_eq] at h
      cases e
      exact ⟨ps, p, e2, e1, h.1.2, h.1.1, h.2, rfl⟩
    · cases e
  · cases e
theorem inX_read {neg : Bool} {Q : VK} (hK : X.K = g.K) (hw : X.w = g.w) (r : Rel g H0 H σ ρ μ ι) (hx : XDen g H0 ι v x) (hy : XDen g H0 ι u y) (e : inX μ x y = some b) (q : Q (.bl (if neg then !b else b)) H) : rInAll X neg v u H Q := by
  unfold inX at e
  obtain ⟨a, e1, e'⟩ := Option.bind_eq_some_iff.mp e
  obtain ⟨c, e2, e3⟩ := Option.bind_eq_some_iff.mp e'
  clear e e'
  have e := e3
  clear e3
  cases dOf_eq e1
  have hx' : Den g H0 v a := hx
  unfold inD at e
  split at e
  · split at e
    · rename_i ys k
      cases e
      have k2 := Bool.and_eq_true_iff.mp k
      obtain ⟨p, vs, e1, e2, e3⟩ := r.viewL hy e2
      exact .inl ⟨p, vs, e1, .inl (by rw [hK]; exact e2), flat_of hx' k2.1, flats_of e3 k2.2, by rw [inV_of hx' k2.1 e3 k2.2]; exact q⟩
    · obtain ⟨p, vs, f1, f2, f3⟩ := r.viewL hy e2
      obtain ⟨ps, d, g1, g2, g3, g4, g5, g6⟩ := inP_parts e
      subst f1
      exact .inr (.inr (.inr (.inr (.inr ⟨ps, d, .inl (by rw [hK]; exact .lst f2 ((f3.mono r.ex).dp g1)), by rw [hK]; exact (Den.mono r.ex hx').dp g2, g3, g4, g5, by rw [g6]; exact q⟩))))
  · split at e
    · rename_i ys k
      cases e
      have k2 := Bool.and_eq_true_iff.mp k
      obtain ⟨p, vs, e1, e2, e3⟩ := r.viewT hy e2
      exact .inl ⟨p, vs, e1, .inr (by rw [hK]; exact e2), flat_of hx' k2.1, flats_of e3 k2.2, by rw [inV_of hx' k2.1 e3 k2.2]; exact q⟩
    · obtain ⟨p, vs, f1, f2, f3⟩ := r.viewT hy e2
      obtain ⟨ps, d, g1, g2, g3, g4, g5, g6⟩ := inP_parts e
      subst f1
      exact .inr (.inr (.inr (.inr (.inr ⟨ps, d, .inr (by rw [hK]; exact .tup f2 ((f3.mono r.ex).dp g1)), by rw [hK]; exact (Den.mono r.ex hx').dp g2, g3, g4, g5, by rw [g6]; exact q⟩))))
  · rename_i kvs
    obtain ⟨k, ek, rfl⟩ := Option.map_eq_some_iff.mp e
    obtain ⟨p, ks, rfl, h2, h3⟩ := r.viewK hy e2
    obtain ⟨key, hk, rfl⟩ := keyOf_den hx' ek
    refine .inr (.inl ⟨p, valV ks key, rfl, .inl ⟨ks, key, .inl h2, rfl, rfl⟩, ?_⟩)
    unfold dget at q
    rcases denk_get hk h3 with ⟨h4, h5⟩ | ⟨d, w, h4, h5, _⟩
    · rw [h4] at q; rw [h5]; exact q
    · rw [h4] at q; rw [h5]; exact q
  · split at e
    · rename_i kvs _ z
      cases e
      have hd := viewS_den r hy e2 (fun _ z => nomatch z)
      cases hx'
      cases hd with
      | kdic hk =>
        obtain ⟨es, n, D, hz⟩ := hk
        obtain ⟨r', h1, h2⟩ := hz z
        rw [← hK, ← hw] at D
        rw [← hK] at h1
        refine .inr (.inr (.inl ⟨_, z, es, n, r', rfl, rfl, D, h1, ?_⟩))
        have : r'.isSome = (kvs.lookup z).isSome := by
          cases q1 : kvs.lookup z <;> cases r' <;> rw [q1] at h2 <;> first | rfl | exact h2.elim
        rw [this]
        exact q
    · cases e
  · split at e
    · rename_i s _ z
      split at e
      · rename_i ch ec
        cases e
        have hd := viewS_den r hy e2 (fun _ z => nomatch z)
        cases hx'
        cases hd
        refine .inr (.inr (.inr (.inl ⟨ch, s, ?_, rfl, q⟩)))
        obtain ⟨cps⟩ := z
        have ec : cps.toList = [ch] := ec
        have : cps = #[ch] := by rw [← Array.toArray_toList (xs := cps), ec]
        rw [this]
      · cases e
    · cases e
  · cases e
theorem ints_read {f : Int → Int → Bool} {Q : VK} (hx : XDen g H0 ι v x) (hy : XDen g H0 ι u y) (e : ((intX x).bind fun i => (intX y).map fun j => f i j) = some b) (q : Q (.bl b) H) : rI2 f v u H Q := by
  obtain ⟨i, e1, e'⟩ := Option.bind_eq_some_iff.mp e
  obtain ⟨j, e2, e3⟩ := Option.map_eq_some_iff.mp e'
  clear e e'
  cases intX_eq e1
  cases intX_eq e2
  have hx' : Den g H0 v (.int i) := hx
  have hy' : Den g H0 u (.int j) := hy
  cases hx'
  cases hy'
  exact ⟨i, j, rfl, rfl, by rw [← e3] at q; exact q⟩
theorem ltX_read {Q : VK} (hK : X.K = g.K) (r : Rel g H0 H σ ρ μ ι) (hx : XDen g H0 ι v x) (hy : XDen g H0 ι u y) (e : ltX x y = some b) (q : Q (.bl b) H) : rI2 (fun i j => decide (i < j)) v u H Q ∨ rLtD X.K v u H Q := by
  unfold ltX at e
  split at e
  · rename_i i j e1 e2
    cases e
    cases intX_eq e1
    cases intX_eq e2
    have hx' : Den g H0 v (.int i) := hx
    have hy' : Den g H0 u (.int j) := hy
    cases hx'
    cases hy'
    exact .inl ⟨i, j, rfl, rfl, q⟩
  · obtain ⟨a, e1, e'⟩ := Option.bind_eq_some_iff.mp e
    obtain ⟨c, e2, e3⟩ := Option.bind_eq_some_iff.mp e'
    cases dOf_eq e1
    cases dOf_eq e2
    have hx' : Den g H v a := r.den hx rfl
    have hy' : Den g H u c := r.den hy rfl
    unfold ltDt at e3
    split at e3
    · rename_i p p' q1 q2
      split at e3
      · rename_i k
        cases e3
        obtain ⟨k1, k2⟩ := Bool.and_eq_true_iff.mp k
        obtain ⟨k2, k3⟩ := Bool.and_eq_true_iff.mp k2
        refine .inr ⟨p, p', by rw [hK]; exact hx'.dp q1, by rw [hK]; exact hy'.dp q2, k1, ?_, of_decide_eq_true k3, q⟩
        rintro rfl
        cases k2
      · cases e3
    · cases e3
theorem cmpD_read {op : Cop} {Q : VK} (hK : X.K = g.K) (hw : X.w = g.w) (r : Rel g H0 H σ ρ μ ι) (hx : XDen g H0 ι v x) (hy : XDen g H0 ι u y) (e : cmpD μ op x y = some b) (q : Q (.bl b) H) : rCmp X op v u H Q := by
  cases op with
  | eq =>
    rcases eqX_read r hx hy e with ⟨h1, h2⟩ | ⟨p, p', h1, h2, h3, h4, h5⟩
    · exact .inl ⟨h1, by rw [h2]; exact q⟩
    · exact .inr (.inl ⟨p, p', by rw [hK]; exact h1, by rw [hK]; exact h2, h3, h4, by rw [h5]; exact q⟩)
  | ne =>
    obtain ⟨c, e1, e2⟩ := Option.map_eq_some_iff.mp (show (eqX μ x y).map not = some b from e)
    subst e2
    rcases eqX_read r hx hy e1 with ⟨h1, h2⟩ | ⟨p, p', h1, h2, h3, h4, h5⟩
    · exact .inl ⟨h1, by rw [h2]; exact q⟩
    · exact .inr (.inl ⟨p, p', by rw [hK]; exact h1, by rw [hK]; exact h2, h3, h4, by rw [h5]; exact q⟩)
  | lt => exact ltX_read hK r hx hy e q
  | le => exact ints_read hx hy e q
  | gt => exact ints_read hx hy e q
  | ge => exact ints_read hx hy e q
  | isin => exact inX_read (neg := false) hK hw r hx hy e q
  | notin =>
    obtain ⟨c, e1, e2⟩ := Option.map_eq_some_iff.mp (show (inX μ x y).map not = some b from e)
    subst e2
    exact inX_read (neg := true) hK hw r hx hy e1 q
  | is_ =>
    have e : isNX x y = some b := e
    unfold isNX at e
    split at e
    · cases e
      cases (show Den g H0 u .non from hy)
      exact .inl ⟨rfl, by rw [isN_V hx]; exact q⟩
    · split at e
      · cases e
        cases (show Den g H0 u (.bl _) from hy)
        cases (show Den g H0 v (.bl _) from hx)
        exact .inr ⟨_, _, rfl, rfl, q⟩
      · cases e
    · cases e
  | isnot =>
    obtain ⟨c, e1, e2⟩ := Option.map_eq_some_iff.mp (show (isNX x y).map not = some b from e)
    subst e2
    unfold isNX at e1
    split at e1
    · cases e1
      cases (show Den g H0 u .non from hy)
      exact .inl ⟨rfl, by rw [isN_V hx]; exact q⟩
    · split at e1
      · cases e1
        cases (show Den g H0 u (.bl _) from hy)
        cases (show Den g H0 v (.bl _) from hx)
        exact .inr ⟨_, _, rfl, rfl, q⟩
      · cases e1
    · cases e1
theorem tyX_of (O : Own g X P k) (r : Rel g H0 H σ ρ μ ι) (d : XDen g H0 ι v x) (e : eqTo μ x = true) : ∃ t, TyX X.K H v t ∧ ∀ c, c < g.nC → PySem.W.notFirst X.K (g.cA c) t = true := by
  cases q : insOf μ x with
  | some c =>
    obtain ⟨hc, a, dx, vf, rfl, ha, _⟩ := insOf_read r d q
    have C := O.cls c hc
    refine ⟨.ref (g.cA c), ?_, fun c' hc' => ?_⟩
    · rw [O.K]
      exact .base (.ins ha C.cl C.ha C.hn C.htk C.hm)
    · rw [O.K]
      exact (O.cls c' hc').nfo c hc
  | none =>
    unfold eqTo at e
    rw [q] at e
    cases x with
    | r n => cases e
    | d y =>
      have d : Den g H0 v y := d
      by_cases hl : ∃ ds, y = .lst ds
      · obtain ⟨ds, rfl⟩ := hl
        cases d with
        | lst h hs => exact ⟨_, rd_tyL (.inl (.inl (r.ex _ _ h))), fun c hc => by rw [O.K]; exact (O.cls c hc).nf _ (by simp [kinds])⟩
      by_cases ht : ∃ ds, y = .tup ds
      · obtain ⟨ds, rfl⟩ := ht
        cases d with
        | tup h hs => exact ⟨_, rd_tyT (by rw [O.K]; exact ex_t r.ex h), fun c hc => by rw [O.K]; exact (O.cls c hc).nf _ (by simp [kinds])⟩
      have e : scalar y = true := by
        cases y <;> first | exact e | (exact (hl ⟨_, rfl⟩).elim; done) | (exact (ht ⟨_, rfl⟩).elim; done)
      cases d <;> first | (cases e; done) | skip
      · exact ⟨_, .base .non, fun c hc => by rw [O.K]; exact (O.cls c hc).nf _ (by simp [kinds])⟩
      · exact ⟨_, .base (.bl _), fun c hc => by rw [O.K]; exact (O.cls c hc).nf _ (by simp [kinds])⟩
      · exact ⟨_, .base (.int _), fun c hc => by rw [O.K]; exact (O.cls c hc).nf _ (by simp [kinds])⟩
      · exact ⟨_, .base (.str _), fun c hc => by rw [O.K]; exact (O.cls c hc).nf _ (by simp [kinds])⟩
theorem boolR_some {r : R DL.X} {Q : Bool → Hp → Prop} (h : Post g W σ ρ rB H0 H ι (boolR (quiet r)) Q) : Post g W σ ρ (rX g) H0 H ι (quiet r) fun v H' => ∃ b, v = .bl b ∧ Q b H' := by
  cases r with
  | ok x μ' =>
    cases x with
    | r k => exact h.elim
    | d y =>
      cases y <;> first | (exact h.elim; done) | skip
      intro v A B C s t d
      cases (show Den g A v (.bl _) from d)
      exact ⟨_, rfl, h _ A B C s t rfl⟩
  | er x μ' => exact h.elim
  | no => exact h.elim
theorem notR_some {r : R Bool} {Q : Bool → Hp → Prop} (h : Post g W σ ρ rB H0 H ι (notR r) Q) : Post g W σ ρ rB H0 H ι r fun b H' => Q (!b) H' := by
  cases r with
  | ok x μ' =>
    intro v A B C s t d
    have d : v = x := d
    subst d
    exact h _ A B C s t rfl
  | er x μ' => exact h
  | no => exact h
theorem cmpX_read {op : Cop} {Q : VK} (O : Own g X P k) (hw : X.w = g.w) (r : Rel g H0 H σ ρ μ ι) (hx : XDen g H0 ι v x) (hy : XDen g H0 ι u y) (h : Post g W σ ρ rB H0 H ι (cmpX P op x y μ) fun b H' => Q (.bl b) H') : rCmp X op v u H Q := by
  unfold cmpX at h
  split at h
  · rename_i ro e
    have own : ∀ (neg : Bool) (c : Nat), insOf μ y = some c → Post g W σ ρ rB H0 H ι (boolR (ownM P c "__contains__" [y, x] μ)) (fun b H' => Q (.bl (if neg then !b else b)) H') → rInAll X neg v u H Q := fun neg c ec h => by
      unfold ownM at h
      cases em : P.methOf c "__contains__" with
      | none => rw [em] at h; exact h.elim
      | some j =>
        rw [em] at h
        obtain ⟨hc, b, dy, vg, eb, hb, _⟩ := insOf_read r hy ec
        obtain ⟨fd, ps, M, _, F, bd⟩ := O.meth c _ j hc em
        have bd := bd (by decide +kernel)
        rw [← O.K] at M
        exact .inr (.inr (.inr (.inr (.inl ⟨b, _, _, _, _, _, fd, ps, _, eb, hb, M, F, O.room.mono (Nat.le_succ k), bd, sp_quiet r (.cons hy (.cons hx .nil)) (boolR_some h)⟩))))
    cases op <;> first | (cases e; done) | skip
    · -- ==
      obtain ⟨c, ec, rfl⟩ := Option.map_eq_some_iff.mp (show (insOf μ x).map _ = some ro from e)
      split at h
      · rename_i ky
        unfold ownM at h
        cases em : P.methOf c "__eq__" with
        | none => rw [em] at h; exact h.elim
        | some j =>
          rw [em] at h
          obtain ⟨hc, b, dy, vg, eb, hb, _⟩ := insOf_read r hx ec
          obtain ⟨fd, ps, M, _, F, bd⟩ := O.meth c _ j hc em
          have bd := bd (by decide +kernel)
          rw [← O.K] at M
          obtain ⟨tb, ty, nf⟩ := tyX_of O r hy ky
          refine .inr (.inr ⟨b, _, _, _, _, _, fd, ps, _, tb, eb, hb, ty, nf c hc, M, F, O.room.mono (Nat.le_succ k), bd, ?_⟩)
          refine sp_quiet (W := W) r (.cons hx (.cons hy .nil)) ?_
          have h2 := boolR_some h
          cases q : quiet (P.C1 j [x, y] μ) with
          | ok z μ' =>
            rw [q] at h2
            intro v A B C s t d
            obtain ⟨b, rfl, h3⟩ := h2 v A B C s t d
            exact h3
          | er z μ' =>
            rw [q] at h2
            exact h2
          | no => rw [q] at h2; exact h2
      · exact h.elim
    · -- !=
      obtain ⟨c, ec, rfl⟩ := Option.map_eq_some_iff.mp (show (insOf μ x).map _ = some ro from e)
      split at h
      · rename_i ky
        have h := notR_some h
        unfold ownM at h
        cases em : P.methOf c "__eq__" with
        | none => rw [em] at h; exact h.elim
        | some j =>
          rw [em] at h
          obtain ⟨hc, b, dy, vg, eb, hb, _⟩ := insOf_read r hx ec
          obtain ⟨fd, ps, M, _, F, bd⟩ := O.meth c _ j hc em
          have bd := bd (by decide +kernel)
          have C := O.cls c hc
          have hm := C.hm
          have hn := C.ne
          rw [← O.K] at M hm hn
          obtain ⟨tb, ty, nf⟩ := tyX_of O r hy ky
          exact .inr (.inr ⟨b, _, _, _, _, _, fd, ps, _, tb, eb, hb, ty, nf c hc, hm, hn, M, F, O.room, bd, sp_quiet r (.cons hx (.cons hy .nil)) (boolR_some h)⟩)
      · exact h.elim
    · obtain ⟨c, ec, rfl⟩ := Option.map_eq_some_iff.mp (show (insOf μ y).map _ = some ro from e)
      exact own false c ec h
    · obtain ⟨c, ec, rfl⟩ := Option.map_eq_some_iff.mp (show (insOf μ y).map _ = some ro from e)
      exact own true c ec (notR_some h)
  · cases q : cmpD μ op x y with
    | none => rw [q] at h; exact h.elim
    | some z =>
      rw [q] at h
      exact cmpD_read O.K hw r hx hy q (h.now r rfl)
end
section
variable {a b c : Expr} {ia ib ic : E}
theorem post_b {σ : L2.St} {ρ : Env} {H0 H : Hp} {ι : List Addr} {r : R Bool} {Q : VK} (h : Post g W σ ρ (rX g) H0 H ι (r.bind fun b μ => .ok (.d (.bl b)) μ) Q) : Post g W σ ρ rB H0 H ι r fun b H' => Q (.bl b) H' := by
  cases r with
  | ok b μ' =>
    intro v A B C s t d
    have d : v = b := d
    subst d
    exact h _ A B C s t (Den.bl _)
  | er e μ' => exact h
  | no => exact h
variable {k : Nat}
theorem se_cmp {op : Cop} (O : Own g X P k) (hw : X.w = g.w) (hu : X.A.units + 64 < cLine) (ha : SE g W X a (evE P ia)) (hb : SE g W X b (evE P ib)) (hm : behindInMarks (copOf op) b = false) : SE g W X (.Compare a [copOf op] [b] pos) (evE P (.cmp op ia ib)) := PE_imp (pe_cmpR (op_cmp op hu) ha hb hm) fun σ H Q ⟨H0, ρ, μ, ι, r, h⟩ => by
  simp only [evE] at h
  refine run_bind r h fun v x μ1 A1 H1 ι1 s1 r1 d1 h => ?_
  refine run_bind r1 h fun v2 y μ2 A2 H2 ι2 s2 r2 d2 h => ?_
  exact cmpX_read O hw r2 (d1.stp s2) d2 (post_b h)
theorem st_cmp {op : Cop} (O : Own g X P k) (hw : X.w = g.w) (hu : X.A.units + 64 < cLine) (ha : SE g W X a (evE P ia)) (hb : SE g W X b (evE P ib)) (hm : behindInMarks (copOf op) b = false) : ST g W X (.Compare a [copOf op] [b] pos) (evT P (.cmp op ia ib)) := PT_imp (pt_cmpR (op_cmp op hu) ha hb hm) fun σ H Q ⟨H0, ρ, μ, ι, r, h⟩ => by
  simp only [evT] at h
  refine run_bind r h fun v x μ1 A1 H1 ι1 s1 r1 d1 h => ?_
  refine run_bind r1 h fun v2 y μ2 A2 H2 ι2 s2 r2 d2 h => ?_
  refine cmpX_read (W := W) O hw r2 (d1.stp s2) d2 ?_
  cases q : cmpX P op x y μ2 with
  | ok b μ' =>
    rw [q] at h
    exact fun v A B C s t d => ⟨v, rfl, h v A B C s t d⟩
  | er e μ' => rw [q] at h; exact h
  | no => rw [q] at h; exact h
theorem run_cmp {op : Cop} {σ : L2.St} {ρ : Env} {H0 H : Hp} {ι : List Addr} {μ : Mu} {v u : V} {x y : DL.X} {α β : Type} {rel : Hp → List Addr → β → α → Prop} {f : Bool → Mu → R α} {Q' : β → Hp → Prop} {Q : VK} (O : Own g X P k) (hw : X.w = g.w) (r : Rel g H0 H σ ρ μ ι) (hx : XDen g H0 ι v x) (hy : XDen g H0 ι u y)
    (h : Post g W σ ρ rel H0 H ι ((cmpX P op x y μ).bind f) Q') (hk : ∀ b μ' A' H' ι', Stp H0 H ι A' H' ι' → Rel g A' H' σ ρ μ' ι' → Post g W σ ρ rel A' H' ι' (f b μ') Q' → Q (.bl b) H') : rCmp X op v u H Q := by
  refine cmpX_read (W := W) O hw r hx hy ?_
  cases q : cmpX P op x y μ with
  | ok b μ' =>
    rw [q] at h
    intro v A B C s t d
    have d : v = b := d
    subst d
    exact hk _ _ A B C s t (Post.step s h)
  | er e μ' => rw [q] at h; exact h
  | no => rw [q] at h; exact h
theorem se_chain {o1 o2 : Cop} (O : Own g X P k) (hw : X.w = g.w) (hu : X.A.units + 64 < cLine) (ha : SE g W X a (evE P ia)) (hb : SE g W X b (evE P ib)) (hc : SE g W X c (evE P ic)) (hm : lastMarks [copOf o1, copOf o2] [b, c] = false) :
    SE g W X (.Compare a [copOf o1, copOf o2] [b, c] pos) (evE P (.chain o1 o2 ia ib ic)) := PE_imp (pe_chain (op_cmp o1 hu) (op_cmp o2 hu) ha hb hc hm) fun σ H Q ⟨H0, ρ, μ, ι, r, h⟩ => by
  simp only [evE] at h
  refine run_bind r h fun v x μ1 A1 H1 ι1 s1 r1 d1 h => ?_
  refine run_bind r1 h fun v2 y μ2 A2 H2 ι2 s2 r2 d2 h => ?_
  refine run_cmp O hw r2 (d1.stp s2) d2 h fun k' μ3 A3 H3 ι3 s3 r3 h => ⟨k', rfl, ?_⟩
  cases k' with
  | false => exact iteF (h.now r3 (Den.bl false))
  | true =>
    refine iteT ?_
    simp only [if_true] at h
    refine run_bind r3 h fun v3 z μ4 A4 H4 ι4 s4 r4 d4 h => ?_
    exact cmpX_read O hw r4 ((d2.stp s3).stp s4) d4 (post_b h)
theorem st_chain {o1 o2 : Cop} (O : Own g X P k) (hw : X.w = g.w) (hu : X.A.units + 64 < cLine) (ha : SE g W X a (evE P ia)) (hb : SE g W X b (evE P ib)) (hc : SE g W X c (evE P ic)) (hm : lastMarks [copOf o1, copOf o2] [b, c] = false) :
    ST g W X (.Compare a [copOf o1, copOf o2] [b, c] pos) (evT P (.chain o1 o2 ia ib ic)) := PT_imp (pt_chain (op_cmp o1 hu) (op_cmp o2 hu) ha hb hc hm) fun σ H Q ⟨H0, ρ, μ, ι, r, h⟩ => by
  simp only [evT] at h
  refine run_bind r h fun v x μ1 A1 H1 ι1 s1 r1 d1 h => ?_
  refine run_bind r1 h fun v2 y μ2 A2 H2 ι2 s2 r2 d2 h => ?_
  refine run_cmp O hw r2 (d1.stp s2) d2 h fun k' μ3 A3 H3 ι3 s3 r3 h => ⟨k', rfl, ?_⟩
  cases k' with
  | false => exact iteF ⟨_, rfl, h.now r3 rfl⟩
  | true =>
    refine iteT ?_
    simp only [if_true] at h
    refine run_bind r3 h fun v3 z μ4 A4 H4 ι4 s4 r4 d4 h => ?_
    refine cmpX_read (W := W) O hw r4 ((d2.stp s3).stp s4) d4 ?_
    cases q : cmpX P o2 y z μ4 with
    | ok b μ' =>
      rw [q] at h
      exact fun v A B C s t d => ⟨v, rfl, h v A B C s t d⟩
    | er e μ' => rw [q] at h; exact h
    | no => rw [q] at h; exact h
end
end
end DL
/-! DL4: expressions, on. -/
namespace DL
open PySem PySem.Spec PyProof.Rows L2
section
variable {g : G} {X : Cx} {W : WX} {P : Par} {pos : Pos}
section
variable {a b c : Expr} {ia ib ic : E} {it it2 : T} {es rest : List Expr} {ies : Es} {its : Ts}
/-! ### and, or, not, if -/
def boOf : Bool → BoolOp
  | true => .And
  | false => .Or
theorem se_bop1 {cj : Bool} (ha : SE g W X a (evE P ia)) : SE g W X (.BoolOp (boOf cj) [a] pos) (evE P (.bop cj (.cons ia .nil))) := PE_imp (pe_one ha) fun σ H Q ⟨H0, ρ, μ, ι, r, h⟩ => by
  simp only [evE, evB] at h
  exact run_bind r h fun v x μ1 A1 H1 ι1 s1 r1 d1 h => h.now r1 d1
theorem se_bop {cj : Bool} {ie : E} {ir : Es} (ha : SE g W X a (evE P ia)) (hb : SE g W X (.BoolOp (boOf cj) (b :: rest) pos) (evE P (.bop cj (.cons ie ir)))) :
    SE g W X (.BoolOp (boOf cj) (a :: b :: rest) pos) (evE P (.bop cj (.cons ia (.cons ie ir)))) := by
  cases cj with
  | true =>
    refine PE_imp (pe_and ha hb) fun σ H Q ⟨H0, ρ, μ, ι, r, h⟩ => ?_
    simp only [evE] at h
    rw [evB] at h
    refine run_bind r h fun v x μ1 A1 H1 ι1 s1 r1 d1 h => ?_
    dsimp only at h
    split at h
    · rename_i k
      cases d1
      refine ⟨k, rfl, ?_⟩
      cases k with
      | true =>
        refine iteT ?_
        rw [if_pos rfl] at h
        refine ⟨A1, ρ, μ1, ι1, r1, ?_⟩
        simp only [evE]
        exact h
      | false =>
        refine iteF ?_
        rw [if_neg (by decide)] at h
        exact h.now r1 (Den.bl false)
    · exact h.elim
  | false =>
    refine PE_imp (pe_or ha hb) fun σ H Q ⟨H0, ρ, μ, ι, r, h⟩ => ?_
    simp only [evE] at h
    rw [evB] at h
    refine run_bind r h fun v x μ1 A1 H1 ι1 s1 r1 d1 h => ?_
    dsimp only at h
    split at h
    · rename_i k
      cases d1
      refine ⟨k, rfl, ?_⟩
      cases k with
      | true =>
        refine iteT ?_
        rw [if_neg (by decide)] at h
        exact h.now r1 (Den.bl true)
      | false =>
        refine iteF ?_
        rw [if_pos rfl] at h
        refine ⟨A1, ρ, μ1, ι1, r1, ?_⟩
        simp only [evE]
        exact h
    · exact h.elim
theorem se_not (ha : SE g W X a (evE P ia)) : SE g W X (.UnaryOp .Not a pos) (evE P (.not ia)) := PE_imp (pe_not ha) fun σ H Q ⟨H0, ρ, μ, ι, r, h⟩ => by
  simp only [evE] at h
  refine run_bind r h fun v x μ1 A1 H1 ι1 s1 r1 d1 h => ?_
  split at h
  · rename_i k
    cases d1
    exact ⟨k, rfl, h.now r1 (Den.bl _)⟩
  · exact h.elim
theorem se_ife (hc : ST g W X c (evT P it)) (ha : SE g W X a (evE P ia)) (hb : SE g W X b (evE P ib)) : SE g W X (.IfExp c a b pos) (evE P (.ife it ia ib)) := PE_imp (pe_ifExp hc ha hb) fun σ H Q ⟨H0, ρ, μ, ι, r, h⟩ => by
  simp only [evE] at h
  refine run_bind r h fun k k' μ1 A1 H1 ι1 s1 r1 d1 h => ?_
  have d1 : k = k' := d1
  subst d1
  cases k with
  | true => exact iteT (run_of r1 h)
  | false => exact iteF (run_of r1 h)
abbrev SW (g : G) (W : WX) (X : Cx) (e : Expr) (ev : Env → Mu → R Bool) : Prop := PW X e (tT g W ev)
theorem sw_bop1 {cj : Bool} (ha : ST g W X a (evT P it)) : SW g W X (.BoolOp (boOf cj) [a] pos) (evT P (.bop cj (.cons it .nil))) := by
  have go : ∀ σ H Q, tT g W (evT P (.bop cj (.cons it .nil))) σ H Q → tT g W (evT P it) σ H Q := fun σ H Q ⟨H0, ρ, μ, ι, r, h⟩ => by
    simp only [evT, evTs] at h
    refine run_bind r h fun k k' μ1 A1 H1 ι1 s1 r1 d1 h => ?_
    have d1 : k = k' := d1
    subst d1
    split at h
    · rename_i q
      rw [q]
      exact h.now r1 rfl
    · exact h.now r1 rfl
  cases cj with
  | true => exact PW_imp (pw_and1 ha) go
  | false => exact PW_imp (pw_or1 ha) go
theorem sw_bop {cj : Bool} {ie : T} {ir : Ts} (ha : ST g W X a (evT P it)) (hb : SW g W X (.BoolOp (boOf cj) (b :: rest) pos) (evT P (.bop cj (.cons ie ir)))) :
    SW g W X (.BoolOp (boOf cj) (a :: b :: rest) pos) (evT P (.bop cj (.cons it (.cons ie ir)))) := by
  cases cj with
  | true =>
    refine PW_imp (pw_and ha hb) fun σ H Q ⟨H0, ρ, μ, ι, r, h⟩ => ?_
    simp only [evT] at h
    rw [evTs] at h
    refine run_bind r h fun k k' μ1 A1 H1 ι1 s1 r1 d1 h => ?_
    have d1 : k = k' := d1
    subst d1
    cases k with
    | true =>
      refine iteT ⟨A1, ρ, μ1, ι1, r1, ?_⟩
      rw [if_pos rfl] at h
      simp only [evT]
      exact h
    | false =>
      refine iteF ?_
      rw [if_neg (by decide)] at h
      exact h.now r1 rfl
  | false =>
    refine PW_imp (pw_or ha hb) fun σ H Q ⟨H0, ρ, μ, ι, r, h⟩ => ?_
    simp only [evT] at h
    rw [evTs] at h
    refine run_bind r h fun k k' μ1 A1 H1 ι1 s1 r1 d1 h => ?_
    have d1 : k = k' := d1
    subst d1
    cases k with
    | false =>
      refine iteF ⟨A1, ρ, μ1, ι1, r1, ?_⟩
      rw [if_pos rfl] at h
      simp only [evT]
      exact h
    | true =>
      refine iteT ?_
      rw [if_neg (by decide)] at h
      exact h.now r1 rfl
theorem st_not (ha : ST g W X a (evT P it)) : ST g W X (.UnaryOp .Not a pos) (evT P (.not it)) := PT_imp (pt_not ha) fun σ H Q ⟨H0, ρ, μ, ι, r, h⟩ => by
  simp only [evT] at h
  refine run_bind r h fun k k' μ1 A1 H1 ι1 s1 r1 d1 h => ?_
  have d1 : k = k' := d1
  subst d1
  exact h.now r1 rfl
theorem truth_read {σ : L2.St} {ρ : Env} {H0 H : Hp} {ι : List Addr} {μ : Mu} {v : V} {x : DL.X} {d : D} {b : Bool} (r : Rel g H0 H σ ρ μ ι) (hx : XDen g H0 ι v x) (e : view μ x = some d) (t : truth d = some b) : TruV g.K v H b := by
  have hd := r.den hx e
  cases hd with
  | non => cases t; rfl
  | bl k => cases t; rfl
  | int i => cases t; rfl
  | str y =>
    have t : (if y.length ≤ 1000000 then some (y.length != 0) else none) = some b := t
    split at t
    · rename_i hz
      cases t
      refine ⟨Nat.le_trans hz line6, ?_⟩
      rcases Nat.eq_zero_or_pos y.length with e | e
      · rw [e]; rfl
      · have h1 : (y.length != 0) = true := by simp; omega
        have h2 : ((y.length : Int) != 0) = true := by simp; omega
        rw [h1, h2]
    · cases t
  | lst h hs =>
    cases t
    refine .inl ⟨_, SqL.of h, ?_⟩
    cases hs <;> rfl
  | kls h hs =>
    cases t
    refine .inl ⟨_, h, ?_⟩
    cases hs <;> rfl
  | tup h hs =>
    cases t
    refine .inr (.inl ⟨_, h, ?_⟩)
    cases hs <;> rfl
  | dic h hs => cases t
  | kdic h => cases t
  | ins _ h hs => cases t
  | fn j => cases t
  | cls j => cases t
theorem st_val (hK : X.K = g.K) (ha : SE g W X a (evE P ia)) (he : ∀ whole, isTrue a X.env whole = (do let v ← whole; standAt a.pos; holding [v] (truthy v))) : ST g W X a (evT P (.val ia)) := PT_imp (pt_truth ha he) fun σ H Q ⟨H0, ρ, μ, ι, r, h⟩ => by
  simp only [evT] at h
  refine run_bind r h fun v x μ1 A1 H1 ι1 s1 r1 d1 h => ?_
  split at h
  · rename_i d e
    cases q : truth d with
    | none =>
      rw [q] at h
      exact h.elim
    | some k =>
      rw [q] at h
      exact ⟨k, by rw [hK]; exact truth_read r1 d1 e q, h.now r1 rfl⟩
  · exact h.elim
/-! ### arguments, displays -/
theorem sa_nil : SA g W X [] (evEs P .nil) := PA_imp pa_nil fun σ H Q ⟨H0, ρ, μ, ι, r, h⟩ => by
  simp only [evEs] at h
  exact h.now r .nil
theorem sa_cons (ha : SE g W X a (evE P ia)) (hr : SA g W X es (evEs P ies)) (hs : starEach (a :: es) X.env = (false, eval a X.env) :: starEach es X.env) : SA g W X (a :: es) (evEs P (.cons ia ies)) := PA_imp (pa_cons ha hr hs) fun σ H Q ⟨H0, ρ, μ, ι, r, h⟩ => by
  simp only [evEs] at h
  refine run_bind r h fun v x μ1 A1 H1 ι1 s1 r1 d1 h => ?_
  refine run_bind r1 h fun vs xs μ2 A2 H2 ι2 s2 r2 d2 h => ?_
  exact h.now r2 (.cons (d1.stp s2) d2)
theorem se_lst {cell : Bool} (ha : SA g W X es (evEs P ies)) : SE g W X (.List es pos) (evE P (.lst cell ies)) := PE_imp (pe_lst ha) fun σ H Q ⟨H0, ρ, μ, ι, r, h⟩ => by
  simp only [evE] at h
  refine run_bind r h fun vs xs μ1 A1 H1 ι1 s1 r1 d1 h => ?_
  split at h
  · rename_i ds e
    obtain ⟨h1, h2⟩ := alloc_lst r1 (d1.toD e) h
    exact ⟨Nat.le_trans h1 line6, h2⟩
  · exact h.elim
theorem se_tup {n : Nat} (ha : SA g W X es (evEs P ies)) : SE g W X (.Tuple es n pos) (evE P (.tup ies)) := PE_imp (pe_tup ha) fun σ H Q ⟨H0, ρ, μ, ι, r, h⟩ => by
  simp only [evE] at h
  refine run_bind r h fun vs xs μ1 A1 H1 ι1 s1 r1 d1 h => ?_
  cases e : xs.mapM DL.X.dOf with
  | none =>
    rw [e] at h
    exact h.elim
  | some ds =>
    rw [e] at h
    simp only [Option.bind_some] at h
    have hs := d1.toD e
    by_cases hz : ds.length ≤ 1000000
    · rw [if_pos hz] at h
      refine ⟨Nat.le_trans (by rw [hs.length]; exact hz) line6, fun p hp => ?_⟩
      obtain ⟨r2, s2⟩ := r1.value (o := .tup vs) hp
      exact h (.ref p) _ _ _ s2 r2 (Den.tup (SqT.of upd_same) (hs.mono s2.e0))
    · rw [if_neg hz] at h
      exact h.elim
/-! ### items -/
theorem atI_den {H : Hp} {vs : List V} {ds : List D} {i : Int} {d : D} (h : Dens g H vs ds) (e : atI ds i = some d) : ∃ v, atI vs i = some v ∧ Den g H v d := by
  unfold atI at e ⊢
  rw [h.length]
  cases q : ixN ds.length i with
  | none => rw [q] at e; cases e
  | some j =>
    rw [q] at e
    exact h.get e
theorem atI_den1 {α : Type} {f : α → D} {xs : List α} {i : Int} {d : D} (e : (atI xs i).map f = some d) : ∃ c, atI xs i = some c ∧ d = f c := by
  obtain ⟨c, h1, h2⟩ := Option.map_eq_some_iff.mp e
  exact ⟨c, h1, h2.symm⟩
theorem CDen.den {K : PySem.W.Frag} {H : Hp} (hK : K = g.K) : ∀ {v : V} {d : D}, CDen K v d → Den g H v d := by
  intro v d h
  induction h using CDen.rec (motive_2 := fun vs ds _ => Dens g H vs ds) with
  | non => exact .non
  | bl b => exact .bl b
  | int i => exact .int i
  | str x => exact .str x
  | kls h _ ih => exact .kls (by rw [← hK]; exact h H) ih
  | tup h _ ih => exact .tup (by rw [← hK]; exact h H) ih
  | nil => exact .nil
  | cons _ _ h1 h2 => exact .cons h1 h2
/-- a[i] of a dict that is tracked -/
def rIxDK : R2 := fun x y H Q => ∃ a v, x = .ref a ∧ DGet H a y (some v) ∧ Q v H
theorem ix_dk (hu : X.A.units + 64 < cLine) : IxR X rIxDK := by
  intro value slice pins s σ H x y v u Q I rx ry h hs
  obtain ⟨a, z, rfl, g0, q⟩ := h
  obtain rfl : v = Value.ref a := rx
  exact tail_any (dict_typeIs I g0) PySem.F.slot_dict_getitem.lookup (d_getItem (by omega) I g0 ry fun w' s3 I3 rw' => ⟨z, H, I3, rw', q⟩) hs
theorem se_idx (hK : X.K = g.K) (hw : X.w = g.w) (hu : X.A.units + 64 < cLine) (ha : SE g W X a (evE P ia)) (hb : SE g W X b (evE P ib)) (hs : PlainIx b) : SE g W X (.Subscript a b pos) (evE P (.idx ia ib)) := PE_imp (pe_ix (ix_list.or (ix_tup.or (ix_str.or ((ix_dk hu).or ix_kdict)))) ha hb hs) fun σ H Q ⟨H0, ρ, μ, ι, r, h⟩ => by
  simp only [evE] at h
  refine run_bind r h fun v x μ1 A1 H1 ι1 s1 r1 d1 h => ?_
  refine run_bind r1 h fun v2 y μ2 A2 H2 ι2 s2 r2 d2 h => ?_
  rw [hK, hw]
  split at h
  · rename_i d y' e
    have d2 : Den g A2 v2 y' := d2
    cases q : idxD d y' with
    | none =>
      rw [q] at h
      exact h.elim
    | some z =>
      rw [q] at h
      unfold idxD at q
      split at q
      · split at q
        · cases d2
          obtain ⟨p, vs, e1, e2, e3⟩ := r2.viewL (d1.stp s2) e
          obtain ⟨u, e4, e5⟩ := atI_den e3 q
          exact .inl ⟨p, vs, _, u, e1, rfl, e2, e4, h.now r2 e5⟩
        · cases q
      · split at q
        · cases d2
          obtain ⟨p, vs, e1, e2, e3⟩ := r2.viewT (d1.stp s2) e
          obtain ⟨u, e4, e5⟩ := atI_den e3 q
          exact .inr (.inl ⟨p, vs, _, u, e1, rfl, e2, e4, h.now r2 e5⟩)
        · cases q
      · split at q
        · split at q
          · rename_i hz
            obtain ⟨c, e4, rfl⟩ := atI_den1 q
            have hd := viewS_den r2 (d1.stp s2) e (fun _ z => nomatch z)
            cases d2
            cases hd
            exact .inr (.inr (.inl ⟨_, _, c, rfl, rfl, Nat.le_trans hz line6, e4, h.now r2 (Den.str _)⟩))
          · cases q
        · cases q
      · obtain ⟨k, ek, eg⟩ := Option.bind_eq_some_iff.mp q
        obtain ⟨p, ks, rfl, h2, h3⟩ := r2.viewK (d1.stp s2) e
        obtain ⟨key, hk, rfl⟩ := keyOf_den d2 ek
        unfold dget at eg
        rcases denk_get hk h3 with ⟨h4, h5⟩ | ⟨d', w, h4, h5, h6⟩
        · rw [h4] at eg; cases eg
        · rw [h4] at eg
          cases eg
          exact .inr (.inr (.inr (.inl ⟨p, w, rfl, .inl ⟨ks, key, .inl h2, rfl, h5.symm⟩, h.now r2 h6⟩)))
      · split at q
        · rename_i zs _
          have hd := viewS_den r2 (d1.stp s2) e (fun _ z => nomatch z)
          cases d2
          cases hd with
          | kdic hk =>
            obtain ⟨es, n, D, hz⟩ := hk
            obtain ⟨r', h1, h2⟩ := hz zs
            rw [q] at h2
            cases r' with
            | none => exact h2.elim
            | some u0 =>
              obtain ⟨v0, rv, cd⟩ := h2
              exact .inr (.inr (.inr (.inr ⟨_, zs, v0, rfl, rfl, ⟨es, n, u0, D.at_, D.lit, h1, rv⟩, h.now r2 (cd.den rfl)⟩)))
        · cases q
      · cases q
  · exact h.elim
theorem denf_val {H : Hp} {ι : List Addr} : ∀ {vf : List (Str × V)} {fs : List (Str × DL.X)} {ds : List (Str × D)}, XDenf g H ι vf fs → valF fs = some ds → Denf g H vf ds
  | _, _, _, .nil, e => by
    cases e
    exact .nil
  | _, _, ds, .cons (x := x) (xs := xs) h hs, e => by
    unfold valF at e
    cases x with
    | r k => cases e
    | d y =>
      cases q : valF xs with
      | none => rw [q] at e; cases e
      | some rs =>
        rw [q] at e
        cases e
        exact .cons h (denf_val hs q)
theorem Denf.mono' {H H' : Hp} (e : Ex H H') {vs : List (Str × V)} {ds : List (Str × D)} (h : Denf g H vs ds) : Denf g H' vs ds := Denf.mono e h
/-- .. made fast -/
theorem frz_read {σ : L2.St} {ρ : Env} {H0 H : Hp} {ι : List Addr} {μ : Mu} {k : Nat} {p : Addr} {n : Node} {x : D} (r : Rel g H0 H σ ρ μ ι) (q : μ[k]? = some (some n)) (h1 : ι[k]? = some p) (e : n.fast = some x) : ∃ H0', Rel g H0' H σ ρ (μ.set k none) ι ∧ Stp H0 H ι H0' H ι ∧ Den g H0' (.ref p) x := by
  obtain ⟨_, c⟩ := r.cell k n p q h1
  cases n with
  | lst xs =>
    cases e
    obtain ⟨vs, c1, c2⟩ := c
    obtain ⟨r2, s2⟩ := r.freeze q h1 c1
    exact ⟨_, r2, s2, Den.lst upd_same (c2.mono s2.e0)⟩
  | dic kvs =>
    cases e
    obtain ⟨ks, c1, c2⟩ := c
    obtain ⟨r2, s2⟩ := r.freeze q h1 c1
    exact ⟨_, r2, s2, Den.dic upd_same (c2.mono s2.e0)⟩
  | ins c fs =>
    obtain ⟨hc, dx, vf, c1, c2⟩ := c
    obtain ⟨fs', e1, rfl⟩ := Option.map_eq_some_iff.mp e
    obtain ⟨r2, s2⟩ := r.freeze q h1 c1
    exact ⟨_, r2, s2, Den.ins hc upd_same ((denf_val c2 e1).mono' s2.e0)⟩
theorem se_frz (ha : SE g W X a (evE P ia)) : SE g W X a (evE P (.frz ia)) := PE_imp ha fun σ H Q ⟨H0, ρ, μ, ι, r, h⟩ => by
  simp only [evE] at h
  refine run_bind r h fun v x μ1 A1 H1 ι1 s1 r1 d1 h => ?_
  cases x with
  | d x => exact h.now r1 d1
  | r k =>
    unfold frzX at h
    dsimp only at h
    split at h
    · rename_i n q
      obtain ⟨p, h1, rfl⟩ := d1
      split at h
      · rename_i x e
        obtain ⟨H0', r2, s2, d2⟩ := frz_read r1 q h1 e
        exact h _ _ _ _ s2 r2 d2
      · exact h.elim
    · exact h.elim
/-! ### slices -/
theorem dens_take {H : Hp} : ∀ {vs : List V} {ds : List D} (n : Nat), Dens g H vs ds → Dens g H (vs.take n) (ds.take n)
  | _, _, 0, _ => by simp only [List.take_zero]; exact .nil
  | _, _, n + 1, .nil => by simp only [List.take_nil]; exact .nil
  | _, _, n + 1, .cons h hs => .cons h (dens_take n hs)
theorem dens_drop {H : Hp} : ∀ {vs : List V} {ds : List D} (n : Nat), Dens g H vs ds → Dens g H (vs.drop n) (ds.drop n)
  | _, _, 0, h => h
  | _, _, n + 1, .nil => by simp only [List.drop_nil]; exact .nil
  | _, _, n + 1, .cons h hs => dens_drop n hs
theorem dens_rev {H : Hp} : ∀ {vs : List V} {ds : List D}, Dens g H vs ds → Dens g H vs.reverse ds.reverse
  | _, _, .nil => .nil
  | _, _, .cons h hs => by
    rw [List.reverse_cons, List.reverse_cons]
    exact (dens_rev hs).append (.cons h .nil)
theorem dens_cut {H : Hp} {vs : List V} {ds : List D} {lo hi : Option Int} (h : Dens g H vs ds) : Dens g H (cutV vs lo hi) (cutD ds lo hi) := by
  unfold cutV cutD
  rw [h.length]
  exact dens_take _ (dens_drop _ h)
theorem whole_cut {ds : List D} {lo hi : Option Int} (h : HT.sIx ds.length 0 lo = 0 ∧ HT.sIx ds.length ds.length hi = ds.length) : cutD ds lo hi = ds := by
  unfold cutD
  rw [h.1, h.2]
  simp
def rSlAll (K : PySem.W.Frag) : V → Option Int → Option Int → Hp → VK → Prop := fun x lo hi H Q => rSlL K x lo hi H Q ∨ (rSlA K x lo hi H Q ∨ rSlS x lo hi H Q)
theorem sl_all : SlR X (rSlAll X.K) := SlR.or sl_list (SlR.or sl_tupA sl_str)
theorem sl_read {σ : L2.St} {ρ : Env} {H0 H : Hp} {ι : List Addr} {μ : Mu} {v : V} {x : DL.X} {cell : Bool} {lo hi : Option Int} {Q : VK} (r : Rel g H0 H σ ρ μ ι) (d : XDen g H0 ι v x) (h : Post g W σ ρ (rX g) H0 H ι (slD μ cell x lo hi) Q) : rSlAll g.K v lo hi H Q := by
  unfold slD at h
  split at h
  · rename_i xs e
    obtain ⟨p, vs, rfl, e2, e3⟩ := r.viewL d e
    exact .inl ⟨p, vs, rfl, e2, (alloc_lst r (dens_cut e3) h).2⟩
  · rename_i xs e
    obtain rfl := view_tup r d (viewS_t e)
    have d : Den g H0 v (.tup xs) := d
    cases d with
    | tup hx hxs =>
      refine .inr (.inl ⟨_, _, rfl, ex_t r.ex hx, fun hw => ?_, fun _ => new_tup r (dens_cut hxs) h⟩)
      rw [hxs.length] at hw
      refine h.now r ?_
      show Den g H0 _ (.tup (cutD xs lo hi))
      rw [whole_cut hw]
      exact Den.tup hx hxs
  · rename_i z e
    split at h
    · rename_i hz
      have hd := viewS_den r d e (fun _ z => nomatch z)
      cases hd
      exact .inr (.inr ⟨z, rfl, Nat.le_trans hz line6, h.now r (Den.str _)⟩)
    · exact h.elim
  · exact h.elim
abbrev rO : Hp → List Addr → Option Int → Option Int → Prop := fun _ _ v x => v = x
abbrev SO (g : G) (W : WX) (X : Cx) (e : Option Expr) (ev : Env → Mu → R (Option Int)) : Prop := PO X e (run g W rO ev)
theorem PO_imp {X : Cx} {e : Option Expr} {t t' : TO} (h : PO X e t) (i : ∀ σ H Q, t' σ H Q → t σ H Q) : PO X e t' := ⟨fun pins s σ H Q I q => h.run pins s σ H Q I (i _ _ _ q)⟩
theorem so_none : SO g W X none (evO P .none) := PO_imp po_none fun σ H Q ⟨H0, ρ, μ, ι, r, h⟩ => by
  simp only [evO] at h
  exact h.now r rfl
theorem so_some (ha : SE g W X a (evE P ia)) : SO g W X (some a) (evO P (.some ia)) := PO_imp (po_some ha) fun σ H Q ⟨H0, ρ, μ, ι, r, h⟩ => by
  simp only [evO] at h
  refine run_bind r h fun v x μ1 A1 H1 ι1 s1 r1 d1 h => ?_
  cases q : intX x with
  | none => rw [q] at h; exact h.elim
  | some i =>
    rw [q] at h
    cases intX_eq q
    cases (show Den g A1 v (.int i) from d1)
    exact ⟨i, rfl, h.now r1 rfl⟩
theorem se_sl {cell : Bool} {lo hi : Option Expr} {il ih : Eo} {p2 : Pos} (hK : X.K = g.K) (ha : SE g W X a (evE P ia)) (hl : SO g W X lo (evO P il)) (hh : SO g W X hi (evO P ih)) : SE g W X (.Subscript a (.Slice lo hi none p2) pos) (evE P (.sl cell ia il ih)) := PE_imp (pe_slice sl_all ha hl hh) fun σ H Q ⟨H0, ρ, μ, ι, r, h⟩ => by
  simp only [evE] at h
  refine run_bind r h fun v x μ1 A1 H1 ι1 s1 r1 d1 h => ?_
  refine run_bind r1 h fun l l' μ2 A2 H2 ι2 s2 r2 d2 h => ?_
  refine run_bind r2 h fun u u' μ3 A3 H3 ι3 s3 r3 d3 h => ?_
  have d2 : l = l' := d2
  have d3 : u = u' := d3
  subst d2 d3
  rw [hK]
  exact sl_read r3 ((d1.stp s2).stp s3) h
/-! f-strings -/
theorem se_fmt (ha : SE g W X a (evE P ia)) : SE g W X (.FormattedValue a (-1) none pos) (evE P (.fmt ia)) := PE_imp (pe_fmt ha) fun σ H Q ⟨H0, ρ, μ, ι, r, h⟩ => by
  simp only [evE] at h
  refine run_bind r h fun v x μ1 A1 H1 ι1 s1 r1 d1 h => ?_
  unfold fmtX at h
  split at h
  · split at h
    · rename_i hz
      cases d1
      exact .inl ⟨_, rfl, Nat.le_trans hz line6, h.now r1 (Den.str _)⟩
    · exact h.elim
  · split at h
    · rename_i hz
      cases d1
      exact .inr ⟨_, rfl, hz, h.now r1 (Den.str _)⟩
    · exact h.elim
  · exact h.elim
theorem se_jn1 (ha : SE g W X a (evE P ia)) : SE g W X (.JoinedStr [a] pos) (evE P (.jn1 ia)) := PE_imp (pe_joined1 ha) fun σ H Q ⟨H0, ρ, μ, ι, r, h⟩ => by
  simp only [evE] at h
  exact ⟨H0, ρ, μ, ι, r, h⟩
/-- the parts, one by one -/
inductive JP (g : G) (W : WX) (X : Cx) (P : Par) : List Expr → Es → Prop where
  | nil : JP g W X P [] .nil
  | cons {e : Expr} {ie : E} {es : List Expr} {ies : Es} (h : SE g W X e (evE P ie)) (r : JP g W X P es ies) : JP g W X P (e :: es) (.cons ie ies)
def jTs (g : G) (W : WX) (P : Par) : Es → List TE
  | .nil => []
  | .cons ie r => tE g W (evE P ie) :: jTs g W P r
theorem JP.pj : ∀ {es : List Expr} {ies : Es}, JP g W X P es ies → PJ X es (jTs g W P ies)
  | _, _, .nil => .nil
  | _, _, .cons h r => .cons h r.pj
theorem jn_run {σ : L2.St} {ρ : Env} {Q : Str → Hp → Prop} : ∀ (ies : Es) {acc : Str} {H0 H : Hp} {ι : List Addr} {μ : Mu}, Rel g H0 H σ ρ μ ι → Post g W σ ρ (fun _ _ (v z : Str) => v = z) H0 H ι (evJ P ies acc ρ μ) Q → tJs (jTs g W P ies) acc σ H Q
  | .nil, acc, H0, H, ι, μ, r, h => by
    simp only [evJ] at h
    exact h.now r rfl
  | .cons ie ies, acc, H0, H, ι, μ, r, h => by
    simp only [evJ] at h
    refine run_bind r h fun v x μ1 A1 H1 ι1 s1 r1 d1 h => ?_
    split at h
    · split at h
      · rename_i hz
        cases d1
        exact ⟨_, rfl, Nat.le_trans hz line6, jn_run ies r1 h⟩
      · exact h.elim
    · exact h.elim
theorem se_jn {e1 e2 : Expr} {es : List Expr} {ies : Es} (h : JP g W X P (e1 :: e2 :: es) ies) : SE g W X (.JoinedStr (e1 :: e2 :: es) pos) (evE P (.jn ies)) := PE_imp (pe_joined h.pj) fun σ H Q ⟨H0, ρ, μ, ι, r, h⟩ => by
  simp only [evE] at h
  refine jn_run ies r ?_
  cases q : evJ P ies Str.empty ρ μ with
  | ok z μ' =>
    rw [q] at h
    intro v A B C s t d
    have d : v = z := d
    subst d
    exact h _ A B C s t (Den.str _)
  | er e μ' => rw [q] at h; exact h
  | no => rw [q] at h; exact h
theorem se_rv {cell : Bool} {kk : Nat} {p1 p2 p3 : Pos} (hK : X.K = g.K) (ha : SE g W X a (evE P ia)) : SE g W X (.Subscript a (.Slice none none (some (.UnaryOp .USub (.Constant (.int 1) kk p1) p2)) p3) pos) (evE P (.rv cell ia)) := PE_imp (pe_revL ha) fun σ H Q ⟨H0, ρ, μ, ι, r, h⟩ => by
  simp only [evE] at h
  refine run_bind r h fun v x μ1 A1 H1 ι1 s1 r1 d1 h => ?_
  unfold rvD at h
  split at h
  · rename_i xs e
    obtain ⟨p, vs, rfl, e2, e3⟩ := r1.viewL d1 e
    exact ⟨p, vs, rfl, by rw [hK]; exact e2, (alloc_lst r1 (dens_rev e3) h).2⟩
  · exact h.elim
theorem se_never {e : Expr} : SE g W X e (evE P .never) := ⟨fun pins s σ H Q I ⟨H0, ρ, μ, ι, r, h⟩ => by
  simp only [evE] at h
  exact h.elim⟩
end
end
end DL
/-! DL5: calls. -/
namespace DL
open PySem PySem.Spec PyProof.Rows L2
section
variable {g : G} {X : Cx} {W : WX} {P : Par} {pos : Pos}
theorem pe_call0SD {CX : CXT} {k : Nat} {f : Addr} {fd : FuncData} {ps : List Str} {sp : Sp} {dvs : List V} {ds : List Value} {E : L2.St → XK} {x : Str} {p : Pos} (F : FnOk X.prog X.w X.K X.mg X.base CX k f fd ps sp) (hr : Room k X.A) (hg : Gl X x) (hm : X.mg x = some (.ref f)) (hk : PySem.W.keepIn X.K (.ref f) = true)
    (hb : Binds X.K fd ps ds) (hd : Vals dvs ds) (hx : ∀ σ, PassesAt CX X σ (E σ)) (hdb : (x == ("__debug__" : Str)) = false) : PE X (.Call (.Name x p) [] [] pos) (tCallSD sp dvs E tNil) := by
  refine ⟨fun pins s σ H Q I h => ?_⟩
  refine wpAny_Call_Name_kw (ld_glob I hg hm ?_ hdb)
  exact PySem.W.callWith_K0 I.kIn hk (run_fnSD (us := []) F hr hb hd (hx σ) I .nil h)
section
variable {k j : Nat} {fd : FuncData} {ps : List Str} {dvs : List V} {ds : List Value} {dds : List D} {x : Str} {p : Pos} {e : Expr} {es : List Expr} {ies : Es}
theorem call_read {t : TA} (ha : ∀ σ H Q, t σ H Q ↔ tA g W (evEs P ies) σ H Q) (hdd : ∀ H, Dens g H dvs dds) : ∀ σ H Q, tE g W (evE P (.call j ies dds)) σ H Q → tCallSD (spF g P.C j) dvs (WE W) t σ H Q := fun σ H Q ⟨H0, ρ, μ, ι, r, h⟩ => by
  simp only [evE] at h
  refine (ha _ _ _).mpr (run_bind r h fun vs xs μ1 A1 H1 ι1 s1 r1 d1 h => ?_)
  exact sp_call r1 (d1.append (XDens.ofD (hdd A1))) h
theorem se_call (F : FnOk X.prog X.w X.K X.mg X.base (L2N.CX X.prog X.w) k (g.fA j) fd ps (spF g P.C j)) (hr : Room k X.A) (hg : Gl X x) (hm : X.mg x = some (.ref (g.fA j))) (hk : PySem.W.keepIn X.K (.ref (g.fA j)) = true) (hb : Binds X.K fd ps ds) (hd : Vals dvs ds) (hdd : ∀ H, Dens g H dvs dds)
    (tk : L2N.Takes X W) (ha : SA g W X (e :: es) (evEs P ies)) (hdb : (x == ("__debug__" : Str)) = false) (he : starEach (e :: es) X.env = (false, eval e X.env) :: starEach es X.env) (hpl : (backTo pos (starEach es X.env)).any (·.1) = false) :
    SE g W X (.Call (.Name x p) (e :: es) [] pos) (evE P (.call j ies dds)) :=
  PE_imp (pe_callSD (E := WE W) F hr hg hm hk hb hd (fun σ => L2N.passAt tk σ) ha hdb he hpl) (call_read (fun _ _ _ => Iff.rfl) hdd)
theorem se_call0 (F : FnOk X.prog X.w X.K X.mg X.base (L2N.CX X.prog X.w) k (g.fA j) fd ps (spF g P.C j)) (hr : Room k X.A) (hg : Gl X x) (hm : X.mg x = some (.ref (g.fA j))) (hk : PySem.W.keepIn X.K (.ref (g.fA j)) = true) (hb : Binds X.K fd ps ds) (hd : Vals dvs ds) (hdd : ∀ H, Dens g H dvs dds)
    (tk : L2N.Takes X W) (hdb : (x == ("__debug__" : Str)) = false) : SE g W X (.Call (.Name x p) [] [] pos) (evE P (.call j .nil dds)) :=
  PE_imp (pe_call0SD (E := WE W) F hr hg hm hk hb hd (fun σ => L2N.passAt tk σ) hdb) fun σ H Q ⟨H0, ρ, μ, ι, r, h⟩ => by
    simp only [evE, evEs, R.bind, List.nil_append] at h
    exact sp_call r (XDens.ofD (hdd H0)) h
end
/-! ### instances -/
def rFldP (X : Cx) (f : Str) : V → Hp → VK → Prop := fun x H Q => ∃ a C dx fs, x = .ref a ∧ H a = some (.ins C dx fs) ∧ Cls X.K C ∧
  ((∃ v, NoAttr X.K C f ∧ fs.lookup f = some v ∧ Q v H) ∨ (∃ p gt k fd ps sp, PropOf X.K C f p gt ∧ FnOk X.prog X.w X.K X.mg X.base (L2N.CX X.prog X.w) k gt fd ps sp ∧ Room (k + 1) X.A ∧ Binds X.K fd ps [] ∧ sp [.ref a] H Q (fun _ _ _ => False)))
theorem pe_fldp {e : Expr} {f : Str} {ta : TE} (he : PE X e ta) (hb : attributeBase e f X.env (eval e X.env) = eval e X.env) : PE X (.Attribute e f pos) (fun σ H Q => ta σ H fun x H1 => rFldP X f x H1 Q) := by
  refine ⟨fun pins s σ H Q I h => ?_⟩
  refine attr_of hb (thn (he.run pins s σ H _ I h) fun u s1 ⟨x, H1, I1, rx, a, C, dx, fs, ex, ea, c, q⟩ => ?_)
  subst ex
  obtain rfl : u = Value.ref a := rx
  rcases q with ⟨v, n, l, q⟩ | ⟨p, gt, k, fd, ps, sp, hp, F, hr, hb, q⟩
  · exact getattr_ok I1 ea c n l fun u' s2 I2 ru => ⟨v, H1, I2, ru, q⟩
  · exact getprop_ok I1 ea c hp F hr hb .nil passNoN q
theorem se_fld {a : Expr} {ia : E} {f : Str} {k : Nat} (O : Own g X P k) (ha : SE g W X a (evE P ia)) (hb : attributeBase a f X.env (eval a X.env) = eval a X.env) : SE g W X (.Attribute a f pos) (evE P (.fld ia f)) := PE_imp (pe_fldp ha hb) fun σ H Q ⟨H0, ρ, μ, ι, r, h⟩ => by
  simp only [evE] at h
  refine run_bind r h fun v x μ1 A1 H1 ι1 s1 r1 d1 h => ?_
  unfold fldP at h
  split at h
  · rename_i c ec
    obtain ⟨hc, b, dx, vf, rfl, hb, _, hf⟩ := insOf_read r1 d1 ec
    have cl := (O.cls c hc).cl
    rw [← O.K] at cl
    refine ⟨b, _, _, _, rfl, hb, cl, ?_⟩
    split at h
    · rename_i j ej
      obtain ⟨p, fd, ps, hp, F, bd⟩ := O.prop c f j hc ej
      rw [← O.K] at hp
      exact .inr ⟨p, _, _, fd, ps, _, hp, F, O.room, bd, sp_quiet r1 (.cons d1 .nil) h⟩
    · split at h
      · rename_i ok
        have nf := O.fld c f hc ok
        rw [← O.K] at nf
        cases q : fldX μ1 x f with
        | none => rw [q] at h; exact h.elim
        | some y =>
          rw [q] at h
          obtain ⟨u, h1, h2⟩ := hf f y q
          exact .inl ⟨u, nf, h1, h.now r1 h2⟩
      · exact h.elim
  · exact h.elim
/-- o.m(..), whatever class o is of -/
def tMethD (X : Cx) (m : Str) (n : Nat) (W : WX) (ta : TE) (t : TA) : TE := fun σ H Q => ta σ H fun x H1 => ∃ a C dx fs f k fd ps sp ds dvs, x = .ref a ∧ H1 a = some (.ins C dx fs) ∧ Cls X.K C ∧ Meth X.K C m f ∧ fs.lookup m = none ∧
  FnOk X.prog X.w X.K X.mg X.base (L2N.CX X.prog X.w) k f fd ps sp ∧ Room k X.A ∧ Binds X.K fd ps ds ∧ Vals dvs ds ∧ t σ H1 fun vs H2 => sp (x :: (vs ++ dvs)) H2 Q (WE W σ)
theorem pe_methD {o : Expr} {m : Str} {apos : Pos} {es : List Expr} {ta : TE} {t : TA} {pl : Sem Bool} (tk : L2N.Takes X W) (he : PE X o ta) (ha : PA X es t)
    (hst : es = [] ∨ ∃ e r, es = e :: r ∧ starEach (e :: r) X.env = (false, eval e X.env) :: starEach r X.env ∧ (backTo pos (starEach r X.env)).any (·.1) = false) (hn : es = [] → ∀ σ H Q, t σ H Q → Q [] H)
    (ht : eval (.Call (.Attribute o m apos) es [] pos) X.env = (do
      let ov ← eval o X.env
      standAt apos.atName
      let (f, first) ← holding [ov] (getMethod ov m pl)
      callWith pos f first (backTo pos (starEach es X.env)) (backToKw pos (keywordEach [] X.env)))) :
    PE X (.Call (.Attribute o m apos) es [] pos) (tMethD X m 0 W ta t) := by
  refine ⟨fun pins s σ H Q I h => ?_⟩
  refine PySem.W.methodCall_KW (pl := pl) (thn (he.run pins s σ H _ I h) fun u s1 ⟨x, H1, I1, rx, a, C, dx, fs, f, k, fd, ps, sp, ds, dvs, ex, ea, c, hm, l, F, hr, hb, hd, q⟩ => ?_) ht
  subst ex
  obtain rfl : u = Value.ref a := rx
  refine getmeth_ok I1 ea c hm l ?_
  rcases hst with rfl | ⟨e, r, rfl, h1, h2⟩
  · have q2 := hn rfl _ _ _ q
    exact PySem.W.callWith_K0 (first := [.ref a]) I1.kIn hm.kp (run_fnSD (E := WE W) (us := [.ref a]) (vs := [.ref a]) F hr hb hd (L2N.passAt tk σ) I1 (.cons rfl .nil) q2)
  · refine PySem.W.callWith_K (first := [.ref a]) (h₀ := X.base) I.ok.mod.kin hm.kp (thn (ha.run pos pins s1 σ H1 _ I1 q) fun us s2 ⟨vs, H2, I2, r, q2⟩ => ⟨I2.kIn, ?_⟩) h1 h2
    exact run_fnSD (E := WE W) (us := .ref a :: us) (vs := .ref a :: vs) F hr hb hd (L2N.passAt tk σ) I2 (.cons rfl r) q2
/-- the methods' defaults -/
def MDf (g : G) (X : Cx) (P : Par) (m : Str) (ds : List D) : Prop := ∀ c j, c < g.nC → P.methOf c m = some j → ∃ fd ps us dvs k, Meth g.K (g.cA c) m (g.fA j) ∧ FnOk X.prog X.w X.K X.mg X.base (L2N.CX X.prog X.w) k (g.fA j) fd ps (spF g P.C j) ∧ Room k X.A ∧ Binds X.K fd ps us ∧ Vals dvs us ∧ ∀ H, Dens g H dvs ds
def MDf1 (g : G) (X : Cx) (P : Par) (c : Nat) (ds : List D) : Prop := ∀ j, P.methOf c "__init__" = some j → ∃ fd ps us dvs k, Mk g.K (g.cA c) (g.fA j) ∧ FnOk X.prog X.w X.K X.mg X.base (L2N.CX X.prog X.w) k (g.fA j) fd ps (spF g P.C1 j) ∧ Room (k + 1) X.A ∧ Binds X.K fd ps us ∧ Vals dvs us ∧ ∀ H, Dens g H dvs ds
theorem se_meth {o : Expr} {io : E} {m : Str} {es : List Expr} {ies : Es} {ds : List D} {apos : Pos} {k : Nat} {pl : Sem Bool} (O : Own g X P k) (tk : L2N.Takes X W) (hD : MDf g X P m ds) (ho : SE g W X o (evE P io)) (ha : SA g W X es (evEs P ies)) (hnil : es = [] → ies = .nil)
    (hst : es = [] ∨ ∃ e r, es = e :: r ∧ starEach (e :: r) X.env = (false, eval e X.env) :: starEach r X.env ∧ (backTo pos (starEach r X.env)).any (·.1) = false)
    (ht : eval (.Call (.Attribute o m apos) es [] pos) X.env = (do
      let ov ← eval o X.env
      standAt apos.atName
      let (f, first) ← holding [ov] (getMethod ov m pl)
      callWith pos f first (backTo pos (starEach es X.env)) (backToKw pos (keywordEach [] X.env)))) :
    SE g W X (.Call (.Attribute o m apos) es [] pos) (evE P (.meth m io ies ds)) := PE_imp (pe_methD tk ho ha hst (fun e σ H Q ⟨H0, ρ, μ, ι, r, h⟩ => by
      rw [hnil e] at h
      simp only [evEs] at h
      exact h.now r .nil) ht) fun σ H Q ⟨H0, ρ, μ, ι, r, h⟩ => by
  simp only [evE] at h
  refine run_bind r h fun v x μ1 A1 H1 ι1 s1 r1 d1 h => ?_
  split at h
  · rename_i c ec
    obtain ⟨hc, b, dx, vf, rfl, hb, hnf, _⟩ := insOf_read r1 d1 ec
    split at h
    · rename_i j ej
      split at h
      · rename_i hno
        obtain ⟨fd, ps, us, dvs, k', M, F, hr, bd, hv, hds⟩ := hD c j hc ej
        have cl := (O.cls c hc).cl
        rw [← O.K] at cl M
        refine ⟨b, _, _, _, _, k', fd, ps, _, us, dvs, rfl, hb, cl, M, hnf m (Option.isNone_iff_eq_none.mp hno), F, hr, bd, hv, ?_⟩
        refine run_bind r1 h fun vs xs μ2 A2 H2 ι2 s2 r2 d2 h => ?_
        exact sp_call r2 (.cons (d1.stp s2) (d2.append (XDens.ofD (hds A2)))) h
      · exact h.elim
    · exact h.elim
  · exact h.elim
/-- C(..) -/
theorem run_makeS {C f : Addr} {fd : FuncData} {ps : List Str} {sp : Sp} {ds : List Value} {dvs : List V} {k : Nat} {CX : CXT} {E : L2.St → XK} {pins : List (Addr × Obj)} {σ : L2.St} {H : Hp} {s : Shared} {Q : VK} {us : List Value} {vs : List V} (M : Mk X.K C f) (F : FnOk X.prog X.w X.K X.mg X.base CX k f fd ps sp) (hr : Room (k + 1) X.A) (hb : Binds X.K fd ps ds) (hd : Vals dvs ds)
    (hx : PassesAt CX X σ (E σ)) (I : Inv X pins σ H s) (r : Vals vs us)
    (h : ∀ x dx, H x = none → H dx = none → dx ≠ x → sp (.ref x :: (vs ++ dvs)) (upd (upd H dx (.own x)) x (.ins C dx [])) (fun v H2 => v = .non ∧ Q (.ref x) H2) (E σ)) :
    wpAny (model X.prog X.w) X.A (call (.ref C) us) (EP X pins σ Q) X.xe s := by
  have hq := h (s.heap.objs.size + 1) s.heap.objs.size (I.hok.fresh (Nat.le_succ _)) (I.hok.fresh (Nat.le_refl _)) (Nat.ne_of_lt (Nat.lt_succ_self _))
  have I2 := Inv.made (C := C) I
  have r2 : Vals (V.ref (s.heap.objs.size + 1) :: (vs ++ dvs)) (Value.ref (s.heap.objs.size + 1) :: (us ++ ds)) := .cons rfl (r.append hd)
  have hl : (Value.ref (s.heap.objs.size + 1) :: us ++ ds).length = ps.length := by
    have e := r2.length
    rw [F.len _ _ _ _ hq] at e
    exact e.symm
  refine wpAny_call (make_map (f := f) I.kIn M.makes M.init (beq_iff_eq.mp M.fn) (codeAny_mono (F.run _ X.stack _ _ ⟨Value.ref (s.heap.objs.size + 1) :: us, []⟩ (Value.ref (s.heap.objs.size + 1) :: (us ++ ds)) _ _ (E σ) (hr.make C us [])
    (I2.env0.make C us []) (hb _ (Value.ref (s.heap.objs.size + 1) :: us) I2.kIn hl) r2 hq) fun r s' hq' => ?_))
  cases r with
  | error e => exact hx pins _ _ e s' I2 hq'
  | ok fl =>
    cases fl with
    | ret u =>
      obtain ⟨v, H', I3, rv, ev, q3⟩ := I2.after hq'
      subst ev
      exact ⟨rv, ⟨V.ref (s.heap.objs.size + 1), H', I3, rfl, q3⟩⟩
    | next => exact False.elim hq'
    | brk => exact False.elim hq'
    | cont => exact False.elim hq'
def tMakeS (C : Addr) (sp : Sp) (dvs : List V) (E : L2.St → XK) (t : TA) : TE := fun σ H Q => t σ H fun vs H1 => ∀ x dx, H1 x = none → H1 dx = none → dx ≠ x →
  sp (.ref x :: (vs ++ dvs)) (upd (upd H1 dx (.own x)) x (.ins C dx [])) (fun v H2 => v = .non ∧ Q (.ref x) H2) (E σ)
theorem pe_makeS {C f : Addr} {fd : FuncData} {ps : List Str} {sp : Sp} {ds : List Value} {dvs : List V} {k : Nat} {CX : CXT} {E : L2.St → XK} {x : Str} {p : Pos} {e : Expr} {es : List Expr} {t : TA} (M : Mk X.K C f) (F : FnOk X.prog X.w X.K X.mg X.base CX k f fd ps sp) (hr : Room (k + 1) X.A) (hg : Gl X x) (hm : X.mg x = some (.ref C)) (hb : Binds X.K fd ps ds) (hd : Vals dvs ds) (hx : ∀ σ, PassesAt CX X σ (E σ))
    (ha : PA X (e :: es) t) (hdb : (x == ("__debug__" : Str)) = false) (he : starEach (e :: es) X.env = (false, eval e X.env) :: starEach es X.env) (hpl : (backTo pos (starEach es X.env)).any (·.1) = false) :
    PE X (.Call (.Name x p) (e :: es) [] pos) (tMakeS C sp dvs E t) := by
  refine ⟨fun pins s σ H Q I h => ?_⟩
  refine wpAny_Call_Name_kw (ld_glob I hg hm ?_ hdb)
  refine PySem.W.callWith_K (h₀ := X.base) I.ok.mod.kin M.kp (thn (ha.run pos pins s σ H _ I h) fun us s1 ⟨vs, H1, I1, r, q⟩ => ⟨I1.kIn, ?_⟩) he hpl
  exact run_makeS M F hr hb hd (hx σ) I1 r q
theorem pe_makeS0 {C f : Addr} {fd : FuncData} {ps : List Str} {sp : Sp} {ds : List Value} {dvs : List V} {k : Nat} {CX : CXT} {E : L2.St → XK} {x : Str} {p : Pos} (M : Mk X.K C f) (F : FnOk X.prog X.w X.K X.mg X.base CX k f fd ps sp) (hr : Room (k + 1) X.A) (hg : Gl X x) (hm : X.mg x = some (.ref C)) (hb : Binds X.K fd ps ds) (hd : Vals dvs ds) (hx : ∀ σ, PassesAt CX X σ (E σ))
    (hdb : (x == ("__debug__" : Str)) = false) : PE X (.Call (.Name x p) [] [] pos) (tMakeS C sp dvs E tNil) := by
  refine ⟨fun pins s σ H Q I h => ?_⟩
  refine wpAny_Call_Name_kw (ld_glob I hg hm ?_ hdb)
  exact PySem.W.callWith_K0 I.kIn M.kp (run_makeS (us := []) M F hr hb hd (hx σ) I .nil h)
theorem nt_new {H : Hp} {p : Addr} (h : H p = none) : ∀ u, H p = some u → NT u := fun u e => by
  rw [h] at e
  cases e
theorem nt_at {H : Hp} {p : Addr} {o : HO} (h : H p = some o) (n : NT o) : ∀ u, H p = some u → NT u := fun u e => by
  rw [h] at e
  cases e
  exact n
/-- an object beside -/
theorem Rel.side' {σ : L2.St} {ρ : Env} {H0 H : Hp} {ι : List Addr} {μ : Mu} {p : Addr} {o : HO} (r : Rel g H0 H σ ρ μ ι) (h0 : H0 p = none) (hi : p ∉ ι) (hk : ∀ u, H p = some u → NT u) : Rel g H0 (upd H p o) σ ρ μ ι := by
  refine ⟨fun b u h => ?_, r.slot, r.sl, r.len, r.inj, fun a ha h => ?_, fun k nd a h1 h2 => ?_, tabs_put r.tb hk, r.t0⟩
  · rw [upd_ne (ne_of_none h h0)]
    exact r.ex b u h
  · rw [upd_ne fun z => hi (by rw [← z]; exact ha)] at h
    exact r.tr a ha h
  · obtain ⟨h3, h4⟩ := r.cell k nd a h1 h2
    have ne : a ≠ p := fun z => hi (by rw [← z]; exact List.mem_of_getElem? h2)
    exact ⟨h3, h4.mono (Ex.refl _) ⟨[], by simp⟩ fun u q => by rw [upd_ne ne]; exact q⟩
theorem Stp.side' {H0 H H0' H' : Hp} {ι ι' : List Addr} {p : Addr} {o : HO} (s : Stp H0 H ι H0' H' ι') (hp : H p = none) : Stp H0 H ι H0' (upd H' p o) ι' := ⟨s.e0, s.pre, fun b u h n q => by rw [upd_ne (ne_of_none h hp)]; exact s.fr b u h n q, s.nw, fun b h => by
  by_cases hb : b = p
  · rw [hb]; exact hp
  · rw [upd_ne hb] at h
    exact s.th b h⟩
theorem mk_read {c j : Nat} {dvs : List V} {ds : List D} {σ : L2.St} {H : Hp} {Q : VK} {ies : Es} {t : TA} (hc : c < g.nC) (hj : P.methOf c "__init__" = some j) (hds : ∀ H, Dens g H dvs ds) (ha : ∀ σ H Q, tA g W (evEs P ies) σ H Q → t σ H Q) (h : tE g W (evE P (.mk c ies ds)) σ H Q) : tMakeS (g.cA c) (spF g P.C1 j) dvs (WE W) t σ H Q := by
  obtain ⟨H0, ρ, μ, ι, r, h⟩ := h
  simp only [evE] at h
  refine ha _ _ _ (run_bind r h fun vs xs μ1 A1 H1 ι1 s1 r1 d1 h => ?_)
  simp only [hj] at h
  intro x dx hx hdx ne
  have hx2 : upd H1 dx (.own x) x = none := by rw [upd_ne (Ne.symm ne)]; exact hx
  have r2 := r1.side' (p := dx) (o := .own x) (r1.free hdx) (r1.notIn hdx) (nt_new hdx)
  have s2 : Stp A1 H1 ι1 A1 (upd H1 dx (.own x)) ι1 := Stp.refl.side' hdx
  obtain ⟨r3, s3⟩ := r2.newCell (o := .ins (g.cA c) dx []) (nd := .ins c []) hx2 ⟨hc, dx, [], upd_same, .nil⟩
  have s23 := s2.trans s3
  have d3 : XDens g A1 (ι1 ++ [x]) (.ref x :: (vs ++ dvs)) (.r μ1.length :: (xs ++ ds.map DL.X.d)) := .cons ⟨x, by rw [← r1.len]; simp, rfl⟩ ((d1.stp s23).append (XDens.ofD (hds A1)))
  refine ⟨A1, _, _, _, r3.bare, d3, ?_⟩
  have h2 := Post.step s23 h
  cases q : P.C1 j (.r μ1.length :: (xs ++ ds.map DL.X.d)) (μ1 ++ [some (.ins c [])]) with
  | no => rw [q] at h2; exact h2
  | er e μ' =>
    rw [q] at h2
    exact fun c d A B K s t z => h2 c d A B K s (r3.unbare s t) z
  | ok y μ' =>
    rw [q] at h2
    intro v A B K s t d
    simp only [R.bind] at h2
    cases y with
    | r k => exact h2.elim
    | d y =>
      cases y <;> first | (exact h2.elim; done) | skip
      have d : Den g A v .non := d
      cases d
      refine ⟨rfl, h2 (.ref x) A B K s ((r1.unbare (s23.trans s) t)) ?_⟩
      obtain ⟨m, em⟩ := s.p
      refine ⟨x, ?_, rfl⟩
      rw [em, ← r1.len]
      simp
theorem se_mk {c : Nat} {ds : List D} {x : Str} {p : Pos} {e : Expr} {es : List Expr} {ies : Es} (tk : L2N.Takes X W) (hK : X.K = g.K) (hc : c < g.nC) (hD : MDf1 g X P c ds) (hj : (P.methOf c "__init__").isSome = true) (hg : Gl X x) (hm : X.mg x = some (.ref (g.cA c))) (ha : SA g W X (e :: es) (evEs P ies)) (hdb : (x == ("__debug__" : Str)) = false) (he : starEach (e :: es) X.env = (false, eval e X.env) :: starEach es X.env)
    (hpl : (backTo pos (starEach es X.env)).any (·.1) = false) : SE g W X (.Call (.Name x p) (e :: es) [] pos) (evE P (.mk c ies ds)) := by
  obtain ⟨j, hj⟩ := Option.isSome_iff_exists.mp hj
  obtain ⟨fd, ps, us, dvs, k, M, F, hr, bd, hv, hds⟩ := hD j hj
  rw [← hK] at M
  exact PE_imp (pe_makeS (E := WE W) M F hr hg hm bd hv (fun σ => L2N.passAt tk σ) ha hdb he hpl) fun σ H Q h => mk_read hc hj hds (fun _ _ _ z => z) h
theorem se_mk0 {c : Nat} {ds : List D} {x : Str} {p : Pos} (tk : L2N.Takes X W) (hK : X.K = g.K) (hc : c < g.nC) (hD : MDf1 g X P c ds) (hj : (P.methOf c "__init__").isSome = true) (hg : Gl X x) (hm : X.mg x = some (.ref (g.cA c))) (hdb : (x == ("__debug__" : Str)) = false) : SE g W X (.Call (.Name x p) [] [] pos) (evE P (.mk c .nil ds)) := by
  obtain ⟨j, hj⟩ := Option.isSome_iff_exists.mp hj
  obtain ⟨fd, ps, us, dvs, k, M, F, hr, bd, hv, hds⟩ := hD j hj
  rw [← hK] at M
  exact PE_imp (pe_makeS0 (E := WE W) M F hr hg hm bd hv (fun σ => L2N.passAt tk σ) hdb) fun σ H Q h => mk_read (t := tNil) hc hj hds (fun σ H Q ⟨H0, ρ, μ, ι, r, h⟩ => by
    simp only [evEs] at h
    exact h.now r .nil) h
/-! ### dicts displayed -/
def trsOf (g : G) (W : WX) (P : Par) : Es → List (TE × TE)
  | .cons k (.cons v r) => (tE g W (evE P k), tE g W (evE P v)) :: trsOf g W P r
  | _ => []
def flatP : List (V × V) → List V
  | [] => []
  | (x, y) :: r => x :: y :: flatP r
inductive PsOk (g : G) (W : WX) (X : Cx) (P : Par) : Es → List (Option Expr) → List Expr → Prop
  | nil : PsOk g W X P .nil [] []
  | cons {k v : E} {r : Es} {ke ve : Expr} {ks : List (Option Expr)} {vs : List Expr} : SE g W X ke (evE P k) → SE g W X ve (evE P v) → PsOk g W X P r ks vs → PsOk g W X P (.cons k (.cons v r)) (some ke :: ks) (ve :: vs)
theorem PsOk.pps {es : Es} {ks : List (Option Expr)} {vs : List Expr} (h : PsOk g W X P es ks vs) : PPs X pos ks vs (trsOf g W P es) := by
  induction h with
  | nil => exact pps_nil
  | cons h1 h2 _ ih => exact pps_cons h1 h2 ih
theorem tp_read {σ : L2.St} {ρ : Env} {es : Es} {ks : List (Option Expr)} {vs : List Expr} (hp : PsOk g W X P es ks vs) : ∀ {H0 H : Hp} {ι : List Addr} {μ : Mu} {Q : List (V × V) → Hp → Prop}, Rel g H0 H σ ρ μ ι → Post g W σ ρ (fun A ι (ps : List (V × V)) xs => XDens g A ι (flatP ps) xs) H0 H ι (evEs P es ρ μ) Q → tPairs (trsOf g W P es) σ H Q := by
  induction hp with
  | nil =>
    intro H0 H ι μ Q r h
    simp only [evEs] at h
    exact h [] _ _ _ Stp.refl r .nil
  | cons h1 h2 _ ih =>
    intro H0 H ι μ Q r h
    rename_i k v rr _ _ _ _ _
    simp only [evEs] at h
    refine run_bind r h fun x x' μ1 A1 H1 ι1 s1 r1 d1 h => ?_
    have h : Post g W σ ρ (fun A ι (ps : List (V × V)) xs => XDens g A ι (flatP ps) xs) A1 H1 ι1 ((evE P v ρ μ1).bind fun y μ2 => (evEs P rr ρ μ2).bind fun ys μ3 => .ok (x' :: y :: ys) μ3) Q := by
      cases q1 : evE P v ρ μ1 with
      | ok y μ2 =>
        rw [q1] at h
        simp only [R.bind] at h ⊢
        cases q2 : evEs P rr ρ μ2 with
        | ok ys μ3 => rw [q2] at h; exact h
        | er e μ3 => rw [q2] at h; exact h
        | no => rw [q2] at h; exact h
      | er e μ2 => rw [q1] at h; exact h
      | no => rw [q1] at h; exact h
    refine run_bind r1 h fun y y' μ2 A2 H2 ι2 s2 r2 d2 h => ?_
    refine ih r2 ?_
    cases q : evEs P rr ρ μ2 with
    | ok ys μ3 =>
      rw [q] at h
      intro ps A B C s t d
      exact h ((x, y) :: ps) A B C s t (.cons ((d1.stp s2).stp s) (.cons (d2.stp s) d))
    | er e μ3 => rw [q] at h; exact h
    | no => rw [q] at h; exact h
theorem pairs_read {A : Hp} {ι : List Addr} : ∀ {ps : List (V × V)} {xs : List DL.X} {kvs : List (DK × D)}, XDens g A ι (flatP ps) xs → pairs xs = some kvs → ∃ ks : List (Key × V), ps = ks.map (fun kv => (kV kv.1, kv.2)) ∧ Denk g A ks kvs ∧ (ks.map (·.1)).Nodup
  | [], xs, kvs, d, e => by
    cases d
    cases e
    exact ⟨[], rfl, .nil, List.nodup_nil⟩
  | (x, y) :: ps, xs, kvs, d, e => by
    cases d with
    | cons d1 d =>
      cases d with
      | cons d2 d =>
        rename_i x' y' xs
        cases x' with
        | r k => simp [pairs] at e
        | d x' =>
          cases y' with
          | r k => simp [pairs] at e
          | d y' =>
            simp only [pairs] at e
            split at e
            · rename_i q kv2 eq1 eq2
              split at e
              · cases e
              · rename_i hn
                cases e
                obtain ⟨ks, e1, e2, e3⟩ := pairs_read d eq2
                obtain ⟨key, hk, ek⟩ := keyOf_den d1 eq1
                refine ⟨(key, y) :: ks, by rw [e1, ek]; rfl, .cons hk d2 e2, ?_⟩
                rw [List.map_cons, List.nodup_cons]
                refine ⟨fun hm => ?_, e3⟩
                have hn : kv2.lookup q = none := by
                  cases hh : kv2.lookup q with
                  | none => rfl
                  | some z => rw [hh] at hn; exact (hn rfl).elim
                rcases denk_get hk e2 with ⟨_, h5⟩ | ⟨_, _, h4, _, _⟩
                · obtain ⟨p, hp1, hp2⟩ := List.mem_map.mp hm
                  unfold valV at h5
                  have h6 : ks.find? (fun kv => decide (kv.1 = key)) = none := by simpa using h5
                  have h7 := List.find?_eq_none.mp h6 p hp1
                  rw [hp2] at h7
                  simp at h7
                · rw [hn] at h4
                  cases h4
            · cases e
theorem merge_nodup : ∀ {ks acc : List (Key × V)}, (ks.map (·.1)).Nodup → (∀ p ∈ ks, ∀ q ∈ acc, q.1 ≠ p.1) → mergeK acc ks = acc ++ ks
  | [], acc, _, _ => by simp [mergeK]
  | p :: ks, acc, hn, ha => by
    have hn' := List.nodup_cons.mp hn
    unfold mergeK
    rw [List.foldl_cons]
    have e1 : putK acc p.1 p.2 = acc ++ [p] := by
      unfold putK
      rw [if_neg]
      intro z
      obtain ⟨q, hq, e⟩ := List.any_eq_true.mp z
      exact ha p List.mem_cons_self q hq (of_decide_eq_true e)
    rw [e1]
    have := merge_nodup (ks := ks) (acc := acc ++ [p]) hn'.2 fun p' hp' q hq => by
      rcases List.mem_append.mp hq with hq | hq
      · exact ha p' (List.mem_cons_of_mem _ hp') q hq
      · rw [List.mem_singleton.mp hq]
        intro e
        exact hn'.1 (by show p.1 ∈ _; rw [e]; exact List.mem_map_of_mem hp')
    unfold mergeK at this
    rw [this, List.append_assoc]
    rfl
theorem flatP_len : ∀ ps : List (V × V), (flatP ps).length = 2 * ps.length
  | [] => rfl
  | (x, y) :: ps => by
    show (flatP ps).length + 1 + 1 = 2 * (ps.length + 1)
    rw [flatP_len ps]
    omega
/-! ### built-ins by name -/
theorem intsD_den {H : Hp} : ∀ {xs : List D} {ns : List Int} {vs : List V}, intsD xs = some ns → Dens g H vs xs → vs = ns.map V.int ∧ xs = ns.map D.int
  | [], ns, vs, e, h => by
    cases h
    cases e
    exact ⟨rfl, rfl⟩
  | x :: xs, ns, vs, e, h => by
    cases h with
    | cons h hs =>
    cases h with
    | int i =>
      unfold intsD at e
      cases q : intsD xs with
      | none => rw [q] at e; cases e
      | some ms =>
        rw [q] at e
        cases e
        obtain ⟨h1, h2⟩ := intsD_den q hs
        rw [h1, h2]
        exact ⟨rfl, rfl⟩
    | _ => cases e
theorem boolsD_den {H : Hp} : ∀ {xs : List D} {ns : List Bool} {vs : List V}, boolsD xs = some ns → Dens g H vs xs → vs = ns.map V.bl
  | [], ns, vs, e, h => by
    cases h
    cases e
    rfl
  | x :: xs, ns, vs, e, h => by
    cases h with
    | cons h hs =>
    cases h with
    | bl i =>
      unfold boolsD at e
      cases q : boolsD xs with
      | none => rw [q] at e; cases e
      | some ms =>
        rw [q] at e
        cases e
        rw [boolsD_den q hs]
        rfl
    | _ => cases e
theorem denInts (H : Hp) : ∀ ns : List Int, Dens g H (ns.map V.int) (ns.map D.int)
  | [] => .nil
  | n :: ns => .cons (.int n) (denInts H ns)
theorem sort_one {ns ns' : List Int} (p : ns'.Perm ns) (s : ns'.Pairwise (· ≤ ·)) : ns' = ns.mergeSort (fun a b => decide (a ≤ b)) := by
  have h1 : (ns.mergeSort (fun a b => decide (a ≤ b))).Perm ns := List.mergeSort_perm _ _
  have h2 : (ns.mergeSort (fun a b => decide (a ≤ b))).Pairwise (fun a b : Int => decide (a ≤ b) = true) := List.pairwise_mergeSort (le := fun (a b : Int) => decide (a ≤ b)) (fun a b c h1 h2 => by simp at *; omega) (fun a b => by simp; omega) ns
  refine List.Perm.eq_of_pairwise (le := fun a b : Int => a ≤ b) (fun a b _ _ h1 h2 => Int.le_antisymm h1 h2) s (h2.imp fun h => by simpa using h) (p.trans h1.symm)
theorem strLe_iff {a b : Str} : strLe a b = true ↔ a.cps.toList ≤ b.cps.toList := by
  unfold strLe
  rw [Bool.not_eq_true', decide_eq_false_iff_not]
  exact List.not_lt
theorem strLe_tr {a b c : Str} (h : strLe a b = true) (k : strLe b c = true) : strLe a c = true := strLe_iff.mpr (List.le_trans (strLe_iff.mp h) (strLe_iff.mp k))
theorem strLe_tot (a b : Str) : strLe a b = true ∨ strLe b a = true := by
  rw [strLe_iff, strLe_iff]
  exact List.le_total _ _
theorem strLe_anti {a b : Str} (h : strLe a b = true) (k : strLe b a = true) : a = b := by
  have e := List.le_antisymm (strLe_iff.mp h) (strLe_iff.mp k)
  cases a
  cases b
  congr 1
  exact Array.toList_inj.mp e
theorem rising_pw : ∀ {p : Str} {r : List Str}, risingS p r = true → ∀ q ∈ (p :: r), (p :: r).Pairwise fun a b => strLe a b = true := by
  intro p r
  induction r generalizing p with
  | nil => intro _ _ _; exact List.pairwise_singleton _ _
  | cons x r ih =>
    intro h q hq
    unfold risingS at h
    obtain ⟨h1, h2⟩ := Bool.and_eq_true_iff.mp h
    have h3 := ih h2 x List.mem_cons_self
    have px : strLe p x = true := by
      unfold strLe
      rw [← PyProof.Rows.ltCps_eq]
      exact h1
    rw [List.pairwise_cons]
    refine ⟨fun z hz => ?_, h3⟩
    rcases List.mem_cons.mp hz with e | hz
    · rw [e]; exact px
    · exact strLe_tr px ((List.pairwise_cons.mp h3).1 z hz)
theorem sorted_pw : ∀ {r : List Str}, sortedS r = true → r.Pairwise fun a b => strLe a b = true
  | [], _ => .nil
  | x :: r, h => rising_pw h x List.mem_cons_self
theorem sort_oneS {ns ns' : List Str} (p : ns'.Perm ns) (s : sortedS ns' = true) : ns' = sortS ns := by
  have h1 : (sortS ns).Perm ns := List.mergeSort_perm _ _
  have h2 : (sortS ns).Pairwise (fun a b => strLe a b = true) := List.pairwise_mergeSort (le := strLe) (fun a b c h1 h2 => strLe_tr h1 h2) (fun a b => by rw [Bool.or_eq_true]; exact strLe_tot a b) ns
  exact List.Perm.eq_of_pairwise (le := fun a b => strLe a b = true) (fun a b _ _ h1 h2 => strLe_anti h1 h2) (sorted_pw s) h2 (p.trans h1.symm)
theorem strsD_den {H : Hp} : ∀ {xs : List D} {ns : List Str} {vs : List V}, strsD xs = some ns → Dens g H vs xs → vs = ns.map V.str ∧ xs = ns.map D.str
  | [], ns, vs, e, d => by
    cases d
    cases e
    exact ⟨rfl, rfl⟩
  | .str z :: xs, ns, vs, e, d => by
    unfold strsD at e
    cases q : strsD xs with
    | none => rw [q] at e; cases e
    | some r =>
      rw [q] at e
      cases e
      cases d with
      | cons h hs =>
        cases h
        obtain ⟨rfl, rfl⟩ := strsD_den q hs
        exact ⟨rfl, rfl⟩
  | .non :: xs, ns, vs, e, d => by cases e
  | .bl _ :: xs, ns, vs, e, d => by cases e
  | .int _ :: xs, ns, vs, e, d => by cases e
  | .lst _ :: xs, ns, vs, e, d => by cases e
  | .kls _ :: xs, ns, vs, e, d => by cases e
  | .tup _ :: xs, ns, vs, e, d => by cases e
  | .dic _ :: xs, ns, vs, e, d => by cases e
  | .kdic _ :: xs, ns, vs, e, d => by cases e
  | .ins _ _ :: xs, ns, vs, e, d => by cases e
  | .fn _ :: xs, ns, vs, e, d => by cases e
  | .cls _ :: xs, ns, vs, e, d => by cases e
theorem denStrs (H : Hp) : ∀ ns : List Str, Dens g H (ns.map V.str) (ns.map D.str)
  | [] => .nil
  | _ :: r => .cons (Den.str _) (denStrs H r)
/-- a dict's keys as values -/
theorem denk_keys {H : Hp} : ∀ {ks : List (Key × V)} {kvs : List (DK × D)}, Denk g H ks kvs → Dens g H (ks.map fun kv => kV kv.1) (kvs.map fun p => keyD p.1)
  | _, _, .nil => .nil
  | _, _, .cons (.i n) _ hs => .cons (Den.int _) (denk_keys hs)
  | _, _, .cons (.s x) _ hs => .cons (Den.str _) (denk_keys hs)
theorem denk_strs {H : Hp} : ∀ {ks : List (Key × V)} {kvs : List (DK × D)} {zs : List Str}, Denk g H ks kvs → strsD (kvs.map fun p => keyD p.1) = some zs → ks.map (·.1) = zs.map Sum.inr
  | _, _, zs, .nil, e => by cases e; rfl
  | _, _, zs, .cons (.i n) _ hs, e => by cases e
  | _, _, zs, .cons (ds := r) (.s x) _ hs, e => by
    have e : (strsD (r.map fun p => keyD p.1)).map (x :: ·) = some zs := e
    cases q : strsD (r.map fun p => keyD p.1) with
    | none => rw [q] at e; cases e
    | some w =>
      rw [q] at e
      cases e
      rw [List.map_cons, List.map_cons, denk_strs hs q]
def rSortedDS : List V → Hp → VK → Prop := fun xs H Q => ∃ (a : Addr) (kvs : List (Key × V)) (ks : List Str), xs = [.ref a] ∧ Rd H a (.dK kvs) ∧ kvs.map (·.1) = ks.map Sum.inr ∧ ks.length < 64 ∧
    ∀ ys p, ys.Perm ks → sortedS ys = true → H p = none → Q (.ref p) (upd H p (.lst (ys.map V.str)))
/-- sorted of a list of data that are alike, any length -/
def rSortedT (K : PySem.W.Frag) : List V → Hp → VK → Prop := fun vs H Q => ∃ (a : Addr) (β : Type) (bs : List β) (rep : β → V) (enc : β → PyData), vs = [.ref a] ∧ SqL K H a (bs.map rep) ∧ (∀ b ∈ bs, Dp K H (rep b) (enc b)) ∧ PySem.W.AllAlike (bs.map enc) ∧ PySem.W.Sortable (bs.map enc) ∧
  (∀ b ∈ bs, (enc b).depth < 32) ∧ ∀ p, H p = none → Q (.ref p) (upd H p (.lst ((bs.mergeSort (PySem.W.dataLe false enc)).map rep)))
section
variable {X : Cx} {β : Type} {rep : β → V}
theorem vals_each : ∀ {bs : List β} {us : List Value}, Vals (bs.map rep) us → PySem.W.EachIs (fun u b => RelV (rep b) u) us bs
  | [], _, h => by cases h; exact .nil
  | _ :: _, _, h => by cases h with | cons h hs => exact .cons h (vals_each hs)
theorem each_vals : ∀ {bs : List β} {us : List Value}, PySem.W.EachIs (fun u b => RelV (rep b) u) us bs → Vals (bs.map rep) us
  | _, _, .nil => .nil
  | _, _, .cons h hs => .cons h (each_vals hs)
theorem each_in {R R' : Value → β → Prop} : ∀ {bs : List β} {us : List Value}, PySem.W.EachIs R us bs → (∀ u b, b ∈ bs → R u b → R' u b) → PySem.W.EachIs R' us bs
  | _, _, .nil, _ => .nil
  | _, _, .cons h hs, f => .cons (f _ _ List.mem_cons_self h) (each_in hs fun u b m => f u b (List.mem_cons_of_mem _ m))
theorem cr_sortedT (hu : X.A.units + 64 < cLine) : CallR X (.builtin "sorted") (rSortedT X.K) := by
  intro pins s σ H vs us Q I r h
  obtain ⟨a, β, bs, rep, enc, rfl, hs, hd, ha, hk, hz, q⟩ := h
  obtain ⟨its, rv, hl, hsz⟩ := I.list hs
  rw [Vals.ref1 r]
  have e := vals_each rv
  rw [List.length_map] at hsz
  refine PySem.W.sorted_data (enc := enc) (R := fun u b => RelV (rep b) u) hl.isList e (each_in e fun u b m h => Dp.reads I _ _ _ (hd b m) h) ha hk hsz (fun b m => ?_) fun out h1 h2 => ?_
  · have := hz b m
    omega
  · obtain ⟨ep, he'⟩ := PyProof.Rows.sortedAll_at s.heap its out.toArray
    have hlen : ((bs.mergeSort (PySem.W.dataLe false enc)).map rep).length ≤ sizeLine := by
      rw [List.length_map, List.length_mergeSort]
      exact hsz
    exact ⟨.ref _, upd H (s.heap.objs.size + 1) (.lst ((bs.mergeSort (PySem.W.dataLe false enc)).map rep)), I.laid (t' := s.toks) (fun _ _ => PyProof.Rows.sortedAll_old) (Nat.le_succ _) ⟨hlen, out, ep, each_vals h2, he'⟩, rfl, q _ (I.hok.fresh (Nat.le_succ _))⟩
end
theorem dens_zip {H : Hp} : ∀ {vs : List V} {xs : List D}, Dens g H vs xs → (∀ p ∈ vs.zip xs, Den g H p.1 p.2) ∧ (vs.zip xs).map (·.1) = vs ∧ (vs.zip xs).map (·.2) = xs
  | _, _, .nil => ⟨fun _ m => (nomatch m), rfl, rfl⟩
  | _, _, .cons h hs => by
    obtain ⟨a, b, c⟩ := dens_zip hs
    refine ⟨fun p m => ?_, by rw [List.zip_cons_cons, List.map_cons, b], by rw [List.zip_cons_cons, List.map_cons, c]⟩
    rcases List.mem_cons.mp m with rfl | m
    · exact h
    · exact a p m
theorem dens_of {H : Hp} : ∀ {bs : List (V × D)}, (∀ p ∈ bs, Den g H p.1 p.2) → Dens g H (bs.map (·.1)) (bs.map (·.2))
  | [], _ => .nil
  | _ :: _, h => .cons (h _ List.mem_cons_self) (dens_of fun p m => h p (List.mem_cons_of_mem _ m))
theorem sortDt_zip {vs : List V} {xs : List D} (e : (vs.zip xs).map (·.2) = xs) : ((vs.zip xs).mergeSort (PySem.W.dataLe false fun p => pD p.2)).map (·.2) = sortDt xs := by
  have := List.map_mergeSort (r := PySem.W.dataLe false fun p : V × D => pD p.2) (s := leDt) (f := Prod.snd) (l := vs.zip xs) fun a _ b _ => rfl
  rw [this]
  unfold sortDt
  rw [e]
theorem toP_pD {x : D} (h : (toP x).isSome = true) : toP x = some (pD x) := by
  unfold pD
  cases q : toP x with
  | none => rw [q] at h; cases h
  | some p => rfl
def bltName : Blt → Str
  | .len => "len" | .abs => "abs" | .min2 => "min" | .max2 => "max" | .sum => "sum" | .all => "all" | .any => "any" | .int => "int" | .str => "str" | .bool => "bool" | .list => "list" | .tuple => "tuple" | .sorted => "sorted"
def rBlt (K : PySem.W.Frag) : Blt → List V → Hp → VK → Prop
  | .len => fun xs H Q => ∃ x n, xs = [x] ∧ LenV K x H n ∧ Q (.int n) H
  | .abs => fun xs H Q => ∃ i, xs = [.int i] ∧ Q (.int (if i < 0 then -i else i)) H
  | .min2 => fun xs H Q => ∃ i j, xs = [.int i, .int j] ∧ Q (.int (if j < i then j else i)) H
  | .max2 => fun xs H Q => ∃ i j, xs = [.int i, .int j] ∧ Q (.int (if j > i then j else i)) H
  | .sum => rSum K
  | .all => rAll K
  | .any => rAny K
  | .int => fun xs H Q => (∃ i, xs = [.int i] ∧ Q (.int i) H) ∨ ∃ k, xs = [.bl k] ∧ Q (.int (if k then 1 else 0)) H
  | .list => fun xs H Q => (∃ p ys, xs = [.ref p] ∧ (SqL K H p ys ∨ SqT K H p ys) ∧ ∀ l, H l = none → Q (.ref l) (upd H l (.lst ys))) ∨ rListD xs H Q
  | .sorted => fun xs H Q => rSortedI K xs H Q ∨ (rSortedS K xs H Q ∨ (rSortedDS xs H Q ∨ rSortedT K xs H Q))
  | .bool => fun xs H Q => (∃ i, xs = [.int i] ∧ Q (.bl (i != 0)) H) ∨ ∃ k, xs = [.bl k] ∧ Q (.bl k) H
  | .str => fun xs H Q => ∃ i, xs = [.int i] ∧ i.natAbs.log2 < 1920 ∧ Q (.str (toString i)) H
  | .tuple => fun xs H Q => ∃ p ys, xs = [.ref p] ∧ ((SqL K H p ys ∧ ∀ l, H l = none → Q (.ref l) (upd H l (.tup ys))) ∨ (SqT K H p ys ∧ Q (.ref p) H))
theorem blt_read {σ : L2.St} {ρ : Env} {H0 H : Hp} {ι : List Addr} {μ : Mu} {b : Blt} {cell : Bool} {vs : List V} {xs : List DL.X} {Q : VK} (r : Rel g H0 H σ ρ μ ι) (d : XDens g H0 ι vs xs) (h : Post g W σ ρ (rX g) H0 H ι (bltD μ cell b xs) Q) : rBlt g.K b vs H Q := by
  unfold bltD at h
  split at h
  · -- len
    rename_i x
    cases d with
    | cons d1 d2 =>
      cases d2
      split at h
      · rename_i xs e
        obtain ⟨p, vs, rfl, e2, e3⟩ := r.viewL d1 e
        exact ⟨_, _, rfl, .inl ⟨vs, e2, rfl⟩, by rw [e3.length]; exact h.now r (Den.int _)⟩
      · rename_i xs e
        obtain ⟨p, vs, rfl, e2, e3⟩ := r.viewT d1 e
        exact ⟨_, _, rfl, .inr ⟨vs, e2, rfl⟩, by rw [e3.length]; exact h.now r (Den.int _)⟩
      · rename_i z e
        split at h
        · rename_i hz
          have hd := viewS_den r d1 e (fun _ z => nomatch z)
          cases hd
          exact ⟨_, _, rfl, ⟨Nat.le_trans hz line6, rfl⟩, h.now r (Den.int _)⟩
        · exact h.elim
      · exact h.elim
  · -- abs
    cases d with
    | cons d1 d2 =>
      cases d2
      cases d1
      exact ⟨_, rfl, h.now r (Den.int _)⟩
  · cases d with
    | cons d1 d2 =>
      cases d2 with
      | cons d2 d3 =>
        cases d3
        cases d1
        cases d2
        exact ⟨_, _, rfl, h.now r (Den.int _)⟩
  · cases d with
    | cons d1 d2 =>
      cases d2 with
      | cons d2 d3 =>
        cases d3
        cases d1
        cases d2
        exact ⟨_, _, rfl, h.now r (Den.int _)⟩
  · -- sum
    cases d with
    | cons d1 d2 =>
      cases d2
      split at h
      · rename_i xs e
        obtain ⟨p, vs, rfl, e2, e3⟩ := r.viewL d1 e
        split at h
        · rename_i ns q
          obtain ⟨rfl, _⟩ := intsD_den q e3
          exact ⟨p, ns, rfl, e2, h.now r (Den.int _)⟩
        · exact h.elim
      · exact h.elim
  · -- all
    cases d with
    | cons d1 d2 =>
      cases d2
      split at h
      · rename_i xs e
        obtain ⟨p, vs, rfl, e2, e3⟩ := r.viewL d1 e
        split at h
        · rename_i ns q
          cases boolsD_den q e3
          exact ⟨p, ns, rfl, e2, h.now r (Den.bl _)⟩
        · exact h.elim
      · exact h.elim
  · cases d with
    | cons d1 d2 =>
      cases d2
      split at h
      · rename_i xs e
        obtain ⟨p, vs, rfl, e2, e3⟩ := r.viewL d1 e
        split at h
        · rename_i ns q
          cases boolsD_den q e3
          exact ⟨p, ns, rfl, e2, h.now r (Den.bl _)⟩
        · exact h.elim
      · exact h.elim
  · -- int
    cases d with
    | cons d1 d2 =>
      cases d2
      cases d1
      exact .inl ⟨_, rfl, h.now r (Den.int _)⟩
  · cases d with
    | cons d1 d2 =>
      cases d2
      cases d1
      exact .inr ⟨_, rfl, h.now r (Den.int _)⟩
  · -- list
    cases d with
    | cons d1 d2 =>
      cases d2
      split at h
      · rename_i xs e
        obtain ⟨p, vs, rfl, e3, e4⟩ := r.viewL d1 e
        exact .inl ⟨p, vs, rfl, .inl e3, (alloc_lst r e4 h).2⟩
      · rename_i xs e
        obtain ⟨p, vs, rfl, e3, e4⟩ := r.viewT d1 e
        exact .inl ⟨p, vs, rfl, .inr e3, (alloc_lst r e4 h).2⟩
      · rename_i xs e
        obtain ⟨p, ks, rfl, e3, e4⟩ := r.viewK d1 e
        exact .inr ⟨p, ks, rfl, e3, (alloc_lst r (denk_keys e4) h).2⟩
      · exact h.elim
  · cases d with
    | cons d1 d2 =>
      cases d2
      cases d1
      exact .inl ⟨_, rfl, h.now r (Den.bl _)⟩
  · cases d with
    | cons d1 d2 =>
      cases d2
      cases d1
      exact .inr ⟨_, rfl, h.now r (Den.bl _)⟩
  · cases d with
    | cons d1 d2 =>
      cases d2
      cases d1
      split at h
      · rename_i k
        exact ⟨_, rfl, k, h.now r (Den.str _)⟩
      · exact h.elim
  · -- tuple
    rename_i x
    cases d with
    | cons d1 d2 =>
      cases d2
      split at h
      · rename_i xs e
        split at h
        · rename_i hz
          obtain ⟨p, vs, rfl, e2, e3⟩ := r.viewL d1 e
          refine ⟨p, vs, rfl, .inl ⟨e2, fun l hl => ?_⟩⟩
          obtain ⟨r2, s2⟩ := r.value (o := .tup vs) hl
          exact h (.ref l) _ _ _ s2 r2 (Den.tup (SqT.of upd_same) (e3.mono s2.e0))
        · exact h.elim
      · rename_i xs e
        obtain ⟨p, vs, rfl, e2, e3⟩ := r.viewT d1 e
        refine ⟨p, vs, rfl, .inr ⟨e2, ?_⟩⟩
        have e := viewS_t e
        cases x with
        | d y =>
          cases e
          exact h.now r d1
        | r k =>
          obtain ⟨nd, q, e⟩ := view_r e
          cases nd <;> cases e
      · exact h.elim
  · -- sorted
    cases d with
    | cons d1 d2 =>
      cases d2
      split at h
      · rename_i xs e
        obtain ⟨p, vs, rfl, e2, e3⟩ := r.viewL d1 e
        split at h
        · rename_i ns q
          obtain ⟨rfl, _⟩ := intsD_den q e3
          refine .inl ⟨p, ns, rfl, e2, fun ns' l hp hs hl => ?_⟩
          rw [sort_one hp hs]
          exact (alloc_lst r (denInts _ _) h).2 l hl
        · split at h
          · rename_i zs q
            split at h
            · rename_i h64
              obtain ⟨rfl, _⟩ := strsD_den q e3
              refine .inr (.inl ⟨p, zs, rfl, e2, h64, fun ns' l hp hs hl => ?_⟩)
              rw [sort_oneS hp hs]
              exact (alloc_lst r (denStrs _ _) h).2 l hl
            · exact h.elim
          · split at h
            · rename_i k
              obtain ⟨k1, k⟩ := Bool.and_eq_true_iff.mp k
              obtain ⟨k2, k⟩ := Bool.and_eq_true_iff.mp k
              obtain ⟨k3, k4⟩ := Bool.and_eq_true_iff.mp k
              have k1 := List.all_eq_true.mp k1
              have k2 := List.all_eq_true.mp k2
              have k3 := List.all_eq_true.mp k3
              have k4 := List.all_eq_true.mp k4
              obtain ⟨z1, z2, z3⟩ := dens_zip e3
              have me : ∀ p ∈ vs.zip xs, p.2 ∈ xs := fun p m => (List.of_mem_zip m).2
              refine .inr (.inr (.inr ⟨p, V × D, vs.zip xs, Prod.fst, fun p => pD p.2, rfl, by rw [z2]; exact e2, fun p m => ?_, ?_, .inl ?_, fun p m => of_decide_eq_true (k3 _ (me p m)), fun l hl => ?_⟩))
              · exact ((z1 p m).mono r.ex).dp (toP_pD (k1 _ (me p m)))
              · intro d hd d' hd'
                obtain ⟨p, m, rfl⟩ := List.mem_map.mp hd
                obtain ⟨p', m', rfl⟩ := List.mem_map.mp hd'
                exact List.all_eq_true.mp (k4 _ (me p m)) _ (me p' m')
              · intro d hd
                obtain ⟨p, m, rfl⟩ := List.mem_map.mp hd
                have := k2 _ (me p m)
                revert this
                show isTup1 (pD p.2) = true → ∃ x r, pD p.2 = .tuple (x :: r)
                cases pD p.2 with
                | tuple ys =>
                  cases ys with
                  | nil => intro z; cases z
                  | cons y ys => intro _; exact ⟨_, _, rfl⟩
                | _ => intro z; cases z
              · have dd := dens_of (bs := (vs.zip xs).mergeSort (PySem.W.dataLe false fun p => pD p.2)) fun p m => z1 p ((List.mergeSort_perm _ _).mem_iff.mp m)
                rw [sortDt_zip z3] at dd
                exact (alloc_lst r dd h).2 l hl
            · exact h.elim
      · rename_i kvs e
        obtain ⟨p, ks, rfl, e2, e3⟩ := r.viewK d1 e
        split at h
        · rename_i zs q
          split at h
          · rename_i h64
            refine .inr (.inr (.inl ⟨p, ks, zs, rfl, .inl e2, denk_strs e3 q, h64, fun ns' l hp hs hl => ?_⟩))
            rw [sort_oneS hp hs]
            exact (alloc_lst r (denStrs _ _) h).2 l hl
          · exact h.elim
        · exact h.elim
      · exact h.elim
  · exact h.elim
/-- .. or of an own instance -/
def rBltA (X : Cx) (b : Blt) : List V → Hp → VK → Prop := match b with
  | .abs => fun xs H Q => rBlt X.K .abs xs H Q ∨ ∃ x, xs = [x] ∧ rOne X "__abs__" x H Q
  | .bool => fun xs H Q => rBlt X.K .bool xs H Q ∨ ∃ x, xs = [x] ∧ rOne X "__bool__" x H (fun v H' => ∃ b, v = .bl b ∧ Q v H')
  | b => rBlt X.K b
theorem bltP_read {k : Nat} {σ : L2.St} {ρ : Env} {H0 H : Hp} {ι : List Addr} {μ : Mu} {b : Blt} {cell : Bool} {vs : List V} {xs : List DL.X} {Q : VK} (O : Own g X P k) (hK : X.K = g.K) (r : Rel g H0 H σ ρ μ ι) (d : XDens g H0 ι vs xs) (h : Post g W σ ρ (rX g) H0 H ι (bltP P μ cell b xs) Q) : rBltA X b vs H Q := by
  unfold bltP at h
  split at h
  · rename_i ro e
    unfold ownB at e
    split at e
    · split at e
      · cases e
        cases d with
        | cons d1 d2 =>
          cases d2
          exact .inr ⟨_, rfl, one_read O r d1 (by decide +kernel) rfl h⟩
      · cases e
    · split at e
      · cases e
        cases d with
        | cons d1 d2 =>
          cases d2
          refine .inr ⟨_, rfl, ?_⟩
          unfold ownM at h
          have h := post_b h
          split at h
          · rename_i j ej
            obtain ⟨hc, a, dx', vf, ea, ha, _⟩ := insOf_read r d1 rfl
            obtain ⟨fd, ps, M, _, F, bd⟩ := O.meth _ _ j hc ej
            have bd := bd (by decide +kernel)
            rw [← O.K] at M
            refine ⟨a, _, _, _, _, _, fd, ps, _, ea, ha, M, F, O.room, bd, sp_quiet (W := W) r (.cons d1 .nil) ?_⟩
            have h2 := boolR_some h
            cases q : quiet (P.C1 j [_] μ) with
            | ok z μ' =>
              rw [q] at h2
              intro v A B C s t d
              obtain ⟨b, rfl, h3⟩ := h2 v A B C s t d
              exact ⟨b, rfl, h3⟩
            | er z μ' => rw [q] at h2; exact h2
            | no => rw [q] at h2; exact h2
          · exact h.elim
      · cases e
    · cases e
  · have z : rBlt X.K b vs H Q := by
      rw [hK]
      exact blt_read r d h
    cases b <;> first | exact .inl z | exact z
section
variable {x : Str} {p : Pos} {e : Expr} {es : List Expr} {ies : Es}
theorem se_blt {b : Blt} {cell : Bool} {k : Nat} (O : Own g X P k) (hK : X.K = g.K) (hu : X.A.units + 64 < cLine) (hc : X.calm = true) (hg : Gl X (bltName b)) (hm : X.mg (bltName b) = none) (ha : SA g W X (e :: es) (evEs P ies)) (he : starEach (e :: es) X.env = (false, eval e X.env) :: starEach es X.env) (hpl : (backTo pos (starEach es X.env)).any (·.1) = false) :
    SE g W X (.Call (.Name (bltName b) p) (e :: es) [] pos) (evE P (.blt cell b ies)) := by
  have fin : ∀ σ H Q, tE g W (evE P (.blt cell b ies)) σ H Q → tCB (rBltA X b) (tA g W (evEs P ies)) σ H Q := fun σ H Q ⟨H0, ρ, μ, ι, r, h⟩ => by
    simp only [evE] at h
    exact run_bind r h fun vs xs μ1 A1 H1 ι1 s1 r1 d1 h => bltP_read O hK r1 d1 h
  cases b with
  | len => exact PE_imp (pe_callB call_len hg hm (by decide +kernel) ha (by decide) (by decide) he hpl) fin
  | abs => exact PE_imp (pe_callB (CallR.or call_abs call_absO) hg hm (by decide +kernel) ha (by decide) (by decide) he hpl) fin
  | min2 => exact PE_imp (pe_callB (call_min2 hc) hg hm (by decide +kernel) ha (by decide) (by decide) he hpl) fin
  | max2 => exact PE_imp (pe_callB (call_max2 hc) hg hm (by decide +kernel) ha (by decide) (by decide) he hpl) fin
  | sum => exact PE_imp (pe_callB (cr_sum hc) hg hm (by decide +kernel) ha (by decide) (by decide) he hpl) fin
  | all => exact PE_imp (pe_callB (cr_all hc) hg hm (by decide +kernel) ha (by decide) (by decide) he hpl) fin
  | any => exact PE_imp (pe_callB (cr_any hc) hg hm (by decide +kernel) ha (by decide) (by decide) he hpl) fin
  | int => exact PE_imp (pe_callTy call_int1 hg hm (by decide +kernel) ha (by decide) (by decide) he hpl) fin
  | list => exact PE_imp (pe_callTy (CallR.or call_list_of (call_list_dK hc)) hg hm (by decide +kernel) ha (by decide) (by decide) he hpl) fin
  | sorted => exact PE_imp (pe_callB (CallR.or cr_sortedI (CallR.or cr_sortedS (CallR.or (call_sortedD hc) (cr_sortedT hu)))) hg hm (by decide +kernel) ha (by decide) (by decide) he hpl) fin
  | str => exact PE_imp (pe_callTy call_str_int hg hm (by decide +kernel) ha (by decide) (by decide) he hpl) fin
  | bool => exact PE_imp (pe_callTy (CallR.or call_bool1 call_boolO) hg hm (by decide +kernel) ha (by decide) (by decide) he hpl) fin
  | tuple => exact PE_imp (pe_callTy call_tuple_of hg hm (by decide +kernel) ha (by decide) (by decide) he hpl) fin
end
end
end DL


/-! DL6: walks, statements. -/
namespace DL
open PySem PySem.Spec PyProof.Rows L2
/-! ### what an iterator yields -/
def Yl (g : G) (H0 : Hp) (J : L2.It) (ds : List D) : Prop := ∀ H, Ex H0 H → ∀ i : Nat,
  (∀ d, ds[i]? = some d → J.go i H ∧ ∀ x H', J.yld i H x H' → (H' = H ∧ Den g H0 x d) ∨ (∃ p us es, H p = none ∧ x = .ref p ∧ H' = upd H p (.tup us) ∧ Dens g H0 us es ∧ d = .tup es)) ∧
  (ds.length ≤ i → J.stop i H)
def rI (g : G) : Hp → List Addr → L2.It → List D → Prop := fun H _ J ds => Yl g H J ds
abbrev SI (g : G) (W : WX) (X : Cx) (tg it : Expr) (ev : Env → Mu → R (List D)) : Prop := PI X tg it (run g W (rI g) ev)
theorem PI_imp {X : Cx} {tg e : Expr} {t t' : TI} (h : PI X tg e t) (i : ∀ σ H Q, t' σ H Q → t σ H Q) : PI X tg e t' := ⟨fun pins s σ H Q I q => h.run pins s σ H Q I (i _ _ _ q)⟩
section
variable {g : G} {X : Cx} {W : WX} {P : Par} {pos p : Pos} {tg : Expr}
/-- a list or a tuple -/
theorem pi_lt {l : Expr} {tl : TE} (hl : PE X l tl) : PI X tg l (fun σ H R => tl σ H fun x H1 => (∃ a xs, x = .ref a ∧ SqL X.K H1 a xs ∧ R (Itl X.K a) H1) ∨ ((∃ a xs, x = .ref a ∧ SqT X.K H1 a xs ∧ R (Itt X.K a) H1) ∨ ∃ z, x = .str z ∧ R (Its z) H1)) := by
  refine ⟨fun pins s σ H R I h => ?_⟩
  refine thn (hl.run pins s σ H _ I h) fun v s1 ⟨x, H1, I1, r1, q1⟩ => ?_
  rcases q1 with ⟨a, xs, e, hq, q⟩ | ⟨a, xs, e, hq, q⟩ | ⟨z, e, q⟩
  · subst e
    cases r1
    obtain ⟨its, rv, p, hz⟩ := I1.list hq
    refine wpAny_pyIter_list p.isList ?_
    refine ⟨s1.heap.objs.size, [s1.heap.objs.size], _, _, H1, rfl, I1.kept (t' := s1.toks) fun b o e => Heap.get?_push_of_some _ e, turn_list a _, ⟨_, Heap.get?_push_size _ rfl, rfl, rfl⟩, fun b hb => ?_, q⟩
    have e : b = s1.heap.objs.size := by simpa using hb
    subst e
    exact I1.fpOk (Nat.le_refl _) (I1.hok.fresh (Nat.le_refl _))
  · subst e
    cases r1
    obtain ⟨its, rv, p, hz⟩ := I1.tuple hq
    refine wpAny_pyIter_tuple (show s1.heap.IsTuple a its.toArray from p) ?_
    refine ⟨s1.heap.objs.size, [s1.heap.objs.size], _, _, H1, rfl, I1.kept (t' := s1.toks) fun b o e => Heap.get?_push_of_some _ e, turn_tuple a _, ⟨_, Heap.get?_push_size _ rfl, rfl, rfl⟩, fun b hb => ?_, q⟩
    have e : b = s1.heap.objs.size := by simpa using hb
    subst e
    exact I1.fpOk (Nat.le_refl _) (I1.hok.fresh (Nat.le_refl _))
  · subst e
    obtain ⟨t, rfl⟩ := r1
    cases ha : z.cps.all (· < 128)
    · exact wpAny_pyIter_wide ha (pi_one (tk := s1.toks) I1 _ (turn_str _ z t "str_iterator" (.inr rfl)) ⟨_, Heap.get?_push_size _ rfl, rfl, rfl⟩ q)
    · exact wpAny_pyIter_ascii ha (pi_one (tk := s1.toks) I1 _ (turn_str _ z t "str_ascii_iterator" (.inl rfl)) ⟨_, Heap.get?_push_size _ rfl, rfl, rfl⟩ q)
theorem yl_s {H0 : Hp} {z : Str} : Yl g H0 (Its z) (z.cps.toList.map fun c => .str (oneS c)) := fun H e i => by
  refine ⟨fun x hx => ?_, fun hi => by rw [List.length_map, Array.length_toList] at hi; exact hi⟩
  rw [List.getElem?_map] at hx
  obtain ⟨c, h1, rfl⟩ := Option.map_eq_some_iff.mp hx
  have h2 : z.cps[i]? = some c := by rw [← Array.getElem?_toList]; exact h1
  refine ⟨(Array.getElem?_eq_some_iff.mp h2).1, fun y H' hy => .inl ?_⟩
  obtain ⟨e1, c', h3, rfl⟩ := hy
  rw [h2] at h3
  cases h3
  exact ⟨e1, Den.str _⟩
theorem yl_l {H0 : Hp} {a : Addr} {vs : List V} {ds : List D} (h : SqL g.K H0 a vs) (d : Dens g H0 vs ds) : Yl g H0 (Itl g.K a) ds := fun H e i => by
  have hq := ex_l e h
  refine ⟨fun x hx => ?_, fun hi => ⟨vs, hq, by rw [d.length]; exact hi⟩⟩
  obtain ⟨v, h1, h2⟩ := d.get hx
  refine ⟨⟨vs, v, hq, h1⟩, fun y H' hy => .inl ?_⟩
  obtain ⟨e1, e2⟩ := hy
  have e3 := e2 vs hq
  rw [h1] at e3
  cases e3
  exact ⟨e1, h2⟩
theorem yl_t {H0 : Hp} {a : Addr} {vs : List V} {ds : List D} (h : SqT g.K H0 a vs) (d : Dens g H0 vs ds) : Yl g H0 (Itt g.K a) ds := fun H e i => by
  have hq := ex_t e h
  refine ⟨fun x hx => ?_, fun hi => ⟨vs, hq, by rw [d.length]; exact hi⟩⟩
  obtain ⟨v, h1, h2⟩ := d.get hx
  refine ⟨⟨vs, v, hq, h1⟩, fun y H' hy => .inl ?_⟩
  obtain ⟨e1, e2⟩ := hy
  have e3 := e2 vs hq
  rw [h1] at e3
  cases e3
  exact ⟨e1, h2⟩
theorem upTo_get {lo : Int} {n i : Nat} {d : D} (h : (upTo lo n)[i]? = some d) : i < n ∧ d = .int (lo + (i : Int)) := by
  unfold upTo at h
  rw [List.getElem?_map] at h
  by_cases hi : i < n
  · rw [List.getElem?_range hi] at h
    cases h
    exact ⟨hi, rfl⟩
  · rw [List.getElem?_eq_none (by simpa using hi)] at h
    cases h
theorem upTo_length (lo : Int) (n : Nat) : (upTo lo n).length = n := by unfold upTo; simp
theorem yl_r {H0 : Hp} {lo : Int} {n : Nat} : Yl g H0 (Itr lo n) (upTo lo n) := fun H e i => by
  refine ⟨fun x hx => ?_, fun hi => by rw [upTo_length] at hi; exact hi⟩
  obtain ⟨h1, rfl⟩ := upTo_get hx
  refine ⟨h1, fun y H' hy => .inl ?_⟩
  obtain ⟨e1, rfl⟩ := hy
  exact ⟨e1, Den.int _⟩
theorem enumD_get : ∀ {ds : List D} {n : Int} {i : Nat} {d : D}, (enumD n ds)[i]? = some d → ∃ x, ds[i]? = some x ∧ d = .tup [.int (n + (i : Int)), x]
  | [], n, i, d, h => by simp [enumD] at h
  | a :: as, n, 0, d, h => by
    simp [enumD] at h
    exact ⟨a, rfl, by rw [← h]; simp⟩
  | a :: as, n, i + 1, d, h => by
    have h' : (enumD (n + 1) as)[i]? = some d := by simpa [enumD] using h
    obtain ⟨x, h1, h2⟩ := enumD_get h'
    exact ⟨x, by simpa using h1, by rw [h2, show n + 1 + (i : Int) = n + ((i + 1 : Nat) : Int) by omega]⟩
theorem enumD_length : ∀ {ds : List D} {n : Int}, (enumD n ds).length = ds.length
  | [], n => rfl
  | a :: as, n => by simp [enumD, enumD_length]
theorem yl_e {H0 : Hp} {a : Addr} {vs : List V} {ds : List D} (h : SqL g.K H0 a vs) (d : Dens g H0 vs ds) : Yl g H0 (Ite g.K a) (enumD 0 ds) := fun H e i => by
  have hq := ex_l e h
  refine ⟨fun x hx => ?_, fun hi => ⟨vs, hq, by rw [d.length]; rw [enumD_length] at hi; exact hi⟩⟩
  obtain ⟨z, h0, rfl⟩ := enumD_get hx
  obtain ⟨v, h1, h2⟩ := d.get h0
  refine ⟨⟨vs, v, hq, h1⟩, fun y H' hy => .inr ?_⟩
  obtain ⟨T, u, rfl, e1, rfl, e2⟩ := hy
  have e3 := e2 vs hq
  rw [h1] at e3
  cases e3
  exact ⟨T, _, _, e1, rfl, rfl, .cons (Den.int _) (.cons h2 .nil), by rw [Int.zero_add]⟩
theorem zipD_get : ∀ {as bs : List D} {i : Nat} {d : D}, (zipD as bs)[i]? = some d → ∃ x y, as[i]? = some x ∧ bs[i]? = some y ∧ d = .tup [x, y]
  | [], bs, i, d, h => by simp [zipD] at h
  | a :: as, [], i, d, h => by simp [zipD] at h
  | a :: as, b :: bs, 0, d, h => by
    simp [zipD] at h
    exact ⟨a, b, rfl, rfl, h.symm⟩
  | a :: as, b :: bs, i + 1, d, h => by
    have h' : (zipD as bs)[i]? = some d := by simpa [zipD] using h
    obtain ⟨x, y, h1, h2, h3⟩ := zipD_get h'
    exact ⟨x, y, by simpa using h1, by simpa using h2, h3⟩
theorem zipD_length : ∀ {as bs : List D}, (zipD as bs).length = min as.length bs.length
  | [], bs => by simp [zipD]
  | a :: as, [] => by simp [zipD]
  | a :: as, b :: bs => by simp [zipD, zipD_length]
theorem yl_z {H0 : Hp} {a b : Addr} {vs us : List V} {ds es : List D} (h : SqL g.K H0 a vs) (h' : SqL g.K H0 b us) (d : Dens g H0 vs ds) (d' : Dens g H0 us es) : Yl g H0 (Itz g.K a b) (zipD ds es) := fun H e i => by
  have hq := ex_l e h
  have hq' := ex_l e h'
  refine ⟨fun x hx => ?_, fun hi => ⟨vs, us, hq, hq', by rw [d.length, d'.length]; rw [zipD_length] at hi; omega⟩⟩
  obtain ⟨z, z', h0, h0', rfl⟩ := zipD_get hx
  obtain ⟨v, h1, h2⟩ := d.get h0
  obtain ⟨v', h1', h2'⟩ := d'.get h0'
  refine ⟨⟨vs, us, v, v', hq, hq', h1, h1'⟩, fun y H' hy => .inr ?_⟩
  obtain ⟨T, u, u', rfl, e1, rfl, e2, e2'⟩ := hy
  have e3 := e2 vs hq
  rw [h1] at e3
  cases e3
  have e3 := e2' us hq'
  rw [h1'] at e3
  cases e3
  exact ⟨T, _, _, e1, rfl, rfl, .cons h2 (.cons h2' .nil), rfl⟩
theorem rev_get {α : Type} {xs : List α} {i : Nat} {x : α} (h : xs.reverse[i]? = some x) : i < xs.length ∧ xs[xs.length - 1 - i]? = some x := by
  have hi : i < xs.length := by
    have := (List.getElem?_eq_some_iff.mp h).1
    rwa [List.length_reverse] at this
  rw [List.getElem?_reverse hi] at h
  exact ⟨hi, h⟩
theorem yl_vl {H0 : Hp} {a : Addr} {vs : List V} {ds : List D} (h : SqL g.K H0 a vs) (d : Dens g H0 vs ds) : Yl g H0 (Itv g.K a vs.length) ds.reverse := fun H e i => by
  have hq := ex_l e h
  refine ⟨fun x hx => ?_, fun hi => by rw [d.length]; rw [List.length_reverse] at hi; exact hi⟩
  obtain ⟨hi, hx⟩ := rev_get hx
  rw [← d.length] at hi hx
  obtain ⟨v, h1, h2⟩ := d.get hx
  refine ⟨⟨hi, vs, v, hq, h1⟩, fun y H' hy => .inl ?_⟩
  obtain ⟨e1, e2⟩ := hy
  have e3 := e2 vs hq
  rw [h1] at e3
  cases e3
  exact ⟨e1, h2⟩
theorem yl_vt {H0 : Hp} {a : Addr} {vs : List V} {ds : List D} (h : SqT g.K H0 a vs) (d : Dens g H0 vs ds) : Yl g H0 (RT.ItvT g.K a vs.length) ds.reverse := fun H e i => by
  have hq := ex_t e h
  refine ⟨fun x hx => ?_, fun hi => by rw [d.length]; rw [List.length_reverse] at hi; exact hi⟩
  obtain ⟨hi, hx⟩ := rev_get hx
  rw [← d.length] at hi hx
  obtain ⟨v, h1, h2⟩ := d.get hx
  refine ⟨⟨hi, vs, v, hq, h1⟩, fun y H' hy => .inl ?_⟩
  obtain ⟨e1, e2⟩ := hy
  have e3 := e2 vs hq
  rw [h1] at e3
  cases e3
  exact ⟨e1, h2⟩
section
variable {a b : Expr} {ia ib : E}
theorem si_rev (hK : X.K = g.K) (hg : Gl X "reversed") (hm : X.mg "reversed" = none) (ha : SE g W X a (evE P ia)) (hs : starEach [a] X.env = [(false, eval a X.env)]) : SI g W X tg (.Call (.Name "reversed" p) [a] [] pos) (evIt P (.rev ia)) :=
  PI_imp (RT.pi_revA hg hm ha (by rw [hs]; rfl)) fun σ H Q ⟨H0, ρ, μ, ι, r, h⟩ => by
    simp only [evIt] at h
    refine run_bind r h fun v x μ1 A1 H1 ι1 s1 r1 d1 h => ?_
    split at h
    · rename_i xs
      have d1 : Den g A1 v (.lst xs) := d1
      rw [hK]
      cases d1 with
      | lst hs hd => exact ⟨_, _, rfl, .inl ⟨SqL.of (r1.ex _ _ hs), h.now r1 (yl_vl (SqL.of hs) hd)⟩⟩
    · rename_i xs
      have d1 : Den g A1 v (.tup xs) := d1
      rw [hK]
      cases d1 with
      | tup hs hd => exact ⟨_, _, rfl, .inr ⟨ex_t r1.ex hs, h.now r1 (yl_vt hs hd)⟩⟩
    · exact h.elim
theorem si_seq (hK : X.K = g.K) (ha : SE g W X a (evE P ia)) : SI g W X tg a (evIt P (.seq ia)) := PI_imp (pi_lt ha) fun σ H Q ⟨H0, ρ, μ, ι, r, h⟩ => by
  simp only [evIt] at h
  refine run_bind r h fun v x μ1 A1 H1 ι1 s1 r1 d1 h => ?_
  cases x with
  | r k => exact h.elim
  | d x =>
    have d1 : Den g A1 v x := d1
    rw [hK]
    cases d1 with
    | lst hs hd => exact .inl ⟨_, _, rfl, SqL.of (r1.ex _ _ hs), h.now r1 (yl_l (SqL.of hs) hd)⟩
    | kls hs hd => exact .inl ⟨_, _, rfl, ex_l r1.ex hs, h.now r1 (yl_l hs hd)⟩
    | tup hs hd => exact .inr (.inl ⟨_, _, rfl, ex_t r1.ex hs, h.now r1 (yl_t hs hd)⟩)
    | str z => exact .inr (.inr ⟨z, rfl, h.now r1 yl_s⟩)
    | _ => exact h.elim
theorem small_ok {i : Int} (h : small i = true) : -(2 ^ 62) ≤ i ∧ i < 2 ^ 62 := by
  have h2 := Bool.and_eq_true_iff.mp h
  exact ⟨of_decide_eq_true h2.1, of_decide_eq_true h2.2⟩
theorem si_rng1 (hg : Gl X "range") (hm : X.mg "range" = none) (ha : SE g W X a (evE P ia)) (hs : starEach [a] X.env = [(false, eval a X.env)]) : SI g W X tg (.Call (.Name "range" p) [a] [] pos) (evIt P (.rng1 ia)) :=
  PI_imp (pi_range1 hg hm (pa_cons ha pa_nil hs) hs) fun σ H Q ⟨H0, ρ, μ, ι, r, h⟩ => by
    simp only [evIt] at h
    refine run_bind r h fun v x μ1 A1 H1 ι1 s1 r1 d1 h => ?_
    split at h
    · rename_i j e
      cases intX_eq e
      cases d1
      split at h
      · rename_i k
        exact ⟨j, rfl, (small_ok k).1, (small_ok k).2, h.now r1 yl_r⟩
      · exact h.elim
    · exact h.elim
theorem si_rng2 (hg : Gl X "range") (hm : X.mg "range" = none) (ha : SE g W X a (evE P ia)) (hb : SE g W X b (evE P ib)) (hs : starEach [a, b] X.env = [(false, eval a X.env), (false, eval b X.env)]) (hs2 : starEach [b] X.env = [(false, eval b X.env)]) : SI g W X tg (.Call (.Name "range" p) [a, b] [] pos) (evIt P (.rng2 ia ib)) :=
  PI_imp (pi_range2 hg hm (pa_cons ha (pa_cons hb pa_nil hs2) (by rw [hs, hs2])) hs hs2) fun σ H Q ⟨H0, ρ, μ, ι, r, h⟩ => by
    simp only [evIt] at h
    refine run_bind r h fun v x μ1 A1 H1 ι1 s1 r1 d1 h0 => ?_
    clear h
    refine run_bind r1 h0 fun v2 y μ2 A2 H2 ι2 s2 r2 d2 h => ?_
    clear h0
    split at h
    · rename_i i j e e2
      cases intX_eq e
      cases intX_eq e2
      cases d1
      cases d2
      split at h
      · rename_i k
        obtain ⟨k1, k2⟩ := Bool.and_eq_true_iff.mp k
        exact ⟨i, j, rfl, ⟨(small_ok k1).1, (small_ok k1).2, (small_ok k2).1, (small_ok k2).2⟩, h.now r2 yl_r⟩
      · exact h.elim
    · exact h.elim
theorem si_enum {elts : List Expr} {kk : Nat} {tpos : Pos} (hK : X.K = g.K) (hg : Gl X "enumerate") (hm : X.mg "enumerate" = none) (ha : SE g W X a (evE P ia)) (hs : starEach [a] X.env = [(false, eval a X.env)]) :
    SI g W X (.Tuple elts kk tpos) (.Call (.Name "enumerate" p) [a] [] pos) (evIt P (.enum ia)) :=
  PI_imp (pi_enum hg hm (pa_cons ha pa_nil hs) hs) fun σ H Q ⟨H0, ρ, μ, ι, r, h⟩ => by
    simp only [evIt] at h
    refine run_bind r h fun v x μ1 A1 H1 ι1 s1 r1 d1 h => ?_
    split at h
    · rename_i xs
      have d1 : Den g A1 v (.lst xs) := d1
      rw [hK]
      cases d1 with
      | lst hs hd => exact ⟨_, _, rfl, SqL.of (r1.ex _ _ hs), h.now r1 (yl_e (SqL.of hs) hd)⟩
    · exact h.elim
theorem si_zip {elts : List Expr} {kk : Nat} {tpos : Pos} (hK : X.K = g.K) (hg : Gl X "zip") (hm : X.mg "zip" = none) (ha : SE g W X a (evE P ia)) (hb : SE g W X b (evE P ib)) (hs : starEach [a, b] X.env = (false, eval a X.env) :: starEach [b] X.env) (hs2 : starEach [b] X.env = [(false, eval b X.env)]) :
    SI g W X (.Tuple elts kk tpos) (.Call (.Name "zip" p) [a, b] [] pos) (evIt P (.zip ia ib)) :=
  PI_imp (pi_zip hg hm (pa_cons ha (pa_cons hb pa_nil hs2) hs) hs (by rw [hs2]; rfl)) fun σ H Q ⟨H0, ρ, μ, ι, r, h⟩ => by
    simp only [evIt] at h
    refine run_bind r h fun v x μ1 A1 H1 ι1 s1 r1 d1 h0 => ?_
    clear h
    refine run_bind r1 h0 fun v2 y μ2 A2 H2 ι2 s2 r2 d2 h => ?_
    clear h0
    split at h
    · rename_i xs ys
      have d1 : Den g A2 v (.lst xs) := XDen.stp (x := .d (.lst xs)) s2 d1
      have d2 : Den g A2 v2 (.lst ys) := d2
      rw [hK]
      cases d1 with
      | lst hs hd =>
        cases d2 with
        | lst hs' hd' => exact ⟨_, _, _, _, rfl, SqL.of (r2.ex _ _ hs), SqL.of (r2.ex _ _ hs'), h.now r2 (yl_z (SqL.of hs) (SqL.of hs') hd hd')⟩
    · exact h.elim
end
/-! ### statements -/
def PostS (g : G) (W : WX) (H0 H : Hp) (ι : List Addr) (r : R Fl) (D : Ends) : Prop := match r with
  | .ok (.nx ρ') μ' => ∀ σ' H0' H' ι', Stp H0 H ι H0' H' ι' → Rel g H0' H' σ' ρ' μ' ι' → D.nx σ' H'
  | .ok (.bk ρ') μ' => ∀ σ' H0' H' ι', Stp H0 H ι H0' H' ι' → Rel g H0' H' σ' ρ' μ' ι' → D.bk σ' H'
  | .ok (.ct ρ') μ' => ∀ σ' H0' H' ι', Stp H0 H ι H0' H' ι' → Rel g H0' H' σ' ρ' μ' ι' → D.ct σ' H'
  | .ok (.rt x) μ' => ∀ v σ' H0' H' ι', Stp H0 H ι H0' H' ι' → Rel g H0' H' σ' [] μ' ι' → XDen g H0' ι' v x → D.rt v H'
  | .ok (.ex e ρ') μ' => ∀ cls d σ' H0' H' ι', Stp H0 H ι H0' H' ι' → Rel g H0' H' σ' ρ' μ' ι' → EDen g H0' H' cls d e → W cls d σ' H'
  | .er _ _ => False
  | .no => False
def tS (g : G) (W : WX) (ev : Env → Mu → R Fl) : TS := fun D σ H => ∃ H0 ρ μ ι, Rel g H0 H σ ρ μ ι ∧ PostS g W H0 H ι (ev ρ μ) D
theorem PS_imp {e : Stmt} {t t' : TS} (h : PS X e t) (i : ∀ D σ H, t' D σ H → t D σ H) : PS X e t' := ⟨fun pins s σ H D I q => h.run pins s σ H D I (i _ _ _ q)⟩
theorem PSs_imp {e : List Stmt} {t t' : TS} (h : PSs X e t) (i : ∀ D σ H, t' D σ H → t D σ H) : PSs X e t' := ⟨fun pins s σ H D I q => h.run pins s σ H D I (i _ _ _ q)⟩
abbrev SS (g : G) (W : WX) (X : Cx) (s : Stmt) (ev : Env → Mu → R Fl) : Prop := PS X s (tS g W ev)
abbrev SSs (g : G) (W : WX) (X : Cx) (s : List Stmt) (ev : Env → Mu → R Fl) : Prop := PSs X s (tS g W ev)
theorem PostS.step {H0 H H0' H' : Hp} {ι ι' : List Addr} (s : Stp H0 H ι H0' H' ι') {r : R Fl} {D : Ends} (h : PostS g W H0 H ι r D) : PostS g W H0' H' ι' r D := by
  cases r with
  | ok f μ' =>
    cases f with
    | nx ρ' => exact fun a A B C t => h a A B C (s.trans t)
    | bk ρ' => exact fun a A B C t => h a A B C (s.trans t)
    | ct ρ' => exact fun a A B C t => h a A B C (s.trans t)
    | rt x => exact fun v a A B C t => h v a A B C (s.trans t)
    | ex e ρ' => exact fun c d a A B C t => h c d a A B C (s.trans t)
  | er e μ' => exact h
  | no => exact h
theorem run_st {α β : Type} {rel : Hp → List Addr → β → α → Prop} {σ : L2.St} {ρ : Env} {H0 H : Hp} {ι : List Addr} {μ : Mu} {ev : Env → Mu → R α} {k : α → Mu → R Fl} {D : Ends} {S : β → Hp → Prop} (r : Rel g H0 H σ ρ μ ι) (h : PostS g W H0 H ι ((ev ρ μ).st ρ k) D)
    (hk : ∀ v x μ' H0' H' ι', Stp H0 H ι H0' H' ι' → Rel g H0' H' σ ρ μ' ι' → rel H0' ι' v x → PostS g W H0' H' ι' (k x μ') D → S v H') : run g W rel ev σ H S := by
  refine ⟨H0, ρ, μ, ι, r, ?_⟩
  cases e : ev ρ μ with
  | ok x μ' =>
    rw [e] at h
    exact fun v A B C s t d => hk v x μ' A B C s t d (PostS.step s h)
  | er x μ' =>
    rw [e] at h
    exact fun c d A B C s t q => h c d σ A B C s t q
  | no =>
    rw [e] at h
    exact h
section
variable {σ : L2.St} {ρ : Env} {H0 H : Hp} {ι : List Addr} {μ : Mu} {D : Ends}
theorem PostS.nx {ρ' : Env} (h : PostS g W H0 H ι (.ok (.nx ρ') μ) D) (r : Rel g H0 H σ ρ' μ ι) : D.nx σ H := h σ H0 H ι Stp.refl r
theorem ss_nil : SSs g W X [] (evSs P .nil) := PSs_imp pss_nil fun D σ H ⟨H0, ρ, μ, ι, r, h⟩ => by
  simp only [evSs] at h
  exact h.nx r
theorem ss_cons {s : Stmt} {rest : List Stmt} {is : S} {ir : Ss} (h1 : SS g W X s (evS P is)) (h2 : SSs g W X rest (evSs P ir)) : SSs g W X (s :: rest) (evSs P (.cons is ir)) := PSs_imp (pss_cons h1 h2) fun D σ H ⟨H0, ρ, μ, ι, r, h⟩ => by
  simp only [evSs] at h
  refine ⟨H0, ρ, μ, ι, r, ?_⟩
  cases e : evS P is ρ μ with
  | ok f μ' =>
    rw [e] at h
    cases f with
    | nx ρ' => exact fun a A B C t q => ⟨A, ρ', μ', C, q, PostS.step t h⟩
    | bk ρ' => exact h
    | ct ρ' => exact h
    | rt x => exact h
    | ex e ρ' => exact h
  | er e μ' =>
    rw [e] at h
    exact h
  | no =>
    rw [e] at h
    exact h
/-- a ghost step -/
theorem ss_frz {rest : List Stmt} {i : Nat} {ir : Ss} (h2 : SSs g W X rest (evSs P ir)) : SSs g W X rest (evSs P (.cons (.frz i) ir)) := PSs_imp h2 fun D σ H ⟨H0, ρ, μ, ι, r, h⟩ => by
  simp only [evSs, evS] at h
  cases q : ρ[i]? with
  | none => simp only [q] at h; exact h.elim
  | some o =>
    cases o with
    | none => simp only [q] at h; exact h.elim
    | some x =>
      simp only [q] at h
      obtain ⟨v, h1, h2⟩ := r.slot i x q
      have hl : i < σ.length := (List.getElem?_eq_some_iff.mp h1).1
      have same : σ.set i (some v) = σ := by
        apply List.ext_getElem?
        intro j
        by_cases hj : j = i
        · subst hj
          rw [List.getElem?_set_self hl, h1]
        · rw [List.getElem?_set_ne (Ne.symm hj)]
      cases x with
      | d x =>
        simp only [frzX] at h
        have r2 := r.setSlot (i := i) h2
        rw [same] at r2
        exact ⟨H0, _, _, ι, r2, h⟩
      | r k =>
        simp only [frzX] at h
        obtain ⟨p, h3, rfl⟩ := h2
        cases q2 : μ[k]? with
        | none => simp only [q2] at h; exact h.elim
        | some o =>
          cases o with
          | none => simp only [q2] at h; exact h.elim
          | some n =>
            simp only [q2] at h
            cases q3 : n.fast with
            | none => simp only [q3] at h; exact h.elim
            | some x =>
              simp only [q3] at h
              obtain ⟨H0', r2, s2, d2⟩ := frz_read r q2 h3 q3
              have r3 := r2.setSlot (i := i) (v := .ref p) (x := .d x) d2
              rw [same] at r3
              exact ⟨_, _, _, ι, r3, PostS.step s2 h⟩
theorem ss_never {s : Stmt} : SS g W X s (evS P .never) := ⟨fun pins s σ H D I ⟨H0, ρ, μ, ι, r, h⟩ => by
  simp only [evS] at h
  exact h.elim⟩
end
end
end DL
/-! DL7: statements. -/
namespace DL
open PySem PySem.Spec PyProof.Rows L2
section
variable {g : G} {X : Cx} {W : WX} {P : Par} {pos : Pos}
section
variable {σ : L2.St} {ρ : Env} {H0 H : Hp} {ι : List Addr} {μ : Mu} {D : Ends}
theorem PostS.rt {v : V} {x : DL.X} (h : PostS g W H0 H ι (.ok (.rt x) μ) D) (r : Rel g H0 H σ ρ μ ι) (d : XDen g H0 ι v x) : D.rt v H := h v σ H0 H ι Stp.refl r.noSlots d
end
section
variable {e c : Expr} {ie : E} {it : T} {a b : List Stmt} {ia ib : Ss}
theorem ss_set {i : Nat} {t : TS} {x : Str} {p : Pos} (h : ∀ te, PE X e te → PS X (.Assign [.Name x p] e pos) (tAsg te (gName i))) (he : SE g W X e (evE P ie)) : SS g W X (.Assign [.Name x p] e pos) (evS P (.set i ie)) := PS_imp (h _ he) fun D σ H ⟨H0, ρ, μ, ι, r, h⟩ => by
  simp only [evS] at h
  refine run_st r h fun v x μ1 A1 H1 ι1 s1 r1 d1 h => ?_
  exact h.nx (r1.setSlot d1)
theorem ss_pass : SS g W X (.Pass pos) (evS P .pass) := PS_imp ps_pass fun D σ H ⟨H0, ρ, μ, ι, r, h⟩ => by
  simp only [evS] at h
  exact h.nx r
theorem ss_doc {x : Str} {j : Nat} {p2 : Pos} : SS g W X (.Expr (.Constant (.str x) j pos) p2) (evS P .pass) := PS_imp ps_doc fun D σ H ⟨H0, ρ, μ, ι, r, h⟩ => by
  simp only [evS] at h
  exact h.nx r
theorem ss_brk : SS g W X (.Break pos) (evS P .brk) := PS_imp ps_break fun D σ H ⟨H0, ρ, μ, ι, r, h⟩ => by
  simp only [evS] at h
  exact h σ H0 H ι Stp.refl r
theorem ss_cnt : SS g W X (.Continue pos) (evS P .cnt) := PS_imp ps_continue fun D σ H ⟨H0, ρ, μ, ι, r, h⟩ => by
  simp only [evS] at h
  exact h σ H0 H ι Stp.refl r
theorem ss_retN : SS g W X (.Return none pos) (evS P .retN) := PS_imp ps_retN fun D σ H ⟨H0, ρ, μ, ι, r, h⟩ => by
  simp only [evS] at h
  exact h.rt r (Den.non)
theorem ss_ret (he : SE g W X e (evE P ie)) : SS g W X (.Return (some e) pos) (evS P (.ret ie)) := PS_imp (ps_ret he) fun D σ H ⟨H0, ρ, μ, ι, r, h⟩ => by
  simp only [evS] at h
  exact run_st r h fun v x μ1 A1 H1 ι1 s1 r1 d1 h => h.rt r1 d1
theorem ss_ex (he : SE g W X e (evE P ie)) (hs : swapsWith e none pos.line X.env = pure false) : SS g W X (.Expr e pos) (evS P (.ex ie)) := PS_imp (ps_expr he hs) fun D σ H ⟨H0, ρ, μ, ι, r, h⟩ => by
  simp only [evS] at h
  exact run_st r h fun v x μ1 A1 H1 ι1 s1 r1 d1 h => h.nx r1
theorem ss_ite (hc : ST g W X c (evT P it)) (ha : SSs g W X a (evSs P ia)) (hb : SSs g W X b (evSs P ib)) : SS g W X (.If c a b pos) (evS P (.ite it ia ib)) := PS_imp (ps_if hc ha hb) fun D σ H ⟨H0, ρ, μ, ι, r, h⟩ => by
  simp only [evS] at h
  refine run_st r h fun k k' μ1 A1 H1 ι1 s1 r1 d1 h => ?_
  have d1 : k = k' := d1
  subst d1
  cases k with
  | true => exact iteT ⟨A1, ρ, μ1, ι1, r1, h⟩
  | false => exact iteF ⟨A1, ρ, μ1, ι1, r1, h⟩
/-! ### targets -/
def gsNames : List Nat → TGs
  | [] => gNil
  | i :: is => gCons (gName i) (gsNames is)
theorem gs_names {H : Hp} {Q : L2.St → Hp → Prop} : ∀ {is : List Nat} {vs : List V} {σ : L2.St}, is.length = vs.length → Q ((is.zip vs).foldl (fun σ p => σ.set p.1 (some p.2)) σ) H → gsNames is vs σ H Q
  | [], [], σ, _, q => ⟨rfl, q⟩
  | [], _ :: _, σ, h, _ => by cases h
  | _ :: _, [], σ, h, _ => by cases h
  | i :: is, v :: vs, σ, h, q => ⟨v, vs, rfl, gs_names (is := is) (vs := vs) (by simpa using h) q⟩
theorem Rel.setAll {H0 H : Hp} {ι : List Addr} {μ : Mu} : ∀ {is : List Nat} {vs : List V} {ds : List D} {σ : L2.St} {ρ : Env}, is.length = ds.length → Dens g H0 vs ds → Rel g H0 H σ ρ μ ι →
    Rel g H0 H ((is.zip vs).foldl (fun σ p => σ.set p.1 (some p.2)) σ) ((is.zip ds).foldl (fun ρ p => ρ.set p.1 (some (.d p.2))) ρ) μ ι
  | [], _, _, σ, ρ, _, _, r => by simpa using r
  | i :: is, _, _, σ, ρ, h, .nil, r => by cases h
  | i :: is, _, _, σ, ρ, h, .cons d ds, r => Rel.setAll (is := is) (by simpa using h) ds (r.setSlot (i := i) (x := .d _) d)
theorem swap_no {e : Expr} {t : Option Expr} {l : Nat} {env : PySem.Env} (h : (match e with | .ListComp .. => false | .SetComp .. => false | .DictComp .. => false | _ => true) = true) : swapsWith e t l env = pure false := by
  cases e <;> first | rfl | cases h
def g1 (K : PySem.W.Frag) : Nat ⊕ List Nat → TG
  | .inl i => gName i
  | .inr is => gTup K is.length (gsNames is)
def gsMix (K : PySem.W.Frag) : List (Nat ⊕ List Nat) → TGs
  | [] => gNil
  | t :: ts => gCons (g1 K t) (gsMix K ts)
theorem g1_mono {K : PySem.W.Frag} {t : Nat ⊕ List Nat} {v : V} {σ : L2.St} {H : Hp} {Q Q' : L2.St → Hp → Prop} (h : g1 K t v σ H Q) (i : ∀ σ H, Q σ H → Q' σ H) : g1 K t v σ H Q' := by
  cases t with
  | inl j => exact i _ _ h
  | inr is =>
    obtain ⟨a, xs, e1, e2, e3, h⟩ := h
    refine ⟨a, xs, e1, e2, e3, ?_⟩
    have : ∀ {is : List Nat} {xs : List V} {σ : L2.St}, gsNames is xs σ H Q → gsNames is xs σ H Q' := fun {is} => by
      induction is with
      | nil => exact fun {xs σ} h => ⟨h.1, i _ _ h.2⟩
      | cons j is ih =>
        intro xs σ h
        obtain ⟨v, r, e, h⟩ := h
        exact ⟨v, r, e, ih h⟩
    exact this h
theorem bind1_read {t : Nat ⊕ List Nat} {x : D} {v : V} {σ : L2.St} {ρ ρ' : Env} {H0 H : Hp} {ι : List Addr} {μ : Mu} {Q : L2.St → Hp → Prop} (r : Rel g H0 H σ ρ μ ι) (d : Den g H0 v x) (e : bind1 t x ρ = some ρ') (q : ∀ σ', Rel g H0 H σ' ρ' μ ι → Q σ' H) : g1 g.K t v σ H Q := by
  cases t with
  | inl i =>
    unfold bind1 at e
    cases e
    exact q _ (r.setSlot (x := .d x) d)
  | inr is =>
    cases d with
    | tup hs hd =>
      unfold bind1 at e
      dsimp only at e
      split at e
      · rename_i hl
        cases e
        exact ⟨_, _, rfl, ex_t r.ex hs, by rw [hd.length, hl], gs_names (H := H) (by rw [hd.length, hl]) (q _ (Rel.setAll hl hd r))⟩
      · cases e
    | _ => cases e
theorem bindN_read {H0 H : Hp} {ι : List Addr} {μ : Mu} {Q : L2.St → Hp → Prop} : ∀ {ts : List (Nat ⊕ List Nat)} {ds : List D} {vs : List V} {σ : L2.St} {ρ ρ' : Env}, Rel g H0 H σ ρ μ ι → Dens g H0 vs ds → bindN ts ds ρ = some ρ' → (∀ σ', Rel g H0 H σ' ρ' μ ι → Q σ' H) → gsMix g.K ts vs σ H Q
  | [], _, _, σ, ρ, ρ', r, .nil, e, q => by
    cases e
    exact ⟨rfl, q _ r⟩
  | [], _, _, σ, ρ, ρ', r, .cons _ _, e, q => by cases e
  | t :: ts, _, _, σ, ρ, ρ', r, .nil, e, q => by cases e
  | t :: ts, _, _, σ, ρ, ρ', r, .cons (d := x) (ds := xs) d ds, e, q => by
    have e : (bind1 t x ρ).bind (bindN ts xs) = some ρ' := e
    obtain ⟨ρ1, e1, e2⟩ := Option.bind_eq_some_iff.mp e
    exact ⟨_, _, rfl, bind1_read r d e1 fun σ' r' => bindN_read r' ds e2 q⟩
theorem bindN_len : ∀ {ts : List (Nat ⊕ List Nat)} {ds : List D} {ρ ρ' : Env}, bindN ts ds ρ = some ρ' → ts.length = ds.length
  | [], [], _, _, _ => rfl
  | [], _ :: _, _, _, e => by cases e
  | _ :: _, [], _, _, e => by cases e
  | t :: ts, x :: xs, ρ, ρ', e => by
    have e : (bind1 t x ρ).bind (bindN ts xs) = some ρ' := e
    obtain ⟨ρ1, e1, e2⟩ := Option.bind_eq_some_iff.mp e
    rw [List.length_cons, List.length_cons, bindN_len e2]
/-- names' targets -/
def gTg (K : PySem.W.Frag) : Tg → TG
  | .tn ts => gTup K ts.length (gsMix K ts)
  | .nm i => gName i
  | .tp is => gTup K is.length (gsNames is)
theorem tg_read {tg : Tg} {x : D} {v : V} {σ : L2.St} {ρ ρ' : Env} {H0 H : Hp} {ι : List Addr} {μ : Mu} {Q : L2.St → Hp → Prop} (r : Rel g H0 H σ ρ μ ι) (d : Den g H0 v x) (e : bindTg tg x ρ = some ρ') (q : ∀ σ', Rel g H0 H σ' ρ' μ ι → Q σ' H) : gTg g.K tg v σ H Q := by
  cases tg with
  | nm i =>
    unfold bindTg at e
    cases e
    exact q _ (r.setSlot (x := .d x) d)
  | tn ts =>
    cases d with
    | tup hs hd =>
      have e : bindN ts _ ρ = some ρ' := e
      exact ⟨_, _, rfl, ex_t r.ex hs, by rw [hd.length, bindN_len e], bindN_read r hd e q⟩
    | _ => cases e
  | tp is =>
    cases d with
    | tup hs hd =>
      unfold bindTg at e
      dsimp only at e
      split at e
      · rename_i hl
        cases e
        exact ⟨_, _, rfl, ex_t r.ex hs, by rw [hd.length, hl], gs_names (H := H) (by rw [hd.length, hl]) (q _ (Rel.setAll hl hd r))⟩
      · cases e
    | _ => cases e
theorem ss_unp {is : List Nat} {es : List Expr} {k : Nat} {tp : Pos} (hK : X.K = g.K) (he : SE g W X e (evE P ie)) (hg : PG X (.Tuple es k tp) (gTg X.K (.tp is))) (hs : swapsWithSole [.Tuple es k tp] e pos.line X.env = pure false) (hw : swappedStores [.Tuple es k tp] e X.env = pure none) :
    SS g W X (.Assign [.Tuple es k tp] e pos) (evS P (.unp is ie)) := PS_imp (ps_asg he hg hs hw) fun D σ H ⟨H0, ρ, μ, ι, r, h⟩ => by
  simp only [evS] at h
  refine run_st r h fun v x μ1 A1 H1 ι1 s1 r1 d1 h => ?_
  cases x with
  | r k => exact h.elim
  | d x =>
    dsimp only at h
    split at h
    · rename_i ρ' q
      rw [hK]
      exact tg_read r1 d1 q fun σ' r' => h.nx r'
    · exact h.elim
theorem ss_par {i j : Nat} {x y : Str} {e2 : Expr} {ie2 : E} {px py pt : Pos} {kt k2 pt2} (hp : ∀ ta, PA X [e, e2] ta → PS X (.Assign [.Tuple [.Name x px, .Name y py] kt pt] (.Tuple [e, e2] k2 pt2) pos) (tPar i j ta))
    (ha : SA g W X [e, e2] (evEs P (.cons ie (.cons ie2 .nil)))) : SS g W X (.Assign [.Tuple [.Name x px, .Name y py] kt pt] (.Tuple [e, e2] k2 pt2) pos) (evS P (.par i j ie ie2)) := PS_imp (hp _ ha) fun D σ H ⟨H0, ρ, μ, ι, r, h⟩ => by
  simp only [evS] at h
  refine ⟨H0, ρ, μ, ι, r, ?_⟩
  simp only [evEs]
  cases q1 : evE P ie ρ μ with
  | no => rw [q1] at h; exact h
  | er x μ' =>
    rw [q1] at h
    exact fun c d A B C s t z => h c d σ A B C s t z
  | ok x1 μ1 =>
    rw [q1] at h
    simp only [R.st] at h
    simp only [R.bind]
    cases q2 : evE P ie2 ρ μ1 with
    | no => rw [q2] at h; exact h
    | er x μ' =>
      rw [q2] at h
      exact fun c d A B C s t z => h c d σ A B C s t z
    | ok x2 μ2 =>
      rw [q2] at h
      simp only [R.st] at h
      intro vs A B C s t d
      cases d with
      | cons d1 d2 =>
        cases d2 with
        | cons d2 d3 =>
          cases d3
          exact ⟨_, _, rfl, h _ A B C s ((t.setSlot d1).setSlot d2)⟩
theorem ss_aug {i : Nat} {sub : Bool} {x : Str} {p : Pos} (h : ∀ te, PE X e te → PS X (.AugAssign (.Name x p) (if sub then .Sub else .Add) e pos) (tAug i te (ipI fun a b => if sub then a - b else a + b))) (he : SE g W X e (evE P ie)) :
    SS g W X (.AugAssign (.Name x p) (if sub then .Sub else .Add) e pos) (evS P (.augN i sub ie)) := PS_imp (h _ he) fun D σ H ⟨H0, ρ, μ, ι, r, h⟩ => by
  simp only [evS] at h
  split at h
  · rename_i a e1
    obtain ⟨v, h1, h2⟩ := r.slot i _ e1
    cases h2
    refine ⟨_, h1, run_st r h fun v x μ1 A1 H1 ι1 s1 r1 d1 h => ?_⟩
    split at h
    · cases d1
      exact ⟨_, _, rfl, rfl, h.nx (r1.setSlot (Den.int _))⟩
    · exact h.elim
  · exact h.elim
theorem ix_den {xs : List D} {vs : List V} {H : Hp} (d : Dens g H vs xs) {j : Int} {n : Nat} (h : ixN xs.length j = some n) : ixN vs.length j = some n := by rw [d.length]; exact h
end
end
end DL
/-! DL8: loops, stores, list methods, isinstance, comprehensions. -/
namespace DL
open PySem PySem.Spec PyProof.Rows L2
section
variable {g : G} {X : Cx} {W : WX} {P : Par} {pos : Pos}
section
variable {e c : Expr} {ie : E} {it : T} {a b : List Stmt} {ia ib : Ss}
/-! ### o[i] = e -/
theorem ss_setI {o i : Expr} {io ii : E} {sp : Pos} (he : SE g W X e (evE P ie)) (ho : SE g W X o (evE P io)) (hi : SE g W X i (evE P ii))
    (ha : ∀ v, assign (.Subscript o i sp) X.env v = (do
      let ov ← holding [v] (eval o X.env)
      let iv ← holding [v, ov] (eval i X.env)
      standAt sp
      holding [v, ov, iv] (setItem ov iv v)
      release [v, ov, iv] []))
    (hs : swapsWithSole [.Subscript o i sp] e pos.line X.env = pure false) (hw : swappedStores [.Subscript o i sp] e X.env = pure none) :
    SS g W X (.Assign [.Subscript o i sp] e pos) (evS P (.setI io ii ie)) := PS_imp (ps_asg he (pg_sub ho hi set_list ha) hs hw) fun D σ H ⟨H0, ρ, μ, ι, r, h⟩ => by
  simp only [evS] at h
  refine run_st r h fun v z μ1 A1 H1 ι1 s1 r1 d1 h1 => ?_
  refine run_st r1 h1 fun v2 x μ2 A2 H2 ι2 s2 r2 d2 h2 => ?_
  refine run_st r2 h2 fun v3 y μ3 A3 H3 ι3 s3 r3 d3 h3 => ?_
  clear h h1 h2
  have d1 := (d1.stp s2).stp s3
  have d2 := d2.stp s3
  unfold setIX at h3
  split at h3
  · obtain ⟨p, e1, rfl⟩ := d2
    rename_i k i v _
    split at h3
    · rename_i xs e2
      obtain ⟨h0, c⟩ := r3.cell k _ p e2 e1
      obtain ⟨vs, c1, c2⟩ := c
      split at h3
      · rename_i j
        split at h3
        · rename_i n e3
          have e4 : ixN vs.length j = some n := by rw [c2.length]; exact e3
          cases d3
          refine ⟨p, vs, j, n, rfl, rfl, c1, e4, ?_⟩
          have d1 : Den g A3 _ v := d1
          obtain ⟨r4, s4⟩ := r3.put (o := .lst (vs.set n _)) (nd' := .lst (xs.set n v)) e2 e1 ⟨_, upd_same, c2.set d1 n⟩
          exact h3 _ _ _ _ s4 r4
        · exact h3.elim
      · exact h3.elim
    · exact h3.elim
  · exact h3.elim
/-! ### o.f = e -/
theorem denf_put {H0 : Hp} {ι : List Addr} {f : Str} {u : V} {y : DL.X} (d : XDen g H0 ι u y) : ∀ {vf : List (Str × V)} {fs : List (Str × DL.X)}, XDenf g H0 ι vf fs → XDenf g H0 ι (putF f u vf) (putX f y fs)
  | _, _, .nil => .cons d .nil
  | _, _, .cons (f := f') h hs => by
    unfold putF putX
    by_cases e : f' = f
    · rw [if_pos e]
      simp only [e, if_true]
      exact .cons d hs
    · simp only [e, if_false]
      exact .cons h (denf_put d hs)
theorem XDenf.len {H0 : Hp} {ι : List Addr} : ∀ {vf : List (Str × V)} {fs : List (Str × DL.X)}, XDenf g H0 ι vf fs → vf.length = fs.length
  | _, _, .nil => rfl
  | _, _, .cons _ hs => congrArg (· + 1) hs.len
theorem ss_setF {o : Expr} {io : E} {f : Str} {p' : Pos} {k : Nat} (O : Own g X P k) (he : SE g W X e (evE P ie)) (ho : SE g W X o (evE P io)) (hs : swapsWith e (some (.Attribute o f p')) pos.line X.env = pure false) : SS g W X (.Assign [.Attribute o f p'] e pos) (evS P (.setF io f ie)) := PS_imp (ps_fld ho he hs) fun D σ H ⟨H0, ρ, μ, ι, r, h⟩ => by
  simp only [evS] at h
  refine run_st r h fun v z μ1 A1 H1 ι1 s1 r1 d1 h1 => ?_
  refine run_st r1 h1 fun v2 x μ2 A2 H2 ι2 s2 r2 d2 h2 => ?_
  clear h h1
  have d1 := d1.stp s2
  split at h2
  · rename_i c ec
    split at h2
    · rename_i ok
      obtain ⟨hc, b, dx, vf, rfl, hb, _⟩ := insOf_read r2 d2 ec
      have cl := (O.cls c hc).cl
      have nf := O.fld c f hc ok
      rw [← O.K] at cl nf
      cases x with
      | d y => exact h2.elim
      | r n =>
        obtain ⟨b', e1, e2⟩ := d2
        cases e2
        unfold insOf at ec
        dsimp only at ec
        split at ec
        · rename_i c' fs q
          cases ec
          obtain ⟨_, _, dx', vf', c1, c2⟩ := r2.cell n _ b q e1
          rw [hb] at c1
          cases c1
          unfold setFX at h2
          simp only [q] at h2
          split at h2
          · rename_i hz
            refine ⟨b, _, _, _, rfl, hb, cl, nf, by rw [c2.len]; omega, ?_⟩
            have := c2.len
            obtain ⟨r3, s3⟩ := r2.put (o := .ins (g.cA c) dx (putF f v vf)) (nd' := .ins c (putX f z fs)) q e1 ⟨hc, dx, _, upd_same, denf_put d1 c2⟩
            exact h2 _ _ _ _ s3 r3
          · exact h2.elim
        · cases ec
    · exact h2.elim
  · exact h2.elim
/-! ### while -/
theorem run_st0 {α β : Type} {rel : Hp → List Addr → β → α → Prop} {σ : L2.St} {ρ : Env} {H0 H : Hp} {ι : List Addr} {μ : Mu} {ev : Env → Mu → R α} {k : α → Mu → R Fl} {D : Ends} {S : β → Hp → Prop} (r : Rel g H0 H σ ρ μ ι) (h : PostS g W H0 H ι ((ev ρ μ).st ρ k) D)
    (hk : ∀ v x μ' H0' H' ι', Stp H0 H ι H0' H' ι' → Rel g H0' H' σ ρ μ' ι' → rel H0' ι' v x → PostS g W H0 H ι (k x μ') D → S v H') : run g W rel ev σ H S := by
  refine ⟨H0, ρ, μ, ι, r, ?_⟩
  cases e : ev ρ μ with
  | ok x μ' =>
    rw [e] at h
    exact fun v A B C s t d => hk v x μ' A B C s t d h
  | er x μ' =>
    rw [e] at h
    exact fun c d A B C s t q => h c d σ A B C s t q
  | no =>
    rw [e] at h
    exact h
theorem ss_whl (hp : PassesOwn (model X.prog X.w) X.A X.env X.xe) (hc : ST g W X c (evT P it)) (hb : SSs g W X a (evSs P ia)) : SS g W X (.While c a [] pos) (evS P (.whl it ia)) := PS_imp (ps_while hp hc hb) fun D σ H ⟨H0, ρ, μ, ι, r, h⟩ => by
  simp only [evS] at h
  refine ⟨fun m σ H => ∃ A ρ μ ι, Rel g A H σ ρ μ ι ∧ PostS g W A H ι (whileD (evT P it) (evSs P ia) m ρ μ) D, ⟨P.W, H0, ρ, μ, ι, r, h⟩, ?_⟩
  clear h r
  rintro m σ1 H1 ⟨A, ρ, μ, ι, r, h⟩
  cases m with
  | zero => exact h.elim
  | succ m =>
    simp only [whileD] at h
    refine run_st0 r h fun k k' μ1 A1 H1' ι1 s1 r1 d1 h1 => ?_
    have d1 : k = k' := d1
    subst d1
    cases k with
    | false =>
      refine iteF ?_
      rw [if_neg (by decide)] at h1
      exact (PostS.step s1 h1).nx r1
    | true =>
      refine iteT ⟨fun σ H => ∃ A ρ μ ι, Rel g A H σ ρ μ ι ∧ PostS g W A H ι (whileD (evT P it) (evSs P ia) m ρ μ) D, fun σ' H' q => ⟨m, Nat.lt_succ_self _, q⟩, A1, ρ, μ1, ι1, r1, ?_⟩
      rw [if_pos rfl] at h1
      have back : ∀ ρ' μ2, PostS g W A H1 ι (whileD (evT P it) (evSs P ia) m (tidy μ.length ρ' μ2).1 (tidy μ.length ρ' μ2).2) D → ∀ σ' A2 H2 ι2, Stp A1 H1' ι1 A2 H2 ι2 → Rel g A2 H2 σ' ρ' μ2 ι2 → ∃ A ρ μ ι, Rel g A H2 σ' ρ μ ι ∧ PostS g W A H2 ι (whileD (evT P it) (evSs P ia) m ρ μ) D := fun ρ' μ2 h2 σ' A2 H2 ι2 s2 r2 => by
        obtain ⟨ι3, r3, s3, _⟩ := r2.tidy (s1.trans s2) (n := μ.length) r.len
        exact ⟨A2, _, _, ι3, r3, PostS.step s3 h2⟩
      cases q : evSs P ia ρ μ1 with
      | ok f μ2 =>
        rw [q] at h1
        cases f with
        | nx ρ' => exact back ρ' μ2 h1
        | ct ρ' => exact back ρ' μ2 h1
        | bk ρ' => exact PostS.step (r := .ok (.nx ρ') μ2) s1 h1
        | rt x => exact PostS.step s1 h1
        | ex e ρ' => exact PostS.step s1 h1
      | er e μ2 => rw [q] at h1; exact h1
      | no => rw [q] at h1; exact h1
/-! ### for -/
/-- where a loop stands -/
def LoopAt (g : G) (W : WX) (D : Ends) (A1 : Hp) (bind : DL.D → Env → Option Env) (b : Env → Mu → R Fl) (ds : List DL.D) (i : Nat) (σ : L2.St) (H : Hp) : Prop :=
  ∃ A ρ μ ι, Ex A1 A ∧ Rel g A H σ ρ μ ι ∧ PostS g W A H ι (forD bind b (ds.drop i) ρ μ) D
theorem ss_for {tg : Tg} {it : It} {te ie : Expr} (hK : X.K = g.K) (hp : PassesOwn (model X.prog X.w) X.A X.env X.xe) (hcl : X.calm = true) (hi : SI g W X te ie (evIt P it)) (hg : PG X te (gTg X.K tg)) (hb : SSs g W X a (evSs P ia))
    (hs : ∀ x, foldedSetIterable ie X.env x = pure x) : SS g W X (.For te ie a [] pos) (evS P (.for_ tg it ia)) := PS_imp (ps_for hp hcl hi hg hb hs) fun D σ H ⟨H0, ρ, μ, ι, r, h⟩ => by
  simp only [evS] at h
  refine run_st r h fun J ds μ1 A1 H1 ι1 s1 r1 d1 h1 => ?_
  clear h r s1
  have d1 : Yl g A1 J ds := d1
  refine ⟨fun i m σ H => m = ds.length - i ∧ i ≤ ds.length ∧ LoopAt g W D A1 (bindTg tg) (evSs P ia) ds i σ H, ⟨_, rfl, Nat.zero_le _, A1, ρ, μ1, ι1, Ex.refl _, r1, h1⟩, ?_⟩
  clear h1 r1
  rintro i m σ1 H1 ⟨rfl, hi, A, ρ, μ, ι, e, r, h⟩
  obtain ⟨y1, y2⟩ := d1 H1 (e.trans r.ex) i
  by_cases hl : i < ds.length
  · have hd : ds.drop i = ds[i] :: ds.drop (i + 1) := List.drop_eq_getElem_cons hl
    have hx : ds[i]? = some ds[i] := List.getElem?_eq_getElem hl
    obtain ⟨go, yl⟩ := y1 _ hx
    refine .inr ⟨go, fun σ H => LoopAt g W D A1 (bindTg tg) (evSs P ia) ds (i + 1) σ H, fun σ' H' q => ⟨_, by omega, rfl, hl, q⟩, fun v H' hy => ?_⟩
    rw [hd] at h
    simp only [forD] at h
    cases qb : bindTg tg ds[i] ρ with
    | none => rw [qb] at h; exact h.elim
    | some ρ1 =>
      rw [qb] at h
      dsimp only at h
      have main : ∀ A' H' ι', Stp A H1 ι A' H' ι' → Rel g A' H' σ1 ρ μ ι' → Den g A' v ds[i] → gTg X.K tg v σ1 H' fun σ2 H2 => tS g W (evSs P ia) { D with nx := fun σ H => LoopAt g W D A1 (bindTg tg) (evSs P ia) ds (i + 1) σ H, ct := fun σ H => LoopAt g W D A1 (bindTg tg) (evSs P ia) ds (i + 1) σ H, bk := D.nx } σ2 H2 := fun A' H' ι' s' r' d' => by
        rw [hK]
        refine tg_read r' d' qb fun σ2 r2 => ⟨A', ρ1, μ, ι', r2, ?_⟩
        have back : ∀ ρ' μ2, PostS g W A H1 ι (forD (bindTg tg) (evSs P ia) (ds.drop (i + 1)) (tidy μ.length ρ' μ2).1 (tidy μ.length ρ' μ2).2) D → ∀ σ' A2 H2 ι2, Stp A' H' ι' A2 H2 ι2 → Rel g A2 H2 σ' ρ' μ2 ι2 → LoopAt g W D A1 (bindTg tg) (evSs P ia) ds (i + 1) σ' H2 := fun ρ' μ2 h2 σ' A2 H2 ι2 s2 r2 => by
          obtain ⟨ι3, r3, s3, _⟩ := r2.tidy (s'.trans s2) (n := μ.length) r.len
          exact ⟨A2, _, _, ι3, e.trans (s'.trans s2).e0, r3, PostS.step s3 h2⟩
        cases q : evSs P ia ρ1 μ with
        | ok f μ2 =>
          rw [q] at h
          cases f with
          | nx ρ' => exact back ρ' μ2 h
          | ct ρ' => exact back ρ' μ2 h
          | bk ρ' => exact PostS.step (r := .ok (.nx ρ') μ2) s' h
          | rt x => exact PostS.step s' h
          | ex e ρ' => exact PostS.step s' h
        | er e μ2 => rw [q] at h; exact h
        | no => rw [q] at h; exact h
      rcases yl v H' hy with ⟨rfl, d⟩ | ⟨p, us, es, hp, rfl, rfl, hd2, e2⟩
      · exact main A _ ι Stp.refl r (d.mono e)
      · obtain ⟨r', s'⟩ := r.value (o := .tup us) hp
        refine main _ _ ι s' r' ?_
        rw [e2]
        exact Den.tup (SqT.of upd_same) (hd2.mono (e.trans s'.e0))
  · have hn : ds.length ≤ i := Nat.le_of_not_lt hl
    rw [List.drop_eq_nil_of_le hn] at h
    exact .inl ⟨y2 hn, h.nx r⟩
end
/-! ### list methods -/
section
variable {o e : Expr} {es : List Expr} {io : E} {ies : Es} {apos : Pos}
theorem se_append (hK : X.K = g.K) (ho : SE g W X o (evE P io)) (ha : SA g W X (e :: es) (evEs P ies)) (hbase : attributeBase o "append" X.env (eval o X.env) = eval o X.env)
    (hfew : ((backTo pos (starEach (e :: es) X.env)).all (fun x => !x.1) && (backToKw pos (keywordEach [] X.env)).all (fun x => x.1.isSome)
      && decide ((e :: es).length + ([] : List Keyword).length + (if ([] : List Keyword).isEmpty then 0 else 1) < 30)) = true)
    (hline : (apos.endLine == pos.line) = true) (hs : starEach (e :: es) X.env = (false, eval e X.env) :: starEach es X.env) (hplain : (backTo pos (starEach es X.env)).any (·.1) = false) :
    SE g W X (.Call (.Attribute o "append" apos) (e :: es) [] pos) (evE P (.lm .append io ies)) :=
  PE_imp (pe_bm PySem.F.plainAttrs_list PySem.F.slot_list_append PySem.F.type_list_append mt_append ho ha hbase hfew hline hs hplain) fun σ H Q ⟨H0, ρ, μ, ι, r, h⟩ => by
    simp only [evE] at h
    refine run_bind r h fun v x μ1 A1 H1 ι1 s1 r1 d1 h1 => ?_
    clear h
    split at h1
    · rename_i k1
      refine ⟨?_, run_bind r1 h1 fun vs xs μ2 A2 H2 ι2 s2 r2 d2 h2 => ?_⟩
      · unfold isLst at k1
        split at k1
        · rename_i xs e
          obtain ⟨p, vs, rfl, e2, _⟩ := r1.viewL d1 e
          exact .inl ⟨rfl, vs, by rw [hK]; exact e2⟩
        · cases k1
      · have d1 := d1.stp s2
        unfold lmD at h2
        split at h2
        · obtain ⟨p, e1, rfl⟩ := d1
          split at h2
          · rename_i ys e2
            obtain ⟨h0, c⟩ := r2.cell _ _ p e2 e1
            obtain ⟨us, c1, c2⟩ := c
            split at h2
            · rename_i k2
              have k2 := of_decide_eq_true k2
              cases d2 with
              | cons d2 d3 =>
                cases d3
                refine ⟨p, us, _, rfl, rfl, c1, by rw [c2.length, sizeLine_eq]; omega, ?_⟩
                obtain ⟨r4, s4⟩ := r2.put (o := .lst (us ++ [_])) (nd' := .lst (ys ++ [_])) e2 e1 ⟨_, upd_same, c2.append (.cons d2 .nil)⟩
                exact h2 _ _ _ _ s4 r4 Den.non
            · exact h2.elim
          · exact h2.elim
        · exact h2.elim
    · exact h1.elim
/-! ### list(range(..)) -/
theorem dens_rg {H : Hp} (i : Int) (n : Nat) : Dens g H ((List.range n).map fun k => V.int (i + (k : Nat))) (upTo i n) := by
  unfold upTo
  generalize List.range n = l
  induction l with
  | nil => exact .nil
  | cons k l ih => exact .cons (Den.int _) ih
theorem alloc_size {μ : Mu} {cell : Bool} {xs : List DL.D} {σ : L2.St} {ρ : Env} {H0 H : Hp} {ι : List Addr} {Q : VK} (h : Post g W σ ρ (rX g) H0 H ι (alloc cell (.lst xs) μ) Q) : xs.length ≤ 1000000 := by
  unfold alloc at h
  split at h
  · rename_i hz
    exact hz
  · exact h.elim
theorem se_lrng1 {p p2 pos2 : Pos} {cell : Bool} {a : Expr} {ia : E} (hc : X.calm = true) (hg : Gl X "list") (hm : X.mg "list" = none) (hg2 : Gl X "range") (hm2 : X.mg "range" = none) (ha : SE g W X a (evE P ia))
    (na : starEach [a] X.env = (false, eval a X.env) :: starEach [] X.env) (na2 : starEach [.Call (.Name "range" p2) [a] [] pos2] X.env = (false, eval (.Call (.Name "range" p2) [a] [] pos2) X.env) :: starEach [] X.env) :
    SE g W X (.Call (.Name "list" p) [.Call (.Name "range" p2) [a] [] pos2] [] pos) (evE P (.lrng cell ia .none)) := PE_imp (pe_listRg hc hg hm (prg_1 hg2 hm2 ha na) na2) fun σ H Q ⟨H0, ρ, μ, ι, r, h⟩ => by
  simp only [evE] at h
  refine run_bind r h fun v x μ1 A1 H1 ι1 s1 r1 d1 h1 => ?_
  clear h
  split at h1
  · rename_i j e
    cases intX_eq e
    cases d1
    split at h1
    · rename_i k
      have k := small_ok k
      have hz := alloc_size h1
      rw [upTo_length] at hz
      refine ⟨j, rfl, ⟨by omega, by omega, k.1, k.2, by omega⟩, (alloc_lst r1 ?_ h1).2⟩
      have := dens_rg (g := g) (H := A1) 0 j.toNat
      unfold rgV
      rw [Int.sub_zero]
      exact this
    · exact h1.elim
  · exact h1.elim
theorem se_lrng2 {p p2 pos2 : Pos} {cell : Bool} {a b : Expr} {ia ib : E} (hc : X.calm = true) (hg : Gl X "list") (hm : X.mg "list" = none) (hg2 : Gl X "range") (hm2 : X.mg "range" = none) (ha : SE g W X a (evE P ia)) (hb : SE g W X b (evE P ib))
    (na : starEach [a, b] X.env = (false, eval a X.env) :: starEach [b] X.env) (nb : starEach [b] X.env = (false, eval b X.env) :: starEach [] X.env) (hp : (backTo pos2 (starEach [b] X.env)).any (·.1) = false)
    (na2 : starEach [.Call (.Name "range" p2) [a, b] [] pos2] X.env = (false, eval (.Call (.Name "range" p2) [a, b] [] pos2) X.env) :: starEach [] X.env) :
    SE g W X (.Call (.Name "list" p) [.Call (.Name "range" p2) [a, b] [] pos2] [] pos) (evE P (.lrng cell ia (.some ib))) := PE_imp (pe_listRg hc hg hm (prg_2 hg2 hm2 ha hb na nb hp) na2) fun σ H Q ⟨H0, ρ, μ, ι, r, h⟩ => by
  simp only [evE] at h
  refine run_bind r h fun v x μ1 A1 H1 ι1 s1 r1 d1 h1 => ?_
  refine run_bind r1 h1 fun v2 y μ2 A2 H2 ι2 s2 r2 d2 h2 => ?_
  clear h h1
  split at h2
  · rename_i i j e e2
    cases intX_eq e
    cases intX_eq e2
    cases d1
    cases d2
    split at h2
    · rename_i k
      obtain ⟨k1, k2⟩ := Bool.and_eq_true_iff.mp k
      have k1 := small_ok k1
      have k2 := small_ok k2
      have hz := alloc_size h2
      rw [upTo_length] at hz
      refine ⟨i, j, rfl, rfl, ⟨k1.1, k1.2, k2.1, k2.2, by omega⟩, (alloc_lst r2 ?_ h2).2⟩
      exact dens_rg i (j - i).toNat
    · exact h2.elim
  · exact h2.elim
end
/-! ### isinstance -/
theorem rd_tyK {K : PySem.W.Frag} {H : Hp} {a : Addr} {ks : List (Key × V)} (h : Rd H a (.dK ks)) : TyX K H (.ref a) (.type "dict") := by
  rcases h with h | ⟨o, h⟩
  · exact .base (.dK h)
  · exact .fDict h
theorem kit_plain {K : PySem.W.Frag} {s : String} {b : Bool} {ty : Ty} (h : kitB s (tyName ty) = some b) (p : ty.plain = true) : PySem.W.kitOne K (.type s) (tyV g ty) = some b := by
  cases ty <;> first | exact kit_ty h | cases p
/-- a value of a built-in type -/
theorem ty_plain {k : Nat} (O : Own g X P k) {μ : Mu} {x : DL.X} {s : String} (hs : s ∈ kinds) (h : ∀ ty : Ty, ty.plain = true → kitB s (tyName ty) = some (isTy μ x ty)) (hn : insOf μ x = none) : ∀ ty : Ty, tyIn g ty → PySem.W.kitOne g.K (.type s) (tyV g ty) = some (isTy μ x ty) := fun ty hin => by
  cases ty with
  | cls c =>
    have e : isTy μ x (.cls c) = false := by simp only [isTy, hn]
    rw [e]
    exact (O.cls c hin).bt s hs
  | int => exact kit_plain (h _ rfl) rfl
  | bool => exact kit_plain (h _ rfl) rfl
  | str => exact kit_plain (h _ rfl) rfl
  | lst => exact kit_plain (h _ rfl) rfl
  | tup => exact kit_plain (h _ rfl) rfl
  | dic => exact kit_plain (h _ rfl) rfl
theorem ty_read {k : Nat} (O : Own g X P k) {σ : L2.St} {ρ : Env} {H0 H : Hp} {ι : List Addr} {μ : Mu} {v : V} {x : DL.X} (r : Rel g H0 H σ ρ μ ι) (d : XDen g H0 ι v x) (kn : tyKnown μ x = true) : ∃ t, TyX g.K H v t ∧ ∀ ty : Ty, tyIn g ty → PySem.W.kitOne g.K t (tyV g ty) = some (isTy μ x ty) := by
  cases q : insOf μ x with
  | some c =>
    obtain ⟨hc, a, dx, vf, rfl, ha, _⟩ := insOf_read r d q
    have C := O.cls c hc
    refine ⟨.ref (g.cA c), .base (.ins ha C.cl C.ha C.hn C.htk C.hm), fun ty hin => ?_⟩
    rw [C.own ty hin]
    cases ty with
    | cls c' => simp only [isTy, q]
    | _ =>
      cases x with
      | d y => cases y <;> first | rfl | cases q
      | r n =>
        first
          | rfl
          | (unfold insOf at q
             dsimp only at q
             split at q
             · rename_i e
               simp only [isTy, viewS, view, e, Node.toD, Option.map_none]
             · cases q)
  | none =>
    cases x with
    | d y =>
      have d : Den g H0 v y := d
      cases d with
      | non => exact ⟨_, .base .non, ty_plain O (by simp [kinds]) (fun ty p => by cases ty <;> first | exact absurd p Bool.false_ne_true | exact Eq.trans (b := some true) (by decide +kernel) rfl | exact Eq.trans (b := some false) (by decide +kernel) rfl) q⟩
      | bl b => exact ⟨_, .base (.bl b), ty_plain O (by simp [kinds]) (fun ty p => by cases ty <;> first | exact absurd p Bool.false_ne_true | exact Eq.trans (b := some true) (by decide +kernel) rfl | exact Eq.trans (b := some false) (by decide +kernel) rfl) q⟩
      | int b => exact ⟨_, .base (.int b), ty_plain O (by simp [kinds]) (fun ty p => by cases ty <;> first | exact absurd p Bool.false_ne_true | exact Eq.trans (b := some true) (by decide +kernel) rfl | exact Eq.trans (b := some false) (by decide +kernel) rfl) q⟩
      | str b => exact ⟨_, .base (.str b), ty_plain O (by simp [kinds]) (fun ty p => by cases ty <;> first | exact absurd p Bool.false_ne_true | exact Eq.trans (b := some true) (by decide +kernel) rfl | exact Eq.trans (b := some false) (by decide +kernel) rfl) q⟩
      | lst h hs => exact ⟨_, rd_tyL (SqL.of (r.ex _ _ h)), ty_plain O (by simp [kinds]) (fun ty p => by cases ty <;> first | exact absurd p Bool.false_ne_true | exact Eq.trans (b := some true) (by decide +kernel) rfl | exact Eq.trans (b := some false) (by decide +kernel) rfl) q⟩
      | kls h hs => exact ⟨_, rd_tyL (ex_l r.ex h), ty_plain O (by simp [kinds]) (fun ty p => by cases ty <;> first | exact absurd p Bool.false_ne_true | exact Eq.trans (b := some true) (by decide +kernel) rfl | exact Eq.trans (b := some false) (by decide +kernel) rfl) q⟩
      | tup h hs => exact ⟨_, rd_tyT (ex_t r.ex h), ty_plain O (by simp [kinds]) (fun ty p => by cases ty <;> first | exact absurd p Bool.false_ne_true | exact Eq.trans (b := some true) (by decide +kernel) rfl | exact Eq.trans (b := some false) (by decide +kernel) rfl) q⟩
      | dic h hs => exact ⟨_, rd_tyK (.inl (r.ex _ _ h)), ty_plain O (by simp [kinds]) (fun ty p => by cases ty <;> first | exact absurd p Bool.false_ne_true | exact Eq.trans (b := some true) (by decide +kernel) rfl | exact Eq.trans (b := some false) (by decide +kernel) rfl) q⟩
      | kdic h =>
        obtain ⟨es, n, D, _⟩ := h
        exact ⟨_, .kDict D.at_ rfl, ty_plain O (by simp [kinds]) (fun ty p => by cases ty <;> first | exact absurd p Bool.false_ne_true | exact Eq.trans (b := some true) (by decide +kernel) rfl | exact Eq.trans (b := some false) (by decide +kernel) rfl) q⟩
      | ins hc h hs => cases q
      | fn j => cases kn
      | cls j => cases kn
    | r n =>
      obtain ⟨a, h1, rfl⟩ := d
      unfold tyKnown at kn
      dsimp only at kn
      split at kn
      · rename_i nd e
        cases nd with
        | lst xs =>
          obtain ⟨_, vs, c1, c2⟩ := r.cell n _ a e h1
          exact ⟨_, rd_tyL (SqL.of c1), ty_plain O (by simp [kinds]) (fun ty p => by cases ty <;> first | exact absurd p Bool.false_ne_true | (simp only [isTy, viewS, unk, Option.map_some, view, e, Node.toD]; first | exact Eq.trans (b := some true) (by decide +kernel) rfl | exact Eq.trans (b := some false) (by decide +kernel) rfl)) q⟩
        | dic xs =>
          obtain ⟨_, vs, c1, c2⟩ := r.cell n _ a e h1
          exact ⟨_, rd_tyK (.inl c1), ty_plain O (by simp [kinds]) (fun ty p => by cases ty <;> first | exact absurd p Bool.false_ne_true | (simp only [isTy, viewS, unk, Option.map_some, view, e, Node.toD]; first | exact Eq.trans (b := some true) (by decide +kernel) rfl | exact Eq.trans (b := some false) (by decide +kernel) rfl)) q⟩
        | ins c fs =>
          simp only [insOf, e] at q
          cases q
      · cases kn
theorem kit_all {K : PySem.W.Frag} {μ : Mu} {x : DL.X} {t : Value} (h : ∀ ty : Ty, tyIn g ty → PySem.W.kitOne K t (tyV g ty) = some (isTy μ x ty)) : ∀ {ts : List Ty}, (∀ t ∈ ts, tyIn g t) → PySem.W.kitAny K t (ts.map (tyV g)) = some (ts.any (isTy μ x))
  | [], _ => rfl
  | t :: ts, p => by
    refine kitAny_cons (h t (p t List.mem_cons_self)) (fun e => ?_) fun e => ?_
    · rw [List.any_cons, e, Bool.false_or]
      exact kit_all h fun t ht => p t (List.mem_cons_of_mem _ ht)
    · rw [List.any_cons, e, Bool.true_or]
theorem clsV_of (ty : Ty) : ClsV (tyW g ty) (tyV g ty) := by
  cases ty <;> first | exact .ty _ | exact .own _
end
end DL

/-! DL9: isinstance, comprehensions. -/
namespace DL
open PySem PySem.Spec PyProof.Rows L2
section
variable {g : G} {X : Cx} {W : WX} {P : Par} {pos : Pos}
section
variable {a c : Expr} {ia : E} {ts : List Ty}
theorem paired_ty : ∀ ts : List Ty, Paired ClsV (ts.map (tyW g)) (ts.map (tyV g))
  | [] => .nil
  | t :: ts => .cons (clsV_of t) (paired_ty ts)
theorem call_isi2 : CallR X (.builtin "isinstance") (fun xs H Q => rIsi X.K xs H Q ∨ rIsiT X.K xs H Q) := CallR.or call_isi call_isiT
/-- isinstance(a, c) -/
theorem pe_isi {p : Pos} {ta tc : TE} (hg : Gl X "isinstance") (hm : X.mg "isinstance" = none) (ha : PE X a ta) (hc : PE X c tc) (h1 : starEach (a :: [c]) X.env = (false, eval a X.env) :: starEach [c] X.env) (h2 : starEach (c :: []) X.env = (false, eval c X.env) :: starEach [] X.env)
    (hpl : (backTo pos (starEach [c] X.env)).any (·.1) = false) :
    PE X (.Call (.Name "isinstance" p) [a, c] [] pos) (tCB (fun xs H Q => rIsi X.K xs H Q ∨ rIsiT X.K xs H Q) (tCons ta (tCons tc tNil))) :=
  pe_callB call_isi2 hg hm (by decide +kernel) (pa_cons ha (pa_cons hc pa_nil h2) h1) (by decide) (by decide) h1 hpl
theorem isi_read1 {t : Ty} {p : Pos} {k : Nat} (O : Own g X P k) (hg : Gl X "isinstance") (hm : X.mg "isinstance" = none) (ha : SE g W X a (evE P ia)) (hc : PE X c (tC (tyW g t))) (h1 : starEach (a :: [c]) X.env = (false, eval a X.env) :: starEach [c] X.env) (h2 : starEach (c :: []) X.env = (false, eval c X.env) :: starEach [] X.env)
    (hpl : (backTo pos (starEach [c] X.env)).any (·.1) = false) (hp : tyIn g t) : SE g W X (.Call (.Name "isinstance" p) [a, c] [] pos) (evE P (.isi ia [t])) := PE_imp (pe_isi hg hm ha hc h1 h2 hpl) fun σ H Q ⟨H0, ρ, μ, ι, r, h⟩ => by
  simp only [evE] at h
  refine run_bind r h fun v x μ1 A1 H1 ι1 s1 r1 d1 h1 => ?_
  clear h
  split at h1
  · rename_i kk
    obtain ⟨s, t1, t2⟩ := ty_read O r1 d1 kk
    refine .inl ?_
    rw [O.K]
    refine ⟨v, _, _, _, _, rfl, clsV_of t, t1, t2 t hp, ?_⟩
    have e : [t].any (isTy μ1 x) = isTy μ1 x t := by simp
    rw [← e]
    exact h1.now r1 (Den.bl _)
  · exact h1.elim
theorem isi_readT {ct : TA} {p pc : Pos} {cs : List Expr} {n : Nat} {k : Nat} (O : Own g X P k) (hg : Gl X "isinstance") (hm : X.mg "isinstance" = none) (ha : SE g W X a (evE P ia)) (hc : PA X cs ct) (hct : ∀ σ H Q, Q (ts.map (tyW g)) H → ct σ H Q) (h1 : starEach (a :: [.Tuple cs n pc]) X.env = (false, eval a X.env) :: starEach [.Tuple cs n pc] X.env)
    (h2 : starEach (.Tuple cs n pc :: []) X.env = (false, eval (.Tuple cs n pc) X.env) :: starEach [] X.env)
    (hpl : (backTo pos (starEach [.Tuple cs n pc] X.env)).any (·.1) = false) (hp : ∀ t ∈ ts, tyIn g t) (hz : ts.length ≤ 1000) : SE g W X (.Call (.Name "isinstance" p) [a, .Tuple cs n pc] [] pos) (evE P (.isi ia ts)) := PE_imp (pe_isi hg hm ha (pe_tup hc) h1 h2 hpl) fun σ H Q ⟨H0, ρ, μ, ι, r, h⟩ => by
  simp only [evE] at h
  refine run_bind r h fun v x μ1 A1 H1 ι1 s1 r1 d1 h1 => ?_
  clear h
  split at h1
  · rename_i kk
    refine hct _ _ _ ⟨by rw [List.length_map, sizeLine_eq]; omega, fun q hq => .inr ?_⟩
    obtain ⟨r2, s2⟩ := r1.value (o := .tup (ts.map (tyW g))) hq
    obtain ⟨s, t1, t2⟩ := ty_read O r2 (d1.stp s2) kk
    rw [O.K]
    exact ⟨v, q, _, _, _, _, rfl, upd_same, paired_ty ts, t1, kit_all t2 hp, h1 _ _ _ _ s2 r2 (Den.bl _)⟩
  · exact h1.elim
end
/-! ### a test that is a value -/
section
variable {a : Expr} {ia : E} {ts : List Ty}
theorem st_isi (hK : X.K = g.K) (ha : SE g W X a (evE P (.isi ia ts))) (he : ∀ whole, isTrue a X.env whole = (do let v ← whole; standAt a.pos; holding [v] (truthy v))) : ST g W X a (evT P (.isi ia ts)) := PT_imp (pt_truth ha he) fun σ H Q ⟨H0, ρ, μ, ι, r, h⟩ => by
  refine ⟨H0, ρ, μ, ι, r, ?_⟩
  simp only [evT] at h
  simp only [evE]
  cases e : evE P ia ρ μ with
  | no => rw [e] at h; exact h
  | er x μ' => rw [e] at h; exact h
  | ok x μ1 =>
    rw [e] at h
    simp only [R.bind] at h ⊢
    split at h
    · rename_i k
      rw [if_pos k]
      intro v A B C s t d
      cases d
      exact ⟨_, rfl, h _ A B C s t rfl⟩
    · exact h.elim
end
/-! ### comprehensions -/
theorem wipe_get {σ : L2.St} {i : Nat} : ∀ {vs : List Nat}, (wipe σ vs)[i]? = if i ∈ vs then (σ[i]?).map (fun _ => none) else σ[i]?
  | [] => by simp [wipe]
  | v :: vs => by
    unfold wipe
    by_cases h : v = i
    · subst h
      rw [if_pos List.mem_cons_self]
      by_cases hl : v < σ.length
      · rw [List.getElem?_set_self (by rw [wipe_length]; exact hl), List.getElem?_eq_getElem hl]
        rfl
      · rw [List.getElem?_eq_none (by rw [List.length_set, wipe_length]; omega), List.getElem?_eq_none (by omega)]
        rfl
    · rw [List.getElem?_set_ne h, wipe_get]
      by_cases hm : i ∈ vs
      · rw [if_pos hm, if_pos (List.mem_cons_of_mem _ hm)]
      · rw [if_neg hm, if_neg fun z => (List.mem_cons.mp z).elim (fun e => h e.symm) hm]
theorem wipe_set {σ : L2.St} {i : Nat} {x : Option V} {vs : List Nat} (h : i ∈ vs) : wipe (σ.set i x) vs = wipe σ vs := by
  apply List.ext_getElem?
  intro j
  rw [wipe_get, wipe_get]
  by_cases hj : j ∈ vs
  · rw [if_pos hj, if_pos hj]
    by_cases e : i = j
    · subst e
      rw [List.getElem?_set]
      simp
      by_cases hl : i < σ.length
      · simp [hl]
      · simp [hl]
    · rw [List.getElem?_set_ne e]
  · rw [if_neg hj, if_neg hj, List.getElem?_set_ne fun e => hj (by rw [← e]; exact h)]
theorem wipe_idem {σ : L2.St} {vs : List Nat} : wipe (wipe σ vs) vs = wipe σ vs := by
  apply List.ext_getElem?
  intro j
  rw [wipe_get, wipe_get]
  by_cases hj : j ∈ vs
  · rw [if_pos hj, if_pos hj]
    cases σ[j]? <;> rfl
  · rw [if_neg hj, if_neg hj]
theorem wipe_all {vs : List Nat} : ∀ {is : List Nat} {xs : List V} {σ : L2.St}, (∀ i ∈ is, i ∈ vs) → wipe ((is.zip xs).foldl (fun σ p => σ.set p.1 (some p.2)) σ) vs = wipe σ vs
  | [], xs, σ, _ => by simp
  | i :: is, [], σ, _ => by simp
  | i :: is, x :: xs, σ, h => by
    rw [List.zip_cons_cons, List.foldl_cons, wipe_all fun j hj => h j (List.mem_cons_of_mem _ hj)]
    exact wipe_set (h i List.mem_cons_self)
def t1In (vs : List Nat) : Nat ⊕ List Nat → Bool
  | .inl i => vs.contains i
  | .inr is => is.all vs.contains
def tgIn : Tg → List Nat → Bool
  | .tn ts, vs => ts.all (t1In vs)
  | .nm i, vs => vs.contains i
  | .tp is, vs => is.all vs.contains
theorem wipeE_len (ρ : Env) : ∀ vs : List Nat, (wipeE ρ vs).length = ρ.length
  | [] => rfl
  | v :: vs => by unfold wipeE; rw [List.length_set, wipeE_len ρ vs]
theorem wipeE_some {ρ : Env} {i : Nat} {x : DL.X} : ∀ {vs : List Nat}, (wipeE ρ vs)[i]? = some (some x) → ρ[i]? = some (some x) ∧ i ∉ vs
  | [], h => ⟨h, by simp⟩
  | v :: vs, h => by
    unfold wipeE at h
    by_cases hi : v = i
    · subst hi
      by_cases hv : v < (wipeE ρ vs).length
      · rw [List.getElem?_set_self hv] at h; cases h
      · rw [List.getElem?_eq_none (by simpa using hv)] at h; cases h
    · rw [List.getElem?_set_ne hi] at h
      obtain ⟨h1, h2⟩ := wipeE_some h
      exact ⟨h1, by simp only [List.mem_cons, not_or]; exact ⟨fun e => hi e.symm, h2⟩⟩
theorem Rel.wiped {σ : L2.St} {ρ : Env} {H0 H : Hp} {ι : List Addr} {μ : Mu} (r : Rel g H0 H σ ρ μ ι) (vs : List Nat) : Rel g H0 H (wipe σ vs) (wipeE ρ vs) μ ι := r.slots (by rw [wipeE_len, wipe_length]; exact r.sl) fun i x e => by
  obtain ⟨h1, h2⟩ := wipeE_some e
  obtain ⟨v, h3, h4⟩ := r.slot i x h1
  exact ⟨v, by rw [wipe_out h2]; exact h3, h4⟩
/-- an object that is neither a value nor a cell yet -/
theorem Rel.side {σ : L2.St} {ρ : Env} {H0 H : Hp} {ι : List Addr} {μ : Mu} {p : Addr} {o : HO} (r : Rel g H0 H σ ρ μ ι) (h0 : H0 p = none) (hi : p ∉ ι) (hk : ∀ u, H p = some u → NT u) : Rel g H0 (upd H p o) σ ρ μ ι := by
  refine ⟨fun b u h => ?_, r.slot, r.sl, r.len, r.inj, fun a ha h => ?_, fun k nd a h1 h2 => ?_, tabs_put r.tb hk, r.t0⟩
  · rw [upd_ne (ne_of_none h h0)]
    exact r.ex b u h
  · rw [upd_ne fun z => hi (by rw [← z]; exact ha)] at h
    exact r.tr a ha h
  · obtain ⟨h3, h4⟩ := r.cell k nd a h1 h2
    have ne : a ≠ p := fun z => hi (by rw [← z]; exact List.mem_of_getElem? h2)
    exact ⟨h3, h4.mono (Ex.refl _) ⟨[], by simp⟩ fun u q => by rw [upd_ne ne]; exact q⟩
theorem Stp.side {H0 H H0' H' : Hp} {ι ι' : List Addr} {p : Addr} {o : HO} (s : Stp H0 H ι H0' H' ι') (hp : H p = none) : Stp H0 H ι H0' (upd H' p o) ι' := ⟨s.e0, s.pre, fun b u h n q => by rw [upd_ne (ne_of_none h hp)]; exact s.fr b u h n q, s.nw, fun b h => by
  by_cases hb : b = p
  · rw [hb]; exact hp
  · rw [upd_ne hb] at h
    exact s.th b h⟩
/-- .. becomes a cell -/
theorem Rel.adopt {σ : L2.St} {ρ : Env} {H0 H : Hp} {ι : List Addr} {μ : Mu} {p : Addr} {nd : Node} (r : Rel g H0 H σ ρ μ ι) (h0 : H0 p = none) (hi : p ∉ ι) (hn : CellRel g H0 (ι ++ [p]) H p nd) : Rel g H0 H σ ρ (μ ++ [some nd]) (ι ++ [p]) := by
  refine ⟨r.ex, fun i x e => ?_, r.sl, by simp [r.len], ?_, fun a ha h => ?_, fun k nd2 a h1 h2 => ?_, r.tb, fun q hq => ⟨(r.t0 q hq).1, fun z => (List.mem_append.mp z).elim (r.t0 q hq).2 fun z => tabs_ne r.tb hq (cell_nt hn) (List.mem_singleton.mp z)⟩⟩
  · obtain ⟨v, h1, h2⟩ := r.slot i x e
    exact ⟨v, h1, h2.mono (Ex.refl _) ⟨[p], rfl⟩⟩
  · exact List.nodup_append.mpr ⟨r.inj, by simp, fun a ha b hb e => hi (by have : b = p := by simpa using hb
                                                                           rw [← this, ← e]; exact ha)⟩
  · rcases List.mem_append.mp ha with z | z
    · exact r.tr a z h
    · have : a = p := by simpa using z
      obtain ⟨o, ho⟩ := hn.some
      rw [this, ho] at h
      cases h
  · by_cases hk : k < μ.length
    · rw [List.getElem?_append_left hk] at h1
      rw [List.getElem?_append_left (by rw [r.len]; exact hk)] at h2
      obtain ⟨h3, h4⟩ := r.cell k nd2 a h1 h2
      exact ⟨h3, h4.mono (Ex.refl _) ⟨[p], rfl⟩ fun o q => q⟩
    · have hk2 : μ.length ≤ k := Nat.le_of_not_lt hk
      rw [List.getElem?_append_right hk2] at h1
      rw [List.getElem?_append_right (by rw [r.len]; exact hk2)] at h2
      have e : k - μ.length = 0 := by
        cases q : k - μ.length with
        | zero => rfl
        | succ n => rw [q] at h1; simp at h1
      rw [e] at h1
      rw [r.len, e] at h2
      simp at h1 h2
      subst h1 h2
      exact ⟨h0, hn⟩
theorem Stp.adopt {H0 H H0' H' : Hp} {ι ι' : List Addr} {p : Addr} (s : Stp H0 H ι H0' H' ι') (hp : H p = none) : Stp H0 H ι H0' H' (ι' ++ [p]) := by
  obtain ⟨m, e, f⟩ := s.pre
  refine ⟨s.e0, ⟨m ++ [p], by rw [e, List.append_assoc], fun a ha => ?_⟩, s.fr, s.nw, s.th⟩
  rcases List.mem_append.mp ha with z | z
  · exact f a z
  · have : a = p := by simpa using z
    rw [this]; exact hp
/-- .. becomes a value -/
theorem Rel.ghost {σ : L2.St} {ρ : Env} {H0 H : Hp} {ι : List Addr} {μ : Mu} {p : Addr} {o : HO} (r : Rel g H0 H σ ρ μ ι) (h0 : H0 p = none) (hi : p ∉ ι) (ho : H p = some o) (hk : NT o) : Rel g (upd H0 p o) H σ ρ μ ι := by
  have e0 : Ex H0 (upd H0 p o) := Ex.new h0
  have i0 : ∃ m, ι = ι ++ m := ⟨[], by simp⟩
  refine ⟨fun b u h => ?_, fun i x e => ?_, r.sl, r.len, r.inj, r.tr, fun k nd a h1 h2 => ?_, r.tb, fun q hq => ⟨by rw [upd_ne (tabs_ne r.tb hq (nt_at ho hk))]; exact (r.t0 q hq).1, (r.t0 q hq).2⟩⟩
  · by_cases hb : b = p
    · subst hb
      rw [upd_same] at h
      rw [← h]; exact ho
    · rw [upd_ne hb] at h
      exact r.ex b u h
  · obtain ⟨v, h1, h2⟩ := r.slot i x e
    exact ⟨v, h1, h2.mono e0 i0⟩
  · obtain ⟨h3, h4⟩ := r.cell k nd a h1 h2
    have ne : a ≠ p := fun z => hi (by rw [← z]; exact List.mem_of_getElem? h2)
    exact ⟨by rw [upd_ne ne]; exact h3, h4.mono e0 i0 fun u q => q⟩
theorem Stp.ghost {H0 H H0' H' : Hp} {ι ι' : List Addr} {p : Addr} {o : HO} (s : Stp H0 H ι H0' H' ι') (hp : H p = none) (h0 : H0' p = none) : Stp H0 H ι (upd H0' p o) H' ι' := ⟨s.e0.trans (Ex.new h0), s.pre, s.fr, fun b u h n m q => by rw [upd_ne (ne_of_none h hp)]; exact s.nw b u h n m q, s.th⟩
/-- {k: v, ..} -/
theorem se_dic {es : Es} {ks : List (Option Expr)} {vs : List Expr} {cell : Bool} (hp : PsOk g W X P es ks vs) (hall : ks.all (·.isSome) = true) (hl : ks.length = vs.length) (h0 : ks ≠ []) (h15 : ks.length ≤ 15) : SE g W X (.Dict ks vs pos) (evE P (.dic cell es)) := PE_imp (pe_disp hp.pps hall hl h0 h15) fun σ H Q ⟨H0, ρ, μ, ι, r, h⟩ => by
  simp only [evE] at h
  intro p hpn
  have h00 := r.free hpn
  have hni := r.notIn hpn
  have r1 : Rel g H0 (upd H p (.dK [])) σ ρ μ ι := r.side h00 hni (nt_new hpn)
  refine tp_read hp r1 ?_
  cases q : evEs P es ρ μ with
  | no => rw [q] at h; exact h
  | er e μ' =>
    rw [q] at h
    exact fun c d A B C s t z => h c d A B C ((Stp.refl.side hpn).trans s) t z
  | ok xs μ' =>
    rw [q] at h
    simp only [R.bind] at h
    intro ps A B C s t d
    have hB : B p = some (.dK []) := s.fr p _ upd_same hni (fun ps z => by cases z)
    have hA : A p = none := s.nw p _ upd_same h00 hni (fun ps z => by cases z)
    have hC : p ∉ C := s.out upd_same hni
    have s' : Stp H0 H ι A B C := (Stp.refl.side hpn).trans s
    cases q2 : pairs xs with
    | none => simp only [q2] at h; exact h.elim
    | some kvs =>
      simp only [q2] at h
      obtain ⟨kl, e1, e2, e3⟩ := pairs_read d q2
      split at h
      · rename_i hz
        simp only [Bool.and_eq_true, decide_eq_true_eq] at hz
        have hlen : (flatP ps).length = xs.length := d.length
        rw [flatP_len, e1, List.length_map] at hlen
        refine ⟨hB, kl, e1, by omega, ?_⟩
        have em : mergeK [] kl = kl := by
          rw [merge_nodup e3 (fun _ _ q hq => by cases hq)]
          rfl
        rw [em]
        have t2 : Rel g A (upd B p (.dK kl)) σ ρ μ' C := t.side hA hC (nt_at hB nt_dK)
        have s2 : Stp H0 H ι A (upd B p (.dK kl)) C := s'.side hpn
        cases cell with
        | true =>
          have r6 := t2.adopt (nd := .dic kvs) hA hC ⟨kl, upd_same, e2⟩
          exact h _ _ _ _ (s2.adopt hpn) r6 ⟨p, by rw [← t2.len]; simp, rfl⟩
        | false =>
          have r6 := t2.ghost (o := .dK kl) hA hC upd_same nt_dK
          have s6 := s2.ghost (o := .dK kl) hpn hA
          exact h _ _ _ _ s6 r6 (Den.dic upd_same (e2.mono (Ex.new hA)))
      · exact h.elim
end
end DL
/-! DL10: list comprehensions. -/
namespace DL
open PySem PySem.Spec PyProof.Rows L2
section
variable {g : G} {X : Cx} {W : WX} {P : Par} {pos : Pos}
def WF : WX := fun _ _ _ _ => False
section
variable {te : Expr} {tg : Tg} {it : It} {ifs : To} {elt : E} {own : List Nat} {cell : Bool}
/-- where the comprehension stands -/
def LcAt (g : G) (W : WX) (P : Par) (σ : L2.St) (ρ : Env) (tg : Tg) (ifs : To) (elt : E) (own : List Nat) (cell : Bool) (A1 H1 : Hp) (ι1 : List Addr) (Dp : Addr) (ds : List DL.D) (Q : VK) (i : Nat) (H : Hp) : Prop :=
  ∃ A μ ι acc accV, Stp A1 H1 ι1 A H ι ∧ Rel g A H (wipe σ own) (wipeE ρ own) μ ι ∧ A Dp = none ∧ Dp ∉ ι ∧ H Dp = some (.lst accV) ∧ Dens g A accV acc ∧
    Post g W σ ρ (rX g) A1 H1 ι1 ((lcD (bindTg tg) (evA P ifs) (evE P elt) (wipeE ρ own) (ds.drop i) acc μ).bind fun ys μ2 => alloc cell (.lst ys) μ2) Q
theorem g1_wipe {K : PySem.W.Frag} {t : Nat ⊕ List Nat} {v : V} {σ σ0 : L2.St} {H : Hp} {own : List Nat} {Q : L2.St → Hp → Prop} (hi : t1In own t = true) (hw : wipe σ0 own = wipe σ own) (h : g1 K t v σ0 H Q) : g1 K t v σ0 H fun σ2 H2 => wipe σ2 own = wipe σ own ∧ Q σ2 H2 := by
  cases t with
  | inl i =>
    have hi : i ∈ own := by
      have : own.contains i = true := hi
      simpa using this
    exact ⟨by rw [wipe_set hi]; exact hw, h⟩
  | inr is =>
    obtain ⟨a, xs, e1, e2, e3, h⟩ := h
    refine ⟨a, xs, e1, e2, e3, ?_⟩
    have hi : ∀ i ∈ is, i ∈ own := fun i hm => by
      have q : is.all own.contains = true := hi
      have q := List.all_eq_true.mp q i hm
      simpa using q
    have : ∀ {is : List Nat} {xs : List V} {σ0 : L2.St}, (∀ i ∈ is, i ∈ own) → wipe σ0 own = wipe σ own → gsNames is xs σ0 H Q → gsNames is xs σ0 H fun σ2 H2 => wipe σ2 own = wipe σ own ∧ Q σ2 H2 := fun {is} => by
      induction is with
      | nil => exact fun {xs σ0} _ hw h => ⟨h.1, hw, h.2⟩
      | cons i is ih =>
        intro xs σ0 hm hw h
        obtain ⟨v, r, e, h⟩ := h
        exact ⟨v, r, e, ih (fun j hj => hm j (List.mem_cons_of_mem _ hj)) (by rw [wipe_set (hm i List.mem_cons_self)]; exact hw) h⟩
    exact this hi hw h
theorem mix_wipe {K : PySem.W.Frag} {σ : L2.St} {own : List Nat} {Q : L2.St → Hp → Prop} : ∀ {ts : List (Nat ⊕ List Nat)} {vs : List V} {σ0 : L2.St} {H : Hp}, ts.all (t1In own) = true → wipe σ0 own = wipe σ own → gsMix K ts vs σ0 H Q → gsMix K ts vs σ0 H fun σ2 H2 => wipe σ2 own = wipe σ own ∧ Q σ2 H2
  | [], _, _, _, _, hw, h => ⟨h.1, hw, h.2⟩
  | t :: ts, _, _, _, hi, hw, h => by
    rw [List.all_cons, Bool.and_eq_true] at hi
    obtain ⟨v, r, e, h⟩ := h
    exact ⟨v, r, e, g1_mono (g1_wipe hi.1 hw h) fun σ1 H1 q => mix_wipe hi.2 q.1 q.2⟩
theorem tg_wipe {K : PySem.W.Frag} {tg : Tg} {v : V} {σ : L2.St} {H : Hp} {own : List Nat} {Q : L2.St → Hp → Prop} (hi : tgIn tg own = true) (h : gTg K tg v (wipe σ own) H Q) : gTg K tg v (wipe σ own) H fun σ2 H2 => wipe σ2 own = wipe σ own ∧ Q σ2 H2 := by
  cases tg with
  | nm i =>
    have hi : i ∈ own := by
      have : own.contains i = true := hi
      simpa using this
    exact ⟨by rw [wipe_set hi, wipe_idem], h⟩
  | tp is => exact g1_wipe (t := .inr is) hi wipe_idem h
  | tn ts =>
    obtain ⟨a, xs, e1, e2, e3, h⟩ := h
    exact ⟨a, xs, e1, e2, e3, mix_wipe hi wipe_idem h⟩
theorem lc_run {K : PySem.W.Frag} {wi : TI} {tt : TT} {et : TE} {σ : L2.St} {H : Hp} {Q : VK} (hK : K = g.K) (hin : tgIn tg own = true) (hi : ∀ σ H R, run g W (rI g) (evIt P it) σ H R → wi σ H R) (ht : ∀ σ H R, run g WF rB (evA P ifs) σ H R → tt σ H R)
    (he : ∀ σ H R, tE g WF (evE P elt) σ H R → et σ H R) (h : tE g W (evE P (.lc cell tg it ifs elt own)) σ H Q) : tLc wi (gTg K tg) tt et own σ H Q := by
  obtain ⟨H0, ρ, μ, ι, r, h⟩ := h
  simp only [evE] at h
  refine hi _ _ _ (run_bind r h fun J ds μ1 A1 H1 ι1 s1 r1 d1 h1 => ?_)
  clear h r s1
  have d1 : Yl g A1 J ds := d1
  intro Dp hD
  have hD0 := r1.free hD
  refine ⟨fun i m H => m = ds.length - i ∧ i ≤ ds.length ∧ LcAt g W P σ ρ tg ifs elt own cell A1 H1 ι1 Dp ds Q i H, ⟨_, rfl, Nat.zero_le _, A1, μ1, ι1, [], [], Stp.refl.side hD, ((r1.wiped own).side hD0 (r1.notIn hD) (nt_new hD)), hD0, r1.notIn hD, upd_same, .nil, h1⟩, ?_⟩
  clear h1
  rintro i m H2 ⟨rfl, hil, A, μ, ι, acc, accV, s, r, f0, fi, fD, fa, h⟩
  obtain ⟨y1, y2⟩ := d1 H2 (s.e0.trans r.ex) i
  by_cases hl : i < ds.length
  · have hd : ds.drop i = ds[i] :: ds.drop (i + 1) := List.drop_eq_getElem_cons hl
    have hx : ds[i]? = some ds[i] := List.getElem?_eq_getElem hl
    obtain ⟨go, yl⟩ := y1 _ hx
    refine .inr ⟨go, fun H => LcAt g W P σ ρ tg ifs elt own cell A1 H1 ι1 Dp ds Q (i + 1) H, fun H' q => ⟨_, by omega, rfl, hl, q⟩, fun v H' hy => ?_⟩
    rw [hd] at h
    simp only [lcD] at h
    cases qb : bindTg tg ds[i] (wipeE ρ own) with
    | none => rw [qb] at h; exact h.elim
    | some ρ1 =>
      rw [qb] at h
      dsimp only at h
      have main : ∀ A' H' ι', Stp A H2 ι A' H' ι' → Rel g A' H' (wipe σ own) (wipeE ρ own) μ ι' → Den g A' v ds[i] → gTg K tg v (wipe σ own) H' fun σ2 H2 => wipe σ2 own = wipe σ own ∧ tt σ2 H2 fun b H3 =>
          if b = true then et σ2 H3 fun y H4 => ∃ acc, H4 Dp = some (.lst acc) ∧ acc.length < sizeLine ∧ LcAt g W P σ ρ tg ifs elt own cell A1 H1 ι1 Dp ds Q (i + 1) (upd H4 Dp (.lst (acc ++ [y]))) else LcAt g W P σ ρ tg ifs elt own cell A1 H1 ι1 Dp ds Q (i + 1) H3 := fun A' H' ι' s' r' d' => by
        refine tg_wipe hin ?_
        rw [hK]
        refine tg_read r' d' qb fun σ2 r2 => ht _ _ _ ⟨A', ρ1, μ, ι', r2, ?_⟩
        cases qt : evA P ifs ρ1 μ with
        | no => rw [qt] at h; exact h.elim
        | er x μ2 => rw [qt] at h; exact h.elim
        | ok k μ2 =>
          rw [qt] at h
          intro k' A3 H3 ι3 s3 r3 ek
          have ek : k' = k := ek
          subst ek
          -- the cells of the turn are dropped
          have back : ∀ {A4 H4 : Hp} {ι4 : List Addr} {μ4 : Mu} {σ4 : L2.St} {ρ4 : Env} {acc' : List DL.D} {accV' : List V}, Stp A H2 ι A4 H4 ι4 → Rel g A4 H4 σ4 ρ4 μ4 ι4 → H4 Dp = some (.lst accV') → Dens g A4 accV' acc' → A4 Dp = none → Dp ∉ ι4 →
              Post g W σ ρ (rX g) A1 H1 ι1 ((lcD (bindTg tg) (evA P ifs) (evE P elt) (wipeE ρ own) (ds.drop (i + 1)) acc' (tidy μ.length [] μ4).2).bind fun ys μ2 => alloc cell (.lst ys) μ2) Q → LcAt g W P σ ρ tg ifs elt own cell A1 H1 ι1 Dp ds Q (i + 1) H4 := fun {A4 H4 ι4 μ4 σ4 ρ4 acc' accV'} s4 r4 e4 a4 n4 m4 h4 => by
            obtain ⟨ι5, r5, s5, m, em⟩ := (r4.noSlots).tidy s4 (n := μ.length) r.len
            exact ⟨A4, _, ι5, acc', accV', s.trans s5, r.unbare s5 r5, n4, fun z => m4 (by rw [em]; exact List.mem_append_left _ z), e4, a4, h4⟩
          have s13 := s'.trans s3
          have g3 : H3 Dp = some (.lst accV) := s13.fr Dp _ fD fi nt_lst.1
          have n3 : A3 Dp = none := s13.nw Dp _ fD f0 fi nt_lst.1
          have m3 : Dp ∉ ι3 := s13.out fD fi
          cases k' with
          | false =>
            refine iteF ?_
            exact back s13 r3 g3 (fa.mono s13.e0) n3 m3 h
          | true =>
            refine iteT (he _ _ _ ⟨A3, ρ1, μ2, ι3, r3, ?_⟩)
            dsimp only at h
            cases qe : evE P elt ρ1 μ2 with
            | no => rw [qe] at h; exact h.elim
            | er x μ2 => rw [qe] at h; exact h.elim
            | ok y μ3 =>
              rw [qe] at h
              cases y with
              | r k => exact h.elim
              | d y =>
                dsimp only at h
                split at h
                · rename_i hz
                  have hz := of_decide_eq_true hz
                  intro yv A4 H4 ι4 s4 r4 dy
                  have s14 := s13.trans s4
                  have g4 : H4 Dp = some (.lst accV) := s14.fr Dp _ fD fi nt_lst.1
                  have n4 : A4 Dp = none := s14.nw Dp _ fD f0 fi nt_lst.1
                  have m4 : Dp ∉ ι4 := s14.out fD fi
                  refine ⟨accV, g4, by rw [fa.length, sizeLine_eq]; omega, ?_⟩
                  have dy : Den g A4 yv y := dy
                  have hH2 : H2 Dp ≠ none := by rw [fD]; simp
                  -- the store into the new list, seen from the base
                  obtain ⟨ι5, r5, s5, mm, em⟩ := (r4.noSlots).tidy s14 (n := μ.length) r.len
                  have m5 : Dp ∉ ι5 := fun z => m4 (by rw [em]; exact List.mem_append_left _ z)
                  refine ⟨A4, _, ι5, _, _, (s.trans s5).side hD, (r.unbare s5 r5).side n4 m5 (nt_at g4 nt_lst), n4, m5, upd_same, (fa.mono s14.e0).append (.cons dy .nil), h⟩
                · exact h.elim
      rcases yl v H' hy with ⟨rfl, d⟩ | ⟨p, us, es, hp, rfl, rfl, hd2, e2⟩
      · exact main A _ ι Stp.refl r (d.mono s.e0)
      · obtain ⟨r', s'⟩ := r.value (o := .tup us) hp
        refine main _ _ ι s' r' ?_
        rw [e2]
        exact Den.tup (SqT.of upd_same) (hd2.mono (s.e0.trans s'.e0))
  · have hn : ds.length ≤ i := Nat.le_of_not_lt hl
    rw [List.drop_eq_nil_of_le hn] at h
    refine .inl ⟨y2 hn, ?_⟩
    simp only [lcD, R.bind] at h
    unfold alloc at h
    split at h
    · have rr := r1.unbare s r
      cases cell with
      | true =>
        have r6 := rr.adopt (nd := .lst acc) f0 fi ⟨accV, fD, fa⟩
        exact h _ _ _ _ (s.adopt hD) r6 ⟨Dp, by rw [← rr.len]; simp, rfl⟩
      | false =>
        have r6 := rr.ghost (o := .lst accV) f0 fi fD nt_lst
        have s6 := s.ghost (o := .lst accV) hD f0
        exact h _ _ _ _ s6 r6 (Den.lst upd_same (fa.mono (Ex.new f0)))
    · exact h.elim
end
end
end DL


/-! DLg: dicts that change, built-in methods, calls by keywords. -/
namespace DL
open PySem PySem.Spec PyProof.Rows L2
section
variable {g : G} {X : Cx} {W : WX} {P : Par} {pos : Pos}
/-! ### d[k] = v, {} -/
theorem denk_putM {H : Hp} {k : Key} {q : DK} {v : V} {d : D} (hk : DKey k q) (hv : Den g H v d) : ∀ {ks : List (Key × V)} {kvs : List (DK × D)}, Denk g H ks kvs →
    (ks.any fun kv => decide (kv.1 = k)) = (kvs.any fun p => decide (p.1 = q)) ∧ Denk g H (ks.map fun kv => if kv.1 = k then (kv.1, v) else kv) (kvs.map fun p => if p.1 = q then (q, d) else p)
  | _, _, .nil => ⟨rfl, .nil⟩
  | _, _, .cons (k := k') (q := q') h1 h2 hs => by
    obtain ⟨i1, i2⟩ := denk_putM hk hv hs
    have e := dkey_eq hk h1
    by_cases c : k' = k
    · have c2 : q' = q := (e.mp c).symm
      subst c c2
      rw [List.any_cons, List.any_cons, List.map_cons, List.map_cons]
      simp only [if_true, decide_true, Bool.true_or, true_and]
      exact .cons h1 hv i2
    · have c2 : ¬ q' = q := fun z => c (e.mpr z.symm)
      rw [List.any_cons, List.any_cons, List.map_cons, List.map_cons]
      simp only [if_neg c, if_neg c2, decide_eq_false c, decide_eq_false c2, Bool.false_or]
      exact ⟨i1, .cons h1 h2 i2⟩
theorem denk_app {H : Hp} : ∀ {ks ls : List (Key × V)} {kvs lvs : List (DK × D)}, Denk g H ks kvs → Denk g H ls lvs → Denk g H (ks ++ ls) (kvs ++ lvs)
  | _, _, _, _, .nil, h => h
  | _, _, _, _, .cons a b c, h => .cons a b (denk_app c h)
theorem denk_put {H : Hp} {k : Key} {q : DK} {v : V} {d : D} {ks : List (Key × V)} {kvs : List (DK × D)} (hk : DKey k q) (hv : Den g H v d) (h : Denk g H ks kvs) : Denk g H (putK ks k v) (dput kvs q d) := by
  obtain ⟨i1, i2⟩ := denk_putM hk hv h
  unfold putK dput
  by_cases c : (ks.any fun kv => decide (kv.1 = k)) = true
  · rw [if_pos c, if_pos (by rw [← i1]; exact c)]
    exact i2
  · rw [if_neg c, if_neg (by rw [← i1]; exact c)]
    exact denk_app h (.cons hk hv .nil)
theorem denk_len {H : Hp} : ∀ {ks : List (Key × V)} {kvs : List (DK × D)}, Denk g H ks kvs → ks.length = kvs.length
  | _, _, .nil => rfl
  | _, _, .cons _ _ h => congrArg (· + 1) (denk_len h)
theorem ss_setD {e o i : Expr} {ie io ii : E} {sp : Pos} (hu : X.A.units + 64 < cLine) (he : SE g W X e (evE P ie)) (ho : SE g W X o (evE P io)) (hi : SE g W X i (evE P ii)) (hs : swapsWith e (some (.Subscript o i sp)) pos.line X.env = pure false) :
    SS g W X (.Assign [.Subscript o i sp] e pos) (evS P (.setD io ii ie)) := PS_imp (ps_dput (by omega) ho hi he hs) fun D σ H ⟨H0, ρ, μ, ι, r, h⟩ => by
  simp only [evS] at h
  refine run_st r h fun v z μ1 A1 H1 ι1 s1 r1 d1 h1 => ?_
  refine run_st r1 h1 fun v2 x μ2 A2 H2 ι2 s2 r2 d2 h2 => ?_
  refine run_st r2 h2 fun v3 y μ3 A3 H3 ι3 s3 r3 d3 h3 => ?_
  clear h h1 h2
  have d1 := (d1.stp s2).stp s3
  have d2 := d2.stp s3
  unfold setDX at h3
  split at h3
  · obtain ⟨p, e1, rfl⟩ := d2
    rename_i k i v _
    split at h3
    · rename_i kvs e2
      obtain ⟨h0, c⟩ := r3.cell k _ p e2 e1
      obtain ⟨ks, c1, c2⟩ := c
      split at h3
      · rename_i q eq
        split at h3
        · rename_i hz
          obtain ⟨key, hk, rfl⟩ := keyOf_den d3 eq
          refine ⟨p, _, rfl, DPut.k c1 (by rw [denk_len c2, sizeLine_eq]; omega), ?_⟩
          have d1 : Den g A3 _ v := d1
          obtain ⟨r4, s4⟩ := r3.put (o := .dK (putK ks key _)) (nd' := .dic (dput kvs q v)) e2 e1 ⟨_, upd_same, denk_put hk d1 c2⟩
          exact h3 _ _ _ _ s4 r4
        · exact h3.elim
      · exact h3.elim
    · exact h3.elim
  · exact h3.elim
theorem se_dnew : SE g W X (.Dict [] [] pos) (evE P .dnew) := PE_imp pe_dnewK fun σ H Q ⟨H0, ρ, μ, ι, r, h⟩ => by
  simp only [evE] at h
  intro p hp
  obtain ⟨r2, s2⟩ := r.newCell (p := p) (o := .dK []) (nd := .dic []) hp ⟨_, upd_same, .nil⟩
  exact h _ _ _ _ s2 r2 ⟨p, by rw [← r.len]; simp, rfl⟩
/-! ### built-in methods -/
theorem idxOf_read {H : Hp} {y : D} {v : V} (hy : Den g H v y) (sy : scalar y = true) : ∀ {xs : List D} {vs : List V} {n j : Nat}, Dens g H vs xs → xs.all scalar = true → idxOf y xs n = some j →
    ∃ i z, j = n + i ∧ vs[i]? = some z ∧ eqV z v = true ∧ ∀ (m : Nat) (z' : V), m < i → vs[m]? = some z' → eqV z' v = false
  | [], vs, n, j, d, a, e => by cases e
  | x :: xs, _, n, j, .cons (v := u) h hs, a, e => by
    rw [List.all_cons, Bool.and_eq_true] at a
    unfold idxOf at e
    have ev := eqV_of h hy a.1 sy
    by_cases c : eqF x y = true
    · rw [if_pos c] at e
      cases e
      exact ⟨0, u, rfl, rfl, by rw [ev]; exact c, fun m z' hm => absurd hm (Nat.not_lt_zero m)⟩
    · rw [if_neg c] at e
      obtain ⟨i, z, e1, e2, e3, e4⟩ := idxOf_read hy sy hs a.2 e
      refine ⟨i + 1, z, by omega, by simpa using e2, e3, fun m z' hm hz => ?_⟩
      cases m with
      | zero =>
        have hz : u = z' := by simpa using hz
        subst hz
        rw [ev]
        simpa using c
      | succ m => exact e4 m z' (by omega) (by simpa using hz)
section
variable {o e f : Expr} {es : List Expr} {io ia ib : E} {ies : Es} {apos : Pos}
theorem se_index (hK : X.K = g.K) (ho : SE g W X o (evE P io)) (ha : SA g W X (e :: es) (evEs P ies)) (hbase : attributeBase o "index" X.env (eval o X.env) = eval o X.env)
    (hfew : ((backTo pos (starEach (e :: es) X.env)).all (fun x => !x.1) && (backToKw pos (keywordEach [] X.env)).all (fun x => x.1.isSome)
      && decide ((e :: es).length + ([] : List Keyword).length + (if ([] : List Keyword).isEmpty then 0 else 1) < 30)) = true)
    (hline : (apos.endLine == pos.line) = true) (hs : starEach (e :: es) X.env = (false, eval e X.env) :: starEach es X.env) (hplain : (backTo pos (starEach es X.env)).any (·.1) = false) :
    SE g W X (.Call (.Attribute o "index" apos) (e :: es) [] pos) (evE P (.bm .index io ies)) :=
  PE_imp (pe_bm PySem.F.plainAttrs_list PySem.F.slot_list_index PySem.F.type_list_index mt_index ho ha hbase hfew hline hs hplain) fun σ H Q ⟨H0, ρ, μ, ι, r, h⟩ => by
    simp only [evE] at h
    refine run_bind r h fun v x μ1 A1 H1 ι1 s1 r1 d1 h1 => ?_
    clear h
    split at h1
    · rename_i k1
      refine ⟨?_, run_bind r1 h1 fun vs xs μ2 A2 H2 ι2 s2 r2 d2 h2 => ?_⟩
      · have k1 : isLst μ1 x = true := k1
        unfold isLst at k1
        split at k1
        · rename_i xs e
          obtain ⟨p, vs, rfl, e2, _⟩ := r1.viewL d1 e
          exact .inl ⟨rfl, vs, by rw [hK]; exact e2⟩
        · cases k1
      · have d1 := d1.stp s2
        replace h2 : Post g W σ ρ (rX g) A2 H2 ι2 (indexD μ2 x xs) Q := h2
        unfold indexD at h2
        split at h2
        · rename_i y
          cases d2 with
          | cons d2 d3 =>
            cases d3
            split at h2
            · rename_i ys e2
              obtain ⟨p, us, rfl, g1, g2⟩ := r2.viewL d1 e2
              split at h2
              · rename_i sc
                obtain ⟨sc1, sc2⟩ := Bool.and_eq_true_iff.mp sc
                split at h2
                · rename_i n en
                  have d2 : Den g A2 _ y := d2
                  obtain ⟨i, z, rfl, f1, f2, f3⟩ := idxOf_read d2 sc1 g2 sc2 en
                  rw [Nat.zero_add] at h2
                  exact ⟨p, us, _, i, z, rfl, rfl, by rw [hK]; exact g1, flat_of d2 sc1, flats_of g2 sc2, f1, f2, f3, h2.now r2 (Den.int _)⟩
                · exact h2.elim
              · exact h2.elim
            · exact h2.elim
        · exact h2.elim
    · exact h1.elim
theorem se_join (hK : X.K = g.K) (ho : SE g W X o (evE P io)) (ha : SE g W X e (evE P ia)) (hs : starEach [e] X.env = [(false, eval e X.env)]) (hbase : attributeBase o "join" X.env (eval o X.env) = eval o X.env) (hline : (apos.endLine == pos.line) = true) :
    SE g W X (.Call (.Attribute o "join" apos) [e] [] pos) (evE P (.bm .join io (.cons ia .nil))) :=
  PE_imp (pe_join ho ha hs hbase hline) fun σ H Q ⟨H0, ρ, μ, ι, r, h⟩ => by
    simp only [evE] at h
    refine run_bind r h fun v x μ1 A1 H1 ι1 s1 r1 d1 h1 => ?_
    clear h
    split at h1
    · rename_i k1
      obtain ⟨s, rfl⟩ : ∃ s, x = .d (.str s) := by
        unfold bmOk at k1
        dsimp only at k1
        split at k1
        · exact ⟨_, rfl⟩
        · cases k1
      cases d1
      refine ⟨⟨s, rfl⟩, ?_⟩
      simp only [evEs] at h1
      refine run_bind r1 (by
        have e : ((evE P ia ρ μ1).bind fun x μ1 => R.bind (R.ok [] μ1) fun xs μ2 => R.ok (x :: xs) μ2).bind (fun xs μ2 => bmD μ2 .join (.d (.str s)) xs) = (evE P ia ρ μ1).bind fun x μ2 => bmD μ2 .join (.d (.str s)) [x] := by
          cases evE P ia ρ μ1 <;> rfl
        rw [e] at h1
        exact h1) fun vs y μ2 A2 H2 ι2 s2 r2 d2 h2 => ?_
      replace h2 : Post g W σ ρ (rX g) A2 H2 ι2 (joinD μ2 (.d (.str s)) [y]) Q := h2
      unfold joinD at h2
      dsimp only at h2
      split at h2
      · rename_i ys e2
        obtain ⟨p, us, rfl, g1, g2⟩ := r2.viewL d2 e2
        split at h2
        · rename_i zs ez
          split at h2
          · rename_i hz
            obtain ⟨rfl, _⟩ := strsD_den ez g2
            exact ⟨s, p, zs, rfl, rfl, .inl (by rw [hK]; exact g1), by omega, h2.now r2 (Den.str _)⟩
          · exact h2.elim
        · exact h2.elim
      · exact h2.elim
    · exact h1.elim
/-- a dict's value at a key -/
theorem dget_den {H0 H1 : Hp} {a : Addr} {ks : List (Key × V)} {kvs : List (DK × D)} {key : Key} {q : DK} (ha : H1 a = some (.dK ks)) (hk : DKey key q) (h : Denk g H0 ks kvs) : ∃ o, DGet H1 a (kV key) o ∧ ((o = none ∧ dget kvs q = none) ∨ ∃ v d, o = some v ∧ dget kvs q = some d ∧ Den g H0 v d) := by
  refine ⟨valV ks key, .inl ⟨ks, key, .inl ha, rfl, rfl⟩, ?_⟩
  unfold dget
  rcases denk_get hk h with ⟨h4, h5⟩ | ⟨d, v, h4, h5, h6⟩
  · exact .inl ⟨h5, h4⟩
  · exact .inr ⟨v, d, h5, h4, h6⟩
theorem se_get1 (hu : X.A.units + 64 < cLine) (ho : SE g W X o (evE P io)) (ha : SE g W X e (evE P ia)) (m : M1 X o "get" apos e pos) :
    SE g W X (.Call (.Attribute o "get" apos) [e] [] pos) (evE P (.bm .get1 io (.cons ia .nil))) :=
  PE_imp (pe_dget1 (by omega) ho ha m) fun σ H Q ⟨H0, ρ, μ, ι, r, h⟩ => by
    simp only [evE] at h
    refine run_bind r h fun v x μ1 A1 H1 ι1 s1 r1 d1 h1 => ?_
    clear h
    split at h1
    · rename_i k1
      obtain ⟨kvs0, e0⟩ : ∃ kvs, view μ1 x = some (.dic kvs) := by
        unfold bmOk at k1
        dsimp only at k1
        split at k1
        · rename_i e; exact ⟨_, e⟩
        · cases k1
      obtain ⟨p, ks0, rfl, g1, g2⟩ := r1.viewK d1 (view_S e0)
      refine ⟨p, rfl, .inl ⟨_, .inl g1⟩, ?_⟩
      simp only [evEs] at h1
      refine run_bind r1 (by
        have e : ((evE P ia ρ μ1).bind fun x μ1 => R.bind (R.ok [] μ1) fun xs μ2 => R.ok (x :: xs) μ2).bind (fun xs μ2 => bmD μ2 .get1 x xs) = (evE P ia ρ μ1).bind fun y μ2 => bmD μ2 .get1 x [y] := by
          cases evE P ia ρ μ1 <;> rfl
        rw [e] at h1
        exact h1) fun vs y μ2 A2 H2 ι2 s2 r2 d2 h2 => ?_
      replace h2 : Post g W σ ρ (rX g) A2 H2 ι2 (get1D μ2 x [y]) Q := h2
      have d1 := d1.stp s2
      unfold get1D at h2
      split at h2
      · rename_i k ek
        have ek : y = .d k := by simpa using ek
        subst ek
        split at h2
        · rename_i kvs e2
          obtain ⟨p', ks, e3, f1, f2⟩ := r2.viewK d1 (view_S e2)
          cases e3
          split at h2
          · rename_i q eq
            obtain ⟨key, hk, rfl⟩ := keyOf_den (show Den g A2 vs k from d2) eq
            obtain ⟨o, z1, z2⟩ := dget_den f1 hk f2
            refine ⟨o, z1, ?_⟩
            rcases z2 with ⟨rfl, z3⟩ | ⟨w, d, rfl, z3, z4⟩
            · rw [z3] at h2
              exact h2.now r2 Den.non
            · rw [z3] at h2
              exact h2.now r2 z4
          · exact h2.elim
        · exact h2.elim
      · exact h2.elim
    · exact h1.elim
theorem se_get2 (hu : X.A.units + 64 < cLine) (ho : SE g W X o (evE P io)) (ha : SE g W X e (evE P ia)) (hb : SE g W X f (evE P ib)) (m : M2 X o "get" apos e f pos) :
    SE g W X (.Call (.Attribute o "get" apos) [e, f] [] pos) (evE P (.bm .get2 io (.cons ia (.cons ib .nil)))) :=
  PE_imp (pe_dget2 (by omega) ho ha hb m) fun σ H Q ⟨H0, ρ, μ, ι, r, h⟩ => by
    simp only [evE] at h
    refine run_bind r h fun v x μ1 A1 H1 ι1 s1 r1 d1 h1 => ?_
    clear h
    split at h1
    · rename_i k1
      obtain ⟨kvs0, e0⟩ : ∃ kvs, view μ1 x = some (.dic kvs) := by
        unfold bmOk at k1
        dsimp only at k1
        split at k1
        · rename_i e; exact ⟨_, e⟩
        · cases k1
      obtain ⟨p, ks0, rfl, g1, g2⟩ := r1.viewK d1 (view_S e0)
      refine ⟨p, rfl, .inl ⟨_, .inl g1⟩, ?_⟩
      simp only [evEs] at h1
      refine run_bind r1 (by
        have e : ((evE P ia ρ μ1).bind fun x μ1 => ((evE P ib ρ μ1).bind fun x μ1 => R.bind (R.ok [] μ1) fun xs μ2 => R.ok (x :: xs) μ2).bind fun xs μ2 => R.ok (x :: xs) μ2).bind (fun xs μ2 => bmD μ2 .get2 x xs) = (evE P ia ρ μ1).bind fun y μ2 => (evE P ib ρ μ2).bind fun z μ3 => bmD μ3 .get2 x [y, z] := by
          cases evE P ia ρ μ1 with
          | ok y μ2 =>
            simp only [R.bind]
            cases evE P ib ρ μ2 <;> rfl
          | er _ _ => rfl
          | no => rfl
        rw [e] at h1
        exact h1) fun vs y μ2 A2 H2 ι2 s2 r2 d2 h2 => ?_
      refine run_bind r2 h2 fun us z μ3 A3 H3 ι3 s3 r3 d3 h3 => ?_
      clear h1 h2
      replace h3 : Post g W σ ρ (rX g) A3 H3 ι3 (get2D μ3 x [y, z]) Q := h3
      have d1 := (d1.stp s2).stp s3
      have d2 := d2.stp s3
      unfold get2D at h3
      split at h3
      · rename_i k w ek
        obtain ⟨ek, ew⟩ : y = .d k ∧ z = .d w := by simpa using ek
        subst ek ew
        split at h3
        · rename_i kvs e2
          obtain ⟨p', ks, e3, f1, f2⟩ := r3.viewK d1 (view_S e2)
          cases e3
          split at h3
          · rename_i q eq
            obtain ⟨key, hk, rfl⟩ := keyOf_den (show Den g A3 vs k from d2) eq
            obtain ⟨o, z1, z2⟩ := dget_den f1 hk f2
            refine ⟨o, z1, ?_⟩
            rcases z2 with ⟨rfl, z3⟩ | ⟨w, d, rfl, z3, z4⟩
            · rw [z3] at h3
              exact h3.now r3 d3
            · rw [z3] at h3
              exact h3.now r3 z4
          · exact h3.elim
        · exact h3.elim
      · exact h3.elim
    · exact h1.elim
end
/-! ### calls by keywords -/
/-- how a def binds n values and keywords ks: the parameters behind are filled by tl -/
structure KwOk (g : G) (fd : FuncData) (ps : List Str) (n : Nat) (ks : List Str) (tl : List KA) : Prop where
  ex : ∃ (gg : List Value → List Value → List Value) (gV : List V → List V → List V), KBn g.K fd ps n ks gg gV ∧
    ∀ (H : Hp) (ι : List Addr) (vs zs : List V) (xs ys ts : List DL.X), XDens g H ι vs xs → vs.length = n → XDens g H ι zs ys → zs.length = ks.length → tlX ys tl = some ts → XDens g H ι (gV vs zs) (xs ++ ts)
theorem PK_imp {X : Cx} {e : List Keyword} {t t' : TA} (h : PK X e t) (i : ∀ σ H Q, t' σ H Q → t σ H Q) : PK X e t' := ⟨fun pos pins s σ H Q I q => h.run pos pins s σ H Q I (i _ _ _ q)⟩
abbrev SK (g : G) (W : WX) (X : Cx) (kws : List Keyword) (ev : Env → Mu → R (List DL.X)) : Prop := PK X kws (tA g W ev)
theorem sk_nil : SK g W X [] (evEs P .nil) := PK_imp pk_nil fun σ H Q ⟨H0, ρ, μ, ι, r, h⟩ => by
  simp only [evEs] at h
  exact h.now r .nil
theorem sk_cons {nm : Option Str} {a : Expr} {kp : Pos} {kws : List Keyword} {ia : E} {ies : Es} (ha : SE g W X a (evE P ia)) (hr : SK g W X kws (evEs P ies)) : SK g W X (⟨nm, a, kp⟩ :: kws) (evEs P (.cons ia ies)) := PK_imp (pk_cons ha hr) fun σ H Q ⟨H0, ρ, μ, ι, r, h⟩ => by
  simp only [evEs] at h
  refine run_bind r h fun v x μ1 A1 H1 ι1 s1 r1 d1 h => ?_
  refine run_bind r1 h fun vs xs μ2 A2 H2 ι2 s2 r2 d2 h => ?_
  exact h.now r2 (.cons (d1.stp s2) d2)
section
variable {CX : CXT} {k n : Nat} {f : Addr} {fd : FuncData} {ps ks : List Str} {sp : Sp} {gg : List Value → List Value → List Value} {gV : List V → List V → List V}
theorem run_fnKS {E : L2.St → XK} {pins : List (Addr × Obj)} {σ : L2.St} {H : Hp} {s : Shared} {Q : VK} {us ws : List Value} {vs zs : List V} (F : FnOk X.prog X.w X.K X.mg X.base CX k f fd ps sp) (hr : Room k X.A) (hb : KBn X.K fd ps n ks gg gV) (hx : PassesAt CX X σ (E σ))
    (I : Inv X pins σ H s) (r : Vals vs us) (rz : Vals zs ws) (l1 : vs.length = n) (l2 : zs.length = ks.length) (h : sp (gV vs zs) H Q (E σ)) : wpAny (model X.prog X.w) X.A (call (.ref f) us (ks.zip ws)) (EP X pins σ Q) X.xe s := by
  have r2 := hb.rel r rz
  refine wpAny_call (codeAny_mono (F.run X.A X.stack s H ⟨us, ks.zip ws⟩ (gg us ws) (gV vs zs) Q (E σ) hr I.env0 (hb.to s us ws I.kIn (r.length.symm.trans l1) (rz.length.symm.trans l2)) r2 h) fun r s' hq => ?_)
  cases r with
  | error e => exact hx pins H s e s' I hq
  | ok fl =>
    cases fl with
    | ret u => exact I.after hq
    | next => exact False.elim hq
    | brk => exact False.elim hq
    | cont => exact False.elim hq
theorem run_makeKS {E : L2.St → XK} {C : Addr} {pins : List (Addr × Obj)} {σ : L2.St} {H : Hp} {s : Shared} {Q : VK} {us ws : List Value} {vs zs : List V} (M : Mk X.K C f) (F : FnOk X.prog X.w X.K X.mg X.base CX k f fd ps sp) (hr : Room (k + 1) X.A) (hb : KBn X.K fd ps (n + 1) ks gg gV)
    (hx : PassesAt CX X σ (E σ)) (I : Inv X pins σ H s) (r : Vals vs us) (rz : Vals zs ws) (l1 : vs.length = n) (l2 : zs.length = ks.length)
    (h : ∀ x dx, H x = none → H dx = none → dx ≠ x → sp (gV (.ref x :: vs) zs) (upd (upd H dx (.own x)) x (.ins C dx [])) (fun v H2 => v = .non ∧ Q (.ref x) H2) (E σ)) :
    wpAny (model X.prog X.w) X.A (call (.ref C) us (ks.zip ws)) (EP X pins σ Q) X.xe s := by
  have hq := h (s.heap.objs.size + 1) s.heap.objs.size (I.hok.fresh (Nat.le_succ _)) (I.hok.fresh (Nat.le_refl _)) (Nat.ne_of_lt (Nat.lt_succ_self _))
  have I2 := Inv.made (C := C) I
  have r1 : Vals (V.ref (s.heap.objs.size + 1) :: vs) (Value.ref (s.heap.objs.size + 1) :: us) := .cons rfl r
  have r2 := hb.rel r1 rz
  have e1 : (Value.ref (s.heap.objs.size + 1) :: us).length = n + 1 := r1.length.symm.trans (congrArg Nat.succ l1)
  have e2 : ws.length = ks.length := rz.length.symm.trans l2
  refine wpAny_call (make_map (f := f) I.kIn M.makes M.init (beq_iff_eq.mp M.fn) (codeAny_mono (F.run _ X.stack _ _ ⟨Value.ref (s.heap.objs.size + 1) :: us, ks.zip ws⟩ (gg (Value.ref (s.heap.objs.size + 1) :: us) ws) _ _ (E σ) (hr.make C us (ks.zip ws))
    (I2.env0.make C us (ks.zip ws)) (hb.to _ (Value.ref (s.heap.objs.size + 1) :: us) ws I2.kIn e1 e2) r2 hq) fun r s' hq' => ?_))
  have hx2 : PassesAt CX X σ (E σ) := hx
  cases r with
  | error e => exact hx2 pins _ _ e s' I2 hq'
  | ok fl =>
    cases fl with
    | ret u =>
      obtain ⟨v, H', I3, rv, ev, q3⟩ := I2.after hq'
      subst ev
      exact ⟨rv, ⟨V.ref (s.heap.objs.size + 1), H', I3, rfl, q3⟩⟩
    | next => exact False.elim hq'
    | brk => exact False.elim hq'
    | cont => exact False.elim hq'
end
/-- the text of a call by keywords -/
structure KwT (X : Cx) (pos : Pos) (es : List Expr) (kws : List Keyword) (ks : List Str) : Prop where
  hall : (backToKw pos (keywordEach kws X.env)).all (·.1.isSome) = true
  hks : (backToKw pos (keywordEach kws X.env)).filterMap (·.1) = ks
  hpl : ((backTo pos (starEach es X.env)).any (·.1) || (backToKw pos (keywordEach kws X.env)).any (·.1.isNone)) = false
  hst : es = [] ∨ ∃ e r, es = e :: r ∧ starEach (e :: r) X.env = (false, eval e X.env) :: starEach r X.env
def tKw (n : Nat) (ks : List Str) (sp : List V → List V → Hp → VK → Prop) (t tk : TA) : TE := fun σ H Q => t σ H fun vs H1 => tk σ H1 fun zs H2 => vs.length = n ∧ zs.length = ks.length ∧ sp vs zs H2 Q
section
variable {es : List Expr} {kws : List Keyword} {ks : List Str} {ies kes : Es} {tl : List KA} {x : Str} {p : Pos}
/-- the values handed in, then the keywords' -/
theorem kw_args {first : List Value} {pins : List (Addr × Obj)} {σ : L2.St} {H : Hp} {s : Shared} {fv : Value} {S : List V → List V → Hp → Prop} {Q : Value → Shared → Prop} (I : Inv X pins σ H s) (hk : PySem.W.keepIn X.K fv = true) (T : KwT X pos es kws ks) (ha : SA g W X es (evEs P ies)) (hz : SK g W X kws (evEs P kes)) (hnil : es = [] → ies = .nil)
    (h : tA g W (evEs P ies) σ H fun vs H1 => tA g W (evEs P kes) σ H1 fun zs H2 => S vs zs H2)
    (hq : ∀ us ws vs zs H2 s2, Inv X pins σ H2 s2 → Vals vs us → Vals zs ws → S vs zs H2 → wpAny (model X.prog X.w) X.A (call fv (first ++ us) (ks.zip ws)) Q X.xe s2) :
    wpAny (model X.prog X.w) X.A (callWith pos fv first (backTo pos (starEach es X.env)) (backToKw pos (keywordEach kws X.env))) Q X.xe s := by
  rcases T.hst with rfl | ⟨e, r, rfl, h1⟩
  · obtain ⟨H0, ρ, μ, ι, r, h⟩ := h
    rw [hnil rfl] at h
    simp only [evEs] at h
    have h := h.now r XDens.nil
    refine PySem.W.callWith_KW0 (h₀ := X.base) I.ok.mod.kin hk T.hall ?_ T.hpl
    refine thn (hz.run pos pins s σ H _ I h) fun ws s2 ⟨zs, H2, I2, rz, q2⟩ => ⟨I2.kIn, ?_⟩
    rw [T.hks]
    exact hq [] ws [] zs H2 s2 I2 .nil rz q2
  · refine PySem.W.callWith_KW (h₀ := X.base) I.ok.mod.kin hk T.hall (thn (ha.run pos pins s σ H _ I h) fun us s1 ⟨vs, H1, I1, r, q⟩ => ?_) T.hpl h1
    refine thn (hz.run pos pins s1 σ H1 _ I1 q) fun ws s2 ⟨zs, H2, I2, rz, q2⟩ => ⟨I2.kIn, ?_⟩
    rw [T.hks]
    exact hq us ws vs zs H2 s2 I2 r rz q2
theorem run_bindE {α β α' β' : Type} {rel : Hp → List Addr → β → α → Prop} {rel' : Hp → List Addr → β' → α' → Prop} {σ : L2.St} {ρ : Env} {H0 H : Hp} {ι : List Addr} {μ : Mu} {ev : Env → Mu → R α} {k : α → Mu → R α'} {Q : β' → Hp → Prop} {S : β → Hp → Prop} (r : Rel g H0 H σ ρ μ ι) (h : Post g W σ ρ rel' H0 H ι ((ev ρ μ).bind k) Q)
    (hk : ∀ v x μ' H0' H' ι', ev ρ μ = .ok x μ' → Stp H0 H ι H0' H' ι' → Rel g H0' H' σ ρ μ' ι' → rel H0' ι' v x → Post g W σ ρ rel' H0' H' ι' (k x μ') Q → S v H') : run g W rel ev σ H S := by
  refine ⟨H0, ρ, μ, ι, r, ?_⟩
  cases e : ev ρ μ with
  | ok x μ' =>
    rw [e] at h
    exact fun v A B C s t d => hk v x μ' A B C e s t d (Post.step s h)
  | er x μ' =>
    rw [e] at h
    exact h
  | no =>
    rw [e] at h
    exact h
def Es.len : Es → Nat
  | .nil => 0
  | .cons _ r => r.len + 1
theorem evEs_len : ∀ {es : Es} {ρ : Env} {μ : Mu} {xs : List DL.X} {μ' : Mu}, evEs P es ρ μ = .ok xs μ' → xs.length = es.len
  | .nil, ρ, μ, xs, μ', e => by
    simp only [evEs] at e
    cases e
    rfl
  | .cons a r, ρ, μ, xs, μ', e => by
    simp only [evEs] at e
    cases e1 : evE P a ρ μ with
    | no => rw [e1] at e; cases e
    | er _ _ => rw [e1] at e; cases e
    | ok x μ1 =>
      rw [e1] at e
      simp only [R.bind] at e
      cases e2 : evEs P r ρ μ1 with
      | no => rw [e2] at e; cases e
      | er _ _ => rw [e2] at e; cases e
      | ok ys μ2 =>
        rw [e2] at e
        simp only [R.bind] at e
        cases e
        show ys.length + 1 = r.len + 1
        rw [evEs_len e2]
/-- what is handed in, read -/
theorem kw_read {σ : L2.St} {ρ : Env} {H0 H : Hp} {ι : List Addr} {μ : Mu} {f : List DL.X → List DL.X → Mu → R DL.X} {Q : VK} {S : List V → List V → Hp → Prop} (r : Rel g H0 H σ ρ μ ι)
    (h : Post g W σ ρ (rX g) H0 H ι ((evEs P ies ρ μ).bind fun xs μ1 => (evEs P kes ρ μ1).bind fun ys μ2 => match tlX ys tl with | some ts => f xs ts μ2 | none => .no) Q)
    (hk : ∀ vs zs xs ys ts μ2 A2 H2 ι2, Stp H0 H ι A2 H2 ι2 → Rel g A2 H2 σ ρ μ2 ι2 → XDens g A2 ι2 vs xs → XDens g A2 ι2 zs ys → vs.length = ies.len → zs.length = kes.len → tlX ys tl = some ts → Post g W σ ρ (rX g) A2 H2 ι2 (f xs ts μ2) Q → S vs zs H2) :
    tA g W (evEs P ies) σ H fun vs H1 => tA g W (evEs P kes) σ H1 fun zs H2 => S vs zs H2 := by
  refine run_bindE r h fun vs xs μ1 A1 H1 ι1 e1 s1 r1 d1 h1 => ?_
  refine run_bindE r1 h1 fun zs ys μ2 A2 H2 ι2 e2 s2 r2 d2 h2 => ?_
  split at h2
  · rename_i ts et
    exact hk vs zs xs ys ts μ2 A2 H2 ι2 (s1.trans s2) r2 (d1.stp s2) d2 (by rw [d1.length]; exact evEs_len e1) (by rw [d2.length]; exact evEs_len e2) et h2
  · exact h2.elim
theorem se_callK {j k : Nat} {fd : FuncData} {ps : List Str} (F : FnOk X.prog X.w X.K X.mg X.base (L2N.CX X.prog X.w) k (g.fA j) fd ps (spF g P.C j)) (hK : X.K = g.K) (hr : Room k X.A) (hg : Gl X x) (hm : X.mg x = some (.ref (g.fA j))) (hk : PySem.W.keepIn X.K (.ref (g.fA j)) = true) (B : KwOk g fd ps ies.len ks tl)
    (tk : L2N.Takes X W) (T : KwT X pos es kws ks) (ha : SA g W X es (evEs P ies)) (hz : SK g W X kws (evEs P kes)) (hnil : es = [] → ies = .nil) (hn2 : kes.len = ks.length)
    (hdb : (x == ("__debug__" : Str)) = false) : SE g W X (.Call (.Name x p) es kws pos) (evE P (.callK j ies ks kes tl)) := by
  obtain ⟨gg, gV, hb, hrel⟩ := B.ex
  rw [← hK] at hb
  refine ⟨fun pins s σ H Q I ⟨H0, ρ, μ, ι, r, h⟩ => ?_⟩
  refine wpAny_Call_Name_kw (ld_glob I hg hm ?_ hdb)
  simp only [evE] at h
  refine kw_args (S := fun vs zs H2 => vs.length = ies.len ∧ zs.length = ks.length ∧ spF g P.C j (gV vs zs) H2 Q (WE W σ)) (I.tok _) hk T ha hz hnil (kw_read r h fun vs zs xs ys ts μ2 A2 H2 ι2 s2 r2 d1 d2 l1 l2 et h2 => ?_) fun us ws vs zs H2 s2 I2 r1 r2 ⟨l1, l2, q⟩ => run_fnKS (E := WE W) F hr hb (L2N.passAt tk σ) I2 r1 r2 l1 l2 q
  rw [hn2] at l2
  exact ⟨l1, l2, sp_call r2 (hrel _ _ _ _ _ _ _ d1 l1 d2 l2 et) h2⟩
theorem se_methK {o : Expr} {io : E} {m : Str} {apos : Pos} {k : Nat} {pl : Sem Bool} (O : Own g X P k) (hK : X.K = g.K) (tk : L2N.Takes X W)
    (hD : ∀ c j, c < g.nC → P.methOf c m = some j → ∃ fd ps k, Meth g.K (g.cA c) m (g.fA j) ∧ FnOk X.prog X.w X.K X.mg X.base (L2N.CX X.prog X.w) k (g.fA j) fd ps (spF g P.C j) ∧ Room k X.A ∧ KwOk g fd ps (ies.len + 1) ks tl)
    (ho : SE g W X o (evE P io)) (T : KwT X pos es kws ks) (ha : SA g W X es (evEs P ies)) (hz : SK g W X kws (evEs P kes)) (hnil : es = [] → ies = .nil) (hn2 : kes.len = ks.length)
    (ht : eval (.Call (.Attribute o m apos) es kws pos) X.env = (do
      let ov ← eval o X.env
      standAt apos.atName
      let (f, first) ← holding [ov] (getMethod ov m pl)
      callWith pos f first (backTo pos (starEach es X.env)) (backToKw pos (keywordEach kws X.env)))) :
    SE g W X (.Call (.Attribute o m apos) es kws pos) (evE P (.methK m io ies ks kes tl)) := by
  refine ⟨fun pins s σ H Q I ⟨H0, ρ, μ, ι, r, h⟩ => ?_⟩
  simp only [evE] at h
  refine PySem.W.methodCall_KW (pl := pl) (thn (ho.run pins s σ H (fun x H1 => ∃ a C dx fs f, x = .ref a ∧ H1 a = some (.ins C dx fs) ∧ Cls X.K C ∧ Meth X.K C m f ∧ fs.lookup m = none ∧
      tA g W (evEs P ies) σ H1 fun vs H1 => tA g W (evEs P kes) σ H1 fun zs H2 => ∃ k fd ps sp gg gV, FnOk X.prog X.w X.K X.mg X.base (L2N.CX X.prog X.w) k f fd ps sp ∧ Room k X.A ∧ KBn X.K fd ps (ies.len + 1) ks gg gV ∧ vs.length = ies.len ∧ zs.length = ks.length ∧ sp (gV (.ref a :: vs) zs) H2 Q (WE W σ)) I ?_) fun u s1 ⟨x, H1, I1, rx, a, C, dx, fs, f, ex, ea, c, hm, l, q⟩ => ?_) ht
  · refine run_bind r h fun v x μ1 A1 H1 ι1 s1 r1 d1 h => ?_
    split at h
    · rename_i c ec
      obtain ⟨hc, b, dx, vf, rfl, hb, hnf, _⟩ := insOf_read r1 d1 ec
      split at h
      · rename_i j ej
        split at h
        · rename_i hno
          obtain ⟨fd, ps, k', M, F, hr, B⟩ := hD c j hc ej
          obtain ⟨gg, gV, hbn, hrel⟩ := B.ex
          have cl := (O.cls c hc).cl
          rw [← O.K] at cl M
          rw [← hK] at hbn
          refine ⟨b, _, _, _, _, rfl, hb, cl, M, hnf m (Option.isNone_iff_eq_none.mp hno), kw_read r1 h fun vs zs xs ys ts μ2 A2 H2 ι2 s2 r2 e1 e2 l1 l2 et h2 => ?_⟩
          rw [hn2] at l2
          refine ⟨k', fd, ps, _, gg, gV, F, hr, hbn, l1, l2, ?_⟩
          have hd := hrel A2 ι2 (.ref b :: vs) zs (x :: xs) ys ts (.cons (d1.stp s2) e1) (congrArg (· + 1) l1) e2 l2 et
          exact sp_call r2 hd h2
        · exact h.elim
      · exact h.elim
    · exact h.elim
  · subst ex
    obtain rfl : u = Value.ref a := rx
    refine getmeth_ok I1 ea c hm l ?_
    refine kw_args (first := [.ref a]) I1 hm.kp T ha hz hnil q fun us ws vs zs H2 s2 I2 r1 r2 ⟨k, fd, ps, sp, gg, gV, F, hr, hbn, l1, l2, q⟩ => ?_
    exact run_fnKS (E := WE W) (us := .ref a :: us) (vs := .ref a :: vs) F hr hbn (L2N.passAt tk σ) I2 (.cons rfl r1) r2 (congrArg (· + 1) l1) l2 q
theorem se_mkK {c : Nat} (hK : X.K = g.K) (tk : L2N.Takes X W) (hc : c < g.nC)
    (hD : ∀ j, P.methOf c "__init__" = some j → ∃ fd ps k, Mk g.K (g.cA c) (g.fA j) ∧ FnOk X.prog X.w X.K X.mg X.base (L2N.CX X.prog X.w) k (g.fA j) fd ps (spF g P.C1 j) ∧ Room (k + 1) X.A ∧ KwOk g fd ps (ies.len + 1) ks tl)
    (hj : (P.methOf c "__init__").isSome = true) (hg : Gl X x) (hm : X.mg x = some (.ref (g.cA c))) (T : KwT X pos es kws ks) (ha : SA g W X es (evEs P ies)) (hz : SK g W X kws (evEs P kes)) (hnil : es = [] → ies = .nil) (hn2 : kes.len = ks.length)
    (hdb : (x == ("__debug__" : Str)) = false) : SE g W X (.Call (.Name x p) es kws pos) (evE P (.mkK c ies ks kes tl)) := by
  obtain ⟨j, hj⟩ := Option.isSome_iff_exists.mp hj
  obtain ⟨fd, ps, k, M, F, hr, B⟩ := hD j hj
  obtain ⟨gg, gV, hb, hrel⟩ := B.ex
  rw [← hK] at hb M
  refine ⟨fun pins s σ H Q I ⟨H0, ρ, μ, ι, r, h⟩ => ?_⟩
  refine wpAny_Call_Name_kw (ld_glob I hg hm ?_ hdb)
  simp only [evE] at h
  refine kw_args (S := fun vs zs H2 => vs.length = ies.len ∧ zs.length = ks.length ∧ ∀ x dx, H2 x = none → H2 dx = none → dx ≠ x → spF g P.C1 j (gV (.ref x :: vs) zs) (upd (upd H2 dx (.own x)) x (.ins (g.cA c) dx [])) (fun v H2 => v = .non ∧ Q (.ref x) H2) (WE W σ)) (I.tok _) M.kp T ha hz hnil
    (kw_read (f := fun xs ts μ2 => (match P.methOf c "__init__" with
      | some j => (P.C1 j (.r μ2.length :: (xs ++ ts)) (μ2 ++ [some (.ins c [])])).bind fun y μ3 => (match y with
        | .d .non => .ok (.r μ2.length) μ3
        | _ => .no)
      | none => .no)) r h fun vs zs xs ys ts μ1 A1 H1 ι1 s0 r1 d1 d2 l1 l2 et h => ?_) fun us ws vs zs H2 s2 I2 r1 r2 ⟨l1, l2, q⟩ => run_makeKS (E := WE W) M F hr hb (L2N.passAt tk σ) I2 r1 r2 l1 l2 q
  rw [hn2] at l2
  refine ⟨l1, l2, ?_⟩
  simp only [hj] at h
  intro x dx hx hdx ne
  have hx2 : upd H1 dx (.own x) x = none := by rw [upd_ne (Ne.symm ne)]; exact hx
  have r2 := r1.side' (p := dx) (o := .own x) (r1.free hdx) (r1.notIn hdx) (nt_new hdx)
  have s2 : Stp A1 H1 ι1 A1 (upd H1 dx (.own x)) ι1 := Stp.refl.side' hdx
  obtain ⟨r3, s3⟩ := r2.newCell (o := .ins (g.cA c) dx []) (nd := .ins c []) hx2 ⟨hc, dx, [], upd_same, .nil⟩
  have s23 := s2.trans s3
  have d3 := hrel A1 (ι1 ++ [x]) (.ref x :: vs) zs (.r μ1.length :: xs) ys ts (.cons ⟨x, by rw [← r1.len]; simp, rfl⟩ (d1.stp s23)) (congrArg (· + 1) l1) (d2.stp s23) l2 et
  refine ⟨A1, _, _, _, r3.bare, d3, ?_⟩
  have h2 := Post.step s23 h
  have ec : (.r μ1.length :: xs ++ ts : List DL.X) = .r μ1.length :: (xs ++ ts) := rfl
  rw [ec]
  cases q : P.C1 j (.r μ1.length :: (xs ++ ts)) (μ1 ++ [some (.ins c [])]) with
  | no => rw [q] at h2; exact h2
  | er e μ' =>
    rw [q] at h2
    exact fun c d A B K s t z => h2 c d A B K s (r3.unbare s t) z
  | ok y μ' =>
    rw [q] at h2
    intro v A B K s t d
    simp only [R.bind] at h2
    cases y with
    | r k => exact h2.elim
    | d y =>
      cases y <;> first | (exact h2.elim; done) | skip
      have d : Den g A v .non := d
      cases d
      refine ⟨rfl, h2 (.ref x) A B K s ((r1.unbare (s23.trans s) t)) ?_⟩
      obtain ⟨m, em⟩ := s.p
      refine ⟨x, ?_, rfl⟩
      rw [em, ← r1.len]
      simp
end
end
end DL

/-! DLp: own exceptions whose __init__ says super().__init__(text) and stores its parameters; raise. -/
namespace DL
open PySem PySem.Spec PyProof.Rows L2
/-! ### names -/
def glB (sc : Scope) (x : Str) : Bool := decide (sc.names.lookup x = some .globalImplicit)
def visB (sc : Scope) (x : Str) : Bool := decide (sc.names.lookup x = some .local) || (decide (sc.names.lookup x = some .cell) || decide (sc.names.lookup x = some .free))
theorem glB_gl {X : Cx} {sc : Scope} {x : Str} (e : X.env.scope = sc) (h : glB sc x = true) : Gl X x := by
  unfold Gl Env.kindOf
  rw [e]
  exact of_decide_eq_true h
theorem visB_vis {X : Cx} {sc : Scope} {x : Str} (e : X.env.scope = sc) (h : visB sc x = true) : Vis X.env.scope x := by
  rw [e]
  unfold visB at h
  simp only [Bool.or_eq_true, decide_eq_true_eq] at h
  exact h
theorem look_nodup {α : Type} {y : Str} {u : α} : ∀ {l : List (Str × α)}, (l.map (·.1)).Nodup → (y, u) ∈ l → l.lookup y = some u
  | [], _, h => by cases h
  | (z, v) :: l, nd, h => by
    rw [List.map_cons, List.nodup_cons] at nd
    rw [List.lookup_cons]
    rcases List.mem_cons.mp h with e | h
    · cases e
      simp
    · have ne : (y == z) = false := by
        simp only [beq_eq_false_iff_ne, ne_eq]
        intro e
        exact nd.1 (by rw [← e]; exact List.mem_map.mpr ⟨_, h, rfl⟩)
      rw [ne]
      exact look_nodup nd.2 h
theorem zip_rev_look {ps : List Str} {us : List Value} {i : Nat} {y : Str} {u : Value} (nd : ps.Nodup) (hl : us.length = ps.length) (h1 : ps[i]? = some y) (h2 : us[i]? = some u) : (ps.zip us).reverse.lookup y = some u := by
  refine look_nodup ?_ ?_
  · have e : (ps.zip us).map (·.1) = ps := by rw [List.map_fst_zip (by omega)]
    rw [List.map_reverse, e]
    exact List.pairwise_reverse.mpr (nd.imp fun h => Ne.symm h)
  · rw [List.mem_reverse]
    refine List.mem_of_getElem? (i := i) ?_
    rw [List.getElem?_zip_eq_some]
    exact ⟨h1, h2⟩
/-- the scope of such an __init__ -/
structure XSc (ps : List Str) (sc : Scope) : Prop where
  kind : sc.kind = .function
  co : sc.isCoroutine = false
  gen : sc.isGenerator = false
  nd : ps.Nodup
  loc : ∀ x ∈ ps, sc.names.lookup x = some .local
  sup : sc.names.lookup ("super" : Str) = some .globalImplicit
  cls : sc.names.lookup ("__class__" : Str) = some .free
  fr : ∀ y ∈ sc.names, y.2 = .free → y.1 = ("__class__" : Str)
  nc : ∀ y ∈ sc.names, y.2 ≠ .cell
  ok : ∀ x ∈ ps, (x == ("__debug__" : Str)) = false ∧ (x == ("__classdict__" : Str)) = false
def xscB (ps : List Str) (sc : Scope) : Bool := decide (sc.kind = .function) && (!sc.isCoroutine && (!sc.isGenerator && (decide ps.Nodup && ((ps.all fun x => decide (sc.names.lookup x = some .local)) && (decide (sc.names.lookup ("super" : Str) = some .globalImplicit) && (decide (sc.names.lookup ("__class__" : Str) = some .free) &&
  ((sc.names.all fun y => (!decide (y.2 = .free) || decide (y.1 = ("__class__" : Str))) && !decide (y.2 = .cell)) && ps.all fun x => !(x == ("__debug__" : Str)) && !(x == ("__classdict__" : Str)))))))))
theorem xscB_ok {ps : List Str} {sc : Scope} (h : xscB ps sc = true) : XSc ps sc := by
  unfold xscB at h
  simp only [Bool.and_eq_true, Bool.or_eq_true, Bool.not_eq_true', decide_eq_true_eq, decide_eq_false_iff_not, List.all_eq_true] at h
  obtain ⟨h1, h2, h3, h4, h5, h6, h7, h8, h9⟩ := h
  refine ⟨h1, h2, h3, h4, h5, h6, h7, fun y hy e => ?_, fun y hy => (h8 y hy).2, h9⟩
  rcases (h8 y hy).1 with z | z
  · exact absurd e z
  · exact z
/-! ### the stores -/
def stB (s : Str) : List Str → List Stmt → Bool
  | [], ss => ss.isEmpty
  | f :: fs, ss => (match ss with
    | .Assign [.Attribute (.Name o _) n _] (.Name x _) _ :: r => decide (o = s) && (decide (n = f) && (decide (x = f) && stB s fs r))
    | _ => false)
/-- the state behind m stores -/
def StX (D : Addr) (fs : List Str) (ws : List V) (a : Addr) (m : Nat) (Hs H : Hp) : Prop :=
  (m = 0 ∧ H = Hs ∧ H a = some (exo a D none)) ∨ (0 < m ∧ ∃ dx, Hs dx = none ∧ dx ≠ a ∧ H a = some (exo a D (some dx)) ∧ H dx = some (exd dx ((fs.zip ws).take m).reverse) ∧ ∀ b, b ≠ a → b ≠ dx → H b = Hs b)
theorem st_run {X : Cx} {D : Addr} {s : Str} {fs0 : List Str} (T : OexC X.K D) (hN : X.N = s :: fs0) (S : XSc (s :: fs0) X.env.scope) (no : ∀ f ∈ fs0, PySem.W.findIn X.K (.ref D) f = some none) (h9 : fs0.length ≤ 800) :
    ∀ (fs : List Str) (m : Nat) (ss : List Stmt), fs = fs0.drop m → m ≤ fs0.length → stB s fs ss = true → ∃ t, PSs X ss t ∧ ∀ (En : Ends) (σ : L2.St) (Hs H : Hp) (a : Addr) (ws : List V), σ = some (.ref a) :: ws.map some → ws.length = fs0.length → StX D fs0 ws a m Hs H →
      (∀ H2, StX D fs0 ws a fs0.length Hs H2 → En.nx σ H2) → t En σ H
  | [], m, ss, e, hm, h => by
    simp only [stB, List.isEmpty_iff] at h
    subst h
    have em : m = fs0.length := by
      have := congrArg List.length e
      rw [List.length_drop] at this
      simp at this
      omega
    subst em
    exact ⟨_, pss_nil, fun En σ Hs H a ws _ _ st k => k H st⟩
  | f :: fs, m, ss, e, hm, h => by
    simp only [stB] at h
    split at h
    · rename_i o p1 n p2 x p3 p4 r
      simp only [Bool.and_eq_true, decide_eq_true_eq] at h
      obtain ⟨ho, hn, hx, h⟩ := h
      have hlt : m < fs0.length := by
        have := congrArg List.length e
        rw [List.length_drop] at this
        simp at this
        omega
      have e2 : fs = fs0.drop (m + 1) := by
        have := congrArg List.tail e
        rw [List.tail_cons, List.tail_drop] at this
        exact this
      have ef : fs0[m]? = some n := by
        have := congrArg (·[0]?) e
        simp only [List.getElem?_cons_zero, List.getElem?_drop, Nat.add_zero] at this
        rw [hn]
        exact this.symm
      obtain ⟨t, ht, hk⟩ := st_run T hN S no h9 fs (m + 1) r e2 hlt h
      have mo : s ∈ s :: fs0 := List.mem_cons_self
      have mn : n ∈ s :: fs0 := List.mem_cons_of_mem _ (List.mem_of_getElem? ef)
      have p0 : PE X (.Name o p1) (tVar 0) := by
        rw [ho]
        exact pe_var (by rw [hN]; rfl) (.inl (S.loc s mo)) (S.ok s mo).1 (S.ok s mo).2
      have p1' : PE X (.Name x p3) (tVar (m + 1)) := by
        rw [hx, ← hn]
        exact pe_var (by rw [hN]; exact ef) (.inl (S.loc n mn)) (S.ok n mn).1 (S.ok n mn).2
      refine ⟨_, pss_cons (ps_ost p0 p1') ht, fun En σ Hs H a ws es hl st k => ?_⟩
      obtain ⟨w, ew⟩ : ∃ w, ws[m]? = some w := ⟨_, List.getElem?_eq_getElem (by omega)⟩
      have z : (fs0.zip ws)[m]? = some (n, w) := List.getElem?_zip_eq_some.mpr ⟨ef, ew⟩
      have tk : ((fs0.zip ws).take (m + 1)).reverse = (n, w) :: ((fs0.zip ws).take m).reverse := by
        rw [List.take_add_one, z]
        simp
      refine ⟨w, by rw [es]; simp [ew], .ref a, by rw [es]; rfl, a, D, rfl, T, no n (List.mem_of_getElem? ef), ?_⟩
      rcases st with ⟨rfl, rfl, ha⟩ | ⟨h0, dx, d1, d2, d3, d4, d5⟩
      · refine .inl ⟨ha, fun dx hd ne => hk _ _ H _ a ws es hl (.inr ⟨Nat.succ_pos _, dx, hd, ne, upd_same, ?_, fun b h1 h2 => ?_⟩) k⟩
        · rw [upd_ne ne, upd_same, tk]
          rfl
        · rw [upd_ne h1, upd_ne h2]
      · refine .inr ⟨dx, _, d3, d4, ?_, hk _ _ Hs _ a ws es hl (.inr ⟨Nat.succ_pos _, dx, d1, d2, ?_, ?_, fun b h1 h2 => ?_⟩) k⟩
        · rw [List.length_reverse, List.length_take, List.length_zip]
          omega
        · rw [upd_ne (Ne.symm d2)]
          exact d3
        · rw [upd_same, tk]
        · rw [upd_ne h2]
          exact d5 b h1 h2
    · cases h
/-! ### ValueError.__init__ by way of super -/
section
open PySem.W
variable {prog : Program} {w : World} {A : Around} {E : Value → Shared → Prop} {h : Heap} {g : Array GenState} {d : Drawn} {t : Nat} {os : OsState}
theorem call_wrapped {nm q : Str} {C N : Addr} {bs bm : List Value} {hdct : Bool} {sn : List Str} {sub : List Value} {ab : Bool} {col : Option Bool} {dd : Option Addr} {k0 k1 k2 k3 k5 : Option Value} {u e t0 : Addr} {us : List Value} {Q : Value → Shared → Prop}
    (cC : h.get? C = some (excClassObj nm q C N bs bm hdct sn sub ab col dd k0 k1 k2 k3 k5 "ValueError.__new__")) (eE : h.get? e = some (HandSPX.excO C t0)) (uU : h.get? u = some (kxs_mw "ValueError.__init__" e)) (sz : us.length ≤ sizeLine)
    (fin : ∀ h1 t1, (∀ b o, b ≠ e → h.get? b = some o → h1.get? b = some o) → h1.get? e = some (HandSPX.excO C t1) → Q .none ⟨h1, g, d, t, os⟩) : wpAny (model prog w) A (call (.ref u) us) Q E ⟨h, g, d, t, os⟩ := by
  apply wpAny_call
  apply codeAny_of_tree
  show wpAny _ A.in1 (callAny (.ref u) ⟨us, []⟩) _ _ _
  simp only [callAny]
  apply wpAny_bind
  apply wpAny_load uU
  have e1 : (Value.type "method-wrapper" == Value.type "method" || Value.type "method-wrapper" == Value.type "builtin_function_or_method" || Value.type "method-wrapper" == Value.type "method-wrapper") = true := by decide
  simp only [kxs_mw, e1, if_true]
  refine KFB.if_so (by decide) (wpAny_bind (check_bound_init F.excBase_ValueError.toExcCallFacts cC eE rfl (wpAny_bind (wpAny_pure (wpAny_pure ?_)))))
  refine ⟨plainId_quiet F.excBase_ValueError.init.plain _, codeAny_builtin F.excBase_ValueError.initEntry (exc_init_tree (cls := .ref C) (t0 := t0) (dv := none) (c2 := .none) (c3 := .none) (b4 := .bool false) eE sz fun h1 k1 k2 _ => fin h1 _ k1 k2)⟩
end
theorem super_tree {o : Expr} {m : Str} {apos pos : Pos} {z : Str} {j : Nat} {zp : Pos} {env : PySem.Env} (hl : (apos.endLine == pos.line) = true) : ∃ pl : Sem Bool, eval (.Call (.Attribute o m apos) [.Constant (.str z) j zp] [] pos) env = (do
      let ov ← attributeBase o m env (eval o env)
      standAt apos.atName
      let (f, first) ← holding [ov] (getMethod ov m pl)
      callWith pos f first (backTo pos (starEach [.Constant (.str z) j zp] env)) []) := by
  refine ⟨(do return (← importBound o env).getD true), ?_⟩
  have hf : methodCallForm (([Expr.Constant (.str z) j zp] : List Expr).length + ([] : List Keyword).length) (backTo pos (starEach [.Constant (.str z) j zp] env)) (backToKw pos (keywordEach [] env)) = true := rfl
  rw [arm_eval_Call]
  unfold methodCall calleeOf methodCallPos
  rw [hf]
  simp only [Bool.not_true, Bool.false_or, hl, if_true, pure_bind]
  rfl
/-! ### the def -/
/-- what is asked of the class at D for the walk -/
structure XCls (K : PySem.W.Frag) (D : Addr) (fs : List Str) : Prop where
  T : OexC K D
  no : ∀ f ∈ fs, PySem.W.findIn K (.ref D) f = some none
  sub : PySem.W.mroIn K D (.ref D) = some true
  opq : PySem.W.nsIn K PySem.cStatics "thirdparty.any" = some none
  sup : PySem.W.ks_superIn K D D "__init__" = some (some (.builtin "ValueError.__init__"))
  ve : PySem.W.subIn K (.ref D) (.type "ValueError") = some true
def spX (D : Addr) (fs : List Str) : Sp := fun vs H Q _ => ∃ (a : Addr) (ws : List V), vs = .ref a :: ws ∧ ws.length = fs.length ∧ H a = some (exo a D none) ∧ ∀ H2, StX D fs ws a fs.length H H2 → Q .non H2
def inB (s : Str) (fs : List Str) : List Stmt → Bool
  | .Expr (.Call (.Attribute (.Call (.Name u _) [] [] _) n ap) [.Constant (.str _) _ _] [] pos) _ :: ss => decide (u = ("super" : Str)) && (decide (n = ("__init__" : Str)) && ((ap.endLine == pos.line) && stB s fs ss))
  | _ => false
section
variable {P : Program} {w : World} {K : PySem.W.Frag} {mg : Str → Option Value} {base : Heap} {CX : CXT} {k : Nat} {f D cda cc : Addr} {name qual : Str} {params : Arguments} {body : List Stmt} {scope : Scope} {dV kV doc pm ct oc : Value} {an od : Option Addr} {osl : Array (Option Value)} {s : Str} {fs : List Str}
abbrev envI (qual : Str) (scope : Scope) (L f cda cc : Addr) : PySem.Env := PySem.W.ksEnv qual scope L f (.ref cda) cc
/-- the context of its body -/
def cxI (CX : CXT) (P : Program) (w : World) (K : PySem.W.Frag) (mg : Str → Option Value) (base : Heap) (N : List Str) (qual : Str) (scope : Scope) (f cda cc : Addr) (A : Around) (outer : List PySem.Env) (s : Shared) (H : Hp) (E : XK) : Cx :=
  { cxOf CX P w K mg base N qual scope f (.ref cda) A outer s H E with
    A := A.deeper (envI qual scope s.heap.objs.size f cda cc)
    env := envI qual scope s.heap.objs.size f cda cc
    stack := envI qual scope s.heap.objs.size f cda cc :: outer
    fn := fun _ => false
    xe := fun e s' => wpAny (model P w) (A.deeper (envI qual scope s.heap.objs.size f cda cc)) (leaving (envI qual scope s.heap.objs.size f cda cc) e) (fun _ s'' => CX outer H s E e s'') (fun e' s'' => CX outer H s E e' s'') s' }
theorem fn_exc {ccl cl : Value} {cdd cld : Option Addr} {vs : Array Value} {ccs csl : Array (Option Value)} {file : Str} {tf : Tok} {ar : Arg} (C : XCls K D fs) (S : XSc (s :: fs) scope) (h9 : fs.length ≤ 800) (hb : inB s fs body = true)
    (lk : K.lookup f = some ⟨oc, od, .func (PySem.W.ksFn name qual params body scope dV kV doc pm an (.ref cda) ct cc), osl⟩) (hcd : PySem.W.codeIn K (.ref cda) qual = true) (hp : (params.posonlyargs ++ params.args).head? = some ar) (har : ar.arg = s)
    (hcode : K.lookup cda = some ⟨ccl, cdd, .fields vs, ccs⟩) (hvs : vs[2]? = some (.str file tf)) (hfile : ((P.main.file : Str) == file) = true) (hcell : K.lookup cc = some ⟨cl, cld, .cell (some (.ref D)), csl⟩)
    (hsup : mg "super" = none) (htop : (P.main.scope.names.lookup ("super" : Str)).isSome = false) (hboot : bootBuiltins "super" = some (.type "super")) :
    FnOk P w K mg base CX (k + 1) f (PySem.W.ksFn name qual params body scope dV kV doc pm an (.ref cda) ct cc) (s :: fs) (spX D fs) := by
  refine ⟨fun vs H Q E ⟨a, ws, e1, e2, _⟩ => by rw [e1, List.length_cons, List.length_cons, e2], fun A outer sh H args us vs Q E hr e0 hbd r hsp => ?_⟩
  obtain ⟨a, ws, rfl, hws, ha, hq⟩ := hsp
  have KX : K.In sh.heap := e0.mod.kin.keeps fun b o e => (e0.bs b o e).1
  have lim : sh.heap.NoLimit := e0.mod.nolimit.keeps fun b o e => (e0.bs b o e).1
  have hul : us.length = (s :: fs).length := by rw [← r.length, List.length_cons, List.length_cons, hws]
  refine ks_codeAny_call_defAt (fd := PySem.W.ksFn name qual params body scope dV kV doc pm an (.ref cda) ct cc) (body := body) (binds := (s :: fs).zip us) hr.depth (KX _ _ lk) rfl lim (PySem.W.codeRec_of KX hcd) rfl hbd S.nc (fun y hy => S.loc y.1 (List.of_mem_zip hy).1) (fun h0 hns kp => ?_) S.co S.gen S.kind
  have hcellL : ∀ x c, (envI qual scope sh.heap.objs.size f cda cc).cells.lookup x = some c → x = ("__class__" : Str) ∧ c = cc := fun x c e => by
    have e : ([(("__class__" : Str), cc)] : List (Str × Addr)).lookup x = some c := e
    rw [List.lookup_cons] at e
    cases q : (x == ("__class__" : Str)) with
    | true =>
      rw [q] at e
      exact ⟨eq_of_beq q, (Option.some.inj e).symm⟩
    | false =>
      rw [q] at e
      cases e
  have bcc : base.get? cc = some ⟨cl, cld, .cell (some (.ref D)), csl⟩ := e0.mod.kin _ _ hcell
  have noA : ∀ b : Addr, b ∉ (cxI CX P w K mg base (s :: fs) qual scope f cda cc A outer sh H E).ex := fun b z => absurd (show b ∈ ([] : List Addr) from z) (by simp)
  have st0 : L2.start (s :: fs) (.ref a :: ws) = some (.ref a) :: ws.map some := by
    unfold L2.start
    rw [List.length_cons, List.length_cons, hws, Nat.sub_self]
    simp
  have I0 : Inv (cxI CX P w K mg base (s :: fs) qual scope f cda cc A outer sh H E) [] (some (.ref a) :: ws.map some) H { sh with heap := h0, toks := sh.toks + ((s :: fs).zip us).length } := by
    refine ⟨⟨e0.mod, S.kind, rfl, rfl, Nat.le_refl _, fun x y c h1 h2 => ?_, fun y hy => ?_, fun y c z _ => ?_, fun _ => hr.hd, Around.frames_deeper e0.frames, .inr ⟨rfl, rfl⟩, fun b z => absurd z (noA b), e0.bs, e0.bsz, fun b _ _ => noA b, fun b z => absurd z (noA b), e0.funs, e0.frf⟩,
      rfl, e0.bare, Un.kept kp, ⟨_, hns, fun i y v h1 h2 h3 => ?_⟩, fun y c h => ?_, e0.hok.fresh (Nat.le_refl _), fun y c h => ?_, fun q hq => absurd (show q ∈ ([] : List (Addr × Obj)) ++ [] from hq) (by simp), e0.hok.kept kp, ?_⟩
    · rw [(hcellL x c h1).1, (hcellL y c h2).1]
    · have hy : scope.names.lookup y = some .cell ∨ scope.names.lookup y = some .free := hy
      rcases hy with hy | hy
      · exact absurd rfl (S.nc _ (PySem.mem_of_lookup hy))
      · have e := S.fr _ (PySem.mem_of_lookup hy) rfl
        dsimp only at e
        subst e
        exact ⟨cc, rfl⟩
    · have z : false = true := z
      cases z
    · obtain ⟨u, hu, rv⟩ : ∃ u, us[i]? = some u ∧ RelV v u := by
        have e : (V.ref a :: ws)[i]? = some v := by
          have h2 : ((V.ref a :: ws).map some)[i]? = some (some v) := h2
          rw [List.getElem?_map] at h2
          cases q : (V.ref a :: ws)[i]? with
          | none => rw [q] at h2; cases h2
          | some b => rw [q] at h2; cases h2; rfl
        exact r.get e
      have h1 : (s :: fs)[i]? = some y := h1
      exact ⟨u, rv, .inl ⟨S.loc y (List.mem_of_getElem? h1), zip_rev_look S.nd hul h1 hu⟩⟩
    · rw [(hcellL y c h).2]
      exact ⟨_, _, kp _ _ (KX _ _ hcell), rfl⟩
    · rw [(hcellL y c h).2]
      exact (e0.bs _ _ bcc).2
    · show _ = (s :: fs).length
      rw [List.length_cons, List.length_cons, List.length_map, hws]
  -- the text
  unfold inB at hb
  split at hb
  · rename_i u q3 q4 n q5 m2 j2 q6 q7 q8 ss
    simp only [Bool.and_eq_true, decide_eq_true_eq] at hb
    obtain ⟨rfl, rfl, hline, hss⟩ := hb
    have hi0 : interactive (envI qual scope sh.heap.objs.size f cda cc) = false := by
      show (scope.kind == .module && _) = false
      rw [S.kind]
      rfl
    obtain ⟨pl, he⟩ := super_tree (o := .Call (.Name (Str.ofString "super") q3) [] [] q4) (m := Str.ofString "__init__") (z := m2) (j := j2) (zp := q6) (env := envI qual scope sh.heap.objs.size f cda cc) hline
    generalize ({ sh with heap := h0, toks := sh.toks + ((s :: fs).zip us).length } : Shared) = s1 at I0 ⊢
    have I1 := I0
    refine ks_wpAt_execs_cons (ks_wpAt_Expr_any (ks_wpAt_MethodCall (pl := pl) ?_ he) hi0)
    have X1 : K.In s1.heap := I1.kIn
    obtain ⟨nm, q, N, bs, bm, sn, sub, ab, col, dd, k0, k1, k2, k3, k5, hC, hbm⟩ := C.T.cls
    obtain ⟨cdD, hD, oD, hD1, hD2⟩ : ∃ cdD, PySem.W.clsIn K D = some cdD ∧ ∃ oD, s1.heap.get? D = some oD ∧ oD.data = .cls cdD := ⟨_, by unfold PySem.W.clsIn; rw [hC], _, X1 _ _ hC, rfl⟩
    refine ks_wpAt_super_base (env := envI qual scope sh.heap.objs.size f cda cc) S.sup S.cls (by decide) rfl (X1 _ _ lk) rfl hp rfl (X1 _ _ hcode) rfl hvs hfile htop ?_
    obtain ⟨mb, hB, hbb⟩ := I1.mod.blt
    have kb := I1.bk
    refine PySem.W.ks_loadName_global S.kind S.sup (PySem.Calls.loadGlobal_builtin (env := envI qual scope sh.heap.objs.size f cda cc) (I1.mod.glob.keeps kb) hsup (hB.keeps kb) ((hbb _ (by decide)).trans hboot) ⟨rfl, ?_⟩)
    refine wpAny_loadName_free S.kind S.cls rfl ⟨_, X1 _ _ hcell, rfl⟩ ?_
    obtain ⟨m, hm, hl⟩ := I1.loc
    obtain ⟨u, ru, lu⟩ := hl 0 s (.ref a) rfl rfl (.inl (S.loc s List.mem_cons_self))
    obtain rfl : u = Value.ref a := ru
    have mS : m s = some (.ref a) := by
      rcases lu with ⟨_, e⟩ | ⟨_, c, e, _⟩
      · exact e
      · have e3 := (hcellL s c e).1
        have z := S.loc s List.mem_cons_self
        rw [e3] at z
        have z2 : scope.names.lookup ("__class__" : Str) = some .local := z
        rw [S.cls] at z2
        cases z2
    refine wpAny_loadName_local S.kind (by rw [har]; exact S.loc s List.mem_cons_self) hm (by rw [har]; exact mS) ?_
    refine ks_wpAny_isType_cls hD1 hD2 ⟨rfl, ?_⟩
    obtain ⟨t1, hx⟩ := exo_at I1.hok ha
    obtain ⟨hp1, g1, d1, tk1, os1⟩ := s1
    refine ks_wpAny_call_super hD1 hD2 hx rfl (fun c e => by cases e) (PySem.W.looks_mroIn X1 C.sub) (fun h2 e2 k2' => ?_)
    have I2 : Inv (cxI CX P w K mg base (s :: fs) qual scope f cda cc A outer sh H E) [] (some (.ref a) :: ws.map some) H ⟨h2, g1, d1, tk1, os1⟩ := I1.kept (t' := tk1) k2'
    have X2 : K.In h2 := I2.kIn
    obtain ⟨t2, hx2⟩ := exo_at I2.hok ha
    have LT : ∀ {M : Model}, PySem.W.Looks M h2 (typeOf (.ref a)) (.ref D) := fun {M} A Q E s k q => wpAny_typeOf_ref (k _ _ hx2) q
    refine PySem.W.kxs_getMethod (l := (cdD.mro.dropWhile (· != .ref D)).drop 1) PySem.W.kxs_ValueError e2 (PySem.W.looks_opaque X2 C.opq) (l₀ := cdD.mro) (fun A Q E s k q => wpAny_bind ((PySem.W.looks_clsIn X2 hD) A _ E s k (wpAny_pure q))) rfl X2 ?_ (LT.andThen (PySem.W.looks_subIn X2 C.ve)) (PySem.W.ks_ne (ox := { cls := .ref D, dict := none, data := .fields #[.ref t2, .none, .none, .none, .bool false, .none] }) (odx := none) X2 ⟨hx2, rfl, rfl, trivial⟩ hD) (by decide) ?_
    · have z := C.sup
      unfold PySem.W.ks_superIn at z
      rw [hD] at z
      exact z
    have I3 : Inv (cxI CX P w K mg base (s :: fs) qual scope f cda cc A outer sh H E) [] (some (.ref a) :: ws.map some) H ⟨h2.push (PySem.W.kxs_mw "ValueError.__init__" a), g1, d1, tk1 + 1, os1⟩ := I2.kept (t' := tk1 + 1) fun b o e => Heap.get?_push_of_some _ e
    have wU : (h2.push (PySem.W.kxs_mw "ValueError.__init__" a)).get? h2.objs.size = some (PySem.W.kxs_mw "ValueError.__init__" a) := Heap.get?_push_size _ rfl
    obtain ⟨t3, hx3⟩ := exo_at I3.hok ha
    refine PySem.W.kxs_callWith (i := "ValueError.__init__") (x := a) rfl (Calls.evalArgs_plain (x := eval (.Constant (.str m2) j2 q6) (envI qual scope sh.heap.objs.size f cda cc)) (rest := backTo q7 (starEach [] (envI qual scope sh.heap.objs.size f cda cc))) ?_)
    refine Calls.spliced_cons (Calls.Constant_str (pos := q6) (Calls.spliced_nil ⟨wU, ?_⟩))
    refine call_wrapped (I3.kIn _ _ hC) hx3 wU (by rw [sizeLine_eq]; exact (show (1 : Nat) ≤ 16777216 by decide)) fun h4 t4 k4 hx4 => ?_
    have I4 : Inv (cxI CX P w K mg base (s :: fs) qual scope f cda cc A outer sh H E) [] (some (.ref a) :: ws.map some) H ⟨h4, g1, d1, tk1 + 1 + 1, os1⟩ := by
      have J := I3.write (t' := tk1 + 1 + 1) (x := a) (e := a) (o := exo a D none) (by rw [ha]; exact True.intro) (.inl rfl) k4 ⟨_, hx4⟩ (exo_ok hx4)
      have eu : upd H a (exo a D none) = H := by
        funext b
        by_cases hb : b = a
        · rw [hb, upd_same, ha]
        · rw [upd_ne hb]
      rw [eu] at J
      exact J
    obtain ⟨t, ht, hk⟩ := st_run (X := cxI CX P w K mg base (s :: fs) qual scope f cda cc A outer sh H E) C.T rfl S C.no h9 fs 0 ss rfl (Nat.zero_le _) hss
    refine wpAt_of_wpAny (wpAny_mono (ht.run [] _ _ H { nx := fun _ H' => Q .non H', rt := fun _ _ => False } I4 (hk _ _ H H a ws rfl hws (.inl ⟨rfl, rfl, ha⟩) fun H2 st => hq H2 st)) (fun fl s' hs => ?_) fun _ _ x => x)
    cases fl with
    | next =>
      obtain ⟨σ', H', J, q⟩ := hs
      exact ⟨.non, H', J.os, J.bare, J.base, J.hok, rfl, q⟩
    | ret u =>
      obtain ⟨v, σ', H', J, rv, q⟩ := hs
      exact False.elim q
    | brk =>
      obtain ⟨_, _, _, q⟩ := hs
      exact False.elim q
    | cont =>
      obtain ⟨_, _, _, q⟩ := hs
      exact False.elim q
  · cases hb
/-- .. binds its parameters -/
theorem binds_ks {as : List Arg} {dfl : List Expr} (nd : (as.map (·.arg)).Nodup) : Binds K (PySem.W.ksFn name qual ⟨[], as, none, [], [], none, dfl⟩ body scope .none kV doc pm an (.ref cda) ct cc) (as.map (·.arg)) [] := Binds.all fun us hl => by
  have e0 : seqItems? Value.none = pure none := rfl
  unfold bindArgs
  unfold PySem.W.ksFn PySem.W.fnX
  dsimp only
  rw [e0]
  have key : ∀ {ns : List Str} {us : List Value} {l0 : List (Str × Value)}, ns.Nodup → us.length = ns.length → (∀ n ∈ ns, l0.lookup n = none) → ns.filterMap (fun n => ((l0 ++ ns.zip us).lookup n).map (n, ·)) = ns.zip us := by
    intro ns
    induction ns with
    | nil => intros; simp
    | cons n ns ih =>
      intro us l0 nd h h0
      cases us with
      | nil => cases h
      | cons u us =>
        obtain ⟨h1, h2⟩ := List.nodup_cons.mp nd
        have e : ((l0 ++ (n :: ns).zip (u :: us)).lookup n) = some u := by
          rw [List.lookup_append, h0 n List.mem_cons_self]
          simp
        rw [List.filterMap_cons, e]
        have ih := ih (us := us) (l0 := l0 ++ [(n, u)]) h2 (by simpa using h) fun m hm => by
          rw [List.lookup_append, h0 m (List.mem_cons_of_mem _ hm)]
          have : (m == n) = false := by simpa using fun e : m = n => h1 (by rw [← e]; exact hm)
          simp [List.lookup_cons, this]
        rw [List.append_assoc] at ih
        have e2 : [(n, u)] ++ ns.zip us = (n :: ns).zip (u :: us) := rfl
        rw [e2] at ih
        show (n, u) :: _ = _
        rw [ih]
        rfl
  have all : ((as.map (·.arg)).filter fun n => (((as.map (·.arg)).zip us).lookup n).isNone) = [] := by
    rw [List.filter_eq_nil_iff]
    intro n hn
    have : ∀ {ns : List Str} {us : List Value}, us.length = ns.length → n ∈ ns → ((ns.zip us).lookup n).isNone = false := fun {ns} => by
      induction ns with
      | nil => intro us _ h; cases h
      | cons m ns ih =>
        intro us hl h
        cases us with
        | nil => cases hl
        | cons u us =>
          rw [List.zip_cons_cons, List.lookup_cons]
          cases q : n == m with
          | true => rfl
          | false =>
            rcases List.mem_cons.mp h with h | h
            · rw [h] at q; simp at q
            · exact ih (by simpa using hl) h
    rw [this hl hn]
    simp
  simp only [List.map_nil, List.nil_append, List.append_nil, List.forIn_nil, pure_bind, Option.getD_none, Array.toList_empty, List.length_nil, Nat.zero_sub, List.drop_nil, Nat.sub_zero, List.zip_nil_right, Option.isNone_none, Bool.and_true]
  rw [if_neg (by simp [hl])]
  simp only [pure_bind, List.take_length, all]
  have e := key (l0 := []) nd hl (fun _ _ => rfl)
  rw [List.nil_append] at e
  simp [e]
end
/-! ### raise -/
/-- an own exception: its class, its __init__ -/
structure XOk (g : G) (D : Addr) (fs : List Str) : Prop where
  C : XCls g.K D fs
  h9 : fs.length ≤ 800
  h1 : 0 < fs.length
  init : ∃ (fI : Addr) (fd : FuncData) (ps : List Str), PySem.W.findIn g.K (.ref D) "__init__" = some (some (.ref fI)) ∧ PySem.W.typeIn g.K (.ref fI) = some (.type "function") ∧ Binds g.K fd ps [] ∧ FnOk g.P g.w g.K g.mg g.base (L2N.CX g.P g.w) 1 fI fd ps (spX D fs)
def tMkX (D : Addr) (fs : List Str) (ta : TA) : L2.St → Hp → XK → Prop := fun σ H Q => ta σ H fun vs H1 => vs.length = fs.length ∧ ∀ d, H1 d = none → Q (.ref D) (some d) (upd H1 d (.xd (fs.zip vs).reverse))
theorem pmk_x {g : G} {X : Cx} {x : Str} {D : Addr} {fs : List Str} {e : Expr} {es : List Expr} {ta : TA} {p pos : Pos} (eP : X.prog = g.P) (ew : X.w = g.w) (eK : X.K = g.K) (em : X.mg = g.mg) (eb : X.base = g.base) (O : XOk g D fs) (hr : Room 2 X.A) (hg : Gl X x) (hm : X.mg x = some (.ref D)) (ha : PA X (e :: es) ta)
    (hdb : (x == ("__debug__" : Str)) = false) (hx : Passes (L2N.CX X.prog X.w) X (fun _ _ _ => False)) (he : starEach (e :: es) X.env = (false, eval e X.env) :: starEach es X.env) (hpl : (backTo pos (starEach es X.env)).any (·.1) = false) :
    L2N.PMk X (.Call (.Name x p) (e :: es) [] pos) (tMkX D fs ta) := by
  obtain ⟨fI, fd, ps, iC, tI, hb, F1⟩ := O.init
  have T := O.C.T
  rw [← eK] at iC tI hb T
  rw [← eP, ← ew, ← eK, ← em, ← eb] at F1
  intro pins s σ H Q I h
  obtain ⟨nm, q, N, bs, bm, sn, sub, ab, col, dd, k0, k1, k2, k3, k5, hC, hbm⟩ := T.cls
  refine wpAny_Call_Name_kw (ld_glob I hg hm ?_ hdb)
  refine PySem.W.callWith_K (h₀ := X.base) I.ok.mod.kin T.kC (thn (ha.run pos pins s σ H _ I h) fun us s1 ⟨vs, H1, I1, r1, hz, q1⟩ => ⟨I1.kIn, ?_⟩) he hpl
  show wpAny _ _ (call (.ref D) us) _ _ _
  obtain ⟨hp, g1, dr, tk, os⟩ := s1
  have sz : hp.objs.size ≤ hp.objs.size + 1 := Nat.le_succ _
  have nA : H1 (hp.objs.size + 1) = none := I1.hok.fresh sz
  have up : ∀ b o, hp.get? b = some o → ((hp.push (PySem.W.kdv_tup us)).push (PySem.HandSPX.excO D hp.objs.size)).get? b = some o := fun b o e => Heap.get?_push_of_some _ (Heap.get?_push_of_some _ e)
  have gA : ((hp.push (PySem.W.kdv_tup us)).push (PySem.HandSPX.excO D hp.objs.size)).get? (hp.objs.size + 1) = some (PySem.HandSPX.excO D hp.objs.size) := by heap_get
  have I2 : Inv X pins σ (upd H1 (hp.objs.size + 1) (exo (hp.objs.size + 1) D none)) ⟨(hp.push (PySem.W.kdv_tup us)).push (PySem.HandSPX.excO D hp.objs.size), g1, dr, tk, os⟩ :=
    I1.laid (t' := tk) (a := hp.objs.size + 1) (o := exo (hp.objs.size + 1) D none) (h' := (hp.push (PySem.W.kdv_tup us)).push (PySem.HandSPX.excO D hp.objs.size)) up sz (exo_ok gA)
  have r2 : Vals (V.ref (hp.objs.size + 1) :: vs) (Value.ref (hp.objs.size + 1) :: us) := .cons rfl r1
  have sp : spX D fs (V.ref (hp.objs.size + 1) :: vs) (upd H1 (hp.objs.size + 1) (exo (hp.objs.size + 1) D none)) (fun v H2 => v = .non ∧ StX D fs vs (hp.objs.size + 1) fs.length (upd H1 (hp.objs.size + 1) (exo (hp.objs.size + 1) D none)) H2) (fun _ _ _ => False) :=
    ⟨_, vs, rfl, hz, upd_same, fun H2 st => ⟨rfl, st⟩⟩
  have hl : (Value.ref (hp.objs.size + 1) :: us ++ []).length = ps.length := by
    have e := r2.length
    rw [F1.len _ _ _ _ sp] at e
    rw [List.append_nil]
    exact e.symm
  have lus : us.length ≤ sizeLine := by
    have := O.h9
    rw [← Paired.length r1, sizeLine_eq]
    omega
  have b2 := hb _ (Value.ref (hp.objs.size + 1) :: us) I2.kIn hl
  rw [List.append_nil] at b2
  refine wpAny_call (PySem.HandSPX.call_own PySem.F.excBase_ValueError (fun Y => PySem.HandSPX.refsVE_contains Y bm hbm) (I1.kIn _ _ hC) (PySem.W.looks_findIn I1.kIn iC) (fun self => PySem.W.bind_fn I1.kIn self tI) lus
    (codeAny_mono (F1.run _ X.stack _ _ ⟨Value.ref (hp.objs.size + 1) :: us, []⟩ (Value.ref (hp.objs.size + 1) :: us) _ _ (fun _ _ _ => False) (hr.make D us []) (I2.env0.make D us []) b2 r2 sp) fun r s' hq' => ?_))
  cases r with
  | error er => exact hx pins σ _ _ er s' I2 hq'
  | ok fl =>
    cases fl with
    | ret u =>
      obtain ⟨v, H2, os2, bare2, un2, hok2, rv, ev, st⟩ := hq'
      subst ev
      obtain ⟨h2, g2, d2, t2, os'⟩ := s'
      have fin : ∀ (dx : Addr) (l : List (Str × V)), H1 dx = none → dx ≠ hp.objs.size + 1 → H2 (hp.objs.size + 1) = some (exo (hp.objs.size + 1) D (some dx)) → H2 dx = some (exd dx l) → l = (fs.zip vs).reverse →
          (∀ b, b ≠ hp.objs.size + 1 → b ≠ dx → H2 b = H1 b) → RelV V.non u ∧ L2N.MkP X pins σ Q (.ref (hp.objs.size + 1)) ⟨h2, g2, d2, t2, os'⟩ := fun dx l n1 n2 e1 e2 e3 e4 => by
        obtain ⟨t0, G, J, kG, ge, hoe, na⟩ := mk_end0 (d2 := d2) (t2 := t2) I1 sz up un2 hok2 os2 bare2 e1 e2 n1
        have eH : upd (del H2 (hp.objs.size + 1)) dx (.xd l) = upd H1 dx (.xd (fs.zip vs).reverse) := by
          funext b
          by_cases c : b = dx
          · rw [c, upd_same, upd_same, e3]
          · rw [upd_ne c, upd_ne c]
            by_cases c2 : b = hp.objs.size + 1
            · rw [c2, del_same, nA]
            · rw [del_ne c2, e4 b c2 c]
        rw [eH] at J na
        exact ⟨rv, hp.objs.size + 1, _, _, ⟨G, g2, d2, t2, os'⟩, _, .ref D, some dx, rfl, J, kG, ge, hoe, ⟨rfl, rfl, fun vs hv => by cases hv; rfl⟩, rfl, rfl, na, rfl, bare2, raises_own T.exC T.tyC, q1 dx n1⟩
      rcases st with ⟨m0, eH, _⟩ | ⟨_, dx, n1, n2, e1, e2, e3⟩
      · -- no field: not met
        exact absurd m0 (by have := O.h1; omega)
      · have n1' : H1 dx = none := by
          rw [upd_ne n2] at n1
          exact n1
        refine fin dx _ n1' n2 e1 e2 (by rw [List.take_of_length_le (by rw [List.length_zip]; omega)]) fun b c1 c2 => ?_
        rw [e3 b c1 c2, upd_ne c1]
    | next => exact False.elim hq'
    | brk => exact False.elim hq'
    | cont => exact False.elim hq'
end DL

/-! DLq: a lambda handed to a def that tells what it answers or how it is refused. -/
namespace DL
open PySem PySem.Spec PyProof.Rows L2
/-! ### the lambda is made -/
/-- H1 is H, or the table at P has grown by a new code object -/
def Grown (P : Addr) (H H1 : Hp) : Prop := H1 = H ∨ ∃ (c : Addr) (q : Str) (ps more : Array Value), H P = some (.tbl ps) ∧ H c = none ∧ H1 = upd (upd H P (.tbl (ps ++ more))) c (LamX.CodeO c q)
section
variable {X : Cx} {pins : List (Addr × Obj)} {σ : L2.St} {H : Hp} {s : Shared}
abbrev lamO (X : Cx) (prm : Arguments) (bd : Expr) (scp : Scope) (pm : Value) (d : Addr) (ct : Value) : Obj := PySem.W.kla_obj "<lambda>" (X.env.qual ++ "<lambda>") prm bd scp (cloFrom X.env.cells scp.names []) pm d ct
theorem lam_new {T : List (Addr × Str)} {cc P : Addr} {prm : Arguments} {bd : Expr} {scp : Scope} {pl : Pos} {E Q : Value → Shared → Prop} (I : Inv X pins σ H s) (TB : LamX.TabB X.base X.mg cc P) (ec : X.env.code = .ref cc) (inT : (P, X.env.qual ++ "<lambda>") ∈ T)
    (un : ∀ p ∈ T, p.1 = P → p.2 = X.env.qual ++ "<lambda>") (tT : LamX.Tabs T H) (dfl : defaultsOf prm X.env = ([], [])) (cl : ∀ y ∈ scp.names, y.2 = .free → ∃ c, X.env.cells.lookup y.1 = some c)
    (k : ∀ (f d : Addr) (pm ct : Value) (H1 : Hp) (s1 : Shared), Inv X pins σ H1 s1 → Grown P H H1 → LamX.Tabs T H1 → s1.heap.get? f = some (lamO X prm bd scp pm d ct) → H1 f = none → f ∉ frs X.stack → H1 d = some (LamX.CodeO d (X.env.qual ++ "<lambda>")) → Q (.ref f) s1) :
    wpAny (model X.prog X.w) X.A (eval (.Lambda prm bd scp pl) X.env) Q E s := by
  obtain ⟨ps, tP, tri, known⟩ := tT _ inT
  have bmP : s.heap.BuiltinsAt X.mg P := TB.bm.keeps I.bk
  have tO : s.heap.get? P = some { cls := .none, data := .fields ps } := I.hok P _ tP
  have away : ∀ f, s.heap.objs.size ≤ f → f ∉ frs X.stack := fun f hf hm => by
    rcases List.mem_cons.mp (I.stkSub _ hm) with z | z
    · have l := I.lt
      rw [← z] at l
      exact absurd (Nat.lt_of_lt_of_le l hf) (Nat.lt_irrefl _)
    · exact I.nofs hf z
  refine PySem.W.kla_eval dfl ?_
  cases look : codeAmong pl ps.toList with
  | some cv =>
    obtain ⟨d, ed, hd⟩ := known pl cv look
    subst ed
    refine PySem.W.kla_makeFunctionHit (mg := X.mg) (c := cc) (P := P) (ps := ps) (closure_ok cl) I.ok.glob (I.mod.glob.keeps I.bk) ec (TB.code.keeps I.bk) tO tri look bmP fun ct h1 t1 ext ge => ?_
    have J : Inv X pins σ H { s with heap := h1.push (lamO X prm bd scp ((X.mg "__name__").getD .none) d ct), toks := t1 } := I.kept fun b o e => Heap.get?_push_of_some _ (ext b o e)
    exact k h1.objs.size d ((X.mg "__name__").getD .none) ct H _ J (.inl rfl) tT (Heap.get?_push_size _ rfl) (I.hok.fresh ge) (away _ ge) hd
  | none =>
    refine PySem.W.kla_makeFunction (mg := X.mg) (c := cc) (P := P) (ps := ps) (closure_ok cl) I.ok.glob (I.mod.glob.keeps I.bk) ec (TB.code.keeps I.bk) tO tri look TB.gP bmP fun d ct h1 t1 ext ge lt rec tab => ?_
    obtain ⟨d', oc, vs, tq, ed, hoc, hod, hov⟩ := rec
    cases ed
    have ge1 : s.heap.objs.size ≤ h1.objs.size := Nat.le_trans ge (Nat.le_of_lt lt)
    have nD : H d = none := I.hok.fresh ge
    have J := LamX.inv_table (t' := t1) (more := #[rawInt pl.line, rawInt pl.col, .ref d]) (h' := h1.push (lamO X prm bd scp ((X.mg "__name__").getD .none) d ct)) I tP (fun b o ne e => Heap.get?_push_of_some _ (ext b o ne e)) (Heap.get?_push_of_some _ tab) ge
      ⟨oc, vs, tq, Heap.get?_push_of_some _ hoc, hod, hov⟩
    have neP : P ≠ d := ne_of_none tP nD
    have nf : h1.objs.size ≠ d := Nat.ne_of_gt lt
    have nfP : h1.objs.size ≠ P := Nat.ne_of_gt (Nat.lt_of_lt_of_le (Heap.lt_size tO) ge1)
    refine k h1.objs.size d ((X.mg "__name__").getD .none) ct _ _ J (.inr ⟨d, _, ps, _, tP, nD, rfl⟩) (fun p hp => ?_) (Heap.get?_push_size _ rfl) (by rw [upd_ne nf, upd_ne nfP]; exact I.hok.fresh ge1) (away _ ge1) upd_same
    have keepC : ∀ {c : Addr} {q : Str}, H c = some (LamX.CodeO c q) → upd (upd H P (.tbl (ps ++ #[rawInt pl.line, rawInt pl.col, .ref d]))) d (LamX.CodeO d (X.env.qual ++ "<lambda>")) c = some (LamX.CodeO c q) := fun {c q} e => by
      have n1 : c ≠ P := fun z => by
        rw [z, tP] at e
        exact LamX.codeO_ne ps (Option.some.inj e).symm
      rw [upd_ne (ne_of_none e nD), upd_ne n1]
      exact e
    have split3 : (ps ++ #[rawInt pl.line, rawInt pl.col, .ref d]).toList = ps.toList ++ [rawInt pl.line, rawInt pl.col, .ref d] := by simp
    by_cases hb : p.1 = P
    · rw [un p hp hb, hb]
      refine ⟨_, by rw [upd_ne neP, upd_same], by rw [split3]; exact PySem.TriplesOk_snoc _ _ _ _ tri, fun pp cv e => ?_⟩
      rw [split3] at e
      rcases LamX.among_app _ tri e with z | z
      · obtain ⟨c0, z1, z2⟩ := known pp cv z
        exact ⟨c0, z1, keepC z2⟩
      · exact ⟨d, z, upd_same⟩
    · obtain ⟨ps2, a1, a2, a3⟩ := tT p hp
      refine ⟨ps2, by rw [upd_ne (ne_of_none a1 nD), upd_ne hb]; exact a1, a2, fun pp cv e => ?_⟩
      obtain ⟨c0, z1, z2⟩ := a3 pp cv e
      exact ⟨c0, z1, keepC z2⟩
end
theorem Rel.grown {g : G} {H0 H H1 : Hp} {σ : L2.St} {ρ : Env} {μ : Mu} {ι : List Addr} {P : Addr} {q : Str} (r : Rel g H0 H σ ρ μ ι) (gr : Grown P H H1) (inT : (P, q) ∈ g.T) (t1 : LamX.Tabs g.T H1) : Rel g H0 H1 σ ρ μ ι ∧ Stp H0 H ι H0 H1 ι := by
  rcases gr with rfl | ⟨c, q2, ps, more, tP, nC, rfl⟩
  · exact ⟨r, Stp.refl⟩
  · obtain ⟨p0, pι⟩ := r.t0 _ inT
    have at_ : ∀ {b : Addr} {o : HO}, H b = some o → b ≠ P → upd (upd H P (.tbl (ps ++ more))) c (LamX.CodeO c q2) b = some o := fun {b o} e n => by
      rw [upd_ne (ne_of_none e nC), upd_ne n]
      exact e
    have th : ∀ b, upd (upd H P (.tbl (ps ++ more))) c (LamX.CodeO c q2) b = none → H b = none := fun b e => by
      by_cases n1 : b = c
      · rw [n1]; exact nC
      · rw [upd_ne n1] at e
        by_cases n2 : b = P
        · rw [n2, upd_same] at e
          cases e
        · rw [upd_ne n2] at e
          exact e
    have n0 : ∀ {b : Addr} {o : HO}, H0 b = some o → b ≠ P := fun {b o} e z => by
      rw [z, p0] at e
      cases e
    refine ⟨⟨fun b o e => at_ (r.ex b o e) (n0 e), r.slot, r.sl, r.len, r.inj, fun a ha e => r.tr a ha (th a e), fun k nd a h1 h2 => ?_, t1, r.t0⟩, Ex.refl _, ⟨[], by simp, fun a h => by cases h⟩, fun b o e n nt => at_ e fun z => by
      rw [z, tP] at e
      exact nt ps (Option.some.inj e).symm, fun b o e e0 n nt => e0, th⟩
    obtain ⟨h3, h4⟩ := r.cell k nd a h1 h2
    exact ⟨h3, h4.mono (Ex.refl _) ⟨[], by simp⟩ fun o e => at_ e fun z => pι (by rw [← z]; exact List.mem_of_getElem? h2)⟩
/-- the abstract heap has grown by objects beside -/
theorem Rel.wider {g : G} {H0 H H1 : Hp} {σ : L2.St} {ρ : Env} {μ : Mu} {ι : List Addr} (r : Rel g H0 H σ ρ μ ι) (e : Ex H H1) : Rel g H0 H1 σ ρ μ ι ∧ Stp H0 H ι H0 H1 ι := by
  have th : ∀ b, H1 b = none → H b = none := fun b z => by
    cases q : H b with
    | none => rfl
    | some o =>
      rw [e b o q] at z
      cases z
  refine ⟨⟨r.ex.trans e, r.slot, r.sl, r.len, r.inj, fun a ha z => r.tr a ha (th a z), fun k nd a h1 h2 => ?_, r.tb.ext e, r.t0⟩, Ex.refl _, ⟨[], by simp, fun a h => by cases h⟩, fun b o h _ _ => e b o h, fun b o _ h0 _ _ => h0, th⟩
  obtain ⟨h3, h4⟩ := r.cell k nd a h1 h2
  exact ⟨h3, h4.mono (Ex.refl _) ⟨[], by simp⟩ fun o q => e a o q⟩
/-! ### the lambda is called -/
/-- the context of the lambda's body -/
abbrev lamN (X : Cx) (A : Around) (outer : List PySem.Env) (s : Shared) (H : Hp) (E : XK) (scp : Scope) (f d : Addr) : Cx :=
  (LamX.lamCx X A outer s H E scp f d).tr [] fun e s' => wpAny (model X.prog X.w) (A.deeper (LamX.lamEnv X scp s.heap.objs.size f d)) (leaving (LamX.lamEnv X scp s.heap.objs.size f d) e) (fun _ s'' => L2N.CX X.prog X.w outer H s E e s'') (fun e' s'' => L2N.CX X.prog X.w outer H s E e' s'') s'
section
variable {X : Cx} {pins : List (Addr × Obj)} {σ : L2.St} {H : Hp} {s : Shared}
theorem pe_actN {Eg : XK} {Ng : List Str} {qg : Str} {sg : Scope} {gg f d : Addr} {cdg pm ct : Value} {prm : Arguments} {bd : Expr} {scp : Scope} {k i : Nat} {a : Str} {pn : List (Addr × Obj)} {xe : Value → Shared → Prop} {W : WX} {E : XK} {tb : TE} {p1 p2 : Pos}
    (I : Inv X pins σ H s) (L : LamX.LamS X.env.scope scp) (hf : s.heap.get? f = some (lamO X prm bd scp pm d ct)) (hfn : H f = none) (hfr : f ∉ frs X.stack) (hbind : bindArgs (PySem.W.kla_fn "<lambda>" (X.env.qual ++ "<lambda>") prm bd scp (cloFrom X.env.cells scp.names []) pm (.ref d) ct) ⟨[], []⟩ = pure [])
    (tk : L2N.Takes ((cxOf (L2N.CX X.prog X.w) X.prog X.w X.K X.mg X.base Ng qg sg gg cdg X.A X.stack s H Eg).tr pn xe) W) (hW : ∀ cls d σ' H', E cls d H' → W cls d σ' H') (hr : Room (k + 1) (X.A.deeper (envOfC qg sg s.heap.objs.size gg cdg)))
    (hbody : ∀ (A : Around) (outer : List PySem.Env) (s : Shared) (H : Hp), Room k (A.deeper (LamX.lamEnv X scp s.heap.objs.size f d)) → PE (lamN X A outer s H E scp f d) bd tb) (hN : Ng[i]? = some a) (hv : Vis sg a) (hd : (a == ("__debug__" : Str)) = false) (hcd : (a == ("__classdict__" : Str)) = false) :
    PE ((cxOf (L2N.CX X.prog X.w) X.prog X.w X.K X.mg X.base Ng qg sg gg cdg X.A X.stack s H Eg).tr pn xe) (.Call (.Name a p1) [] [] p2) (fun σZ HZ Q => σZ[i]? = some (some (.ref f)) ∧ HZ d = some (LamX.CodeO d (X.env.qual ++ "<lambda>")) ∧ tb σ HZ Q) := by
  refine ⟨fun pinsZ sZ σZ HZ Q IZ hh => ?_⟩
  obtain ⟨sl, co, rd⟩ := hh
  refine wpAny_Call_Name_kw (thn ((pe_var (pos := p1) (i := i) hN hv hd hcd).run pinsZ sZ σZ HZ (fun v H1 => v = .ref f ∧ H1 = HZ) IZ ⟨.ref f, sl, rfl, rfl⟩) fun u s1 ⟨v, H1, I1, r1, ev, eH⟩ => ?_)
  subst ev
  rw [eH] at I1
  obtain rfl : u = Value.ref f := r1
  have of1 : s1.heap.get? f = some (lamO X prm bd scp pm d ct) := I1.base.keep f _ hf hfn hfr (fun z => nomatch (show f ∈ ([] : List Addr) from z))
  refine PySem.W.callWith_F0 ⟨_, _, _, _, of1⟩ ?_
  have un : Un (frs X.stack) [] H HZ s.heap s1.heap := I1.base
  obtain ⟨⟨oc, vs, tq, hoc, hod, hov⟩, _, _⟩ := I1.hok d _ co
  have run : codeAny (model X.prog X.w) (X.A.deeper (envOfC qg sg s.heap.objs.size gg cdg)) (.call (.ref f) ⟨[], []⟩) (CR (L2N.CX X.prog X.w) (envOfC qg sg s.heap.objs.size gg cdg :: X.stack) X.prog X.w HZ s1 Q E) s1 := by
    refine PySem.W.kla_callFunE hr.depth of1 rfl L.co L.gen rfl ⟨d, oc, vs, tq, rfl, hoc, hod, hov⟩ ?_
    rw [hbind]
    refine wpAny_pure (wpAny_newFunctionEnv (fun y hy => (L.own y hy).2) (fun y hy => absurd hy (by simp)) (fun h1 hns hsb => ⟨I1.nolimit.fresh _ hsb, ?_⟩) L.kind)
    have kp : ∀ b o, s1.heap.get? b = some o → h1.get? b = some o := fun b o e => hsb.extBut b o (Nat.ne_of_lt (Heap.lt_size e)) (Heap.get?_push_of_some _ e)
    have J0 : Inv (LamX.lamCx X (X.A.deeper (envOfC qg sg s.heap.objs.size gg cdg)) (envOfC qg sg s.heap.objs.size gg cdg :: X.stack) s1 HZ E scp f d) [] σ HZ { s1 with heap := h1, toks := s1.toks + ([] : List (Str × Value)).length } :=
      LamX.lam_start2 I L I1.env0 hr.hd un hns kp
    have J : Inv (lamN X (X.A.deeper (envOfC qg sg s.heap.objs.size gg cdg)) (envOfC qg sg s.heap.objs.size gg cdg :: X.stack) s1 HZ E scp f d) [] σ HZ { s1 with heap := h1, toks := s1.toks + ([] : List (Str × Value)).length } := J0.toTry _
    refine PySem.W.kla_codeExpr (wpAny_mono ((hbody _ _ s1 HZ (hr.deeper _)).run [] _ _ HZ Q J rd) (fun v s' hq => ?_) fun e s' hq => hq)
    obtain ⟨w', H', J', rv, q⟩ := hq
    exact ⟨w', H', J'.os, J'.bare, J'.base, J'.hok, rv, q⟩
  have out := L2N.passes_call tk hW
  refine wpAny_call (codeAny_mono run fun r s' hq => ?_)
  cases r with
  | error e => exact out pinsZ σZ HZ s1 e s' I1 hq
  | ok fl =>
    cases fl with
    | ret u => exact I1.after hq
    | next => exact False.elim hq
    | brk => exact False.elim hq
    | cont => exact False.elim hq
end
/-! ### isinstance of a caught exception -/
section
variable {Z : Cx} {a D dd : Addr} {oe : Obj}
theorem call_isP (C : ExcC Z.K D) (hp : (a, oe) ∈ Z.pn) (hz : Zc (.ref D) (some dd) oe) (hf : ∃ vs, oe.data = .fields vs) : CallR Z (.builtin "isinstance") (fun xs H Q => (∃ vf, H dd = some (.xd vf)) ∧ rIsE Z.K D a xs H Q) := by
  intro pins s σ H xs us Q I r ⟨⟨vf, ed⟩, c, cv, b, ex, hcv, e, q⟩
  subst ex
  obtain ⟨u1, u2, rfl, r1, r2⟩ := vals2 r
  obtain rfl : u1 = Value.ref a := r1
  obtain rfl := hcv _ r2
  obtain ⟨here, _⟩ := I.pin (a, oe) (List.mem_append_left _ hp)
  obtain ⟨vs, hv⟩ := hf
  have dOk : ObjOk Z.prog Z.w H s.heap dd (.xd vf) := I.hok dd _ ed
  obtain ⟨mA, hns, _⟩ := dOk
  obtain ⟨od, ho, _⟩ := lookIn_ns hns
  have J : PySem.W.InstAt s.heap a oe D (some od) := ⟨here, hz.1, by unfold PySem.W.notCls; rw [hv] <;> rfl, by rw [hz.2]; exact ho⟩
  obtain ⟨cd, hcd, _⟩ := PySem.W.any_some C.hd
  exact PySem.W.kia_one (PySem.W.kitx_exc (by rw [hcd]; rfl) C.hg C.hk C.hs C.ha C.hn C.ht C.hm) I.kIn J e (fun z => nomatch z) fun tk => ⟨.bl b, H, I.kept (t' := tk) fun _ _ z => z, rfl, q⟩
/-- isinstance(v, c), v the exception -/
theorem pe_isX {v c : Str} {i : Nat} {cV : V} {cv : Value} {b : Bool} {p0 p1 p2 p3 : Pos} (C : ExcC Z.K D) (hp : (a, oe) ∈ Z.pn) (hz : Zc (.ref D) (some dd) oe) (hf : ∃ vs, oe.data = .fields vs) (hg : Gl Z "isinstance") (hm : Z.mg "isinstance" = none) (hv : PE Z (.Name v p1) (tVar i))
    (hc : PE Z (.Name c p2) (tC cV)) (hcv : ∀ u, RelV cV u → u = cv) (hk : PySem.W.kitOne Z.K (.ref D) cv = some b) :
    PE Z (.Call (.Name "isinstance" p0) [.Name v p1, .Name c p2] [] p3) (fun σ H Q => σ[i]? = some (some (.ref a)) ∧ (∃ vf, H dd = some (.xd vf)) ∧ Q (.bl b) H) :=
  PE_imp (pe_callB (call_isP C hp hz hf) hg hm (by decide +kernel) (pa_cons hv (pa_cons hc pa_nil))) fun σ H Q ⟨h1, h2, q⟩ => ⟨.ref a, h1, h2, cV, cv, b, rfl, hcv, hk, q⟩
end
/-! ### list.count of bools -/
theorem hold_bools {h : Heap} : ∀ {bs : List Bool} {us : List Value}, Vals (bs.map V.bl) us → PySem.W.HoldAll h us bs
  | [], _, .nil => PySem.W.HoldAll.nil
  | b :: bs, _, .cons r rs => by
    cases (show _ = Value.bool b from r)
    exact PySem.W.HoldAll.cons (PySem.W.holds_bool b) (hold_bools rs)
def rCntB : V → List V → Hp → VK → Prop := fun x xs H Q => ∃ (p : Addr) (bs : List Bool), x = .ref p ∧ xs = [.bl true] ∧ H p = some (.lst (bs.map V.bl)) ∧ Q (.int ((bs.countP fun y => decide (y = true) : Nat) : Int)) H
theorem mt_cntB {Z : Cx} (hu : Z.A.units + 64 < cLine) : MtR Z "list.count" rCntB := by
  intro pins s σ H x xs v us Q I rx rxs h
  obtain ⟨p, bs, rfl, rfl, hp, q⟩ := h
  cases rx
  obtain ⟨u, rfl, ru⟩ := rxs.one
  obtain rfl : u = Value.bool true := ru
  obtain ⟨its, n, ⟨rv, _, e⟩⟩ : ∃ its n, Vals (bs.map V.bl) its ∧ (bs.map V.bl).length = its.length ∧ s.heap.get? p = some { cls := .type "list", data := .seq its.toArray n } := by
    obtain ⟨_, its, n, h1, h2, h3⟩ := I.lstM hp
    exact ⟨its, n, h1, h2, h3⟩
  refine PySem.W.count_list_datum (α := Bool) (vs := its.toArray) ⟨_, e, rfl, n, rfl⟩ (by simpa using hold_bools rv) (PySem.W.holds_bool true) (by show Z.A.units + 1 + 0 < cLine; omega) ?_
  exact ⟨.int _, H, I.tok _, ⟨_, rfl⟩, q⟩
/-! ### the def that looks whether an exception is of one class alone -/
def isB (xs : List Str) (v : Str) : List Nat → List Expr → Bool
  | [], es => es.isEmpty
  | c :: cs, es => (match es with
    | .Call (.Name i _) [.Name v2 _, .Name n _] [] _ :: r => decide (i = ("isinstance" : Str)) && (decide (v2 = v) && (decide (xs[c]? = some n) && isB xs v cs r))
    | _ => false)
def aloneB (xs : List Str) (bs v fnd : Str) (c1 c2 c3 c4 : List Nat) : List Stmt → Bool
  | [.Assign [.Name f1 _] (.List e1 _) _, .Assign [.Name f2 _] (.BinOp (.Name f3 _) .Add (.List e2 _) _) _, .Assign [.Name f4 _] (.BinOp (.Name f5 _) .Add (.List e3 _) _) _, .Assign [.Name f6 _] (.BinOp (.Name f7 _) .Add (.List e4 _) _) _,
      .Return (some (.BoolOp .And [.Compare (.Call (.Attribute (.Name f8 _) n ap) [.Constant (.bool true) _ _] [] cp) [.Eq] [.Constant (.int 1) _ _] _, .Call (.Name i1 _) [.Name v1 _, .Name n1 _] [] _, .Call (.Name i2 _) [.Name v2 _, .Name n2 _] [] _] _)) _] =>
    (decide (f1 = fnd) && (decide (f2 = fnd) && (decide (f3 = fnd) && (decide (f4 = fnd) && (decide (f5 = fnd) && (decide (f6 = fnd) && (decide (f7 = fnd) && decide (f8 = fnd)))))))) &&
    ((isB xs v c1 e1 && (isB xs v c2 e2 && (isB xs v c3 e3 && isB xs v c4 e4))) && ((decide (n = ("count" : Str)) && (ap.endLine == cp.line)) &&
    ((decide (i1 = ("isinstance" : Str)) && (decide (v1 = v) && decide (n1 = bs))) && (decide (i2 = ("isinstance" : Str)) && (decide (v2 = v) && decide (n2 = ("ValueError" : Str)))))))
  | _ => false
/-- what is known of the exceptions' classes -/
structure XSet (g : G) (xs : List Str) (bs : Str) (B : Addr) : Prop where
  ec : ∀ (i : Nat), i < xs.length → ExcC g.K (g.xA i)
  xf : ∀ (i : Nat), i < xs.length → XfC g.K (g.xA i)
  kit : ∀ (i j : Nat), i < xs.length → j < xs.length → PySem.W.kitOne g.K (.ref (g.xA i)) (.ref (g.xA j)) = some (i == j)
  kitB : ∀ (i : Nat), i < xs.length → PySem.W.kitOne g.K (.ref (g.xA i)) (.ref B) = some true
  kitV : ∀ (i : Nat), i < xs.length → PySem.W.kitOne g.K (.ref (g.xA i)) (.type "ValueError") = some true
  exm : ∀ (i : Nat), i < xs.length → PySem.W.exmOne g.K (.ref (g.xA i)) (.ref B) = some true
  mgx : ∀ (i : Nat) (x : Str), xs[i]? = some x → g.mg x = some (.ref (g.xA i)) ∧ (x == ("__debug__" : Str)) = false
  mgB : g.mg bs = some (.ref B) ∧ (bs == ("__debug__" : Str)) = false
  mgI : g.mg "isinstance" = none
  mgV : g.mg "ValueError" = none
section
variable {g : G} {xs : List Str} {bs : Str} {B : Addr} {Z : Cx} {a dd : Addr} {oe : Obj} {ci : Nat} {v : Str}
theorem pa_isB (S : XSet g xs bs B) (eK : Z.K = g.K) (em : Z.mg = g.mg) (hi : ci < xs.length) (hp : (a, oe) ∈ Z.pn) (hz : Zc (.ref (g.xA ci)) (some dd) oe) (hf : ∃ vs, oe.data = .fields vs) (hgI : Gl Z "isinstance") (hgx : ∀ x ∈ xs, Gl Z x) (hv : ∀ p, PE Z (.Name v p) (tVar 0)) :
    ∀ (cs : List Nat) (es : List Expr), isB xs v cs es = true → PA Z es (fun σ H Q => σ[0]? = some (some (.ref a)) ∧ (∃ vf, H dd = some (.xd vf)) ∧ Q (cs.map fun c => V.bl (ci == c)) H)
  | [], es, h => by
    simp only [isB, List.isEmpty_iff] at h
    subst h
    exact PA_imp pa_nil fun σ H Q ⟨_, _, q⟩ => q
  | c :: cs, es, h => by
    simp only [isB] at h
    split at h
    · rename_i i q1 v2 q2 n q3 q4 r
      simp only [Bool.and_eq_true, decide_eq_true_eq] at h
      obtain ⟨hI, hV, hn, h⟩ := h
      have hc : c < xs.length := (List.getElem?_eq_some_iff.mp hn).1
      obtain ⟨m1, m2⟩ := S.mgx c n hn
      have ih := pa_isB S eK em hi hp hz hf hgI hgx hv cs r h
      rw [hI, hV]
      refine PA_imp (pa_cons (pe_isX (by rw [eK]; exact S.ec ci hi) hp hz hf hgI (by rw [em]; exact S.mgI) (hv q2) (pe_glob (hgx n (List.mem_of_getElem? hn)) (by rw [em]; exact m1) (show RelV (.ref (g.xA c)) (.ref (g.xA c)) from rfl) m2) (fun u e => e) (by rw [eK]; exact S.kit ci c hi hc)) ih) fun σ H Q ⟨h1, h2, q⟩ => ?_
      exact ⟨h1, h2, h1, h2, q⟩
    · cases h
end
/-- .. what it answers, called with the exception that is handled -/
def AloneOk (g : G) (n : Nat) (fal : Addr) : Prop := ∀ (Z : Cx) (a dd : Addr) (oe : Obj) (i : Nat) (pins : List (Addr × Obj)) (σ : L2.St) (H : Hp) (s : Shared) (Q : VK), Z.prog = g.P → Z.w = g.w → Z.K = g.K → Z.mg = g.mg → Z.base = g.base → i < n → (a, oe) ∈ Z.pn → Z.A.handled = some (.ref a) →
  L2N.Zn (.ref (g.xA i)) (some dd) oe → (∃ vs, oe.data = .fields vs) → L2H.RoomH 1 Z.A → Inv Z pins σ H s → (∃ vf, H dd = some (.xd vf)) → (∀ H2, Ex H H2 → Q (.bl true) H2) → wpAny (model Z.prog Z.w) Z.A (call (.ref fal) [.ref a]) (EP Z pins σ Q) Z.xe s
theorem vals_map_bl {α : Type} {f : α → Bool} {l : List α} : (l.map fun c => V.bl (f c)) = (l.map f).map V.bl := by rw [List.map_map]; rfl
theorem alone_ok {g : G} {xs : List Str} {bs : Str} {B fal : Addr} {name qual v fnd : Str} {params : Arguments} {body : List Stmt} {scope : Scope} {dV kV doc pm ct oc cdv : Value} {an od : Option Addr} {osl : Array (Option Value)} {c1 c2 c3 c4 : List Nat} (S : XSet g xs bs B)
    (lk : g.K.lookup fal = some ⟨oc, od, .func (PySem.W.fnOf name qual params body scope dV kV doc pm an cdv ct), osl⟩) (hcd : PySem.W.codeIn g.K cdv qual = true) (Sc : FnScope [v, fnd] [v] scope) (hbd : Binds g.K (PySem.W.fnOf name qual params body scope dV kV doc pm an cdv ct) [v] [])
    (hgI : glB scope "isinstance" = true) (hgV : glB scope "ValueError" = true) (hgB : glB scope bs = true) (hgx : ∀ x ∈ xs, glB scope x = true) (hvv : visB scope v = true) (hvf : scope.names.lookup fnd = some .local) (hd1 : (v == ("__debug__" : Str)) = false ∧ (v == ("__classdict__" : Str)) = false) (hd2 : (fnd == ("__debug__" : Str)) = false ∧ (fnd == ("__classdict__" : Str)) = false)
    (hb : aloneB xs bs v fnd c1 c2 c3 c4 body = true) (hlen : (c1 ++ c2 ++ c3 ++ c4).length ≤ 1000) (hone : ∀ i, i < xs.length → (((c1 ++ c2 ++ c3 ++ c4).map fun c => i == c).countP fun y => decide (y = true)) = 1) : AloneOk g xs.length fal := by
  intro Z a dd oe ci pins σ H s Q eP ew eK em eb hi hp hh hz hf hr I hdd hq
  have KX : Z.K.In s.heap := I.kIn
  rw [← eK] at lk hcd hbd
  have hot : L2H.Hot1 Z.A (a, oe) := by
    obtain ⟨vs, e⟩ := hf
    exact ⟨hh, vs, e, hz.2.2 vs e⟩
  have P1 := I.pin (a, oe) (List.mem_append_left _ hp)
  have hpin : L2H.PinOk Z.stack H s (a, oe) := ⟨P1.1, P1.2.1, fun hm => (List.mem_cons.mp (I.stkSub a hm)).elim P1.2.2.1 P1.2.2.2.1, P1.2.2.2.2⟩
  have e0 := I.env0
  have bnd := hbd s [.ref a] KX rfl
  refine wpAny_call (codeAny_mono (R := CR (L2N.CX Z.prog Z.w) Z.stack Z.prog Z.w H s Q (fun _ _ _ => False)) ?_ fun r s' hq' => ?_)
  · refine codeAny_call_function hr.depth (KX _ _ lk) rfl Sc.co Sc.gen rfl (PySem.W.codeRec_of KX hcd) (bnd _ _ _ _ ?_)
    have hkind : ∀ y ∈ ([v] : List Str).zip [Value.ref a], scope.names.lookup y.1 = some .local ∨ (scope.names.lookup y.1 = some .cell ∧ ((cellsFrom (s.heap.objs.size + 1) scope.names []).lookup y.1).isSome = true) := fun ⟨n, u⟩ hy => by
      rcases Sc.par n (List.of_mem_zip hy).1 with q | q
      · exact .inl q
      · exact .inr ⟨q, PySem.W.cellsFrom_some _ _ _ (.inl q)⟩
    refine wpAny_newFunctionEnv_cells Sc.kind hkind fun env he s1 x => ?_
    subst he
    refine ⟨I.nolimit.keeps x.toInCall.keep, codeAny_func ?_⟩
    have J : Inv (L2H.cxH (L2N.CX Z.prog Z.w) Z.prog Z.w Z.K Z.mg Z.base [v, fnd] qual scope fal cdv Z.A Z.stack s H (fun _ _ _ => False) (a, oe)) [] (L2.start [v, fnd] [.ref a]) H s1 := L2H.inv_startH (us := [.ref a]) (vs := [.ref a]) Sc hpin e0 rfl (.cons rfl .nil) x
    generalize hY : L2H.cxH (L2N.CX Z.prog Z.w) Z.prog Z.w Z.K Z.mg Z.base [v, fnd] qual scope fal cdv Z.A Z.stack s H (fun _ _ _ => False) (a, oe) = Y at J
    have yK : Y.K = g.K := by rw [← hY]; exact eK
    have yM : Y.mg = g.mg := by rw [← hY]; exact em
    have yS : Y.env.scope = scope := by rw [← hY]; rfl
    have yN : Y.N = [v, fnd] := by rw [← hY]; rfl
    have yP : (a, oe) ∈ Y.pn := by rw [← hY]; exact List.mem_singleton.mpr rfl
    have yU : Y.A.units + 64 < cLine := by
      rw [← hY]
      have := hr.un
      show Z.A.units + 3 + 64 < cLine
      omega
    have gI : Gl Y "isinstance" := glB_gl yS hgI
    have gx : ∀ x ∈ xs, Gl Y x := fun x hx => glB_gl yS (hgx x hx)
    have pv : ∀ p, PE Y (.Name v p) (tVar 0) := fun p => pe_var (by rw [yN]; rfl) (visB_vis yS hvv) hd1.1 hd1.2
    have pf : ∀ p, PE Y (.Name fnd p) (tVar 1) := fun p => pe_var (by rw [yN]; rfl) (.inl (by rw [yS]; exact hvf)) hd2.1 hd2.2
    have st : ∀ {e : Expr} {te : TE} {p pos : Pos}, PE Y e te → swapsWith e (some (.Name fnd p)) pos.line Y.env = pure false → PS Y (.Assign [.Name fnd p] e pos) (tAsg te (gName 1)) := fun he hs => ps_set (by rw [yN]; exact Sc.nd) (by rw [yN]; rfl) (.inl (by rw [yS]; exact hvf)) he hs (.inr (by rw [yS]; exact hvf))
    unfold aloneB at hb
    split at hb
    · rename_i f1 a1 e1 a2 a3 f2 a4 f3 a5 e2 a6 a7 a8 f4 a9 f5 b1 e3 b2 b3 b4 f6 b5 f7 b6 e4 b7 b8 b9 f8 k1 n ap k2 k3 cp k4 k5 k6 i1 k7 v1 k8 n1 k9 l1 i2 l2 v2 l3 n2 l4 l5 l6 l7
      simp only [Bool.and_eq_true, decide_eq_true_eq] at hb
      obtain ⟨⟨rfl, rfl, rfl, rfl, rfl, rfl, rfl, rfl⟩, ⟨h1, h2, h3, h4⟩, ⟨rfl, hline⟩, ⟨rfl, rfl, rfl⟩, rfl, rfl, rfl⟩ := hb
      have zc : Zc (.ref (g.xA ci)) (some dd) oe := hz.zc
      have M1 := pa_isB S yK yM hi yP zc hf gI gx pv c1 e1 h1
      have M2 := pa_isB S yK yM hi yP zc hf gI gx pv c2 e2 h2
      have M3 := pa_isB S yK yM hi yP zc hf gI gx pv c3 e3 h3
      have M4 := pa_isB S yK yM hi yP zc hf gI gx pv c4 e4 h4
      have eC : ExcC Y.K (g.xA ci) := by rw [yK]; exact S.ec ci hi
      have HP := pss_cons (st (p := a1) (pos := a3) (pe_lst (pos := a2) M1) rfl) (pss_cons (st (p := a4) (pos := a8) (pe_op (pos := a7) op_cat (pf a5) (pe_lst (pos := a6) M2)) rfl) (pss_cons (st (p := a9) (pos := b4) (pe_op (pos := b3) op_cat (pf b1) (pe_lst (pos := b2) M3)) rfl) (pss_cons (st (p := b5) (pos := b9) (pe_op (pos := b8) op_cat (pf b6) (pe_lst (pos := b7) M4)) rfl)
        (pss_one (ps_ret (pos := l7) (pe_and (pos := l6) (pe_cmpR (pos := k6) op_eq (pe_bm (cpos := cp) PySem.F.plainAttrs_list PySem.F.slot_list_count PySem.F.type_list_count (mt_cntB yU) (pf k1) (pa_cons (pe_bl (b := true) (j := k2) (pos := k3)) pa_nil) rfl rfl hline rfl rfl) (pe_int (i := 1) (j := k4) (pos := k5)) (nomark _))
          (pe_and (pos := l6) (pe_isX (p0 := k7) (p1 := k8) (p2 := k9) (p3 := l1) eC yP zc hf gI (by rw [yM]; exact S.mgI) (pv k8) (pe_glob (pos := k9) (glB_gl yS hgB) (by rw [yM]; exact S.mgB.1) (show RelV (.ref B) (.ref B) from rfl) S.mgB.2) (fun u e => e) (by rw [yK]; exact S.kitB ci hi))
            (pe_one (pos := l6) (pe_isX (p0 := l2) (p1 := l3) (p2 := l4) (p3 := l5) eC yP zc hf gI (by rw [yM]; exact S.mgI) (pv l3) (pe_bltn (pos := l4) (glB_gl yS hgV) (by rw [yM]; exact S.mgV) (show bootBuiltins "ValueError" = some (.type "ValueError") by decide +kernel) (show RelV (.ty "ValueError") (.type "ValueError") from rfl)) (fun u e => e) (by rw [yK]; exact S.kitV ci hi))))))))))
      have grow : ∀ {H1 : Hp} {p : Addr} {o : HO}, Ex H H1 → H1 p = none → Ex H (upd H1 p o) := fun e n => e.trans (Ex.new n)
      have step : ∀ {bA : List Bool} {cs : List Nat} {ta : TA} {NX : L2.St → Hp → Prop}, (∀ σ H Q, (σ[0]? = some (some (.ref a)) ∧ (∃ vf, H dd = some (.xd vf)) ∧ Q (cs.map fun c => V.bl (ci == c)) H) → ta σ H Q) → bA.length + cs.length ≤ 1000 →
          (∀ (p : Addr) (H' : Hp), H' p = some (.lst ((bA ++ cs.map fun c => ci == c).map V.bl)) → Ex H H' → NX [some (.ref a), some (.ref p)] H') →
          ∀ (p : Addr) (H' : Hp), H' p = some (.lst (bA.map V.bl)) → Ex H H' → tOp rCat (tVar 1) (tLst ta) [some (.ref a), some (.ref p)] H' (fun x H1 => gName 1 x [some (.ref a), some (.ref p)] H1 NX) := fun {bA cs ta NX} hta hl k p H' hp hex => by
        obtain ⟨vf, ed⟩ := hdd
        refine ⟨.ref p, rfl, hta _ _ _ ⟨rfl, ⟨vf, hex _ _ ed⟩, ?_, fun p2 n2 => ?_⟩⟩
        · rw [List.length_map, sizeLine_eq]
          omega
        · refine ⟨p, p2, _, _, rfl, rfl, by rw [upd_ne (ne_of_none hp n2)]; exact hp, upd_same, ?_, fun p3 n3 => ?_⟩
          · rw [List.length_map, List.length_map, sizeLine_eq]
            omega
          · refine k p3 _ ?_ (grow (grow hex n2) n3)
            rw [upd_same, List.map_append, vals_map_bl (f := fun c => ci == c) (l := cs)]
      have len : c1.length + c2.length + c3.length + c4.length ≤ 1000 := by
        simp only [List.length_append] at hlen
        omega
      subst hY
      refine wpAny_mono (HP.run [] s1 _ H { nx := fun _ H' => Q .non H', rt := Q } J ?_) (fun fl s' hs => ?_) fun e s' hs => hs
      · refine ⟨rfl, hdd, by rw [List.length_map, sizeLine_eq]; omega, fun p n => ?_⟩
        refine step (bA := c1.map fun c => ci == c) (cs := c2) (fun _ _ _ h => h) (by rw [List.length_map]; omega) ?_ p _ (by rw [upd_same, vals_map_bl]) (grow (Ex.refl H) n)
        refine step (cs := c3) (fun _ _ _ h => h) (by simp only [List.length_append, List.length_map]; omega) ?_
        refine step (cs := c4) (fun _ _ _ h => h) (by simp only [List.length_append, List.length_map]; omega) fun p H' hp' hex => ?_
        obtain ⟨vf, ed⟩ := hdd
        have hd' := hex _ _ ed
        have one := hone ci hi
        rw [List.map_append, List.map_append, List.map_append] at one
        refine ⟨.ref p, rfl, .inl ⟨rfl, _, SqL.of hp'⟩, p, _, rfl, rfl, hp', ?_⟩
        rw [one]
        refine ⟨rfl, true, by decide, ?_⟩
        rw [if_pos rfl]
        refine ⟨rfl, ⟨vf, hd'⟩, true, rfl, ?_⟩
        rw [if_pos rfl]
        exact ⟨rfl, ⟨vf, hd'⟩, hq _ hex⟩
      · cases fl with
        | ret u =>
          obtain ⟨v', σ', H', J, rv, q⟩ := hs
          exact ⟨v', H', J.os, J.bare, J.base, J.hok, rv, q⟩
        | next =>
          obtain ⟨σ', H', J, q⟩ := hs
          exact ⟨.non, H', J.os, J.bare, J.base, J.hok, rfl, q⟩
        | brk =>
          obtain ⟨_, _, _, q⟩ := hs
          exact False.elim q
        | cont =>
          obtain ⟨_, _, _, q⟩ := hs
          exact False.elim q
    · cases hb
  · cases r with
    | error e =>
      obtain ⟨_, _, _, _, _, _, _, _, _, _, _, _, z⟩ := hq'
      exact z.elim
    | ok fl =>
      cases fl with
      | ret u => exact I.after hq'
      | next => exact False.elim hq'
      | brk => exact False.elim hq'
      | cont => exact False.elim hq'
end DL

/-! DLr: the def that tells what a lambda answers, or how it is refused. -/
namespace DL
open PySem PySem.Spec PyProof.Rows L2
abbrev Hd : Type := Str × List Str
/-- such a def: its name, its parameter, the exception's name, the class caught, the def that looks at the exception, what is told by class, what is told else -/
structure TellD where
  nm : Str
  par : Str
  var : Str
  bs : Str
  al : Str
  hs : List (Nat × Hd)
  last : Hd
def pickH : List (Nat × Hd) → Hd → Nat → Hd
  | [], l, _ => l
  | h :: r, l, c => if (c == h.1) = true then h.2 else pickH r l c
def TellD.ans (t : TellD) (e : Exn) : Option D := ((pickH t.hs t.last e.c).2.mapM fun f => e.fs.lookup f).bind fun ds => if ds.length ≤ 1000 then some (.tup [.str "refused", .str (pickH t.hs t.last e.c).1, .tup ds]) else none
def flB (v : Str) : List Str → List Expr → Bool
  | [], es => es.isEmpty
  | f :: fs, es => (match es with
    | .Attribute (.Name v2 _) n _ :: r => decide (v2 = v) && (decide (n = f) && flB v fs r)
    | _ => false)
def rfB (v : Str) (h : Hd) : Expr → Bool
  | .Tuple [.Constant (.str r) _ _, .Constant (.str m) _ _, .Tuple es _ _] _ _ => decide (r = ("refused" : Str)) && (decide (m = h.1) && flB v h.2 es)
  | _ => false
def hdB (xs : List Str) (v : Str) : List (Nat × Hd) → Hd → List Stmt → Bool
  | [], l, ss => (match ss with | [.Return (some e) _] => rfB v l e | _ => false)
  | h :: r, l, ss => (match ss with
    | .If (.Call (.Name i _) [.Name v2 _, .Name n _] [] _) [.Return (some e) _] [] _ :: q => decide (i = ("isinstance" : Str)) && (decide (v2 = v) && (decide (xs[h.1]? = some n) && (rfB v h.2 e && hdB xs v r l q)))
    | _ => false)
def tellB (xs : List Str) (t : TellD) : List Stmt → Bool
  | [.Try [.Return (some (.Tuple [.Constant (.str m) _ _, .Call (.Name a _) [] [] _] _ _)) _] [.ExceptHandler (some (.Name b _)) (some n) (.If (.UnaryOp .Not (.Call (.Name al _) [.Name v2 _] [] _) _) _ [] _ :: ss) _] [] [] _] =>
    (decide (m = ("told" : Str)) && decide (a = t.par)) && ((decide (b = t.bs) && decide (n = t.var)) && ((decide (al = t.al) && decide (v2 = t.var)) && hdB xs t.var t.hs t.last ss))
  | _ => false
section
variable {g : G} {xs : List Str} {bs : Str} {B : Addr} {X0 : Cx} {a dd : Addr} {oe : Obj} {pn : List (Addr × Obj)} {ci iv : Nat} {v : Str}
/-- e.f, .. -/
theorem pa_fl (T : XfC X0.K (g.xA ci)) (hz : Zc (.ref (g.xA ci)) (some dd) oe) (hf : ∃ vs, oe.data = .fields vs) (hv : ∀ p, PE (X0.suite a ((a, oe) :: pn)) (.Name v p) (tVar iv)) :
    ∀ (fs : List Str) (es : List Expr), (∀ f ∈ fs, PySem.W.findIn X0.K (.ref (g.xA ci)) f = some none) → flB v fs es = true → PA (X0.suite a ((a, oe) :: pn)) es (fun σ H Q => σ[iv]? = some (some (.ref a)) ∧ ∃ vf vs, H dd = some (.xd vf) ∧ fs.mapM (fun f => vf.lookup f) = some vs ∧ Q vs H)
  | [], es, _, h => by
    simp only [flB, List.isEmpty_iff] at h
    subst h
    exact PA_imp pa_nil fun σ H Q ⟨_, vf, vs, _, e, q⟩ => by
      cases e
      exact q
  | f :: fs, es, no, h => by
    simp only [flB] at h
    split at h
    · rename_i v2 p1 n p2 r
      simp only [Bool.and_eq_true, decide_eq_true_eq] at h
      obtain ⟨hV, hn, h⟩ := h
      have ih := pa_fl T hz hf hv fs r (fun f hf => no f (List.mem_cons_of_mem _ hf)) h
      rw [hV, hn]
      refine PA_imp (pa_cons (pe_xf (pos := p2) T (no f List.mem_cons_self) hz hf (hv p1)) ih) fun σ H Q ⟨h1, vf, vs, e1, e2, q⟩ => ?_
      rw [List.mapM_cons] at e2
      cases q1 : vf.lookup f with
      | none => rw [q1] at e2; cases e2
      | some w =>
        cases q2 : fs.mapM (fun f => vf.lookup f) with
        | none => rw [q1, q2] at e2; cases e2
        | some ws =>
          rw [q1, q2] at e2
          cases e2
          exact ⟨.ref a, h1, rfl, rfl, dd, vf, w, rfl, e1, q1, h1, vf, ws, e1, q2, q⟩
    · cases h
/-- what is told of a refusal -/
def tRf (iv : Nat) (a dd : Addr) (h : Hd) : TE := fun σ H Q => σ[iv]? = some (some (.ref a)) ∧ ∃ vf vs, H dd = some (.xd vf) ∧ h.2.mapM (fun f => vf.lookup f) = some vs ∧ vs.length ≤ 1000 ∧
  ∀ q1, H q1 = none → ∀ q2, upd H q1 (.tup vs) q2 = none → Q (.ref q2) (upd (upd H q1 (.tup vs)) q2 (.tup [.str "refused", .str h.1, .ref q1]))
theorem pe_rf (T : XfC X0.K (g.xA ci)) (hz : Zc (.ref (g.xA ci)) (some dd) oe) (hf : ∃ vs, oe.data = .fields vs) (hv : ∀ p, PE (X0.suite a ((a, oe) :: pn)) (.Name v p) (tVar iv)) {h : Hd} (no : ∀ f ∈ h.2, PySem.W.findIn X0.K (.ref (g.xA ci)) f = some none) {e : Expr} (hb : rfB v h e = true) :
    PE (X0.suite a ((a, oe) :: pn)) e (tRf iv a dd h) := by
  unfold rfB at hb
  split at hb
  · rename_i r j1 p1 m j2 p2 es j3 p3 j4 p4
    simp only [Bool.and_eq_true, decide_eq_true_eq] at hb
    obtain ⟨hr, hm, h⟩ := hb
    rw [hr, hm]
    refine PE_imp (pe_tup (pos := p4) (pa_cons (pe_str (j := j1) (pos := p1)) (pa_cons (pe_str (j := j2) (pos := p2)) (pa_cons (pe_tup (pos := p3) (pa_fl T hz hf hv _ es no h)) pa_nil)))) fun σ H Q ⟨h1, vf, vs, e1, e2, hl, q⟩ => ?_
    refine ⟨h1, vf, vs, e1, e2, by rw [sizeLine_eq]; omega, fun q1 n1 => ⟨?_, fun q2 n2 => q q1 n1 q2 n2⟩⟩
    show (3 : Nat) ≤ sizeLine
    rw [sizeLine_eq]
    decide
  · cases hb
theorem pss_hd (S : XSet g xs bs B) (eK : X0.K = g.K) (em : X0.mg = g.mg) (hi : ci < xs.length) (hz : Zc (.ref (g.xA ci)) (some dd) oe) (hf : ∃ vs, oe.data = .fields vs) (hgI : Gl (X0.suite a ((a, oe) :: pn)) "isinstance") (hv : ∀ p, PE (X0.suite a ((a, oe) :: pn)) (.Name v p) (tVar iv)) {l : Hd} :
    ∀ (hs : List (Nat × Hd)) (ss : List Stmt), (∀ h ∈ hs, ∀ x, xs[h.1]? = some x → Gl (X0.suite a ((a, oe) :: pn)) x) → (∀ f ∈ (pickH hs l ci).2, PySem.W.findIn g.K (.ref (g.xA ci)) f = some none) → hdB xs v hs l ss = true → PSs (X0.suite a ((a, oe) :: pn)) ss (fun D σ H => tRf iv a dd (pickH hs l ci) σ H D.rt)
  | [], ss, _, no, h => by
    simp only [hdB] at h
    split at h
    · rename_i e p1
      rw [← eK] at no
      exact pss_one (ps_ret (pos := p1) (pe_rf (by rw [eK]; exact S.xf ci hi) hz hf hv no h))
    · cases h
  | h0 :: r, ss, hgx, no, h => by
    simp only [hdB] at h
    split at h
    · rename_i i q1 v2 q2 n q3 q4 e q5 q6 q
      simp only [Bool.and_eq_true, decide_eq_true_eq] at h
      obtain ⟨hI, hV, hn, he, h⟩ := h
      have hc : h0.1 < xs.length := (List.getElem?_eq_some_iff.mp hn).1
      obtain ⟨m1, m2⟩ := S.mgx h0.1 n hn
      have tst : PE (X0.suite a ((a, oe) :: pn)) (.Call (.Name i q1) [.Name v2 q2, .Name n q3] [] q4) (fun σ H Q => σ[iv]? = some (some (.ref a)) ∧ (∃ vf, H dd = some (.xd vf)) ∧ Q (.bl (ci == h0.1)) H) := by
        rw [hI, hV]
        exact pe_isX (Z := X0.suite a ((a, oe) :: pn)) (by show ExcC X0.K _; rw [eK]; exact S.ec ci hi) List.mem_cons_self hz hf hgI (by show X0.mg _ = none; rw [em]; exact S.mgI) (hv q2) (pe_glob (hgx h0 List.mem_cons_self n hn) (by show X0.mg _ = _; rw [em]; exact m1) (show RelV (.ref (g.xA h0.1)) (.ref (g.xA h0.1)) from rfl) m2) (fun u e => e) (by show PySem.W.kitOne X0.K _ _ = _; rw [eK]; exact S.kit ci h0.1 hi hc)
      by_cases c : (ci == h0.1) = true
      · have no' : ∀ f ∈ h0.2.2, PySem.W.findIn X0.K (.ref (g.xA ci)) f = some none := by
          unfold pickH at no
          rw [if_pos c] at no
          rw [eK]
          exact no
        have hp : pickH (h0 :: r) l ci = h0.2 := by unfold pickH; rw [if_pos c]
        rw [hp]
        refine PSs_imp (pss_cons (ps_if (pos := q6) (pt_val tst) (pss_one (ps_ret (pos := q5) (pe_rf (by rw [eK]; exact S.xf ci hi) hz hf hv no' he))) pss_nil) (u := fun _ _ _ => False) ⟨fun _ _ _ _ _ _ z => z.elim⟩) fun D σ H h2 => ?_
        obtain ⟨h3, vf, vs, h4, h5, h6, h7⟩ := id h2
        refine ⟨h3, ⟨vf, h4⟩, true, by rw [c], ?_⟩
        exact h2
      · have hp : pickH (h0 :: r) l ci = pickH r l ci := by rw [pickH, if_neg c]
        rw [hp] at no ⊢
        have ih := pss_hd S eK em hi hz hf hgI hv r q (fun h' hh => hgx h' (List.mem_cons_of_mem _ hh)) no h
        refine PSs_imp (pss_cons (ps_if (pos := q6) (pt_val tst) (t := fun _ _ _ => False) ⟨fun _ _ _ _ _ _ z => z.elim⟩ pss_nil) ih) fun D σ H h2 => ?_
        obtain ⟨h3, vf, vs, h4, h5, h6, h7⟩ := id h2
        refine ⟨h3, ⟨vf, h4⟩, false, by rw [Bool.eq_false_iff.mpr c], ?_⟩
        exact h2
    · cases h
end
section
variable {g : G} {n : Nat} {X0 : Cx} {a dd fal : Addr} {oe : Obj} {pn : List (Addr × Obj)} {ci iv k : Nat} {v al : Str}
theorem pe_alone {p1 p2 p3 : Pos} (A : AloneOk g n fal) (eP : X0.prog = g.P) (ew : X0.w = g.w) (eK : X0.K = g.K) (em : X0.mg = g.mg) (eb : X0.base = g.base) (hi : ci < n) (hz : L2N.Zn (.ref (g.xA ci)) (some dd) oe) (hf : ∃ vs, oe.data = .fields vs) (hr : Room (k + 1) X0.A)
    (hg : Gl (X0.suite a ((a, oe) :: pn)) al) (hm : g.mg al = some (.ref fal)) (hk : PySem.W.keepIn g.K (.ref fal) = true) (hdb : (al == ("__debug__" : Str)) = false) (hv : PE (X0.suite a ((a, oe) :: pn)) (.Name v p2) (tVar iv)) :
    PE (X0.suite a ((a, oe) :: pn)) (.Call (.Name al p1) [.Name v p2] [] p3) (fun σ H Q => σ[iv]? = some (some (.ref a)) ∧ (∃ vf, H dd = some (.xd vf)) ∧ ∀ H2, Ex H H2 → Q (.bl true) H2) := by
  refine ⟨fun pins s σ H Q I ⟨h1, h2, h3⟩ => ?_⟩
  refine wpAny_Call_Name_kw (ld_glob I hg (by show X0.mg al = _; rw [em]; exact hm) ?_ hdb)
  refine PySem.W.callWith_K (h₀ := (X0.suite a ((a, oe) :: pn)).base) I.ok.mod.kin (by show PySem.W.keepIn X0.K _ = true; rw [eK]; exact hk) (thn ((pa_cons hv pa_nil).run p3 pins s σ H (fun vs H1 => vs = [.ref a] ∧ H1 = H) I ⟨.ref a, h1, rfl, rfl⟩) fun us s1 ⟨vs, H1, I1, r, ev, eH⟩ => ⟨I1.kIn, ?_⟩) rfl rfl
  subst ev
  rw [eH] at I1
  obtain ⟨u, rfl, ru⟩ := vals1 r
  obtain rfl : u = Value.ref a := ru
  exact A (X0.suite a ((a, oe) :: pn)) a dd oe ci pins σ H s1 Q eP ew eK em eb hi List.mem_cons_self rfl hz hf ((⟨hr.dp, hr.un⟩ : L2H.RoomH (k + 1) (X0.suite a ((a, oe) :: pn)).A).mono (by omega)) I1 h2 h3
end
theorem visB_v {sc : Scope} {x : Str} (h : visB sc x = true) : Vis sc x := by
  unfold visB at h
  simp only [Bool.or_eq_true, decide_eq_true_eq] at h
  exact h
/-- what is known of a def that tells -/
structure TellOk (g : G) (xs : List Str) (t : TellD) : Prop where
  no : ∀ (i : Nat), i < xs.length → ∀ f ∈ (pickH t.hs t.last i).2, PySem.W.findIn g.K (.ref (g.xA i)) f = some none
  ex : ∃ (B gf fal : Addr) (name qual : Str) (params : Arguments) (body : List Stmt) (scope : Scope) (dV kV doc pm cdv ct oc : Value) (an od : Option Addr) (osl : Array (Option Value)) (Ng : List Str) (iv : Nat), XSet g xs t.bs B ∧ AloneOk g xs.length fal ∧
    (g.mg t.nm = some (.ref gf) ∧ PySem.W.keepIn g.K (.ref gf) = true ∧ g.K.lookup gf = some ⟨oc, od, .func (PySem.W.fnOf name qual params body scope dV kV doc pm an cdv ct), osl⟩ ∧ PySem.W.codeIn g.K cdv qual = true ∧ Binds g.K (PySem.W.fnOf name qual params body scope dV kV doc pm an cdv ct) [t.par] []) ∧
    (FnScope Ng [t.par] scope ∧ Ng[0]? = some t.par ∧ visB scope t.par = true ∧ Ng[iv]? = some t.var ∧ scope.names.lookup t.var = some .local) ∧ (g.mg t.al = some (.ref fal) ∧ PySem.W.keepIn g.K (.ref fal) = true) ∧
    (glB scope "isinstance" = true ∧ glB scope t.bs = true ∧ glB scope t.al = true ∧ ∀ h ∈ t.hs, ∀ x, xs[h.1]? = some x → glB scope x = true) ∧
    ((t.par == ("__debug__" : Str)) = false ∧ (t.par == ("__classdict__" : Str)) = false ∧ (t.var == ("__debug__" : Str)) = false ∧ (t.var == ("__classdict__" : Str)) = false ∧ (t.al == ("__debug__" : Str)) = false ∧ (t.nm == ("__debug__" : Str)) = false) ∧ tellB xs t body = true
def tTold (g : G) (xs : List Str) (t : TellD) (P : Addr) (tb : XK → TE) : TE := fun σ H Q => LamX.Tabs g.T H ∧ ∀ H1, Grown P H H1 → LamX.Tabs g.T H1 →
  tb (fun cls d H2 => ∃ (ci : Nat) (dd : Addr) (vf : List (Str × V)) (vs : List V), ci < xs.length ∧ cls = .ref (g.xA ci) ∧ d = some dd ∧ H2 dd = some (.xd vf) ∧ (pickH t.hs t.last ci).2.mapM (fun f => vf.lookup f) = some vs ∧ vs.length ≤ 1000 ∧
      ∀ H3, Ex H2 H3 → ∀ q1, H3 q1 = none → ∀ q2, upd H3 q1 (.tup vs) q2 = none → Q (.ref q2) (upd (upd H3 q1 (.tup vs)) q2 (.tup [.str "refused", .str (pickH t.hs t.last ci).1, .ref q1])))
    σ H1 (fun v H2 => [V.str "told", v].length ≤ sizeLine ∧ ∀ q, H2 q = none → Q (.ref q) (upd H2 q (.tup [.str "told", v])))
theorem pe_told {g : G} {xs : List Str} {t : TellD} {X : Cx} {cc P : Addr} {prm : Arguments} {bd : Expr} {scp : Scope} {tb : XK → TE} {k : Nat} {p pl pos : Pos} (eP : X.prog = g.P) (ew : X.w = g.w) (eK : X.K = g.K) (em : X.mg = g.mg) (eb : X.base = g.base) (TO : TellOk g xs t) (hg : Gl X t.nm)
    (TB : LamX.TabB X.base X.mg cc P) (ec : X.env.code = .ref cc) (inT : (P, X.env.qual ++ "<lambda>") ∈ g.T) (un : ∀ p ∈ g.T, p.1 = P → p.2 = X.env.qual ++ "<lambda>") (hr : Room (k + 3) X.A) (L : LamX.LamS X.env.scope scp) (dfl : defaultsOf prm X.env = ([], []))
    (hbind : ∀ (q : Str) (cl : List (Str × Addr)) (pm cv ctv : Value), bindArgs (PySem.W.kla_fn "<lambda>" q prm bd scp cl pm cv ctv) ⟨[], []⟩ = pure [])
    (hbody : ∀ (A : Around) (outer : List PySem.Env) (s : Shared) (H : Hp) (E : XK) (f d : Addr), Room (k + 1) (A.deeper (LamX.lamEnv X scp s.heap.objs.size f d)) → PE (lamN X A outer s H E scp f d) bd (tb E)) :
    PE X (.Call (.Name t.nm p) [.Lambda prm bd scp pl] [] pos) (tTold g xs t P tb) := by
  refine ⟨fun pins s σ H Q I ⟨hT, h⟩ => ?_⟩
  obtain ⟨B, gf, fal, name, qual, params, body, scope, dV, kV, doc, pm, cdv, ct, oc, an, od, osl, Ng, iv, S, Al, ⟨m1, m2, m3, m4, m5⟩, ⟨s1, s2, s3, s4, s5⟩, ⟨l1, l2⟩, ⟨g1, g2, g3, g4⟩, ⟨d1, d2, d3, d4, d5, d6⟩, hb⟩ := TO.ex
  rw [← eK] at m2 m3 m4 m5
  refine wpAny_Call_Name_kw (ld_glob I hg (by rw [em]; exact m1) ?_ d6)
  refine PySem.W.callWith_K (h₀ := X.base) I.ok.mod.kin m2 ?_ (by rfl) (by rfl)
  show wpAny _ _ (spliced ((false, eval (.Lambda prm bd scp pl) X.env) :: backTo pos (starEach [] X.env))) _ _ s
  refine Calls.spliced_cons (lam_new I TB ec inT un hT dfl (L.has I.ok) fun f d pm' ct' H1 s' I1 gr T1 hf hfn hfr hco => ?_)
  refine Calls.spliced_nil ⟨I1.kIn, ?_⟩
  have rc : codeAny (model X.prog X.w) X.A (.call (.ref gf) ⟨[.ref f], []⟩) (CR (L2N.CX X.prog X.w) X.stack X.prog X.w H1 s' Q (fun _ _ _ => False)) s' := by
    refine LamX.run_ofS (N := Ng) (ps := [t.par]) (us := [.ref f]) (vs := [.ref f]) m3 m4 s1 hr I1.env0 (m5 s' [.ref f] I1.kIn rfl) (.cons rfl .nil) rfl fun hr' => ?_
    unfold tellB at hb
    split at hb
    · rename_i m j1 q1 w q2 q3 j2 q4 q5 b q6 nn alx q7 v2 q8 q9 q10 mixed q11 ss q12 q13
      simp only [Bool.and_eq_true, decide_eq_true_eq] at hb
      obtain ⟨⟨e1, e2⟩, ⟨e3, e4⟩, ⟨e5, e6⟩, hh⟩ := hb
      subst e1 e2 e3 e4 e5 e6
      refine ⟨_, pss_one (L2N.ps_try_as (X := cxOf (L2N.CX X.prog X.w) X.prog X.w X.K X.mg X.base Ng qual scope gf cdv X.A X.stack s' H1 (fun _ _ _ => False)) (i := iv) (c := .ref B) (pos := q13)
        (Wout := fun _ _ _ _ => False)
        (tb := fun W D σZ HZ => ∃ Ech : XK, (∀ cls d σ' H', Ech cls d H' → W cls d σ' H') ∧ σZ[0]? = some (some (.ref f)) ∧ HZ d = some (LamX.CodeO d (X.env.qual ++ "<lambda>")) ∧ tb Ech σ HZ fun v H2 => [V.str "told", v].length ≤ sizeLine ∧ ∀ q, H2 q = none → D.rt (.ref q) (upd H2 q (.tup [.str "told", v])))
        (ts := fun a cls dq D σZ HZ => ∃ (ci : Nat) (dd : Addr) (vf : List (Str × V)) (vs : List V), ci < xs.length ∧ cls = .ref (g.xA ci) ∧ dq = some dd ∧ (σZ.length = Ng.length → σZ[iv]? = some (some (.ref a))) ∧ HZ dd = some (.xd vf) ∧ (pickH t.hs t.last ci).2.mapM (fun f => vf.lookup f) = some vs ∧ vs.length ≤ 1000 ∧
          ∀ H3, Ex HZ H3 → ∀ q1, H3 q1 = none → ∀ q2, upd H3 q1 (.tup vs) q2 = none → D.rt (.ref q2) (upd (upd H3 q1 (.tup vs)) q2 (.tup [.str "refused", .str (pickH t.hs t.last ci).1, .ref q1])))
        rfl rfl s1.nd s4 s5 ⟨glB_gl rfl g2, S.mgB.2, .inl (by show X.mg _ = _; rw [em]; exact S.mgB.1)⟩ (fun u s' ⟨_, _, _, _, _, _, _, _, _, _, _, _, _, _, _, _, w⟩ => w.elim) (fun W pn xe tk _ => ?_) (fun a oe cls dq pn hz hf => ?_)), ?_⟩
      · refine ⟨fun pinsZ sZ σZ HZ D IZ ⟨Ech, hW, h1, h2, h3⟩ => ?_⟩
        have hp := pe_actN (k := k + 1) (i := 0) (p1 := q2) (p2 := q3) (E := Ech) (tb := tb Ech) I1 L hf hfn hfr (hbind _ _ _ _ _) tk hW hr' (fun A outer s H hr2 => hbody A outer s H Ech f d hr2) s2 (visB_v s3) d1 d2
        exact (pss_one (ps_ret (pos := q5) (pe_tup (x1 := j2) (pos := q4) (pa_cons (pe_str (j := j1) (pos := q1)) (pa_cons hp pa_nil))))).run pinsZ sZ σZ HZ D IZ ⟨h1, h2, h3⟩
      · refine ⟨fun pinsZ sZ σZ HZ D IZ ⟨ci, dd, vf, vs, h1, h2, h3, h4, h5, h6, h7, h8⟩ => ?_⟩
        subst h2 h3
        have hv : ∀ p, PE ((cxOf (L2N.CX X.prog X.w) X.prog X.w X.K X.mg X.base Ng qual scope gf cdv X.A X.stack s' H1 (fun _ _ _ => False)).suite a ((a, oe) :: pn)) (.Name t.var p) (tVar iv) := fun p => pe_var s4 (.inl s5) d3 d4
        have HB := pss_cons (ps_if (pos := q11) (pt_not (pos := q10) (pt_val (pe_alone (X0 := cxOf (L2N.CX X.prog X.w) X.prog X.w X.K X.mg X.base Ng qual scope gf cdv X.A X.stack s' H1 (fun _ _ _ => False)) (pn := pn) (k := k + 1) (p1 := q7) (p2 := q8) (p3 := q9) Al eP ew eK em eb h1 hz hf hr' (glB_gl rfl g3) l1 l2 d5 (hv q8)))) (a := mixed) (t := fun _ _ _ => False) ⟨fun _ _ _ _ _ _ z => z.elim⟩ pss_nil)
          (pss_hd (X0 := cxOf (L2N.CX X.prog X.w) X.prog X.w X.K X.mg X.base Ng qual scope gf cdv X.A X.stack s' H1 (fun _ _ _ => False)) S eK em h1 hz.zc hf (glB_gl rfl g1) hv t.hs ss (fun h' hh' x hx => glB_gl rfl (g4 h' hh' x hx)) (TO.no ci h1) hh)
        exact HB.run pinsZ sZ σZ HZ D IZ ⟨h4 IZ.len, ⟨vf, h5⟩, fun H3 hex => ⟨true, rfl, (show tRf iv a dd _ σZ H3 D.rt from ⟨h4 IZ.len, vf, vs, hex _ _ h5, h6, h7, h8 H3 hex⟩)⟩⟩
      · refine ⟨_, fun cls dq σ' H' ⟨ci, dd, vf, vs, h1, h2, h3, h5, h6, h7, h8⟩ => ?_, rfl, hco, h H1 gr T1⟩
        refine ⟨true, by rw [h2]; show PySem.W.exmOne X.K _ _ = _; rw [eK]; exact S.exm ci h1, fun _ a na => ⟨ci, dd, vf, vs, h1, h2, h3, fun hl => ?_, h5, h6, h7, h8⟩, fun z => by cases z⟩
        have hi : iv < σ'.length := by
          have := (List.getElem?_eq_some_iff.mp s4).1
          rw [List.length_set] at hl
          omega
        rw [List.getElem?_set_self hi]
    · cases hb
  have out : Passes (L2N.CX X.prog X.w) X (fun _ _ _ => False) := fun _ _ _ _ _ _ _ ⟨_, _, _, _, _, _, _, _, _, _, _, _, z⟩ => z.elim
  refine wpAny_call (codeAny_mono rc fun r s2 hq => ?_)
  cases r with
  | error e => exact out pins σ H1 s' e s2 I1 hq
  | ok fl =>
    cases fl with
    | ret u => exact I1.after hq
    | next => exact False.elim hq
    | brk => exact False.elim hq
    | cont => exact False.elim hq
/-! ### .. in the language -/
/-- what a lambda needs that is made in the def fd -/
def LamF (g : G) (fd : FuncData) : Prop := ∃ cc P, fd.code = .ref cc ∧ LamX.TabB g.base g.mg cc P ∧ (P, (fd.qualname ++ ".<locals>.") ++ "<lambda>") ∈ g.T ∧ ∀ p ∈ g.T, p.1 = P → p.2 = (fd.qualname ++ ".<locals>.") ++ "<lambda>"
theorem Denf.mapM {g : G} {H : Hp} {vf : List (Str × V)} {ef : List (Str × D)} (h : Denf g H vf ef) : ∀ {fs : List Str} {ds : List D}, fs.mapM (fun f => ef.lookup f) = some ds → ∃ vs, fs.mapM (fun f => vf.lookup f) = some vs ∧ Dens g H vs ds
  | [], ds, e => by
    cases e
    exact ⟨[], rfl, .nil⟩
  | f :: fs, ds, e => by
    rw [List.mapM_cons] at e
    cases q1 : ef.lookup f with
    | none => rw [q1] at e; cases e
    | some d =>
      cases q2 : fs.mapM (fun f => ef.lookup f) with
      | none => rw [q1, q2] at e; cases e
      | some r =>
        rw [q1, q2] at e
        cases e
        obtain ⟨v, h1, h2⟩ := h.look q1
        obtain ⟨vs, h3, h4⟩ := Denf.mapM h q2
        exact ⟨v :: vs, by rw [List.mapM_cons, h1, h3]; rfl, .cons h2 h4⟩
theorem Denf.app {g : G} {H : Hp} : ∀ {vs ws : List (Str × V)} {ds es : List (Str × D)}, Denf g H vs ds → Denf g H ws es → Denf g H (vs ++ ws) (ds ++ es)
  | _, _, _, _, .nil, h => h
  | _, _, _, _, .cons h hs, h2 => .cons h (hs.app h2)
theorem Denf.rev {g : G} {H : Hp} : ∀ {vs : List (Str × V)} {ds : List (Str × D)}, Denf g H vs ds → Denf g H vs.reverse ds.reverse
  | _, _, .nil => .nil
  | _, _, .cons h hs => by
    rw [List.reverse_cons, List.reverse_cons]
    exact hs.rev.app (.cons h .nil)
theorem Denf.ofZip {g : G} {H : Hp} : ∀ {fs : List Str} {vs : List V} {ds : List D}, Dens g H vs ds → Denf g H (fs.zip vs) (fs.zip ds)
  | [], _, _, _ => by
    rw [List.zip_nil_left, List.zip_nil_left]
    exact .nil
  | _ :: _, _, _, .nil => by
    rw [List.zip_nil_right, List.zip_nil_right]
    exact .nil
  | f :: fs, _, _, .cons h hs => .cons h (Denf.ofZip hs)
section
variable {g : G} {X : Cx} {W : WX} {P : Par} {pos : Pos} {k : Nat}
theorem se_told {t : TellD} {xs : List Str} {n i : Nat} {ia : E} {bd : Expr} {scp : Scope} {p pl : Pos} (eP : X.prog = g.P) (ew : X.w = g.w) (eK : X.K = g.K) (em : X.mg = g.mg) (eb : X.base = g.base) (TO : TellOk g xs t) (hT : ∀ e, P.tell i e = if e.c < n then t.ans e else none) (hn : xs.length = n) (hg : Gl X t.nm)
    (LA : LamAt g X.env) (hr : Room (k + 3) X.A) (L : LamX.LamS X.env.scope scp) (hbody : ∀ (A : Around) (outer : List PySem.Env) (s : Shared) (H : Hp) (E : XK) (f d : Addr), Room (k + 1) (A.deeper (LamX.lamEnv X scp s.heap.objs.size f d)) → SE g (WC E) (lamN X A outer s H E scp f d) bd (evE P ia)) :
    SE g W X (.Call (.Name t.nm p) [.Lambda ⟨[], [], none, [], [], none, []⟩ bd scp pl] [] pos) (evE P (.told i ia)) := by
  obtain ⟨cc, Pt, ec, TB, inT, un⟩ := LA
  rw [← eb, ← em] at TB
  refine PE_imp (pe_told (tb := fun E => tE g (WC E) (evE P ia)) eP ew eK em eb TO hg TB ec inT un hr L rfl (fun q cl pm cv ctv => by rfl) hbody) fun σ H Q ⟨H0, ρ, μ, ι, r, h⟩ => ?_
  simp only [evE] at h
  refine ⟨r.tb, fun H1 gr T1 => ?_⟩
  obtain ⟨r1, s1⟩ := r.grown gr inT T1
  refine ⟨H0, ρ, μ, ι, r1, ?_⟩
  cases q : evE P ia ρ μ with
  | no => rw [q] at h; exact h
  | ok x μ1 =>
    rw [q] at h
    cases x with
    | r k => exact h.elim
    | d y =>
      intro v A H2 C s2 r2 dv
      refine ⟨?_, new_tup r2 (.cons (.str _) (.cons dv .nil)) (Post.step (s1.trans s2) h)⟩
      show (2 : Nat) ≤ sizeLine
      rw [sizeLine_eq]
      decide
  | er e μ1 =>
    rw [q] at h
    dsimp only at h
    rw [hT] at h
    by_cases hc : e.c < n
    · rw [if_pos hc] at h
      cases qa : t.ans e with
      | none => rw [qa] at h; exact h.elim
      | some D1 =>
        rw [qa] at h
        unfold TellD.ans at qa
        obtain ⟨ds, q1, q2⟩ := Option.bind_eq_some_iff.mp qa
        split at q2
        · rename_i hl
          cases q2
          intro cls d A H2 C s2 r2 ⟨e1, dd, vf, e2, e3, e4⟩
          obtain ⟨vs, h1, h2⟩ := e4.mapM q1
          refine ⟨e.c, dd, vf, vs, by rw [hn]; exact hc, e1, e2, e3, h1, by rw [h2.length]; exact hl, fun H3 hex q1 n1 q2 n2 => ?_⟩
          obtain ⟨r3, s3⟩ := r2.wider hex
          obtain ⟨r4, s4⟩ := r3.value (o := .tup vs) n1
          exact new_tup r4 (.cons (.str _) (.cons (.str _) (.cons (.tup (SqT.of upd_same) (h2.mono s4.e0)) .nil))) (Post.step (((s1.trans s2).trans s3).trans s4) h) q2 n2
        · cases q2
    · rw [if_neg hc] at h
      exact h.elim
theorem ss_rais {c : Nat} {ies : Es} {e : Expr} {es : List Expr} {x : Str} {fs : List Str} {p p2 : Pos} (eP : X.prog = g.P) (ew : X.w = g.w) (eK : X.K = g.K) (em : X.mg = g.mg) (eb : X.base = g.base) (O : XOk g (g.xA c) fs) (hf : P.exf c = some fs) (hr : Room 2 X.A) (hc : X.calm = true) (tk : L2N.Takes X W)
    (hg : Gl X x) (hm : X.mg x = some (.ref (g.xA c))) (hdb : (x == ("__debug__" : Str)) = false) (ha : SA g W X (e :: es) (evEs P ies)) (he : starEach (e :: es) X.env = (false, eval e X.env) :: starEach es X.env) (hpl : (backTo p2 (starEach es X.env)).any (·.1) = false) :
    SS g W X (.Raise (some (.Call (.Name x p) (e :: es) [] p2)) none pos) (evS P (.rais c ies)) := by
  have out : Passes (L2N.CX X.prog X.w) X (fun _ _ _ => False) := fun _ _ _ _ _ _ _ ⟨_, _, _, _, _, _, _, _, _, _, _, _, z⟩ => z.elim
  refine PS_imp (L2N.ps_raise (pos := pos) hc tk (pmk_x (p := p) eP ew eK em eb O hr hg hm ha hdb out he hpl)) fun D σ H ⟨H0, ρ, μ, ι, r, h⟩ => ?_
  simp only [evS] at h
  refine run_st r h fun vs ys μ1 A1 H1 ι1 s1 r1 d1 h => ?_
  cases q : ys.mapM DL.X.dOf with
  | none => rw [q] at h; exact h.elim
  | some ds =>
    rw [q, hf] at h
    dsimp only at h
    split at h
    · rename_i hl
      have dd := d1.toD q
      refine ⟨by rw [dd.length]; exact hl.1, fun d hd => ?_⟩
      exact h _ _ σ A1 _ ι1 (Stp.refl.side' hd) (r1.side' (r1.free hd) (r1.notIn hd) (nt_new hd)) ⟨rfl, d, _, rfl, upd_same, (Denf.ofZip dd).rev⟩
    · exact h.elim
end
end DL

/-! DL11: the look at an expression's text. -/
namespace DL
open PySem PySem.Spec PyProof.Rows L2
/-- a def as callers know it -/
structure FnI where
  name : Str
  ps : List Str
  dfs : List D
  /-- a def of the top -/
  top : Bool
  /-- how many parameters are not keyword-only; the keyword-only ones' defaults -/
  np : Nat
  kds : List (Str × D)
structure Ck where
  fns : List FnI
  glo : List (Str × D)
  /-- the own classes: name, methods, properties, fields -/
  cls : List (Str × (List (Str × Nat) × (List (Str × Nat) × List Str)))
  /-- the own exceptions: name, fields; the defs that tell -/
  xs : List (Str × List Str)
  tells : List TellD
def Ck.methOf (c : Ck) (i : Nat) (m : Str) : Option Nat := (c.cls[i]?).bind fun p => p.2.1.lookup m
def Ck.propOf (c : Ck) (i : Nat) (m : Str) : Option Nat := (c.cls[i]?).bind fun p => p.2.2.1.lookup m
def Ck.fldOk (c : Ck) (i : Nat) (f : Str) : Bool := match c.cls[i]? with
  | some p => p.2.2.2.contains f
  | none => false
/-- the methods of that name take so many arguments and have these defaults -/
def Ck.mdf (c : Ck) (m : Str) (n : Nat) (ds : List D) (eq : List D → List D → Bool) : Bool := c.cls.all fun p => match p.2.1.lookup m with
  | some j => (match c.fns[j]? with
    | some f => decide (n + 1 + ds.length = f.ps.length) && (decide (ds.length ≤ f.dfs.length ∧ f.np = f.ps.length) && eq ds (f.dfs.drop (f.dfs.length - ds.length)))
    | none => false)
  | none => true
def notStar : Expr → Bool
  | .Starred .. => false
  | _ => true
def notCall : Expr → Bool
  | .Call .. => false
  | _ => true
def notSet : Expr → Bool
  | .Set .. => false
  | _ => true
def notSlice : Expr → Bool
  | .Slice .. => false
  | _ => true
def plainT : Expr → Bool
  | .UnaryOp .. => false
  | .BoolOp .. => false
  | .IfExp .. => false
  | .Compare .. => false
  | _ => true
def locB (blk : Bool) (sc : Scope) (x : Str) : Bool := decide (sc.names.lookup x = some .local) || (!blk && decide (sc.names.lookup x = some .cell))
def nmB (N : List Str) (sc : Scope) (i : Nat) (x : Str) : Bool := decide (N[i]? = some x) && (visB sc x && (!(x == ("__debug__" : Str)) && !(x == ("__classdict__" : Str))))
def ckC : D → Expr → Bool
  | .non, .Constant .none _ _ => true
  | .bl b, .Constant (.bool b') _ _ => decide (b = b')
  | .int b, .Constant (.int b') _ _ => decide (b = b')
  | .str b, .Constant (.str b') _ _ => decide (b = b')
  | _, _ => false
def scEq : D → D → Bool
  | .non, .non => true
  | .bl a, .bl b => decide (a = b)
  | .int a, .int b => decide (a = b)
  | .str a, .str b => decide (a = b)
  | _, _ => false
def scEqs : List D → List D → Bool
  | [], [] => true
  | a :: as, b :: bs => scEq a b && scEqs as bs
  | _, _ => false
theorem scEq_eq : ∀ {a b : D}, scEq a b = true → a = b
  | .non, b, h => by cases b <;> first | rfl | cases h
  | .bl x, b, h => by cases b <;> first | (have := of_decide_eq_true h; subst this; rfl) | cases h
  | .int x, b, h => by cases b <;> first | (have := of_decide_eq_true h; subst this; rfl) | cases h
  | .str x, b, h => by cases b <;> first | (have := of_decide_eq_true h; subst this; rfl) | cases h
  | .lst _, b, h => by cases h
  | .tup _, b, h => by cases h
  | .dic _, b, h => by cases h
  | .kdic _, b, h => by cases h
  | .ins _ _, b, h => by cases h
  | .fn _, b, h => by cases h
  | .cls _, b, h => by cases h
theorem scEqs_eq : ∀ {a b : List D}, scEqs a b = true → a = b
  | [], [], _ => rfl
  | [], _ :: _, h => by cases h
  | _ :: _, [], h => by cases h
  | a :: as, b :: bs, h => by
    have h := Bool.and_eq_true_iff.mp h
    rw [scEq_eq h.1, scEqs_eq h.2]
/-- a parameter's default -/
def FnI.dflt (f : FnI) (p : Str) : Option D := (((f.ps.take f.np).drop (f.np - f.dfs.length)).zip f.dfs ++ f.kds).lookup p
def tlB (f : FnI) (ks : List Str) : List Str → List KA → Bool
  | [], [] => true
  | p :: ps, .k m :: tl => decide (ks[m]? = some p) && tlB f ks ps tl
  | p :: ps, .d x :: tl => !ks.contains p && ((match f.dflt p with | some y => scEq x y | none => false) && tlB f ks ps tl)
  | _, _ => false
/-- n values and the keywords ks, the rest by tl -/
def kwB (f : FnI) (n : Nat) (ks : List Str) (tl : List KA) : Bool := decide (n ≤ f.np) && (decide ks.Nodup && ((ks.all fun k => (f.ps.drop n).contains k) && tlB f ks (f.ps.drop n) tl))
def ckT1 (blk : Bool) (N : List Str) (sc : Scope) : Nat ⊕ List Nat → Expr → Bool
  | .inl i, .Name x _ => decide (N[i]? = some x) && locB blk sc x
  | .inr is, .Tuple es _ _ => decide (is.length = es.length) && (is.zip es).all fun p => match p.2 with
    | .Name x _ => decide (N[p.1]? = some x) && locB blk sc x
    | _ => false
  | _, _ => false
def ckMix (blk : Bool) (N : List Str) (sc : Scope) : List (Nat ⊕ List Nat) → List Expr → Bool
  | [], es => es.isEmpty
  | t :: ts, es => (match es with | e :: es => ckT1 blk N sc t e && ckMix blk N sc ts es | [] => false)
def ckTg (blk : Bool) (N : List Str) (sc : Scope) : Tg → Expr → Bool
  | .tn ts, .Tuple es _ _ => ckMix blk N sc ts es
  | .nm i, .Name x _ => decide (N[i]? = some x) && locB blk sc x
  | .tp is, .Tuple es _ _ => decide (is.length = es.length) && (is.zip es).all fun p => match p.2 with
    | .Name x _ => decide (N[p.1]? = some x) && locB blk sc x
    | _ => false
  | _, _ => false
def tyB (c : Ck) (sc : Scope) (t : Ty) : Expr → Bool
  | .Name x _ => glB sc x && (match t with
    | .cls k => (match c.cls[k]? with | some p => decide (p.1 = x) && !(x == ("__debug__" : Str)) | none => false)
    | t => decide (x = (tyName t : Str)))
  | _ => false
def tysB (c : Ck) (sc : Scope) : List Ty → List Expr → Bool
  | [], [] => true
  | t :: ts, e :: es => tyB c sc t e && tysB c sc ts es
  | _, _ => false
def isiB (c : Ck) (sc : Scope) (f : Expr → Bool) (ts : List Ty) : Expr → Bool
  | .Call (.Name n _) [a, .Name x xp] [] _ => decide (n = ("isinstance" : Str)) && (glB sc n && (f a && (notStar a && tysB c sc ts [.Name x xp])))
  | .Call (.Name n _) [a, .Tuple cs _ _] [] _ => decide (n = ("isinstance" : Str)) && (glB sc n && (f a && (notStar a && (tysB c sc ts cs && decide (ts.length ≤ 1000)))))
  | _ => false
/-- a receiver whose method is called straight: no super -/
def notSuper : Expr → Bool
  | .Name .. => true
  | .Attribute .. => true
  | .Subscript .. => true
  | .Constant .. => true
  | _ => false
def isTup : Expr → Bool
  | .Tuple .. => true
  | _ => false
mutual
def ckE (c : Ck) (N : List Str) (sc : Scope) : E → Expr → Bool
  | .var i, e => (match e with | .Name x _ => nmB N sc i x | _ => false)
  | .con d, e => ckC d e
  | .glo k, e => (match e with | .Name x _ => (match c.glo[k]? with | some p => decide (p.1 = x) && (glB sc x && !(x == ("__debug__" : Str))) | none => false) | _ => false)
  | .bin op a b, e => (match e with | .BinOp l o r _ => decide (o = opOf op) && (ckE c N sc a l && ckE c N sc b r) | _ => false)
  | .binC a b, e => (match e with | .BinOp l o r _ => decide (o = .Add) && (ckE c N sc a l && ckE c N sc b r) | _ => false)
  | .fmt a, e => (match e with | .FormattedValue x n none _ => decide (n = -1) && ckE c N sc a x | _ => false)
  | .jn1 a, e => (match e with | .JoinedStr [x] _ => ckE c N sc a x | _ => false)
  | .jn es, e => (match e with | .JoinedStr (x1 :: x2 :: xs) _ => ckEs c N sc es (x1 :: x2 :: xs) | _ => false)
  | .rv _ a, e => (match e with | .Subscript x (.Slice none none (some (.UnaryOp .USub (.Constant (.int 1) _ _) _)) _) _ => ckE c N sc a x | _ => false)
  | .never, _ => true
  | .neg a, e => (match e with | .UnaryOp o x _ => decide (o = .USub) && ckE c N sc a x | _ => false)
  | .cmp op a b, e => (match e with | .Compare l [o] [r] _ => decide (o = copOf op) && (ckE c N sc a l && (ckE c N sc b r && !behindInMarks (copOf op) r)) | _ => false)
  | .chain o1 o2 x y z, e => (match e with | .Compare l [p1, p2] [m, r] _ => decide (p1 = copOf o1) && (decide (p2 = copOf o2) && (ckE c N sc x l && (ckE c N sc y m && (ckE c N sc z r && !lastMarks [copOf o1, copOf o2] [m, r])))) | _ => false)
  | .bop cj es, e => (match e with | .BoolOp o vs _ => decide (o = boOf cj) && (ckEs c N sc es vs && !vs.isEmpty) | _ => false)
  | .not a, e => (match e with | .UnaryOp o x _ => decide (o = .Not) && ckE c N sc a x | _ => false)
  | .ife t a b, e => (match e with | .IfExp te x y _ => ckT c N sc t te && (ckE c N sc a x && ckE c N sc b y) | _ => false)
  | .tup es, e => (match e with | .Tuple xs _ _ => ckEs c N sc es xs | _ => false)
  | .lst _ es, e => (match e with | .List xs _ => ckEs c N sc es xs | _ => false)
  | .dic _ es, e => (match e with | .Dict ks vs _ => ckPs c N sc es ks vs && (decide (ks.length = vs.length) && (!ks.isEmpty && decide (ks.length ≤ 15))) | _ => false)
  | .idx a i, e => (match e with | .Subscript x y _ => ckE c N sc a x && (ckE c N sc i y && notSlice y) | _ => false)
  | .sl _ a lo hi, e => (match e with | .Subscript x (.Slice l h none _) _ => ckE c N sc a x && (ckO c N sc lo l && ckO c N sc hi h) | _ => false)
  | .fld a f, e => (match e with | .Attribute x n _ => decide (n = f) && (ckE c N sc a x && notSuper x) | _ => false)
  | .call j es ds, e => (match e with | .Call (.Name x _) xs [] _ => (match c.fns[j]? with | some f => (decide (f.name = x) && f.top) && (glB sc x && (!(x == ("__debug__" : Str)) && (ckEs c N sc es xs && (decide (xs.length + ds.length = f.ps.length) && (decide (ds.length ≤ f.dfs.length ∧ f.np = f.ps.length) && scEqs ds (f.dfs.drop (f.dfs.length - ds.length))))))) | none => false) | _ => false)
  | .mk k es ds, e => (match e with | .Call (.Name x _) xs [] _ => (match c.cls[k]? with | some p => (match p.2.1.lookup ("__init__" : Str) with | some j => (match c.fns[j]? with | some f => decide (p.1 = x) && (glB sc x && (!(x == ("__debug__" : Str)) && (ckEs c N sc es xs && (decide (xs.length + 1 + ds.length = f.ps.length) && (decide (ds.length ≤ f.dfs.length ∧ f.np = f.ps.length) && scEqs ds (f.dfs.drop (f.dfs.length - ds.length))))))) | none => false) | none => false) | none => false) | _ => false)
  | .meth m o es ds, e => (match e with | .Call (.Attribute x n ap) xs [] pos => decide (n = m) && (ckE c N sc o x && (notSuper x && (ckEs c N sc es xs && (c.mdf m xs.length ds scEqs && (decide (xs.length < 30) && (ap.endLine == pos.line)))))) | _ => false)
  | .callK j es ks kes tl, e => (match e with | .Call (.Name x _) xs kws _ => (match c.fns[j]? with | some f => (decide (f.name = x) && f.top) && (glB sc x && (!(x == ("__debug__" : Str)) && (ckEs c N sc es xs && (ckKs c N sc kes ks kws && kwB f es.len ks tl)))) | none => false) | _ => false)
  | .mkK k es ks kes tl, e => (match e with | .Call (.Name x _) xs kws _ => (match c.cls[k]? with | some p => (match p.2.1.lookup ("__init__" : Str) with | some j => (match c.fns[j]? with | some f => decide (p.1 = x) && (glB sc x && (!(x == ("__debug__" : Str)) && (ckEs c N sc es xs && (ckKs c N sc kes ks kws && kwB f (es.len + 1) ks tl)))) | none => false) | none => false) | none => false) | _ => false)
  | .methK m o es ks kes tl, e => (match e with | .Call (.Attribute x n ap) xs kws pos => decide (n = m) && (ckE c N sc o x && (notSuper x && (ckEs c N sc es xs && (ckKs c N sc kes ks kws && ((c.cls.all fun p => match p.2.1.lookup m with | some j => (match c.fns[j]? with | some f => kwB f (es.len + 1) ks tl | none => false) | none => true) && (decide (xs.length + kws.length < 29) && (ap.endLine == pos.line))))))) | _ => false)
  | .bm m o es, e => (match m with
    | .index => (match e with | .Call (.Attribute x n ap) xs [] pos => decide (n = ("index" : Str)) && (ckE c N sc o x && (notCall x && (ckEs c N sc es xs && (decide (xs.length = 1) && (ap.endLine == pos.line))))) | _ => false)
    | .join => (match es with | .cons a .nil => (match e with | .Call (.Attribute x n ap) [y] [] pos => decide (n = ("join" : Str)) && (ckE c N sc o x && (notCall x && (ckE c N sc a y && (notStar y && (ap.endLine == pos.line))))) | _ => false) | _ => false)
    | .get1 => (match es with | .cons a .nil => (match e with | .Call (.Attribute x n ap) [y] [] pos => decide (n = ("get" : Str)) && (ckE c N sc o x && (notCall x && (ckE c N sc a y && (notStar y && (ap.endLine == pos.line))))) | _ => false) | _ => false)
    | .get2 => (match es with | .cons a (.cons b .nil) => (match e with | .Call (.Attribute x n ap) [y, z] [] pos => decide (n = ("get" : Str)) && (ckE c N sc o x && (notCall x && (ckE c N sc a y && (ckE c N sc b z && (notStar y && (notStar z && (ap.endLine == pos.line))))))) | _ => false) | _ => false)
    | .count => false)
  | .dnew, e => (match e with | .Dict [] [] _ => true | _ => false)
  | .blt _ b es, e => (match e with | .Call (.Name x _) xs [] _ => decide (x = bltName b) && (glB sc x && (ckEs c N sc es xs && !xs.isEmpty)) | _ => false)
  | .isi a ts, e => isiB c sc (ckE c N sc a) ts e
  | .lm m o es, e => (match m with
    | .append => (match e with | .Call (.Attribute x n ap) xs [] pos => decide (n = ("append" : Str)) && (ckE c N sc o x && (notCall x && (ckEs c N sc es xs && (decide (xs.length = 1) && (ap.endLine == pos.line))))) | _ => false)
    | _ => false)
  | .lrng _ a b, e => (match b with
    | .none => (match e with | .Call (.Name x _) [.Call (.Name y _) [u] [] _] [] _ => decide (x = ("list" : Str)) && (decide (y = ("range" : Str)) && (glB sc x && (glB sc y && (ckE c N sc a u && notStar u)))) | _ => false)
    | .some b => (match e with | .Call (.Name x _) [.Call (.Name y _) [u, v] [] _] [] _ => decide (x = ("list" : Str)) && (decide (y = ("range" : Str)) && (glB sc x && (glB sc y && (ckE c N sc a u && (ckE c N sc b v && (notStar u && notStar v)))))) | _ => false))
  | .lc _ tg it ifs elt own, e => (match e with | .ListComp x [⟨t, i, fs, 0⟩] scope _ => (ownSc sc && ckIt c N sc t it i) && (blkC N sc scope (own.filterMap fun k => (N[k]?).map fun n => (n, k)) && (decide ((own.filterMap fun k => (N[k]?).map fun n => (n, k)).map (·.2) = own) && (ckTg true N (relS scope sc) tg t && (tgIn tg own && (ckA c N (relS scope sc) ifs fs && (ckE c N (relS scope sc) elt x && notSet i)))))) | _ => false)
  | .frz a, e => ckE c N sc a e
  | .told i a, e => (match e with | .Call (.Name x _) [.Lambda ⟨[], [], none, [], [], none, []⟩ bd scp _] [] _ => (match c.tells[i]? with | some t => decide (t.nm = x) && (glB sc x && (ownSc sc && (LamX.lamSB sc scp && ckE c N scp a bd))) | none => false) | _ => false)
def ckO (c : Ck) (N : List Str) (sc : Scope) : Eo → Option Expr → Bool
  | .none, e => e.isNone
  | .some a, e => (match e with | some e => ckE c N sc a e | none => false)
def ckPs (c : Ck) (N : List Str) (sc : Scope) : Es → List (Option Expr) → List Expr → Bool
  | .nil, ks, vs => ks.isEmpty && vs.isEmpty
  | .cons _ .nil, _, _ => false
  | .cons a (.cons b r), ks, vs => (match ks, vs with | some k :: ks, v :: vs => ckE c N sc a k && (ckE c N sc b v && ckPs c N sc r ks vs) | _, _ => false)
def ckEs (c : Ck) (N : List Str) (sc : Scope) : Es → List Expr → Bool
  | .nil, es => es.isEmpty
  | .cons a r, es => (match es with | e :: es => ckE c N sc a e && (notStar e && ckEs c N sc r es) | [] => false)
def ckKs (c : Ck) (N : List Str) (sc : Scope) : Es → List Str → List Keyword → Bool
  | .nil, ks, kws => ks.isEmpty && kws.isEmpty
  | .cons a r, ks, kws => (match ks, kws with | k :: ks, ⟨some n, e, _⟩ :: kws => decide (n = k) && (ckE c N sc a e && ckKs c N sc r ks kws) | _, _ => false)
def ckT (c : Ck) (N : List Str) (sc : Scope) : T → Expr → Bool
  | .bop cj ts, e => (match e with | .BoolOp o vs _ => decide (o = boOf cj) && (ckTs c N sc ts vs && !vs.isEmpty) | _ => false)
  | .not t, e => (match e with | .UnaryOp o x _ => decide (o = .Not) && ckT c N sc t x | _ => false)
  | .cmp op a b, e => (match e with | .Compare l [o] [r] _ => decide (o = copOf op) && (ckE c N sc a l && (ckE c N sc b r && !behindInMarks (copOf op) r)) | _ => false)
  | .chain o1 o2 x y z, e => (match e with | .Compare l [p1, p2] [m, r] _ => decide (p1 = copOf o1) && (decide (p2 = copOf o2) && (ckE c N sc x l && (ckE c N sc y m && (ckE c N sc z r && !lastMarks [copOf o1, copOf o2] [m, r])))) | _ => false)
  | .isi a ts, e => isiB c sc (ckE c N sc a) ts e
  | .val a, e => ckE c N sc a e && plainT e
def ckTs (c : Ck) (N : List Str) (sc : Scope) : Ts → List Expr → Bool
  | .nil, es => es.isEmpty
  | .cons a r, es => (match es with | e :: es => ckT c N sc a e && ckTs c N sc r es | [] => false)
def ckA (c : Ck) (N : List Str) (sc : Scope) : To → List Expr → Bool
  | .none, es => es.isEmpty
  | .some t, es => (match es with | [e] => ckT c N sc t e | _ => false)
def ckIt (c : Ck) (N : List Str) (sc : Scope) (t : Expr) : It → Expr → Bool
  | .seq a, e => ckE c N sc a e
  | .rng1 a, e => (match e with | .Call (.Name x _) [u] [] _ => decide (x = ("range" : Str)) && (glB sc x && (ckE c N sc a u && notStar u)) | _ => false)
  | .rng2 a b, e => (match e with | .Call (.Name x _) [u, v] [] _ => decide (x = ("range" : Str)) && (glB sc x && (ckE c N sc a u && (ckE c N sc b v && (notStar u && notStar v)))) | _ => false)
  | .enum a, e => (match e with | .Call (.Name x _) [u] [] _ => decide (x = ("enumerate" : Str)) && (glB sc x && (ckE c N sc a u && (notStar u && isTup t))) | _ => false)
  | .zip a b, e => (match e with | .Call (.Name x _) [u, v] [] _ => decide (x = ("zip" : Str)) && (glB sc x && (ckE c N sc a u && (ckE c N sc b v && (notStar u && (notStar v && isTup t))))) | _ => false)
  | .rev a, e => (match e with | .Call (.Name x _) [u] [] _ => decide (x = ("reversed" : Str)) && (glB sc x && (ckE c N sc a u && notStar u)) | _ => false)
end
/-! ### small facts -/
theorem ckEs_star {c : Ck} {N : List Str} {sc : Scope} : ∀ {ir : Es} {es : List Expr}, ckEs c N sc ir es = true → es.all notStar = true
  | .nil, es, h => by
    simp only [ckEs, List.isEmpty_iff] at h
    rw [h]
    rfl
  | .cons a r, es, h => by
    simp only [ckEs] at h
    split at h
    · simp only [Bool.and_eq_true] at h
      rw [List.all_cons, h.2.1, ckEs_star h.2.2]
      rfl
    · cases h
theorem ckEs_nil {c : Ck} {N : List Str} {sc : Scope} {ir : Es} {es : List Expr} (h : ckEs c N sc ir es = true) : es = [] → ir = .nil := fun z => by
  subst z
  cases ir with
  | nil => rfl
  | cons _ _ => simp [ckEs] at h
theorem star1 {a : Expr} {es : List Expr} {env : PySem.Env} (h : notStar a = true) : starEach (a :: es) env = (false, eval a env) :: starEach es env := by
  cases a <;> first | rfl | cases h
theorem star_any {pos : Pos} {env : PySem.Env} : ∀ {es : List Expr}, es.all notStar = true → (backTo pos (starEach es env)).any (·.1) = false
  | [], _ => rfl
  | e :: es, h => by
    rw [List.all_cons, Bool.and_eq_true] at h
    rw [star1 h.1]
    show (false || (backTo pos (starEach es env)).any (·.1)) = false
    rw [star_any h.2]
    rfl
theorem star_all {pos : Pos} {env : PySem.Env} : ∀ {es : List Expr}, es.all notStar = true → (backTo pos (starEach es env)).all (fun x => !x.1) = true
  | [], _ => rfl
  | e :: es, h => by
    rw [List.all_cons, Bool.and_eq_true] at h
    rw [star1 h.1]
    show (true && (backTo pos (starEach es env)).all (fun x => !x.1)) = true
    rw [star_all h.2]
    rfl
theorem super_plain {o : Expr} {n : Str} {env : PySem.Env} {w : Sem Value} (h : notSuper o = true) : attributeBase o n env w = w := by
  cases o <;> first | rfl | cases h
theorem meth_tree {o : Expr} {m : Str} {apos pos : Pos} {es : List Expr} {env : PySem.Env} (h : notSuper o = true) (hs : es.all notStar = true) (hn : es.length < 30) (hl : (apos.endLine == pos.line) = true) : ∃ pl : Sem Bool, eval (.Call (.Attribute o m apos) es [] pos) env = (do
      let ov ← eval o env
      standAt apos.atName
      let (f, first) ← holding [ov] (getMethod ov m pl)
      callWith pos f first (backTo pos (starEach es env)) (backToKw pos (keywordEach [] env))) := by
  refine ⟨(do return (← importBound o env).getD true), ?_⟩
  have hf : methodCallForm (es.length + ([] : List Keyword).length) (backTo pos (starEach es env)) (backToKw pos (keywordEach [] env)) = true := by
    unfold methodCallForm
    rw [star_all hs]
    show (true && true && decide (es.length + 0 + 0 < 30)) = true
    simp [hn]
  rw [arm_eval_Call, super_plain h]
  unfold methodCall calleeOf methodCallPos
  rw [hf]
  simp only [Bool.not_true, Bool.false_or, hl, if_true, pure_bind]
/-- .. with keywords -/
theorem ckKs_len {c : Ck} {N : List Str} {sc : Scope} : ∀ {ir : Es} {ks : List Str} {kws : List Keyword}, ckKs c N sc ir ks kws = true → ir.len = ks.length ∧ kws.length = ks.length ∧ ∀ (pos : Pos) (env : PySem.Env), (backToKw pos (keywordEach kws env)).all (·.1.isSome) = true ∧ (backToKw pos (keywordEach kws env)).filterMap (·.1) = ks ∧ (backToKw pos (keywordEach kws env)).any (·.1.isNone) = false
  | .nil, ks, kws, h => by
    simp only [ckKs, Bool.and_eq_true, List.isEmpty_iff] at h
    obtain ⟨rfl, rfl⟩ := h
    exact ⟨rfl, rfl, fun pos env => ⟨rfl, rfl, rfl⟩⟩
  | .cons a r, ks, kws, h => by
    simp only [ckKs] at h
    split at h
    · simp only [Bool.and_eq_true, decide_eq_true_eq] at h
      obtain ⟨rfl, h1, h2⟩ := h
      obtain ⟨i1, i2, i3⟩ := ckKs_len h2
      refine ⟨congrArg (· + 1) i1, congrArg (· + 1) i2, fun pos env => ?_⟩
      obtain ⟨j1, j2, j3⟩ := i3 pos env
      refine ⟨j1, congrArg (_ :: ·) j2, j3⟩
    · cases h
theorem kw_text {X : Cx} {c : Ck} {N : List Str} {sc : Scope} {pos : Pos} {ir kir : Es} {es : List Expr} {ks : List Str} {kws : List Keyword} (h : ckEs c N sc ir es = true) (h2 : ckKs c N sc kir ks kws = true) : KwT X pos es kws ks := by
  obtain ⟨_, _, h3⟩ := ckKs_len h2
  obtain ⟨j1, j2, j3⟩ := h3 pos X.env
  have hst := ckEs_star h
  refine ⟨j1, j2, ?_, ?_⟩
  · rw [star_any hst, j3]
    rfl
  · cases es with
    | nil => exact .inl rfl
    | cons y ys =>
      rw [List.all_cons, Bool.and_eq_true] at hst
      exact .inr ⟨y, ys, rfl, star1 hst.1⟩
theorem meth_treeK {o : Expr} {m : Str} {apos pos : Pos} {es : List Expr} {kws : List Keyword} {env : PySem.Env} (h : notSuper o = true) (hs : es.all notStar = true) (hk : (backToKw pos (keywordEach kws env)).all (·.1.isSome) = true) (hn : es.length + kws.length < 29) (hl : (apos.endLine == pos.line) = true) : ∃ pl : Sem Bool, eval (.Call (.Attribute o m apos) es kws pos) env = (do
      let ov ← eval o env
      standAt apos.atName
      let (f, first) ← holding [ov] (getMethod ov m pl)
      callWith pos f first (backTo pos (starEach es env)) (backToKw pos (keywordEach kws env))) := by
  refine ⟨(do return (← importBound o env).getD true), ?_⟩
  have hf : methodCallForm (es.length + kws.length) (backTo pos (starEach es env)) (backToKw pos (keywordEach kws env)) = true := by
    unfold methodCallForm
    rw [star_all hs, hk]
    simp only [Bool.true_and, decide_eq_true_eq]
    split <;> omega
  rw [arm_eval_Call, super_plain h]
  unfold methodCall calleeOf methodCallPos
  rw [hf]
  simp only [Bool.not_true, Bool.false_or, hl, if_true, pure_bind]
theorem base_plain {o : Expr} {n : Str} {env : PySem.Env} {w : Sem Value} (h : notCall o = true) : attributeBase o n env w = w := by
  cases o <;> first | rfl | cases h
theorem true_plain {a : Expr} {env : PySem.Env} (h : plainT a = true) : ∀ whole, isTrue a env whole = (do let v ← whole; standAt a.pos; holding [v] (truthy v)) := by
  cases a <;> first | (intro _; rfl) | cases h
theorem ix_plain {b : Expr} (h : notSlice b = true) : PlainIx b := by
  cases b <;> first | (intro _ _; rfl) | cases h
theorem set_plain {e : Expr} {env : PySem.Env} (h : notSet e = true) : ∀ x, foldedSetIterable e env x = pure x := by
  cases e <;> first | (intro _; rfl) | cases h
theorem bool_true {b : Bool} (h : (!b) = true) : b = false := by cases b <;> first | rfl | cases h
end DL
/-! DL12: the look is sound. -/
namespace DL
open PySem PySem.Spec PyProof.Rows L2
/-- the names that the text leaves to the built-ins -/
def bltNames : List Str := ["len", "abs", "min", "max", "sum", "all", "any", "int", "str", "bool", "list", "tuple", "sorted", "dict", "range", "enumerate", "zip", "isinstance", "reversed", "super", "ValueError"]
/-- what one knows of the text -/
structure Txt (g : G) (c : Ck) (P : Par) (k : Nat) (fd : Nat → FuncData) : Prop where
  calls : ∀ j f, c.fns[j]? = some f → FnOk g.P g.w g.K g.mg g.base (L2N.CX g.P g.w) (k + 1) (g.fA j) (fd j) f.ps (spF g P.C j)
  calls1 : ∀ j f, c.fns[j]? = some f → FnOk g.P g.w g.K g.mg g.base (L2N.CX g.P g.w) k (g.fA j) (fd j) f.ps (spF g P.C1 j)
  mgf : ∀ j f, c.fns[j]? = some f → f.top = true → g.mg f.name = some (.ref (g.fA j)) ∧ PySem.W.keepIn g.K (.ref (g.fA j)) = true
  bnd : ∀ j f, c.fns[j]? = some f → f.np = f.ps.length → ∀ m, m ≤ f.dfs.length → ∃ ds dvs, Binds g.K (fd j) f.ps ds ∧ Vals dvs ds ∧ ∀ H, Dens g H dvs (f.dfs.drop m)
  bnd0 : ∀ j f, c.fns[j]? = some f → f.np = f.ps.length → Binds g.K (fd j) f.ps []
  kw : ∀ j f, c.fns[j]? = some f → ∀ n ks tl, kwB f n ks tl = true → KwOk g (fd j) f.ps n ks tl
  mnp : ∀ i m j f, c.methOf i m = some j → dun m = true → c.fns[j]? = some f → f.np = f.ps.length
  pnp : ∀ i m j f, c.propOf i m = some j → c.fns[j]? = some f → f.np = f.ps.length
  glo : ∀ (i : Nat) (p : Str × DL.D), c.glo[i]? = some p → ∃ u v, g.mg p.1 = some u ∧ RelV v u ∧ ∀ H, Den g H v p.2
  gloP : ∀ i, P.glo i = (c.glo[i]?).map (·.2)
  blt : ∀ x ∈ bltNames, g.mg x = none
  nC : g.nC = c.cls.length
  cls : ∀ i, i < g.nC → ClsOk g i
  mgc : ∀ i p, c.cls[i]? = some p → g.mg p.1 = some (.ref (g.cA i))
  methP : P.methOf = c.methOf
  propP : P.propOf = c.propOf
  fldP : P.fldOk = c.fldOk
  meth : ∀ i m j, i < g.nC → c.methOf i m = some j → Meth g.K (g.cA i) m (g.fA j) ∧ (c.fns[j]?).isSome = true
  init : ∀ i j, i < g.nC → c.methOf i "__init__" = some j → Mk g.K (g.cA i) (g.fA j)
  prop : ∀ i m j, i < g.nC → c.propOf i m = some j → (∃ p, PropOf g.K (g.cA i) m p (g.fA j)) ∧ (c.fns[j]?).isSome = true
  fld : ∀ i f, i < g.nC → c.fldOk i f = true → NoAttr g.K (g.cA i) f
  k1 : 1 ≤ k
  exc : ∀ i p, c.xs[i]? = some p → XOk g (g.xA i) p.2 ∧ g.mg p.1 = some (.ref (g.xA i))
  exfP : ∀ i, P.exf i = (c.xs[i]?).map (·.2)
  tell : ∀ (i : Nat) (t : TellD), c.tells[i]? = some t → TellOk g (c.xs.map (·.1)) t
  tellP : ∀ (i : Nat) (t : TellD) (e : Exn), c.tells[i]? = some t → P.tell i e = if e.c < c.xs.length then t.ans e else none
section
variable {g : G} {X : Cx} {W : WX} {P : Par} {pos : Pos} {c : Ck} {k : Nat} {fd : Nat → FuncData} {N : List Str} {sc : Scope}
theorem Ok.gl (ok : Ok g X W N sc k) {x : Str} (h : glB sc x = true) : Gl X x := glB_gl ok.sc h
theorem Ok.un (ok : Ok g X W N sc k) : X.A.units + 64 < cLine := ok.room.units
theorem Ok.blt (ok : Ok g X W N sc k) (T : Txt g c P k fd) {x : Str} (h : x ∈ bltNames) : X.mg x = none := by
  rw [ok.mg]
  exact T.blt x h
theorem Ok.own (ok : Ok g X W N sc k) (T : Txt g c P k fd) : Own g X P k := ⟨ok.K, T.cls, ok.room, fun i m j hi hj => by
    rw [T.methP] at hj
    obtain ⟨M, hs⟩ := T.meth i m j hi hj
    obtain ⟨f, ef⟩ := Option.isSome_iff_exists.mp hs
    have F := T.calls _ _ ef
    have F1 := T.calls1 _ _ ef
    have B := fun hd : dun m = true => T.bnd0 _ _ ef (T.mnp i m j f hj hd ef)
    rw [← ok.P, ← ok.w, ← ok.K, ← ok.mg, ← ok.base] at F F1
    rw [← ok.K] at B
    exact ⟨_, _, M, F, F1, B⟩, fun i m j hi hj => by
    rw [T.propP] at hj
    obtain ⟨⟨p, M⟩, hs⟩ := T.prop i m j hi hj
    obtain ⟨f, ef⟩ := Option.isSome_iff_exists.mp hs
    have F1 := T.calls1 _ _ ef
    have B := T.bnd0 _ _ ef (T.pnp i m j f hj ef)
    rw [← ok.P, ← ok.w, ← ok.K, ← ok.mg, ← ok.base] at F1
    rw [← ok.K] at B
    exact ⟨p, _, _, M, F1, B⟩, fun i f hi hf => by
    rw [T.fldP] at hf
    exact T.fld i f hi hf⟩
theorem ok_ty (ok : Ok g X W N sc k) (T : Txt g c P k fd) {t : Ty} {e : Expr} (h : tyB c sc t e = true) : PE X e (tC (tyW g t)) ∧ tyIn g t ∧ notStar e = true := by
  unfold tyB at h
  split at h
  · simp only [Bool.and_eq_true] at h
    obtain ⟨h1, h2⟩ := h
    have hg := ok.gl h1
    cases t with
    | cls i =>
      dsimp only at h2
      split at h2
      · rename_i p q
        simp only [Bool.and_eq_true, decide_eq_true_eq, Bool.not_eq_true'] at h2
        obtain ⟨rfl, h3⟩ := h2
        have hi : i < g.nC := by rw [T.nC]; exact (List.getElem?_eq_some_iff.mp q).1
        exact ⟨pe_glob hg (by rw [ok.mg]; exact T.mgc _ _ q) (show RelV (.ref (g.cA i)) (.ref (g.cA i)) from rfl) h3, hi, rfl⟩
      · cases h2
    | int => cases of_decide_eq_true h2; exact ⟨pe_bltn hg (ok.blt T (by decide +kernel)) (show bootBuiltins _ = some (.type "int") by decide +kernel) rfl, trivial, rfl⟩
    | bool => cases of_decide_eq_true h2; exact ⟨pe_bltn hg (ok.blt T (by decide +kernel)) (show bootBuiltins _ = some (.type "bool") by decide +kernel) rfl, trivial, rfl⟩
    | str => cases of_decide_eq_true h2; exact ⟨pe_bltn hg (ok.blt T (by decide +kernel)) (show bootBuiltins _ = some (.type "str") by decide +kernel) rfl, trivial, rfl⟩
    | lst => cases of_decide_eq_true h2; exact ⟨pe_bltn hg (ok.blt T (by decide +kernel)) (show bootBuiltins _ = some (.type "list") by decide +kernel) rfl, trivial, rfl⟩
    | tup => cases of_decide_eq_true h2; exact ⟨pe_bltn hg (ok.blt T (by decide +kernel)) (show bootBuiltins _ = some (.type "tuple") by decide +kernel) rfl, trivial, rfl⟩
    | dic => cases of_decide_eq_true h2; exact ⟨pe_bltn hg (ok.blt T (by decide +kernel)) (show bootBuiltins _ = some (.type "dict") by decide +kernel) rfl, trivial, rfl⟩
  · cases h
theorem ok_tys (ok : Ok g X W N sc k) (T : Txt g c P k fd) : ∀ {ts : List Ty} {es : List Expr}, tysB c sc ts es = true → (∀ t ∈ ts, tyIn g t) ∧ ∃ ta : TA, PA X es ta ∧ ∀ σ H Q, Q (ts.map (tyW g)) H → ta σ H Q
  | [], [], _ => ⟨fun _ h => (by cases h), tNil, pa_nil, fun σ H Q q => q⟩
  | [], _ :: _, h => by cases h
  | _ :: _, [], h => by cases h
  | t :: ts, e :: es, h => by
    have h := Bool.and_eq_true_iff.mp h
    obtain ⟨h1, h2, h3⟩ := ok_ty ok T h.1
    obtain ⟨h4, ta, h5, h6⟩ := ok_tys ok T h.2
    exact ⟨fun t' ht => (List.mem_cons.mp ht).elim (fun e => by rw [e]; exact h2) (h4 t'), _, pa_cons h1 h5 (star1 h3), fun σ H Q q => h6 σ H _ q⟩
theorem ok_isi (ok : Ok g X W N sc k) (T : Txt g c P k fd) {f : Expr → Bool} {ia : E} (ih : ∀ e, f e = true → SE g W X e (evE P ia)) {ts : List Ty} {e : Expr} (h : isiB c sc f ts e = true) : SE g W X e (evE P (.isi ia ts)) := by
  unfold isiB at h
  split at h
  · rename_i n p a x xp pos
    simp only [Bool.and_eq_true, decide_eq_true_eq] at h
    obtain ⟨rfl, h1, h2, h3, h4⟩ := h
    cases ts with
    | nil => cases h4
    | cons t ts =>
      cases ts with
      | cons _ _ => simp [tysB] at h4
      | nil =>
        simp only [tysB, Bool.and_true] at h4
        obtain ⟨q1, q2, q3⟩ := ok_ty ok T h4
        exact isi_read1 (ok.own T) (ok.gl h1) (ok.blt T (by decide +kernel)) (ih _ h2) q1 (star1 h3) (star1 q3) (star_any (by simp [notStar])) q2
  · rename_i n p a cs cn cp pos
    simp only [Bool.and_eq_true, decide_eq_true_eq] at h
    obtain ⟨rfl, h1, h2, h3, h4, h5⟩ := h
    obtain ⟨q1, ta, q2, q3⟩ := ok_tys ok T h4
    exact isi_readT (ok.own T) (ok.gl h1) (ok.blt T (by decide +kernel)) (ih _ h2) q2 q3 (star1 h3) (star1 rfl) (star_any (by simp [notStar])) q1 h5
  · cases h
/-- methods' defaults -/
theorem Ok.mdf (ok : Ok g X W N sc k) (T : Txt g c P k fd) {m : Str} {n : Nat} {ds : List DL.D} (h : c.mdf m n ds scEqs = true) : MDf g X P m ds := fun i j hi hj => by
  rw [T.methP] at hj
  obtain ⟨M, hs⟩ := T.meth i m j hi hj
  obtain ⟨f, ef⟩ := Option.isSome_iff_exists.mp hs
  unfold Ck.methOf at hj
  obtain ⟨p, ep, el⟩ := Option.bind_eq_some_iff.mp hj
  have h1 := List.all_eq_true.mp h p (List.mem_of_getElem? ep)
  rw [el] at h1
  dsimp only at h1
  rw [ef] at h1
  simp only [Bool.and_eq_true, decide_eq_true_eq] at h1
  have h6 := scEqs_eq h1.2.2
  obtain ⟨dsv, dvs, b1, b2, b3⟩ := T.bnd _ _ ef h1.2.1.2 (f.dfs.length - ds.length) (Nat.sub_le _ _)
  rw [← h6] at b3
  have F := T.calls _ _ ef
  rw [← ok.P, ← ok.w, ← ok.K, ← ok.mg, ← ok.base] at F
  rw [← ok.K] at b1
  exact ⟨_, _, _, _, _, M, F, ok.room, b1, b2, b3⟩
theorem Ok.mdf1 (ok : Ok g X W N sc k) (T : Txt g c P k fd) {i j : Nat} {f : FnI} {ds : List DL.D} (hi : i < g.nC) (hj : c.methOf i "__init__" = some j) (ef : c.fns[j]? = some f) (hnp : f.np = f.ps.length) (h6 : ds = f.dfs.drop (f.dfs.length - ds.length)) : MDf1 g X P i ds := fun j' hj' => by
  rw [T.methP, hj] at hj'
  cases hj'
  have M := T.init i j hi hj
  obtain ⟨dsv, dvs, b1, b2, b3⟩ := T.bnd _ _ ef hnp (f.dfs.length - ds.length) (Nat.sub_le _ _)
  rw [← h6] at b3
  have F := T.calls1 _ _ ef
  rw [← ok.P, ← ok.w, ← ok.K, ← ok.mg, ← ok.base] at F
  rw [← ok.K] at b1
  exact ⟨_, _, _, _, _, M, F, ok.room, b1, b2, b3⟩
/-- targets -/
theorem ok_pgs {blk : Bool} (hN : N.Nodup) (ok : Ok g X W N sc k) (hb : blk = false → ∀ x, X.fn x = true) : ∀ {is : List Nat} {es : List Expr}, is.length = es.length → ((is.zip es).all fun p => match p.2 with
    | .Name x _ => decide (N[p.1]? = some x) && locB blk sc x
    | _ => false) = true → PGs X es (gsNames is) ∧ (assignEach es X.env).length = is.length ∧ (assignEach es X.env).findIdx? (·.1) = none
  | [], [], _, _ => ⟨pgs_nil, rfl, rfl⟩
  | [], _ :: _, h, _ => by cases h
  | _ :: _, [], h, _ => by cases h
  | i :: is, e :: es, hl, h => by
    rw [List.zip_cons_cons, List.all_cons, Bool.and_eq_true] at h
    obtain ⟨h1, h2⟩ := h
    obtain ⟨q1, q2, q3⟩ := ok_pgs hN ok hb (by simpa using hl) h2
    dsimp only at h1
    split at h1
    · rename_i x p
      simp only [Bool.and_eq_true, decide_eq_true_eq] at h1
      unfold locB at h1
      simp only [Bool.or_eq_true, Bool.and_eq_true, decide_eq_true_eq] at h1
      obtain ⟨h3, h4⟩ := h1
      have hp : PG X (.Name x p) (gName i) := by
        refine pg_name (by rw [ok.N]; exact hN) (by rw [ok.N]; exact h3) ?_ ?_
        · rw [ok.sc]
          exact h4.imp id (·.2)
        · rw [ok.sc]
          exact h4.elim .inr fun z => .inl (hb (bool_true z.1) x)
      exact ⟨pgs_cons hp q1 rfl, congrArg Nat.succ q2, by show List.findIdx? _ ((false, _) :: _) = none; rw [List.findIdx?_cons]; simp [q3]⟩
    · cases h1
theorem ok_t1 {blk : Bool} (ok : Ok g X W N sc k) (hb : blk = false → ∀ x, X.fn x = true) {t : Nat ⊕ List Nat} {e : Expr} (h : ckT1 blk N sc t e = true) : PG X e (g1 X.K t) ∧ ∀ es, assignEach (e :: es) X.env = (false, assign e X.env) :: assignEach es X.env := by
  unfold ckT1 at h
  split at h
  · rename_i i x p
    simp only [Bool.and_eq_true, decide_eq_true_eq] at h
    unfold locB at h
    simp only [Bool.or_eq_true, Bool.and_eq_true, decide_eq_true_eq] at h
    obtain ⟨h3, h4⟩ := h
    refine ⟨pg_name (by rw [ok.N]; exact ok.nd) (by rw [ok.N]; exact h3) ?_ ?_, fun es => rfl⟩
    · rw [ok.sc]
      exact h4.imp id (·.2)
    · rw [ok.sc]
      exact h4.elim .inr fun z => .inl (hb (bool_true z.1) x)
  · rename_i is es n p
    simp only [Bool.and_eq_true, decide_eq_true_eq] at h
    obtain ⟨q1, q2, q3⟩ := ok_pgs ok.nd ok hb h.1 h.2
    exact ⟨pg_tup ok.calm q1 q2 q3, fun es => rfl⟩
  · cases h
theorem ok_mix {blk : Bool} (ok : Ok g X W N sc k) (hb : blk = false → ∀ x, X.fn x = true) : ∀ {ts : List (Nat ⊕ List Nat)} {es : List Expr}, ckMix blk N sc ts es = true → PGs X es (gsMix X.K ts) ∧ (assignEach es X.env).length = ts.length ∧ (assignEach es X.env).findIdx? (·.1) = none
  | [], [], _ => ⟨pgs_nil, rfl, rfl⟩
  | [], _ :: _, h => by cases h
  | _ :: _, [], h => by cases h
  | t :: ts, e :: es, h => by
    have h : (ckT1 blk N sc t e && ckMix blk N sc ts es) = true := h
    obtain ⟨h1, h2⟩ := Bool.and_eq_true_iff.mp h
    obtain ⟨q1, q2, q3⟩ := ok_mix ok hb h2
    obtain ⟨hp, ha⟩ := ok_t1 ok hb h1
    exact ⟨pgs_cons hp q1 (by rw [ha]; rfl), by rw [ha, List.length_cons, q2]; rfl, by rw [ha, List.findIdx?_cons]; simp [q3]⟩
theorem ok_tg {blk : Bool} (ok : Ok g X W N sc k) (hb : blk = false → ∀ x, X.fn x = true) {tg : Tg} {e : Expr} (h : ckTg blk N sc tg e = true) : PG X e (gTg X.K tg) := by
  unfold ckTg at h
  split at h
  · rename_i ts es n p
    obtain ⟨q1, q2, q3⟩ := ok_mix ok hb h
    exact pg_tup ok.calm q1 q2 q3
  · rename_i i x p
    simp only [Bool.and_eq_true, decide_eq_true_eq] at h
    unfold locB at h
    simp only [Bool.or_eq_true, Bool.and_eq_true, decide_eq_true_eq] at h
    obtain ⟨h3, h4⟩ := h
    refine pg_name (by rw [ok.N]; exact ok.nd) (by rw [ok.N]; exact h3) ?_ ?_
    · rw [ok.sc]
      exact h4.imp id (·.2)
    · rw [ok.sc]
      exact h4.elim .inr fun z => .inl (hb (bool_true z.1) x)
  · rename_i is es n p
    simp only [Bool.and_eq_true, decide_eq_true_eq] at h
    obtain ⟨q1, q2, q3⟩ := ok_pgs ok.nd ok hb h.1 h.2
    exact pg_tup ok.calm q1 q2 q3
  · cases h
/-- within a lambda -/
theorem Ok.lamb (ok : Ok g X W N sc k) {scp : Scope} (hs : LamX.lamSB sc scp = true) {A : Around} {outer : List PySem.Env} {s : Shared} {H : Hp} {E : XK} {f d : Addr} (hr : Room (k + 1) (A.deeper (LamX.lamEnv X scp s.heap.objs.size f d))) : Ok g (lamN X A outer s H E scp f d) (WC E) N scp k :=
  ⟨ok.P, ok.w, ok.K, ok.mg, ok.base, ok.N, ok.nd, rfl, rfl, hr, L2N.takes_of (E₁ := fun e' s'' => L2N.CX X.prog X.w outer H s E e' s'') rfl rfl rfl rfl, fun z => by
    have L := LamX.lamS_by hs
    have z : ownSc scp = true := z
    unfold ownSc at z
    obtain ⟨y, hy, hk⟩ := List.any_eq_true.mp z
    simp only [Bool.or_eq_true, decide_eq_true_eq] at hk
    exact (hk.elim (L.own y hy).1 (L.own y hy).2).elim⟩
/-- within a block -/
theorem Ok.blk (ok : Ok g X W N sc k) (ho : ownSc sc = true) (s : Shared) (H : Hp) (scope : Scope) (C : Addr) (cl : List (Str × Addr)) (fp : List Addr) : Ok g (X.blk s H scope (compEnvC scope cl C X.env) fp) WF N (relS scope sc) k :=
  ⟨ok.P, ok.w, ok.K, ok.mg, ok.base, ok.N, ok.nd, by rw [← ok.sc]; rfl, ok.calm, ok.room, fun u s' ⟨a, B, sI, pins, σ, H, cls, d, e, I, nb, up, sky, na, os, ag, w⟩ => w, fun _ => ok.lam (by rw [ok.sc]; exact ho)⟩
mutual
theorem okE (T : Txt g c P k fd) : ∀ (ir : E) {X : Cx} {W : WX} {N : List Str} {sc : Scope} (_ : Ok g X W N sc k) {e : Expr}, ckE c N sc ir e = true → SE g W X e (evE P ir)
  | .var i, X, W, N, sc, ok, e, h => by
    simp only [ckE] at h
    split at h
    · unfold nmB at h
      simp only [Bool.and_eq_true, decide_eq_true_eq, Bool.not_eq_true'] at h
      exact se_var (pe_var (by rw [ok.N]; exact h.1) (visB_vis ok.sc h.2.1) h.2.2.1 h.2.2.2)
    · cases h
  | .con d, X, W, N, sc, ok, e, h => by
    simp only [ckE] at h
    unfold ckC at h
    split at h
    · exact se_con pe_non fun _ => .non
    · cases of_decide_eq_true h
      exact se_con pe_bl fun _ => .bl _
    · cases of_decide_eq_true h
      exact se_con pe_int fun _ => .int _
    · cases of_decide_eq_true h
      exact se_con pe_str fun _ => .str _
    · cases h
  | .glo j, X, W, N, sc, ok, e, h => by
    simp only [ckE] at h
    split at h
    · split at h
      · rename_i p q
        simp only [Bool.and_eq_true, decide_eq_true_eq, Bool.not_eq_true'] at h
        obtain ⟨rfl, h2, h3⟩ := h
        obtain ⟨u, v, e1, e2, e3⟩ := T.glo _ _ q
        refine se_glo (pe_glob (ok.gl h2) (by rw [ok.mg]; exact e1) e2 h3) fun x hx => ?_
        rw [T.gloP, q] at hx
        cases hx
        exact e3
      · cases h
    · cases h
  | .bin op a b, X, W, N, sc, ok, e, h => by
    simp only [ckE] at h
    split at h
    · simp only [Bool.and_eq_true, decide_eq_true_eq] at h
      obtain ⟨rfl, h1, h2⟩ := h
      exact se_bin (ok.own T) (okE T a ok h1) (okE T b ok h2)
    · cases h
  | .binC a b, X, W, N, sc, ok, e, h => by
    simp only [ckE] at h
    split at h
    · simp only [Bool.and_eq_true, decide_eq_true_eq] at h
      obtain ⟨rfl, h1, h2⟩ := h
      exact se_binC (ok.own T) (okE T a ok h1) (okE T b ok h2)
    · cases h
  | .fmt a, X, W, N, sc, ok, e, h => by
    simp only [ckE] at h
    split at h
    · simp only [Bool.and_eq_true, decide_eq_true_eq] at h
      obtain ⟨rfl, h1⟩ := h
      exact se_fmt (okE T a ok h1)
    · cases h
  | .jn1 a, X, W, N, sc, ok, e, h => by
    simp only [ckE] at h
    split at h
    · exact se_jn1 (okE T a ok h)
    · cases h
  | .jn es, X, W, N, sc, ok, e, h => by
    simp only [ckE] at h
    split at h
    · exact se_jn (okJ T es ok h)
    · cases h
  | .rv cl a, X, W, N, sc, ok, e, h => by
    simp only [ckE] at h
    split at h
    · exact se_rv ok.K (okE T a ok h)
    · cases h
  | .never, X, W, N, sc, ok, e, h => se_never
  | .neg a, X, W, N, sc, ok, e, h => by
    simp only [ckE] at h
    split at h
    · simp only [Bool.and_eq_true, decide_eq_true_eq] at h
      obtain ⟨rfl, h1⟩ := h
      exact se_neg (ok.own T) (okE T a ok h1)
    · cases h
  | .cmp op a b, X, W, N, sc, ok, e, h => by
    simp only [ckE] at h
    split at h
    · simp only [Bool.and_eq_true, decide_eq_true_eq, Bool.not_eq_true'] at h
      obtain ⟨rfl, h1, h2, h3⟩ := h
      exact se_cmp (ok.own T) ok.w ok.un (okE T a ok h1) (okE T b ok h2) h3
    · cases h
  | .chain o1 o2 x y z, X, W, N, sc, ok, e, h => by
    simp only [ckE] at h
    split at h
    · simp only [Bool.and_eq_true, decide_eq_true_eq, Bool.not_eq_true'] at h
      obtain ⟨rfl, rfl, h1, h2, h3, h4⟩ := h
      exact se_chain (ok.own T) ok.w ok.un (okE T x ok h1) (okE T y ok h2) (okE T z ok h3) h4
    · cases h
  | .bop cj es, X, W, N, sc, ok, e, h => by
    simp only [ckE] at h
    split at h
    · rename_i o vs p
      simp only [Bool.and_eq_true, decide_eq_true_eq, Bool.not_eq_true'] at h
      obtain ⟨rfl, h1, h2⟩ := h
      exact okB T es ok h1 (by intro z; rw [z] at h2; cases h2)
    · cases h
  | .not a, X, W, N, sc, ok, e, h => by
    simp only [ckE] at h
    split at h
    · simp only [Bool.and_eq_true, decide_eq_true_eq] at h
      obtain ⟨rfl, h1⟩ := h
      exact se_not (okE T a ok h1)
    · cases h
  | .ife t a b, X, W, N, sc, ok, e, h => by
    simp only [ckE] at h
    split at h
    · simp only [Bool.and_eq_true] at h
      exact se_ife (okT T t ok h.1) (okE T a ok h.2.1) (okE T b ok h.2.2)
    · cases h
  | .tup es, X, W, N, sc, ok, e, h => by
    simp only [ckE] at h
    split at h
    · exact se_tup (okEs T es ok h)
    · cases h
  | .lst cl es, X, W, N, sc, ok, e, h => by
    simp only [ckE] at h
    split at h
    · exact se_lst (okEs T es ok h)
    · cases h
  | .dic cl es, X, W, N, sc, ok, e, h => by
    simp only [ckE] at h
    split at h
    · simp only [Bool.and_eq_true, decide_eq_true_eq, Bool.not_eq_true'] at h
      obtain ⟨h1, h2, h3, h4⟩ := h
      obtain ⟨q1, q2⟩ := okPs T es ok h1
      exact se_dic q1 q2 h2 (by intro z; rw [z] at h3; cases h3) h4
    · cases h
  | .idx a i, X, W, N, sc, ok, e, h => by
    simp only [ckE] at h
    split at h
    · simp only [Bool.and_eq_true] at h
      exact se_idx ok.K ok.w ok.un (okE T a ok h.1) (okE T i ok h.2.1) (ix_plain h.2.2)
    · cases h
  | .sl cl a lo hi, X, W, N, sc, ok, e, h => by
    simp only [ckE] at h
    split at h
    · simp only [Bool.and_eq_true] at h
      exact se_sl ok.K (okE T a ok h.1) (okO T lo ok h.2.1) (okO T hi ok h.2.2)
    · cases h
  | .fld a f, X, W, N, sc, ok, e, h => by
    simp only [ckE] at h
    split at h
    · simp only [Bool.and_eq_true, decide_eq_true_eq] at h
      obtain ⟨rfl, h1, h2⟩ := h
      exact se_fld (ok.own T) (okE T a ok h1) (super_plain h2)
    · cases h
  | .call j es ds, X, W, N, sc, ok, e, h => by
    simp only [ckE] at h
    split at h
    · rename_i x p xs pos
      split at h
      · rename_i f q
        simp only [Bool.and_eq_true, decide_eq_true_eq, Bool.not_eq_true'] at h
        obtain ⟨⟨rfl, h0⟩, h1, h2, h3, h4, h5, h6⟩ := h
        have h6 := scEqs_eq h6
        obtain ⟨dsv, dvs, b1, b2, b3⟩ := T.bnd _ _ q h5.2 (f.dfs.length - ds.length) (Nat.sub_le _ _)
        rw [← h6] at b3
        have F := T.calls _ _ q
        obtain ⟨m1, m2⟩ := T.mgf _ _ q h0
        rw [← ok.P, ← ok.w, ← ok.K, ← ok.mg, ← ok.base] at F
        rw [← ok.mg] at m1
        rw [← ok.K] at m2 b1
        cases xs with
        | nil =>
          cases es with
          | nil => exact se_call0 F ok.room (ok.gl h1) m1 m2 b1 b2 b3 ok.takes h2
          | cons _ _ => simp [ckEs] at h3
        | cons x xs =>
          have hst := ckEs_star h3
          rw [List.all_cons, Bool.and_eq_true] at hst
          exact se_call F ok.room (ok.gl h1) m1 m2 b1 b2 b3 ok.takes (okEs T es ok h3) h2 (star1 hst.1) (star_any hst.2)
      · cases h
    · cases h
  | .mk i es ds, X, W, N, sc, ok, e, h => by
    simp only [ckE] at h
    split at h
    · rename_i x p xs pos
      split at h
      · rename_i cp q
        split at h
        · rename_i j ej
          split at h
          · rename_i f ef
            simp only [Bool.and_eq_true, decide_eq_true_eq, Bool.not_eq_true'] at h
            obtain ⟨rfl, h1, h2, h3, h4, h5, h6⟩ := h
            have hi : i < g.nC := by rw [T.nC]; exact (List.getElem?_eq_some_iff.mp q).1
            have hj : c.methOf i "__init__" = some j := by unfold Ck.methOf; rw [q]; exact ej
            have hD := ok.mdf1 T hi hj ef h5.2 (scEqs_eq h6)
            have hjs : (P.methOf i "__init__").isSome = true := by rw [T.methP, hj]; rfl
            have hm : X.mg cp.1 = some (.ref (g.cA i)) := by rw [ok.mg]; exact T.mgc _ _ q
            cases xs with
            | nil =>
              cases es with
              | nil => exact se_mk0 ok.takes ok.K hi hD hjs (ok.gl h1) hm h2
              | cons _ _ => simp [ckEs] at h3
            | cons x xs =>
              have hst := ckEs_star h3
              rw [List.all_cons, Bool.and_eq_true] at hst
              exact se_mk ok.takes ok.K hi hD hjs (ok.gl h1) hm (okEs T es ok h3) h2 (star1 hst.1) (star_any hst.2)
          · cases h
        · cases h
      · cases h
    · cases h
  | .meth m o es ds, X, W, N, sc, ok, e, h => by
    simp only [ckE] at h
    split at h
    · rename_i x n ap xs pos
      simp only [Bool.and_eq_true, decide_eq_true_eq] at h
      obtain ⟨rfl, h1, h2, h3, h4, h5, h6⟩ := h
      have hst := ckEs_star h3
      obtain ⟨pl, ht⟩ := meth_tree (m := n) (apos := ap) (pos := pos) (es := xs) (env := X.env) h2 hst h5 h6
      refine se_meth (ok.own T) ok.takes (ok.mdf T h4) (okE T o ok h1) (okEs T es ok h3) (fun z => ?_) ?_ ht
      · subst z
        cases es with
        | nil => rfl
        | cons _ _ => simp [ckEs] at h3
      · cases xs with
        | nil => exact .inl rfl
        | cons y ys =>
          rw [List.all_cons, Bool.and_eq_true] at hst
          exact .inr ⟨y, ys, rfl, star1 hst.1, star_any hst.2⟩
    · cases h
  | .callK j es ks kes tl, X, W, N, sc, ok, e, h => by
    simp only [ckE] at h
    split at h
    · rename_i x p xs kws pos
      split at h
      · rename_i f q
        simp only [Bool.and_eq_true, decide_eq_true_eq, Bool.not_eq_true'] at h
        obtain ⟨⟨rfl, h0⟩, h1, h2, h3, h4, h5⟩ := h
        have F := T.calls _ _ q
        obtain ⟨m1, m2⟩ := T.mgf _ _ q h0
        rw [← ok.P, ← ok.w, ← ok.K, ← ok.mg, ← ok.base] at F
        rw [← ok.mg] at m1
        rw [← ok.K] at m2
        exact se_callK F ok.K ok.room (ok.gl h1) m1 m2 (T.kw _ _ q _ _ _ h5) ok.takes (kw_text h3 h4) (okEs T es ok h3) (okKs T kes ok h4) (ckEs_nil h3) (ckKs_len h4).1 h2
      · cases h
    · cases h
  | .mkK i es ks kes tl, X, W, N, sc, ok, e, h => by
    simp only [ckE] at h
    split at h
    · rename_i x p xs kws pos
      split at h
      · rename_i cp q
        split at h
        · rename_i j ej
          split at h
          · rename_i f ef
            simp only [Bool.and_eq_true, decide_eq_true_eq, Bool.not_eq_true'] at h
            obtain ⟨rfl, h1, h2, h3, h4, h5⟩ := h
            have hi : i < g.nC := by rw [T.nC]; exact (List.getElem?_eq_some_iff.mp q).1
            have hj : c.methOf i "__init__" = some j := by unfold Ck.methOf; rw [q]; exact ej
            have hjs : (P.methOf i "__init__").isSome = true := by rw [T.methP, hj]; rfl
            have hm : X.mg cp.1 = some (.ref (g.cA i)) := by rw [ok.mg]; exact T.mgc _ _ q
            refine se_mkK ok.K ok.takes hi (fun j' hj' => ?_) hjs (ok.gl h1) hm (kw_text h3 h4) (okEs T es ok h3) (okKs T kes ok h4) (ckEs_nil h3) (ckKs_len h4).1 h2
            rw [T.methP, hj] at hj'
            cases hj'
            have F := T.calls1 _ _ ef
            rw [← ok.P, ← ok.w, ← ok.K, ← ok.mg, ← ok.base] at F
            exact ⟨_, _, _, T.init i j hi hj, F, ok.room, T.kw _ _ ef _ _ _ h5⟩
          · cases h
        · cases h
      · cases h
    · cases h
  | .methK m o es ks kes tl, X, W, N, sc, ok, e, h => by
    simp only [ckE] at h
    split at h
    · rename_i x n ap xs kws pos
      simp only [Bool.and_eq_true, decide_eq_true_eq] at h
      obtain ⟨rfl, h1, h2, h3, h4, h5, h6, h7⟩ := h
      obtain ⟨pl, ht⟩ := meth_treeK (m := n) (apos := ap) (pos := pos) (es := xs) (kws := kws) (env := X.env) h2 (ckEs_star h3) ((ckKs_len h4).2.2 pos X.env).1 h6 h7
      refine se_methK (ok.own T) ok.K ok.takes (fun i j hi hj => ?_) (okE T o ok h1) (kw_text h3 h4) (okEs T es ok h3) (okKs T kes ok h4) (ckEs_nil h3) (ckKs_len h4).1 ht
      rw [T.methP] at hj
      obtain ⟨M, hs⟩ := T.meth i n j hi hj
      obtain ⟨f, ef⟩ := Option.isSome_iff_exists.mp hs
      unfold Ck.methOf at hj
      obtain ⟨p, ep, el⟩ := Option.bind_eq_some_iff.mp hj
      have h8 := List.all_eq_true.mp h5 p (List.mem_of_getElem? ep)
      rw [el] at h8
      dsimp only at h8
      rw [ef] at h8
      have F := T.calls _ _ ef
      rw [← ok.P, ← ok.w, ← ok.K, ← ok.mg, ← ok.base] at F
      exact ⟨_, _, _, M, F, ok.room, T.kw _ _ ef _ _ _ h8⟩
    · cases h
  | .bm .count o es, X, W, N, sc, ok, e, h => by
    simp only [ckE] at h
    cases h
  | .bm .index o es, X, W, N, sc, ok, e, h => by
    simp only [ckE] at h
    split at h
    · rename_i x n ap xs pos
      simp only [Bool.and_eq_true, decide_eq_true_eq] at h
      obtain ⟨rfl, h1, h2, h3, h4, h5⟩ := h
      cases xs with
      | nil => cases h4
      | cons y ys =>
        have hst := ckEs_star h3
        have hst2 := hst
        rw [List.all_cons, Bool.and_eq_true] at hst
        refine se_index ok.K (okE T o ok h1) (okEs T es ok h3) (base_plain h2) ?_ h5 (star1 hst.1) (star_any hst.2)
        rw [star_all hst2]
        have : (y :: ys).length = 1 := h4
        rw [this]
        rfl
    · cases h
  | .bm .join o .nil, X, W, N, sc, ok, e, h => by simp [ckE] at h
  | .bm .join o (.cons a (.cons b r)), X, W, N, sc, ok, e, h => by simp [ckE] at h
  | .bm .join o (.cons a .nil), X, W, N, sc, ok, e, h => by
    simp only [ckE] at h
    split at h
    · rename_i x n ap y pos
      simp only [Bool.and_eq_true, decide_eq_true_eq] at h
      obtain ⟨rfl, h1, h2, h3, h4, h5⟩ := h
      exact se_join ok.K (okE T o ok h1) (okE T a ok h3) (star1 h4) (base_plain h2) h5
    · cases h
  | .bm .get1 o .nil, X, W, N, sc, ok, e, h => by simp [ckE] at h
  | .bm .get1 o (.cons a (.cons b r)), X, W, N, sc, ok, e, h => by simp [ckE] at h
  | .bm .get1 o (.cons a .nil), X, W, N, sc, ok, e, h => by
    simp only [ckE] at h
    split at h
    · rename_i x n ap y pos
      simp only [Bool.and_eq_true, decide_eq_true_eq] at h
      obtain ⟨rfl, h1, h2, h3, h4, h5⟩ := h
      refine se_get1 ok.un (okE T o ok h1) (okE T a ok h3) ⟨base_plain h2, ?_, h5, ?_⟩
      · rw [star1 h4]; rfl
      · rw [star1 h4]; rfl
    · cases h
  | .bm .get2 o .nil, X, W, N, sc, ok, e, h => by simp [ckE] at h
  | .bm .get2 o (.cons a .nil), X, W, N, sc, ok, e, h => by simp [ckE] at h
  | .bm .get2 o (.cons a (.cons b (.cons d r))), X, W, N, sc, ok, e, h => by simp [ckE] at h
  | .bm .get2 o (.cons a (.cons b .nil)), X, W, N, sc, ok, e, h => by
    simp only [ckE] at h
    split at h
    · rename_i x n ap y z pos
      simp only [Bool.and_eq_true, decide_eq_true_eq] at h
      obtain ⟨rfl, h1, h2, h3, h3b, h4, h4b, h5⟩ := h
      refine se_get2 ok.un (okE T o ok h1) (okE T a ok h3) (okE T b ok h3b) ⟨base_plain h2, ?_, h5, ?_⟩
      · rw [star1 h4, star1 h4b]; rfl
      · rw [star1 h4, star1 h4b]; rfl
    · cases h
  | .dnew, X, W, N, sc, ok, e, h => by
    simp only [ckE] at h
    split at h
    · exact se_dnew
    · cases h
  | .blt cl b es, X, W, N, sc, ok, e, h => by
    simp only [ckE] at h
    split at h
    · rename_i x p xs pos
      simp only [Bool.and_eq_true, decide_eq_true_eq, Bool.not_eq_true'] at h
      obtain ⟨rfl, h1, h2, h3⟩ := h
      cases xs with
      | nil => cases h3
      | cons x xs =>
        have hst := ckEs_star h2
        rw [List.all_cons, Bool.and_eq_true] at hst
        exact se_blt (ok.own T) ok.K ok.un ok.calm (ok.gl h1) (ok.blt T (by cases b <;> decide +kernel)) (okEs T es ok h2) (star1 hst.1) (star_any hst.2)
    · cases h
  | .isi a ts, X, W, N, sc, ok, e, h => by
    simp only [ckE] at h
    exact ok_isi ok T (fun e h => okE T a ok h) h
  | .lm m o es, X, W, N, sc, ok, e, h => by
    simp only [ckE] at h
    split at h
    · split at h
      · rename_i x n ap xs pos
        simp only [Bool.and_eq_true, decide_eq_true_eq] at h
        obtain ⟨rfl, h1, h2, h3, h4, h5⟩ := h
        cases xs with
        | nil => cases h4
        | cons y ys =>
          have hst := ckEs_star h3
          have hst2 := hst
          rw [List.all_cons, Bool.and_eq_true] at hst
          refine se_append ok.K (okE T o ok h1) (okEs T es ok h3) (base_plain h2) ?_ h5 (star1 hst.1) (star_any hst.2)
          rw [star_all hst2]
          have : (y :: ys).length = 1 := h4
          rw [this]
          rfl
      · cases h
    · cases h
  | .lrng cl a .none, X, W, N, sc, ok, e, h => by
    simp only [ckE] at h
    split at h
    · simp only [Bool.and_eq_true, decide_eq_true_eq] at h
      obtain ⟨rfl, rfl, h1, h2, h3, h4⟩ := h
      exact se_lrng1 ok.calm (ok.gl h1) (ok.blt T (by decide +kernel)) (ok.gl h2) (ok.blt T (by decide +kernel)) (okE T a ok h3) (star1 h4) (star1 rfl)
    · cases h
  | .lrng cl a (.some b), X, W, N, sc, ok, e, h => by
    simp only [ckE] at h
    split at h
    · simp only [Bool.and_eq_true, decide_eq_true_eq] at h
      obtain ⟨rfl, rfl, h1, h2, h3, h4, h5, h6⟩ := h
      exact se_lrng2 ok.calm (ok.gl h1) (ok.blt T (by decide +kernel)) (ok.gl h2) (ok.blt T (by decide +kernel)) (okE T a ok h3) (okE T b ok h4) (star1 h5) (star1 h6) (star_any (by simp [h6])) (star1 rfl)
    · cases h
  | .lc cl tg it ifs elt own, X, W, N, sc, ok, e, h => by
    simp only [ckE] at h
    split at h
    · rename_i x t i fs scope pos
      simp only [Bool.and_eq_true, decide_eq_true_eq] at h
      obtain ⟨⟨h0, h1⟩, h2, h3, h4, h5, h6, h7, h8⟩ := h
      have hi := okIt T it ok h1
      refine PE_imp (pe_lc (X := X) (g := gTg X.K tg) ok.calm (by rw [ok.N]; exact ok.nd) hi (blkOk_by (by rw [ok.N, ok.sc]; exact h2)) (fun s H C cl fp => ok_tg (ok.blk h0 s H scope C cl fp) (fun z => by cases z) h4)
        (fun s H C cl fp => okA T ifs (ok.blk h0 s H scope C cl fp) h6) (fun s H C cl fp => okE T elt (ok.blk h0 s H scope C cl fp) h7) (set_plain h8)) fun σ H Q q => ?_
      rw [h3]
      exact lc_run ok.K h5 (fun _ _ _ z => z) (fun _ _ _ z => z) (fun _ _ _ z => z) q
    · cases h
  | .frz a, X, W, N, sc, ok, e, h => by
    simp only [ckE] at h
    exact se_frz (okE T a ok h)
  | .told i a, X, W, N, sc, ok, e, h => by
    simp only [ckE] at h
    split at h
    · rename_i x p1 bd scp p2 p3
      split at h
      · rename_i t q
        simp only [Bool.and_eq_true, decide_eq_true_eq] at h
        obtain ⟨h1, h2, h3, h4, h5⟩ := h
        subst h1
        obtain ⟨hr, L⟩ := ok.lam (by rw [ok.sc]; exact h3)
        exact se_told ok.P ok.w ok.K ok.mg ok.base (T.tell i t q) (fun e => T.tellP i t e q) (by rw [List.length_map]) (ok.gl h2) L hr (LamX.lamS_by (by rw [ok.sc]; exact h4)) fun A outer s H E f d hr2 => okE T a (ok.lamb h4 hr2) h5
      · cases h
    · cases h
theorem okO (T : Txt g c P k fd) : ∀ (ir : Eo) {X : Cx} {W : WX} {N : List Str} {sc : Scope} (_ : Ok g X W N sc k) {e : Option Expr}, ckO c N sc ir e = true → SO g W X e (evO P ir)
  | .none, X, W, N, sc, ok, e, h => by
    simp only [ckO, Option.isNone_iff_eq_none] at h
    rw [h]
    exact so_none
  | .some a, X, W, N, sc, ok, e, h => by
    simp only [ckO] at h
    split at h
    · exact so_some (okE T a ok h)
    · cases h
theorem okPs (T : Txt g c P k fd) : ∀ (ir : Es) {X : Cx} {W : WX} {N : List Str} {sc : Scope} (_ : Ok g X W N sc k) {ks : List (Option Expr)} {vs : List Expr}, ckPs c N sc ir ks vs = true → PsOk g W X P ir ks vs ∧ ks.all (·.isSome) = true
  | .nil, X, W, N, sc, ok, ks, vs, h => by
    simp only [ckPs, Bool.and_eq_true, List.isEmpty_iff] at h
    rw [h.1, h.2]
    exact ⟨.nil, rfl⟩
  | .cons _ .nil, X, W, N, sc, ok, ks, vs, h => by simp [ckPs] at h
  | .cons a (.cons b r), X, W, N, sc, ok, ks, vs, h => by
    simp only [ckPs] at h
    split at h
    · simp only [Bool.and_eq_true] at h
      obtain ⟨q1, q2⟩ := okPs T r ok h.2.2
      exact ⟨.cons (okE T a ok h.1) (okE T b ok h.2.1) q1, by rw [List.all_cons, q2]; rfl⟩
    · cases h
theorem okEs (T : Txt g c P k fd) : ∀ (ir : Es) {X : Cx} {W : WX} {N : List Str} {sc : Scope} (_ : Ok g X W N sc k) {e : List Expr}, ckEs c N sc ir e = true → SA g W X e (evEs P ir)
  | .nil, X, W, N, sc, ok, es, h => by
    simp only [ckEs, List.isEmpty_iff] at h
    rw [h]
    exact sa_nil
  | .cons a r, X, W, N, sc, ok, es, h => by
    simp only [ckEs] at h
    split at h
    · simp only [Bool.and_eq_true] at h
      exact sa_cons (okE T a ok h.1) (okEs T r ok h.2.2) (star1 h.2.1)
    · cases h
theorem okKs (T : Txt g c P k fd) : ∀ (ir : Es) {X : Cx} {W : WX} {N : List Str} {sc : Scope} (_ : Ok g X W N sc k) {ks : List Str} {e : List Keyword}, ckKs c N sc ir ks e = true → SK g W X e (evEs P ir)
  | .nil, X, W, N, sc, ok, ks, e, h => by
    simp only [ckKs, Bool.and_eq_true, List.isEmpty_iff] at h
    rw [h.2]
    exact sk_nil
  | .cons a r, X, W, N, sc, ok, ks, e, h => by
    simp only [ckKs] at h
    split at h
    · simp only [Bool.and_eq_true, decide_eq_true_eq] at h
      exact sk_cons (okE T a ok h.2.1) (okKs T r ok h.2.2)
    · cases h
theorem okJ (T : Txt g c P k fd) : ∀ (ir : Es) {X : Cx} {W : WX} {N : List Str} {sc : Scope} (_ : Ok g X W N sc k) {e : List Expr}, ckEs c N sc ir e = true → JP g W X P e ir
  | .nil, X, W, N, sc, ok, es, h => by
    simp only [ckEs, List.isEmpty_iff] at h
    rw [h]
    exact .nil
  | .cons a r, X, W, N, sc, ok, es, h => by
    simp only [ckEs] at h
    split at h
    · simp only [Bool.and_eq_true] at h
      exact .cons (okE T a ok h.1) (okJ T r ok h.2.2)
    · cases h
theorem okB (T : Txt g c P k fd) : ∀ (ir : Es) {X : Cx} {W : WX} {N : List Str} {sc : Scope} (_ : Ok g X W N sc k) {cj : Bool} {pos : Pos} {vs : List Expr}, ckEs c N sc ir vs = true → vs ≠ [] → SE g W X (.BoolOp (boOf cj) vs pos) (evE P (.bop cj ir))
  | .nil, X, W, N, sc, ok, cj, pos, vs, h, hn => by
    simp only [ckEs, List.isEmpty_iff] at h
    exact absurd h hn
  | .cons a r, X, W, N, sc, ok, cj, pos, vs, h, hn => by
    simp only [ckEs] at h
    split at h
    · rename_i e es
      simp only [Bool.and_eq_true] at h
      cases r with
      | nil =>
        simp only [ckEs, List.isEmpty_iff] at h
        rw [h.2.2]
        exact se_bop1 (okE T a ok h.1)
      | cons b r =>
        cases es with
        | nil => simp [ckEs] at h
        | cons e2 es => exact se_bop (okE T a ok h.1) (okB T (.cons b r) ok h.2.2 (by simp))
    · cases h
theorem okT (T : Txt g c P k fd) : ∀ (ir : DL.T) {X : Cx} {W : WX} {N : List Str} {sc : Scope} (_ : Ok g X W N sc k) {e : Expr}, ckT c N sc ir e = true → ST g W X e (evT P ir)
  | .bop cj ts, X, W, N, sc, ok, e, h => by
    simp only [ckT] at h
    split at h
    · rename_i o vs p
      simp only [Bool.and_eq_true, decide_eq_true_eq, Bool.not_eq_true'] at h
      obtain ⟨rfl, h1, h2⟩ := h
      exact (okTs T ts ok h1 (by intro z; rw [z] at h2; cases h2)).pt
    · cases h
  | .not t, X, W, N, sc, ok, e, h => by
    simp only [ckT] at h
    split at h
    · simp only [Bool.and_eq_true, decide_eq_true_eq] at h
      obtain ⟨rfl, h1⟩ := h
      exact st_not (okT T t ok h1)
    · cases h
  | .cmp op a b, X, W, N, sc, ok, e, h => by
    simp only [ckT] at h
    split at h
    · simp only [Bool.and_eq_true, decide_eq_true_eq, Bool.not_eq_true'] at h
      obtain ⟨rfl, h1, h2, h3⟩ := h
      exact st_cmp (ok.own T) ok.w ok.un (okE T a ok h1) (okE T b ok h2) h3
    · cases h
  | .chain o1 o2 x y z, X, W, N, sc, ok, e, h => by
    simp only [ckT] at h
    split at h
    · simp only [Bool.and_eq_true, decide_eq_true_eq, Bool.not_eq_true'] at h
      obtain ⟨rfl, rfl, h1, h2, h3, h4⟩ := h
      exact st_chain (ok.own T) ok.w ok.un (okE T x ok h1) (okE T y ok h2) (okE T z ok h3) h4
    · cases h
  | .isi a ts, X, W, N, sc, ok, e, h => by
    simp only [ckT] at h
    have hp : plainT e = true := by
      unfold isiB at h
      split at h <;> first | rfl | cases h
    exact st_isi ok.K (ok_isi ok T (fun e h => okE T a ok h) h) (true_plain hp)
  | .val a, X, W, N, sc, ok, e, h => by
    simp only [ckT, Bool.and_eq_true] at h
    exact st_val ok.K (okE T a ok h.1) (true_plain h.2)
theorem okTs (T : Txt g c P k fd) : ∀ (ir : Ts) {X : Cx} {W : WX} {N : List Str} {sc : Scope} (_ : Ok g X W N sc k) {cj : Bool} {pos : Pos} {vs : List Expr}, ckTs c N sc ir vs = true → vs ≠ [] → SW g W X (.BoolOp (boOf cj) vs pos) (evT P (.bop cj ir))
  | .nil, X, W, N, sc, ok, cj, pos, vs, h, hn => by
    simp only [ckTs, List.isEmpty_iff] at h
    exact absurd h hn
  | .cons a r, X, W, N, sc, ok, cj, pos, vs, h, hn => by
    simp only [ckTs] at h
    split at h
    · rename_i e es
      simp only [Bool.and_eq_true] at h
      cases r with
      | nil =>
        simp only [ckTs, List.isEmpty_iff] at h
        rw [h.2]
        exact sw_bop1 (okT T a ok h.1)
      | cons b r =>
        cases es with
        | nil => simp [ckTs] at h
        | cons e2 es => exact sw_bop (okT T a ok h.1) (okTs T (.cons b r) ok h.2 (by simp))
    · cases h
theorem okA (T : Txt g c P k fd) : ∀ (ir : To) {X : Cx} {W : WX} {N : List Str} {sc : Scope} (_ : Ok g X W N sc k) {fs : List Expr}, ckA c N sc ir fs = true → PTs X fs (run g W rB (evA P ir))
  | .none, X, W, N, sc, ok, fs, h => by
    simp only [ckA, List.isEmpty_iff] at h
    rw [h]
    refine ⟨fun pins s σ H Q I q => pts_nil.run pins s σ H Q I ?_⟩
    obtain ⟨H0, ρ, μ, ι, r, q⟩ := q
    simp only [evA] at q
    exact q.now r rfl
  | .some t, X, W, N, sc, ok, fs, h => by
    simp only [ckA] at h
    split at h
    · refine ⟨fun pins s σ H Q I q => (pts_one (okT T t ok h)).run pins s σ H Q I ?_⟩
      obtain ⟨H0, ρ, μ, ι, r, q⟩ := q
      simp only [evA] at q
      exact ⟨H0, ρ, μ, ι, r, q⟩
    · cases h
theorem okIt (T : Txt g c P k fd) : ∀ (ir : It) {X : Cx} {W : WX} {N : List Str} {sc : Scope} (_ : Ok g X W N sc k) {t e : Expr}, ckIt c N sc t ir e = true → SI g W X t e (evIt P ir)
  | .seq a, X, W, N, sc, ok, t, e, h => by
    simp only [ckIt] at h
    exact si_seq ok.K (okE T a ok h)
  | .rng1 a, X, W, N, sc, ok, t, e, h => by
    simp only [ckIt] at h
    split at h
    · simp only [Bool.and_eq_true, decide_eq_true_eq] at h
      obtain ⟨rfl, h1, h2, h3⟩ := h
      exact si_rng1 (ok.gl h1) (ok.blt T (by decide +kernel)) (okE T a ok h2) (star1 h3)
    · cases h
  | .rng2 a b, X, W, N, sc, ok, t, e, h => by
    simp only [ckIt] at h
    split at h
    · simp only [Bool.and_eq_true, decide_eq_true_eq] at h
      obtain ⟨rfl, h1, h2, h3, h4, h5⟩ := h
      exact si_rng2 (ok.gl h1) (ok.blt T (by decide +kernel)) (okE T a ok h2) (okE T b ok h3) (by rw [star1 h4, star1 h5]; rfl) (star1 h5)
    · cases h
  | .enum a, X, W, N, sc, ok, t, e, h => by
    simp only [ckIt] at h
    split at h
    · simp only [Bool.and_eq_true, decide_eq_true_eq] at h
      obtain ⟨rfl, h1, h2, h3, h4⟩ := h
      cases t <;> first | cases h4 | skip
      exact si_enum ok.K (ok.gl h1) (ok.blt T (by decide +kernel)) (okE T a ok h2) (star1 h3)
    · cases h
  | .zip a b, X, W, N, sc, ok, t, e, h => by
    simp only [ckIt] at h
    split at h
    · simp only [Bool.and_eq_true, decide_eq_true_eq] at h
      obtain ⟨rfl, h1, h2, h3, h4, h5, h6⟩ := h
      cases t <;> first | cases h6 | skip
      exact si_zip ok.K (ok.gl h1) (ok.blt T (by decide +kernel)) (okE T a ok h2) (okE T b ok h3) (star1 h4) (star1 h5)
    · cases h
  | .rev a, X, W, N, sc, ok, t, e, h => by
    simp only [ckIt] at h
    split at h
    · simp only [Bool.and_eq_true, decide_eq_true_eq] at h
      obtain ⟨rfl, h1, h2, h3⟩ := h
      exact si_rev ok.K (ok.gl h1) (ok.blt T (by decide +kernel)) (okE T a ok h2) (star1 h3)
    · cases h
end
end
end DL
/-! DL13: the look at statements, at defs. -/
namespace DL
open PySem PySem.Spec PyProof.Rows L2
def notComp : Expr → Bool
  | .ListComp .. => false
  | .SetComp .. => false
  | .DictComp .. => false
  | _ => true
def swB (sc : Scope) (x : Str) (p : Pos) : Expr → Bool
  | .ListComp _ _ s pos => decide (sc.names.lookup x = some .local) && ((p.line == pos.line) && !(s.names.any fun (n, k) => n == x && (k == .local || k == .cell)))
  | _ => false
def noSwap : List Expr → Expr → Bool
  | ts, .Tuple vs _ _ => decide (3 < ts.length) || vs.all (foldedForSure 8)
  | _, _ => true
def isFrz : S → Bool
  | .frz _ => true
  | _ => false
mutual
def ckS (c : Ck) (N : List Str) (sc : Scope) : S → Stmt → Bool
  | .set i a, st => (match st with | .Assign [.Name x p] v _ => ckTg false N sc (.nm i) (.Name x p) && (ckE c N sc a v && (notComp v || (match a with
      | .lc _ _ _ _ _ _ => (match v with | .ListComp _ _ _ _ => true | _ => false)
      | _ => (match v with | .ListComp _ _ _ _ => !swB sc x p v | _ => false)))) | _ => false)
  | .unp is a, st => (match st with | .Assign [.Tuple es k tp] v _ => ckTg false N sc (.tp is) (.Tuple es k tp) && (ckE c N sc a v && noSwap es v) | _ => false)
  | .par i j a b, st => (match st with
    | .Assign [.Tuple [.Name x px, .Name y py] _ _] (.Tuple [u, v] _ _) _ => decide (N[i]? = some x) && (decide (N[j]? = some y) && (decide (i ≠ j) && (decide (sc.names.lookup x = some .local) && (decide (sc.names.lookup y = some .local) && (decide (x ≠ y) &&
        (decide (px.line = py.line) && (ckE c N sc a u && (ckE c N sc b v && (notStar u && (notStar v && (!([u, v].all (foldedForSure 8)) && !([u, v].all (constantsAlone 8)))))))))))))
    | _ => false)
  | .setI o i a, st => (match st with | .Assign [.Subscript ox ix _] v _ => ckE c N sc o ox && (ckE c N sc i ix && (ckE c N sc a v && notSlice ix)) | _ => false)
  | .setD o i a, st => (match st with | .Assign [.Subscript ox ix _] v _ => ckE c N sc o ox && (ckE c N sc i ix && (ckE c N sc a v && notComp v)) | _ => false)
  | .setF o f a, st => (match st with | .Assign [.Attribute ox n _] v _ => decide (n = f) && (ckE c N sc o ox && (ckE c N sc a v && notComp v)) | _ => false)
  | .augN i sub a, st => (match st with | .AugAssign (.Name x p) op v _ => ckTg false N sc (.nm i) (.Name x p) && (decide (op = if sub then .Sub else .Add) && ckE c N sc a v) | _ => false)
  | .ex a, st => (match st with | .Expr v _ => ckE c N sc a v && notComp v | _ => false)
  | .ite t a b, st => (match st with | .If e x y _ => ckT c N sc t e && (ckSs c N sc a x && ckSs c N sc b y) | _ => false)
  | .for_ tg it b, st => (match st with | .For t i x [] _ => ckIt c N sc t it i && (ckTg false N sc tg t && (ckSs c N sc b x && notSet i)) | _ => false)
  | .whl t b, st => (match st with | .While e x [] _ => ckT c N sc t e && ckSs c N sc b x | _ => false)
  | .ret a, st => (match st with | .Return (some v) _ => ckE c N sc a v | _ => false)
  | .retN, st => (match st with | .Return none _ => true | _ => false)
  | .pass, st => (match st with | .Pass _ => true | .Expr (.Constant (.str _) _ _) _ => true | _ => false)
  | .brk, st => (match st with | .Break _ => true | _ => false)
  | .cnt, st => (match st with | .Continue _ => true | _ => false)
  | .frz _, _ => false
  | .rais i es, st => (match st with | .Raise (some (.Call (.Name x _) xs [] _)) none _ => (match c.xs[i]? with | some p => decide (p.1 = x) && (glB sc x && (!(x == ("__debug__" : Str)) && (ckEs c N sc es xs && !xs.isEmpty))) | none => false) | _ => false)
  | .never, _ => true
def ckSs (c : Ck) (N : List Str) (sc : Scope) : Ss → List Stmt → Bool
  | .nil, sts => sts.isEmpty
  | .cons s r, sts => if isFrz s then ckSs c N sc r sts else (match sts with | st :: sts => ckS c N sc s st && ckSs c N sc r sts | [] => false)
end
/-- a def's context -/
structure OkS (g : G) (X : Cx) (W : WX) (Nm : List Str) (sc : Scope) (k : Nat) : Prop where
  ok : Ok g X W Nm sc k
  pass : PassesOwn (model X.prog X.w) X.A X.env X.xe
  fn : ∀ x, X.fn x = true
  kind : sc.kind = .function
section
theorem sole_tup {es : List Expr} {n : Nat} {tp : Pos} {e : Expr} {l : Nat} {env : PySem.Env} : swapsWithSole [.Tuple es n tp] e l env = pure false := by
  cases e <;> rfl
theorem sole_sub {o i : Expr} {tp : Pos} {e : Expr} {l : Nat} {env : PySem.Env} : swapsWithSole [.Subscript o i tp] e l env = pure false := by
  cases e <;> rfl
theorem stores_sub {o i : Expr} {tp : Pos} {e : Expr} {env : PySem.Env} : swappedStores [.Subscript o i tp] e env = pure none := by
  cases e <;> rfl
theorem stores_tup {es : List Expr} {n : Nat} {tp : Pos} {e : Expr} {env : PySem.Env} (h : noSwap es e = true) : swappedStores [.Tuple es n tp] e env = pure none := by
  cases e with
  | Tuple vs k p =>
    unfold noSwap at h
    rw [Bool.or_eq_true, decide_eq_true_eq] at h
    unfold swappedStores
    dsimp only
    split
    · rfl
    · rename_i h1
      rcases h with h | h
      · exfalso
        apply h1
        have e2 : (es.length == 2) = false := by simp; omega
        have e3 : (es.length == 3) = false := by simp; omega
        rw [e2, e3]
        rfl
      · split
        · rfl
        · split
          · rfl
          · first
            | rfl
            | (rw [if_pos h]; rfl)
  | _ => rfl
theorem sw_false {elt : Expr} {gs : List Comprehension} {scope sc : Scope} {pos py : Pos} {y : Str} {l : Nat} {env : PySem.Env} (hs : env.scope = sc) (h : swB sc y py (.ListComp elt gs scope pos) = false) : swapsWith (.ListComp elt gs scope pos) (some (.Name y py)) l env = pure false := by
  unfold swB at h
  unfold swapsWith
  dsimp only
  have ky : env.kindOf y = sc.names.lookup y := by unfold Env.kindOf; rw [hs]
  rw [ky]
  congr 1
  rw [Bool.and_eq_false_iff] at h
  rcases h with h | h
  · have h := of_decide_eq_false h
    have : (List.lookup y sc.names == some NameKind.local) = false := by simpa using h
    simp only [Expr.pos, this, Bool.and_false, Bool.false_and]
  · simp only [Expr.pos]
    rw [Bool.and_eq_false_iff] at h
    rcases h with h | h
    · rw [h]; simp
    · rw [h]; simp
theorem stores_par {x y : Str} {u v : Expr} {px py pt pt2 : Pos} {kt k2 : Nat} {sc : Scope} {env : PySem.Env} (hs : env.scope = sc) (hk : sc.kind = .function) (hx : sc.names.lookup x = some .local) (hy : sc.names.lookup y = some .local) (hne : x ≠ y) (hl : px.line = py.line)
    (su : notStar u = true) (sv : notStar v = true) (hf : [u, v].all (foldedForSure 8) = false) (hc : [u, v].all (constantsAlone 8) = false) : swappedStores [.Tuple [.Name x px, .Name y py] kt pt] (.Tuple [u, v] k2 pt2) env = pure (some [x, y]) := by
  have kx : env.kindOf x = some .local := by unfold Env.kindOf; rw [hs]; exact hx
  have ky : env.kindOf y = some .local := by unfold Env.kindOf; rw [hs]; exact hy
  have kb : env.blockKind = .function := by unfold Env.blockKind; rw [hs, hk]; rfl
  unfold swappedStores
  dsimp only
  rw [kb, hf, hc]
  simp only [List.length_cons, List.length_nil]
  rw [if_neg (by decide)]
  split
  · rename_i hz
    exfalso
    simp only [List.any_cons, List.any_nil, Bool.or_false, Bool.or_eq_true] at hz
    rcases hz with hz | hz
    · cases u <;> first | (cases hz; done) | (cases su; done)
    · cases v <;> first | (cases hz; done) | (cases sv; done)
  simp only [List.head?_cons, Option.map_some, Option.getD_some, Expr.pos, List.filterMap_cons, kx, ky, ← hl, List.filterMap_nil]
  have e2 : ([x, y].eraseDups.length) = 2 := by
    have hyx : (y == x) = false := by simpa using fun e : y = x => hne e.symm
    simp [List.eraseDups_cons, hyx]
  simp [e2]
end
section
variable {g : G} {X : Cx} {W : WX} {P : Par} {pos : Pos} {c : Ck} {k : Nat} {fd : Nat → FuncData} {N : List Str} {sc : Scope}
theorem OkS.tg (ok : OkS g X W N sc k) {tg : Tg} {e : Expr} (h : ckTg false N sc tg e = true) : PG X e (gTg X.K tg) := ok_tg ok.ok (fun _ => ok.fn) h
theorem nm_read {blk : Bool} {i : Nat} {x : Str} {p : Pos} (h : ckTg blk N sc (.nm i) (.Name x p) = true) : N[i]? = some x ∧ (sc.names.lookup x = some .local ∨ sc.names.lookup x = some .cell) := by
  unfold ckTg at h
  simp only [Bool.and_eq_true, decide_eq_true_eq] at h
  unfold locB at h
  simp only [Bool.or_eq_true, Bool.and_eq_true, decide_eq_true_eq] at h
  exact ⟨h.1, h.2.imp id (·.2)⟩
theorem swap_comp {e : Expr} {t : Option Expr} {l : Nat} {env : PySem.Env} (h : notComp e = true) : swapsWith e t l env = pure false := by
  cases e <;> first | rfl | cases h
theorem ok_set (T : Txt g c P k fd) (ok : OkS g X W N sc k) {i : Nat} {a : E} {x : Str} {p : Pos} {v : Expr} (h1 : ckTg false N sc (.nm i) (.Name x p) = true) (h2 : ckE c N sc a v = true) (hs : swapsWith v (some (.Name x p)) pos.line X.env = pure false) : SS g W X (.Assign [.Name x p] v pos) (evS P (.set i a)) := by
  obtain ⟨q1, q2⟩ := nm_read h1
  exact ss_set (t := tNext) (fun te he => ps_set (by rw [ok.ok.N]; exact ok.ok.nd) (by rw [ok.ok.N]; exact q1) (by rw [ok.ok.sc]; exact q2) he hs (.inl (ok.fn x))) (okE T a ok.ok h2)
mutual
theorem okS (T : Txt g c P k fd) : ∀ (ir : S) {X : Cx} {W : WX} {N : List Str} {sc : Scope} (_ : OkS g X W N sc k) {st : Stmt}, ckS c N sc ir st = true → SS g W X st (evS P ir)
  | .set i a, X, W, N, sc, ok, st, h => by
    simp only [ckS] at h
    split at h
    · rename_i x p v pos
      simp only [Bool.and_eq_true] at h
      obtain ⟨h1, h2, h3⟩ := h
      rw [Bool.or_eq_true] at h3
      rcases h3 with h3 | h3
      · exact ok_set T ok h1 h2 (swap_comp h3)
      · split at h3
        · rename_i cl tg it ifs elt own
          split at h3
          · rename_i ex gs scope lpos
            cases hb : swB sc x p (.ListComp ex gs scope lpos) with
            | false => exact ok_set T ok h1 h2 (sw_false ok.ok.sc hb)
            | true =>
              obtain ⟨q1, _⟩ := nm_read h1
              unfold swB at hb
              simp only [Bool.and_eq_true, decide_eq_true_eq, Bool.not_eq_true'] at hb
              obtain ⟨b1, b2, b3⟩ := hb
              have ok' := ok.ok
              have h := h2
              simp only [ckE] at h
              split at h
              · rename_i x2 t2 i2 fs scope2 pos2 heq
                cases heq
                simp only [Bool.and_eq_true, decide_eq_true_eq] at h
                obtain ⟨⟨h0, h1⟩, h2, h3, h4, h5, h6, h7, h8⟩ := h
                have hi := okIt (W := W) T it ok' h1
                refine PS_imp (ps_setLc (X := X) (g := gTg X.K tg) ok'.calm (by rw [ok'.N]; exact ok'.nd) (by rw [ok'.N]; exact q1) (by rw [ok'.sc]; exact b1) (sw_true (by rw [ok'.sc]; exact ok.kind) (by rw [ok'.sc]; exact b1) b2 b3) hi (blkOk_by (by rw [ok'.N, ok'.sc]; exact h2))
                  (fun s H C cl fp => ok_tg (ok'.blk h0 s H scope C cl fp) (fun z => by cases z) h4) (fun s H C cl fp => okA T ifs (ok'.blk h0 s H scope C cl fp) h6) (fun s H C cl fp => okE T elt (ok'.blk h0 s H scope C cl fp) h7) (set_plain h8)) fun D σ H q => ?_
                rw [h3]
                obtain ⟨H0, ρ, μ, ι, r, q⟩ := q
                simp only [evS] at q
                refine lc_run (P := P) (W := W) (tg := tg) (it := it) (ifs := ifs) (elt := elt) (cell := cl) ok'.K h5 (fun _ _ _ z => z) (fun _ _ _ z => z) (fun _ _ _ z => z) (run_st r q fun v z μ1 A1 H1 ι1 s1 r1 d1 h => ?_)
                exact h.nx (r1.setSlot d1)
              · cases h
          · cases h3
        · split at h3
          · exact ok_set T ok h1 h2 (sw_false ok.ok.sc (bool_true h3))
          · cases h3
    · cases h
  | .unp is a, X, W, N, sc, ok, st, h => by
    simp only [ckS] at h
    split at h
    · simp only [Bool.and_eq_true] at h
      exact ss_unp ok.ok.K (okE T a ok.ok h.2.1) (ok.tg h.1) sole_tup (stores_tup h.2.2)
    · cases h
  | .par i j a b, X, W, N, sc, ok, st, h => by
    simp only [ckS] at h
    split at h
    · simp only [Bool.and_eq_true, decide_eq_true_eq, Bool.not_eq_true'] at h
      obtain ⟨h1, h2, h3, h4, h5, h6, h7, h8, h9, h10, h11, h12, h13⟩ := h
      have ok' := ok.ok
      refine ss_par (fun ta ha => ps_par ok'.calm (by rw [ok'.N]; exact ok'.nd) (by rw [ok'.N]; exact h1) (by rw [ok'.N]; exact h2) h3 (by rw [ok'.sc]; exact h4) (by rw [ok'.sc]; exact h5) ha (stores_par ok'.sc ok.kind h4 h5 h6 h7 h10 h11 h12 h13) sole_tup)
        (sa_cons (okE T a ok' h8) (sa_cons (okE T b ok' h9) sa_nil (star1 h11)) (star1 h10))
    · cases h
  | .setI o i a, X, W, N, sc, ok, st, h => by
    simp only [ckS] at h
    split at h
    · rename_i ox ix sp v pos
      simp only [Bool.and_eq_true] at h
      refine ss_setI (okE T a ok.ok h.2.2.1) (okE T o ok.ok h.1) (okE T i ok.ok h.2.1) ?_ sole_sub stores_sub
      have := h.2.2.2
      cases ix <;> first | (intro _; rfl) | cases this
    · cases h
  | .setD o i a, X, W, N, sc, ok, st, h => by
    simp only [ckS] at h
    split at h
    · simp only [Bool.and_eq_true] at h
      obtain ⟨h1, h2, h3, h4⟩ := h
      exact ss_setD ok.ok.un (okE T a ok.ok h3) (okE T o ok.ok h1) (okE T i ok.ok h2) (swap_comp h4)
    · cases h
  | .setF o f a, X, W, N, sc, ok, st, h => by
    simp only [ckS] at h
    split at h
    · simp only [Bool.and_eq_true, decide_eq_true_eq] at h
      obtain ⟨rfl, h1, h2, h3⟩ := h
      exact ss_setF (ok.ok.own T) (okE T a ok.ok h2) (okE T o ok.ok h1) (swap_comp h3)
    · cases h
  | .never, X, W, N, sc, ok, st, h => ss_never
  | .augN i sub a, X, W, N, sc, ok, st, h => by
    simp only [ckS] at h
    split at h
    · rename_i x p op v pos
      simp only [Bool.and_eq_true, decide_eq_true_eq] at h
      obtain ⟨h1, h2, h3⟩ := h
      obtain ⟨q1, q2⟩ := nm_read h1
      have ok' := ok.ok
      subst h2
      refine ss_aug (fun te he => ?_) (okE T a ok' h3)
      cases sub with
      | true => exact ps_aug (by rw [ok'.N]; exact ok'.nd) (by rw [ok'.N]; exact q1) (by rw [ok'.sc]; exact q2) he ip_sub (.inl (ok.fn x))
      | false => exact ps_aug (by rw [ok'.N]; exact ok'.nd) (by rw [ok'.N]; exact q1) (by rw [ok'.sc]; exact q2) he ip_add (.inl (ok.fn x))
    · cases h
  | .ex a, X, W, N, sc, ok, st, h => by
    simp only [ckS] at h
    split at h
    · simp only [Bool.and_eq_true] at h
      exact ss_ex (okE T a ok.ok h.1) (swap_comp h.2)
    · cases h
  | .ite t a b, X, W, N, sc, ok, st, h => by
    simp only [ckS] at h
    split at h
    · simp only [Bool.and_eq_true] at h
      exact ss_ite (okT T t ok.ok h.1) (okSs T a ok h.2.1) (okSs T b ok h.2.2)
    · cases h
  | .for_ tg it b, X, W, N, sc, ok, st, h => by
    simp only [ckS] at h
    split at h
    · simp only [Bool.and_eq_true] at h
      exact ss_for ok.ok.K ok.pass ok.ok.calm (okIt T it ok.ok h.1) (ok.tg h.2.1) (okSs T b ok h.2.2.1) (set_plain h.2.2.2)
    · cases h
  | .whl t b, X, W, N, sc, ok, st, h => by
    simp only [ckS] at h
    split at h
    · simp only [Bool.and_eq_true] at h
      exact ss_whl ok.pass (okT T t ok.ok h.1) (okSs T b ok h.2)
    · cases h
  | .ret a, X, W, N, sc, ok, st, h => by
    simp only [ckS] at h
    split at h
    · exact ss_ret (okE T a ok.ok h)
    · cases h
  | .retN, X, W, N, sc, ok, st, h => by
    simp only [ckS] at h
    split at h
    · exact ss_retN
    · cases h
  | .pass, X, W, N, sc, ok, st, h => by
    simp only [ckS] at h
    split at h
    · exact ss_pass
    · exact ss_doc
    · cases h
  | .brk, X, W, N, sc, ok, st, h => by
    simp only [ckS] at h
    split at h
    · exact ss_brk
    · cases h
  | .cnt, X, W, N, sc, ok, st, h => by
    simp only [ckS] at h
    split at h
    · exact ss_cnt
    · cases h
  | .frz _, X, W, N, sc, ok, st, h => by simp [ckS] at h
  | .rais i es, X, W, N, sc, ok, st, h => by
    simp only [ckS] at h
    split at h
    · rename_i x p1 xs p2 p3
      split at h
      · rename_i p q
        simp only [Bool.and_eq_true, decide_eq_true_eq] at h
        obtain ⟨h1, h2, h3, h4, h5⟩ := h
        subst h1
        obtain ⟨e1, e2⟩ := T.exc i p q
        cases xs with
        | nil => cases h5
        | cons y ys =>
          have hst := ckEs_star h4
          rw [List.all_cons, Bool.and_eq_true] at hst
          have o := ok.ok
          have tk := o.takes
          exact ss_rais o.P o.w o.K o.mg o.base e1 (by rw [T.exfP, q]; rfl) (o.room.mono (by have := T.k1; omega)) o.calm tk (o.gl h2) (by rw [o.mg]; exact e2) (bool_true h3) (okEs T es o h4) (star1 hst.1) (star_any hst.2)
      · cases h
    · cases h
theorem okSs (T : Txt g c P k fd) : ∀ (ir : Ss) {X : Cx} {W : WX} {N : List Str} {sc : Scope} (_ : OkS g X W N sc k) {sts : List Stmt}, ckSs c N sc ir sts = true → SSs g W X sts (evSs P ir)
  | .nil, X, W, N, sc, ok, sts, h => by
    simp only [ckSs, List.isEmpty_iff] at h
    rw [h]
    exact ss_nil
  | .cons s r, X, W, N, sc, ok, sts, h => by
    simp only [ckSs] at h
    split at h
    · rename_i hz
      cases s <;> first | (cases hz; done) | skip
      exact ss_frz (okSs T r ok h)
    · split at h
      · simp only [Bool.and_eq_true] at h
        exact ss_cons (okS T s ok h.1) (okSs T r ok h.2)
      · cases h
end
end
/-! ### defs -/
/-- a def's text and its code here -/
structure DefOk (g : G) (c : Ck) (T : Tab) (fd : Nat → FuncData) (j : Nat) (f : FnI) : Prop where
  ex : ∃ (fn : Fn) (N : List Str) (x qual : Str) (params : Arguments) (body : List Stmt) (scope : Scope) (dvs : List V) (kws : List (Str × V)), T.fns[j]? = some fn ∧ FunD g.K x qual params body scope dvs kws (g.fA j) (fd j) ∧ FnScope N f.ps scope ∧ ckSs c N scope fn.body body = true ∧
    f.ps.length = fn.ar ∧ N.length = fn.sl ∧ fn.ar ≤ fn.sl
  lam : LamF g (fd j)
section
variable {g : G} {c : Ck} {T : Tab} {fd : Nat → FuncData} {W : Nat}
theorem start_rel {H0 H : Hp} {ι : List Addr} {μ : Mu} {N : List Str} {vs : List V} {xs : List DL.X} {m : Nat} (r : Rel g H0 H [] [] μ ι) (d : XDens g H0 ι vs xs) (hl : vs.length + m = N.length) : Rel g H0 H (L2.start N vs) (xs.map some ++ List.replicate m none) μ ι := by
  have hd := d.length
  refine r.slots (by unfold L2.start; simp [hd]; omega) fun i x e => ?_
  by_cases hi : i < xs.length
  · rw [List.getElem?_append_left (by simpa using hi)] at e
    rw [List.getElem?_map] at e
    have e : xs[i]? = some x := by
      cases q : xs[i]? with
      | none => rw [q] at e; cases e
      | some y => rw [q] at e; simpa using e
    have get : ∀ {vs : List V} {xs : List DL.X} {i : Nat}, XDens g H0 ι vs xs → xs[i]? = some x → ∃ v, vs[i]? = some v ∧ XDen g H0 ι v x := fun {vs xs i} d e => by
      induction d generalizing i with
      | nil => simp at e
      | cons h hs ih =>
        cases i with
        | zero =>
          simp at e
          subst e
          exact ⟨_, rfl, h⟩
        | succ i => exact ih (by simpa using e)
    obtain ⟨v, h1, h2⟩ := get d e
    refine ⟨v, ?_, h2⟩
    unfold L2.start
    rw [List.getElem?_append_left (by rw [List.length_map, hd]; exact hi), List.getElem?_map, h1]
    rfl
  · rw [List.getElem?_append_right (by simpa using Nat.le_of_not_lt hi), List.getElem?_replicate] at e
    split at e
    · simp at e
    · cases e
theorem tidy_nil {n : Nat} {μ : Mu} : (tidy n [] μ).1 = [] := by
  unfold tidy
  split <;> rfl
theorem fn_ok {n : Nat} {j : Nat} {f : FnI} (T' : Txt g c (parOf T W n) (3 * n + 2) fd) (D : DefOk g c T fd j f) : FnOk g.P g.w g.K g.mg g.base (L2N.CX g.P g.w) (3 * n + 6) (g.fA j) (fd j) f.ps (spF g (callD T W (n + 1)) j) := by
  obtain ⟨fn, N, x, qual, params, body, scope, dvs, kws, e1, F, S, hck, har, hsl, hle⟩ := D.ex
  obtain ⟨oc, od, dV, kV, doc, pm, an, cdv, ct, osl, efd, lk, hcd, _, _⟩ := F.ex
  have DL := D.lam
  rw [efd] at lk DL ⊢
  refine L2.fn_of lk hcd S (fun vs H Q E q => ?_) fun A outer s H vs Q E hr q => ?_
  · obtain ⟨H0, μ, ι, xs, r, d, h⟩ := q
    simp only [callD_succ, bodyD, e1] at h
    split at h
    · rename_i hx
      rw [d.length, hx, har]
    · exact h.elim
  · obtain ⟨H0, μ, ι, xs, r, d, h⟩ := q
    simp only [callD_succ, bodyD, e1] at h
    split at h
    · rename_i hx
      have ok : OkS g (cxOf (L2N.CX g.P g.w) g.P g.w g.K g.mg g.base N qual scope (g.fA j) cdv A outer s H E) (WC E) N scope (3 * n + 2) :=
        ⟨⟨rfl, rfl, rfl, rfl, rfl, rfl, S.nd, rfl, rfl, hr.mono (by omega), L2N.takes_of (E₁ := fun e' s'' => L2N.CX g.P g.w outer H s E e' s'') rfl rfl rfl rfl, fun _ => ⟨hr, DL⟩⟩, PassesOwn.leaving, fun _ => rfl, S.kind⟩
      refine ⟨_, okSs T' fn.body ok hck, H0, xs.map some ++ List.replicate (fn.sl - fn.ar) none, μ, ι, start_rel r d (by rw [d.length, hx, hsl]; omega), ?_⟩
      have hl : ι.length = μ.length := r.len
      cases q : evSs (parOf T W n) fn.body (xs.map some ++ List.replicate (fn.sl - fn.ar) none) μ with
      | no => rw [q] at h; exact h
      | er e μ' => rw [q] at h; exact h
      | ok fl μ' =>
        rw [q] at h
        cases fl with
        | nx ρ' =>
          intro σ' H0' H' ι' st r'
          obtain ⟨ι2, r2, s2, _⟩ := (r'.noSlots).tidy st hl
          exact h .non _ _ _ s2 r2.bare Den.non
        | rt x =>
          cases x with
          | d y =>
            intro v σ' H0' H' ι' st r' dv
            obtain ⟨ι2, r2, s2, _⟩ := (r'.noSlots).tidy st hl
            exact h v _ _ _ s2 r2.bare dv
          | r y =>
            intro v σ' H0' H' ι' st r' dv
            exact h v _ _ _ st r'.bare dv
        | bk ρ' => exact (show False from h).elim
        | ct ρ' => exact (show False from h).elim
        | ex e ρ' =>
          intro cls dd σ' H0' H' ι' st r' de
          obtain ⟨ι2, r2, s2, _⟩ := (r'.noSlots).tidy st hl
          exact h cls dd _ _ _ s2 r2.bare de
    · exact h.elim
/-- nothing is promised of a call that is never made -/
theorem fn_no {k : Nat} {f : FnI} {j : Nat} {fdx : FuncData} : FnOk g.P g.w g.K g.mg g.base (L2N.CX g.P g.w) k (g.fA j) fdx f.ps (spF g noC j) := ⟨fun vs H Q E h => by
    obtain ⟨H0, μ, ι, xs, r, d, h⟩ := h
    exact h.elim, fun A outer s H args us vs Q E hr e0 hb hv h => by
    obtain ⟨H0, μ, ι, xs, r, d, h⟩ := h
    exact h.elim⟩
/-- what does not depend on the depth -/
structure Txt0 (g : G) (c : Ck) (T : Tab) (fd : Nat → FuncData) : Prop where
  defs : ∀ j f, c.fns[j]? = some f → DefOk g c T fd j f
  mgf : ∀ j f, c.fns[j]? = some f → f.top = true → g.mg f.name = some (.ref (g.fA j)) ∧ PySem.W.keepIn g.K (.ref (g.fA j)) = true
  bnd : ∀ j f, c.fns[j]? = some f → f.np = f.ps.length → ∀ m, m ≤ f.dfs.length → ∃ ds dvs, Binds g.K (fd j) f.ps ds ∧ Vals dvs ds ∧ ∀ H, Dens g H dvs (f.dfs.drop m)
  bnd0 : ∀ j f, c.fns[j]? = some f → f.np = f.ps.length → Binds g.K (fd j) f.ps []
  kw : ∀ j f, c.fns[j]? = some f → ∀ n ks tl, kwB f n ks tl = true → KwOk g (fd j) f.ps n ks tl
  mnp : ∀ i m j f, c.methOf i m = some j → dun m = true → c.fns[j]? = some f → f.np = f.ps.length
  pnp : ∀ i m j f, c.propOf i m = some j → c.fns[j]? = some f → f.np = f.ps.length
  glo : ∀ (i : Nat) (p : Str × DL.D), c.glo[i]? = some p → ∃ u v, g.mg p.1 = some u ∧ RelV v u ∧ ∀ H, Den g H v p.2
  gloP : ∀ i, T.glo i = (c.glo[i]?).map (·.2)
  blt : ∀ x ∈ bltNames, g.mg x = none
  nC : g.nC = c.cls.length
  cls : ∀ i, i < g.nC → ClsOk g i
  mgc : ∀ i p, c.cls[i]? = some p → g.mg p.1 = some (.ref (g.cA i))
  methP : T.methOf = c.methOf
  propP : T.propOf = c.propOf
  fldP : T.fldOk = c.fldOk
  meth : ∀ i m j, i < g.nC → c.methOf i m = some j → Meth g.K (g.cA i) m (g.fA j) ∧ (c.fns[j]?).isSome = true
  init : ∀ i j, i < g.nC → c.methOf i "__init__" = some j → Mk g.K (g.cA i) (g.fA j)
  prop : ∀ i m j, i < g.nC → c.propOf i m = some j → (∃ p, PropOf g.K (g.cA i) m p (g.fA j)) ∧ (c.fns[j]?).isSome = true
  fld : ∀ i f, i < g.nC → c.fldOk i f = true → NoAttr g.K (g.cA i) f
  exc : ∀ i p, c.xs[i]? = some p → XOk g (g.xA i) p.2 ∧ g.mg p.1 = some (.ref (g.xA i))
  exfP : ∀ i, T.exf i = (c.xs[i]?).map (·.2)
  tell : ∀ (i : Nat) (t : TellD), c.tells[i]? = some t → TellOk g (c.xs.map (·.1)) t
  tellP : ∀ (i : Nat) (t : TellD) (e : Exn), c.tells[i]? = some t → T.tell i e = if e.c < c.xs.length then t.ans e else none
theorem txt_all (T0 : Txt0 g c T fd) : ∀ n, Txt g c (parOf T W n) (3 * n + 2) fd
  | 0 => ⟨fun j f q => fn_no, fun j f q => fn_no, T0.mgf, T0.bnd, T0.bnd0, T0.kw, T0.mnp, T0.pnp, T0.glo, T0.gloP, T0.blt, T0.nC, T0.cls, T0.mgc, T0.methP, T0.propP, T0.fldP, T0.meth, T0.init, T0.prop, T0.fld, by omega, T0.exc, T0.exfP, T0.tell, T0.tellP⟩
  | n + 1 => ⟨fun j f q => fn_ok (txt_all T0 n) (T0.defs j f q), fun j f q => ((txt_all T0 n).calls j f q).mono (by omega), T0.mgf, T0.bnd, T0.bnd0, T0.kw, T0.mnp, T0.pnp, T0.glo, T0.gloP, T0.blt, T0.nC, T0.cls, T0.mgc, T0.methP, T0.propP, T0.fldP, T0.meth, T0.init, T0.prop, T0.fld, by omega, T0.exc, T0.exfP, T0.tell, T0.tellP⟩
end
end DL

/-! DLk: binding by keywords, at once for all defs. -/
namespace DL
open PySem PySem.Spec PyProof.Rows L2
abbrev Slots := List (Str × Value)
abbrev addS (s : Slots) (q : Str × Value) : Slots := if (s.lookup q.1).isNone then s ++ [(q.1, q.2)] else s
theorem addS_look : ∀ (l s : Slots) (p : Str), (l.foldl addS s).lookup p = (s.lookup p).or (l.lookup p)
  | [], s, p => by simp
  | (qa, qb) :: l, s, p => by
    rw [List.foldl_cons, addS_look l, List.lookup_cons]
    unfold addS
    dsimp only
    by_cases h : (s.lookup qa).isNone = true
    · rw [if_pos h, List.lookup_append]
      have h : s.lookup qa = none := by simpa using h
      cases c : (p == qa) with
      | true =>
        have c2 : p = qa := by simpa using c
        subst c2
        simp [h, List.lookup_cons]
      | false => simp [List.lookup_cons, c, Option.or_assoc]
    · rw [if_neg h]
      cases c : (p == qa) with
      | true =>
        have c2 : p = qa := by simpa using c
        subst c2
        cases z : s.lookup p with
        | none => rw [z] at h; exact absurd rfl h
        | some v => simp
      | false => rfl
theorem forIn_add : ∀ (l s : Slots), (forIn (m := Sem) l s fun x s => if (List.lookup x.1 s).isNone = true then pure (ForInStep.yield (s ++ [(x.1, x.2)])) else pure (ForInStep.yield s)) = pure (l.foldl addS s)
  | [], s => by simp
  | q :: l, s => by
    rw [List.forIn_cons, List.foldl_cons]
    unfold addS
    by_cases h : (List.lookup q.1 s).isNone = true
    · rw [if_pos h, if_pos h]
      simp only [pure_bind]
      exact forIn_add l _
    · rw [if_neg h, if_neg h]
      simp only [pure_bind]
      exact forIn_add l _
theorem forIn_kw {α : Type} {e : α} {B : (Str × Value) → (Slots × α) → Sem (ForInStep (Slots × α))} : ∀ (l s : Slots), (l.map (·.1)).Nodup → (∀ q ∈ l, s.lookup q.1 = none) →
    (∀ q ∈ l, ∀ s', s'.lookup q.1 = none → B q (s', e) = pure (.yield (s' ++ [(q.1, q.2)], e))) → forIn (m := Sem) l (s, e) B = pure (s ++ l, e)
  | [], s, _, _, _ => by simp
  | q :: l, s, nd, h0, hB => by
    rw [List.forIn_cons, hB q List.mem_cons_self s (h0 q List.mem_cons_self)]
    simp only [pure_bind]
    rw [List.map_cons, List.nodup_cons] at nd
    rw [forIn_kw l _ nd.2 (fun p hp => ?_) fun p hp => hB p (List.mem_cons_of_mem _ hp)]
    · simp
    · rw [List.lookup_append, h0 p (List.mem_cons_of_mem _ hp)]
      have : (p.1 == q.1) = false := by
        simpa using fun e : p.1 = q.1 => nd.1 (by rw [← e]; exact List.mem_map_of_mem hp)
      simp [List.lookup_cons, this]
theorem looks_kw {α : Type} {M : Model} {h : Heap} {e : α} {kd : Str → Value} {B : Str → (Slots × α) → Sem (ForInStep (Slots × α))} : ∀ (l : List Str) (s : Slots),
    (∀ n ∈ l, ∀ s', (s'.lookup n).isNone = false → B n (s', e) = pure (.yield (s', e))) → (∀ n ∈ l, ∀ s', (s'.lookup n).isNone = true → s'.lookup n = s.lookup n → PySem.W.Looks M h (B n (s', e)) (.yield (s' ++ [(n, kd n)], e))) → l.Nodup →
    PySem.W.Looks M h (forIn (m := Sem) l (s, e) B) ((l.map fun n => (n, kd n)).foldl addS s, e)
  | [], s, _, _, _ => by
    simp
    exact .now
  | n :: l, s, h1, h2, nd => by
    obtain ⟨n1, n2⟩ := List.nodup_cons.mp nd
    rw [List.forIn_cons, List.map_cons, List.foldl_cons]
    cases c : (s.lookup n).isNone with
    | false =>
      have e1 : addS s (n, kd n) = s := by unfold addS; rw [c]; rfl
      rw [h1 n List.mem_cons_self s c, e1]
      simp only [pure_bind]
      exact looks_kw l s (fun m hm => h1 m (List.mem_cons_of_mem _ hm)) (fun m hm => h2 m (List.mem_cons_of_mem _ hm)) n2
    | true =>
      have e1 : addS s (n, kd n) = s ++ [(n, kd n)] := by unfold addS; rw [c]; rfl
      rw [e1]
      refine (h2 n List.mem_cons_self s c rfl).andThen ?_
      refine looks_kw l _ (fun m hm => h1 m (List.mem_cons_of_mem _ hm)) (fun m hm s' g1 g2 => h2 m (List.mem_cons_of_mem _ hm) s' g1 ?_) n2
      rw [g2, List.lookup_append]
      have : (m == n) = false := by simpa using fun e : m = n => n1 (by rw [← e]; exact hm)
      simp [List.lookup_cons, this]
theorem bind_gen {M : Model} {h : Heap} {x qual : Str} {as kas : List Arg} {body : List Stmt} {scope : Scope} {dV kV doc pm cdv ct : Value} {an : Option Addr} {us ws its : List Value} {ks P W : List Str} {dfl : List Expr} {kdfl : List (Option Expr)}
    (hP : as.map (·.arg) = P) (hW : kas.map (·.arg) = W) (ndW : W.Nodup) (ndk : ks.Nodup) (hl : us.length ≤ P.length) (hkl : ks.length = ws.length) (hk : ∀ k ∈ ks, (k ∈ P ∨ k ∈ W) ∧ (P.zip us).lookup k = none)
    {o : Option (Array Value)} (hD : PySem.W.Looks M h (seqItems? dV) o) (ho : (o.getD #[]).toList = its) (hi : its.length ≤ P.length)
    (hm : ∀ p ∈ P.take (P.length - its.length), ((P.zip us ++ ks.zip ws).lookup p).isSome = true) {kd : Str → Value}
    (hkd : ∀ n ∈ W, n ∉ ks → ∃ D, kV = .ref D ∧ PySem.W.Looks M h (nsGet D n) (some (kd n))) {val : Str → Value}
    (hr : ∀ p ∈ P ++ W, ((P.zip us ++ ks.zip ws).lookup p).or ((((P.drop (P.length - its.length)).zip its).lookup p).or ((W.map fun n => (n, kd n)).lookup p)) = some (val p)) :
    PySem.W.Looks M h (bindArgs (PySem.W.fnOf x qual ⟨[], as, none, kas, kdfl, none, dfl⟩ body scope dV kV doc pm an cdv ct) ⟨us, ks.zip ws⟩) ((P ++ W).map fun p => (p, val p)) := by
  unfold bindArgs
  unfold PySem.W.fnOf
  dsimp only
  simp only [List.map_nil, List.nil_append]
  rw [hP, hW]
  have zk : (ks.zip ws).map (·.1) = ks := List.map_fst_zip (by omega)
  have kin : ∀ q ∈ ks.zip ws, q.1 ∈ ks := fun q hq => by rw [← zk]; exact List.mem_map_of_mem hq
  rw [forIn_kw (ks.zip ws) (P.zip us) (by rw [zk]; exact ndk) (fun q hq => (hk _ (kin q hq)).2) fun q hq s' hs => by
    have : (P.contains q.1 || W.contains q.1) = true := by
      rcases (hk _ (kin q hq)).1 with z | z
      · simp [z]
      · simp [z]
    rw [if_pos this, if_neg (by rw [hs]; simp)]]
  simp only [pure_bind]
  refine hD.andThen ?_
  rw [ho]
  rw [if_neg (by simp; omega)]
  have d0 : its.drop (its.length - P.length) = its := by rw [Nat.sub_eq_zero_of_le hi]; rfl
  rw [d0]
  have miss : ((P.take (P.length - its.length)).filter fun n => ((P.zip us ++ ks.zip ws).lookup n).isNone) = [] := by
    rw [List.filter_eq_nil_iff]
    intro n hn
    have := hm n hn
    cases c : (P.zip us ++ ks.zip ws).lookup n with
    | none => rw [c] at this; cases this
    | some v => simp
  rw [miss]
  rw [if_neg (by simp)]
  rw [forIn_add]
  simp only [pure_bind]
  generalize hS : ((P.drop (P.length - its.length)).zip its).foldl addS (P.zip us ++ ks.zip ws) = S
  have look : ∀ p, ((W.map fun n => (n, kd n)).foldl addS S).lookup p = ((P.zip us ++ ks.zip ws).lookup p).or ((((P.drop (P.length - its.length)).zip its).lookup p).or ((W.map fun n => (n, kd n)).lookup p)) := fun p => by
    rw [addS_look, ← hS, addS_look, Option.or_assoc]
  refine (looks_kw (kd := kd) W S (fun n hn s' hs => ?_) (fun n hn s' hs hs2 => ?_) ndW).andThen ?_
  · rw [if_neg (by rw [hs]; simp)]
  · have nk : n ∉ ks := fun z => by
      obtain ⟨v, hv⟩ : ∃ v, (ks.zip ws).lookup n = some v := by
        have : ∀ {ks : List Str} {ws : List Value}, ks.length = ws.length → n ∈ ks → ∃ v, (ks.zip ws).lookup n = some v := by
          intro ks
          induction ks with
          | nil => intro ws _ h; cases h
          | cons m ks ih =>
            intro ws hl h
            cases ws with
            | nil => cases hl
            | cons w ws =>
              rw [List.zip_cons_cons, List.lookup_cons]
              cases q : n == m with
              | true => exact ⟨w, rfl⟩
              | false =>
                rcases List.mem_cons.mp h with h | h
                · rw [h] at q; simp at q
                · exact ih (by simpa using hl) h
        exact this hkl z
      rw [hs2, ← hS, addS_look, List.lookup_append, hv] at hs
      cases z2 : (P.zip us).lookup n <;> simp [z2] at hs
    obtain ⟨D, rfl, hg⟩ := hkd n hn nk
    rw [if_pos hs]
    exact hg.andThen .now
  · rw [if_neg (by simp)]
    have e : (P ++ W).filterMap (fun n => (((W.map fun n => (n, kd n)).foldl addS S).lookup n).map fun x => (n, x)) = (P ++ W).map fun p => (p, val p) := by
      have : ∀ l : List Str, (∀ p ∈ l, p ∈ P ++ W) → l.filterMap (fun n => (((W.map fun n => (n, kd n)).foldl addS S).lookup n).map fun x => (n, x)) = l.map fun p => (p, val p) := by
        intro l
        induction l with
        | nil => intro _; rfl
        | cons p l ih =>
          intro h
          rw [List.filterMap_cons, look, hr p (h p List.mem_cons_self), List.map_cons, ih fun q hq => h q (List.mem_cons_of_mem _ hq)]
          rfl
      exact this _ fun p hp => hp
    rw [e]
    exact .now
end DL

/-! DLh: how a def binds keywords. -/
namespace DL
open PySem PySem.Spec PyProof.Rows L2
theorem zl_some {α : Type} {n : Str} : ∀ {ns : List Str} {us : List α}, ns.length ≤ us.length → n ∈ ns → ∃ u, (ns.zip us).lookup n = some u
  | m :: ns, [], h, _ => by simp at h
  | m :: ns, u :: us, h, hn => by
    rw [List.zip_cons_cons, List.lookup_cons]
    cases q : n == m with
    | true => exact ⟨u, rfl⟩
    | false =>
      rcases List.mem_cons.mp hn with e | hn
      · rw [e] at q; simp at q
      · exact zl_some (by simpa using h) hn
theorem zl_out {α : Type} {n : Str} : ∀ {ns : List Str} {us : List α}, n ∉ ns → (ns.zip us).lookup n = none
  | [], us, _ => by simp
  | m :: ns, [], _ => by simp
  | m :: ns, u :: us, h => by
    rw [List.zip_cons_cons, List.lookup_cons]
    have : (n == m) = false := by simpa using fun e : n = m => h (by rw [e]; exact List.mem_cons_self)
    rw [this]
    exact zl_out fun z => h (List.mem_cons_of_mem _ z)
theorem zl_in {α : Type} {n : Str} {ns : List Str} {us : List α} {u : α} (h : (ns.zip us).lookup n = some u) : n ∈ ns := by
  cases c : decide (n ∈ ns) with
  | true => exact of_decide_eq_true c
  | false => rw [zl_out (of_decide_eq_false c)] at h; cases h
theorem zl_at {α : Type} : ∀ {ns : List Str} {us : List α} {i : Nat} {n : Str} {u : α}, ns.Nodup → ns[i]? = some n → us[i]? = some u → (ns.zip us).lookup n = some u
  | [], _, i, n, u, _, h, _ => by simp at h
  | m :: ns, [], i, n, u, _, _, h => by simp at h
  | m :: ns, w :: us, 0, n, u, _, h1, h2 => by
    simp at h1 h2
    subst h1 h2
    simp
  | m :: ns, w :: us, i + 1, n, u, nd, h1, h2 => by
    obtain ⟨n1, n2⟩ := List.nodup_cons.mp nd
    have h1 : ns[i]? = some n := by simpa using h1
    have : (n == m) = false := by simpa using fun e : n = m => n1 (by rw [← e]; exact List.mem_of_getElem? h1)
    rw [List.zip_cons_cons, List.lookup_cons, this]
    exact zl_at n2 h1 (by simpa using h2)
theorem zl_rel {p : Str} : ∀ {ks : List Str} {zs : List V} {ws : List Value}, Vals zs ws → RelO ((ks.zip zs).lookup p) ((ks.zip ws).lookup p)
  | [], _, _, _ => by simp [RelO]
  | k :: ks, [], [], .nil => by simp [RelO]
  | k :: ks, z :: zs, w :: ws, .cons h t => by
    rw [List.zip_cons_cons, List.zip_cons_cons, List.lookup_cons, List.lookup_cons]
    cases q : p == k with
    | true => exact h
    | false => exact zl_rel t
theorem relO_getD {a : Option V} {b : Option Value} {v : V} {u : Value} (h : RelO a b) (r : RelV v u) : RelV (a.getD v) (b.getD u) := by
  cases a <;> cases b <;> first | exact r | exact h | exact h.elim
theorem relO_or {a c : Option V} {b d : Option Value} (h : RelO a b) (k : RelO c d) : RelO (a.or c) (b.or d) := by
  cases a <;> cases b <;> first | exact k | exact h | exact h.elim
theorem zl_den {g : G} {H : Hp} {p : Str} : ∀ {ns : List Str} {vs : List V} {ds : List D} {x : D}, Dens g H vs ds → (ns.zip ds).lookup p = some x → ∃ v, (ns.zip vs).lookup p = some v ∧ Den g H v x
  | [], _, _, x, _, e => by simp at e
  | n :: ns, _, _, x, .nil, e => by simp at e
  | n :: ns, _, _, x, .cons h t, e => by
    rw [List.zip_cons_cons, List.lookup_cons] at e
    rw [List.zip_cons_cons, List.lookup_cons]
    cases q : p == n with
    | true =>
      rw [q] at e
      cases e
      exact ⟨_, rfl, h⟩
    | false =>
      rw [q] at e
      exact zl_den t e
theorem map_look {α : Type} {f : Str → α} {n : Str} : ∀ {W : List Str}, (W.map fun n => (n, f n)).lookup n = if n ∈ W then some (f n) else none
  | [] => by simp
  | m :: W => by
    rw [List.map_cons, List.lookup_cons]
    by_cases c : n = m
    · subst c
      simp
    · have : (n == m) = false := by simpa using c
      rw [this]
      simp only [List.mem_cons, c, false_or]
      exact map_look
theorem zip_map_look {α : Type} {d : Str → α} {ns : List Str} {us : List α} (nd : ns.Nodup) (hl : us.length = ns.length) : (ns.map fun p => (p, ((ns.zip us).lookup p).getD (d p))) = ns.zip us := by
  apply List.ext_getElem
  · simp [hl]
  · intro i h1 h2
    have i1 : i < ns.length := by simpa using h1
    rw [List.getElem_map, List.getElem_zip, zl_at nd (List.getElem?_eq_getElem i1) (List.getElem?_eq_getElem (by omega))]
    rfl
theorem vals_map {α : Type} {f : α → V} {h : α → Value} : ∀ {l : List α}, (∀ a, RelV (f a) (h a)) → Vals (l.map f) (l.map h)
  | [], _ => .nil
  | _ :: _, r => .cons (r _) (vals_map r)
section
variable {g : G} {K : PySem.W.Frag} {x qual : Str} {as kas : List Arg} {body : List Stmt} {scope : Scope} {dvs : List V} {kws : List (Str × V)} {f : Addr} {fd : FuncData} {dfl : List Expr} {kdfl : List (Option Expr)} {fi : FnI} {P W : List Str} {n : Nat} {ks : List Str} {tl : List KA}
theorem tlB_mem {p : Str} : ∀ {ps : List Str} {tl : List KA}, tlB fi ks ps tl = true → p ∈ ps → p ∈ ks ∨ (p ∉ ks ∧ ∃ y, fi.dflt p = some y)
  | [], tl, _, h => by cases h
  | q :: ps, [], h, _ => by simp [tlB] at h
  | q :: ps, .k m :: tl, h, hp => by
    simp only [tlB, Bool.and_eq_true, decide_eq_true_eq] at h
    rcases List.mem_cons.mp hp with e | hp
    · rw [e]; exact .inl (List.mem_of_getElem? h.1)
    · exact tlB_mem h.2 hp
  | q :: ps, .d y :: tl, h, hp => by
    simp only [tlB, Bool.and_eq_true, Bool.not_eq_true'] at h
    rcases List.mem_cons.mp hp with e | hp
    · rw [e]
      refine .inr ⟨fun z => ?_, ?_⟩
      · have := h.1
        rw [List.contains_iff_mem.mpr z] at this
        cases this
      · have h2 := h.2.1
        split at h2
        · rename_i z e2; exact ⟨z, e2⟩
        · cases h2
    · exact tlB_mem h.2.2 hp
theorem kwok_of (hgK : g.K = K) (F : FunD K x qual ⟨[], as, none, kas, kdfl, none, dfl⟩ body scope dvs kws f fd) (hP : as.map (·.arg) = P) (hW : kas.map (·.arg) = W) (hps : fi.ps = P ++ W) (hnp : fi.np = P.length) (nd : (P ++ W).Nodup)
    (hl1 : fi.dfs.length ≤ P.length) (hden : ∀ H, Dens g H dvs fi.dfs) (hkn : ∀ p x, fi.kds.lookup p = some x → p ∈ W) (hkden : ∀ H, Denf g H kws fi.kds) (h : kwB fi n ks tl = true) : KwOk g fd fi.ps n ks tl := by
  obtain ⟨oc, od, dV, kV, doc, pm, an, cdv, ct, osl, rfl, lk, hcd, hD, hKw⟩ := F.ex
  unfold kwB at h
  simp only [Bool.and_eq_true, decide_eq_true_eq, List.all_eq_true, List.contains_iff_mem] at h
  obtain ⟨hn, ndk, hks, htl⟩ := h
  rw [hps] at hks htl ⊢
  rw [hnp] at hn
  obtain ⟨ndP, ndW, hPW⟩ := List.nodup_append.mp nd
  have hPW : ∀ p, p ∈ P → p ∈ W → False := fun p h1 h2 => hPW p h1 p h2 rfl
  -- the positional defaults
  obtain ⟨o, its, ho, rD, hLk⟩ : ∃ (o : Option (Array Value)) (its : List Value), (o.getD #[]).toList = its ∧ Vals dvs its ∧ ∀ (M : Model) (h : Heap), K.In h → PySem.W.Looks M h (seqItems? dV) o := by
    rcases hD with ⟨rfl, rfl⟩ | ⟨_, T, ob, its, m, rfl, lT, oT, rT⟩
    · exact ⟨none, [], rfl, .nil, fun M h X => PySem.W.Looks.of_pure rfl⟩
    · refine ⟨some its.toArray, its, rfl, rT, fun M h X => ?_⟩
      have z := looks_items (k := fun o => pure o) (M := M) X lT oT PySem.W.Looks.now
      rw [bind_pure] at z
      exact z
  have li : its.length = fi.dfs.length := by rw [← rD.length, (hden (fun _ => none)).length]
  -- the keyword-only ones
  obtain ⟨kd, kdV, rK, hkd⟩ : ∃ (kd : Str → Value) (kdV : Str → V), (∀ n, RelV (kdV n) (kd n)) ∧ ∀ n v, kws.lookup n = some v → kdV n = v ∧ ∃ D, kV = .ref D ∧ PySem.W.nsIn K D n = some (some (kd n)) := by
    rcases hKw with rfl | ⟨D, rfl, hq⟩
    · exact ⟨fun _ => .none, fun _ => .non, fun _ => rfl, fun n v e => by cases e⟩
    · obtain ⟨us, hl, rk, hks⟩ := kwd_vals hq
      have key : ∀ n, ∃ u v, RelV v u ∧ ∀ w, kws.lookup n = some w → v = w ∧ PySem.W.nsIn K D n = some (some u) := fun n => by
        cases e : kws.lookup n with
        | none => exact ⟨.none, .non, rfl, fun w e => by cases e⟩
        | some w =>
          have mem : ∀ {l : List (Str × V)} {w : V}, l.lookup n = some w → (n, w) ∈ l := by
            intro l
            induction l with
            | nil => intro w h; cases h
            | cons q l ih =>
              intro w h
              obtain ⟨a, b⟩ := q
              rw [List.lookup_cons] at h
              cases c : n == a with
              | true =>
                rw [c] at h
                cases h
                rw [eq_of_beq c]
                exact List.mem_cons_self
              | false =>
                rw [c] at h
                exact List.mem_cons_of_mem _ (ih h)
          obtain ⟨u, e1, e2⟩ := hq _ (mem e)
          exact ⟨u, w, e2, fun w' e' => by cases e'; exact ⟨rfl, e1⟩⟩
      obtain ⟨kd, hkd⟩ := Classical.axiomOfChoice key
      obtain ⟨kdV, hkdV⟩ := Classical.axiomOfChoice hkd
      exact ⟨kd, kdV, fun n => (hkdV n).1, fun n v e => ⟨((hkdV n).2 v e).1, D, rfl, ((hkdV n).2 v e).2⟩⟩
  generalize hdv : (fun p : Str => ((((P.drop (P.length - its.length)).zip its).lookup p).or ((W.map fun n => (n, kd n)).lookup p)).getD Value.none) = dval
  generalize hdV : (fun p : Str => ((((P.drop (P.length - its.length)).zip dvs).lookup p).or ((W.map fun n => (n, kdV n)).lookup p)).getD V.non) = dvalV
  have rdv : ∀ p, RelV (dvalV p) (dval p) := fun p => by
    rw [← hdv, ← hdV]
    refine relO_getD (relO_or (zl_rel rD) ?_) rfl
    rw [map_look, map_look]
    by_cases c : p ∈ W
    · rw [if_pos c, if_pos c]; exact rK p
    · rw [if_neg c, if_neg c]; trivial
  -- what a default stands for
  have dfl_case : ∀ p y, fi.dflt p = some y → (((P.drop (P.length - its.length)).zip fi.dfs).lookup p = some y) ∨ (p ∈ W ∧ fi.kds.lookup p = some y) := fun p y e => by
    unfold FnI.dflt at e
    rw [hps, hnp, List.take_left, ← li, List.lookup_append] at e
    cases c : ((P.drop (P.length - its.length)).zip fi.dfs).lookup p with
    | some z => rw [c] at e; cases e; exact .inl rfl
    | none =>
      rw [c] at e
      have e : fi.kds.lookup p = some y := by simpa using e
      exact .inr ⟨hkn p y e, e⟩
  have denf_some : ∀ H p y, fi.kds.lookup p = some y → ∃ v, kws.lookup p = some v ∧ Den g H v y := fun H p y e => Denf.look (hkden H) e
  have dfl_some : ∀ p y, fi.dflt p = some y → (((P.drop (P.length - its.length)).zip its).lookup p).or ((W.map fun n => (n, kd n)).lookup p) = some (dval p) := fun p y e => by
    have : ∃ z, (((P.drop (P.length - its.length)).zip its).lookup p).or ((W.map fun n => (n, kd n)).lookup p) = some z := by
      rcases dfl_case p y e with e | ⟨e, _⟩
      · obtain ⟨u, hu⟩ := zl_some (us := its) (by rw [List.length_drop]; omega) (zl_in e)
        rw [hu]
        exact ⟨u, rfl⟩
      · cases c : ((P.drop (P.length - its.length)).zip its).lookup p with
        | some z => exact ⟨z, rfl⟩
        | none => rw [map_look, if_pos e]; exact ⟨_, rfl⟩
    obtain ⟨z, hz⟩ := this
    rw [hz, ← hdv]
    dsimp only
    rw [hz]
    rfl
  have dfl_den : ∀ H p y, fi.dflt p = some y → Den g H (dvalV p) y := fun H p y e => by
    rw [← hdV]
    dsimp only
    rcases dfl_case p y e with e | ⟨e, e2⟩
    · obtain ⟨v, e1, e2⟩ := zl_den (hden H) e
      rw [e1]
      exact e2
    · have np : p ∉ P.drop (P.length - its.length) := fun z => hPW p (List.mem_of_mem_drop z) e
      rw [zl_out np, map_look, if_pos e]
      obtain ⟨v, e3, e4⟩ := denf_some H p y e2
      show Den g H (kdV p) y
      rw [(hkd p v e3).1]
      exact e4
  have tk : (P ++ W).take n = P.take n := List.take_append_of_le_length hn
  have inP : ∀ p, p ∈ P.take n ∨ p ∈ (P ++ W).drop n ∨ p ∉ P ++ W := fun p => by
    by_cases c : p ∈ P ++ W
    · rw [← List.take_append_drop n (P ++ W)] at c
      rcases List.mem_append.mp c with c | c
      · rw [tk] at c; exact .inl c
      · exact .inr (.inl c)
    · exact .inr (.inr c)
  have disj : ∀ p, p ∈ P.take n → p ∈ (P ++ W).drop n → False := fun p h1 h2 => by
    have z := nd
    rw [← List.take_append_drop n (P ++ W), tk] at z
    exact (List.nodup_append.mp z).2.2 p h1 p h2 rfl
  refine ⟨⟨fun us ws => us ++ ((P ++ W).drop n).map fun p => ((ks.zip ws).lookup p).getD (dval p), fun vs zs => vs ++ ((P ++ W).drop n).map fun p => ((ks.zip zs).lookup p).getD (dvalV p), ⟨fun s us ws X l1 l2 => ?_, fun r1 r2 => r1.append (vals_map fun p => relO_getD (zl_rel r2) (rdv p))⟩, fun H ι vs zs xs ys ts d1 l1 d2 l2 et => ?_⟩⟩
  · rw [hgK] at X
    refine BindsTo.of_looks fun M => ?_
    have zP : P.zip us = (P.take n).zip us := by
      have e : (P.take n ++ P.drop n).zip (us ++ []) = (P.take n).zip us ++ (P.drop n).zip [] := List.zip_append (by rw [List.length_take]; omega)
      rw [List.take_append_drop] at e
      simpa using e
    have lkP : ∀ p, p ∈ P.take n → ∃ u, (P.zip us).lookup p = some u := fun p hp => by
      rw [zP]
      exact zl_some (by rw [List.length_take]; omega) hp
    have lkN : ∀ p, p ∉ P.take n → (P.zip us).lookup p = none := fun p hp => by
      rw [zP]
      exact zl_out hp
    have val : ∀ p, p ∈ P ++ W → ((P.zip us ++ ks.zip ws).lookup p).or ((((P.drop (P.length - its.length)).zip its).lookup p).or ((W.map fun n => (n, kd n)).lookup p)) = some (((P.zip us).lookup p).getD (((ks.zip ws).lookup p).getD (dval p))) := fun p hp => by
      rw [List.lookup_append]
      rcases inP p with h1 | h1 | h1
      · obtain ⟨u, hu⟩ := lkP p h1
        rw [hu]
        rfl
      · rw [lkN p fun z => disj p z h1]
        rcases tlB_mem htl h1 with h2 | ⟨h2, y, h3⟩
        · obtain ⟨u, hu⟩ := zl_some (us := ws) (by omega) h2
          rw [hu]
          rfl
        · rw [zl_out h2]
          exact dfl_some p y h3
      · exact absurd hp h1
    have z := bind_gen (M := M) (h := s.heap) (x := x) (qual := qual) (as := as) (kas := kas) (body := body) (scope := scope) (dV := dV) (kV := kV) (doc := doc) (pm := pm) (cdv := cdv) (ct := ct) (an := an) (us := us) (ws := ws) (its := its) (ks := ks) (dfl := dfl) (kdfl := kdfl) hP hW ndW ndk (by omega) l2.symm
      (fun k hk => by
        have := hks k hk
        refine ⟨?_, lkN k fun z => disj k z this⟩
        exact List.mem_append.mp (List.mem_of_mem_drop this)) (hLk M s.heap X) ho (by omega)
      (fun p hp => by
        rw [List.lookup_append]
        rcases inP p with h1 | h1 | h1
        · obtain ⟨u, hu⟩ := lkP p h1
          rw [hu]
          rfl
        · rcases tlB_mem htl h1 with h2 | ⟨h2, y, h3⟩
          · obtain ⟨u, hu⟩ := zl_some (us := ws) (by omega) h2
            rw [hu]
            cases (P.zip us).lookup p <;> rfl
          · exfalso
            rcases dfl_case p y h3 with e | ⟨e, _⟩
            · have z := ndP
              rw [← List.take_append_drop (P.length - its.length) P] at z
              exact (List.nodup_append.mp z).2.2 p hp p (zl_in e) rfl
            · exact hPW p (List.mem_of_mem_take hp) e
        · exact absurd (List.mem_append_left W (List.mem_of_mem_take hp)) h1) (kd := kd)
      (fun m hm hmk => by
        have hd : m ∈ (P ++ W).drop n := by
          rcases inP m with h1 | h1 | h1
          · exact absurd hm (fun z => hPW m (List.mem_of_mem_take h1) z)
          · exact h1
          · exact absurd (List.mem_append_right P hm) h1
        rcases tlB_mem htl hd with h2 | ⟨h2, y, h3⟩
        · exact absurd h2 hmk
        · rcases dfl_case m y h3 with e | ⟨_, e⟩
          · exact (hPW m (List.mem_of_mem_drop (zl_in e)) hm).elim
          · obtain ⟨v, e3, _⟩ := denf_some (fun _ => none) m y e
            obtain ⟨_, D, e4, e5⟩ := hkd m v e3
            exact ⟨D, e4, PySem.W.looks_nsIn X e5⟩) (val := fun p => ((P.zip us).lookup p).getD (((ks.zip ws).lookup p).getD (dval p))) val
    have e : ((P ++ W).map fun p => (p, ((P.zip us).lookup p).getD (((ks.zip ws).lookup p).getD (dval p)))) = (P ++ W).zip (us ++ ((P ++ W).drop n).map fun p => ((ks.zip ws).lookup p).getD (dval p)) := by
      have ltk : ((P ++ W).take n).length = us.length := by rw [tk, List.length_take]; omega
      have e0 : (P ++ W).zip (us ++ ((P ++ W).drop n).map fun p => ((ks.zip ws).lookup p).getD (dval p)) = ((P ++ W).take n).zip us ++ ((P ++ W).drop n).zip (((P ++ W).drop n).map fun p => ((ks.zip ws).lookup p).getD (dval p)) := by
        have z := List.zip_append (l₁ := (P ++ W).take n) (r₁ := (P ++ W).drop n) (l₂ := us) (r₂ := ((P ++ W).drop n).map fun p => ((ks.zip ws).lookup p).getD (dval p)) ltk
        rw [List.take_append_drop] at z
        exact z
      rw [e0]
      have e1 : ((P ++ W).map fun p => (p, ((P.zip us).lookup p).getD (((ks.zip ws).lookup p).getD (dval p)))) = (((P ++ W).take n).map fun p => (p, ((P.zip us).lookup p).getD (((ks.zip ws).lookup p).getD (dval p)))) ++ (((P ++ W).drop n).map fun p => (p, ((P.zip us).lookup p).getD (((ks.zip ws).lookup p).getD (dval p)))) := by
        rw [← List.map_append, List.take_append_drop]
      rw [e1]
      congr 1
      · rw [tk] at ltk ⊢
        rw [zP]
        exact zip_map_look (ndP.sublist (List.take_sublist _ _)) ltk.symm
      · have : ∀ l : List Str, (∀ p ∈ l, p ∉ P.take n) → (l.map fun p => (p, ((P.zip us).lookup p).getD (((ks.zip ws).lookup p).getD (dval p)))) = l.zip (l.map fun p => ((ks.zip ws).lookup p).getD (dval p)) := by
          intro l
          induction l with
          | nil => intro _; rfl
          | cons p l ih =>
            intro hl
            rw [List.map_cons, List.map_cons, List.zip_cons_cons, ih fun q hq => hl q (List.mem_cons_of_mem _ hq), lkN p (hl p List.mem_cons_self)]
            rfl
        exact this _ fun p hp z => disj p z hp
    rw [← e]
    exact z
  · refine d1.append ?_
    have key : ∀ {ps : List Str} {tl : List KA} {ts : List DL.X}, tlB fi ks ps tl = true → tlX ys tl = some ts → XDens g H ι (ps.map fun p => ((ks.zip zs).lookup p).getD (dvalV p)) ts := by
      intro ps
      induction ps with
      | nil =>
        intro tl ts h1 h2
        cases tl with
        | nil => cases h2; exact .nil
        | cons _ _ => simp [tlB] at h1
      | cons p ps ih =>
        intro tl ts h1 h2
        cases tl with
        | nil => simp [tlB] at h1
        | cons t tl =>
          cases t with
          | k m =>
            simp only [tlB, Bool.and_eq_true, decide_eq_true_eq] at h1
            unfold tlX at h2
            obtain ⟨y, e1, h3⟩ := Option.bind_eq_some_iff.mp h2
            obtain ⟨rs, e2, rfl⟩ := Option.map_eq_some_iff.mp h3
            have get : ∀ {zs : List V} {ys : List DL.X} {m : Nat} {y : DL.X}, XDens g H ι zs ys → ys[m]? = some y → ∃ v, zs[m]? = some v ∧ XDen g H ι v y := by
              intro zs ys m y d
              induction d generalizing m with
              | nil => intro h; simp at h
              | cons h hs ih =>
                intro e
                cases m with
                | zero => simp at e; subst e; exact ⟨_, rfl, h⟩
                | succ m => exact ih (by simpa using e)
            obtain ⟨v, e3, e4⟩ := get d2 e1
            refine .cons ?_ (ih h1.2 e2)
            dsimp only
            rw [zl_at ndk h1.1 e3]
            exact e4
          | d y =>
            simp only [tlB, Bool.and_eq_true, Bool.not_eq_true'] at h1
            unfold tlX at h2
            obtain ⟨rs, e2, rfl⟩ := Option.map_eq_some_iff.mp h2
            refine .cons ?_ (ih h1.2.2 e2)
            have nk : p ∉ ks := fun z => by
              have := h1.1
              rw [List.contains_iff_mem.mpr z] at this
              cases this
            dsimp only
            rw [zl_out nk]
            have h3 := h1.2.1
            split at h3
            · rename_i w ew
              rw [scEq_eq h3]
              exact dfl_den H p w ew
            · cases h3
    exact key htl et
end
end DL

/-! DL14: from the head's facts to the law. -/
namespace DL
open PySem PySem.Spec PyProof.Rows L2
/-! ### binding -/
theorem look_zip : ∀ {ns : List Str} {us : List Value} {l0 : List (Str × Value)}, ns.Nodup → us.length = ns.length → (∀ n ∈ ns, l0.lookup n = none) → ns.filterMap (fun n => ((l0 ++ ns.zip us).lookup n).map (n, ·)) = ns.zip us
  | [], us, l0, _, _, _ => by simp
  | n :: ns, [], l0, _, h, _ => by cases h
  | n :: ns, u :: us, l0, nd, h, h0 => by
    obtain ⟨h1, h2⟩ := List.nodup_cons.mp nd
    have e : ((l0 ++ (n :: ns).zip (u :: us)).lookup n) = some u := by
      rw [List.lookup_append, h0 n List.mem_cons_self]
      simp
    rw [List.filterMap_cons, e]
    have ih := look_zip (ns := ns) (us := us) (l0 := l0 ++ [(n, u)]) h2 (by simpa using h) fun m hm => by
      rw [List.lookup_append, h0 m (List.mem_cons_of_mem _ hm)]
      have : (m == n) = false := by simpa using fun e : m = n => h1 (by rw [← e]; exact hm)
      simp [List.lookup_cons, this]
    rw [List.append_assoc] at ih
    have e2 : [(n, u)] ++ ns.zip us = (n :: ns).zip (u :: us) := rfl
    rw [e2] at ih
    show (n, u) :: _ = _
    rw [ih]
    rfl
theorem look_some {ns : List Str} {us : List Value} (nd : ns.Nodup) (hl : us.length = ns.length) : (ns.filter fun n => ((ns.zip us).lookup n).isNone) = [] := by
  rw [List.filter_eq_nil_iff]
  intro n hn
  have : ∀ {ns : List Str} {us : List Value}, us.length = ns.length → n ∈ ns → ((ns.zip us).lookup n).isNone = false := fun {ns} => by
    induction ns with
    | nil => intro us _ h; cases h
    | cons m ns ih =>
      intro us hl h
      cases us with
      | nil => cases hl
      | cons u us =>
        rw [List.zip_cons_cons, List.lookup_cons]
        cases q : n == m with
        | true => rfl
        | false =>
          rcases List.mem_cons.mp h with h | h
          · rw [h] at q; simp at q
          · exact ih (by simpa using hl) h
  rw [this hl hn]
  simp
theorem bind_ok {x qual : Str} {as : List Arg} {body : List Stmt} {scope : Scope} {kV doc pm cdv ct : Value} {an : Option Addr} {us : List Value} {dfl : List Expr} (nd : (as.map (·.arg)).Nodup) (hl : us.length = (as.map (·.arg)).length) :
    bindArgs (PySem.W.fnOf x qual ⟨[], as, none, [], [], none, dfl⟩ body scope .none kV doc pm an cdv ct) ⟨us, []⟩ = pure ((as.map (·.arg)).zip us) := by
  have e0 : seqItems? Value.none = pure none := rfl
  unfold bindArgs
  unfold PySem.W.fnOf
  dsimp only
  rw [e0]
  simp only [List.map_nil, List.nil_append, List.append_nil, List.forIn_nil, pure_bind, Option.getD_none, Array.toList_empty, List.length_nil, Nat.zero_sub, List.drop_nil, Nat.sub_zero, List.zip_nil_right, Option.isNone_none, Bool.and_true]
  rw [if_neg (by simp [hl])]
  simp only [pure_bind, List.take_length, look_some nd hl]
  have e := look_zip (l0 := []) nd hl (fun _ _ => rfl)
  rw [List.nil_append] at e
  simp [e]
theorem lk_mem {n : Str} : ∀ {ns : List Str} {us : List Value}, ns.length ≤ us.length → n ∈ ns → ∃ u, (ns.zip us).lookup n = some u
  | m :: ns, [], h, _ => by simp at h
  | m :: ns, u :: us, h, hn => by
    rw [List.zip_cons_cons, List.lookup_cons]
    cases q : n == m with
    | true => exact ⟨u, rfl⟩
    | false =>
      rcases List.mem_cons.mp hn with e | hn
      · rw [e] at q; simp at q
      · exact lk_mem (by simpa using h) hn
theorem lk_out {n : Str} : ∀ {ns : List Str} {us : List Value}, n ∉ ns → (ns.zip us).lookup n = none
  | [], us, _ => by simp
  | m :: ns, [], _ => by simp
  | m :: ns, u :: us, h => by
    rw [List.zip_cons_cons, List.lookup_cons]
    have : (n == m) = false := by simpa using fun e : n = m => h (by rw [e]; exact List.mem_cons_self)
    rw [this]
    exact lk_out fun z => h (List.mem_cons_of_mem _ z)
/-- what the defaults fill up -/
abbrev fillS (s : List (Str × Value)) (q : Str × Value) : List (Str × Value) := if (s.lookup q.1).isNone then s ++ [(q.1, q.2)] else s
theorem fill_skip : ∀ {ns : List Str} {ds : List Value} {s : List (Str × Value)}, (∀ n ∈ ns, ∃ u, s.lookup n = some u) → (ns.zip ds).foldl fillS s = s
  | [], ds, s, _ => by simp
  | n :: ns, [], s, _ => by simp
  | n :: ns, d :: ds, s, h => by
    obtain ⟨u, e⟩ := h n List.mem_cons_self
    rw [List.zip_cons_cons, List.foldl_cons]
    have : fillS s (n, d) = s := by
      unfold fillS
      rw [e]
      rfl
    rw [this]
    exact fill_skip fun m hm => h m (List.mem_cons_of_mem _ hm)
theorem fill_add : ∀ {ns : List Str} {ds : List Value} {s : List (Str × Value)}, ns.Nodup → (∀ n ∈ ns, s.lookup n = none) → (ns.zip ds).foldl fillS s = s ++ ns.zip ds
  | [], ds, s, _, _ => by simp
  | n :: ns, [], s, _, _ => by simp
  | n :: ns, d :: ds, s, nd, h => by
    obtain ⟨h1, h2⟩ := List.nodup_cons.mp nd
    rw [List.zip_cons_cons, List.foldl_cons]
    have : fillS s (n, d) = s ++ [(n, d)] := by
      unfold fillS
      rw [h n List.mem_cons_self]
      rfl
    rw [this, fill_add h2 fun m hm => by
      rw [List.lookup_append, h m (List.mem_cons_of_mem _ hm)]
      have : (m == n) = false := by simpa using fun e : m = n => h1 (by rw [← e]; exact hm)
      simp [List.lookup_cons, this]]
    simp
/-- names, the written values and the last defaults -/
theorem fill_all {ns : List Str} {us its : List Value} (nd : ns.Nodup) (h1 : us.length ≤ ns.length) (h2 : ns.length ≤ us.length + its.length) (h3 : its.length ≤ ns.length) :
    ((ns.drop (ns.length - its.length)).zip its).foldl fillS (ns.zip us) = ns.zip (us ++ its.drop (us.length + its.length - ns.length)) := by
  obtain ⟨A, B, rfl, hA⟩ : ∃ A B, ns = A ++ B ∧ A.length = us.length := ⟨ns.take us.length, ns.drop us.length, (List.take_append_drop _ _).symm, by simp; omega⟩
  have hl : (A ++ B).length = A.length + B.length := List.length_append
  have k : us.length + its.length - (A ++ B).length = its.length - B.length := by omega
  rw [k]
  have hB : B.length ≤ its.length := by omega
  obtain ⟨I, J, rfl, hJ⟩ : ∃ I J, its = I ++ J ∧ J.length = B.length := ⟨its.take (its.length - B.length), its.drop (its.length - B.length), (List.take_append_drop _ _).symm, by simp; omega⟩
  have hl2 : (I ++ J).length = I.length + J.length := List.length_append
  have k2 : (I ++ J).length - B.length = I.length := by omega
  rw [k2, List.drop_left]
  have k3 : (A ++ B).length - (I ++ J).length = A.length - I.length := by omega
  rw [k3, List.drop_append_of_le_length (by omega)]
  have hd : (A.drop (A.length - I.length)).length = I.length := by simp; omega
  rw [List.zip_append hd, List.foldl_append]
  have hz : (A ++ B).zip us = A.zip us := by
    have : (A ++ B).zip (us ++ []) = A.zip us ++ B.zip [] := List.zip_append hA
    simpa using this
  rw [hz]
  rw [fill_skip fun n hn => lk_mem (by omega) (List.mem_of_mem_drop hn)]
  obtain ⟨n1, n2, n3⟩ := List.nodup_append.mp nd
  rw [fill_add n2 fun n hn => lk_out fun z => n3 n z n hn rfl]
  rw [List.zip_append hA]
theorem map_lk {ns : List Str} {us : List Value} (nd : ns.Nodup) (hl : us.length = ns.length) : ns.filterMap (fun n => ((ns.zip us).lookup n).map (n, ·)) = ns.zip us := by
  have : ∀ {ns : List Str} {us : List Value} {l0 : List (Str × Value)}, ns.Nodup → us.length = ns.length → (∀ n ∈ ns, l0.lookup n = none) → ns.filterMap (fun n => ((l0 ++ ns.zip us).lookup n).map (n, ·)) = ns.zip us := by
    intro ns
    induction ns with
    | nil => intros; simp
    | cons n ns ih =>
      intro us l0 nd h h0
      cases us with
      | nil => cases h
      | cons u us =>
        obtain ⟨h1, h2⟩ := List.nodup_cons.mp nd
        have e : ((l0 ++ (n :: ns).zip (u :: us)).lookup n) = some u := by
          rw [List.lookup_append, h0 n List.mem_cons_self]
          simp
        rw [List.filterMap_cons, e]
        have ih := ih (us := us) (l0 := l0 ++ [(n, u)]) h2 (by simpa using h) fun m hm => by
          rw [List.lookup_append, h0 m (List.mem_cons_of_mem _ hm)]
          have : (m == n) = false := by simpa using fun e : m = n => h1 (by rw [← e]; exact hm)
          simp [List.lookup_cons, this]
        rw [List.append_assoc] at ih
        have e2 : [(n, u)] ++ ns.zip us = (n :: ns).zip (u :: us) := rfl
        rw [e2] at ih
        show (n, u) :: _ = _
        rw [ih]
        rfl
  have := this (l0 := []) nd hl fun _ _ => rfl
  simpa using this
theorem forIn_fill : ∀ (l s : List (Str × Value)), (forIn (m := Sem) l s fun x s => if (List.lookup x.1 s).isNone = true then pure (ForInStep.yield (s ++ [(x.1, x.2)])) else pure (ForInStep.yield s)) = pure (l.foldl fillS s)
  | [], s => by simp
  | q :: l, s => by
    rw [List.forIn_cons, List.foldl_cons]
    unfold fillS
    by_cases h : (List.lookup q.1 s).isNone = true
    · rw [if_pos h, if_pos h]
      simp only [pure_bind]
      exact forIn_fill l _
    · rw [if_neg h, if_neg h]
      simp only [pure_bind]
      exact forIn_fill l _
theorem bind_dfl {x qual : Str} {as : List Arg} {body : List Stmt} {scope : Scope} {kV doc pm cdv ct : Value} {an : Option Addr} {us its : List Value} {dfl : List Expr} {T : Addr} (nd : (as.map (·.arg)).Nodup) (h1 : us.length ≤ (as.map (·.arg)).length) (h2 : (as.map (·.arg)).length ≤ us.length + its.length) (h3 : its.length ≤ (as.map (·.arg)).length) :
    ∃ k, bindArgs (PySem.W.fnOf x qual ⟨[], as, none, [], [], none, dfl⟩ body scope (.ref T) kV doc pm an cdv ct) ⟨us, []⟩ = seqItems? (.ref T) >>= k ∧ k (some its.toArray) = pure ((as.map (·.arg)).zip (us ++ its.drop (us.length + its.length - (as.map (·.arg)).length))) := by
  unfold bindArgs
  unfold PySem.W.fnOf
  dsimp only
  simp only [List.map_nil, List.nil_append, List.append_nil, List.forIn_nil, pure_bind]
  refine ⟨_, rfl, ?_⟩
  simp only [Option.getD_some, Option.isNone_none, Bool.and_true]
  rw [if_neg (by simpa using h1)]
  have d0 : its.drop (its.length - (as.map (·.arg)).length) = its := by
    rw [Nat.sub_eq_zero_of_le h3]
    rfl
  simp only [pure_bind, d0]
  have miss : ((as.map (·.arg)).take ((as.map (·.arg)).length - its.length)).filter (fun n => (((as.map (·.arg)).zip us).lookup n).isNone) = [] := by
    rw [List.filter_eq_nil_iff]
    intro n hn
    have hn2 : n ∈ (as.map (·.arg)).take us.length := by
      have : ((as.map (·.arg)).take ((as.map (·.arg)).length - its.length)) = ((as.map (·.arg)).take us.length).take ((as.map (·.arg)).length - its.length) := by
        rw [List.take_take]
        congr 1
        omega
      rw [this] at hn
      exact List.mem_of_mem_take hn
    have hz : (as.map (·.arg)).zip us = ((as.map (·.arg)).take us.length).zip us := by
      have e : ((as.map (·.arg)).take us.length ++ (as.map (·.arg)).drop us.length).zip (us ++ []) = ((as.map (·.arg)).take us.length).zip us ++ ((as.map (·.arg)).drop us.length).zip [] := List.zip_append (by rw [List.length_take]; omega)
      rw [List.take_append_drop] at e
      simpa using e
    rw [hz]
    obtain ⟨u, e⟩ := lk_mem (us := us) (by rw [List.length_take]; omega) hn2
    rw [e]
    simp
  have fin : (as.map (·.arg)).filterMap (fun n => ((((as.map (·.arg)).drop ((as.map (·.arg)).length - its.length)).zip its).foldl fillS ((as.map (·.arg)).zip us)).lookup n |>.map (n, ·)) = (as.map (·.arg)).zip (us ++ its.drop (us.length + its.length - (as.map (·.arg)).length)) := by
    rw [fill_all nd h1 h2 h3]
    exact map_lk nd (by simp; simp at h1 h2 h3; omega)
  rw [miss]
  simp only [List.isEmpty_nil, Bool.not_true, Bool.false_eq_true, if_false, pure_bind]
  rw [forIn_fill]
  simp only [pure_bind]
  rw [fin]
/-! ### one def's data -/
/-- kind: 0 a def of the top, 1 a method, 2 a property's getter -/
structure FnAll where
  d : He.DefD
  N : List Str
  ps : List Str
  code : Fn
  kind : Nat := 0
  dfs : List D := []
  /-- the keyword-only parameters: how many, their defaults -/
  nk : Nat := 0
  kds : List (Str × D) := []
def FnAll.info (a : FnAll) : FnI := ⟨a.d.name, a.ps, a.dfs, a.kind == 0, a.ps.length - a.nk, a.kds⟩
structure ClsI where
  name : Str
  meths : List (Str × Nat)
  props : List (Str × Nat)
  flds : List Str
/-- an own exception: its name, its fields, its __init__ -/
structure XcI where
  name : Str
  flds : List Str
  self : Str
  d : He.DefD
/-- a def that tells, with the def that looks at an exception -/
structure TellI where
  t : TellD
  d : He.DefD
  N : List Str
  iv : Nat
  ad : He.DefD
  av : Str
  af : Str
  c1 : List Nat
  c2 : List Nat
  c3 : List Nat
  c4 : List Nat
structure LawT where
  fns : List FnAll
  glo : List (Str × D)
  cls : List ClsI
  xs : List XcI
  tells : List TellI
  file : Str
def ClsI.tup (c : ClsI) : Str × (List (Str × Nat) × (List (Str × Nat) × List Str)) := (c.name, c.meths, c.props, c.flds)
def XcI.tup (x : XcI) : Str × List Str := (x.name, x.flds)
def LawT.ck (L : LawT) : Ck := ⟨L.fns.map FnAll.info, L.glo, L.cls.map ClsI.tup, L.xs.map XcI.tup, L.tells.map (·.t)⟩
def LawT.tab (L : LawT) : Tab := ⟨L.fns.map (·.code), fun i => (L.glo[i]?).map (·.2), L.ck.methOf, L.ck.propOf, L.ck.fldOk, fun i => (L.xs[i]?).map (·.flds), fun i e => (L.tells[i]?).bind fun t => if e.c < L.xs.length then t.t.ans e else none⟩
def clsStmts : Stmt → List Stmt
  | .ClassDef _ _ _ body _ _ _ _ _ _ _ => body
  | _ => []
/-! ### where things stand -/
/-- a property's getter -/
def gAd (K : PySem.W.Frag) (p : Str × Option Str) : Addr := match PySem.W.recIn K (He.fAd K p) "property" with
  | some (.ref a :: _) => a
  | _ => 0
def FnAll.at (K : PySem.W.Frag) (a : FnAll) : Addr := if a.kind = 2 then gAd K a.d.at_ else He.fAd K a.d.at_
def fnWa (K : PySem.W.Frag) (f : Addr) : He.FnW := match K.lookup f with
  | some ⟨_, _, .func fd, _⟩ => some (fd.name, fd.qualname, fd.params, fd.body, fd.scope, fd.globals, fd.closure, fd.builtins)
  | _ => none
def okAt (K : PySem.W.Frag) (d : He.DefD) (f : Addr) : Bool := PySem.W.keepIn K (.ref f) && (match K.lookup f with
  | some ⟨_, _, .func fd, _⟩ => PySem.W.codeIn K fd.code d.qual && (He.dflB K fd.defaults (d.dvs K) && He.kwdB K fd.kwdefaults (d.kws K))
  | _ => false)
theorem funD_at {K : PySem.W.Frag} {d : He.DefD} {f : Addr} (e : fnWa K f = d.val) (c : okAt K d f = true) : ∃ fd, FunD K d.name d.qual d.params d.body d.scope (d.dvs K) (d.kws K) f fd := by
  obtain ⟨kp, c2⟩ := He.ba c
  unfold fnWa at e
  cases q : K.lookup f with
  | none =>
    rw [q] at c2
    cases c2
  | some o =>
    obtain ⟨oc, od, dt, osl⟩ := o
    rw [q] at c2 e
    cases dt with
    | func fd =>
      obtain ⟨n1, n2, n3, n4, n5, n6, n7, n8, n9, n10, n11, n12, n13, n14, n15⟩ := fd
      have e2 : (some (n1, n2, n3, n4, n5, n6, n7, n15) : He.FnW) = some (d.name, d.qual, d.params, .stmts d.body, d.scope, mainGlobals, [], builtinsNs) := e
      simp only [Option.some.injEq, Prod.mk.injEq] at e2
      obtain ⟨h1, h2, h3, h4, h5, h6, h7, h8⟩ := e2
      subst h1 h2 h3 h4 h5 h6 h7 h8
      have c3 : (PySem.W.codeIn K n13 d.qual && (He.dflB K n8 (d.dvs K) && He.kwdB K n9 (d.kws K))) = true := c2
      obtain ⟨k1, k2⟩ := He.ba c3
      obtain ⟨k3, k4⟩ := He.ba k2
      exact ⟨_, ⟨oc, od, n8, n9, n10, n11, n12, n13, n14, osl, rfl, q, k1, He.dflB_ok k3, He.kwdB_ok k4⟩, kp⟩
    | _ => cases c2
/-! ### constants -/
mutual
def cB (K : PySem.W.Frag) : Value → D → Bool
  | u, .non => (match u with | .none => true | _ => false)
  | u, .bl b => (match u with | .bool c => decide (b = c) | _ => false)
  | u, .int i => (match u with | .int j _ => decide (i = j) | _ => false)
  | u, .str x => (match u with | .str y _ => decide (x = y) | _ => false)
  | u, .kls ds => (match u with
    | .ref a => (match K.lookup a with
      | some ⟨.type c, none, .seq its _, _⟩ => decide (c = "list") && (decide (its.size ≤ sizeLine) && cBs K its.toList ds)
      | _ => false)
    | _ => false)
  | u, .tup ds => (match u with
    | .ref a => (match K.lookup a with
      | some ⟨.type c, _, .seq its _, _⟩ => decide (c = "tuple") && (decide (its.size ≤ sizeLine) && cBs K its.toList ds)
      | _ => false)
    | _ => false)
  | _, _ => false
def cBs (K : PySem.W.Frag) : List Value → List D → Bool
  | us, [] => us.isEmpty
  | us, d :: ds => (match us with
    | u :: us => cB K u d && cBs K us ds
    | [] => false)
end
mutual
theorem cB_ok {K : PySem.W.Frag} : ∀ {u : Value} {d : D}, cB K u d = true → ∃ v, RelV v u ∧ CDen K v d
  | u, .non, h => by
    unfold cB at h
    cases u <;> first | exact ⟨.non, rfl, .non⟩ | cases h
  | u, .bl b, h => by
    unfold cB at h
    cases u <;> first | (cases of_decide_eq_true h; exact ⟨.bl b, rfl, .bl b⟩) | cases h
  | u, .int i, h => by
    unfold cB at h
    cases u <;> first | (cases of_decide_eq_true h; exact ⟨.int i, ⟨_, rfl⟩, .int i⟩) | cases h
  | u, .str x, h => by
    unfold cB at h
    cases u <;> first | (cases of_decide_eq_true h; exact ⟨.str x, ⟨_, rfl⟩, .str x⟩) | cases h
  | u, .kls ds, h => by
    unfold cB at h
    cases u with
    | ref a =>
      dsimp only at h
      split at h
      · rename_i c its n sl q
        simp only [Bool.and_eq_true, decide_eq_true_eq] at h
        obtain ⟨rfl, h2, h3⟩ := h
        obtain ⟨vs, h4, h5⟩ := cBs_ok h3
        exact ⟨.ref a, rfl, .kls (fun H => .inr ⟨_, its, n, q, rfl, rfl, rfl, h2, h4⟩) h5⟩
      · cases h
    | _ => cases h
  | u, .tup ds, h => by
    unfold cB at h
    cases u with
    | ref a =>
      dsimp only at h
      split at h
      · rename_i c od its n sl q
        simp only [Bool.and_eq_true, decide_eq_true_eq] at h
        obtain ⟨rfl, h2, h3⟩ := h
        obtain ⟨vs, h4, h5⟩ := cBs_ok h3
        exact ⟨.ref a, rfl, .tup (fun H => .inr ⟨_, its, n, q, rfl, rfl, h2, h4⟩) h5⟩
      · cases h
    | _ => cases h
  | u, .lst _, h => by unfold cB at h; cases h
  | u, .dic _, h => by unfold cB at h; cases h
  | u, .kdic _, h => by unfold cB at h; cases h
  | u, .ins _ _, h => by unfold cB at h; cases h
  | u, .fn _, h => by unfold cB at h; cases h
  | u, .cls _, h => by unfold cB at h; cases h
theorem cBs_ok {K : PySem.W.Frag} : ∀ {us : List Value} {ds : List D}, cBs K us ds = true → ∃ vs, Vals vs us ∧ CDens K vs ds
  | us, [], h => by
    unfold cBs at h
    rw [List.isEmpty_iff.mp h]
    exact ⟨[], .nil, .nil⟩
  | us, d :: ds, h => by
    unfold cBs at h
    cases us with
    | nil => cases h
    | cons u us =>
      dsimp only at h
      obtain ⟨h1, h2⟩ := He.ba h
      obtain ⟨v, h3, h4⟩ := cB_ok h1
      obtain ⟨vs, h5, h6⟩ := cBs_ok h2
      exact ⟨v :: vs, .cons h3 h5, .cons h4 h6⟩
end
/-- a name of the top and what it stands for -/
def gloB (K : PySem.W.Frag) (p : Str × D) : Bool := match PySem.W.nsIn K mainGlobals p.1 with
  | some (some u) => (match p.2 with
    | .kdic kvs => (match u with
      | .ref a => (match K.lookup a with
        | some ⟨_, _, .dict es _, _⟩ => decide (es.toList.length = kvs.length) && ((es.toList.zip kvs).all fun q => (match q.1.key with | .str x _ => decide (x = q.2.1) | _ => false) && cB K q.1.val q.2.2)
        | _ => false)
      | _ => false)
    | d => cB K u d)
  | _ => false
def LawT.ts (L : LawT) : List He.Tab := L.glo.filterMap fun p => match p.2 with
  | .kdic kvs => some (fun K => He.ga K p.1, kvs.map (·.1))
  | _ => none
/-! ### classes -/
def tyB0 : List Ty := [.int, .bool, .str, .lst, .tup, .dic]
def clsB (K : PySem.W.Frag) (L : LawT) (i : Nat) (c : ClsI) : Bool :=
  let C := He.ga K c.name
  (He.Fa.cls c.name).ok K && (He.eqO (PySem.W.findIn K (.ref C) "__class__") (some (some (.builtin "object.__class__"))) && (decide (PySem.W.mroIn K C (.type "object") = some true) && ((PySem.W.selfFirst K C && He.eqO (PySem.W.findIn K (.ref C) "__ne__") (some (some (.builtin "object.__ne__")))) &&
  ((tyB0.all fun t => decide (PySem.W.kitOne K (.ref C) (.type (tyName t)) = some false)) && ((kinds.all fun s => decide (PySem.W.kitOne K (.type s) (.ref C) = some false) && PySem.W.notFirst K C (.type s)) &&
  (((List.range L.cls.length).all fun k => match L.cls[k]? with
    | some c' => decide (PySem.W.kitOne K (.ref C) (.ref (He.ga K c'.name)) = some (i == k)) && PySem.W.notFirst K C (.ref (He.ga K c'.name))
    | none => true) &&
  ((c.meths.all fun p => (He.Fa.meth c.name p.1).ok K && (match L.fns[p.2]? with | some a => decide (a.d.at_ = (c.name, some p.1)) && decide (a.kind = 1) | none => false)) &&
  ((c.props.all fun p => He.eqO (PySem.W.findIn K (.ref C) p.1) (some (some (.ref (He.fAd K (c.name, some p.1))))) && (He.eqO (PySem.W.specialIn K (.ref (He.fAd K (c.name, some p.1))) "__get__") (some (some (.builtin "property.__get__"))) &&
    (decide (PySem.W.takesIn K (.ref (He.fAd K (c.name, some p.1))) = some true) && ((match PySem.W.recIn K (He.fAd K (c.name, some p.1)) "property" with | some (.ref _ :: _) => true | _ => false) && (match L.fns[p.2]? with | some a => decide (a.d.at_ = (c.name, some p.1)) && decide (a.kind = 2) | none => false))))) &&
  ((c.flds.all fun f => He.eqO (PySem.W.findIn K (.ref C) f) (some none)) &&
  (match c.meths.lookup ("__init__" : Str) with | some _ => (He.Fa.mkr c.name).ok K | none => true))))))))))
def LawT.ex (L : LawT) (K : PySem.W.Frag) : Bool :=
  (L.fns.all fun a => okAt K a.d (a.at K)) && ((L.glo.all (gloB K)) && ((decide (PySem.W.specialIn K (.builtin "object.__class__") "__get__" = some (some (.builtin "getset_descriptor.__get__"))) && decide (PySem.W.takesIn K (.builtin "object.__class__") = some true)) &&
  (List.range L.cls.length).all fun i => match L.cls[i]? with
    | some c => He.eqO (PySem.W.nsIn K mainGlobals c.name) (some (some (.ref (He.ga K c.name)))) && clsB K L i c
    | none => true))
def LawT.fa (L : LawT) : List He.Fa := (L.fns.filterMap fun a => if a.kind = 0 then some (.glo a.d.name) else none) ++ bltNames.map .free
/-! ### exceptions -/
/-- a def's code object, its table -/
def codeA (K : PySem.W.Frag) (f : Addr) : Addr := match K.lookup f with
  | some ⟨_, _, .func fd, _⟩ => (match fd.code with | .ref c => c | _ => 0)
  | _ => 0
def tabA (K : PySem.W.Frag) (f : Addr) : Addr := He.tabOf K (codeA K f)
/-- a class that an own exception can be made of -/
def oexB (K : PySem.W.Frag) (C : Addr) : Bool := match K.lookup C with
  | some ⟨.type t, _, .cls cd, sl⟩ => (match cd.mro, sl with
    | .ref C' :: bm, ⟨[_, _, _, _, some (.builtin n), _]⟩ => (decide (t = "type") && (decide (C' = C) && decide (n = "ValueError.__new__"))) && ((!cd.hasDel && cd.hasDict) && HandSPX.refsVE bm)
    | _, _ => false)
  | _ => false
theorem oexB_ok {K : PySem.W.Frag} {C : Addr} (h : oexB K C = true) : ∃ nm q N bs bm sn sub ab col dd k0 k1 k2 k3 k5, K.lookup C = some (excClassObj nm q C N bs bm true sn sub ab col dd k0 k1 k2 k3 k5 "ValueError.__new__") ∧ HandSPX.refsVE bm = true := by
  unfold oexB at h
  split at h
  · rename_i t dd cd sl lk
    split at h
    · rename_i C' bm k0 k1 k2 k3 n k5 em
      simp only [Bool.and_eq_true, decide_eq_true_eq, Bool.not_eq_true'] at h
      obtain ⟨⟨rfl, rfl, rfl⟩, ⟨h1, h2⟩, h3⟩ := h
      obtain ⟨nm, bs, mro, ns, qn, hd, sn, sub, ab, col, del⟩ := cd
      dsimp only at em h1 h2
      subst em h1 h2
      exact ⟨nm, qn, ns, bs, bm, sn, sub, ab, col, dd, k0, k1, k2, k3, k5, lk, h3⟩
    · cases h
  · cases h
def xAd (K : PySem.W.Frag) (x : XcI) : Addr := He.ga K x.name
def iAd (K : PySem.W.Frag) (x : XcI) : Addr := He.fAd K (x.name, some "__init__")
/-- its __init__: a def with the cell __class__ -/
def iniB (K : PySem.W.Frag) (file : Str) (x : XcI) : Bool := match K.lookup (iAd K x) with
  | some ⟨_, _, .func fd, _⟩ => (match fd.closure, fd.code with
    | [(n, cc)], .ref cda => (decide (n = ("__class__" : Str)) && PySem.W.codeIn K fd.code x.d.qual) && ((match fd.defaults with | .none => true | _ => false) && ((match K.lookup cc with | some ⟨_, _, .cell (some (.ref D)), _⟩ => decide (D = xAd K x) | _ => false) &&
      (match K.lookup cda with | some ⟨_, _, .fields vs, _⟩ => (match (vs[2]? : Option Value) with | some (.str f _) => decide (f = file) | _ => false) | _ => false)))
    | _, _ => false)
  | _ => false
def xcB (K : PySem.W.Frag) (L : LawT) (i : Nat) (x : XcI) : Bool :=
  let C := xAd K x
  (oexB K C && (He.eqO (PySem.W.findIn K (.ref C) "__setattr__") (some (some (.builtin "object.__setattr__"))) && (decide (PySem.W.subIn K (.ref C) (.type "BaseException") = some true) && (decide (PySem.W.typeIn K (.ref C) = some (.type "type")) && PySem.W.keepIn K (.ref C))))) &&
  (((x.flds.all fun f => He.eqO (PySem.W.findIn K (.ref C) f) (some none)) && (decide (PySem.W.mroIn K C (.ref C) = some true) && (decide (PySem.W.ks_superIn K C C "__init__" = some (some (.builtin "ValueError.__init__"))) && decide (PySem.W.subIn K (.ref C) (.type "ValueError") = some true)))) &&
  ((He.eqO (PySem.W.findIn K (.ref C) "__init__") (some (some (.ref (iAd K x)))) && (decide (PySem.W.typeIn K (.ref (iAd K x)) = some (.type "function")) && iniB K L.file x)) &&
  ((He.eqO (PySem.W.findIn K (.ref C) "__getattribute__") (some (some (.builtin "BaseException.__getattribute__"))) && (He.eqO (PySem.W.findIn K (.ref C) "__getattr__") (some none) && (PySem.W.hasDictIn K C && (He.eqO (PySem.W.findIn K (.ref C) "__class__") (some (some (.builtin "object.__class__"))) && decide (PySem.W.mroIn K C (.type "object") = some true))))) &&
  (((List.range L.xs.length).all fun j => match L.xs[j]? with | some y => decide (PySem.W.kitOne K (.ref C) (.ref (xAd K y)) = some (i == j)) | none => true) &&
  (decide (PySem.W.kitOne K (.ref C) (.type "ValueError") = some true) &&
  (L.tells.all fun t => (decide (PySem.W.kitOne K (.ref C) (.ref (He.ga K t.t.bs)) = some true) && decide (PySem.W.exmOne K (.ref C) (.ref (He.ga K t.t.bs)) = some true)) && (pickH t.t.hs t.t.last i).2.all fun f => He.eqO (PySem.W.findIn K (.ref C) f) (some none)))))))
def tellsB (K : PySem.W.Frag) (L : LawT) (t : TellI) : Bool := (okAt K t.d (He.fAd K t.d.at_) && okAt K t.ad (He.fAd K t.ad.at_)) &&
  (He.eqO (PySem.W.nsIn K mainGlobals t.t.nm) (some (some (.ref (He.ga K t.t.nm)))) && (He.eqO (PySem.W.nsIn K mainGlobals t.t.al) (some (some (.ref (He.ga K t.t.al)))) && He.eqO (PySem.W.nsIn K mainGlobals t.t.bs) (some (some (.ref (He.ga K t.t.bs))))))
/-- what must hold of the heap: exceptions' classes, tables apart -/
def LawT.exX (L : LawT) (K : PySem.W.Frag) : Bool :=
  (decide ((L.fns.map fun a => tabA K (a.at K)).Nodup)) && ((decide (PySem.W.nsIn K cStatics "thirdparty.any" = some none)) && (((List.range L.xs.length).all fun i => match L.xs[i]? with
    | some x => He.eqO (PySem.W.nsIn K mainGlobals x.name) (some (some (.ref (xAd K x)))) && xcB K L i x
    | none => true) && L.tells.all (tellsB K L)))
def tabZ (g : Addr → Option Obj) (K : PySem.W.Frag) (f : Addr) : Bool := PySem.W.codeHdIn K (codeA K f) (tabA K f) && (match g (tabA K f) with | some o => He.emptyTab o | none => false)
/-- as fnWa; of the closure only the names -/
abbrev FnV : Type := Option (Str × Str × Arguments × List Stmt × Scope × Addr × List Str × Addr)
def fnWx (K : PySem.W.Frag) (f : Addr) : FnV := match K.lookup f with
  | some ⟨_, _, .func fd, _⟩ => (match fd.body with | .stmts b => some (fd.name, fd.qualname, fd.params, b, fd.scope, fd.globals, fd.closure.map (·.1), fd.builtins) | _ => none)
  | _ => none
def valX (d : He.DefD) : FnV := some (d.name, d.qual, d.params, d.body, d.scope, mainGlobals, ["__class__"], builtinsNs)
/-! ### the Hook -/
abbrev AlZ : Type := He.AlX × (List He.FnW × (List He.FnW × (List FnV × Bool)))
def LawT.tds (L : LawT) : List He.DefD := L.tells.flatMap fun t => [t.d, t.ad]
def obsK (L : LawT) (g : Addr → Option Obj) (K : PySem.W.Frag) : List He.FnW × (List He.FnW × (List FnV × Bool)) :=
  (L.fns.map fun a => fnWa K (a.at K), (L.tds.map fun d => fnWa K (He.fAd K d.at_), (L.xs.map fun x => fnWx K (iAd K x), (L.fns.all fun a => tabZ g K (a.at K)) && L.exX K)))
/-- what the head reaches, and the namespace of the model's own -/
def asCs (g : Addr → Option Obj) (n : Nat) : List Addr := cStatics :: He.asD g n
def obsZ (n : Nat) (L : LawT) (g : Addr → Option Obj) : AlZ := ((He.obsT L.fa [] L.ts (He.frT g (asCs g n)), L.ex (He.frT g (asCs g n))), obsK L g (He.frT g (asCs g n)))
def valZ (L : LawT) (w : World) : AlZ := (He.valX [] L.ts w, (L.fns.map fun a => a.d.val, (L.tds.map fun d => d.val, (L.xs.map fun x => valX x.d, true))))
structure SaysZ (L : LawT) (w : World) (h : Heap) (K : PySem.W.Frag) : Prop where
  x : He.SaysX L.fa [] L.ts [] L.ex w h K
  f : (L.fns.map fun a => fnWa K (a.at K)) = L.fns.map fun a => a.d.val
  td : (L.tds.map fun d => fnWa K (He.fAd K d.at_)) = L.tds.map fun d => d.val
  xi : (L.xs.map fun x => fnWx K (iAd K x)) = L.xs.map fun x => valX x.d
  hd : ∀ a ∈ L.fns, PySem.W.codeHdIn K (codeA K (a.at K)) (tabA K (a.at K)) = true
  out : ∀ a ∈ L.fns, K.lookup (tabA K (a.at K)) = none
  empty : ∀ a ∈ L.fns, h.get? (tabA K (a.at K)) = some { cls := .none, data := .fields #[] }
  exX : L.exX K = true
theorem saysZ_of {n : Nat} {L : LawT} {w : World} {h : Heap} (e : obsZ n L h.get? = valZ L w) : SaysZ L w h (He.frT h.get? (asCs h.get? n)) := by
  have e1 : He.obsT L.fa [] L.ts (He.frT h.get? (asCs h.get? n)) = He.valT [] L.ts w := congrArg (fun z : AlZ => z.1.1) e
  have e0 : L.ex (He.frT h.get? (asCs h.get? n)) = true := congrArg (fun z : AlZ => z.1.2) e
  have e2 := congrArg (fun z : AlZ => z.2.1) e
  have e3 := congrArg (fun z : AlZ => z.2.2.1) e
  have e4 := congrArg (fun z : AlZ => z.2.2.2.1) e
  have e5 : ((L.fns.all fun a => tabZ h.get? (He.frT h.get? (asCs h.get? n)) (a.at (He.frT h.get? (asCs h.get? n)))) && L.exX (He.frT h.get? (asCs h.get? n))) = true := congrArg (fun z : AlZ => z.2.2.2.2) e
  obtain ⟨e5, e6⟩ := Bool.and_eq_true_iff.mp e5
  have key : ∀ a ∈ L.fns, PySem.W.codeHdIn (He.frT h.get? (asCs h.get? n)) (codeA (He.frT h.get? (asCs h.get? n)) (a.at (He.frT h.get? (asCs h.get? n)))) (tabA (He.frT h.get? (asCs h.get? n)) (a.at (He.frT h.get? (asCs h.get? n)))) = true ∧
      ∃ o, h.get? (tabA (He.frT h.get? (asCs h.get? n)) (a.at (He.frT h.get? (asCs h.get? n)))) = some o ∧ He.emptyTab o = true := fun a ha => by
    have z := List.all_eq_true.mp e5 a ha
    unfold tabZ at z
    obtain ⟨z1, z2⟩ := Bool.and_eq_true_iff.mp z
    refine ⟨z1, ?_⟩
    split at z2
    · rename_i o q
      exact ⟨o, q, z2⟩
    · cases z2
  refine ⟨⟨e1, e0, fun p hp => absurd hp List.not_mem_nil, fun p hp => absurd hp List.not_mem_nil, fun p hp => absurd hp List.not_mem_nil⟩, e2, e3, e4, fun a ha => (key a ha).1, fun a ha => ?_, fun a ha => ?_, e6⟩
  · obtain ⟨_, o, h1, h2⟩ := key a ha
    exact He.frT_none h1 h2
  · obtain ⟨_, o, h1, h2⟩ := key a ha
    rw [h1, He.emptyTab_eq h2]
def hookZ (n : Nat) (L : LawT) : PySem.W.Hook where
  α := AlZ
  obs := fun s => obsZ n L s.heap.get?
  val := fun w => valZ L w
  says := fun w h => ∃ K : PySem.W.Frag, K.In h ∧ SaysZ L w h K
  of := fun _ _ e => ⟨_, He.frT_in, saysZ_of e⟩
  keeps := fun _ _ _ ⟨K, hK, c⟩ k => ⟨K, PySem.W.Frag.In.keeps hK k, ⟨⟨c.x.t, c.x.more, c.x.hd, c.x.out, fun p hp => k _ _ (c.x.empty p hp)⟩, c.f, c.td, c.xi, c.hd, c.out, fun a ha => k _ _ (c.empty a ha), c.exX⟩⟩
theorem obsZ_eq {n : Nat} {L : LawT} {g : Addr → Option Obj} {s : Shared} (h : ∀ a, g a = s.heap.get? a) : obsZ n L g = (hookZ n L).obs s := by
  have e : g = s.heap.get? := funext h
  rw [e] <;> rfl
/-! ### the look at the defs' texts -/
def parB : Arguments → List Str → Nat → Bool
  | ⟨[], as, none, kas, kdf, none, _⟩, ps, nk => decide (as.map (·.arg) ++ kas.map (·.arg) = ps) && (decide (kas.length = nk) && decide (kdf.length = nk))
  | _, _, _ => false
/-- a default as the head tells it -/
def dvB : D → He.Dv → Bool
  | .non, .non => true
  | .bl a, .bl b => decide (a = b)
  | .int a, .int b => decide (a = b)
  | .str a, .str b => decide (a = b)
  | _, _ => false
def dvsB : List D → List He.Dv → Bool
  | [], [] => true
  | x :: xs, d :: ds => dvB x d && dvsB xs ds
  | _, _ => false
theorem dvB_den {g : G} {K : PySem.W.Frag} {x : D} {d : He.Dv} (h : dvB x d = true) (H : Hp) : Den g H (d.v K) x := by
  cases x <;> first | (cases d <;> (first | (cases h; done) | skip)) | (cases h; done)
  · exact Den.non
  · cases of_decide_eq_true h; exact Den.bl _
  · cases of_decide_eq_true h; exact Den.int _
  · cases of_decide_eq_true h; exact Den.str _
theorem dvsB_dens {g : G} {K : PySem.W.Frag} (H : Hp) : ∀ {xs : List D} {ds : List He.Dv}, dvsB xs ds = true → Dens g H (ds.map (He.Dv.v K)) xs
  | [], [], _ => .nil
  | x :: xs, d :: ds, h => by
    obtain ⟨h1, h2⟩ := Bool.and_eq_true_iff.mp h
    exact .cons (dvB_den h1 H) (dvsB_dens H h2)
  | [], _ :: _, h => by cases h
  | _ :: _, [], h => by cases h
theorem dvsB_drop : ∀ {xs : List D} {ds : List He.Dv} (m : Nat), dvsB xs ds = true → dvsB (xs.drop m) (ds.drop m) = true
  | _, _, 0, h => h
  | [], [], m + 1, _ => rfl
  | x :: xs, d :: ds, m + 1, h => by
    obtain ⟨h1, h2⟩ := Bool.and_eq_true_iff.mp h
    exact dvsB_drop m h2
  | [], _ :: _, _ + 1, h => by cases h
  | _ :: _, [], _ + 1, h => by cases h
theorem dvsB_len : ∀ {xs : List D} {ds : List He.Dv}, dvsB xs ds = true → ds.length = xs.length
  | [], [], _ => rfl
  | x :: xs, d :: ds, h => by
    obtain ⟨h1, h2⟩ := Bool.and_eq_true_iff.mp h
    simp [dvsB_len h2]
  | [], _ :: _, h => by cases h
  | _ :: _, [], h => by cases h
/-- keyword-only defaults -/
def kdB : List (Str × D) → List (Str × He.Dv) → Bool
  | [], [] => true
  | x :: xs, d :: ds => decide (x.1 = d.1) && (dvB x.2 d.2 && kdB xs ds)
  | _, _ => false
theorem kdB_denf {g : G} {K : PySem.W.Frag} (H : Hp) : ∀ {xs : List (Str × D)} {ds : List (Str × He.Dv)}, kdB xs ds = true → Denf g H (ds.map fun q => (q.1, q.2.v K)) xs
  | [], [], _ => .nil
  | (x, y) :: xs, d :: ds, h => by
    obtain ⟨h1, h2⟩ := Bool.and_eq_true_iff.mp h
    obtain ⟨h2, h3⟩ := Bool.and_eq_true_iff.mp h2
    have h1 := of_decide_eq_true h1
    dsimp only at h1
    subst h1
    exact .cons (dvB_den h2 H) (kdB_denf H h3)
  | [], _ :: _, h => by cases h
  | _ :: _, [], h => by cases h
def atB (a : FnAll) : Bool := (match a.d.at_ with | (x, none) => decide (a.kind = 0) && decide (x = a.d.name) | (_, some _) => decide (a.kind ≠ 0)) && ((dvsB a.dfs a.d.dfl && decide (a.dfs.length ≤ a.ps.length - a.nk)) && (kdB a.kds a.d.kwd && (a.kds.all fun p => (a.ps.drop (a.ps.length - a.nk)).contains p.1)))
def FnAll.ok (c : Ck) (a : FnAll) : Bool := ckSs c a.N a.d.scope a.code.body a.d.body && (C8.scC a.N a.ps a.d.scope && (decide (a.ps.length = a.code.ar) && (decide (a.N.length = a.code.sl) && (decide (a.code.ar ≤ a.code.sl) && (parB a.d.params a.ps a.nk && atB a)))))
def XcI.ok (x : XcI) : Bool := xscB (x.self :: x.flds) x.d.scope && (inB x.self x.flds x.d.body && (parB x.d.params (x.self :: x.flds) 0 && ((decide (x.flds.length ≤ 800) && decide (0 < x.flds.length)) && (decide (x.d.at_ = (x.name, some ("__init__" : Str))) && !(x.name == ("__debug__" : Str))))))
def notDb (x : Str) : Bool := !(x == ("__debug__" : Str)) && !(x == ("__classdict__" : Str))
def TellI.ok (L : LawT) (t : TellI) : Bool :=
  let nms := L.xs.map (·.name)
  (tellB nms t.t t.d.body && (C8.scC t.N [t.t.par] t.d.scope && (decide (t.N[0]? = some t.t.par) && (visB t.d.scope t.t.par && (decide (t.N[t.iv]? = some t.t.var) && (decide (t.d.scope.names.lookup t.t.var = some .local) && parB t.d.params [t.t.par] 0)))))) &&
  (((glB t.d.scope "isinstance" && (glB t.d.scope t.t.bs && (glB t.d.scope t.t.al && t.t.hs.all fun h => match nms[h.1]? with | some x => glB t.d.scope x | none => true))) && ((notDb t.t.par && notDb t.t.var) && (notDb t.t.al && (notDb t.t.nm && notDb t.t.bs)))) &&
  ((aloneB nms t.t.bs t.av t.af t.c1 t.c2 t.c3 t.c4 t.ad.body && (C8.scC [t.av, t.af] [t.av] t.ad.scope && (visB t.ad.scope t.av && (decide (t.ad.scope.names.lookup t.af = some .local) && parB t.ad.params [t.av] 0)))) &&
  ((glB t.ad.scope "isinstance" && (glB t.ad.scope "ValueError" && (glB t.ad.scope t.t.bs && nms.all fun x => glB t.ad.scope x))) && ((notDb t.av && notDb t.af) && (decide ((t.c1 ++ t.c2 ++ t.c3 ++ t.c4).length ≤ 1000) && (((List.range nms.length).all fun i => decide ((((t.c1 ++ t.c2 ++ t.c3 ++ t.c4).map fun c => i == c).countP fun y => decide (y = true)) = 1)) &&
  ((decide (t.d.at_ = (t.t.nm, none)) && decide (t.ad.at_ = (t.t.al, none))) && (t.d.dfl.isEmpty && t.ad.dfl.isEmpty))))))))
def LawT.ok (L : LawT) : Bool := ((L.xs.all XcI.ok && L.tells.all (TellI.ok L)) && L.fns.all fun a => a.ok L.ck) && (((L.cls.map (·.name)).all fun x => !(x == ("__debug__" : Str))) &&
  L.cls.all fun c => (c.meths.all fun p => !dun p.1 || (match L.fns[p.2]? with | some a => decide (a.nk = 0) | none => true)) && c.props.all fun p => match L.fns[p.2]? with | some a => decide (a.nk = 0) | none => true)
section
variable {L : LawT} {P : Program} {w : World} {K : PySem.W.Frag} {mg : Str → Option Value} {base h : Heap}
abbrev gOf (P : Program) (w : World) (K : PySem.W.Frag) (mg : Str → Option Value) (base : Heap) (L : LawT) : G := ⟨P, w, K, mg, base, fun i => match L.cls[i]? with | some c => He.ga K c.name | none => 0, fun j => match L.fns[j]? with | some a => a.at K | none => 0, L.cls.length, fun i => match L.xs[i]? with | some x => xAd K x | none => 0, L.fns.map fun a => (tabA K (a.at K), (a.d.qual ++ ".<locals>.") ++ "<lambda>")⟩
theorem parB_eqK {p : Arguments} {ps : List Str} {nk : Nat} (h : parB p ps nk = true) : ∃ as kas kdf dfl, p = ⟨[], as, none, kas, kdf, none, dfl⟩ ∧ as.map (·.arg) ++ kas.map (·.arg) = ps ∧ kas.length = nk ∧ kdf.length = nk := by
  unfold parB at h
  split at h
  · simp only [Bool.and_eq_true, decide_eq_true_eq] at h
    exact ⟨_, _, _, _, rfl, h.1, h.2.1, h.2.2⟩
  · cases h
theorem parB_eq {p : Arguments} {ps : List Str} (h : parB p ps 0 = true) : ∃ as dfl, p = ⟨[], as, none, [], [], none, dfl⟩ ∧ as.map (·.arg) = ps := by
  obtain ⟨as, kas, kdf, dfl, e1, e2, e3, e4⟩ := parB_eqK h
  rw [List.eq_nil_of_length_eq_zero e3] at e1 e2
  rw [List.eq_nil_of_length_eq_zero e4] at e1
  rw [List.map_nil, List.append_nil] at e2
  exact ⟨as, dfl, e1, e2⟩
theorem fnAll_binds {a : FnAll} {f : Addr} {fd : FuncData} (F : FunD K a.d.name a.d.qual a.d.params a.d.body a.d.scope [] (a.d.kws K) f fd) (hp : parB a.d.params a.ps 0 = true) (nd : a.ps.Nodup) :
    Binds K fd a.ps [] ∧ ∀ (s : Shared) (us : List Value), us.length = a.ps.length → BindsTo s fd ⟨us, []⟩ (a.ps.zip us) := by
  obtain ⟨as, dfl, e1, e2⟩ := parB_eq hp
  rw [e1] at F
  have key : ∀ (kV doc pm : Value) (an : Option Addr) (cdv ct : Value) (us : List Value), us.length = a.ps.length → bindArgs (PySem.W.fnOf a.d.name a.d.qual ⟨[], as, none, [], [], none, dfl⟩ a.d.body a.d.scope .none kV doc pm an cdv ct) ⟨us, []⟩ = pure (a.ps.zip us) := fun kV doc pm an cdv ct us hl => by
    rw [← e2] at hl nd ⊢
    exact bind_ok nd hl
  exact ⟨F.bindsN key, fun s us hl => F.bindsA key s us hl⟩
theorem isStr_eq {key : Value} {x z : Str} {t : Tok} (e : key = .str x t) : key.isStr z = decide (x = z) := by
  subst e
  show (x == z) = decide (x = z)
  by_cases h : x = z
  · subst h; simp
  · simp [h]
/-- .. with defaults -/
theorem fnAll_bindsD {a : FnAll} {f : Addr} {fd : FuncData} (F : FunD K a.d.name a.d.qual a.d.params a.d.body a.d.scope (a.d.dvs K) (a.d.kws K) f fd) (hp : parB a.d.params a.ps 0 = true) (nd : a.ps.Nodup) (hd : dvsB a.dfs a.d.dfl = true) (hl : a.dfs.length ≤ a.ps.length) {m : Nat} (hm : m ≤ a.dfs.length) :
    ∃ ds, Vals ((a.d.dvs K).drop m) ds ∧ Binds K fd a.ps ds := by
  have el : (a.d.dvs K).length = a.dfs.length := by
    unfold He.DefD.dvs
    rw [List.length_map, dvsB_len hd]
  by_cases h0 : a.d.dvs K = []
  · rw [h0] at F
    refine ⟨[], by rw [h0, List.drop_nil]; exact .nil, (fnAll_binds F hp nd).1⟩
  · obtain ⟨as, dfl, e1, e2⟩ := parB_eq hp
    rw [e1] at F
    refine F.binds1 (a.ps.length - (a.dfs.length - m)) m h0 (by omega) fun T kV doc pm an cdv ct us its hu hi => ?_
    rw [el] at hi
    have z := bind_dfl (x := a.d.name) (qual := a.d.qual) (body := a.d.body) (scope := a.d.scope) (kV := kV) (doc := doc) (pm := pm) (cdv := cdv) (ct := ct) (an := an) (us := us) (its := its) (dfl := dfl) (T := T) (as := as) (by rw [e2]; exact nd) (by rw [e2]; omega) (by rw [e2]; omega) (by rw [e2]; omega)
    rw [e2] at z
    have k : us.length + its.length - a.ps.length = m := by omega
    rw [k] at z
    exact z
theorem fnAll_kw {a : FnAll} {f : Addr} {fd : FuncData} {g : G} (hgK : g.K = K) (F : FunD K a.d.name a.d.qual a.d.params a.d.body a.d.scope (a.d.dvs K) (a.d.kws K) f fd) (hp : parB a.d.params a.ps a.nk = true) (nd : a.ps.Nodup) (hd : dvsB a.dfs a.d.dfl = true) (hl : a.dfs.length ≤ a.ps.length - a.nk)
    (hkd : kdB a.kds a.d.kwd = true) (hkn : (a.kds.all fun p => (a.ps.drop (a.ps.length - a.nk)).contains p.1) = true) {n : Nat} {ks : List Str} {tl : List KA} (h : kwB a.info n ks tl = true) : KwOk g fd a.ps n ks tl := by
  obtain ⟨as, kas, kdf, dfl, e1, e2, e3, e4⟩ := parB_eqK hp
  rw [e1] at F
  have el : a.ps.length - a.nk = (as.map (·.arg)).length := by rw [← e2, List.length_append, List.length_map, List.length_map]; omega
  refine kwok_of (fi := a.info) hgK F rfl rfl e2.symm el (by rw [e2]; exact nd) (by rw [← el]; exact hl) (fun H => ?_) (fun p y ep => ?_) (fun H => ?_) h
  · unfold He.DefD.dvs
    exact dvsB_dens H hd
  · have mem : ∀ {l : List (Str × DL.D)}, l.lookup p = some y → (p, y) ∈ l := by
      intro l
      induction l with
      | nil => intro h; cases h
      | cons q l ih =>
        intro h
        obtain ⟨s, t⟩ := q
        rw [List.lookup_cons] at h
        cases c : p == s with
        | true =>
          rw [c] at h
          cases h
          rw [eq_of_beq c]
          exact List.mem_cons_self
        | false =>
          rw [c] at h
          exact List.mem_cons_of_mem _ (ih h)
    have z := List.all_eq_true.mp hkn _ (mem ep)
    rw [List.contains_iff_mem, el, ← e2, List.drop_left] at z
    exact z
  · unfold He.DefD.kws
    exact kdB_denf H hkd
/-- a dict of the top -/
theorem kdic_ok {a : Addr} {kvs : List (Str × D)} {es : Array DictEntry} {n : Nat} {oc : Value} {od : Option Addr} {sl : Array (Option Value)} (D : ∃ es n, KDict K w a es n) (lk : K.lookup a = some ⟨oc, od, .dict es n, sl⟩) (hl : es.toList.length = kvs.length)
    (ha : ((es.toList.zip kvs).all fun q => (match q.1.key with | .str x _ => decide (x = q.2.1) | _ => false) && cB K q.1.val q.2.2) = true) : KDicR K w a kvs := by
  obtain ⟨es', n', D⟩ := D
  have e := D.at_
  rw [lk] at e
  cases e
  refine ⟨es, n, D, fun z => ?_⟩
  unfold PySem.W.nsIn
  rw [lk]
  dsimp only
  have key : ∀ {l : List DictEntry} {ks : List (Str × DL.D)}, l.length = ks.length → ((l.zip ks).all fun q => (match q.1.key with | .str x _ => decide (x = q.2.1) | _ => false) && cB K q.1.val q.2.2) = true →
      ((l.find? (·.key.isStr z) = none ∧ ks.lookup z = none) ∨ (∃ e d v, l.find? (·.key.isStr z) = some e ∧ ks.lookup z = some d ∧ RelV v e.val ∧ CDen K v d)) ∧ l.any (·.refKey) = false := by
    intro l
    induction l with
    | nil =>
      intro ks hl _
      cases ks with
      | nil => exact ⟨.inl ⟨rfl, rfl⟩, rfl⟩
      | cons _ _ => cases hl
    | cons e l ih =>
      intro ks hl h
      cases ks with
      | nil => cases hl
      | cons k ks =>
        rw [List.zip_cons_cons, List.all_cons, Bool.and_eq_true, Bool.and_eq_true] at h
        obtain ⟨⟨h1, h2⟩, h3⟩ := h
        obtain ⟨ih1, ih2⟩ := ih (by simpa using hl) h3
        dsimp only at h1 h2
        split at h1
        · rename_i x t ek
          have h1 := of_decide_eq_true h1
          have es1 := isStr_eq (z := z) ek
          rw [List.find?_cons, es1, List.lookup_cons, List.any_cons, ih2]
          refine ⟨?_, ?_⟩
          · by_cases c : x = z
            · have c2 : (z == k.1) = true := by rw [← h1, c]; simp
              rw [decide_eq_true c, c2]
              obtain ⟨v, r, cd⟩ := cB_ok h2
              exact .inr ⟨e, k.2, v, rfl, rfl, r, cd⟩
            · have c2 : (z == k.1) = false := by
                rw [← h1]
                simpa using fun q : z = x => c q.symm
              rw [decide_eq_false c, c2]
              exact ih1
          · have : e.refKey = false := by
              unfold DictEntry.refKey
              rw [ek]
            rw [this]
            rfl
        · cases h1
  obtain ⟨k1, k2⟩ := key hl ha
  rcases k1 with ⟨h1, h2⟩ | ⟨e, d, v, h1, h2, h3, h4⟩
  · rw [h1, h2]
    dsimp only
    rw [k2]
    exact ⟨none, rfl, trivial⟩
  · rw [h1, h2]
    exact ⟨some e.val, rfl, v, h3, h4⟩
/-! ### exceptions, defs that tell -/
theorem parB_nd {p : Arguments} {ps : List Str} (h : parB p ps 0 = true) : ∃ as dfl, p = ⟨[], as, none, [], [], none, dfl⟩ ∧ as.map (·.arg) = ps := parB_eq h
theorem x_ok {x : XcI} {i : Nat} (hfile : ((P.main.file : Str) == L.file) = true) (htop : (P.main.scope.names.lookup ("super" : Str)).isSome = false) (hsup : mg "super" = none) (hopq : PySem.W.nsIn K cStatics "thirdparty.any" = some none) (hs : x.ok = true) (hB : xcB K L i x = true) (hv : fnWx K (iAd K x) = valX x.d) :
    XOk (gOf P w K mg base L) (xAd K x) x.flds := by
  unfold xcB at hB
  simp only [Bool.and_eq_true, decide_eq_true_eq] at hB
  obtain ⟨⟨b1, b2, b3, b4, b5⟩, ⟨b6, b7, b8, b9⟩, ⟨b10, b11, b12⟩, _⟩ := hB
  unfold XcI.ok at hs
  simp only [Bool.and_eq_true, decide_eq_true_eq] at hs
  obtain ⟨s1, s2, s3, ⟨s4, s5⟩, s6, s7⟩ := hs
  have C : XCls K (xAd K x) x.flds := ⟨⟨oexB_ok b1, He.eqO_ok b2, b3, b4, b5⟩, fun f hf => He.eqO_ok (List.all_eq_true.mp b6 f hf), b7, hopq, b8, b9⟩
  have Sc := xscB_ok s1
  unfold iniB at b12
  cases lk : K.lookup (iAd K x) with
  | none => rw [lk] at b12; cases b12
  | some o =>
    obtain ⟨oc, od, dt, osl⟩ := o
    rw [lk] at b12
    cases dt with
    | func fd =>
      dsimp only at b12
      unfold fnWx at hv
      rw [lk] at hv
      dsimp only at hv
      split at b12
      · rename_i n cc cda ecl eco
        simp only [Bool.and_eq_true, decide_eq_true_eq] at b12
        obtain ⟨⟨c1, c2⟩, c3, c4, c5⟩ := b12
        subst c1
        split at c4
        · rename_i ccl cdd D csl lkc
          have c4 := of_decide_eq_true c4
          subst c4
          split at c5
          · rename_i ocl odd vs oss lkd
            split at c5
            · rename_i fl tf ev
              have c5 := of_decide_eq_true c5
              subst c5
              obtain ⟨n1, n2, n3, n4, n5, n6, n7, n8, n9, n10, n11, n12, n13, n14, n15⟩ := fd
              dsimp only at ecl eco c2 c3 hv
              subst ecl eco
              cases n8 with
              | none =>
                cases n4 with
                | stmts b =>
                  simp only [valX, Option.some.injEq, Prod.mk.injEq] at hv
                  obtain ⟨h1, h2, h3, h4, h5, h6, _, h8⟩ := hv
                  subst h1 h2 h3 h4 h5 h6 h8
                  obtain ⟨as, dfl, e1, e2⟩ := parB_nd s3
                  rw [e1] at lk
                  obtain ⟨ar, ras, ea, er⟩ : ∃ ar ras, as = ar :: ras ∧ ar.arg = x.self := by
                    cases as with
                    | nil => cases e2
                    | cons a r => exact ⟨a, r, rfl, (List.cons.inj e2).1⟩
                  refine ⟨C, s4, s5, iAd K x, _, x.self :: x.flds, He.eqO_ok b10, b11, ?_, fn_exc (k := 0) (base := base) (w := w) C Sc s4 s2 lk c2 (ar := ar) (by rw [ea]; rfl) er lkd ev hfile lkc hsup htop (by decide +kernel)⟩
                  have z := binds_ks (K := K) (name := x.d.name) (qual := x.d.qual) (body := x.d.body) (scope := x.d.scope) (kV := n9) (doc := n10) (pm := n11) (an := n12) (cda := cda) (ct := n14) (cc := cc) (as := as) (dfl := dfl) (by rw [e2]; exact Sc.nd)
                  rw [e2] at z
                  exact z
                | _ => cases hv
              | _ => cases c3
            · cases c5
          · cases c5
        · cases c4
      · cases b12
    | _ => cases b12
theorem nd_db {x : Str} (h : notDb x = true) : (x == ("__debug__" : Str)) = false ∧ (x == ("__classdict__" : Str)) = false := by
  unfold notDb at h
  simp only [Bool.and_eq_true, Bool.not_eq_true'] at h
  exact h
theorem one_def {d : He.DefD} {v : Str} {h : Heap} (e : fnWa K (He.fAd K d.at_) = d.val) (c : okAt K d (He.fAd K d.at_) = true) (hp : parB d.params [v] 0 = true) (hd : d.dfl.isEmpty = true) : ∃ (oc : Value) (od : Option Addr) (dV kV doc pm : Value) (an : Option Addr) (cdv ct : Value) (osl : Array (Option Value)),
    K.lookup (He.fAd K d.at_) = some ⟨oc, od, .func (PySem.W.fnOf d.name d.qual d.params d.body d.scope dV kV doc pm an cdv ct), osl⟩ ∧ PySem.W.codeIn K cdv d.qual = true ∧ PySem.W.keepIn K (.ref (He.fAd K d.at_)) = true ∧ Binds K (PySem.W.fnOf d.name d.qual d.params d.body d.scope dV kV doc pm an cdv ct) [v] [] := by
  obtain ⟨fd, F⟩ := funD_at e c
  have e0 : d.dvs K = [] := by
    unfold He.DefD.dvs
    rw [List.isEmpty_iff.mp hd]
    rfl
  rw [e0] at F
  obtain ⟨as, dfl, e1, e2⟩ := parB_eq hp
  have B : Binds K fd [v] [] := by
    rw [e1] at F
    refine F.bindsN fun kV doc pm an cdv ct us hl => ?_
    rw [← e2] at hl ⊢
    exact bind_ok (by rw [e2]; exact List.nodup_cons.mpr ⟨List.not_mem_nil, List.nodup_nil⟩) hl
  obtain ⟨oc, od, dV, kV, doc, pm, an, cdv, ct, osl, rfl, lk, hcd, _, _⟩ := F.ex
  exact ⟨oc, od, dV, kV, doc, pm, an, cdv, ct, osl, lk, hcd, F.kp, B⟩
theorem tell_ok {t : TellI} (X : K.In h) (G : h.Ns mainGlobals mg) (free : ∀ x ∈ bltNames, mg x = none) (xf : ∀ i x, L.xs[i]? = some x → PySem.W.nsIn K mainGlobals x.name = some (some (.ref (xAd K x))) ∧ xcB K L i x = true)
    (hn : PySem.W.specialIn K (.builtin "object.__class__") "__get__" = some (some (.builtin "getset_descriptor.__get__"))) (htk : PySem.W.takesIn K (.builtin "object.__class__") = some true) (hsx : ∀ x ∈ L.xs, x.ok = true) (ht : t ∈ L.tells) (hst : t.ok L = true) (hB : tellsB K L t = true)
    (v1 : fnWa K (He.fAd K t.d.at_) = t.d.val) (v2 : fnWa K (He.fAd K t.ad.at_) = t.ad.val) : TellOk (gOf P w K mg base L) (L.xs.map (·.name)) t.t := by
  unfold TellI.ok at hst
  simp only [Bool.and_eq_true, decide_eq_true_eq, List.all_eq_true] at hst
  obtain ⟨⟨s1, s2, s3, s4, s5, s6, s7⟩, ⟨⟨s8, s9, s10, s11⟩, ⟨s12, s13⟩, s14, s15, s16⟩, ⟨s17, s18, s19, s20, s21⟩, ⟨s22, s23, s24, s25⟩, ⟨s26, s27⟩, s28, s29, ⟨s30, s31⟩, s32, s33⟩ := hst
  unfold tellsB at hB
  simp only [Bool.and_eq_true] at hB
  obtain ⟨⟨k1, k2⟩, k3, k4, k5⟩ := hB
  have at_ : ∀ i, i < (L.xs.map (·.name)).length → ∃ x, L.xs[i]? = some x ∧ (gOf P w K mg base L).xA i = xAd K x ∧ xcB K L i x = true := fun i hi => by
    rw [List.length_map] at hi
    have e := List.getElem?_eq_getElem hi
    refine ⟨_, e, ?_, (xf i _ e).2⟩
    show (match L.xs[i]? with | some x => xAd K x | none => 0) = _
    rw [e]
  have ecx : ∀ i, i < (L.xs.map (·.name)).length → ExcC K ((gOf P w K mg base L).xA i) ∧ XfC K ((gOf P w K mg base L).xA i) := fun i hi => by
    obtain ⟨x, e, ex, hb⟩ := at_ i hi
    rw [ex]
    unfold xcB at hb
    simp only [Bool.and_eq_true, decide_eq_true_eq] at hb
    obtain ⟨⟨b1, b2, b3, b4, b5⟩, _, _, ⟨c1, c2, c3, c4, c5⟩, _⟩ := hb
    exact ⟨⟨He.eqO_ok c1, He.eqO_ok c2, b3, c3, He.eqO_ok c4, hn, htk, c5⟩, ⟨He.eqO_ok c1, He.eqO_ok c2, b3, c3⟩⟩
  have own : ∀ i, i < (L.xs.map (·.name)).length → PySem.W.kitOne K (.ref ((gOf P w K mg base L).xA i)) (.type "ValueError") = some true ∧ PySem.W.kitOne K (.ref ((gOf P w K mg base L).xA i)) (.ref (He.ga K t.t.bs)) = some true ∧ PySem.W.exmOne K (.ref ((gOf P w K mg base L).xA i)) (.ref (He.ga K t.t.bs)) = some true ∧
      (∀ f ∈ (pickH t.t.hs t.t.last i).2, PySem.W.findIn K (.ref ((gOf P w K mg base L).xA i)) f = some none) ∧ ∀ j, j < (L.xs.map (·.name)).length → PySem.W.kitOne K (.ref ((gOf P w K mg base L).xA i)) (.ref ((gOf P w K mg base L).xA j)) = some (i == j) := fun i hi => by
    obtain ⟨x, e, ex, hb⟩ := at_ i hi
    rw [ex]
    unfold xcB at hb
    simp only [Bool.and_eq_true, decide_eq_true_eq] at hb
    obtain ⟨_, _, _, _, d1, d2, d3⟩ := hb
    have z := List.all_eq_true.mp d3 t ht
    simp only [Bool.and_eq_true, decide_eq_true_eq] at z
    refine ⟨d2, z.1.1, z.1.2, fun f hf => He.eqO_ok (List.all_eq_true.mp z.2 f hf), fun j hj => ?_⟩
    obtain ⟨y, e', ey, _⟩ := at_ j hj
    rw [ey]
    have z2 := List.all_eq_true.mp d1 j (List.mem_range.mpr (by rw [List.length_map] at hj; exact hj))
    rw [e'] at z2
    exact of_decide_eq_true z2
  have S : XSet (gOf P w K mg base L) (L.xs.map (·.name)) t.t.bs (He.ga K t.t.bs) := ⟨fun i hi => (ecx i hi).1, fun i hi => (ecx i hi).2, fun i j hi hj => (own i hi).2.2.2.2 j hj, fun i hi => (own i hi).2.1, fun i hi => (own i hi).1, fun i hi => (own i hi).2.2.1, fun i x hx => by
      rw [List.getElem?_map] at hx
      cases e : L.xs[i]? with
      | none => rw [e] at hx; cases hx
      | some y =>
        rw [e] at hx
        cases hx
        have z := hsx y (List.mem_of_getElem? e)
        unfold XcI.ok at z
        simp only [Bool.and_eq_true, Bool.not_eq_true'] at z
        refine ⟨?_, z.2.2.2.2.2⟩
        show mg y.name = some (.ref (match L.xs[i]? with | some x => xAd K x | none => 0))
        rw [e]
        exact PySem.W.mg_of X G (xf i y e).1, ⟨PySem.W.mg_of X G (He.eqO_ok k5), (nd_db s16).1⟩, free _ (by decide +kernel), free _ (by decide +kernel)⟩
  obtain ⟨oc, od, dV, kV, doc, pm, an, cdv, ct, osl, a1, a2, a3, a4⟩ := one_def (h := h) v1 k1 s7 s32
  obtain ⟨oc', od', dV', kV', doc', pm', an', cdv', ct', osl', a1', a2', a3', a4'⟩ := one_def (h := h) v2 k2 s21 s33
  have e1 : He.fAd K t.d.at_ = He.ga K t.t.nm := by rw [s30]; rfl
  have e2 : He.fAd K t.ad.at_ = He.ga K t.t.al := by rw [s31]; rfl
  rw [e1] at a1 a3
  rw [e2] at a1' a3'
  have Al : AloneOk (gOf P w K mg base L) (L.xs.map (·.name)).length (He.ga K t.t.al) := alone_ok (g := gOf P w K mg base L) S a1' a2' (C8.fnScope_by s18) a4' s22 s23 s24 s25 s19 s20 (nd_db s26) (nd_db s27) s17 s28 fun i hi => s29 i (List.mem_range.mpr hi)
  exact ⟨fun i hi => (own i hi).2.2.2.1, He.ga K t.t.bs, He.ga K t.t.nm, He.ga K t.t.al, t.d.name, t.d.qual, t.d.params, t.d.body, t.d.scope, dV, kV, doc, pm, cdv, ct, oc, an, od, osl, t.N, t.iv, S, Al, ⟨PySem.W.mg_of X G (He.eqO_ok k3), a3, a1, a2, a4⟩, ⟨C8.fnScope_by s2, s3, s4, s5, s6⟩, ⟨PySem.W.mg_of X G (He.eqO_ok k4), a3'⟩, ⟨s8, s9, s10, fun h hh x hx => by
      have z := s11 h hh
      rw [hx] at z
      exact z⟩,
    ⟨(nd_db s12).1, (nd_db s12).2, (nd_db s13).1, (nd_db s13).2, (nd_db s14).1, (nd_db s15).1⟩, s1⟩
/-- the defs' code objects and tables -/
def tabsOf (K : PySem.W.Frag) (L : LawT) : List (Addr × Addr) := L.fns.map fun a => (codeA K (a.at K), tabA K (a.at K))
theorem law_txt (hok : L.ok = true) (hmn : (L.xs.isEmpty || (((P.main.file : Str) == L.file) && (P.main.scope.names.lookup ("super" : Str)).isNone)) = true) (X : K.In h) (G : h.Ns mainGlobals mg) (c : SaysZ L w h K) :
    ∃ fd : Nat → FuncData, (∀ base, (∀ p ∈ tabsOf K L, LamX.TabB base mg p.1 p.2) → Txt0 (gOf P w K mg base L) L.ck L.tab fd) ∧ ∀ (j : Nat) (a : FnAll), L.fns[j]? = some a → a.dfs = [] → a.nk = 0 → ∀ (s : Shared) (us : List Value), us.length = a.ps.length → BindsTo s (fd j) ⟨us, []⟩ (a.ps.zip us) := by
  have mo := c.x.more
  unfold LawT.ex at mo
  simp only [Bool.and_eq_true] at mo
  obtain ⟨ex1, ex2, ex3, ex4⟩ := mo
  obtain ⟨hokF, hokC⟩ := Bool.and_eq_true_iff.mp hok
  obtain ⟨hokX, hokF⟩ := Bool.and_eq_true_iff.mp hokF
  obtain ⟨hokC, hokD⟩ := Bool.and_eq_true_iff.mp hokC
  have facts : ∀ {f : He.Fa}, f ∈ L.fa → f.ok K = true := fun {f} hf => c.x.t.d.facts hf
  have one : ∀ j : Nat, ∃ fd : FuncData, ∀ (a : FnAll), L.fns[j]? = some a → FunD K a.d.name a.d.qual a.d.params a.d.body a.d.scope (a.d.dvs K) (a.d.kws K) (a.at K) fd := fun j => by
    cases q : L.fns[j]? with
    | none => exact ⟨PySem.W.fnOf (Str.ofString "") (Str.ofString "") ⟨[], [], none, [], [], none, []⟩ [] ⟨.function, [], false, false, []⟩ .none .none .none .none none .none .none, fun a e => by cases e⟩
    | some a =>
      have e := congrArg (fun l : List He.FnW => l[j]?) c.f
      simp only [List.getElem?_map, q, Option.map_some, Option.some.injEq] at e
      obtain ⟨fd, F⟩ := funD_at e (List.all_eq_true.mp ex1 a (List.mem_of_getElem? q))
      exact ⟨fd, fun b e => by cases e; exact F⟩
  obtain ⟨fd, hfd⟩ := Classical.axiomOfChoice one
  have data : ∀ (j : Nat) (a : FnAll), L.fns[j]? = some a → ckSs L.ck a.N a.d.scope a.code.body a.d.body = true ∧ FnScope a.N a.ps a.d.scope ∧ a.ps.length = a.code.ar ∧ a.N.length = a.code.sl ∧ a.code.ar ≤ a.code.sl ∧ parB a.d.params a.ps a.nk = true ∧ (a.kind = 0 → a.d.at_ = (a.d.name, none)) ∧ (dvsB a.dfs a.d.dfl = true ∧ a.dfs.length ≤ a.ps.length - a.nk) ∧ (kdB a.kds a.d.kwd = true ∧ (a.kds.all fun p => (a.ps.drop (a.ps.length - a.nk)).contains p.1) = true) ∧ a.ps.Nodup := fun j a q => by
    have h := List.all_eq_true.mp hokF a (List.mem_of_getElem? q)
    unfold FnAll.ok at h
    simp only [Bool.and_eq_true, decide_eq_true_eq] at h
    obtain ⟨h1, h2, h3, h4, h5, h6, h7⟩ := h
    have S := C8.fnScope_by h2
    unfold atB at h7
    obtain ⟨h7, h8z⟩ := Bool.and_eq_true_iff.mp h7
    obtain ⟨h8y, h9⟩ := Bool.and_eq_true_iff.mp h8z
    obtain ⟨h8, h8'⟩ := Bool.and_eq_true_iff.mp h8y
    have h9 := Bool.and_eq_true_iff.mp h9
    refine ⟨h1, S, h3, h4, h5, h6, fun hk => ?_, ⟨h8, of_decide_eq_true h8'⟩, h9, ?_⟩
    · split at h7
      · rename_i x e
        simp only [Bool.and_eq_true, decide_eq_true_eq] at h7
        rw [e, h7.2]
      · exact absurd hk (of_decide_eq_true h7)
    · rw [← S.pre]
      exact S.nd.sublist (List.take_sublist _ _)
  have fnj : ∀ (base : Heap) (j : Nat) (a : FnAll), L.fns[j]? = some a → (gOf P w K mg base L).fA j = a.at K := fun base j a q => by
    show (match L.fns[j]? with | some a => a.at K | none => 0) = _
    rw [q]
  have ckj : ∀ (j : Nat) (f : FnI), L.ck.fns[j]? = some f → ∃ a, L.fns[j]? = some a ∧ f = a.info := fun j f q => by
    have q : (L.fns.map FnAll.info)[j]? = some f := q
    rw [List.getElem?_map] at q
    cases q2 : L.fns[j]? with
    | none => rw [q2] at q; cases q
    | some a => rw [q2] at q; cases q; exact ⟨a, rfl, rfl⟩
  have ckc : ∀ (i : Nat) (p : Str × (List (Str × Nat) × (List (Str × Nat) × List Str))), L.ck.cls[i]? = some p → ∃ k, L.cls[i]? = some k ∧ p = k.tup := fun i p q => by
    have q : (L.cls.map ClsI.tup)[i]? = some p := q
    rw [List.getElem?_map] at q
    cases q2 : L.cls[i]? with
    | none => rw [q2] at q; cases q
    | some a => rw [q2] at q; cases q; exact ⟨a, rfl, rfl⟩
  have Fj : ∀ (j : Nat) (a : FnAll), L.fns[j]? = some a → FunD K a.d.name a.d.qual a.d.params a.d.body a.d.scope (a.d.dvs K) (a.d.kws K) (a.at K) (fd j) := hfd
  have bnds : ∀ (j : Nat) (a : FnAll), L.fns[j]? = some a → a.nk = 0 → ∀ m, m ≤ a.dfs.length → ∃ ds, Vals ((a.d.dvs K).drop m) ds ∧ Binds K (fd j) a.ps ds := fun j a q hk m hm => by
    obtain ⟨d1, d2, d3, d4, d5, d6, d7, d8, d9, d10⟩ := data j a q
    rw [hk] at d6
    exact fnAll_bindsD (Fj j a q) d6 d10 d8.1 (Nat.le_trans d8.2 (Nat.sub_le _ _)) hm
  have nk0 : ∀ (j : Nat) (a : FnAll), L.fns[j]? = some a → a.ps.length - a.nk = a.ps.length → a.nk = 0 := fun j a q h => by
    obtain ⟨d1, d2, d3, d4, d5, d6, d7, d8, d9, d10⟩ := data j a q
    obtain ⟨as, kas, kdf, dfl, e1, e2, e3, e4⟩ := parB_eqK d6
    have : a.ps.length = as.length + kas.length := by rw [← e2, List.length_append, List.length_map, List.length_map]
    omega
  have bnd0 : ∀ (j : Nat) (a : FnAll), L.fns[j]? = some a → a.nk = 0 → Binds K (fd j) a.ps [] := fun j a q hk => by
    obtain ⟨ds, h1, h2⟩ := bnds j a q hk a.dfs.length (Nat.le_refl _)
    obtain ⟨d1, d2, d3, d4, d5, d6, d7, d8, d9, d10⟩ := data j a q
    have e : (a.d.dvs K).drop a.dfs.length = [] := by
      apply List.drop_eq_nil_of_le
      unfold He.DefD.dvs
      rw [List.length_map, dvsB_len d8.1]
      exact Nat.le_refl _
    rw [e] at h1
    cases h1
    exact h2
  have clsA : ∀ (base : Heap) (i : Nat) (k : ClsI), L.cls[i]? = some k → (gOf P w K mg base L).cA i = He.ga K k.name := fun base i k q => by
    show (match L.cls[i]? with | some c => He.ga K c.name | none => 0) = _
    rw [q]
  have clsF : ∀ (i : Nat) (k : ClsI), L.cls[i]? = some k → PySem.W.nsIn K mainGlobals k.name = some (some (.ref (He.ga K k.name))) ∧ clsB K L i k = true := fun i k q => by
    have h1 := List.all_eq_true.mp ex4 i (List.mem_range.mpr (List.getElem?_eq_some_iff.mp q).1)
    rw [q] at h1
    obtain ⟨h2, h3⟩ := Bool.and_eq_true_iff.mp h1
    exact ⟨He.eqO_ok h2, h3⟩
  have clsG : ∀ {i : Nat}, i < L.cls.length → ∃ k, L.cls[i]? = some k := fun {i} hi => ⟨_, List.getElem?_eq_getElem hi⟩
  have mem_look : ∀ {α : Type} {l : List (Str × α)} {m : Str} {j : α}, l.lookup m = some j → (m, j) ∈ l := fun {α l m j} => by
    induction l with
    | nil => intro h; cases h
    | cons p l ih =>
      intro h
      rw [List.lookup_cons] at h
      cases q : (m == p.1) with
      | true =>
        rw [q] at h
        cases h
        rw [eq_of_beq q]
        exact List.mem_cons_self
      | false =>
        rw [q] at h
        exact List.mem_cons_of_mem _ (ih h)
  have mox := c.exX
  unfold LawT.exX at mox
  simp only [Bool.and_eq_true, decide_eq_true_eq] at mox
  obtain ⟨mx1, mx2, mx3, mx4⟩ := mox
  obtain ⟨hokX1, hokX2⟩ := Bool.and_eq_true_iff.mp hokX
  have hxs : ∀ x ∈ L.xs, x.ok = true := List.all_eq_true.mp hokX1
  have free : ∀ x ∈ bltNames, mg x = none := fun x hx => He.free_ok X G (facts (f := .free x) (List.mem_append_right _ (List.mem_map_of_mem hx)))
  have xf : ∀ (i : Nat) (x : XcI), L.xs[i]? = some x → PySem.W.nsIn K mainGlobals x.name = some (some (.ref (xAd K x))) ∧ xcB K L i x = true := fun i x q => by
    have h1 := List.all_eq_true.mp mx3 i (List.mem_range.mpr (List.getElem?_eq_some_iff.mp q).1)
    rw [q] at h1
    obtain ⟨h2, h3⟩ := Bool.and_eq_true_iff.mp h1
    exact ⟨He.eqO_ok h2, h3⟩
  have ckx : ∀ (i : Nat) (p : Str × List Str), L.ck.xs[i]? = some p → ∃ x, L.xs[i]? = some x ∧ p = x.tup := fun i p q => by
    have q : (L.xs.map XcI.tup)[i]? = some p := q
    rw [List.getElem?_map] at q
    cases q2 : L.xs[i]? with
    | none => rw [q2] at q; cases q
    | some a => rw [q2] at q; cases q; exact ⟨a, rfl, rfl⟩
  have ckt : ∀ (i : Nat) (p : TellD), L.ck.tells[i]? = some p → ∃ x, L.tells[i]? = some x ∧ p = x.t := fun i p q => by
    have q : (L.tells.map (·.t))[i]? = some p := q
    rw [List.getElem?_map] at q
    cases q2 : L.tells[i]? with
    | none => rw [q2] at q; cases q
    | some a => rw [q2] at q; cases q; exact ⟨a, rfl, rfl⟩
  have tdv := List.map_inj_left.mp c.td
  have xiv := List.map_inj_left.mp c.xi
  have nms : (L.ck.xs.map fun (p : Str × List Str) => p.1) = L.xs.map (·.name) := by
    show (L.xs.map XcI.tup).map (fun (p : Str × List Str) => p.1) = _
    rw [List.map_map]
    rfl
  refine ⟨fd, fun base TB => ⟨fun j f q => ?_, fun j f q ht => ?_, fun j f q hnp m hm => ?_, fun j f q hnp => ?_, fun j f q n ks tl h => ?_, fun i m j f hi hd q => ?_, fun i m j f hi q => ?_, fun i p q => ?_, fun i => ?_, fun x hx => ?_, ?_, fun i hi => ?_, fun i p q => ?_, rfl, rfl, rfl, fun i m j hi hj => ?_, fun i j hi hj => ?_, fun i m j hi hj => ?_, fun i f hi hf => ?_, fun i p q => ?_, fun i => ?_, fun i t q => ?_, fun i t e q => ?_⟩, fun j a q h0 hk0 s us hl => ?_⟩
  · obtain ⟨a, qa, rfl⟩ := ckj j f q
    obtain ⟨d1, d2, d3, d4, d5, d6, d7, d8, d9, d10⟩ := data j a qa
    have F := Fj j a qa
    refine ⟨⟨a.code, a.N, a.d.name, a.d.qual, a.d.params, a.d.body, a.d.scope, a.d.dvs K, a.d.kws K, ?_, ?_, d2, d1, d3, d4, d5⟩, ?_⟩
    · show (L.fns.map (·.code))[j]? = _
      rw [List.getElem?_map, qa]
      rfl
    · rw [fnj base j a qa]
      exact F
    · obtain ⟨oc, od, dV, kV, doc, pm, an, cdv, ct, osl, efd, lk, hcd, _, _⟩ := F.ex
      obtain ⟨cc, rfl⟩ := He.codeIn_ref hcd
      have eC : codeA K (a.at K) = cc := by
        unfold codeA
        rw [lk, efd]
      rw [efd]
      refine ⟨cc, tabA K (a.at K), rfl, ?_, List.mem_map.mpr ⟨a, List.mem_of_getElem? qa, rfl⟩, fun p hp e => ?_⟩
      · have z := TB _ (List.mem_map.mpr ⟨a, List.mem_of_getElem? qa, rfl⟩)
        dsimp only at z
        rw [eC] at z
        exact z
      · obtain ⟨a', ha', rfl⟩ := List.mem_map.mp hp
        obtain ⟨i', hi', ei⟩ := List.mem_iff_getElem.mp ha'
        obtain ⟨hj, ej⟩ := List.getElem?_eq_some_iff.mp qa
        have same : i' = j := by
          refine (List.getElem_inj (h₀ := by rw [List.length_map]; exact hi') (h₁ := by rw [List.length_map]; exact hj) mx1).mp ?_
          rw [List.getElem_map, List.getElem_map, ei, ej]
          exact e
        subst same
        rw [← ei, ← ej]
  · obtain ⟨a, qa, rfl⟩ := ckj j f q
    obtain ⟨d1, d2, d3, d4, d5, d6, d7, d8, d9, d10⟩ := data j a qa
    have F := Fj j a qa
    rw [fnj base j a qa]
    have hk : a.kind = 0 := eq_of_beq ht
    refine ⟨?_, F.kp⟩
    have e := He.glo_ok X G (facts (f := .glo a.d.name) (List.mem_append_left _ (List.mem_filterMap.mpr ⟨a, List.mem_of_getElem? qa, by rw [if_pos hk]⟩)))
    show mg a.d.name = _
    unfold FnAll.at
    rw [e, d7 hk, hk]
    rfl
  · obtain ⟨a, qa, rfl⟩ := ckj j f q
    obtain ⟨d1, d2, d3, d4, d5, d6, d7, d8, d9, d10⟩ := data j a qa
    obtain ⟨ds, h1, h2⟩ := bnds j a qa (nk0 j a qa hnp) m hm
    refine ⟨ds, _, h2, h1, fun H => ?_⟩
    unfold He.DefD.dvs
    rw [← List.map_drop]
    exact dvsB_dens H (dvsB_drop m d8.1)
  · obtain ⟨a, qa, rfl⟩ := ckj j f q
    obtain ⟨d1, d2, d3, d4, d5, d6, d7, d8, d9, d10⟩ := data j a qa
    exact bnd0 j a qa (nk0 j a qa hnp)
  · obtain ⟨a, qa, rfl⟩ := ckj j f q
    obtain ⟨d1, d2, d3, d4, d5, d6, d7, d8, d9, d10⟩ := data j a qa
    exact fnAll_kw rfl (Fj j a qa) d6 d10 d8.1 d8.2 d9.1 d9.2 h
  · obtain ⟨a, qa, rfl⟩ := ckj j f q
    have hi : (L.ck.cls[i]?).bind (fun p => p.2.1.lookup m) = some j := hi
    obtain ⟨p, ep, el⟩ := Option.bind_eq_some_iff.mp hi
    obtain ⟨k, ek, rfl⟩ := ckc i p ep
    have z := List.all_eq_true.mp hokD k (List.mem_of_getElem? ek)
    have z := List.all_eq_true.mp (Bool.and_eq_true_iff.mp z).1 (m, j) (mem_look el)
    rw [hd, qa] at z
    have z : a.nk = 0 := of_decide_eq_true z
    show a.ps.length - a.nk = a.ps.length
    rw [z]
    rfl
  · obtain ⟨a, qa, rfl⟩ := ckj j f q
    have hi : (L.ck.cls[i]?).bind (fun p => p.2.2.1.lookup m) = some j := hi
    obtain ⟨p, ep, el⟩ := Option.bind_eq_some_iff.mp hi
    obtain ⟨k, ek, rfl⟩ := ckc i p ep
    have z := List.all_eq_true.mp hokD k (List.mem_of_getElem? ek)
    have z := List.all_eq_true.mp (Bool.and_eq_true_iff.mp z).2 (m, j) (mem_look el)
    rw [qa] at z
    have z : a.nk = 0 := of_decide_eq_true z
    show a.ps.length - a.nk = a.ps.length
    rw [z]
    rfl
  · have q : L.glo[i]? = some p := q
    have h1 := List.all_eq_true.mp ex2 p (List.mem_of_getElem? q)
    obtain ⟨x, d⟩ := p
    unfold gloB at h1
    dsimp only at h1
    split at h1
    · rename_i u eu
      have em := PySem.W.mg_of X G eu
      split at h1
      · rename_i kvs _
        split at h1
        · rename_i a
          split at h1
          · rename_i es n sl lk
            simp only [Bool.and_eq_true, decide_eq_true_eq] at h1
            have hga : He.ga K x = a := by unfold He.ga; rw [eu]
            have ht : ((fun K => He.ga K x, kvs.map (·.1)) : He.Tab) ∈ L.ts := List.mem_filterMap.mpr ⟨(x, .kdic kvs), List.mem_of_getElem? q, rfl⟩
            obtain ⟨n', hn', en'⟩ := List.mem_iff_getElem.mp ht
            obtain ⟨es', m', D⟩ := c.x.t.tab n' (t := (fun K => He.ga K x, kvs.map (·.1))) (by rw [List.getElem?_eq_getElem hn', en'])
            have D' : ∃ es n, KDict K w a es n := ⟨es', m', by rw [← hga]; exact D⟩
            exact ⟨_, .ref a, em, rfl, fun H => .kdic (kdic_ok D' lk h1.1 (by
              have h2 := h1.2
              rw [List.all_eq_true] at h2 ⊢
              intro z hz
              have h3 := h2 z hz
              exact h3))⟩
          · cases h1
        · cases h1
      · obtain ⟨v, r, cd⟩ := cB_ok h1
        exact ⟨u, v, em, r, fun H => cd.den rfl⟩
    · cases h1
  · rfl
  · exact He.free_ok X G (facts (f := .free x) (List.mem_append_right _ (List.mem_map_of_mem hx)))
  · show L.cls.length = (L.cls.map ClsI.tup).length
    rw [List.length_map]
  · obtain ⟨k, ek⟩ := clsG hi
    have hB := (clsF i k ek).2
    unfold clsB at hB
    simp only [Bool.and_eq_true] at hB
    obtain ⟨b1, b2, b3, b4, b5, b6, b7, _⟩ := hB
    have cE := clsA base i k ek
    have hn := of_decide_eq_true ex3.1
    have htk := of_decide_eq_true ex3.2
    have oth : ∀ c', c' < L.cls.length → PySem.W.kitOne K (.ref (He.ga K k.name)) (.ref ((gOf P w K mg base L).cA c')) = some (i == c') ∧ PySem.W.notFirst K (He.ga K k.name) (.ref ((gOf P w K mg base L).cA c')) = true := fun c' hc' => by
      obtain ⟨k', ek'⟩ := clsG hc'
      have h1 := List.all_eq_true.mp b7 c' (List.mem_range.mpr hc')
      rw [ek'] at h1
      obtain ⟨h2, h3⟩ := Bool.and_eq_true_iff.mp h1
      rw [clsA base c' k' ek']
      exact ⟨of_decide_eq_true h2, h3⟩
    refine ⟨?_, ?_, hn, htk, ?_, fun ty hin => ?_, fun s hs => ?_, fun s hs => ?_, fun c' hc' => ?_, ?_, ?_⟩
    · rw [cE]; exact He.cls_ok b1
    · rw [cE]; exact He.eqO_ok b2
    · rw [cE]; exact of_decide_eq_true b3
    · rw [cE]
      cases ty with
      | cls c' => exact (oth c' hin).1
      | int => exact of_decide_eq_true (List.all_eq_true.mp b5 .int (by simp [tyB0]))
      | bool => exact of_decide_eq_true (List.all_eq_true.mp b5 .bool (by simp [tyB0]))
      | str => exact of_decide_eq_true (List.all_eq_true.mp b5 .str (by simp [tyB0]))
      | lst => exact of_decide_eq_true (List.all_eq_true.mp b5 .lst (by simp [tyB0]))
      | tup => exact of_decide_eq_true (List.all_eq_true.mp b5 .tup (by simp [tyB0]))
      | dic => exact of_decide_eq_true (List.all_eq_true.mp b5 .dic (by simp [tyB0]))
    · rw [cE]; exact of_decide_eq_true (Bool.and_eq_true_iff.mp (List.all_eq_true.mp b6 s hs)).1
    · rw [cE]; exact (Bool.and_eq_true_iff.mp (List.all_eq_true.mp b6 s hs)).2
    · rw [cE]; exact (oth c' hc').2
    · rw [cE]; exact b4.1
    · rw [cE]; exact He.eqO_ok b4.2
  · obtain ⟨k, ek, rfl⟩ := ckc i p q
    rw [clsA base i k ek]
    exact PySem.W.mg_of X G (clsF i k ek).1
  · obtain ⟨k, ek⟩ := clsG hi
    have hB := (clsF i k ek).2
    unfold clsB at hB
    simp only [Bool.and_eq_true] at hB
    obtain ⟨b1, b2, b3, b4, b5, b6, b7, b8, b9, b10, b11⟩ := hB
    have hj' : k.meths.lookup m = some j := by
      have : (L.ck.cls[i]?).bind (fun p => p.2.1.lookup m) = some j := hj
      have e : L.ck.cls[i]? = some k.tup := by
        show (L.cls.map ClsI.tup)[i]? = _
        rw [List.getElem?_map, ek]
        rfl
      rw [e] at this
      exact this
    have h1 := List.all_eq_true.mp b8 (m, j) (mem_look hj')
    obtain ⟨h2, h3⟩ := Bool.and_eq_true_iff.mp h1
    dsimp only at h2 h3
    split at h3
    · rename_i a qa
      simp only [Bool.and_eq_true, decide_eq_true_eq] at h3
      rw [clsA base i k ek, fnj base j a qa]
      have ea : a.at K = He.ma K (He.ga K k.name) m := by
        unfold FnAll.at
        rw [h3.2, h3.1]
        rfl
      rw [ea]
      refine ⟨He.meth_ok h2, ?_⟩
      show ((L.fns.map FnAll.info)[j]?).isSome = true
      rw [List.getElem?_map, qa]
      rfl
    · cases h3
  · obtain ⟨k, ek⟩ := clsG hi
    have hB := (clsF i k ek).2
    unfold clsB at hB
    simp only [Bool.and_eq_true] at hB
    obtain ⟨b1, b2, b3, b4, b5, b6, b7, b8, b9, b10, b11⟩ := hB
    have hj' : k.meths.lookup ("__init__" : Str) = some j := by
      have : (L.ck.cls[i]?).bind (fun p => p.2.1.lookup ("__init__" : Str)) = some j := hj
      have e : L.ck.cls[i]? = some k.tup := by
        show (L.cls.map ClsI.tup)[i]? = _
        rw [List.getElem?_map, ek]
        rfl
      rw [e] at this
      exact this
    have h1 := List.all_eq_true.mp b8 (_, j) (mem_look hj')
    obtain ⟨h2, h3⟩ := Bool.and_eq_true_iff.mp h1
    rw [hj'] at b11
    split at h3
    · rename_i a qa
      simp only [Bool.and_eq_true, decide_eq_true_eq] at h3
      rw [clsA base i k ek, fnj base j a qa]
      have ea : a.at K = He.ma K (He.ga K k.name) "__init__" := by
        unfold FnAll.at
        rw [h3.2, h3.1]
        rfl
      rw [ea]
      exact He.mkr_ok b11
    · cases h3
  · obtain ⟨k, ek⟩ := clsG hi
    have hB := (clsF i k ek).2
    unfold clsB at hB
    simp only [Bool.and_eq_true] at hB
    obtain ⟨b1, b2, b3, b4, b5, b6, b7, b8, b9, b10, b11⟩ := hB
    have hj' : k.props.lookup m = some j := by
      have : (L.ck.cls[i]?).bind (fun p => p.2.2.1.lookup m) = some j := hj
      have e : L.ck.cls[i]? = some k.tup := by
        show (L.cls.map ClsI.tup)[i]? = _
        rw [List.getElem?_map, ek]
        rfl
      rw [e] at this
      exact this
    have h1 := List.all_eq_true.mp b9 (_, j) (mem_look hj')
    simp only [Bool.and_eq_true] at h1
    obtain ⟨h2, h3, h4, h5, h6⟩ := h1
    split at h6
    · rename_i a qa
      simp only [Bool.and_eq_true, decide_eq_true_eq] at h6
      rw [clsA base i k ek, fnj base j a qa]
      refine ⟨⟨He.fAd K (k.name, some m), He.eqO_ok h2, He.eqO_ok h3, of_decide_eq_true h4, ?_⟩, ?_⟩
      · have ea : a.at K = gAd K (k.name, some m) := by
          unfold FnAll.at
          rw [h6.2, h6.1]
          rfl
        rw [ea]
        unfold gAd
        split at h5
        · rename_i g0 rest er
          rw [er]
          exact ⟨rest, rfl⟩
        · cases h5
      · show ((L.fns.map FnAll.info)[j]?).isSome = true
        rw [List.getElem?_map, qa]
        rfl
    · cases h6
  · obtain ⟨k, ek⟩ := clsG hi
    have hB := (clsF i k ek).2
    unfold clsB at hB
    simp only [Bool.and_eq_true] at hB
    obtain ⟨b1, b2, b3, b4, b5, b6, b7, b8, b9, b10, b11⟩ := hB
    have hf' : k.flds.contains f = true := by
      have h0 : (match L.ck.cls[i]? with | some p => p.2.2.2.contains f | none => false) = true := hf
      have e : L.ck.cls[i]? = some k.tup := by
        show (L.cls.map ClsI.tup)[i]? = _
        rw [List.getElem?_map, ek]
        rfl
      rw [e] at h0
      exact h0
    rw [clsA base i k ek]
    exact He.eqO_ok (List.all_eq_true.mp b10 f (by simpa using hf'))
  · obtain ⟨x, ex, rfl⟩ := ckx i p q
    have ne : L.xs.isEmpty = false := by
      cases hl : L.xs with
      | nil => rw [hl] at ex; simp at ex
      | cons _ _ => rfl
    rw [ne, Bool.false_or, Bool.and_eq_true] at hmn
    obtain ⟨w1, w2⟩ := xf i x ex
    have eA : (gOf P w K mg base L).xA i = xAd K x := by
      show (match L.xs[i]? with | some x => xAd K x | none => 0) = _
      rw [ex]
    rw [eA]
    refine ⟨x_ok hmn.1 ?_ (free _ (by decide +kernel)) mx2 (hxs x (List.mem_of_getElem? ex)) w2 (xiv x (List.mem_of_getElem? ex)), PySem.W.mg_of X G w1⟩
    have z := hmn.2
    cases hq : P.main.scope.names.lookup ("super" : Str) with
    | none => rfl
    | some _ => rw [hq] at z; cases z
  · show (L.xs[i]?).map (·.flds) = ((L.xs.map XcI.tup)[i]?).map (·.2)
    rw [List.getElem?_map, Option.map_map]
    rfl
  · obtain ⟨ti, et, rfl⟩ := ckt i t q
    have mt := List.mem_of_getElem? et
    rw [nms]
    have m1 : ti.d ∈ L.tds := List.mem_flatMap.mpr ⟨ti, mt, by simp⟩
    have m2 : ti.ad ∈ L.tds := List.mem_flatMap.mpr ⟨ti, mt, by simp⟩
    exact tell_ok (h := h) X G free xf (of_decide_eq_true ex3.1) (of_decide_eq_true ex3.2) hxs mt (List.all_eq_true.mp hokX2 ti mt) (List.all_eq_true.mp mx4 ti mt) (tdv _ m1) (tdv _ m2)
  · obtain ⟨ti, et, rfl⟩ := ckt i t q
    show (L.tells[i]?).bind (fun t => if e.c < L.xs.length then t.t.ans e else none) = if e.c < (L.xs.map XcI.tup).length then ti.t.ans e else none
    rw [et, List.length_map]
    rfl
  · obtain ⟨d1, d2, d3, d4, d5, d6, d7, d8, d9, d10⟩ := data j a q
    have F := Fj j a q
    have e : a.d.dvs K = [] := by
      have := dvsB_len d8.1
      rw [h0] at this
      unfold He.DefD.dvs
      rw [List.length_eq_zero_iff.mp this]
      rfl
    rw [e] at F
    rw [hk0] at d6
    exact (fnAll_binds F d6 d10).2 s us hl
end
/-! ### the end -/
theorem law_walk {l : PySem.W.OpenLaw} {m n jl dp : Nat} {q : Program} {loose : List Str} {XP : (Str → Option Value) → Heap → Prop} {d : DefRec} {L : LawT} {al : FnAll} {x : Str} {W : Nat}
    (hn : l.most = some m) (hn2 : m ≤ sizeLine) (hdf : d.params.defaults = []) (hr : Room (3 * n + 6) callerA) (hok : L.ok = true) (hmn : (L.xs.isEmpty || (((l.prog.main.file : Str) == L.file) && (l.prog.main.scope.names.lookup ("super" : Str)).isNone)) = true) (hal : L.fns[jl]? = some al) (hx : al.ps = [x]) (hnm : d.name = al.d.name) (hat : al.d.at_ = (al.d.name, none)) (hkd : al.kind = 0) (hdl : al.dfs = []) (hdn : al.nk = 0)
    (law : ∀ ns : List Int, ns.length ≤ m → (∀ z ∈ ns, Builtin.Int.intBits z ≤ 1048576) → ∃ μ, callD L.tab W (n + 1) jl [.d (.kls (ns.map D.int))] [] = .ok (.d (.bl true)) μ) :
    PySem.W.WalkO q loose XP (hookZ dp L).says l.row.toRowW d [] (fun f vs => PySem.call f vs) := by
  refine Att.attach_callB hn hdf fun w s₀ s₁ mg mb fa o pm cd doc a vs ns G Y ho hd hcd hmg hobj hints hlen hbits hg => ?_
  obtain ⟨K, KX, c⟩ := Y
  obtain ⟨fd, T0, hb⟩ := law_txt (P := l.prog) (w := w) hok hmn KX G.T.g c
  have eat : al.at K = He.fAd K al.d.at_ := by
    unfold FnAll.at
    rw [hkd]
    rfl
  have efa : fa = al.at K := by
    have e := He.glo_ok KX G.T.g (c.x.t.d.facts (f := .glo al.d.name) (List.mem_append_left _ (List.mem_filterMap.mpr ⟨al, List.mem_of_getElem? hal, by rw [if_pos hkd]⟩)))
    rw [hnm, e] at hmg
    cases hmg
    rw [eat, hat]
    rfl
  have e1 : ∀ base, (gOf l.prog w K mg base L).fA jl = fa := fun base => by
    show (match L.fns[jl]? with | some a => a.at K | none => 0) = _
    rw [hal, efa]
  have hbind : ∀ (s : Shared) (u : Value), BindsTo s (fd jl) ⟨[u], []⟩ [(x, u)] := fun s u => by
    have z := hb jl al hal hdl hdn s [u] (by rw [hx]; rfl)
    rw [hx] at z
    exact z
  have inT : ∀ p ∈ tabsOf K L, ∃ a ∈ L.fns, p = (codeA K (a.at K), tabA K (a.at K)) := fun p hp => by
    obtain ⟨a, ha, rfl⟩ := List.mem_map.mp hp
    exact ⟨a, ha, rfl⟩
  refine LamX.law_callTs (CX := L2N.CX l.prog w) (k := 3 * n + 6) (x := x) (cs := tabsOf K L) (sp := fun vs H Q E => ∃ (a : Addr) (ns : List Int), vs = [.ref a] ∧ SqL K H a (ns.map V.int) ∧ ns.length ≤ m ∧ (∀ z ∈ ns, Builtin.Int.intBits z ≤ 1048576) ∧ (∀ p ∈ tabsOf K L, H p.2 = some (.tbl #[])) ∧ ∀ H', Q (.bl true) H') KX G.T.g G.T.b G.T.builtins G.T.nolimit hg
    (fun p hp => by obtain ⟨a, ha, rfl⟩ := inT p hp; exact c.empty a ha) (fun p hp => by obtain ⟨a, ha, rfl⟩ := inT p hp; exact c.out a ha) (fun p hp => by obtain ⟨a, ha, rfl⟩ := inT p hp; exact PySem.W.codeHd_of_K KX (c.hd a ha)) G.T.bmain hobj hints (Nat.le_trans hlen hn2) hr (fun base _ _ TB => ?_) hbind
    (fun H hH hS => ⟨a, ns, rfl, hS, hlen, hbits, hH, fun _ => rfl⟩) (fun H e s' z => by
      obtain ⟨_, _, _, _, _, _, _, _, _, _, _, _, z⟩ := z
      exact z)
  have F := fn_ok (W := W) (txt_all (T0 base TB) n) ((T0 base TB).defs jl al.info (by
    show (L.fns.map FnAll.info)[jl]? = _
    rw [List.getElem?_map, hal]
    rfl))
  rw [e1] at F
  have F' : FnOk l.prog w K mg base (L2N.CX l.prog w) (3 * n + 6) fa (fd jl) [x] (spF (gOf l.prog w K mg base L) (callD L.tab W (n + 1)) jl) := by
    have e2 : al.info.ps = [x] := hx
    rw [← e2]
    exact F
  refine F'.imp fun vs H Q E ⟨a, ns, e, hS, h1, h2, h3, hQ⟩ => ?_
  subst e
  obtain ⟨μ, e⟩ := law ns h1 h2
  have tabE : ∀ p ∈ (gOf l.prog w K mg base L).T, H p.1 = some (.tbl #[]) := fun p hp => by
    obtain ⟨a, ha, rfl⟩ := List.mem_map.mp hp
    exact h3 _ (List.mem_map.mpr ⟨a, ha, rfl⟩)
  -- the tables are no values
  have low : ∃ H0 : Hp, Ex H0 H ∧ (∀ p ∈ (gOf l.prog w K mg base L).T, H0 p.1 = none) ∧ SqL K H0 a (ns.map V.int) := by
    refine ⟨fun b => match H b with | some (.tbl _) => none | o => o, fun b o e => ?_, fun p hp => ?_, ?_⟩
    · cases q : H b with
      | none =>
        simp only [q] at e
        cases e
      | some u =>
        cases u <;> first | (simp only [q] at e; exact e) | (simp only [q] at e; cases e)
    · simp only [tabE p hp]
    · rcases hS with hS | hS
      · rcases hS with hS | ⟨o, hS⟩
        · exact .inl (.inl (by simp only [hS]))
        · exact .inl (.inr ⟨o, by simp only [hS]⟩)
      · exact .inr hS
  obtain ⟨H0, ex0, t00, s0⟩ := low
  refine ⟨H0, [], [], [.d (.kls (ns.map D.int))], ⟨ex0, fun i x e => by simp at e, Nat.le_refl _, rfl, List.nodup_nil, fun a h => (by cases h), fun k nd a e => by simp at e, fun p hp => LamX.TabS.nil (tabE p hp), fun p hp => ⟨t00 p hp, List.not_mem_nil⟩⟩, .cons (Den.kls s0 (denInts _ _)) .nil, ?_⟩
  rw [e]
  intro v A B C s r dv
  have dv : Den _ A v (.bl true) := dv
  cases dv
  exact hQ B
end DL

namespace K02
open PySem PySem.Spec PyProof.Rows L2 DL
/-- the i-th statement of the text -/
abbrev top (i : Nat) : Stmt := PySem.Challenge.pw_tollbooks_k02_rounded_by_rule.main.body.getD i (.Pass ⟨0, 0, 0, 0⟩)
abbrev cst (i k : Nat) : Stmt := (clsStmts (top i)).getD k (.Pass ⟨0, 0, 0, 0⟩)

abbrev j_wall : Nat := 0
def b_wall : Ss := (.cons (.whl (.val (.con (.bl true))) (.cons .pass .nil)) .nil)
/-- _wall -/
def f_wall : FnAll := ⟨⟨("_wall", none), "_wall", "_wall", defArgs (top 0), defBody (top 0), defScope (top 0), [], []⟩, ["k"], ["k"], ⟨1, 1, b_wall⟩, 0, [], 0, []⟩
abbrev j_whole : Nat := 1
def b_whole : Ss := (.cons (.ret (.bop true (.cons (.isi (.var 0) [.int]) (.cons (.not (.isi (.var 0) [.bool])) .nil)))) .nil)
/-- whole -/
def f_whole : FnAll := ⟨⟨("whole", none), "whole", "whole", defArgs (top 17), defBody (top 17), defScope (top 17), [], []⟩, ["value"], ["value"], ⟨1, 1, b_whole⟩, 0, [], 0, []⟩
abbrev j_common_measure : Nat := 2
def b_common_measure : Ss := (.cons (.set 2 (.blt false .abs (.cons (.var 0) .nil))) (.cons (.set 3 (.blt false .abs (.cons (.var 1) .nil))) (.cons (.whl (.cmp .ne (.var 3) (.con (.int 0))) (.cons (.par 2 3 (.var 3) (.bin .mod (.var 2) (.var 3))) .nil)) (.cons (.ret (.var 2)) .nil))))
/-- common_measure -/
def f_common_measure : FnAll := ⟨⟨("common_measure", none), "common_measure", "common_measure", defArgs (top 18), defBody (top 18), defScope (top 18), [], []⟩, ["left", "right", "large", "small"], ["left", "right"], ⟨2, 4, b_common_measure⟩, 0, [], 0, []⟩
abbrev j_lstore : Nat := 3
def b_lstore : Ss := (.cons (.ret (.lst true (.cons (.lc false (.nm 1) (.seq (.var 0)) .none (.blt false .int (.cons (.var 1) .nil)) [1]) (.cons (.con (.int 0)) (.cons (.con (.int 0)) (.cons (.con (.int 0)) (.cons (.blt false .len (.cons (.var 0) .nil)) .nil))))))) .nil)
/-- _law_store -/
def f_lstore : FnAll := ⟨⟨("_law_store", none), "_law_store", "_law_store", defArgs (top 21), defBody (top 21), defScope (top 21), [], []⟩, ["_law_script", "_law_cell"], ["_law_script"], ⟨1, 2, b_lstore⟩, 0, [], 0, []⟩
abbrev j_ltake : Nat := 4
def b_ltake : Ss := (.cons (.ite (.cmp .lt (.var 1) (.con (.int 2))) (.cons (.ret (.con (.int 0))) .nil) .nil) (.cons (.setI (.var 0) (.con (.int 3)) (.bin .add (.idx (.var 0) (.con (.int 3))) (.con (.int 1)))) (.cons (.ite (.bop true (.cons (.cmp .eq (.idx (.var 0) (.con (.int 2))) (.con (.int 0))) (.cons (.cmp .lt (.idx (.var 0) (.con (.int 1))) (.blt false .len (.cons (.idx (.var 0) (.con (.int 0))) .nil))) .nil))) (.cons (.set 4 (.idx (.idx (.var 0) (.con (.int 0))) (.idx (.var 0) (.con (.int 1))))) (.cons (.setI (.var 0) (.con (.int 1)) (.bin .add (.idx (.var 0) (.con (.int 1))) (.con (.int 1)))) (.cons (.setI (.var 0) (.con (.int 4)) (.bin .mod (.blt false .int (.cons (.bin .add (.bin .mul (.idx (.var 0) (.con (.int 4))) (.con (.int 31))) (.var 4)) .nil)) (.con (.int 1000000007)))) (.cons (.ite (.cmp .ge (.var 4) (.bin .pow (.con (.int 10)) (.con (.int 18)))) (.cons (.setI (.var 0) (.con (.int 2)) (.var 4)) .nil) .nil) .nil)))) .nil) (.cons (.ite (.cmp .gt (.idx (.var 0) (.con (.int 2))) (.con (.int 0))) (.cons (.set 2 (.bin .mod (.blt false .int (.cons (.idx (.var 0) (.con (.int 2))) .nil)) (.var 1))) (.cons (.setI (.var 0) (.con (.int 2)) (.bin .fdiv (.idx (.var 0) (.con (.int 2))) (.var 1))) (.cons (.ret (.var 2)) .nil))) .nil) (.cons (.set 2 (.con (.int 0))) (.cons (.set 3 (.var 1)) (.cons (.whl (.cmp .gt (.var 3) (.con (.int 0))) (.cons (.setI (.var 0) (.con (.int 4)) (.bin .mod (.blt false .int (.cons (.bin .add (.bin .add (.bin .mul (.idx (.var 0) (.con (.int 4))) (.con (.int 48271))) (.bin .mul (.idx (.var 0) (.con (.int 3))) (.con (.int 40692)))) (.con (.int 11))) .nil)) (.con (.int 2147483647)))) (.cons (.set 2 (.bin .add (.bin .mul (.var 2) (.con (.int 1000003))) (.bin .mod (.bin .mod (.blt false .int (.cons (.bin .add (.bin .mul (.idx (.var 0) (.con (.int 4))) (.con (.int 69621))) (.idx (.var 0) (.con (.int 3)))) .nil)) (.con (.int 2147483399))) (.con (.int 1000003))))) (.cons (.set 3 (.bin .fdiv (.var 3) (.con (.int 1000003)))) .nil)))) (.cons (.ret (.bin .mod (.blt false .int (.cons (.var 2) .nil)) (.var 1))) .nil))))))))
/-- _law_take -/
def f_ltake : FnAll := ⟨⟨("_law_take", none), "_law_take", "_law_take", defArgs (top 22), defBody (top 22), defScope (top 22), [], []⟩, ["_law_store_here", "_law_many", "_law_drawn", "_law_left", "_law_cell"], ["_law_store_here", "_law_many"], ⟨2, 5, b_ltake⟩, 0, [], 0, []⟩
abbrev j_lbetween : Nat := 5
def b_lbetween : Ss := (.cons (.ret (.bin .add (.var 1) (.call 4 (.cons (.var 0) (.cons (.bin .add (.bin .sub (.var 2) (.var 1)) (.con (.int 1))) .nil)) []))) .nil)
/-- _law_between -/
def f_lbetween : FnAll := ⟨⟨("_law_between", none), "_law_between", "_law_between", defArgs (top 23), defBody (top 23), defScope (top 23), [], []⟩, ["_law_store_here", "_law_low", "_law_high"], ["_law_store_here", "_law_low", "_law_high"], ⟨3, 3, b_lbetween⟩, 0, [], 0, []⟩
abbrev j_lpick : Nat := 6
def b_lpick : Ss := (.cons (.ret (.idx (.var 1) (.call 4 (.cons (.var 0) (.cons (.blt false .len (.cons (.var 1) .nil)) .nil)) []))) .nil)
/-- _law_pick -/
def f_lpick : FnAll := ⟨⟨("_law_pick", none), "_law_pick", "_law_pick", defArgs (top 24), defBody (top 24), defScope (top 24), [], []⟩, ["_law_store_here", "_law_row"], ["_law_store_here", "_law_row"], ⟨2, 2, b_lpick⟩, 0, [], 0, []⟩
abbrev j_ledge : Nat := 7
def b_ledge : Ss := (.cons (.set 3 (.call 4 (.cons (.var 0) (.cons (.con (.int 12)) .nil)) [])) (.cons (.ite (.cmp .lt (.var 3) (.con (.int 4))) (.cons (.ret (.idx (.lst false (.cons (.var 1) (.cons (.var 2) (.cons (.blt false .min2 (.cons (.bin .add (.var 1) (.con (.int 1))) (.cons (.var 2) .nil))) (.cons (.blt false .max2 (.cons (.bin .sub (.var 2) (.con (.int 1))) (.cons (.var 1) .nil))) .nil))))) (.var 3))) .nil) .nil) (.cons (.ite (.cmp .lt (.var 3) (.con (.int 8))) (.cons (.ret (.call 5 (.cons (.var 0) (.cons (.var 1) (.cons (.blt false .min2 (.cons (.bin .add (.var 1) (.con (.int 9))) (.cons (.var 2) .nil))) .nil))) [])) .nil) .nil) (.cons (.ret (.call 5 (.cons (.var 0) (.cons (.var 1) (.cons (.var 2) .nil))) [])) .nil))))
/-- _law_edge -/
def f_ledge : FnAll := ⟨⟨("_law_edge", none), "_law_edge", "_law_edge", defArgs (top 25), defBody (top 25), defScope (top 25), [], []⟩, ["_law_store_here", "_law_low", "_law_high", "_law_way"], ["_law_store_here", "_law_low", "_law_high"], ⟨3, 4, b_ledge⟩, 0, [], 0, []⟩
abbrev j_lsigned : Nat := 8
def b_lsigned : Ss := (.cons (.set 2 (.call 7 (.cons (.var 0) (.cons (.con (.int 0)) (.cons (.var 1) .nil))) [])) (.cons (.ite (.cmp .eq (.call 4 (.cons (.var 0) (.cons (.con (.int 2)) .nil)) []) (.con (.int 1))) (.cons (.ret (.bin .sub (.con (.int 0)) (.var 2))) .nil) .nil) (.cons (.ret (.var 2)) .nil)))
/-- _law_signed -/
def f_lsigned : FnAll := ⟨⟨("_law_signed", none), "_law_signed", "_law_signed", defArgs (top 26), defBody (top 26), defScope (top 26), [], []⟩, ["_law_store_here", "_law_high", "_law_drawn"], ["_law_store_here", "_law_high"], ⟨2, 3, b_lsigned⟩, 0, [], 0, []⟩
abbrev j_lis_int : Nat := 9
def b_lis_int : Ss := (.cons (.ret (.bop true (.cons (.isi (.var 0) [.int]) (.cons (.not (.isi (.var 0) [.bool])) .nil)))) .nil)
/-- _law_is_int -/
def f_lis_int : FnAll := ⟨⟨("_law_is_int", none), "_law_is_int", "_law_is_int", defArgs (top 27), defBody (top 27), defScope (top 27), [], []⟩, ["_law_value"], ["_law_value"], ⟨1, 1, b_lis_int⟩, 0, [], 0, []⟩
abbrev j_lsame : Nat := 10
def b_lsame : Ss := (.cons (.ite (.bop false (.cons (.cmp .is_ (.var 0) (.con .non)) (.cons (.cmp .is_ (.var 1) (.con .non)) .nil))) (.cons (.ret (.bop true (.cons (.cmp .is_ (.var 0) (.con .non)) (.cons (.cmp .is_ (.var 1) (.con .non)) .nil)))) .nil) .nil) (.cons (.ite (.bop false (.cons (.isi (.var 0) [.bool]) (.cons (.isi (.var 1) [.bool]) .nil))) (.cons (.ret (.bop true (.cons (.isi (.var 0) [.bool]) (.cons (.isi (.var 1) [.bool]) (.cons (.cmp .eq (.var 0) (.var 1)) .nil))))) .nil) .nil) (.cons (.ite (.isi (.var 0) [.int]) (.cons (.ret (.bop true (.cons (.isi (.var 1) [.int]) (.cons (.cmp .eq (.var 0) (.var 1)) .nil)))) .nil) .nil) (.cons (.ite (.isi (.var 0) [.str]) (.cons (.ret (.bop true (.cons (.isi (.var 1) [.str]) (.cons (.cmp .eq (.var 0) (.var 1)) .nil)))) .nil) .nil) (.cons (.ite (.bop false (.cons (.cmp .ne (.isi (.var 0) [.lst]) (.isi (.var 1) [.lst])) (.cons (.cmp .ne (.isi (.var 0) [.tup]) (.isi (.var 1) [.tup])) .nil))) (.cons (.ret (.con (.bl false))) .nil) .nil) (.cons (.ite (.bop true (.cons (.not (.isi (.var 0) [.lst])) (.cons (.not (.isi (.var 0) [.tup])) .nil))) (.cons (.ret (.con (.bl false))) .nil) .nil) (.cons (.ite (.cmp .ne (.blt false .len (.cons (.var 0) .nil)) (.blt false .len (.cons (.var 1) .nil))) (.cons (.ret (.con (.bl false))) .nil) .nil) (.cons (.for_ (.nm 2) (.rng1 (.blt false .len (.cons (.var 0) .nil))) (.cons (.ite (.not (.val (.call 10 (.cons (.idx (.var 0) (.var 2)) (.cons (.idx (.var 1) (.var 2)) .nil)) []))) (.cons (.ret (.con (.bl false))) .nil) .nil) .nil)) (.cons (.ret (.con (.bl true))) .nil)))))))))
/-- _law_same -/
def f_lsame : FnAll := ⟨⟨("_law_same", none), "_law_same", "_law_same", defArgs (top 28), defBody (top 28), defScope (top 28), [], []⟩, ["_law_left", "_law_right", "_law_k"], ["_law_left", "_law_right"], ⟨2, 3, b_lsame⟩, 0, [], 0, []⟩
abbrev j_lare_ints : Nat := 11
def b_lare_ints : Ss := (.cons (.ite (.bop false (.cons (.bop true (.cons (.not (.isi (.var 0) [.lst])) (.cons (.val (.var 1)) .nil))) (.cons (.bop true (.cons (.not (.isi (.var 0) [.tup])) (.cons (.not (.val (.var 1))) .nil))) .nil))) (.cons (.ret (.con (.bl false))) .nil) .nil) (.cons (.for_ (.nm 2) (.seq (.var 0)) (.cons (.ite (.not (.val (.call 9 (.cons (.var 2) .nil) []))) (.cons (.ret (.con (.bl false))) .nil) .nil) .nil)) (.cons (.ret (.con (.bl true))) .nil)))
/-- _law_are_ints -/
def f_lare_ints : FnAll := ⟨⟨("_law_are_ints", none), "_law_are_ints", "_law_are_ints", defArgs (top 29), defBody (top 29), defScope (top 29), [], []⟩, ["_law_value", "_law_list_wanted", "_law_item"], ["_law_value", "_law_list_wanted"], ⟨2, 3, b_lare_ints⟩, 0, [], 0, []⟩
abbrev j_lgcd : Nat := 12
def b_lgcd : Ss := (.cons (.whl (.cmp .gt (.var 1) (.con (.int 0))) (.cons (.set 2 (.bin .mod (.blt false .int (.cons (.var 0) .nil)) (.var 1))) (.cons (.set 0 (.var 1)) (.cons (.set 1 (.var 2)) .nil)))) (.cons (.ret (.var 0)) .nil))
/-- _law_gcd -/
def f_lgcd : FnAll := ⟨⟨("_law_gcd", none), "_law_gcd", "_law_gcd", defArgs (top 32), defBody (top 32), defScope (top 32), [], []⟩, ["_law_left", "_law_right", "_law_kept"], ["_law_left", "_law_right"], ⟨2, 3, b_lgcd⟩, 0, [], 0, []⟩
abbrev j_llowest : Nat := 13
def b_llowest : Ss := (.cons (.ite (.cmp .eq (.var 1) (.con (.int 0))) (.cons (.ret (.tup (.cons (.con (.int 0)) (.cons (.con (.int 1)) .nil)))) .nil) .nil) (.cons (.set 2 (.call 12 (.cons (.blt false .abs (.cons (.var 0) .nil)) (.cons (.blt false .abs (.cons (.var 1) .nil)) .nil)) [])) (.cons (.ite (.cmp .lt (.var 1) (.con (.int 0))) (.cons (.set 2 (.bin .sub (.con (.int 0)) (.var 2))) .nil) .nil) (.cons (.ret (.tup (.cons (.bin .fdiv (.var 0) (.var 2)) (.cons (.bin .fdiv (.var 1) (.var 2)) .nil)))) .nil))))
/-- _law_lowest -/
def f_llowest : FnAll := ⟨⟨("_law_lowest", none), "_law_lowest", "_law_lowest", defArgs (top 33), defBody (top 33), defScope (top 33), [], []⟩, ["_law_top", "_law_bottom", "_law_whole"], ["_law_top", "_law_bottom"], ⟨2, 3, b_llowest⟩, 0, [], 0, []⟩
abbrev j_lfraction : Nat := 14
def b_lfraction : Ss := (.cons (.set 1 (.call 6 (.cons (.var 0) (.cons (.lst false (.cons (.con (.int 12)) (.cons (.con (.int 12)) (.cons (.con (.int 1000)) (.cons (.bin .pow (.con (.int 10)) (.con (.int 30))) .nil))))) .nil)) [])) (.cons (.set 2 (.call 8 (.cons (.var 0) (.cons (.var 1) .nil)) [])) (.cons (.set 3 (.bin .add (.con (.int 1)) (.call 7 (.cons (.var 0) (.cons (.con (.int 0)) (.cons (.bin .sub (.var 1) (.con (.int 1))) .nil))) []))) (.cons (.ite (.cmp .eq (.call 4 (.cons (.var 0) (.cons (.con (.int 2)) .nil)) []) (.con (.int 1))) (.cons (.set 3 (.bin .sub (.con (.int 0)) (.var 3))) .nil) .nil) (.cons (.ite (.cmp .le (.var 1) (.con (.int 1000))) (.cons (.set 4 (.bin .add (.con (.int 1)) (.call 4 (.cons (.var 0) (.cons (.con (.int 6)) .nil)) []))) (.cons (.ret (.tup (.cons (.bin .mul (.var 2) (.var 4)) (.cons (.bin .mul (.var 3) (.var 4)) .nil)))) .nil)) .nil) (.cons (.ret (.tup (.cons (.var 2) (.cons (.var 3) .nil)))) .nil))))))
/-- _law_fraction -/
def f_lfraction : FnAll := ⟨⟨("_law_fraction", none), "_law_fraction", "_law_fraction", defArgs (top 34), defBody (top 34), defScope (top 34), [], []⟩, ["_law_store_here", "_law_high", "_law_top", "_law_bottom", "_law_factor"], ["_law_store_here"], ⟨1, 5, b_lfraction⟩, 0, [], 0, []⟩
abbrev j_lratio : Nat := 15
def b_lratio : Ss := (.cons (.set 1 (.call 14 (.cons (.var 0) .nil) [])) (.cons (.set 2 (.bin .fdiv (.bin .pow (.con (.int 10)) (.con (.int 30))) (.blt false .max2 (.cons (.blt false .abs (.cons (.idx (.var 1) (.con (.int 0))) .nil)) (.cons (.blt false .abs (.cons (.idx (.var 1) (.con (.int 1))) .nil)) .nil))))) (.cons (.set 3 (.bin .add (.con (.int 1)) (.call 7 (.cons (.var 0) (.cons (.con (.int 0)) (.cons (.bin .sub (.var 2) (.con (.int 1))) .nil))) []))) (.cons (.ret (.tup (.cons (.bin .mul (.idx (.var 1) (.con (.int 0))) (.var 3)) (.cons (.bin .mul (.idx (.var 1) (.con (.int 1))) (.var 3)) .nil)))) .nil))))
/-- _law_ratio -/
def f_lratio : FnAll := ⟨⟨("_law_ratio", none), "_law_ratio", "_law_ratio", defArgs (top 35), defBody (top 35), defScope (top 35), [], []⟩, ["_law_store_here", "_law_pair", "_law_room", "_law_factor"], ["_law_store_here"], ⟨1, 4, b_lratio⟩, 0, [], 0, []⟩
abbrev j_lhalf : Nat := 16
def b_lhalf : Ss := (.cons (.set 1 (.call 4 (.cons (.var 0) (.cons (.con (.int 6)) .nil)) [])) (.cons (.ite (.cmp .lt (.var 1) (.con (.int 2))) (.cons (.ret (.call 15 (.cons (.var 0) .nil) [])) .nil) .nil) (.cons (.set 2 (.call 8 (.cons (.var 0) (.cons (.call 6 (.cons (.var 0) (.cons (.lst false (.cons (.con (.int 5)) (.cons (.con (.int 100)) (.cons (.bin .pow (.con (.int 10)) (.con (.int 14))) .nil)))) .nil)) []) .nil)) [])) (.cons (.set 3 (.bin .add (.con (.int 1)) (.call 7 (.cons (.var 0) (.cons (.con (.int 0)) (.cons (.call 6 (.cons (.var 0) (.cons (.lst false (.cons (.con (.int 5)) (.cons (.con (.int 100)) (.cons (.bin .pow (.con (.int 10)) (.con (.int 14))) .nil)))) .nil)) []) .nil))) []))) (.cons (.set 4 (.bin .mul (.bin .add (.bin .mul (.con (.int 2)) (.var 2)) (.con (.int 1))) (.var 3))) (.cons (.ite (.cmp .eq (.var 1) (.con (.int 2))) (.cons (.set 4 (.bin .mul (.bin .mul (.con (.int 2)) (.var 2)) (.var 3))) .nil) .nil) (.cons (.ite (.cmp .eq (.var 1) (.con (.int 3))) (.cons (.set 4 (.bin .sub (.bin .add (.var 4) (.con (.int 1))) (.bin .mul (.con (.int 2)) (.call 4 (.cons (.var 0) (.cons (.con (.int 2)) .nil)) [])))) .nil) .nil) (.cons (.ite (.cmp .eq (.call 4 (.cons (.var 0) (.cons (.con (.int 2)) .nil)) []) (.con (.int 1))) (.cons (.ret (.tup (.cons (.bin .sub (.con (.int 0)) (.var 4)) (.cons (.bin .sub (.con (.int 0)) (.bin .mul (.con (.int 2)) (.var 3))) .nil)))) .nil) .nil) (.cons (.ret (.tup (.cons (.var 4) (.cons (.bin .mul (.con (.int 2)) (.var 3)) .nil)))) .nil)))))))))
/-- _law_half -/
def f_lhalf : FnAll := ⟨⟨("_law_half", none), "_law_half", "_law_half", defArgs (top 36), defBody (top 36), defScope (top 36), [], []⟩, ["_law_store_here", "_law_way", "_law_whole", "_law_part", "_law_top"], ["_law_store_here"], ⟨1, 5, b_lhalf⟩, 0, [], 0, []⟩
abbrev j_lanswers : Nat := 17
def b_lanswers : Ss := (.cons (.ret (.lst false (.cons (.meth "rounded" (.var 0) (.cons (.con (.str "down")) .nil) []) (.cons (.meth "rounded" (.var 0) (.cons (.con (.str "up")) .nil) []) (.cons (.meth "rounded" (.var 0) (.cons (.con (.str "near")) .nil) []) (.cons (.meth "rounded" (.var 0) .nil [(.str "down")]) .nil)))))) .nil)
/-- _law_answers -/
def f_lanswers : FnAll := ⟨⟨("_law_answers", none), "_law_answers", "_law_answers", defArgs (top 37), defBody (top 37), defScope (top 37), [], []⟩, ["_law_exact"], ["_law_exact"], ⟨1, 1, b_lanswers⟩, 0, [], 0, []⟩
abbrev j_lrounds : Nat := 18
def b_lrounds : Ss := (.cons (.ite (.cmp .lt (.var 2) (.con (.int 0))) (.cons (.ret (.call 18 (.cons (.var 0) (.cons (.bin .sub (.con (.int 0)) (.var 1)) (.cons (.bin .sub (.con (.int 0)) (.var 2)) .nil))) [])) .nil) .nil) (.cons (.set 3 (.call 17 (.cons (.var 0) .nil) [])) (.cons (.ite (.bop false (.cons (.not (.val (.call 11 (.cons (.var 3) (.cons (.con (.bl true)) .nil)) []))) (.cons (.cmp .ne (.idx (.var 3) (.con (.int 3))) (.idx (.var 3) (.con (.int 0)))) .nil))) (.cons (.ret (.con (.bl false))) .nil) .nil) (.cons (.ite (.bop false (.cons (.cmp .gt (.bin .mul (.idx (.var 3) (.con (.int 0))) (.var 2)) (.var 1)) (.cons (.cmp .le (.bin .mul (.bin .add (.idx (.var 3) (.con (.int 0))) (.con (.int 1))) (.var 2)) (.var 1)) .nil))) (.cons (.ret (.con (.bl false))) .nil) .nil) (.cons (.ite (.bop false (.cons (.cmp .lt (.bin .mul (.idx (.var 3) (.con (.int 1))) (.var 2)) (.var 1)) (.cons (.cmp .ge (.bin .mul (.bin .sub (.idx (.var 3) (.con (.int 1))) (.con (.int 1))) (.var 2)) (.var 1)) .nil))) (.cons (.ret (.con (.bl false))) .nil) .nil) (.cons (.ret (.bop true (.cons (.cmp .le (.bin .mul (.bin .sub (.bin .mul (.con (.int 2)) (.idx (.var 3) (.con (.int 2)))) (.con (.int 1))) (.var 2)) (.bin .mul (.con (.int 2)) (.var 1))) (.cons (.cmp .lt (.bin .mul (.con (.int 2)) (.var 1)) (.bin .mul (.bin .add (.bin .mul (.con (.int 2)) (.idx (.var 3) (.con (.int 2)))) (.con (.int 1))) (.var 2))) .nil)))) .nil))))))
/-- _law_rounds -/
def f_lrounds : FnAll := ⟨⟨("_law_rounds", none), "_law_rounds", "_law_rounds", defArgs (top 38), defBody (top 38), defScope (top 38), [], []⟩, ["_law_exact", "_law_top", "_law_bottom", "_law_told_here"], ["_law_exact", "_law_top", "_law_bottom"], ⟨3, 4, b_lrounds⟩, 0, [], 0, []⟩
abbrev j_lrule_refused : Nat := 19
def b_lrule_refused : Ss := (.cons (.ret (.call 10 (.cons (.told 0 (.meth "rounded" (.var 0) (.cons (.var 1) .nil) [])) (.cons (.tup (.cons (.con (.str "refused")) (.cons (.con (.str "BadForm")) (.cons (.tup (.cons (.con (.str "rule")) .nil)) .nil)))) .nil)) [])) .nil)
/-- _law_rule_refused -/
def f_lrule_refused : FnAll := ⟨⟨("_law_rule_refused", none), "_law_rule_refused", "_law_rule_refused", defArgs (top 39), defBody (top 39), defScope (top 39), [], []⟩, ["_law_exact", "_law_bad"], ["_law_exact", "_law_bad"], ⟨2, 2, b_lrule_refused⟩, 0, [], 0, []⟩
abbrev j_law : Nat := 20
def b_law : Ss := (.cons (.set 1 (.call 3 (.cons (.var 0) .nil) [])) (.cons (.set 2 (.call 16 (.cons (.var 1) .nil) [])) (.cons (.set 3 (.call 16 (.cons (.var 1) .nil) [])) (.cons (.set 4 (.frz (.mk 0 (.cons (.idx (.var 2) (.con (.int 0))) (.cons (.idx (.var 2) (.con (.int 1))) .nil)) []))) (.cons (.set 5 (.frz (.mk 0 (.cons (.idx (.var 3) (.con (.int 0))) (.cons (.idx (.var 3) (.con (.int 1))) .nil)) []))) (.cons (.ite (.bop false (.cons (.not (.val (.call 18 (.cons (.var 4) (.cons (.idx (.var 2) (.con (.int 0))) (.cons (.idx (.var 2) (.con (.int 1))) .nil))) []))) (.cons (.not (.val (.call 18 (.cons (.var 5) (.cons (.idx (.var 3) (.con (.int 0))) (.cons (.idx (.var 3) (.con (.int 1))) .nil))) []))) .nil))) (.cons (.ret (.con (.bl false))) .nil) .nil) (.cons (.ite (.not (.val (.call 18 (.cons (.bin .mul (.var 4) (.var 5)) (.cons (.bin .mul (.idx (.var 2) (.con (.int 0))) (.idx (.var 3) (.con (.int 0)))) (.cons (.bin .mul (.idx (.var 2) (.con (.int 1))) (.idx (.var 3) (.con (.int 1)))) .nil))) []))) (.cons (.ret (.con (.bl false))) .nil) .nil) (.cons (.set 6 (.frz (.mk 0 (.cons (.bin .pow (.con (.int 10)) (.con (.int 30))) (.cons (.con (.int 3)) .nil)) []))) (.cons (.set 7 (.bin .mul (.var 6) (.var 6))) (.cons (.set 8 (.bin .mul (.bin .pow (.con (.int 10)) (.con (.int 60))) (.bin .pow (.con (.int 10)) (.con (.int 60))))) (.cons (.ite (.bop false (.cons (.not (.val (.call 18 (.cons (.bin .mul (.var 7) (.var 7)) (.cons (.var 8) (.cons (.con (.int 81)) .nil))) []))) (.cons (.not (.val (.call 18 (.cons (.neg (.bin .mul (.var 7) (.var 7))) (.cons (.bin .sub (.con (.int 0)) (.var 8)) (.cons (.con (.int 81)) .nil))) []))) .nil))) (.cons (.ret (.con (.bl false))) .nil) .nil) (.cons (.set 9 (.lst false (.cons (.con (.str "largest")) (.cons (.con (.str "first")) (.cons (.con (.str "last")) (.cons (.con (.str "nearest")) (.cons (.con (.str "floor")) (.cons (.con (.str "d")) (.cons (.con (.str "down ")) (.cons (.con (.str "uP")) .nil)))))))))) (.cons (.for_ (.nm 10) (.seq (.bin .add (.var 9) (.lst false (.cons (.con (.str "")) (.cons (.con (.str "Down")) (.cons (.con (.str "half")) (.cons (.con (.str "downs")) (.cons (.con (.str " up")) (.cons (.con (.str "NEAR")) (.cons (.con .non) (.cons (.con (.bl true)) (.cons (.con (.int 0)) (.cons (.tup (.cons (.con (.str "near")) .nil)) (.cons (.lst false (.cons (.con (.str "up")) .nil)) .nil)))))))))))))) (.cons (.ite (.bop false (.cons (.not (.val (.call 19 (.cons (.var 4) (.cons (.var 10) .nil)) []))) (.cons (.not (.val (.call 19 (.cons (.frz (.mk 0 (.cons (.idx (.var 3) (.con (.int 0))) .nil) [(.int 1)])) (.cons (.var 10) .nil)) []))) .nil))) (.cons (.ret (.con (.bl false))) .nil) .nil) .nil)) (.cons (.ite (.bop false (.cons (.not (.val (.call 18 (.cons (.var 4) (.cons (.idx (.var 2) (.con (.int 0))) (.cons (.idx (.var 2) (.con (.int 1))) .nil))) []))) (.cons (.not (.val (.call 18 (.cons (.var 5) (.cons (.idx (.var 3) (.con (.int 0))) (.cons (.idx (.var 3) (.con (.int 1))) .nil))) []))) .nil))) (.cons (.ret (.con (.bl false))) .nil) .nil) (.cons (.ret (.call 10 (.cons (.tup (.cons (.fld (.var 4) "top") (.cons (.fld (.var 4) "bottom") .nil))) (.cons (.call 13 (.cons (.idx (.var 2) (.con (.int 0))) (.cons (.idx (.var 2) (.con (.int 1))) .nil)) []) .nil)) [])) .nil)))))))))))))))
/-- law -/
def f_law : FnAll := ⟨⟨("law", none), "law", "law", defArgs (top 40), defBody (top 40), defScope (top 40), [], []⟩, ["_law_script", "_law_store_here", "_law_a", "_law_b", "_law_one", "_law_two", "_law_part", "_law_square", "_law_great", "_law_words", "_law_bad"], ["_law_script"], ⟨1, 11, b_law⟩, 0, [], 0, []⟩
abbrev j_Exact_init : Nat := 21
def b_Exact_init : Ss := (.cons (.ite (.not (.val (.call 1 (.cons (.var 1) .nil) []))) (.cons (.rais 0 (.cons (.con (.str "top")) .nil)) .nil) .nil) (.cons (.ite (.bop false (.cons (.not (.val (.call 1 (.cons (.var 2) .nil) []))) (.cons (.cmp .eq (.var 2) (.con (.int 0))) .nil))) (.cons (.rais 0 (.cons (.con (.str "bottom")) .nil)) .nil) .nil) (.cons (.set 3 (.call 2 (.cons (.var 1) (.cons (.var 2) .nil)) [])) (.cons (.ite (.cmp .lt (.var 2) (.con (.int 0))) (.cons (.set 3 (.neg (.var 3))) .nil) .nil) (.cons (.setF (.var 0) "top" (.bin .fdiv (.var 1) (.var 3))) (.cons (.setF (.var 0) "bottom" (.bin .fdiv (.var 2) (.var 3))) .nil))))))
/-- Exact.__init__ -/
def f_Exact_init : FnAll := ⟨⟨("Exact", some "__init__"), "__init__", "Exact.__init__", defArgs (cst 19 0), defBody (cst 19 0), defScope (cst 19 0), [(.int 1)], []⟩, ["self", "top", "bottom", "shared"], ["self", "top", "bottom"], ⟨3, 4, b_Exact_init⟩, 1, [(.int 1)], 0, []⟩
abbrev j_Exact_add : Nat := 22
def b_Exact_add : Ss := (.cons (.ite (.not (.isi (.var 1) [.cls 0])) (.cons .never .nil) .nil) (.cons (.ret (.frz (.mk 0 (.cons (.bin .add (.bin .mul (.fld (.var 0) "top") (.fld (.var 1) "bottom")) (.bin .mul (.fld (.var 1) "top") (.fld (.var 0) "bottom"))) (.cons (.bin .mul (.fld (.var 0) "bottom") (.fld (.var 1) "bottom")) .nil)) []))) .nil))
/-- Exact.__add__ -/
def f_Exact_add : FnAll := ⟨⟨("Exact", some "__add__"), "__add__", "Exact.__add__", defArgs (cst 19 1), defBody (cst 19 1), defScope (cst 19 1), [], []⟩, ["self", "other"], ["self", "other"], ⟨2, 2, b_Exact_add⟩, 1, [], 0, []⟩
abbrev j_Exact_sub : Nat := 23
def b_Exact_sub : Ss := (.cons (.ite (.not (.isi (.var 1) [.cls 0])) (.cons .never .nil) .nil) (.cons (.ret (.frz (.mk 0 (.cons (.bin .sub (.bin .mul (.fld (.var 0) "top") (.fld (.var 1) "bottom")) (.bin .mul (.fld (.var 1) "top") (.fld (.var 0) "bottom"))) (.cons (.bin .mul (.fld (.var 0) "bottom") (.fld (.var 1) "bottom")) .nil)) []))) .nil))
/-- Exact.__sub__ -/
def f_Exact_sub : FnAll := ⟨⟨("Exact", some "__sub__"), "__sub__", "Exact.__sub__", defArgs (cst 19 2), defBody (cst 19 2), defScope (cst 19 2), [], []⟩, ["self", "other"], ["self", "other"], ⟨2, 2, b_Exact_sub⟩, 1, [], 0, []⟩
abbrev j_Exact_mul : Nat := 24
def b_Exact_mul : Ss := (.cons (.ite (.not (.isi (.var 1) [.cls 0])) (.cons .never .nil) .nil) (.cons (.ret (.frz (.mk 0 (.cons (.bin .mul (.fld (.var 0) "top") (.fld (.var 1) "top")) (.cons (.bin .mul (.fld (.var 0) "bottom") (.fld (.var 1) "bottom")) .nil)) []))) .nil))
/-- Exact.__mul__ -/
def f_Exact_mul : FnAll := ⟨⟨("Exact", some "__mul__"), "__mul__", "Exact.__mul__", defArgs (cst 19 3), defBody (cst 19 3), defScope (cst 19 3), [], []⟩, ["self", "other"], ["self", "other"], ⟨2, 2, b_Exact_mul⟩, 1, [], 0, []⟩
abbrev j_Exact_neg : Nat := 25
def b_Exact_neg : Ss := (.cons (.ret (.frz (.mk 0 (.cons (.neg (.fld (.var 0) "top")) (.cons (.fld (.var 0) "bottom") .nil)) []))) .nil)
/-- Exact.__neg__ -/
def f_Exact_neg : FnAll := ⟨⟨("Exact", some "__neg__"), "__neg__", "Exact.__neg__", defArgs (cst 19 4), defBody (cst 19 4), defScope (cst 19 4), [], []⟩, ["self"], ["self"], ⟨1, 1, b_Exact_neg⟩, 1, [], 0, []⟩
abbrev j_Exact_abs : Nat := 26
def b_Exact_abs : Ss := (.cons (.ret (.frz (.mk 0 (.cons (.blt false .abs (.cons (.fld (.var 0) "top") .nil)) (.cons (.fld (.var 0) "bottom") .nil)) []))) .nil)
/-- Exact.__abs__ -/
def f_Exact_abs : FnAll := ⟨⟨("Exact", some "__abs__"), "__abs__", "Exact.__abs__", defArgs (cst 19 5), defBody (cst 19 5), defScope (cst 19 5), [], []⟩, ["self"], ["self"], ⟨1, 1, b_Exact_abs⟩, 1, [], 0, []⟩
abbrev j_Exact_eq : Nat := 27
def b_Exact_eq : Ss := (.cons (.ret (.bop true (.cons (.isi (.var 1) [.cls 0]) (.cons (.cmp .eq (.fld (.var 0) "top") (.fld (.var 1) "top")) (.cons (.cmp .eq (.fld (.var 0) "bottom") (.fld (.var 1) "bottom")) .nil))))) .nil)
/-- Exact.__eq__ -/
def f_Exact_eq : FnAll := ⟨⟨("Exact", some "__eq__"), "__eq__", "Exact.__eq__", defArgs (cst 19 6), defBody (cst 19 6), defScope (cst 19 6), [], []⟩, ["self", "other"], ["self", "other"], ⟨2, 2, b_Exact_eq⟩, 1, [], 0, []⟩
abbrev j_Exact_bool : Nat := 28
def b_Exact_bool : Ss := (.cons (.ret (.blt false .bool (.cons (.cmp .ne (.fld (.var 0) "top") (.con (.int 0))) .nil))) .nil)
/-- Exact.__bool__ -/
def f_Exact_bool : FnAll := ⟨⟨("Exact", some "__bool__"), "__bool__", "Exact.__bool__", defArgs (cst 19 7), defBody (cst 19 7), defScope (cst 19 7), [], []⟩, ["self"], ["self"], ⟨1, 1, b_Exact_bool⟩, 1, [], 0, []⟩
abbrev j_Exact_rounded : Nat := 29
def b_Exact_rounded : Ss := (.cons (.ite (.cmp .notin (.var 1) (.glo 0)) (.cons (.rais 0 (.cons (.con (.str "rule")) .nil)) .nil) .nil) (.cons (.ite (.cmp .eq (.var 1) (.con (.str "down"))) (.cons (.ret (.bin .fdiv (.fld (.var 0) "top") (.fld (.var 0) "bottom"))) .nil) .nil) (.cons (.ite (.cmp .eq (.var 1) (.con (.str "up"))) (.cons (.ret (.neg (.bin .fdiv (.neg (.fld (.var 0) "top")) (.fld (.var 0) "bottom")))) .nil) .nil) (.cons (.ret (.bin .fdiv (.bin .add (.bin .mul (.con (.int 2)) (.fld (.var 0) "top")) (.fld (.var 0) "bottom")) (.bin .mul (.con (.int 2)) (.fld (.var 0) "bottom")))) .nil))))
/-- Exact.rounded -/
def f_Exact_rounded : FnAll := ⟨⟨("Exact", some "rounded"), "rounded", "Exact.rounded", defArgs (cst 19 9), defBody (cst 19 9), defScope (cst 19 9), [(.str "down")], []⟩, ["self", "rule"], ["self", "rule"], ⟨2, 2, b_Exact_rounded⟩, 1, [(.str "down")], 0, []⟩
def x_BadForm : XcI := ⟨"BadForm", ["where"], "self", ⟨("BadForm", some "__init__"), "__init__", "BadForm.__init__", defArgs (cst 3 0), defBody (cst 3 0), defScope (cst 3 0), [], []⟩⟩
def x_BadLine : XcI := ⟨"BadLine", ["line"], "self", ⟨("BadLine", some "__init__"), "__init__", "BadLine.__init__", defArgs (cst 4 0), defBody (cst 4 0), defScope (cst 4 0), [], []⟩⟩
def x_Repeated : XcI := ⟨"Repeated", ["kind", "name"], "self", ⟨("Repeated", some "__init__"), "__init__", "Repeated.__init__", defArgs (cst 5 0), defBody (cst 5 0), defScope (cst 5 0), [], []⟩⟩
def x_UnknownName : XcI := ⟨"UnknownName", ["kind", "name"], "self", ⟨("UnknownName", some "__init__"), "__init__", "UnknownName.__init__", defArgs (cst 6 0), defBody (cst 6 0), defScope (cst 6 0), [], []⟩⟩
def x_TooMany : XcI := ⟨"TooMany", ["found", "most"], "self", ⟨("TooMany", some "__init__"), "__init__", "TooMany.__init__", defArgs (cst 7 0), defBody (cst 7 0), defScope (cst 7 0), [], []⟩⟩
def x_Late : XcI := ⟨"Late", ["moment", "last"], "self", ⟨("Late", some "__init__"), "__init__", "Late.__init__", defArgs (cst 8 0), defBody (cst 8 0), defScope (cst 8 0), [], []⟩⟩
def x_NotReady : XcI := ⟨"NotReady", ["name", "state"], "self", ⟨("NotReady", some "__init__"), "__init__", "NotReady.__init__", defArgs (cst 9 0), defBody (cst 9 0), defScope (cst 9 0), [], []⟩⟩
def x_Unfit : XcI := ⟨"Unfit", ["at"], "self", ⟨("Unfit", some "__init__"), "__init__", "Unfit.__init__", defArgs (cst 10 0), defBody (cst 10 0), defScope (cst 10 0), [], []⟩⟩
def x_Impossible : XcI := ⟨"Impossible", ["at", "why"], "self", ⟨("Impossible", some "__init__"), "__init__", "Impossible.__init__", defArgs (cst 11 0), defBody (cst 11 0), defScope (cst 11 0), [], []⟩⟩
def x_Short : XcI := ⟨"Short", ["needed", "held"], "self", ⟨("Short", some "__init__"), "__init__", "Short.__init__", defArgs (cst 12 0), defBody (cst 12 0), defScope (cst 12 0), [], []⟩⟩
def x_Unbalanced : XcI := ⟨"Unbalanced", ["rest"], "self", ⟨("Unbalanced", some "__init__"), "__init__", "Unbalanced.__init__", defArgs (cst 13 0), defBody (cst 13 0), defScope (cst 13 0), [], []⟩⟩
def x_WrongEntry : XcI := ⟨"WrongEntry", ["at"], "self", ⟨("WrongEntry", some "__init__"), "__init__", "WrongEntry.__init__", defArgs (cst 14 0), defBody (cst 14 0), defScope (cst 14 0), [], []⟩⟩
def tell_0 : TellI := ⟨⟨"_law_told", "_law_call", "e", "TollError", "_law_alone", [(0, ("BadForm", ["where"])), (1, ("BadLine", ["line"])), (2, ("Repeated", ["kind", "name"])), (3, ("UnknownName", ["kind", "name"])), (4, ("TooMany", ["found", "most"])), (5, ("Late", ["moment", "last"])), (6, ("NotReady", ["name", "state"])), (7, ("Unfit", ["at"])), (8, ("Impossible", ["at", "why"])), (9, ("Short", ["needed", "held"])), (10, ("Unbalanced", ["rest"]))], ("WrongEntry", ["at"])⟩, ⟨("_law_told", none), "_law_told", "_law_told", defArgs (top 31), defBody (top 31), defScope (top 31), [], []⟩, ["_law_call", "e"], 1, ⟨("_law_alone", none), "_law_alone", "_law_alone", defArgs (top 30), defBody (top 30), defScope (top 30), [], []⟩, "_law_error", "_law_found", [0, 1, 2], [3, 4, 5], [6, 7, 8], [9, 10, 11]⟩
def L : LawT := ⟨([f_wall, f_whole, f_common_measure, f_lstore, f_ltake, f_lbetween, f_lpick, f_ledge, f_lsigned, f_lis_int, f_lsame, f_lare_ints, f_lgcd, f_llowest, f_lfraction, f_lratio, f_lhalf, f_lanswers, f_lrounds, f_lrule_refused, f_law, f_Exact_init, f_Exact_add, f_Exact_sub, f_Exact_mul, f_Exact_neg, f_Exact_abs, f_Exact_eq, f_Exact_bool, f_Exact_rounded] : List FnAll), ([("ROUND_RULES", (.tup [(.str "down"), (.str "up"), (.str "near")]))] : List (Str × D)), [⟨"Exact", [("__init__", 21), ("__add__", 22), ("__sub__", 23), ("__mul__", 24), ("__neg__", 25), ("__abs__", 26), ("__eq__", 27), ("__bool__", 28), ("rounded", 29)], [], ["top", "bottom"]⟩], [x_BadForm, x_BadLine, x_Repeated, x_UnknownName, x_TooMany, x_Late, x_NotReady, x_Unfit, x_Impossible, x_Short, x_Unbalanced, x_WrongEntry], [tell_0], PySem.Challenge.pw_tollbooks_k02_rounded_by_rule.main.file⟩
theorem L_ok : L.ok = true := by kernel_rfl
abbrev WW : Nat := 1000
abbrev C (n : Nat) : CallF := callD L.tab WW n
abbrev c_Exact : Nat := 0
theorem t_wall : L.tab.fns[j_wall]? = some ⟨1, 1, b_wall⟩ := rfl
theorem t_whole : L.tab.fns[j_whole]? = some ⟨1, 1, b_whole⟩ := rfl
theorem t_common_measure : L.tab.fns[j_common_measure]? = some ⟨2, 4, b_common_measure⟩ := rfl
theorem t_lstore : L.tab.fns[j_lstore]? = some ⟨1, 2, b_lstore⟩ := rfl
theorem t_ltake : L.tab.fns[j_ltake]? = some ⟨2, 5, b_ltake⟩ := rfl
theorem t_lbetween : L.tab.fns[j_lbetween]? = some ⟨3, 3, b_lbetween⟩ := rfl
theorem t_lpick : L.tab.fns[j_lpick]? = some ⟨2, 2, b_lpick⟩ := rfl
theorem t_ledge : L.tab.fns[j_ledge]? = some ⟨3, 4, b_ledge⟩ := rfl
theorem t_lsigned : L.tab.fns[j_lsigned]? = some ⟨2, 3, b_lsigned⟩ := rfl
theorem t_lis_int : L.tab.fns[j_lis_int]? = some ⟨1, 1, b_lis_int⟩ := rfl
theorem t_lsame : L.tab.fns[j_lsame]? = some ⟨2, 3, b_lsame⟩ := rfl
theorem t_lare_ints : L.tab.fns[j_lare_ints]? = some ⟨2, 3, b_lare_ints⟩ := rfl
theorem t_lgcd : L.tab.fns[j_lgcd]? = some ⟨2, 3, b_lgcd⟩ := rfl
theorem t_llowest : L.tab.fns[j_llowest]? = some ⟨2, 3, b_llowest⟩ := rfl
theorem t_lfraction : L.tab.fns[j_lfraction]? = some ⟨1, 5, b_lfraction⟩ := rfl
theorem t_lratio : L.tab.fns[j_lratio]? = some ⟨1, 4, b_lratio⟩ := rfl
theorem t_lhalf : L.tab.fns[j_lhalf]? = some ⟨1, 5, b_lhalf⟩ := rfl
theorem t_lanswers : L.tab.fns[j_lanswers]? = some ⟨1, 1, b_lanswers⟩ := rfl
theorem t_lrounds : L.tab.fns[j_lrounds]? = some ⟨3, 4, b_lrounds⟩ := rfl
theorem t_lrule_refused : L.tab.fns[j_lrule_refused]? = some ⟨2, 2, b_lrule_refused⟩ := rfl
theorem t_law : L.tab.fns[j_law]? = some ⟨1, 11, b_law⟩ := rfl
theorem t_Exact_init : L.tab.fns[j_Exact_init]? = some ⟨3, 4, b_Exact_init⟩ := rfl
theorem t_Exact_add : L.tab.fns[j_Exact_add]? = some ⟨2, 2, b_Exact_add⟩ := rfl
theorem t_Exact_sub : L.tab.fns[j_Exact_sub]? = some ⟨2, 2, b_Exact_sub⟩ := rfl
theorem t_Exact_mul : L.tab.fns[j_Exact_mul]? = some ⟨2, 2, b_Exact_mul⟩ := rfl
theorem t_Exact_neg : L.tab.fns[j_Exact_neg]? = some ⟨1, 1, b_Exact_neg⟩ := rfl
theorem t_Exact_abs : L.tab.fns[j_Exact_abs]? = some ⟨1, 1, b_Exact_abs⟩ := rfl
theorem t_Exact_eq : L.tab.fns[j_Exact_eq]? = some ⟨2, 2, b_Exact_eq⟩ := rfl
theorem t_Exact_bool : L.tab.fns[j_Exact_bool]? = some ⟨1, 1, b_Exact_bool⟩ := rfl
theorem t_Exact_rounded : L.tab.fns[j_Exact_rounded]? = some ⟨2, 2, b_Exact_rounded⟩ := rfl
abbrev R : PySem.W.OpenRow := PySem.W.OpenLaw.row PySem.Challenge.rw_tollbooks_k02_rounded_by_rule
abbrev hk : PySem.W.Hook := hookZ 7 L
def ob (s : PySem.W.SharedT) : AlZ := obsZ 7 L (HandSHeadRun.getT s)
theorem ob_eq (s : PySem.W.SharedT) : ob s = hk.obs s.abs := obsZ_eq (HandSHeadRun.getT_eq s)
def loose : List Str := (["_wall", "TollError", "BadForm", "BadLine", "Repeated", "UnknownName", "TooMany", "Late", "NotReady", "Unfit", "Impossible", "Short", "Unbalanced", "WrongEntry", "ROUND_RULES", "whole", "common_measure", "Exact", "_law_store", "_law_take", "_law_between", "_law_pick", "_law_edge", "_law_signed", "_law_is_int", "_law_same", "_law_are_ints", "_law_alone", "_law_told", "_law_gcd"] : List Str) ++ (["_law_lowest", "_law_fraction", "_law_ratio", "_law_half", "_law_answers", "_law_rounds", "_law_rule_refused"] : List Str)
end K02


namespace K02
open PySem PySem.Spec PyProof.Rows L2 DL
theorem runF (w : World) : HandSHeadRun.RunEq R (PySem.W.view R.prog [40]) hk ob 7600 loose (w.withFollow "special-get-raises" false) := by
  intro os
  kernel_rfl
theorem runT (w : World) : HandSHeadRun.RunEq R (PySem.W.view R.prog [40]) hk ob 7600 loose (w.withFollow "special-get-raises" true) := by
  intro os
  kernel_rfl
theorem run (w : World) : HandSHeadRun.RunEq R (PySem.W.view R.prog [40]) hk ob 7600 loose w := PySem.W.byRow2 "special-get-raises" runF runT w
end K02

section
open PySem PySem.W PySem.Calls PyProof.Rows
theorem K02.end_of (law : ∀ ns : List Int, ns.length ≤ 1000 → ∃ μ, DL.callD K02.L.tab K02.WW (8 + 1) K02.j_law [.d (.kls (ns.map DL.D.int))] [] = .ok (.d (.bl true)) μ) : PySem.Challenge.rw_tollbooks_k02_rounded_by_rule.Holds := by
  w_on; o_law
  refine HandSHeadRun.head_any (r := OpenLaw.row PySem.Challenge.rw_tollbooks_k02_rounded_by_rule) (q := view (OpenLaw.row PySem.Challenge.rw_tollbooks_k02_rounded_by_rule).prog [40]) (H := K02.hk) (ob := K02.ob) (M := 7600) (loose := K02.loose) (d := HandSHeadRun.topDef (OpenLaw.row PySem.Challenge.rw_tollbooks_k02_rounded_by_rule).prog 40) (kwd := []) K02.ob_eq
    (by kernel_rfl) (fun s => by kernel_rfl) K02.run (by kernel_rfl) (by kernel_rfl) (by kernel_rfl) (by rfl) (by first | assumption | decide +kernel) (by decide +kernel) ⟨rfl, rfl, rfl, rfl, rfl, by decide +kernel⟩ ?hw ?hc
  case hw => w_witness2
  case hc => exact DL.law_walk (m := 63) (n := 8) (jl := 20) (dp := 7) (L := K02.L) (al := K02.f_law) (x := "_law_script") (W := K02.WW) rfl (by decide) (by kernel_rfl) ⟨rfl, by decide, by decide⟩ K02.L_ok (by kernel_rfl) rfl rfl (by kernel_rfl) rfl rfl rfl rfl (fun ns h _ => law ns (Nat.le_trans h (by decide)))
end

/-! PL1: how a text is run by hand. -/
namespace DL
open PySem L2
theorem tidy_self (μ : Mu) : (tidy μ.length [] μ).2 = μ := by
  unfold tidy
  split <;> simp
theorem tidy_len {μ μ' : Mu} (h : μ'.length = μ.length) : (tidy μ.length [] μ').2 = μ' := by
  rw [← h]
  exact tidy_self μ'
theorem tidy_env {μ μ' : Mu} {ρ : Env} (h : μ'.length = μ.length) (hr : ∀ k, some (X.r k) ∈ ρ → k < μ.length) : tidy μ.length ρ μ' = (ρ, μ') := by
  unfold tidy
  split
  · rw [← h, List.take_length]
    congr 1
    have : ∀ o ∈ ρ, clr μ'.length o = o := fun o ho => by
      unfold clr
      split
      · rename_i k
        rw [if_pos (by rw [h]; exact hr k ho)]
      · rfl
    rw [List.map_congr_left this]
    simp
  · rfl
theorem call_eq {T : Tab} {W n j : Nat} {xs : List X} {μ : Mu} {f : Fn} (h : T.fns[j]? = some f) (hl : xs.length = f.ar) : callD T W (n + 1) j xs μ = fin μ.length (evSs (parOf T W n) f.body (xs.map some ++ List.replicate (f.sl - f.ar) none) μ) := by
  rw [callD_succ]
  simp only [bodyD, h, hl, if_true]
theorem fin_d {n : Nat} {x : D} {μ : Mu} (h : μ.length = n) : fin n (.ok (.rt (.d x)) μ) = .ok (.d x) μ := by
  unfold fin
  dsimp only
  rw [← h, tidy_self]
theorem fin_r {n k : Nat} {μ : Mu} : fin n (.ok (.rt (.r k)) μ) = .ok (.r k) μ := rfl
theorem fin_nx {n : Nat} {ρ : Env} {μ : Mu} (h : μ.length = n) : fin n (.ok (.nx ρ) μ) = .ok (.d .non) μ := by
  unfold fin
  dsimp only
  rw [← h, tidy_self]
theorem mulOk_of {i j : Int} {a b : Nat} (hi : i.natAbs < 2 ^ a) (hj : j.natAbs < 2 ^ b) (h : a + b ≤ 900000) : mulOk i j = true := by
  unfold mulOk
  apply decide_eq_true
  have h1 : i.natAbs.log2 ≤ a := by
    by_cases z : i.natAbs = 0
    · rw [z]; simp [Nat.log2_zero]
    · exact Nat.le_of_lt ((Nat.log2_lt z).mpr hi)
  have h2 : j.natAbs.log2 ≤ b := by
    by_cases z : j.natAbs = 0
    · rw [z]; simp [Nat.log2_zero]
    · exact Nat.le_of_lt ((Nat.log2_lt z).mpr hj)
  omega
theorem divOk_of {j : Int} {b : Nat} (h0 : 0 < j) (hj : j.natAbs < 2 ^ b) (h : b ≤ 9000) : divOk j = true := by
  unfold divOk
  rw [decide_eq_true h0, Bool.true_and]
  apply decide_eq_true
  have z : j.natAbs ≠ 0 := by omega
  have := (Nat.log2_lt z).mpr hj
  omega
end DL

/-! PL2: running a text by rules, one step behind another. -/
namespace DL
open PySem L2
section
variable {P : Par} {ρ : Env} {μ : Mu}
structure WE (P : Par) (e : E) (ρ : Env) (μ : Mu) (K : X → Mu → Prop) : Prop where
  ex : ∃ x μ', evE P e ρ μ = .ok x μ' ∧ K x μ'
structure WA (P : Par) (e : Es) (ρ : Env) (μ : Mu) (K : List X → Mu → Prop) : Prop where
  ex : ∃ x μ', evEs P e ρ μ = .ok x μ' ∧ K x μ'
structure WT (P : Par) (t : T) (ρ : Env) (μ : Mu) (K : Bool → Mu → Prop) : Prop where
  ex : ∃ x μ', evT P t ρ μ = .ok x μ' ∧ K x μ'
structure WI (P : Par) (t : It) (ρ : Env) (μ : Mu) (K : List D → Mu → Prop) : Prop where
  ex : ∃ x μ', evIt P t ρ μ = .ok x μ' ∧ K x μ'
structure WS (P : Par) (s : Ss) (ρ : Env) (μ : Mu) (Q : Fl → Mu → Prop) : Prop where
  ex : ∃ x μ', evSs P s ρ μ = .ok x μ' ∧ Q x μ'
structure WO (P : Par) (e : Eo) (ρ : Env) (μ : Mu) (K : Option Int → Mu → Prop) : Prop where
  ex : ∃ x μ', evO P e ρ μ = .ok x μ' ∧ K x μ'
structure WC1 (C : CallF) (j : Nat) (xs : List X) (μ : Mu) (K : X → Mu → Prop) : Prop where
  ex : ∃ x μ', C j xs μ = .ok x μ' ∧ K x μ'
/-- what stands as an int, a value, a cell .. -/
structure asI (x : X) (K : Int → Prop) : Prop where
  ex : ∃ i, x = .d (.int i) ∧ K i
structure asD (x : X) (K : D → Prop) : Prop where
  ex : ∃ i, x = .d i ∧ K i
structure asB (x : X) (K : Bool → Prop) : Prop where
  ex : ∃ i, x = .d (.bl i) ∧ K i
structure asL (μ : Mu) (x : X) (K : List D → Prop) : Prop where
  ex : ∃ i, viewS μ x = some (.lst i) ∧ K i
structure asS (x : X) (K : List D → Prop) : Prop where
  ex : ∃ d i, x = .d d ∧ seqOf d = some i ∧ K i
structure asZ {α : Type} (o : Option α) (K : α → Prop) : Prop where
  ex : ∃ z, o = some z ∧ K z
structure asO (r : R X) (K : X → Mu → Prop) : Prop where
  ex : ∃ x μ2, r = .ok x μ2 ∧ K x μ2
structure asG (p K : Prop) : Prop where
  h : p
  k : K
structure as1 (xs : List X) (K : D → Prop) : Prop where
  ex : ∃ d, xs = [.d d] ∧ K d
structure asT (x : X) (K : List D → Prop) : Prop where
  ex : ∃ xs, x = .d (.tup xs) ∧ K xs
theorem asZ_mk {α : Type} {z : α} {K : α → Prop} (h : K z) : asZ (some z) K := ⟨z, rfl, h⟩
theorem asZ_of {α : Type} {o : Option α} {z : α} {K : α → Prop} (e : o = some z) (h : K z) : asZ o K := ⟨z, e, h⟩
theorem asO_mk {x : X} {μ : Mu} {K : X → Mu → Prop} (h : K x μ) : asO (.ok x μ) K := ⟨x, μ, rfl, h⟩
theorem asO_of {r : R X} {x : X} {μ : Mu} {K : X → Mu → Prop} (e : r = .ok x μ) (h : K x μ) : asO r K := ⟨x, μ, e, h⟩
theorem asG_mk {p K : Prop} (h : p) (k : K) : asG p K := ⟨h, k⟩
theorem as1_mk {d : D} {K : D → Prop} (h : K d) : as1 [.d d] K := ⟨d, rfl, h⟩
theorem asT_mk {d : List D} {K : List D → Prop} (h : K d) : asT (.d (.tup d)) K := ⟨d, rfl, h⟩
structure asV (μ : Mu) (x : X) (K : D → Prop) : Prop where
  ex : ∃ d, viewS μ x = some d ∧ K d
structure asR (x : X) (K : Nat → Prop) : Prop where
  ex : ∃ i, x = .r i ∧ K i
/-- a list in a cell -/
structure asC (μ : Mu) (k : Nat) (K : List D → Prop) : Prop where
  ex : ∃ xs, μ[k]? = some (some (.lst xs)) ∧ K xs
theorem asV_d {d : D} {K : D → Prop} (h : K (unk d)) : asV μ (.d d) K := ⟨_, rfl, h⟩
/-- .. as it is to a test -/
structure asW (μ : Mu) (x : X) (K : D → Prop) : Prop where
  ex : ∃ d, view μ x = some d ∧ K d
theorem asW_d {d : D} {K : D → Prop} (h : K d) : asW μ (.d d) K := ⟨_, rfl, h⟩
theorem asW_r {k : Nat} {i : List D} {K : D → Prop} (e : μ[k]? = some (some (.lst i))) (h : K (.lst i)) : asW μ (.r k) K := ⟨_, by simp only [view, e, Node.toD], h⟩
theorem asV_r {k : Nat} {i : List D} {K : D → Prop} (e : μ[k]? = some (some (.lst i))) (h : K (.lst i)) : asV μ (.r k) K := ⟨_, by simp only [viewS, unk, Option.map_some, view, e, Node.toD], h⟩
theorem asR_mk {i : Nat} {K : Nat → Prop} (h : K i) : asR (.r i) K := ⟨i, rfl, h⟩
theorem asC_mk {k : Nat} {i : List D} {K : List D → Prop} (e : μ[k]? = some (some (.lst i))) (h : K i) : asC μ k K := ⟨i, e, h⟩
theorem asI_mk {i : Int} {K : Int → Prop} (h : K i) : asI (.d (.int i)) K := ⟨i, rfl, h⟩
theorem asD_mk {i : D} {K : D → Prop} (h : K i) : asD (.d i) K := ⟨i, rfl, h⟩
theorem asB_mk {i : Bool} {K : Bool → Prop} (h : K i) : asB (.d (.bl i)) K := ⟨i, rfl, h⟩
theorem asL_d {i : List D} {K : List D → Prop} (h : K i) : asL μ (.d (.lst i)) K := ⟨i, rfl, h⟩
theorem asL_r {k : Nat} {i : List D} {K : List D → Prop} (e : μ[k]? = some (some (.lst i))) (h : K i) : asL μ (.r k) K := ⟨i, by simp only [viewS, unk, Option.map_some, view, e, Node.toD], h⟩
theorem asS_l {i : List D} {K : List D → Prop} (h : K i) : asS (.d (.lst i)) K := ⟨_, i, rfl, rfl, h⟩
theorem asS_k {i : List D} {K : List D → Prop} (h : K i) : asS (.d (.kls i)) K := ⟨_, i, rfl, rfl, h⟩
theorem asS_t {i : List D} {K : List D → Prop} (h : K i) : asS (.d (.tup i)) K := ⟨_, i, rfl, rfl, h⟩
theorem asS_s {z : Str} {K : List D → Prop} (h : K (z.cps.toList.map fun c => .str (oneS c))) : asS (.d (.str z)) K := ⟨_, _, rfl, rfl, h⟩
theorem put_cell {μ : Mu} {k : Nat} {o o' : Option Node} (h : μ[k]? = some o) : (μ.set k o')[k]? = some o' := by
  have := (List.getElem?_eq_some_iff.mp h).1
  rw [List.getElem?_set_self this]
theorem allocF {ds : List D} (h : ds.length ≤ 1000000) : alloc false (.lst ds) μ = .ok (.d (.lst ds)) μ := if_pos (c := (Node.lst ds).size ≤ 1000000) h
theorem allocT {ds : List D} (h : ds.length ≤ 1000000) : alloc true (.lst ds) μ = .ok (.r μ.length) (μ ++ [some (.lst ds)]) := if_pos (c := (Node.lst ds).size ≤ 1000000) h
/-! ### expressions -/
section
variable {K : X → Mu → Prop} {a b c : E} {es : Es} {t : T}
theorem we_var {i : Nat} {x : X} (e : ρ[i]? = some (some x)) (h : K x μ) : WE P (.var i) ρ μ K := ⟨x, μ, by simp only [evE, e], h⟩
theorem we_con {d : D} (h : K (.d d) μ) : WE P (.con d) ρ μ K := ⟨_, μ, by simp only [evE], h⟩
theorem we_glo {i : Nat} {d : D} (e : P.glo i = some d) (h : K (.d d) μ) : WE P (.glo i) ρ μ K := ⟨_, μ, by simp only [evE, e, Option.map_some, R.lift], h⟩
/-- a binary operator -/
structure asOp (P : Par) (op : Bop) (x y : X) (μ : Mu) (K : X → Mu → Prop) : Prop where
  ex : ∃ z μ', binX P op x y μ = .ok z μ' ∧ K z μ'
structure asCmp (P : Par) (op : Cop) (x y : X) (μ : Mu) (K : Bool → Mu → Prop) : Prop where
  ex : ∃ b μ', cmpX P op x y μ = .ok b μ' ∧ K b μ'
theorem asOp_int {op : Bop} {i j : Int} (h : asZ (binI op i j) fun z => K (.d (.int z)) μ) : asOp P op (.d (.int i)) (.d (.int j)) μ K := by
  obtain ⟨z, e, h⟩ := h
  exact ⟨_, μ, by simp only [binX, binZ, e, Option.map_some, R.lift], h⟩
theorem asOp_str {s u : Str} (hl : s.length + u.length ≤ 1000000) (h : K (.d (.str (s ++ u))) μ) : asOp P .add (.d (.str s)) (.d (.str u)) μ K :=
  ⟨_, μ, by simp only [binX, binZ, insOf, addD, view, if_pos hl], h⟩
theorem asOp_tup {s u : List D} (hl : s.length + u.length ≤ 1000000) (h : K (.d (.tup (s ++ u))) μ) : asOp P .add (.d (.tup s)) (.d (.tup u)) μ K :=
  ⟨_, μ, by simp only [binX, binZ, insOf, addD, view, if_pos hl], h⟩
theorem asOp_lst {s u : List D} (hl : (s ++ u).length ≤ 1000000) (h : K (.d (.lst (s ++ u))) μ) : asOp P .add (.d (.lst s)) (.d (.lst u)) μ K :=
  ⟨_, μ, by simp only [binX, binZ, insOf, addD, view, allocF hl], h⟩
theorem asOp_lstR {s u : List D} {k : Nat} (e : μ[k]? = some (some (.lst s))) (hl : (s ++ u).length ≤ 1000000) (h : K (.d (.lst (s ++ u))) μ) : asOp P .add (.r k) (.d (.lst u)) μ K :=
  ⟨_, μ, by simp only [binX, binZ, insOf, e, addD, view, Node.toD, allocF hl], h⟩
theorem asOp_own {op : Bop} {c j : Nat} {fs gs : List (Str × D)} (e : P.methOf c (opMeth op) = some j) (h : WC1 P.C1 j [.d (.ins c fs), .d (.ins c gs)] μ K) : asOp P op (.d (.ins c fs)) (.d (.ins c gs)) μ K := by
  obtain ⟨x, μ1, e1, h⟩ := h
  exact ⟨x, μ1, by simp only [binX, binZ, insOf, ownM, e, e1, quiet, if_true], h⟩
theorem we_bin {op : Bop} (h : WE P a ρ μ fun x μ1 => WE P b ρ μ1 fun y μ2 => asOp P op x y μ2 K) : WE P (.bin op a b) ρ μ K := by
  obtain ⟨x, μ1, e1, y, μ2, e2, z, μ3, e3, h⟩ := h
  exact ⟨_, μ3, by simp only [evE, e1, e2, R.bind, e3], h⟩
theorem we_binC (h : WE P a ρ μ fun x μ1 => WE P b ρ μ1 fun y μ2 => asW μ2 x fun d => asW μ2 y fun d' => ∃ s u, d = .lst s ∧ d' = .lst u ∧ (s ++ u).length ≤ 1000000 ∧ K (.r μ2.length) (μ2 ++ [some (.lst (s ++ u))])) : WE P (.binC a b) ρ μ K := by
  obtain ⟨x, μ1, e1, y, μ2, e2, d, e3, d', e4, s, u, rfl, rfl, hl, h⟩ := h
  exact ⟨_, _, by simp only [evE, e1, e2, R.bind, addC, e3, e4, allocT hl], h⟩
def negP (P : Par) (x : X) (μ : Mu) : R X := match x with
  | .d (.int i) => .ok (.d (.int (-i))) μ
  | .d (.ins c fs) => ownM P c "__neg__" [.d (.ins c fs)] μ
  | _ => .no
structure asNeg (P : Par) (x : X) (μ : Mu) (K : X → Mu → Prop) : Prop where
  ex : ∃ z μ', negP P x μ = R.ok z μ' ∧ K z μ'
theorem asNeg_int {i : Int} (h : K (.d (.int (-i))) μ) : asNeg P (.d (.int i)) μ K := ⟨_, _, rfl, h⟩
theorem asNeg_own {c j : Nat} {fs : List (Str × D)} (e : P.methOf c "__neg__" = some j) (h : WC1 P.C1 j [.d (.ins c fs)] μ K) : asNeg P (.d (.ins c fs)) μ K := by
  obtain ⟨x, μ1, e1, h⟩ := h
  exact ⟨x, μ1, by simp only [negP, ownM, e, e1, quiet], h⟩
theorem we_neg (h : WE P a ρ μ fun x μ1 => asNeg P x μ1 K) : WE P (.neg a) ρ μ K := by
  obtain ⟨x, μ1, e1, z, μ2, e2, h⟩ := h
  refine ⟨z, μ2, ?_, h⟩
  simp only [evE, e1, R.bind]
  exact e2
theorem asCmp_mk {op : Cop} {x y : X} {K : Bool → Mu → Prop} (h0 : ownCmp P op x y μ = none) (h : asZ (cmpD μ op x y) fun z => K z μ) : asCmp P op x y μ K := by
  obtain ⟨z, e, h⟩ := h
  exact ⟨z, μ, by simp only [cmpX, h0, e, R.lift], h⟩
theorem asCmp_in {c j : Nat} {x : X} {fs : List (Str × D)} {K : Bool → Mu → Prop} (e : P.methOf c "__contains__" = some j) (h : WC1 P.C1 j [.d (.ins c fs), x] μ fun z μ1 => asB z fun b => K b μ1) : asCmp P .isin x (.d (.ins c fs)) μ K := by
  obtain ⟨x, μ1, e1, b, rfl, h⟩ := h
  exact ⟨b, μ1, by simp only [cmpX, ownCmp, insOf, Option.map_some, ownM, e, e1, quiet, boolR], h⟩
theorem asCmp_notin {c j : Nat} {x : X} {fs : List (Str × D)} {K : Bool → Mu → Prop} (e : P.methOf c "__contains__" = some j) (h : WC1 P.C1 j [.d (.ins c fs), x] μ fun z μ1 => asB z fun b => K (!b) μ1) : asCmp P .notin x (.d (.ins c fs)) μ K := by
  obtain ⟨x, μ1, e1, b, rfl, h⟩ := h
  exact ⟨!b, μ1, by simp only [cmpX, ownCmp, insOf, Option.map_some, ownM, e, e1, quiet, boolR, notR], h⟩
theorem asCmp_eq {c j : Nat} {y : X} {fs : List (Str × D)} {K : Bool → Mu → Prop} (e : P.methOf c "__eq__" = some j) (hy : eqTo μ y = true) (h : WC1 P.C1 j [.d (.ins c fs), y] μ fun z μ1 => asB z fun b => K b μ1) : asCmp P .eq (.d (.ins c fs)) y μ K := by
  obtain ⟨x, μ1, e1, b, rfl, h⟩ := h
  exact ⟨b, μ1, by simp only [cmpX, ownCmp, insOf, Option.map_some, hy, if_true, ownM, e, e1, quiet, boolR], h⟩
theorem asCmp_ne {c j : Nat} {y : X} {fs : List (Str × D)} {K : Bool → Mu → Prop} (e : P.methOf c "__eq__" = some j) (hy : eqTo μ y = true) (h : WC1 P.C1 j [.d (.ins c fs), y] μ fun z μ1 => asB z fun b => K (!b) μ1) : asCmp P .ne (.d (.ins c fs)) y μ K := by
  obtain ⟨x, μ1, e1, b, rfl, h⟩ := h
  exact ⟨!b, μ1, by simp only [cmpX, ownCmp, insOf, Option.map_some, hy, if_true, ownM, e, e1, quiet, boolR, notR], h⟩
theorem we_cmp {op : Cop} (h : WE P a ρ μ fun x μ1 => WE P b ρ μ1 fun y μ2 => asCmp P op x y μ2 fun z μ3 => K (.d (.bl z)) μ3) : WE P (.cmp op a b) ρ μ K := by
  obtain ⟨x, μ1, e1, y, μ2, e2, z, μ3, e3, h⟩ := h
  exact ⟨_, μ3, by simp only [evE, e1, e2, R.bind, e3], h⟩
theorem we_chain {o1 o2 : Cop} (h : WE P a ρ μ fun x μ1 => WE P b ρ μ1 fun y μ2 => asCmp P o1 x y μ2 fun z μ3 => (z = false → K (.d (.bl false)) μ3) ∧ (z = true → WE P c ρ μ3 fun u μ4 => asCmp P o2 y u μ4 fun w μ5 => K (.d (.bl w)) μ5)) : WE P (.chain o1 o2 a b c) ρ μ K := by
  obtain ⟨x, μ1, e1, y, μ2, e2, z, μ3, e3, h1, h2⟩ := h
  cases z with
  | false => exact ⟨_, μ3, by simp only [evE, e1, e2, R.bind, e3]; rfl, h1 rfl⟩
  | true =>
    obtain ⟨u, μ4, e4, w, μ5, e5, h⟩ := h2 rfl
    exact ⟨_, μ5, by simp only [evE, e1, e2, R.bind, e3, if_true, e4, e5], h⟩
/-! instances -/
theorem we_fldD {f : Str} (h : WE P a ρ μ fun x μ1 => ∃ c fs v, x = .d (.ins c fs) ∧ P.propOf c f = none ∧ P.fldOk c f = true ∧ fs.lookup f = some v ∧ K (.d v) μ1) : WE P (.fld a f) ρ μ K := by
  obtain ⟨x, μ1, e1, c, fs, v, rfl, e2, e3, e4, h⟩ := h
  exact ⟨_, μ1, by simp only [evE, e1, R.bind, fldP, insOf, e2, e3, if_true, fldX, e4, Option.map_some, R.lift], h⟩
theorem we_fldP {f : Str} (h : WE P a ρ μ fun x μ1 => ∃ c j, insOf μ1 x = some c ∧ P.propOf c f = some j ∧ WC1 P.C1 j [x] μ1 K) : WE P (.fld a f) ρ μ K := by
  obtain ⟨x, μ1, e1, c, j, e2, e3, y, μ2, e4, h⟩ := h
  exact ⟨_, μ2, by simp only [evE, e1, R.bind, fldP, e2, e3, e4, quiet], h⟩
/-- a field or a property of an instance, whatever -/
structure asF (P : Par) (x : X) (f : Str) (μ : Mu) (K : X → Mu → Prop) : Prop where
  ex : ∃ z μ', fldP P x f μ = .ok z μ' ∧ K z μ'
theorem we_fld {f : Str} (h : WE P a ρ μ fun x μ1 => asF P x f μ1 K) : WE P (.fld a f) ρ μ K := by
  obtain ⟨x, μ1, e1, z, μ2, e2, h⟩ := h
  exact ⟨_, μ2, by simp only [evE, e1, R.bind, e2], h⟩
theorem asF_of {x : X} {f : Str} {v : X} (e : fldP P x f μ = .ok v μ) (h : K v μ) : asF P x f μ K := ⟨_, _, e, h⟩
theorem asF_p {c j : Nat} {fs : List (Str × D)} {f : Str} (e : P.propOf c f = some j) (h : WC1 P.C1 j [.d (.ins c fs)] μ K) : asF P (.d (.ins c fs)) f μ K := by
  obtain ⟨y, μ2, e4, h⟩ := h
  exact ⟨_, μ2, by simp only [fldP, insOf, e, e4, quiet], h⟩
theorem fldP_d {c : Nat} {fs : List (Str × D)} {f : Str} {v : D} (e1 : P.propOf c f = none) (e2 : P.fldOk c f = true) (e3 : fs.lookup f = some v) : fldP P (.d (.ins c fs)) f μ = .ok (.d v) μ := by
  simp only [fldP, insOf, e1, e2, if_true, fldX, e3, Option.map_some, R.lift]
theorem fldP_r {c k : Nat} {fs : List (Str × X)} {f : Str} {v : X} (e : μ[k]? = some (some (.ins c fs))) (e1 : P.propOf c f = none) (e2 : P.fldOk c f = true) (e3 : fs.lookup f = some v) : fldP P (.r k) f μ = .ok v μ := by
  simp only [fldP, insOf, e, e1, e2, if_true, fldX, e3, R.lift]
theorem we_meth {m : Str} {ds : List D} (h : WE P a ρ μ fun x μ1 => ∃ c j, insOf μ1 x = some c ∧ P.methOf c m = some j ∧ fldX μ1 x m = none ∧ WA P es ρ μ1 fun xs μ2 => WC1 P.C j (x :: (xs ++ ds.map X.d)) μ2 K) : WE P (.meth m a es ds) ρ μ K := by
  obtain ⟨x, μ1, e1, c, j, e2, e3, e4, xs, μ2, e5, y, μ3, e6, h⟩ := h
  exact ⟨_, μ3, by simp only [evE, e1, R.bind, e2, e3, e4, Option.isNone_none, if_true, e5, e6], h⟩
theorem we_mk {c j : Nat} {ds : List D} (e : P.methOf c "__init__" = some j) (h : WA P es ρ μ fun xs μ1 => WC1 P.C1 j (.r μ1.length :: (xs ++ ds.map X.d)) (μ1 ++ [some (.ins c [])]) fun y μ2 => y = .d .non ∧ K (.r μ1.length) μ2) : WE P (.mk c es ds) ρ μ K := by
  obtain ⟨xs, μ1, e5, y, μ2, e6, rfl, h⟩ := h
  exact ⟨_, μ2, by simp only [evE, e5, R.bind, e, e6], h⟩
/-! slices, displays -/
theorem we_sl {cl : Bool} {lo hi : Eo} (h : WE P a ρ μ fun x μ1 => WO P lo ρ μ1 fun l μ2 => WO P hi ρ μ2 fun u μ3 => asO (slD μ3 cl x l u) K) : WE P (.sl cl a lo hi) ρ μ K := by
  obtain ⟨x, μ1, e1, l, μ2, e2, u, μ3, e3, z, μ4, e4, h⟩ := h
  exact ⟨_, μ4, by simp only [evE, e1, e2, e3, R.bind, e4], h⟩
theorem wo_none {K : Option Int → Mu → Prop} (h : K none μ) : WO P .none ρ μ K := ⟨_, μ, by simp only [evO], h⟩
theorem wo_some {K : Option Int → Mu → Prop} (h : WE P a ρ μ fun x μ1 => asI x fun i => K (some i) μ1) : WO P (.some a) ρ μ K := by
  obtain ⟨x, μ1, e1, i, rfl, h⟩ := h
  exact ⟨_, μ1, by simp only [evO, e1, R.bind, intX, Option.map_some, R.lift], h⟩
theorem we_rv {cl : Bool} (h : WE P a ρ μ fun x μ1 => asO (rvD μ1 cl x) K) : WE P (.rv cl a) ρ μ K := by
  obtain ⟨x, μ1, e1, z, μ4, e4, h⟩ := h
  exact ⟨_, μ4, by simp only [evE, e1, R.bind, e4], h⟩
theorem we_dicF (h : WA P es ρ μ fun xs μ1 => asZ (pairs xs) fun kvs => asG ((decide (xs.length ≤ 30) && !xs.isEmpty) = true) <| K (.d (.dic kvs)) μ1) : WE P (.dic false es) ρ μ K := by
  obtain ⟨xs, μ1, e1, kvs, e2, e3, h⟩ := h
  exact ⟨_, μ1, by simp only [evE, e1, R.bind, e2, e3, if_true], h⟩
theorem we_not (h : WE P a ρ μ fun x μ1 => asB x fun i => K (.d (.bl (!i))) μ1) : WE P (.not a) ρ μ K := by
  obtain ⟨x, μ1, e1, i, rfl, h⟩ := h
  exact ⟨_, μ1, by simp only [evE, e1, R.bind], h⟩
theorem we_bop1 {cj : Bool} (h : WE P a ρ μ K) : WE P (.bop cj (.cons a .nil)) ρ μ K := by
  obtain ⟨x, μ1, e1, h⟩ := h
  exact ⟨_, μ1, by simp only [evE, evB, e1, R.bind], h⟩
theorem we_bop {cj : Bool} {r : Es} (h : WE P a ρ μ fun x μ1 => asB x fun i => (i = cj → WE P (.bop cj (.cons b r)) ρ μ1 K) ∧ (i = !cj → K (.d (.bl i)) μ1)) : WE P (.bop cj (.cons a (.cons b r))) ρ μ K := by
  obtain ⟨x, μ1, e1, i, rfl, h1, h2⟩ := h
  by_cases hi : i = cj
  · obtain ⟨y, μ2, e2, h⟩ := h1 hi
    refine ⟨y, μ2, ?_, h⟩
    simp only [evE] at e2 ⊢
    rw [evB]
    simp only [e1, R.bind, if_pos hi, e2]
  · have : i = !cj := by cases i <;> cases cj <;> simp_all
    exact ⟨_, μ1, by simp only [evE]; rw [evB]; simp only [e1, R.bind, if_neg hi], h2 this⟩
theorem we_ife (h : WT P t ρ μ fun k μ1 => (k = true → WE P a ρ μ1 K) ∧ (k = false → WE P b ρ μ1 K)) : WE P (.ife t a b) ρ μ K := by
  obtain ⟨k, μ1, e1, h1, h2⟩ := h
  cases k with
  | true =>
    obtain ⟨x, μ2, e2, h⟩ := h1 rfl
    exact ⟨x, μ2, by simp only [evE, e1, R.bind, if_true, e2], h⟩
  | false =>
    obtain ⟨x, μ2, e2, h⟩ := h2 rfl
    exact ⟨x, μ2, by simp only [evE, e1, R.bind, e2]; rfl, h⟩
theorem wa_nil {K : List X → Mu → Prop} (h : K [] μ) : WA P .nil ρ μ K := ⟨_, μ, by simp only [evEs], h⟩
theorem wa_cons {K : List X → Mu → Prop} (h : WE P a ρ μ fun x μ1 => WA P es ρ μ1 fun xs μ2 => K (x :: xs) μ2) : WA P (.cons a es) ρ μ K := by
  obtain ⟨x, μ1, e1, xs, μ2, e2, h⟩ := h
  exact ⟨_, μ2, by simp only [evEs, e1, e2, R.bind], h⟩
def dsOf : List X → Option (List D)
  | [] => some []
  | .d x :: r => (dsOf r).map (x :: ·)
  | .r _ :: _ => none
theorem dsOf_eq : ∀ xs : List X, xs.mapM X.dOf = dsOf xs
  | [] => rfl
  | .d x :: r => by
    rw [List.mapM_cons, dsOf_eq r]
    show (Option.bind (some x) _) = _
    simp only [dsOf, Option.bind_some]
    cases dsOf r <;> rfl
  | .r _ :: r => by
    rw [List.mapM_cons]
    rfl
theorem we_tup (h : WA P es ρ μ fun xs μ1 => asZ (dsOf xs) fun ds => asG (ds.length ≤ 1000000) <| K (.d (.tup ds)) μ1) : WE P (.tup es) ρ μ K := by
  obtain ⟨xs, μ1, e1, ds, e2, e3, h⟩ := h
  rw [← dsOf_eq] at e2
  exact ⟨_, μ1, by simp only [evE, e1, R.bind, e2, Option.bind_some, if_pos e3, R.lift], h⟩
theorem we_lstF (h : WA P es ρ μ fun xs μ1 => asZ (dsOf xs) fun ds => asG (ds.length ≤ 1000000) <| K (.d (.lst ds)) μ1) : WE P (.lst false es) ρ μ K := by
  obtain ⟨xs, μ1, e1, ds, e2, e3, h⟩ := h
  rw [← dsOf_eq] at e2
  exact ⟨_, μ1, by simp only [evE, e1, R.bind, e2, allocF e3], h⟩
theorem we_lstT (h : WA P es ρ μ fun xs μ1 => asZ (dsOf xs) fun ds => asG (ds.length ≤ 1000000) <| K (.r μ1.length) (μ1 ++ [some (.lst ds)])) : WE P (.lst true es) ρ μ K := by
  obtain ⟨xs, μ1, e1, ds, e2, e3, h⟩ := h
  rw [← dsOf_eq] at e2
  exact ⟨_, _, by simp only [evE, e1, R.bind, e2, allocT e3], h⟩
theorem we_idx (h : WE P a ρ μ fun x μ1 => WE P b ρ μ1 fun y μ2 => asV μ2 x fun d => asD y fun i => asZ (idxD d i) fun z => K (.d z) μ2) : WE P (.idx a b) ρ μ K := by
  obtain ⟨x, μ1, e1, y, μ2, e2, d, e3, i, rfl, z, e4, h⟩ := h
  exact ⟨_, μ2, by simp only [evE, e1, e2, R.bind, e3, e4, Option.map_some, R.lift], h⟩
theorem we_call {j : Nat} {ds : List D} (h : WA P es ρ μ fun xs μ1 => WC1 P.C j (xs ++ ds.map X.d) μ1 K) : WE P (.call j es ds) ρ μ K := by
  obtain ⟨xs, μ1, e1, x, μ2, e2, h⟩ := h
  exact ⟨x, μ2, by simp only [evE, e1, R.bind, e2], h⟩
theorem asO_abs {c j : Nat} {cl : Bool} {fs : List (Str × D)} (e : P.methOf c "__abs__" = some j) (h : WC1 P.C1 j [.d (.ins c fs)] μ K) : asO (bltP P μ cl .abs [.d (.ins c fs)]) K := by
  obtain ⟨x, μ1, e1, h⟩ := h
  exact ⟨x, μ1, by simp only [bltP, ownB, ownM, e, e1, quiet], h⟩
theorem asO_bool {c j : Nat} {cl : Bool} {fs : List (Str × D)} (e : P.methOf c "__bool__" = some j) (h : WC1 P.C1 j [.d (.ins c fs)] μ fun z μ1 => asB z fun b => K (.d (.bl b)) μ1) : asO (bltP P μ cl .bool [.d (.ins c fs)]) K := by
  obtain ⟨x, μ1, e1, b, rfl, h⟩ := h
  exact ⟨_, μ1, by simp only [bltP, ownB, ownM, e, e1, quiet, boolR, R.bind], h⟩
theorem asO_fmtI {i : Int} (hl : i.natAbs.log2 < 1920) (h : K (.d (.str (toString i))) μ) : asO (fmtX (.d (.int i)) μ) K := ⟨_, _, by simp only [fmtX, if_pos hl], h⟩
theorem asO_fmtS {z : Str} (hl : z.length ≤ 1000000) (h : K (.d (.str z)) μ) : asO (fmtX (.d (.str z)) μ) K := ⟨_, _, by simp only [fmtX, if_pos hl], h⟩
theorem we_fmt (h : WE P a ρ μ fun x μ1 => asO (fmtX x μ1) K) : WE P (.fmt a) ρ μ K := by
  obtain ⟨x, μ1, e1, z, μ2, e2, h⟩ := h
  exact ⟨z, μ2, by simp only [evE, e1, R.bind, e2], h⟩
theorem we_jn1 (h : WE P a ρ μ K) : WE P (.jn1 a) ρ μ K := by
  obtain ⟨x, μ1, e1, h⟩ := h
  exact ⟨x, μ1, by simp only [evE, e1], h⟩
/-- an f-string's parts -/
structure WJ (P : Par) (es : Es) (acc : Str) (ρ : Env) (μ : Mu) (K : Str → Mu → Prop) : Prop where
  ex : ∃ z μ', evJ P es acc ρ μ = .ok z μ' ∧ K z μ'
structure asSt (x : X) (K : Str → Prop) : Prop where
  ex : ∃ y, x = .d (.str y) ∧ K y
theorem asSt_mk {y : Str} {K : Str → Prop} (h : K y) : asSt (.d (.str y)) K := ⟨y, rfl, h⟩
theorem wj_nil {acc : Str} {K : Str → Mu → Prop} (h : K acc μ) : WJ P .nil acc ρ μ K := ⟨acc, μ, by simp only [evJ], h⟩
theorem wj_cons {acc : Str} {K : Str → Mu → Prop} (h : WE P a ρ μ fun x μ1 => asSt x fun y => asG ((acc ++ y).length ≤ 1000000) (WJ P es (acc ++ y) ρ μ1 K)) : WJ P (.cons a es) acc ρ μ K := by
  obtain ⟨x, μ1, e1, y, rfl, hl, z, μ2, e2, h⟩ := h
  exact ⟨z, μ2, by simp only [evJ, e1, R.bind, if_pos hl, e2], h⟩
theorem we_jn (h : WJ P es Str.empty ρ μ fun z μ1 => K (.d (.str z)) μ1) : WE P (.jn es) ρ μ K := by
  obtain ⟨z, μ1, e1, h⟩ := h
  exact ⟨_, μ1, by simp only [evE, e1, R.bind], h⟩
theorem we_blt {cl : Bool} {o : Blt} (h : WA P es ρ μ fun xs μ1 => asO (bltP P μ1 cl o xs) K) : WE P (.blt cl o es) ρ μ K := by
  obtain ⟨xs, μ1, e1, x, μ2, e2, h⟩ := h
  exact ⟨x, μ2, by simp only [evE, e1, R.bind, e2], h⟩
def tyAny (μ : Mu) (x : X) : List Ty → Bool
  | [] => false
  | [t] => isTy μ x t
  | t :: ts => isTy μ x t || tyAny μ x ts
theorem tyAny_eq (μ : Mu) (x : X) : ∀ ts : List Ty, ts.any (isTy μ x) = tyAny μ x ts
  | [] => rfl
  | [t] => by simp [tyAny]
  | t :: u :: ts => by rw [List.any_cons, tyAny_eq μ x (u :: ts)]; rfl
theorem we_isi {ts : List Ty} (h : WE P a ρ μ fun x μ1 => asG (tyKnown μ1 x = true) <| K (.d (.bl (tyAny μ1 x ts))) μ1) : WE P (.isi a ts) ρ μ K := by
  obtain ⟨x, μ1, e1, e2, h⟩ := h
  exact ⟨_, μ1, by simp only [evE, e1, R.bind, e2, if_true, tyAny_eq], h⟩
theorem we_app (h : WE P a ρ μ fun x μ1 => asR x fun k => asC μ1 k fun _ => WA P es ρ μ1 fun xs μ2 => as1 xs fun d => asC μ2 k fun ys => asG (ys.length ≤ 1000000) <| K (.d .non) (μ2.set k (some (.lst (ys ++ [d]))))) : WE P (.lm .append a es) ρ μ K := by
  obtain ⟨x, μ1, e1, k, rfl, zs, e2, xs, μ2, e3, d, rfl, ys, e4, e5, h⟩ := h
  have e6 : isLst μ1 (.r k) = true := by simp only [isLst, viewS, unk, Option.map_some, view, e2, Node.toD]
  exact ⟨_, _, by simp only [evE, e1, R.bind, e6, if_true, e3, lmD, e4, sizeOk, decide_eq_true e5], h⟩
theorem we_lrng1T (h : WE P a ρ μ fun x μ1 => asI x fun j => asG (small j = true) <| asG ((upTo 0 j.toNat).length ≤ 1000000) <| K (.r μ1.length) (μ1 ++ [some (.lst (upTo 0 j.toNat))])) : WE P (.lrng true a .none) ρ μ K := by
  obtain ⟨x, μ1, e1, j, rfl, ⟨e2, e3, h⟩⟩ := h
  exact ⟨_, _, by simp only [evE, e1, R.bind, intX, e2, if_true, allocT e3], h⟩
theorem we_lrng2T (h : WE P a ρ μ fun x μ1 => WE P b ρ μ1 fun y μ2 => asI x fun i => asI y fun j => asG (small i = true) <| asG (small j = true) <| asG ((upTo i (j - i).toNat).length ≤ 1000000) <| K (.r μ2.length) (μ2 ++ [some (.lst (upTo i (j - i).toNat))])) : WE P (.lrng true a (.some b)) ρ μ K := by
  obtain ⟨x, μ1, e1, y, μ2, e2, i, rfl, j, rfl, ⟨e3, e4, e5, h⟩⟩ := h
  exact ⟨_, _, by simp only [evE, e1, e2, R.bind, intX, e3, e4, Bool.and_self, if_true, allocT e5], h⟩
theorem we_lrng1F (h : WE P a ρ μ fun x μ1 => asI x fun j => asG (small j = true) <| asG ((upTo 0 j.toNat).length ≤ 1000000) <| K (.d (.lst (upTo 0 j.toNat))) μ1) : WE P (.lrng false a .none) ρ μ K := by
  obtain ⟨x, μ1, e1, j, rfl, ⟨e2, e3, h⟩⟩ := h
  exact ⟨_, _, by simp only [evE, e1, R.bind, intX, e2, if_true, allocF e3], h⟩
theorem we_lrng2F (h : WE P a ρ μ fun x μ1 => WE P b ρ μ1 fun y μ2 => asI x fun i => asI y fun j => asG (small i = true) <| asG (small j = true) <| asG ((upTo i (j - i).toNat).length ≤ 1000000) <| K (.d (.lst (upTo i (j - i).toNat))) μ2) : WE P (.lrng false a (.some b)) ρ μ K := by
  obtain ⟨x, μ1, e1, y, μ2, e2, i, rfl, j, rfl, ⟨e3, e4, e5, h⟩⟩ := h
  exact ⟨_, _, by simp only [evE, e1, e2, R.bind, intX, e3, e4, Bool.and_self, if_true, allocF e5], h⟩
theorem we_frz (h : WE P a ρ μ fun x μ1 => ∃ k n d, x = .r k ∧ μ1[k]? = some (some n) ∧ n.fast = some d ∧ K (.d d) (μ1.set k none)) : WE P (.frz a) ρ μ K := by
  obtain ⟨x, μ1, e1, k, n, d, rfl, e2, e3, h⟩ := h
  exact ⟨_, _, by simp only [evE, e1, R.bind, frzX, e2, e3], h⟩
theorem we_frzd (h : WE P a ρ μ fun x μ1 => ∃ d, x = .d d ∧ K (.d d) μ1) : WE P (.frz a) ρ μ K := by
  obtain ⟨x, μ1, e1, d, rfl, h⟩ := h
  exact ⟨_, _, by simp only [evE, e1, R.bind, frzX], h⟩
end
/-! ### tests -/
section
variable {K : Bool → Mu → Prop} {a b : E} {t u : T} {r : Ts}
theorem wt_val (h : WE P a ρ μ fun x μ1 => asW μ1 x fun d => asZ (truth d) fun z => K z μ1) : WT P (.val a) ρ μ K := by
  obtain ⟨x, μ1, e1, d, e2, z, e3, h⟩ := h
  exact ⟨_, μ1, by simp only [evT, e1, R.bind, e2, e3, R.lift], h⟩
theorem wt_cmp {op : Cop} (h : WE P a ρ μ fun x μ1 => WE P b ρ μ1 fun y μ2 => asCmp P op x y μ2 K) : WT P (.cmp op a b) ρ μ K := by
  obtain ⟨x, μ1, e1, y, μ2, e2, z, μ3, e3, h⟩ := h
  exact ⟨_, μ3, by simp only [evT, e1, e2, R.bind, e3], h⟩
theorem wt_chain {c : E} {o1 o2 : Cop} (h : WE P a ρ μ fun x μ1 => WE P b ρ μ1 fun y μ2 => asCmp P o1 x y μ2 fun z μ3 => (z = false → K false μ3) ∧ (z = true → WE P c ρ μ3 fun u μ4 => asCmp P o2 y u μ4 K)) : WT P (.chain o1 o2 a b c) ρ μ K := by
  obtain ⟨x, μ1, e1, y, μ2, e2, z, μ3, e3, h1, h2⟩ := h
  cases z with
  | false => exact ⟨_, μ3, by simp only [evT, e1, e2, R.bind, e3]; rfl, h1 rfl⟩
  | true =>
    obtain ⟨u, μ4, e4, w, μ5, e5, h⟩ := h2 rfl
    exact ⟨_, μ5, by simp only [evT, e1, e2, R.bind, e3, if_true, e4, e5], h⟩
theorem wt_not (h : WT P t ρ μ fun k μ1 => K (!k) μ1) : WT P (.not t) ρ μ K := by
  obtain ⟨x, μ1, e1, h⟩ := h
  exact ⟨_, μ1, by simp only [evT, e1, R.bind], h⟩
theorem wt_isi {ts : List Ty} (h : WE P a ρ μ fun x μ1 => asG (tyKnown μ1 x = true) <| K (tyAny μ1 x ts) μ1) : WT P (.isi a ts) ρ μ K := by
  obtain ⟨x, μ1, e1, e2, h⟩ := h
  exact ⟨_, μ1, by simp only [evT, e1, R.bind, e2, if_true, tyAny_eq], h⟩
theorem wt_bop1 {cj : Bool} (h : WT P t ρ μ K) : WT P (.bop cj (.cons t .nil)) ρ μ K := by
  obtain ⟨x, μ1, e1, h⟩ := h
  refine ⟨x, μ1, ?_, h⟩
  simp only [evT, evTs, e1, R.bind]
  cases x <;> cases cj <;> rfl
theorem wt_bop {cj : Bool} (h : WT P t ρ μ fun k μ1 => (k = cj → WT P (.bop cj (.cons u r)) ρ μ1 K) ∧ (k = !cj → K k μ1)) : WT P (.bop cj (.cons t (.cons u r))) ρ μ K := by
  obtain ⟨x, μ1, e1, h1, h2⟩ := h
  by_cases hi : x = cj
  · obtain ⟨y, μ2, e2, h⟩ := h1 hi
    refine ⟨y, μ2, ?_, h⟩
    simp only [evT] at e2 ⊢
    rw [evTs]
    simp only [e1, R.bind, if_pos hi, e2]
  · have : x = !cj := by cases x <;> cases cj <;> simp_all
    exact ⟨_, μ1, by simp only [evT]; rw [evTs]; simp only [e1, R.bind, if_neg hi], h2 this⟩
/-- no operand changes the state -/
theorem wt_imp {K K' : Bool → Mu → Prop} (h : WT P t ρ μ K) (i : ∀ b μ, K b μ → K' b μ) : WT P t ρ μ K' := by
  obtain ⟨x, μ1, e1, h⟩ := h
  exact ⟨x, μ1, e1, i _ _ h⟩
end
/-! ### walks -/
section
variable {K : List D → Mu → Prop} {a b : E}
theorem wi_seq (h : WE P a ρ μ fun x μ1 => asS x fun ds => K ds μ1) : WI P (.seq a) ρ μ K := by
  obtain ⟨x, μ1, e1, d, i, rfl, e2, h⟩ := h
  exact ⟨_, μ1, by simp only [evIt, e1, R.bind, e2, R.lift], h⟩
theorem wi_rng1 (h : WE P a ρ μ fun x μ1 => asI x fun i => asG (small i = true) <| K (upTo 0 i.toNat) μ1) : WI P (.rng1 a) ρ μ K := by
  obtain ⟨x, μ1, e1, i, rfl, e2, h⟩ := h
  exact ⟨_, μ1, by simp only [evIt, e1, R.bind, intX, e2, if_true], h⟩
theorem wi_rng2 (h : WE P a ρ μ fun x μ1 => WE P b ρ μ1 fun y μ2 => asI x fun i => asI y fun j => asG (small i = true) <| asG (small j = true) <| K (upTo i (j - i).toNat) μ2) : WI P (.rng2 a b) ρ μ K := by
  obtain ⟨x, μ1, e1, y, μ2, e3, i, rfl, j, rfl, e2, e4, h⟩ := h
  exact ⟨_, μ2, by simp only [evIt, e1, e3, R.bind, intX, e2, e4, Bool.and_self, if_true], h⟩
theorem wi_enum (h : WE P a ρ μ fun x μ1 => ∃ ds, x = .d (.lst ds) ∧ K (enumD 0 ds) μ1) : WI P (.enum a) ρ μ K := by
  obtain ⟨x, μ1, e1, d, rfl, h⟩ := h
  exact ⟨_, μ1, by simp only [evIt, e1, R.bind], h⟩
theorem wi_zip (h : WE P a ρ μ fun x μ1 => WE P b ρ μ1 fun y μ2 => ∃ ds es, x = .d (.lst ds) ∧ y = .d (.lst es) ∧ K (zipD ds es) μ2) : WI P (.zip a b) ρ μ K := by
  obtain ⟨x, μ1, e1, y, μ2, e2, d, d', rfl, rfl, h⟩ := h
  exact ⟨_, μ2, by simp only [evIt, e1, e2, R.bind], h⟩
end
/-! ### statements -/
section
variable {Q : Fl → Mu → Prop} {e o i : E} {r t f b : Ss} {c : T}
/-- behind a statement -/
structure Kq (P : Par) (r : Ss) (Q : Fl → Mu → Prop) (fl : Fl) (μ : Mu) : Prop where
  h : (match fl with | .nx ρ => WS P r ρ μ Q | fl => Q fl μ)
theorem kq_nx (h : WS P r ρ μ Q) : Kq P r Q (.nx ρ) μ := ⟨h⟩
theorem kq_rt {x : X} (h : Q (.rt x) μ) : Kq P r Q (.rt x) μ := ⟨h⟩
theorem kq_bk (h : Q (.bk ρ) μ) : Kq P r Q (.bk ρ) μ := ⟨h⟩
theorem kq_ct (h : Q (.ct ρ) μ) : Kq P r Q (.ct ρ) μ := ⟨h⟩
theorem ws_nil (h : Q (.nx ρ) μ) : WS P .nil ρ μ Q := ⟨_, μ, by simp only [evSs], h⟩
theorem ws_of {s : S} {fl : Fl} {μ' : Mu} (e : evS P s ρ μ = .ok fl μ') (h : Kq P r Q fl μ') : WS P (.cons s r) ρ μ Q := by
  obtain ⟨h⟩ := h
  cases fl with
  | nx ρ' =>
    obtain ⟨x, μ2, e2, h⟩ := h
    exact ⟨x, μ2, by simp only [evSs, e, e2], h⟩
  | rt x => exact ⟨_, μ', by simp only [evSs, e], h⟩
  | bk ρ' => exact ⟨_, μ', by simp only [evSs, e], h⟩
  | ct ρ' => exact ⟨_, μ', by simp only [evSs, e], h⟩
  | ex x ρ' => exact ⟨_, μ', by simp only [evSs, e], h⟩
theorem ws_set {k : Nat} (h : WE P e ρ μ fun x μ1 => WS P r (ρ.set k (some x)) μ1 Q) : WS P (.cons (.set k e) r) ρ μ Q := by
  obtain ⟨x, μ1, e1, h⟩ := h
  exact ws_of (fl := .nx _) (by simp only [evS, e1, R.st]) ⟨h⟩
theorem ws_unp {is : List Nat} (h : WE P e ρ μ fun x μ1 => asT x fun xs => asG (is.length = xs.length) <| WS P r ((is.zip xs).foldl (fun ρ p => ρ.set p.1 (some (.d p.2))) ρ) μ1 Q) : WS P (.cons (.unp is e) r) ρ μ Q := by
  obtain ⟨x, μ1, e1, xs, rfl, hl, h⟩ := h
  exact ws_of (fl := .nx _) (by simp only [evS, e1, R.st, bindTg, if_pos hl]) ⟨h⟩
theorem ws_par {i j : Nat} {a b : E} (h : WE P a ρ μ fun x μ1 => WE P b ρ μ1 fun y μ2 => WS P r ((ρ.set i (some x)).set j (some y)) μ2 Q) : WS P (.cons (.par i j a b) r) ρ μ Q := by
  obtain ⟨x, μ1, e1, y, μ2, e2, h⟩ := h
  exact ws_of (fl := .nx _) (by simp only [evS, e1, e2, R.st]) ⟨h⟩
theorem ws_setI (h : WE P e ρ μ fun v μ1 => WE P o ρ μ1 fun x μ2 => WE P i ρ μ2 fun y μ3 => asR x fun k => asI y fun j => asD v fun z => asC μ3 k fun xs => asZ (ixN xs.length j) fun n => WS P r ρ (μ3.set k (some (.lst (xs.set n z)))) Q) : WS P (.cons (.setI o i e) r) ρ μ Q := by
  obtain ⟨v, μ1, e1, x, μ2, e2, y, μ3, e3, k, rfl, j, rfl, z, rfl, xs, e4, n, e5, h⟩ := h
  exact ws_of (fl := .nx _) (by simp only [evS, e1, e2, e3, R.st, setIX, e4, e5]) ⟨h⟩
theorem ws_aug {k : Nat} {sub : Bool} {m : Int} (e0 : ρ[k]? = some (some (.d (.int m)))) (h : WE P e ρ μ fun x μ1 => asI x fun n => WS P r (ρ.set k (some (.d (.int (if sub then m - n else m + n))))) μ1 Q) : WS P (.cons (.augN k sub e) r) ρ μ Q := by
  obtain ⟨x, μ1, e1, n, rfl, h⟩ := h
  exact ws_of (fl := .nx _) (by simp only [evS, e0, e1, R.st]) ⟨h⟩
theorem ws_ex (h : WE P e ρ μ fun _ μ1 => WS P r ρ μ1 Q) : WS P (.cons (.ex e) r) ρ μ Q := by
  obtain ⟨x, μ1, e1, h⟩ := h
  exact ws_of (fl := .nx _) (by simp only [evS, e1, R.st]) ⟨h⟩
theorem ws_pass (h : WS P r ρ μ Q) : WS P (.cons .pass r) ρ μ Q := ws_of (fl := .nx _) (by simp only [evS]) ⟨h⟩
theorem ws_brk (h : Q (.bk ρ) μ) : WS P (.cons .brk r) ρ μ Q := ws_of (fl := .bk _) (by simp only [evS]) ⟨h⟩
theorem ws_cnt (h : Q (.ct ρ) μ) : WS P (.cons .cnt r) ρ μ Q := ws_of (fl := .ct _) (by simp only [evS]) ⟨h⟩
theorem ws_ret (h : WE P e ρ μ fun x μ1 => Q (.rt x) μ1) : WS P (.cons (.ret e) r) ρ μ Q := by
  obtain ⟨x, μ1, e1, h⟩ := h
  exact ws_of (fl := .rt _) (by simp only [evS, e1, R.st]) ⟨h⟩
theorem ws_setF {f : Str} (h : WE P e ρ μ fun v μ1 => WE P o ρ μ1 fun x μ2 => asR x fun k => ∃ c fs, μ2[k]? = some (some (.ins c fs)) ∧ P.fldOk c f = true ∧ fs.length < 500 ∧ WS P r ρ (μ2.set k (some (.ins c (putX f v fs)))) Q) : WS P (.cons (.setF o f e) r) ρ μ Q := by
  obtain ⟨v, μ1, e1, x, μ2, e2, k, rfl, c, fs, e3, e4, e5, h⟩ := h
  exact ws_of (fl := .nx _) (by simp only [evS, e1, e2, R.st, insOf, e3, e4, if_true, setFX, if_pos e5]) ⟨h⟩
theorem ws_retN (h : Q (.rt (.d .non)) μ) : WS P (.cons .retN r) ρ μ Q := ws_of (fl := .rt _) (by simp only [evS]) ⟨h⟩
theorem ws_ite (h : WT P c ρ μ fun k μ1 => (k = true → WS P t ρ μ1 (Kq P r Q)) ∧ (k = false → WS P f ρ μ1 (Kq P r Q))) : WS P (.cons (.ite c t f) r) ρ μ Q := by
  obtain ⟨k, μ1, e1, h1, h2⟩ := h
  cases k with
  | true =>
    obtain ⟨fl, μ2, e2, h⟩ := h1 rfl
    exact ws_of (fl := fl) (by simp only [evS, e1, R.st, if_true, e2]) h
  | false =>
    obtain ⟨fl, μ2, e2, h⟩ := h2 rfl
    exact ws_of (fl := fl) (by simp only [evS, e1, R.st, e2]; rfl) h
theorem ws_frzd {k : Nat} {d : D} (e0 : ρ[k]? = some (some (.d d))) (h : WS P r (ρ.set k (some (.d d))) μ Q) : WS P (.cons (.frz k) r) ρ μ Q := ws_of (fl := .nx _) (by simp only [evS, e0, frzX]) ⟨h⟩
theorem ws_frz {k j : Nat} {n : Node} {d : D} (e0 : ρ[k]? = some (some (.r j))) (e1 : μ[j]? = some (some n)) (e2 : n.fast = some d) (h : WS P r (ρ.set k (some (.d d))) (μ.set j none) Q) : WS P (.cons (.frz k) r) ρ μ Q := ws_of (fl := .nx _) (by simp only [evS, e0, frzX, e1, e2]) ⟨h⟩
theorem ws_for {tg : Tg} {w : It} (h : WI P w ρ μ fun ds μ1 => ∃ fl μ2, forD (bindTg tg) (evSs P b) ds ρ μ1 = .ok fl μ2 ∧ Kq P r Q fl μ2) : WS P (.cons (.for_ tg w b) r) ρ μ Q := by
  obtain ⟨ds, μ1, e1, fl, μ2, e2, h⟩ := h
  exact ws_of (fl := fl) (by simp only [evS, e1, R.st, e2]) h
theorem ws_whl (h : ∃ fl μ2, whileD (evT P c) (evSs P b) P.W ρ μ = .ok fl μ2 ∧ Kq P r Q fl μ2) : WS P (.cons (.whl c b) r) ρ μ Q := by
  obtain ⟨fl, μ2, e2, h⟩ := h
  exact ws_of (fl := fl) (by simp only [evS, e2]) h
theorem ws_imp {Q' : Fl → Mu → Prop} (h : WS P t ρ μ Q) (i : ∀ fl μ, Q fl μ → Q' fl μ) : WS P t ρ μ Q' := by
  obtain ⟨fl, μ1, e, h⟩ := h
  exact ⟨fl, μ1, e, i _ _ h⟩
/-- a loop, by an invariant of what is left -/
theorem for_inv {tg : Tg} (I : List D → Env → Mu → Prop) (Q : Fl → Mu → Prop) (hn : ∀ ρ μ, I [] ρ μ → Q (.nx ρ) μ)
    (hs : ∀ x xs ρ μ, I (x :: xs) ρ μ → ∃ ρ1, bindTg tg x ρ = some ρ1 ∧ WS P b ρ1 μ fun fl μ2 => match fl with
      | .nx ρ' => I xs (tidy μ.length ρ' μ2).1 (tidy μ.length ρ' μ2).2
      | .ct ρ' => I xs (tidy μ.length ρ' μ2).1 (tidy μ.length ρ' μ2).2
      | .bk ρ' => Q (.nx ρ') μ2
      | fl => Q fl μ2) : ∀ (ds : List D) (ρ : Env) (μ : Mu), I ds ρ μ → ∃ fl μ2, forD (bindTg tg) (evSs P b) ds ρ μ = .ok fl μ2 ∧ Q fl μ2
  | [], ρ, μ, h => ⟨.nx ρ, μ, rfl, hn ρ μ h⟩
  | x :: xs, ρ, μ, h => by
    obtain ⟨ρ1, e1, fl, μ2, e2, h⟩ := hs x xs ρ μ h
    simp only [forD, e1, e2]
    cases fl with
    | nx ρ' => exact for_inv I Q hn hs xs _ _ h
    | ct ρ' => exact for_inv I Q hn hs xs _ _ h
    | bk ρ' => exact ⟨_, _, rfl, h⟩
    | rt x => exact ⟨_, _, rfl, h⟩
    | ex e ρ' => exact ⟨_, _, rfl, h⟩
theorem while_inv (I : Nat → Env → Mu → Prop) (Q : Fl → Mu → Prop)
    (hs : ∀ m ρ μ, I m ρ μ → WT P c ρ μ fun k μ1 => (k = false → Q (.nx ρ) μ1) ∧ (k = true → WS P b ρ μ1 fun fl μ2 => match fl with
      | .nx ρ' => ∃ m', m' < m ∧ I m' (tidy μ.length ρ' μ2).1 (tidy μ.length ρ' μ2).2
      | .ct ρ' => ∃ m', m' < m ∧ I m' (tidy μ.length ρ' μ2).1 (tidy μ.length ρ' μ2).2
      | .bk ρ' => Q (.nx ρ') μ2
      | fl => Q fl μ2)) : ∀ (n m : Nat) (ρ : Env) (μ : Mu), m < n → I m ρ μ → ∃ fl μ2, whileD (evT P c) (evSs P b) n ρ μ = .ok fl μ2 ∧ Q fl μ2
  | 0, m, ρ, μ, h, _ => absurd h (Nat.not_lt_zero m)
  | n + 1, m, ρ, μ, hm, h => by
    obtain ⟨k, μ1, e1, h1, h2⟩ := hs m ρ μ h
    simp only [whileD, e1, R.st]
    cases k with
    | false => exact ⟨_, _, rfl, h1 rfl⟩
    | true =>
      obtain ⟨fl, μ2, e2, h⟩ := h2 rfl
      simp only [e2, if_true]
      cases fl with
      | nx ρ' =>
        obtain ⟨m', hm', h⟩ := h
        exact while_inv I Q hs n m' _ _ (by omega) h
      | ct ρ' =>
        obtain ⟨m', hm', h⟩ := h
        exact while_inv I Q hs n m' _ _ (by omega) h
      | bk ρ' => exact ⟨_, _, rfl, h⟩
      | rt x => exact ⟨_, _, rfl, h⟩
      | ex e ρ' => exact ⟨_, _, rfl, h⟩
end
end
/-- what a body's end is to the caller -/
structure Fq (μ : Mu) (K : X → Mu → Prop) (fl : Fl) (μ' : Mu) : Prop where
  h : (match fl with
  | .rt (.d x) => K (.d x) (tidy μ.length [] μ').2
  | .rt (.r k) => K (.r k) μ'
  | .nx _ => K (.d .non) (tidy μ.length [] μ').2
  | _ => False)
theorem fq_d {μ μ' : Mu} {K : X → Mu → Prop} {x : D} (hl : μ'.length = μ.length) (h : K (.d x) μ') : Fq μ K (.rt (.d x)) μ' := by
  refine ⟨?_⟩
  show K (.d x) (tidy μ.length [] μ').2
  rw [tidy_len hl]
  exact h
theorem fq_r {μ μ' : Mu} {K : X → Mu → Prop} {k : Nat} (h : K (.r k) μ') : Fq μ K (.rt (.r k)) μ' := ⟨h⟩
theorem fq_nx {μ μ' : Mu} {K : X → Mu → Prop} {ρ : Env} (hl : μ'.length = μ.length) (h : K (.d .non) μ') : Fq μ K (.nx ρ) μ' := by
  refine ⟨?_⟩
  show K (.d .non) (tidy μ.length [] μ').2
  rw [tidy_len hl]
  exact h
/-- a call, by its body -/
theorem wc_of {T : Tab} {W n j : Nat} {xs : List X} {μ : Mu} {f : Fn} {K : X → Mu → Prop} (h : T.fns[j]? = some f) (hl : xs.length = f.ar)
    (hb : WS (parOf T W n) f.body (xs.map some ++ List.replicate (f.sl - f.ar) none) μ (Fq μ K)) : WC1 (callD T W (n + 1)) j xs μ K := by
  obtain ⟨fl, μ', e, hq⟩ := hb
  obtain ⟨hq⟩ := hq
  refine ⟨?_⟩
  rw [call_eq h hl, e]
  cases fl with
  | rt x =>
    cases x with
    | d x => exact ⟨_, _, rfl, hq⟩
    | r k => exact ⟨_, _, rfl, hq⟩
  | nx ρ => exact ⟨_, _, rfl, hq⟩
  | bk ρ => exact hq.elim
  | ct ρ => exact hq.elim
  | ex e ρ => exact hq.elim
theorem bin_mul {i j : Int} (h : mulOk i j = true) : binI .mul i j = some (i * j) := by simp only [binI, h, if_true]
theorem bin_div {i j : Int} (h : divOk j = true) : binI .fdiv i j = some (i / j) := by simp only [binI, h, if_true]
theorem divOk_neg {j : Int} (h : j < 0) : divOk j = false := by
  unfold divOk
  rw [decide_eq_false (by omega), Bool.false_and]
theorem divNeg_of {j : Int} {b : Nat} (h0 : j < 0) (hj : j.natAbs < 2 ^ b) (h : b ≤ 9000) : divNeg j = true := by
  unfold divNeg
  rw [decide_eq_true h0, Bool.true_and]
  apply decide_eq_true
  have z : j.natAbs ≠ 0 := by omega
  have := (Nat.log2_lt z).mpr hj
  omega
theorem bin_divN {i j : Int} (h0 : j < 0) (h : divNeg j = true) : binI .fdiv i j = some (i.fdiv j) := by simp only [binI, divOk_neg h0, h, if_true, Bool.false_eq_true, if_false]
theorem bin_mod {i j : Int} (h : 0 < j) : binI .mod i j = some (i % j) := by simp only [binI, decide_eq_true h, if_true]
theorem mod_lit {i j : Int} (h : decide (0 < j) = true) : binI .mod i j = some (i % j) := bin_mod (of_decide_eq_true h)
theorem mul64 {i j : Int} (h0 : 0 ≤ i) (h1 : i < 2 ^ 64) (h2 : j.natAbs < 2 ^ 64) : binI .mul i j = some (i * j) := bin_mul (mulOk_of (a := 64) (b := 64) (by omega) h2 (by decide))
theorem asZ_mod {i j : Int} {K : Int → Prop} (h : decide (0 < j) = true) (k : K (i % j)) : asZ (binI .mod i j) K := ⟨_, mod_lit h, k⟩
theorem asZ_mul {i j : Int} {K : Int → Prop} (h0 : 0 ≤ i) (h1 : i < 2 ^ 64) (h2 : j.natAbs < 2 ^ 64) (k : K (i * j)) : asZ (binI .mul i j) K := ⟨_, mul64 h0 h1 h2, k⟩
theorem asZ_div {i j : Int} {K : Int → Prop} (h : divOk j = true) (k : K (i / j)) : asZ (binI .fdiv i j) K := ⟨_, bin_div h, k⟩
theorem asZ_pow {i j : Int} {K : Int → Prop} (h : powOk i j = true) (k : K (i ^ j.toNat)) : asZ (binI .pow i j) K := ⟨_, by simp only [binI, h, if_true], k⟩
theorem asZ_mulS {i j : Int} {K : Int → Prop} (h0 : -(2 ^ 64) < i) (h1 : i < 2 ^ 64) (h2 : -(2 ^ 64) < j) (h3 : j < 2 ^ 64) (k : K (i * j)) : asZ (binI .mul i j) K := ⟨_, bin_mul (mulOk_of (a := 64) (b := 64) (by omega) (by omega) (by decide)), k⟩
/-! ### calls by keywords, built-in methods, dicts that change -/
section
variable {P : Par} {ρ : Env} {μ : Mu} {K : X → Mu → Prop} {a b : E} {es kes : Es} {ks : List Str} {tl : List KA}
theorem we_callK {j : Nat} (h : WA P es ρ μ fun xs μ1 => WA P kes ρ μ1 fun zs μ2 => asZ (tlX zs tl) fun ts => WC1 P.C j (xs ++ ts) μ2 K) : WE P (.callK j es ks kes tl) ρ μ K := by
  obtain ⟨xs, μ1, e1, zs, μ2, e2, ts, e3, x, μ3, e4, h⟩ := h
  exact ⟨x, μ3, by simp only [evE, e1, e2, R.bind, e3, e4], h⟩
theorem we_mkK {c j : Nat} (e : P.methOf c "__init__" = some j) (h : WA P es ρ μ fun xs μ1 => WA P kes ρ μ1 fun zs μ2 => asZ (tlX zs tl) fun ts => WC1 P.C1 j (.r μ2.length :: (xs ++ ts)) (μ2 ++ [some (.ins c [])]) fun y μ3 => y = .d .non ∧ K (.r μ2.length) μ3) : WE P (.mkK c es ks kes tl) ρ μ K := by
  obtain ⟨xs, μ1, e1, zs, μ2, e2, ts, e3, x, μ3, e4, rfl, h⟩ := h
  exact ⟨_, μ3, by simp only [evE, e1, e2, R.bind, e3, e, e4], h⟩
theorem we_methK {m : Str} (h : WE P a ρ μ fun x μ1 => ∃ c j, insOf μ1 x = some c ∧ P.methOf c m = some j ∧ fldX μ1 x m = none ∧ WA P es ρ μ1 fun xs μ2 => WA P kes ρ μ2 fun zs μ3 => asZ (tlX zs tl) fun ts => WC1 P.C j (x :: (xs ++ ts)) μ3 K) : WE P (.methK m a es ks kes tl) ρ μ K := by
  obtain ⟨x, μ1, e1, c, j, e2, e3, e4, xs, μ2, e5, zs, μ3, e6, ts, e7, y, μ4, e8, h⟩ := h
  exact ⟨_, μ4, by simp only [evE, e1, R.bind, e2, e3, e4, Option.isNone_none, if_true, e5, e6, e7, e8], h⟩
theorem we_bm {m : Bm} (h : WE P a ρ μ fun x μ1 => asG (bmOk μ1 m x = true) <| WA P es ρ μ1 fun xs μ2 => asO (bmD μ2 m x xs) K) : WE P (.bm m a es) ρ μ K := by
  obtain ⟨x, μ1, e1, e2, xs, μ2, e3, y, μ3, e4, h⟩ := h
  exact ⟨_, μ3, by simp only [evE, e1, R.bind, e2, if_true, e3, e4], h⟩
theorem we_dnew (h : K (.r μ.length) (μ ++ [some (.dic [])])) : WE P .dnew ρ μ K := ⟨_, _, by simp only [evE], h⟩
/-- a dict in a cell -/
structure asK (μ : Mu) (k : Nat) (K : List (DK × D) → Prop) : Prop where
  ex : ∃ kvs, μ[k]? = some (some (.dic kvs)) ∧ K kvs
theorem asK_mk {k : Nat} {i : List (DK × D)} {K : List (DK × D) → Prop} (e : μ[k]? = some (some (.dic i))) (h : K i) : asK μ k K := ⟨i, e, h⟩
theorem asV_rd {k : Nat} {i : List (DK × D)} {K : D → Prop} (e : μ[k]? = some (some (.dic i))) (h : K (.dic i)) : asV μ (.r k) K := ⟨_, by simp only [viewS, unk, Option.map_some, view, e, Node.toD], h⟩
theorem asW_rd {k : Nat} {i : List (DK × D)} {K : D → Prop} (e : μ[k]? = some (some (.dic i))) (h : K (.dic i)) : asW μ (.r k) K := ⟨_, by simp only [view, e, Node.toD], h⟩
theorem ws_setD {e o i : E} {r : Ss} {Q : Fl → Mu → Prop} (h : WE P e ρ μ fun v μ1 => WE P o ρ μ1 fun x μ2 => WE P i ρ μ2 fun y μ3 => asR x fun k => asD y fun j => asD v fun z => asK μ3 k fun kvs => asZ (keyOf j) fun q => asG (kvs.length ≤ 1000000) <| WS P r ρ (μ3.set k (some (.dic (dput kvs q z)))) Q) : WS P (.cons (.setD o i e) r) ρ μ Q := by
  obtain ⟨v, μ1, e1, x, μ2, e2, y, μ3, e3, k, rfl, j, rfl, z, rfl, kvs, e4, q, e5, e6, h⟩ := h
  exact ws_of (fl := .nx _) (by simp only [evS, e1, e2, e3, R.st, setDX, e4, e5, if_pos e6]) ⟨h⟩
theorem asCmp_inK {k : Nat} {kvs : List (DK × D)} {x : D} {q : DK} {K : Bool → Mu → Prop} (e : μ[k]? = some (some (.dic kvs))) (hq : keyOf x = some q) (h : K (dget kvs q).isSome μ) : asCmp P .isin (.d x) (.r k) μ K :=
  ⟨_, μ, by simp only [cmpX, ownCmp, insOf, e, Option.map_none, cmpD, inX, X.dOf, Option.bind_some, viewS, view, Node.toD, Option.map_some, unk, inD, hq, R.lift], h⟩
theorem asCmp_notinK {k : Nat} {kvs : List (DK × D)} {x : D} {q : DK} {K : Bool → Mu → Prop} (e : μ[k]? = some (some (.dic kvs))) (hq : keyOf x = some q) (h : K (!(dget kvs q).isSome) μ) : asCmp P .notin (.d x) (.r k) μ K :=
  ⟨_, μ, by simp only [cmpX, ownCmp, insOf, e, Option.map_none, cmpD, inX, X.dOf, Option.bind_some, viewS, view, Node.toD, Option.map_some, unk, inD, hq, R.lift], h⟩
theorem asF_pR {c j k : Nat} {fs : List (Str × X)} {f : Str} (e0 : μ[k]? = some (some (.ins c fs))) (e : P.propOf c f = some j) (h : WC1 P.C1 j [.r k] μ K) : asF P (.r k) f μ K := by
  obtain ⟨y, μ2, e4, h⟩ := h
  exact ⟨_, μ2, by simp only [fldP, insOf, e0, e, e4, quiet], h⟩
end
/-! ### what is raised -/
/-- a call, an expression that raises -/
structure EC (C : CallF) (j : Nat) (xs : List X) (μ : Mu) (K : Exn → Mu → Prop) : Prop where
  ex : ∃ x μ', C j xs μ = .er x μ' ∧ K x μ'
structure EE (P : Par) (e : E) (ρ : Env) (μ : Mu) (K : Exn → Mu → Prop) : Prop where
  ex : ∃ x μ', evE P e ρ μ = .er x μ' ∧ K x μ'
structure ET (P : Par) (t : T) (ρ : Env) (μ : Mu) (K : Exn → Mu → Prop) : Prop where
  ex : ∃ x μ', evT P t ρ μ = .er x μ' ∧ K x μ'
section
variable {P : Par} {ρ : Env} {μ : Mu} {K : Exn → Mu → Prop} {a b : E} {es : Es} {t : T}
theorem ee_call {j : Nat} {ds : List D} (h : WA P es ρ μ fun xs μ1 => EC P.C j (xs ++ ds.map X.d) μ1 K) : EE P (.call j es ds) ρ μ K := by
  obtain ⟨xs, μ1, e1, x, μ2, e2, h⟩ := h
  exact ⟨x, μ2, by simp only [evE, e1, R.bind, e2], h⟩
theorem ee_meth {m : Str} {ds : List D} (h : WE P a ρ μ fun x μ1 => ∃ c j, insOf μ1 x = some c ∧ P.methOf c m = some j ∧ fldX μ1 x m = none ∧ WA P es ρ μ1 fun xs μ2 => EC P.C j (x :: (xs ++ ds.map X.d)) μ2 K) : EE P (.meth m a es ds) ρ μ K := by
  obtain ⟨x, μ1, e1, c, j, e2, e3, e4, xs, μ2, e5, y, μ3, e6, h⟩ := h
  exact ⟨_, μ3, by simp only [evE, e1, R.bind, e2, e3, e4, Option.isNone_none, if_true, e5, e6], h⟩
theorem ee_callK {j : Nat} {kes : Es} {ks : List Str} {tl : List KA} (h : WA P es ρ μ fun xs μ1 => WA P kes ρ μ1 fun zs μ2 => asZ (tlX zs tl) fun ts => EC P.C j (xs ++ ts) μ2 K) : EE P (.callK j es ks kes tl) ρ μ K := by
  obtain ⟨xs, μ1, e1, zs, μ2, e2, ts, e3, x, μ3, e4, h⟩ := h
  exact ⟨x, μ3, by simp only [evE, e1, e2, R.bind, e3, e4], h⟩
theorem ee_methK {m : Str} {kes : Es} {ks : List Str} {tl : List KA} (h : WE P a ρ μ fun x μ1 => ∃ c j, insOf μ1 x = some c ∧ P.methOf c m = some j ∧ fldX μ1 x m = none ∧ WA P es ρ μ1 fun xs μ2 => WA P kes ρ μ2 fun zs μ3 => asZ (tlX zs tl) fun ts => EC P.C j (x :: (xs ++ ts)) μ3 K) : EE P (.methK m a es ks kes tl) ρ μ K := by
  obtain ⟨x, μ1, e1, c, j, e2, e3, e4, xs, μ2, e5, zs, μ3, e6, ts, e7, y, μ4, e8, h⟩ := h
  exact ⟨_, μ4, by simp only [evE, e1, R.bind, e2, e3, e4, Option.isNone_none, if_true, e5, e6, e7, e8], h⟩
theorem ee_frz (h : EE P a ρ μ K) : EE P (.frz a) ρ μ K := by
  obtain ⟨x, μ1, e1, h⟩ := h
  exact ⟨_, μ1, by simp only [evE, e1, R.bind], h⟩
theorem we_told_ok {i : Nat} {K : X → Mu → Prop} (h : WE P a ρ μ fun x μ1 => asD x fun d => K (.d (.tup [.str "told", d])) μ1) : WE P (.told i a) ρ μ K := by
  obtain ⟨x, μ1, e1, d, rfl, h⟩ := h
  exact ⟨_, μ1, by simp only [evE, e1], h⟩
theorem we_told_er {i : Nat} {K : X → Mu → Prop} (h : EE P a ρ μ fun x μ1 => asZ (P.tell i x) fun d => K (.d d) μ1) : WE P (.told i a) ρ μ K := by
  obtain ⟨x, μ1, e1, d, e2, h⟩ := h
  exact ⟨_, μ1, by simp only [evE, e1, e2, Option.map_some, R.lift], h⟩
end
section
variable {P : Par} {ρ : Env} {μ : Mu} {Q : Fl → Mu → Prop} {e o i : E} {es : Es} {r t f b : Ss} {c : T}
theorem kq_ex {x : Exn} (h : Q (.ex x ρ) μ) : Kq P r Q (.ex x ρ) μ := ⟨h⟩
theorem ws_rais {k : Nat} {fs : List Str} (e0 : P.exf k = some fs) (h : WA P es ρ μ fun xs μ1 => asZ (dsOf xs) fun ds => asG (ds.length = fs.length) <| asG (ds.length ≤ 800) <| Q (.ex ⟨k, (fs.zip ds).reverse⟩ ρ) μ1) : WS P (.cons (.rais k es) r) ρ μ Q := by
  obtain ⟨xs, μ1, e1, ds, e2, h1, h2, h⟩ := h
  rw [← dsOf_eq] at e2
  exact ws_of (fl := .ex _ ρ) (by simp only [evS, e1, R.st, e2, e0, if_pos (And.intro h1 h2)]) ⟨h⟩
theorem ws_setX {k : Nat} (h : EE P e ρ μ fun x μ1 => Q (.ex x ρ) μ1) : WS P (.cons (.set k e) r) ρ μ Q := by
  obtain ⟨x, μ1, e1, h⟩ := h
  exact ws_of (fl := .ex _ ρ) (by simp only [evS, e1, R.st]) ⟨h⟩
theorem ws_unpX {is : List Nat} (h : EE P e ρ μ fun x μ1 => Q (.ex x ρ) μ1) : WS P (.cons (.unp is e) r) ρ μ Q := by
  obtain ⟨x, μ1, e1, h⟩ := h
  exact ws_of (fl := .ex _ ρ) (by simp only [evS, e1, R.st]) ⟨h⟩
theorem ws_exX (h : EE P e ρ μ fun x μ1 => Q (.ex x ρ) μ1) : WS P (.cons (.ex e) r) ρ μ Q := by
  obtain ⟨x, μ1, e1, h⟩ := h
  exact ws_of (fl := .ex _ ρ) (by simp only [evS, e1, R.st]) ⟨h⟩
theorem ws_retX (h : EE P e ρ μ fun x μ1 => Q (.ex x ρ) μ1) : WS P (.cons (.ret e) r) ρ μ Q := by
  obtain ⟨x, μ1, e1, h⟩ := h
  exact ws_of (fl := .ex _ ρ) (by simp only [evS, e1, R.st]) ⟨h⟩
theorem ws_iteX (h : ET P c ρ μ fun x μ1 => Q (.ex x ρ) μ1) : WS P (.cons (.ite c t f) r) ρ μ Q := by
  obtain ⟨x, μ1, e1, h⟩ := h
  exact ws_of (fl := .ex _ ρ) (by simp only [evS, e1, R.st]) ⟨h⟩
end
/-- what a raising body's end is to the caller -/
structure Xq (μ : Mu) (K : Exn → Mu → Prop) (fl : Fl) (μ' : Mu) : Prop where
  h : (match fl with
  | .ex e _ => K e (tidy μ.length [] μ').2
  | _ => False)
theorem xq {μ μ' : Mu} {K : Exn → Mu → Prop} {x : Exn} {ρ : Env} (hl : μ'.length = μ.length) (h : K x μ') : Xq μ K (.ex x ρ) μ' := by
  refine ⟨?_⟩
  show K x (tidy μ.length [] μ').2
  rw [tidy_len hl]
  exact h
/-- a call that raises, by its body -/
theorem ec_of {T : Tab} {W n j : Nat} {xs : List X} {μ : Mu} {f : Fn} {K : Exn → Mu → Prop} (h : T.fns[j]? = some f) (hl : xs.length = f.ar)
    (hb : WS (parOf T W n) f.body (xs.map some ++ List.replicate (f.sl - f.ar) none) μ (Xq μ K)) : EC (callD T W (n + 1)) j xs μ K := by
  obtain ⟨fl, μ', e, hq⟩ := hb
  obtain ⟨hq⟩ := hq
  refine ⟨?_⟩
  rw [call_eq h hl, e]
  cases fl with
  | ex e ρ => exact ⟨_, _, rfl, hq⟩
  | rt x => exact hq.elim
  | nx ρ => exact hq.elim
  | bk ρ => exact hq.elim
  | ct ρ => exact hq.elim
end DL

/-! PL3: the draws. -/
namespace DL
open PySem L2
/- one step; what has one way only; a step with the choices -/
local macro_rules | `(tactic| walk_at "1s") => `(tactic| first | refine we_var rfl ?_ | refine we_con ?_ | refine wa_cons ?_ | refine wa_nil ?_ | refine asI_mk ?_ | refine asZ_mk ?_ | refine asD_mk ?_ | refine we_idx ?_ | refine asV_d ?_ | refine we_call ?_ | refine we_bin ?_ | refine asOp_int ?_ | refine we_cmp ?_ | refine asCmp_mk rfl ?_ | refine wt_cmp ?_ | refine we_blt ?_ | refine asO_mk ?_ | refine asB_mk ?_ | refine asG_mk (Nat.le_of_ble_eq_true rfl) ?_ | refine asG_mk (by decide) ?_ | refine asG_mk rfl ?_ | refine wt_val ?_ | refine wt_not ?_ | refine asW_d ?_ | refine we_glo rfl ?_ | refine we_tup ?_ | refine we_lstF ?_ | refine we_lstT ?_ | refine we_isi ?_ | refine wt_isi ?_ | refine we_not ?_ | refine we_neg ?_ | refine asNeg_int ?_ | refine we_fmt ?_ | refine we_jn1 ?_ | refine we_jn ?_ | refine wj_cons ?_ | refine wj_nil ?_ | refine asSt_mk ?_ | refine asZ_mod (by decide) ?_ | refine asZ_mul (by omega) (by omega) (by decide) ?_ | refine asZ_mulS (by omega) (by omega) (by omega) (by omega) ?_ | refine asZ_div (by decide +kernel) ?_ | refine asZ_pow (by decide +kernel) ?_ | refine asR_mk ?_ | refine as1_mk ?_ | refine asT_mk ?_ | refine asS_l ?_ | refine asS_t ?_ | refine asS_k ?_ | refine asS_s ?_ | refine wi_seq ?_ | refine wi_rng1 ?_ | refine wi_rng2 ?_ | refine wi_enum ?_ | refine we_app ?_ | refine we_sl ?_ | refine wo_none ?_ | refine wo_some ?_ | refine we_rv ?_ | refine we_dicF ?_ | refine we_fld ?_ | refine asOp_tup (Nat.le_of_ble_eq_true rfl) ?_ | refine asOp_str (by decide +kernel) ?_ | (apply asV_r; assumption) | (apply asW_r; assumption) | (apply asC_mk; assumption) | refine ws_set ?_ | refine kq_nx ?_ | refine kq_rt ?_ | refine ws_ret ?_ | refine ws_nil ?_ | refine ws_ex ?_ | refine ws_unp ?_ | refine ws_pass ?_ | refine kq_bk ?_ | refine kq_ct ?_ | fail)
local macro_rules | `(tactic| walk_at "1c") => `(tactic| first | refine ws_ite ?_ | refine wt_bop ?_ | refine wt_bop1 ?_ | refine wt_chain ?_ | refine we_bop ?_ | refine we_bop1 ?_ | refine we_ife ?_ | refine we_chain ?_ | refine ws_par ?_ | refine ⟨fun _ => ?_, fun h => absurd (show (false : Bool) = true from h) Bool.false_ne_true⟩ | refine ⟨fun _ => ?_, fun h => absurd (show (true : Bool) = false from h).symm Bool.false_ne_true⟩ | refine ⟨fun h => absurd (show (true : Bool) = false from h).symm Bool.false_ne_true, fun _ => ?_⟩ | refine ⟨fun h => absurd (show (false : Bool) = true from h) Bool.false_ne_true, fun _ => ?_⟩ | fail)
local macro_rules | `(tactic| walk_at "x") => `(tactic| repeat (first | refine we_var rfl ?_ | refine we_con ?_ | refine wa_cons ?_ | refine wa_nil ?_ | refine asI_mk ?_ | refine asZ_mk ?_ | refine asD_mk ?_ | refine we_idx ?_ | refine asV_d ?_ | refine we_call ?_ | refine we_bin ?_ | refine asOp_int ?_ | refine we_cmp ?_ | refine asCmp_mk rfl ?_ | refine wt_cmp ?_ | refine we_blt ?_ | refine asO_mk ?_ | refine asB_mk ?_ | refine asG_mk (Nat.le_of_ble_eq_true rfl) ?_ | refine asG_mk (by decide) ?_ | refine asG_mk rfl ?_ | refine wt_val ?_ | refine wt_not ?_ | refine asW_d ?_ | refine we_glo rfl ?_ | refine we_tup ?_ | refine we_lstF ?_ | refine we_lstT ?_ | refine we_isi ?_ | refine wt_isi ?_ | refine we_not ?_ | refine we_neg ?_ | refine asNeg_int ?_ | refine we_fmt ?_ | refine we_jn1 ?_ | refine we_jn ?_ | refine wj_cons ?_ | refine wj_nil ?_ | refine asSt_mk ?_ | refine asZ_mod (by decide) ?_ | refine asZ_mul (by omega) (by omega) (by decide) ?_ | refine asZ_mulS (by omega) (by omega) (by omega) (by omega) ?_ | refine asZ_div (by decide +kernel) ?_ | refine asZ_pow (by decide +kernel) ?_ | refine asR_mk ?_ | refine as1_mk ?_ | refine asT_mk ?_ | refine asS_l ?_ | refine asS_t ?_ | refine asS_k ?_ | refine asS_s ?_ | refine wi_seq ?_ | refine wi_rng1 ?_ | refine wi_rng2 ?_ | refine wi_enum ?_ | refine we_app ?_ | refine we_sl ?_ | refine wo_none ?_ | refine wo_some ?_ | refine we_rv ?_ | refine we_dicF ?_ | refine we_fld ?_ | refine asOp_tup (Nat.le_of_ble_eq_true rfl) ?_ | refine asOp_str (by decide +kernel) ?_ | (apply asV_r; assumption) | (apply asW_r; assumption) | (apply asC_mk; assumption) | fail))
local macro_rules | `(tactic| walk_at "s") => `(tactic| repeat (first | refine we_var rfl ?_ | refine we_con ?_ | refine wa_cons ?_ | refine wa_nil ?_ | refine asI_mk ?_ | refine asZ_mk ?_ | refine asD_mk ?_ | refine we_idx ?_ | refine asV_d ?_ | refine we_call ?_ | refine we_bin ?_ | refine asOp_int ?_ | refine we_cmp ?_ | refine asCmp_mk rfl ?_ | refine wt_cmp ?_ | refine we_blt ?_ | refine asO_mk ?_ | refine asB_mk ?_ | refine asG_mk (Nat.le_of_ble_eq_true rfl) ?_ | refine asG_mk (by decide) ?_ | refine asG_mk rfl ?_ | refine wt_val ?_ | refine wt_not ?_ | refine asW_d ?_ | refine we_glo rfl ?_ | refine we_tup ?_ | refine we_lstF ?_ | refine we_lstT ?_ | refine we_isi ?_ | refine wt_isi ?_ | refine we_not ?_ | refine we_neg ?_ | refine asNeg_int ?_ | refine we_fmt ?_ | refine we_jn1 ?_ | refine we_jn ?_ | refine wj_cons ?_ | refine wj_nil ?_ | refine asSt_mk ?_ | refine asZ_mod (by decide) ?_ | refine asZ_mul (by omega) (by omega) (by decide) ?_ | refine asZ_mulS (by omega) (by omega) (by omega) (by omega) ?_ | refine asZ_div (by decide +kernel) ?_ | refine asZ_pow (by decide +kernel) ?_ | refine asR_mk ?_ | refine as1_mk ?_ | refine asT_mk ?_ | refine asS_l ?_ | refine asS_t ?_ | refine asS_k ?_ | refine asS_s ?_ | refine wi_seq ?_ | refine wi_rng1 ?_ | refine wi_rng2 ?_ | refine wi_enum ?_ | refine we_app ?_ | refine we_sl ?_ | refine wo_none ?_ | refine wo_some ?_ | refine we_rv ?_ | refine we_dicF ?_ | refine we_fld ?_ | refine asOp_tup (Nat.le_of_ble_eq_true rfl) ?_ | refine asOp_str (by decide +kernel) ?_ | (apply asV_r; assumption) | (apply asW_r; assumption) | (apply asC_mk; assumption) | refine ws_set ?_ | refine kq_nx ?_ | refine kq_rt ?_ | refine ws_ret ?_ | refine ws_nil ?_ | refine ws_ex ?_ | refine ws_unp ?_ | refine ws_pass ?_ | refine kq_bk ?_ | refine kq_ct ?_ | fail))
local macro_rules | `(tactic| walk_at "g") => `(tactic| repeat (first | refine we_var rfl ?_ | refine we_con ?_ | refine wa_cons ?_ | refine wa_nil ?_ | refine asI_mk ?_ | refine asZ_mk ?_ | refine asD_mk ?_ | refine we_idx ?_ | refine asV_d ?_ | refine we_call ?_ | refine we_bin ?_ | refine asOp_int ?_ | refine we_cmp ?_ | refine asCmp_mk rfl ?_ | refine wt_cmp ?_ | refine we_blt ?_ | refine asO_mk ?_ | refine asB_mk ?_ | refine asG_mk (Nat.le_of_ble_eq_true rfl) ?_ | refine asG_mk (by decide) ?_ | refine asG_mk rfl ?_ | refine wt_val ?_ | refine wt_not ?_ | refine asW_d ?_ | refine we_glo rfl ?_ | refine we_tup ?_ | refine we_lstF ?_ | refine we_lstT ?_ | refine we_isi ?_ | refine wt_isi ?_ | refine we_not ?_ | refine we_neg ?_ | refine asNeg_int ?_ | refine we_fmt ?_ | refine we_jn1 ?_ | refine we_jn ?_ | refine wj_cons ?_ | refine wj_nil ?_ | refine asSt_mk ?_ | refine asZ_mod (by decide) ?_ | refine asZ_mul (by omega) (by omega) (by decide) ?_ | refine asZ_mulS (by omega) (by omega) (by omega) (by omega) ?_ | refine asZ_div (by decide +kernel) ?_ | refine asZ_pow (by decide +kernel) ?_ | refine asR_mk ?_ | refine as1_mk ?_ | refine asT_mk ?_ | refine asS_l ?_ | refine asS_t ?_ | refine asS_k ?_ | refine asS_s ?_ | refine wi_seq ?_ | refine wi_rng1 ?_ | refine wi_rng2 ?_ | refine wi_enum ?_ | refine we_app ?_ | refine we_sl ?_ | refine wo_none ?_ | refine wo_some ?_ | refine we_rv ?_ | refine we_dicF ?_ | refine we_fld ?_ | refine asOp_tup (Nat.le_of_ble_eq_true rfl) ?_ | refine asOp_str (by decide +kernel) ?_ | (apply asV_r; assumption) | (apply asW_r; assumption) | (apply asC_mk; assumption) | refine ws_set ?_ | refine kq_nx ?_ | refine kq_rt ?_ | refine ws_ret ?_ | refine ws_nil ?_ | refine ws_ex ?_ | refine ws_unp ?_ | refine ws_pass ?_ | refine kq_bk ?_ | refine kq_ct ?_ | refine ws_ite ?_ | refine wt_bop ?_ | refine wt_bop1 ?_ | refine wt_chain ?_ | refine we_bop ?_ | refine we_bop1 ?_ | refine we_ife ?_ | refine we_chain ?_ | refine ws_par ?_ | refine ⟨fun _ => ?_, fun h => absurd (show (false : Bool) = true from h) Bool.false_ne_true⟩ | refine ⟨fun _ => ?_, fun h => absurd (show (true : Bool) = false from h).symm Bool.false_ne_true⟩ | refine ⟨fun h => absurd (show (true : Bool) = false from h).symm Bool.false_ne_true, fun _ => ?_⟩ | refine ⟨fun h => absurd (show (false : Bool) = true from h) Bool.false_ne_true, fun _ => ?_⟩ | refine ⟨fun _ => ?_, fun h => absurd (of_decide_eq_true h) (by omega)⟩ | refine ⟨fun h => absurd (of_decide_eq_true h) (by omega), fun _ => ?_⟩ | refine ⟨fun _ => ?_, fun h => absurd (by omega) (of_decide_eq_false h)⟩ | refine ⟨fun h => absurd (by omega) (of_decide_eq_false h), fun _ => ?_⟩ | refine ⟨fun _ => ?_, fun h => absurd h (by decide +kernel)⟩ | refine ⟨fun h => absurd h (by decide +kernel), fun _ => ?_⟩ | fail))
theorem view_cell {μ : Mu} {k : Nat} {xs : List D} (h : μ[k]? = some (some (.lst xs))) : viewS μ (.r k) = some (.lst xs) := by
  simp only [viewS, unk, Option.map_some, view, h, Node.toD]
theorem set_same {μ : Mu} {k : Nat} {o : Option Node} (h : μ[k]? = some o) : μ.set k o = μ := by
  apply List.ext_getElem?
  intro j
  by_cases hj : k = j
  · subst hj
    rw [put_cell h, h]
  · rw [List.getElem?_set_ne hj]
def bTake : Ss := (.cons (.ite (.cmp .lt (.var 1) (.con (.int 2))) (.cons (.ret (.con (.int 0))) .nil) .nil) (.cons (.setI (.var 0) (.con (.int 3)) (.bin .add (.idx (.var 0) (.con (.int 3))) (.con (.int 1)))) (.cons (.ite (.bop true (.cons (.cmp .eq (.idx (.var 0) (.con (.int 2))) (.con (.int 0))) (.cons (.cmp .lt (.idx (.var 0) (.con (.int 1))) (.blt false .len (.cons (.idx (.var 0) (.con (.int 0))) .nil))) .nil))) (.cons (.set 4 (.idx (.idx (.var 0) (.con (.int 0))) (.idx (.var 0) (.con (.int 1))))) (.cons (.setI (.var 0) (.con (.int 1)) (.bin .add (.idx (.var 0) (.con (.int 1))) (.con (.int 1)))) (.cons (.setI (.var 0) (.con (.int 4)) (.bin .mod (.blt false .int (.cons (.bin .add (.bin .mul (.idx (.var 0) (.con (.int 4))) (.con (.int 31))) (.var 4)) .nil)) (.con (.int 1000000007)))) (.cons (.ite (.cmp .ge (.var 4) (.bin .pow (.con (.int 10)) (.con (.int 18)))) (.cons (.setI (.var 0) (.con (.int 2)) (.var 4)) .nil) .nil) .nil)))) .nil) (.cons (.ite (.cmp .gt (.idx (.var 0) (.con (.int 2))) (.con (.int 0))) (.cons (.set 2 (.bin .mod (.blt false .int (.cons (.idx (.var 0) (.con (.int 2))) .nil)) (.var 1))) (.cons (.setI (.var 0) (.con (.int 2)) (.bin .fdiv (.idx (.var 0) (.con (.int 2))) (.var 1))) (.cons (.ret (.var 2)) .nil))) .nil) (.cons (.set 2 (.con (.int 0))) (.cons (.set 3 (.var 1)) (.cons (.whl (.cmp .gt (.var 3) (.con (.int 0))) (.cons (.setI (.var 0) (.con (.int 4)) (.bin .mod (.blt false .int (.cons (.bin .add (.bin .add (.bin .mul (.idx (.var 0) (.con (.int 4))) (.con (.int 48271))) (.bin .mul (.idx (.var 0) (.con (.int 3))) (.con (.int 40692)))) (.con (.int 11))) .nil)) (.con (.int 2147483647)))) (.cons (.set 2 (.bin .add (.bin .mul (.var 2) (.con (.int 1000003))) (.bin .mod (.bin .mod (.blt false .int (.cons (.bin .add (.bin .mul (.idx (.var 0) (.con (.int 4))) (.con (.int 69621))) (.idx (.var 0) (.con (.int 3)))) .nil)) (.con (.int 2147483399))) (.con (.int 1000003))))) (.cons (.set 3 (.bin .fdiv (.var 3) (.con (.int 1000003)))) .nil)))) (.cons (.ret (.bin .mod (.blt false .int (.cons (.var 2) .nil)) (.var 1))) .nil))))))))
abbrev stN (cs : List Int) (p q c r : Int) : Node := .lst [.lst (cs.map D.int), .int p, .int q, .int c, .int r]
/-- the store of the draws: N bounds the count of the draws -/
def StAt (μ : Mu) (k : Nat) (cs : List Int) (N : Int) (p q c r : Int) : Prop := μ[k]? = some (some (stN cs p q c r)) ∧ 0 ≤ p ∧ 0 ≤ q ∧ 0 ≤ c ∧ c ≤ N ∧ 0 ≤ r ∧ r < 2147483647
def St (μ : Mu) (k : Nat) (cs : List Int) (N : Int) : Prop := ∃ p q c r, StAt μ k cs N p q c r
theorem St.lt {μ : Mu} {k : Nat} {cs : List Int} {N : Int} (h : St μ k cs N) : k < μ.length := by
  obtain ⟨p, q, c, r, h, _⟩ := h
  exact (List.getElem?_eq_some_iff.mp h).1
theorem St.more {μ : Mu} {k : Nat} {cs : List Int} {N M : Int} (h : St μ k cs N) (e : N ≤ M) : St μ k cs M := by
  obtain ⟨p, q, c, r, h, h1, h2, h3, h4, h5⟩ := h
  exact ⟨p, q, c, r, h, h1, h2, h3, by omega, h5⟩
section
variable {T : Tab} {W n jt : Nat} {μ : Mu} {k : Nat} {cs : List Int} {N m : Int} {K : X → Mu → Prop}
abbrev bWhl : Ss := (.cons (.setI (.var 0) (.con (.int 4)) (.bin .mod (.blt false .int (.cons (.bin .add (.bin .add (.bin .mul (.idx (.var 0) (.con (.int 4))) (.con (.int 48271))) (.bin .mul (.idx (.var 0) (.con (.int 3))) (.con (.int 40692)))) (.con (.int 11))) .nil)) (.con (.int 2147483647)))) (.cons (.set 2 (.bin .add (.bin .mul (.var 2) (.con (.int 1000003))) (.bin .mod (.bin .mod (.blt false .int (.cons (.bin .add (.bin .mul (.idx (.var 0) (.con (.int 4))) (.con (.int 69621))) (.idx (.var 0) (.con (.int 3)))) .nil)) (.con (.int 2147483399))) (.con (.int 1000003))))) (.cons (.set 3 (.bin .fdiv (.var 3) (.con (.int 1000003)))) .nil)))
theorem ixN_lit {xs : List D} {j : Int} {n : Nat} (h : ixN xs.length j = some n) : ixN xs.length j = some n := h
/-- the loop that makes a draw when the script is used up -/
theorem take_loop {P : Par} {q c : Int} {p : Int} (hc : 0 ≤ c) (hc2 : c < 2 ^ 64) (hW : 1000 ≤ P.W) {r : Int} {y : Option X} (hy : ∀ j, y ≠ some (.r j)) (hμ : μ[k]? = some (some (stN cs p q c r))) (hr : 0 ≤ r ∧ r < 2147483647) (hl : m < 2 ^ 4000) :
    ∃ fl μ2, whileD (evT P (.cmp .gt (.var 3) (.con (.int 0)))) (evSs P bWhl) P.W [some (.r k), some (.d (.int m)), some (.d (.int 0)), some (.d (.int m)), y] μ = .ok fl μ2 ∧
      ∃ d l r' : Int, 0 ≤ d ∧ 0 ≤ r' ∧ r' < 2147483647 ∧ fl = .nx [some (.r k), some (.d (.int m)), some (.d (.int d)), some (.d (.int l)), y] ∧ μ2 = μ.set k (some (stN cs p q c r')) := by
  refine while_inv (P := P) (fun t ρ μ' => ∃ d l r' : Int, ρ = [some (.r k), some (.d (.int m)), some (.d (.int d)), some (.d (.int l)), y] ∧ μ' = μ.set k (some (stN cs p q c r')) ∧ 0 ≤ d ∧ d < 2 ^ (20 * (400 - t)) ∧ t ≤ 400 ∧ l < 2 ^ (10 * t) ∧ 0 ≤ r' ∧ r' < 2147483647)
    (fun fl μ2 => ∃ d l r' : Int, 0 ≤ d ∧ 0 ≤ r' ∧ r' < 2147483647 ∧ fl = .nx [some (.r k), some (.d (.int m)), some (.d (.int d)), some (.d (.int l)), y] ∧ μ2 = μ.set k (some (stN cs p q c r'))) ?_ P.W 400 _ _ (by omega) ⟨0, m, r, rfl, (set_same hμ).symm, by omega, by decide, by omega, hl, hr.1, hr.2⟩
  rintro t ρ μ1 ⟨d, l, r1, rfl, rfl, h1, h2, h3, h4, h5, h6⟩
  refine wt_cmp (we_var rfl (we_con (asCmp_mk rfl (asZ_mk ⟨fun hc => ⟨d, l, r1, h1, h5, h6, rfl, rfl⟩, fun hb => ?_⟩))))
  have hb : 0 < l := of_decide_eq_true hb
  have ht : t ≠ 0 := fun e => by
    rw [e] at h4
    simp at h4
    omega
  obtain ⟨u, rfl⟩ := Nat.exists_eq_succ_of_ne_zero ht
  have hμ1 := put_cell (o' := some (stN cs p q c r1)) hμ
  refine ws_setI ?_
  walk_at "x"
  rw [List.set_set]
  generalize hr2 : (r1 * 48271 + c * 40692 + 11) % 2147483647 = r2
  have r2a : 0 ≤ r2 := by rw [← hr2]; exact Int.emod_nonneg _ (by decide)
  have r2b : r2 < 2147483647 := by rw [← hr2]; exact Int.emod_lt_of_pos _ (by decide)
  have hμ2 : (μ.set k (some (stN cs p q c r2)))[k]? = _ := put_cell (o' := some (stN cs p q c r2)) hμ
  clear hμ1
  show WS P _ _ (μ.set k (some (stN cs p q c r2))) _
  refine ws_set ?_
  walk_at "s"
  refine asZ_of (bin_mul (mulOk_of (a := 8000) (b := 64) ?_ (by decide) (by decide))) ?_
  · have h6 : (2 : Nat) ^ (20 * (400 - u.succ)) ≤ 2 ^ 8000 := Nat.pow_le_pow_right (by decide) (by omega)
    have h7 : (d.natAbs : Int) < ((2 ^ (20 * (400 - u.succ)) : Nat) : Int) := by
      rw [Int.natAbs_of_nonneg h1]
      exact_mod_cast h2
    exact Nat.lt_of_lt_of_le (Int.ofNat_lt.mp h7) h6
  walk_at "s"
  refine ⟨u, Nat.lt_succ_self u, ?_⟩
  rw [tidy_env (by simp) (fun j hj => ?_)]
  · generalize hx : (r2 * 69621 + c) % 2147483399 % 1000003 = x
    have x1 : 0 ≤ x := by rw [← hx]; exact Int.emod_nonneg _ (by decide)
    have x2 : x < 1000003 := by rw [← hx]; exact Int.emod_lt_of_pos _ (by decide)
    refine ⟨d * 1000003 + x, l / 1000003, r2, by simp [hx], rfl, by omega, ?_, by omega, ?_, r2a, r2b⟩
    · have e : 20 * (400 - u) = 20 * (400 - (u + 1)) + 20 := by omega
      rw [e, Int.pow_add]
      generalize (2 : Int) ^ (20 * (400 - (u + 1))) = D at h2 ⊢
      have : (2 : Int) ^ 20 = 1048576 := by decide
      rw [this]
      omega
    · have e : 10 * (u + 1) = 10 * u + 10 := by omega
      rw [e, Int.pow_add] at h4
      generalize (2 : Int) ^ (10 * u) = D at h4 ⊢
      have : (2 : Int) ^ 10 = 1024 := by decide
      rw [this] at h4
      omega
  · have hk : k < μ.length := (List.getElem?_eq_some_iff.mp hμ).1
    simp only [List.set_cons_zero, List.set_cons_succ, List.mem_cons, List.not_mem_nil, or_false, Option.some.injEq, X.r.injEq, reduceCtorEq, false_or] at hj
    rcases hj with hj | hj
    · rw [List.length_set, hj]
      exact hk
    · exact absurd hj.symm (hy j)
theorem StAt.st {p q c r : Int} (h : StAt μ k cs N p q c r) : St μ k cs N := ⟨p, q, c, r, h⟩
theorem st_put {p q c r p' q' c' r' : Int} (h : StAt μ k cs N p q c r) (h1 : 0 ≤ p') (h2 : 0 ≤ q') (h3 : 0 ≤ c') (h4 : c' ≤ N + 1) (h5 : 0 ≤ r') (h6 : r' < 2147483647) : St (μ.set k (some (stN cs p' q' c' r'))) k cs (N + 1) :=
  ⟨p', q', c', r', put_cell h.1, h1, h2, h3, h4, h5, h6⟩
theorem dt {p : Prop} [Decidable p] (h : decide p = true) : p := of_decide_eq_true h
theorem df {p : Prop} [Decidable p] (h : decide p = false) : ¬ p := of_decide_eq_false h
theorem idx_ints {cs : List Int} {p : Int} (h0 : 0 ≤ p) (h1 : p < cs.length) : ∃ z, idxD (.lst (cs.map D.int)) (.int p) = some (.int z) := by
  have h2 : p.toNat < cs.length := by omega
  refine ⟨cs[p.toNat], ?_⟩
  simp only [idxD, atI, ixN]
  rw [if_pos h0, if_pos (by simpa using h1)]
  simp [h2]
/-- a draw below m -/
theorem take_wc (hT : T.fns[jt]? = some ⟨2, 5, bTake⟩) (hW : 1000 ≤ W) (h : St μ k cs N) (hN : N < 2 ^ 63) (hm : m < 2 ^ 4000)
    (hK : ∀ z nd, 0 ≤ z → (z < m ∨ z = 0) → St (μ.set k (some nd)) k cs (N + 1) → K (.d (.int z)) (μ.set k (some nd))) : WC1 (callD T W (n + 1)) jt [.r k, .d (.int m)] μ K := by
  obtain ⟨p, q, c, r, hs⟩ := h
  have hs' := hs
  obtain ⟨hμ, h1, h2, h3, h4, h5, h6⟩ := hs
  refine wc_of hT rfl ?_
  show WS _ bTake [some (.r k), some (.d (.int m)), none, none, none] μ _
  refine ws_ite ?_
  walk_at "x"
  refine ⟨fun b => ?_, fun b => ?_⟩
  · walk_at "s"
    refine fq_d rfl ?_
    have e : μ.set k (some (stN cs p q c r)) = μ := set_same hμ
    have z := hK 0 (stN cs p q c r) (by omega) (.inr rfl) (st_put hs' h1 h2 h3 (by omega) h5 h6)
    rw [e] at z
    exact z
  have b := df b
  refine ws_nil (kq_nx ?_)
  refine ws_setI ?_
  walk_at "x"
  have hμ1 := put_cell (o' := some (stN cs p q (c + 1) r)) hμ
  show WS _ _ _ (μ.set k (some (stN cs p q (c + 1) r))) _
  -- the script's part: whatever it does, the store stands with a count of c + 1
  have tail : ∀ p q r (y : Option X), (∀ j, y ≠ some (.r j)) → 0 ≤ p → 0 ≤ q → 0 ≤ r → r < 2147483647 → WS (parOf T W n)
      (.cons (.ite (.cmp .gt (.idx (.var 0) (.con (.int 2))) (.con (.int 0))) (.cons (.set 2 (.bin .mod (.blt false .int (.cons (.idx (.var 0) (.con (.int 2))) .nil)) (.var 1))) (.cons (.setI (.var 0) (.con (.int 2)) (.bin .fdiv (.idx (.var 0) (.con (.int 2))) (.var 1))) (.cons (.ret (.var 2)) .nil))) .nil) (.cons (.set 2 (.con (.int 0))) (.cons (.set 3 (.var 1)) (.cons (.whl (.cmp .gt (.var 3) (.con (.int 0))) bWhl) (.cons (.ret (.bin .mod (.blt false .int (.cons (.var 2) .nil)) (.var 1))) .nil)))))
      [some (.r k), some (.d (.int m)), none, none, y] (μ.set k (some (stN cs p q (c + 1) r))) (Fq μ K) := by
    intro p q r y hy g1 g2 g3 g4
    have hμ2 : (μ.set k (some (stN cs p q (c + 1) r)))[k]? = _ := put_cell (o' := some (stN cs p q (c + 1) r)) hμ
    refine ws_ite ?_
    walk_at "x"
    refine ⟨fun b2 => ?_, fun b2 => ?_⟩
    · have b2 := dt b2
      refine ws_set ?_
      walk_at "x"
      refine asZ_of (bin_mod (by omega)) ?_
      refine ws_setI ?_
      walk_at "x"
      refine asZ_of (bin_div (divOk_of (b := 4000) (by omega) ?_ (by decide))) ?_
      · have : (m.natAbs : Int) < ((2 ^ 4000 : Nat) : Int) := by
          rw [Int.natAbs_of_nonneg (by omega)]
          exact_mod_cast hm
        exact Int.ofNat_lt.mp this
      walk_at "s"
      rw [List.set_set]
      refine fq_d (by simp) ?_
      exact hK _ _ (Int.emod_nonneg _ (by omega)) (.inl (Int.emod_lt_of_pos _ (by omega))) (st_put hs' g1 (Int.ediv_nonneg g2 (by omega)) (by omega) (by omega) g3 g4)
    · refine ws_nil (kq_nx ?_)
      walk_at "s"
      refine ws_whl ?_
      obtain ⟨fl, μ2, e, d, l, r', d1, d2, d3, rfl, rfl⟩ := take_loop (P := parOf T W n) (m := m) (by omega) (by omega) hW hy hμ2 ⟨g3, g4⟩ hm
      refine ⟨_, _, e, kq_nx ?_⟩
      walk_at "s"
      refine asZ_of (bin_mod (by omega)) ?_
      rw [List.set_set]
      refine fq_d (by simp) ?_
      exact hK _ _ (Int.emod_nonneg _ (by omega)) (.inl (Int.emod_lt_of_pos _ (by omega))) (st_put hs' g1 g2 (by omega) (by omega) d2 d3)
  refine ws_ite ?_
  refine wt_bop ?_
  walk_at "x"
  refine ⟨fun b2 => ?_, fun b2 => ?_⟩
  · have b2 := dt b2
    refine wt_bop1 ?_
    walk_at "x"
    refine ⟨fun b3 => ?_, fun b3 => ?_⟩
    · have b3 : p < ((cs.map D.int).length : Int) := dt b3
      rw [List.length_map] at b3
      obtain ⟨z, hz⟩ := idx_ints h1 b3
      refine ws_set ?_
      walk_at "x"
      refine asZ_of hz ?_
      refine ws_setI ?_
      walk_at "x"
      rw [List.set_set]
      have hμ2 := put_cell (o' := some (stN cs (p + 1) q (c + 1) r)) hμ
      show WS _ _ _ (μ.set k (some (stN cs (p + 1) q (c + 1) r))) _
      refine ws_setI ?_
      walk_at "x"
      rw [List.set_set]
      have r1 : 0 ≤ (r * 31 + z) % 1000000007 := Int.emod_nonneg _ (by decide)
      have r2 : (r * 31 + z) % 1000000007 < 1000000007 := Int.emod_lt_of_pos _ (by decide)
      generalize (r * 31 + z) % 1000000007 = r' at r1 r2
      have hμ3 := put_cell (o' := some (stN cs (p + 1) q (c + 1) r')) hμ
      show WS _ _ _ (μ.set k (some (stN cs (p + 1) q (c + 1) r'))) _
      refine ws_ite ?_
      walk_at "x"
      refine ⟨fun b4 => ?_, fun b4 => ?_⟩
      · have b4 : (10 : Int) ^ 18 ≤ z := dt b4
        have z0 : 0 ≤ z := Int.le_trans (by decide) b4
        refine ws_setI ?_
        walk_at "x"
        rw [List.set_set]
        refine ws_nil (kq_nx (ws_nil (kq_nx ?_)))
        exact tail (p + 1) z r' (some (.d (.int z))) (by simp) (by omega) z0 r1 (by omega)
      · refine ws_nil (kq_nx (ws_nil (kq_nx ?_)))
        exact tail (p + 1) q r' (some (.d (.int z))) (by simp) (by omega) h2 r1 (by omega)
    · refine ws_nil (kq_nx ?_)
      exact tail p q r none (by simp) h1 h2 h5 h6
  · refine ⟨fun b3 => ?_, fun b3 => ?_⟩
    · rw [b2] at b3
      cases b3
    · refine ws_nil (kq_nx ?_)
      exact tail p q r none (by simp) h1 h2 h5 h6
end
end DL

/-! PL4: loops, comprehensions, the laws' helpers. -/
namespace DL
open PySem L2
/- one step; what has one way only; a step with the choices -/
local macro_rules | `(tactic| walk_at "1s") => `(tactic| first | refine we_var rfl ?_ | refine we_con ?_ | refine wa_cons ?_ | refine wa_nil ?_ | refine asI_mk ?_ | refine asZ_mk ?_ | refine asD_mk ?_ | refine we_idx ?_ | refine asV_d ?_ | refine we_call ?_ | refine we_bin ?_ | refine asOp_int ?_ | refine we_cmp ?_ | refine asCmp_mk rfl ?_ | refine wt_cmp ?_ | refine we_blt ?_ | refine asO_mk ?_ | refine asB_mk ?_ | refine asG_mk (Nat.le_of_ble_eq_true rfl) ?_ | refine asG_mk (by decide) ?_ | refine asG_mk rfl ?_ | refine wt_val ?_ | refine wt_not ?_ | refine asW_d ?_ | refine we_glo rfl ?_ | refine we_tup ?_ | refine we_lstF ?_ | refine we_lstT ?_ | refine we_isi ?_ | refine wt_isi ?_ | refine we_not ?_ | refine we_neg ?_ | refine asNeg_int ?_ | refine we_fmt ?_ | refine we_jn1 ?_ | refine we_jn ?_ | refine wj_cons ?_ | refine wj_nil ?_ | refine asSt_mk ?_ | refine asZ_mod (by decide) ?_ | refine asZ_mul (by omega) (by omega) (by decide) ?_ | refine asZ_mulS (by omega) (by omega) (by omega) (by omega) ?_ | refine asZ_div (by decide +kernel) ?_ | refine asZ_pow (by decide +kernel) ?_ | refine asR_mk ?_ | refine as1_mk ?_ | refine asT_mk ?_ | refine asS_l ?_ | refine asS_t ?_ | refine asS_k ?_ | refine asS_s ?_ | refine wi_seq ?_ | refine wi_rng1 ?_ | refine wi_rng2 ?_ | refine wi_enum ?_ | refine we_app ?_ | refine we_sl ?_ | refine wo_none ?_ | refine wo_some ?_ | refine we_rv ?_ | refine we_dicF ?_ | refine we_fld ?_ | refine asOp_tup (Nat.le_of_ble_eq_true rfl) ?_ | refine asOp_str (by decide +kernel) ?_ | (apply asV_r; assumption) | (apply asW_r; assumption) | (apply asC_mk; assumption) | refine ws_set ?_ | refine kq_nx ?_ | refine kq_rt ?_ | refine ws_ret ?_ | refine ws_nil ?_ | refine ws_ex ?_ | refine ws_unp ?_ | refine ws_pass ?_ | refine kq_bk ?_ | refine kq_ct ?_ | fail)
local macro_rules | `(tactic| walk_at "1c") => `(tactic| first | refine ws_ite ?_ | refine wt_bop ?_ | refine wt_bop1 ?_ | refine wt_chain ?_ | refine we_bop ?_ | refine we_bop1 ?_ | refine we_ife ?_ | refine we_chain ?_ | refine ws_par ?_ | refine ⟨fun _ => ?_, fun h => absurd (show (false : Bool) = true from h) Bool.false_ne_true⟩ | refine ⟨fun _ => ?_, fun h => absurd (show (true : Bool) = false from h).symm Bool.false_ne_true⟩ | refine ⟨fun h => absurd (show (true : Bool) = false from h).symm Bool.false_ne_true, fun _ => ?_⟩ | refine ⟨fun h => absurd (show (false : Bool) = true from h) Bool.false_ne_true, fun _ => ?_⟩ | fail)
local macro_rules | `(tactic| walk_at "x") => `(tactic| repeat (first | refine we_var rfl ?_ | refine we_con ?_ | refine wa_cons ?_ | refine wa_nil ?_ | refine asI_mk ?_ | refine asZ_mk ?_ | refine asD_mk ?_ | refine we_idx ?_ | refine asV_d ?_ | refine we_call ?_ | refine we_bin ?_ | refine asOp_int ?_ | refine we_cmp ?_ | refine asCmp_mk rfl ?_ | refine wt_cmp ?_ | refine we_blt ?_ | refine asO_mk ?_ | refine asB_mk ?_ | refine asG_mk (Nat.le_of_ble_eq_true rfl) ?_ | refine asG_mk (by decide) ?_ | refine asG_mk rfl ?_ | refine wt_val ?_ | refine wt_not ?_ | refine asW_d ?_ | refine we_glo rfl ?_ | refine we_tup ?_ | refine we_lstF ?_ | refine we_lstT ?_ | refine we_isi ?_ | refine wt_isi ?_ | refine we_not ?_ | refine we_neg ?_ | refine asNeg_int ?_ | refine we_fmt ?_ | refine we_jn1 ?_ | refine we_jn ?_ | refine wj_cons ?_ | refine wj_nil ?_ | refine asSt_mk ?_ | refine asZ_mod (by decide) ?_ | refine asZ_mul (by omega) (by omega) (by decide) ?_ | refine asZ_mulS (by omega) (by omega) (by omega) (by omega) ?_ | refine asZ_div (by decide +kernel) ?_ | refine asZ_pow (by decide +kernel) ?_ | refine asR_mk ?_ | refine as1_mk ?_ | refine asT_mk ?_ | refine asS_l ?_ | refine asS_t ?_ | refine asS_k ?_ | refine asS_s ?_ | refine wi_seq ?_ | refine wi_rng1 ?_ | refine wi_rng2 ?_ | refine wi_enum ?_ | refine we_app ?_ | refine we_sl ?_ | refine wo_none ?_ | refine wo_some ?_ | refine we_rv ?_ | refine we_dicF ?_ | refine we_fld ?_ | refine asOp_tup (Nat.le_of_ble_eq_true rfl) ?_ | refine asOp_str (by decide +kernel) ?_ | (apply asV_r; assumption) | (apply asW_r; assumption) | (apply asC_mk; assumption) | fail))
local macro_rules | `(tactic| walk_at "s") => `(tactic| repeat (first | refine we_var rfl ?_ | refine we_con ?_ | refine wa_cons ?_ | refine wa_nil ?_ | refine asI_mk ?_ | refine asZ_mk ?_ | refine asD_mk ?_ | refine we_idx ?_ | refine asV_d ?_ | refine we_call ?_ | refine we_bin ?_ | refine asOp_int ?_ | refine we_cmp ?_ | refine asCmp_mk rfl ?_ | refine wt_cmp ?_ | refine we_blt ?_ | refine asO_mk ?_ | refine asB_mk ?_ | refine asG_mk (Nat.le_of_ble_eq_true rfl) ?_ | refine asG_mk (by decide) ?_ | refine asG_mk rfl ?_ | refine wt_val ?_ | refine wt_not ?_ | refine asW_d ?_ | refine we_glo rfl ?_ | refine we_tup ?_ | refine we_lstF ?_ | refine we_lstT ?_ | refine we_isi ?_ | refine wt_isi ?_ | refine we_not ?_ | refine we_neg ?_ | refine asNeg_int ?_ | refine we_fmt ?_ | refine we_jn1 ?_ | refine we_jn ?_ | refine wj_cons ?_ | refine wj_nil ?_ | refine asSt_mk ?_ | refine asZ_mod (by decide) ?_ | refine asZ_mul (by omega) (by omega) (by decide) ?_ | refine asZ_mulS (by omega) (by omega) (by omega) (by omega) ?_ | refine asZ_div (by decide +kernel) ?_ | refine asZ_pow (by decide +kernel) ?_ | refine asR_mk ?_ | refine as1_mk ?_ | refine asT_mk ?_ | refine asS_l ?_ | refine asS_t ?_ | refine asS_k ?_ | refine asS_s ?_ | refine wi_seq ?_ | refine wi_rng1 ?_ | refine wi_rng2 ?_ | refine wi_enum ?_ | refine we_app ?_ | refine we_sl ?_ | refine wo_none ?_ | refine wo_some ?_ | refine we_rv ?_ | refine we_dicF ?_ | refine we_fld ?_ | refine asOp_tup (Nat.le_of_ble_eq_true rfl) ?_ | refine asOp_str (by decide +kernel) ?_ | (apply asV_r; assumption) | (apply asW_r; assumption) | (apply asC_mk; assumption) | refine ws_set ?_ | refine kq_nx ?_ | refine kq_rt ?_ | refine ws_ret ?_ | refine ws_nil ?_ | refine ws_ex ?_ | refine ws_unp ?_ | refine ws_pass ?_ | refine kq_bk ?_ | refine kq_ct ?_ | fail))
local macro_rules | `(tactic| walk_at "g") => `(tactic| repeat (first | refine we_var rfl ?_ | refine we_con ?_ | refine wa_cons ?_ | refine wa_nil ?_ | refine asI_mk ?_ | refine asZ_mk ?_ | refine asD_mk ?_ | refine we_idx ?_ | refine asV_d ?_ | refine we_call ?_ | refine we_bin ?_ | refine asOp_int ?_ | refine we_cmp ?_ | refine asCmp_mk rfl ?_ | refine wt_cmp ?_ | refine we_blt ?_ | refine asO_mk ?_ | refine asB_mk ?_ | refine asG_mk (Nat.le_of_ble_eq_true rfl) ?_ | refine asG_mk (by decide) ?_ | refine asG_mk rfl ?_ | refine wt_val ?_ | refine wt_not ?_ | refine asW_d ?_ | refine we_glo rfl ?_ | refine we_tup ?_ | refine we_lstF ?_ | refine we_lstT ?_ | refine we_isi ?_ | refine wt_isi ?_ | refine we_not ?_ | refine we_neg ?_ | refine asNeg_int ?_ | refine we_fmt ?_ | refine we_jn1 ?_ | refine we_jn ?_ | refine wj_cons ?_ | refine wj_nil ?_ | refine asSt_mk ?_ | refine asZ_mod (by decide) ?_ | refine asZ_mul (by omega) (by omega) (by decide) ?_ | refine asZ_mulS (by omega) (by omega) (by omega) (by omega) ?_ | refine asZ_div (by decide +kernel) ?_ | refine asZ_pow (by decide +kernel) ?_ | refine asR_mk ?_ | refine as1_mk ?_ | refine asT_mk ?_ | refine asS_l ?_ | refine asS_t ?_ | refine asS_k ?_ | refine asS_s ?_ | refine wi_seq ?_ | refine wi_rng1 ?_ | refine wi_rng2 ?_ | refine wi_enum ?_ | refine we_app ?_ | refine we_sl ?_ | refine wo_none ?_ | refine wo_some ?_ | refine we_rv ?_ | refine we_dicF ?_ | refine we_fld ?_ | refine asOp_tup (Nat.le_of_ble_eq_true rfl) ?_ | refine asOp_str (by decide +kernel) ?_ | (apply asV_r; assumption) | (apply asW_r; assumption) | (apply asC_mk; assumption) | refine ws_set ?_ | refine kq_nx ?_ | refine kq_rt ?_ | refine ws_ret ?_ | refine ws_nil ?_ | refine ws_ex ?_ | refine ws_unp ?_ | refine ws_pass ?_ | refine kq_bk ?_ | refine kq_ct ?_ | refine ws_ite ?_ | refine wt_bop ?_ | refine wt_bop1 ?_ | refine wt_chain ?_ | refine we_bop ?_ | refine we_bop1 ?_ | refine we_ife ?_ | refine we_chain ?_ | refine ws_par ?_ | refine ⟨fun _ => ?_, fun h => absurd (show (false : Bool) = true from h) Bool.false_ne_true⟩ | refine ⟨fun _ => ?_, fun h => absurd (show (true : Bool) = false from h).symm Bool.false_ne_true⟩ | refine ⟨fun h => absurd (show (true : Bool) = false from h).symm Bool.false_ne_true, fun _ => ?_⟩ | refine ⟨fun h => absurd (show (false : Bool) = true from h) Bool.false_ne_true, fun _ => ?_⟩ | refine ⟨fun _ => ?_, fun h => absurd (of_decide_eq_true h) (by omega)⟩ | refine ⟨fun h => absurd (of_decide_eq_true h) (by omega), fun _ => ?_⟩ | refine ⟨fun _ => ?_, fun h => absurd (by omega) (of_decide_eq_false h)⟩ | refine ⟨fun h => absurd (by omega) (of_decide_eq_false h), fun _ => ?_⟩ | refine ⟨fun _ => ?_, fun h => absurd h (by decide +kernel)⟩ | refine ⟨fun h => absurd h (by decide +kernel), fun _ => ?_⟩ | fail))
/-! ### loops -/
/-- the names' cells lie below n -/
def okEnv (n : Nat) : Env → Prop
  | [] => True
  | some (.r k) :: r => k < n ∧ okEnv n r
  | _ :: r => okEnv n r
theorem okEnv_mem {n : Nat} : ∀ {ρ : Env}, okEnv n ρ → ∀ k, some (X.r k) ∈ ρ → k < n
  | [], _, k, h => by cases h
  | none :: r, h, k, hk => okEnv_mem (ρ := r) h k (by simpa using hk)
  | some (.d x) :: r, h, k, hk => okEnv_mem (ρ := r) h k (by simpa using hk)
  | some (.r j) :: r, h, k, hk => by
    rcases List.mem_cons.mp hk with e | hk
    · cases e
      exact h.1
    · exact okEnv_mem (ρ := r) h.2 k hk
/-- a turn's end -/
structure Lq (I : Env → Mu → Prop) (Q : Fl → Mu → Prop) (μ : Mu) (fl : Fl) (μ2 : Mu) : Prop where
  h : (match fl with
  | .nx ρ' => I (tidy μ.length ρ' μ2).1 (tidy μ.length ρ' μ2).2
  | .ct ρ' => I (tidy μ.length ρ' μ2).1 (tidy μ.length ρ' μ2).2
  | .bk ρ' => Q (.nx ρ') μ2
  | fl => Q fl μ2)
section
variable {I : Env → Mu → Prop} {Q : Fl → Mu → Prop} {μ μ2 : Mu} {ρ : Env}
theorem lq_nx (hl : μ2.length = μ.length) (ho : okEnv μ.length ρ) (h : I ρ μ2) : Lq I Q μ (.nx ρ) μ2 := by
  refine ⟨?_⟩
  show I (tidy μ.length ρ μ2).1 (tidy μ.length ρ μ2).2
  rw [tidy_env hl (okEnv_mem ho)]
  exact h
theorem lq_ct (hl : μ2.length = μ.length) (ho : okEnv μ.length ρ) (h : I ρ μ2) : Lq I Q μ (.ct ρ) μ2 := by
  refine ⟨?_⟩
  show I (tidy μ.length ρ μ2).1 (tidy μ.length ρ μ2).2
  rw [tidy_env hl (okEnv_mem ho)]
  exact h
theorem lq_bk (h : Q (.nx ρ) μ2) : Lq I Q μ (.bk ρ) μ2 := ⟨h⟩
theorem lq_rt {x : X} (h : Q (.rt x) μ2) : Lq I Q μ (.rt x) μ2 := ⟨h⟩
end
section
variable {P : Par} {b : Ss} {Q : Fl → Mu → Prop} {ρ : Env} {μ : Mu}
theorem for_list {tg : Tg} (I : List D → Env → Mu → Prop) (hn : ∀ ρ μ, I [] ρ μ → Q (.nx ρ) μ)
    (hs : ∀ x xs ρ μ, I (x :: xs) ρ μ → ∃ ρ1, bindTg tg x ρ = some ρ1 ∧ WS P b ρ1 μ (Lq (I xs) Q μ)) {ds : List D} (h : I ds ρ μ) : ∃ fl μ2, forD (bindTg tg) (evSs P b) ds ρ μ = .ok fl μ2 ∧ Q fl μ2 := by
  refine for_inv I Q hn (fun x xs ρ μ h => ?_) ds ρ μ h
  obtain ⟨ρ1, e, h⟩ := hs x xs ρ μ h
  refine ⟨ρ1, e, ws_imp h fun fl μ ⟨h⟩ => ?_⟩
  exact h
theorem upTo_cons {lo : Int} {n : Nat} : upTo lo (n + 1) = .int lo :: upTo (lo + 1) n := by
  unfold upTo
  rw [List.range_succ_eq_map]
  simp only [List.map_cons, List.map_map]
  congr 1
  · simp
  · apply List.map_congr_left
    intro i _
    show D.int (lo + ((i + 1 : Nat) : Int)) = D.int (lo + 1 + (i : Int))
    congr 1
    omega
theorem for_rng {i : Nat} {lo : Int} (n : Nat) (I : Nat → Env → Mu → Prop) (hn : ∀ ρ μ, I n ρ μ → Q (.nx ρ) μ)
    (hs : ∀ k ρ μ, k < n → I k ρ μ → WS P b (ρ.set i (some (.d (.int (lo + (k : Int)))))) μ (Lq (I (k + 1)) Q μ)) (h : I 0 ρ μ) : ∃ fl μ2, forD (bindTg (.nm i)) (evSs P b) (upTo lo n) ρ μ = .ok fl μ2 ∧ Q fl μ2 := by
  have hn' : ∀ ρ μ, (∃ k, k ≤ n ∧ ([] : List D) = upTo (lo + (k : Int)) (n - k) ∧ I k ρ μ) → Q (.nx ρ) μ := by
    rintro ρ μ ⟨k, hk, e, h⟩
    have : n - k = 0 := by
      have := congrArg List.length e
      unfold upTo at this
      simp at this
      omega
    have : k = n := by omega
    subst this
    exact hn _ _ h
  have hs' : ∀ x xs ρ μ, (∃ k, k ≤ n ∧ (x :: xs) = upTo (lo + (k : Int)) (n - k) ∧ I k ρ μ) → ∃ ρ1, bindTg (.nm i) x ρ = some ρ1 ∧ WS P b ρ1 μ (Lq (fun ρ μ => ∃ k, k ≤ n ∧ xs = upTo (lo + (k : Int)) (n - k) ∧ I k ρ μ) Q μ) := by
    rintro x xs ρ μ ⟨k, hk, e, h⟩
    have hlt : k < n := by
      apply Nat.lt_of_le_of_ne hk
      intro z
      rw [z, Nat.sub_self] at e
      cases e
    have e2 : n - k = (n - (k + 1)) + 1 := by omega
    rw [e2, upTo_cons] at e
    injection e with e3 e4
    subst e3
    refine ⟨_, rfl, ws_imp (hs k ρ μ hlt h) fun fl μ2 ⟨h⟩ => ⟨?_⟩⟩
    have lift : ∀ ρ' μ', I (k + 1) ρ' μ' → ∃ k, k ≤ n ∧ xs = upTo (lo + (k : Int)) (n - k) ∧ I k ρ' μ' := fun ρ' μ' h => ⟨k + 1, hlt, by rw [e4]; congr 1; push_cast; omega, h⟩
    cases fl with
    | nx ρ' => exact lift _ _ h
    | ct ρ' => exact lift _ _ h
    | bk ρ' => exact h
    | rt x => exact h
    | ex e ρ' => exact h
  exact for_list (fun ds ρ μ => ∃ k, k ≤ n ∧ ds = upTo (lo + (k : Int)) (n - k) ∧ I k ρ μ) hn' hs' ⟨0, Nat.zero_le _, by simp, h⟩
/-- a comprehension whose turns leave the cells as they are: q tells what is kept, f what is made -/
theorem lcD_pure {tg : Tg} {ifs : To} {elt : E} {ρw : Env} (q : D → Bool) (f : D → D) : ∀ (ds acc : List D), (∀ d ∈ ds, ∃ ρ1, bindTg tg d ρw = some ρ1 ∧ evA P ifs ρ1 μ = .ok (q d) μ ∧ (q d = true → evE P elt ρ1 μ = .ok (.d (f d)) μ)) → acc.length + ds.length ≤ 1000000 →
    lcD (bindTg tg) (evA P ifs) (evE P elt) ρw ds acc μ = .ok (acc ++ (ds.filter q).map f) μ
  | [], acc, _, _ => by simp [lcD]
  | d :: ds, acc, h, hl => by
    obtain ⟨ρ1, e1, e2, e3⟩ := h d List.mem_cons_self
    have ih := fun acc' hl' => lcD_pure (tg := tg) (ifs := ifs) (elt := elt) (ρw := ρw) q f ds acc' (fun x hx => h x (List.mem_cons_of_mem _ hx)) hl'
    simp only [lcD, e1, e2]
    simp only [List.length_cons] at hl
    cases hq : q d with
    | false =>
      dsimp only
      rw [tidy_self, ih acc (by omega), List.filter_cons, hq]
      rfl
    | true =>
      have hs : sizeOk acc = true := by
        unfold sizeOk
        exact decide_eq_true (by omega)
      simp only [e3 hq, hs, if_true]
      rw [tidy_self, ih (acc ++ [f d]) (by simp; omega), List.filter_cons, hq]
      simp
theorem we_lcF {K : X → Mu → Prop} {tg : Tg} {it : It} {ifs : To} {elt : E} {own : List Nat} (h : WI P it ρ μ fun ds μ1 => ∃ q f, ds.length ≤ 1000000 ∧ (∀ d ∈ ds, ∃ ρ1, bindTg tg d (wipeE ρ own) = some ρ1 ∧ evA P ifs ρ1 μ1 = .ok (q d) μ1 ∧ (q d = true → evE P elt ρ1 μ1 = .ok (.d (f d)) μ1)) ∧ K (.d (.lst ((ds.filter q).map f))) μ1) : WE P (.lc false tg it ifs elt own) ρ μ K := by
  obtain ⟨ds, μ1, e1, q, f, hl, h1, h2⟩ := h
  refine ⟨_, μ1, ?_, h2⟩
  have hz : ((ds.filter q).map f).length ≤ 1000000 := by
    rw [List.length_map]
    exact Nat.le_trans (List.length_filter_le _ _) hl
  simp only [evE, e1, R.bind, lcD_pure q f ds [] h1 (by simpa using hl), List.nil_append, allocF hz]
theorem we_lcT {K : X → Mu → Prop} {tg : Tg} {it : It} {ifs : To} {elt : E} {own : List Nat} (h : WI P it ρ μ fun ds μ1 => ∃ q f, ds.length ≤ 1000000 ∧ (∀ d ∈ ds, ∃ ρ1, bindTg tg d (wipeE ρ own) = some ρ1 ∧ evA P ifs ρ1 μ1 = .ok (q d) μ1 ∧ (q d = true → evE P elt ρ1 μ1 = .ok (.d (f d)) μ1)) ∧ K (.r μ1.length) (μ1 ++ [some (.lst ((ds.filter q).map f))])) : WE P (.lc true tg it ifs elt own) ρ μ K := by
  obtain ⟨ds, μ1, e1, q, f, hl, h1, h2⟩ := h
  refine ⟨_, _, ?_, h2⟩
  have hz : ((ds.filter q).map f).length ≤ 1000000 := by
    rw [List.length_map]
    exact Nat.le_trans (List.length_filter_le _ _) hl
  simp only [evE, e1, R.bind, lcD_pure q f ds [] h1 (by simpa using hl), List.nil_append, allocT hz]
end
/-! ### loops, by the slots that they use -/
def dset (ρ : Env) : List Nat → List (Option X) → Env
  | i :: is, z :: zs => dset (ρ.set i z) is zs
  | _, _ => ρ
def wipeD (ρ : Env) : List Nat → Env
  | [] => ρ
  | i :: is => wipeD (ρ.set i none) is
def Off (dirt : List Nat) (ρ ρ0 : Env) : Prop := ρ.length = ρ0.length ∧ ∀ i, i ∉ dirt → ρ[i]? = ρ0[i]?
theorem wipeD_len : ∀ (is : List Nat) (ρ : Env), (wipeD ρ is).length = ρ.length
  | [], ρ => rfl
  | i :: is, ρ => by
    unfold wipeD
    rw [wipeD_len is, List.length_set]
theorem wipeD_out {j : Nat} : ∀ {is : List Nat} {ρ : Env}, j ∉ is → (wipeD ρ is)[j]? = ρ[j]?
  | [], ρ, _ => rfl
  | i :: is, ρ, h => by
    unfold wipeD
    rw [List.mem_cons, not_or] at h
    rw [wipeD_out h.2, List.getElem?_set_ne (Ne.symm h.1)]
theorem off_of {dirt : List Nat} {ρ ρ0 : Env} (h : wipeD ρ dirt = wipeD ρ0 dirt) : Off dirt ρ ρ0 :=
  ⟨by rw [← wipeD_len dirt ρ, h, wipeD_len], fun i hi => by rw [← wipeD_out hi, h, wipeD_out hi]⟩
theorem off_dset : ∀ {dirt : List Nat} {ρ ρ0 : Env}, Off dirt ρ ρ0 → ∃ zs, zs.length = dirt.length ∧ ρ = dset ρ0 dirt zs
  | [], ρ, ρ0, h => ⟨[], rfl, List.ext_getElem? fun i => h.2 i (by simp)⟩
  | i :: is, ρ, ρ0, h => by
    have h2 : Off is ρ (ρ0.set i (ρ[i]?).join) := ⟨by rw [List.length_set]; exact h.1, fun j hj => by
      by_cases e : j = i
      · subst e
        by_cases l : j < ρ0.length
        · rw [List.getElem?_set_self l]
          have l2 : j < ρ.length := by rw [h.1]; exact l
          rw [List.getElem?_eq_getElem l2]
          rfl
        · rw [List.getElem?_eq_none (by rw [h.1]; omega), List.getElem?_eq_none (by rw [List.length_set]; omega)]
      · rw [List.getElem?_set_ne (Ne.symm e)]
        exact h.2 j (by simp [e, hj])⟩
    obtain ⟨zs, h3, h4⟩ := off_dset h2
    exact ⟨(ρ[i]?).join :: zs, by simp [h3], h4⟩
theorem off_clr {dirt : List Nat} {ρ ρ0 : Env} {n : Nat} (ok : okEnv n (wipeD ρ0 dirt)) (h : Off dirt ρ ρ0) : Off dirt (ρ.map (clr n)) ρ0 := by
  refine ⟨by rw [List.length_map]; exact h.1, fun i hi => ?_⟩
  rw [List.getElem?_map, h.2 i hi]
  cases q : ρ0[i]? with
  | none => rfl
  | some o =>
    cases o with
    | none => rfl
    | some x =>
      cases x with
      | d y => rfl
      | r k =>
        have hm : some (X.r k) ∈ wipeD ρ0 dirt := by
          have e : (wipeD ρ0 dirt)[i]? = some (some (X.r k)) := by rw [wipeD_out hi, q]
          exact List.mem_of_getElem? e
        have := okEnv_mem ok k hm
        simp only [Option.map_some, clr, if_pos this]
/-- a turn's end -/
structure Ld (dirt : List Nat) (ρ0 : Env) (n : Nat) (J : Mu → Prop) (Q : Fl → Mu → Prop) (fl : Fl) (μ2 : Mu) : Prop where
  h : (match fl with
  | .nx ρ' => wipeD ρ' dirt = wipeD ρ0 dirt ∧ (J μ2 ∨ (belowAll n (μ2.take n) = true ∧ J (μ2.take n)))
  | .ct ρ' => wipeD ρ' dirt = wipeD ρ0 dirt ∧ (J μ2 ∨ (belowAll n (μ2.take n) = true ∧ J (μ2.take n)))
  | .bk ρ' => Q (.nx ρ') μ2
  | fl => Q fl μ2)
section
variable {P : Par} {b : Ss} {Q : Fl → Mu → Prop} {ρ0 : Env} {dirt : List Nat} {n : Nat} {J : Mu → Prop} {μ μ2 : Mu} {ρ : Env}
theorem ld_nx (hw : wipeD ρ dirt = wipeD ρ0 dirt) (h : J μ2) : Ld dirt ρ0 n J Q (.nx ρ) μ2 := ⟨hw, .inl h⟩
theorem ld_ct (hw : wipeD ρ dirt = wipeD ρ0 dirt) (h : J μ2) : Ld dirt ρ0 n J Q (.ct ρ) μ2 := ⟨hw, .inl h⟩
theorem ld_nxA {m : Mu} (hw : wipeD ρ dirt = wipeD ρ0 dirt) (hl : μ2.length = n) (hb : belowAll n μ2 = true) (h : J μ2) : Ld dirt ρ0 n J Q (.nx ρ) (μ2 ++ m) := ⟨hw, .inr (by
  have e : (μ2 ++ m).take n = μ2 := by rw [← hl, List.take_left]
  rw [e]
  exact ⟨hb, h⟩)⟩
theorem ld_bk (h : Q (.nx ρ) μ2) : Ld dirt ρ0 n J Q (.bk ρ) μ2 := ⟨h⟩
theorem ld_rt {x : X} (h : Q (.rt x) μ2) : Ld dirt ρ0 n J Q (.rt x) μ2 := ⟨h⟩
theorem for_d {tg : Tg} (dirt : List Nat) (n : Nat) (ok : okEnv n (wipeD ρ0 dirt)) (J : List D → Mu → Prop) (hl : ∀ ds μ, J ds μ → μ.length = n)
    (hn : ∀ zs μ, zs.length = dirt.length → J [] μ → Q (.nx (dset ρ0 dirt zs)) μ)
    (hs : ∀ x xs zs μ, zs.length = dirt.length → J (x :: xs) μ → ∃ ρ1, bindTg tg x (dset ρ0 dirt zs) = some ρ1 ∧ WS P b ρ1 μ (Ld dirt ρ0 n (J xs) Q))
    {ds : List D} (h : J ds μ) : ∃ fl μ2, forD (bindTg tg) (evSs P b) ds ρ0 μ = .ok fl μ2 ∧ Q fl μ2 := by
  refine for_inv (fun ds ρ μ => Off dirt ρ ρ0 ∧ J ds μ) Q (fun ρ μ h => ?_) (fun x xs ρ μ h => ?_) ds ρ0 μ ⟨⟨rfl, fun _ _ => rfl⟩, h⟩
  · obtain ⟨zs, h1, rfl⟩ := off_dset h.1
    exact hn zs μ h1 h.2
  · obtain ⟨zs, h1, rfl⟩ := off_dset h.1
    obtain ⟨ρ1, e, h2⟩ := hs x xs zs μ h1 h.2
    have hμ := hl _ _ h.2
    have fin : ∀ ρ' μ2, wipeD ρ' dirt = wipeD ρ0 dirt ∧ (J xs μ2 ∨ (belowAll n (μ2.take n) = true ∧ J xs (μ2.take n))) → Off dirt (tidy μ.length ρ' μ2).1 ρ0 ∧ J xs (tidy μ.length ρ' μ2).2 := fun ρ' μ2 ⟨hw, h3⟩ => by
      have o := off_of hw
      rw [hμ]
      unfold tidy
      rcases h3 with h3 | ⟨h3, h4⟩
      · split
        · refine ⟨off_clr ok o, ?_⟩
          show J xs (μ2.take n)
          rw [← hl _ _ h3, List.take_length]
          exact h3
        · exact ⟨o, h3⟩
      · rw [if_pos h3]
        exact ⟨off_clr ok o, h4⟩
    refine ⟨ρ1, e, ws_imp h2 fun fl μ2 ⟨h3⟩ => ?_⟩
    cases fl with
    | nx ρ' => exact fin ρ' μ2 h3
    | ct ρ' => exact fin ρ' μ2 h3
    | bk ρ' => exact h3
    | rt x => exact h3
    | ex e ρ' => exact h3
/-- over a range -/
theorem for_rd {i : Nat} {lo : Int} (dirt : List Nat) (n N : Nat) (ok : okEnv n (wipeD ρ0 dirt)) (J : Nat → Mu → Prop) (hl : ∀ k μ, J k μ → μ.length = n)
    (hn : ∀ zs μ, zs.length = dirt.length → J N μ → Q (.nx (dset ρ0 dirt zs)) μ)
    (hs : ∀ k zs μ, k < N → zs.length = dirt.length → J k μ → WS P b ((dset ρ0 dirt zs).set i (some (.d (.int (lo + (k : Int)))))) μ (Ld dirt ρ0 n (J (k + 1)) Q))
    (h : J 0 μ) : ∃ fl μ2, forD (bindTg (.nm i)) (evSs P b) (upTo lo N) ρ0 μ = .ok fl μ2 ∧ Q fl μ2 := by
  refine for_d dirt n ok (fun ds μ => ∃ k, k ≤ N ∧ ds = upTo (lo + (k : Int)) (N - k) ∧ J k μ) ?_ ?_ ?_ ⟨0, Nat.zero_le _, by simp, h⟩
  · rintro ds μ ⟨k, _, _, h⟩
    exact hl k μ h
  · rintro zs μ hz ⟨k, hk, e, h⟩
    have e2 : N - k = 0 := by
      have := congrArg List.length e
      unfold upTo at this
      simp at this
      omega
    have : k = N := by omega
    subst this
    exact hn zs μ hz h
  · rintro x xs zs μ hz ⟨k, hk, e, h⟩
    have hlt : k < N := by
      apply Nat.lt_of_le_of_ne hk
      intro z
      rw [z, Nat.sub_self] at e
      cases e
    have e2 : N - k = (N - (k + 1)) + 1 := by omega
    rw [e2, upTo_cons] at e
    injection e with e3 e4
    subst e3
    refine ⟨_, rfl, ws_imp (hs k zs μ hlt hz h) fun fl μ2 ⟨h⟩ => ⟨?_⟩⟩
    have lift : ∀ μ', J (k + 1) μ' → ∃ k, k ≤ N ∧ xs = upTo (lo + (k : Int)) (N - k) ∧ J k μ' := fun μ' h => ⟨k + 1, hlt, by rw [e4]; congr 1; push_cast; omega, h⟩
    cases fl with
    | nx ρ' => exact ⟨h.1, h.2.imp (lift _) fun z => ⟨z.1, lift _ z.2⟩⟩
    | ct ρ' => exact ⟨h.1, h.2.imp (lift _) fun z => ⟨z.1, lift _ z.2⟩⟩
    | bk ρ' => exact h
    | rt x => exact h
    | ex e ρ' => exact h
/-- a loop that looks at each item and changes nothing -/
theorem for_all {tg : Tg} (dirt : List Nat) (ok : okEnv μ.length (wipeD ρ0 dirt)) {ds : List D} (good : D → Prop) (hg : ∀ x ∈ ds, good x)
    (hn : ∀ zs, zs.length = dirt.length → Q (.nx (dset ρ0 dirt zs)) μ)
    (hs : ∀ x zs, zs.length = dirt.length → good x → ∃ ρ1, bindTg tg x (dset ρ0 dirt zs) = some ρ1 ∧ WS P b ρ1 μ (Ld dirt ρ0 μ.length (fun m => m = μ) Q)) : ∃ fl μ2, forD (bindTg tg) (evSs P b) ds ρ0 μ = .ok fl μ2 ∧ Q fl μ2 := by
  refine for_d dirt μ.length ok (fun ds m => m = μ ∧ ∀ x ∈ ds, good x) (fun ds m h => by rw [h.1]) (fun zs m hz h => by rw [h.1]; exact hn zs hz) (fun x xs zs m hz h => ?_) ⟨rfl, hg⟩
  obtain ⟨rfl, hx⟩ := h
  obtain ⟨ρ1, e, h⟩ := hs x zs hz (hx x List.mem_cons_self)
  refine ⟨ρ1, e, ws_imp h fun fl μ2 ⟨h⟩ => ⟨?_⟩⟩
  have hr : ∀ y ∈ xs, good y := fun y hy => hx y (List.mem_cons_of_mem _ hy)
  cases fl with
  | nx ρ' => exact ⟨h.1, h.2.imp (fun z => ⟨z, hr⟩) fun z => ⟨z.1, z.2, hr⟩⟩
  | ct ρ' => exact ⟨h.1, h.2.imp (fun z => ⟨z, hr⟩) fun z => ⟨z.1, z.2, hr⟩⟩
  | bk ρ' => exact h
  | rt x => exact h
  | ex e ρ' => exact h
theorem for_rall {i : Nat} {lo : Int} (dirt : List Nat) (N : Nat) (ok : okEnv μ.length (wipeD ρ0 dirt))
    (hn : ∀ zs, zs.length = dirt.length → Q (.nx (dset ρ0 dirt zs)) μ)
    (hs : ∀ (k : Nat) zs, k < N → zs.length = dirt.length → WS P b ((dset ρ0 dirt zs).set i (some (.d (.int (lo + (k : Int)))))) μ (Ld dirt ρ0 μ.length (fun m => m = μ) Q)) : ∃ fl μ2, forD (bindTg (.nm i)) (evSs P b) (upTo lo N) ρ0 μ = .ok fl μ2 ∧ Q fl μ2 :=
  for_rd dirt μ.length N ok (fun _ m => m = μ) (fun _ m h => by rw [h]) (fun zs m hz h => by rw [h]; exact hn zs hz) (fun k zs m hk hz h => by subst h; exact hs k zs hk hz) rfl
end
theorem zs1 {α : Type} {zs : List α} (h : zs.length = 1) : ∃ a, zs = [a] := by
  match zs, h with
  | [a], _ => exact ⟨a, rfl⟩
theorem zs2 {α : Type} {zs : List α} (h : zs.length = 2) : ∃ a b, zs = [a, b] := by
  match zs, h with
  | [a, b], _ => exact ⟨a, b, rfl⟩
theorem zs3 {α : Type} {zs : List α} (h : zs.length = 3) : ∃ a b c, zs = [a, b, c] := by
  match zs, h with
  | [a, b, c], _ => exact ⟨a, b, c, rfl⟩
theorem zs4 {α : Type} {zs : List α} (h : zs.length = 4) : ∃ a b c d, zs = [a, b, c, d] := by
  match zs, h with
  | [a, b, c, d], _ => exact ⟨a, b, c, d, rfl⟩
theorem zs5 {α : Type} {zs : List α} (h : zs.length = 5) : ∃ a b c d e, zs = [a, b, c, d, e] := by
  match zs, h with
  | [a, b, c, d, e], _ => exact ⟨a, b, c, d, e, rfl⟩
/-! ### comprehensions, by rules -/
section
variable {P : Par} {ρ : Env} {μ : Mu} {K : X → Mu → Prop} {tg : Tg} {it : It} {elt : E} {own : List Nat} {t : T}
theorem we_lcP (h : WI P it ρ μ fun ds μ1 => ∃ f : D → D, ds.length ≤ 1000000 ∧ (∀ d ∈ ds, ∃ ρ1, bindTg tg d (wipeE ρ own) = some ρ1 ∧ WE P elt ρ1 μ1 fun x m => x = .d (f d) ∧ m = μ1) ∧ K (.d (.lst (ds.map f))) μ1) : WE P (.lc false tg it .none elt own) ρ μ K := by
  refine we_lcF ?_
  obtain ⟨ds, μ1, e, f, hl, h1, h2⟩ := h
  refine ⟨ds, μ1, e, fun _ => true, f, hl, fun d hd => ?_, by rw [List.filter_eq_self.mpr (fun _ _ => rfl)]; exact h2⟩
  obtain ⟨ρ1, e1, x, m, e2, rfl, rfl⟩ := h1 d hd
  exact ⟨ρ1, e1, by simp only [evA], fun _ => e2⟩
theorem we_lcQ (h : WI P it ρ μ fun ds μ1 => ∃ (q : D → Bool) (f : D → D), ds.length ≤ 1000000 ∧ (∀ d ∈ ds, ∃ ρ1, bindTg tg d (wipeE ρ own) = some ρ1 ∧ (WT P t ρ1 μ1 fun b m => b = q d ∧ m = μ1) ∧ (q d = true → WE P elt ρ1 μ1 fun x m => x = .d (f d) ∧ m = μ1)) ∧ K (.d (.lst ((ds.filter q).map f))) μ1) : WE P (.lc false tg it (.some t) elt own) ρ μ K := by
  refine we_lcF ?_
  obtain ⟨ds, μ1, e, q, f, hl, h1, h2⟩ := h
  refine ⟨ds, μ1, e, q, f, hl, fun d hd => ?_, h2⟩
  obtain ⟨ρ1, e1, ⟨b, m, e2, rfl, rfl⟩, h3⟩ := h1 d hd
  refine ⟨ρ1, e1, by simp only [evA]; exact e2, fun hq => ?_⟩
  obtain ⟨x, m, e3, rfl, rfl⟩ := h3 hq
  exact e3
/-- .. whose turns draw: J of the items left and the items made -/
theorem lcD_J {ρw : Env} {n : Nat} (J : List D → List D → Mu → Prop) (hJ : ∀ ds acc μ, J ds acc μ → μ.length = n ∧ acc.length + ds.length ≤ 1000000) (hs : ∀ x xs acc μ, J (x :: xs) acc μ → ∃ ρ1, bindTg tg x ρw = some ρ1 ∧ WE P elt ρ1 μ fun y m => ∃ d, y = .d d ∧ J xs (acc ++ [d]) m) :
    ∀ (ds acc : List D) (μ : Mu), J ds acc μ → ∃ out μ2, lcD (bindTg tg) (evA P .none) (evE P elt) ρw ds acc μ = .ok out μ2 ∧ J [] out μ2
  | [], acc, μ, h => ⟨acc, μ, rfl, h⟩
  | x :: xs, acc, μ, h => by
    obtain ⟨ρ1, e1, y, m, e2, d, rfl, h2⟩ := hs x xs acc μ h
    obtain ⟨l1, l2⟩ := hJ _ _ _ h
    obtain ⟨l3, _⟩ := hJ _ _ _ h2
    simp only [List.length_cons] at l2
    have hz : sizeOk acc = true := by unfold sizeOk; exact decide_eq_true (by omega)
    obtain ⟨out, μ2, e3, h3⟩ := lcD_J J hJ hs xs (acc ++ [d]) m h2
    refine ⟨out, μ2, ?_, h3⟩
    simp only [lcD, e1, evA, e2, hz, if_true]
    rw [tidy_len (by rw [l3, l1])]
    exact e3
theorem we_lcJ {n : Nat} (h : WI P it ρ μ fun ds μ1 => ∃ J : List D → List D → Mu → Prop, (∀ ds acc μ, J ds acc μ → μ.length = n ∧ acc.length + ds.length ≤ 1000000) ∧ (∀ x xs acc μ, J (x :: xs) acc μ → ∃ ρ1, bindTg tg x (wipeE ρ own) = some ρ1 ∧ WE P elt ρ1 μ fun y m => ∃ d, y = .d d ∧ J xs (acc ++ [d]) m) ∧ J ds [] μ1 ∧ ∀ out m, J [] out m → K (.d (.lst out)) m) : WE P (.lc false tg it .none elt own) ρ μ K := by
  obtain ⟨ds, μ1, e, J, h1, h2, h3, h4⟩ := h
  obtain ⟨out, μ2, e2, h5⟩ := lcD_J J h1 h2 ds [] μ1 h3
  refine ⟨_, μ2, ?_, h4 out μ2 h5⟩
  have hz : out.length ≤ 1000000 := by
    have := (h1 _ _ _ h5).2
    simpa using this
  simp only [evE, e, R.bind, e2, allocF hz]
end
theorem wc_imp {C : CallF} {j : Nat} {xs : List X} {μ : Mu} {K K' : X → Mu → Prop} (h : WC1 C j xs μ K) (i : ∀ x μ, K x μ → K' x μ) : WC1 C j xs μ K' := by
  obtain ⟨x, μ1, e, h⟩ := h
  exact ⟨x, μ1, e, i _ _ h⟩
/-! ### the draws' helpers -/
def bBetween (jt : Nat) : Ss := (.cons (.ret (.bin .add (.var 1) (.call jt (.cons (.var 0) (.cons (.bin .add (.bin .sub (.var 2) (.var 1)) (.con (.int 1))) .nil)) []))) .nil)
def bEdge (jt jb : Nat) : Ss := (.cons (.set 3 (.call jt (.cons (.var 0) (.cons (.con (.int 12)) .nil)) [])) (.cons (.ite (.cmp .lt (.var 3) (.con (.int 4))) (.cons (.ret (.idx (.lst false (.cons (.var 1) (.cons (.var 2) (.cons (.blt false .min2 (.cons (.bin .add (.var 1) (.con (.int 1))) (.cons (.var 2) .nil))) (.cons (.blt false .max2 (.cons (.bin .sub (.var 2) (.con (.int 1))) (.cons (.var 1) .nil))) .nil))))) (.var 3))) .nil) .nil) (.cons (.ite (.cmp .lt (.var 3) (.con (.int 8))) (.cons (.ret (.call jb (.cons (.var 0) (.cons (.var 1) (.cons (.blt false .min2 (.cons (.bin .add (.var 1) (.con (.int 9))) (.cons (.var 2) .nil))) .nil))) [])) .nil) .nil) (.cons (.ret (.call jb (.cons (.var 0) (.cons (.var 1) (.cons (.var 2) .nil))) [])) .nil))))
def bStore : Ss := (.cons (.ret (.lst true (.cons (.lc false (.nm 1) (.seq (.var 0)) .none (.blt false .int (.cons (.var 1) .nil)) [1]) (.cons (.con (.int 0)) (.cons (.con (.int 0)) (.cons (.con (.int 0)) (.cons (.blt false .len (.cons (.var 0) .nil)) .nil))))))) .nil)
section
variable {T : Tab} {W n jt jb je js : Nat} {μ : Mu} {k : Nat} {cs : List Int} {N m lo hi : Int} {K : X → Mu → Prop}
theorem between_wc (hT : T.fns[jt]? = some ⟨2, 5, bTake⟩) (hB : T.fns[jb]? = some ⟨3, 3, bBetween jt⟩) (hW : 1000 ≤ W) (h : St μ k cs N) (hN : N < 2 ^ 63) (hle : lo ≤ hi) (hm : hi - lo < 2 ^ 3999)
    (hK : ∀ z nd, lo ≤ z → z ≤ hi → St (μ.set k (some nd)) k cs (N + 1) → K (.d (.int z)) (μ.set k (some nd))) : WC1 (callD T W (n + 2)) jb [.r k, .d (.int lo), .d (.int hi)] μ K := by
  refine wc_of hB rfl ?_
  show WS _ (bBetween jt) [some (.r k), some (.d (.int lo)), some (.d (.int hi))] μ _
  unfold bBetween
  walk_at "s"
  have e1 : (2 : Int) ^ 4000 = 2 * 2 ^ 3999 := by
    have : (2 : Int) ^ (3999 + 1) = 2 ^ 3999 * 2 := Int.pow_succ 2 3999
    omega
  have e2 : (1 : Int) ≤ 2 ^ 3999 := by
    have : (0 : Int) < 2 ^ 3999 := Int.pow_pos (by decide)
    omega
  refine take_wc (n := n) hT hW h hN (by omega) fun z nd h1 h2 h3 => ?_
  walk_at "s"
  exact fq_d (by simp) (hK _ _ (by omega) (by omega) h3)
theorem int_small {i : Int} (h0 : -(2 ^ 62) ≤ i) (h1 : i < 2 ^ 62) : small i = true := by
  unfold small
  rw [decide_eq_true h0, decide_eq_true h1]
  rfl
theorem edge_wc (hT : T.fns[jt]? = some ⟨2, 5, bTake⟩) (hB : T.fns[jb]? = some ⟨3, 3, bBetween jt⟩) (hE : T.fns[je]? = some ⟨3, 4, bEdge jt jb⟩) (hW : 1000 ≤ W) (h : St μ k cs N) (hN : N < 2 ^ 62) (hle : lo ≤ hi) (hm : hi - lo < 2 ^ 3999)
    (hK : ∀ z nd, lo ≤ z → z ≤ hi → St (μ.set k (some nd)) k cs (N + 2) → K (.d (.int z)) (μ.set k (some nd))) : WC1 (callD T W (n + 3)) je [.r k, .d (.int lo), .d (.int hi)] μ K := by
  refine wc_of hE rfl ?_
  show WS _ (bEdge jt jb) [some (.r k), some (.d (.int lo)), some (.d (.int hi)), none] μ _
  unfold bEdge
  walk_at "s"
  refine take_wc (n := n + 1) hT hW h (by omega) (by decide) fun z nd h1 h2 h3 => ?_
  have done : ∀ z, lo ≤ z → z ≤ hi → Fq μ K (.rt (.d (.int z))) (μ.set k (some nd)) := fun z g1 g2 => fq_d (by simp) (hK z nd g1 g2 (h3.more (by omega)))
  have out : ∀ lo' hi', lo ≤ lo' → lo' ≤ hi' → hi' ≤ hi → WC1 (callD T W (n + 2)) jb [.r k, .d (.int lo'), .d (.int hi')] (μ.set k (some nd)) fun x μ1 => Fq μ K (.rt x) μ1 := by
    intro lo' hi' g1 g2 g3
    refine between_wc (n := n) hT hB hW h3 (by omega) g2 (by omega) fun z' nd' q1 q2 q3 => ?_
    rw [List.set_set] at q3 ⊢
    have e : N + 1 + 1 = N + 2 := by omega
    rw [e] at q3
    exact fq_d (by simp) (hK z' nd' (by omega) (by omega) q3)
  walk_at "s"
  refine ws_ite ?_
  walk_at "x"
  refine ⟨fun b => ?_, fun b => ?_⟩
  · have b : z < 4 := dt b
    walk_at "x"
    have hz : z = 0 ∨ z = 1 ∨ z = 2 ∨ z = 3 := by omega
    rcases hz with rfl | rfl | rfl | rfl
    · walk_at "s"
      exact done _ (by omega) (by omega)
    · walk_at "s"
      exact done _ (by omega) (by omega)
    · walk_at "s"
      refine done _ ?_ ?_ <;> split <;> omega
    · walk_at "s"
      refine done _ ?_ ?_ <;> split <;> omega
  · have b : ¬ z < 4 := df b
    refine ws_nil (kq_nx (ws_ite ?_))
    walk_at "x"
    refine ⟨fun b => ?_, fun b => ?_⟩
    · walk_at "s"
      refine wc_imp (out _ _ (Int.le_refl _) ?_ ?_) fun x μ h => kq_rt h
      all_goals (split <;> omega)
    · refine ws_nil (kq_nx ?_)
      walk_at "s"
      exact out _ _ (Int.le_refl _) hle (Int.le_refl _)
end
end DL

/-! PL5: the same, ints, the store. -/
namespace DL
open PySem L2
/- one step; what has one way only; a step with the choices -/
local macro_rules | `(tactic| walk_at "1s") => `(tactic| first | refine we_var rfl ?_ | refine we_con ?_ | refine wa_cons ?_ | refine wa_nil ?_ | refine asI_mk ?_ | refine asZ_mk ?_ | refine asD_mk ?_ | refine we_idx ?_ | refine asV_d ?_ | refine we_call ?_ | refine we_bin ?_ | refine asOp_int ?_ | refine we_cmp ?_ | refine asCmp_mk rfl ?_ | refine wt_cmp ?_ | refine we_blt ?_ | refine asO_mk ?_ | refine asB_mk ?_ | refine asG_mk (Nat.le_of_ble_eq_true rfl) ?_ | refine asG_mk (by decide) ?_ | refine asG_mk rfl ?_ | refine wt_val ?_ | refine wt_not ?_ | refine asW_d ?_ | refine we_glo rfl ?_ | refine we_tup ?_ | refine we_lstF ?_ | refine we_lstT ?_ | refine we_isi ?_ | refine wt_isi ?_ | refine we_not ?_ | refine we_neg ?_ | refine asNeg_int ?_ | refine we_fmt ?_ | refine we_jn1 ?_ | refine we_jn ?_ | refine wj_cons ?_ | refine wj_nil ?_ | refine asSt_mk ?_ | refine asZ_mod (by decide) ?_ | refine asZ_mul (by omega) (by omega) (by decide) ?_ | refine asZ_mulS (by omega) (by omega) (by omega) (by omega) ?_ | refine asZ_div (by decide +kernel) ?_ | refine asZ_pow (by decide +kernel) ?_ | refine asR_mk ?_ | refine as1_mk ?_ | refine asT_mk ?_ | refine asS_l ?_ | refine asS_t ?_ | refine asS_k ?_ | refine asS_s ?_ | refine wi_seq ?_ | refine wi_rng1 ?_ | refine wi_rng2 ?_ | refine wi_enum ?_ | refine we_app ?_ | refine we_sl ?_ | refine wo_none ?_ | refine wo_some ?_ | refine we_rv ?_ | refine we_dicF ?_ | refine we_fld ?_ | refine asOp_tup (Nat.le_of_ble_eq_true rfl) ?_ | refine asOp_str (by decide +kernel) ?_ | (apply asV_r; assumption) | (apply asW_r; assumption) | (apply asC_mk; assumption) | refine ws_set ?_ | refine kq_nx ?_ | refine kq_rt ?_ | refine ws_ret ?_ | refine ws_nil ?_ | refine ws_ex ?_ | refine ws_unp ?_ | refine ws_pass ?_ | refine kq_bk ?_ | refine kq_ct ?_ | fail)
local macro_rules | `(tactic| walk_at "1c") => `(tactic| first | refine ws_ite ?_ | refine wt_bop ?_ | refine wt_bop1 ?_ | refine wt_chain ?_ | refine we_bop ?_ | refine we_bop1 ?_ | refine we_ife ?_ | refine we_chain ?_ | refine ws_par ?_ | refine ⟨fun _ => ?_, fun h => absurd (show (false : Bool) = true from h) Bool.false_ne_true⟩ | refine ⟨fun _ => ?_, fun h => absurd (show (true : Bool) = false from h).symm Bool.false_ne_true⟩ | refine ⟨fun h => absurd (show (true : Bool) = false from h).symm Bool.false_ne_true, fun _ => ?_⟩ | refine ⟨fun h => absurd (show (false : Bool) = true from h) Bool.false_ne_true, fun _ => ?_⟩ | fail)
local macro_rules | `(tactic| walk_at "x") => `(tactic| repeat (first | refine we_var rfl ?_ | refine we_con ?_ | refine wa_cons ?_ | refine wa_nil ?_ | refine asI_mk ?_ | refine asZ_mk ?_ | refine asD_mk ?_ | refine we_idx ?_ | refine asV_d ?_ | refine we_call ?_ | refine we_bin ?_ | refine asOp_int ?_ | refine we_cmp ?_ | refine asCmp_mk rfl ?_ | refine wt_cmp ?_ | refine we_blt ?_ | refine asO_mk ?_ | refine asB_mk ?_ | refine asG_mk (Nat.le_of_ble_eq_true rfl) ?_ | refine asG_mk (by decide) ?_ | refine asG_mk rfl ?_ | refine wt_val ?_ | refine wt_not ?_ | refine asW_d ?_ | refine we_glo rfl ?_ | refine we_tup ?_ | refine we_lstF ?_ | refine we_lstT ?_ | refine we_isi ?_ | refine wt_isi ?_ | refine we_not ?_ | refine we_neg ?_ | refine asNeg_int ?_ | refine we_fmt ?_ | refine we_jn1 ?_ | refine we_jn ?_ | refine wj_cons ?_ | refine wj_nil ?_ | refine asSt_mk ?_ | refine asZ_mod (by decide) ?_ | refine asZ_mul (by omega) (by omega) (by decide) ?_ | refine asZ_mulS (by omega) (by omega) (by omega) (by omega) ?_ | refine asZ_div (by decide +kernel) ?_ | refine asZ_pow (by decide +kernel) ?_ | refine asR_mk ?_ | refine as1_mk ?_ | refine asT_mk ?_ | refine asS_l ?_ | refine asS_t ?_ | refine asS_k ?_ | refine asS_s ?_ | refine wi_seq ?_ | refine wi_rng1 ?_ | refine wi_rng2 ?_ | refine wi_enum ?_ | refine we_app ?_ | refine we_sl ?_ | refine wo_none ?_ | refine wo_some ?_ | refine we_rv ?_ | refine we_dicF ?_ | refine we_fld ?_ | refine asOp_tup (Nat.le_of_ble_eq_true rfl) ?_ | refine asOp_str (by decide +kernel) ?_ | (apply asV_r; assumption) | (apply asW_r; assumption) | (apply asC_mk; assumption) | fail))
local macro_rules | `(tactic| walk_at "s") => `(tactic| repeat (first | refine we_var rfl ?_ | refine we_con ?_ | refine wa_cons ?_ | refine wa_nil ?_ | refine asI_mk ?_ | refine asZ_mk ?_ | refine asD_mk ?_ | refine we_idx ?_ | refine asV_d ?_ | refine we_call ?_ | refine we_bin ?_ | refine asOp_int ?_ | refine we_cmp ?_ | refine asCmp_mk rfl ?_ | refine wt_cmp ?_ | refine we_blt ?_ | refine asO_mk ?_ | refine asB_mk ?_ | refine asG_mk (Nat.le_of_ble_eq_true rfl) ?_ | refine asG_mk (by decide) ?_ | refine asG_mk rfl ?_ | refine wt_val ?_ | refine wt_not ?_ | refine asW_d ?_ | refine we_glo rfl ?_ | refine we_tup ?_ | refine we_lstF ?_ | refine we_lstT ?_ | refine we_isi ?_ | refine wt_isi ?_ | refine we_not ?_ | refine we_neg ?_ | refine asNeg_int ?_ | refine we_fmt ?_ | refine we_jn1 ?_ | refine we_jn ?_ | refine wj_cons ?_ | refine wj_nil ?_ | refine asSt_mk ?_ | refine asZ_mod (by decide) ?_ | refine asZ_mul (by omega) (by omega) (by decide) ?_ | refine asZ_mulS (by omega) (by omega) (by omega) (by omega) ?_ | refine asZ_div (by decide +kernel) ?_ | refine asZ_pow (by decide +kernel) ?_ | refine asR_mk ?_ | refine as1_mk ?_ | refine asT_mk ?_ | refine asS_l ?_ | refine asS_t ?_ | refine asS_k ?_ | refine asS_s ?_ | refine wi_seq ?_ | refine wi_rng1 ?_ | refine wi_rng2 ?_ | refine wi_enum ?_ | refine we_app ?_ | refine we_sl ?_ | refine wo_none ?_ | refine wo_some ?_ | refine we_rv ?_ | refine we_dicF ?_ | refine we_fld ?_ | refine asOp_tup (Nat.le_of_ble_eq_true rfl) ?_ | refine asOp_str (by decide +kernel) ?_ | (apply asV_r; assumption) | (apply asW_r; assumption) | (apply asC_mk; assumption) | refine ws_set ?_ | refine kq_nx ?_ | refine kq_rt ?_ | refine ws_ret ?_ | refine ws_nil ?_ | refine ws_ex ?_ | refine ws_unp ?_ | refine ws_pass ?_ | refine kq_bk ?_ | refine kq_ct ?_ | fail))
local macro_rules | `(tactic| walk_at "g") => `(tactic| repeat (first | refine we_var rfl ?_ | refine we_con ?_ | refine wa_cons ?_ | refine wa_nil ?_ | refine asI_mk ?_ | refine asZ_mk ?_ | refine asD_mk ?_ | refine we_idx ?_ | refine asV_d ?_ | refine we_call ?_ | refine we_bin ?_ | refine asOp_int ?_ | refine we_cmp ?_ | refine asCmp_mk rfl ?_ | refine wt_cmp ?_ | refine we_blt ?_ | refine asO_mk ?_ | refine asB_mk ?_ | refine asG_mk (Nat.le_of_ble_eq_true rfl) ?_ | refine asG_mk (by decide) ?_ | refine asG_mk rfl ?_ | refine wt_val ?_ | refine wt_not ?_ | refine asW_d ?_ | refine we_glo rfl ?_ | refine we_tup ?_ | refine we_lstF ?_ | refine we_lstT ?_ | refine we_isi ?_ | refine wt_isi ?_ | refine we_not ?_ | refine we_neg ?_ | refine asNeg_int ?_ | refine we_fmt ?_ | refine we_jn1 ?_ | refine we_jn ?_ | refine wj_cons ?_ | refine wj_nil ?_ | refine asSt_mk ?_ | refine asZ_mod (by decide) ?_ | refine asZ_mul (by omega) (by omega) (by decide) ?_ | refine asZ_mulS (by omega) (by omega) (by omega) (by omega) ?_ | refine asZ_div (by decide +kernel) ?_ | refine asZ_pow (by decide +kernel) ?_ | refine asR_mk ?_ | refine as1_mk ?_ | refine asT_mk ?_ | refine asS_l ?_ | refine asS_t ?_ | refine asS_k ?_ | refine asS_s ?_ | refine wi_seq ?_ | refine wi_rng1 ?_ | refine wi_rng2 ?_ | refine wi_enum ?_ | refine we_app ?_ | refine we_sl ?_ | refine wo_none ?_ | refine wo_some ?_ | refine we_rv ?_ | refine we_dicF ?_ | refine we_fld ?_ | refine asOp_tup (Nat.le_of_ble_eq_true rfl) ?_ | refine asOp_str (by decide +kernel) ?_ | (apply asV_r; assumption) | (apply asW_r; assumption) | (apply asC_mk; assumption) | refine ws_set ?_ | refine kq_nx ?_ | refine kq_rt ?_ | refine ws_ret ?_ | refine ws_nil ?_ | refine ws_ex ?_ | refine ws_unp ?_ | refine ws_pass ?_ | refine kq_bk ?_ | refine kq_ct ?_ | refine ws_ite ?_ | refine wt_bop ?_ | refine wt_bop1 ?_ | refine wt_chain ?_ | refine we_bop ?_ | refine we_bop1 ?_ | refine we_ife ?_ | refine we_chain ?_ | refine ws_par ?_ | refine ⟨fun _ => ?_, fun h => absurd (show (false : Bool) = true from h) Bool.false_ne_true⟩ | refine ⟨fun _ => ?_, fun h => absurd (show (true : Bool) = false from h).symm Bool.false_ne_true⟩ | refine ⟨fun h => absurd (show (true : Bool) = false from h).symm Bool.false_ne_true, fun _ => ?_⟩ | refine ⟨fun h => absurd (show (false : Bool) = true from h) Bool.false_ne_true, fun _ => ?_⟩ | refine ⟨fun _ => ?_, fun h => absurd (of_decide_eq_true h) (by omega)⟩ | refine ⟨fun h => absurd (of_decide_eq_true h) (by omega), fun _ => ?_⟩ | refine ⟨fun _ => ?_, fun h => absurd (by omega) (of_decide_eq_false h)⟩ | refine ⟨fun h => absurd (by omega) (of_decide_eq_false h), fun _ => ?_⟩ | refine ⟨fun _ => ?_, fun h => absurd h (by decide +kernel)⟩ | refine ⟨fun h => absurd h (by decide +kernel), fun _ => ?_⟩ | fail))
def bIsInt : Ss := (.cons (.ret (.bop true (.cons (.isi (.var 0) [.int]) (.cons (.not (.isi (.var 0) [.bool])) .nil)))) .nil)
def bSame (js : Nat) : Ss := (.cons (.ite (.bop false (.cons (.cmp .is_ (.var 0) (.con .non)) (.cons (.cmp .is_ (.var 1) (.con .non)) .nil))) (.cons (.ret (.bop true (.cons (.cmp .is_ (.var 0) (.con .non)) (.cons (.cmp .is_ (.var 1) (.con .non)) .nil)))) .nil) .nil) (.cons (.ite (.bop false (.cons (.isi (.var 0) [.bool]) (.cons (.isi (.var 1) [.bool]) .nil))) (.cons (.ret (.bop true (.cons (.isi (.var 0) [.bool]) (.cons (.isi (.var 1) [.bool]) (.cons (.cmp .eq (.var 0) (.var 1)) .nil))))) .nil) .nil) (.cons (.ite (.isi (.var 0) [.int]) (.cons (.ret (.bop true (.cons (.isi (.var 1) [.int]) (.cons (.cmp .eq (.var 0) (.var 1)) .nil)))) .nil) .nil) (.cons (.ite (.isi (.var 0) [.str]) (.cons (.ret (.bop true (.cons (.isi (.var 1) [.str]) (.cons (.cmp .eq (.var 0) (.var 1)) .nil)))) .nil) .nil) (.cons (.ite (.bop false (.cons (.cmp .ne (.isi (.var 0) [.lst]) (.isi (.var 1) [.lst])) (.cons (.cmp .ne (.isi (.var 0) [.tup]) (.isi (.var 1) [.tup])) .nil))) (.cons (.ret (.con (.bl false))) .nil) .nil) (.cons (.ite (.bop true (.cons (.not (.isi (.var 0) [.lst])) (.cons (.not (.isi (.var 0) [.tup])) .nil))) (.cons (.ret (.con (.bl false))) .nil) .nil) (.cons (.ite (.cmp .ne (.blt false .len (.cons (.var 0) .nil)) (.blt false .len (.cons (.var 1) .nil))) (.cons (.ret (.con (.bl false))) .nil) .nil) (.cons (.for_ (.nm 2) (.rng1 (.blt false .len (.cons (.var 0) .nil))) (.cons (.ite (.not (.val (.call js (.cons (.idx (.var 0) (.var 2)) (.cons (.idx (.var 1) (.var 2)) .nil)) []))) (.cons (.ret (.con (.bl false))) .nil) .nil) .nil)) (.cons (.ret (.con (.bl true))) .nil)))))))))
def bAreInts (ji : Nat) : Ss := (.cons (.ite (.bop false (.cons (.bop true (.cons (.not (.isi (.var 0) [.lst])) (.cons (.val (.var 1)) .nil))) (.cons (.bop true (.cons (.not (.isi (.var 0) [.tup])) (.cons (.not (.val (.var 1))) .nil))) .nil))) (.cons (.ret (.con (.bl false))) .nil) .nil) (.cons (.for_ (.nm 2) (.seq (.var 0)) (.cons (.ite (.not (.val (.call ji (.cons (.var 2) .nil) []))) (.cons (.ret (.con (.bl false))) .nil) .nil) .nil)) (.cons (.ret (.con (.bl true))) .nil)))
mutual
def plainD : D → Bool
  | .non => true
  | .bl _ => true
  | .int _ => true
  | .str _ => true
  | .lst xs => decide (xs.length ≤ 1000000) && plainDs xs
  | .tup xs => decide (xs.length ≤ 1000000) && plainDs xs
  | _ => false
def plainDs : List D → Bool
  | [] => true
  | x :: xs => plainD x && plainDs xs
end
mutual
def dpt : D → Nat
  | .lst xs => dpts xs + 1
  | .tup xs => dpts xs + 1
  | _ => 0
def dpts : List D → Nat
  | [] => 0
  | x :: xs => max (dpt x) (dpts xs)
end
theorem plain_get : ∀ {xs : List D} {i : Nat} {d : D}, plainDs xs = true → xs[i]? = some d → plainD d = true ∧ dpt d ≤ dpts xs
  | [], i, d, _, e => by simp at e
  | x :: xs, 0, d, h, e => by
    simp at e
    subst e
    simp only [plainDs, Bool.and_eq_true] at h
    exact ⟨h.1, by simp only [dpts]; omega⟩
  | x :: xs, i + 1, d, h, e => by
    simp only [plainDs, Bool.and_eq_true] at h
    have := plain_get (i := i) h.2 (by simpa using e)
    exact ⟨this.1, by simp only [dpts]; omega⟩
mutual
/-- the laws' own likeness of plain values -/
def sameD : D → D → Bool
  | .non, b => (match b with | .non => true | _ => false)
  | .bl a, b => (match b with | .bl c => decide (a = c) | _ => false)
  | .int a, b => (match b with | .int c => decide (a = c) | _ => false)
  | .str a, b => (match b with | .str c => decide (a = c) | _ => false)
  | .lst xs, b => (match b with | .lst ys => sames xs ys | _ => false)
  | .tup xs, b => (match b with | .tup ys => sames xs ys | _ => false)
  | _, _ => false
def sames : List D → List D → Bool
  | [], ys => ys.isEmpty
  | x :: xs, ys => (match ys with | y :: ys => sameD x y && sames xs ys | [] => false)
end
theorem sames_cons {x y : D} {xs ys : List D} : sames (x :: xs) (y :: ys) = (sameD x y && sames xs ys) := by rw [sames]
theorem sames_len : ∀ {xs ys : List D}, xs.length ≠ ys.length → sames xs ys = false
  | [], [], h => absurd rfl h
  | [], _ :: _, _ => rfl
  | _ :: _, [], _ => rfl
  | x :: xs, y :: ys, h => by
    rw [sames_cons, sames_len (xs := xs) (ys := ys) (by simpa using h), Bool.and_false]
theorem sames_all : ∀ {xs ys : List D}, xs.length = ys.length → (∀ (i : Nat) (x y : D), xs[i]? = some x → ys[i]? = some y → sameD x y = true) → sames xs ys = true
  | [], [], _, _ => rfl
  | [], _ :: _, h, _ => by cases h
  | _ :: _, [], h, _ => by cases h
  | x :: xs, y :: ys, h, ha => by
    rw [sames_cons, ha 0 x y rfl rfl, sames_all (by simpa using h) fun i a b h1 h2 => ha (i + 1) a b (by simpa using h1) (by simpa using h2)]
    rfl
theorem sames_at : ∀ {xs ys : List D} {i : Nat} {x y : D}, xs[i]? = some x → ys[i]? = some y → sameD x y = false → sames xs ys = false
  | [], ys, i, x, y, h, _, _ => by simp at h
  | _ :: _, [], i, x, y, _, h, _ => by simp at h
  | a :: xs, b :: ys, 0, x, y, h1, h2, h => by
    simp at h1 h2
    subst h1 h2
    rw [sames_cons, h, Bool.false_and]
  | a :: xs, b :: ys, i + 1, x, y, h1, h2, h => by
    rw [sames_cons, sames_at (i := i) (by simpa using h1) (by simpa using h2) h, Bool.and_false]
mutual
theorem sameD_self : ∀ {a : D}, plainD a = true → sameD a a = true
  | .non, _ => rfl
  | .bl b, _ => by simp [sameD]
  | .int b, _ => by simp [sameD]
  | .str b, _ => by simp [sameD]
  | .lst xs, h => by
    simp only [plainD, Bool.and_eq_true] at h
    exact sames_self h.2
  | .tup xs, h => by
    simp only [plainD, Bool.and_eq_true] at h
    exact sames_self h.2
  | .kls _, h => by cases h
  | .dic _, h => by cases h
  | .kdic _, h => by cases h
  | .ins _ _, h => by cases h
  | .fn _, h => by cases h
  | .cls _, h => by cases h
theorem sames_self : ∀ {xs : List D}, plainDs xs = true → sames xs xs = true
  | [], _ => rfl
  | x :: xs, h => by
    simp only [plainDs, Bool.and_eq_true] at h
    rw [sames_cons, sameD_self h.1, sames_self h.2]
    rfl
end
section
variable {T : Tab} {W n jt jb je js ji : Nat} {μ : Mu} {K : X → Mu → Prop}
/-- what a list is to the tests -/
theorem lst_facts {x : X} {ds : List D} (h : viewS μ x = some (.lst ds)) : isN x = false ∧ tyKnown μ x = true ∧ isTy μ x .bool = false ∧ isTy μ x .int = false ∧ isTy μ x .str = false ∧ isTy μ x .lst = true ∧ isTy μ x .tup = false := by
  cases x with
  | d d => cases d <;> first | exact ⟨rfl, rfl, rfl, rfl, rfl, rfl, rfl⟩ | (simp [viewS, view, unk] at h; done)
  | r k =>
    refine ⟨rfl, ?_, rfl, rfl, rfl, ?_, rfl⟩
    · unfold viewS view at h
      dsimp only at h
      unfold tyKnown
      dsimp only
      split at h
      · rfl
      · cases h
    · simp only [isTy, h]
theorem tup_facts {x : X} {ds : List D} (h : viewS μ x = some (.tup ds)) : x = .d (.tup ds) := by
  cases x with
  | d d =>
    cases d with
    | tup xs =>
      simp [viewS, view, unk] at h
      rw [h]
    | _ => simp [viewS, view, unk] at h
  | r k =>
    unfold viewS view at h
    dsimp only at h
    split at h
    · rename_i n q
      cases n <;> cases h
    · cases h
theorem asV_of {x : X} {d : D} {K : D → Prop} (e : viewS μ x = some d) (h : K d) : asV μ x K := ⟨d, e, h⟩
theorem len_list {x : X} {ds : List D} (h : viewS μ x = some (.lst ds)) : bltD μ false .len [x] = .ok (.d (.int ds.length)) μ := by
  simp only [bltD, h]
theorem at_nat {ds : List D} {i : Nat} {d : D} (h : ds[i]? = some d) : atI ds (i : Int) = some d := by
  have hl := (List.getElem?_eq_some_iff.mp h).1
  simp only [atI, ixN]
  rw [if_pos (Int.natCast_nonneg i), if_pos (by exact_mod_cast hl)]
  simpa using h
/-- two lists -/
theorem same_ll (hT : T.fns[js]? = some ⟨2, 3, bSame js⟩) {x y : X} {xs ys : List D} (hx : viewS μ x = some (.lst xs)) (hy : viewS μ y = some (.lst ys)) (hl : xs.length < 2 ^ 62) (okx : okEnv μ.length [some x]) (oky : okEnv μ.length [some y])
    (ih : ∀ (i : Nat) (a b : D), xs[i]? = some a → ys[i]? = some b → ∀ K : X → Mu → Prop, K (.d (.bl (sameD a b))) μ → WC1 (callD T W n) js [.d a, .d b] μ K) (h : K (.d (.bl (sames xs ys))) μ) : WC1 (callD T W (n + 1)) js [x, y] μ K := by
  refine wc_of hT rfl ?_
  show WS _ (bSame js) [some x, some y, none] μ _
  unfold bSame
  obtain ⟨x1, x2, x3, x4, x5, x6, x7⟩ := lst_facts hx
  obtain ⟨y1, y2, y3, y4, y5, y6, y7⟩ := lst_facts hy
  have e1 : (!isTy μ x .lst) = false := by rw [x6]; rfl
  have e2 : (!decide (isTy μ x .lst = isTy μ y .lst)) = false := by rw [x6, y6]; rfl
  have e3 : (!decide (isTy μ x .tup = isTy μ y .tup)) = false := by rw [x7, y7]; rfl
  repeat (first
    | walk_at "1s" | walk_at "1c"
    | refine asG_mk x2 ?_ | refine asG_mk y2 ?_ | refine asO_of (len_list hx) ?_ | refine asO_of (len_list hy) ?_
    | refine ⟨fun _ => ?_, fun h => absurd (x1.symm.trans h) Bool.false_ne_true⟩ | refine ⟨fun _ => ?_, fun h => absurd (y1.symm.trans h) Bool.false_ne_true⟩
    | refine ⟨fun h => absurd (y1.symm.trans h) Bool.false_ne_true, fun _ => ?_⟩
    | refine ⟨fun _ => ?_, fun h => absurd (x3.symm.trans h) Bool.false_ne_true⟩ | refine ⟨fun h => absurd (y3.symm.trans h) Bool.false_ne_true, fun _ => ?_⟩
    | refine ⟨fun h => absurd (x4.symm.trans h) Bool.false_ne_true, fun _ => ?_⟩ | refine ⟨fun h => absurd (x5.symm.trans h) Bool.false_ne_true, fun _ => ?_⟩
    | refine ⟨fun _ => ?_, fun h => absurd (e2.symm.trans h) Bool.false_ne_true⟩ | refine ⟨fun h => absurd (e3.symm.trans h) Bool.false_ne_true, fun _ => ?_⟩
    | refine ⟨fun h => absurd (e1.symm.trans h) Bool.false_ne_true, fun _ => ?_⟩
    | fail)
  refine ⟨fun b => ?_, fun b => ?_⟩
  · have hne : xs.length ≠ ys.length := fun e => by
      have b : (!decide ((xs.length : Int) = (ys.length : Int))) = true := b
      rw [e, decide_eq_true rfl] at b
      cases b
    rw [sames_len hne] at h
    walk_at "s"
    exact fq_d rfl h
  have hle : xs.length = ys.length := by
    have b : (!decide ((xs.length : Int) = (ys.length : Int))) = false := b
    by_cases e : (xs.length : Int) = (ys.length : Int)
    · exact_mod_cast e
    · rw [decide_eq_false e] at b
      cases b
  refine ws_nil (kq_nx ?_)
  refine ws_for (wi_rng1 (we_blt (wa_cons (we_var rfl (wa_nil (asO_of (len_list hx) (asI_mk (asG_mk (int_small (by omega) (by omega)) ?_))))))))
  rw [Int.toNat_natCast]
  refine for_rd (Q := Kq _ _ _) [2] μ.length xs.length ?_ (fun k m => m = μ ∧ ∀ (i : Nat) (a b : D), i < k → xs[i]? = some a → ys[i]? = some b → sameD a b = true) (fun k m hm => by rw [hm.1]) ?_ ?_ ⟨rfl, fun i a b hi => absurd hi (Nat.not_lt_zero i)⟩
  · cases x <;> cases y <;> first | exact ⟨okx.1, oky.1, trivial⟩ | exact ⟨okx.1, trivial⟩ | exact ⟨oky.1, trivial⟩ | exact trivial
  · rintro zs m hz ⟨rfl, ha⟩
    obtain ⟨z, rfl⟩ := zs1 hz
    have e : sames xs ys = true := sames_all hle fun i a b h1 h2 => ha i a b (List.getElem?_eq_some_iff.mp h1).1 h1 h2
    rw [e] at h
    walk_at "s"
    exact fq_d rfl h
  · rintro i zs m hi hz ⟨rfl, ha⟩
    obtain ⟨z, rfl⟩ := zs1 hz
    rw [Int.zero_add]
    obtain ⟨a, hda⟩ : ∃ d, xs[i]? = some d := ⟨_, List.getElem?_eq_getElem hi⟩
    obtain ⟨b, hdb⟩ : ∃ d, ys[i]? = some d := ⟨_, List.getElem?_eq_getElem (by omega)⟩
    show WS _ _ [some x, some y, some (.d (.int i))] _ _
    refine ws_ite (wt_not (wt_val (we_call (wa_cons (we_idx (we_var rfl (we_var rfl (asV_of hx (asD_mk (asZ_of (at_nat hda) ?_))))))))))
    refine wa_cons (we_idx (we_var rfl (we_var rfl (asV_of hy (asD_mk (asZ_of (at_nat hdb) (wa_nil ?_)))))))
    refine ih i a b hda hdb _ ?_
    cases hs : sameD a b with
    | true =>
      walk_at "g"
      exact ld_nx rfl ⟨rfl, fun j a' b' hj h1 h2 => by
        by_cases e : j = i
        · subst e
          rw [hda] at h1
          rw [hdb] at h2
          cases h1
          cases h2
          exact hs
        · exact ha j a' b' (by omega) h1 h2⟩
    | false =>
      rw [sames_at hda hdb hs] at h
      walk_at "g"
      exact ld_rt (kq_rt (fq_d rfl h))
theorem same_tt (hT : T.fns[js]? = some ⟨2, 3, bSame js⟩) {xs ys : List D} (hl : xs.length < 2 ^ 62)
    (ih : ∀ (i : Nat) (a b : D), xs[i]? = some a → ys[i]? = some b → ∀ K : X → Mu → Prop, K (.d (.bl (sameD a b))) μ → WC1 (callD T W n) js [.d a, .d b] μ K) (h : K (.d (.bl (sames xs ys))) μ) : WC1 (callD T W (n + 1)) js [.d (.tup xs), .d (.tup ys)] μ K := by
  refine wc_of hT rfl ?_
  show WS _ (bSame js) [some (.d (.tup xs)), some (.d (.tup ys)), none] μ _
  unfold bSame
  repeat (first | walk_at "1s" | walk_at "1c" | fail)
  refine ⟨fun b => ?_, fun b => ?_⟩
  · have hne : xs.length ≠ ys.length := fun e => by
      have b : (!decide ((xs.length : Int) = (ys.length : Int))) = true := b
      rw [e, decide_eq_true rfl] at b
      cases b
    rw [sames_len hne] at h
    walk_at "s"
    exact fq_d rfl h
  have hle : xs.length = ys.length := by
    have b : (!decide ((xs.length : Int) = (ys.length : Int))) = false := b
    by_cases e : (xs.length : Int) = (ys.length : Int)
    · exact_mod_cast e
    · rw [decide_eq_false e] at b
      cases b
  refine ws_nil (kq_nx ?_)
  refine ws_for (wi_rng1 (we_blt (wa_cons (we_var rfl (wa_nil (asO_mk (asI_mk (asG_mk (int_small (by omega) (by omega)) ?_))))))))
  rw [Int.toNat_natCast]
  refine for_rd (Q := Kq _ _ _) [2] μ.length xs.length trivial (fun k m => m = μ ∧ ∀ (i : Nat) (a b : D), i < k → xs[i]? = some a → ys[i]? = some b → sameD a b = true) (fun k m hm => by rw [hm.1]) ?_ ?_ ⟨rfl, fun i a b hi => absurd hi (Nat.not_lt_zero i)⟩
  · rintro zs m hz ⟨rfl, ha⟩
    obtain ⟨z, rfl⟩ := zs1 hz
    have e : sames xs ys = true := sames_all hle fun i a b h1 h2 => ha i a b (List.getElem?_eq_some_iff.mp h1).1 h1 h2
    rw [e] at h
    walk_at "s"
    exact fq_d rfl h
  · rintro i zs m hi hz ⟨rfl, ha⟩
    obtain ⟨z, rfl⟩ := zs1 hz
    rw [Int.zero_add]
    obtain ⟨a, hda⟩ : ∃ d, xs[i]? = some d := ⟨_, List.getElem?_eq_getElem hi⟩
    obtain ⟨b, hdb⟩ : ∃ d, ys[i]? = some d := ⟨_, List.getElem?_eq_getElem (by omega)⟩
    show WS _ _ [some (.d (.tup xs)), some (.d (.tup ys)), some (.d (.int i))] _ _
    refine ws_ite (wt_not (wt_val (we_call (wa_cons (we_idx (we_var rfl (we_var rfl (asV_d (asD_mk (asZ_of (at_nat hda) ?_))))))))))
    refine wa_cons (we_idx (we_var rfl (we_var rfl (asV_d (asD_mk (asZ_of (at_nat hdb) (wa_nil ?_)))))))
    refine ih i a b hda hdb _ ?_
    cases hs : sameD a b with
    | true =>
      walk_at "g"
      exact ld_nx rfl ⟨rfl, fun j a' b' hj h1 h2 => by
        by_cases e : j = i
        · subst e
          rw [hda] at h1
          rw [hdb] at h2
          cases h1
          cases h2
          exact hs
        · exact ha j a' b' (by omega) h1 h2⟩
    | false =>
      rw [sames_at hda hdb hs] at h
      walk_at "g"
      exact ld_rt (kq_rt (fq_d rfl h))
/-- two plain values, not both lists, not both tuples -/
theorem same_flat (hT : T.fns[js]? = some ⟨2, 3, bSame js⟩) {a b : D} (ha : plainD a = true) (hb : plainD b = true) (nl : ∀ xs ys, a = .lst xs → b = .lst ys → False) (nt : ∀ xs ys, a = .tup xs → b = .tup ys → False) (h : K (.d (.bl (sameD a b))) μ) : WC1 (callD T W (n + 1)) js [.d a, .d b] μ K := by
  refine wc_of hT rfl ?_
  show WS _ (bSame js) [some (.d a), some (.d b), none] μ _
  unfold bSame
  cases a <;> first | (cases ha; done) | skip
  all_goals (cases b <;> first | (cases hb; done) | (exact (nl _ _ rfl rfl).elim; done) | (exact (nt _ _ rfl rfl).elim; done) | skip)
  all_goals (walk_at "g"; exact fq_d rfl h)
/-- the likeness of two plain values -/
theorem same_wc (hT : T.fns[js]? = some ⟨2, 3, bSame js⟩) : ∀ (m : Nat) (a b : D), plainD a = true → plainD b = true → dpt a ≤ m → ∀ (n : Nat), m ≤ n → ∀ (μ : Mu) (K : X → Mu → Prop), K (.d (.bl (sameD a b))) μ → WC1 (callD T W (n + 1)) js [.d a, .d b] μ K := by
  intro m
  induction m with
  | zero =>
    intro a b ha hb hd n _ μ K h
    exact same_flat hT ha hb (fun xs ys e _ => by subst e; simp [dpt] at hd) (fun xs ys e _ => by subst e; simp [dpt] at hd) h
  | succ m ih =>
    intro a b ha hb hd n hn μ K h
    obtain ⟨n, rfl⟩ : ∃ n', n = n' + 1 := ⟨n - 1, by omega⟩
    by_cases hl : ∃ xs ys, a = .lst xs ∧ b = .lst ys
    · obtain ⟨xs, ys, rfl, rfl⟩ := hl
      simp only [plainD, Bool.and_eq_true, decide_eq_true_eq] at ha hb
      simp only [dpt] at hd
      refine same_ll hT rfl rfl (by omega) trivial trivial (fun i a b h1 h2 K h => ?_) h
      obtain ⟨q1, q2⟩ := plain_get ha.2 h1
      exact ih a b q1 (plain_get hb.2 h2).1 (by omega) n (by omega) μ K h
    · by_cases ht : ∃ xs ys, a = .tup xs ∧ b = .tup ys
      · obtain ⟨xs, ys, rfl, rfl⟩ := ht
        simp only [plainD, Bool.and_eq_true, decide_eq_true_eq] at ha hb
        simp only [dpt] at hd
        refine same_tt hT (by omega) (fun i a b h1 h2 K h => ?_) h
        obtain ⟨q1, q2⟩ := plain_get ha.2 h1
        exact ih a b q1 (plain_get hb.2 h2).1 (by omega) n (by omega) μ K h
      · exact same_flat hT ha hb (fun xs ys e1 e2 => hl ⟨xs, ys, e1, e2⟩) (fun xs ys e1 e2 => ht ⟨xs, ys, e1, e2⟩) h
/-- one value twice -/
theorem same_self (hT : T.fns[js]? = some ⟨2, 3, bSame js⟩) {a : D} (m : Nat) (ha : plainD a = true) (hd : dpt a ≤ m) (hn : m ≤ n) (h : K (.d (.bl true)) μ) : WC1 (callD T W (n + 1)) js [.d a, .d a] μ K :=
  same_wc hT m a a ha ha hd n hn μ K (by rw [sameD_self ha]; exact h)
/-- a list that may change, and a list -/
theorem same_cell (hT : T.fns[js]? = some ⟨2, 3, bSame js⟩) {k m : Nat} {xs ys : List D} (hk : μ[k]? = some (some (.lst xs))) (hp : plainD (.lst xs) = true) (hq : plainD (.lst ys) = true) (hd : dpts xs ≤ m) (hn : m + 1 ≤ n) (h : K (.d (.bl (sames xs ys))) μ) : WC1 (callD T W (n + 1)) js [.r k, .d (.lst ys)] μ K := by
  obtain ⟨n, rfl⟩ : ∃ n', n = n' + 1 := ⟨n - 1, by omega⟩
  simp only [plainD, Bool.and_eq_true, decide_eq_true_eq] at hp hq
  refine same_ll hT (view_cell hk) rfl (by omega) ⟨(List.getElem?_eq_some_iff.mp hk).1, trivial⟩ trivial (fun i a b h1 h2 K h => ?_) h
  obtain ⟨q1, q2⟩ := plain_get hp.2 h1
  exact same_wc hT m a b q1 (plain_get hq.2 h2).1 (by omega) n (by omega) μ K h
/-- is an int -/
theorem isInt_wc (hT : T.fns[ji]? = some ⟨1, 1, bIsInt⟩) {i : Int} (h : K (.d (.bl true)) μ) : WC1 (callD T W (n + 1)) ji [.d (.int i)] μ K := by
  refine wc_of hT rfl ?_
  show WS _ bIsInt [some (.d (.int i))] μ _
  unfold bIsInt
  walk_at "g"
  exact fq_d rfl h
/-- a list of ints -/
theorem areInts_wc {ja : Nat} (hI : T.fns[ji]? = some ⟨1, 1, bIsInt⟩) (hT : T.fns[ja]? = some ⟨2, 3, bAreInts ji⟩) {ns : List Int} (h : K (.d (.bl true)) μ) : WC1 (callD T W (n + 2)) ja [.d (.lst (ns.map D.int)), .d (.bl true)] μ K := by
  refine wc_of hT rfl ?_
  show WS _ (bAreInts ji) [some (.d (.lst (ns.map D.int))), some (.d (.bl true)), none] μ _
  unfold bAreInts
  walk_at "g"
  refine ws_for ?_
  walk_at "g"
  refine for_list (Q := Kq _ _ _) (fun ds ρ μ' => μ' = μ ∧ (∃ ms : List Int, ds = ms.map D.int) ∧ ∃ z, ρ = [some (.d (.lst (ns.map D.int))), some (.d (.bl true)), z] ∧ ∀ k, z ≠ some (.r k)) ?_ ?_ ⟨rfl, ⟨ns, rfl⟩, none, rfl, by simp⟩
  · rintro ρ μ' ⟨rfl, _, z, rfl, hz⟩
    walk_at "s"
    exact fq_d rfl h
  · rintro x xs ρ μ' ⟨rfl, ⟨ms, hms⟩, z, rfl, hz⟩
    cases ms with
    | nil => cases hms
    | cons y ms =>
      injection hms with e1 e2
      subst e1 e2
      refine ⟨_, rfl, ?_⟩
      show WS _ _ [some (.d (.lst (ns.map D.int))), some (.d (.bl true)), some (.d (.int y))] _ _
      walk_at "g"
      refine isInt_wc (n := n) hI ?_
      walk_at "g"
      exact lq_nx rfl trivial ⟨rfl, ⟨ms, rfl⟩, _, rfl, by simp⟩
/-- the store, made of the script -/
theorem store_wc {cs : List Int} (hT : T.fns[js]? = some ⟨1, 2, bStore⟩) (hl : cs.length ≤ 1000) (hK : ∀ nd, St (μ ++ [some nd]) μ.length cs 0 → K (.r μ.length) (μ ++ [some nd])) : WC1 (callD T W (n + 1)) js [.d (.kls (cs.map D.int))] μ K := by
  refine wc_of hT rfl ?_
  show WS _ bStore [some (.d (.kls (cs.map D.int))), none] μ _
  unfold bStore
  walk_at "g"
  refine we_lcF ?_
  walk_at "g"
  refine ⟨fun _ => true, id, by rw [List.length_map]; omega, fun d hd => ?_, ?_⟩
  · obtain ⟨c, _, rfl⟩ := List.mem_map.mp hd
    exact ⟨_, rfl, by simp only [evA], fun _ => by simp [evE, evEs, R.bind, bltP, ownB, bltD, wipeE]⟩
  · have e : ((cs.map D.int).filter fun _ => true).map id = cs.map D.int := by
      simp
    rw [e]
    walk_at "g"
    refine fq_r (hK _ ⟨0, 0, 0, (cs.map D.int).length, ⟨?_, by omega, by omega, by omega, by omega, by omega, by rw [List.length_map]; omega⟩⟩)
    simp [stN]
end
end DL

/-! PL6: picks, moments. -/
namespace DL
open PySem L2
/- one step; what has one way only; a step with the choices -/
local macro_rules | `(tactic| walk_at "1s") => `(tactic| first | refine we_var rfl ?_ | refine we_con ?_ | refine wa_cons ?_ | refine wa_nil ?_ | refine asI_mk ?_ | refine asZ_mk ?_ | refine asD_mk ?_ | refine we_idx ?_ | refine asV_d ?_ | refine we_call ?_ | refine we_bin ?_ | refine asOp_int ?_ | refine we_cmp ?_ | refine asCmp_mk rfl ?_ | refine wt_cmp ?_ | refine we_blt ?_ | refine asO_mk ?_ | refine asB_mk ?_ | refine asG_mk (Nat.le_of_ble_eq_true rfl) ?_ | refine asG_mk (by decide) ?_ | refine asG_mk rfl ?_ | refine wt_val ?_ | refine wt_not ?_ | refine asW_d ?_ | refine we_glo rfl ?_ | refine we_tup ?_ | refine we_lstF ?_ | refine we_lstT ?_ | refine we_isi ?_ | refine wt_isi ?_ | refine we_not ?_ | refine we_neg ?_ | refine asNeg_int ?_ | refine we_fmt ?_ | refine we_jn1 ?_ | refine we_jn ?_ | refine wj_cons ?_ | refine wj_nil ?_ | refine asSt_mk ?_ | refine asZ_mod (by decide) ?_ | refine asZ_mul (by omega) (by omega) (by decide) ?_ | refine asZ_mulS (by omega) (by omega) (by omega) (by omega) ?_ | refine asZ_div (by decide +kernel) ?_ | refine asZ_pow (by decide +kernel) ?_ | refine asR_mk ?_ | refine as1_mk ?_ | refine asT_mk ?_ | refine asS_l ?_ | refine asS_t ?_ | refine asS_k ?_ | refine asS_s ?_ | refine wi_seq ?_ | refine wi_rng1 ?_ | refine wi_rng2 ?_ | refine wi_enum ?_ | refine we_app ?_ | refine we_sl ?_ | refine wo_none ?_ | refine wo_some ?_ | refine we_rv ?_ | refine we_dicF ?_ | refine we_fld ?_ | refine asOp_tup (Nat.le_of_ble_eq_true rfl) ?_ | refine asOp_str (by decide +kernel) ?_ | (apply asV_r; assumption) | (apply asW_r; assumption) | (apply asC_mk; assumption) | refine ws_set ?_ | refine kq_nx ?_ | refine kq_rt ?_ | refine ws_ret ?_ | refine ws_nil ?_ | refine ws_ex ?_ | refine ws_unp ?_ | refine ws_pass ?_ | refine kq_bk ?_ | refine kq_ct ?_ | fail)
local macro_rules | `(tactic| walk_at "1c") => `(tactic| first | refine ws_ite ?_ | refine wt_bop ?_ | refine wt_bop1 ?_ | refine wt_chain ?_ | refine we_bop ?_ | refine we_bop1 ?_ | refine we_ife ?_ | refine we_chain ?_ | refine ws_par ?_ | refine ⟨fun _ => ?_, fun h => absurd (show (false : Bool) = true from h) Bool.false_ne_true⟩ | refine ⟨fun _ => ?_, fun h => absurd (show (true : Bool) = false from h).symm Bool.false_ne_true⟩ | refine ⟨fun h => absurd (show (true : Bool) = false from h).symm Bool.false_ne_true, fun _ => ?_⟩ | refine ⟨fun h => absurd (show (false : Bool) = true from h) Bool.false_ne_true, fun _ => ?_⟩ | fail)
local macro_rules | `(tactic| walk_at "x") => `(tactic| repeat (first | refine we_var rfl ?_ | refine we_con ?_ | refine wa_cons ?_ | refine wa_nil ?_ | refine asI_mk ?_ | refine asZ_mk ?_ | refine asD_mk ?_ | refine we_idx ?_ | refine asV_d ?_ | refine we_call ?_ | refine we_bin ?_ | refine asOp_int ?_ | refine we_cmp ?_ | refine asCmp_mk rfl ?_ | refine wt_cmp ?_ | refine we_blt ?_ | refine asO_mk ?_ | refine asB_mk ?_ | refine asG_mk (Nat.le_of_ble_eq_true rfl) ?_ | refine asG_mk (by decide) ?_ | refine asG_mk rfl ?_ | refine wt_val ?_ | refine wt_not ?_ | refine asW_d ?_ | refine we_glo rfl ?_ | refine we_tup ?_ | refine we_lstF ?_ | refine we_lstT ?_ | refine we_isi ?_ | refine wt_isi ?_ | refine we_not ?_ | refine we_neg ?_ | refine asNeg_int ?_ | refine we_fmt ?_ | refine we_jn1 ?_ | refine we_jn ?_ | refine wj_cons ?_ | refine wj_nil ?_ | refine asSt_mk ?_ | refine asZ_mod (by decide) ?_ | refine asZ_mul (by omega) (by omega) (by decide) ?_ | refine asZ_mulS (by omega) (by omega) (by omega) (by omega) ?_ | refine asZ_div (by decide +kernel) ?_ | refine asZ_pow (by decide +kernel) ?_ | refine asR_mk ?_ | refine as1_mk ?_ | refine asT_mk ?_ | refine asS_l ?_ | refine asS_t ?_ | refine asS_k ?_ | refine asS_s ?_ | refine wi_seq ?_ | refine wi_rng1 ?_ | refine wi_rng2 ?_ | refine wi_enum ?_ | refine we_app ?_ | refine we_sl ?_ | refine wo_none ?_ | refine wo_some ?_ | refine we_rv ?_ | refine we_dicF ?_ | refine we_fld ?_ | refine asOp_tup (Nat.le_of_ble_eq_true rfl) ?_ | refine asOp_str (by decide +kernel) ?_ | (apply asV_r; assumption) | (apply asW_r; assumption) | (apply asC_mk; assumption) | fail))
local macro_rules | `(tactic| walk_at "s") => `(tactic| repeat (first | refine we_var rfl ?_ | refine we_con ?_ | refine wa_cons ?_ | refine wa_nil ?_ | refine asI_mk ?_ | refine asZ_mk ?_ | refine asD_mk ?_ | refine we_idx ?_ | refine asV_d ?_ | refine we_call ?_ | refine we_bin ?_ | refine asOp_int ?_ | refine we_cmp ?_ | refine asCmp_mk rfl ?_ | refine wt_cmp ?_ | refine we_blt ?_ | refine asO_mk ?_ | refine asB_mk ?_ | refine asG_mk (Nat.le_of_ble_eq_true rfl) ?_ | refine asG_mk (by decide) ?_ | refine asG_mk rfl ?_ | refine wt_val ?_ | refine wt_not ?_ | refine asW_d ?_ | refine we_glo rfl ?_ | refine we_tup ?_ | refine we_lstF ?_ | refine we_lstT ?_ | refine we_isi ?_ | refine wt_isi ?_ | refine we_not ?_ | refine we_neg ?_ | refine asNeg_int ?_ | refine we_fmt ?_ | refine we_jn1 ?_ | refine we_jn ?_ | refine wj_cons ?_ | refine wj_nil ?_ | refine asSt_mk ?_ | refine asZ_mod (by decide) ?_ | refine asZ_mul (by omega) (by omega) (by decide) ?_ | refine asZ_mulS (by omega) (by omega) (by omega) (by omega) ?_ | refine asZ_div (by decide +kernel) ?_ | refine asZ_pow (by decide +kernel) ?_ | refine asR_mk ?_ | refine as1_mk ?_ | refine asT_mk ?_ | refine asS_l ?_ | refine asS_t ?_ | refine asS_k ?_ | refine asS_s ?_ | refine wi_seq ?_ | refine wi_rng1 ?_ | refine wi_rng2 ?_ | refine wi_enum ?_ | refine we_app ?_ | refine we_sl ?_ | refine wo_none ?_ | refine wo_some ?_ | refine we_rv ?_ | refine we_dicF ?_ | refine we_fld ?_ | refine asOp_tup (Nat.le_of_ble_eq_true rfl) ?_ | refine asOp_str (by decide +kernel) ?_ | (apply asV_r; assumption) | (apply asW_r; assumption) | (apply asC_mk; assumption) | refine ws_set ?_ | refine kq_nx ?_ | refine kq_rt ?_ | refine ws_ret ?_ | refine ws_nil ?_ | refine ws_ex ?_ | refine ws_unp ?_ | refine ws_pass ?_ | refine kq_bk ?_ | refine kq_ct ?_ | fail))
local macro_rules | `(tactic| walk_at "g") => `(tactic| repeat (first | refine we_var rfl ?_ | refine we_con ?_ | refine wa_cons ?_ | refine wa_nil ?_ | refine asI_mk ?_ | refine asZ_mk ?_ | refine asD_mk ?_ | refine we_idx ?_ | refine asV_d ?_ | refine we_call ?_ | refine we_bin ?_ | refine asOp_int ?_ | refine we_cmp ?_ | refine asCmp_mk rfl ?_ | refine wt_cmp ?_ | refine we_blt ?_ | refine asO_mk ?_ | refine asB_mk ?_ | refine asG_mk (Nat.le_of_ble_eq_true rfl) ?_ | refine asG_mk (by decide) ?_ | refine asG_mk rfl ?_ | refine wt_val ?_ | refine wt_not ?_ | refine asW_d ?_ | refine we_glo rfl ?_ | refine we_tup ?_ | refine we_lstF ?_ | refine we_lstT ?_ | refine we_isi ?_ | refine wt_isi ?_ | refine we_not ?_ | refine we_neg ?_ | refine asNeg_int ?_ | refine we_fmt ?_ | refine we_jn1 ?_ | refine we_jn ?_ | refine wj_cons ?_ | refine wj_nil ?_ | refine asSt_mk ?_ | refine asZ_mod (by decide) ?_ | refine asZ_mul (by omega) (by omega) (by decide) ?_ | refine asZ_mulS (by omega) (by omega) (by omega) (by omega) ?_ | refine asZ_div (by decide +kernel) ?_ | refine asZ_pow (by decide +kernel) ?_ | refine asR_mk ?_ | refine as1_mk ?_ | refine asT_mk ?_ | refine asS_l ?_ | refine asS_t ?_ | refine asS_k ?_ | refine asS_s ?_ | refine wi_seq ?_ | refine wi_rng1 ?_ | refine wi_rng2 ?_ | refine wi_enum ?_ | refine we_app ?_ | refine we_sl ?_ | refine wo_none ?_ | refine wo_some ?_ | refine we_rv ?_ | refine we_dicF ?_ | refine we_fld ?_ | refine asOp_tup (Nat.le_of_ble_eq_true rfl) ?_ | refine asOp_str (by decide +kernel) ?_ | (apply asV_r; assumption) | (apply asW_r; assumption) | (apply asC_mk; assumption) | refine ws_set ?_ | refine kq_nx ?_ | refine kq_rt ?_ | refine ws_ret ?_ | refine ws_nil ?_ | refine ws_ex ?_ | refine ws_unp ?_ | refine ws_pass ?_ | refine kq_bk ?_ | refine kq_ct ?_ | refine ws_ite ?_ | refine wt_bop ?_ | refine wt_bop1 ?_ | refine wt_chain ?_ | refine we_bop ?_ | refine we_bop1 ?_ | refine we_ife ?_ | refine we_chain ?_ | refine ws_par ?_ | refine ⟨fun _ => ?_, fun h => absurd (show (false : Bool) = true from h) Bool.false_ne_true⟩ | refine ⟨fun _ => ?_, fun h => absurd (show (true : Bool) = false from h).symm Bool.false_ne_true⟩ | refine ⟨fun h => absurd (show (true : Bool) = false from h).symm Bool.false_ne_true, fun _ => ?_⟩ | refine ⟨fun h => absurd (show (false : Bool) = true from h) Bool.false_ne_true, fun _ => ?_⟩ | refine ⟨fun _ => ?_, fun h => absurd (of_decide_eq_true h) (by omega)⟩ | refine ⟨fun h => absurd (of_decide_eq_true h) (by omega), fun _ => ?_⟩ | refine ⟨fun _ => ?_, fun h => absurd (by omega) (of_decide_eq_false h)⟩ | refine ⟨fun h => absurd (by omega) (of_decide_eq_false h), fun _ => ?_⟩ | refine ⟨fun _ => ?_, fun h => absurd h (by decide +kernel)⟩ | refine ⟨fun h => absurd h (by decide +kernel), fun _ => ?_⟩ | fail))
def bPick (jt : Nat) : Ss := (.cons (.ret (.idx (.var 1) (.call jt (.cons (.var 0) (.cons (.blt false .len (.cons (.var 1) .nil)) .nil)) []))) .nil)
def bMoment (jt je : Nat) : Ss := (.cons (.set 1 (.call jt (.cons (.var 0) (.cons (.con (.int 4)) .nil)) [])) (.cons (.ite (.cmp .eq (.var 1) (.con (.int 0))) (.cons (.ret (.call je (.cons (.var 0) (.cons (.con (.int 0)) (.cons (.bin .pow (.con (.int 10)) (.con (.int 7))) .nil))) [])) .nil) .nil) (.cons (.ite (.cmp .eq (.var 1) (.con (.int 1))) (.cons (.ret (.blt false .max2 (.cons (.con (.int 0)) (.cons (.bin .sub (.bin .add (.bin .mul (.con (.int 96)) (.call jt (.cons (.var 0) (.cons (.con (.int 800)) .nil)) [])) (.call jt (.cons (.var 0) (.cons (.con (.int 5)) .nil)) [])) (.con (.int 2))) .nil)))) .nil) .nil) (.cons (.ite (.cmp .eq (.var 1) (.con (.int 2))) (.cons (.ret (.blt false .max2 (.cons (.con (.int 0)) (.cons (.bin .sub (.bin .add (.bin .mul (.con (.int 35040)) (.call jt (.cons (.var 0) (.cons (.con (.int 4)) .nil)) [])) (.call jt (.cons (.var 0) (.cons (.con (.int 5)) .nil)) [])) (.con (.int 2))) .nil)))) .nil) .nil) (.cons (.ret (.call jt (.cons (.var 0) (.cons (.con (.int 200)) .nil)) [])) .nil)))))
section
variable {T : Tab} {W n jt jb je jp jm : Nat} {μ : Mu} {k : Nat} {cs : List Int} {N m lo hi : Int} {K : X → Mu → Prop}
theorem for_nil {P : Par} {tg : Tg} {b : Ss} {ρ : Env} {Q : Fl → Mu → Prop} (h : Q (.nx ρ) μ) : ∃ fl μ2, forD (bindTg tg) (evSs P b) [] ρ μ = .ok fl μ2 ∧ Q fl μ2 := ⟨_, _, rfl, h⟩
/-- a loop's first turn -/
theorem for_cons {P : Par} {tg : Tg} {b : Ss} {ρ ρ1 : Env} {x : D} {xs : List D} {Q : Fl → Mu → Prop} (e : bindTg tg x ρ = some ρ1) (h : WS P b ρ1 μ (Lq (fun ρ μ => ∃ fl μ2, forD (bindTg tg) (evSs P b) xs ρ μ = .ok fl μ2 ∧ Q fl μ2) Q μ)) : ∃ fl μ2, forD (bindTg tg) (evSs P b) (x :: xs) ρ μ = .ok fl μ2 ∧ Q fl μ2 := by
  obtain ⟨fl, μ2, e2, h⟩ := h
  obtain ⟨h⟩ := h
  simp only [forD, e, e2]
  cases fl with
  | nx ρ' => exact h
  | ct ρ' => exact h
  | bk ρ' => exact ⟨_, _, rfl, h⟩
  | rt x => exact ⟨_, _, rfl, h⟩
  | ex e ρ' => exact ⟨_, _, rfl, h⟩
theorem fq_dA {μ μ' m : Mu} {K : X → Mu → Prop} {x : D} (hb : belowAll μ.length μ' = true) (hl : μ'.length = μ.length) (h : K (.d x) μ') : Fq μ K (.rt (.d x)) (μ' ++ m) := by
  refine ⟨?_⟩
  show K (.d x) (tidy μ.length [] (μ' ++ m)).2
  have e : (μ' ++ m).take μ.length = μ' := by rw [← hl, List.take_left]
  unfold tidy
  rw [e, if_pos hb]
  exact h
def isIntD (x : D) : Bool := match x with | .int _ => true | _ => false
/-- is an int, of a plain value -/
theorem isIntP_wc {ji : Nat} (hT : T.fns[ji]? = some ⟨1, 1, bIsInt⟩) {x : D} (hx : plainD x = true) (h : K (.d (.bl (isIntD x))) μ) : WC1 (callD T W (n + 1)) ji [.d x] μ K := by
  refine wc_of hT rfl ?_
  show WS _ bIsInt [some (.d x)] μ _
  unfold bIsInt
  cases x <;> first | (cases hx; done) | (walk_at "g"; exact fq_d rfl h)
theorem asOp_lst2 {P : Par} {s u : List D} {k j : Nat} (e : μ[k]? = some (some (.lst s))) (e2 : μ[j]? = some (some (.lst u))) (hl : (s ++ u).length ≤ 1000000) (h : K (.d (.lst (s ++ u))) μ) : asOp P .add (.r k) (.r j) μ K :=
  ⟨_, μ, by simp only [binX, binZ, insOf, e, e2, addD, view, Node.toD, allocF hl], h⟩
theorem pick_wc (hT : T.fns[jt]? = some ⟨2, 5, bTake⟩) (hP : T.fns[jp]? = some ⟨2, 2, bPick jt⟩) (hW : 1000 ≤ W) (h : St μ k cs N) (hN : N < 2 ^ 62) {xs : List D} (h0 : 0 < xs.length) (h1 : xs.length ≤ 1000000)
    (hK : ∀ d nd, d ∈ xs → St (μ.set k (some nd)) k cs (N + 1) → K (.d d) (μ.set k (some nd))) : WC1 (callD T W (n + 2)) jp [.r k, .d (.lst xs)] μ K := by
  refine wc_of hP rfl ?_
  show WS _ (bPick jt) [some (.r k), some (.d (.lst xs))] μ _
  unfold bPick
  walk_at "s"
  refine take_wc (n := n) hT hW h (by omega) ?_ fun z nd g1 g2 g3 => ?_
  · have : (1000000 : Int) < 2 ^ 4000 := by decide +kernel
    have : (xs.length : Int) ≤ 1000000 := by omega
    omega
  · have hz : z.toNat < xs.length := by omega
    have hd : xs[z.toNat]? = some (xs[z.toNat]) := List.getElem?_eq_getElem hz
    walk_at "s"
    refine asZ_of (z := xs[z.toNat]) ?_ ?_
    · have := at_nat hd
      rw [Int.toNat_of_nonneg g1] at this
      exact this
    · walk_at "s"
      exact fq_d (by simp) (hK _ _ (List.getElem_mem hz) g3)
theorem moment_wc (hT : T.fns[jt]? = some ⟨2, 5, bTake⟩) (hB : T.fns[jb]? = some ⟨3, 3, bBetween jt⟩) (hE : T.fns[je]? = some ⟨3, 4, bEdge jt jb⟩) (hM : T.fns[jm]? = some ⟨1, 2, bMoment jt je⟩) (hW : 1000 ≤ W) (h : St μ k cs N) (hN : N < 2 ^ 60)
    (hK : ∀ z nd, 0 ≤ z → z ≤ 10000000 → St (μ.set k (some nd)) k cs (N + 4) → K (.d (.int z)) (μ.set k (some nd))) : WC1 (callD T W (n + 4)) jm [.r k] μ K := by
  refine wc_of hM rfl ?_
  show WS _ (bMoment jt je) [some (.r k), none] μ _
  unfold bMoment
  walk_at "g"
  refine take_wc (n := n + 2) hT hW h (by omega) (by decide) fun z nd h1 h2 h3 => ?_
  walk_at "g"
  refine ⟨fun _ => ?_, fun b => ?_⟩
  · walk_at "g"
    refine edge_wc (n := n) hT hB hE hW h3 (by omega) (by decide) (by decide) fun z nd' g1 g2 g3 => ?_
    walk_at "g"
    rw [List.set_set] at g3 ⊢
    exact fq_d (by simp) (hK _ _ g1 (Int.le_trans g2 (by decide)) (g3.more (by omega)))
  · walk_at "g"
    refine ⟨fun _ => ?_, fun b => ?_⟩
    · walk_at "g"
      refine take_wc (n := n + 2) hT hW h3 (by omega) (by decide) fun z1 nd1 p1 p2 p3 => ?_
      have q1 : z1 < 800 := by omega
      walk_at "g"
      refine take_wc (n := n + 2) hT hW p3 (by omega) (by decide) fun z2 nd2 r1 r2 r3 => ?_
      walk_at "g"
      rw [List.set_set, List.set_set] at r3
      rw [List.set_set, List.set_set]
      refine fq_d (by simp) (hK _ _ ?_ ?_ (r3.more (by omega))) <;> (split <;> omega)
    · walk_at "g"
      refine ⟨fun _ => ?_, fun b => ?_⟩
      · walk_at "g"
        refine take_wc (n := n + 2) hT hW h3 (by omega) (by decide) fun z1 nd1 p1 p2 p3 => ?_
        have q1 : z1 < 4 := by omega
        walk_at "g"
        refine take_wc (n := n + 2) hT hW p3 (by omega) (by decide) fun z2 nd2 r1 r2 r3 => ?_
        walk_at "g"
        rw [List.set_set, List.set_set] at r3
        rw [List.set_set, List.set_set]
        refine fq_d (by simp) (hK _ _ ?_ ?_ (r3.more (by omega))) <;> (split <;> omega)
      · walk_at "g"
        refine take_wc (n := n + 2) hT hW h3 (by omega) (by decide) fun z1 nd1 p1 p2 p3 => ?_
        walk_at "g"
        rw [List.set_set] at p3 ⊢
        exact fq_d (by simp) (hK _ _ p1 (by omega) (p3.more (by omega)))
end
end DL

/-! PL7: counts, stems, names (_law_size, _law_stem, _law_names). -/
namespace DL
open PySem L2
/- one step; what has one way only; a step with the choices -/
local macro_rules | `(tactic| walk_at "1s") => `(tactic| first | refine we_var rfl ?_ | refine we_con ?_ | refine wa_cons ?_ | refine wa_nil ?_ | refine asI_mk ?_ | refine asZ_mk ?_ | refine asD_mk ?_ | refine we_idx ?_ | refine asV_d ?_ | refine we_call ?_ | refine we_callK ?_ | refine we_bm ?_ | refine we_dnew ?_ | refine we_bin ?_ | refine asOp_int ?_ | refine we_cmp ?_ | refine asCmp_inK rfl rfl ?_ | refine asCmp_notinK rfl rfl ?_ | refine asCmp_mk rfl ?_ | refine wt_cmp ?_ | refine we_blt ?_ | refine asO_mk ?_ | refine asB_mk ?_ | refine asG_mk (Nat.le_of_ble_eq_true rfl) ?_ | refine asG_mk (by decide) ?_ | refine asG_mk rfl ?_ | refine wt_val ?_ | refine wt_not ?_ | refine asW_d ?_ | refine we_glo rfl ?_ | refine we_tup ?_ | refine we_lstF ?_ | refine we_lstT ?_ | refine we_isi ?_ | refine wt_isi ?_ | refine we_not ?_ | refine we_neg ?_ | refine asNeg_int ?_ | refine we_fmt ?_ | refine we_jn1 ?_ | refine we_jn ?_ | refine wj_cons ?_ | refine wj_nil ?_ | refine asSt_mk ?_ | refine asZ_mod (by decide) ?_ | refine asZ_mul (by omega) (by omega) (by decide) ?_ | refine asZ_mulS (by omega) (by omega) (by omega) (by omega) ?_ | refine asZ_div (by decide +kernel) ?_ | refine asZ_pow (by decide +kernel) ?_ | refine asR_mk ?_ | refine as1_mk ?_ | refine asT_mk ?_ | refine asS_l ?_ | refine asS_t ?_ | refine asS_k ?_ | refine asS_s ?_ | refine wi_seq ?_ | refine wi_rng1 ?_ | refine wi_rng2 ?_ | refine wi_enum ?_ | refine we_app ?_ | refine we_sl ?_ | refine wo_none ?_ | refine wo_some ?_ | refine we_rv ?_ | refine we_dicF ?_ | refine we_fld ?_ | refine asOp_tup (Nat.le_of_ble_eq_true rfl) ?_ | refine asOp_str (by decide +kernel) ?_ | refine asOp_lst (Nat.le_of_ble_eq_true rfl) ?_ | (apply asV_r; assumption) | (apply asW_r; assumption) | (apply asC_mk; assumption) | refine asV_rd rfl ?_ | refine asW_rd rfl ?_ | refine asV_r rfl ?_ | refine asW_r rfl ?_ | refine asK_mk rfl ?_ | refine asF_of (fldP_r rfl rfl rfl rfl) ?_ | refine asF_of (fldP_d rfl rfl rfl) ?_ | refine asC_mk rfl ?_ | refine ws_set ?_ | refine kq_nx ?_ | refine kq_rt ?_ | refine ws_ret ?_ | refine ws_nil ?_ | refine ws_ex ?_ | refine ws_unp ?_ | refine ws_pass ?_ | refine ws_setD ?_ | refine ws_retN ?_ | refine ws_brk ?_ | refine ws_cnt ?_ | refine kq_bk ?_ | refine kq_ct ?_ | fail)
local macro_rules | `(tactic| walk_at "1c") => `(tactic| first | refine ws_ite ?_ | refine wt_bop ?_ | refine wt_bop1 ?_ | refine wt_chain ?_ | refine we_bop ?_ | refine we_bop1 ?_ | refine we_ife ?_ | refine we_chain ?_ | refine ws_par ?_ | refine ⟨fun _ => ?_, fun h => absurd (show (false : Bool) = true from h) Bool.false_ne_true⟩ | refine ⟨fun _ => ?_, fun h => absurd (show (true : Bool) = false from h).symm Bool.false_ne_true⟩ | refine ⟨fun h => absurd (show (true : Bool) = false from h).symm Bool.false_ne_true, fun _ => ?_⟩ | refine ⟨fun h => absurd (show (false : Bool) = true from h) Bool.false_ne_true, fun _ => ?_⟩ | fail)
local macro_rules | `(tactic| walk_at "x") => `(tactic| repeat (first | refine we_var rfl ?_ | refine we_con ?_ | refine wa_cons ?_ | refine wa_nil ?_ | refine asI_mk ?_ | refine asZ_mk ?_ | refine asD_mk ?_ | refine we_idx ?_ | refine asV_d ?_ | refine we_call ?_ | refine we_callK ?_ | refine we_bm ?_ | refine we_dnew ?_ | refine we_bin ?_ | refine asOp_int ?_ | refine we_cmp ?_ | refine asCmp_inK rfl rfl ?_ | refine asCmp_notinK rfl rfl ?_ | refine asCmp_mk rfl ?_ | refine wt_cmp ?_ | refine we_blt ?_ | refine asO_mk ?_ | refine asB_mk ?_ | refine asG_mk (Nat.le_of_ble_eq_true rfl) ?_ | refine asG_mk (by decide) ?_ | refine asG_mk rfl ?_ | refine wt_val ?_ | refine wt_not ?_ | refine asW_d ?_ | refine we_glo rfl ?_ | refine we_tup ?_ | refine we_lstF ?_ | refine we_lstT ?_ | refine we_isi ?_ | refine wt_isi ?_ | refine we_not ?_ | refine we_neg ?_ | refine asNeg_int ?_ | refine we_fmt ?_ | refine we_jn1 ?_ | refine we_jn ?_ | refine wj_cons ?_ | refine wj_nil ?_ | refine asSt_mk ?_ | refine asZ_mod (by decide) ?_ | refine asZ_mul (by omega) (by omega) (by decide) ?_ | refine asZ_mulS (by omega) (by omega) (by omega) (by omega) ?_ | refine asZ_div (by decide +kernel) ?_ | refine asZ_pow (by decide +kernel) ?_ | refine asR_mk ?_ | refine as1_mk ?_ | refine asT_mk ?_ | refine asS_l ?_ | refine asS_t ?_ | refine asS_k ?_ | refine asS_s ?_ | refine wi_seq ?_ | refine wi_rng1 ?_ | refine wi_rng2 ?_ | refine wi_enum ?_ | refine we_app ?_ | refine we_sl ?_ | refine wo_none ?_ | refine wo_some ?_ | refine we_rv ?_ | refine we_dicF ?_ | refine we_fld ?_ | refine asOp_tup (Nat.le_of_ble_eq_true rfl) ?_ | refine asOp_str (by decide +kernel) ?_ | refine asOp_lst (Nat.le_of_ble_eq_true rfl) ?_ | (apply asV_r; assumption) | (apply asW_r; assumption) | (apply asC_mk; assumption) | refine asV_rd rfl ?_ | refine asW_rd rfl ?_ | refine asV_r rfl ?_ | refine asW_r rfl ?_ | refine asK_mk rfl ?_ | refine asF_of (fldP_r rfl rfl rfl rfl) ?_ | refine asF_of (fldP_d rfl rfl rfl) ?_ | refine asC_mk rfl ?_ | fail))
local macro_rules | `(tactic| walk_at "s") => `(tactic| repeat (first | refine we_var rfl ?_ | refine we_con ?_ | refine wa_cons ?_ | refine wa_nil ?_ | refine asI_mk ?_ | refine asZ_mk ?_ | refine asD_mk ?_ | refine we_idx ?_ | refine asV_d ?_ | refine we_call ?_ | refine we_callK ?_ | refine we_bm ?_ | refine we_dnew ?_ | refine we_bin ?_ | refine asOp_int ?_ | refine we_cmp ?_ | refine asCmp_inK rfl rfl ?_ | refine asCmp_notinK rfl rfl ?_ | refine asCmp_mk rfl ?_ | refine wt_cmp ?_ | refine we_blt ?_ | refine asO_mk ?_ | refine asB_mk ?_ | refine asG_mk (Nat.le_of_ble_eq_true rfl) ?_ | refine asG_mk (by decide) ?_ | refine asG_mk rfl ?_ | refine wt_val ?_ | refine wt_not ?_ | refine asW_d ?_ | refine we_glo rfl ?_ | refine we_tup ?_ | refine we_lstF ?_ | refine we_lstT ?_ | refine we_isi ?_ | refine wt_isi ?_ | refine we_not ?_ | refine we_neg ?_ | refine asNeg_int ?_ | refine we_fmt ?_ | refine we_jn1 ?_ | refine we_jn ?_ | refine wj_cons ?_ | refine wj_nil ?_ | refine asSt_mk ?_ | refine asZ_mod (by decide) ?_ | refine asZ_mul (by omega) (by omega) (by decide) ?_ | refine asZ_mulS (by omega) (by omega) (by omega) (by omega) ?_ | refine asZ_div (by decide +kernel) ?_ | refine asZ_pow (by decide +kernel) ?_ | refine asR_mk ?_ | refine as1_mk ?_ | refine asT_mk ?_ | refine asS_l ?_ | refine asS_t ?_ | refine asS_k ?_ | refine asS_s ?_ | refine wi_seq ?_ | refine wi_rng1 ?_ | refine wi_rng2 ?_ | refine wi_enum ?_ | refine we_app ?_ | refine we_sl ?_ | refine wo_none ?_ | refine wo_some ?_ | refine we_rv ?_ | refine we_dicF ?_ | refine we_fld ?_ | refine asOp_tup (Nat.le_of_ble_eq_true rfl) ?_ | refine asOp_str (by decide +kernel) ?_ | refine asOp_lst (Nat.le_of_ble_eq_true rfl) ?_ | (apply asV_r; assumption) | (apply asW_r; assumption) | (apply asC_mk; assumption) | refine asV_rd rfl ?_ | refine asW_rd rfl ?_ | refine asV_r rfl ?_ | refine asW_r rfl ?_ | refine asK_mk rfl ?_ | refine asF_of (fldP_r rfl rfl rfl rfl) ?_ | refine asF_of (fldP_d rfl rfl rfl) ?_ | refine asC_mk rfl ?_ | refine ws_set ?_ | refine kq_nx ?_ | refine kq_rt ?_ | refine ws_ret ?_ | refine ws_nil ?_ | refine ws_ex ?_ | refine ws_unp ?_ | refine ws_pass ?_ | refine ws_setD ?_ | refine ws_retN ?_ | refine ws_brk ?_ | refine ws_cnt ?_ | refine kq_bk ?_ | refine kq_ct ?_ | fail))
local macro_rules | `(tactic| walk_at "g") => `(tactic| repeat (first | refine we_var rfl ?_ | refine we_con ?_ | refine wa_cons ?_ | refine wa_nil ?_ | refine asI_mk ?_ | refine asZ_mk ?_ | refine asD_mk ?_ | refine we_idx ?_ | refine asV_d ?_ | refine we_call ?_ | refine we_callK ?_ | refine we_bm ?_ | refine we_dnew ?_ | refine we_bin ?_ | refine asOp_int ?_ | refine we_cmp ?_ | refine asCmp_inK rfl rfl ?_ | refine asCmp_notinK rfl rfl ?_ | refine asCmp_mk rfl ?_ | refine wt_cmp ?_ | refine we_blt ?_ | refine asO_mk ?_ | refine asB_mk ?_ | refine asG_mk (Nat.le_of_ble_eq_true rfl) ?_ | refine asG_mk (by decide) ?_ | refine asG_mk rfl ?_ | refine wt_val ?_ | refine wt_not ?_ | refine asW_d ?_ | refine we_glo rfl ?_ | refine we_tup ?_ | refine we_lstF ?_ | refine we_lstT ?_ | refine we_isi ?_ | refine wt_isi ?_ | refine we_not ?_ | refine we_neg ?_ | refine asNeg_int ?_ | refine we_fmt ?_ | refine we_jn1 ?_ | refine we_jn ?_ | refine wj_cons ?_ | refine wj_nil ?_ | refine asSt_mk ?_ | refine asZ_mod (by decide) ?_ | refine asZ_mul (by omega) (by omega) (by decide) ?_ | refine asZ_mulS (by omega) (by omega) (by omega) (by omega) ?_ | refine asZ_div (by decide +kernel) ?_ | refine asZ_pow (by decide +kernel) ?_ | refine asR_mk ?_ | refine as1_mk ?_ | refine asT_mk ?_ | refine asS_l ?_ | refine asS_t ?_ | refine asS_k ?_ | refine asS_s ?_ | refine wi_seq ?_ | refine wi_rng1 ?_ | refine wi_rng2 ?_ | refine wi_enum ?_ | refine we_app ?_ | refine we_sl ?_ | refine wo_none ?_ | refine wo_some ?_ | refine we_rv ?_ | refine we_dicF ?_ | refine we_fld ?_ | refine asOp_tup (Nat.le_of_ble_eq_true rfl) ?_ | refine asOp_str (by decide +kernel) ?_ | refine asOp_lst (Nat.le_of_ble_eq_true rfl) ?_ | (apply asV_r; assumption) | (apply asW_r; assumption) | (apply asC_mk; assumption) | refine asV_rd rfl ?_ | refine asW_rd rfl ?_ | refine asV_r rfl ?_ | refine asW_r rfl ?_ | refine asK_mk rfl ?_ | refine asF_of (fldP_r rfl rfl rfl rfl) ?_ | refine asF_of (fldP_d rfl rfl rfl) ?_ | refine asC_mk rfl ?_ | refine ws_set ?_ | refine kq_nx ?_ | refine kq_rt ?_ | refine ws_ret ?_ | refine ws_nil ?_ | refine ws_ex ?_ | refine ws_unp ?_ | refine ws_pass ?_ | refine ws_setD ?_ | refine ws_retN ?_ | refine ws_brk ?_ | refine ws_cnt ?_ | refine kq_bk ?_ | refine kq_ct ?_ | refine ws_ite ?_ | refine wt_bop ?_ | refine wt_bop1 ?_ | refine wt_chain ?_ | refine we_bop ?_ | refine we_bop1 ?_ | refine we_ife ?_ | refine we_chain ?_ | refine ws_par ?_ | refine ⟨fun _ => ?_, fun h => absurd (show (false : Bool) = true from h) Bool.false_ne_true⟩ | refine ⟨fun _ => ?_, fun h => absurd (show (true : Bool) = false from h).symm Bool.false_ne_true⟩ | refine ⟨fun h => absurd (show (true : Bool) = false from h).symm Bool.false_ne_true, fun _ => ?_⟩ | refine ⟨fun h => absurd (show (false : Bool) = true from h) Bool.false_ne_true, fun _ => ?_⟩ | refine ⟨fun _ => ?_, fun h => absurd (of_decide_eq_true h) (by omega)⟩ | refine ⟨fun h => absurd (of_decide_eq_true h) (by omega), fun _ => ?_⟩ | refine ⟨fun _ => ?_, fun h => absurd (by omega) (of_decide_eq_false h)⟩ | refine ⟨fun h => absurd (by omega) (of_decide_eq_false h), fun _ => ?_⟩ | refine ⟨fun _ => ?_, fun h => absurd h (by decide +kernel)⟩ | refine ⟨fun h => absurd h (by decide +kernel), fun _ => ?_⟩ | fail))
def bSize (jt jb : Nat) : Ss := (.cons (.set 4 (.call jt (.cons (.var 0) (.cons (.con (.int 16)) .nil)) [])) (.cons (.ite (.cmp .lt (.var 4) (.con (.int 2))) (.cons (.ret (.var 1)) .nil) .nil) (.cons (.ite (.cmp .eq (.var 4) (.con (.int 2))) (.cons (.ret (.var 3)) .nil) .nil) (.cons (.ite (.cmp .eq (.var 4) (.con (.int 3))) (.cons (.ret (.call jb (.cons (.var 0) (.cons (.var 1) (.cons (.var 3) .nil))) [])) .nil) .nil) (.cons (.ret (.call jb (.cons (.var 0) (.cons (.var 1) (.cons (.var 2) .nil))) [])) .nil)))))
def bStem (jt : Nat) : Ss := (.cons (.set 2 (.con (.str "abcdefghijklmnopqrstuvwxyz0123456789"))) (.cons (.ret (.bm .join (.con (.str "")) (.cons (.lc false (.nm 3) (.rng1 (.var 1)) .none (.idx (.var 2) (.call jt (.cons (.var 0) (.cons (.bin .add (.con (.int 26)) (.bin .mul (.con (.int 10)) (.blt false .int (.cons (.cmp .gt (.var 3) (.con (.int 0))) .nil)))) .nil)) [])) [3]) .nil))) .nil))
section
variable {T : Tab} {W n jt jb je jp jm js jn : Nat} {μ : Mu} {k : Nat} {cs : List Int} {N m lo mid hi : Int} {K : X → Mu → Prop}
theorem size_wc (hT : T.fns[jt]? = some ⟨2, 5, bTake⟩) (hB : T.fns[jb]? = some ⟨3, 3, bBetween jt⟩) (hS : T.fns[js]? = some ⟨4, 5, bSize jt jb⟩) (hW : 1000 ≤ W) (h : St μ k cs N) (hN : N < 2 ^ 60) (h1 : lo ≤ mid) (h2 : mid ≤ hi) (hm : hi - lo < 2 ^ 3999)
    (hK : ∀ z nd, lo ≤ z → z ≤ hi → St (μ.set k (some nd)) k cs (N + 2) → K (.d (.int z)) (μ.set k (some nd))) : WC1 (callD T W (n + 3)) js [.r k, .d (.int lo), .d (.int mid), .d (.int hi)] μ K := by
  refine wc_of hS rfl ?_
  show WS _ (bSize jt jb) [some (.r k), some (.d (.int lo)), some (.d (.int mid)), some (.d (.int hi)), none] μ _
  unfold bSize
  walk_at "g"
  refine take_wc (n := n + 1) hT hW h (by omega) (by decide) fun z nd p1 p2 p3 => ?_
  walk_at "g"
  refine ⟨fun _ => ?_, fun b => ?_⟩
  · walk_at "g"
    exact fq_d (by simp) (hK _ _ (Int.le_refl _) (by omega) (p3.more (by omega)))
  walk_at "g"
  refine ⟨fun _ => ?_, fun b => ?_⟩
  · walk_at "g"
    exact fq_d (by simp) (hK _ _ (by omega) (by omega) (p3.more (by omega)))
  walk_at "g"
  refine ⟨fun _ => ?_, fun b => ?_⟩
  · walk_at "g"
    refine between_wc (n := n) hT hB hW p3 (by omega) (by omega) (by omega) fun z' nd' q1 q2 q3 => ?_
    walk_at "g"
    rw [List.set_set] at q3 ⊢
    exact fq_d (by simp) (hK _ _ q1 q2 (q3.more (by omega)))
  · walk_at "g"
    refine between_wc (n := n) hT hB hW p3 (by omega) (by omega) (by omega) fun z' nd' q1 q2 q3 => ?_
    walk_at "g"
    rw [List.set_set] at q3 ⊢
    exact fq_d (by simp) (hK _ _ q1 (by omega) (q3.more (by omega)))
/-! ### signs -/
abbrev abcL : List Nat := ("abcdefghijklmnopqrstuvwxyz" : Str).cps.toList
abbrev alnL : List Nat := ("abcdefghijklmnopqrstuvwxyz0123456789" : Str).cps.toList
/-- signs that make a name's tail, begun with a letter -/
structure AlOk (zs : List Nat) : Prop where
  al : ∀ c ∈ zs, c ∈ alnL
  hd : ∀ c r, zs = c :: r → c ∈ abcL
/-- a name -/
structure GoodN (z : Str) : Prop where
  ok : AlOk z.cps.toList
  lo : 1 ≤ z.cps.toList.length
  hi : z.cps.toList.length ≤ 8
theorem abc_aln {c : Nat} (h : c ∈ abcL) : c ∈ alnL := by
  revert c
  decide +kernel
theorem at_natG {α : Type} {ds : List α} {i : Nat} {d : α} (h : ds[i]? = some d) : atI ds (i : Int) = some d := by
  have hl := (List.getElem?_eq_some_iff.mp h).1
  simp only [atI, ixN]
  rw [if_pos (Int.natCast_nonneg i), if_pos (by exact_mod_cast hl)]
  simpa using h
theorem str_at {z : Str} {i c : Nat} (hz : z.cps.toList.length ≤ 1000000) (h : z.cps.toList[i]? = some c) : idxD (.str z) (.int (i : Int)) = some (.str (oneS c)) := by
  have hl : z.length ≤ 1000000 := by
    show z.cps.size ≤ _
    rw [← Array.length_toList]
    exact hz
  simp only [idxD, if_pos hl, at_natG h, Option.map_some]
theorem str_ext {a b : Str} (h : a.cps.toList = b.cps.toList) : a = b := PySem.W.str_of_cps h
theorem join_onesT : ∀ zs : List Nat, (Str.join (Str.ofString "") (zs.map oneS)).cps.toList = zs
  | [] => rfl
  | [_] => rfl
  | x :: z :: r => by
    have e : (Str.ofString "").cps.toList = [] := by decide +kernel
    show (oneS x ++ Str.ofString "" ++ Str.join (Str.ofString "") ((z :: r).map oneS)).cps.toList = _
    rw [Str.cps_append, Str.cps_append, Array.toList_append, Array.toList_append, e, join_onesT (z :: r)]
    rfl
theorem join_ones (zs : List Nat) : Txt.join (Str.ofString "") (zs.map oneS) = ⟨zs.toArray⟩ := str_ext (by rw [TL.join_eq, join_onesT])
theorem strsD_ones : ∀ zs : List Nat, strsD (zs.map fun c => .str (oneS c)) = some (zs.map oneS)
  | [] => rfl
  | c :: r => by
    show (strsD (r.map fun c => .str (oneS c))).map (oneS c :: ·) = _
    rw [strsD_ones r]
    rfl
theorem sum_ones : ∀ zs : List Nat, ((zs.map oneS).map (·.length)).sum = zs.length
  | [] => rfl
  | c :: r => by
    rw [List.map_cons, List.map_cons, List.sum_cons, sum_ones r, List.length_cons]
    show 1 + r.length = r.length + 1
    omega
theorem join_ok {μ : Mu} {zs : List Nat} (h : zs.length ≤ 1000) : joinD μ (.d (.str (Str.ofString ""))) [.d (.lst (zs.map fun c => .str (oneS c)))] = .ok (.d (.str ⟨zs.toArray⟩)) μ := by
  have e : (Str.ofString "").length = 0 := by decide +kernel
  simp only [joinD, viewS, view, Option.map_some, unk, strsD_ones, sum_ones, e, Nat.mul_zero, Nat.add_zero, join_ones]
  rw [if_pos (by omega)]
theorem stem_wc (hT : T.fns[jt]? = some ⟨2, 5, bTake⟩) (hS : T.fns[js]? = some ⟨2, 4, bStem jt⟩) (hW : 1000 ≤ W) (h : St μ k cs N) (hN : N < 2 ^ 60) {sz : Nat} (h8 : sz ≤ 8)
    (hK : ∀ z nd, z.cps.toList.length = sz → AlOk z.cps.toList → St (μ.set k (some nd)) k cs (N + 8) → K (.d (.str z)) (μ.set k (some nd))) : WC1 (callD T W (n + 2)) js [.r k, .d (.int (sz : Int))] μ K := by
  refine wc_of hS rfl ?_
  show WS _ (bStem jt) [some (.r k), some (.d (.int (sz : Int))), none, none] μ _
  unfold bStem
  walk_at "g"
  refine we_lcJ (n := μ.length) (wi_rng1 (we_var rfl (asI_mk (asG_mk (int_small (by omega) (by omega)) ?_))))
  refine ⟨fun ds acc m => ∃ (i : Nat) (zs : List Nat) (nd : Node), ds = upTo (i : Int) (sz - i) ∧ i ≤ sz ∧ acc = zs.map (fun c => .str (oneS c)) ∧ zs.length = i ∧ AlOk zs ∧ m = μ.set k (some nd) ∧ St m k cs (N + i), ?_, ?_, ?_, ?_⟩
  · rintro ds acc m ⟨i, zs, nd, rfl, hi, rfl, hl, _, rfl, _⟩
    refine ⟨by simp, ?_⟩
    rw [List.length_map, hl]
    simp only [upTo, List.length_map, List.length_range]
    omega
  · rintro x xs acc m ⟨i, zs, nd, e, hi, rfl, hl, ho, rfl, hst⟩
    have hlt : i < sz := by
      rcases Nat.lt_or_ge i sz with g | g
      · exact g
      · rw [show sz - i = 0 by omega] at e
        cases e
    rw [show sz - i = (sz - (i + 1)) + 1 by omega, upTo_cons] at e
    injection e with e1 e2
    subst e1 e2
    refine ⟨_, rfl, ?_⟩
    show WE _ _ [some (.r k), some (.d (.int (sz : Int))), some (.d (.str "abcdefghijklmnopqrstuvwxyz0123456789")), some (.d (.int (i : Int)))] _ _
    walk_at "g"
    refine take_wc (n := n) hT hW hst (by omega) (by split <;> decide +kernel) fun z nd' p1 p2 p3 => ?_
    have hz36 : z < 36 := by
      split at p2 <;> omega
    have hz26 : i = 0 → z < 26 := fun e => by
      subst e
      simp at p2
      omega
    obtain ⟨c, hc⟩ : ∃ c, alnL[z.toNat]? = some c := by
      have : z.toNat < alnL.length := by
        have : alnL.length = 36 := by decide +kernel
        omega
      exact ⟨_, List.getElem?_eq_getElem this⟩
    have hm : c ∈ alnL := List.mem_of_getElem? hc
    have h0 : i = 0 → c ∈ abcL := fun e => by
      have q : ∀ j, j < 26 → ∀ c, alnL[j]? = some c → c ∈ abcL := by decide +kernel
      exact q _ (by have := hz26 e; omega) _ hc
    walk_at "g"
    refine asZ_of (z := .str (oneS c)) ?_ ?_
    · have := str_at (z := "abcdefghijklmnopqrstuvwxyz0123456789") (by decide +kernel) hc
      rwa [Int.toNat_of_nonneg p1] at this
    · rw [List.set_set] at p3 ⊢
      refine ⟨_, rfl, i + 1, zs ++ [c], nd', by rw [Int.natCast_add]; rfl, by omega, by rw [List.map_append]; rfl, by rw [List.length_append, hl]; rfl, ⟨fun x hx => ?_, fun x r hx => ?_⟩, rfl, ?_⟩
      · rcases List.mem_append.mp hx with hx | hx
        · exact ho.al x hx
        · rw [List.mem_singleton.mp hx]; exact hm
      · cases zs with
        | nil =>
          injection hx with hx
          rw [← hx]
          exact h0 hl.symm
        | cons y ys =>
          injection hx with hx
          rw [← hx]
          exact ho.hd y ys rfl
      · rw [Int.natCast_add, ← Int.add_assoc]
        exact p3
  · obtain ⟨p, q, c, r, hs⟩ := h
    have hμ := hs.1
    exact ⟨0, [], _, rfl, Nat.zero_le _, rfl, rfl, ⟨fun _ m => (nomatch m), fun _ _ m => (nomatch m)⟩, (set_same hμ).symm, p, q, c, r, by simpa using hs⟩
  · rintro out m ⟨i, zs, nd, e, hi, rfl, hl, ho, rfl, hst⟩
    have hz : sz = i := by
      rcases Nat.lt_or_ge i sz with g | g
      · rw [show sz - i = (sz - (i + 1)) + 1 by omega, upTo_cons] at e
        cases e
      · omega
    walk_at "g"
    refine asO_of (show bmD _ .join _ _ = _ from join_ok (by omega)) ?_
    walk_at "g"
    exact fq_d (by simp) (hK _ _ (by show zs.length = sz; omega) ho (hst.more (by omega)))
/-! ### comprehensions over a range that draw nothing -/
theorem we_lcR {P : Par} {ρ : Env} {v c cnt : Nat} {elt : E} {own : List Nat} (g : Nat → D) (e : ρ[c]? = some (some (.d (.int (cnt : Int))))) (hc : cnt ≤ 1000)
    (he : ∀ i, i < cnt → WE P elt ((wipeE ρ own).set v (some (.d (.int (i : Int))))) μ fun x m => x = .d (g i) ∧ m = μ) (h : K (.d (.lst ((List.range cnt).map g))) μ) : WE P (.lc false (.nm v) (.rng1 (.var c)) .none elt own) ρ μ K := by
  refine we_lcP (wi_rng1 (we_var e (asI_mk (asG_mk (int_small (by omega) (by omega)) ?_))))
  refine ⟨fun d => match d with | .int i => g i.toNat | d => d, ?_, fun d hd => ?_, ?_⟩
  · simp only [upTo, List.length_map, List.length_range]
    omega
  · obtain ⟨i, hi, rfl⟩ := List.mem_map.mp hd
    have hi : i < cnt := by
      have := List.mem_range.mp hi
      omega
    refine ⟨_, rfl, ?_⟩
    have e2 : (0 : Int) + (i : Int) = (i : Int) := by omega
    rw [e2]
    refine ⟨?_⟩
    obtain ⟨x, m, e3, rfl, rfl⟩ := he i hi
    exact ⟨_, _, e3, by simp, rfl⟩
  · have e2 : (upTo 0 (cnt : Int).toNat).map (fun d => match d with | .int i => g i.toNat | d => d) = (List.range cnt).map g := by
      simp only [upTo, List.map_map, Int.toNat_natCast]
      refine List.map_congr_left fun i _ => ?_
      simp
    rw [e2]
    exact h
/-- .. over a list -/
theorem we_lcS {P : Par} {ρ : Env} {v c : Nat} {α : Type} {xs : List α} {elt : E} {own : List Nat} (f : α → D) (g : α → D) (e : ρ[c]? = some (some (.d (.lst (xs.map f))))) (hc : xs.length ≤ 1000)
    (he : ∀ a ∈ xs, WE P elt ((wipeE ρ own).set v (some (.d (f a)))) μ fun x m => x = .d (g a) ∧ m = μ) (h : K (.d (.lst (xs.map g))) μ) : WE P (.lc false (.nm v) (.seq (.var c)) .none elt own) ρ μ K := by
  have main : ∀ ds : List α, (∀ a ∈ ds, a ∈ xs) → ∀ acc : List D, acc.length + ds.length ≤ 1000000 → lcD (bindTg (.nm v)) (evA P .none) (evE P elt) (wipeE ρ own) (ds.map f) acc μ = .ok (acc ++ ds.map g) μ := by
    intro ds
    induction ds with
    | nil => intro _ acc _; simp [lcD]
    | cons a r ih =>
      intro hm acc hl
      obtain ⟨x, m, e3, rfl, rfl⟩ := he a (hm a List.mem_cons_self)
      simp only [List.length_cons] at hl
      have hz : sizeOk acc = true := by unfold sizeOk; exact decide_eq_true (by omega)
      have q := ih (fun b hb => hm b (List.mem_cons_of_mem _ hb)) (acc ++ [g a]) (by rw [List.length_append, List.length_singleton]; omega)
      have hA : ∀ ρ m, evA P .none ρ m = .ok true m := fun _ _ => by simp only [evA]
      simp only [List.map_cons, lcD, bindTg, hA, e3, hz, if_true]
      rw [tidy_self, q, List.append_assoc]
      rfl
  refine ⟨_, μ, ?_, h⟩
  simp only [evE, evIt, e, R.bind, seqOf, R.lift]
  rw [main xs (fun _ h => h) [] (by simp only [List.length_nil]; omega)]
  simp only [List.nil_append]
  rw [allocF (by rw [List.length_map]; omega)]
theorem let_at {v : Nat} (h : v < 26) : idxD (.str "abcdefghijklmnopqrstuvwxyz") (.int (v : Int)) = some (.str (oneS (97 + v))) := by
  have q : ∀ j, j < 26 → abcL[j]? = some (97 + j) := by decide +kernel
  exact str_at (by decide +kernel) (q v h)
theorem len_strD {P : Par} {c : Bool} {z : Str} (h : z.cps.toList.length ≤ 1000000) : bltP P μ c .len [.d (.str z)] = .ok (.d (.int (z.cps.toList.length : Int))) μ := by
  have hl : z.length = z.cps.toList.length := Array.length_toList.symm
  simp only [bltP, ownB, bltD, viewS, view, Option.map_some, unk, hl, if_pos h]
theorem sl_strD {c : Bool} {z : Str} {lo hi : Option Int} (h : z.cps.toList.length ≤ 1000000) : slD μ c (.d (.str z)) lo hi = .ok (.d (.str (cutSt z lo hi))) μ := by
  have hl : z.length = z.cps.toList.length := Array.length_toList.symm
  simp only [slD, viewS, view, Option.map_some, unk, hl, if_pos h]
theorem cut_take {z : Str} {a : Nat} : (cutSt z none (some (a : Int))).cps.toList = z.cps.toList.take a := by
  have hl : z.length = z.cps.toList.length := Array.length_toList.symm
  show ((z.cps.toList.drop 0).take _) = _
  rw [HT.sIx_nat, HT.sIx_none, List.drop_zero, Nat.sub_zero, hl]
  rw [List.take_eq_take_iff]
  omega
theorem cut_drop {z : Str} {a : Nat} : (cutSt z (some (a : Int)) none).cps.toList = z.cps.toList.drop a := by
  have hl : z.length = z.cps.toList.length := Array.length_toList.symm
  show ((z.cps.toList.drop _).take _) = _
  rw [HT.sIx_nat, HT.sIx_none, hl]
  rcases Nat.lt_or_ge a z.cps.toList.length with g | g
  · rw [Nat.min_eq_left (by omega)]
    exact List.take_of_length_le (by rw [List.length_drop]; omega)
  · rw [Nat.min_eq_right g, List.drop_of_length_le (Nat.le_refl _), List.drop_of_length_le g, List.take_nil]
theorem asOp_strN {P : Par} {s u : Str} (h1 : s.cps.toList.length ≤ 1000) (h2 : u.cps.toList.length ≤ 1000) (h : K (.d (.str (s ++ u))) μ) : asOp P .add (.d (.str s)) (.d (.str u)) μ K := by
  have l1 : s.length = s.cps.toList.length := Array.length_toList.symm
  have l2 : u.length = u.cps.toList.length := Array.length_toList.symm
  exact asOp_str (by omega) h
theorem app_list (a b : Str) : (a ++ b).cps.toList = a.cps.toList ++ b.cps.toList := by
  rw [Str.cps_append, Array.toList_append]
theorem one_list (c : Nat) : (oneS c).cps.toList = [c] := rfl
abbrev stepL : List Nat := [1, 3, 5, 7, 9, 11, 15, 17, 19, 21, 23, 25]
theorem num1 : ∀ t ∈ stepL, ∀ i, i < 26 → ∀ j, j < 26 → (t * i) % 26 = (t * j) % 26 → i = j := by decide +kernel
theorem num2 : ∀ t ∈ stepL, ∀ i, i < 26 → ∀ j, j < 26 → i / 8 = j / 8 → (t * i) % 8 = (t * j) % 8 → i = j := by decide +kernel
theorem step_lt : ∀ t ∈ stepL, t ≤ 25 := by decide +kernel
theorem tl_nat (v : Nat) : (Str.ofString (toString (v : Int))).cps.toList = (Nat.toDigits 10 v).map Char.toNat := by
  rw [PyProof.Rows.signs_ofString]
  simp [toString, Int.repr, Nat.repr]
theorem dig1 : ∀ v, v < 700 → (∀ c ∈ (Nat.toDigits 10 v).map Char.toNat, c ∈ alnL) ∧ ((Nat.toDigits 10 v).map Char.toNat).length ≤ 3 ∧ ((Nat.toDigits 10 v).map Char.toNat).foldl (fun a c => a * 10 + (c - 48)) 0 = v := by decide +kernel
def bNames (jt jp js : Nat) : Ss := (.cons (.set 2 (.con (.str "abcdefghijklmnopqrstuvwxyz"))) (.cons (.set 3 (.call jt (.cons (.var 0) (.cons (.con (.int 4)) .nil)) [])) (.cons (.set 4 (.call jt (.cons (.var 0) (.cons (.con (.int 26)) .nil)) [])) (.cons (.set 5 (.call jp (.cons (.var 0) (.cons (.lst false (.cons (.con (.int 1)) (.cons (.con (.int 3)) (.cons (.con (.int 5)) (.cons (.con (.int 7)) (.cons (.con (.int 9)) (.cons (.con (.int 11)) (.cons (.con (.int 15)) (.cons (.con (.int 17)) (.cons (.con (.int 19)) (.cons (.con (.int 21)) (.cons (.con (.int 23)) (.cons (.con (.int 25)) .nil))))))))))))) .nil)) [])) (.cons (.set 6 (.lc false (.nm 10) (.rng1 (.var 1)) .none (.idx (.var 2) (.bin .mod (.blt false .int (.cons (.bin .add (.var 4) (.bin .mul (.var 5) (.var 10))) .nil)) (.con (.int 26)))) [10])) (.cons (.ite (.cmp .eq (.var 3) (.con (.int 0))) (.cons (.ret (.var 6)) .nil) .nil) (.cons (.set 7 (.call js (.cons (.var 0) (.cons (.bin .add (.con (.int 1)) (.call jt (.cons (.var 0) (.cons (.con (.int 7)) .nil)) [])) .nil)) [])) (.cons (.ite (.cmp .eq (.var 3) (.con (.int 1))) (.cons (.set 8 (.call jt (.cons (.var 0) (.cons (.bin .add (.blt false .len (.cons (.var 7) .nil)) (.con (.int 1))) .nil)) [])) (.cons (.ret (.lc false (.nm 11) (.seq (.var 6)) .none (.bin .add (.bin .add (.sl false (.var 7) .none (.some (.var 8))) (.var 11)) (.sl false (.var 7) (.some (.var 8)) .none)) [11])) .nil)) .nil) (.cons (.ite (.cmp .eq (.var 3) (.con (.int 2))) (.cons (.set 9 (.call js (.cons (.var 0) (.cons (.con (.int 7)) .nil)) [])) (.cons (.ret (.lc false (.nm 10) (.rng1 (.var 1)) .none (.bin .add (.idx (.var 2) (.bin .mod (.blt false .int (.cons (.bin .add (.var 4) (.bin .fdiv (.var 10) (.con (.int 8)))) .nil)) (.con (.int 26)))) (.sl false (.var 9) .none (.some (.bin .mod (.blt false .int (.cons (.bin .add (.var 4) (.bin .mul (.var 5) (.var 10))) .nil)) (.con (.int 8)))))) [10])) .nil)) .nil) (.cons (.ret (.lc false (.nm 10) (.rng1 (.var 1)) .none (.bin .add (.sl false (.var 7) .none (.some (.con (.int 4)))) (.blt false .str (.cons (.bin .add (.var 4) (.bin .mul (.var 5) (.var 10))) .nil))) [10])) .nil))))))))))
theorem nodup_map {cnt : Nat} {nm : Nat → Str} (h : ∀ i, i < cnt → ∀ j, j < cnt → nm i = nm j → i = j) : ((List.range cnt).map nm).Nodup := by
  rw [List.Nodup, List.pairwise_map]
  refine List.Pairwise.imp_of_mem (R := fun a b => a < b) (fun {a b} ha hb hab e => ?_) List.pairwise_lt_range
  have := h a (List.mem_range.mp ha) b (List.mem_range.mp hb) e
  omega
theorem AlOk.take {zs : List Nat} (h : AlOk zs) (a : Nat) : AlOk (zs.take a) := ⟨fun c hc => h.al c (List.mem_of_mem_take hc), fun c r e => by
  cases zs with
  | nil => rw [List.take_nil] at e; cases e
  | cons x xs =>
    cases a with
    | zero => cases e
    | succ a =>
      injection e with e
      rw [← e]
      exact h.hd x xs rfl⟩
/-- a letter ahead of signs -/
theorem al_cons {c : Nat} {zs : List Nat} (hc : c ∈ abcL) (h : ∀ x ∈ zs, x ∈ alnL) : AlOk (c :: zs) := ⟨fun x hx => by
  rcases List.mem_cons.mp hx with rfl | hx
  · exact abc_aln hc
  · exact h x hx, fun x r e => by
  injection e with e
  rw [← e]
  exact hc⟩
theorem abc_mem {v : Nat} (h : v < 26) : 97 + v ∈ abcL := by
  have q : ∀ v, v < 26 → 97 + v ∈ abcL := by decide +kernel
  exact q v h
theorem names_wc (hT : T.fns[jt]? = some ⟨2, 5, bTake⟩) (hP : T.fns[jp]? = some ⟨2, 2, bPick jt⟩) (hS : T.fns[js]? = some ⟨2, 4, bStem jt⟩) (hn : T.fns[jn]? = some ⟨2, 12, bNames jt jp js⟩) (hW : 1000 ≤ W) (h : St μ k cs N) (hN : N < 2 ^ 59) {cnt : Nat} (hc : cnt ≤ 26)
    (hK : ∀ (zs : List Str) nd, zs.length = cnt → zs.Nodup → (∀ z ∈ zs, GoodN z) → St (μ.set k (some nd)) k cs (N + 24) → K (.d (.lst (zs.map D.str))) (μ.set k (some nd))) : WC1 (callD T W (n + 3)) jn [.r k, .d (.int (cnt : Int))] μ K := by
  refine wc_of hn rfl ?_
  show WS _ (bNames jt jp js) [some (.r k), some (.d (.int (cnt : Int))), none, none, none, none, none, none, none, none, none, none] μ _
  unfold bNames
  walk_at "g"
  refine take_wc (n := n + 1) hT hW h (by omega) (by decide) fun way nd p1 p2 p3 => ?_
  walk_at "g"
  refine take_wc (n := n + 1) hT hW p3 (by omega) (by decide) fun st nd2 q1 q2 q3 => ?_
  rw [List.set_set] at q3 ⊢
  obtain ⟨st, rfl⟩ := Int.eq_ofNat_of_zero_le q1
  have hst : st < 26 := by omega
  walk_at "g"
  refine pick_wc (n := n) hT hP hW q3 (by omega) (xs := stepL.map fun (t : Nat) => D.int (t : Int)) (by decide) (by decide) fun d nd3 r1 r2 => ?_
  rw [List.set_set] at r2 ⊢
  obtain ⟨t, ht, rfl⟩ := List.mem_map.mp r1
  have ht25 := step_lt t ht
  generalize hm : μ.set k (some nd3) = m at r2 ⊢
  have ml : m.length = μ.length := by rw [← hm]; simp
  have fin : ∀ (nm : Nat → Str) (nd' : Node), (∀ i, i < cnt → GoodN (nm i)) → (∀ i, i < cnt → ∀ j, j < cnt → nm i = nm j → i = j) → St (m.set k (some nd')) k cs (N + 24) → Fq μ K (.rt (.d (.lst ((List.range cnt).map fun i => .str (nm i))))) (m.set k (some nd')) := by
    intro nm nd' h1 h2 h3
    rw [← hm, List.set_set] at h3 ⊢
    refine fq_d (by simp) ?_
    have := hK ((List.range cnt).map nm) nd' (by simp) (nodup_map h2) (fun z hz => by
      obtain ⟨i, hi, rfl⟩ := List.mem_map.mp hz
      exact h1 i (List.mem_range.mp hi)) h3
    rwa [List.map_map] at this
  have em : m.set k (some nd3) = m := by rw [← hm, List.set_set]
  have cm : ∀ i : Nat, ((st : Int) + (t : Int) * (i : Int)) = ((st + t * i : Nat) : Int) := fun i => by rw [Int.natCast_add, Int.natCast_mul]
  walk_at "g"
  refine we_lcR (cnt := cnt) (fun i => .str (oneS (97 + (st + t * i) % 26))) rfl (by omega) (fun i hi => ?_) ?_
  · show WE _ _ [some (.r k), some (.d (.int (cnt : Int))), some (.d (.str "abcdefghijklmnopqrstuvwxyz")), some (.d (.int way)), some (.d (.int (st : Int))), some (.d (.int (t : Int))), none, none, none, none, some (.d (.int (i : Int))), none] _ _
    walk_at "g"
    refine asZ_of (z := .str (oneS (97 + (st + t * i) % 26))) ?_ ⟨rfl, rfl⟩
    rw [cm]
    exact let_at (v := (st + t * i) % 26) (by omega)
  walk_at "g"
  refine ⟨fun _ => ?_, fun b => ?_⟩
  · walk_at "g"
    have := fin (fun i => oneS (97 + (st + t * i) % 26)) nd3 (fun i hi => ⟨al_cons (abc_mem (by omega)) (fun _ m => (nomatch m)), Nat.le_refl _, show (1 : Nat) ≤ 8 by omega⟩) (fun i hi j hj e => by
      have e2 : [97 + (st + t * i) % 26] = [97 + (st + t * j) % 26] := congrArg (fun z : Str => z.cps.toList) e
      injection e2 with e2
      exact num1 t ht i (by omega) j (by omega) (by omega)) (by rw [em]; exact r2.more (by omega))
    rw [em] at this
    exact this
  walk_at "g"
  refine take_wc (n := n + 1) hT hW r2 (by omega) (by decide) fun s7 nd4 q1 q2 q3 => ?_
  obtain ⟨s7, rfl⟩ := Int.eq_ofNat_of_zero_le q1
  have e1 : (1 : Int) + (s7 : Int) = ((1 + s7 : Nat) : Int) := by omega
  walk_at "g"
  rw [e1]
  refine stem_wc (n := n) hT hS hW q3 (by omega) (by omega) fun z nd5 zl zo u3 => ?_
  rw [List.set_set] at u3 ⊢
  walk_at "g"
  refine ⟨fun _ => ?_, fun b => ?_⟩
  · walk_at "g"
    refine asO_of (len_strD (by omega)) ?_
    walk_at "g"
    have b9 : (9 : Int) < 2 ^ 4000 := by decide +kernel
    refine take_wc (n := n + 1) hT hW u3 (by omega) (by omega) fun at_ nd6 v1 v2 v3 => ?_
    rw [List.set_set] at v3 ⊢
    obtain ⟨a, rfl⟩ := Int.eq_ofNat_of_zero_le v1
    walk_at "g"
    refine we_lcS (xs := List.range cnt) (fun i => .str (oneS (97 + (st + t * i) % 26))) (fun i => .str (cutSt z none (some (a : Int)) ++ oneS (97 + (st + t * i) % 26) ++ cutSt z (some (a : Int)) none)) rfl (by rw [List.length_range]; omega) (fun i hi => ?_) ?_
    · show WE _ _ [some (.r k), some (.d (.int (cnt : Int))), some (.d (.str "abcdefghijklmnopqrstuvwxyz")), some (.d (.int way)), some (.d (.int (st : Int))), some (.d (.int (t : Int))), some (.d (.lst ((List.range cnt).map fun i => .str (oneS (97 + (st + t * i) % 26))))), some (.d (.str z)), some (.d (.int (a : Int))), none, none, some (.d (.str (oneS (97 + (st + t * i) % 26))))] _ _
      walk_at "g"
      refine asO_of (sl_strD (by omega)) ?_
      walk_at "g"
      refine asOp_strN (by rw [cut_take, List.length_take]; omega) (by rw [one_list, List.length_singleton]; omega) ?_
      walk_at "g"
      refine asO_of (sl_strD (by omega)) ?_
      refine asOp_strN (by rw [app_list, cut_take, one_list, List.length_append, List.length_take, List.length_singleton]; omega) (by rw [cut_drop, List.length_drop]; omega) ?_
      exact ⟨rfl, rfl⟩
    · have el : ∀ i, (cutSt z none (some (a : Int)) ++ oneS (97 + (st + t * i) % 26) ++ cutSt z (some (a : Int)) none).cps.toList = z.cps.toList.take a ++ ((97 + (st + t * i) % 26) :: z.cps.toList.drop a) := fun i => by
        rw [app_list, app_list, cut_take, cut_drop, one_list, List.append_assoc]
        rfl
      walk_at "g"
      refine fin _ nd6 (fun i hi => ⟨?_, ?_, ?_⟩) (fun i hi j hj e => ?_) (v3.more (by omega))
      · rw [el]
        refine ⟨fun x hx => ?_, fun x r e => ?_⟩
        · rcases List.mem_append.mp hx with hx | hx
          · exact zo.al x (List.mem_of_mem_take hx)
          · rcases List.mem_cons.mp hx with rfl | hx
            · exact abc_aln (abc_mem (by omega))
            · exact zo.al x (List.mem_of_mem_drop hx)
        · cases hz : z.cps.toList.take a with
          | nil =>
            rw [hz, List.nil_append] at e
            injection e with e
            rw [← e]
            exact abc_mem (by omega)
          | cons y ys =>
            rw [hz, List.cons_append] at e
            injection e with e
            rw [← e]
            exact (zo.take a).hd y ys hz
      · rw [el, List.length_append, List.length_cons]; omega
      · rw [el, List.length_append, List.length_cons, List.length_take, List.length_drop]; omega
      · have e2 := congrArg (fun z : Str => z.cps.toList) e
        simp only [el] at e2
        have e3 := List.append_cancel_left e2
        injection e3 with e3
        exact num1 t ht i (by omega) j (by omega) (by omega)
  walk_at "g"
  refine ⟨fun _ => ?_, fun b => ?_⟩
  · walk_at "g"
    refine stem_wc (n := n) (sz := 7) hT hS hW u3 (by omega) (by omega) fun y nd6 yl yo v3 => ?_
    rw [List.set_set] at v3 ⊢
    walk_at "g"
    refine we_lcR (cnt := cnt) (fun i => .str (oneS (97 + (st + i / 8) % 26) ++ cutSt y none (some (((st + t * i) % 8 : Nat) : Int)))) rfl (by omega) (fun i hi => ?_) ?_
    · show WE _ _ [some (.r k), some (.d (.int (cnt : Int))), some (.d (.str "abcdefghijklmnopqrstuvwxyz")), some (.d (.int way)), some (.d (.int (st : Int))), some (.d (.int (t : Int))), some (.d (.lst ((List.range cnt).map fun i => .str (oneS (97 + (st + t * i) % 26))))), some (.d (.str z)), none, some (.d (.str y)), some (.d (.int (i : Int))), none] _ _
      walk_at "g"
      refine asZ_of (z := .str (oneS (97 + (st + i / 8) % 26))) ?_ ?_
      · have e : ((st : Int) + (i : Int) / 8) % 26 = (((st + i / 8) % 26 : Nat) : Int) := by omega
        rw [e]
        exact let_at (v := (st + i / 8) % 26) (by omega)
      walk_at "g"
      refine asO_of (sl_strD (by omega)) ?_
      have e : ((st : Int) + (t : Int) * (i : Int)) % 8 = (((st + t * i) % 8 : Nat) : Int) := by
        rw [cm]
        omega
      rw [e]
      refine asOp_strN (by rw [one_list, List.length_singleton]; omega) (by rw [cut_take, List.length_take]; omega) ?_
      exact ⟨rfl, rfl⟩
    · have el : ∀ i, (oneS (97 + (st + i / 8) % 26) ++ cutSt y none (some (((st + t * i) % 8 : Nat) : Int))).cps.toList = (97 + (st + i / 8) % 26) :: y.cps.toList.take ((st + t * i) % 8) := fun i => by
        rw [app_list, cut_take, one_list]
        rfl
      walk_at "g"
      refine fin _ nd6 (fun i hi => ⟨?_, ?_, ?_⟩) (fun i hi j hj e => ?_) (v3.more (by omega))
      · rw [el]
        exact al_cons (abc_mem (by omega)) fun x hx => yo.al x (List.mem_of_mem_take hx)
      · rw [el, List.length_cons]; omega
      · rw [el, List.length_cons, List.length_take]; omega
      · have e2 := congrArg (fun z : Str => z.cps.toList) e
        simp only [el] at e2
        injection e2 with e3 e4
        have e5 := congrArg List.length e4
        rw [List.length_take, List.length_take, yl] at e5
        refine num2 t ht i (by omega) j (by omega) (by omega) ?_
        generalize t * i = a at e5 ⊢
        generalize t * j = b at e5 ⊢
        omega
  · walk_at "g"
    have ti : ∀ i, i < cnt → st + t * i < 700 := fun i hi => by
      have : t * i ≤ 25 * 26 := Nat.mul_le_mul ht25 (by omega)
      omega
    refine we_lcR (cnt := cnt) (fun i => .str (cutSt z none (some ((4 : Nat) : Int)) ++ Str.ofString (toString ((st + t * i : Nat) : Int)))) rfl (by omega) (fun i hi => ?_) ?_
    · show WE _ _ [some (.r k), some (.d (.int (cnt : Int))), some (.d (.str "abcdefghijklmnopqrstuvwxyz")), some (.d (.int way)), some (.d (.int (st : Int))), some (.d (.int (t : Int))), some (.d (.lst ((List.range cnt).map fun i => .str (oneS (97 + (st + t * i) % 26))))), some (.d (.str z)), none, none, some (.d (.int (i : Int))), none] _ _
      have hd := dig1 (st + t * i) (ti i hi)
      walk_at "g"
      refine asO_of (sl_strD (by omega)) ?_
      walk_at "g"
      rw [cm]
      refine asO_of (x := .d (.str (Str.ofString (toString ((st + t * i : Nat) : Int))))) (μ := m.set k (some nd5)) ?_ ?_
      · have z : ((st + t * i : Nat) : Int).natAbs.log2 < 1920 := by
          rw [Int.natAbs_natCast]
          have := ti i hi
          rcases Nat.eq_zero_or_pos (st + t * i) with g | g
          · rw [g]; decide
          · exact (Nat.log2_lt (by omega)).mpr (Nat.lt_trans this (by decide +kernel))
        simp only [bltP, ownB, bltD, if_pos z]
      walk_at "g"
      refine asOp_strN (show (cutSt z none (some ((4 : Nat) : Int))).cps.toList.length ≤ 1000 by rw [cut_take, List.length_take]; omega) (by rw [tl_nat]; omega) ?_
      exact ⟨rfl, rfl⟩
    · have el : ∀ i, (cutSt z none (some ((4 : Nat) : Int)) ++ Str.ofString (toString ((st + t * i : Nat) : Int))).cps.toList = z.cps.toList.take 4 ++ (Nat.toDigits 10 (st + t * i)).map Char.toNat := fun i => by
        rw [app_list, cut_take, tl_nat]
      walk_at "g"
      refine fin _ nd5 (fun i hi => ⟨?_, ?_, ?_⟩) (fun i hi j hj e => ?_) (u3.more (by omega))
      · rw [el]
        refine ⟨fun x hx => ?_, fun x r e => ?_⟩
        · rcases List.mem_append.mp hx with hx | hx
          · exact zo.al x (List.mem_of_mem_take hx)
          · exact (dig1 _ (ti i hi)).1 x hx
        · cases hz : z.cps.toList.take 4 with
          | nil =>
            have := congrArg List.length hz
            rw [List.length_take, List.length_nil] at this
            omega
          | cons y ys =>
            rw [hz, List.cons_append] at e
            injection e with e
            rw [← e]
            exact (zo.take 4).hd y ys hz
      · rw [el, List.length_append, List.length_take]; omega
      · have := (dig1 _ (ti i hi)).2.1
        rw [el, List.length_append, List.length_take]; omega
      · have e2 := congrArg (fun z : Str => z.cps.toList) e
        simp only [el] at e2
        have e3 := List.append_cancel_left e2
        have d1 := (dig1 _ (ti i hi)).2.2
        have d2 := (dig1 _ (ti j hj)).2.2
        rw [e3, d2] at d1
        refine num1 t ht i (by omega) j (by omega) ?_
        generalize t * i = a at d1 ⊢
        generalize t * j = b at d1 ⊢
        omega
end
end DL

/-! lowest terms, in plain Lean -/
namespace K02
/-- p / q is t / b in lowest terms -/
structure Low (p q t b : Int) : Prop where
  pos : 0 < q
  cross : p * b = t * q
  cop : Nat.gcd p.natAbs q.natAbs = 1
theorem Low.uniq {p q t b p' q' t' b' : Int} (h : Low p q t b) (h' : Low p' q' t' b') (hb : b ≠ 0) (hb' : b' ≠ 0) (e : t * b' = t' * b) : p = p' ∧ q = q' := by
  obtain ⟨h1, h2, h3⟩ := h
  obtain ⟨g1, g2, g3⟩ := h'
  have e1 : p * q' = p' * q := by
    have z : (p * q') * (b * b') = (p' * q) * (b * b') := by
      calc (p * q') * (b * b') = (p * b) * (q' * b') := by simp only [Int.mul_assoc, Int.mul_comm, Int.mul_left_comm]
        _ = (t * q) * (q' * b') := by rw [h2]
        _ = (t * b') * (q * q') := by simp only [Int.mul_assoc, Int.mul_comm, Int.mul_left_comm]
        _ = (t' * b) * (q * q') := by rw [e]
        _ = (t' * q') * (q * b) := by simp only [Int.mul_assoc, Int.mul_comm, Int.mul_left_comm]
        _ = (p' * b') * (q * b) := by rw [g2]
        _ = (p' * q) * (b * b') := by simp only [Int.mul_assoc, Int.mul_comm, Int.mul_left_comm]
    exact Int.eq_of_mul_eq_mul_right (Int.mul_ne_zero hb hb') z
  have e2 : p.natAbs * q'.natAbs = p'.natAbs * q.natAbs := by rw [← Int.natAbs_mul, ← Int.natAbs_mul, e1]
  have c1 : Nat.Coprime q.natAbs p.natAbs := by rw [Nat.coprime_iff_gcd_eq_one, Nat.gcd_comm]; exact h3
  have c2 : Nat.Coprime q'.natAbs p'.natAbs := by rw [Nat.coprime_iff_gcd_eq_one, Nat.gcd_comm]; exact g3
  have d1 : q.natAbs ∣ q'.natAbs := c1.dvd_of_dvd_mul_left (by rw [e2]; exact Nat.dvd_mul_left _ _)
  have d2 : q'.natAbs ∣ q.natAbs := c2.dvd_of_dvd_mul_left (by rw [← e2]; exact Nat.dvd_mul_left _ _)
  have eq : q = q' := by
    have := Nat.dvd_antisymm d1 d2
    omega
  refine ⟨?_, eq⟩
  rw [← eq] at e1
  exact Int.eq_of_mul_eq_mul_right (by omega) e1
/-- by the greatest common measure, with the sign of the bottom -/
theorem low_of {t b w : Int} (hb : b ≠ 0) (hw : w.natAbs = Nat.gcd t.natAbs b.natAbs) (hs : (b < 0 → w < 0) ∧ (0 < b → 0 < w)) : ∃ k j, t = w * k ∧ b = w * j ∧ Low k j t b := by
  have hg : 0 < Nat.gcd t.natAbs b.natAbs := Nat.gcd_pos_of_pos_right _ (by omega)
  have d1 : w ∣ t := Int.natAbs_dvd_natAbs.mp (by rw [hw]; exact Nat.gcd_dvd_left _ _)
  have d2 : w ∣ b := Int.natAbs_dvd_natAbs.mp (by rw [hw]; exact Nat.gcd_dvd_right _ _)
  obtain ⟨k, hk⟩ := d1
  obtain ⟨j, hj⟩ := d2
  refine ⟨k, j, hk, hj, ?_, ?_, ?_⟩
  · by_cases hn : b < 0
    · have hw := hs.1 hn
      by_cases z : 0 < j
      · exact z
      · have : 0 ≤ w * j := Int.mul_nonneg_of_nonpos_of_nonpos (by omega) (by omega)
        omega
    · have hw := hs.2 (by omega)
      by_cases z : 0 < j
      · exact z
      · have : w * j ≤ 0 := Int.mul_nonpos_of_nonneg_of_nonpos (by omega) (by omega)
        omega
  · rw [hk, hj]
    simp only [Int.mul_assoc, Int.mul_comm, Int.mul_left_comm]
  · have e : Nat.gcd t.natAbs b.natAbs = w.natAbs * Nat.gcd k.natAbs j.natAbs := by rw [hk, hj, Int.natAbs_mul, Int.natAbs_mul, Nat.gcd_mul_left]
    rw [← hw] at e
    have hp : 0 < w.natAbs := by omega
    have : w.natAbs * 1 = w.natAbs * Nat.gcd k.natAbs j.natAbs := by omega
    exact (Nat.eq_of_mul_eq_mul_left hp this).symm
/-- a step of Euclid's walk halves the product -/
theorem euclid_half {l s t : Nat} (h0 : 0 < s) (h1 : s ≤ l) (h : l * s < 2 ^ t) : 0 < t ∧ s * (l % s) < 2 ^ (t - 1) := by
  have ht : 0 < t := by
    apply Nat.pos_of_ne_zero
    intro z
    rw [z] at h
    have : 1 ≤ l * s := Nat.mul_pos (by omega) h0
    omega
  refine ⟨ht, ?_⟩
  have hr : l % s < s := Nat.mod_lt _ h0
  have h2 : 2 * (l % s) ≤ l := by
    have := Nat.div_add_mod l s
    have hq : 1 ≤ l / s := (Nat.one_le_div_iff h0).mpr h1
    have : s * 1 ≤ s * (l / s) := Nat.mul_le_mul_left _ hq
    omega
  have h3 : 2 * (s * (l % s)) ≤ l * s := by
    calc 2 * (s * (l % s)) = s * (2 * (l % s)) := by simp only [Nat.mul_assoc, Nat.mul_comm, Nat.mul_left_comm]
      _ ≤ s * l := Nat.mul_le_mul_left _ h2
      _ = l * s := Nat.mul_comm _ _
  have h4 : (2 : Nat) ^ t = 2 * 2 ^ (t - 1) := by
    obtain ⟨u, rfl⟩ := Nat.exists_eq_succ_of_ne_zero (Nat.pos_iff_ne_zero.mp ht)
    rw [Nat.pow_succ, Nat.succ_sub_one, Nat.mul_comm]
  omega
end K02
namespace K02
theorem Low.le {p q t b : Int} (h : Low p q t b) (hb : b ≠ 0) : p.natAbs ≤ t.natAbs ∧ q.natAbs ≤ b.natAbs := by
  obtain ⟨h1, h2, h3⟩ := h
  have e : p.natAbs * b.natAbs = t.natAbs * q.natAbs := by rw [← Int.natAbs_mul, ← Int.natAbs_mul, h2]
  have c1 : Nat.Coprime q.natAbs p.natAbs := by rw [Nat.coprime_iff_gcd_eq_one, Nat.gcd_comm]; exact h3
  have d1 : q.natAbs ∣ b.natAbs := c1.dvd_of_dvd_mul_left (by rw [e]; exact Nat.dvd_mul_left _ _)
  have l1 : q.natAbs ≤ b.natAbs := Nat.le_of_dvd (by omega) d1
  refine ⟨?_, l1⟩
  have l2 : p.natAbs * b.natAbs ≤ t.natAbs * b.natAbs := by rw [e]; exact Nat.mul_le_mul_left _ l1
  exact Nat.le_of_mul_le_mul_right l2 (by omega)
end K02

namespace K02
open PySem L2 DL
/- one step; what has one way only; a step with the choices -/
local macro_rules | `(tactic| walk_at "1s") => `(tactic| first | refine we_var rfl ?_ | refine we_con ?_ | refine wa_cons ?_ | refine wa_nil ?_ | refine asI_mk ?_ | refine asZ_mk ?_ | refine asD_mk ?_ | refine we_idx ?_ | refine asV_d ?_ | refine we_call ?_ | refine we_callK ?_ | refine we_bm ?_ | refine we_dnew ?_ | refine we_bin ?_ | refine asOp_int ?_ | refine we_cmp ?_ | refine asCmp_inK (by assumption) rfl ?_ | refine asCmp_notinK (by assumption) rfl ?_ | refine asCmp_inK rfl rfl ?_ | refine asCmp_notinK rfl rfl ?_ | refine asCmp_mk rfl ?_ | refine wt_cmp ?_ | refine we_blt ?_ | refine asO_mk ?_ | refine asB_mk ?_ | refine asG_mk (Nat.le_of_ble_eq_true rfl) ?_ | refine asG_mk (by decide) ?_ | refine asG_mk rfl ?_ | refine wt_val ?_ | refine wt_not ?_ | refine asW_d ?_ | refine we_glo rfl ?_ | refine we_tup ?_ | refine we_lstF ?_ | refine we_lstT ?_ | refine we_isi ?_ | refine wt_isi ?_ | refine we_not ?_ | refine we_neg ?_ | refine asNeg_int ?_ | refine we_fmt ?_ | refine we_jn1 ?_ | refine we_jn ?_ | refine wj_cons ?_ | refine wj_nil ?_ | refine asSt_mk ?_ | refine asZ_mod (by decide) ?_ | refine asZ_mul (by omega) (by omega) (by decide) ?_ | refine asZ_mulS (by omega) (by omega) (by omega) (by omega) ?_ | refine asZ_div (by decide +kernel) ?_ | refine asZ_pow (by decide +kernel) ?_ | refine asR_mk ?_ | refine as1_mk ?_ | refine asT_mk ?_ | refine asS_l ?_ | refine asS_t ?_ | refine asS_k ?_ | refine asS_s ?_ | refine wi_seq ?_ | refine wi_rng1 ?_ | refine wi_rng2 ?_ | refine wi_enum ?_ | refine we_app ?_ | refine we_sl ?_ | refine wo_none ?_ | refine wo_some ?_ | refine we_rv ?_ | refine we_dicF ?_ | refine we_fld ?_ | refine asOp_tup (Nat.le_of_ble_eq_true rfl) ?_ | refine asOp_str (by decide +kernel) ?_ | refine asOp_lst (Nat.le_of_ble_eq_true rfl) ?_ | (apply asV_r; assumption) | (apply asW_r; assumption) | (apply asC_mk; assumption) | (apply asV_rd; assumption) | (apply asW_rd; assumption) | (apply asK_mk; assumption) | refine asF_of (fldP_r (by assumption) rfl rfl rfl) ?_ | refine asV_rd rfl ?_ | refine asW_rd rfl ?_ | refine asV_r rfl ?_ | refine asW_r rfl ?_ | refine asK_mk rfl ?_ | refine asF_of (fldP_r rfl rfl rfl rfl) ?_ | refine asF_of (fldP_d rfl rfl rfl) ?_ | refine asC_mk rfl ?_ | refine ws_set ?_ | refine kq_nx ?_ | refine kq_rt ?_ | refine ws_ret ?_ | refine ws_nil ?_ | refine ws_ex ?_ | refine ws_unp ?_ | refine ws_pass ?_ | refine ws_setD ?_ | refine ws_retN ?_ | refine ws_brk ?_ | refine ws_cnt ?_ | refine kq_bk ?_ | refine kq_ct ?_ | refine kq_ex ?_ | refine ws_rais rfl ?_ | fail)
local macro_rules | `(tactic| walk_at "1c") => `(tactic| first | refine ws_ite ?_ | refine wt_bop ?_ | refine wt_bop1 ?_ | refine wt_chain ?_ | refine we_bop ?_ | refine we_bop1 ?_ | refine we_ife ?_ | refine we_chain ?_ | refine ws_par ?_ | refine ⟨fun _ => ?_, fun h => absurd (show (false : Bool) = true from h) Bool.false_ne_true⟩ | refine ⟨fun _ => ?_, fun h => absurd (show (true : Bool) = false from h).symm Bool.false_ne_true⟩ | refine ⟨fun h => absurd (show (true : Bool) = false from h).symm Bool.false_ne_true, fun _ => ?_⟩ | refine ⟨fun h => absurd (show (false : Bool) = true from h) Bool.false_ne_true, fun _ => ?_⟩ | fail)
local macro_rules | `(tactic| walk_at "x") => `(tactic| repeat (first | refine we_var rfl ?_ | refine we_con ?_ | refine wa_cons ?_ | refine wa_nil ?_ | refine asI_mk ?_ | refine asZ_mk ?_ | refine asD_mk ?_ | refine we_idx ?_ | refine asV_d ?_ | refine we_call ?_ | refine we_callK ?_ | refine we_bm ?_ | refine we_dnew ?_ | refine we_bin ?_ | refine asOp_int ?_ | refine we_cmp ?_ | refine asCmp_inK (by assumption) rfl ?_ | refine asCmp_notinK (by assumption) rfl ?_ | refine asCmp_inK rfl rfl ?_ | refine asCmp_notinK rfl rfl ?_ | refine asCmp_mk rfl ?_ | refine wt_cmp ?_ | refine we_blt ?_ | refine asO_mk ?_ | refine asB_mk ?_ | refine asG_mk (Nat.le_of_ble_eq_true rfl) ?_ | refine asG_mk (by decide) ?_ | refine asG_mk rfl ?_ | refine wt_val ?_ | refine wt_not ?_ | refine asW_d ?_ | refine we_glo rfl ?_ | refine we_tup ?_ | refine we_lstF ?_ | refine we_lstT ?_ | refine we_isi ?_ | refine wt_isi ?_ | refine we_not ?_ | refine we_neg ?_ | refine asNeg_int ?_ | refine we_fmt ?_ | refine we_jn1 ?_ | refine we_jn ?_ | refine wj_cons ?_ | refine wj_nil ?_ | refine asSt_mk ?_ | refine asZ_mod (by decide) ?_ | refine asZ_mul (by omega) (by omega) (by decide) ?_ | refine asZ_mulS (by omega) (by omega) (by omega) (by omega) ?_ | refine asZ_div (by decide +kernel) ?_ | refine asZ_pow (by decide +kernel) ?_ | refine asR_mk ?_ | refine as1_mk ?_ | refine asT_mk ?_ | refine asS_l ?_ | refine asS_t ?_ | refine asS_k ?_ | refine asS_s ?_ | refine wi_seq ?_ | refine wi_rng1 ?_ | refine wi_rng2 ?_ | refine wi_enum ?_ | refine we_app ?_ | refine we_sl ?_ | refine wo_none ?_ | refine wo_some ?_ | refine we_rv ?_ | refine we_dicF ?_ | refine we_fld ?_ | refine asOp_tup (Nat.le_of_ble_eq_true rfl) ?_ | refine asOp_str (by decide +kernel) ?_ | refine asOp_lst (Nat.le_of_ble_eq_true rfl) ?_ | (apply asV_r; assumption) | (apply asW_r; assumption) | (apply asC_mk; assumption) | (apply asV_rd; assumption) | (apply asW_rd; assumption) | (apply asK_mk; assumption) | refine asF_of (fldP_r (by assumption) rfl rfl rfl) ?_ | refine asV_rd rfl ?_ | refine asW_rd rfl ?_ | refine asV_r rfl ?_ | refine asW_r rfl ?_ | refine asK_mk rfl ?_ | refine asF_of (fldP_r rfl rfl rfl rfl) ?_ | refine asF_of (fldP_d rfl rfl rfl) ?_ | refine asC_mk rfl ?_ | fail))
local macro_rules | `(tactic| walk_at "s") => `(tactic| repeat (first | refine we_var rfl ?_ | refine we_con ?_ | refine wa_cons ?_ | refine wa_nil ?_ | refine asI_mk ?_ | refine asZ_mk ?_ | refine asD_mk ?_ | refine we_idx ?_ | refine asV_d ?_ | refine we_call ?_ | refine we_callK ?_ | refine we_bm ?_ | refine we_dnew ?_ | refine we_bin ?_ | refine asOp_int ?_ | refine we_cmp ?_ | refine asCmp_inK (by assumption) rfl ?_ | refine asCmp_notinK (by assumption) rfl ?_ | refine asCmp_inK rfl rfl ?_ | refine asCmp_notinK rfl rfl ?_ | refine asCmp_mk rfl ?_ | refine wt_cmp ?_ | refine we_blt ?_ | refine asO_mk ?_ | refine asB_mk ?_ | refine asG_mk (Nat.le_of_ble_eq_true rfl) ?_ | refine asG_mk (by decide) ?_ | refine asG_mk rfl ?_ | refine wt_val ?_ | refine wt_not ?_ | refine asW_d ?_ | refine we_glo rfl ?_ | refine we_tup ?_ | refine we_lstF ?_ | refine we_lstT ?_ | refine we_isi ?_ | refine wt_isi ?_ | refine we_not ?_ | refine we_neg ?_ | refine asNeg_int ?_ | refine we_fmt ?_ | refine we_jn1 ?_ | refine we_jn ?_ | refine wj_cons ?_ | refine wj_nil ?_ | refine asSt_mk ?_ | refine asZ_mod (by decide) ?_ | refine asZ_mul (by omega) (by omega) (by decide) ?_ | refine asZ_mulS (by omega) (by omega) (by omega) (by omega) ?_ | refine asZ_div (by decide +kernel) ?_ | refine asZ_pow (by decide +kernel) ?_ | refine asR_mk ?_ | refine as1_mk ?_ | refine asT_mk ?_ | refine asS_l ?_ | refine asS_t ?_ | refine asS_k ?_ | refine asS_s ?_ | refine wi_seq ?_ | refine wi_rng1 ?_ | refine wi_rng2 ?_ | refine wi_enum ?_ | refine we_app ?_ | refine we_sl ?_ | refine wo_none ?_ | refine wo_some ?_ | refine we_rv ?_ | refine we_dicF ?_ | refine we_fld ?_ | refine asOp_tup (Nat.le_of_ble_eq_true rfl) ?_ | refine asOp_str (by decide +kernel) ?_ | refine asOp_lst (Nat.le_of_ble_eq_true rfl) ?_ | (apply asV_r; assumption) | (apply asW_r; assumption) | (apply asC_mk; assumption) | (apply asV_rd; assumption) | (apply asW_rd; assumption) | (apply asK_mk; assumption) | refine asF_of (fldP_r (by assumption) rfl rfl rfl) ?_ | refine asV_rd rfl ?_ | refine asW_rd rfl ?_ | refine asV_r rfl ?_ | refine asW_r rfl ?_ | refine asK_mk rfl ?_ | refine asF_of (fldP_r rfl rfl rfl rfl) ?_ | refine asF_of (fldP_d rfl rfl rfl) ?_ | refine asC_mk rfl ?_ | refine ws_set ?_ | refine kq_nx ?_ | refine kq_rt ?_ | refine ws_ret ?_ | refine ws_nil ?_ | refine ws_ex ?_ | refine ws_unp ?_ | refine ws_pass ?_ | refine ws_setD ?_ | refine ws_retN ?_ | refine ws_brk ?_ | refine ws_cnt ?_ | refine kq_bk ?_ | refine kq_ct ?_ | refine kq_ex ?_ | refine ws_rais rfl ?_ | fail))
local macro_rules | `(tactic| walk_at "g") => `(tactic| repeat (first | refine we_var rfl ?_ | refine we_con ?_ | refine wa_cons ?_ | refine wa_nil ?_ | refine asI_mk ?_ | refine asZ_mk ?_ | refine asD_mk ?_ | refine we_idx ?_ | refine asV_d ?_ | refine we_call ?_ | refine we_callK ?_ | refine we_bm ?_ | refine we_dnew ?_ | refine we_bin ?_ | refine asOp_int ?_ | refine we_cmp ?_ | refine asCmp_inK (by assumption) rfl ?_ | refine asCmp_notinK (by assumption) rfl ?_ | refine asCmp_inK rfl rfl ?_ | refine asCmp_notinK rfl rfl ?_ | refine asCmp_mk rfl ?_ | refine wt_cmp ?_ | refine we_blt ?_ | refine asO_mk ?_ | refine asB_mk ?_ | refine asG_mk (Nat.le_of_ble_eq_true rfl) ?_ | refine asG_mk (by decide) ?_ | refine asG_mk rfl ?_ | refine wt_val ?_ | refine wt_not ?_ | refine asW_d ?_ | refine we_glo rfl ?_ | refine we_tup ?_ | refine we_lstF ?_ | refine we_lstT ?_ | refine we_isi ?_ | refine wt_isi ?_ | refine we_not ?_ | refine we_neg ?_ | refine asNeg_int ?_ | refine we_fmt ?_ | refine we_jn1 ?_ | refine we_jn ?_ | refine wj_cons ?_ | refine wj_nil ?_ | refine asSt_mk ?_ | refine asZ_mod (by decide) ?_ | refine asZ_mul (by omega) (by omega) (by decide) ?_ | refine asZ_mulS (by omega) (by omega) (by omega) (by omega) ?_ | refine asZ_div (by decide +kernel) ?_ | refine asZ_pow (by decide +kernel) ?_ | refine asR_mk ?_ | refine as1_mk ?_ | refine asT_mk ?_ | refine asS_l ?_ | refine asS_t ?_ | refine asS_k ?_ | refine asS_s ?_ | refine wi_seq ?_ | refine wi_rng1 ?_ | refine wi_rng2 ?_ | refine wi_enum ?_ | refine we_app ?_ | refine we_sl ?_ | refine wo_none ?_ | refine wo_some ?_ | refine we_rv ?_ | refine we_dicF ?_ | refine we_fld ?_ | refine asOp_tup (Nat.le_of_ble_eq_true rfl) ?_ | refine asOp_str (by decide +kernel) ?_ | refine asOp_lst (Nat.le_of_ble_eq_true rfl) ?_ | (apply asV_r; assumption) | (apply asW_r; assumption) | (apply asC_mk; assumption) | (apply asV_rd; assumption) | (apply asW_rd; assumption) | (apply asK_mk; assumption) | refine asF_of (fldP_r (by assumption) rfl rfl rfl) ?_ | refine asV_rd rfl ?_ | refine asW_rd rfl ?_ | refine asV_r rfl ?_ | refine asW_r rfl ?_ | refine asK_mk rfl ?_ | refine asF_of (fldP_r rfl rfl rfl rfl) ?_ | refine asF_of (fldP_d rfl rfl rfl) ?_ | refine asC_mk rfl ?_ | refine ws_set ?_ | refine kq_nx ?_ | refine kq_rt ?_ | refine ws_ret ?_ | refine ws_nil ?_ | refine ws_ex ?_ | refine ws_unp ?_ | refine ws_pass ?_ | refine ws_setD ?_ | refine ws_retN ?_ | refine ws_brk ?_ | refine ws_cnt ?_ | refine kq_bk ?_ | refine kq_ct ?_ | refine kq_ex ?_ | refine ws_rais rfl ?_ | refine ws_ite ?_ | refine wt_bop ?_ | refine wt_bop1 ?_ | refine wt_chain ?_ | refine we_bop ?_ | refine we_bop1 ?_ | refine we_ife ?_ | refine we_chain ?_ | refine ws_par ?_ | refine ⟨fun _ => ?_, fun h => absurd (show (false : Bool) = true from h) Bool.false_ne_true⟩ | refine ⟨fun _ => ?_, fun h => absurd (show (true : Bool) = false from h).symm Bool.false_ne_true⟩ | refine ⟨fun h => absurd (show (true : Bool) = false from h).symm Bool.false_ne_true, fun _ => ?_⟩ | refine ⟨fun h => absurd (show (false : Bool) = true from h) Bool.false_ne_true, fun _ => ?_⟩ | refine ⟨fun _ => ?_, fun h => absurd (of_decide_eq_true h) (by omega)⟩ | refine ⟨fun h => absurd (of_decide_eq_true h) (by omega), fun _ => ?_⟩ | refine ⟨fun _ => ?_, fun h => absurd (by omega) (of_decide_eq_false h)⟩ | refine ⟨fun h => absurd (by omega) (of_decide_eq_false h), fun _ => ?_⟩ | refine ⟨fun _ => ?_, fun h => absurd h (by decide +kernel)⟩ | refine ⟨fun h => absurd h (by decide +kernel), fun _ => ?_⟩ | fail))
local macro_rules | `(tactic| walk_at "h") => `(tactic| repeat (first | refine we_var rfl ?_ | refine we_con ?_ | refine wa_cons ?_ | refine wa_nil ?_ | refine asI_mk ?_ | refine asZ_mk ?_ | refine asD_mk ?_ | refine we_idx ?_ | refine asV_d ?_ | refine we_call ?_ | refine we_callK ?_ | refine we_bm ?_ | refine we_dnew ?_ | refine we_bin ?_ | refine asOp_int ?_ | refine we_cmp ?_ | refine asCmp_inK (by assumption) rfl ?_ | refine asCmp_notinK (by assumption) rfl ?_ | refine asCmp_inK rfl rfl ?_ | refine asCmp_notinK rfl rfl ?_ | refine asCmp_mk rfl ?_ | refine wt_cmp ?_ | refine we_blt ?_ | refine asO_mk ?_ | refine asB_mk ?_ | refine asG_mk (Nat.le_of_ble_eq_true rfl) ?_ | refine asG_mk (by decide) ?_ | refine asG_mk rfl ?_ | refine wt_val ?_ | refine wt_not ?_ | refine asW_d ?_ | refine we_glo rfl ?_ | refine we_tup ?_ | refine we_lstF ?_ | refine we_lstT ?_ | refine we_isi ?_ | refine wt_isi ?_ | refine we_not ?_ | refine we_neg ?_ | refine asNeg_int ?_ | refine we_fmt ?_ | refine we_jn1 ?_ | refine we_jn ?_ | refine wj_cons ?_ | refine wj_nil ?_ | refine asSt_mk ?_ | refine asZ_mod (by decide) ?_ | refine asZ_mul (by omega) (by omega) (by decide) ?_ | refine asZ_mulS (by omega) (by omega) (by omega) (by omega) ?_ | refine asZ_div (by decide +kernel) ?_ | refine asZ_pow (by decide +kernel) ?_ | refine asR_mk ?_ | refine as1_mk ?_ | refine asT_mk ?_ | refine asS_l ?_ | refine asS_t ?_ | refine asS_k ?_ | refine asS_s ?_ | refine wi_seq ?_ | refine wi_rng1 ?_ | refine wi_rng2 ?_ | refine wi_enum ?_ | refine we_app ?_ | refine we_sl ?_ | refine wo_none ?_ | refine wo_some ?_ | refine we_rv ?_ | refine we_dicF ?_ | refine we_fld ?_ | refine asOp_tup (Nat.le_of_ble_eq_true rfl) ?_ | refine asOp_str (by decide +kernel) ?_ | refine asOp_lst (Nat.le_of_ble_eq_true rfl) ?_ | (apply asV_r; assumption) | (apply asW_r; assumption) | (apply asC_mk; assumption) | (apply asV_rd; assumption) | (apply asW_rd; assumption) | (apply asK_mk; assumption) | refine asF_of (fldP_r (by assumption) rfl rfl rfl) ?_ | refine asV_rd rfl ?_ | refine asW_rd rfl ?_ | refine asV_r rfl ?_ | refine asW_r rfl ?_ | refine asK_mk rfl ?_ | refine asF_of (fldP_r rfl rfl rfl rfl) ?_ | refine asF_of (fldP_d rfl rfl rfl) ?_ | refine asC_mk rfl ?_ | refine ws_set ?_ | refine kq_nx ?_ | refine kq_rt ?_ | refine ws_ret ?_ | refine ws_nil ?_ | refine ws_unp ?_ | refine ws_pass ?_ | refine ws_setD ?_ | refine ws_retN ?_ | refine ws_brk ?_ | refine ws_cnt ?_ | refine kq_bk ?_ | refine kq_ct ?_ | refine kq_ex ?_ | refine ws_rais rfl ?_ | refine ws_ite ?_ | refine wt_bop ?_ | refine wt_bop1 ?_ | refine wt_chain ?_ | refine we_bop ?_ | refine we_bop1 ?_ | refine we_ife ?_ | refine we_chain ?_ | refine ws_par ?_ | refine ⟨fun _ => ?_, fun h => absurd (show (false : Bool) = true from h) Bool.false_ne_true⟩ | refine ⟨fun _ => ?_, fun h => absurd (show (true : Bool) = false from h).symm Bool.false_ne_true⟩ | refine ⟨fun h => absurd (show (true : Bool) = false from h).symm Bool.false_ne_true, fun _ => ?_⟩ | refine ⟨fun h => absurd (show (false : Bool) = true from h) Bool.false_ne_true, fun _ => ?_⟩ | refine ⟨fun _ => ?_, fun h => absurd (of_decide_eq_true h) (by omega)⟩ | refine ⟨fun h => absurd (of_decide_eq_true h) (by omega), fun _ => ?_⟩ | refine ⟨fun _ => ?_, fun h => absurd (by omega) (of_decide_eq_false h)⟩ | refine ⟨fun h => absurd (by omega) (of_decide_eq_false h), fun _ => ?_⟩ | refine ⟨fun _ => ?_, fun h => absurd h (by decide +kernel)⟩ | refine ⟨fun h => absurd h (by decide +kernel), fun _ => ?_⟩ | fail))
section
variable {n : Nat} {μ : Mu} {k : Nat} {cs : List Int} {N : Int} {K : X → Mu → Prop}
theorem mod_nat (a b : Nat) : ((a : Int) % (b : Int)) = ((a % b : Nat) : Int) := by first | rfl | simp
/-- the state of Euclid's walk -/
def Eu (G t a b : Nat) : Prop := Nat.gcd a b = G ∧ ((b ≤ a ∧ a * b < 2 ^ t) ∨ (a < b ∧ 0 < t ∧ a * b < 2 ^ (t - 1)))
theorem Eu.step {G t a b : Nat} (h : Eu G t a b) (h0 : 0 < b) : t - 1 < t ∧ Eu G (t - 1) b (a % b) := by
  obtain ⟨h1, h2⟩ := h
  have e : Nat.gcd b (a % b) = G := by rw [← h1, Nat.gcd_comm b, Nat.gcd_comm a b, Nat.gcd_rec b a]
  have hr : a % b < b := Nat.mod_lt _ h0
  rcases h2 with ⟨h2, h3⟩ | ⟨h2, h3, h4⟩
  · obtain ⟨g1, g2⟩ := euclid_half h0 h2 h3
    exact ⟨by omega, e, .inl ⟨by omega, g2⟩⟩
  · refine ⟨by omega, e, .inl ⟨by omega, ?_⟩⟩
    rw [Nat.mod_eq_of_lt h2, Nat.mul_comm]
    exact h4
theorem Eu.start {a b : Nat} (ha : a < 2 ^ 440) (hb : b < 2 ^ 440) : Eu (Nat.gcd a b) 900 a b := by
  have h : a * b < 2 ^ 880 := by
    have : a * b ≤ 2 ^ 440 * 2 ^ 440 := Nat.mul_le_mul (Nat.le_of_lt ha) (Nat.le_of_lt hb)
    by_cases z : a * b = 2 ^ 440 * 2 ^ 440
    · have : a * b < 2 ^ 440 * 2 ^ 440 := Nat.mul_lt_mul'' ha hb
      omega
    · have e : (2 : Nat) ^ 880 = 2 ^ 440 * 2 ^ 440 := by rw [← Nat.pow_add]
      omega
  have h1 : (2 : Nat) ^ 880 ≤ 2 ^ 899 := Nat.pow_le_pow_right (by decide) (by decide)
  have h2 : (2 : Nat) ^ 899 ≤ 2 ^ 900 := Nat.pow_le_pow_right (by decide) (by decide)
  refine ⟨rfl, ?_⟩
  by_cases z : b ≤ a
  · exact .inl ⟨z, by omega⟩
  · exact .inr ⟨by omega, by decide, by show a * b < 2 ^ 899; omega⟩
theorem gcd_wc {l s : Nat} (hl : l < 2 ^ 440) (hs : s < 2 ^ 440) (h : K (.d (.int (Nat.gcd l s : Nat))) μ) : WC1 (C (n + 1)) j_lgcd [.d (.int (l : Int)), .d (.int (s : Int))] μ K := by
  refine wc_of t_lgcd rfl ?_
  show WS _ b_lgcd [some (.d (.int (l : Int))), some (.d (.int (s : Int))), none] μ _
  unfold b_lgcd
  refine ws_whl ?_
  refine while_inv (Q := Kq _ _ _) (fun t ρ μ' => ∃ (a b : Nat) (z : Option X), (∀ j, z ≠ some (.r j)) ∧ ρ = [some (.d (.int (a : Int))), some (.d (.int (b : Int))), z] ∧ μ' = μ ∧ Eu (Nat.gcd l s) t a b) ?_ 1000 900 _ _ (by decide) ⟨l, s, none, by simp, rfl, rfl, Eu.start hl hs⟩
  rintro t ρ μ1 ⟨a, b, z, hz, rfl, rfl, eu⟩
  refine wt_cmp (we_var rfl (we_con (asCmp_mk rfl (asZ_mk ⟨fun hc => ?_, fun hc => ?_⟩))))
  · have hc : ¬ (0 : Int) < (b : Int) := of_decide_eq_false hc
    have hb : b = 0 := by omega
    subst hb
    have e := eu.1
    rw [Nat.gcd_zero_right] at e
    rw [← e] at h
    refine kq_nx ?_
    walk_at "g"
    exact fq_d rfl h
  · have hc : (0 : Int) < (b : Int) := of_decide_eq_true hc
    walk_at "g"
    refine asZ_of (bin_mod hc) ?_
    walk_at "g"
    obtain ⟨g1, g2⟩ := eu.step (by omega)
    refine ⟨t - 1, g1, ?_⟩
    rw [tidy_env rfl (fun j hj => by simp at hj)]
    refine ⟨b, a % b, some (.d (.int ((a : Int) % (b : Int)))), by simp, ?_, rfl, g2⟩
    rw [mod_nat]
    rfl
theorem abs_nat (i : Int) : (if i < 0 then -i else i) = (i.natAbs : Int) := by split <;> omega
theorem measure_wc {l s : Int} (hl : l.natAbs < 2 ^ 440) (hs : s.natAbs < 2 ^ 440) (h : K (.d (.int (Nat.gcd l.natAbs s.natAbs : Nat))) μ) : WC1 (C (n + 1)) j_common_measure [.d (.int l), .d (.int s)] μ K := by
  refine wc_of t_common_measure rfl ?_
  show WS _ b_common_measure [some (.d (.int l)), some (.d (.int s)), none, none] μ _
  unfold b_common_measure
  walk_at "g"
  rw [abs_nat, abs_nat]
  refine ws_whl ?_
  refine while_inv (Q := Kq _ _ _) (fun t ρ μ' => ∃ (a b : Nat), ρ = [some (.d (.int l)), some (.d (.int s)), some (.d (.int (a : Int))), some (.d (.int (b : Int)))] ∧ μ' = μ ∧ Eu (Nat.gcd l.natAbs s.natAbs) t a b) ?_ 1000 900 _ _ (by decide) ⟨_, _, rfl, rfl, Eu.start hl hs⟩
  rintro t ρ μ1 ⟨a, b, rfl, rfl, eu⟩
  refine wt_cmp (we_var rfl (we_con (asCmp_mk rfl (asZ_mk ⟨fun hc => ?_, fun hc => ?_⟩))))
  · have hc : (!decide ((b : Int) = 0)) = false := hc
    have hb : b = 0 := by
      by_cases z : (b : Int) = 0
      · omega
      · rw [decide_eq_false z] at hc
        cases hc
    subst hb
    have e := eu.1
    rw [Nat.gcd_zero_right] at e
    rw [← e] at h
    refine kq_nx ?_
    walk_at "g"
    exact fq_d rfl h
  · have hc : (!decide ((b : Int) = 0)) = true := hc
    have hb : 0 < b := by
      by_cases z : (b : Int) = 0
      · rw [decide_eq_true z] at hc
        cases hc
      · omega
    walk_at "g"
    refine asZ_of (bin_mod (by omega)) ?_
    walk_at "g"
    obtain ⟨g1, g2⟩ := eu.step hb
    refine ⟨t - 1, g1, ?_⟩
    rw [tidy_env rfl (fun j hj => by simp at hj)]
    refine ⟨b, a % b, ?_, rfl, g2⟩
    rw [← mod_nat]
    rfl
end
end K02

namespace K02
open PySem L2 DL
/- one step; what has one way only; a step with the choices -/
local macro_rules | `(tactic| walk_at "1s") => `(tactic| first | refine we_var rfl ?_ | refine we_con ?_ | refine wa_cons ?_ | refine wa_nil ?_ | refine asI_mk ?_ | refine asZ_mk ?_ | refine asD_mk ?_ | refine we_idx ?_ | refine asV_d ?_ | refine we_call ?_ | refine we_callK ?_ | refine we_bm ?_ | refine we_dnew ?_ | refine we_bin ?_ | refine asOp_int ?_ | refine we_cmp ?_ | refine asCmp_inK (by assumption) rfl ?_ | refine asCmp_notinK (by assumption) rfl ?_ | refine asCmp_inK rfl rfl ?_ | refine asCmp_notinK rfl rfl ?_ | refine asCmp_mk rfl ?_ | refine wt_cmp ?_ | refine we_blt ?_ | refine asO_mk ?_ | refine asB_mk ?_ | refine asG_mk (Nat.le_of_ble_eq_true rfl) ?_ | refine asG_mk (by decide) ?_ | refine asG_mk rfl ?_ | refine wt_val ?_ | refine wt_not ?_ | refine asW_d ?_ | refine we_glo rfl ?_ | refine we_tup ?_ | refine we_lstF ?_ | refine we_lstT ?_ | refine we_isi ?_ | refine wt_isi ?_ | refine we_not ?_ | refine we_neg ?_ | refine asNeg_int ?_ | refine we_fmt ?_ | refine we_jn1 ?_ | refine we_jn ?_ | refine wj_cons ?_ | refine wj_nil ?_ | refine asSt_mk ?_ | refine asZ_mod (by decide) ?_ | refine asZ_mul (by omega) (by omega) (by decide) ?_ | refine asZ_mulS (by omega) (by omega) (by omega) (by omega) ?_ | refine asZ_div (by decide +kernel) ?_ | refine asZ_pow (by decide +kernel) ?_ | refine asR_mk ?_ | refine as1_mk ?_ | refine asT_mk ?_ | refine asS_l ?_ | refine asS_t ?_ | refine asS_k ?_ | refine asS_s ?_ | refine wi_seq ?_ | refine wi_rng1 ?_ | refine wi_rng2 ?_ | refine wi_enum ?_ | refine we_app ?_ | refine we_sl ?_ | refine wo_none ?_ | refine wo_some ?_ | refine we_rv ?_ | refine we_dicF ?_ | refine we_fld ?_ | refine asOp_tup (Nat.le_of_ble_eq_true rfl) ?_ | refine asOp_str (by decide +kernel) ?_ | refine asOp_lst (Nat.le_of_ble_eq_true rfl) ?_ | (apply asV_r; assumption) | (apply asW_r; assumption) | (apply asC_mk; assumption) | (apply asV_rd; assumption) | (apply asW_rd; assumption) | (apply asK_mk; assumption) | refine asF_of (fldP_r (by assumption) rfl rfl rfl) ?_ | refine asV_rd rfl ?_ | refine asW_rd rfl ?_ | refine asV_r rfl ?_ | refine asW_r rfl ?_ | refine asK_mk rfl ?_ | refine asF_of (fldP_r rfl rfl rfl rfl) ?_ | refine asF_of (fldP_d rfl rfl rfl) ?_ | refine asC_mk rfl ?_ | refine ws_set ?_ | refine kq_nx ?_ | refine kq_rt ?_ | refine ws_ret ?_ | refine ws_nil ?_ | refine ws_ex ?_ | refine ws_unp ?_ | refine ws_pass ?_ | refine ws_setD ?_ | refine ws_retN ?_ | refine ws_brk ?_ | refine ws_cnt ?_ | refine kq_bk ?_ | refine kq_ct ?_ | refine kq_ex ?_ | refine ws_rais rfl ?_ | fail)
local macro_rules | `(tactic| walk_at "1c") => `(tactic| first | refine ws_ite ?_ | refine wt_bop ?_ | refine wt_bop1 ?_ | refine wt_chain ?_ | refine we_bop ?_ | refine we_bop1 ?_ | refine we_ife ?_ | refine we_chain ?_ | refine ws_par ?_ | refine ⟨fun _ => ?_, fun h => absurd (show (false : Bool) = true from h) Bool.false_ne_true⟩ | refine ⟨fun _ => ?_, fun h => absurd (show (true : Bool) = false from h).symm Bool.false_ne_true⟩ | refine ⟨fun h => absurd (show (true : Bool) = false from h).symm Bool.false_ne_true, fun _ => ?_⟩ | refine ⟨fun h => absurd (show (false : Bool) = true from h) Bool.false_ne_true, fun _ => ?_⟩ | fail)
local macro_rules | `(tactic| walk_at "x") => `(tactic| repeat (first | refine we_var rfl ?_ | refine we_con ?_ | refine wa_cons ?_ | refine wa_nil ?_ | refine asI_mk ?_ | refine asZ_mk ?_ | refine asD_mk ?_ | refine we_idx ?_ | refine asV_d ?_ | refine we_call ?_ | refine we_callK ?_ | refine we_bm ?_ | refine we_dnew ?_ | refine we_bin ?_ | refine asOp_int ?_ | refine we_cmp ?_ | refine asCmp_inK (by assumption) rfl ?_ | refine asCmp_notinK (by assumption) rfl ?_ | refine asCmp_inK rfl rfl ?_ | refine asCmp_notinK rfl rfl ?_ | refine asCmp_mk rfl ?_ | refine wt_cmp ?_ | refine we_blt ?_ | refine asO_mk ?_ | refine asB_mk ?_ | refine asG_mk (Nat.le_of_ble_eq_true rfl) ?_ | refine asG_mk (by decide) ?_ | refine asG_mk rfl ?_ | refine wt_val ?_ | refine wt_not ?_ | refine asW_d ?_ | refine we_glo rfl ?_ | refine we_tup ?_ | refine we_lstF ?_ | refine we_lstT ?_ | refine we_isi ?_ | refine wt_isi ?_ | refine we_not ?_ | refine we_neg ?_ | refine asNeg_int ?_ | refine we_fmt ?_ | refine we_jn1 ?_ | refine we_jn ?_ | refine wj_cons ?_ | refine wj_nil ?_ | refine asSt_mk ?_ | refine asZ_mod (by decide) ?_ | refine asZ_mul (by omega) (by omega) (by decide) ?_ | refine asZ_mulS (by omega) (by omega) (by omega) (by omega) ?_ | refine asZ_div (by decide +kernel) ?_ | refine asZ_pow (by decide +kernel) ?_ | refine asR_mk ?_ | refine as1_mk ?_ | refine asT_mk ?_ | refine asS_l ?_ | refine asS_t ?_ | refine asS_k ?_ | refine asS_s ?_ | refine wi_seq ?_ | refine wi_rng1 ?_ | refine wi_rng2 ?_ | refine wi_enum ?_ | refine we_app ?_ | refine we_sl ?_ | refine wo_none ?_ | refine wo_some ?_ | refine we_rv ?_ | refine we_dicF ?_ | refine we_fld ?_ | refine asOp_tup (Nat.le_of_ble_eq_true rfl) ?_ | refine asOp_str (by decide +kernel) ?_ | refine asOp_lst (Nat.le_of_ble_eq_true rfl) ?_ | (apply asV_r; assumption) | (apply asW_r; assumption) | (apply asC_mk; assumption) | (apply asV_rd; assumption) | (apply asW_rd; assumption) | (apply asK_mk; assumption) | refine asF_of (fldP_r (by assumption) rfl rfl rfl) ?_ | refine asV_rd rfl ?_ | refine asW_rd rfl ?_ | refine asV_r rfl ?_ | refine asW_r rfl ?_ | refine asK_mk rfl ?_ | refine asF_of (fldP_r rfl rfl rfl rfl) ?_ | refine asF_of (fldP_d rfl rfl rfl) ?_ | refine asC_mk rfl ?_ | fail))
local macro_rules | `(tactic| walk_at "s") => `(tactic| repeat (first | refine we_var rfl ?_ | refine we_con ?_ | refine wa_cons ?_ | refine wa_nil ?_ | refine asI_mk ?_ | refine asZ_mk ?_ | refine asD_mk ?_ | refine we_idx ?_ | refine asV_d ?_ | refine we_call ?_ | refine we_callK ?_ | refine we_bm ?_ | refine we_dnew ?_ | refine we_bin ?_ | refine asOp_int ?_ | refine we_cmp ?_ | refine asCmp_inK (by assumption) rfl ?_ | refine asCmp_notinK (by assumption) rfl ?_ | refine asCmp_inK rfl rfl ?_ | refine asCmp_notinK rfl rfl ?_ | refine asCmp_mk rfl ?_ | refine wt_cmp ?_ | refine we_blt ?_ | refine asO_mk ?_ | refine asB_mk ?_ | refine asG_mk (Nat.le_of_ble_eq_true rfl) ?_ | refine asG_mk (by decide) ?_ | refine asG_mk rfl ?_ | refine wt_val ?_ | refine wt_not ?_ | refine asW_d ?_ | refine we_glo rfl ?_ | refine we_tup ?_ | refine we_lstF ?_ | refine we_lstT ?_ | refine we_isi ?_ | refine wt_isi ?_ | refine we_not ?_ | refine we_neg ?_ | refine asNeg_int ?_ | refine we_fmt ?_ | refine we_jn1 ?_ | refine we_jn ?_ | refine wj_cons ?_ | refine wj_nil ?_ | refine asSt_mk ?_ | refine asZ_mod (by decide) ?_ | refine asZ_mul (by omega) (by omega) (by decide) ?_ | refine asZ_mulS (by omega) (by omega) (by omega) (by omega) ?_ | refine asZ_div (by decide +kernel) ?_ | refine asZ_pow (by decide +kernel) ?_ | refine asR_mk ?_ | refine as1_mk ?_ | refine asT_mk ?_ | refine asS_l ?_ | refine asS_t ?_ | refine asS_k ?_ | refine asS_s ?_ | refine wi_seq ?_ | refine wi_rng1 ?_ | refine wi_rng2 ?_ | refine wi_enum ?_ | refine we_app ?_ | refine we_sl ?_ | refine wo_none ?_ | refine wo_some ?_ | refine we_rv ?_ | refine we_dicF ?_ | refine we_fld ?_ | refine asOp_tup (Nat.le_of_ble_eq_true rfl) ?_ | refine asOp_str (by decide +kernel) ?_ | refine asOp_lst (Nat.le_of_ble_eq_true rfl) ?_ | (apply asV_r; assumption) | (apply asW_r; assumption) | (apply asC_mk; assumption) | (apply asV_rd; assumption) | (apply asW_rd; assumption) | (apply asK_mk; assumption) | refine asF_of (fldP_r (by assumption) rfl rfl rfl) ?_ | refine asV_rd rfl ?_ | refine asW_rd rfl ?_ | refine asV_r rfl ?_ | refine asW_r rfl ?_ | refine asK_mk rfl ?_ | refine asF_of (fldP_r rfl rfl rfl rfl) ?_ | refine asF_of (fldP_d rfl rfl rfl) ?_ | refine asC_mk rfl ?_ | refine ws_set ?_ | refine kq_nx ?_ | refine kq_rt ?_ | refine ws_ret ?_ | refine ws_nil ?_ | refine ws_ex ?_ | refine ws_unp ?_ | refine ws_pass ?_ | refine ws_setD ?_ | refine ws_retN ?_ | refine ws_brk ?_ | refine ws_cnt ?_ | refine kq_bk ?_ | refine kq_ct ?_ | refine kq_ex ?_ | refine ws_rais rfl ?_ | fail))
local macro_rules | `(tactic| walk_at "g") => `(tactic| repeat (first | refine we_var rfl ?_ | refine we_con ?_ | refine wa_cons ?_ | refine wa_nil ?_ | refine asI_mk ?_ | refine asZ_mk ?_ | refine asD_mk ?_ | refine we_idx ?_ | refine asV_d ?_ | refine we_call ?_ | refine we_callK ?_ | refine we_bm ?_ | refine we_dnew ?_ | refine we_bin ?_ | refine asOp_int ?_ | refine we_cmp ?_ | refine asCmp_inK (by assumption) rfl ?_ | refine asCmp_notinK (by assumption) rfl ?_ | refine asCmp_inK rfl rfl ?_ | refine asCmp_notinK rfl rfl ?_ | refine asCmp_mk rfl ?_ | refine wt_cmp ?_ | refine we_blt ?_ | refine asO_mk ?_ | refine asB_mk ?_ | refine asG_mk (Nat.le_of_ble_eq_true rfl) ?_ | refine asG_mk (by decide) ?_ | refine asG_mk rfl ?_ | refine wt_val ?_ | refine wt_not ?_ | refine asW_d ?_ | refine we_glo rfl ?_ | refine we_tup ?_ | refine we_lstF ?_ | refine we_lstT ?_ | refine we_isi ?_ | refine wt_isi ?_ | refine we_not ?_ | refine we_neg ?_ | refine asNeg_int ?_ | refine we_fmt ?_ | refine we_jn1 ?_ | refine we_jn ?_ | refine wj_cons ?_ | refine wj_nil ?_ | refine asSt_mk ?_ | refine asZ_mod (by decide) ?_ | refine asZ_mul (by omega) (by omega) (by decide) ?_ | refine asZ_mulS (by omega) (by omega) (by omega) (by omega) ?_ | refine asZ_div (by decide +kernel) ?_ | refine asZ_pow (by decide +kernel) ?_ | refine asR_mk ?_ | refine as1_mk ?_ | refine asT_mk ?_ | refine asS_l ?_ | refine asS_t ?_ | refine asS_k ?_ | refine asS_s ?_ | refine wi_seq ?_ | refine wi_rng1 ?_ | refine wi_rng2 ?_ | refine wi_enum ?_ | refine we_app ?_ | refine we_sl ?_ | refine wo_none ?_ | refine wo_some ?_ | refine we_rv ?_ | refine we_dicF ?_ | refine we_fld ?_ | refine asOp_tup (Nat.le_of_ble_eq_true rfl) ?_ | refine asOp_str (by decide +kernel) ?_ | refine asOp_lst (Nat.le_of_ble_eq_true rfl) ?_ | (apply asV_r; assumption) | (apply asW_r; assumption) | (apply asC_mk; assumption) | (apply asV_rd; assumption) | (apply asW_rd; assumption) | (apply asK_mk; assumption) | refine asF_of (fldP_r (by assumption) rfl rfl rfl) ?_ | refine asV_rd rfl ?_ | refine asW_rd rfl ?_ | refine asV_r rfl ?_ | refine asW_r rfl ?_ | refine asK_mk rfl ?_ | refine asF_of (fldP_r rfl rfl rfl rfl) ?_ | refine asF_of (fldP_d rfl rfl rfl) ?_ | refine asC_mk rfl ?_ | refine ws_set ?_ | refine kq_nx ?_ | refine kq_rt ?_ | refine ws_ret ?_ | refine ws_nil ?_ | refine ws_ex ?_ | refine ws_unp ?_ | refine ws_pass ?_ | refine ws_setD ?_ | refine ws_retN ?_ | refine ws_brk ?_ | refine ws_cnt ?_ | refine kq_bk ?_ | refine kq_ct ?_ | refine kq_ex ?_ | refine ws_rais rfl ?_ | refine ws_ite ?_ | refine wt_bop ?_ | refine wt_bop1 ?_ | refine wt_chain ?_ | refine we_bop ?_ | refine we_bop1 ?_ | refine we_ife ?_ | refine we_chain ?_ | refine ws_par ?_ | refine ⟨fun _ => ?_, fun h => absurd (show (false : Bool) = true from h) Bool.false_ne_true⟩ | refine ⟨fun _ => ?_, fun h => absurd (show (true : Bool) = false from h).symm Bool.false_ne_true⟩ | refine ⟨fun h => absurd (show (true : Bool) = false from h).symm Bool.false_ne_true, fun _ => ?_⟩ | refine ⟨fun h => absurd (show (false : Bool) = true from h) Bool.false_ne_true, fun _ => ?_⟩ | refine ⟨fun _ => ?_, fun h => absurd (of_decide_eq_true h) (by omega)⟩ | refine ⟨fun h => absurd (of_decide_eq_true h) (by omega), fun _ => ?_⟩ | refine ⟨fun _ => ?_, fun h => absurd (by omega) (of_decide_eq_false h)⟩ | refine ⟨fun h => absurd (by omega) (of_decide_eq_false h), fun _ => ?_⟩ | refine ⟨fun _ => ?_, fun h => absurd h (by decide +kernel)⟩ | refine ⟨fun h => absurd h (by decide +kernel), fun _ => ?_⟩ | fail))
local macro_rules | `(tactic| walk_at "h") => `(tactic| repeat (first | refine we_var rfl ?_ | refine we_con ?_ | refine wa_cons ?_ | refine wa_nil ?_ | refine asI_mk ?_ | refine asZ_mk ?_ | refine asD_mk ?_ | refine we_idx ?_ | refine asV_d ?_ | refine we_call ?_ | refine we_callK ?_ | refine we_bm ?_ | refine we_dnew ?_ | refine we_bin ?_ | refine asOp_int ?_ | refine we_cmp ?_ | refine asCmp_inK (by assumption) rfl ?_ | refine asCmp_notinK (by assumption) rfl ?_ | refine asCmp_inK rfl rfl ?_ | refine asCmp_notinK rfl rfl ?_ | refine asCmp_mk rfl ?_ | refine wt_cmp ?_ | refine we_blt ?_ | refine asO_mk ?_ | refine asB_mk ?_ | refine asG_mk (Nat.le_of_ble_eq_true rfl) ?_ | refine asG_mk (by decide) ?_ | refine asG_mk rfl ?_ | refine wt_val ?_ | refine wt_not ?_ | refine asW_d ?_ | refine we_glo rfl ?_ | refine we_tup ?_ | refine we_lstF ?_ | refine we_lstT ?_ | refine we_isi ?_ | refine wt_isi ?_ | refine we_not ?_ | refine we_neg ?_ | refine asNeg_int ?_ | refine we_fmt ?_ | refine we_jn1 ?_ | refine we_jn ?_ | refine wj_cons ?_ | refine wj_nil ?_ | refine asSt_mk ?_ | refine asZ_mod (by decide) ?_ | refine asZ_mul (by omega) (by omega) (by decide) ?_ | refine asZ_mulS (by omega) (by omega) (by omega) (by omega) ?_ | refine asZ_div (by decide +kernel) ?_ | refine asZ_pow (by decide +kernel) ?_ | refine asR_mk ?_ | refine as1_mk ?_ | refine asT_mk ?_ | refine asS_l ?_ | refine asS_t ?_ | refine asS_k ?_ | refine asS_s ?_ | refine wi_seq ?_ | refine wi_rng1 ?_ | refine wi_rng2 ?_ | refine wi_enum ?_ | refine we_app ?_ | refine we_sl ?_ | refine wo_none ?_ | refine wo_some ?_ | refine we_rv ?_ | refine we_dicF ?_ | refine we_fld ?_ | refine asOp_tup (Nat.le_of_ble_eq_true rfl) ?_ | refine asOp_str (by decide +kernel) ?_ | refine asOp_lst (Nat.le_of_ble_eq_true rfl) ?_ | (apply asV_r; assumption) | (apply asW_r; assumption) | (apply asC_mk; assumption) | (apply asV_rd; assumption) | (apply asW_rd; assumption) | (apply asK_mk; assumption) | refine asF_of (fldP_r (by assumption) rfl rfl rfl) ?_ | refine asV_rd rfl ?_ | refine asW_rd rfl ?_ | refine asV_r rfl ?_ | refine asW_r rfl ?_ | refine asK_mk rfl ?_ | refine asF_of (fldP_r rfl rfl rfl rfl) ?_ | refine asF_of (fldP_d rfl rfl rfl) ?_ | refine asC_mk rfl ?_ | refine ws_set ?_ | refine kq_nx ?_ | refine kq_rt ?_ | refine ws_ret ?_ | refine ws_nil ?_ | refine ws_unp ?_ | refine ws_pass ?_ | refine ws_setD ?_ | refine ws_retN ?_ | refine ws_brk ?_ | refine ws_cnt ?_ | refine kq_bk ?_ | refine kq_ct ?_ | refine kq_ex ?_ | refine ws_rais rfl ?_ | refine ws_ite ?_ | refine wt_bop ?_ | refine wt_bop1 ?_ | refine wt_chain ?_ | refine we_bop ?_ | refine we_bop1 ?_ | refine we_ife ?_ | refine we_chain ?_ | refine ws_par ?_ | refine ⟨fun _ => ?_, fun h => absurd (show (false : Bool) = true from h) Bool.false_ne_true⟩ | refine ⟨fun _ => ?_, fun h => absurd (show (true : Bool) = false from h).symm Bool.false_ne_true⟩ | refine ⟨fun h => absurd (show (true : Bool) = false from h).symm Bool.false_ne_true, fun _ => ?_⟩ | refine ⟨fun h => absurd (show (false : Bool) = true from h) Bool.false_ne_true, fun _ => ?_⟩ | refine ⟨fun _ => ?_, fun h => absurd (of_decide_eq_true h) (by omega)⟩ | refine ⟨fun h => absurd (of_decide_eq_true h) (by omega), fun _ => ?_⟩ | refine ⟨fun _ => ?_, fun h => absurd (by omega) (of_decide_eq_false h)⟩ | refine ⟨fun h => absurd (by omega) (of_decide_eq_false h), fun _ => ?_⟩ | refine ⟨fun _ => ?_, fun h => absurd h (by decide +kernel)⟩ | refine ⟨fun h => absurd h (by decide +kernel), fun _ => ?_⟩ | fail))
section
variable {n : Nat} {μ : Mu} {k : Nat} {cs : List Int} {N : Int} {K : X → Mu → Prop}
/-- the quotient by the measure with the bottom's sign -/
theorem quot_pos {t w k : Int} (hw : 0 < w) (hl : w.natAbs < 2 ^ 440) (e : t = w * k) : binI .fdiv t w = some k := by
  rw [bin_div (divOk_of (b := 440) hw hl (by decide)), e, Int.mul_ediv_cancel_left k (by omega)]
theorem quot_neg {t w k : Int} (hw : w < 0) (hl : w.natAbs < 2 ^ 440) (e : t = w * k) : binI .fdiv t w = some k := by
  rw [bin_divN hw (divNeg_of (b := 440) hw hl (by decide)), e, Int.mul_fdiv_cancel_left k (by omega)]
theorem gcd_lt {t b : Nat} (h : 0 < b) (hb : b < 2 ^ 440) : 0 < Nat.gcd t b ∧ Nat.gcd t b < 2 ^ 440 :=
  ⟨Nat.gcd_pos_of_pos_right _ h, Nat.lt_of_le_of_lt (Nat.le_of_dvd h (Nat.gcd_dvd_right _ _)) hb⟩
theorem lowest_wc {t b : Int} (ht : t.natAbs < 2 ^ 440) (hb : b.natAbs < 2 ^ 440) (h0 : b ≠ 0) (h : ∀ p q, Low p q t b → K (.d (.tup [.int p, .int q])) μ) : WC1 (C (n + 2)) j_llowest [.d (.int t), .d (.int b)] μ K := by
  refine wc_of t_llowest rfl ?_
  show WS _ b_llowest [some (.d (.int t)), some (.d (.int b)), none] μ _
  unfold b_llowest
  walk_at "g"
  rw [abs_nat, abs_nat]
  refine gcd_wc (n := n) ht hb ?_
  obtain ⟨g1, g2⟩ := gcd_lt (t := t.natAbs) (b := b.natAbs) (by omega) hb
  by_cases hn : b < 0
  · walk_at "g"
    obtain ⟨k, j, hk, hj, hlow⟩ := low_of (t := t) (w := 0 - (Nat.gcd t.natAbs b.natAbs : Nat)) h0 (by omega) ⟨by omega, by omega⟩
    refine asZ_of (quot_neg (by omega) (by omega) hk) ?_
    walk_at "g"
    refine asZ_of (quot_neg (by omega) (by omega) hj) ?_
    walk_at "g"
    exact fq_d rfl (h _ _ hlow)
  · walk_at "g"
    obtain ⟨k, j, hk, hj, hlow⟩ := low_of (t := t) (w := (Nat.gcd t.natAbs b.natAbs : Nat)) h0 (by omega) ⟨by omega, by omega⟩
    refine asZ_of (quot_pos (by omega) (by omega) hk) ?_
    walk_at "g"
    refine asZ_of (quot_pos (by omega) (by omega) hj) ?_
    walk_at "g"
    exact fq_d rfl (h _ _ hlow)
theorem whole_wc {i : Int} (h : K (.d (.bl true)) μ) : WC1 (C (n + 1)) j_whole [.d (.int i)] μ K := by
  refine wc_of t_whole rfl ?_
  show WS _ b_whole [some (.d (.int i))] μ _
  unfold b_whole
  walk_at "g"
  exact fq_d rfl h
abbrev exD (p q : Int) : D := .ins 0 [("top", .int p), ("bottom", .int q)]
theorem init_wc {c : Nat} {t b : Int} (hc : μ[c]? = some (some (.ins 0 []))) (ht : t.natAbs < 2 ^ 440) (hb : b.natAbs < 2 ^ 440) (h0 : b ≠ 0) (h : ∀ p q, Low p q t b → K (.d .non) (μ.set c (some (.ins 0 [("top", .d (.int p)), ("bottom", .d (.int q))])))) : WC1 (C (n + 2)) j_Exact_init [.r c, .d (.int t), .d (.int b)] μ K := by
  refine wc_of t_Exact_init rfl ?_
  show WS _ b_Exact_init [some (.r c), some (.d (.int t)), some (.d (.int b)), none] μ _
  unfold b_Exact_init
  walk_at "g"
  refine whole_wc (n := n) ?_
  walk_at "g"
  refine whole_wc (n := n) ?_
  walk_at "g"
  refine measure_wc (n := n) ht hb ?_
  obtain ⟨g1, g2⟩ := gcd_lt (t := t.natAbs) (b := b.natAbs) (by omega) hb
  by_cases hn : b < 0
  · walk_at "g"
    obtain ⟨k, j, hk, hj, hlow⟩ := low_of (t := t) (w := -(Nat.gcd t.natAbs b.natAbs : Nat)) h0 (by omega) ⟨by omega, by omega⟩
    refine ws_setF ?_
    walk_at "g"
    refine asZ_of (quot_neg (by omega) (by omega) hk) ?_
    walk_at "g"
    refine ⟨_, _, hc, rfl, Nat.le_of_ble_eq_true rfl, ?_⟩
    refine ws_setF ?_
    walk_at "g"
    refine asZ_of (quot_neg (by omega) (by omega) hj) ?_
    walk_at "g"
    refine ⟨_, _, put_cell hc, rfl, Nat.le_of_ble_eq_true rfl, ?_⟩
    walk_at "g"
    refine fq_nx (by simp) ?_
    have := h _ _ hlow
    rw [List.set_set]
    exact this
  · walk_at "g"
    obtain ⟨k, j, hk, hj, hlow⟩ := low_of (t := t) (w := (Nat.gcd t.natAbs b.natAbs : Nat)) h0 (by omega) ⟨by omega, by omega⟩
    refine ws_setF ?_
    walk_at "g"
    refine asZ_of (quot_pos (by omega) (by omega) hk) ?_
    walk_at "g"
    refine ⟨_, _, hc, rfl, Nat.le_of_ble_eq_true rfl, ?_⟩
    refine ws_setF ?_
    walk_at "g"
    refine asZ_of (quot_pos (by omega) (by omega) hj) ?_
    walk_at "g"
    refine ⟨_, _, put_cell hc, rfl, Nat.le_of_ble_eq_true rfl, ?_⟩
    walk_at "g"
    refine fq_nx (by simp) ?_
    have := h _ _ hlow
    rw [List.set_set]
    exact this
end
end K02

namespace K02
open PySem L2 DL
/- one step; what has one way only; a step with the choices -/
local macro_rules | `(tactic| walk_at "1s") => `(tactic| first | refine we_var rfl ?_ | refine we_con ?_ | refine wa_cons ?_ | refine wa_nil ?_ | refine asI_mk ?_ | refine asZ_mk ?_ | refine asD_mk ?_ | refine we_idx ?_ | refine asV_d ?_ | refine we_call ?_ | refine we_callK ?_ | refine we_bm ?_ | refine we_dnew ?_ | refine we_bin ?_ | refine asOp_int ?_ | refine we_cmp ?_ | refine asCmp_inK (by assumption) rfl ?_ | refine asCmp_notinK (by assumption) rfl ?_ | refine asCmp_inK rfl rfl ?_ | refine asCmp_notinK rfl rfl ?_ | refine asCmp_mk rfl ?_ | refine wt_cmp ?_ | refine we_blt ?_ | refine asO_mk ?_ | refine asB_mk ?_ | refine asG_mk (Nat.le_of_ble_eq_true rfl) ?_ | refine asG_mk (by decide) ?_ | refine asG_mk rfl ?_ | refine wt_val ?_ | refine wt_not ?_ | refine asW_d ?_ | refine we_glo rfl ?_ | refine we_tup ?_ | refine we_lstF ?_ | refine we_lstT ?_ | refine we_isi ?_ | refine wt_isi ?_ | refine we_not ?_ | refine we_neg ?_ | refine asNeg_int ?_ | refine we_fmt ?_ | refine we_jn1 ?_ | refine we_jn ?_ | refine wj_cons ?_ | refine wj_nil ?_ | refine asSt_mk ?_ | refine asZ_mod (by decide) ?_ | refine asZ_mul (by omega) (by omega) (by decide) ?_ | refine asZ_mulS (by omega) (by omega) (by omega) (by omega) ?_ | refine asZ_div (by decide +kernel) ?_ | refine asZ_pow (by decide +kernel) ?_ | refine asR_mk ?_ | refine as1_mk ?_ | refine asT_mk ?_ | refine asS_l ?_ | refine asS_t ?_ | refine asS_k ?_ | refine asS_s ?_ | refine wi_seq ?_ | refine wi_rng1 ?_ | refine wi_rng2 ?_ | refine wi_enum ?_ | refine we_app ?_ | refine we_sl ?_ | refine wo_none ?_ | refine wo_some ?_ | refine we_rv ?_ | refine we_dicF ?_ | refine we_fld ?_ | refine asOp_tup (Nat.le_of_ble_eq_true rfl) ?_ | refine asOp_str (by decide +kernel) ?_ | refine asOp_lst (Nat.le_of_ble_eq_true rfl) ?_ | (apply asV_r; assumption) | (apply asW_r; assumption) | (apply asC_mk; assumption) | (apply asV_rd; assumption) | (apply asW_rd; assumption) | (apply asK_mk; assumption) | refine asF_of (fldP_r (by assumption) rfl rfl rfl) ?_ | refine asV_rd rfl ?_ | refine asW_rd rfl ?_ | refine asV_r rfl ?_ | refine asW_r rfl ?_ | refine asK_mk rfl ?_ | refine asF_of (fldP_r rfl rfl rfl rfl) ?_ | refine asF_of (fldP_d rfl rfl rfl) ?_ | refine asC_mk rfl ?_ | refine ws_set ?_ | refine kq_nx ?_ | refine kq_rt ?_ | refine ws_ret ?_ | refine ws_nil ?_ | refine ws_ex ?_ | refine ws_unp ?_ | refine ws_pass ?_ | refine ws_setD ?_ | refine ws_retN ?_ | refine ws_brk ?_ | refine ws_cnt ?_ | refine kq_bk ?_ | refine kq_ct ?_ | refine kq_ex ?_ | refine ws_rais rfl ?_ | fail)
local macro_rules | `(tactic| walk_at "1c") => `(tactic| first | refine ws_ite ?_ | refine wt_bop ?_ | refine wt_bop1 ?_ | refine wt_chain ?_ | refine we_bop ?_ | refine we_bop1 ?_ | refine we_ife ?_ | refine we_chain ?_ | refine ws_par ?_ | refine ⟨fun _ => ?_, fun h => absurd (show (false : Bool) = true from h) Bool.false_ne_true⟩ | refine ⟨fun _ => ?_, fun h => absurd (show (true : Bool) = false from h).symm Bool.false_ne_true⟩ | refine ⟨fun h => absurd (show (true : Bool) = false from h).symm Bool.false_ne_true, fun _ => ?_⟩ | refine ⟨fun h => absurd (show (false : Bool) = true from h) Bool.false_ne_true, fun _ => ?_⟩ | fail)
local macro_rules | `(tactic| walk_at "x") => `(tactic| repeat (first | refine we_var rfl ?_ | refine we_con ?_ | refine wa_cons ?_ | refine wa_nil ?_ | refine asI_mk ?_ | refine asZ_mk ?_ | refine asD_mk ?_ | refine we_idx ?_ | refine asV_d ?_ | refine we_call ?_ | refine we_callK ?_ | refine we_bm ?_ | refine we_dnew ?_ | refine we_bin ?_ | refine asOp_int ?_ | refine we_cmp ?_ | refine asCmp_inK (by assumption) rfl ?_ | refine asCmp_notinK (by assumption) rfl ?_ | refine asCmp_inK rfl rfl ?_ | refine asCmp_notinK rfl rfl ?_ | refine asCmp_mk rfl ?_ | refine wt_cmp ?_ | refine we_blt ?_ | refine asO_mk ?_ | refine asB_mk ?_ | refine asG_mk (Nat.le_of_ble_eq_true rfl) ?_ | refine asG_mk (by decide) ?_ | refine asG_mk rfl ?_ | refine wt_val ?_ | refine wt_not ?_ | refine asW_d ?_ | refine we_glo rfl ?_ | refine we_tup ?_ | refine we_lstF ?_ | refine we_lstT ?_ | refine we_isi ?_ | refine wt_isi ?_ | refine we_not ?_ | refine we_neg ?_ | refine asNeg_int ?_ | refine we_fmt ?_ | refine we_jn1 ?_ | refine we_jn ?_ | refine wj_cons ?_ | refine wj_nil ?_ | refine asSt_mk ?_ | refine asZ_mod (by decide) ?_ | refine asZ_mul (by omega) (by omega) (by decide) ?_ | refine asZ_mulS (by omega) (by omega) (by omega) (by omega) ?_ | refine asZ_div (by decide +kernel) ?_ | refine asZ_pow (by decide +kernel) ?_ | refine asR_mk ?_ | refine as1_mk ?_ | refine asT_mk ?_ | refine asS_l ?_ | refine asS_t ?_ | refine asS_k ?_ | refine asS_s ?_ | refine wi_seq ?_ | refine wi_rng1 ?_ | refine wi_rng2 ?_ | refine wi_enum ?_ | refine we_app ?_ | refine we_sl ?_ | refine wo_none ?_ | refine wo_some ?_ | refine we_rv ?_ | refine we_dicF ?_ | refine we_fld ?_ | refine asOp_tup (Nat.le_of_ble_eq_true rfl) ?_ | refine asOp_str (by decide +kernel) ?_ | refine asOp_lst (Nat.le_of_ble_eq_true rfl) ?_ | (apply asV_r; assumption) | (apply asW_r; assumption) | (apply asC_mk; assumption) | (apply asV_rd; assumption) | (apply asW_rd; assumption) | (apply asK_mk; assumption) | refine asF_of (fldP_r (by assumption) rfl rfl rfl) ?_ | refine asV_rd rfl ?_ | refine asW_rd rfl ?_ | refine asV_r rfl ?_ | refine asW_r rfl ?_ | refine asK_mk rfl ?_ | refine asF_of (fldP_r rfl rfl rfl rfl) ?_ | refine asF_of (fldP_d rfl rfl rfl) ?_ | refine asC_mk rfl ?_ | fail))
local macro_rules | `(tactic| walk_at "s") => `(tactic| repeat (first | refine we_var rfl ?_ | refine we_con ?_ | refine wa_cons ?_ | refine wa_nil ?_ | refine asI_mk ?_ | refine asZ_mk ?_ | refine asD_mk ?_ | refine we_idx ?_ | refine asV_d ?_ | refine we_call ?_ | refine we_callK ?_ | refine we_bm ?_ | refine we_dnew ?_ | refine we_bin ?_ | refine asOp_int ?_ | refine we_cmp ?_ | refine asCmp_inK (by assumption) rfl ?_ | refine asCmp_notinK (by assumption) rfl ?_ | refine asCmp_inK rfl rfl ?_ | refine asCmp_notinK rfl rfl ?_ | refine asCmp_mk rfl ?_ | refine wt_cmp ?_ | refine we_blt ?_ | refine asO_mk ?_ | refine asB_mk ?_ | refine asG_mk (Nat.le_of_ble_eq_true rfl) ?_ | refine asG_mk (by decide) ?_ | refine asG_mk rfl ?_ | refine wt_val ?_ | refine wt_not ?_ | refine asW_d ?_ | refine we_glo rfl ?_ | refine we_tup ?_ | refine we_lstF ?_ | refine we_lstT ?_ | refine we_isi ?_ | refine wt_isi ?_ | refine we_not ?_ | refine we_neg ?_ | refine asNeg_int ?_ | refine we_fmt ?_ | refine we_jn1 ?_ | refine we_jn ?_ | refine wj_cons ?_ | refine wj_nil ?_ | refine asSt_mk ?_ | refine asZ_mod (by decide) ?_ | refine asZ_mul (by omega) (by omega) (by decide) ?_ | refine asZ_mulS (by omega) (by omega) (by omega) (by omega) ?_ | refine asZ_div (by decide +kernel) ?_ | refine asZ_pow (by decide +kernel) ?_ | refine asR_mk ?_ | refine as1_mk ?_ | refine asT_mk ?_ | refine asS_l ?_ | refine asS_t ?_ | refine asS_k ?_ | refine asS_s ?_ | refine wi_seq ?_ | refine wi_rng1 ?_ | refine wi_rng2 ?_ | refine wi_enum ?_ | refine we_app ?_ | refine we_sl ?_ | refine wo_none ?_ | refine wo_some ?_ | refine we_rv ?_ | refine we_dicF ?_ | refine we_fld ?_ | refine asOp_tup (Nat.le_of_ble_eq_true rfl) ?_ | refine asOp_str (by decide +kernel) ?_ | refine asOp_lst (Nat.le_of_ble_eq_true rfl) ?_ | (apply asV_r; assumption) | (apply asW_r; assumption) | (apply asC_mk; assumption) | (apply asV_rd; assumption) | (apply asW_rd; assumption) | (apply asK_mk; assumption) | refine asF_of (fldP_r (by assumption) rfl rfl rfl) ?_ | refine asV_rd rfl ?_ | refine asW_rd rfl ?_ | refine asV_r rfl ?_ | refine asW_r rfl ?_ | refine asK_mk rfl ?_ | refine asF_of (fldP_r rfl rfl rfl rfl) ?_ | refine asF_of (fldP_d rfl rfl rfl) ?_ | refine asC_mk rfl ?_ | refine ws_set ?_ | refine kq_nx ?_ | refine kq_rt ?_ | refine ws_ret ?_ | refine ws_nil ?_ | refine ws_ex ?_ | refine ws_unp ?_ | refine ws_pass ?_ | refine ws_setD ?_ | refine ws_retN ?_ | refine ws_brk ?_ | refine ws_cnt ?_ | refine kq_bk ?_ | refine kq_ct ?_ | refine kq_ex ?_ | refine ws_rais rfl ?_ | fail))
local macro_rules | `(tactic| walk_at "g") => `(tactic| repeat (first | refine we_var rfl ?_ | refine we_con ?_ | refine wa_cons ?_ | refine wa_nil ?_ | refine asI_mk ?_ | refine asZ_mk ?_ | refine asD_mk ?_ | refine we_idx ?_ | refine asV_d ?_ | refine we_call ?_ | refine we_callK ?_ | refine we_bm ?_ | refine we_dnew ?_ | refine we_bin ?_ | refine asOp_int ?_ | refine we_cmp ?_ | refine asCmp_inK (by assumption) rfl ?_ | refine asCmp_notinK (by assumption) rfl ?_ | refine asCmp_inK rfl rfl ?_ | refine asCmp_notinK rfl rfl ?_ | refine asCmp_mk rfl ?_ | refine wt_cmp ?_ | refine we_blt ?_ | refine asO_mk ?_ | refine asB_mk ?_ | refine asG_mk (Nat.le_of_ble_eq_true rfl) ?_ | refine asG_mk (by decide) ?_ | refine asG_mk rfl ?_ | refine wt_val ?_ | refine wt_not ?_ | refine asW_d ?_ | refine we_glo rfl ?_ | refine we_tup ?_ | refine we_lstF ?_ | refine we_lstT ?_ | refine we_isi ?_ | refine wt_isi ?_ | refine we_not ?_ | refine we_neg ?_ | refine asNeg_int ?_ | refine we_fmt ?_ | refine we_jn1 ?_ | refine we_jn ?_ | refine wj_cons ?_ | refine wj_nil ?_ | refine asSt_mk ?_ | refine asZ_mod (by decide) ?_ | refine asZ_mul (by omega) (by omega) (by decide) ?_ | refine asZ_mulS (by omega) (by omega) (by omega) (by omega) ?_ | refine asZ_div (by decide +kernel) ?_ | refine asZ_pow (by decide +kernel) ?_ | refine asR_mk ?_ | refine as1_mk ?_ | refine asT_mk ?_ | refine asS_l ?_ | refine asS_t ?_ | refine asS_k ?_ | refine asS_s ?_ | refine wi_seq ?_ | refine wi_rng1 ?_ | refine wi_rng2 ?_ | refine wi_enum ?_ | refine we_app ?_ | refine we_sl ?_ | refine wo_none ?_ | refine wo_some ?_ | refine we_rv ?_ | refine we_dicF ?_ | refine we_fld ?_ | refine asOp_tup (Nat.le_of_ble_eq_true rfl) ?_ | refine asOp_str (by decide +kernel) ?_ | refine asOp_lst (Nat.le_of_ble_eq_true rfl) ?_ | (apply asV_r; assumption) | (apply asW_r; assumption) | (apply asC_mk; assumption) | (apply asV_rd; assumption) | (apply asW_rd; assumption) | (apply asK_mk; assumption) | refine asF_of (fldP_r (by assumption) rfl rfl rfl) ?_ | refine asV_rd rfl ?_ | refine asW_rd rfl ?_ | refine asV_r rfl ?_ | refine asW_r rfl ?_ | refine asK_mk rfl ?_ | refine asF_of (fldP_r rfl rfl rfl rfl) ?_ | refine asF_of (fldP_d rfl rfl rfl) ?_ | refine asC_mk rfl ?_ | refine ws_set ?_ | refine kq_nx ?_ | refine kq_rt ?_ | refine ws_ret ?_ | refine ws_nil ?_ | refine ws_ex ?_ | refine ws_unp ?_ | refine ws_pass ?_ | refine ws_setD ?_ | refine ws_retN ?_ | refine ws_brk ?_ | refine ws_cnt ?_ | refine kq_bk ?_ | refine kq_ct ?_ | refine kq_ex ?_ | refine ws_rais rfl ?_ | refine ws_ite ?_ | refine wt_bop ?_ | refine wt_bop1 ?_ | refine wt_chain ?_ | refine we_bop ?_ | refine we_bop1 ?_ | refine we_ife ?_ | refine we_chain ?_ | refine ws_par ?_ | refine ⟨fun _ => ?_, fun h => absurd (show (false : Bool) = true from h) Bool.false_ne_true⟩ | refine ⟨fun _ => ?_, fun h => absurd (show (true : Bool) = false from h).symm Bool.false_ne_true⟩ | refine ⟨fun h => absurd (show (true : Bool) = false from h).symm Bool.false_ne_true, fun _ => ?_⟩ | refine ⟨fun h => absurd (show (false : Bool) = true from h) Bool.false_ne_true, fun _ => ?_⟩ | refine ⟨fun _ => ?_, fun h => absurd (of_decide_eq_true h) (by omega)⟩ | refine ⟨fun h => absurd (of_decide_eq_true h) (by omega), fun _ => ?_⟩ | refine ⟨fun _ => ?_, fun h => absurd (by omega) (of_decide_eq_false h)⟩ | refine ⟨fun h => absurd (by omega) (of_decide_eq_false h), fun _ => ?_⟩ | refine ⟨fun _ => ?_, fun h => absurd h (by decide +kernel)⟩ | refine ⟨fun h => absurd h (by decide +kernel), fun _ => ?_⟩ | fail))
local macro_rules | `(tactic| walk_at "h") => `(tactic| repeat (first | refine we_var rfl ?_ | refine we_con ?_ | refine wa_cons ?_ | refine wa_nil ?_ | refine asI_mk ?_ | refine asZ_mk ?_ | refine asD_mk ?_ | refine we_idx ?_ | refine asV_d ?_ | refine we_call ?_ | refine we_callK ?_ | refine we_bm ?_ | refine we_dnew ?_ | refine we_bin ?_ | refine asOp_int ?_ | refine we_cmp ?_ | refine asCmp_inK (by assumption) rfl ?_ | refine asCmp_notinK (by assumption) rfl ?_ | refine asCmp_inK rfl rfl ?_ | refine asCmp_notinK rfl rfl ?_ | refine asCmp_mk rfl ?_ | refine wt_cmp ?_ | refine we_blt ?_ | refine asO_mk ?_ | refine asB_mk ?_ | refine asG_mk (Nat.le_of_ble_eq_true rfl) ?_ | refine asG_mk (by decide) ?_ | refine asG_mk rfl ?_ | refine wt_val ?_ | refine wt_not ?_ | refine asW_d ?_ | refine we_glo rfl ?_ | refine we_tup ?_ | refine we_lstF ?_ | refine we_lstT ?_ | refine we_isi ?_ | refine wt_isi ?_ | refine we_not ?_ | refine we_neg ?_ | refine asNeg_int ?_ | refine we_fmt ?_ | refine we_jn1 ?_ | refine we_jn ?_ | refine wj_cons ?_ | refine wj_nil ?_ | refine asSt_mk ?_ | refine asZ_mod (by decide) ?_ | refine asZ_mul (by omega) (by omega) (by decide) ?_ | refine asZ_mulS (by omega) (by omega) (by omega) (by omega) ?_ | refine asZ_div (by decide +kernel) ?_ | refine asZ_pow (by decide +kernel) ?_ | refine asR_mk ?_ | refine as1_mk ?_ | refine asT_mk ?_ | refine asS_l ?_ | refine asS_t ?_ | refine asS_k ?_ | refine asS_s ?_ | refine wi_seq ?_ | refine wi_rng1 ?_ | refine wi_rng2 ?_ | refine wi_enum ?_ | refine we_app ?_ | refine we_sl ?_ | refine wo_none ?_ | refine wo_some ?_ | refine we_rv ?_ | refine we_dicF ?_ | refine we_fld ?_ | refine asOp_tup (Nat.le_of_ble_eq_true rfl) ?_ | refine asOp_str (by decide +kernel) ?_ | refine asOp_lst (Nat.le_of_ble_eq_true rfl) ?_ | (apply asV_r; assumption) | (apply asW_r; assumption) | (apply asC_mk; assumption) | (apply asV_rd; assumption) | (apply asW_rd; assumption) | (apply asK_mk; assumption) | refine asF_of (fldP_r (by assumption) rfl rfl rfl) ?_ | refine asV_rd rfl ?_ | refine asW_rd rfl ?_ | refine asV_r rfl ?_ | refine asW_r rfl ?_ | refine asK_mk rfl ?_ | refine asF_of (fldP_r rfl rfl rfl rfl) ?_ | refine asF_of (fldP_d rfl rfl rfl) ?_ | refine asC_mk rfl ?_ | refine ws_set ?_ | refine kq_nx ?_ | refine kq_rt ?_ | refine ws_ret ?_ | refine ws_nil ?_ | refine ws_unp ?_ | refine ws_pass ?_ | refine ws_setD ?_ | refine ws_retN ?_ | refine ws_brk ?_ | refine ws_cnt ?_ | refine kq_bk ?_ | refine kq_ct ?_ | refine kq_ex ?_ | refine ws_rais rfl ?_ | refine ws_ite ?_ | refine wt_bop ?_ | refine wt_bop1 ?_ | refine wt_chain ?_ | refine we_bop ?_ | refine we_bop1 ?_ | refine we_ife ?_ | refine we_chain ?_ | refine ws_par ?_ | refine ⟨fun _ => ?_, fun h => absurd (show (false : Bool) = true from h) Bool.false_ne_true⟩ | refine ⟨fun _ => ?_, fun h => absurd (show (true : Bool) = false from h).symm Bool.false_ne_true⟩ | refine ⟨fun h => absurd (show (true : Bool) = false from h).symm Bool.false_ne_true, fun _ => ?_⟩ | refine ⟨fun h => absurd (show (false : Bool) = true from h) Bool.false_ne_true, fun _ => ?_⟩ | refine ⟨fun _ => ?_, fun h => absurd (of_decide_eq_true h) (by omega)⟩ | refine ⟨fun h => absurd (of_decide_eq_true h) (by omega), fun _ => ?_⟩ | refine ⟨fun _ => ?_, fun h => absurd (by omega) (of_decide_eq_false h)⟩ | refine ⟨fun h => absurd (by omega) (of_decide_eq_false h), fun _ => ?_⟩ | refine ⟨fun _ => ?_, fun h => absurd h (by decide +kernel)⟩ | refine ⟨fun h => absurd h (by decide +kernel), fun _ => ?_⟩ | fail))
section
variable {n : Nat} {μ : Mu} {k : Nat} {cs : List Int} {N : Int} {K : X → Mu → Prop}
/-- fewer than a bits -/
def Sz (a : Nat) (p : Int) : Prop := p.natAbs < 2 ^ a
theorem Sz.mul {a b : Nat} {p q : Int} (h : Sz a p) (g : Sz b q) : Sz (a + b) (p * q) := by
  unfold Sz at *
  rw [Int.natAbs_mul, Nat.pow_add]
  exact Nat.mul_lt_mul'' h g
theorem Sz.add {a : Nat} {p q : Int} (h : Sz a p) (g : Sz a q) : Sz (a + 1) (p + q) := by
  unfold Sz at *
  rw [Nat.pow_succ]
  have := Int.natAbs_add_le p q
  omega
theorem Sz.sub {a : Nat} {p q : Int} (h : Sz a p) (g : Sz a q) : Sz (a + 1) (p - q) := by
  unfold Sz at *
  rw [Nat.pow_succ]
  have := Int.natAbs_sub_le p q
  omega
theorem Sz.mono {a b : Nat} {p : Int} (h : Sz a p) (e : a ≤ b) : Sz b p := Nat.lt_of_lt_of_le h (Nat.pow_le_pow_right (by decide) e)
theorem Sz.ok {a b : Nat} {p q : Int} (h : Sz a p) (g : Sz b q) (e : a + b ≤ 900000) : binI .mul p q = some (p * q) := bin_mul (mulOk_of h g e)
/-- a new Exact -/
theorem mkEx {ρ : DL.Env} {es : Es} (h : WA (parOf L.tab WW (n + 3)) es ρ μ fun xs μ1 => ∃ t b, xs = [.d (.int t), .d (.int b)] ∧ Sz 440 t ∧ Sz 440 b ∧ b ≠ 0 ∧ ∀ p q, Low p q t b → K (.d (exD p q)) (μ1 ++ [none])) : WE (parOf L.tab WW (n + 3)) (.frz (.mk 0 es [])) ρ μ K := by
  refine we_frz (we_mk rfl ?_)
  obtain ⟨xs, μ1, e, t, b, rfl, h1, h2, h3, h4⟩ := h
  refine ⟨_, μ1, e, ?_⟩
  refine init_wc (n := n) (c := μ1.length) (by simp) h1 h2 h3 fun p q hl => ⟨rfl, ?_⟩
  refine ⟨_, _, _, rfl, put_cell (o := some (.ins 0 [])) (by simp), rfl, ?_⟩
  rw [List.set_set]
  have e : ∀ nd : Option Node, (μ1 ++ [nd]).set μ1.length none = μ1 ++ [none] := fun nd => by simp
  rw [e]
  exact h4 p q hl
theorem add_wc {p q p' q' : Int} (hb : belowAll μ.length μ = true) (h1 : Sz 210 p) (h2 : Sz 210 q) (h3 : Sz 210 p') (h4 : Sz 210 q') (hq : 0 < q) (hq' : 0 < q') (h : ∀ x y, Low x y (p * q' + p' * q) (q * q') → K (.d (exD x y)) μ) : WC1 (C (n + 4)) j_Exact_add [.d (exD p q), .d (exD p' q')] μ K := by
  refine wc_of t_Exact_add rfl ?_
  show WS _ b_Exact_add [some (.d (exD p q)), some (.d (exD p' q'))] μ _
  unfold b_Exact_add
  walk_at "g"
  refine mkEx (n := n) ?_
  walk_at "g"
  walk_at "g"
  walk_at "g"
  refine asZ_of (h1.ok h4 (by decide)) ?_
  walk_at "g"
  walk_at "g"
  walk_at "g"
  refine asZ_of (h3.ok h2 (by decide)) ?_
  walk_at "g"
  walk_at "g"
  walk_at "g"
  refine asZ_of (h2.ok h4 (by decide)) ?_
  walk_at "g"
  have hne : q * q' ≠ 0 := Int.mul_ne_zero (by omega) (by omega)
  exact ⟨_, _, rfl, ((h1.mul h4).add (h3.mul h2)).mono (by decide), (h2.mul h4).mono (by decide), hne, fun x y hl => fq_dA hb rfl (h x y hl)⟩
theorem sub_wc {p q p' q' : Int} (hb : belowAll μ.length μ = true) (h1 : Sz 210 p) (h2 : Sz 210 q) (h3 : Sz 210 p') (h4 : Sz 210 q') (hq : 0 < q) (hq' : 0 < q') (h : ∀ x y, Low x y (p * q' - p' * q) (q * q') → K (.d (exD x y)) μ) : WC1 (C (n + 4)) j_Exact_sub [.d (exD p q), .d (exD p' q')] μ K := by
  refine wc_of t_Exact_sub rfl ?_
  show WS _ b_Exact_sub [some (.d (exD p q)), some (.d (exD p' q'))] μ _
  unfold b_Exact_sub
  walk_at "g"
  refine mkEx (n := n) ?_
  walk_at "g"
  walk_at "g"
  walk_at "g"
  refine asZ_of (h1.ok h4 (by decide)) ?_
  walk_at "g"
  walk_at "g"
  walk_at "g"
  refine asZ_of (h3.ok h2 (by decide)) ?_
  walk_at "g"
  walk_at "g"
  walk_at "g"
  refine asZ_of (h2.ok h4 (by decide)) ?_
  walk_at "g"
  have hne : q * q' ≠ 0 := Int.mul_ne_zero (by omega) (by omega)
  exact ⟨_, _, rfl, ((h1.mul h4).sub (h3.mul h2)).mono (by decide), (h2.mul h4).mono (by decide), hne, fun x y hl => fq_dA hb rfl (h x y hl)⟩
theorem mul_wc {p q p' q' : Int} (hb : belowAll μ.length μ = true) (h1 : Sz 210 p) (h2 : Sz 210 q) (h3 : Sz 210 p') (h4 : Sz 210 q') (hq : 0 < q) (hq' : 0 < q') (h : ∀ x y, Low x y (p * p') (q * q') → K (.d (exD x y)) μ) : WC1 (C (n + 4)) j_Exact_mul [.d (exD p q), .d (exD p' q')] μ K := by
  refine wc_of t_Exact_mul rfl ?_
  show WS _ b_Exact_mul [some (.d (exD p q)), some (.d (exD p' q'))] μ _
  unfold b_Exact_mul
  walk_at "g"
  refine mkEx (n := n) ?_
  walk_at "g"
  walk_at "g"
  walk_at "g"
  refine asZ_of (h1.ok h3 (by decide)) ?_
  walk_at "g"
  walk_at "g"
  walk_at "g"
  refine asZ_of (h2.ok h4 (by decide)) ?_
  walk_at "g"
  have hne : q * q' ≠ 0 := Int.mul_ne_zero (by omega) (by omega)
  exact ⟨_, _, rfl, (h1.mul h3).mono (by decide), (h2.mul h4).mono (by decide), hne, fun x y hl => fq_dA hb rfl (h x y hl)⟩
theorem neg_wc {p q : Int} (hb : belowAll μ.length μ = true) (h1 : Sz 440 p) (h2 : Sz 440 q) (hq : 0 < q) (h : ∀ x y, Low x y (-p) q → K (.d (exD x y)) μ) : WC1 (C (n + 4)) j_Exact_neg [.d (exD p q)] μ K := by
  refine wc_of t_Exact_neg rfl ?_
  show WS _ b_Exact_neg [some (.d (exD p q))] μ _
  unfold b_Exact_neg
  walk_at "g"
  refine mkEx (n := n) ?_
  walk_at "g"
  walk_at "g"
  walk_at "g"
  exact ⟨_, _, rfl, by unfold Sz; rw [Int.natAbs_neg]; exact h1, h2, by omega, fun x y hl => fq_dA hb rfl (h x y hl)⟩
theorem abs_wc {p q : Int} (hb : belowAll μ.length μ = true) (h1 : Sz 440 p) (h2 : Sz 440 q) (hq : 0 < q) (h : ∀ x y, Low x y (p.natAbs : Int) q → K (.d (exD x y)) μ) : WC1 (C (n + 4)) j_Exact_abs [.d (exD p q)] μ K := by
  refine wc_of t_Exact_abs rfl ?_
  show WS _ b_Exact_abs [some (.d (exD p q))] μ _
  unfold b_Exact_abs
  walk_at "g"
  refine mkEx (n := n) ?_
  walk_at "g"
  walk_at "g"
  rw [abs_nat]
  walk_at "g"
  exact ⟨_, _, rfl, by unfold Sz; rw [Int.natAbs_natCast]; exact h1, h2, by omega, fun x y hl => fq_dA hb rfl (h x y hl)⟩
end
end K02

namespace K02
open PySem L2 DL
/- one step; what has one way only; a step with the choices -/
local macro_rules | `(tactic| walk_at "1s") => `(tactic| first | refine we_var rfl ?_ | refine we_con ?_ | refine wa_cons ?_ | refine wa_nil ?_ | refine asI_mk ?_ | refine asZ_mk ?_ | refine asD_mk ?_ | refine we_idx ?_ | refine asV_d ?_ | refine we_call ?_ | refine we_callK ?_ | refine we_bm ?_ | refine we_dnew ?_ | refine we_bin ?_ | refine asOp_int ?_ | refine we_cmp ?_ | refine asCmp_inK (by assumption) rfl ?_ | refine asCmp_notinK (by assumption) rfl ?_ | refine asCmp_inK rfl rfl ?_ | refine asCmp_notinK rfl rfl ?_ | refine asCmp_mk rfl ?_ | refine wt_cmp ?_ | refine we_blt ?_ | refine asO_mk ?_ | refine asB_mk ?_ | refine asG_mk (Nat.le_of_ble_eq_true rfl) ?_ | refine asG_mk (by decide) ?_ | refine asG_mk rfl ?_ | refine wt_val ?_ | refine wt_not ?_ | refine asW_d ?_ | refine we_glo rfl ?_ | refine we_tup ?_ | refine we_lstF ?_ | refine we_lstT ?_ | refine we_isi ?_ | refine wt_isi ?_ | refine we_not ?_ | refine we_neg ?_ | refine asNeg_int ?_ | refine we_fmt ?_ | refine we_jn1 ?_ | refine we_jn ?_ | refine wj_cons ?_ | refine wj_nil ?_ | refine asSt_mk ?_ | refine asZ_mod (by decide) ?_ | refine asZ_mul (by omega) (by omega) (by decide) ?_ | refine asZ_mulS (by omega) (by omega) (by omega) (by omega) ?_ | refine asZ_div (by decide +kernel) ?_ | refine asZ_pow (by decide +kernel) ?_ | refine asR_mk ?_ | refine as1_mk ?_ | refine asT_mk ?_ | refine asS_l ?_ | refine asS_t ?_ | refine asS_k ?_ | refine asS_s ?_ | refine wi_seq ?_ | refine wi_rng1 ?_ | refine wi_rng2 ?_ | refine wi_enum ?_ | refine we_app ?_ | refine we_sl ?_ | refine wo_none ?_ | refine wo_some ?_ | refine we_rv ?_ | refine we_dicF ?_ | refine we_fld ?_ | refine asOp_tup (Nat.le_of_ble_eq_true rfl) ?_ | refine asOp_str (by decide +kernel) ?_ | refine asOp_lst (Nat.le_of_ble_eq_true rfl) ?_ | (apply asV_r; assumption) | (apply asW_r; assumption) | (apply asC_mk; assumption) | (apply asV_rd; assumption) | (apply asW_rd; assumption) | (apply asK_mk; assumption) | refine asF_of (fldP_r (by assumption) rfl rfl rfl) ?_ | refine asV_rd rfl ?_ | refine asW_rd rfl ?_ | refine asV_r rfl ?_ | refine asW_r rfl ?_ | refine asK_mk rfl ?_ | refine asF_of (fldP_r rfl rfl rfl rfl) ?_ | refine asF_of (fldP_d rfl rfl rfl) ?_ | refine asC_mk rfl ?_ | refine ws_set ?_ | refine kq_nx ?_ | refine kq_rt ?_ | refine ws_ret ?_ | refine ws_nil ?_ | refine ws_ex ?_ | refine ws_unp ?_ | refine ws_pass ?_ | refine ws_setD ?_ | refine ws_retN ?_ | refine ws_brk ?_ | refine ws_cnt ?_ | refine kq_bk ?_ | refine kq_ct ?_ | refine kq_ex ?_ | refine ws_rais rfl ?_ | fail)
local macro_rules | `(tactic| walk_at "1c") => `(tactic| first | refine ws_ite ?_ | refine wt_bop ?_ | refine wt_bop1 ?_ | refine wt_chain ?_ | refine we_bop ?_ | refine we_bop1 ?_ | refine we_ife ?_ | refine we_chain ?_ | refine ws_par ?_ | refine ⟨fun _ => ?_, fun h => absurd (show (false : Bool) = true from h) Bool.false_ne_true⟩ | refine ⟨fun _ => ?_, fun h => absurd (show (true : Bool) = false from h).symm Bool.false_ne_true⟩ | refine ⟨fun h => absurd (show (true : Bool) = false from h).symm Bool.false_ne_true, fun _ => ?_⟩ | refine ⟨fun h => absurd (show (false : Bool) = true from h) Bool.false_ne_true, fun _ => ?_⟩ | fail)
local macro_rules | `(tactic| walk_at "x") => `(tactic| repeat (first | refine we_var rfl ?_ | refine we_con ?_ | refine wa_cons ?_ | refine wa_nil ?_ | refine asI_mk ?_ | refine asZ_mk ?_ | refine asD_mk ?_ | refine we_idx ?_ | refine asV_d ?_ | refine we_call ?_ | refine we_callK ?_ | refine we_bm ?_ | refine we_dnew ?_ | refine we_bin ?_ | refine asOp_int ?_ | refine we_cmp ?_ | refine asCmp_inK (by assumption) rfl ?_ | refine asCmp_notinK (by assumption) rfl ?_ | refine asCmp_inK rfl rfl ?_ | refine asCmp_notinK rfl rfl ?_ | refine asCmp_mk rfl ?_ | refine wt_cmp ?_ | refine we_blt ?_ | refine asO_mk ?_ | refine asB_mk ?_ | refine asG_mk (Nat.le_of_ble_eq_true rfl) ?_ | refine asG_mk (by decide) ?_ | refine asG_mk rfl ?_ | refine wt_val ?_ | refine wt_not ?_ | refine asW_d ?_ | refine we_glo rfl ?_ | refine we_tup ?_ | refine we_lstF ?_ | refine we_lstT ?_ | refine we_isi ?_ | refine wt_isi ?_ | refine we_not ?_ | refine we_neg ?_ | refine asNeg_int ?_ | refine we_fmt ?_ | refine we_jn1 ?_ | refine we_jn ?_ | refine wj_cons ?_ | refine wj_nil ?_ | refine asSt_mk ?_ | refine asZ_mod (by decide) ?_ | refine asZ_mul (by omega) (by omega) (by decide) ?_ | refine asZ_mulS (by omega) (by omega) (by omega) (by omega) ?_ | refine asZ_div (by decide +kernel) ?_ | refine asZ_pow (by decide +kernel) ?_ | refine asR_mk ?_ | refine as1_mk ?_ | refine asT_mk ?_ | refine asS_l ?_ | refine asS_t ?_ | refine asS_k ?_ | refine asS_s ?_ | refine wi_seq ?_ | refine wi_rng1 ?_ | refine wi_rng2 ?_ | refine wi_enum ?_ | refine we_app ?_ | refine we_sl ?_ | refine wo_none ?_ | refine wo_some ?_ | refine we_rv ?_ | refine we_dicF ?_ | refine we_fld ?_ | refine asOp_tup (Nat.le_of_ble_eq_true rfl) ?_ | refine asOp_str (by decide +kernel) ?_ | refine asOp_lst (Nat.le_of_ble_eq_true rfl) ?_ | (apply asV_r; assumption) | (apply asW_r; assumption) | (apply asC_mk; assumption) | (apply asV_rd; assumption) | (apply asW_rd; assumption) | (apply asK_mk; assumption) | refine asF_of (fldP_r (by assumption) rfl rfl rfl) ?_ | refine asV_rd rfl ?_ | refine asW_rd rfl ?_ | refine asV_r rfl ?_ | refine asW_r rfl ?_ | refine asK_mk rfl ?_ | refine asF_of (fldP_r rfl rfl rfl rfl) ?_ | refine asF_of (fldP_d rfl rfl rfl) ?_ | refine asC_mk rfl ?_ | fail))
local macro_rules | `(tactic| walk_at "s") => `(tactic| repeat (first | refine we_var rfl ?_ | refine we_con ?_ | refine wa_cons ?_ | refine wa_nil ?_ | refine asI_mk ?_ | refine asZ_mk ?_ | refine asD_mk ?_ | refine we_idx ?_ | refine asV_d ?_ | refine we_call ?_ | refine we_callK ?_ | refine we_bm ?_ | refine we_dnew ?_ | refine we_bin ?_ | refine asOp_int ?_ | refine we_cmp ?_ | refine asCmp_inK (by assumption) rfl ?_ | refine asCmp_notinK (by assumption) rfl ?_ | refine asCmp_inK rfl rfl ?_ | refine asCmp_notinK rfl rfl ?_ | refine asCmp_mk rfl ?_ | refine wt_cmp ?_ | refine we_blt ?_ | refine asO_mk ?_ | refine asB_mk ?_ | refine asG_mk (Nat.le_of_ble_eq_true rfl) ?_ | refine asG_mk (by decide) ?_ | refine asG_mk rfl ?_ | refine wt_val ?_ | refine wt_not ?_ | refine asW_d ?_ | refine we_glo rfl ?_ | refine we_tup ?_ | refine we_lstF ?_ | refine we_lstT ?_ | refine we_isi ?_ | refine wt_isi ?_ | refine we_not ?_ | refine we_neg ?_ | refine asNeg_int ?_ | refine we_fmt ?_ | refine we_jn1 ?_ | refine we_jn ?_ | refine wj_cons ?_ | refine wj_nil ?_ | refine asSt_mk ?_ | refine asZ_mod (by decide) ?_ | refine asZ_mul (by omega) (by omega) (by decide) ?_ | refine asZ_mulS (by omega) (by omega) (by omega) (by omega) ?_ | refine asZ_div (by decide +kernel) ?_ | refine asZ_pow (by decide +kernel) ?_ | refine asR_mk ?_ | refine as1_mk ?_ | refine asT_mk ?_ | refine asS_l ?_ | refine asS_t ?_ | refine asS_k ?_ | refine asS_s ?_ | refine wi_seq ?_ | refine wi_rng1 ?_ | refine wi_rng2 ?_ | refine wi_enum ?_ | refine we_app ?_ | refine we_sl ?_ | refine wo_none ?_ | refine wo_some ?_ | refine we_rv ?_ | refine we_dicF ?_ | refine we_fld ?_ | refine asOp_tup (Nat.le_of_ble_eq_true rfl) ?_ | refine asOp_str (by decide +kernel) ?_ | refine asOp_lst (Nat.le_of_ble_eq_true rfl) ?_ | (apply asV_r; assumption) | (apply asW_r; assumption) | (apply asC_mk; assumption) | (apply asV_rd; assumption) | (apply asW_rd; assumption) | (apply asK_mk; assumption) | refine asF_of (fldP_r (by assumption) rfl rfl rfl) ?_ | refine asV_rd rfl ?_ | refine asW_rd rfl ?_ | refine asV_r rfl ?_ | refine asW_r rfl ?_ | refine asK_mk rfl ?_ | refine asF_of (fldP_r rfl rfl rfl rfl) ?_ | refine asF_of (fldP_d rfl rfl rfl) ?_ | refine asC_mk rfl ?_ | refine ws_set ?_ | refine kq_nx ?_ | refine kq_rt ?_ | refine ws_ret ?_ | refine ws_nil ?_ | refine ws_ex ?_ | refine ws_unp ?_ | refine ws_pass ?_ | refine ws_setD ?_ | refine ws_retN ?_ | refine ws_brk ?_ | refine ws_cnt ?_ | refine kq_bk ?_ | refine kq_ct ?_ | refine kq_ex ?_ | refine ws_rais rfl ?_ | fail))
local macro_rules | `(tactic| walk_at "g") => `(tactic| repeat (first | refine we_var rfl ?_ | refine we_con ?_ | refine wa_cons ?_ | refine wa_nil ?_ | refine asI_mk ?_ | refine asZ_mk ?_ | refine asD_mk ?_ | refine we_idx ?_ | refine asV_d ?_ | refine we_call ?_ | refine we_callK ?_ | refine we_bm ?_ | refine we_dnew ?_ | refine we_bin ?_ | refine asOp_int ?_ | refine we_cmp ?_ | refine asCmp_inK (by assumption) rfl ?_ | refine asCmp_notinK (by assumption) rfl ?_ | refine asCmp_inK rfl rfl ?_ | refine asCmp_notinK rfl rfl ?_ | refine asCmp_mk rfl ?_ | refine wt_cmp ?_ | refine we_blt ?_ | refine asO_mk ?_ | refine asB_mk ?_ | refine asG_mk (Nat.le_of_ble_eq_true rfl) ?_ | refine asG_mk (by decide) ?_ | refine asG_mk rfl ?_ | refine wt_val ?_ | refine wt_not ?_ | refine asW_d ?_ | refine we_glo rfl ?_ | refine we_tup ?_ | refine we_lstF ?_ | refine we_lstT ?_ | refine we_isi ?_ | refine wt_isi ?_ | refine we_not ?_ | refine we_neg ?_ | refine asNeg_int ?_ | refine we_fmt ?_ | refine we_jn1 ?_ | refine we_jn ?_ | refine wj_cons ?_ | refine wj_nil ?_ | refine asSt_mk ?_ | refine asZ_mod (by decide) ?_ | refine asZ_mul (by omega) (by omega) (by decide) ?_ | refine asZ_mulS (by omega) (by omega) (by omega) (by omega) ?_ | refine asZ_div (by decide +kernel) ?_ | refine asZ_pow (by decide +kernel) ?_ | refine asR_mk ?_ | refine as1_mk ?_ | refine asT_mk ?_ | refine asS_l ?_ | refine asS_t ?_ | refine asS_k ?_ | refine asS_s ?_ | refine wi_seq ?_ | refine wi_rng1 ?_ | refine wi_rng2 ?_ | refine wi_enum ?_ | refine we_app ?_ | refine we_sl ?_ | refine wo_none ?_ | refine wo_some ?_ | refine we_rv ?_ | refine we_dicF ?_ | refine we_fld ?_ | refine asOp_tup (Nat.le_of_ble_eq_true rfl) ?_ | refine asOp_str (by decide +kernel) ?_ | refine asOp_lst (Nat.le_of_ble_eq_true rfl) ?_ | (apply asV_r; assumption) | (apply asW_r; assumption) | (apply asC_mk; assumption) | (apply asV_rd; assumption) | (apply asW_rd; assumption) | (apply asK_mk; assumption) | refine asF_of (fldP_r (by assumption) rfl rfl rfl) ?_ | refine asV_rd rfl ?_ | refine asW_rd rfl ?_ | refine asV_r rfl ?_ | refine asW_r rfl ?_ | refine asK_mk rfl ?_ | refine asF_of (fldP_r rfl rfl rfl rfl) ?_ | refine asF_of (fldP_d rfl rfl rfl) ?_ | refine asC_mk rfl ?_ | refine ws_set ?_ | refine kq_nx ?_ | refine kq_rt ?_ | refine ws_ret ?_ | refine ws_nil ?_ | refine ws_ex ?_ | refine ws_unp ?_ | refine ws_pass ?_ | refine ws_setD ?_ | refine ws_retN ?_ | refine ws_brk ?_ | refine ws_cnt ?_ | refine kq_bk ?_ | refine kq_ct ?_ | refine kq_ex ?_ | refine ws_rais rfl ?_ | refine ws_ite ?_ | refine wt_bop ?_ | refine wt_bop1 ?_ | refine wt_chain ?_ | refine we_bop ?_ | refine we_bop1 ?_ | refine we_ife ?_ | refine we_chain ?_ | refine ws_par ?_ | refine ⟨fun _ => ?_, fun h => absurd (show (false : Bool) = true from h) Bool.false_ne_true⟩ | refine ⟨fun _ => ?_, fun h => absurd (show (true : Bool) = false from h).symm Bool.false_ne_true⟩ | refine ⟨fun h => absurd (show (true : Bool) = false from h).symm Bool.false_ne_true, fun _ => ?_⟩ | refine ⟨fun h => absurd (show (false : Bool) = true from h) Bool.false_ne_true, fun _ => ?_⟩ | refine ⟨fun _ => ?_, fun h => absurd (of_decide_eq_true h) (by omega)⟩ | refine ⟨fun h => absurd (of_decide_eq_true h) (by omega), fun _ => ?_⟩ | refine ⟨fun _ => ?_, fun h => absurd (by omega) (of_decide_eq_false h)⟩ | refine ⟨fun h => absurd (by omega) (of_decide_eq_false h), fun _ => ?_⟩ | refine ⟨fun _ => ?_, fun h => absurd h (by decide +kernel)⟩ | refine ⟨fun h => absurd h (by decide +kernel), fun _ => ?_⟩ | fail))
local macro_rules | `(tactic| walk_at "h") => `(tactic| repeat (first | refine we_var rfl ?_ | refine we_con ?_ | refine wa_cons ?_ | refine wa_nil ?_ | refine asI_mk ?_ | refine asZ_mk ?_ | refine asD_mk ?_ | refine we_idx ?_ | refine asV_d ?_ | refine we_call ?_ | refine we_callK ?_ | refine we_bm ?_ | refine we_dnew ?_ | refine we_bin ?_ | refine asOp_int ?_ | refine we_cmp ?_ | refine asCmp_inK (by assumption) rfl ?_ | refine asCmp_notinK (by assumption) rfl ?_ | refine asCmp_inK rfl rfl ?_ | refine asCmp_notinK rfl rfl ?_ | refine asCmp_mk rfl ?_ | refine wt_cmp ?_ | refine we_blt ?_ | refine asO_mk ?_ | refine asB_mk ?_ | refine asG_mk (Nat.le_of_ble_eq_true rfl) ?_ | refine asG_mk (by decide) ?_ | refine asG_mk rfl ?_ | refine wt_val ?_ | refine wt_not ?_ | refine asW_d ?_ | refine we_glo rfl ?_ | refine we_tup ?_ | refine we_lstF ?_ | refine we_lstT ?_ | refine we_isi ?_ | refine wt_isi ?_ | refine we_not ?_ | refine we_neg ?_ | refine asNeg_int ?_ | refine we_fmt ?_ | refine we_jn1 ?_ | refine we_jn ?_ | refine wj_cons ?_ | refine wj_nil ?_ | refine asSt_mk ?_ | refine asZ_mod (by decide) ?_ | refine asZ_mul (by omega) (by omega) (by decide) ?_ | refine asZ_mulS (by omega) (by omega) (by omega) (by omega) ?_ | refine asZ_div (by decide +kernel) ?_ | refine asZ_pow (by decide +kernel) ?_ | refine asR_mk ?_ | refine as1_mk ?_ | refine asT_mk ?_ | refine asS_l ?_ | refine asS_t ?_ | refine asS_k ?_ | refine asS_s ?_ | refine wi_seq ?_ | refine wi_rng1 ?_ | refine wi_rng2 ?_ | refine wi_enum ?_ | refine we_app ?_ | refine we_sl ?_ | refine wo_none ?_ | refine wo_some ?_ | refine we_rv ?_ | refine we_dicF ?_ | refine we_fld ?_ | refine asOp_tup (Nat.le_of_ble_eq_true rfl) ?_ | refine asOp_str (by decide +kernel) ?_ | refine asOp_lst (Nat.le_of_ble_eq_true rfl) ?_ | (apply asV_r; assumption) | (apply asW_r; assumption) | (apply asC_mk; assumption) | (apply asV_rd; assumption) | (apply asW_rd; assumption) | (apply asK_mk; assumption) | refine asF_of (fldP_r (by assumption) rfl rfl rfl) ?_ | refine asV_rd rfl ?_ | refine asW_rd rfl ?_ | refine asV_r rfl ?_ | refine asW_r rfl ?_ | refine asK_mk rfl ?_ | refine asF_of (fldP_r rfl rfl rfl rfl) ?_ | refine asF_of (fldP_d rfl rfl rfl) ?_ | refine asC_mk rfl ?_ | refine ws_set ?_ | refine kq_nx ?_ | refine kq_rt ?_ | refine ws_ret ?_ | refine ws_nil ?_ | refine ws_unp ?_ | refine ws_pass ?_ | refine ws_setD ?_ | refine ws_retN ?_ | refine ws_brk ?_ | refine ws_cnt ?_ | refine kq_bk ?_ | refine kq_ct ?_ | refine kq_ex ?_ | refine ws_rais rfl ?_ | refine ws_ite ?_ | refine wt_bop ?_ | refine wt_bop1 ?_ | refine wt_chain ?_ | refine we_bop ?_ | refine we_bop1 ?_ | refine we_ife ?_ | refine we_chain ?_ | refine ws_par ?_ | refine ⟨fun _ => ?_, fun h => absurd (show (false : Bool) = true from h) Bool.false_ne_true⟩ | refine ⟨fun _ => ?_, fun h => absurd (show (true : Bool) = false from h).symm Bool.false_ne_true⟩ | refine ⟨fun h => absurd (show (true : Bool) = false from h).symm Bool.false_ne_true, fun _ => ?_⟩ | refine ⟨fun h => absurd (show (false : Bool) = true from h) Bool.false_ne_true, fun _ => ?_⟩ | refine ⟨fun _ => ?_, fun h => absurd (of_decide_eq_true h) (by omega)⟩ | refine ⟨fun h => absurd (of_decide_eq_true h) (by omega), fun _ => ?_⟩ | refine ⟨fun _ => ?_, fun h => absurd (by omega) (of_decide_eq_false h)⟩ | refine ⟨fun h => absurd (by omega) (of_decide_eq_false h), fun _ => ?_⟩ | refine ⟨fun _ => ?_, fun h => absurd h (by decide +kernel)⟩ | refine ⟨fun h => absurd h (by decide +kernel), fun _ => ?_⟩ | fail))
section
variable {n : Nat} {μ : Mu} {k : Nat} {cs : List Int} {N : Int} {K : X → Mu → Prop}
theorem eq_wc {p q p' q' : Int} (h : K (.d (.bl (decide (p = p') && decide (q = q')))) μ) : WC1 (C (n + 1)) j_Exact_eq [.d (exD p q), .d (exD p' q')] μ K := by
  refine wc_of t_Exact_eq rfl ?_
  show WS _ b_Exact_eq [some (.d (exD p q)), some (.d (exD p' q'))] μ _
  unfold b_Exact_eq
  walk_at "g"
  walk_at "g"
  walk_at "g"
  refine ⟨fun b => ?_, fun b => ?_⟩
  · have b : decide (p = p') = true := b
    rw [b, Bool.true_and] at h
    walk_at "g"
    walk_at "g"
    walk_at "g"
    exact fq_d rfl h
  · have b : decide (p = p') = false := b
    rw [b, Bool.false_and] at h
    refine fq_d rfl ?_
    show K (.d (.bl (decide (p = p')))) μ
    rw [b]
    exact h
theorem bool_wc {p q : Int} (h : K (.d (.bl (p != 0))) μ) : WC1 (C (n + 1)) j_Exact_bool [.d (exD p q)] μ K := by
  refine wc_of t_Exact_bool rfl ?_
  show WS _ b_Exact_bool [some (.d (exD p q))] μ _
  unfold b_Exact_bool
  walk_at "g"
  walk_at "g"
  refine fq_d rfl ?_
  have e : (!decide (p = 0)) = (p != 0) := by
    by_cases z : p = 0
    · subst z; rfl
    · rw [decide_eq_false z]; simp [z]
  rw [← e] at h
  exact h
/-- == with what is no Exact -/
theorem eqF_wc {p q : Int} {d : D} (hd : plainD d = true) (h : K (.d (.bl false)) μ) : WC1 (C (n + 1)) j_Exact_eq [.d (exD p q), .d d] μ K := by
  refine wc_of t_Exact_eq rfl ?_
  show WS _ b_Exact_eq [some (.d (exD p q)), some (.d d)] μ _
  unfold b_Exact_eq
  cases d <;> first | (cases hd; done) | (walk_at "g"; exact fq_d rfl h)
theorem signed_wc {m : Int} (h : St μ k cs N) (hN : N < 2 ^ 50) (h0 : 0 ≤ m) (h1 : m ≤ 10 ^ 30) (hK : ∀ z nd, -m ≤ z → z ≤ m → St (μ.set k (some nd)) k cs (N + 3) → K (.d (.int z)) (μ.set k (some nd))) : WC1 (C (n + 4)) j_lsigned [.r k, .d (.int m)] μ K := by
  refine wc_of t_lsigned rfl ?_
  show WS _ b_lsigned [some (.r k), some (.d (.int m)), none] μ _
  unfold b_lsigned
  have big : (10 : Int) ^ 30 < 2 ^ 3999 := by decide +kernel
  walk_at "g"
  refine edge_wc (n := n) t_ltake t_lbetween t_ledge (Nat.le_refl _) h (by omega) h0 (by omega) fun z nd1 g1 g2 s1 => ?_
  walk_at "g"
  refine take_wc (n := n + 2) t_ltake (Nat.le_refl _) s1 (by omega) (by decide) fun w nd2 w1 w2 s2 => ?_
  rw [List.set_set] at s2 ⊢
  walk_at "g"
  refine ⟨fun _ => ?_, fun _ => ?_⟩
  · walk_at "g"
    exact fq_d (by simp) (hK _ _ (by omega) (by omega) (s2.more (by omega)))
  · walk_at "g"
    exact fq_d (by simp) (hK _ _ (by omega) (by omega) (s2.more (by omega)))
end
end K02

namespace K02
open PySem L2 DL
/- one step; what has one way only; a step with the choices -/
local macro_rules | `(tactic| walk_at "1s") => `(tactic| first | refine we_var rfl ?_ | refine we_con ?_ | refine wa_cons ?_ | refine wa_nil ?_ | refine asI_mk ?_ | refine asZ_mk ?_ | refine asD_mk ?_ | refine we_idx ?_ | refine asV_d ?_ | refine we_call ?_ | refine we_callK ?_ | refine we_bm ?_ | refine we_dnew ?_ | refine we_bin ?_ | refine asOp_int ?_ | refine we_cmp ?_ | refine asCmp_inK (by assumption) rfl ?_ | refine asCmp_notinK (by assumption) rfl ?_ | refine asCmp_inK rfl rfl ?_ | refine asCmp_notinK rfl rfl ?_ | refine asCmp_mk rfl ?_ | refine wt_cmp ?_ | refine we_blt ?_ | refine asO_mk ?_ | refine asB_mk ?_ | refine asG_mk (Nat.le_of_ble_eq_true rfl) ?_ | refine asG_mk (by decide) ?_ | refine asG_mk rfl ?_ | refine wt_val ?_ | refine wt_not ?_ | refine asW_d ?_ | refine we_glo rfl ?_ | refine we_tup ?_ | refine we_lstF ?_ | refine we_lstT ?_ | refine we_isi ?_ | refine wt_isi ?_ | refine we_not ?_ | refine we_neg ?_ | refine asNeg_int ?_ | refine we_fmt ?_ | refine we_jn1 ?_ | refine we_jn ?_ | refine wj_cons ?_ | refine wj_nil ?_ | refine asSt_mk ?_ | refine asZ_mod (by decide) ?_ | refine asZ_mul (by omega) (by omega) (by decide) ?_ | refine asZ_mulS (by omega) (by omega) (by omega) (by omega) ?_ | refine asZ_div (by decide +kernel) ?_ | refine asZ_pow (by decide +kernel) ?_ | refine asR_mk ?_ | refine as1_mk ?_ | refine asT_mk ?_ | refine asS_l ?_ | refine asS_t ?_ | refine asS_k ?_ | refine asS_s ?_ | refine wi_seq ?_ | refine wi_rng1 ?_ | refine wi_rng2 ?_ | refine wi_enum ?_ | refine we_app ?_ | refine we_sl ?_ | refine wo_none ?_ | refine wo_some ?_ | refine we_rv ?_ | refine we_dicF ?_ | refine we_fld ?_ | refine asOp_tup (Nat.le_of_ble_eq_true rfl) ?_ | refine asOp_str (by decide +kernel) ?_ | refine asOp_lst (Nat.le_of_ble_eq_true rfl) ?_ | (apply asV_r; assumption) | (apply asW_r; assumption) | (apply asC_mk; assumption) | (apply asV_rd; assumption) | (apply asW_rd; assumption) | (apply asK_mk; assumption) | refine asF_of (fldP_r (by assumption) rfl rfl rfl) ?_ | refine asV_rd rfl ?_ | refine asW_rd rfl ?_ | refine asV_r rfl ?_ | refine asW_r rfl ?_ | refine asK_mk rfl ?_ | refine asF_of (fldP_r rfl rfl rfl rfl) ?_ | refine asF_of (fldP_d rfl rfl rfl) ?_ | refine asC_mk rfl ?_ | refine ws_set ?_ | refine kq_nx ?_ | refine kq_rt ?_ | refine ws_ret ?_ | refine ws_nil ?_ | refine ws_ex ?_ | refine ws_unp ?_ | refine ws_pass ?_ | refine ws_setD ?_ | refine ws_retN ?_ | refine ws_brk ?_ | refine ws_cnt ?_ | refine kq_bk ?_ | refine kq_ct ?_ | refine kq_ex ?_ | refine ws_rais rfl ?_ | fail)
local macro_rules | `(tactic| walk_at "1c") => `(tactic| first | refine ws_ite ?_ | refine wt_bop ?_ | refine wt_bop1 ?_ | refine wt_chain ?_ | refine we_bop ?_ | refine we_bop1 ?_ | refine we_ife ?_ | refine we_chain ?_ | refine ws_par ?_ | refine ⟨fun _ => ?_, fun h => absurd (show (false : Bool) = true from h) Bool.false_ne_true⟩ | refine ⟨fun _ => ?_, fun h => absurd (show (true : Bool) = false from h).symm Bool.false_ne_true⟩ | refine ⟨fun h => absurd (show (true : Bool) = false from h).symm Bool.false_ne_true, fun _ => ?_⟩ | refine ⟨fun h => absurd (show (false : Bool) = true from h) Bool.false_ne_true, fun _ => ?_⟩ | fail)
local macro_rules | `(tactic| walk_at "x") => `(tactic| repeat (first | refine we_var rfl ?_ | refine we_con ?_ | refine wa_cons ?_ | refine wa_nil ?_ | refine asI_mk ?_ | refine asZ_mk ?_ | refine asD_mk ?_ | refine we_idx ?_ | refine asV_d ?_ | refine we_call ?_ | refine we_callK ?_ | refine we_bm ?_ | refine we_dnew ?_ | refine we_bin ?_ | refine asOp_int ?_ | refine we_cmp ?_ | refine asCmp_inK (by assumption) rfl ?_ | refine asCmp_notinK (by assumption) rfl ?_ | refine asCmp_inK rfl rfl ?_ | refine asCmp_notinK rfl rfl ?_ | refine asCmp_mk rfl ?_ | refine wt_cmp ?_ | refine we_blt ?_ | refine asO_mk ?_ | refine asB_mk ?_ | refine asG_mk (Nat.le_of_ble_eq_true rfl) ?_ | refine asG_mk (by decide) ?_ | refine asG_mk rfl ?_ | refine wt_val ?_ | refine wt_not ?_ | refine asW_d ?_ | refine we_glo rfl ?_ | refine we_tup ?_ | refine we_lstF ?_ | refine we_lstT ?_ | refine we_isi ?_ | refine wt_isi ?_ | refine we_not ?_ | refine we_neg ?_ | refine asNeg_int ?_ | refine we_fmt ?_ | refine we_jn1 ?_ | refine we_jn ?_ | refine wj_cons ?_ | refine wj_nil ?_ | refine asSt_mk ?_ | refine asZ_mod (by decide) ?_ | refine asZ_mul (by omega) (by omega) (by decide) ?_ | refine asZ_mulS (by omega) (by omega) (by omega) (by omega) ?_ | refine asZ_div (by decide +kernel) ?_ | refine asZ_pow (by decide +kernel) ?_ | refine asR_mk ?_ | refine as1_mk ?_ | refine asT_mk ?_ | refine asS_l ?_ | refine asS_t ?_ | refine asS_k ?_ | refine asS_s ?_ | refine wi_seq ?_ | refine wi_rng1 ?_ | refine wi_rng2 ?_ | refine wi_enum ?_ | refine we_app ?_ | refine we_sl ?_ | refine wo_none ?_ | refine wo_some ?_ | refine we_rv ?_ | refine we_dicF ?_ | refine we_fld ?_ | refine asOp_tup (Nat.le_of_ble_eq_true rfl) ?_ | refine asOp_str (by decide +kernel) ?_ | refine asOp_lst (Nat.le_of_ble_eq_true rfl) ?_ | (apply asV_r; assumption) | (apply asW_r; assumption) | (apply asC_mk; assumption) | (apply asV_rd; assumption) | (apply asW_rd; assumption) | (apply asK_mk; assumption) | refine asF_of (fldP_r (by assumption) rfl rfl rfl) ?_ | refine asV_rd rfl ?_ | refine asW_rd rfl ?_ | refine asV_r rfl ?_ | refine asW_r rfl ?_ | refine asK_mk rfl ?_ | refine asF_of (fldP_r rfl rfl rfl rfl) ?_ | refine asF_of (fldP_d rfl rfl rfl) ?_ | refine asC_mk rfl ?_ | fail))
local macro_rules | `(tactic| walk_at "s") => `(tactic| repeat (first | refine we_var rfl ?_ | refine we_con ?_ | refine wa_cons ?_ | refine wa_nil ?_ | refine asI_mk ?_ | refine asZ_mk ?_ | refine asD_mk ?_ | refine we_idx ?_ | refine asV_d ?_ | refine we_call ?_ | refine we_callK ?_ | refine we_bm ?_ | refine we_dnew ?_ | refine we_bin ?_ | refine asOp_int ?_ | refine we_cmp ?_ | refine asCmp_inK (by assumption) rfl ?_ | refine asCmp_notinK (by assumption) rfl ?_ | refine asCmp_inK rfl rfl ?_ | refine asCmp_notinK rfl rfl ?_ | refine asCmp_mk rfl ?_ | refine wt_cmp ?_ | refine we_blt ?_ | refine asO_mk ?_ | refine asB_mk ?_ | refine asG_mk (Nat.le_of_ble_eq_true rfl) ?_ | refine asG_mk (by decide) ?_ | refine asG_mk rfl ?_ | refine wt_val ?_ | refine wt_not ?_ | refine asW_d ?_ | refine we_glo rfl ?_ | refine we_tup ?_ | refine we_lstF ?_ | refine we_lstT ?_ | refine we_isi ?_ | refine wt_isi ?_ | refine we_not ?_ | refine we_neg ?_ | refine asNeg_int ?_ | refine we_fmt ?_ | refine we_jn1 ?_ | refine we_jn ?_ | refine wj_cons ?_ | refine wj_nil ?_ | refine asSt_mk ?_ | refine asZ_mod (by decide) ?_ | refine asZ_mul (by omega) (by omega) (by decide) ?_ | refine asZ_mulS (by omega) (by omega) (by omega) (by omega) ?_ | refine asZ_div (by decide +kernel) ?_ | refine asZ_pow (by decide +kernel) ?_ | refine asR_mk ?_ | refine as1_mk ?_ | refine asT_mk ?_ | refine asS_l ?_ | refine asS_t ?_ | refine asS_k ?_ | refine asS_s ?_ | refine wi_seq ?_ | refine wi_rng1 ?_ | refine wi_rng2 ?_ | refine wi_enum ?_ | refine we_app ?_ | refine we_sl ?_ | refine wo_none ?_ | refine wo_some ?_ | refine we_rv ?_ | refine we_dicF ?_ | refine we_fld ?_ | refine asOp_tup (Nat.le_of_ble_eq_true rfl) ?_ | refine asOp_str (by decide +kernel) ?_ | refine asOp_lst (Nat.le_of_ble_eq_true rfl) ?_ | (apply asV_r; assumption) | (apply asW_r; assumption) | (apply asC_mk; assumption) | (apply asV_rd; assumption) | (apply asW_rd; assumption) | (apply asK_mk; assumption) | refine asF_of (fldP_r (by assumption) rfl rfl rfl) ?_ | refine asV_rd rfl ?_ | refine asW_rd rfl ?_ | refine asV_r rfl ?_ | refine asW_r rfl ?_ | refine asK_mk rfl ?_ | refine asF_of (fldP_r rfl rfl rfl rfl) ?_ | refine asF_of (fldP_d rfl rfl rfl) ?_ | refine asC_mk rfl ?_ | refine ws_set ?_ | refine kq_nx ?_ | refine kq_rt ?_ | refine ws_ret ?_ | refine ws_nil ?_ | refine ws_ex ?_ | refine ws_unp ?_ | refine ws_pass ?_ | refine ws_setD ?_ | refine ws_retN ?_ | refine ws_brk ?_ | refine ws_cnt ?_ | refine kq_bk ?_ | refine kq_ct ?_ | refine kq_ex ?_ | refine ws_rais rfl ?_ | fail))
local macro_rules | `(tactic| walk_at "g") => `(tactic| repeat (first | refine we_var rfl ?_ | refine we_con ?_ | refine wa_cons ?_ | refine wa_nil ?_ | refine asI_mk ?_ | refine asZ_mk ?_ | refine asD_mk ?_ | refine we_idx ?_ | refine asV_d ?_ | refine we_call ?_ | refine we_callK ?_ | refine we_bm ?_ | refine we_dnew ?_ | refine we_bin ?_ | refine asOp_int ?_ | refine we_cmp ?_ | refine asCmp_inK (by assumption) rfl ?_ | refine asCmp_notinK (by assumption) rfl ?_ | refine asCmp_inK rfl rfl ?_ | refine asCmp_notinK rfl rfl ?_ | refine asCmp_mk rfl ?_ | refine wt_cmp ?_ | refine we_blt ?_ | refine asO_mk ?_ | refine asB_mk ?_ | refine asG_mk (Nat.le_of_ble_eq_true rfl) ?_ | refine asG_mk (by decide) ?_ | refine asG_mk rfl ?_ | refine wt_val ?_ | refine wt_not ?_ | refine asW_d ?_ | refine we_glo rfl ?_ | refine we_tup ?_ | refine we_lstF ?_ | refine we_lstT ?_ | refine we_isi ?_ | refine wt_isi ?_ | refine we_not ?_ | refine we_neg ?_ | refine asNeg_int ?_ | refine we_fmt ?_ | refine we_jn1 ?_ | refine we_jn ?_ | refine wj_cons ?_ | refine wj_nil ?_ | refine asSt_mk ?_ | refine asZ_mod (by decide) ?_ | refine asZ_mul (by omega) (by omega) (by decide) ?_ | refine asZ_mulS (by omega) (by omega) (by omega) (by omega) ?_ | refine asZ_div (by decide +kernel) ?_ | refine asZ_pow (by decide +kernel) ?_ | refine asR_mk ?_ | refine as1_mk ?_ | refine asT_mk ?_ | refine asS_l ?_ | refine asS_t ?_ | refine asS_k ?_ | refine asS_s ?_ | refine wi_seq ?_ | refine wi_rng1 ?_ | refine wi_rng2 ?_ | refine wi_enum ?_ | refine we_app ?_ | refine we_sl ?_ | refine wo_none ?_ | refine wo_some ?_ | refine we_rv ?_ | refine we_dicF ?_ | refine we_fld ?_ | refine asOp_tup (Nat.le_of_ble_eq_true rfl) ?_ | refine asOp_str (by decide +kernel) ?_ | refine asOp_lst (Nat.le_of_ble_eq_true rfl) ?_ | (apply asV_r; assumption) | (apply asW_r; assumption) | (apply asC_mk; assumption) | (apply asV_rd; assumption) | (apply asW_rd; assumption) | (apply asK_mk; assumption) | refine asF_of (fldP_r (by assumption) rfl rfl rfl) ?_ | refine asV_rd rfl ?_ | refine asW_rd rfl ?_ | refine asV_r rfl ?_ | refine asW_r rfl ?_ | refine asK_mk rfl ?_ | refine asF_of (fldP_r rfl rfl rfl rfl) ?_ | refine asF_of (fldP_d rfl rfl rfl) ?_ | refine asC_mk rfl ?_ | refine ws_set ?_ | refine kq_nx ?_ | refine kq_rt ?_ | refine ws_ret ?_ | refine ws_nil ?_ | refine ws_ex ?_ | refine ws_unp ?_ | refine ws_pass ?_ | refine ws_setD ?_ | refine ws_retN ?_ | refine ws_brk ?_ | refine ws_cnt ?_ | refine kq_bk ?_ | refine kq_ct ?_ | refine kq_ex ?_ | refine ws_rais rfl ?_ | refine ws_ite ?_ | refine wt_bop ?_ | refine wt_bop1 ?_ | refine wt_chain ?_ | refine we_bop ?_ | refine we_bop1 ?_ | refine we_ife ?_ | refine we_chain ?_ | refine ws_par ?_ | refine ⟨fun _ => ?_, fun h => absurd (show (false : Bool) = true from h) Bool.false_ne_true⟩ | refine ⟨fun _ => ?_, fun h => absurd (show (true : Bool) = false from h).symm Bool.false_ne_true⟩ | refine ⟨fun h => absurd (show (true : Bool) = false from h).symm Bool.false_ne_true, fun _ => ?_⟩ | refine ⟨fun h => absurd (show (false : Bool) = true from h) Bool.false_ne_true, fun _ => ?_⟩ | refine ⟨fun _ => ?_, fun h => absurd (of_decide_eq_true h) (by omega)⟩ | refine ⟨fun h => absurd (of_decide_eq_true h) (by omega), fun _ => ?_⟩ | refine ⟨fun _ => ?_, fun h => absurd (by omega) (of_decide_eq_false h)⟩ | refine ⟨fun h => absurd (by omega) (of_decide_eq_false h), fun _ => ?_⟩ | refine ⟨fun _ => ?_, fun h => absurd h (by decide +kernel)⟩ | refine ⟨fun h => absurd h (by decide +kernel), fun _ => ?_⟩ | fail))
local macro_rules | `(tactic| walk_at "h") => `(tactic| repeat (first | refine we_var rfl ?_ | refine we_con ?_ | refine wa_cons ?_ | refine wa_nil ?_ | refine asI_mk ?_ | refine asZ_mk ?_ | refine asD_mk ?_ | refine we_idx ?_ | refine asV_d ?_ | refine we_call ?_ | refine we_callK ?_ | refine we_bm ?_ | refine we_dnew ?_ | refine we_bin ?_ | refine asOp_int ?_ | refine we_cmp ?_ | refine asCmp_inK (by assumption) rfl ?_ | refine asCmp_notinK (by assumption) rfl ?_ | refine asCmp_inK rfl rfl ?_ | refine asCmp_notinK rfl rfl ?_ | refine asCmp_mk rfl ?_ | refine wt_cmp ?_ | refine we_blt ?_ | refine asO_mk ?_ | refine asB_mk ?_ | refine asG_mk (Nat.le_of_ble_eq_true rfl) ?_ | refine asG_mk (by decide) ?_ | refine asG_mk rfl ?_ | refine wt_val ?_ | refine wt_not ?_ | refine asW_d ?_ | refine we_glo rfl ?_ | refine we_tup ?_ | refine we_lstF ?_ | refine we_lstT ?_ | refine we_isi ?_ | refine wt_isi ?_ | refine we_not ?_ | refine we_neg ?_ | refine asNeg_int ?_ | refine we_fmt ?_ | refine we_jn1 ?_ | refine we_jn ?_ | refine wj_cons ?_ | refine wj_nil ?_ | refine asSt_mk ?_ | refine asZ_mod (by decide) ?_ | refine asZ_mul (by omega) (by omega) (by decide) ?_ | refine asZ_mulS (by omega) (by omega) (by omega) (by omega) ?_ | refine asZ_div (by decide +kernel) ?_ | refine asZ_pow (by decide +kernel) ?_ | refine asR_mk ?_ | refine as1_mk ?_ | refine asT_mk ?_ | refine asS_l ?_ | refine asS_t ?_ | refine asS_k ?_ | refine asS_s ?_ | refine wi_seq ?_ | refine wi_rng1 ?_ | refine wi_rng2 ?_ | refine wi_enum ?_ | refine we_app ?_ | refine we_sl ?_ | refine wo_none ?_ | refine wo_some ?_ | refine we_rv ?_ | refine we_dicF ?_ | refine we_fld ?_ | refine asOp_tup (Nat.le_of_ble_eq_true rfl) ?_ | refine asOp_str (by decide +kernel) ?_ | refine asOp_lst (Nat.le_of_ble_eq_true rfl) ?_ | (apply asV_r; assumption) | (apply asW_r; assumption) | (apply asC_mk; assumption) | (apply asV_rd; assumption) | (apply asW_rd; assumption) | (apply asK_mk; assumption) | refine asF_of (fldP_r (by assumption) rfl rfl rfl) ?_ | refine asV_rd rfl ?_ | refine asW_rd rfl ?_ | refine asV_r rfl ?_ | refine asW_r rfl ?_ | refine asK_mk rfl ?_ | refine asF_of (fldP_r rfl rfl rfl rfl) ?_ | refine asF_of (fldP_d rfl rfl rfl) ?_ | refine asC_mk rfl ?_ | refine ws_set ?_ | refine kq_nx ?_ | refine kq_rt ?_ | refine ws_ret ?_ | refine ws_nil ?_ | refine ws_unp ?_ | refine ws_pass ?_ | refine ws_setD ?_ | refine ws_retN ?_ | refine ws_brk ?_ | refine ws_cnt ?_ | refine kq_bk ?_ | refine kq_ct ?_ | refine kq_ex ?_ | refine ws_rais rfl ?_ | refine ws_ite ?_ | refine wt_bop ?_ | refine wt_bop1 ?_ | refine wt_chain ?_ | refine we_bop ?_ | refine we_bop1 ?_ | refine we_ife ?_ | refine we_chain ?_ | refine ws_par ?_ | refine ⟨fun _ => ?_, fun h => absurd (show (false : Bool) = true from h) Bool.false_ne_true⟩ | refine ⟨fun _ => ?_, fun h => absurd (show (true : Bool) = false from h).symm Bool.false_ne_true⟩ | refine ⟨fun h => absurd (show (true : Bool) = false from h).symm Bool.false_ne_true, fun _ => ?_⟩ | refine ⟨fun h => absurd (show (false : Bool) = true from h) Bool.false_ne_true, fun _ => ?_⟩ | refine ⟨fun _ => ?_, fun h => absurd (of_decide_eq_true h) (by omega)⟩ | refine ⟨fun h => absurd (of_decide_eq_true h) (by omega), fun _ => ?_⟩ | refine ⟨fun _ => ?_, fun h => absurd (by omega) (of_decide_eq_false h)⟩ | refine ⟨fun h => absurd (by omega) (of_decide_eq_false h), fun _ => ?_⟩ | refine ⟨fun _ => ?_, fun h => absurd h (by decide +kernel)⟩ | refine ⟨fun h => absurd h (by decide +kernel), fun _ => ?_⟩ | fail))
section
variable {n : Nat} {μ : Mu} {k : Nat} {cs : List Int} {N : Int} {K : X → Mu → Prop}
/-- a fraction within 10 ** 30 -/
structure Frac (a b : Int) : Prop where
  a0 : -(10 ^ 30) ≤ a
  a1 : a ≤ 10 ^ 30
  b0 : -(10 ^ 30) ≤ b
  b1 : b ≤ 10 ^ 30
  ne : b ≠ 0
theorem pow30 : (10 : Int) ^ 30 = 1000000000000000000000000000000 := by decide +kernel
theorem frac_wc (h : St μ k cs N) (hN : N < 2 ^ 49) (hK : ∀ a b nd, Frac a b → St (μ.set k (some nd)) k cs (N + 10) → K (.d (.tup [.int a, .int b])) (μ.set k (some nd))) : WC1 (C (n + 5)) j_lfraction [.r k] μ K := by
  refine wc_of t_lfraction rfl ?_
  show WS _ b_lfraction [some (.r k), none, none, none, none] μ _
  unfold b_lfraction
  have big : (10 : Int) ^ 30 < 2 ^ 3999 := by decide +kernel
  walk_at "g"
  refine pick_wc (n := n + 2) t_ltake t_lpick (Nat.le_refl _) h (by omega) (by decide) (by decide) fun d nd1 hd s1 => ?_
  have hm : ∃ m : Int, d = .int m ∧ (m = 12 ∨ m = 1000 ∨ m = 10 ^ 30) := by
    simp only [List.mem_cons, List.not_mem_nil, or_false] at hd
    rcases hd with rfl | rfl | rfl | rfl
    · exact ⟨_, rfl, .inl rfl⟩
    · exact ⟨_, rfl, .inl rfl⟩
    · exact ⟨_, rfl, .inr (.inl rfl)⟩
    · exact ⟨_, rfl, .inr (.inr rfl)⟩
  obtain ⟨m, rfl, hm⟩ := hm
  clear hd
  have p30 := pow30
  have m1 : 12 ≤ m ∧ m ≤ 10 ^ 30 := by omega
  walk_at "g"
  refine signed_wc (n := n) s1 (by omega) (by omega) m1.2 fun a nd2 a1 a2 s2 => ?_
  rw [List.set_set] at s2 ⊢
  walk_at "g"
  refine edge_wc (n := n + 1) t_ltake t_lbetween t_ledge (Nat.le_refl _) s2 (by omega) (by omega) (by omega) fun b nd3 b1 b2 s3 => ?_
  rw [List.set_set] at s3 ⊢
  walk_at "g"
  refine take_wc (n := n + 3) t_ltake (Nat.le_refl _) s3 (by omega) (by decide) fun w nd4 w1 w2 s4 => ?_
  rw [List.set_set] at s4 ⊢
  have tail : ∀ c : Int, -m ≤ c → c ≤ m → c ≠ 0 → WS (parOf L.tab WW (n + 4)) (.cons (.ite (.cmp .le (.var 1) (.con (.int 1000))) (.cons (.set 4 (.bin .add (.con (.int 1)) (.call j_ltake (.cons (.var 0) (.cons (.con (.int 6)) .nil)) []))) (.cons (.ret (.tup (.cons (.bin .mul (.var 2) (.var 4)) (.cons (.bin .mul (.var 3) (.var 4)) .nil)))) .nil)) .nil) (.cons (.ret (.tup (.cons (.var 2) (.cons (.var 3) .nil)))) .nil)) [some (.r k), some (.d (.int m)), some (.d (.int a)), some (.d (.int c)), none] (μ.set k (some nd4)) (Fq μ K) := by
    intro c c1 c2 c3
    walk_at "g"
    refine ⟨fun hc => ?_, fun hc => ?_⟩
    · have hc := of_decide_eq_true hc
      walk_at "g"
      refine take_wc (n := n + 3) t_ltake (Nat.le_refl _) s4 (by omega) (by decide) fun f nd5 f1 f2 s5 => ?_
      rw [List.set_set] at s5 ⊢
      have f3 : f < 6 := by omega
      walk_at "g"
      have e1 : -6000 ≤ a * (1 + f) ∧ a * (1 + f) ≤ 6000 := by
        have : f = 0 ∨ f = 1 ∨ f = 2 ∨ f = 3 ∨ f = 4 ∨ f = 5 := by omega
        rcases this with rfl | rfl | rfl | rfl | rfl | rfl <;> omega
      have e2 : -6000 ≤ c * (1 + f) ∧ c * (1 + f) ≤ 6000 ∧ c * (1 + f) ≠ 0 := by
        have : f = 0 ∨ f = 1 ∨ f = 2 ∨ f = 3 ∨ f = 4 ∨ f = 5 := by omega
        rcases this with rfl | rfl | rfl | rfl | rfl | rfl <;> omega
      exact fq_d (by simp) (hK _ _ _ ⟨by omega, by omega, by omega, by omega, e2.2.2⟩ (s5.more (by omega)))
    · walk_at "g"
      exact fq_d (by simp) (hK _ _ _ ⟨by omega, by omega, by omega, by omega, c3⟩ (s4.more (by omega)))
  walk_at "g"
  refine ⟨fun hc => ?_, fun hc => ?_⟩
  · walk_at "s"
    exact tail (0 - (1 + b)) (by omega) (by omega) (by omega)
  · walk_at "s"
    exact tail (1 + b) (by omega) (by omega) (by omega)
theorem absI (a : Int) : (if a < 0 then -a else a) = (a.natAbs : Int) := by
  split <;> omega
theorem maxI (a b : Int) : (if b > a then b else a) = max a b := by
  split <;> omega
/-- times a factor within the room -/
theorem room_mul {a m f r : Int} (ha : (a.natAbs : Int) ≤ m) (hm : 0 < m) (hr : r = 10 ^ 30 / m) (f1 : 1 ≤ f) (f2 : f ≤ r) : -(10 ^ 30) ≤ a * f ∧ a * f ≤ 10 ^ 30 := by
  have e : m * r ≤ 10 ^ 30 := by rw [hr]; exact Int.mul_ediv_self_le (by omega)
  have e2 : ((a * f).natAbs : Int) ≤ m * r := by
    rw [Int.natAbs_mul, Int.natCast_mul]
    have : (f.natAbs : Int) = f := by omega
    rw [this]
    exact Int.mul_le_mul ha f2 (by omega) (by omega)
  omega
theorem room_ok {m : Int} (hm : 0 < m) (h : m ≤ 10 ^ 30) : 1 ≤ 10 ^ 30 / m ∧ 10 ^ 30 / m ≤ (10 ^ 30 : Int) := by
  constructor
  · exact Int.le_ediv_of_mul_le hm (by omega)
  · exact Int.ediv_le_self _ (by decide +kernel)
theorem ratio_wc (h : St μ k cs N) (hN : N < 2 ^ 48) (hK : ∀ a b nd, Frac a b → St (μ.set k (some nd)) k cs (N + 20) → K (.d (.tup [.int a, .int b])) (μ.set k (some nd))) : WC1 (C (n + 6)) j_lratio [.r k] μ K := by
  refine wc_of t_lratio rfl ?_
  show WS _ b_lratio [some (.r k), none, none, none] μ _
  unfold b_lratio
  have big : (10 : Int) ^ 30 < 2 ^ 3999 := by decide +kernel
  have p30 := pow30
  walk_at "g"
  refine frac_wc (n := n) h (by omega) fun a b nd1 hf s1 => ?_
  obtain ⟨f1, f2, f3, f4, f5⟩ := hf
  walk_at "g"
  rw [absI, absI, maxI]
  generalize hM : max (a.natAbs : Int) (b.natAbs : Int) = M
  have M1 : 0 < M ∧ M ≤ 10 ^ 30 ∧ (a.natAbs : Int) ≤ M ∧ (b.natAbs : Int) ≤ M := by omega
  clear hM
  refine asZ_of (bin_div (divOk_of (b := 110) M1.1 (by omega) (by decide))) ?_
  walk_at "g"
  have r1 := room_ok M1.1 M1.2.1
  refine edge_wc (n := n + 2) t_ltake t_lbetween t_ledge (Nat.le_refl _) s1 (by omega) (by show 0 ≤ (10 : Int) ^ 30 / M - 1; omega) (by show (10 : Int) ^ 30 / M - 1 - 0 < _; omega) fun z nd2 z1 z2 s2 => ?_
  have z2 : z ≤ (10 : Int) ^ 30 / M - 1 := z2
  generalize hR : (10 : Int) ^ 30 / M = R at r1 z2
  rw [List.set_set] at s2 ⊢
  walk_at "g"
  refine asZ_of (bin_mul (mulOk_of (a := 110) (b := 110) (by omega) (by omega) (by decide))) ?_
  walk_at "g"
  refine asZ_of (bin_mul (mulOk_of (a := 110) (b := 110) (by omega) (by omega) (by decide))) ?_
  walk_at "g"
  have g1 := room_mul M1.2.2.1 M1.1 hR.symm (f := 1 + z) (by omega) (by omega)
  have g2 := room_mul M1.2.2.2 M1.1 hR.symm (f := 1 + z) (by omega) (by omega)
  exact fq_d (by simp) (hK _ _ _ ⟨g1.1, g1.2, g2.1, g2.2, Int.mul_ne_zero f5 (by omega)⟩ (s2.more (by omega)))
end
end K02

namespace K02
open PySem L2 DL
/- one step; what has one way only; a step with the choices -/
local macro_rules | `(tactic| walk_at "1s") => `(tactic| first | refine we_var rfl ?_ | refine we_con ?_ | refine wa_cons ?_ | refine wa_nil ?_ | refine asI_mk ?_ | refine asZ_mk ?_ | refine asD_mk ?_ | refine we_idx ?_ | refine asV_d ?_ | refine we_call ?_ | refine we_callK ?_ | refine we_bm ?_ | refine we_dnew ?_ | refine we_bin ?_ | refine asOp_int ?_ | refine we_cmp ?_ | refine asCmp_inK (by assumption) rfl ?_ | refine asCmp_notinK (by assumption) rfl ?_ | refine asCmp_inK rfl rfl ?_ | refine asCmp_notinK rfl rfl ?_ | refine asCmp_mk rfl ?_ | refine wt_cmp ?_ | refine we_blt ?_ | refine asO_mk ?_ | refine asB_mk ?_ | refine asG_mk (Nat.le_of_ble_eq_true rfl) ?_ | refine asG_mk (by decide) ?_ | refine asG_mk rfl ?_ | refine wt_val ?_ | refine wt_not ?_ | refine asW_d ?_ | refine we_glo rfl ?_ | refine we_tup ?_ | refine we_lstF ?_ | refine we_lstT ?_ | refine we_isi ?_ | refine wt_isi ?_ | refine we_not ?_ | refine we_neg ?_ | refine asNeg_int ?_ | refine we_fmt ?_ | refine we_jn1 ?_ | refine we_jn ?_ | refine wj_cons ?_ | refine wj_nil ?_ | refine asSt_mk ?_ | refine asZ_mod (by decide) ?_ | refine asZ_mul (by omega) (by omega) (by decide) ?_ | refine asZ_mulS (by omega) (by omega) (by omega) (by omega) ?_ | refine asZ_div (by decide +kernel) ?_ | refine asZ_pow (by decide +kernel) ?_ | refine asR_mk ?_ | refine as1_mk ?_ | refine asT_mk ?_ | refine asS_l ?_ | refine asS_t ?_ | refine asS_k ?_ | refine asS_s ?_ | refine wi_seq ?_ | refine wi_rng1 ?_ | refine wi_rng2 ?_ | refine wi_enum ?_ | refine we_app ?_ | refine we_sl ?_ | refine wo_none ?_ | refine wo_some ?_ | refine we_rv ?_ | refine we_dicF ?_ | refine we_fld ?_ | refine asOp_tup (Nat.le_of_ble_eq_true rfl) ?_ | refine asOp_str (by decide +kernel) ?_ | refine asOp_lst (Nat.le_of_ble_eq_true rfl) ?_ | (apply asV_r; assumption) | (apply asW_r; assumption) | (apply asC_mk; assumption) | (apply asV_rd; assumption) | (apply asW_rd; assumption) | (apply asK_mk; assumption) | refine asF_of (fldP_r (by assumption) rfl rfl rfl) ?_ | refine asV_rd rfl ?_ | refine asW_rd rfl ?_ | refine asV_r rfl ?_ | refine asW_r rfl ?_ | refine asK_mk rfl ?_ | refine asF_of (fldP_r rfl rfl rfl rfl) ?_ | refine asF_of (fldP_d rfl rfl rfl) ?_ | refine asC_mk rfl ?_ | refine ws_set ?_ | refine kq_nx ?_ | refine kq_rt ?_ | refine ws_ret ?_ | refine ws_nil ?_ | refine ws_ex ?_ | refine ws_unp ?_ | refine ws_pass ?_ | refine ws_setD ?_ | refine ws_retN ?_ | refine ws_brk ?_ | refine ws_cnt ?_ | refine kq_bk ?_ | refine kq_ct ?_ | refine kq_ex ?_ | refine ws_rais rfl ?_ | fail)
local macro_rules | `(tactic| walk_at "1c") => `(tactic| first | refine ws_ite ?_ | refine wt_bop ?_ | refine wt_bop1 ?_ | refine wt_chain ?_ | refine we_bop ?_ | refine we_bop1 ?_ | refine we_ife ?_ | refine we_chain ?_ | refine ws_par ?_ | refine ⟨fun _ => ?_, fun h => absurd (show (false : Bool) = true from h) Bool.false_ne_true⟩ | refine ⟨fun _ => ?_, fun h => absurd (show (true : Bool) = false from h).symm Bool.false_ne_true⟩ | refine ⟨fun h => absurd (show (true : Bool) = false from h).symm Bool.false_ne_true, fun _ => ?_⟩ | refine ⟨fun h => absurd (show (false : Bool) = true from h) Bool.false_ne_true, fun _ => ?_⟩ | fail)
local macro_rules | `(tactic| walk_at "x") => `(tactic| repeat (first | refine we_var rfl ?_ | refine we_con ?_ | refine wa_cons ?_ | refine wa_nil ?_ | refine asI_mk ?_ | refine asZ_mk ?_ | refine asD_mk ?_ | refine we_idx ?_ | refine asV_d ?_ | refine we_call ?_ | refine we_callK ?_ | refine we_bm ?_ | refine we_dnew ?_ | refine we_bin ?_ | refine asOp_int ?_ | refine we_cmp ?_ | refine asCmp_inK (by assumption) rfl ?_ | refine asCmp_notinK (by assumption) rfl ?_ | refine asCmp_inK rfl rfl ?_ | refine asCmp_notinK rfl rfl ?_ | refine asCmp_mk rfl ?_ | refine wt_cmp ?_ | refine we_blt ?_ | refine asO_mk ?_ | refine asB_mk ?_ | refine asG_mk (Nat.le_of_ble_eq_true rfl) ?_ | refine asG_mk (by decide) ?_ | refine asG_mk rfl ?_ | refine wt_val ?_ | refine wt_not ?_ | refine asW_d ?_ | refine we_glo rfl ?_ | refine we_tup ?_ | refine we_lstF ?_ | refine we_lstT ?_ | refine we_isi ?_ | refine wt_isi ?_ | refine we_not ?_ | refine we_neg ?_ | refine asNeg_int ?_ | refine we_fmt ?_ | refine we_jn1 ?_ | refine we_jn ?_ | refine wj_cons ?_ | refine wj_nil ?_ | refine asSt_mk ?_ | refine asZ_mod (by decide) ?_ | refine asZ_mul (by omega) (by omega) (by decide) ?_ | refine asZ_mulS (by omega) (by omega) (by omega) (by omega) ?_ | refine asZ_div (by decide +kernel) ?_ | refine asZ_pow (by decide +kernel) ?_ | refine asR_mk ?_ | refine as1_mk ?_ | refine asT_mk ?_ | refine asS_l ?_ | refine asS_t ?_ | refine asS_k ?_ | refine asS_s ?_ | refine wi_seq ?_ | refine wi_rng1 ?_ | refine wi_rng2 ?_ | refine wi_enum ?_ | refine we_app ?_ | refine we_sl ?_ | refine wo_none ?_ | refine wo_some ?_ | refine we_rv ?_ | refine we_dicF ?_ | refine we_fld ?_ | refine asOp_tup (Nat.le_of_ble_eq_true rfl) ?_ | refine asOp_str (by decide +kernel) ?_ | refine asOp_lst (Nat.le_of_ble_eq_true rfl) ?_ | (apply asV_r; assumption) | (apply asW_r; assumption) | (apply asC_mk; assumption) | (apply asV_rd; assumption) | (apply asW_rd; assumption) | (apply asK_mk; assumption) | refine asF_of (fldP_r (by assumption) rfl rfl rfl) ?_ | refine asV_rd rfl ?_ | refine asW_rd rfl ?_ | refine asV_r rfl ?_ | refine asW_r rfl ?_ | refine asK_mk rfl ?_ | refine asF_of (fldP_r rfl rfl rfl rfl) ?_ | refine asF_of (fldP_d rfl rfl rfl) ?_ | refine asC_mk rfl ?_ | fail))
local macro_rules | `(tactic| walk_at "s") => `(tactic| repeat (first | refine we_var rfl ?_ | refine we_con ?_ | refine wa_cons ?_ | refine wa_nil ?_ | refine asI_mk ?_ | refine asZ_mk ?_ | refine asD_mk ?_ | refine we_idx ?_ | refine asV_d ?_ | refine we_call ?_ | refine we_callK ?_ | refine we_bm ?_ | refine we_dnew ?_ | refine we_bin ?_ | refine asOp_int ?_ | refine we_cmp ?_ | refine asCmp_inK (by assumption) rfl ?_ | refine asCmp_notinK (by assumption) rfl ?_ | refine asCmp_inK rfl rfl ?_ | refine asCmp_notinK rfl rfl ?_ | refine asCmp_mk rfl ?_ | refine wt_cmp ?_ | refine we_blt ?_ | refine asO_mk ?_ | refine asB_mk ?_ | refine asG_mk (Nat.le_of_ble_eq_true rfl) ?_ | refine asG_mk (by decide) ?_ | refine asG_mk rfl ?_ | refine wt_val ?_ | refine wt_not ?_ | refine asW_d ?_ | refine we_glo rfl ?_ | refine we_tup ?_ | refine we_lstF ?_ | refine we_lstT ?_ | refine we_isi ?_ | refine wt_isi ?_ | refine we_not ?_ | refine we_neg ?_ | refine asNeg_int ?_ | refine we_fmt ?_ | refine we_jn1 ?_ | refine we_jn ?_ | refine wj_cons ?_ | refine wj_nil ?_ | refine asSt_mk ?_ | refine asZ_mod (by decide) ?_ | refine asZ_mul (by omega) (by omega) (by decide) ?_ | refine asZ_mulS (by omega) (by omega) (by omega) (by omega) ?_ | refine asZ_div (by decide +kernel) ?_ | refine asZ_pow (by decide +kernel) ?_ | refine asR_mk ?_ | refine as1_mk ?_ | refine asT_mk ?_ | refine asS_l ?_ | refine asS_t ?_ | refine asS_k ?_ | refine asS_s ?_ | refine wi_seq ?_ | refine wi_rng1 ?_ | refine wi_rng2 ?_ | refine wi_enum ?_ | refine we_app ?_ | refine we_sl ?_ | refine wo_none ?_ | refine wo_some ?_ | refine we_rv ?_ | refine we_dicF ?_ | refine we_fld ?_ | refine asOp_tup (Nat.le_of_ble_eq_true rfl) ?_ | refine asOp_str (by decide +kernel) ?_ | refine asOp_lst (Nat.le_of_ble_eq_true rfl) ?_ | (apply asV_r; assumption) | (apply asW_r; assumption) | (apply asC_mk; assumption) | (apply asV_rd; assumption) | (apply asW_rd; assumption) | (apply asK_mk; assumption) | refine asF_of (fldP_r (by assumption) rfl rfl rfl) ?_ | refine asV_rd rfl ?_ | refine asW_rd rfl ?_ | refine asV_r rfl ?_ | refine asW_r rfl ?_ | refine asK_mk rfl ?_ | refine asF_of (fldP_r rfl rfl rfl rfl) ?_ | refine asF_of (fldP_d rfl rfl rfl) ?_ | refine asC_mk rfl ?_ | refine ws_set ?_ | refine kq_nx ?_ | refine kq_rt ?_ | refine ws_ret ?_ | refine ws_nil ?_ | refine ws_ex ?_ | refine ws_unp ?_ | refine ws_pass ?_ | refine ws_setD ?_ | refine ws_retN ?_ | refine ws_brk ?_ | refine ws_cnt ?_ | refine kq_bk ?_ | refine kq_ct ?_ | refine kq_ex ?_ | refine ws_rais rfl ?_ | fail))
local macro_rules | `(tactic| walk_at "g") => `(tactic| repeat (first | refine we_var rfl ?_ | refine we_con ?_ | refine wa_cons ?_ | refine wa_nil ?_ | refine asI_mk ?_ | refine asZ_mk ?_ | refine asD_mk ?_ | refine we_idx ?_ | refine asV_d ?_ | refine we_call ?_ | refine we_callK ?_ | refine we_bm ?_ | refine we_dnew ?_ | refine we_bin ?_ | refine asOp_int ?_ | refine we_cmp ?_ | refine asCmp_inK (by assumption) rfl ?_ | refine asCmp_notinK (by assumption) rfl ?_ | refine asCmp_inK rfl rfl ?_ | refine asCmp_notinK rfl rfl ?_ | refine asCmp_mk rfl ?_ | refine wt_cmp ?_ | refine we_blt ?_ | refine asO_mk ?_ | refine asB_mk ?_ | refine asG_mk (Nat.le_of_ble_eq_true rfl) ?_ | refine asG_mk (by decide) ?_ | refine asG_mk rfl ?_ | refine wt_val ?_ | refine wt_not ?_ | refine asW_d ?_ | refine we_glo rfl ?_ | refine we_tup ?_ | refine we_lstF ?_ | refine we_lstT ?_ | refine we_isi ?_ | refine wt_isi ?_ | refine we_not ?_ | refine we_neg ?_ | refine asNeg_int ?_ | refine we_fmt ?_ | refine we_jn1 ?_ | refine we_jn ?_ | refine wj_cons ?_ | refine wj_nil ?_ | refine asSt_mk ?_ | refine asZ_mod (by decide) ?_ | refine asZ_mul (by omega) (by omega) (by decide) ?_ | refine asZ_mulS (by omega) (by omega) (by omega) (by omega) ?_ | refine asZ_div (by decide +kernel) ?_ | refine asZ_pow (by decide +kernel) ?_ | refine asR_mk ?_ | refine as1_mk ?_ | refine asT_mk ?_ | refine asS_l ?_ | refine asS_t ?_ | refine asS_k ?_ | refine asS_s ?_ | refine wi_seq ?_ | refine wi_rng1 ?_ | refine wi_rng2 ?_ | refine wi_enum ?_ | refine we_app ?_ | refine we_sl ?_ | refine wo_none ?_ | refine wo_some ?_ | refine we_rv ?_ | refine we_dicF ?_ | refine we_fld ?_ | refine asOp_tup (Nat.le_of_ble_eq_true rfl) ?_ | refine asOp_str (by decide +kernel) ?_ | refine asOp_lst (Nat.le_of_ble_eq_true rfl) ?_ | (apply asV_r; assumption) | (apply asW_r; assumption) | (apply asC_mk; assumption) | (apply asV_rd; assumption) | (apply asW_rd; assumption) | (apply asK_mk; assumption) | refine asF_of (fldP_r (by assumption) rfl rfl rfl) ?_ | refine asV_rd rfl ?_ | refine asW_rd rfl ?_ | refine asV_r rfl ?_ | refine asW_r rfl ?_ | refine asK_mk rfl ?_ | refine asF_of (fldP_r rfl rfl rfl rfl) ?_ | refine asF_of (fldP_d rfl rfl rfl) ?_ | refine asC_mk rfl ?_ | refine ws_set ?_ | refine kq_nx ?_ | refine kq_rt ?_ | refine ws_ret ?_ | refine ws_nil ?_ | refine ws_ex ?_ | refine ws_unp ?_ | refine ws_pass ?_ | refine ws_setD ?_ | refine ws_retN ?_ | refine ws_brk ?_ | refine ws_cnt ?_ | refine kq_bk ?_ | refine kq_ct ?_ | refine kq_ex ?_ | refine ws_rais rfl ?_ | refine ws_ite ?_ | refine wt_bop ?_ | refine wt_bop1 ?_ | refine wt_chain ?_ | refine we_bop ?_ | refine we_bop1 ?_ | refine we_ife ?_ | refine we_chain ?_ | refine ws_par ?_ | refine ⟨fun _ => ?_, fun h => absurd (show (false : Bool) = true from h) Bool.false_ne_true⟩ | refine ⟨fun _ => ?_, fun h => absurd (show (true : Bool) = false from h).symm Bool.false_ne_true⟩ | refine ⟨fun h => absurd (show (true : Bool) = false from h).symm Bool.false_ne_true, fun _ => ?_⟩ | refine ⟨fun h => absurd (show (false : Bool) = true from h) Bool.false_ne_true, fun _ => ?_⟩ | refine ⟨fun _ => ?_, fun h => absurd (of_decide_eq_true h) (by omega)⟩ | refine ⟨fun h => absurd (of_decide_eq_true h) (by omega), fun _ => ?_⟩ | refine ⟨fun _ => ?_, fun h => absurd (by omega) (of_decide_eq_false h)⟩ | refine ⟨fun h => absurd (by omega) (of_decide_eq_false h), fun _ => ?_⟩ | refine ⟨fun _ => ?_, fun h => absurd h (by decide +kernel)⟩ | refine ⟨fun h => absurd h (by decide +kernel), fun _ => ?_⟩ | fail))
local macro_rules | `(tactic| walk_at "h") => `(tactic| repeat (first | refine we_var rfl ?_ | refine we_con ?_ | refine wa_cons ?_ | refine wa_nil ?_ | refine asI_mk ?_ | refine asZ_mk ?_ | refine asD_mk ?_ | refine we_idx ?_ | refine asV_d ?_ | refine we_call ?_ | refine we_callK ?_ | refine we_bm ?_ | refine we_dnew ?_ | refine we_bin ?_ | refine asOp_int ?_ | refine we_cmp ?_ | refine asCmp_inK (by assumption) rfl ?_ | refine asCmp_notinK (by assumption) rfl ?_ | refine asCmp_inK rfl rfl ?_ | refine asCmp_notinK rfl rfl ?_ | refine asCmp_mk rfl ?_ | refine wt_cmp ?_ | refine we_blt ?_ | refine asO_mk ?_ | refine asB_mk ?_ | refine asG_mk (Nat.le_of_ble_eq_true rfl) ?_ | refine asG_mk (by decide) ?_ | refine asG_mk rfl ?_ | refine wt_val ?_ | refine wt_not ?_ | refine asW_d ?_ | refine we_glo rfl ?_ | refine we_tup ?_ | refine we_lstF ?_ | refine we_lstT ?_ | refine we_isi ?_ | refine wt_isi ?_ | refine we_not ?_ | refine we_neg ?_ | refine asNeg_int ?_ | refine we_fmt ?_ | refine we_jn1 ?_ | refine we_jn ?_ | refine wj_cons ?_ | refine wj_nil ?_ | refine asSt_mk ?_ | refine asZ_mod (by decide) ?_ | refine asZ_mul (by omega) (by omega) (by decide) ?_ | refine asZ_mulS (by omega) (by omega) (by omega) (by omega) ?_ | refine asZ_div (by decide +kernel) ?_ | refine asZ_pow (by decide +kernel) ?_ | refine asR_mk ?_ | refine as1_mk ?_ | refine asT_mk ?_ | refine asS_l ?_ | refine asS_t ?_ | refine asS_k ?_ | refine asS_s ?_ | refine wi_seq ?_ | refine wi_rng1 ?_ | refine wi_rng2 ?_ | refine wi_enum ?_ | refine we_app ?_ | refine we_sl ?_ | refine wo_none ?_ | refine wo_some ?_ | refine we_rv ?_ | refine we_dicF ?_ | refine we_fld ?_ | refine asOp_tup (Nat.le_of_ble_eq_true rfl) ?_ | refine asOp_str (by decide +kernel) ?_ | refine asOp_lst (Nat.le_of_ble_eq_true rfl) ?_ | (apply asV_r; assumption) | (apply asW_r; assumption) | (apply asC_mk; assumption) | (apply asV_rd; assumption) | (apply asW_rd; assumption) | (apply asK_mk; assumption) | refine asF_of (fldP_r (by assumption) rfl rfl rfl) ?_ | refine asV_rd rfl ?_ | refine asW_rd rfl ?_ | refine asV_r rfl ?_ | refine asW_r rfl ?_ | refine asK_mk rfl ?_ | refine asF_of (fldP_r rfl rfl rfl rfl) ?_ | refine asF_of (fldP_d rfl rfl rfl) ?_ | refine asC_mk rfl ?_ | refine ws_set ?_ | refine kq_nx ?_ | refine kq_rt ?_ | refine ws_ret ?_ | refine ws_nil ?_ | refine ws_unp ?_ | refine ws_pass ?_ | refine ws_setD ?_ | refine ws_retN ?_ | refine ws_brk ?_ | refine ws_cnt ?_ | refine kq_bk ?_ | refine kq_ct ?_ | refine kq_ex ?_ | refine ws_rais rfl ?_ | refine ws_ite ?_ | refine wt_bop ?_ | refine wt_bop1 ?_ | refine wt_chain ?_ | refine we_bop ?_ | refine we_bop1 ?_ | refine we_ife ?_ | refine we_chain ?_ | refine ws_par ?_ | refine ⟨fun _ => ?_, fun h => absurd (show (false : Bool) = true from h) Bool.false_ne_true⟩ | refine ⟨fun _ => ?_, fun h => absurd (show (true : Bool) = false from h).symm Bool.false_ne_true⟩ | refine ⟨fun h => absurd (show (true : Bool) = false from h).symm Bool.false_ne_true, fun _ => ?_⟩ | refine ⟨fun h => absurd (show (false : Bool) = true from h) Bool.false_ne_true, fun _ => ?_⟩ | refine ⟨fun _ => ?_, fun h => absurd (of_decide_eq_true h) (by omega)⟩ | refine ⟨fun h => absurd (of_decide_eq_true h) (by omega), fun _ => ?_⟩ | refine ⟨fun _ => ?_, fun h => absurd (by omega) (of_decide_eq_false h)⟩ | refine ⟨fun h => absurd (by omega) (of_decide_eq_false h), fun _ => ?_⟩ | refine ⟨fun _ => ?_, fun h => absurd h (by decide +kernel)⟩ | refine ⟨fun h => absurd h (by decide +kernel), fun _ => ?_⟩ | fail))
section
variable {n : Nat} {μ : Mu} {k : Nat} {cs : List Int} {N : Int} {K : X → Mu → Prop}
theorem mem3 {d : D} (hd : d ∈ ([.int 5, .int 100, .int (10 ^ 14)] : List D)) : ∃ m : Int, d = .int m ∧ (m = 5 ∨ m = 100 ∨ m = 10 ^ 14) := by
  simp only [List.mem_cons, List.not_mem_nil, or_false] at hd
  rcases hd with rfl | rfl | rfl
  · exact ⟨_, rfl, .inl rfl⟩
  · exact ⟨_, rfl, .inr (.inl rfl)⟩
  · exact ⟨_, rfl, .inr (.inr rfl)⟩
theorem big_of {w f : Int} (h0 : -(2 * 10 ^ 14 + 1) ≤ w) (h1 : w ≤ 2 * 10 ^ 14 + 1) (f0 : 1 ≤ f) (f1 : f ≤ 1 + 10 ^ 14) : -(3 * 10 ^ 28) ≤ w * f ∧ w * f ≤ 3 * 10 ^ 28 := by
  have e : (w * f).natAbs ≤ (2 * 10 ^ 14 + 1) * (1 + 10 ^ 14) := by
    rw [Int.natAbs_mul]
    exact Nat.mul_le_mul (by omega) (by omega)
  omega
def Ss.dropS : Nat → Ss → Ss
  | 0, s => s
  | n + 1, .cons _ r => Ss.dropS n r
  | _, .nil => .nil
theorem half_wc (h : St μ k cs N) (hN : N < 2 ^ 46) (hK : ∀ a b nd, Frac a b → St (μ.set k (some nd)) k cs (N + 40) → K (.d (.tup [.int a, .int b])) (μ.set k (some nd))) : WC1 (C (n + 7)) j_lhalf [.r k] μ K := by
  refine wc_of t_lhalf rfl ?_
  have p30 := pow30
  have tail : ∀ (i f : Int) (x1 x2 : Option X) (nd : Node), -(3 * 10 ^ 28 + 10) ≤ i → i ≤ 3 * 10 ^ 28 + 10 → 1 ≤ f → f ≤ 1 + 10 ^ 14 → St (μ.set k (some nd)) k cs (N + 30) → WS (parOf L.tab WW (n + 6)) (Ss.dropS 7 b_lhalf) [some (.r k), x1, x2, some (.d (.int f)), some (.d (.int i))] (μ.set k (some nd)) (Fq μ K) := by
    intro i f x1 x2 nd i0 i1 f0 f1 s
    show WS _ (.cons _ _) _ _ _
    walk_at "g"
    refine take_wc (n := n + 5) t_ltake (Nat.le_refl _) s (by omega) (by decide) fun w nd5 w1 w2 s5 => ?_
    rw [List.set_set] at s5 ⊢
    walk_at "g"
    refine ⟨fun _ => ?_, fun _ => ?_⟩
    · walk_at "g"
      exact fq_d (by simp) (hK _ _ _ ⟨by omega, by omega, by omega, by omega, by omega⟩ (s5.more (by omega)))
    · walk_at "g"
      exact fq_d (by simp) (hK _ _ _ ⟨by omega, by omega, by omega, by omega, by omega⟩ (s5.more (by omega)))
  show WS _ b_lhalf [some (.r k), none, none, none, none] μ _
  unfold b_lhalf
  walk_at "g"
  refine take_wc (n := n + 5) t_ltake (Nat.le_refl _) h (by omega) (by decide) fun w nd1 w1 w2 s1 => ?_
  walk_at "g"
  refine ⟨fun hc => ?_, fun hc => ?_⟩
  · walk_at "g"
    refine ratio_wc (n := n) s1 (by omega) fun x y nd2 hxy s2 => ?_
    rw [List.set_set] at s2 ⊢
    walk_at "g"
    exact fq_d (by simp) (hK _ _ _ hxy (s2.more (by omega)))
  have hc := of_decide_eq_false hc
  walk_at "g"
  refine pick_wc (n := n + 4) t_ltake t_lpick (Nat.le_refl _) s1 (by omega) (by decide) (by decide) fun d nd2 hd s2 => ?_
  obtain ⟨m, rfl, hm⟩ := mem3 hd
  rw [List.set_set] at s2 ⊢
  walk_at "g"
  refine signed_wc (n := n + 2) s2 (by omega) (by omega) (by omega) fun u nd3 u1 u2 s3 => ?_
  rw [List.set_set] at s3 ⊢
  walk_at "g"
  refine pick_wc (n := n + 4) t_ltake t_lpick (Nat.le_refl _) s3 (by omega) (by decide) (by decide) fun d' nd4 hd' s4 => ?_
  obtain ⟨m', rfl, hm'⟩ := mem3 hd'
  rw [List.set_set] at s4 ⊢
  walk_at "g"
  refine edge_wc (n := n + 3) t_ltake t_lbetween t_ledge (Nat.le_refl _) s4 (by omega) (by omega) (by omega) fun f nd5 f1 f2 s5 => ?_
  rw [List.set_set] at s5 ⊢
  walk_at "g"
  have b1 := big_of (w := 2 * u + 1) (f := 1 + f) (by omega) (by omega) (by omega) (by omega)
  have b2 := big_of (w := 2 * u) (f := 1 + f) (by omega) (by omega) (by omega) (by omega)
  refine ⟨fun hc2 => ?_, fun hc2 => ?_⟩
  · have hc2 := of_decide_eq_true hc2
    walk_at "s"
    refine ws_ite ?_
    walk_at "s"
    refine ⟨fun hx => absurd (of_decide_eq_true hx) (by omega), fun _ => ?_⟩
    walk_at "s"
    exact tail _ _ _ _ _ (by omega) (by omega) (by omega) (by omega) (s5.more (by omega))
  · have hc2 := of_decide_eq_false hc2
    walk_at "g"
    refine ⟨fun hc3 => ?_, fun hc3 => ?_⟩
    · walk_at "g"
      refine take_wc (n := n + 5) t_ltake (Nat.le_refl _) s5 (by omega) (by decide) fun z nd6 z1 z2 s6 => ?_
      rw [List.set_set] at s6 ⊢
      walk_at "s"
      exact tail _ _ _ _ _ (by omega) (by omega) (by omega) (by omega) (s6.more (by omega))
    · walk_at "s"
      exact tail _ _ _ _ _ (by omega) (by omega) (by omega) (by omega) (s5.more (by omega))
/-! ### rounded -/
theorem down_wc {p q : Int} (hq : 0 < q) (sq : Sz 440 q) (h : K (.d (.int (p / q))) μ) : WC1 (C (n + 1)) j_Exact_rounded [.d (exD p q), .d (.str "down")] μ K := by
  refine wc_of t_Exact_rounded rfl ?_
  show WS _ b_Exact_rounded [some (.d (exD p q)), some (.d (.str "down"))] μ _
  unfold b_Exact_rounded
  walk_at "g"
  refine asZ_of (bin_div (divOk_of (b := 440) hq sq (by decide))) ?_
  walk_at "g"
  exact fq_d rfl h
theorem up_wc {p q : Int} (hq : 0 < q) (sq : Sz 440 q) (h : K (.d (.int (-(-p / q)))) μ) : WC1 (C (n + 1)) j_Exact_rounded [.d (exD p q), .d (.str "up")] μ K := by
  refine wc_of t_Exact_rounded rfl ?_
  show WS _ b_Exact_rounded [some (.d (exD p q)), some (.d (.str "up"))] μ _
  unfold b_Exact_rounded
  walk_at "g"
  refine asZ_of (bin_div (divOk_of (b := 440) hq sq (by decide))) ?_
  walk_at "g"
  exact fq_d rfl h
theorem near_wc {p q : Int} (hq : 0 < q) (sp : Sz 440 p) (sq : Sz 440 q) (h : K (.d (.int ((2 * p + q) / (2 * q)))) μ) : WC1 (C (n + 1)) j_Exact_rounded [.d (exD p q), .d (.str "near")] μ K := by
  refine wc_of t_Exact_rounded rfl ?_
  show WS _ b_Exact_rounded [some (.d (exD p q)), some (.d (.str "near"))] μ _
  unfold b_Exact_rounded
  have s2 : Sz 2 2 := show (2 : Int).natAbs < 2 ^ 2 by decide
  walk_at "g"
  refine asZ_of (s2.ok sp (by decide)) ?_
  walk_at "g"
  refine asZ_of (s2.ok sq (by decide)) ?_
  walk_at "g"
  refine asZ_of (bin_div (divOk_of (b := 442) (by omega) (s2.mul sq) (by decide))) ?_
  walk_at "g"
  exact fq_d rfl h
theorem answers_wc {p q : Int} (hq : 0 < q) (sp : Sz 440 p) (sq : Sz 440 q) (h : K (.d (.lst [.int (p / q), .int (-(-p / q)), .int ((2 * p + q) / (2 * q)), .int (p / q)])) μ) : WC1 (C (n + 2)) j_lanswers [.d (exD p q)] μ K := by
  refine wc_of t_lanswers rfl ?_
  show WS _ b_lanswers [some (.d (exD p q))] μ _
  unfold b_lanswers
  walk_at "g"
  refine we_meth ?_
  walk_at "g"
  refine ⟨c_Exact, j_Exact_rounded, rfl, rfl, rfl, ?_⟩
  walk_at "g"
  refine down_wc (n := n) hq sq ?_
  walk_at "g"
  refine we_meth ?_
  walk_at "g"
  refine ⟨c_Exact, j_Exact_rounded, rfl, rfl, rfl, ?_⟩
  walk_at "g"
  refine up_wc (n := n) hq sq ?_
  walk_at "g"
  refine we_meth ?_
  walk_at "g"
  refine ⟨c_Exact, j_Exact_rounded, rfl, rfl, rfl, ?_⟩
  walk_at "g"
  refine near_wc (n := n) hq sp sq ?_
  walk_at "g"
  refine we_meth ?_
  walk_at "g"
  refine ⟨c_Exact, j_Exact_rounded, rfl, rfl, rfl, ?_⟩
  walk_at "g"
  refine down_wc (n := n) hq sq ?_
  walk_at "g"
  exact fq_d rfl h
/-- what stands to the number stands to the other writing of it -/
theorem le_tr {x y t b c d : Int} (hy : 0 < y) (hb : 0 < b) (hc : x * b = t * y) (h : c * y ≤ d * x) : c * b ≤ d * t := by
  have e : (c * b) * y ≤ (d * t) * y := by
    calc (c * b) * y = (c * y) * b := by grind
      _ ≤ (d * x) * b := Int.mul_le_mul_of_nonneg_right h (by omega)
      _ = (d * t) * y := by grind
  exact Int.le_of_mul_le_mul_right e hy
theorem lt_tr {x y t b c d : Int} (hy : 0 < y) (hb : 0 < b) (hc : x * b = t * y) (h : d * x < c * y) : d * t < c * b := by
  have e : (d * t) * y < (c * b) * y := by
    calc (d * t) * y = (d * x) * b := by grind
      _ < (c * y) * b := Int.mul_lt_mul_of_pos_right h hb
      _ = (c * b) * y := by grind
  exact Int.lt_of_mul_lt_mul_right e (by omega)
theorem le_tr' {x y t b c d : Int} (hy : 0 < y) (hb : 0 < b) (hc : x * b = t * y) (h : d * x ≤ c * y) : d * t ≤ c * b := by
  have e : (d * t) * y ≤ (c * b) * y := by
    calc (d * t) * y = (d * x) * b := by grind
      _ ≤ (c * y) * b := Int.mul_le_mul_of_nonneg_right h (by omega)
      _ = (c * b) * y := by grind
  exact Int.le_of_mul_le_mul_right e hy
theorem lt_tr' {x y t b c d : Int} (hy : 0 < y) (hb : 0 < b) (hc : x * b = t * y) (h : c * y < d * x) : c * b < d * t := by
  have e : (c * b) * y < (d * t) * y := by
    calc (c * b) * y = (c * y) * b := by grind
      _ < (d * x) * b := Int.mul_lt_mul_of_pos_right h hb
      _ = (d * t) * y := by grind
  exact Int.lt_of_mul_lt_mul_right e (by omega)
theorem Sz.div {a : Nat} {p q : Int} (h : Sz a p) : Sz a (p / q) := Nat.lt_of_le_of_lt (Int.natAbs_ediv_le_natAbs p q) h
theorem Sz.neg {a : Nat} {p : Int} (h : Sz a p) : Sz a (-p) := by unfold Sz at *; rw [Int.natAbs_neg]; exact h
theorem roundsP_wc {x y t b : Int} (hy : 0 < y) (hb : 0 < b) (hc : x * b = t * y) (sx : Sz 440 x) (sy : Sz 440 y) (st : Sz 440 t) (sb : Sz 440 b) (h : K (.d (.bl true)) μ) : WC1 (C (n + 3)) j_lrounds [.d (exD x y), .d (.int t), .d (.int b)] μ K := by
  have s2 : Sz 2 2 := show (2 : Int).natAbs < 2 ^ 2 by decide
  have s1 : Sz 2 1 := show (1 : Int).natAbs < 2 ^ 2 by decide
  have z0 : Sz 445 (x / y) := (Sz.div sx).mono (by decide)
  have z1 : Sz 445 (-(-x / y)) := (Sz.neg (Sz.div (Sz.neg sx))).mono (by decide)
  have z2 : Sz 445 ((2 * x + y) / (2 * y)) := (Sz.div ((s2.mul sx).add (sy.mono (by decide)))).mono (by decide)
  have a0 := lt_tr (c := x / y + 1) (d := 1) hy hb hc (by have := Int.lt_ediv_add_one_mul_self x hy; omega)
  have a1 := le_tr (c := x / y) (d := 1) hy hb hc (by have := Int.ediv_mul_le x (b := y) (by omega); omega)
  have b0 := le_tr' (c := -(-x / y)) (d := 1) hy hb hc (by have := Int.ediv_mul_le (-x) (b := y) (by omega); have e : -(-x / y) * y = -((-x / y) * y) := by grind
                                                           omega)
  have b1 := lt_tr' (c := -(-x / y) - 1) (d := 1) hy hb hc (by have := Int.lt_ediv_add_one_mul_self (-x) hy; have e : (-(-x / y) - 1) * y = -((-x / y + 1) * y) := by grind
                                                               omega)
  have c0 := le_tr (c := 2 * ((2 * x + y) / (2 * y)) - 1) (d := 2) hy hb hc (by have := Int.ediv_mul_le (2 * x + y) (b := 2 * y) (by omega); have e : (2 * ((2 * x + y) / (2 * y)) - 1) * y = (2 * x + y) / (2 * y) * (2 * y) - y := by grind
                                                                                omega)
  have c1 := lt_tr (c := 2 * ((2 * x + y) / (2 * y)) + 1) (d := 2) hy hb hc (by have := Int.lt_ediv_add_one_mul_self (2 * x + y) (b := 2 * y) (by omega); have e : (2 * ((2 * x + y) / (2 * y)) + 1) * y = ((2 * x + y) / (2 * y) + 1) * (2 * y) - y := by grind
                                                                                omega)
  refine wc_of t_lrounds rfl ?_
  show WS _ b_lrounds [some (.d (exD x y)), some (.d (.int t)), some (.d (.int b)), none] μ _
  unfold b_lrounds
  walk_at "g"
  refine answers_wc (n := n) hy sx sy ?_
  generalize x / y = r0 at *
  generalize -(-x / y) = r1 at *
  generalize (2 * x + y) / (2 * y) = r2 at *
  walk_at "g"
  refine areInts_wc (n := n) (ns := [r0, r1, r2, r0]) t_lis_int t_lare_ints ?_
  walk_at "g"
  refine ⟨fun hc => absurd (show (!decide (r0 = r0)) = true from hc) (by simp), fun _ => ?_⟩
  walk_at "g"
  refine asZ_of (z0.ok sb (by decide)) ?_
  walk_at "g"
  refine asZ_of ((z0.add (s1.mono (by decide))).ok sb (by decide)) ?_
  walk_at "g"
  refine asZ_of (z1.ok sb (by decide)) ?_
  walk_at "g"
  refine asZ_of ((z1.sub (s1.mono (by decide))).ok sb (by decide)) ?_
  walk_at "g"
  refine asZ_of (s2.ok z2 (by decide)) ?_
  walk_at "g"
  refine asZ_of (((s2.mul z2).sub (s1.mono (by decide))).ok sb (by decide)) ?_
  walk_at "g"
  refine asZ_of (s2.ok st (by decide)) ?_
  walk_at "g"
  refine asZ_of (s2.ok st (by decide)) ?_
  walk_at "g"
  refine asZ_of (s2.ok z2 (by decide)) ?_
  walk_at "g"
  refine asZ_of (((s2.mul z2).add (s1.mono (by decide))).ok sb (by decide)) ?_
  walk_at "g"
  have e : decide (2 * t < (2 * r2 + 1) * b) = true := decide_eq_true c1
  refine fq_d rfl ?_
  rw [e]
  exact h
end
end K02

namespace K02
open PySem L2 DL
/- one step; what has one way only; a step with the choices -/
local macro_rules | `(tactic| walk_at "1s") => `(tactic| first | refine we_var rfl ?_ | refine we_con ?_ | refine wa_cons ?_ | refine wa_nil ?_ | refine asI_mk ?_ | refine asZ_mk ?_ | refine asD_mk ?_ | refine we_idx ?_ | refine asV_d ?_ | refine we_call ?_ | refine we_callK ?_ | refine we_bm ?_ | refine we_dnew ?_ | refine we_bin ?_ | refine asOp_int ?_ | refine we_cmp ?_ | refine asCmp_inK (by assumption) rfl ?_ | refine asCmp_notinK (by assumption) rfl ?_ | refine asCmp_inK rfl rfl ?_ | refine asCmp_notinK rfl rfl ?_ | refine asCmp_mk rfl ?_ | refine wt_cmp ?_ | refine we_blt ?_ | refine asO_mk ?_ | refine asB_mk ?_ | refine asG_mk (Nat.le_of_ble_eq_true rfl) ?_ | refine asG_mk (by decide) ?_ | refine asG_mk rfl ?_ | refine wt_val ?_ | refine wt_not ?_ | refine asW_d ?_ | refine we_glo rfl ?_ | refine we_tup ?_ | refine we_lstF ?_ | refine we_lstT ?_ | refine we_isi ?_ | refine wt_isi ?_ | refine we_not ?_ | refine we_neg ?_ | refine asNeg_int ?_ | refine we_fmt ?_ | refine we_jn1 ?_ | refine we_jn ?_ | refine wj_cons ?_ | refine wj_nil ?_ | refine asSt_mk ?_ | refine asZ_mod (by decide) ?_ | refine asZ_mul (by omega) (by omega) (by decide) ?_ | refine asZ_mulS (by omega) (by omega) (by omega) (by omega) ?_ | refine asZ_div (by decide +kernel) ?_ | refine asZ_pow (by decide +kernel) ?_ | refine asR_mk ?_ | refine as1_mk ?_ | refine asT_mk ?_ | refine asS_l ?_ | refine asS_t ?_ | refine asS_k ?_ | refine asS_s ?_ | refine wi_seq ?_ | refine wi_rng1 ?_ | refine wi_rng2 ?_ | refine wi_enum ?_ | refine we_app ?_ | refine we_sl ?_ | refine wo_none ?_ | refine wo_some ?_ | refine we_rv ?_ | refine we_dicF ?_ | refine we_fld ?_ | refine asOp_tup (Nat.le_of_ble_eq_true rfl) ?_ | refine asOp_str (by decide +kernel) ?_ | refine asOp_lst (Nat.le_of_ble_eq_true rfl) ?_ | (apply asV_r; assumption) | (apply asW_r; assumption) | (apply asC_mk; assumption) | (apply asV_rd; assumption) | (apply asW_rd; assumption) | (apply asK_mk; assumption) | refine asF_of (fldP_r (by assumption) rfl rfl rfl) ?_ | refine asV_rd rfl ?_ | refine asW_rd rfl ?_ | refine asV_r rfl ?_ | refine asW_r rfl ?_ | refine asK_mk rfl ?_ | refine asF_of (fldP_r rfl rfl rfl rfl) ?_ | refine asF_of (fldP_d rfl rfl rfl) ?_ | refine asC_mk rfl ?_ | refine ws_set ?_ | refine kq_nx ?_ | refine kq_rt ?_ | refine ws_ret ?_ | refine ws_nil ?_ | refine ws_ex ?_ | refine ws_unp ?_ | refine ws_pass ?_ | refine ws_setD ?_ | refine ws_retN ?_ | refine ws_brk ?_ | refine ws_cnt ?_ | refine kq_bk ?_ | refine kq_ct ?_ | refine kq_ex ?_ | refine ws_rais rfl ?_ | fail)
local macro_rules | `(tactic| walk_at "1c") => `(tactic| first | refine ws_ite ?_ | refine wt_bop ?_ | refine wt_bop1 ?_ | refine wt_chain ?_ | refine we_bop ?_ | refine we_bop1 ?_ | refine we_ife ?_ | refine we_chain ?_ | refine ws_par ?_ | refine ⟨fun _ => ?_, fun h => absurd (show (false : Bool) = true from h) Bool.false_ne_true⟩ | refine ⟨fun _ => ?_, fun h => absurd (show (true : Bool) = false from h).symm Bool.false_ne_true⟩ | refine ⟨fun h => absurd (show (true : Bool) = false from h).symm Bool.false_ne_true, fun _ => ?_⟩ | refine ⟨fun h => absurd (show (false : Bool) = true from h) Bool.false_ne_true, fun _ => ?_⟩ | fail)
local macro_rules | `(tactic| walk_at "x") => `(tactic| repeat (first | refine we_var rfl ?_ | refine we_con ?_ | refine wa_cons ?_ | refine wa_nil ?_ | refine asI_mk ?_ | refine asZ_mk ?_ | refine asD_mk ?_ | refine we_idx ?_ | refine asV_d ?_ | refine we_call ?_ | refine we_callK ?_ | refine we_bm ?_ | refine we_dnew ?_ | refine we_bin ?_ | refine asOp_int ?_ | refine we_cmp ?_ | refine asCmp_inK (by assumption) rfl ?_ | refine asCmp_notinK (by assumption) rfl ?_ | refine asCmp_inK rfl rfl ?_ | refine asCmp_notinK rfl rfl ?_ | refine asCmp_mk rfl ?_ | refine wt_cmp ?_ | refine we_blt ?_ | refine asO_mk ?_ | refine asB_mk ?_ | refine asG_mk (Nat.le_of_ble_eq_true rfl) ?_ | refine asG_mk (by decide) ?_ | refine asG_mk rfl ?_ | refine wt_val ?_ | refine wt_not ?_ | refine asW_d ?_ | refine we_glo rfl ?_ | refine we_tup ?_ | refine we_lstF ?_ | refine we_lstT ?_ | refine we_isi ?_ | refine wt_isi ?_ | refine we_not ?_ | refine we_neg ?_ | refine asNeg_int ?_ | refine we_fmt ?_ | refine we_jn1 ?_ | refine we_jn ?_ | refine wj_cons ?_ | refine wj_nil ?_ | refine asSt_mk ?_ | refine asZ_mod (by decide) ?_ | refine asZ_mul (by omega) (by omega) (by decide) ?_ | refine asZ_mulS (by omega) (by omega) (by omega) (by omega) ?_ | refine asZ_div (by decide +kernel) ?_ | refine asZ_pow (by decide +kernel) ?_ | refine asR_mk ?_ | refine as1_mk ?_ | refine asT_mk ?_ | refine asS_l ?_ | refine asS_t ?_ | refine asS_k ?_ | refine asS_s ?_ | refine wi_seq ?_ | refine wi_rng1 ?_ | refine wi_rng2 ?_ | refine wi_enum ?_ | refine we_app ?_ | refine we_sl ?_ | refine wo_none ?_ | refine wo_some ?_ | refine we_rv ?_ | refine we_dicF ?_ | refine we_fld ?_ | refine asOp_tup (Nat.le_of_ble_eq_true rfl) ?_ | refine asOp_str (by decide +kernel) ?_ | refine asOp_lst (Nat.le_of_ble_eq_true rfl) ?_ | (apply asV_r; assumption) | (apply asW_r; assumption) | (apply asC_mk; assumption) | (apply asV_rd; assumption) | (apply asW_rd; assumption) | (apply asK_mk; assumption) | refine asF_of (fldP_r (by assumption) rfl rfl rfl) ?_ | refine asV_rd rfl ?_ | refine asW_rd rfl ?_ | refine asV_r rfl ?_ | refine asW_r rfl ?_ | refine asK_mk rfl ?_ | refine asF_of (fldP_r rfl rfl rfl rfl) ?_ | refine asF_of (fldP_d rfl rfl rfl) ?_ | refine asC_mk rfl ?_ | fail))
local macro_rules | `(tactic| walk_at "s") => `(tactic| repeat (first | refine we_var rfl ?_ | refine we_con ?_ | refine wa_cons ?_ | refine wa_nil ?_ | refine asI_mk ?_ | refine asZ_mk ?_ | refine asD_mk ?_ | refine we_idx ?_ | refine asV_d ?_ | refine we_call ?_ | refine we_callK ?_ | refine we_bm ?_ | refine we_dnew ?_ | refine we_bin ?_ | refine asOp_int ?_ | refine we_cmp ?_ | refine asCmp_inK (by assumption) rfl ?_ | refine asCmp_notinK (by assumption) rfl ?_ | refine asCmp_inK rfl rfl ?_ | refine asCmp_notinK rfl rfl ?_ | refine asCmp_mk rfl ?_ | refine wt_cmp ?_ | refine we_blt ?_ | refine asO_mk ?_ | refine asB_mk ?_ | refine asG_mk (Nat.le_of_ble_eq_true rfl) ?_ | refine asG_mk (by decide) ?_ | refine asG_mk rfl ?_ | refine wt_val ?_ | refine wt_not ?_ | refine asW_d ?_ | refine we_glo rfl ?_ | refine we_tup ?_ | refine we_lstF ?_ | refine we_lstT ?_ | refine we_isi ?_ | refine wt_isi ?_ | refine we_not ?_ | refine we_neg ?_ | refine asNeg_int ?_ | refine we_fmt ?_ | refine we_jn1 ?_ | refine we_jn ?_ | refine wj_cons ?_ | refine wj_nil ?_ | refine asSt_mk ?_ | refine asZ_mod (by decide) ?_ | refine asZ_mul (by omega) (by omega) (by decide) ?_ | refine asZ_mulS (by omega) (by omega) (by omega) (by omega) ?_ | refine asZ_div (by decide +kernel) ?_ | refine asZ_pow (by decide +kernel) ?_ | refine asR_mk ?_ | refine as1_mk ?_ | refine asT_mk ?_ | refine asS_l ?_ | refine asS_t ?_ | refine asS_k ?_ | refine asS_s ?_ | refine wi_seq ?_ | refine wi_rng1 ?_ | refine wi_rng2 ?_ | refine wi_enum ?_ | refine we_app ?_ | refine we_sl ?_ | refine wo_none ?_ | refine wo_some ?_ | refine we_rv ?_ | refine we_dicF ?_ | refine we_fld ?_ | refine asOp_tup (Nat.le_of_ble_eq_true rfl) ?_ | refine asOp_str (by decide +kernel) ?_ | refine asOp_lst (Nat.le_of_ble_eq_true rfl) ?_ | (apply asV_r; assumption) | (apply asW_r; assumption) | (apply asC_mk; assumption) | (apply asV_rd; assumption) | (apply asW_rd; assumption) | (apply asK_mk; assumption) | refine asF_of (fldP_r (by assumption) rfl rfl rfl) ?_ | refine asV_rd rfl ?_ | refine asW_rd rfl ?_ | refine asV_r rfl ?_ | refine asW_r rfl ?_ | refine asK_mk rfl ?_ | refine asF_of (fldP_r rfl rfl rfl rfl) ?_ | refine asF_of (fldP_d rfl rfl rfl) ?_ | refine asC_mk rfl ?_ | refine ws_set ?_ | refine kq_nx ?_ | refine kq_rt ?_ | refine ws_ret ?_ | refine ws_nil ?_ | refine ws_ex ?_ | refine ws_unp ?_ | refine ws_pass ?_ | refine ws_setD ?_ | refine ws_retN ?_ | refine ws_brk ?_ | refine ws_cnt ?_ | refine kq_bk ?_ | refine kq_ct ?_ | refine kq_ex ?_ | refine ws_rais rfl ?_ | fail))
local macro_rules | `(tactic| walk_at "g") => `(tactic| repeat (first | refine we_var rfl ?_ | refine we_con ?_ | refine wa_cons ?_ | refine wa_nil ?_ | refine asI_mk ?_ | refine asZ_mk ?_ | refine asD_mk ?_ | refine we_idx ?_ | refine asV_d ?_ | refine we_call ?_ | refine we_callK ?_ | refine we_bm ?_ | refine we_dnew ?_ | refine we_bin ?_ | refine asOp_int ?_ | refine we_cmp ?_ | refine asCmp_inK (by assumption) rfl ?_ | refine asCmp_notinK (by assumption) rfl ?_ | refine asCmp_inK rfl rfl ?_ | refine asCmp_notinK rfl rfl ?_ | refine asCmp_mk rfl ?_ | refine wt_cmp ?_ | refine we_blt ?_ | refine asO_mk ?_ | refine asB_mk ?_ | refine asG_mk (Nat.le_of_ble_eq_true rfl) ?_ | refine asG_mk (by decide) ?_ | refine asG_mk rfl ?_ | refine wt_val ?_ | refine wt_not ?_ | refine asW_d ?_ | refine we_glo rfl ?_ | refine we_tup ?_ | refine we_lstF ?_ | refine we_lstT ?_ | refine we_isi ?_ | refine wt_isi ?_ | refine we_not ?_ | refine we_neg ?_ | refine asNeg_int ?_ | refine we_fmt ?_ | refine we_jn1 ?_ | refine we_jn ?_ | refine wj_cons ?_ | refine wj_nil ?_ | refine asSt_mk ?_ | refine asZ_mod (by decide) ?_ | refine asZ_mul (by omega) (by omega) (by decide) ?_ | refine asZ_mulS (by omega) (by omega) (by omega) (by omega) ?_ | refine asZ_div (by decide +kernel) ?_ | refine asZ_pow (by decide +kernel) ?_ | refine asR_mk ?_ | refine as1_mk ?_ | refine asT_mk ?_ | refine asS_l ?_ | refine asS_t ?_ | refine asS_k ?_ | refine asS_s ?_ | refine wi_seq ?_ | refine wi_rng1 ?_ | refine wi_rng2 ?_ | refine wi_enum ?_ | refine we_app ?_ | refine we_sl ?_ | refine wo_none ?_ | refine wo_some ?_ | refine we_rv ?_ | refine we_dicF ?_ | refine we_fld ?_ | refine asOp_tup (Nat.le_of_ble_eq_true rfl) ?_ | refine asOp_str (by decide +kernel) ?_ | refine asOp_lst (Nat.le_of_ble_eq_true rfl) ?_ | (apply asV_r; assumption) | (apply asW_r; assumption) | (apply asC_mk; assumption) | (apply asV_rd; assumption) | (apply asW_rd; assumption) | (apply asK_mk; assumption) | refine asF_of (fldP_r (by assumption) rfl rfl rfl) ?_ | refine asV_rd rfl ?_ | refine asW_rd rfl ?_ | refine asV_r rfl ?_ | refine asW_r rfl ?_ | refine asK_mk rfl ?_ | refine asF_of (fldP_r rfl rfl rfl rfl) ?_ | refine asF_of (fldP_d rfl rfl rfl) ?_ | refine asC_mk rfl ?_ | refine ws_set ?_ | refine kq_nx ?_ | refine kq_rt ?_ | refine ws_ret ?_ | refine ws_nil ?_ | refine ws_ex ?_ | refine ws_unp ?_ | refine ws_pass ?_ | refine ws_setD ?_ | refine ws_retN ?_ | refine ws_brk ?_ | refine ws_cnt ?_ | refine kq_bk ?_ | refine kq_ct ?_ | refine kq_ex ?_ | refine ws_rais rfl ?_ | refine ws_ite ?_ | refine wt_bop ?_ | refine wt_bop1 ?_ | refine wt_chain ?_ | refine we_bop ?_ | refine we_bop1 ?_ | refine we_ife ?_ | refine we_chain ?_ | refine ws_par ?_ | refine ⟨fun _ => ?_, fun h => absurd (show (false : Bool) = true from h) Bool.false_ne_true⟩ | refine ⟨fun _ => ?_, fun h => absurd (show (true : Bool) = false from h).symm Bool.false_ne_true⟩ | refine ⟨fun h => absurd (show (true : Bool) = false from h).symm Bool.false_ne_true, fun _ => ?_⟩ | refine ⟨fun h => absurd (show (false : Bool) = true from h) Bool.false_ne_true, fun _ => ?_⟩ | refine ⟨fun _ => ?_, fun h => absurd (of_decide_eq_true h) (by omega)⟩ | refine ⟨fun h => absurd (of_decide_eq_true h) (by omega), fun _ => ?_⟩ | refine ⟨fun _ => ?_, fun h => absurd (by omega) (of_decide_eq_false h)⟩ | refine ⟨fun h => absurd (by omega) (of_decide_eq_false h), fun _ => ?_⟩ | refine ⟨fun _ => ?_, fun h => absurd h (by decide +kernel)⟩ | refine ⟨fun h => absurd h (by decide +kernel), fun _ => ?_⟩ | fail))
local macro_rules | `(tactic| walk_at "h") => `(tactic| repeat (first | refine we_var rfl ?_ | refine we_con ?_ | refine wa_cons ?_ | refine wa_nil ?_ | refine asI_mk ?_ | refine asZ_mk ?_ | refine asD_mk ?_ | refine we_idx ?_ | refine asV_d ?_ | refine we_call ?_ | refine we_callK ?_ | refine we_bm ?_ | refine we_dnew ?_ | refine we_bin ?_ | refine asOp_int ?_ | refine we_cmp ?_ | refine asCmp_inK (by assumption) rfl ?_ | refine asCmp_notinK (by assumption) rfl ?_ | refine asCmp_inK rfl rfl ?_ | refine asCmp_notinK rfl rfl ?_ | refine asCmp_mk rfl ?_ | refine wt_cmp ?_ | refine we_blt ?_ | refine asO_mk ?_ | refine asB_mk ?_ | refine asG_mk (Nat.le_of_ble_eq_true rfl) ?_ | refine asG_mk (by decide) ?_ | refine asG_mk rfl ?_ | refine wt_val ?_ | refine wt_not ?_ | refine asW_d ?_ | refine we_glo rfl ?_ | refine we_tup ?_ | refine we_lstF ?_ | refine we_lstT ?_ | refine we_isi ?_ | refine wt_isi ?_ | refine we_not ?_ | refine we_neg ?_ | refine asNeg_int ?_ | refine we_fmt ?_ | refine we_jn1 ?_ | refine we_jn ?_ | refine wj_cons ?_ | refine wj_nil ?_ | refine asSt_mk ?_ | refine asZ_mod (by decide) ?_ | refine asZ_mul (by omega) (by omega) (by decide) ?_ | refine asZ_mulS (by omega) (by omega) (by omega) (by omega) ?_ | refine asZ_div (by decide +kernel) ?_ | refine asZ_pow (by decide +kernel) ?_ | refine asR_mk ?_ | refine as1_mk ?_ | refine asT_mk ?_ | refine asS_l ?_ | refine asS_t ?_ | refine asS_k ?_ | refine asS_s ?_ | refine wi_seq ?_ | refine wi_rng1 ?_ | refine wi_rng2 ?_ | refine wi_enum ?_ | refine we_app ?_ | refine we_sl ?_ | refine wo_none ?_ | refine wo_some ?_ | refine we_rv ?_ | refine we_dicF ?_ | refine we_fld ?_ | refine asOp_tup (Nat.le_of_ble_eq_true rfl) ?_ | refine asOp_str (by decide +kernel) ?_ | refine asOp_lst (Nat.le_of_ble_eq_true rfl) ?_ | (apply asV_r; assumption) | (apply asW_r; assumption) | (apply asC_mk; assumption) | (apply asV_rd; assumption) | (apply asW_rd; assumption) | (apply asK_mk; assumption) | refine asF_of (fldP_r (by assumption) rfl rfl rfl) ?_ | refine asV_rd rfl ?_ | refine asW_rd rfl ?_ | refine asV_r rfl ?_ | refine asW_r rfl ?_ | refine asK_mk rfl ?_ | refine asF_of (fldP_r rfl rfl rfl rfl) ?_ | refine asF_of (fldP_d rfl rfl rfl) ?_ | refine asC_mk rfl ?_ | refine ws_set ?_ | refine kq_nx ?_ | refine kq_rt ?_ | refine ws_ret ?_ | refine ws_nil ?_ | refine ws_unp ?_ | refine ws_pass ?_ | refine ws_setD ?_ | refine ws_retN ?_ | refine ws_brk ?_ | refine ws_cnt ?_ | refine kq_bk ?_ | refine kq_ct ?_ | refine kq_ex ?_ | refine ws_rais rfl ?_ | refine ws_ite ?_ | refine wt_bop ?_ | refine wt_bop1 ?_ | refine wt_chain ?_ | refine we_bop ?_ | refine we_bop1 ?_ | refine we_ife ?_ | refine we_chain ?_ | refine ws_par ?_ | refine ⟨fun _ => ?_, fun h => absurd (show (false : Bool) = true from h) Bool.false_ne_true⟩ | refine ⟨fun _ => ?_, fun h => absurd (show (true : Bool) = false from h).symm Bool.false_ne_true⟩ | refine ⟨fun h => absurd (show (true : Bool) = false from h).symm Bool.false_ne_true, fun _ => ?_⟩ | refine ⟨fun h => absurd (show (false : Bool) = true from h) Bool.false_ne_true, fun _ => ?_⟩ | refine ⟨fun _ => ?_, fun h => absurd (of_decide_eq_true h) (by omega)⟩ | refine ⟨fun h => absurd (of_decide_eq_true h) (by omega), fun _ => ?_⟩ | refine ⟨fun _ => ?_, fun h => absurd (by omega) (of_decide_eq_false h)⟩ | refine ⟨fun h => absurd (by omega) (of_decide_eq_false h), fun _ => ?_⟩ | refine ⟨fun _ => ?_, fun h => absurd h (by decide +kernel)⟩ | refine ⟨fun h => absurd h (by decide +kernel), fun _ => ?_⟩ | fail))
section
variable {n : Nat} {μ : Mu} {k : Nat} {cs : List Int} {N : Int} {K : X → Mu → Prop}
theorem rounds_wc {x y t b : Int} (hy : 0 < y) (hb : b ≠ 0) (hc : x * b = t * y) (sx : Sz 440 x) (sy : Sz 440 y) (st : Sz 440 t) (sb : Sz 440 b) (h : K (.d (.bl true)) μ) : WC1 (C (n + 4)) j_lrounds [.d (exD x y), .d (.int t), .d (.int b)] μ K := by
  by_cases hp : 0 < b
  · exact roundsP_wc (n := n + 1) hy hp hc sx sy st sb h
  · refine wc_of t_lrounds rfl ?_
    show WS _ b_lrounds [some (.d (exD x y)), some (.d (.int t)), some (.d (.int b)), none] μ _
    unfold b_lrounds
    walk_at "g"
    refine roundsP_wc (n := n) hy (by omega) (by grind) sx sy (by unfold Sz at *; omega) (by unfold Sz at *; omega) ?_
    walk_at "g"
    exact fq_d rfl h
abbrev rulesD : D := .tup [.str "down", .str "up", .str "near"]
def Bad (d : D) : Prop := ∀ μ, cmpD μ .notin (.d d) (.d rulesD) = some true
abbrev bads : List D := [.str "largest", .str "first", .str "last", .str "nearest", .str "floor", .str "d", .str "down ", .str "uP", .str "", .str "Down", .str "half", .str "downs", .str " up", .str "NEAR", .non, .bl true, .int 0, .tup [.str "near"], .lst [.str "up"]]
theorem bads_bad : ∀ d ∈ bads, Bad d := by
  intro d hd
  simp only [bads, List.mem_cons, List.not_mem_nil, or_false] at hd
  rcases hd with rfl | rfl | rfl | rfl | rfl | rfl | rfl | rfl | rfl | rfl | rfl | rfl | rfl | rfl | rfl | rfl | rfl | rfl | rfl <;> (intro μ; rfl)
theorem refused_ec {K : Exn → Mu → Prop} {p q : Int} {d : D} (hd : Bad d) (h : K ⟨0, [("where", .str "rule")]⟩ μ) : EC (C (n + 1)) j_Exact_rounded [.d (exD p q), .d d] μ K := by
  refine ec_of t_Exact_rounded rfl ?_
  show WS _ b_Exact_rounded [some (.d (exD p q)), some (.d d)] μ _
  unfold b_Exact_rounded
  refine ws_ite (wt_cmp (we_var rfl (we_glo rfl (asCmp_mk rfl (asZ_of (hd _) ⟨fun _ => ?_, fun h => absurd (show (true : Bool) = false from h).symm Bool.false_ne_true⟩)))))
  walk_at "g"
  exact xq rfl h
theorem refused_wc {p q : Int} {d : D} (hd : Bad d) (h : K (.d (.bl true)) μ) : WC1 (C (n + 4)) j_lrule_refused [.d (exD p q), .d d] μ K := by
  refine wc_of t_lrule_refused rfl ?_
  show WS _ b_lrule_refused [some (.d (exD p q)), some (.d d)] μ _
  unfold b_lrule_refused
  walk_at "g"
  refine we_told_er (ee_meth ?_)
  walk_at "g"
  refine ⟨c_Exact, j_Exact_rounded, rfl, rfl, rfl, ?_⟩
  walk_at "g"
  refine refused_ec (n := n + 2) hd ?_
  refine asZ_of (z := .tup [.str "refused", .str "BadForm", .tup [.str "rule"]]) rfl ?_
  walk_at "g"
  refine same_self (n := n + 2) t_lsame (a := .tup [.str "refused", .str "BadForm", .tup [.str "rule"]]) 2 rfl (by decide) (by omega) ?_
  walk_at "g"
  exact fq_d rfl h
end
end K02

namespace K02
open PySem L2 DL
/- one step; what has one way only; a step with the choices -/
local macro_rules | `(tactic| walk_at "1s") => `(tactic| first | refine we_var rfl ?_ | refine we_con ?_ | refine wa_cons ?_ | refine wa_nil ?_ | refine asI_mk ?_ | refine asZ_mk ?_ | refine asD_mk ?_ | refine we_idx ?_ | refine asV_d ?_ | refine we_call ?_ | refine we_callK ?_ | refine we_bm ?_ | refine we_dnew ?_ | refine we_bin ?_ | refine asOp_int ?_ | refine we_cmp ?_ | refine asCmp_inK (by assumption) rfl ?_ | refine asCmp_notinK (by assumption) rfl ?_ | refine asCmp_inK rfl rfl ?_ | refine asCmp_notinK rfl rfl ?_ | refine asCmp_mk rfl ?_ | refine wt_cmp ?_ | refine we_blt ?_ | refine asO_mk ?_ | refine asB_mk ?_ | refine asG_mk (Nat.le_of_ble_eq_true rfl) ?_ | refine asG_mk (by decide) ?_ | refine asG_mk rfl ?_ | refine wt_val ?_ | refine wt_not ?_ | refine asW_d ?_ | refine we_glo rfl ?_ | refine we_tup ?_ | refine we_lstF ?_ | refine we_lstT ?_ | refine we_isi ?_ | refine wt_isi ?_ | refine we_not ?_ | refine we_neg ?_ | refine asNeg_int ?_ | refine we_fmt ?_ | refine we_jn1 ?_ | refine we_jn ?_ | refine wj_cons ?_ | refine wj_nil ?_ | refine asSt_mk ?_ | refine asZ_mod (by decide) ?_ | refine asZ_mul (by omega) (by omega) (by decide) ?_ | refine asZ_mulS (by omega) (by omega) (by omega) (by omega) ?_ | refine asZ_div (by decide +kernel) ?_ | refine asZ_pow (by decide +kernel) ?_ | refine asR_mk ?_ | refine as1_mk ?_ | refine asT_mk ?_ | refine asS_l ?_ | refine asS_t ?_ | refine asS_k ?_ | refine asS_s ?_ | refine wi_seq ?_ | refine wi_rng1 ?_ | refine wi_rng2 ?_ | refine wi_enum ?_ | refine we_app ?_ | refine we_sl ?_ | refine wo_none ?_ | refine wo_some ?_ | refine we_rv ?_ | refine we_dicF ?_ | refine we_fld ?_ | refine asOp_tup (Nat.le_of_ble_eq_true rfl) ?_ | refine asOp_str (by decide +kernel) ?_ | refine asOp_lst (Nat.le_of_ble_eq_true rfl) ?_ | (apply asV_r; assumption) | (apply asW_r; assumption) | (apply asC_mk; assumption) | (apply asV_rd; assumption) | (apply asW_rd; assumption) | (apply asK_mk; assumption) | refine asF_of (fldP_r (by assumption) rfl rfl rfl) ?_ | refine asV_rd rfl ?_ | refine asW_rd rfl ?_ | refine asV_r rfl ?_ | refine asW_r rfl ?_ | refine asK_mk rfl ?_ | refine asF_of (fldP_r rfl rfl rfl rfl) ?_ | refine asF_of (fldP_d rfl rfl rfl) ?_ | refine asC_mk rfl ?_ | refine ws_set ?_ | refine kq_nx ?_ | refine kq_rt ?_ | refine ws_ret ?_ | refine ws_nil ?_ | refine ws_ex ?_ | refine ws_unp ?_ | refine ws_pass ?_ | refine ws_setD ?_ | refine ws_retN ?_ | refine ws_brk ?_ | refine ws_cnt ?_ | refine kq_bk ?_ | refine kq_ct ?_ | refine kq_ex ?_ | refine ws_rais rfl ?_ | fail)
local macro_rules | `(tactic| walk_at "1c") => `(tactic| first | refine ws_ite ?_ | refine wt_bop ?_ | refine wt_bop1 ?_ | refine wt_chain ?_ | refine we_bop ?_ | refine we_bop1 ?_ | refine we_ife ?_ | refine we_chain ?_ | refine ws_par ?_ | refine ⟨fun _ => ?_, fun h => absurd (show (false : Bool) = true from h) Bool.false_ne_true⟩ | refine ⟨fun _ => ?_, fun h => absurd (show (true : Bool) = false from h).symm Bool.false_ne_true⟩ | refine ⟨fun h => absurd (show (true : Bool) = false from h).symm Bool.false_ne_true, fun _ => ?_⟩ | refine ⟨fun h => absurd (show (false : Bool) = true from h) Bool.false_ne_true, fun _ => ?_⟩ | fail)
local macro_rules | `(tactic| walk_at "x") => `(tactic| repeat (first | refine we_var rfl ?_ | refine we_con ?_ | refine wa_cons ?_ | refine wa_nil ?_ | refine asI_mk ?_ | refine asZ_mk ?_ | refine asD_mk ?_ | refine we_idx ?_ | refine asV_d ?_ | refine we_call ?_ | refine we_callK ?_ | refine we_bm ?_ | refine we_dnew ?_ | refine we_bin ?_ | refine asOp_int ?_ | refine we_cmp ?_ | refine asCmp_inK (by assumption) rfl ?_ | refine asCmp_notinK (by assumption) rfl ?_ | refine asCmp_inK rfl rfl ?_ | refine asCmp_notinK rfl rfl ?_ | refine asCmp_mk rfl ?_ | refine wt_cmp ?_ | refine we_blt ?_ | refine asO_mk ?_ | refine asB_mk ?_ | refine asG_mk (Nat.le_of_ble_eq_true rfl) ?_ | refine asG_mk (by decide) ?_ | refine asG_mk rfl ?_ | refine wt_val ?_ | refine wt_not ?_ | refine asW_d ?_ | refine we_glo rfl ?_ | refine we_tup ?_ | refine we_lstF ?_ | refine we_lstT ?_ | refine we_isi ?_ | refine wt_isi ?_ | refine we_not ?_ | refine we_neg ?_ | refine asNeg_int ?_ | refine we_fmt ?_ | refine we_jn1 ?_ | refine we_jn ?_ | refine wj_cons ?_ | refine wj_nil ?_ | refine asSt_mk ?_ | refine asZ_mod (by decide) ?_ | refine asZ_mul (by omega) (by omega) (by decide) ?_ | refine asZ_mulS (by omega) (by omega) (by omega) (by omega) ?_ | refine asZ_div (by decide +kernel) ?_ | refine asZ_pow (by decide +kernel) ?_ | refine asR_mk ?_ | refine as1_mk ?_ | refine asT_mk ?_ | refine asS_l ?_ | refine asS_t ?_ | refine asS_k ?_ | refine asS_s ?_ | refine wi_seq ?_ | refine wi_rng1 ?_ | refine wi_rng2 ?_ | refine wi_enum ?_ | refine we_app ?_ | refine we_sl ?_ | refine wo_none ?_ | refine wo_some ?_ | refine we_rv ?_ | refine we_dicF ?_ | refine we_fld ?_ | refine asOp_tup (Nat.le_of_ble_eq_true rfl) ?_ | refine asOp_str (by decide +kernel) ?_ | refine asOp_lst (Nat.le_of_ble_eq_true rfl) ?_ | (apply asV_r; assumption) | (apply asW_r; assumption) | (apply asC_mk; assumption) | (apply asV_rd; assumption) | (apply asW_rd; assumption) | (apply asK_mk; assumption) | refine asF_of (fldP_r (by assumption) rfl rfl rfl) ?_ | refine asV_rd rfl ?_ | refine asW_rd rfl ?_ | refine asV_r rfl ?_ | refine asW_r rfl ?_ | refine asK_mk rfl ?_ | refine asF_of (fldP_r rfl rfl rfl rfl) ?_ | refine asF_of (fldP_d rfl rfl rfl) ?_ | refine asC_mk rfl ?_ | fail))
local macro_rules | `(tactic| walk_at "s") => `(tactic| repeat (first | refine we_var rfl ?_ | refine we_con ?_ | refine wa_cons ?_ | refine wa_nil ?_ | refine asI_mk ?_ | refine asZ_mk ?_ | refine asD_mk ?_ | refine we_idx ?_ | refine asV_d ?_ | refine we_call ?_ | refine we_callK ?_ | refine we_bm ?_ | refine we_dnew ?_ | refine we_bin ?_ | refine asOp_int ?_ | refine we_cmp ?_ | refine asCmp_inK (by assumption) rfl ?_ | refine asCmp_notinK (by assumption) rfl ?_ | refine asCmp_inK rfl rfl ?_ | refine asCmp_notinK rfl rfl ?_ | refine asCmp_mk rfl ?_ | refine wt_cmp ?_ | refine we_blt ?_ | refine asO_mk ?_ | refine asB_mk ?_ | refine asG_mk (Nat.le_of_ble_eq_true rfl) ?_ | refine asG_mk (by decide) ?_ | refine asG_mk rfl ?_ | refine wt_val ?_ | refine wt_not ?_ | refine asW_d ?_ | refine we_glo rfl ?_ | refine we_tup ?_ | refine we_lstF ?_ | refine we_lstT ?_ | refine we_isi ?_ | refine wt_isi ?_ | refine we_not ?_ | refine we_neg ?_ | refine asNeg_int ?_ | refine we_fmt ?_ | refine we_jn1 ?_ | refine we_jn ?_ | refine wj_cons ?_ | refine wj_nil ?_ | refine asSt_mk ?_ | refine asZ_mod (by decide) ?_ | refine asZ_mul (by omega) (by omega) (by decide) ?_ | refine asZ_mulS (by omega) (by omega) (by omega) (by omega) ?_ | refine asZ_div (by decide +kernel) ?_ | refine asZ_pow (by decide +kernel) ?_ | refine asR_mk ?_ | refine as1_mk ?_ | refine asT_mk ?_ | refine asS_l ?_ | refine asS_t ?_ | refine asS_k ?_ | refine asS_s ?_ | refine wi_seq ?_ | refine wi_rng1 ?_ | refine wi_rng2 ?_ | refine wi_enum ?_ | refine we_app ?_ | refine we_sl ?_ | refine wo_none ?_ | refine wo_some ?_ | refine we_rv ?_ | refine we_dicF ?_ | refine we_fld ?_ | refine asOp_tup (Nat.le_of_ble_eq_true rfl) ?_ | refine asOp_str (by decide +kernel) ?_ | refine asOp_lst (Nat.le_of_ble_eq_true rfl) ?_ | (apply asV_r; assumption) | (apply asW_r; assumption) | (apply asC_mk; assumption) | (apply asV_rd; assumption) | (apply asW_rd; assumption) | (apply asK_mk; assumption) | refine asF_of (fldP_r (by assumption) rfl rfl rfl) ?_ | refine asV_rd rfl ?_ | refine asW_rd rfl ?_ | refine asV_r rfl ?_ | refine asW_r rfl ?_ | refine asK_mk rfl ?_ | refine asF_of (fldP_r rfl rfl rfl rfl) ?_ | refine asF_of (fldP_d rfl rfl rfl) ?_ | refine asC_mk rfl ?_ | refine ws_set ?_ | refine kq_nx ?_ | refine kq_rt ?_ | refine ws_ret ?_ | refine ws_nil ?_ | refine ws_ex ?_ | refine ws_unp ?_ | refine ws_pass ?_ | refine ws_setD ?_ | refine ws_retN ?_ | refine ws_brk ?_ | refine ws_cnt ?_ | refine kq_bk ?_ | refine kq_ct ?_ | refine kq_ex ?_ | refine ws_rais rfl ?_ | fail))
local macro_rules | `(tactic| walk_at "g") => `(tactic| repeat (first | refine we_var rfl ?_ | refine we_con ?_ | refine wa_cons ?_ | refine wa_nil ?_ | refine asI_mk ?_ | refine asZ_mk ?_ | refine asD_mk ?_ | refine we_idx ?_ | refine asV_d ?_ | refine we_call ?_ | refine we_callK ?_ | refine we_bm ?_ | refine we_dnew ?_ | refine we_bin ?_ | refine asOp_int ?_ | refine we_cmp ?_ | refine asCmp_inK (by assumption) rfl ?_ | refine asCmp_notinK (by assumption) rfl ?_ | refine asCmp_inK rfl rfl ?_ | refine asCmp_notinK rfl rfl ?_ | refine asCmp_mk rfl ?_ | refine wt_cmp ?_ | refine we_blt ?_ | refine asO_mk ?_ | refine asB_mk ?_ | refine asG_mk (Nat.le_of_ble_eq_true rfl) ?_ | refine asG_mk (by decide) ?_ | refine asG_mk rfl ?_ | refine wt_val ?_ | refine wt_not ?_ | refine asW_d ?_ | refine we_glo rfl ?_ | refine we_tup ?_ | refine we_lstF ?_ | refine we_lstT ?_ | refine we_isi ?_ | refine wt_isi ?_ | refine we_not ?_ | refine we_neg ?_ | refine asNeg_int ?_ | refine we_fmt ?_ | refine we_jn1 ?_ | refine we_jn ?_ | refine wj_cons ?_ | refine wj_nil ?_ | refine asSt_mk ?_ | refine asZ_mod (by decide) ?_ | refine asZ_mul (by omega) (by omega) (by decide) ?_ | refine asZ_mulS (by omega) (by omega) (by omega) (by omega) ?_ | refine asZ_div (by decide +kernel) ?_ | refine asZ_pow (by decide +kernel) ?_ | refine asR_mk ?_ | refine as1_mk ?_ | refine asT_mk ?_ | refine asS_l ?_ | refine asS_t ?_ | refine asS_k ?_ | refine asS_s ?_ | refine wi_seq ?_ | refine wi_rng1 ?_ | refine wi_rng2 ?_ | refine wi_enum ?_ | refine we_app ?_ | refine we_sl ?_ | refine wo_none ?_ | refine wo_some ?_ | refine we_rv ?_ | refine we_dicF ?_ | refine we_fld ?_ | refine asOp_tup (Nat.le_of_ble_eq_true rfl) ?_ | refine asOp_str (by decide +kernel) ?_ | refine asOp_lst (Nat.le_of_ble_eq_true rfl) ?_ | (apply asV_r; assumption) | (apply asW_r; assumption) | (apply asC_mk; assumption) | (apply asV_rd; assumption) | (apply asW_rd; assumption) | (apply asK_mk; assumption) | refine asF_of (fldP_r (by assumption) rfl rfl rfl) ?_ | refine asV_rd rfl ?_ | refine asW_rd rfl ?_ | refine asV_r rfl ?_ | refine asW_r rfl ?_ | refine asK_mk rfl ?_ | refine asF_of (fldP_r rfl rfl rfl rfl) ?_ | refine asF_of (fldP_d rfl rfl rfl) ?_ | refine asC_mk rfl ?_ | refine ws_set ?_ | refine kq_nx ?_ | refine kq_rt ?_ | refine ws_ret ?_ | refine ws_nil ?_ | refine ws_ex ?_ | refine ws_unp ?_ | refine ws_pass ?_ | refine ws_setD ?_ | refine ws_retN ?_ | refine ws_brk ?_ | refine ws_cnt ?_ | refine kq_bk ?_ | refine kq_ct ?_ | refine kq_ex ?_ | refine ws_rais rfl ?_ | refine ws_ite ?_ | refine wt_bop ?_ | refine wt_bop1 ?_ | refine wt_chain ?_ | refine we_bop ?_ | refine we_bop1 ?_ | refine we_ife ?_ | refine we_chain ?_ | refine ws_par ?_ | refine ⟨fun _ => ?_, fun h => absurd (show (false : Bool) = true from h) Bool.false_ne_true⟩ | refine ⟨fun _ => ?_, fun h => absurd (show (true : Bool) = false from h).symm Bool.false_ne_true⟩ | refine ⟨fun h => absurd (show (true : Bool) = false from h).symm Bool.false_ne_true, fun _ => ?_⟩ | refine ⟨fun h => absurd (show (false : Bool) = true from h) Bool.false_ne_true, fun _ => ?_⟩ | refine ⟨fun _ => ?_, fun h => absurd (of_decide_eq_true h) (by omega)⟩ | refine ⟨fun h => absurd (of_decide_eq_true h) (by omega), fun _ => ?_⟩ | refine ⟨fun _ => ?_, fun h => absurd (by omega) (of_decide_eq_false h)⟩ | refine ⟨fun h => absurd (by omega) (of_decide_eq_false h), fun _ => ?_⟩ | refine ⟨fun _ => ?_, fun h => absurd h (by decide +kernel)⟩ | refine ⟨fun h => absurd h (by decide +kernel), fun _ => ?_⟩ | fail))
local macro_rules | `(tactic| walk_at "h") => `(tactic| repeat (first | refine we_var rfl ?_ | refine we_con ?_ | refine wa_cons ?_ | refine wa_nil ?_ | refine asI_mk ?_ | refine asZ_mk ?_ | refine asD_mk ?_ | refine we_idx ?_ | refine asV_d ?_ | refine we_call ?_ | refine we_callK ?_ | refine we_bm ?_ | refine we_dnew ?_ | refine we_bin ?_ | refine asOp_int ?_ | refine we_cmp ?_ | refine asCmp_inK (by assumption) rfl ?_ | refine asCmp_notinK (by assumption) rfl ?_ | refine asCmp_inK rfl rfl ?_ | refine asCmp_notinK rfl rfl ?_ | refine asCmp_mk rfl ?_ | refine wt_cmp ?_ | refine we_blt ?_ | refine asO_mk ?_ | refine asB_mk ?_ | refine asG_mk (Nat.le_of_ble_eq_true rfl) ?_ | refine asG_mk (by decide) ?_ | refine asG_mk rfl ?_ | refine wt_val ?_ | refine wt_not ?_ | refine asW_d ?_ | refine we_glo rfl ?_ | refine we_tup ?_ | refine we_lstF ?_ | refine we_lstT ?_ | refine we_isi ?_ | refine wt_isi ?_ | refine we_not ?_ | refine we_neg ?_ | refine asNeg_int ?_ | refine we_fmt ?_ | refine we_jn1 ?_ | refine we_jn ?_ | refine wj_cons ?_ | refine wj_nil ?_ | refine asSt_mk ?_ | refine asZ_mod (by decide) ?_ | refine asZ_mul (by omega) (by omega) (by decide) ?_ | refine asZ_mulS (by omega) (by omega) (by omega) (by omega) ?_ | refine asZ_div (by decide +kernel) ?_ | refine asZ_pow (by decide +kernel) ?_ | refine asR_mk ?_ | refine as1_mk ?_ | refine asT_mk ?_ | refine asS_l ?_ | refine asS_t ?_ | refine asS_k ?_ | refine asS_s ?_ | refine wi_seq ?_ | refine wi_rng1 ?_ | refine wi_rng2 ?_ | refine wi_enum ?_ | refine we_app ?_ | refine we_sl ?_ | refine wo_none ?_ | refine wo_some ?_ | refine we_rv ?_ | refine we_dicF ?_ | refine we_fld ?_ | refine asOp_tup (Nat.le_of_ble_eq_true rfl) ?_ | refine asOp_str (by decide +kernel) ?_ | refine asOp_lst (Nat.le_of_ble_eq_true rfl) ?_ | (apply asV_r; assumption) | (apply asW_r; assumption) | (apply asC_mk; assumption) | (apply asV_rd; assumption) | (apply asW_rd; assumption) | (apply asK_mk; assumption) | refine asF_of (fldP_r (by assumption) rfl rfl rfl) ?_ | refine asV_rd rfl ?_ | refine asW_rd rfl ?_ | refine asV_r rfl ?_ | refine asW_r rfl ?_ | refine asK_mk rfl ?_ | refine asF_of (fldP_r rfl rfl rfl rfl) ?_ | refine asF_of (fldP_d rfl rfl rfl) ?_ | refine asC_mk rfl ?_ | refine ws_set ?_ | refine kq_nx ?_ | refine kq_rt ?_ | refine ws_ret ?_ | refine ws_nil ?_ | refine ws_unp ?_ | refine ws_pass ?_ | refine ws_setD ?_ | refine ws_retN ?_ | refine ws_brk ?_ | refine ws_cnt ?_ | refine kq_bk ?_ | refine kq_ct ?_ | refine kq_ex ?_ | refine ws_rais rfl ?_ | refine ws_ite ?_ | refine wt_bop ?_ | refine wt_bop1 ?_ | refine wt_chain ?_ | refine we_bop ?_ | refine we_bop1 ?_ | refine we_ife ?_ | refine we_chain ?_ | refine ws_par ?_ | refine ⟨fun _ => ?_, fun h => absurd (show (false : Bool) = true from h) Bool.false_ne_true⟩ | refine ⟨fun _ => ?_, fun h => absurd (show (true : Bool) = false from h).symm Bool.false_ne_true⟩ | refine ⟨fun h => absurd (show (true : Bool) = false from h).symm Bool.false_ne_true, fun _ => ?_⟩ | refine ⟨fun h => absurd (show (false : Bool) = true from h) Bool.false_ne_true, fun _ => ?_⟩ | refine ⟨fun _ => ?_, fun h => absurd (of_decide_eq_true h) (by omega)⟩ | refine ⟨fun h => absurd (of_decide_eq_true h) (by omega), fun _ => ?_⟩ | refine ⟨fun _ => ?_, fun h => absurd (by omega) (of_decide_eq_false h)⟩ | refine ⟨fun h => absurd (by omega) (of_decide_eq_false h), fun _ => ?_⟩ | refine ⟨fun _ => ?_, fun h => absurd h (by decide +kernel)⟩ | refine ⟨fun h => absurd h (by decide +kernel), fun _ => ?_⟩ | fail))
section
variable {n : Nat} {μ : Mu} {k : Nat} {cs : List Int} {N : Int} {K : X → Mu → Prop}
/-- a new Exact of one number -/
theorem mkEx1 {ρ : DL.Env} {es : Es} (h : WA (parOf L.tab WW (n + 3)) es ρ μ fun xs μ1 => ∃ t, xs = [.d (.int t)] ∧ Sz 440 t ∧ ∀ p q, Low p q t 1 → K (.d (exD p q)) (μ1 ++ [none])) : WE (parOf L.tab WW (n + 3)) (.frz (.mk 0 es [.int 1])) ρ μ K := by
  refine we_frz (we_mk rfl ?_)
  obtain ⟨xs, μ1, e, t, rfl, h1, h4⟩ := h
  refine ⟨_, μ1, e, ?_⟩
  refine init_wc (n := n) (c := μ1.length) (by simp) h1 (show (1 : Int).natAbs < 2 ^ 440 by decide +kernel) (by decide) fun p q hl => ⟨rfl, ?_⟩
  refine ⟨_, _, _, rfl, put_cell (o := some (.ins 0 [])) (by simp), rfl, ?_⟩
  rw [List.set_set]
  have e : ∀ nd : Option Node, (μ1 ++ [nd]).set μ1.length none = μ1 ++ [none] := fun nd => by simp
  rw [e]
  exact h4 p q hl
theorem Frac.sz {a b : Int} (h : Frac a b) : Sz 100 a ∧ Sz 100 b := by
  obtain ⟨h1, h2, h3, h4, h5⟩ := h
  have p30 := pow30
  have e : (2 : Nat) ^ 100 = 1267650600228229401496703205376 := by decide +kernel
  constructor
  · show a.natAbs < 2 ^ 100; omega
  · show b.natAbs < 2 ^ 100; omega
theorem Low.sz {p q t b : Int} {a c : Nat} (h : Low p q t b) (hb : b ≠ 0) (st : Sz a t) (sb : Sz c b) : Sz a p ∧ Sz c q := by
  obtain ⟨h1, h2⟩ := h.le hb
  exact ⟨Nat.lt_of_le_of_lt h1 st, Nat.lt_of_le_of_lt h2 sb⟩
theorem low30 : Low (10 ^ 30) 3 (10 ^ 30) 3 := ⟨by decide, rfl, by decide +kernel⟩
theorem low60 : Low (10 ^ 60) 9 (10 ^ 30 * 10 ^ 30) (3 * 3) := ⟨by decide, by decide +kernel, by decide +kernel⟩
theorem low120 : Low (10 ^ 120) 81 (10 ^ 60 * 10 ^ 60) (9 * 9) := ⟨by decide, by decide +kernel, by decide +kernel⟩
theorem lowN : Low (-(10 ^ 120)) 81 (-(10 ^ 120)) 81 := ⟨by decide, rfl, by decide +kernel⟩
theorem mul_cross {p q a b p' q' a' b' x y : Int} (h : Low p q a b) (h' : Low p' q' a' b') (hx : Low x y (p * p') (q * q')) : x * (b * b') = (a * a') * y := by
  have c1 := h.cross
  have c2 := h'.cross
  have c3 := hx.cross
  have q1 := h.pos
  have q2 := h'.pos
  have e : (q * q') * (x * (b * b')) = (q * q') * ((a * a') * y) := by grind
  exact Int.eq_of_mul_eq_mul_left (Int.mul_ne_zero (by omega) (by omega)) e
theorem law_wc (hl : cs.length ≤ 1000) (h : ∀ μ, K (.d (.bl true)) μ) : WC1 (C (n + 8)) j_law [.d (.kls (cs.map D.int))] [] K := by
  refine wc_of t_law rfl ?_
  show WS _ b_law [some (.d (.kls (cs.map D.int))), none, none, none, none, none, none, none, none, none, none] [] _
  unfold b_law
  walk_at "g"
  refine store_wc (n := n + 6) t_lstore hl fun nd s0 => ?_
  walk_at "g"
  refine half_wc (n := n) (k := 0) (cs := cs) (N := 0) (μ := [some nd]) s0 (by decide) fun a b nd1 f1 s1 => ?_
  walk_at "g"
  refine half_wc (n := n) s1 (by decide) fun a' b' nd2 f2 s2 => ?_
  walk_at "g"
  have hbn : ∀ i, 1 ≤ i → nd2.below i = true := by
    intro i hi
    obtain ⟨p, q, c, r, g, _⟩ := s2
    have g : some nd2 = some (stN cs p q c r) := by simpa using g
    cases g
    rfl
  obtain ⟨sa, sb⟩ := f1.sz
  obtain ⟨sa', sb'⟩ := f2.sz
  refine mkEx (n := n + 4) ?_
  walk_at "g"
  refine ⟨_, _, rfl, sa.mono (by decide), sb.mono (by decide), f1.ne, fun p q l1 => ?_⟩
  walk_at "g"
  refine mkEx (n := n + 4) ?_
  walk_at "g"
  refine ⟨_, _, rfl, sa'.mono (by decide), sb'.mono (by decide), f2.ne, fun p' q' l2 => ?_⟩
  walk_at "g"
  obtain ⟨sp, sq⟩ := l1.sz f1.ne sa sb
  obtain ⟨sp', sq'⟩ := l2.sz f2.ne sa' sb'
  have hb3 : belowAll 3 [some nd2, none, none] = true := by
    show (nd2.below 3 && (true && (true && true))) = true
    rw [hbn 3 (by decide)]
    rfl
  have hb4 : belowAll 4 [some nd2, none, none, none] = true := by
    show (nd2.below 4 && (true && (true && (true && true)))) = true
    rw [hbn 4 (by decide)]
    rfl
  refine rounds_wc (n := n + 3) l1.pos f1.ne l1.cross (sp.mono (by decide)) (sq.mono (by decide)) (sa.mono (by decide)) (sb.mono (by decide)) ?_
  walk_at "g"
  refine rounds_wc (n := n + 3) l2.pos f2.ne l2.cross (sp'.mono (by decide)) (sq'.mono (by decide)) (sa'.mono (by decide)) (sb'.mono (by decide)) ?_
  walk_at "g"
  refine asOp_own rfl (mul_wc (n := n + 2) hb3 (sp.mono (by decide)) (sq.mono (by decide)) (sp'.mono (by decide)) (sq'.mono (by decide)) l1.pos l2.pos fun x y hx => ?_)
  walk_at "g"
  have nq : q * q' ≠ 0 := Int.mul_ne_zero (by have := l1.pos; omega) (by have := l2.pos; omega)
  obtain ⟨sx, sy⟩ := hx.sz nq (sp.mul sp') (sq.mul sq')
  refine asZ_of (sa.ok sa' (by decide)) ?_
  walk_at "g"
  refine asZ_of (sb.ok sb' (by decide)) ?_
  walk_at "g"
  refine rounds_wc (n := n + 3) hx.pos (Int.mul_ne_zero f1.ne f2.ne) (mul_cross l1 l2 hx) (sx.mono (by decide)) (sy.mono (by decide)) ((sa.mul sa').mono (by decide)) ((sb.mul sb').mono (by decide)) ?_
  walk_at "g"
  refine mkEx (n := n + 4) ?_
  walk_at "g"
  refine ⟨_, _, rfl, show Sz 440 (10 ^ 30) from (by show (10 ^ 30 : Int).natAbs < 2 ^ 440; decide +kernel), show Sz 440 3 from (by show (3 : Int).natAbs < 2 ^ 440; decide +kernel), by decide, fun p0 q0 l0 => ?_⟩
  walk_at "g"
  obtain ⟨rfl, rfl⟩ := l0.uniq low30 (by decide) (by decide) rfl
  refine asOp_own rfl (mul_wc (n := n + 2) hb4 (by show (10 ^ 30 : Int).natAbs < 2 ^ 210; decide +kernel) (by show (3 : Int).natAbs < 2 ^ 210; decide +kernel) (by show (10 ^ 30 : Int).natAbs < 2 ^ 210; decide +kernel) (by show (3 : Int).natAbs < 2 ^ 210; decide +kernel) (by decide) (by decide) fun x1 y1 h1 => ?_)
  walk_at "g"
  obtain ⟨rfl, rfl⟩ := h1.uniq low60 (by decide) (by decide) rfl
  refine asZ_of (bin_mul (mulOk_of (a := 210) (b := 210) (by decide +kernel) (by decide +kernel) (by decide))) ?_
  walk_at "g"
  have z60 : Sz 210 (10 ^ 60) := by show (10 ^ 60 : Int).natAbs < 2 ^ 210; decide +kernel
  have z9 : Sz 210 9 := by show (9 : Int).natAbs < 2 ^ 210; decide +kernel
  have z120 : Sz 440 (10 ^ 120) := by show (10 ^ 120 : Int).natAbs < 2 ^ 440; decide +kernel
  have z81 : Sz 440 81 := by show (81 : Int).natAbs < 2 ^ 440; decide +kernel
  refine asOp_own rfl (mul_wc (n := n + 2) hb4 z60 z9 z60 z9 (by decide) (by decide) fun x2 y2 h2 => ?_)
  walk_at "g"
  obtain ⟨rfl, rfl⟩ := h2.uniq low120 (by decide) (by decide) rfl
  refine rounds_wc (n := n + 3) (by decide) (by decide) (by decide +kernel) z120 z81 (by show Sz 440 ((10 : Int) ^ 60 * 10 ^ 60); show ((10 : Int) ^ 60 * 10 ^ 60).natAbs < 2 ^ 440; decide +kernel) z81 ?_
  walk_at "g"
  refine asOp_own rfl (mul_wc (n := n + 2) hb4 z60 z9 z60 z9 (by decide) (by decide) fun x2 y2 h2 => ?_)
  walk_at "g"
  obtain ⟨rfl, rfl⟩ := h2.uniq low120 (by decide) (by decide) rfl
  refine asNeg_own rfl (neg_wc (n := n + 2) hb4 z120 z81 (by decide) fun x3 y3 h3 => ?_)
  walk_at "g"
  obtain ⟨rfl, rfl⟩ := h3.uniq lowN (by decide) (by decide) rfl
  refine rounds_wc (n := n + 3) (by decide) (by decide) (by decide +kernel) (by show (-(10 ^ 120) : Int).natAbs < 2 ^ 440; decide +kernel) z81 (by show (0 - (10 : Int) ^ 60 * 10 ^ 60).natAbs < 2 ^ 440; decide +kernel) z81 ?_
  walk_at "g"
  refine ws_for ?_
  walk_at "g"
  refine for_all [10] ?_ (fun d => d ∈ bads) (fun d hd => hd) ?_ ?_
  · exact ⟨Nat.succ_pos 3, trivial⟩
  · intro zs hz
    obtain ⟨w, rfl⟩ := zs1 hz
    refine kq_nx ?_
    walk_at "g"
    refine rounds_wc (n := n + 3) l1.pos f1.ne l1.cross (sp.mono (by decide)) (sq.mono (by decide)) (sa.mono (by decide)) (sb.mono (by decide)) ?_
    walk_at "g"
    refine rounds_wc (n := n + 3) l2.pos f2.ne l2.cross (sp'.mono (by decide)) (sq'.mono (by decide)) (sa'.mono (by decide)) (sb'.mono (by decide)) ?_
    walk_at "g"
    refine lowest_wc (n := n + 5) (sa.mono (by decide)) (sb.mono (by decide)) f1.ne fun p2 q2 l3 => ?_
    walk_at "g"
    obtain ⟨rfl, rfl⟩ := l3.uniq l1 f1.ne f1.ne rfl
    refine same_self (n := n + 6) t_lsame (a := .tup [.int p2, .int q2]) 2 rfl (Nat.le_of_ble_eq_true rfl) (by omega) ?_
    walk_at "g"
    exact ⟨h _⟩
  · intro d zs hz hd
    obtain ⟨w, rfl⟩ := zs1 hz
    have hbad := bads_bad d hd
    refine ⟨_, rfl, ?_⟩
    show WS _ _ [some (.d (.kls (cs.map D.int))), some (.r 0), some (.d (.tup [.int a, .int b])), some (.d (.tup [.int a', .int b'])), some (.d (exD p q)), some (.d (exD p' q')), some (.d (exD (10 ^ 30) 3)), some (.d (exD (10 ^ 60) 9)), some (.d (.int ((10 : Int) ^ 60 * 10 ^ 60))), _, some (.d d)] _ _
    walk_at "g"
    refine refused_wc (n := n + 3) hbad ?_
    walk_at "g"
    refine mkEx1 (n := n + 4) ?_
    walk_at "g"
    refine ⟨_, rfl, sa'.mono (by decide), fun p3 q3 l3 => ?_⟩
    walk_at "g"
    refine refused_wc (n := n + 3) hbad ?_
    walk_at "g"
    exact ld_nxA (m := [none]) rfl rfl hb4 rfl
theorem law_true (ns : List Int) (h : ns.length ≤ 1000) : ∃ μ, callD L.tab WW (8 + 1) j_law [.d (.kls (ns.map D.int))] [] = .ok (.d (.bl true)) μ := by
  obtain ⟨x, μ, e, rfl⟩ := law_wc (n := 1) (K := fun x _ => x = .d (.bl true)) h fun _ => rfl
  exact ⟨μ, e⟩
end
end K02

theorem PySem.Challenge.cw_tollbooks_k02_rounded_by_rule_holds : PySem.Challenge.rw_tollbooks_k02_rounded_by_rule.Holds :=
  K02.end_of K02.law_true
