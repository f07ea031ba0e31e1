import PyProof.Rows.All
import Wide.All
import OpenK.AllK
import Wide.FinOn
import HandS.ForMost
import HandS.ForExc
import HandS.IsInst
import HandS.Flow
import HandS.Star
import HandS.More
import HandS.Property
import HandS.Defaults
import HandS.MakeKwOnly
import HandS.Lambda
import PyProof.EnumMake
import PyProof.Draws
import HandS.Zip0
import HandS.Style
import HandS.TupAny
import HandS.Deep
import KE.DataEq
import KE.KExcSuper
import KE.KExcInit
import KE.KExcPX
import HandS.ExcInit
import HandS.HeadWalk
import KE.KExcIs
import HandS.ExcIs
import HandS.ExcField
import HandS.HotCalls
import KE.KEqDict
import PyProof.P3In
import HandS.ClsMeth
import HandS.SetFor
import PyProof.ReprRoads
import PyProof.CallFns
import HandS.RaiseMore
import HandS.Zip
import HandS.Comp
import HandS.SortInts
import HandS.HeadHook4
import HandS.Head2
import HandS.HeadEnd
import HandS.HeadNt
import PyProof.ReprLen
import PyProof.FitsInt
import PySem.Challenge.RW_countertickets_k17_forms_made_and_told
set_option Elab.async false
set_option linter.all false
set_option maxRecDepth 100000
set_option autoImplicit false
/-! Ev: a small evaluator for the part of Python that the laws use: values, cells, expressions, statements, calls. -/
namespace Ev
open PySem (PyData Str)

/-! ### values -/
/-- closed values: nothing in them changes any more -/
inductive C where
  | non | bl (b : Bool) | int (i : Int) | str (s : List Nat)
  | tup (cs : List C) | lst (cs : List C) | frz (cs : List C)
  | dct (ks vs : List C)
  | ins (c : Nat) (fs : List Nat) (vs : List C)
/-- a value: a closed one, or a cell that may change -/
inductive W where
  | c (x : C) | r (n : Nat)
inductive Cell where
  | lst (ws : List W)
  | ins (c : Nat) (fs : List Nat) (vs : List W)
  | dct (ks : List C) (vs : List W)
abbrev S := List (Option Cell)
inductive Res (α : Type) where
  | ok (a : α) (st : S) | ex (c : Nat) (x : C) (st : S) | stuck
abbrev Env := List (Option W)
def Res.bind {α β : Type} : Res α → (α → S → Res β) → Res β
  | .ok a st, k => k a st
  | .ex c w st, _ => .ex c w st
  | .stuck, _ => .stuck
inductive Fl where
  | nx (env : Env) | rt (w : W) | bk (env : Env) | ct (env : Env)

/-! ### the forms -/
inductive Bop where | add | sub | mul | fdiv | mod | pow | band
  deriving DecidableEq, Repr
inductive Cop where | eq | ne | lt | le | gt | ge | is | isnot | isin | notin
  deriving DecidableEq, Repr
inductive Ty where | int | bool | str | lst | tup | own (c : Nat)
  deriving DecidableEq, Repr
inductive Bfn where | len | all | any | int | str | repr | abs | list | tuple | min | max | sum | sorted
  deriving DecidableEq, Repr
inductive Bm where | append | extend | pop | popat | index | count | insert
  deriving DecidableEq, Repr
inductive Tg where | n (i : Nat) | t (a : Tg) | nil | cons (a b : Tg)
  deriving DecidableEq, Repr
inductive Ex where
  | var (i : Nat) | int (i : Int) | bl (b : Bool) | non | str (s : List Nat) | glob (i : Nat)
  | bin (op : Bop) (a b : Ex) | neg (a : Ex) | not (a : Ex)
  | cmp (op : Cop) (a b : Ex) | cmp2 (o1 o2 : Cop) (a b c : Ex)
  | and (a b : Ex) | or (a b : Ex) | ite (c a b : Ex)
  | tup (es : Ex) | lst (es : Ex) | mut (e : Ex) | madd (a b : Ex) | dsp (ks : List (List Nat)) (es : Ex)
  | call (f : Nat) (es : Ex) | make (c : Nat) (es : Ex) | callk (f : Nat) (es ks : Ex) | makek (c f : Nat) (es ks : Ex) | calls (f : Nat) (e : Ex) | makes (c : Nat) (e : Ex)
  | meth (o : Ex) (m : Nat) (es : Ex) | attr (o : Ex) (f : Nat)
  | ix (o i : Ex) | sl (o lo hi : Ex)
  | bi (b : Bfn) (es : Ex) | bm (m : Bm) (o : Ex) (es : Ex) | isi (e : Ex) (ts : List Ty)
  | lc (elt : Ex) (tg : Tg) (it : Ex) (cnd : Ex) (vs : List Nat)
  | xis (c : Nat) | xat (f : Nat) | hcall (f : Nat) | hcmp (op : Cop) (a b : Ex) | hix (o i : Ex)
  | itv (a : Ex) | itr (i : Nat) | rng1 (a : Ex) | rng2 (a b : Ex) | enum (a : Ex) | zip (a b : Ex)
  | nil | cons (e es : Ex)
  deriving DecidableEq, Repr
inductive Sx where
  | set (i : Nat) (e : Ex) | tset (tg : Tg) (e : Ex) | par (is : List Nat) (es : Ex)
  | setix (o i e : Ex) | setfld (o : Ex) (f : Nat) (e : Ex)
  | expr (e : Ex) | ret (e : Ex) | retN | ite (c : Ex) (a b : Sx)
  | for (tg : Tg) (it : Ex) (body : Sx) | while (c : Ex) (body : Sx)
  | raise (c : Nat) (e : Ex) | tri (body hs : Sx) | hnil | hcons (cs : List Nat) (suite rest : Sx) | never | pass | brk | cont | nil | cons (s ss : Sx)
  deriving Repr

/-! ### plain data: what has no instance, no dict in it -/
mutual
def toD : C → PyData
  | .non => .none | .bl b => .bool b | .int i => .int i | .str s => .str ⟨s.toArray⟩
  | .tup cs => .tuple (toDs cs) | .lst cs => .list (toDs cs) | .frz cs => .list (toDs cs)
  | .dct _ _ => .dict [] | .ins _ _ _ => .dict []
def toDs : List C → List PyData
  | [] => [] | c :: cs => toD c :: toDs cs
end
mutual
/-- plain, at most n deep -/
def pln : Nat → C → Bool
  | _, .non => true | _, .bl _ => true | _, .int _ => true | _, .str s => PyData.strOk ⟨s.toArray⟩
  | 0, _ => false
  | n + 1, .tup cs => plns n cs | n + 1, .lst cs => plns n cs | n + 1, .frz cs => plns n cs
  | _, .dct _ _ => false | _, .ins _ _ _ => false
def plns : Nat → List C → Bool
  | _, [] => true | n, c :: cs => pln n c && plns n cs
end
def shp (c : C) : Bool := pln 60 c
def eqC (a b : C) : Bool := PyData.eqv (toD a) (toD b)

/-! ### the state -/
def cellAt (st : S) (n : Nat) : Option Cell := match st[n]? with | some (some x) => some x | _ => none
def setCell (st : S) (n : Nat) (x : Cell) : S := st.set n (some x)
def clo : List W → Option (List C)
  | [] => some []
  | .c x :: ws => match clo ws with | some cs => some (x :: cs) | none => none
  | .r _ :: _ => none
def seqW (st : S) : W → Option (List W)
  | .c (.tup cs) => some (cs.map .c) | .c (.lst cs) => some (cs.map .c) | .c (.frz cs) => some (cs.map .c)
  | .r n => match cellAt st n with | some (.lst ws) => some ws | _ => none
  | _ => none
def listW (st : S) : W → Option (List W)
  | .c (.lst cs) => some (cs.map .c) | .c (.frz cs) => some (cs.map .c)
  | .r n => match cellAt st n with | some (.lst ws) => some ws | _ => none
  | _ => none
/-- a dict's keys, values -/
def dctW (st : S) : W → Option (List C × List W)
  | .c (.dct ks vs) => some (ks, vs.map .c)
  | .r n => match cellAt st n with | some (.dct ks ws) => some (ks, ws) | _ => none
  | _ => none
def keyEq : C → C → Bool
  | .int i, .int j => decide (i = j) | .str a, .str b => decide (a = b) | _, _ => false
def lookD {α : Type} (k : C) : List C → List α → Option α
  | k' :: ks, w :: ws => if keyEq k' k then some w else lookD k ks ws
  | _, _ => none
def clsOf (st : S) : W → Option Nat
  | .c (.ins c _ _) => some c
  | .r n => match cellAt st n with | some (.ins c _ _) => some c | _ => none
  | _ => none
def fldOf (st : S) (f : Nat) : W → Option W
  | .c (.ins _ fs vs) => ((fs.zip vs).lookup f).map .c
  | .r n => match cellAt st n with | some (.ins _ fs vs) => (fs.zip vs).lookup f | _ => none
  | _ => none
def tru (st : S) : W → Option Bool
  | .c .non => some false | .c (.bl b) => some b | .c (.int i) => some (i != 0)
  | .c (.str s) => if s.length ≤ 16777216 then some (!s.isEmpty) else none
  | .c (.tup cs) => some (!cs.isEmpty) | .c (.lst cs) => some (!cs.isEmpty) | .c (.frz cs) => some (!cs.isEmpty)
  | .r n => match cellAt st n with | some (.lst ws) => some (!ws.isEmpty) | _ => none
  | _ => none
def isin1 (st : S) (w : W) : Ty → Option Bool := fun t => match w with
  | .c .non => some false
  | .c (.bl _) => some (t = .int ∨ t = .bool)
  | .c (.int _) => some (t = .int)
  | .c (.str _) => some (t = .str)
  | .c (.tup _) => some (t = .tup)
  | .c (.lst _) => some (t = .lst)
  | .c (.frz _) => some (t = .lst)
  | .c (.dct _ _) => some false
  | .c (.ins c _ _) => some (t = .own c)
  | .r n => match cellAt st n with | some (.lst _) => some (t = .lst) | some (.ins c _ _) => some (t = .own c) | some (.dct _ _) => some false | none => none
def isin (st : S) (w : W) : List Ty → Option Bool
  | [] => some false
  | t :: ts => match isin1 st w t with | some true => some true | some false => isin st w ts | none => none

/-! ### operators on values -/
def okc (x : C) (st : S) : Res W := .ok (.c x) st
def small64 (i : Int) : Bool := decide (-(2 ^ 64) < i) && decide (i < 2 ^ 64)
def addL (xs ys : List C) (mk : List C → C) (st : S) : Res W := if xs.length + ys.length ≤ 16777216 then okc (mk (xs ++ ys)) st else .stuck
/-- the items of a list, closed or a cell -/
def lstOf (st : S) : W → Option (List W)
  | .c (.lst cs) => some (cs.map .c)
  | .r n => match cellAt st n with | some (.lst ws) => some ws | _ => none
  | _ => none
/-- .. one of them a cell -/
def addC (a b : W) (st : S) : Res W := match lstOf st a, lstOf st b with
  | some xs, some ys => (match clo (xs ++ ys) with
    | some cs => if xs.length + ys.length ≤ 16777216 then okc (.lst cs) st else .stuck
    | none => .stuck)
  | _, _ => .stuck
def addOp : W → W → S → Res W
  | .c (.int i), .c (.int j), st => okc (.int (i + j)) st
  | .c (.lst xs), .c (.lst ys), st => addL xs ys .lst st
  | .c (.tup xs), .c (.tup ys), st => addL xs ys .tup st
  | .c (.str xs), .c (.str ys), st => if xs.length + ys.length ≤ 16777216 then okc (.str (xs ++ ys)) st else .stuck
  | a, b, st => addC a b st
/-- a sum of lists, kept as a cell -/
def maddOp (a b : W) (st : S) : Res W := match lstOf st a, lstOf st b with
  | some xs, some ys => if xs.length + ys.length ≤ 16777216 then .ok (.r st.length) (st ++ [some (.lst (xs ++ ys))]) else .stuck
  | _, _ => .stuck
def intOp (ok : Int → Int → Bool) (f : Int → Int → Int) : W → W → S → Res W
  | .c (.int i), .c (.int j), st => if ok i j then okc (.int (f i j)) st else .stuck
  | _, _, _ => .stuck
def mulOp : W → W → S → Res W
  | .c (.int i), .c (.int j), st => if small64 i || small64 j then okc (.int (i * j)) st else .stuck
  | _, _, _ => .stuck
def binop : Bop → W → W → S → Res W
  | .add => addOp
  | .sub => intOp (fun _ _ => true) fun i j => i - j
  | .mul => mulOp
  | .fdiv => intOp (fun _ j => decide (0 < j ∧ j < 1073741824)) fun i j => i / j
  | .mod => intOp (fun _ j => decide (0 < j)) fun i j => i % j
  | .pow => intOp (fun i j => decide (0 ≤ j ∧ j ≤ 1000000) && small64 i) fun i j => i ^ j.toNat
  | .band => fun _ _ _ => .stuck
/-- is: None and truth values alone -/
def isNon : W → Bool
  | .c .non => true | _ => false
def isOp : W → W → Option Bool
  | a, .c .non => some (isNon a)
  | .c (.bl a), .c (.bl b) => some (a == b)
  | _, _ => none
/-- a value as plain data, its cell read -/
def dat (st : S) : W → Option C
  | .c x => some x
  | .r n => match cellAt st n with | some (.lst ws) => (clo ws).map .lst | _ => none
/-- two dicts: as many keys, each there with an equal value -/
def eqDct (ls us : List C) : List C → List C → Bool
  | k :: ks, v :: vs => (match lookD k ls us with | some u => eqC v u | none => false) && eqDct ls us ks vs
  | _, _ => true
def keyB : C → Bool
  | .int _ => true | .str _ => true | _ => false
def eqOp (st : S) (a b : W) : Option Bool := match a, b with
  | .c (.dct ks vs), .c (.dct ls us) => if ks.length = vs.length ∧ ls.length = us.length ∧ vs.all shp = true ∧ us.all shp = true then some (decide (ks.length = ls.length) && (if ks.length = ls.length then eqDct ls us ks vs else true)) else none
  | a, b => match dat st a, dat st b with
    | some x, some y => if shp x && shp y then some (eqC x y) else none
    | _, _ => none
def flt : C → Bool
  | .non => true | .bl _ => true | .int _ => true | .str _ => true | _ => false
def inOp (st : S) (a b : W) : Option Bool := match dat st a, dat st b with
  | some x, some (.lst ys) => if shp x && shp (.lst ys) then some (ys.any fun y => eqC y x) else none
  | some x, some (.tup ys) => if flt x && ys.all flt then some (ys.any fun y => eqC y x) else none
  | _, _ => none
def ord : Cop → Int → Int → Option Bool
  | .lt, i, j => some (decide (i < j)) | .le, i, j => some (decide (i ≤ j)) | .gt, i, j => some (decide (j < i)) | .ge, i, j => some (decide (j ≤ i))
  | _, _, _ => none
def toB (o : Option Bool) (st : S) : Res W := match o with | some b => okc (.bl b) st | none => .stuck
def ordOp (op : Cop) : W → W → S → Res W
  | .c (.int i), .c (.int j), st => toB (ord op i j) st
  | _, _, _ => .stuck
def ixN (n : Nat) (i : Int) : Option Nat := if 0 ≤ i then (if i < n then some i.toNat else none) else if -(n : Int) ≤ i then some (i + n).toNat else none
def cutL {α : Type} (xs : List α) (lo hi : Option Int) : List α := (xs.drop (HT.sIx xs.length 0 lo)).take (HT.sIx xs.length xs.length hi - HT.sIx xs.length 0 lo)

/-! ### the program's tables -/
structure Df where
  n : Nat
  np : Nat
  dfl : List C := []
  body : Sx
  keep : Bool := false
  /-- what is left over goes into a tuple -/
  star : Bool := false
  /-- the defaults of those by name alone -/
  kwo : List C := []
  /-- just so many are given; the parameters' places among them, or among those defaults -/
  arr : Option (Nat × List (Nat ⊕ Nat)) := none
  hot : Bool := false
/-- a lambda handed to a def that calls it in a try: the names that it reads, its text, the def's clauses and what follows -/
structure Th where
  n : Nat
  slots : List Nat
  e : Ex
  m : Nat
  hs : Sx
  rest : Sx
structure Gd where
  df : Nat → Option Df
  con : Nat → Option C
  known : Nat → Bool
  fld : Nat → Nat → Bool
  meth : Nat → Nat → Option Nat
  prop : Nat → Nat → Option Nat
  init : Nat → Option Nat
  frz : Nat → Bool
  eqm : Nat → Option Nat
  getm : Nat → Option Nat
  lenm : Nat → Option Nat
  inm : Nat → Option Nat
  andm : Nat → Option Nat
  /-- of exceptions: is one class under another; the field -/
  xsub : Nat → Nat → Option Bool := fun _ _ => none
  xfld : Nat → Option Nat := fun _ => none
  thk : Nat → Option Th := fun _ => none
abbrev Cl := Nat → List W → S → Res W

/-! ### what asks the program's own defs -/
section
variable (g : Gd) (cl : Cl)
/-- a truth value is wanted: it is turned over or not -/
def negR (n : Bool) : Res W → Res W
  | .ok (.c (.bl b)) st => okc (.bl (b != n)) st
  | .ok _ _ => .stuck
  | .ex c x st => .ex c x st
  | .stuck => .stuck
def eqR (n : Bool) (a b : W) (st : S) : Res W :=
  match clsOf st a with
  | some c => match g.eqm c with
    | some f => match clsOf st b with
      | some c' => if c' = c then negR n (cl f [a, b] st) else .stuck
      | none => match b with
        | .c _ => negR n (cl f [a, b] st)
        | .r _ => .stuck
    | none => .stuck
  | none => toB ((eqOp st a b).map fun t => t != n) st
def inR (n : Bool) (a b : W) (st : S) : Res W :=
  match clsOf st b with
  | some c => match g.inm c with
    | some f => negR n (cl f [b, a] st)
    | none => .stuck
  | none => toB ((inOp st a b).map fun t => t != n) st
def cmpop : Cop → W → W → S → Res W
  | .eq, a, b, st => eqR g cl false a b st
  | .ne, a, b, st => eqR g cl true a b st
  | .is, a, b, st => toB (isOp a b) st
  | .isnot, a, b, st => toB ((isOp a b).map not) st
  | .isin, a, b, st => inR g cl false a b st
  | .notin, a, b, st => inR g cl true a b st
  | op, a, b, st => ordOp op a b st
def bin (op : Bop) (a b : W) (st : S) : Res W :=
  match op, clsOf st a with
  | .band, some c => match g.andm c with
    | some f => if clsOf st b = some c then cl f [a, b] st else .stuck
    | none => .stuck
  | op, _ => binop op a b st
def getix (o i : W) (st : S) : Res W :=
  match clsOf st o with
  | some c => match g.getm c with
    | some f => cl f [o, i] st
    | none => .stuck
  | none => match dctW st o, i with
    | some (ks, ws), .c k => match lookD k ks ws with
      | some w => .ok w st
      | none => .stuck
    | some _, .r _ => .stuck
    | none, i => match seqW st o, i with
      | some ws, .c (.int k) => match (ixN ws.length k).bind fun j => ws[j]? with
        | some w => .ok w st
        | none => .stuck
      | _, _ => .stuck
def part : List W → Option (Option Int)
  | [] => some none | [.c (.int i)] => some (some i) | _ => none
def partR (ws : List W) (st : S) : Res (Option Int) := match part ws with | some o => .ok o st | none => .stuck
def slice (o : W) (l h : Option Int) (st : S) : Res W :=
  match o with
  | .c (.tup cs) => okc (.tup (cutL cs l h)) st
  | .c (.lst cs) => okc (.lst (cutL cs l h)) st
  | .c (.frz cs) => okc (.lst (cutL cs l h)) st
  | .r n => match cellAt st n with
    | some (.lst ws) => match clo (cutL ws l h) with | some cs => okc (.lst cs) st | none => .stuck
    | _ => .stuck
  | _ => .stuck
def methOf (st : S) (x : W) (m : Nat) : Option Nat :=
  match clsOf st x, fldOf st m x with
  | some c, none => g.meth c m
  | _, _ => none
def noex : Res W → Res W
  | .ex _ _ _ => .stuck
  | r => r
def attr (x : W) (f : Nat) (st : S) : Res W :=
  match clsOf st x with
  | some c => match g.prop c f with
    | some p => noex (cl p [x] st)
    | none => if g.fld c f then match fldOf st f x with
        | some w => .ok w st
        | none => .stuck
      else .stuck
  | none => .stuck
/-- a cell's content as a closed value -/
def freeze (st : S) (n : Nat) : Option C := match cellAt st n with
  | some (.lst ws) => (clo ws).map .lst
  | some (.ins c fs vs) => (clo vs).map (.ins c fs)
  | some (.dct ks vs) => (clo vs).map (.dct ks)
  | none => none
/-- the items with their cells read by d -/
def deeps (d : Nat → Option C) : List W → Option (List C)
  | [] => some []
  | .c x :: ws => match deeps d ws with | some cs => some (x :: cs) | none => none
  | .r m :: ws => match d m, deeps d ws with | some x, some cs => some (x :: cs) | _, _ => none
/-- a cell with all that hangs on it as a closed value; no cell below k -/
def deep (st : S) (k : Nat) : Nat → Nat → Option C
  | 0, _ => none
  | f + 1, m => if m < k then none else match cellAt st m with
    | some (.lst ws) => (deeps (deep st k f) ws).map .lst
    | some (.ins c fs ws) => (deeps (deep st k f) ws).map (.ins c fs)
    | some (.dct ks ws) => (deeps (deep st k f) ws).map (.dct ks)
    | none => none
/-- the end of a call that began with n cells: what it made goes -/
def fin (n : Nat) (keep : Bool) : Res W → Res W
  | .ok (.c x) st => .ok (.c x) (if keep then st else st.take n)
  | .ok (.r m) st => if keep then .ok (.r m) st else if m < n then .ok (.r m) (st.take n) else match deep st n 8 m with
    | some x => .ok (.c x) (st.take n)
    | none => .stuck
  | .ex c x st => .ex c x (if keep then st else st.take n)
  | .stuck => .stuck
def mkf (f c : Nat) (ws : List W) (st : S) : Res W :=
  match cl f (.r st.length :: ws) (st ++ [some (.ins c [] [])]) with
    | .ok (.c .non) st' => if g.frz c then match freeze st' st.length with
        | some x => .ok (.c x) (st'.take st.length)
        | none => .stuck
      else .ok (.r st.length) st'
    | .ok _ _ => .stuck
    | .ex c x st' => .ex c x (st'.take st.length)
    | .stuck => .stuck
def mk (c : Nat) (ws : List W) (st : S) : Res W :=
  match g.init c with
  | some f => mkf g cl f c ws st
  | none => .stuck
/-- the items of a sequence that is closed -/
def starW : W → Option (List W)
  | .c (.tup cs) => some (cs.map .c) | .c (.lst cs) => some (cs.map .c) | .c (.frz cs) => some (cs.map .c)
  | _ => none
end

/-! ### built-in functions, methods -/
def bools : List W → Option (List Bool)
  | [] => some [] | .c (.bl b) :: ws => (bools ws).map (b :: ·) | _ => none
def intsOf : List W → Option (List Int)
  | [] => some [] | .c (.int i) :: ws => (intsOf ws).map (i :: ·) | _ => none
def nonsInts : List W → Option (List (Option Int))
  | [] => some [] | .c (.int i) :: ws => (nonsInts ws).map (some i :: ·) | _ => none
def sortI (xs : List Int) : List Int := xs.mergeSort (fun a b => decide (a ≤ b))
def lenW (st : S) (w : W) : Option Nat := match w with
  | .c (.str s) => if s.length ≤ 16777216 then some s.length else none
  | w => (seqW st w).map List.length
/-- those whose result is a new list -/
def bfnL : Bfn → List W → S → Option (List W)
  | .list, [w], st => match seqW st w with | some ws => if ws.length ≤ 16777216 then some ws else none | none => none
  | .sorted, [w], st => match listW st w with
    | some ws => match intsOf ws with | some ns => if ns.length < 64 then some ((sortI ns).map fun i => .c (.int i)) else none | none => none
    | none => none
  | _, _, _ => none
def boolsF (f : List Bool → Bool) (ws : List W) (st : S) : Res W := match ws with
  | [w] => match (listW st w).bind bools with | some bs => okc (.bl (f bs)) st | none => .stuck
  | _ => .stuck
def intF (ws : List W) (st : S) : Res W := match ws with
  | [.c (.int i)] => okc (.int i) st
  | [.c (.bl b)] => okc (.int (if b then 1 else 0)) st
  | _ => .stuck
def absF (ws : List W) (st : S) : Res W := match ws with
  | [.c (.int i)] => okc (.int (if i < 0 then -i else i)) st
  | _ => .stuck
def minL : List Int → Option Int
  | [] => none | x :: xs => some (xs.foldl (fun a b => if b < a then b else a) x)
def maxL : List Int → Option Int
  | [] => none | x :: xs => some (xs.foldl (fun a b => if a < b then b else a) x)
def minF (ws : List W) (st : S) : Res W := match ws with
  | [.c (.int i), .c (.int j)] => okc (.int (if j < i then j else i)) st
  | [w] => match ((listW st w).bind intsOf).bind minL with | some m => okc (.int m) st | none => .stuck
  | _ => .stuck
def maxF (ws : List W) (st : S) : Res W := match ws with
  | [.c (.int i), .c (.int j)] => okc (.int (if j > i then j else i)) st
  | [w] => match ((listW st w).bind intsOf).bind maxL with | some m => okc (.int m) st | none => .stuck
  | _ => .stuck
def sumF (ws : List W) (st : S) : Res W := match ws with
  | [w] => match (listW st w).bind intsOf with | some ns => okc (.int ns.sum) st | none => .stuck
  | _ => .stuck
def tupleF (ws : List W) (st : S) : Res W := match ws with
  | [.c (.tup cs)] => okc (.tup cs) st
  | [w] => match (listW st w).bind clo with | some cs => okc (.tup cs) st | none => .stuck
  | _ => .stuck
/-- what may be shown -/
def showB (c : C) : Bool := PyData.showable (toD c) && decide ((PyData.shown (toD c)).length ≤ 16777216)
def shownC (c : C) : List Nat := (PyData.shown (toD c)).cps.toList
def reprF (ws : List W) (st : S) : Res W := match ws with
  | [.c (.dct [] [])] => okc (.str [123, 125]) st
  | [w] => match dat st w with
    | some c => if shp c && showB c then okc (.str (shownC c)) st else .stuck
    | none => .stuck
  | _ => .stuck
def strF (ws : List W) (st : S) : Res W := match ws with
  | [.c (.int i)] => if i.natAbs.log2 < 1920 then okc (.str (shownC (.int i))) st else .stuck
  | [.c (.str s)] => okc (.str s) st
  | _ => .stuck
section
variable (g : Gd) (cl : Cl)
def lenB : Res W → Res W
  | .ok (.c (.int n)) st => if 0 ≤ n ∧ n < 2 ^ 63 then okc (.int n) st else .stuck
  | .ex c x st => .ex c x st
  | _ => .stuck
def lenF (ws : List W) (st : S) : Res W := match ws with
  | [w] => match clsOf st w with
    | some c => match g.lenm c with
      | some f => lenB (cl f [w] st)
      | none => .stuck
    | none => match lenW st w with | some n => okc (.int n) st | none => .stuck
  | _ => .stuck
def bfn : Bfn → List W → S → Res W
  | .len => lenF g cl
  | .all => boolsF fun bs => bs.all id
  | .any => boolsF fun bs => bs.any id
  | .int => intF
  | .abs => absF
  | .min => minF
  | .max => maxF
  | .sum => sumF
  | .tuple => tupleF
  | .repr => reprF
  | .str => strF
  | b => fun ws st => match (bfnL b ws st).bind clo with | some cs => okc (.lst cs) st | none => .stuck
end
/-- what is put into the list n: a later cell is closed, and goes -/
def closeW (st : S) (n : Nat) : W → Option (W × S)
  | .c x => some (.c x, st)
  | .r m => if m < n then some (.r m, st) else if m = n then none else match freeze st m with
    | some x => some (.c x, st.set m none)
    | none => none
def idxOf (y : C) : List C → Nat → Option Nat
  | [], _ => none
  | x :: xs, i => if eqC x y then some i else idxOf y xs (i + 1)
def isL (st : S) (w : W) : Bool := (listW st w).isSome
def bmAppend (o : W) (ws : List W) (st : S) : Res W := match o, ws with
  | .r n, [w] => match cellAt st n with
    | some (.lst xs) => if xs.length < 16777216 then match closeW st n w with
        | some (x, st') => okc .non (setCell st' n (.lst (xs ++ [x])))
        | none => .stuck
      else .stuck
    | _ => .stuck
  | _, _ => .stuck
def bmInsert (o : W) (ws : List W) (st : S) : Res W := match o, ws with
  | .r n, [.c (.int i), w] => match cellAt st n with
    | some (.lst xs) => if 0 ≤ i ∧ i < 2 ^ 63 ∧ xs.length < 16777216 then match closeW st n w with
        | some (x, st') => okc .non (setCell st' n (.lst (xs.take i.toNat ++ [x] ++ xs.drop i.toNat)))
        | none => .stuck
      else .stuck
    | _ => .stuck
  | _, _ => .stuck
def lowW (n : Nat) : W → Bool
  | .r k => decide (k < n) | _ => true
def bmExtend (o : W) (ws : List W) (st : S) : Res W := match o, ws with
  | .r n, [w] => match cellAt st n, w with
    | some (.lst xs), .c (.lst cs) => if xs.length + cs.length ≤ 16777216 then okc .non (setCell st n (.lst (xs ++ cs.map .c))) else .stuck
    | some (.lst xs), .r m => match cellAt st m with
      | some (.lst ys) => if xs.length + ys.length ≤ 16777216 ∧ ys.all (lowW n) = true then okc .non (setCell st n (.lst (xs ++ ys))) else .stuck
      | _ => .stuck
    | _, _ => .stuck
  | _, _ => .stuck
def bmPop (o : W) (ws : List W) (st : S) : Res W := match o, ws with
  | .r n, [] => match cellAt st n with
    | some (.lst xs) => match xs[xs.length - 1]? with
      | some w => .ok w (setCell st n (.lst xs.dropLast))
      | none => .stuck
    | _ => .stuck
  | _, _ => .stuck
def bmPopAt (o : W) (ws : List W) (st : S) : Res W := match o, ws with
  | .r n, [.c (.int i)] => match cellAt st n with
    | some (.lst xs) => if 0 ≤ i ∧ i < xs.length ∧ xs.length ≤ 16777216 then match xs[i.toNat]? with
        | some w => .ok w (setCell st n (.lst (xs.eraseIdx i.toNat)))
        | none => .stuck
      else .stuck
    | _ => .stuck
  | _, _ => .stuck
def bmIndex (o : W) (ws : List W) (st : S) : Res W := match ws with
  | [w] => match dat st o, dat st w with
    | some (.lst xs), some y => if shp (.lst xs) && shp y then match idxOf y xs 0 with | some i => okc (.int i) st | none => .stuck else .stuck
    | _, _ => .stuck
  | _ => .stuck
def bmCount (o : W) (ws : List W) (st : S) : Res W := match ws with
  | [w] => match dat st o, dat st w with
    | some (.lst xs), some y => if shp (.lst xs) && shp y then okc (.int ((xs.countP fun x => eqC x y : Nat) : Int)) st else .stuck
    | _, _ => .stuck
  | _ => .stuck
def bmeth : Bm → W → List W → S → Res W
  | .append => bmAppend
  | .insert => bmInsert
  | .extend => bmExtend
  | .pop => bmPop
  | .popat => bmPopAt
  | .index => bmIndex
  | .count => bmCount

/-! ### targets, loops -/
mutual
def bindTg (st : S) : Tg → W → Env → Option Env
  | .n i, w, env => some (env.set i (some w))
  | .t a, w, env => match w with
    | .c (.tup cs) => bindTgs st a (cs.map .c) env
    | .c (.lst cs) => bindTgs st a (cs.map .c) env
    | .c (.frz cs) => bindTgs st a (cs.map .c) env
    | _ => none
  | _, _, _ => none
def bindTgs (st : S) : Tg → List W → Env → Option Env
  | .nil, [], env => some env
  | .cons a b, w :: ws, env => match bindTg st a w env with | some env' => bindTgs st b ws env' | none => none
  | _, _, _ => none
end
/-- the slots of a comprehension's own names are empty ahead of it -/
def wipeE (env : Env) : List Nat → Env
  | [] => env | v :: vs => (wipeE env vs).set v none
/-- what may not raise -/
def Res.tame {α : Type} : Res α → Res α
  | .ok a st => .ok a st
  | _ => .stuck
mutual
/-- the same value, sign by sign -/
def beqC : C → C → Bool
  | .non, .non => true
  | .bl a, .bl b => a == b
  | .int i, .int j => decide (i = j)
  | .str a, .str b => decide (a = b)
  | .tup a, .tup b => beqCs a b
  | .lst a, .lst b => beqCs a b
  | .frz a, .frz b => beqCs a b
  | .dct k a, .dct l b => beqCs k l && beqCs a b
  | .ins c f a, .ins d h b => decide (c = d) && decide (f = h) && beqCs a b
  | _, _ => false
def beqCs : List C → List C → Bool
  | [], [] => true
  | a :: as, b :: bs => beqC a b && beqCs as bs
  | _, _ => false
end
def beqWs : List W → List W → Bool
  | [], [] => true
  | .c a :: as, .c b :: bs => beqC a b && beqWs as bs
  | .r n :: as, .r m :: bs => decide (n = m) && beqWs as bs
  | _, _ => false
/-- the list that is walked, where it could change: it has not -/
def lkOk : Option Nat → List W → S → Bool
  | none, _, _ => true
  | some n, ws, st => match cellAt st n with
    | some (.lst xs) => beqWs xs ws
    | _ => false
def lkE : Ex → Env → Option Nat
  | .itr i, env => match env[i]? with | some (some (.r n)) => some n | _ => none
  | _, _ => none
def lcGo (lk : S → Bool) (tg : Tg) (c : Env → S → Res Bool) (e : Env → S → Res W) (env : Env) : List W → S → Res (List W)
  | [], st => if lk st then .ok [] st else .stuck
  | w :: ws, st => match bindTg st tg w env, lk st with
    | none, _ => .stuck
    | _, false => .stuck
    | some env', true => (c env' st).tame.bind fun t st1 => match t with
      | false => lcGo lk tg c e env ws st1
      | true => (e env' st1).tame.bind fun x st2 => (lcGo lk tg c e env ws st2).bind fun r st3 => .ok (x :: r) st3
def forGo (lk : S → Bool) (tg : Tg) (b : Env → S → Res Fl) : List W → Env → S → Res Fl
  | [], env, st => if lk st then .ok (.nx env) st else .stuck
  | w :: ws, env, st => match bindTg st tg w env, lk st with
    | none, _ => .stuck
    | _, false => .stuck
    | some env', true => (b env' st).bind fun f st1 => match f with
      | .nx env1 => forGo lk tg b ws env1 st1
      | .ct env1 => forGo lk tg b ws env1 st1
      | .bk env1 => .ok (.nx env1) st1
      | .rt w => .ok (.rt w) st1
def whGo (c : Env → S → Res Bool) (b : Env → S → Res Fl) : Nat → Env → S → Res Fl
  | 0, _, _ => .stuck
  | n + 1, env, st => (c env st).bind fun t st1 => match t with
    | false => .ok (.nx env) st1
    | true => (b env st1).bind fun f st2 => match f with
      | .nx env1 => whGo c b n env1 st2
      | .ct env1 => whGo c b n env1 st2
      | .bk env1 => .ok (.nx env1) st2
      | .rt w => .ok (.rt w) st2
def natsTo (lo : Int) : Nat → List W
  | 0 => [] | n + 1 => .c (.int lo) :: natsTo (lo + 1) n
def enumGo : Int → List C → List W
  | _, [] => [] | i, c :: cs => .c (.tup [.int i, c]) :: enumGo (i + 1) cs
def zipGo : List C → List C → List W
  | a :: as, b :: bs => .c (.tup [a, b]) :: zipGo as bs | _, _ => []

/-! ### expressions -/
structure Sm where
  v : Env → S → Res W
  t : Env → S → Res Bool
  l : Env → S → Res (List W)
def truR (w : W) (st : S) : Res Bool := match tru st w with | some b => .ok b st | none => .stuck
/-- of a value alone -/
def Sm.ofV (v : Env → S → Res W) : Sm := ⟨v, fun env st => (v env st).bind truR, fun _ _ => .stuck⟩
/-- of a new list -/
def Sm.ofL (l : Env → S → Res (List W)) : Sm :=
  ⟨fun env st => (l env st).bind fun ws st' => match clo ws with | some cs => okc (.lst cs) st' | none => .stuck,
   fun env st => (l env st).bind fun ws st' => .ok (!ws.isEmpty) st', l⟩
/-- of items to be walked -/
def Sm.ofI (l : Env → S → Res (List W)) : Sm := ⟨fun _ _ => .stuck, fun _ _ => .stuck, l⟩
/-- the class of every instance that comes is known -/
def knownW (g : Gd) (st : S) (w : W) : Bool := match clsOf st w with | some c => g.known c | none => true
/-- the exception that is handled: its class, its value, behind the names -/
def xtup (c : Nat) (x : C) : C := .tup [.int c, x]
def xcur (env : Env) : Option (Nat × C) := match env.getLast? with
  | some (some (.c (.tup [.int c, x]))) => some (c.toNat, x)
  | _ => none
def xenv (n c : Nat) (x : C) : Env := List.replicate n none ++ [some (.c (xtup c x))]
/-- comparisons, subscripts that ask no def -/
def hcmpop (op : Cop) (a b : W) (st : S) : Res W := match op, dat st a, dat st b with
  | .eq, some x, some y => if shp x && shp y then okc (.bl (eqC x y)) st else .stuck
  | .ne, some x, some y => if shp x && shp y then okc (.bl (!eqC x y)) st else .stuck
  | op, _, _ => ordOp op a b st
def hgetix (o i : W) (st : S) : Res W := match clsOf st o, dctW st o, seqW st o, i with
  | none, none, some ws, .c (.int k) => match (ixN ws.length k).bind fun j => ws[j]? with
    | some w => .ok w st
    | none => .stuck
  | _, _, _, _ => .stuck
section
variable (g : Gd) (cl : Cl)
def sem : Ex → Sm
  | .var i => .ofV fun env st => match env[i]? with | some (some w) => .ok w st | _ => .stuck
  | .int i => .ofV fun _ st => okc (.int i) st
  | .bl b => .ofV fun _ st => okc (.bl b) st
  | .non => .ofV fun _ st => okc .non st
  | .str s => .ofV fun _ st => okc (.str s) st
  | .glob i => .ofV fun _ st => match g.con i with | some c => okc c st | none => .stuck
  | .bin op a b => let A := sem a; let B := sem b
    .ofV fun env st => (A.v env st).bind fun x st1 => (B.v env st1).bind fun y st2 => bin g cl op x y st2
  | .neg a => let A := sem a
    .ofV fun env st => (A.v env st).bind fun x st1 => match x with | .c (.int i) => okc (.int (-i)) st1 | _ => .stuck
  | .not a => let A := sem a
    ⟨fun env st => (A.v env st).bind fun x st1 => (truR x st1).bind fun b st2 => okc (.bl (!b)) st2,
     fun env st => (A.t env st).bind fun b st1 => .ok (!b) st1, fun _ _ => .stuck⟩
  | .cmp op a b => let A := sem a; let B := sem b
    .ofV fun env st => (A.v env st).bind fun x st1 => (B.v env st1).bind fun y st2 => cmpop g cl op x y st2
  | .cmp2 o1 o2 a b c => let A := sem a; let B := sem b; let D := sem c
    .ofV fun env st => (A.v env st).bind fun x st1 => (B.v env st1).bind fun y st2 => (cmpop g cl o1 x y st2).bind fun t st3 => match t with
      | .c (.bl true) => (D.v env st3).bind fun z st4 => cmpop g cl o2 y z st4
      | .c (.bl false) => okc (.bl false) st3
      | _ => .stuck
  | .and a b => let A := sem a; let B := sem b
    ⟨fun env st => (A.v env st).bind fun x st1 => (truR x st1).bind fun t st2 => match t with | true => B.v env st2 | false => .ok x st2,
     fun env st => (A.t env st).bind fun t st1 => match t with | true => B.t env st1 | false => .ok false st1, fun _ _ => .stuck⟩
  | .or a b => let A := sem a; let B := sem b
    ⟨fun env st => (A.v env st).bind fun x st1 => (truR x st1).bind fun t st2 => match t with | true => .ok x st2 | false => B.v env st2,
     fun env st => (A.t env st).bind fun t st1 => match t with | true => .ok true st1 | false => B.t env st1, fun _ _ => .stuck⟩
  | .ite c a b => let D := sem c; let A := sem a; let B := sem b
    ⟨fun env st => (D.t env st).bind fun t st1 => match t with | true => A.v env st1 | false => B.v env st1,
     fun env st => (D.t env st).bind fun t st1 => match t with | true => A.t env st1 | false => B.t env st1, fun _ _ => .stuck⟩
  | .tup es => let A := sem es
    .ofV fun env st => (A.l env st).bind fun ws st1 => match clo ws with | some cs => okc (.tup cs) st1 | none => .stuck
  | .dsp ks es => let A := sem es
    .ofV fun env st => (A.l env st).bind fun ws st1 => match clo ws with | some cs => okc (.dct (ks.map .str) cs) st1 | none => .stuck
  | .lst es => let A := sem es
    .ofL A.l
  | .madd a b => let A := sem a; let B := sem b
    .ofV fun env st => (A.v env st).bind fun x st1 => (B.v env st1).bind fun y st2 => maddOp x y st2
  | .mut e => let A := sem e
    .ofV fun env st => (A.l env st).bind fun ws st1 => .ok (.r st1.length) (st1 ++ [some (.lst ws)])
  | .call f es => let A := sem es
    .ofV fun env st => (A.l env st).bind fun ws st1 => cl f ws st1
  | .make c es => let A := sem es
    .ofV fun env st => (A.l env st).bind fun ws st1 => mk g cl c ws st1
  | .callk f es ks => let A := sem es; let B := sem ks
    .ofV fun env st => (A.l env st).bind fun ws st1 => (B.l env st1).bind fun zs st2 => cl f (ws ++ zs) st2
  | .makek c f es ks => let A := sem es; let B := sem ks
    .ofV fun env st => (A.l env st).bind fun ws st1 => (B.l env st1).bind fun zs st2 => mkf g cl f c (ws ++ zs) st2
  | .calls f e => let A := sem e
    .ofV fun env st => (A.v env st).bind fun w st1 => match starW w with | some ws => cl f ws st1 | none => .stuck
  | .makes c e => let A := sem e
    .ofV fun env st => (A.v env st).bind fun w st1 => match starW w with | some ws => mk g cl c ws st1 | none => .stuck
  | .meth o m es => let A := sem o; let B := sem es
    .ofV fun env st => (A.v env st).bind fun x st1 => match methOf g st1 x m with
      | some f => (B.l env st1).bind fun ws st2 => cl f (x :: ws) st2
      | none => .stuck
  | .attr o f => let A := sem o
    .ofV fun env st => (A.v env st).bind fun x st1 => attr g cl x f st1
  | .ix o i => let A := sem o; let B := sem i
    .ofV fun env st => (A.v env st).bind fun x st1 => (B.v env st1).bind fun y st2 => getix g cl x y st2
  | .sl o lo hi => let A := sem o; let B := sem lo; let D := sem hi
    .ofV fun env st => (A.v env st).bind fun x st1 => (B.l env st1).bind fun y st2 => (partR y st2).bind fun l st3 => (D.l env st3).bind fun z st4 => (partR z st4).bind fun h st5 => slice x l h st5
  | .bi b es => let A := sem es
    ⟨fun env st => (A.l env st).bind fun ws st1 => bfn g cl b ws st1,
     fun env st => ((A.l env st).bind fun ws st1 => bfn g cl b ws st1).bind truR,
     fun env st => (A.l env st).bind fun ws st1 => match bfnL b ws st1 with | some r => .ok r st1 | none => .stuck⟩
  | .bm m o es => let A := sem o; let B := sem es
    .ofV fun env st => (A.v env st).bind fun x st1 => if isL st1 x then (B.l env st1).bind fun ws st2 => bmeth m x ws st2 else .stuck
  | .isi e ts => let A := sem e
    .ofV fun env st => (A.v env st).bind fun x st1 => if knownW g st1 x then toB (isin st1 x ts) st1 else .stuck
  | .xis c => .ofV fun env st => match xcur env with
    | some (d, _) => toB (g.xsub d c) st
    | none => .stuck
  | .xat f => .ofV fun env st => match xcur env with
    | some (d, x) => if g.xfld d = some f then okc x st else .stuck
    | none => .stuck
  | .hcall f => .ofV fun env st => match xcur env with
    | some (d, x) => cl f [.c (xtup d x)] st
    | none => .stuck
  | .hcmp op a b => let A := sem a; let B := sem b
    .ofV fun env st => (A.v env st).bind fun x st1 => (B.v env st1).bind fun y st2 => hcmpop op x y st2
  | .hix o i => let A := sem o; let B := sem i
    .ofV fun env st => (A.v env st).bind fun x st1 => (B.v env st1).bind fun y st2 => hgetix x y st2
  | .lc elt tg it cnd vs => let E := sem elt; let I := sem it; let D := sem cnd
    .ofL fun env st => (I.l env st).bind fun ws st1 => if ws.length ≤ 16777216 then lcGo (lkOk (lkE it env) ws) tg D.t E.v (wipeE env vs) ws st1 else .stuck
  | .itv a => let A := sem a
    .ofI fun env st => (A.v env st).bind fun x st1 => match x with
      | .c (.lst cs) => .ok (cs.map .c) st1 | .c (.tup cs) => .ok (cs.map .c) st1 | .c (.frz cs) => .ok (cs.map .c) st1
      | .c (.str s) => .ok (s.map fun k => .c (.str [k])) st1
      | _ => .stuck
  | .itr i => .ofI fun env st => match env[i]? with
    | some (some (.r n)) => (match cellAt st n with | some (.lst ws) => .ok ws st | _ => .stuck)
    | some (some (.c (.lst cs))) => .ok (cs.map .c) st
    | some (some (.c (.tup cs))) => .ok (cs.map .c) st
    | some (some (.c (.frz cs))) => .ok (cs.map .c) st
    | some (some (.c (.str s))) => .ok (s.map fun k => .c (.str [k])) st
    | _ => .stuck
  | .rng1 a => let A := sem a
    .ofI fun env st => (A.v env st).bind fun x st1 => match x with
      | .c (.int j) => if -(2 ^ 62) ≤ j ∧ j < 2 ^ 62 then .ok (natsTo 0 j.toNat) st1 else .stuck
      | _ => .stuck
  | .rng2 a b => let A := sem a; let B := sem b
    .ofI fun env st => (A.v env st).bind fun x st1 => (B.v env st1).bind fun y st2 => match x, y with
      | .c (.int i), .c (.int j) => if -(2 ^ 62) ≤ i ∧ i < 2 ^ 62 ∧ -(2 ^ 62) ≤ j ∧ j < 2 ^ 62 then .ok (natsTo i (j - i).toNat) st2 else .stuck
      | _, _ => .stuck
  | .enum a => let A := sem a
    .ofI fun env st => (A.v env st).bind fun x st1 => match x with
      | .c (.lst cs) => .ok (enumGo 0 cs) st1 | .c (.frz cs) => .ok (enumGo 0 cs) st1 | .c (.tup cs) => .ok (enumGo 0 cs) st1 | _ => .stuck
  | .zip a b => let A := sem a; let B := sem b
    .ofI fun env st => (A.v env st).bind fun x st1 => (B.v env st1).bind fun y st2 => match x, y with
      | .c (.lst cs), .c (.lst ds) => .ok (zipGo cs ds) st2 | .c (.tup cs), .c (.tup ds) => .ok (zipGo cs ds) st2 | _, _ => .stuck
  | .nil => .ofI fun _ st => .ok [] st
  | .cons e es => let A := sem e; let B := sem es
    .ofI fun env st => (A.v env st).bind fun x st1 => (B.l env st1).bind fun ws st2 => .ok (x :: ws) st2
end

/-! ### statements -/
def sets : List Nat → List W → Env → Option Env
  | [], [], env => some env
  | i :: is, w :: ws, env => sets is ws (env.set i (some w))
  | _, _, _ => none
section
variable (g : Gd) (cl : Cl) (fu : Nat)
def storeIx (o i w : W) (st : S) : Res Unit :=
  match o, i, w with
  | .r n, .c (.int k), .c x => match cellAt st n with
    | some (.lst xs) => match ixN xs.length k with
      | some j => .ok () (setCell st n (.lst (xs.set j (.c x))))
      | none => .stuck
    | _ => .stuck
  | _, _, _ => .stuck
/-- .. by a name: a later cell is put into a list; the list then stands behind it -/
def storeMv (o : Ex) (x y w : W) (env : Env) (st : S) : Res Fl := match w with
  | .c c => (storeIx x y (.c c) st).bind fun _ st4 => .ok (.nx env) st4
  | .r m => match o, x, y with
    | .var v, .r n, .c (.int k) => (match cellAt st n with
      | some (.lst xs) => if n < m ∧ m < st.length then (match ixN xs.length k with
        | some j => .ok (.nx (env.set v (some (.r st.length)))) (st.set n none ++ [some (.lst (xs.set j (.r m)))])
        | none => .stuck) else .stuck
      | _ => .stuck)
    | _, _, _ => .stuck
def putFld (f : Nat) (w : W) : List Nat → List W → List Nat × List W
  | f' :: fs, v :: vs => if f = f' then (f' :: fs, w :: vs) else let r := putFld f w fs vs; (f' :: r.1, v :: r.2)
  | _, _ => ([f], [w])
def storeFld (g : Gd) (o : W) (f : Nat) (w : W) (st : S) : Res Unit :=
  match o, w with
  | .r n, .c x => match cellAt st n with
    | some (.ins c fs vs) => if fs.length < 900 && g.fld c f then .ok () (setCell st n (.ins c (putFld f (.c x) fs vs).1 (putFld f (.c x) fs vs).2)) else .stuck
    | _ => .stuck
  | _, _ => .stuck
/-- is it one that the clause names -/
def xmatch (g : Gd) (c : Nat) : List Nat → Option Bool
  | [] => some false
  | d :: ds => match g.xsub c d with
    | some true => some true
    | some false => xmatch g c ds
    | none => none
/-- behind a suite: nothing is known of the names -/
def hend : Res Fl → Res Fl
  | .ok (.nx env) st => .ok (.nx (List.replicate (env.length - 1) none)) st
  | .ok (.bk env) st => .ok (.bk (List.replicate (env.length - 1) none)) st
  | .ok (.ct env) st => .ok (.ct (List.replicate (env.length - 1) none)) st
  | .ok (.rt w) st => .ok (.rt w) st
  | _ => .stuck
def stm : Sx → Env → S → Res Fl
  | .set i e => fun env st => ((sem g cl e).v env st).bind fun w st1 => .ok (.nx (env.set i (some w))) st1
  | .tset tg e => fun env st => ((sem g cl e).v env st).bind fun w st1 => match bindTg st1 tg w env with
    | some env' => .ok (.nx env') st1
    | none => .stuck
  | .par is es => fun env st => ((sem g cl es).l env st).bind fun ws st1 => match sets is ws env with
    | some env' => .ok (.nx env') st1
    | none => .stuck
  | .setix o i e => fun env st => ((sem g cl e).v env st).bind fun w st1 => ((sem g cl o).v env st1).bind fun x st2 => ((sem g cl i).v env st2).bind fun y st3 =>
    storeMv o x y w env st3
  | .setfld o f e => fun env st => ((sem g cl e).v env st).bind fun w st1 => ((sem g cl o).v env st1).bind fun x st2 => (storeFld g x f w st2).bind fun _ st3 => .ok (.nx env) st3
  | .expr e => fun env st => ((sem g cl e).v env st).bind fun _ st1 => .ok (.nx env) st1
  | .ret e => fun env st => ((sem g cl e).v env st).bind fun w st1 => .ok (.rt w) st1
  | .retN => fun env st => .ok (.rt (.c .non)) st
  | .ite c a b => fun env st => ((sem g cl c).t env st).bind fun t st1 => match t with | true => stm a env st1 | false => stm b env st1
  | .for tg it body => fun env st => ((sem g cl it).l env st).bind fun ws st1 => forGo (lkOk (lkE it env) ws) tg (stm body) ws env st1
  | .while c body => fun env st => whGo (sem g cl c).t (stm body) fu env st
  | .raise c e => fun env st => ((sem g cl e).v env st).bind fun w st1 => match w with | .c x => .ex c x st1 | .r _ => .stuck
  | .tri body hs => fun env st => match stm body env st with
    | .ex c x st1 => stm hs (xenv env.length c x) st1
    | r => r
  | .hnil => fun env st => match xcur env with
    | some (c, x) => .ex c x st
    | none => .stuck
  | .hcons cs suite rest => fun env st => match xcur env with
    | some (c, _) => (match xmatch g c cs with
      | some true => hend (stm suite env st)
      | some false => stm rest env st
      | none => .stuck)
    | none => .stuck
  | .never => fun _ _ => .stuck
  | .pass => fun env st => .ok (.nx env) st
  | .brk => fun env st => .ok (.bk env) st
  | .cont => fun env st => .ok (.ct env) st
  | .nil => fun env st => .ok (.nx env) st
  | .cons s ss => fun env st => (stm s env st).bind fun f st1 => match f with
    | .nx env1 => stm ss env1 st1
    | f => .ok f st1
end
def endS : Res Fl → Res W
  | .ok (.rt w) st => .ok w st
  | .ok (.nx _) st => okc .non st
  | .ok _ _ => .stuck
  | .ex c x st => .ex c x st
  | .stuck => .stuck
def pickW (ws : List W) (kwo : List C) : Nat ⊕ Nat → W
  | .inl i => ws.getD i (.c .non)
  | .inr j => .c (kwo.getD j .non)
def fill (d : Df) (ws : List W) : Option (List W) := match d.arr with
  | some (n, l) => if ws.length = n then some (l.map (pickW ws d.kwo)) else none
  | none => if d.star then (if d.np ≤ ws.length + 1 ∧ ws.length ≤ 16777216 then match clo (ws.drop (d.np - 1)) with
      | some cs => some (ws.take (d.np - 1) ++ [.c (.tup cs)])
      | none => none
    else none)
    else some (ws ++ (d.dfl.drop (ws.length + d.dfl.length - d.np)).map .c)
def startE (n : Nat) (ws : List W) : Env := ws.map some ++ List.replicate (n - ws.length) none
def run (g : Gd) (cl : Cl) (fu : Nat) (d : Df) (ws : List W) (st : S) : Res W :=
  if ws.length = d.np then fin st.length d.keep (endS (stm g cl fu d.body (startE d.n ws) st)) else .stuck
def thkS (g : Gd) (cl : Cl) (fu : Nat) (t : Th) (env : Env) (st : S) : Res Fl := match (sem g cl t.e).v env st with
  | .ok _ st1 => .ok (.nx (List.replicate t.m none)) st1
  | .ex c x st1 => stm g cl fu t.hs (xenv t.m c x) st1
  | .stuck => .stuck
def runT (g : Gd) (cl : Cl) (fu : Nat) (t : Th) (ws : List W) (st : S) : Res W := match sets t.slots ws (List.replicate t.n none) with
  | some env => fin st.length false (endS ((thkS g cl fu t env st).bind fun f st1 => match f with
    | .nx env1 => stm g cl fu t.rest env1 st1
    | f => .ok f st1))
  | none => .stuck
/-- a def that is handed the exception that is handled -/
def runH (g : Gd) (cl : Cl) (fu : Nat) (d : Df) (ws : List W) (st : S) : Res W := match ws with
  | [.c (.tup [.int c, x])] => fin st.length d.keep (endS (stm g cl fu d.body (xenv d.n c.toNat x) st))
  | _ => .stuck
def call (g : Gd) (fu : Nat) : Nat → Cl
  | 0 => fun _ _ _ => .stuck
  | k + 1 => fun f ws st => match g.df f with
    | some d => if d.hot then runH g (call g fu k) fu d ws st else match fill d ws with
      | some ws' => run g (call g fu k) fu d ws' st
      | none => .stuck
    | none => match g.thk f with
      | some t => runT g (call g fu k) fu t ws st
      | none => .stuck
end Ev

/-! Sim: what a value, a cell of the evaluator is in the model's heap. -/
namespace Ev
open PySem PySem.Spec PyProof.Rows L2

/-- the exception that is handled: where, its class, its dict, the slot of its name -/
structure Xa where
  a : Addr
  c : Nat
  d : Option Addr
  j : Option Nat
/-- where the program's things stand -/
structure Tb where
  P : Program
  w : World
  K : PySem.W.Frag
  mg : PySem.Str → Option Value
  base : Heap
  g : Gd
  /-- classes, exception classes, names of fields -/
  ca : Nat → Addr
  ea : Nat → Addr
  nm : Nat → PySem.Str
  /-- entries by keywords: the def, how many by position, the names -/
  fk : Nat → Option (Addr × Nat × List PySem.Str) := fun _ => none
  exa : Option Xa := none
  /-- the defs that are called in except suites -/
  hfa : Nat → Option Addr := fun _ => none
  /-- the defs that make lambdas, by their names' row: where their names stand, the code object, its table; the defs that are handed one -/
  lamN : List PySem.Str → Option (PySem.Str × Addr × Addr) := fun _ => none
  tha : Nat → Option Addr := fun _ => none
  /-- the tables of code objects of the defs that make lambdas -/
  tabs : List (Addr × PySem.Str) := []
def Tb.xf (T : Tb) (c : Nat) : Option PySem.Str := (T.g.xfld c).map T.nm

section
variable (T : Tb)
def strV (s : List Nat) : PySem.Str := ⟨s.toArray⟩
def zipF (fs : List Nat) (vs : List V) : List (PySem.Str × V) := (fs.map T.nm).zip vs
mutual
def RelC (R : Hp) : C → V → Prop
  | .non, v => v = .non
  | .bl b, v => v = .bl b
  | .int i, v => v = .int i
  | .str s, v => v = .str (strV s)
  | .tup cs, v => ∃ a vs, v = .ref a ∧ SqT T.K R a vs ∧ RelCs R cs vs
  | .lst cs, v => ∃ a vs, v = .ref a ∧ R a = some (.lst vs) ∧ RelCs R cs vs
  | .frz cs, v => ∃ a vs, v = .ref a ∧ SqL T.K R a vs ∧ RelCs R cs vs
  | .dct ks vs, v => ∃ (a : Addr) (us : List Key) (ws : List V), v = .ref a ∧ R a = some (.dK (us.zip ws)) ∧ us.length = ws.length ∧ RelCs R ks (us.map kV) ∧ RelCs R vs ws
  | .ins c fs vs, v => ∃ a dx ws, v = .ref a ∧ R a = some (.ins (T.ca c) dx (zipF T fs ws)) ∧ R dx = some (.own a) ∧ fs.length = ws.length ∧ RelCs R vs ws
def RelCs (R : Hp) : List C → List V → Prop
  | [], vs => vs = []
  | c :: cs, vs => ∃ v r, vs = v :: r ∧ RelC R c v ∧ RelCs R cs r
end
abbrev Mu := Nat → Option Addr
def RelW (R : Hp) (μ : Mu) : W → V → Prop
  | .c x, v => RelC T R x v
  | .r n, v => ∃ a, v = .ref a ∧ μ n = some a
def RelWs (R : Hp) (μ : Mu) : List W → List V → Prop
  | [], vs => vs = []
  | w :: ws, vs => ∃ v r, vs = v :: r ∧ RelW T R μ w v ∧ RelWs R μ ws r
def CellRel (R : Hp) (μ : Mu) (H : Hp) : Cell → Addr → Prop
  | .lst ws, a => ∃ vs, H a = some (.lst vs) ∧ RelWs T R μ ws vs
  | .ins c fs ws, a => ∃ dx vs, H a = some (.ins (T.ca c) dx (zipF T fs vs)) ∧ H dx = some (.own a) ∧ fs.length = vs.length ∧ RelWs T R μ ws vs
  | .dct ks ws, a => ∃ (us : List Key) (vs : List V), H a = some (.dK (us.zip vs)) ∧ us.length = vs.length ∧ RelCs T R ks (us.map kV) ∧ RelWs T R μ ws vs
def Cell.ws : Cell → List W
  | .lst ws => ws | .ins _ _ ws => ws | .dct _ ws => ws
/-- R: what will stay as it is; Pr: what somebody else watches -/
structure Sim (R Pr : Hp) (μ : Mu) (st : S) (H : Hp) : Prop where
  r : ∀ a o, R a = some o → H a = some o
  p : ∀ a o, Pr a = some o → H a = some o
  c : ∀ n x, cellAt st n = some x → ∃ a, μ n = some a ∧ R a = none ∧ Pr a = none ∧ CellRel T R μ H x a
  inj : ∀ n m x y a, cellAt st n = some x → cellAt st m = some y → μ n = some a → μ m = some a → n = m
  dom : ∀ n a, μ n = some a → n < st.length
  low : ∀ n x, cellAt st n = some x → ∀ m, W.r m ∈ x.ws → m < n
  d : ∀ a o, Pr a = some o → R a = none ∧ ((∃ xs, o = .lst xs) ∨ ∃ kv, o = .dK kv)
  t : LamX.Tabs T.tabs H
  nt : ∀ a ps, R a ≠ some (.tbl ps)
structure Le (R : Hp) (μ : Mu) (R' : Hp) (μ' : Mu) : Prop where
  r : ∀ a o, R a = some o → R' a = some o
  m : ∀ n a, μ n = some a → μ' n = some a
end
theorem Le.refl (R : Hp) (μ : Mu) : Le R μ R μ := ⟨fun _ _ h => h, fun _ _ h => h⟩
theorem Le.trans {R R1 R2 : Hp} {μ μ1 μ2 : Mu} (a : Le R μ R1 μ1) (b : Le R1 μ1 R2 μ2) : Le R μ R2 μ2 := ⟨fun x o h => b.r x o (a.r x o h), fun n x h => b.m n x (a.m n x h)⟩
theorem Le.upd {R : Hp} {μ : Mu} {p : Addr} {o : HO} (h : R p = none) : Le R μ (upd R p o) μ := ⟨fun a u e => by rw [upd_ne (ne_of_none e h)]; exact e, fun _ _ h => h⟩

section
variable {T : Tb} {R R' Pr H : Hp} {μ μ' : Mu} {st : S}
theorem sqT_le {K : PySem.W.Frag} {a : Addr} {xs : List V} (h : SqT K R a xs) (e : ∀ a o, R a = some o → R' a = some o) : SqT K R' a xs := by
  rcases h with (h | ⟨o, h⟩) | h
  · exact .inl (.inl (e _ _ h))
  · exact .inl (.inr ⟨o, e _ _ h⟩)
  · exact .inr h
theorem sqL_le {K : PySem.W.Frag} {a : Addr} {xs : List V} (h : SqL K R a xs) (e : ∀ a o, R a = some o → R' a = some o) : SqL K R' a xs := by
  rcases h with (h | ⟨o, h⟩) | h
  · exact .inl (.inl (e _ _ h))
  · exact .inl (.inr ⟨o, e _ _ h⟩)
  · exact .inr h
mutual
theorem RelC.le (e : ∀ a o, R a = some o → R' a = some o) : ∀ {c : C} {v : V}, RelC T R c v → RelC T R' c v
  | .non, _, h => h
  | .bl _, _, h => h
  | .int _, _, h => h
  | .str _, _, h => h
  | .tup _, _, ⟨a, vs, h1, h2, h3⟩ => ⟨a, vs, h1, sqT_le h2 e, RelCs.le e h3⟩
  | .lst _, _, ⟨a, vs, h1, h2, h3⟩ => ⟨a, vs, h1, e _ _ h2, RelCs.le e h3⟩
  | .frz _, _, ⟨a, vs, h1, h2, h3⟩ => ⟨a, vs, h1, sqL_le h2 e, RelCs.le e h3⟩
  | .dct _ _, _, ⟨a, us, ws, h1, h2, h3, h4, h5⟩ => ⟨a, us, ws, h1, e _ _ h2, h3, RelCs.le e h4, RelCs.le e h5⟩
  | .ins _ _ _, _, ⟨a, dx, ws, h1, h2, h3, h4, h5⟩ => ⟨a, dx, ws, h1, e _ _ h2, e _ _ h3, h4, RelCs.le e h5⟩
theorem RelCs.le (e : ∀ a o, R a = some o → R' a = some o) : ∀ {cs : List C} {vs : List V}, RelCs T R cs vs → RelCs T R' cs vs
  | [], _, h => h
  | _ :: _, _, ⟨v, r, h1, h2, h3⟩ => ⟨v, r, h1, RelC.le e h2, RelCs.le e h3⟩
end
theorem RelW.le (e : Le R μ R' μ') : ∀ {w : W} {v : V}, RelW T R μ w v → RelW T R' μ' w v
  | .c _, _, h => RelC.le e.r h
  | .r _, _, ⟨a, h1, h2⟩ => ⟨a, h1, e.m _ _ h2⟩
theorem RelWs.le (e : Le R μ R' μ') : ∀ {ws : List W} {vs : List V}, RelWs T R μ ws vs → RelWs T R' μ' ws vs
  | [], _, h => h
  | _ :: _, _, ⟨v, r, h1, h2, h3⟩ => ⟨v, r, h1, RelW.le e h2, RelWs.le e h3⟩
theorem RelWs.length : ∀ {ws : List W} {vs : List V}, RelWs T R μ ws vs → ws.length = vs.length
  | [], _, h => by subst h; rfl
  | _ :: _, _, ⟨v, r, h1, h2, h3⟩ => by subst h1; simp [RelWs.length h3]
theorem RelCs.length : ∀ {ws : List C} {vs : List V}, RelCs T R ws vs → ws.length = vs.length
  | [], _, h => by cases h; rfl
  | _ :: _, _, ⟨v, r, h1, h2, h3⟩ => by subst h1; simp [RelCs.length h3]
theorem RelWs.ofC : ∀ {cs : List C} {vs : List V}, RelCs T R cs vs → RelWs T R μ (cs.map .c) vs
  | [], _, h => h
  | _ :: _, _, ⟨v, r, h1, h2, h3⟩ => ⟨v, r, h1, h2, RelWs.ofC h3⟩
theorem RelWs.clo : ∀ {ws : List W} {cs : List C} {vs : List V}, clo ws = some cs → RelWs T R μ ws vs → RelCs T R cs vs
  | [], cs, vs, e, h => by
    simp only [Ev.clo, Option.some.injEq] at e
    subst e; exact h
  | .c x :: ws, cs, vs, e, ⟨v, r, h1, h2, h3⟩ => by
    unfold Ev.clo at e
    cases q : Ev.clo ws with
    | none => rw [q] at e; cases e
    | some ds =>
      rw [q] at e
      cases e
      exact ⟨v, r, h1, h2, RelWs.clo q h3⟩
  | .r n :: ws, cs, vs, e, _ => by simp [Ev.clo] at e
theorem RelWs.append : ∀ {ws ws' : List W} {vs vs' : List V}, RelWs T R μ ws vs → RelWs T R μ ws' vs' → RelWs T R μ (ws ++ ws') (vs ++ vs')
  | [], _, _, _, h, h' => by subst h; exact h'
  | _ :: _, _, _, _, ⟨v, r, h1, h2, h3⟩, h' => by subst h1; exact ⟨v, _, rfl, h2, RelWs.append h3 h'⟩
theorem RelCs.append : ∀ {ws ws' : List C} {vs vs' : List V}, RelCs T R ws vs → RelCs T R ws' vs' → RelCs T R (ws ++ ws') (vs ++ vs')
  | [], _, _, _, h, h' => by cases h; exact h'
  | _ :: _, _, _, _, ⟨v, r, h1, h2, h3⟩, h' => by subst h1; exact ⟨v, _, rfl, h2, RelCs.append h3 h'⟩
theorem RelWs.get : ∀ {ws : List W} {vs : List V} {i : Nat} {w : W}, RelWs T R μ ws vs → ws[i]? = some w → ∃ v, vs[i]? = some v ∧ RelW T R μ w v
  | [], _, _, _, h, e => by simp at e
  | w :: ws, _, 0, _, ⟨v, r, h1, h2, h3⟩, e => by subst h1; simp at e; subst e; exact ⟨v, rfl, h2⟩
  | w :: ws, _, i + 1, _, ⟨v, r, h1, h2, h3⟩, e => by
    subst h1
    obtain ⟨u, e1, e2⟩ := RelWs.get (i := i) h3 (by simpa using e)
    exact ⟨u, by simpa using e1, e2⟩
theorem RelCs.get : ∀ {ws : List C} {vs : List V} {i : Nat} {w : C}, RelCs T R ws vs → ws[i]? = some w → ∃ v, vs[i]? = some v ∧ RelC T R w v
  | [], _, _, _, h, e => by simp at e
  | w :: ws, _, 0, _, ⟨v, r, h1, h2, h3⟩, e => by subst h1; simp at e; subst e; exact ⟨v, rfl, h2⟩
  | w :: ws, _, i + 1, _, ⟨v, r, h1, h2, h3⟩, e => by
    subst h1
    obtain ⟨u, e1, e2⟩ := RelCs.get (i := i) h3 (by simpa using e)
    exact ⟨u, by simpa using e1, e2⟩
theorem RelWs.set {w : W} {v : V} (r : RelW T R μ w v) : ∀ {ws : List W} {vs : List V} (i : Nat), RelWs T R μ ws vs → RelWs T R μ (ws.set i w) (vs.set i v)
  | [], _, _, h => by cases h; exact rfl
  | _ :: _, _, 0, ⟨u, t, h1, h2, h3⟩ => by subst h1; exact ⟨v, t, rfl, r, h3⟩
  | _ :: _, _, i + 1, ⟨u, t, h1, h2, h3⟩ => by subst h1; exact ⟨u, _, rfl, h2, RelWs.set r i h3⟩
theorem RelWs.take : ∀ {ws : List W} {vs : List V} (n : Nat), RelWs T R μ ws vs → RelWs T R μ (ws.take n) (vs.take n)
  | _, _, 0, _ => by simp [RelWs]
  | [], _, n + 1, h => by cases h; exact rfl
  | _ :: _, _, n + 1, ⟨u, t, h1, h2, h3⟩ => by subst h1; exact ⟨u, _, rfl, h2, RelWs.take n h3⟩
theorem RelWs.drop : ∀ {ws : List W} {vs : List V} (n : Nat), RelWs T R μ ws vs → RelWs T R μ (ws.drop n) (vs.drop n)
  | _, _, 0, h => h
  | [], _, n + 1, h => by cases h; exact rfl
  | _ :: _, _, n + 1, ⟨u, t, h1, h2, h3⟩ => by subst h1; exact RelWs.drop n h3
theorem RelCs.take : ∀ {ws : List C} {vs : List V} (n : Nat), RelCs T R ws vs → RelCs T R (ws.take n) (vs.take n)
  | _, _, 0, _ => by simp [RelCs]
  | [], _, n + 1, h => by cases h; rfl
  | _ :: _, _, n + 1, ⟨u, t, h1, h2, h3⟩ => by subst h1; exact ⟨u, _, rfl, h2, RelCs.take n h3⟩
theorem RelCs.drop : ∀ {ws : List C} {vs : List V} (n : Nat), RelCs T R ws vs → RelCs T R (ws.drop n) (vs.drop n)
  | _, _, 0, h => h
  | [], _, n + 1, h => by cases h; rfl
  | _ :: _, _, n + 1, ⟨u, t, h1, h2, h3⟩ => by subst h1; exact RelCs.drop n h3
theorem RelCs.cut {cs : List C} {vs : List V} (lo hi : Option Int) (h : RelCs T R cs vs) : RelCs T R (cutL cs lo hi) (cutV vs lo hi) := by
  unfold cutL cutV
  rw [h.length]
  exact (h.drop _).take _
theorem RelWs.cut {cs : List W} {vs : List V} (lo hi : Option Int) (h : RelWs T R μ cs vs) : RelWs T R μ (cutL cs lo hi) (cutV vs lo hi) := by
  unfold cutL cutV
  rw [h.length]
  exact (h.drop _).take _

/-! ### the state's moves -/
theorem cellAt_push {st : S} {n : Nat} {x y : Cell} (h : cellAt (st ++ [some y]) n = some x) : (n < st.length ∧ cellAt st n = some x) ∨ (n = st.length ∧ x = y) := by
  unfold cellAt at h ⊢
  by_cases hn : n < st.length
  · rw [List.getElem?_append_left hn] at h
    exact .inl ⟨hn, h⟩
  · rw [List.getElem?_append_right (by omega)] at h
    by_cases e : n - st.length = 0
    · rw [e] at h
      simp only [List.getElem?_cons_zero, Option.some.injEq] at h
      exact .inr ⟨by omega, h.symm⟩
    · have : ([some y] : S)[n - st.length]? = none := by
        rw [List.getElem?_eq_none_iff]; simp; omega
      rw [this] at h; cases h
theorem cellAt_lt {st : S} {n : Nat} {x : Cell} (h : cellAt st n = some x) : n < st.length := by
  unfold cellAt at h
  by_cases hn : n < st.length
  · exact hn
  · rw [List.getElem?_eq_none (by omega)] at h; cases h
theorem cellAt_take {st : S} {n k : Nat} {x : Cell} (h : cellAt (st.take k) n = some x) : n < k ∧ cellAt st n = some x := by
  have := cellAt_lt h
  rw [List.length_take] at this
  have hk : n < k := by omega
  refine ⟨hk, ?_⟩
  unfold cellAt at h ⊢
  rwa [List.getElem?_take_of_lt hk] at h
theorem cellAt_set_self {st : S} {n : Nat} {x y : Cell} (h : cellAt st n = some x) : cellAt (setCell st n y) n = some y := by
  have := cellAt_lt h
  unfold cellAt setCell
  rw [List.getElem?_set_self this]
theorem cellAt_set_ne {st : S} {n m : Nat} {y : Cell} (h : m ≠ n) : cellAt (setCell st n y) m = cellAt st m := by
  unfold cellAt setCell
  rw [List.getElem?_set_ne (Ne.symm h)]

theorem CellRel.le (e : Le R μ R' μ') : ∀ {x : Cell} {a : Addr}, CellRel T R μ H x a → CellRel T R' μ' H x a
  | .lst _, _, ⟨vs, h1, h2⟩ => ⟨vs, h1, RelWs.le e h2⟩
  | .ins _ _ _, _, ⟨dx, vs, h1, h2, h3, h4⟩ => ⟨dx, vs, h1, h2, h3, RelWs.le e h4⟩
  | .dct _ _, _, ⟨us, vs, h1, h2, h3, h4⟩ => ⟨us, vs, h1, h2, RelCs.le e.r h3, RelWs.le e h4⟩
/-- the heap changes where the cell and its dict do not stand -/
theorem CellRel.heap {H' : Hp} {x : Cell} {a : Addr} (h : CellRel T R μ H x a) (ha : H' a = H a) (hd : ∀ dx, H dx = some (.own a) → H' dx = some (.own a)) : CellRel T R μ H' x a := by
  cases x with
  | lst ws => obtain ⟨vs, h1, h2⟩ := h; exact ⟨vs, ha.trans h1, h2⟩
  | ins c fs ws => obtain ⟨dx, vs, h1, h2, h3, h4⟩ := h; exact ⟨dx, vs, ha.trans h1, hd _ h2, h3, h4⟩
  | dct ks ws => obtain ⟨us, vs, h1, h2, h3, h4⟩ := h; exact ⟨us, vs, ha.trans h1, h2, h3, h4⟩
theorem CellRel.there {x : Cell} {a : Addr} (h : CellRel T R μ H x a) : ∃ o, H a = some o := by
  cases x with
  | lst ws => obtain ⟨vs, h1, h2⟩ := h; exact ⟨_, h1⟩
  | ins c fs ws => obtain ⟨dx, vs, h1, _⟩ := h; exact ⟨_, h1⟩
  | dct ks ws => obtain ⟨us, vs, h1, _⟩ := h; exact ⟨_, h1⟩
theorem Sim.rn (s : Sim T R Pr μ st H) {p : Addr} (hp : H p = none) : R p = none := by
  cases q : R p with
  | none => rfl
  | some u => rw [s.r p u q] at hp; cases hp
theorem Sim.pn (s : Sim T R Pr μ st H) {p : Addr} (hp : H p = none) : Pr p = none := by
  cases q : Pr p with
  | none => rfl
  | some u => rw [s.p p u q] at hp; cases hp
/-- objects are added, all else stays -/
theorem Sim.ext {H' : Hp} (s : Sim T R Pr μ st H) (e : ∀ a o, H a = some o → H' a = some o) : Sim T R Pr μ st H' where
  r := fun a o h => e a o (s.r a o h)
  p := fun a o h => e a o (s.p a o h)
  c := fun n x hc => by
    obtain ⟨a, h1, h2, h3, h4⟩ := s.c n x hc
    obtain ⟨ob, hob⟩ := h4.there
    exact ⟨a, h1, h2, h3, h4.heap ((e _ _ hob).trans hob.symm) fun dx q => e _ _ q⟩
  inj := s.inj
  dom := s.dom
  low := s.low
  d := s.d
  t := s.t.ext e
  nt := s.nt
theorem upd_ext {p : Addr} {o : HO} (hp : H p = none) : ∀ a u, H a = some u → upd H p o a = some u := fun a u e => by rw [upd_ne (ne_of_none e hp)]; exact e
/-- something that is not in a cell is closed from now on -/
theorem Sim.close {p : Addr} {o : HO} (s : Sim T R Pr μ st H) (hp : H p = some o) (hn : ∀ n x, cellAt st n = some x → μ n ≠ some p) (hR : ∀ u, R p = some u → u = o) (hP : Pr p = none) (hnt : ∀ ps, o ≠ .tbl ps := by intro _ h; cases h) : Sim T (upd R p o) Pr μ st H ∧ Le R μ (upd R p o) μ := by
  have le : Le R μ (upd R p o) μ := ⟨fun a u e => by
    by_cases h : a = p
    · subst h; rw [upd_same]; exact congrArg some (hR u e).symm
    · rw [upd_ne h]; exact e, fun _ _ h => h⟩
  refine ⟨⟨fun a u e => ?_, s.p, fun n x hc => ?_, s.inj, s.dom, s.low, fun a u e => ⟨by rw [upd_ne fun z => by rw [z, hP] at e; cases e]; exact (s.d a u e).1, (s.d a u e).2⟩, s.t, fun a ps e => ?_⟩, le⟩
  · by_cases h : a = p
    · subst h; rw [upd_same] at e; rw [hp]; exact e
    · rw [upd_ne h] at e; exact s.r a u e
  · obtain ⟨a, h1, h2, h3, h4⟩ := s.c n x hc
    refine ⟨a, h1, ?_, h3, h4.le le⟩
    rw [upd_ne fun z => hn n x hc (by rw [h1, z])]
    exact h2
  · by_cases h : a = p
    · subst h; rw [upd_same] at e; exact hnt ps (Option.some.inj e)
    · rw [upd_ne h] at e; exact s.nt a ps e
/-- a new object that is closed from now on -/
theorem Sim.frozen {p : Addr} {o : HO} (s : Sim T R Pr μ st H) (hp : H p = none) (hnt : ∀ ps, o ≠ .tbl ps := by intro _ h; cases h) : Sim T (upd R p o) Pr μ st (upd H p o) ∧ Le R μ (upd R p o) μ := by
  refine (s.ext (upd_ext hp)).close upd_same (fun n x hc z => ?_) (fun u e => by rw [s.rn hp] at e; cases e) (s.pn hp) hnt
  obtain ⟨a, h1, h2, h3, h4⟩ := s.c n x hc
  obtain ⟨ob, hob⟩ := h4.there
  rw [z] at h1; cases h1
  rw [hp] at hob; cases hob
/-- a new object of a new cell -/
theorem Sim.alloc {p : Addr} {x : Cell} {H' : Hp} (s : Sim T R Pr μ st H) (hp : H p = none) (e : ∀ a o, H a = some o → H' a = some o) (hx : CellRel T R μ H' x p) (hl : ∀ m, W.r m ∈ x.ws → m < st.length) :
    Sim T R Pr (fun n => if n = st.length then some p else μ n) (st ++ [some x]) H' ∧ Le R μ R (fun n => if n = st.length then some p else μ n) := by
  have le : Le R μ R (fun n => if n = st.length then some p else μ n) := ⟨fun _ _ h => h, fun n a h => by
    show (if n = st.length then some p else μ n) = some a
    rw [if_neg (Nat.ne_of_lt (s.dom n a h))]; exact h⟩
  have s' := s.ext e
  have np : ∀ m y, cellAt st m = some y → μ m ≠ some p := fun m y hc z => by
    obtain ⟨a, h1, _, _, h4⟩ := s.c m y hc
    obtain ⟨ob, hob⟩ := h4.there
    rw [z] at h1; cases h1; rw [hp] at hob; cases hob
  refine ⟨⟨s'.r, s'.p, fun n y hc => ?_, fun n m y z a h1 h2 h3 h4 => ?_, fun n a h => ?_, fun n y hc => ?_, s.d, s'.t, s.nt⟩, le⟩
  · rcases cellAt_push hc with ⟨hn, hc⟩ | ⟨rfl, rfl⟩
    · obtain ⟨a, h1, h2, h3, h4⟩ := s'.c n y hc
      exact ⟨a, le.m n a h1, h2, h3, h4.le le⟩
    · exact ⟨p, if_pos rfl, s.rn hp, s.pn hp, hx.le le⟩
  · have h3 : (if n = st.length then some p else μ n) = some a := h3
    have h4 : (if m = st.length then some p else μ m) = some a := h4
    rcases cellAt_push h1 with ⟨hn, c1⟩ | ⟨rfl, rfl⟩ <;> rcases cellAt_push h2 with ⟨hm, c2⟩ | ⟨rfl, rfl⟩
    · rw [if_neg (Nat.ne_of_lt hn)] at h3
      rw [if_neg (Nat.ne_of_lt hm)] at h4
      exact s.inj n m y z a c1 c2 h3 h4
    · rw [if_neg (Nat.ne_of_lt hn)] at h3
      rw [if_pos rfl] at h4
      cases h4
      exact absurd h3 (np n y c1)
    · rw [if_pos rfl] at h3
      rw [if_neg (Nat.ne_of_lt hm)] at h4
      cases h3
      exact absurd h4 (np m z c2)
    · rfl
  · have h : (if n = st.length then some p else μ n) = some a := h
    rw [List.length_append]
    show n < st.length + 1
    by_cases e : n = st.length
    · omega
    · rw [if_neg e] at h; have := s.dom n a h; omega
  · rcases cellAt_push hc with ⟨hn, hc⟩ | ⟨rfl, rfl⟩
    · exact s.low n y hc
    · exact hl
/-- a thing that is no table, no code object is written -/
theorem tabs_upd {T : List (Addr × PySem.Str)} {H : Hp} {a : Addr} {o : HO} (t : LamX.Tabs T H) (h1 : ∀ ps, H a ≠ some (.tbl ps)) (h2 : ∀ φ, H a ≠ some (.ext φ)) : LamX.Tabs T (upd H a o) := fun p hp => by
  obtain ⟨ps, e1, e2, e3⟩ := t p hp
  refine ⟨ps, by rw [upd_ne fun z => h1 ps (by rw [← z]; exact e1)]; exact e1, e2, fun pos cv hc => ?_⟩
  obtain ⟨c, e4, e5⟩ := e3 pos cv hc
  exact ⟨c, e4, by rw [upd_ne fun z => h2 _ (by rw [← z]; exact e5)]; exact e5⟩
theorem tabs_del {T : List (Addr × PySem.Str)} {H : Hp} {a : Addr} (t : LamX.Tabs T H) (h1 : ∀ ps, H a ≠ some (.tbl ps)) (h2 : ∀ φ, H a ≠ some (.ext φ)) : LamX.Tabs T (fun b => if b = a then none else H b) := fun p hp => by
  obtain ⟨ps, e1, e2, e3⟩ := t p hp
  refine ⟨ps, (if_neg fun z => h1 ps (by rw [← z]; exact e1)).trans e1, e2, fun pos cv hc => ?_⟩
  obtain ⟨c, e4, e5⟩ := e3 pos cv hc
  exact ⟨c, e4, (if_neg fun z => h2 _ (by rw [← z]; exact e5)).trans e5⟩
/-- a cell is written -/
theorem Sim.write {n : Nat} {x y : Cell} {a : Addr} {o : HO} (s : Sim T R Pr μ st H) (hc : cellAt st n = some x) (ha : μ n = some a) (hy : CellRel T R μ (upd H a o) y a) (hl : ∀ m, W.r m ∈ y.ws → m < n) : Sim T R Pr μ (setCell st n y) (upd H a o) := by
  obtain ⟨a', h1, h2, h3, h4⟩ := s.c n x hc
  rw [ha] at h1; cases h1
  have nown : ∀ dx b, H dx = some (.own b) → dx ≠ a := fun dx b e z => by
    subst z
    cases x with
    | lst ws => obtain ⟨vs, q, _⟩ := h4; rw [q] at e; cases e
    | ins c fs ws => obtain ⟨_, vs, q, _⟩ := h4; rw [q] at e; cases e
    | dct ks ws => obtain ⟨_, vs, q, _⟩ := h4; rw [q] at e; cases e
  refine ⟨fun b u e => ?_, fun b u e => ?_, fun m z hm => ?_, fun m k z w b h1 h2 h3 h4 => ?_, fun m b h => ?_, fun m z hm => ?_, s.d, tabs_upd s.t (fun ps e => ?_) (fun φ e => ?_), s.nt⟩
  · rw [upd_ne (fun z => by subst z; rw [h2] at e; cases e)]; exact s.r b u e
  · rw [upd_ne (fun z => by subst z; rw [h3] at e; cases e)]; exact s.p b u e
  · by_cases e : m = n
    · subst e
      rw [cellAt_set_self hc] at hm; cases hm
      exact ⟨a, ha, h2, h3, hy⟩
    · rw [cellAt_set_ne e] at hm
      obtain ⟨b, k1, k2, k3, k4⟩ := s.c m z hm
      have hb : b ≠ a := fun q => by subst q; exact e (s.inj m n z x b hm hc k1 ha)
      exact ⟨b, k1, k2, k3, k4.heap (upd_ne hb) fun dx q => by rw [upd_ne (nown dx b q)]; exact q⟩
  · have back : ∀ m z, cellAt (setCell st n y) m = some z → ∃ z', cellAt st m = some z' := fun m z hm => by
      by_cases e : m = n
      · subst e; exact ⟨x, hc⟩
      · rw [cellAt_set_ne e] at hm; exact ⟨z, hm⟩
    obtain ⟨z', c1⟩ := back m z h1
    obtain ⟨w', c2⟩ := back k w h2
    exact s.inj m k z' w' b c1 c2 h3 h4
  · unfold setCell; rw [List.length_set]; exact s.dom m b h
  · by_cases e : m = n
    · subst e
      rw [cellAt_set_self hc] at hm; cases hm
      exact hl
    · rw [cellAt_set_ne e] at hm
      exact s.low m z hm
  · cases x with
    | lst ws => obtain ⟨vs, q, _⟩ := h4; rw [q] at e; cases e
    | ins c fs ws => obtain ⟨_, vs, q, _⟩ := h4; rw [q] at e; cases e
    | dct ks ws => obtain ⟨_, vs, q, _⟩ := h4; rw [q] at e; cases e
  · cases x with
    | lst ws => obtain ⟨vs, q, _⟩ := h4; rw [q] at e; cases e
    | ins c fs ws => obtain ⟨_, vs, q, _⟩ := h4; rw [q] at e; cases e
    | dct ks ws => obtain ⟨_, vs, q, _⟩ := h4; rw [q] at e; cases e
/-- a list is written, and stands behind all others then -/
theorem Sim.move {n : Nat} {xs ys : List W} {a : Addr} {o : HO} (s : Sim T R Pr μ st H) (hc : cellAt st n = some (.lst xs)) (ha : μ n = some a) (hy : CellRel T R μ (upd H a o) (.lst ys) a) (hl : ∀ m, W.r m ∈ ys → m < st.length) :
    Sim T R Pr (fun i => if i = st.length then some a else μ i) (st.set n none ++ [some (.lst ys)]) (upd H a o) ∧ Le R μ R (fun i => if i = st.length then some a else μ i) := by
  have le : Le R μ R (fun i => if i = st.length then some a else μ i) := ⟨fun _ _ h => h, fun i b h => by
    show (if i = st.length then some a else μ i) = some b
    rw [if_neg (Nat.ne_of_lt (s.dom i b h))]; exact h⟩
  obtain ⟨a', h1, h2, h3, h4⟩ := s.c n _ hc
  rw [ha] at h1; cases h1
  obtain ⟨vs0, q0, _⟩ := h4
  have nown : ∀ dx b, H dx = some (.own b) → dx ≠ a := fun dx b e z => by subst z; rw [q0] at e; cases e
  have kill : ∀ {m : Nat} {z : Cell}, cellAt (st.set n none) m = some z → m ≠ n ∧ cellAt st m = some z := fun {m z} h => by
    by_cases e : m = n
    · subst e
      unfold cellAt at h
      by_cases hj : m < st.length
      · rw [List.getElem?_set_self hj] at h; cases h
      · rw [List.getElem?_eq_none (by simpa using hj)] at h; cases h
    · refine ⟨e, ?_⟩
      unfold cellAt at h ⊢
      rwa [List.getElem?_set_ne (Ne.symm e)] at h
  have sl : (st.set n none).length = st.length := List.length_set ..
  refine ⟨⟨fun b u e => ?_, fun b u e => ?_, fun m z hm => ?_, fun m k z w b h1 h2 h3 h4 => ?_, fun m b h => ?_, fun m z hm => ?_, s.d, tabs_upd s.t (fun ps e => by rw [q0] at e; cases e) (fun φ e => by rw [q0] at e; cases e), s.nt⟩, le⟩
  · rw [upd_ne (fun z => by subst z; rw [h2] at e; cases e)]; exact s.r b u e
  · rw [upd_ne (fun z => by subst z; rw [h3] at e; cases e)]; exact s.p b u e
  · rcases cellAt_push hm with ⟨_, hm⟩ | ⟨rfl, rfl⟩
    · obtain ⟨e, hm⟩ := kill hm
      obtain ⟨b, k1, k2, k3, k4⟩ := s.c m z hm
      have hb : b ≠ a := fun q => by subst q; exact e (s.inj m n z _ b hm hc k1 ha)
      exact ⟨b, le.m m b k1, k2, k3, (k4.heap (upd_ne hb) fun dx q => by rw [upd_ne (nown dx b q)]; exact q).le le⟩
    · exact ⟨a, if_pos sl, h2, h3, hy.le le⟩
  · have h3 : (if m = st.length then some a else μ m) = some b := h3
    have h4 : (if k = st.length then some a else μ k) = some b := h4
    rcases cellAt_push h1 with ⟨hn, c1⟩ | ⟨rfl, rfl⟩ <;> rcases cellAt_push h2 with ⟨hm, c2⟩ | ⟨rfl, rfl⟩
    · rw [sl] at hn hm
      rw [if_neg (Nat.ne_of_lt hn)] at h3
      rw [if_neg (Nat.ne_of_lt hm)] at h4
      exact s.inj m k z w b (kill c1).2 (kill c2).2 h3 h4
    · rw [sl] at hn h4
      rw [if_neg (Nat.ne_of_lt hn)] at h3
      rw [if_pos rfl] at h4
      cases h4
      exact absurd (s.inj m n z _ a (kill c1).2 hc h3 ha) (kill c1).1
    · rw [sl] at hm h3
      rw [if_neg (Nat.ne_of_lt hm)] at h4
      rw [if_pos rfl] at h3
      cases h3
      exact absurd (s.inj k n w _ a (kill c2).2 hc h4 ha) (kill c2).1
    · rfl
  · have h : (if m = st.length then some a else μ m) = some b := h
    rw [List.length_append, sl]
    show m < st.length + 1
    by_cases e : m = st.length
    · omega
    · rw [if_neg e] at h; have := s.dom m b h; omega
  · rcases cellAt_push hm with ⟨hn, hm⟩ | ⟨rfl, rfl⟩
    · exact s.low m z (kill hm).2
    · intro j hj; rw [sl]; exact hl j hj
theorem RelWs.cutMu (n : Nat) : ∀ {ws : List W} {vs : List V}, (∀ m, W.r m ∈ ws → m < n) → RelWs T R μ ws vs → RelWs T R (fun k => if k < n then μ k else none) ws vs
  | [], _, _, h => h
  | .c x :: ws, _, l, ⟨v, r, h1, h2, h3⟩ => ⟨v, r, h1, h2, RelWs.cutMu n (fun m hm => l m (List.mem_cons_of_mem _ hm)) h3⟩
  | .r k :: ws, _, l, ⟨v, r, h1, ⟨a, h2, h2'⟩, h3⟩ => ⟨v, r, h1, ⟨a, h2, by show (if k < n then μ k else none) = some a; rw [if_pos (l k List.mem_cons_self)]; exact h2'⟩, RelWs.cutMu n (fun m hm => l m (List.mem_cons_of_mem _ hm)) h3⟩
/-- the cells from n on are forgotten -/
theorem Sim.take (s : Sim T R Pr μ st H) (n : Nat) : Sim T R Pr (fun k => if k < n then μ k else none) (st.take n) H := by
  refine ⟨s.r, s.p, fun m x hc => ?_, fun m k x y a h1 h2 h3 h4 => ?_, fun m a h => ?_, fun m x hc => s.low m x (cellAt_take hc).2, s.d, s.t, s.nt⟩
  · obtain ⟨hm, hc⟩ := cellAt_take hc
    obtain ⟨a, h1, h2, h3, h4⟩ := s.c m x hc
    refine ⟨a, by show (if m < n then μ m else none) = some a; rw [if_pos hm]; exact h1, h2, h3, ?_⟩
    have l : ∀ k, W.r k ∈ x.ws → k < n := fun k hk => Nat.lt_trans (s.low m x hc k hk) hm
    cases x with
    | lst ws => obtain ⟨vs, k1, k2⟩ := h4; exact ⟨vs, k1, k2.cutMu n l⟩
    | ins c fs ws => obtain ⟨dx, vs, k1, k2, k3, k4⟩ := h4; exact ⟨dx, vs, k1, k2, k3, k4.cutMu n l⟩
    | dct ks ws => obtain ⟨us, vs, k1, k2, k3, k4⟩ := h4; exact ⟨us, vs, k1, k2, k3, k4.cutMu n l⟩
  · obtain ⟨hm, c1⟩ := cellAt_take h1
    obtain ⟨hk, c2⟩ := cellAt_take h2
    have h3 : (if m < n then μ m else none) = some a := h3
    have h4 : (if k < n then μ k else none) = some a := h4
    rw [if_pos hm] at h3
    rw [if_pos hk] at h4
    exact s.inj m k x y a c1 c2 h3 h4
  · have h : (if m < n then μ m else none) = some a := h
    by_cases hm : m < n
    · rw [if_pos hm] at h
      have := s.dom m a h
      rw [List.length_take]; omega
    · rw [if_neg hm] at h; cases h
/-- what was there ahead of n stays -/
theorem Le.take {μ₀ : Mu} {R₀ : Hp} (n : Nat) (e : Le R₀ μ₀ R μ) (h0 : ∀ m a, μ₀ m = some a → m < n) : Le R₀ μ₀ R (fun k => if k < n then μ k else none) :=
  ⟨e.r, fun m a h => by show (if m < n then μ m else none) = some a; rw [if_pos (h0 m a h)]; exact e.m m a h⟩
theorem RelWs.refs : ∀ {ws : List W} {vs : List V}, RelWs T R μ ws vs → ∀ m, W.r m ∈ ws → ∃ a, μ m = some a
  | [], _, _, m, h => by simp at h
  | w :: ws, _, ⟨v, r, h1, h2, h3⟩, m, h => by
    rcases List.mem_cons.mp h with e | h
    · subst e; obtain ⟨a, _, q⟩ := h2; exact ⟨a, q⟩
    · exact RelWs.refs h3 m h
end
end Ev

/-! Snd: the evaluator's results are the model's. -/
namespace Ev
open PySem PySem.Spec PyProof.Rows L2

section
variable (T : Tb)
/-- an exception of the class c with the value x: its dict -/
def ExR (R H : Hp) (c : Nat) (x : C) (d : Option Addr) : Prop := match T.xf c with
  | some f => ∃ dd v, d = some dd ∧ H dd = some (.xd [(f, v)]) ∧ RelC T R x v
  | none => d = none
/-- what is wanted of a result: of any later state that agrees with it -/
def Post (Pr : Hp) (Wx : WX) (σ : L2.St) {α : Type} (rel : Hp → Mu → α → Hp → Prop) (R : Hp) (μ : Mu) : Res α → Prop
  | .ok a st => ∀ R' μ' H', Le R μ R' μ' → Sim T R' Pr μ' st H' → rel R' μ' a H'
  | .ex c x st => ∀ R' μ' H' d, Le R μ R' μ' → Sim T R' Pr μ' st H' → ExR T R' H' c x d → Wx (.ref (T.ea c)) d σ H'
  | .stuck => False
/-- what is known of the exception that is handled: it stands behind the names -/
def XcR (R : Hp) (env : Env) (σ : L2.St) : Prop := match T.exa with
  | none => env.length = σ.length
  | some e => ∃ x, env.length = σ.length + 1 ∧ env[σ.length]? = some (some (.c (xtup e.c x))) ∧ (∀ j, e.j = some j → σ[j]? = some (some (.ref e.a))) ∧ ∀ f, T.xf e.c = some f → ∃ dd v, e.d = some dd ∧ R dd = some (.xd [(f, v)]) ∧ RelC T R x v
def EnvR (R : Hp) (μ : Mu) (env : Env) (σ : L2.St) : Prop := XcR T R env σ ∧ ∀ (i : Nat) w, i < σ.length → env[i]? = some (some w) → ∃ v : V, σ[i]? = some (some v) ∧ RelW T R μ w v
/-- a reading that begins at any state of the evaluator -/
structure Be (Pr : Hp) (R : Hp) (μ : Mu) (env : Env) (st : S) (σ : L2.St) (H : Hp) : Prop where
  e : EnvR T R μ env σ
  s : Sim T R Pr μ st H
abbrev RV (Q : VK) : Hp → Mu → W → Hp → Prop := fun R μ w H => ∀ v, RelW T R μ w v → Q v H
abbrev RL (Q : List V → Hp → Prop) : Hp → Mu → List W → Hp → Prop := fun R μ ws H => ∀ vs, RelWs T R μ ws vs → Q vs H
abbrev RB (Q : Bool → Hp → Prop) : Hp → Mu → Bool → Hp → Prop := fun _ _ b H => Q b H
/-- an expression's reading -/
def rdV (Wx : WX) (f : Env → S → Res W) : TE := fun σ H Q => ∃ Pr R μ env st, Be T Pr R μ env st σ H ∧ Post T Pr Wx σ (RV T Q) R μ (f env st)
def rdT (Wx : WX) (f : Env → S → Res Bool) : TT := fun σ H Q => ∃ Pr R μ env st, Be T Pr R μ env st σ H ∧ Post T Pr Wx σ (RB Q) R μ (f env st)
def rdL (Wx : WX) (f : Env → S → Res (List W)) : TA := fun σ H Q => ∃ Pr R μ env st, Be T Pr R μ env st σ H ∧ Post T Pr Wx σ (RL T Q) R μ (f env st)
end
section
variable {T : Tb} {Pr R R' H : Hp} {μ μ' : Mu} {st : S} {σ : L2.St} {Wx : WX} {env : Env}
theorem Post.le {α : Type} {rel : Hp → Mu → α → Hp → Prop} {r : Res α} (e : Le R μ R' μ') (h : Post T Pr Wx σ rel R μ r) : Post T Pr Wx σ rel R' μ' r := by
  cases r with
  | ok a st => exact fun R2 μ2 H2 l s => h R2 μ2 H2 (e.trans l) s
  | ex c x st => exact fun R2 μ2 H2 d l s q => h R2 μ2 H2 d (e.trans l) s q
  | stuck => exact h
/-- THE BIND -/
theorem Post.bind {α β : Type} {rel : Hp → Mu → β → Hp → Prop} {r : Res α} {k : α → S → Res β} (h : Post T Pr Wx σ rel R μ (r.bind k)) :
    Post T Pr Wx σ (fun R1 μ1 a H1 => ∀ st1, Sim T R1 Pr μ1 st1 H1 → r = .ok a st1 → Post T Pr Wx σ rel R1 μ1 (k a st1)) R μ r := by
  cases r with
  | ok a st => exact fun R1 μ1 H1 l s st1 s1 e => by cases e; exact Post.le l h
  | ex c x st => exact h
  | stuck => exact h
/-- .. the state told -/
theorem Post.bind' {α β : Type} {rel : Hp → Mu → β → Hp → Prop} {rel' : Hp → Mu → α → Hp → Prop} {r : Res α} {k : α → S → Res β} (h : Post T Pr Wx σ rel R μ (r.bind k))
    (c : ∀ R1 μ1 a st1 H1, Le R μ R1 μ1 → Sim T R1 Pr μ1 st1 H1 → Post T Pr Wx σ rel R1 μ1 (k a st1) → rel' R1 μ1 a H1) : Post T Pr Wx σ rel' R μ r := by
  cases r with
  | ok a st => exact fun R1 μ1 H1 l s => c R1 μ1 a st H1 l s (Post.le l h)
  | ex c x st => exact h
  | stuck => exact h
theorem Post.ok {α : Type} {rel : Hp → Mu → α → Hp → Prop} {a : α} (s : Sim T R Pr μ st H) (h : Post T Pr Wx σ rel R μ (.ok a st)) : rel R μ a H := h R μ H (Le.refl _ _) s
theorem XcR.le (h : XcR T R env σ) (e : Le R μ R' μ') : XcR T R' env σ := by
  unfold XcR at h ⊢
  split
  · rename_i z; rw [z] at h; exact h
  · rename_i a z
    rw [z] at h
    obtain ⟨x, h1, h2, h4, h3⟩ := h
    exact ⟨x, h1, h2, h4, fun f q => let ⟨dd, v, e1, e2, e3⟩ := h3 f q; ⟨dd, v, e1, e.r _ _ e2, RelC.le e.r e3⟩⟩
theorem EnvR.leR (b : EnvR T R μ env σ) (e : Le R μ R' μ') : EnvR T R' μ' env σ := ⟨b.1.le e, fun i w hi h => let ⟨v, e1, e2⟩ := b.2 i w hi h; ⟨v, e1, RelW.le e e2⟩⟩
theorem Be.le (b : Be T Pr R μ env st σ H) {st' : S} {H' : Hp} (e : Le R μ R' μ') (s : Sim T R' Pr μ' st' H') : Be T Pr R' μ' env st' σ H' :=
  ⟨b.e.leR e, s⟩
/-- a value, then the rest -/
theorem rdV.bindV {f : Env → S → Res W} {Q : VK} {α : Type} {rel : Hp → Mu → α → Hp → Prop} {k : W → S → Res α} (b : Be T Pr R μ env st σ H) (h : Post T Pr Wx σ rel R μ ((f env st).bind k))
    (c : ∀ R1 μ1 w st1 H1 v, Le R μ R1 μ1 → Be T Pr R1 μ1 env st1 σ H1 → RelW T R1 μ1 w v → Post T Pr Wx σ rel R1 μ1 (k w st1) → Q v H1) : rdV T Wx f σ H Q :=
  ⟨Pr, R, μ, env, st, b, h.bind' fun R1 μ1 a st1 H1 l s p v r => c R1 μ1 a st1 H1 v l (b.le l s) r p⟩
theorem rdT.bindT {f : Env → S → Res Bool} {Q : Bool → Hp → Prop} {α : Type} {rel : Hp → Mu → α → Hp → Prop} {k : Bool → S → Res α} (b : Be T Pr R μ env st σ H) (h : Post T Pr Wx σ rel R μ ((f env st).bind k))
    (c : ∀ R1 μ1 w st1 H1, Le R μ R1 μ1 → Be T Pr R1 μ1 env st1 σ H1 → Post T Pr Wx σ rel R1 μ1 (k w st1) → Q w H1) : rdT T Wx f σ H Q :=
  ⟨Pr, R, μ, env, st, b, h.bind' fun R1 μ1 a st1 H1 l s p => c R1 μ1 a st1 H1 l (b.le l s) p⟩
theorem rdL.bindL {f : Env → S → Res (List W)} {Q : List V → Hp → Prop} {α : Type} {rel : Hp → Mu → α → Hp → Prop} {k : List W → S → Res α} (b : Be T Pr R μ env st σ H) (h : Post T Pr Wx σ rel R μ ((f env st).bind k))
    (c : ∀ R1 μ1 w st1 H1 v, Le R μ R1 μ1 → Be T Pr R1 μ1 env st1 σ H1 → RelWs T R1 μ1 w v → Post T Pr Wx σ rel R1 μ1 (k w st1) → Q v H1) : rdL T Wx f σ H Q :=
  ⟨Pr, R, μ, env, st, b, h.bind' fun R1 μ1 a st1 H1 l s p v r => c R1 μ1 a st1 H1 v l (b.le l s) r p⟩
end

/-! ### the context -/
def visB (nms : List (PySem.Str × NameKind)) (x : PySem.Str) : Bool := match nms.lookup x with | some .local => true | some .cell => true | some .free => true | _ => false
def glB (nms : List (PySem.Str × NameKind)) (x : PySem.Str) : Bool := (nms.lookup x == some .globalImplicit) && (x != ("__debug__" : PySem.Str)) && (x != ("__name__" : PySem.Str))
structure CtxB (T : Tb) (N : List PySem.Str) (nms : List (PySem.Str × NameKind)) (Wx : WX) (X : Cx) : Prop where
  P : X.prog = T.P
  w : X.w = T.w
  K : X.K = T.K
  mg : X.mg = T.mg
  base : X.base = T.base
  hN : X.N = N
  nd : N.Nodup
  sc : ∀ x kd, nms.lookup x = some kd → ∃ kd', X.env.scope.names.lookup x = some kd' ∧ (kd' = kd ∨ (kd = .free ∧ kd' = .cell))
  takes : Takes X Wx
  fn : ∀ x, nms.lookup x = some .cell → X.fn x = true
  gu : X.A.guards = some []
  un : X.A.units + 200 < cLine
structure Ctx (T : Tb) (k : Nat) (N : List PySem.Str) (nms : List (PySem.Str × NameKind)) (Wx : WX) (X : Cx) : Prop extends CtxB T N nms Wx X where
  calm : X.calm = true
  room : Room (k + 2) X.A
  cold : T.exa = none
  lam : ∀ q c P, T.lamN N = some (q, c, P) → X.env.qual = q ∧ X.env.code = .ref c
section
variable {T : Tb} {k : Nat} {N : List PySem.Str} {nms : List (PySem.Str × NameKind)} {Wx : WX} {X : Cx}
theorem CtxB.vis (c : CtxB T N nms Wx X) {x : PySem.Str} (h : visB nms x = true) : Vis X.env.scope x := by
  unfold visB at h
  cases e : nms.lookup x with
  | none => rw [e] at h; cases h
  | some kd =>
    rw [e] at h
    obtain ⟨kd', e1, e2⟩ := c.sc x kd e
    cases kd <;> first | cases h | skip
    · rcases e2 with rfl | ⟨q, _⟩
      · exact .inl e1
      · cases q
    · rcases e2 with rfl | ⟨q, _⟩
      · exact .inr (.inl e1)
      · cases q
    · rcases e2 with rfl | ⟨_, rfl⟩
      · exact .inr (.inr e1)
      · exact .inr (.inl e1)
theorem CtxB.gl (c : CtxB T N nms Wx X) {x : PySem.Str} (h : glB nms x = true) : Gl X x ∧ (x == ("__debug__" : PySem.Str)) = false ∧ x ≠ "__name__" := by
  unfold glB at h
  simp only [Bool.and_eq_true, beq_iff_eq, bne_iff_ne] at h
  obtain ⟨⟨h1, h2⟩, h3⟩ := h
  obtain ⟨kd', e1, e2⟩ := c.sc x _ h1
  refine ⟨?_, by simpa using h2, h3⟩
  rcases e2 with rfl | ⟨q, _⟩
  · exact e1
  · cases q
end

/-! ### values by operators -/
/-- what an operator does with two values -/
def OpS (T : Tb) (X : Cx) (Wx : WX) (f : Value → Value → Sem Value) (o : W → W → S → Res W) : Prop :=
  ∀ (pins : List (Addr × Obj)) (s : Shared) (σ : L2.St) (H : Hp) (x y : V) (v u : Value) (Q : VK) (Pr R : Hp) (μ : Mu) (st : S) (a b : W), Inv X pins σ H s → RelV x v → RelV y u → Sim T R Pr μ st H → RelW T R μ a x → RelW T R μ b y →
    Post T Pr Wx σ (RV T Q) R μ (o a b st) → wpAny (model X.prog X.w) X.A (f v u) (EP X pins σ Q) X.xe s
section
variable {T : Tb} {k : Nat} {N : List PySem.Str} {nms : List (PySem.Str × NameKind)} {Wx : WX} {X : Cx} {a b c : Expr} {pos : Pos} {A B D : Sm}
/-- the two sides, then the operator -/
theorem snd_bin {f : Value → Value → Sem Value} {o : W → W → S → Res W} (ho : OpS T X Wx f o) (ha : PE X a (rdV T Wx A.v)) (hb : PE X b (rdV T Wx B.v)) {pins : List (Addr × Obj)} {s : Shared} {σ : L2.St} {H : Hp} {Q : VK}
    (I : Inv X pins σ H s) (h : rdV T Wx (fun env st => (A.v env st).bind fun x st1 => (B.v env st1).bind fun y st2 => o x y st2) σ H Q) :
    wpAny (model X.prog X.w) X.A (eval a X.env) (fun v s₁ => wpAny (model X.prog X.w) X.A (eval b X.env) (fun u s₂ => wpAny (model X.prog X.w) X.A (f v u) (EP X pins σ Q) X.xe s₂) X.xe s₁) X.xe s := by
  obtain ⟨Pr, R, μ, env, st, be, h⟩ := h
  refine thn (ha.run pins s σ H (fun v H1 => ∃ R1 μ1 w st1, Le R μ R1 μ1 ∧ Be T Pr R1 μ1 env st1 σ H1 ∧ RelW T R1 μ1 w v ∧ Post T Pr Wx σ (RV T Q) R1 μ1 ((B.v env st1).bind fun y st2 => o w y st2)) I
    (rdV.bindV be h fun R1 μ1 w st1 H1 v l b1 r p => ⟨R1, μ1, w, st1, l, b1, r, p⟩)) fun v s1 ⟨x, H1, I1, r1, R1, μ1, w, st1, l, b1, rw1, p1⟩ => ?_
  refine thn (hb.run pins s1 σ H1 (fun u H2 => ∃ R2 μ2 w2 st2, Le R1 μ1 R2 μ2 ∧ Be T Pr R2 μ2 env st2 σ H2 ∧ RelW T R2 μ2 w2 u ∧ Post T Pr Wx σ (RV T Q) R2 μ2 (o w w2 st2)) I1
    (rdV.bindV b1 p1 fun R2 μ2 w2 st2 H2 u l b2 r p => ⟨R2, μ2, w2, st2, l, b2, r, p⟩)) fun u s2 ⟨y, H2, I2, r2, R2, μ2, w2, st2, l2, b2, rw2, p2⟩ => ?_
  exact ho pins s2 σ H2 x y v u Q Pr R2 μ2 st2 w w2 I2 r1 r2 b2.s (RelW.le l2 rw1) rw2 p2
end

/-! ### names, constants -/
section
variable {T : Tb} {k : Nat} {N : List PySem.Str} {nms : List (PySem.Str × NameKind)} {Wx : WX} {X : Cx} {pos : Pos}
theorem snd_var {i : Nat} {x : PySem.Str} (c : CtxB T N nms Wx X) (hi : N[i]? = some x) (hv : visB nms x = true) (hd : (x == ("__debug__" : PySem.Str)) = false) (hcd : (x == ("__classdict__" : PySem.Str)) = false) (g : Gd) (cl : Cl) :
    PE X (.Name x pos) (rdV T Wx (sem g cl (.var i)).v) := by
  have h0 := pe_var (X := X) (i := i) (x := x) (pos := pos) (by rw [c.hN]; exact hi) (c.vis hv) hd hcd
  refine ⟨fun pins s σ H Q I h => h0.run pins s σ H Q I ?_⟩
  obtain ⟨Pr, R, μ, env, st, be, h⟩ := h
  show ∃ v, σ[i]? = some (some v) ∧ Q v H
  have h : Post T Pr Wx σ (RV T Q) R μ (match env[i]? with | some (some w) => Res.ok w st | _ => .stuck) := h
  split at h
  · rename_i w e
    obtain ⟨v, e1, e2⟩ := be.e.2 i w (by rw [I.len, c.hN]; exact (List.getElem?_eq_some_iff.mp hi).1) e
    exact ⟨v, e1, h.ok be.s v e2⟩
  · exact h.elim
theorem snd_con {e : Expr} {v : V} {x : C} (h0 : PE X e (tC v)) (hv : ∀ R, RelC T R x v) {f : Env → S → Res W} (hf : ∀ env st, f env st = okc x st) : PE X e (rdV T Wx f) := by
  refine ⟨fun pins s σ H Q I h => h0.run pins s σ H Q I ?_⟩
  obtain ⟨Pr, R, μ, env, st, be, h⟩ := h
  rw [hf] at h
  exact h.ok be.s v (hv R)
end
end Ev

/-! En: enumerate of a tuple. -/
namespace Ev
open PySem PySem.Spec PyProof.Rows L2
section
open AutoSeq1 (wpAny_loadPart')
abbrev titO (l : Addr) : Obj := { cls := .type "tuple_iterator", data := .fields #[.ref l, .int 0 0] }
abbrev enO (i : Addr) : Obj := { cls := .type "enumerate", data := .fields #[.none, .bool false, .ref i, rawInt 0, .none, .none] }
theorem enum_newT (l : Addr) (its : Array Value) :
    Meets (Builtin.«enumerate.__new__» ⟨[.type "enumerate", .ref l], []⟩) (fun _ R s => s.heap.IsTuple l its ∧
      R (.ok (.ret (.ref (s.heap.push (titO l)).objs.size))) { s with heap := (s.heap.push (titO l)).push (enO s.heap.objs.size) }) :=
  .of_wp fun prog w A R s h => by
    obtain ⟨hp, g, d, tk, os⟩ := s
    obtain ⟨hL, h⟩ := h
    obtain ⟨ol, hl, _⟩ := id hL
    have hsub := sub_enumerate
    have hL : Heap.IsTuple (Shared.heap ⟨hp, g, d, tk, os⟩) l its := hL
    wp_walk using wpAny_loadPart' hl
    refine wpAny_stack_any fun st => wpAny_pure ?_
    split
    · rename_i c _ _ _ _ _
      cases (c == Value.type "enumerate") <;> (wp_walk using wpAny_loadPart' hl, wpAny_pyIter_tuple hL; exact ⟨_, rfl, h⟩)
    · wp_walk using wpAny_loadPart' hl, wpAny_pyIter_tuple hL
      exact ⟨_, rfl, h⟩
variable {prog : Program} {w : World} {A : Around} {E : Value → Shared → Prop} {s : Shared}
theorem call_enumT {l : Addr} {its : Array Value} {Q : Value → Shared → Prop} (hL : s.heap.IsTuple l its)
    (h : ∀ h', IsEnum h' (s.heap.objs.size + 1) s.heap.objs.size 0 .none → h'.IsTupleIter s.heap.objs.size l 0 → (∀ b o, s.heap.get? b = some o → h'.get? b = some o) → Q (.ref (s.heap.objs.size + 1)) { s with heap := h' }) :
    wpAny (model prog w) A (PySem.call (.type "enumerate") [.ref l]) Q E s := by
  refine callType_new F.called_enumerate (by decide) (F.typeCall_enumerate_1 _) (F.newCall_enumerate_1 _) (fun obj => F.args_object_init_2 obj _) F.entry_enumerate_new (enum_newT l its) ⟨hL, ?_⟩
  have hz : (s.heap.push (titO l)).objs.size = s.heap.objs.size + 1 := Heap.size_push ..
  have he : IsEnum ((s.heap.push (titO l)).push (enO s.heap.objs.size)) (s.heap.objs.size + 1) s.heap.objs.size 0 .none := by
    have q := Heap.get?_push_size (s.heap.push (titO l)) (o := enO s.heap.objs.size) rfl
    rw [hz] at q
    exact q
  show _ ∧ _
  rw [hz]
  exact ⟨⟨_, he, rfl⟩, h _ he ⟨_, Heap.get?_push_of_some _ (Heap.get?_push_size _ rfl), rfl, rfl⟩ fun b o x => Heap.get?_push_of_some _ (Heap.get?_push_of_some _ x)⟩
/-- what a tuple's iterator gives -/
theorem drawsT {it a : Addr} {its : Array Value} (hd : A.handled = none) (hne : it ≠ a) : Draws prog w A it [it, a] its.size (fun i x => its[i]? = some x) (fun i h => h.IsTupleIter it a i ∧ h.IsTuple a its) where
  live := fun i h st => let ⟨⟨o, ho, _⟩, _⟩ := st; ⟨o, ho⟩
  frame := fun i h h' st k => ⟨st.1.at fun o e => k it (by simp) o e, st.2.at fun o e => k a (by simp) o e⟩
  item := fun i s Q E hi st hQ => by
    have hx : its[i]? = some its[i] := Array.getElem?_eq_getElem hi
    exact RZ.nextOf_tuple_item st.1 st.2 hx fun h' st' sb => hQ _ h' s.toks hx ⟨st', st.2.at fun o e => (sb.2 a (Ne.symm hne)).trans e⟩ sb
  done := fun s Q E st hE => RZ.nextOf_tuple_end hd st.1 st.2 (Array.getElem?_eq_none (Nat.le_refl _)) hE
end
/-- the tuple at a as it stands at each turn, each item in a new pair -/
def Iten (K : PySem.W.Frag) (a : Addr) : It :=
  ⟨fun i H => ∃ (xs : List V) (x : V), SqT K H a xs ∧ xs[i]? = some x,
   fun i H v H' => ∃ q x, v = .ref q ∧ H q = none ∧ H' = upd H q (.tup [.int (i : Nat), x]) ∧ ∀ xs, SqT K H a xs → xs[i]? = some x,
   fun i H => ∃ xs : List V, SqT K H a xs ∧ xs.length ≤ i⟩
theorem turn_enumT {P : Program} {w : World} {K : PySem.W.Frag} {elts : List Expr} {kk : Nat} {tpos : Pos} (a e it : Addr) :
    Turn P w K (.Tuple elts kk tpos) (Iten K a) [e, it] e (fun i h => (∃ old, IsEnum h e it ((i : Nat) : Int) old) ∧ h.IsTupleIter it a i ∧ e ≠ it) where
  mem := by simp
  obj := fun i h st b hb => by
    obtain ⟨⟨old, he⟩, ⟨o, ho, hc, hd⟩, _⟩ := st
    rcases (by simpa using hb : b = e ∨ b = it) with rfl | rfl
    · exact ⟨_, he, fun v q => nomatch q⟩
    · exact ⟨o, ho, fun v q => by rw [hd] at q; cases q⟩
  keep := fun i h h' st k => by
    obtain ⟨⟨old, he⟩, hi, hne⟩ := st
    exact ⟨⟨old, k e (by simp) _ he⟩, hi.at fun o q => k it (by simp) o q, hne⟩
  item := by
    intro X hP hw hK hc i pins s σ H E I hf st hg
    subst hP hw hK
    obtain ⟨⟨old, he⟩, hit, hne⟩ := st
    obtain ⟨xs, x, hq, hx⟩ := hg
    obtain ⟨its, rv, p, hz⟩ := I.tuple hq
    have p : s.heap.IsTuple a its.toArray := p
    obtain ⟨u, hu, ru⟩ := rv.get hx
    have hel : e < s.heap.objs.size := Heap.lt_size he
    have hil : it < s.heap.objs.size := by obtain ⟨_, q, _⟩ := hit; exact Heap.lt_size q
    obtain ⟨ot, hot, hct, nt, hdt⟩ := id p
    have nea : e ≠ a := fun z => by rw [z] at he; rw [show s.heap.get? a = some _ from he] at hot; cases hot; exact absurd hct (by simp)
    have nia : it ≠ a := fun z => by
      obtain ⟨o, ho, hc', _⟩ := id hit
      rw [z, hot] at ho; cases ho; rw [hct] at hc'; exact absurd hc' (by simp)
    have hlt : i < its.toArray.size := by
      have := (List.getElem?_eq_some_iff.mp hu).1
      simpa using this
    refine wpAny_pyNext_enum_itemD (drawsT (A := X.A.in1) (I.ok.hd hc) nia) he ⟨hit, p⟩ hlt hne (by simp [hne, nea]) fun y h' tk hy ho st' hT hsz hk => ?_
    have ey : y = u := by
      have : its.toArray[i]? = some u := by simpa using hu
      rw [this] at hy; exact (Option.some.inj hy).symm
    subst ey
    obtain ⟨hit', _⟩ := st'
    refine ⟨_, rfl, wpAny_letOwnedTupleGo_enum (s := { s with heap := h', toks := tk + 1 }) ho fun h'' he' sb => ?_⟩
    have hT2 : h''.get? s.heap.objs.size = some { cls := .type "tuple", data := .seq #[.int i tk, y] } := (sb.2 _ (Nat.ne_of_gt hel)).trans hT
    have new : ObjOk X.prog X.w (upd H s.heap.objs.size (.tup [.int (i : Nat), x])) h'' s.heap.objs.size (.tup [.int (i : Nat), x]) :=
      ⟨by show 2 ≤ sizeLine; decide, [.int i tk, y], .cons ⟨_, rfl⟩ (.cons ru .nil), ⟨_, hT2, rfl, _, rfl⟩⟩
    have I1 : Inv X pins σ (upd H s.heap.objs.size (.tup [.int (i : Nat), x])) { s with heap := h'', toks := tk + 1 } :=
      I.turnedNew (ch := [e, it]) (fun b ob hb q => (sb.2 b (fun z => hb (by simp [z]))).trans (hk b ob (fun z => hb (by simp [z])) (fun z => hb (by simp [z])) q)) hf (Nat.le_refl _) new
    refine ⟨.ref s.heap.objs.size, _, I1, rfl, ⟨_, x, rfl, I.hok.fresh (Nat.le_refl _), rfl, fun ys hy => by rw [I.tuple_inj hy hq]; exact hx⟩, ⟨⟨y, ?_⟩, hit'.at fun o q => (sb.2 it (Ne.symm hne)).trans q, hne⟩, fun b hb => ?_⟩
    · rw [show ((i + 1 : Nat) : Int) = (i : Int) + 1 by omega]
      exact he'
    · have hb' : b < s.heap.objs.size := by rcases (by simpa using hb : b = e ∨ b = it) with rfl | rfl <;> assumption
      rw [upd_ne (Nat.ne_of_lt hb')]
      exact (hf b hb).1
  done := by
    intro X hP hw hK hc i pins s σ H E I hf st hg
    subst hP hw hK
    obtain ⟨⟨old, he⟩, hit, hne⟩ := st
    obtain ⟨xs, hq, hx⟩ := hg
    obtain ⟨its, rv, p, hz⟩ := I.tuple hq
    have p : s.heap.IsTuple a its.toArray := p
    obtain ⟨f0, f1, f2, f3, f4, f5⟩ := hf it (by simp)
    have hl := rv.length
    obtain ⟨ot, hot, hct, nt, hdt⟩ := id p
    have nia : it ≠ a := fun z => by
      obtain ⟨o, ho, hc', _⟩ := id hit
      rw [z, hot] at ho; cases ho; rw [hct] at hc'; exact absurd hc' (by simp)
    have D : Draws X.prog X.w X.A.in1 it [it, a] 0 (fun _ _ => False) (fun j h => h.IsTupleIter it a (i + j) ∧ h.IsTuple a its.toArray) :=
      ⟨fun j h st => let ⟨⟨o, ho, _⟩, _⟩ := st; ⟨o, ho⟩, fun j h h' st k => ⟨st.1.at fun o e => k it (by simp) o e, st.2.at fun o e => k a (by simp) o e⟩, fun j s Q E hj => absurd hj (Nat.not_lt_zero j),
        fun s Q E st hE => RZ.nextOf_tuple_end (I.ok.hd hc) st.1 st.2 (Array.getElem?_eq_none (by simp; omega)) hE⟩
    exact wpAny_pyNext_enum_endD D he ⟨hit, p⟩ fun h' eb => ⟨rfl, I.turned (t' := s.toks) (fun b o hb q => eb b o hb q) f0 f1 f3 f4 f5⟩
  self := fun A i s Q E st h => let ⟨⟨_, he⟩, _⟩ := st; wpAny_pyIter_enum he h
end Ev

/-! Ops: operators by values. -/
namespace Ev
open PySem PySem.Spec PyProof.Rows L2
section
variable {T : Tb} {R R' Pr H : Hp} {μ : Mu} {st : S} {X : Cx} {σ : L2.St} {Wx : WX}
theorem line_eq : (16777216 : Nat) = sizeLine := sizeLine_eq.symm
/-- a closed result, the state as it is -/
theorem Post.okc {Q : VK} {x : C} {v : V} (s : Sim T R Pr μ st H) (h : Post T Pr Wx σ (RV T Q) R μ (okc x st)) (r : RelC T R x v) : Q v H := h.ok s v r
/-- a closed result that is a new object -/
theorem Post.fresh {Q : VK} {x : C} {o : HO} {p : Addr} (s : Sim T R Pr μ st H) (h : Post T Pr Wx σ (RV T Q) R μ (Ev.okc x st)) (hp : H p = none) (r : RelC T (upd R p o) x (.ref p)) (hnt : ∀ ps, o ≠ .tbl ps := by intro _ h; cases h) : Q (.ref p) (upd H p o) := by
  obtain ⟨s', l⟩ := s.frozen (o := o) hp hnt
  exact h _ _ _ l s' _ r
theorem strV_append (xs ys : List Nat) : strV (xs ++ ys) = strV xs ++ strV ys := by
  show (⟨(xs ++ ys).toArray⟩ : PySem.Str) = ⟨xs.toArray ++ ys.toArray⟩
  simp
theorem strV_len (xs : List Nat) : (strV xs).length = xs.length := by simp [strV, PySem.Str.length]
theorem RelCs.upd' {cs : List C} {vs : List V} {p : Addr} {o : HO} (s : Sim T R Pr μ st H) (hp : H p = none) (h : RelCs T R cs vs) : RelCs T (upd R p o) cs vs := RelCs.le (upd_ext (s.rn hp)) h

theorem lstOf_rel {w : W} {ws : List W} {v : V} (sm : Sim T R Pr μ st H) (e : lstOf st w = some ws) (r : RelW T R μ w v) : ∃ p vs, v = .ref p ∧ H p = some (.lst vs) ∧ RelWs T R μ ws vs := by
  unfold lstOf at e
  split at e
  · cases e
    obtain ⟨p, vs, rfl, h1, h2⟩ := r
    exact ⟨p, vs, rfl, sm.r _ _ h1, RelWs.ofC h2⟩
  · split at e
    · rename_i hc
      cases e
      obtain ⟨p, rfl, h1⟩ := r
      obtain ⟨q, k1, _, _, vs, k2, k3⟩ := sm.c _ _ hc
      rw [h1] at k1; cases k1
      exact ⟨p, vs, rfl, k2, k3⟩
    · cases e
  · cases e
theorem ops_add {g : Gd} {cl : Cl} (hK : X.K = T.K) : OpS T X Wx (binaryOp .Add) (bin g cl .add) := by
  intro pins s σ H x y v u Q Pr R μ st a b I rx ry sm ra rb h
  have h : Post T Pr Wx σ (RV T Q) R μ (addOp a b st) := h
  unfold addOp at h
  split at h
  · obtain rfl := ra
    obtain rfl := rb
    exact op_add pins s σ H _ _ v u Q I rx ry ⟨_, _, rfl, rfl, h.okc sm rfl⟩
  · obtain ⟨p, xs, rfl, h1, h2⟩ := ra
    obtain ⟨q, ys, rfl, k1, k2⟩ := rb
    unfold addL at h
    split at h
    · rename_i hl
      refine op_cat pins s σ H _ _ v u Q I rx ry ⟨p, q, xs, ys, rfl, rfl, sm.r _ _ h1, sm.r _ _ k1, by rw [← h2.length, ← k2.length, ← line_eq]; exact hl, fun z hz => ?_⟩
      exact h.fresh sm hz ⟨z, _, rfl, upd_same, (h2.append k2).upd' sm hz⟩
    · exact h.elim
  · obtain ⟨p, xs, rfl, h1, h2⟩ := ra
    obtain ⟨q, ys, rfl, k1, k2⟩ := rb
    unfold addL at h
    split at h
    · rename_i hl
      refine op_catA pins s σ H _ _ v u Q I rx ry ⟨p, q, xs, ys, rfl, rfl, by rw [hK]; exact sqT_le h1 sm.r, by rw [hK]; exact sqT_le k1 sm.r, by rw [← h2.length, ← k2.length, ← line_eq]; exact hl, fun e => ?_, fun _ e => ?_, fun _ _ z hz => ?_⟩
      · subst e
        refine h.okc sm ?_
        have e2 := h2.length
        rw [List.length_nil] at e2
        rw [List.length_eq_zero_iff.mp e2, List.nil_append]
        exact ⟨q, ys, rfl, k1, k2⟩
      · subst e
        refine h.okc sm ?_
        have e2 := k2.length
        rw [List.length_nil] at e2
        rw [List.length_eq_zero_iff.mp e2, List.append_nil]
        exact ⟨p, xs, rfl, h1, h2⟩
      · exact h.fresh sm hz ⟨z, _, rfl, .inl (.inl upd_same), (h2.append k2).upd' sm hz⟩
    · exact h.elim
  · obtain rfl := ra
    obtain rfl := rb
    split at h
    · rename_i hl
      refine op_add_str pins s σ H _ _ v u Q I rx ry ⟨_, _, rfl, rfl, by rw [strV_len, strV_len, ← line_eq]; exact hl, ?_⟩
      exact h.okc sm (by show V.str _ = V.str _; rw [strV_append])
    · exact h.elim
  · unfold addC at h
    split at h
    · rename_i xs0 ys0 e1 e2
      split at h
      · rename_i cs hc
        split at h
        · rename_i hl
          obtain ⟨p, xs, rfl, h1, h2⟩ := lstOf_rel sm e1 ra
          obtain ⟨q, ys, rfl, k1, k2⟩ := lstOf_rel sm e2 rb
          refine op_cat pins s σ H _ _ v u Q I rx ry ⟨p, q, xs, ys, rfl, rfl, h1, k1, by rw [← h2.length, ← k2.length, ← line_eq]; exact hl, fun z hz => ?_⟩
          exact h.fresh sm hz ⟨z, _, rfl, upd_same, ((h2.append k2).clo hc).upd' sm hz⟩
        · exact h.elim
      · exact h.elim
    · exact h.elim
theorem ops_int {f : Value → Value → PySem.Sem Value} {ok : Int → Int → Bool} {k : Int → Int → Int} {Cd : Int → Int → Prop} (ho : OpR X f (rI Cd fun i j => .int (k i j))) (hc : ∀ i j, ok i j = true → Cd i j) : OpS T X Wx f (intOp ok k) := by
  intro pins s σ H x y v u Q Pr R μ st a b I rx ry sm ra rb h
  unfold intOp at h
  split at h
  · obtain rfl := ra
    obtain rfl := rb
    split at h
    · rename_i hl
      exact ho pins s σ H _ _ v u Q I rx ry ⟨_, _, rfl, rfl, hc _ _ hl, h.okc sm rfl⟩
    · exact h.elim
  · exact h.elim
theorem small64_ok {i : Int} (h : small64 i = true) : -(2 ^ 64) < i ∧ i < 2 ^ 64 := by
  simpa [small64] using h
theorem ops_sub {g : Gd} {cl : Cl} : OpS T X Wx (binaryOp .Sub) (bin g cl .sub) :=
  ops_int (Cd := fun _ _ => True) (fun pins s σ H x y v u Q I rx ry ⟨i, j, e1, e2, _, q⟩ => op_sub pins s σ H x y v u Q I rx ry ⟨i, j, e1, e2, q⟩) fun _ _ _ => trivial
theorem ops_mul {g : Gd} {cl : Cl} : OpS T X Wx (binaryOp .Mult) (bin g cl .mul) := by
  intro pins s σ H x y v u Q Pr R μ st a b I rx ry sm ra rb h
  have h : Post T Pr Wx σ (RV T Q) R μ (mulOp a b st) := h
  unfold mulOp at h
  split at h
  · obtain rfl := ra
    obtain rfl := rb
    split at h
    · rename_i hl
      refine op_mul pins s σ H _ _ v u Q I rx ry ⟨_, _, rfl, rfl, ?_, h.okc sm rfl⟩
      rcases Bool.or_eq_true_iff.mp hl with e | e
      · exact .inl (small64_ok e)
      · exact .inr (small64_ok e)
    · exact h.elim
  · exact h.elim
theorem ops_fdiv {g : Gd} {cl : Cl} : OpS T X Wx (binaryOp .FloorDiv) (bin g cl .fdiv) := ops_int op_fdiv fun i j h => of_decide_eq_true (p := 0 < j ∧ j < 1073741824) h
theorem ops_mod {g : Gd} {cl : Cl} : OpS T X Wx (binaryOp .Mod) (bin g cl .mod) := ops_int op_mod fun i j h => of_decide_eq_true h
theorem ops_pow {g : Gd} {cl : Cl} : OpS T X Wx (binaryOp .Pow) (bin g cl .pow) := ops_int op_pow fun i j h => by
  obtain ⟨h1, h2⟩ := Bool.and_eq_true_iff.mp h
  have h1 := of_decide_eq_true h1
  have h3 := small64_ok h2
  exact ⟨h1.1, h1.2, by omega⟩

/-! ### plain data -/
mutual
theorem pln_lay : ∀ (n : Nat) (c : C), pln n c = true → PyData.canLay0 (toD c) = true ∧ PyData.depth (toD c) ≤ n + 1
  | n, .non, _ => by simp [toD, PyData.canLay0, PyData.depth]
  | n, .bl _, _ => by simp [toD, PyData.canLay0, PyData.depth]
  | n, .int _, _ => by simp [toD, PyData.canLay0, PyData.depth]
  | n, .str s, h => by
    have h : PyData.strOk ⟨s.toArray⟩ = true := by cases n <;> exact h
    simp [toD, PyData.canLay0, PyData.depth, h]
  | 0, .tup cs, h => by simp [pln] at h
  | 0, .lst cs, h => by simp [pln] at h
  | 0, .frz cs, h => by simp [pln] at h
  | n + 1, .tup cs, h => by
    have q := plns_lay n cs h
    simp only [toD, PyData.canLay0, PyData.depth]
    exact ⟨q.1, by have := q.2; omega⟩
  | n + 1, .lst cs, h => by
    have q := plns_lay n cs h
    simp only [toD, PyData.canLay0, PyData.depth]
    exact ⟨q.1, by have := q.2; omega⟩
  | n + 1, .frz cs, h => by
    have q := plns_lay n cs h
    simp only [toD, PyData.canLay0, PyData.depth]
    exact ⟨q.1, by have := q.2; omega⟩
  | 0, .dct _ _, h => by simp [pln] at h
  | 0, .ins _ _ _, h => by simp [pln] at h
  | n + 1, .dct _ _, h => by simp [pln] at h
  | n + 1, .ins _ _ _, h => by simp [pln] at h
theorem plns_lay : ∀ (n : Nat) (cs : List C), plns n cs = true → PyData.canLayAll0 (toDs cs) = true ∧ PyData.depthAll (toDs cs) ≤ n + 1
  | n, [], _ => by simp [toDs, PyData.canLayAll0, PyData.depthAll]
  | n, c :: cs, h => by
    have h : pln n c = true ∧ plns n cs = true := by simpa [plns] using h
    have q1 := pln_lay n c h.1
    have q2 := plns_lay n cs h.2
    simp only [toDs, PyData.canLayAll0, PyData.depthAll, q1.1, q2.1, Bool.and_self, true_and]
    have := q1.2; have := q2.2
    omega
end
theorem shp_ok {c : C} (h : shp c = true) : SeqAt.shaped (toD c) = true := by
  have q := pln_lay 60 c h
  unfold SeqAt.shaped
  rw [q.1, decide_eq_true (by have := q.2; omega)]
  rfl
mutual
theorem dp_of (s : Sim T R Pr μ st H) : ∀ (n : Nat) (c : C) (v : V), pln n c = true → RelC T R c v → Dp T.K H v (toD c)
  | _, .non, v, _, r => by cases r; simp only [toD]; exact .non
  | _, .bl b, v, _, r => by cases r; simp only [toD]; exact .bl b
  | _, .int i, v, _, r => by cases r; simp only [toD]; exact .int i
  | _, .str x, v, _, r => by cases r; simp only [toD]; exact .str _
  | 0, .tup cs, v, h, r => by simp [pln] at h
  | 0, .lst cs, v, h, r => by simp [pln] at h
  | 0, .frz cs, v, h, r => by simp [pln] at h
  | n + 1, .tup cs, v, h, r => by
    obtain ⟨a, vs, rfl, h1, h2⟩ := r
    simp only [toD]
    exact .tup (sqT_le h1 s.r) (dps_of s n cs vs h h2)
  | n + 1, .lst cs, v, h, r => by
    obtain ⟨a, vs, rfl, h1, h2⟩ := r
    simp only [toD]
    exact .lst (.of (s.r _ _ h1)) (dps_of s n cs vs h h2)
  | n + 1, .frz cs, v, h, r => by
    obtain ⟨a, vs, rfl, h1, h2⟩ := r
    simp only [toD]
    exact .lst (sqL_le h1 s.r) (dps_of s n cs vs h h2)
  | 0, .dct _ _, _, h, _ => by simp [pln] at h
  | 0, .ins _ _ _, _, h, _ => by simp [pln] at h
  | n + 1, .dct _ _, _, h, _ => by simp [pln] at h
  | n + 1, .ins _ _ _, _, h, _ => by simp [pln] at h
theorem dps_of (s : Sim T R Pr μ st H) : ∀ (n : Nat) (cs : List C) (vs : List V), plns n cs = true → RelCs T R cs vs → DpAll T.K H vs (toDs cs)
  | _, [], vs, _, r => by cases r; simp only [toDs]; exact .nil
  | n, c :: cs, vs, h, r => by
    obtain ⟨v, t, rfl, h1, h2⟩ := r
    have h : pln n c = true ∧ plns n cs = true := by simpa [plns] using h
    simp only [toDs]
    exact .cons (dp_of s n c v h.1 h1) (dps_of s n cs t h.2 h2)
end
/-- a value as plain data -/
theorem dat_dp (s : Sim T R Pr μ st H) {w : W} {c : C} {v : V} (e : dat st w = some c) (hs : shp c = true) (r : RelW T R μ w v) : Dp T.K H v (toD c) := by
  cases w with
  | c x =>
    cases e
    exact dp_of s 60 c v hs r
  | r n =>
    unfold dat at e
    cases q : cellAt st n with
    | none => simp only [q] at e; cases e
    | some x =>
      simp only [q] at e
      cases x with
      | lst ws =>
        cases q2 : clo ws with
        | none => simp only [q2] at e; cases e
        | some cs =>
          simp only [q2, Option.map_some, Option.some.injEq] at e
          subst e
          obtain ⟨a, h1, h2, h3, vs, h4, h5⟩ := s.c n _ q
          obtain ⟨a', rfl, h6⟩ := r
          rw [h1] at h6; cases h6
          simp only [toD]
          exact .lst (.of h4) (dps_of s 59 cs vs hs (h5.clo q2))
      | ins _ _ _ => cases e
      | dct _ _ => cases e
end
end Ev

/-! Xs: own exceptions whose __init__ says super().__init__(text), then sets a field. -/
namespace Ev
open PySem PySem.Spec PySem.W PySem.Calls PyProof.Rows L2

def notStar' : Expr → Bool
  | .Starred .. => false | _ => true
/-- such an __init__ -/
abbrev xiBody (p0 p1 p2 p3 p4 p5 p6 p7 p8 p9 : Pos) (k : Nat) (text f v : PySem.Str) : List Stmt :=
  [.Expr (.Call (.Attribute (.Call (.Name "super" p0) [] [] p1) "__init__" p2) [.Constant (.str text) k p3] [] p4) p5,
   .Assign [.Attribute (.Name "self" p6) f p7] (.Name v p8) p9]
/-- what is told of its class -/
structure XcC (K : PySem.W.Frag) (C : Addr) (B newId initId : String) (bmB : List Value) (f : PySem.Str) : Prop where
  FB : ExcBaseFacts B newId initId bmB
  KF : KxsFacts B initId
  SF : StoreFacts B bmB "object.__setattr__" "object"
  q : excInitIn K C bmB newId = true
  over : excOver K C bmB = true
  sup : ks_superIn K C C "__init__" = some (some (.builtin initId))
  sub : subIn K (.ref C) (.type B) = some true
  self : mroIn K C (.ref C) = some true
  op : nsIn K cStatics "thirdparty.any" = some none
  sa : findIn K (.ref C) "__setattr__" = some (some (.builtin "object.__setattr__"))
  no : findIn K (.ref C) f = some none
  hd : ∃ cd, clsIn K C = some cd ∧ cd.hasDict = true
section
variable {params : Arguments} {body : List Stmt} {scope : Scope} {qual : PySem.Str} {P : Program} {w : World} {A : Around} {R : Result → Shared → Prop} {K : PySem.W.Frag} {C fI cc cda x t0 : Addr} {B newId initId : String} {bmB : List Value} {f v : PySem.Str}
/-- super().__init__(text) is called: the args are laid anew -/
theorem call_mw {E : Value → Shared → Prop} {s : Shared} {u : Addr} {dv : Option Addr} {rest : List Value} {Q : Value → Shared → Prop} (X : K.In s.heap) (FB : ExcBaseFacts B newId initId bmB) (q : excInitIn K C bmB newId = true) (hu : KxsAt initId u x s.heap)
    (he : s.heap.get? x = some (excObj C t0 dv .none)) (hz : rest.length ≤ sizeLine)
    (h : ∀ t' h', (∀ b o, b ≠ x → s.heap.get? b = some o → h'.get? b = some o) → h'.get? x = some (excObj C t' dv .none) → Q .none { s with heap := h' }) :
    wpAny (model P w) A (PySem.call (.ref u) rest) Q E s := by
  obtain ⟨nm, N', qn, bs, bm, hdct, sn, sub, ab, col, dd, k0, k1, k2, k3, k5, hC, hT⟩ := excInit_of X q
  have hu : s.heap.get? u = some (kxs_mw initId x) := hu
  obtain ⟨hh, g, d, tk, os⟩ := s
  refine wpAny_call (codeAny_of_tree ?_)
  show wpAny _ A.in1 (callAny (.ref u) ⟨rest, []⟩) _ _ _
  simp only [callAny]
  refine wpAny_bind (wpAny_load hu ?_)
  simp only [kxs_mw, show (Value.type "method-wrapper" == Value.type "method" || Value.type "method-wrapper" == Value.type "builtin_function_or_method" || Value.type "method-wrapper" == Value.type "method-wrapper") = true by decide, if_true]
  refine KFB.if_so (by decide) ?_
  refine wpAny_bind (check_bound_init FB.toExcCallFacts hC he rfl ?_)
  refine wpAny_bind (wpAny_pure (wpAny_pure ?_))
  refine ⟨plainId_quiet FB.init.plain _, codeAny_builtin FB.initEntry ?_⟩
  exact exc_init_tree (cls := .ref C) (t0 := t0) (dv := dv) (c2 := .none) (c3 := .none) (b4 := .bool false) he hz fun h' k e' _ => h _ h' k e'
/-- where the def stands -/
structure XiD (P : Program) (K : PySem.W.Frag) (fI cda cc C : Addr) (params : Arguments) (body : List Stmt) (scope : Scope) (qual v : PySem.Str) : Prop where
  fn : ∃ (oc : Value) (od : Option Addr) (dV kV doc pm : Value) (an : Option Addr) (ct : Value) (osl : Array (Option Value)), K.lookup fI = some ⟨oc, od, .func (ksFn "__init__" qual params body scope dV kV doc pm an (.ref cda) ct cc), osl⟩ ∧
    ∀ a b : Value, bindArgs (ksFn "__init__" qual params body scope dV kV doc pm an (.ref cda) ct cc) ⟨[a, b], []⟩ = pure [(("self" : PySem.Str), a), (v, b)]
  code : codeIn K (.ref cda) qual = true
  file : ∃ (ccl : Value) (cdd : Option Addr) (vs : Array Value) (ccs : Array (Option Value)) (file : PySem.Str) (tf : Tok), K.lookup cda = some ⟨ccl, cdd, .fields vs, ccs⟩ ∧ vs[2]? = some (.str file tf) ∧ ((P.main.file : PySem.Str) == file) = true
  cell : ∃ (cl : Value) (cld : Option Addr) (csl : Array (Option Value)), K.lookup cc = some ⟨cl, cld, .cell (some (.ref C)), csl⟩
  head : ∃ ar : Arg, (params.posonlyargs ++ params.args).head? = some ar ∧ ar.arg = "self"
  ks : scope.names.lookup ("super" : PySem.Str) = some .globalImplicit
  kc : scope.names.lookup ("__class__" : PySem.Str) = some .free
  ka : scope.names.lookup ("self" : PySem.Str) = some .local
  kv : scope.names.lookup v = some .local
  vs : v ≠ "self"
  vd : (v == ("__debug__" : PySem.Str)) = false
  nc : ∀ y ∈ scope.names, y.2 ≠ .cell
  k : scope.kind = .function
  co : scope.isCoroutine = false
  gen : scope.isGenerator = false
  top : (P.main.scope.names.lookup ("super" : PySem.Str)).isSome = false
  sup : nsIn K mainGlobals "super" = some none
  kf : isFn K (.ref fI) = true

theorem mcall_eq {o c : Expr} {m : PySem.Str} {apos pos : Pos} {env : PySem.Env} (hline : (apos.endLine == pos.line) = true) (hs : starEach [c] env = (false, eval c env) :: starEach [] env) :
    eval (.Call (.Attribute o m apos) [c] [] pos) env = (do
      let ov ← attributeBase o m env (eval o env)
      standAt apos.atName
      let (f, first) ← holding [ov] (getMethod ov m (plainOf o env))
      callWith pos f first (backTo pos (starEach [c] env)) []) := by
  rw [arm_eval_Call]
  congr 1
  funext ov
  congr 1
  funext _
  refine mcall_line ?_ hline
  rw [hs]; rfl
/-- THE CALL of such an __init__ -/
theorem run_xinit {D : XiD P K fI cda cc C params body scope qual v} {p0 p1 p2 p3 p4 p5 p6 p7 p8 p9 : Pos} {k : Nat} {text : PySem.Str} (hline : (p2.endLine == p4.line) = true) (hbody : body = xiBody p0 p1 p2 p3 p4 p5 p6 p7 p8 p9 k text f v) {s : Shared} {mg : PySem.Str → Option Value} {u : Value}
    (T : XcC K C B newId initId bmB f) (X : K.In s.heap) (G : s.heap.Ns mainGlobals mg) (Bt : ∃ mb, s.heap.Ns builtinsNs mb ∧ ∀ y : PySem.Str, y ≠ "__name__" → mb y = bootBuiltins y) (lim : s.heap.NoLimit) (hroom : A.depth < recursionLimit)
    (hx : s.heap.get? x = some (excObj C t0 none .none)) (hxK : K.lookup x = none)
    (h : ∀ h' tk' dx t1, (∀ b o, b ≠ x → s.heap.get? b = some o → h'.get? b = some o) → s.heap.objs.size ≤ dx → h'.get? x = some (excObj C t1 (some dx) .none) → h'.Ns1 dx (fun y => if y = f then some u else none) → R (.ok (.ret .none)) { s with heap := h', toks := tk' }) :
    codeAny (model P w) A (.call (.ref fI) ⟨[.ref x, u], []⟩) R s := by
  obtain ⟨oc, od, dV, kV, doc, pm, an, ct, osl, lk, hbi⟩ := D.fn
  obtain ⟨ccl, cdd, vs, ccs, file, tf, hcode, hvs, hfile⟩ := D.file
  obtain ⟨cl, cld, csl, hcell⟩ := D.cell
  obtain ⟨ar, har, ear⟩ := D.head
  obtain ⟨cd, hcd, hdict⟩ := T.hd
  refine ks_codeAny_call_defAt (fd := ksFn "__init__" qual params body scope dV kV doc pm an (.ref cda) ct cc) (body := body) (binds := [(("self" : PySem.Str), .ref x), (v, u)]) hroom (X _ _ lk) rfl lim (codeRec_of X D.code) rfl (BindsTo.of_eq (hbi _ _)) D.nc (fun y hy => ?_) (fun h₁ hns hk => ?_) D.co D.gen D.k
  · rcases List.mem_cons.mp hy with rfl | hy
    · exact D.ka
    · rcases List.mem_cons.mp hy with rfl | hy
      · exact D.kv
      · cases hy
  have X1 : K.In h₁ := X.keeps hk
  have G1 := G.keeps hk
  have hself : (fun y => ([(("self" : PySem.Str), Value.ref x), (v, u)] : List (PySem.Str × Value)).reverse.lookup y) "self" = some (.ref x) := by
    show List.lookup ("self" : PySem.Str) [(v, u), (("self" : PySem.Str), Value.ref x)] = _
    rw [List.lookup_cons, show (("self" : PySem.Str) == v) = false from by rw [beq_eq_false_iff_ne]; exact fun e => D.vs e.symm]
    simp
  have hval : (fun y => ([(("self" : PySem.Str), Value.ref x), (v, u)] : List (PySem.Str × Value)).reverse.lookup y) v = some u := by
    show List.lookup v [(v, u), (("self" : PySem.Str), Value.ref x)] = _
    simp
  obtain ⟨mb, Bb, hbt⟩ := Bt
  have hx1 := hk _ _ hx
  rw [hbody]
  obtain ⟨oD, hD1, hD2⟩ : ∃ oD, h₁.get? C = some oD ∧ oD.data = .cls cd := by
    unfold clsIn at hcd
    split at hcd
    · rename_i c d cd' sl ho
      cases hcd
      exact ⟨_, X1 _ _ ho, rfl⟩
    · cases hcd
  have I1 : InstAt h₁ x (excObj C t0 none .none) C none := ⟨hx1, rfl, rfl, trivial⟩
  have hmg : mg "super" = none := mg_none_of X G D.sup
  refine ks_wpAt_execs_cons (ks_wpAt_Expr_any (hi := by show (scope.kind == .module && _) = false; rw [D.k]; rfl) (ks_wpAt_MethodCall (h := ks_wpAt_super_base (env := ksEnv qual scope s.heap.objs.size fI (.ref cda) cc) D.ks D.kc (by decide) rfl (X1 _ _ lk) rfl har rfl (X1 _ _ hcode) rfl hvs hfile D.top ?_) (he := mcall_eq hline rfl)))
  refine ks_loadName_global D.k D.ks (loadGlobal_builtin (env := ksEnv qual scope s.heap.objs.size fI (.ref cda) cc) G1 hmg (Bb.keeps hk) ((hbt _ (by decide +kernel)).trans (by kernel_rfl)) ⟨rfl, ?_⟩)
  refine wpAny_loadName_free D.k D.kc rfl ⟨_, X1 _ _ hcell, rfl⟩ ?_
  rw [ear]
  refine wpAny_loadName_local D.k D.ka hns hself ?_
  refine ks_wpAny_isType_cls hD1 hD2 ⟨rfl, ?_⟩
  refine ks_wpAny_call_super hD1 hD2 hx1 rfl (fun c e => by cases e) (looks_mroIn X1 T.self) (fun h2 e k2 => ?_)
  have X2 := X1.keeps k2
  have xC : x ≠ C := ks_ne X1 I1 hcd
  have hsup : alongIn K "__init__" ((cd.mro.dropWhile (· != .ref C)).drop 1) = some (some (.builtin initId)) := by
    have := T.sup
    unfold ks_superIn at this
    rw [hcd] at this
    exact this
  have I2 : InstAt h2 x (excObj C t0 none .none) C none := ⟨k2 _ _ hx1, rfl, rfl, trivial⟩
  refine kxs_getMethod T.KF e (looks_opaque X2 T.op) (fun A Q E s k q => wpAny_bind ((looks_clsIn X2 hcd) A _ E s k (wpAny_pure q))) rfl X2 hsup (I2.type.andThen (looks_subIn X2 T.sub)) xC (by decide) ?_
  refine kxs_callWith (i := initId) (x := x) rfl ?_
  refine evalArgs_plain (x := eval (.Constant (.str text) k p3) (ksEnv qual scope s.heap.objs.size fI (.ref cda) cc)) (rest := backTo p4 (starEach [] (ksEnv qual scope s.heap.objs.size fI (.ref cda) cc))) (Calls.spliced_cons (Calls.Constant_str (Calls.spliced_nil ⟨Heap.get?_push_size _ rfl, ?_⟩)))
  have k3 : ∀ b o, h₁.get? b = some o → (h2.push (kxs_mw initId x)).get? b = some o := fun b o e => Heap.get?_push_of_some _ (k2 _ _ e)
  refine call_mw (t0 := t0) (dv := none) (X1.keeps k3) T.FB T.q (Heap.get?_push_size _ rfl) (k3 _ _ hx1) (by show 1 ≤ sizeLine; rw [sizeLine_eq]; omega) fun t1 h4 k4 hx4 => ?_
  have xL : s.heap.objs.size ≠ x := Nat.ne_of_gt (Heap.lt_size hx)
  have k5 : ∀ b o, b ≠ x → h₁.get? b = some o → h4.get? b = some o := fun b o hb e => k4 b o hb (k3 b o e)
  have hns4 : h4.Ns s.heap.objs.size (fun y => ([(("self" : PySem.Str), Value.ref x), (v, u)] : List (PySem.Str × Value)).reverse.lookup y) := by
    obtain ⟨o, es, ep, e1, e2⟩ := hns
    exact ⟨o, es, ep, k5 _ _ xL e1, e2⟩
  have X4 : K.In h4 := fun b o e => k5 b o (fun z => by rw [z, hxK] at e; cases e) (X1 _ _ e)
  refine ks_wpAt_execs_cons (ks_wpAt_Assign_Attr ?_)
  refine wpAt_of_wpAny (wpAny_Name ?_ D.vd)
  refine wpAny_loadName_local D.k D.kv hns4 hval ?_
  refine wpAny_Name ?_ (by decide)
  refine wpAny_loadName_local D.k D.ka hns4 hself ?_
  have I4 : InstAt h4 x (excObj C t1 none .none) C none := ⟨hx4, rfl, rfl, trivial⟩
  refine set_plain X4 I4 T.sa ?_
  refine osa_openX T.SF X4 I4 T.over (r := none) (by unfold takerIn; rw [T.no]; rfl) fun bb => ?_
  have hcls : W.Looks (model P w) h4 (classData C) cd := W.looks_clsIn X4 hcd
  obtain ⟨nm, bs, mro, ns, qn, hd, sn, sb, ab, col, del⟩ := cd
  dsimp only at hdict
  subst hdict
  have hxs : x ≠ h4.objs.size := Nat.ne_of_lt (Heap.lt_size hx4)
  have hle : s.heap.objs.size ≤ h4.objs.size := Nat.le_of_lt (Nat.lt_of_lt_of_le (hns4.lt) (Nat.le_refl _))
  show wpAny _ _ (Builtin.ObjectAttr.storeInOwnDict (.ref x) (.ref C) (.str f _) f u bb) _ _ _
  unfold Builtin.ObjectAttr.storeInOwnDict Builtin.ObjectAttr.ownDictForStores
  repeat (first | with_reducible refine PySem.HandSPX.store_in_new ?_ ?_ | with_reducible refine wpAny_loadPart_at hx4 ?_ | with_reducible refine hcls.at ?_ | wp_step)
  · exact ⟨_, #[], _, (Heap.get?_update_ne _ _ _ _ hxs.symm).trans (Heap.get?_push_at rfl rfl), rfl, fun e he => absurd he (by simp), fun _ => rfl⟩
  · intro h' tk' hn' hs
    have hx5 : (h4.push { cls := .type "dict", data := .dict #[] }).get? x = some (excObj C t1 none .none) := Heap.get?_push_of_some _ hx4
    refine wpAt_of_wpAny (wpAny_execs_nil ?_)
    refine h h' tk' h4.objs.size t1 (fun b o hb ho => ?_) hle ?_ hn'
    · have e4 := k5 b o hb (hk b o ho)
      exact (hs.2 b (Nat.ne_of_lt (Heap.lt_size e4))).trans ((Heap.get?_update_ne _ _ _ _ hb).trans (Heap.get?_push_of_some _ e4))
    · exact (hs.2 x hxs).trans (Heap.get?_update_self _ hx5 rfl)
end
section
variable {X : Cx} {e : Expr} {te : TE} {params : Arguments} {body : List Stmt} {scope : Scope} {qual nm f v : PySem.Str} {C fI cc cda : Addr} {B newId initId : String} {bmB : List Value} {n : Nat}
/-- C(e), a new exception -/
theorem pmk_sup {p0 p1 p2 p3 p4 p5 p6 p7 p8 p9 p pos : Pos} {k : Nat} {text : PySem.Str} (D : XiD X.prog X.K fI cda cc C params body scope qual v) (hline : (p2.endLine == p4.line) = true) (hbody : body = xiBody p0 p1 p2 p3 p4 p5 p6 p7 p8 p9 k text f v)
    (T : XcC X.K C B newId initId bmB f) (iC : findIn X.K (.ref C) "__init__" = some (some (.ref fI))) (hr : Room (n + 1) X.A) (hg : Gl X nm) (hm : X.mg nm = some (.ref C)) (kC : keepIn X.K (.ref C) = true) (r : Raises X (.ref C)) (he : PE X e te) (hst : notStar' e = true) (hdb : (nm == ("__debug__" : PySem.Str)) = false) :
    PMk X (.Call (.Name nm p) [e] [] pos) (fun σ H Q => te σ H fun y H1 => ∀ d, H1 d = none → Q (.ref C) (some d) (upd H1 d (.xd [(f, y)]))) := by
  intro pins s σ H Q I h
  have hs1 : starEach [e] X.env = (false, eval e X.env) :: starEach [] X.env := by cases e <;> first | rfl | cases hst
  refine wpAny_Call_Name_kw (ld_glob I hg hm ?_ hdb)
  refine PySem.W.callWith_K (h₀ := X.base) I.ok.mod.kin kC ?_ hs1 rfl
  rw [hs1]
  show wpAny _ _ (spliced ((false, eval e X.env) :: backTo pos (starEach [] X.env))) _ _ s
  refine Calls.spliced_cons (thn (he.run pins s σ H _ I h) fun u s1 ⟨y, H1, I1, r1, q1⟩ => ?_)
  refine Calls.spliced_nil ⟨I1.kIn, ?_⟩
  show wpAny _ _ (PySem.call (.ref C) [u]) _ _ _
  have kf : isFn X.K (.ref fI) = true := D.kf
  obtain ⟨cN, N', qn, bs, bm, hdct, sn, sub, ab, col, dd, k0, k1, k2, k3, k5, hC, hT⟩ := excInit_of I1.kIn T.q
  obtain ⟨oI, hoI, hcI⟩ : ∃ oI, s1.heap.get? fI = some oI ∧ oI.cls = .type "function" := by
    obtain ⟨o, ho, hc⟩ := Option.map_eq_some_iff.mp (show (X.K.lookup fI).map (·.cls) = some (.type "function") from beq_iff_eq.mp kf)
    exact ⟨o, I1.kIn _ _ ho, hc⟩
  obtain ⟨hp, g, dr, tk, os⟩ := s1
  have kk : ∀ b o, hp.get? b = some o → ((hp.push (PySem.W.kdv_tup [u])).push (PySem.HandSPX.excO C hp.objs.size)).get? b = some o := fun b o e => Heap.get?_push_of_some _ (Heap.get?_push_of_some _ e)
  have hget : ((hp.push (PySem.W.kdv_tup [u])).push (PySem.HandSPX.excO C hp.objs.size)).get? (hp.objs.size + 1) = some (PySem.HandSPX.excO C hp.objs.size) := by heap_get
  have I2 : Inv X pins σ H1 ⟨(hp.push (PySem.W.kdv_tup [u])).push (PySem.HandSPX.excO C hp.objs.size), g, dr, tk, os⟩ := I1.kept (t' := tk) kk
  have hxK : X.K.lookup (hp.objs.size + 1) = none := by
    cases z : X.K.lookup (hp.objs.size + 1) with
    | none => rfl
    | some o =>
      have := Heap.lt_size (I1.kIn _ _ z)
      exact absurd (show hp.objs.size + 1 < hp.objs.size from this) (by omega)
  refine wpAny_call (PySem.HandSPX.call_own T.FB hT hC (PySem.W.looks_findIn I1.kIn iC) (fun self => exc_bind hoI hcI self) (by show 1 ≤ sizeLine; rw [sizeLine_eq]; omega) ?_)
  refine run_xinit (D := D) (x := hp.objs.size + 1) (t0 := hp.objs.size) (mg := X.mg) hline hbody T I2.kIn (I2.mod.glob.keeps I2.bk) (by
    obtain ⟨mb, h1, h2⟩ := I2.mod.blt
    exact ⟨mb, h1.keeps I2.bk, h2⟩) I2.nolimit (hr.make C [u] []).depth hget hxK fun h' tk' dx t1 k' ld hx' hn' => ?_
  have hsz : ((hp.push (PySem.W.kdv_tup [u])).push (PySem.HandSPX.excO C hp.objs.size)).objs.size = hp.objs.size + 2 := by rw [Heap.size_push, Heap.size_push]
  have ld : hp.objs.size + 2 ≤ dx := by rw [← hsz]; exact ld
  obtain ⟨G, g1, g2⟩ := restrict h' fun b => decide (b ≠ hp.objs.size + 1)
  have gk : ∀ b, b ≠ hp.objs.size + 1 → G.get? b = h'.get? b := fun b hb => g1 b (decide_eq_true hb)
  have ge : G.get? (hp.objs.size + 1) = none := g2 _ (by simp)
  have kG : ∀ b o, hp.get? b = some o → G.get? b = some o := fun b o e => by
    have hb : b ≠ hp.objs.size + 1 := Nat.ne_of_lt (Nat.lt_succ_of_lt (Heap.lt_size e))
    rw [gk b hb]
    exact k' b o hb (kk b o e)
  have hnd : H1 dx = none := I1.hok.fresh (show hp.objs.size ≤ dx by omega)
  have hdx : dx ≠ hp.objs.size + 1 := by omega
  have hnx : H1 (hp.objs.size + 1) = none := I1.hok.fresh (show hp.objs.size ≤ hp.objs.size + 1 by omega)
  have J : Inv X pins σ (upd H1 dx (.xd [(f, y)])) ⟨G, g, dr, tk', os⟩ := I1.laid (t' := tk') kG (show hp.objs.size ≤ dx by omega) ⟨_, hn'.at fun o q => (gk dx hdx).trans q, relO_put (fs := []) r1 fun _ => True.intro⟩
  refine ⟨rfl, hp.objs.size + 1, _, _, ⟨G, g, dr, tk', os⟩, _, .ref C, some dx, rfl, J, fun b o z => ?_, ge, hx', ⟨rfl, rfl⟩, rfl, rfl, ?_, rfl, I1.bare, r, q1 dx hnd⟩
  · by_cases hb : b = hp.objs.size + 1
    · rw [hb, ge] at z; cases z
    · rw [← gk b hb]; exact z
  · rw [upd_ne (Ne.symm hdx)]; exact hnx
end
end Ev

/-! Calls: the program's own defs by values: calls, methods, properties, special methods, new instances. -/
namespace Ev
open PySem PySem.Spec PyProof.Rows L2

/-- the promise of the def with the number f -/
def spF (T : Tb) (cl : Cl) (f : Nat) : Sp := fun vs H Q E => ∃ Pr R μ ws st, Sim T R Pr μ st H ∧ RelWs T R μ ws vs ∧ Post T Pr (fun c d _ H' => E c d H') [] (RV T Q) R μ (cl f ws st)
abbrev posA : List Value → Args := fun us => ⟨us, []⟩
abbrev kwA (m : Nat) (ks : List PySem.Str) : List Value → Args := fun us => ⟨us.take m, ks.zip (us.drop m)⟩
/-- a def's promise where nothing is being shown -/
def FnG (P : Program) (w : World) (K : PySem.W.Frag) (mg : PySem.Str → Option Value) (base : Heap) (n : Nat) (f : Addr) (af : List Value → Args) (sp : Sp) : Prop :=
  ∀ (A : Around) (outer : List PySem.Env) (s : Shared) (H : Hp) (us : List Value) (vs : List V) (Q : VK) (E : XK), Room n A → A.guards = some [] → Env0 P w K mg base A outer s H → Vals vs us → sp vs H Q E →
    codeAny (model P w) A (.call (.ref f) (af us)) (CR (L2.CX P w) outer P w H s Q E) s
/-- every def keeps its promise at the level n -/
structure Fns (T : Tb) (fa : Nat → Option Addr) (n : Nat) (cl : Cl) : Prop where
  fn : ∀ f a, fa f = some a → FnG T.P T.w T.K T.mg T.base n a posA (spF T cl f)
  kw : ∀ f a m ks, T.fk f = some (a, m, ks) → FnG T.P T.w T.K T.mg T.base n a (kwA m ks) (spF T cl f)
/-- what is told of the classes of exceptions -/
structure XCl (K : PySem.W.Frag) (D : Addr) : Prop where
  cl : (PySem.W.clsIn K D).isSome = true
  ga : PySem.W.findIn K (.ref D) "__getattribute__" = some (some (.builtin "BaseException.__getattribute__"))
  gt : PySem.W.findIn K (.ref D) "__getattr__" = some none
  sub : PySem.W.subIn K (.ref D) (.type "BaseException") = some true
  dct : PySem.W.hasDictIn K D = true
  ha : PySem.W.findIn K (.ref D) "__class__" = some (some (.builtin "object.__class__"))
  hn : PySem.W.specialIn K (.builtin "object.__class__") "__get__" = some (some (.builtin "getset_descriptor.__get__"))
  tk : PySem.W.takesIn K (.builtin "object.__class__") = some true
  hm : PySem.W.mroIn K D (.type "object") = some true
  ty : PySem.W.typeIn K (.ref D) = some (.type "type")
/-- an exception class with its own __init__ -/
def XSt (T : Tb) (c : Nat) (f : PySem.Str) : Prop :=
  ∃ (B newId initId : String) (bmB : List Value) (fI cda cc : Addr) (params : Arguments) (body : List Stmt) (scope : Scope) (qual v : PySem.Str) (p0 p1 p2 p3 p4 p5 p6 p7 p8 p9 : Pos) (k : Nat) (text : PySem.Str),
    XcC T.K (T.ea c) B newId initId bmB f ∧ XiD T.P T.K fI cda cc (T.ea c) params body scope qual v ∧ (p2.endLine == p4.line) = true ∧ body = xiBody p0 p1 p2 p3 p4 p5 p6 p7 p8 p9 k text f v ∧ PySem.W.findIn T.K (.ref (T.ea c)) "__init__" = some (some (.ref fI)) ∧ PySem.W.keepIn T.K (.ref (T.ea c)) = true ∧
      PySem.W.subIn T.K (.ref (T.ea c)) (.type "BaseException") = some true ∧ PySem.W.typeIn T.K (.ref (T.ea c)) = some (.type "type")
structure ClsX (K : PySem.W.Frag) (C : Addr) : Prop where
  cl : Cls K C
  ha : PySem.W.findIn K (.ref C) "__class__" = some (some (.builtin "object.__class__"))
  hn : PySem.W.specialIn K (.builtin "object.__class__") "__get__" = some (some (.builtin "getset_descriptor.__get__"))
  tk : PySem.W.takesIn K (.builtin "object.__class__") = some true
  hm : PySem.W.mroIn K C (.type "object") = some true
/-- what the top has left of classes and names -/
structure TOk (T : Tb) (fa : Nat → Option Addr) : Prop where
  lam : ∀ N q c P, T.lamN N = some (q, c, P) → LamX.TabB T.base T.mg c P ∧ (P, q ++ "<lambda>") ∈ T.tabs ∧ ∀ p ∈ T.tabs, p.1 = P → p.2 = q ++ "<lambda>"
  exc : ∀ c f, T.xf c = some f → XSt T c f
  xsub : ∀ c d b, T.g.xsub c d = some b → XCl T.K (T.ea c) ∧ PySem.W.kitOne T.K (.ref (T.ea c)) (.ref (T.ea d)) = some b ∧ PySem.W.exmOne T.K (.ref (T.ea c)) (.ref (T.ea d)) = some b
  inj : ∀ i j, T.nm i = T.nm j → i = j
  fn : ∀ f a, fa f = some a → PySem.W.keepIn T.K (.ref a) = true ∧ PySem.W.isFn T.K (.ref a) = true ∧ PySem.W.fnIn T.K a = true
  cls : ∀ c, T.g.known c = true → ClsX T.K (T.ca c)
  meth : ∀ c m f, T.g.meth c m = some f → T.g.known c = true ∧ ∃ a, fa f = some a ∧ PySem.W.findIn T.K (.ref (T.ca c)) (T.nm m) = some (some (.ref a))
  prop : ∀ c m f, T.g.prop c m = some f → T.g.known c = true ∧ ∃ a p, fa f = some a ∧ PropOf T.K (T.ca c) (T.nm m) p a
  fld : ∀ c m, T.g.fld c m = true → T.g.known c = true ∧ NoAttr T.K (T.ca c) (T.nm m)
  init : ∀ c f, T.g.init c = some f → T.g.known c = true ∧ ∃ a, fa f = some a ∧ Mk T.K (T.ca c) a
  eqm : ∀ c f, T.g.eqm c = some f → T.g.known c = true ∧ (∃ a, fa f = some a ∧ PySem.W.findIn T.K (.ref (T.ca c)) "__eq__" = some (some (.ref a)) ∧ PySem.W.findIn T.K (.ref (T.ca c)) "__ne__" = some (some (.builtin "object.__ne__")))
    ∧ ∀ t ∈ (["NoneType", "bool", "int", "str", "tuple", "list", "dict"] : List String), PySem.W.notFirst T.K (T.ca c) (.type t) = true
  getm : ∀ c f, T.g.getm c = some f → T.g.known c = true ∧ (∃ a, fa f = some a ∧ PySem.W.findIn T.K (.ref (T.ca c)) "__getitem__" = some (some (.ref a)))
  lenm : ∀ c f, T.g.lenm c = some f → T.g.known c = true ∧ (∃ a, fa f = some a ∧ PySem.W.findIn T.K (.ref (T.ca c)) "__len__" = some (some (.ref a)))
  inm : ∀ c f, T.g.inm c = some f → T.g.known c = true ∧ (∃ a, fa f = some a ∧ PySem.W.findIn T.K (.ref (T.ca c)) "__contains__" = some (some (.ref a)))
  andm : ∀ c f, T.g.andm c = some f → T.g.known c = true ∧ PySem.W.selfFirst T.K (T.ca c) = true ∧ (∃ a, fa f = some a ∧ PySem.W.findIn T.K (.ref (T.ca c)) "__and__" = some (some (.ref a)))

section
variable {T : Tb} {R R' Pr H : Hp} {μ : Mu} {st : S} {X : Cx} {σ : L2.St} {Wx : WX} {n : Nat} {N : List PySem.Str} {nms : List (PySem.Str × NameKind)} {fa : Nat → Option Addr} {cl : Cl}
theorem Post.wish {α : Type} {rel : Hp → Mu → α → Hp → Prop} {r : Res α} (h : Post T Pr Wx σ rel R μ r) : Post T Pr (fun c d _ H' => Wx c d σ H') [] rel R μ r := by
  cases r with
  | ok a st => exact h
  | ex c x st => exact h
  | stuck => exact h
/-- another wish of the end -/
theorem Post.imp {α : Type} {rel rel' : Hp → Mu → α → Hp → Prop} {r : Res α} (h : Post T Pr Wx σ rel R μ r) (c : ∀ R' μ' a H' st', Le R μ R' μ' → Sim T R' Pr μ' st' H' → r = .ok a st' → rel R' μ' a H' → rel' R' μ' a H') : Post T Pr Wx σ rel' R μ r := by
  cases r with
  | ok a st => exact fun R' μ' H' l s => c R' μ' a H' st l s rfl (h R' μ' H' l s)
  | ex c x st => exact h
  | stuck => exact h
/-- a def runs, here or one level down -/
theorem run_at (F : Fns T fa n cl) (c : Ctx T n N nms Wx X) {f : Nat} {a : Addr} (ha : fa f = some a) {A : Around} (hr : Room n A) (hgu : A.guards = some []) (hfr : A.frames = X.A.frames) {pins : List (Addr × Obj)} {s : Shared} {vs : List V} {us : List Value} {ws : List W} {Q : VK}
    (I : Inv X pins σ H s) (r : Vals vs us) (sm : Sim T R Pr μ st H) (rw : RelWs T R μ ws vs) (h : Post T Pr Wx σ (RV T Q) R μ (cl f ws st)) :
    wpAny (model X.prog X.w) A (PySem.call (.ref a) us) (EP X pins σ Q) X.xe s := by
  have hF := F.fn f a ha
  have e0 : Env0 X.prog X.w X.K X.mg X.base A X.stack s H := by
    have e := I.env0
    exact ⟨by rw [hfr]; exact e.frames, e.mod, e.bs, e.bsz, e.funs, e.frf, e.hok, e.bare⟩
  rw [← c.P, ← c.w, ← c.K, ← c.mg, ← c.base] at hF
  refine wpAny_call (codeAny_mono (hF A X.stack s H us vs Q (fun cls d H' => Wx cls d σ H') hr hgu e0 r ⟨Pr, R, μ, ws, st, sm, rw, h.wish⟩) fun r s' hq => ?_)
  cases r with
  | error e => exact passAt c.takes σ pins H s e s' I hq
  | ok fl =>
    cases fl with
    | ret u => exact I.after hq
    | next => exact False.elim hq
    | brk => exact False.elim hq
    | cont => exact False.elim hq

theorem make_guards (A : Around) (args : Args) : (A.under (.builtin "type.__call__" args)).guards = A.guards := by
  have h : Code.isGuard (.builtin "type.__call__" args) = false := by kernel_rfl
  have h2 : (Code.builtin "type.__call__" args).guards = [] := by
    unfold Code.guards
    rw [h]; rfl
  show pushGuards (Code.builtin "type.__call__" args).guards A.guards = _
  rw [h2]; rfl

/-- by keywords -/
theorem run_kw (F : Fns T fa n cl) (c : Ctx T n N nms Wx X) {f m : Nat} {a : Addr} {ks : List PySem.Str} (ha : T.fk f = some (a, m, ks)) {A : Around} (hr : Room n A) (hgu : A.guards = some []) (hfr : A.frames = X.A.frames) {pins : List (Addr × Obj)} {s : Shared} {vs : List V} {us : List Value} {ws : List W} {Q : VK}
    (I : Inv X pins σ H s) (r : Vals vs us) (sm : Sim T R Pr μ st H) (rw : RelWs T R μ ws vs) (h : Post T Pr Wx σ (RV T Q) R μ (cl f ws st)) :
    wpAny (model X.prog X.w) A (PySem.call (.ref a) (us.take m) (ks.zip (us.drop m))) (EP X pins σ Q) X.xe s := by
  have hF := F.kw f a m ks ha
  have e0 : Env0 X.prog X.w X.K X.mg X.base A X.stack s H := by
    have e := I.env0
    exact ⟨by rw [hfr]; exact e.frames, e.mod, e.bs, e.bsz, e.funs, e.frf, e.hok, e.bare⟩
  rw [← c.P, ← c.w, ← c.K, ← c.mg, ← c.base] at hF
  refine wpAny_call (codeAny_mono (hF A X.stack s H us vs Q (fun cls d H' => Wx cls d σ H') hr hgu e0 r ⟨Pr, R, μ, ws, st, sm, rw, h.wish⟩) fun r s' hq => ?_)
  cases r with
  | error e => exact passAt c.takes σ pins H s e s' I hq
  | ok fl =>
    cases fl with
    | ret u => exact I.after hq
    | next => exact False.elim hq
    | brk => exact False.elim hq
    | cont => exact False.elim hq

/-! ### instances -/
/-- the class of a value, in the heap -/
theorem cls_at (s : Sim T R Pr μ st H) {w : W} {c : Nat} {v : V} (e : clsOf st w = some c) (r : RelW T R μ w v) : ∃ a dx fs, v = .ref a ∧ H a = some (.ins (T.ca c) dx fs) := by
  cases w with
  | c x =>
    cases x with
    | ins c' fs vs =>
      cases e
      obtain ⟨a, dx, ws, rfl, h1, _⟩ := r
      exact ⟨a, dx, _, rfl, s.r _ _ h1⟩
    | _ => cases e
  | r k =>
    unfold clsOf at e
    cases q : cellAt st k with
    | none => simp only [q] at e; cases e
    | some x =>
      simp only [q] at e
      cases x with
      | ins c' fs vs =>
        cases e
        obtain ⟨a, h1, _, _, dx, vs', h4, _⟩ := s.c k _ q
        obtain ⟨a', rfl, h6⟩ := r
        rw [h1] at h6; cases h6
        exact ⟨a, dx, _, rfl, h4⟩
      | lst _ => cases e
      | dct _ _ => cases e
theorem zipF_lookup (inj : ∀ i j, T.nm i = T.nm j → i = j) (f : Nat) : ∀ {fs : List Nat} {ws : List W} {vs : List V} {w : W}, RelWs T R μ ws vs → (fs.zip ws).lookup f = some w → ∃ v, (zipF T fs vs).lookup (T.nm f) = some v ∧ RelW T R μ w v
  | [], ws, vs, w, _, e => by simp at e
  | f' :: fs, [], vs, w, _, e => by simp at e
  | f' :: fs, w' :: ws, vs, w, ⟨v, t, h1, h2, h3⟩, e => by
    subst h1
    unfold zipF
    simp only [List.zip_cons_cons, List.lookup_cons, List.map_cons] at e ⊢
    by_cases q : f = f'
    · subst q
      simp only [beq_self_eq_true] at e ⊢
      cases e
      exact ⟨v, rfl, h2⟩
    · have q2 : (T.nm f == T.nm f') = false := by
        rw [beq_eq_false_iff_ne]; exact fun z => q (inj _ _ z)
      have q1 : (f == f') = false := by rw [beq_eq_false_iff_ne]; exact q
      simp only [q1, q2] at e ⊢
      exact zipF_lookup inj f h3 e
theorem zipF_none (inj : ∀ i j, T.nm i = T.nm j → i = j) (f : Nat) : ∀ {fs : List Nat} {ws : List W} {vs : List V}, RelWs T R μ ws vs → (fs.zip ws).lookup f = none → (zipF T fs vs).lookup (T.nm f) = none
  | [], ws, vs, _, e => by simp [zipF]
  | f' :: fs, [], vs, h, e => by cases h; simp [zipF]
  | f' :: fs, w' :: ws, vs, ⟨v, t, h1, h2, h3⟩, e => by
    subst h1
    unfold zipF
    simp only [List.zip_cons_cons, List.lookup_cons, List.map_cons] at e ⊢
    by_cases q : f = f'
    · subst q
      simp only [beq_self_eq_true] at e
      cases e
    · have q2 : (T.nm f == T.nm f') = false := by
        rw [beq_eq_false_iff_ne]; exact fun z => q (inj _ _ z)
      have q1 : (f == f') = false := by rw [beq_eq_false_iff_ne]; exact q
      simp only [q1, q2] at e ⊢
      exact zipF_none inj f h3 e
theorem zip_mapc (f : Nat) : ∀ (fs : List Nat) (vs : List C), (fs.zip (vs.map W.c)).lookup f = ((fs.zip vs).lookup f).map W.c
  | [], _ => by simp
  | _ :: _, [] => by simp
  | f' :: fs, v :: vs => by
    simp only [List.map_cons, List.zip_cons_cons, List.lookup_cons]
    cases f == f' with
    | true => rfl
    | false => exact zip_mapc f fs vs
/-- a field's value, in the heap -/
theorem fld_at (s : Sim T R Pr μ st H) (inj : ∀ i j, T.nm i = T.nm j → i = j) {f : Nat} {w x : W} {v : V} (e : fldOf st f w = some x) (r : RelW T R μ w v) :
    ∃ a C dx fs u, v = .ref a ∧ H a = some (.ins C dx fs) ∧ fs.lookup (T.nm f) = some u ∧ RelW T R μ x u := by
  cases w with
  | c y =>
    cases y with
    | ins c' fs vs =>
      obtain ⟨a, dx, ws, rfl, h1, h2, h3, h4⟩ := r
      have e : ((fs.zip vs).lookup f).map W.c = some x := e
      rw [← zip_mapc] at e
      obtain ⟨u, q1, q2⟩ := zipF_lookup (μ := μ) inj f (RelWs.ofC h4) e
      exact ⟨a, _, dx, _, u, rfl, s.r _ _ h1, q1, q2⟩
    | _ => cases e
  | r k =>
    unfold fldOf at e
    cases q : cellAt st k with
    | none => simp only [q] at e; cases e
    | some y =>
      simp only [q] at e
      cases y with
      | ins c' fs vs =>
        obtain ⟨a, h1, _, _, dx, vs', h4, h5, h6, h7⟩ := s.c k _ q
        obtain ⟨a', rfl, h8⟩ := r
        rw [h1] at h8; cases h8
        obtain ⟨u, q1, q2⟩ := zipF_lookup inj f h7 e
        exact ⟨a, _, dx, _, u, rfl, h4, q1, q2⟩
      | lst _ => cases e
      | dct _ _ => cases e
end
end Ev

/-! Dct: dicts: an item by its key, equality. -/
namespace Ev
open PySem PySem.Spec PyProof.Rows L2
section
variable {T : Tb} {R R' Pr H : Hp} {μ : Mu} {st : S} {X : Cx} {σ : L2.St} {Wx : WX} {n : Nat} {N : List PySem.Str} {nms : List (PySem.Str × NameKind)} {fa : Nat → Option Addr} {cl : Cl}
theorem strV_inj {a b : List Nat} (h : strV a = strV b) : a = b := by
  unfold strV at h
  have := congrArg PySem.Str.cps h
  simpa using this
/-- a key's value in both worlds -/
theorem key_rel {c : C} {k : Key} (r : RelC T R c (kV k)) (hk : keyB c = true) : (∃ i, c = .int i ∧ k = .inl i) ∨ ∃ s, c = .str s ∧ k = .inr (strV s) := by
  cases c with
  | int i =>
    cases k with
    | inl j => have r : V.int j = V.int i := r; injection r with r; subst r; exact .inl ⟨_, rfl, rfl⟩
    | inr y => have r : V.str y = V.int i := r; cases r
  | str s =>
    cases k with
    | inl j => have r : V.int j = V.str (strV s) := r; cases r
    | inr y => have r : V.str y = V.str (strV s) := r; injection r with r; subst r; exact .inr ⟨_, rfl, rfl⟩
  | _ => cases hk
theorem keyEq_B {a b : C} (h : keyEq a b = true) : keyB a = true ∧ keyB b = true := by
  unfold keyEq at h
  split at h
  · exact ⟨rfl, rfl⟩
  · exact ⟨rfl, rfl⟩
  · cases h
theorem key_of_rel {c : C} {v : V} (r : RelC T R c v) (hk : keyB c = true) : ∃ k : Key, v = kV k ∧ RelC T R c (kV k) := by
  cases c with
  | int i => cases r; exact ⟨.inl i, rfl, rfl⟩
  | str s => cases r; exact ⟨.inr (strV s), rfl, rfl⟩
  | _ => cases hk
theorem keyEq_ok {a b : C} {k j : Key} (ra : RelC T R a (kV k)) (rb : RelC T R b (kV j)) (hb : keyB b = true) : keyEq a b = decide (k = j) := by
  have ha : keyB a = true ∨ False := by
    cases a with
    | int i => exact .inl rfl
    | str s => exact .inl rfl
    | non => cases k <;> cases ra
    | bl b => cases k <;> cases ra
    | tup cs => obtain ⟨x, _, e, _⟩ := ra; cases k <;> cases e
    | lst cs => obtain ⟨x, _, e, _⟩ := ra; cases k <;> cases e
    | frz cs => obtain ⟨x, _, e, _⟩ := ra; cases k <;> cases e
    | dct ks vs => obtain ⟨x, _, _, e, _⟩ := ra; cases k <;> cases e
    | ins c fs vs => obtain ⟨x, _, _, e, _⟩ := ra; cases k <;> cases e
  have ha := ha.resolve_right id
  rcases key_rel ra ha with ⟨i, rfl, rfl⟩ | ⟨s, rfl, rfl⟩ <;> rcases key_rel rb hb with ⟨i', rfl, rfl⟩ | ⟨s', rfl, rfl⟩
  · simp [keyEq]
  · simp [keyEq]
  · simp [keyEq]
  · unfold keyEq
    by_cases e : s = s'
    · subst e; simp
    · have : strV s ≠ strV s' := fun z => e (strV_inj z)
      simp [e, this]
theorem lookD_some {c : C} {k : Key} (hk : RelC T R c (kV k)) (hb : keyB c = true) : ∀ {ks : List C} {us : List Key} {ws : List W} {vs : List V}, RelCs T R ks (us.map kV) → RelWs T R μ ws vs →
    (∀ w, lookD c ks ws = some w → ∃ v, valV (us.zip vs) k = some v ∧ RelW T R μ w v) ∧ (ks.length = ws.length → lookD c ks ws = none → valV (us.zip vs) k = none)
  | [], us, ws, vs, h1, h2 => by
    refine ⟨fun w e => by simp [lookD] at e, fun _ _ => ?_⟩
    cases us with
    | nil => rfl
    | cons _ _ => cases h1
  | k' :: ks, us, [], vs, h1, h2 => by
    refine ⟨fun w e => by simp [lookD] at e, fun hl _ => by simp at hl⟩
  | k' :: ks, us, w' :: ws, vs, ⟨v0, t0, e0, h1, h1'⟩, h2 => by
    obtain ⟨v, t, rfl, r1, r2⟩ := h2
    cases us with
    | nil => cases e0
    | cons u us =>
      simp only [List.map_cons, List.cons.injEq] at e0
      obtain ⟨rfl, rfl⟩ := e0
      have ke := keyEq_ok h1 hk hb
      obtain ⟨i1, i2⟩ := lookD_some hk hb h1' r2
      by_cases q : u = k
      · have q1 : keyEq k' c = true := by rw [ke, decide_eq_true q]
        refine ⟨fun w e => ?_, fun _ e => ?_⟩
        · simp only [lookD, q1, if_true, Option.some.injEq] at e
          subst e
          exact ⟨v, valV_pos (p := (u, v)) q, r1⟩
        · simp [lookD, q1] at e
      · have q1 : keyEq k' c = false := by rw [ke, decide_eq_false q]
        refine ⟨fun w e => ?_, fun hl e => ?_⟩
        · simp only [lookD, q1, Bool.false_eq_true, if_false] at e
          obtain ⟨z, z1, z2⟩ := i1 w e
          exact ⟨z, by rw [List.zip_cons_cons, valV_neg (p := (u, v)) q]; exact z1, z2⟩
        · simp only [lookD, q1, Bool.false_eq_true, if_false] at e
          rw [List.zip_cons_cons, valV_neg (p := (u, v)) q]
          exact i2 (by simpa using hl) e
theorem lookD_B {α : Type} {c : C} : ∀ {ks : List C} {ws : List α} {w : α}, lookD c ks ws = some w → keyB c = true
  | [], ws, w, h => by simp [lookD] at h
  | _ :: _, [], w, h => by simp [lookD] at h
  | k :: ks, x :: ws, w, h => by
    unfold lookD at h
    split at h
    · rename_i q; exact (keyEq_B q).2
    · exact lookD_B h
/-- a dict, in the heap -/
theorem dct_at (sm : Sim T R Pr μ st H) {w : W} {v : V} {ks : List C} {ws : List W} (e : dctW st w = some (ks, ws)) (r : RelW T R μ w v) : ∃ (a : Addr) (us : List Key) (vs : List V), v = .ref a ∧ H a = some (.dK (us.zip vs)) ∧ us.length = vs.length ∧ RelCs T R ks (us.map kV) ∧ RelWs T R μ ws vs := by
  unfold dctW at e
  split at e
  · cases e
    obtain ⟨a, us, vs, rfl, h1, h2, h3, h4⟩ := r
    exact ⟨a, us, vs, rfl, sm.r _ _ h1, h2, h3, RelWs.ofC h4⟩
  · split at e
    · rename_i q
      cases e
      obtain ⟨a, h1, _, _, us, vs, h4, h5, h6, h7⟩ := sm.c _ _ q
      obtain ⟨a', rfl, h8⟩ := r
      rw [h1] at h8; cases h8
      exact ⟨a, us, vs, rfl, h4, h5, h6, h7⟩
    · cases e
  · cases e
/-- d[k] by values -/
theorem ix_dct {value slice : Expr} {pins : List (Addr × Obj)} {s : Shared} {a : Addr} {y v : V} {u : Value} {Q : VK} (hu : X.A.units + 1 < cLine) (I : Inv X pins σ H s) (ry : RelV y u) (g : DGet H a y (some v)) (q : Q v H)
    (hs : subscripted slice false (.ref a) u = operate [.ref a, u] (getItem (.ref a) u)) : wpAny (model X.prog X.w) X.A (subscriptTail value slice (.ref a) u) (EP X pins σ Q) X.xe s := by
  have hT := dict_typeIs I g
  unfold subscriptTail
  refine wpAny_bind ?_
  rw [getitemInPython_of_ne hT.not_modules]
  refine wpAny_bind (wpAny_specialOf hT PySem.F.slot_dict_getitem.lookup ?_)
  have fin : wpAny (model X.prog X.w) X.A (subscripted slice false (.ref a) u) (fun r s₃ => wpAny (model X.prog X.w) X.A (letTemporaryGo value (.ref a) r >>= fun _ => pure r) (EP X pins σ Q) X.xe s₃) X.xe s := by
    rw [hs]
    exact wpAny_operating (d_getItem hu I g ry fun w' s3 I3 rw' => wpAny_bind (wpAny_letTemporaryGo (wpAny_pure ⟨v, H, I3, rw', q⟩)))
  first
    | exact wpAny_pure (wpAny_bind fin)
    | exact wpAny_bind (wpAny_pure (wpAny_bind fin))
    | exact wpAny_bind fin
/-! ### equality -/
theorem eqAt_data {A : Around} {s : Shared} {pins : List (Addr × Obj)} (I : Inv X pins σ H s) (hK : X.K = T.K) (sm : Sim T R Pr μ st H) {c d : C} {v u : V} {x y : Value} (rc : RelC T R c v) (rd : RelC T R d u) (sc : shp c = true) (sd : shp d = true) (rx : RelV v x) (ry : RelV u y) (hu : A.units + 62 < cLine) :
    SeqAt.EqAt A s x y (eqC c d) := by
  have d1 := dp_of sm 60 c v sc rc
  have d2 := dp_of sm 60 d u sd rd
  rw [← hK] at d1 d2
  obtain ⟨as, r1⟩ := Dp.reads I _ _ _ d1 rx
  obtain ⟨bs, r2⟩ := Dp.reads I _ _ _ d2 ry
  have l1 := pln_lay 60 c sc
  have l2 := pln_lay 60 d sd
  refine SeqAt.eqAt_reads (toD c) (toD d) A s x y as bs r1 r2 l1.1 l2.1 ?_
  have := Nat.min_le_left (toD c).depth (toD d).depth
  omega
theorem RelCs.zipKV {us : List Key} {vs : List V} (hl : us.length = vs.length) : (us.zip vs).map (·.2) = vs := by
  rw [List.map_snd_zip]
  omega
/-- the items of one dict looked up in another -/
theorem hits_of {A : Around} {s : Shared} {pins : List (Addr × Obj)} (I : Inv X pins σ H s) (hK : X.K = T.K) (sm : Sim T R Pr μ st H) (hu : A.units + 62 < cLine) {ls us : List C} {lk : List Key} {lv : List V} {vb : List (Key × Value)} (hls : RelCs T R ls (lk.map kV)) (hlu : RelCs T R us lv) (hll : ls.length = us.length) (su : us.all shp = true) (rb : KV (lk.zip lv) vb) :
    ∀ {ks vs : List C} {kk : List Key} {kv : List V} {va : List (Key × Value)}, RelCs T R ks (kk.map kV) → RelCs T R vs kv → ks.length = vs.length → vs.all shp = true → KV (kk.zip kv) va →
      ∃ b, PySem.W.KeqHits A s vb va b ∧ (b = eqDct ls us ks vs)
  | [], vs, kk, kv, va, h1, h2, hl, sv, ra => by
    cases kk with
    | nil =>
      cases ra
      refine ⟨true, .nil, ?_⟩
      cases vs <;> rfl
    | cons _ _ => cases h1
  | k :: ks, [], kk, kv, va, h1, h2, hl, sv, ra => by simp at hl
  | k :: ks, v :: vs, kk, kv, va, ⟨k0, t0, e0, h1, h1'⟩, ⟨w, wt, e2, h2, h2'⟩, hl, sv, ra => by
    subst e2
    cases kk with
    | nil => cases e0
    | cons u kk =>
      simp only [List.map_cons, List.cons.injEq] at e0
      obtain ⟨rfl, rfl⟩ := e0
      simp only [List.all_cons, Bool.and_eq_true] at sv
      cases ra with
      | @cons p q ps qs h t =>
        obtain ⟨hp1, hp2⟩ := h
        obtain ⟨q1, q2⟩ := q
        have hp1 : u = q1 := hp1
        subst hp1
        obtain ⟨b, hb, eb⟩ := hits_of I hK sm hu hls hlu hll su rb h1' h2' (by simpa using hl) sv.2 t
        have kb : keyB k = true := by
          cases k with
          | int i => rfl
          | str s => rfl
          | non => cases u <;> cases h1
          | bl b => cases u <;> cases h1
          | tup cs => obtain ⟨x, _, e, _⟩ := h1; cases u <;> cases e
          | lst cs => obtain ⟨x, _, e, _⟩ := h1; cases u <;> cases e
          | frz cs => obtain ⟨x, _, e, _⟩ := h1; cases u <;> cases e
          | dct ks vs => obtain ⟨x, _, _, e, _⟩ := h1; cases u <;> cases e
          | ins c fs vs => obtain ⟨x, _, _, e, _⟩ := h1; cases u <;> cases e
        obtain ⟨g1, g2⟩ := lookD_some (μ := μ) h1 kb hls (RelWs.ofC (μ := μ) hlu)
        have vv := rb.val u
        have hm : ∀ {l1 l2 : List C}, lookD k l1 (l2.map W.c) = (lookD k l1 l2).map W.c := fun {l1 l2} => by
          induction l1 generalizing l2 with
          | nil => simp [lookD]
          | cons a l ih =>
            cases l2 with
            | nil => simp [lookD]
            | cons b l2 =>
              simp only [List.map_cons, lookD]
              split
              · rfl
              · exact ih
        cases e : lookD k ls us with
        | none =>
          have := g2 (by simpa using hll) (by rw [hm, e]; rfl)
          rw [this] at vv
          refine ⟨false, .miss vv.none_of, ?_⟩
          simp [eqDct, e]
        | some z =>
          obtain ⟨z', e1, e2⟩ := g1 (.c z) (by rw [hm, e]; rfl)
          rw [e1] at vv
          obtain ⟨y, hy, ry⟩ := vv.some_of
          have sz : shp z = true := by
            have : ∀ {l1 l2 : List C}, lookD k l1 l2 = some z → z ∈ l2 := fun {l1 l2} h => by
              induction l1 generalizing l2 with
              | nil => simp [lookD] at h
              | cons a l ih =>
                cases l2 with
                | nil => simp [lookD] at h
                | cons b l2 =>
                  simp only [lookD] at h
                  split at h
                  · cases h; exact List.mem_cons_self
                  · exact List.mem_cons_of_mem _ (ih h)
            exact List.all_eq_true.mp su z (this e)
          have ea := eqAt_data (A := A) I hK sm h2 e2 sv.1 sz hp2 ry hu
          refine ⟨_, .hit hy ea hb, ?_⟩
          simp [eqDct, e, eb]
/-- == of two dicts -/
theorem eq_dct {pins : List (Addr × Obj)} {s : Shared} (I : Inv X pins σ H s) (hK : X.K = T.K) (sm : Sim T R Pr μ st H) (hu : X.A.units + 64 < cLine) {ks vs ls us : List C} {x y : V} {v u : Value} {Q : VK} (ra : RelC T R (.dct ks vs) x) (rb : RelC T R (.dct ls us) y) (rx : RelV x v) (ry : RelV y u)
    (hl : ks.length = vs.length ∧ ls.length = us.length ∧ vs.all shp = true ∧ us.all shp = true) :
    (Q (.bl (decide (ks.length = ls.length) && (if ks.length = ls.length then eqDct ls us ks vs else true))) H → wpAny (model X.prog X.w) X.A (compareOp .Eq v u) (EP X pins σ Q) X.xe s) ∧
    (Q (.bl (!(decide (ks.length = ls.length) && (if ks.length = ls.length then eqDct ls us ks vs else true)))) H → wpAny (model X.prog X.w) X.A (compareOp .NotEq v u) (EP X pins σ Q) X.xe s) := by
  obtain ⟨a, ku, va, rfl, h1, h2, h3, h4⟩ := ra
  obtain ⟨b, lu, vb, rfl, k1, k2, k3, k4⟩ := rb
  cases rx
  cases ry
  obtain ⟨_, ya, xa, ra, da⟩ := dk_of I.hok (sm.r _ _ h1)
  obtain ⟨_, yb, xb, rb, db⟩ := dk_of I.hok (sm.r _ _ k1)
  have la : xa.length = ks.length := by
    have := ra.length
    rw [List.length_zip, ← h2, Nat.min_self] at this
    rw [← this, h3.length, List.length_map]
  have lb : xb.length = ls.length := by
    have := rb.length
    rw [List.length_zip, ← k2, Nat.min_self] at this
    rw [← this, k3.length, List.length_map]
  obtain ⟨bb, hb, eb⟩ := hits_of (A := X.A.in1) I hK sm (by show X.A.units + 1 + 62 < cLine; omega) k3 k4 hl.2.1 hl.2.2.2 rb h3 h4 hl.1 hl.2.2.1 ra
  have ee : (xa.length == xb.length && (if ks.length = ls.length then bb else true)) = (decide (ks.length = ls.length) && (if ks.length = ls.length then eqDct ls us ks vs else true)) := by
    rw [la, lb, eb]
    rfl
  have hits : xa.length = xb.length → PySem.W.KeqHits X.A.in1 s xb xa (if ks.length = ls.length then bb else true) := fun z => by
    rw [if_pos (by omega)]; exact hb
  refine ⟨fun q => ?_, fun q => ?_⟩
  · refine PySem.W.keq_eq (knd := mixKind X.prog X.w) ya yb da db (by omega) hits ?_
    rw [ee]
    exact ⟨.bl _, H, I, rfl, q⟩
  · refine PySem.W.keq_ne (knd := mixKind X.prog X.w) ya yb da db (by omega) hits ?_
    rw [ee]
    exact ⟨.bl _, H, I, rfl, q⟩
end
end Ev

/-! NeOwn: != of an instance whose class has an == of its own. -/
namespace Ev
open PySem PySem.Spec PyProof.Rows PySem.W
section
variable {prog : Program} {w : World} {A : Around} {E : Value → Shared → Prop} {s : Shared} {K : Frag} {x C f : Addr} {ox : Obj} {od : Option Obj} {b tb : Value}
def NotBack (Q : Value → Shared → Prop) (v : Value) (s' : Shared) : Prop := match v with
  | .bool t => Q (.bool (!t)) s'
  | _ => False
theorem ifBound_ne {M : Model} {args : List Value} {Q : Option Value → Shared → Prop} (X : K.In s.heap) (I : InstAt s.heap x ox C od) (hs : findIn K (.ref C) "__ne__" = some (some (.builtin "object.__ne__")))
    (h : wpAny M A (PySem.call (.builtin "object.__ne__") (.ref x :: args)) (fun v => Q (some v)) E s) : wpAny M A (callSpecialIfBound? (.ref x) "__ne__" args) Q E s := by
  simp only [callSpecialIfBound?, bindSpecialIfBound?]
  refine wpAny_holding (wpAny_bind (wpAny_bind (wpAny_bind (I.type.here ((looks_findIn X hs).here ?_)))))
  refine wpAny_bind (wpAny_askSetting (wpAny_ite ?_))
  have fin : wpAny M A (PySem.call (.builtin "object.__ne__") ([.ref x] ++ args) >>= fun v => pure (some v)) Q E s := wpAny_bind (wpAny_mono h (fun v s' h' => wpAny_pure h') fun _ _ h' => h')
  split
  · exact wpAny_bind (wpAny_of_eq (F.cmp_object.ne.bind _) (wpAny_pure (by exact fin)))
  · exact wpAny_tryCatch (wpAny_bind (wpAny_of_eq (F.cmp_object.ne.bind _) (wpAny_pure (by exact fin))))
theorem ne_own {Q : Value → Shared → Prop} (hu : A.units + 1 < cLine) (X : K.In s.heap) (I : InstAt s.heap x ox C od) (hb : Looks (model prog w) s.heap (typeOf b) tb) (hn : notFirst K C tb = true)
    (hs : findIn K (.ref C) "__ne__" = some (some (.builtin "object.__ne__"))) (he : findIn K (.ref C) "__eq__" = some (some (.ref f))) (hf : isFn K (.ref f) = true) (hm : mroIn K C (.type "object") = some true)
    (h : wpAny (model prog w) A.in1 (PySem.call (.ref f) [.ref x, b]) (NotBack Q) E s) : wpAny (model prog w) A (richCompare .NotEq (.ref x) b) Q E s := by
  have one : wpAny (model prog w) A (tryCompare (.ref x) "__ne__" b) (fun r s' => ∃ v, r = some v ∧ Q v s') E s := by
    unfold tryCompare
    refine wpAny_bind (ifBound_ne X I hs ?_)
    refine wpAny_call (codeAny_call_builtin F.cmp_object.ne.plain F.cmpEntry_ne (check_slot F.cmpKind_ne F.cmpSplit_ne (I.type.andThen (looks_mroIn X hm)) (F.cmpArgs_ne _ _) ?_))
    unfold Builtin.«object.__ne__»
    refine wpAny_bind (wpAny_of_eq (a := (.ref x, [b])) rfl ?_)
    show wpAny (model prog w) A.in1 (cRoomFor "comparison" [.ref x, b] >>= fun _ => _) _ _ _
    refine wpAny_bind (wpAny_cRoomFor (show A.units + 1 < cLine from hu) ?_)
    refine wpAny_bind (ifBound_K X I he hf (wpAny_mono h (fun v s' hv => ?_) fun _ _ e => e))
    cases v <;> first | exact hv.elim | skip
    refine wpAny_bind (wpAny_truthy_bool ?_)
    exact wpAny_pure (wpAny_pure ⟨_, rfl, hv⟩)
  unfold richCompare
  simp only [oneThing_ref]
  refine wpAny_holding (wpAny_bind (wpAny_cRoomFor (by omega) ?_))
  refine wpAny_bind (I.type.here (wpAny_bind (hb.here ?_)))
  split
  · rename_i q
    have e : subIn K tb (.ref C) = some false := by
      rcases Bool.or_eq_true_iff.mp hn with e | e
      · rw [beq_iff_eq.mp e] at q; simp at q
      · exact beq_iff_eq.mp e
    refine wpAny_bind ((looks_subIn X e).here ?_)
    simp only [Bool.false_eq_true, if_false]
    refine wpAny_bind (wpAny_mono one (fun r s' z => ?_) fun _ _ e => e)
    obtain ⟨v, rfl, hq⟩ := z
    exact wpAny_pure hq
  · refine wpAny_bind (wpAny_pure ?_)
    simp only [Bool.false_eq_true, if_false]
    refine wpAny_bind (wpAny_mono one (fun r s' z => ?_) fun _ _ e => e)
    obtain ⟨v, rfl, hq⟩ := z
    exact wpAny_pure hq
end
end Ev

/-! Cmp: comparisons, subscripts, fields by values. -/
namespace Ev
open PySem PySem.Spec PyProof.Rows L2
section
variable {T : Tb} {R R' Pr H : Hp} {μ : Mu} {st : S} {X : Cx} {σ : L2.St} {Wx : WX} {n : Nat} {N : List PySem.Str} {nms : List (PySem.Str × NameKind)} {fa : Nat → Option Addr} {cl : Cl}
theorem toB_post {o : Option Bool} {Q : VK} (sm : Sim T R Pr μ st H) (h : Post T Pr Wx σ (RV T Q) R μ (toB o st)) : ∃ b, o = some b ∧ Q (.bl b) H := by
  cases o with
  | none => exact h.elim
  | some b => exact ⟨b, rfl, h.okc sm rfl⟩
theorem negR_post {t : Bool} {r : Res W} {Q : VK} (h : Post T Pr Wx σ (RV T Q) R μ (negR t r)) : Post T Pr Wx σ (RV T fun v H' => ∃ b, v = .bl b ∧ Q (.bl (b != t)) H') R μ r := by
  cases r with
  | ok w st' =>
    cases w with
    | c x =>
      cases x with
      | bl b => exact fun R' μ' H' l s v rv => ⟨b, rv, h R' μ' H' l s (.bl (b != t)) rfl⟩
      | _ => exact h.elim
    | r k => exact h.elim
  | ex c x st' => exact h
  | stuck => exact h
/-- the type of a closed value that is no instance -/
theorem typ_look {M : Model} {pins : List (Addr × Obj)} {s : Shared} (I : Inv X pins σ H s) (hK : X.K = T.K) (sm : Sim T R Pr μ st H) {x : C} {v : V} {u : Value} (r : RelC T R x v) (rv : RelV v u) (h : clsOf st (.c x) = none) :
    ∃ t ∈ (["NoneType", "bool", "int", "str", "tuple", "list", "dict"] : List String), PySem.W.Looks M s.heap (typeOf u) (.type t) := by
  cases x with
  | non => cases r; cases rv; exact ⟨"NoneType", by simp, PySem.W.Looks.of_pure rfl⟩
  | bl b => cases r; cases rv; exact ⟨"bool", by simp, PySem.W.Looks.of_pure rfl⟩
  | int i => cases r; obtain ⟨t, rfl⟩ := rv; exact ⟨"int", by simp, PySem.W.Looks.of_pure rfl⟩
  | str y => cases r; obtain ⟨t, rfl⟩ := rv; exact ⟨"str", by simp, PySem.W.Looks.of_pure rfl⟩
  | tup cs =>
    obtain ⟨a, vs, rfl, h1, _⟩ := r
    cases rv
    obtain ⟨its, _, ⟨o, e, c, _⟩, _⟩ := I.tuple (a := a) (xs := vs) (by rw [hK]; exact sqT_le h1 sm.r)
    exact ⟨"tuple", by simp, c ▸ (PySem.W.Looks.ld e).andThen .now⟩
  | lst cs =>
    obtain ⟨a, vs, rfl, h1, _⟩ := r
    cases rv
    obtain ⟨its, _, ⟨o, k, e, c, _⟩, _⟩ := I.list (a := a) (xs := vs) (.of (sm.r _ _ h1))
    exact ⟨"list", by simp, c ▸ (PySem.W.Looks.ld e).andThen .now⟩
  | frz cs =>
    obtain ⟨a, vs, rfl, h1, _⟩ := r
    cases rv
    obtain ⟨its, _, ⟨o, k, e, c, _⟩, _⟩ := I.list (a := a) (xs := vs) (by rw [hK]; exact sqL_le h1 sm.r)
    exact ⟨"list", by simp, c ▸ (PySem.W.Looks.ld e).andThen .now⟩
  | dct ks vs =>
    obtain ⟨a, us, ws, rfl, h1, _⟩ := r
    cases rv
    obtain ⟨_, _, vs, _, p⟩ := (show ObjOk X.prog X.w H s.heap a (.dK _) from I.hok a _ (sm.r _ _ h1))
    obtain ⟨o, es, ep, e, c, _⟩ := p
    exact ⟨"dict", by simp, c.1 ▸ (PySem.W.Looks.ld e).andThen .now⟩
  | ins c fs vs => cases h
/-- an instance, as the library's rules ask for it -/
theorem inst_at {pins : List (Addr × Obj)} {s : Shared} {a dx C : Addr} {fs : List (PySem.Str × V)} (I : Inv X pins σ H s) (h : H a = some (.ins C dx fs)) : ∃ od, PySem.W.InstAt s.heap a (PySem.W.instObj C dx) C (some od) := by
  obtain ⟨mA, J, _⟩ := ins_get I.hok h
  obtain ⟨od, J, _⟩ := J.look
  exact ⟨_, J⟩
/-- a call of a special method, its bool turned or not -/
theorem run_bool (F : Fns T fa n cl) (c : Ctx T n N nms Wx X) {f : Nat} {a : Addr} (ha : fa f = some a) {A : Around} (hr : Room n A) (hgu : A.guards = some []) (hfr : A.frames = X.A.frames) {pins : List (Addr × Obj)} {s : Shared} {x y : V} {v u : Value} {wa wb : W} {Q : VK} {t : Bool}
    (I : Inv X pins σ H s) (rx : RelV x v) (ry : RelV y u) (sm : Sim T R Pr μ st H) (ra : RelW T R μ wa x) (rb : RelW T R μ wb y) (h : Post T Pr Wx σ (RV T Q) R μ (negR t (cl f [wa, wb] st))) :
    wpAny (model X.prog X.w) A (PySem.call (.ref a) [v, u]) (fun r s' => ∃ b, r = .bool b ∧ EP X pins σ Q (.bool (b != t)) s') X.xe s := by
  refine thn (run_at (ws := [wa, wb]) F c ha hr hgu hfr I (.cons rx (.cons ry .nil)) sm (⟨x, [y], rfl, ra, y, [], rfl, rb, rfl⟩ : RelWs T R μ [wa, wb] [x, y]) (negR_post h)) fun r s' ⟨z, H', I', rz, b, e, q⟩ => ?_
  subst e
  exact ⟨b, rz, .bl _, H', I', rfl, q⟩
theorem ops_eq (F : Fns T fa n cl) (O : TOk T fa) (c : Ctx T n N nms Wx X) : OpS T X Wx (compareOp .Eq) (cmpop T.g cl .eq) := by
  intro pins s σ H x y v u Q Pr R μ st a b I rx ry sm ra rb h
  have h : Post T Pr Wx σ (RV T Q) R μ (eqR T.g cl false a b st) := h
  unfold eqR at h
  have hu := c.room.units
  split at h
  · rename_i k hk
    split at h
    · rename_i f hf
      obtain ⟨kn, ⟨ad, hfa, hs, _⟩, hnf⟩ := O.eqm k f hf
      obtain ⟨p, dx, fs, rfl, hp⟩ := cls_at sm hk ra
      cases rx
      obtain ⟨od, J⟩ := inst_at I hp
      obtain ⟨m, hF⟩ := I.fr
      have hfn := (O.fn f ad hfa).2.1
      have go : ∀ tb, PySem.W.Looks (model X.prog X.w) s.heap (typeOf u) tb → PySem.W.notFirst T.K (T.ca k) tb = true → Post T Pr Wx σ (RV T Q) R μ (negR false (cl f [a, b] st)) → wpAny (model X.prog X.w) X.A (compareOp .Eq (.ref p) u) (EP X pins σ Q) X.xe s := fun tb hb hn h => by
        have hKI := I.ok.mod.kin
        rw [c.K] at hKI
        refine PySem.W.cmp_K (op := .Eq) (tb := tb) (by omega) hF hKI J hb hn hs hfn ?_
        refine thn (run_bool F c hfa (c.room.mono (by omega)) c.gu rfl I (x := .ref p) rfl ry sm ra rb h) fun r s' ⟨t, e, q⟩ => ?_
        subst e
        simpa [PySem.W.CmpBack] using q
      split at h
      · rename_i k' hk'
        split at h
        · rename_i e
          subst e
          obtain ⟨p', dx', fs', rfl, hp'⟩ := cls_at sm hk' rb
          cases ry
          obtain ⟨od', J'⟩ := inst_at I hp'
          exact go _ J'.type (by simp [PySem.W.notFirst]) h
        · exact h.elim
      · rename_i hn
        split at h
        · rename_i xx
          obtain ⟨t, ht, lk⟩ := typ_look (M := model X.prog X.w) I c.K sm rb ry hn
          exact go _ lk (hnf t ht) h
        · exact h.elim
    · exact h.elim
  · obtain ⟨t, e, q⟩ := toB_post sm h
    unfold eqOp at e
    split at e
    · rename_i ks vs ls us
      split at e
      · rename_i hl
        simp only [Option.map_some, Option.some.injEq] at e
        refine (eq_dct I c.K sm hu ra rb rx ry hl).1 ?_
        rw [← e] at q
        simpa using q
      · cases e
    rename_i xx yy nn
    split at e
    · rename_i x1 x2 e1 e2
      split at e
      · rename_i hs
        obtain ⟨hs1, hs2⟩ := Bool.and_eq_true_iff.mp hs
        simp only [Option.map_some, Option.some.injEq] at e
        refine op_eqD (by omega) pins s σ H x y v u Q I rx ry ⟨toD x1, toD x2, by rw [c.K]; exact dat_dp sm e1 hs1 ra, by rw [c.K]; exact dat_dp sm e2 hs2 rb, shp_ok hs1, shp_ok hs2, ?_⟩
        rw [← e] at q
        have e3 : (eqC x1 x2 != false) = PyData.eqv (toD x1) (toD x2) := by simp [eqC]
        rw [← e3]; exact q
      · cases e
    · cases e
theorem ops_ne (F : Fns T fa n cl) (O : TOk T fa) (c : Ctx T n N nms Wx X) : OpS T X Wx (compareOp .NotEq) (cmpop T.g cl .ne) := by
  intro pins s σ H x y v u Q Pr R μ st a b I rx ry sm ra rb h
  have h : Post T Pr Wx σ (RV T Q) R μ (eqR T.g cl true a b st) := h
  unfold eqR at h
  have hu := c.room.units
  split at h
  · rename_i k hk
    split at h
    · rename_i f hf
      obtain ⟨kn, ⟨ad, hfa, hs, hne⟩, hnf⟩ := O.eqm k f hf
      obtain ⟨p, dx, fs, rfl, hp⟩ := cls_at sm hk ra
      cases rx
      obtain ⟨od, J⟩ := inst_at I hp
      have hfn := (O.fn f ad hfa).2.1
      have go : ∀ tb, PySem.W.Looks (model X.prog X.w) s.heap (typeOf u) tb → PySem.W.notFirst T.K (T.ca k) tb = true → Post T Pr Wx σ (RV T Q) R μ (negR true (cl f [a, b] st)) → wpAny (model X.prog X.w) X.A (compareOp .NotEq (.ref p) u) (EP X pins σ Q) X.xe s := fun tb hb hn h => by
        have hKI := I.kIn
        rw [c.K] at hKI
        refine ne_own (by omega) hKI J hb hn hne hs hfn (O.cls k kn).hm ?_
        refine thn (run_bool F c hfa (c.room.mono (j := n + 1) (by omega)).in1 c.gu rfl I (x := .ref p) rfl ry sm ra rb h) fun r s' ⟨t, e, q⟩ => ?_
        subst e
        simpa [NotBack] using q
      split at h
      · rename_i k' hk'
        split at h
        · rename_i e
          subst e
          obtain ⟨p', dx', fs', rfl, hp'⟩ := cls_at sm hk' rb
          cases ry
          obtain ⟨od', J'⟩ := inst_at I hp'
          exact go _ J'.type (by simp [PySem.W.notFirst]) h
        · exact h.elim
      · rename_i hn
        split at h
        · rename_i xx
          obtain ⟨t, ht, lk⟩ := typ_look (M := model X.prog X.w) I c.K sm rb ry hn
          exact go _ lk (hnf t ht) h
        · exact h.elim
    · exact h.elim
  · obtain ⟨t, e, q⟩ := toB_post sm h
    unfold eqOp at e
    split at e
    · rename_i ks vs ls us
      split at e
      · rename_i hl
        simp only [Option.map_some, Option.some.injEq] at e
        refine (eq_dct I c.K sm hu ra rb rx ry hl).2 ?_
        rw [← e] at q
        simpa using q
      · cases e
    rename_i xx yy nn
    split at e
    · rename_i x1 x2 e1 e2
      split at e
      · rename_i hs
        obtain ⟨hs1, hs2⟩ := Bool.and_eq_true_iff.mp hs
        simp only [Option.map_some, Option.some.injEq] at e
        refine op_neD (by omega) pins s σ H x y v u Q I rx ry ⟨toD x1, toD x2, by rw [c.K]; exact dat_dp sm e1 hs1 ra, by rw [c.K]; exact dat_dp sm e2 hs2 rb, shp_ok hs1, shp_ok hs2, ?_⟩
        rw [← e] at q
        have e3 : (eqC x1 x2 != true) = !PyData.eqv (toD x1) (toD x2) := by simp [eqC]
        rw [← e3]; exact q
      · cases e
    · cases e

/-! ### in -/
theorem eqs_any (x : C) : ∀ ys : List C, ((toDs ys).any fun z => PyData.eqv z (toD x)) = ys.any fun y => eqC y x
  | [] => rfl
  | y :: ys => by simp only [toDs, List.any_cons, eqs_any x ys]; rfl
theorem flat_of {x : C} {v : V} (h : flt x = true) (r : RelC T R x v) : flatV v = true := by
  cases x <;> first | (cases r; rfl) | cases h
theorem flats_of : ∀ {xs : List C} {vs : List V}, xs.all flt = true → RelCs T R xs vs → vs.all flatV = true
  | [], _, _, r => by cases r; rfl
  | x :: xs, _, h, ⟨v, t, e, r1, r2⟩ => by
    subst e
    simp only [List.all_cons, Bool.and_eq_true] at h ⊢
    exact ⟨flat_of h.1 r1, flats_of h.2 r2⟩
theorem eqV_of {x y : C} {v u : V} (hx : flt x = true) (hy : flt y = true) (rx : RelC T R x v) (ry : RelC T R y u) : L2.eqV v u = eqC x y := by
  have sb : ∀ a b : List Nat, (strV a == strV b) = (strV a == strV b) := fun _ _ => rfl
  cases x <;> first | cases hx | skip
  all_goals cases y <;> first | cases hy | skip
  all_goals (cases rx; cases ry; simp [L2.eqV, eqC, toD, PyData.eqv, strV])
theorem inV_of {x : C} {v : V} (hx : flt x = true) (rx : RelC T R x v) : ∀ {ys : List C} {us : List V}, ys.all flt = true → RelCs T R ys us → L2.inV v us = ys.any fun y => eqC y x
  | [], _, _, r => by cases r; rfl
  | y :: ys, _, h, ⟨u, t, e, r1, r2⟩ => by
    subst e
    simp only [List.all_cons, Bool.and_eq_true] at h
    unfold L2.inV
    simp only [List.any_cons]
    rw [eqV_of h.1 hx r1 rx]
    have := inV_of hx rx h.2 r2
    unfold L2.inV at this
    rw [this]
theorem ops_inG (F : Fns T fa n cl) (O : TOk T fa) (c : Ctx T n N nms Wx X) (t : Bool) : OpS T X Wx (compareOp (if t then .NotIn else .In)) (inR T.g cl t) := by
  intro pins s σ H x y v u Q Pr R μ st a b I rx ry sm ra rb h
  unfold inR at h
  have hu := c.room.un
  split at h
  · rename_i k hk
    split at h
    · rename_i f hf
      obtain ⟨kn, ad, hfa, hs⟩ := O.inm k f hf
      obtain ⟨p, dx, fs, rfl, hp⟩ := cls_at sm hk rb
      cases ry
      obtain ⟨od, J⟩ := inst_at I hp
      obtain ⟨m, hF⟩ := I.fr
      have hfn := (O.fn f ad hfa).2.1
      have hKI := I.ok.mod.kin
      rw [c.K] at hKI
      have go := run_bool F c hfa (c.room.mono (by omega)) c.gu rfl I (x := .ref p) rfl rx sm rb ra h
      cases t with
      | true =>
        refine PySem.W.notIn_K hF hKI J hs hfn (thn go fun r s' ⟨z, e, q⟩ => ?_)
        subst e
        exact wpAny_truthy_bool (by simpa using q)
      | false =>
        refine PySem.W.in_K hF hKI J hs hfn (thn go fun r s' ⟨z, e, q⟩ => ?_)
        subst e
        exact wpAny_truthy_bool (by simpa using q)
    · exact h.elim
  · obtain ⟨z, e, q⟩ := toB_post sm h
    unfold inOp at e
    split at e
    · rename_i x1 ys e1 e2
      split at e
      · rename_i hs
        obtain ⟨hs1, hs2⟩ := Bool.and_eq_true_iff.mp hs
        simp only [Option.map_some, Option.some.injEq] at e
        have d1 := dat_dp sm e1 hs1 ra
        have d2 := dat_dp sm e2 hs2 rb
        simp only [toD] at d2
        have sh2 := shp_ok hs2
        simp only [toD] at sh2
        rw [← e] at q
        cases t with
        | true =>
          refine op_notInD (by omega) pins s σ H x y v u Q I rx ry ⟨toD x1, toDs ys, by rw [c.K]; exact d1, by rw [c.K]; exact d2, shp_ok hs1, sh2, ?_⟩
          rw [eqs_any]; simpa using q
        | false =>
          refine op_inD (by omega) pins s σ H x y v u Q I rx ry ⟨toD x1, toDs ys, by rw [c.K]; exact d1, by rw [c.K]; exact d2, shp_ok hs1, sh2, ?_⟩
          rw [eqs_any]; simpa using q
      · cases e
    · rename_i x1 ys e1 e2
      split at e
      · rename_i hs
        obtain ⟨hs1, hs2⟩ := Bool.and_eq_true_iff.mp hs
        simp only [Option.map_some, Option.some.injEq] at e
        have r1 : RelC T R x1 x := by
          cases a with
          | c z => cases e1; exact ra
          | r k =>
            unfold dat at e1
            cases q0 : cellAt st k with
            | none => simp only [q0] at e1; cases e1
            | some z =>
              simp only [q0] at e1
              cases z with
              | lst ws =>
                cases q2 : clo ws with
                | none => simp only [q2] at e1; cases e1
                | some cs => simp only [q2, Option.map_some, Option.some.injEq] at e1; subst e1; cases hs1
              | _ => cases e1
        have r2 : RelC T R (.tup ys) y := by
          cases b with
          | c z => cases e2; exact rb
          | r k =>
            unfold dat at e2
            cases q0 : cellAt st k with
            | none => simp only [q0] at e2; cases e2
            | some z =>
              simp only [q0] at e2
              cases z with
              | lst ws =>
                cases q2 : clo ws with
                | none => simp only [q2] at e2; cases e2
                | some cs => simp only [q2, Option.map_some, Option.some.injEq] at e2; cases e2
              | _ => cases e2
        obtain ⟨p, us, rfl, h1, h2⟩ := r2
        have iv := inV_of hs1 r1 hs2 h2
        rw [← e] at q
        cases t with
        | true =>
          refine op_notIn_seq pins s σ H x (.ref p) v u Q I rx ry ⟨p, us, rfl, .inr (by rw [c.K]; exact sqT_le h1 sm.r), flat_of hs1 r1, flats_of hs2 h2, ?_⟩
          rw [if_pos rfl, iv]; simpa using q
        | false =>
          refine op_in_seq pins s σ H x (.ref p) v u Q I rx ry ⟨p, us, rfl, .inr (by rw [c.K]; exact sqT_le h1 sm.r), flat_of hs1 r1, flats_of hs2 h2, ?_⟩
          rw [if_neg (by decide), iv]; simpa using q
      · cases e
    · cases e
theorem ops_in (F : Fns T fa n cl) (O : TOk T fa) (c : Ctx T n N nms Wx X) : OpS T X Wx (compareOp .In) (cmpop T.g cl .isin) := ops_inG F O c false
theorem ops_notin (F : Fns T fa n cl) (O : TOk T fa) (c : Ctx T n N nms Wx X) : OpS T X Wx (compareOp .NotIn) (cmpop T.g cl .notin) := ops_inG F O c true

/-! ### is -/
theorem isNon_ok {a : W} {x : V} (ra : RelW T R μ a x) : isNon a = decide (x = .non) := by
  cases a with
  | r k => obtain ⟨p, rfl, _⟩ := ra; rfl
  | c z =>
    cases z with
    | non => cases ra; rfl
    | bl b => cases ra; rfl
    | int b => cases ra; rfl
    | str b => cases ra; rfl
    | tup b => obtain ⟨p, _, rfl, _⟩ := ra; rfl
    | lst b => obtain ⟨p, _, rfl, _⟩ := ra; rfl
    | frz b => obtain ⟨p, _, rfl, _⟩ := ra; rfl
    | dct _ _ => obtain ⟨p, _, _, rfl, _⟩ := ra; rfl
    | ins _ _ _ => obtain ⟨p, _, _, rfl, _⟩ := ra; rfl
theorem ops_is (g : Gd) : OpS T X Wx (compareOp .Is) (cmpop g cl .is) := by
  intro pins s σ H x y v u Q Pr R μ st a b I rx ry sm ra rb h
  obtain ⟨t, e, q⟩ := toB_post sm (show Post T Pr Wx σ (RV T Q) R μ (toB (isOp a b) st) from h)
  unfold isOp at e
  split at e
  · simp only [Option.some.injEq] at e
    cases rb
    exact op_isN pins s σ H x .non v u Q I rx ry ⟨rfl, by rw [← isNon_ok ra, e]; exact q⟩
  · simp only [Option.some.injEq] at e
    cases ra; cases rb
    refine op_isBl pins s σ H _ _ v u Q I rx ry ⟨_, _, rfl, rfl, ?_⟩
    rw [← e] at q
    simpa [Bool.beq_eq_decide_eq] using q
  · cases e
theorem ops_isnot (g : Gd) : OpS T X Wx (compareOp .IsNot) (cmpop g cl .isnot) := by
  intro pins s σ H x y v u Q Pr R μ st a b I rx ry sm ra rb h
  obtain ⟨t, e, q⟩ := toB_post sm (show Post T Pr Wx σ (RV T Q) R μ (toB ((isOp a b).map not) st) from h)
  unfold isOp at e
  split at e
  · simp only [Option.map_some, Option.some.injEq] at e
    cases rb
    exact op_notN pins s σ H x .non v u Q I rx ry ⟨rfl, by rw [← isNon_ok ra, e]; exact q⟩
  · simp only [Option.map_some, Option.some.injEq] at e
    cases ra; cases rb
    refine op_notBl pins s σ H _ _ v u Q I rx ry ⟨_, _, rfl, rfl, ?_⟩
    rw [← e] at q
    simpa [Bool.beq_eq_decide_eq] using q
  · cases e

/-! ### order of ints -/
theorem ops_ord {op : Cop} {f : CmpOp} {p : Int → Int → Bool} (ho : OpR X (compareOp f) (rI0 fun i j => .bl (p i j))) (hp : ∀ i j z, ord op i j = some z → z = p i j) :
    OpS T X Wx (compareOp f) (ordOp op) := by
  intro pins s σ H x y v u Q Pr R μ st a b I rx ry sm ra rb h
  unfold ordOp at h
  split at h
  · obtain ⟨t, e, q⟩ := toB_post sm h
    obtain rfl := ra
    obtain rfl := rb
    exact ho pins s σ H _ _ v u Q I rx ry ⟨_, _, rfl, rfl, by show Q (.bl (p _ _)) H; rw [← hp _ _ _ e]; exact q⟩
  · exact h.elim
theorem ops_lt (g : Gd) : OpS T X Wx (compareOp .Lt) (cmpop g cl .lt) := ops_ord (op := .lt) op_lt fun i j z h => (Option.some.inj h).symm
theorem ops_le (g : Gd) : OpS T X Wx (compareOp .LtE) (cmpop g cl .le) := ops_ord (op := .le) op_le fun i j z h => (Option.some.inj h).symm
theorem ops_gt (g : Gd) : OpS T X Wx (compareOp .Gt) (cmpop g cl .gt) := ops_ord (op := .gt) op_gt fun i j z h => (Option.some.inj h).symm
theorem ops_ge (g : Gd) : OpS T X Wx (compareOp .GtE) (cmpop g cl .ge) := ops_ord (op := .ge) op_ge fun i j z h => (Option.some.inj h).symm

/-! ### & of instances -/
theorem cmpBack_of {pins : List (Addr × Obj)} {Q : VK} {r : Value} {s' : Shared} (h : EP X pins σ Q r s') : PySem.W.CmpBack (EP X pins σ Q) r s' := by
  cases r <;> first
    | exact h
    | (exfalso
       obtain ⟨z, H', I', rz, q⟩ := h
       cases z <;> first
         | (obtain ⟨t, e⟩ := rz; cases e)
         | cases rz)
theorem ops_band (F : Fns T fa n cl) (O : TOk T fa) (c : Ctx T n N nms Wx X) : OpS T X Wx (binaryOp .BitAnd) (bin T.g cl .band) := by
  intro pins s σ H x y v u Q Pr R μ st a b I rx ry sm ra rb h
  unfold bin at h
  split at h
  · rename_i k _ hk
    split at h
    · rename_i f hf
      obtain ⟨kn, sf, ad, hfa, hs⟩ := O.andm k f hf
      obtain ⟨p, dx, fs, rfl, hp⟩ := cls_at sm hk ra
      cases rx
      obtain ⟨od, J⟩ := inst_at I hp
      obtain ⟨m, hF⟩ := I.fr
      have hfn := (O.fn f ad hfa).2.1
      have hKI := I.ok.mod.kin
      rw [c.K] at hKI
      split at h
      · rename_i hk'
        obtain ⟨p', dx', fs', rfl, hp'⟩ := cls_at sm hk' rb
        cases ry
        obtain ⟨od', J'⟩ := inst_at I hp'
        refine PySem.W.binop_K (op := .BitAnd) hF hKI J J'.type sf hs hfn ?_
        refine thn (run_at (ws := [a, b]) F c hfa (c.room.mono (by omega)) c.gu rfl I (vs := [.ref p, .ref p']) (us := [.ref p, .ref p']) (.cons rfl (.cons rfl .nil)) sm (⟨_, [_], rfl, ra, _, [], rfl, rb, rfl⟩ : RelWs T R μ [a, b] [.ref p, .ref p']) h) fun r s' q => cmpBack_of q
      · exact h.elim
    · exact h.elim
  · exact h.elim
end
end Ev

/-! Acc: subscripts, slices, fields, new instances, built-in functions by values. -/
namespace Ev
open PySem PySem.Spec PyProof.Rows L2
section
variable {T : Tb} {R R' Pr H : Hp} {μ : Mu} {st : S} {X : Cx} {σ : L2.St} {Wx : WX} {n : Nat} {N : List PySem.Str} {nms : List (PySem.Str × NameKind)} {fa : Nat → Option Addr} {cl : Cl}
/-- what stands as a plain index -/
def ixOk : Expr → Bool
  | .Slice _ _ _ _ => false
  | _ => true
theorem plainIx_of {b : Expr} (h : ixOk b = true) : PlainIx b := by
  intro o i
  cases b <;> first | rfl | cases h
theorem pyIx_of {b : Expr} (h : ixOk b = true) (o i : Value) : subscripted b true o i = runValue (.builtin "lifetime.subscript" ⟨[o, i], []⟩) := by
  cases b <;> first | rfl | cases h
/-- a list or tuple, in the heap -/
theorem seq_at (sm : Sim T R Pr μ st H) {w : W} {v : V} {ws : List W} (e : seqW st w = some ws) (r : RelW T R μ w v) : ∃ p vs, v = .ref p ∧ RelWs T R μ ws vs ∧ (SqL T.K H p vs ∨ SqT T.K H p vs) := by
  cases w with
  | c x =>
    cases x with
    | tup cs =>
      cases e
      obtain ⟨p, vs, rfl, h1, h2⟩ := r
      exact ⟨p, vs, rfl, .ofC h2, .inr (sqT_le h1 sm.r)⟩
    | lst cs =>
      cases e
      obtain ⟨p, vs, rfl, h1, h2⟩ := r
      exact ⟨p, vs, rfl, .ofC h2, .inl (.of (sm.r _ _ h1))⟩
    | frz cs =>
      cases e
      obtain ⟨p, vs, rfl, h1, h2⟩ := r
      exact ⟨p, vs, rfl, .ofC h2, .inl (sqL_le h1 sm.r)⟩
    | _ => cases e
  | r k =>
    unfold seqW at e
    cases q : cellAt st k with
    | none => simp only [q] at e; cases e
    | some x =>
      simp only [q] at e
      cases x with
      | lst ws' =>
        cases e
        obtain ⟨a, h1, _, _, vs, h4, h5⟩ := sm.c k _ q
        obtain ⟨a', rfl, h6⟩ := r
        rw [h1] at h6; cases h6
        exact ⟨a, vs, rfl, h5, .inl (.of h4)⟩
      | _ => cases e
theorem list_at (sm : Sim T R Pr μ st H) {w : W} {v : V} {ws : List W} (e : listW st w = some ws) (r : RelW T R μ w v) : ∃ p vs, v = .ref p ∧ RelWs T R μ ws vs ∧ SqL T.K H p vs := by
  cases w with
  | c x =>
    cases x with
    | lst cs =>
      cases e
      obtain ⟨p, vs, rfl, h1, h2⟩ := r
      exact ⟨p, vs, rfl, .ofC h2, .of (sm.r _ _ h1)⟩
    | frz cs =>
      cases e
      obtain ⟨p, vs, rfl, h1, h2⟩ := r
      exact ⟨p, vs, rfl, .ofC h2, sqL_le h1 sm.r⟩
    | _ => cases e
  | r k =>
    unfold listW at e
    cases q : cellAt st k with
    | none => simp only [q] at e; cases e
    | some x =>
      simp only [q] at e
      cases x with
      | lst ws' =>
        cases e
        obtain ⟨a, h1, _, _, vs, h4, h5⟩ := sm.c k _ q
        obtain ⟨a', rfl, h6⟩ := r
        rw [h1] at h6; cases h6
        exact ⟨a, vs, rfl, h5, .of h4⟩
      | _ => cases e
theorem atI_of {ws : List W} {vs : List V} {i : Int} {w : W} (r : RelWs T R μ ws vs) (e : ((ixN ws.length i).bind fun j => ws[j]?) = some w) : ∃ v, atI vs i = some v ∧ RelW T R μ w v := by
  cases q : ixN ws.length i with
  | none => rw [q] at e; cases e
  | some j =>
    rw [q] at e
    obtain ⟨v, e1, e2⟩ := r.get (show ws[j]? = some w from e)
    refine ⟨v, ?_, e2⟩
    unfold atI
    rw [← r.length]
    have : L2.ixN ws.length i = some j := q
    rw [this]
    exact e1
/-- o[i] by values -/
def IxS (T : Tb) (X : Cx) (Wx : WX) (o : W → W → S → Res W) : Prop :=
  ∀ (value slice : Expr) (pins : List (Addr × Obj)) (s : Shared) (σ : L2.St) (H : Hp) (x y : V) (v u : Value) (Q : VK) (Pr R : Hp) (μ : Mu) (st : S) (a b : W), ixOk slice = true → Inv X pins σ H s → RelV x v → RelV y u → Sim T R Pr μ st H → RelW T R μ a x → RelW T R μ b y →
    Post T Pr Wx σ (RV T Q) R μ (o a b st) → wpAny (model X.prog X.w) X.A (subscriptTail value slice v u) (EP X pins σ Q) X.xe s
theorem ixs (F : Fns T fa n cl) (O : TOk T fa) (c : Ctx T n N nms Wx X) : IxS T X Wx (getix T.g cl) := by
  intro value slice pins s σ H x y v u Q Pr R μ st a b hi I rx ry sm ra rb h
  unfold getix at h
  split at h
  · rename_i k hk
    split at h
    · rename_i f hf
      obtain ⟨kn, ad, hfa, hs⟩ := O.getm k f hf
      obtain ⟨p, dx, fs, rfl, hp⟩ := cls_at sm hk ra
      cases rx
      obtain ⟨od, J⟩ := inst_at I hp
      obtain ⟨m, hF⟩ := I.fr
      obtain ⟨_, hfn, hfi⟩ := O.fn f ad hfa
      have hKI := I.ok.mod.kin
      rw [c.K] at hKI
      refine PySem.W.sub_K hF hKI J hs hfi hfn ?_ (pyIx_of hi _ _)
      exact run_at (ws := [a, b]) F c hfa (c.room.mono (j := n + 1) (by omega)).in1 c.gu rfl I (vs := [.ref p, y]) (us := [.ref p, u]) (.cons rfl (.cons ry .nil)) sm (⟨_, [_], rfl, ra, _, [], rfl, rb, rfl⟩ : RelWs T R μ [a, b] [.ref p, y]) h
    · exact h.elim
  · have hu := c.room.units
    split at h
    · rename_i ks ws k hd
      split at h
      · rename_i w hw
        obtain ⟨p, us, vs, rfl, h1, h2, h3, h4⟩ := dct_at sm hd ra
        cases rx
        obtain ⟨key, rfl, rk⟩ := key_of_rel (show RelC T R k y from rb) (lookD_B hw)
        obtain ⟨z, e1, e2⟩ := (lookD_some rk (lookD_B hw) h3 h4).1 w hw
        exact ix_dct (by omega) I ry (.inl ⟨_, key, .inl h1, rfl, e1.symm⟩) (h.ok sm z e2) (plainIx_of hi _ _)
      · exact h.elim
    · exact h.elim
    split at h
    · rename_i ws k hws
      split at h
      · rename_i w hw
        cases rb
        obtain ⟨p, vs, rfl, h1, h2⟩ := seq_at sm hws ra
        obtain ⟨z, e1, e2⟩ := atI_of h1 hw
        have q := h.ok sm z e2
        rcases h2 with h2 | h2
        · exact ix_list value slice pins s σ H _ _ v u Q I rx ry ⟨p, vs, _, z, rfl, rfl, by rw [c.K]; exact h2, e1, q⟩ (plainIx_of hi _ _)
        · exact ix_tup value slice pins s σ H _ _ v u Q I rx ry ⟨p, vs, _, z, rfl, rfl, by rw [c.K]; exact h2, e1, q⟩ (plainIx_of hi _ _)
      · exact h.elim
    · exact h.elim

/-! ### fields -/
theorem get_prop (F : Fns T fa n cl) (c : Ctx T n N nms Wx X) {f : Nat} {g : Addr} (hfa : fa f = some g) {C a dx p : Addr} {fs : List (PySem.Str × V)} {nm : PySem.Str} {pins : List (Addr × Obj)} {s : Shared} {Q : VK} {b : Bool} {w : W} (I : Inv X pins σ H s)
    (ea : H a = some (.ins C dx fs)) (cl' : Cls X.K C) (hp : PropOf X.K C nm p g) (sm : Sim T R Pr μ st H) (ra : RelW T R μ w (.ref a)) (h : Post T Pr Wx σ (RV T Q) R μ (noex (cl f [w] st))) :
    wpAny (model X.prog X.w) X.A (getAttr (.ref a) nm b) (EP X pins σ Q) X.xe s := by
  obtain ⟨od, J⟩ := inst_at I ea
  obtain ⟨rest, hrec⟩ := hp.rec_
  have I1 := I.tok (s.toks + 1)
  have hc : (PySem.W.clsIn X.K C).isSome = true := by
    obtain ⟨cd, hc, _⟩ := PySem.W.any_some cl'.hd
    rw [hc]
    rfl
  have hF := F.fn f g hfa
  have e0 : Env0 X.prog X.w X.K X.mg X.base X.A.in1 X.stack { s with toks := s.toks + 1 } H := I1.env0.in1
  rw [← c.P, ← c.w, ← c.K, ← c.mg, ← c.base] at hF
  have h' : Post T Pr (fun _ _ _ _ => False) [] (RV T Q) R μ (cl f [w] st) := by
    cases q : cl f [w] st with
    | ok a st => rw [q] at h; exact h
    | ex c x st => rw [q] at h; exact h.elim
    | stuck => rw [q] at h; exact h.elim
  refine PySem.W.get_bind I.kIn J (PySem.W.plainGet_of (cl'.get nm)).1 (PySem.W.findObj_data hc hp.at_ hp.get hp.tak) (PySem.W.plainGet_of (cl'.get nm)).2 (wpAny_call (PySem.W.prop_get (s := { s with toks := s.toks + 1 }) I.kIn hrec ?_))
  refine codeAny_mono (hF X.A.in1 X.stack { s with toks := s.toks + 1 } H [.ref a] [.ref a] Q (fun _ _ _ => False) (c.room.mono (j := n + 1) (by omega)).in1 c.gu e0 (.cons rfl .nil) ⟨Pr, R, μ, [w], st, sm, ⟨_, [], rfl, ra, rfl⟩, h'⟩) fun r s' hq => ?_
  cases r with
  | error er =>
    obtain ⟨_, _, _, _, _, _, _, _, _, _, _, _, hq⟩ := hq
    exact hq.elim
  | ok fl =>
    cases fl with
    | ret u =>
      obtain ⟨v, H', I3, rv, q3⟩ := I1.after hq
      show wpAny _ _ (handedOut u) _ _ _
      rw [PySem.W.handedOut_of (handed_of rv)]
      exact wpAny_pure ⟨v, H', I3, rv, q3⟩
    | next => exact False.elim hq
    | brk => exact False.elim hq
    | cont => exact False.elim hq
theorem attrs (F : Fns T fa n cl) (O : TOk T fa) (c : Ctx T n N nms Wx X) {f : Nat} {pins : List (Addr × Obj)} {s : Shared} {x : V} {v : Value} {Q : VK} {b : Bool} {w : W} (I : Inv X pins σ H s) (rx : RelV x v) (sm : Sim T R Pr μ st H) (ra : RelW T R μ w x)
    (h : Post T Pr Wx σ (RV T Q) R μ (attr T.g cl w f st)) : wpAny (model X.prog X.w) X.A (getAttr v (T.nm f) b) (EP X pins σ Q) X.xe s := by
  unfold attr at h
  split at h
  · rename_i k hk
    obtain ⟨p, dx, fs, rfl, hp⟩ := cls_at sm hk ra
    cases rx
    split at h
    · rename_i q hq
      obtain ⟨kn, ad, pr, hfa, hpr⟩ := O.prop k f q hq
      exact get_prop F c hfa I hp (by rw [c.K]; exact (O.cls k kn).cl) (by rw [c.K]; exact hpr) sm ra h
    · split at h
      · rename_i hfl
        obtain ⟨kn, hna⟩ := O.fld k f hfl
        split at h
        · rename_i z hz
          obtain ⟨a', C', dx', fs', u, e1, e2, e3, e4⟩ := fld_at sm O.inj hz ra
          cases e1
          rw [hp] at e2
          cases e2
          exact getattr_ok I hp (by rw [c.K]; exact (O.cls k kn).cl) (by rw [c.K]; exact hna) e3 (fun r s' I' rv => ⟨u, H, I', rv, h.ok sm u e4⟩)
        · exact h.elim
      · exact h.elim
  · exact h.elim

/-! ### built-in functions -/
def CallS (T : Tb) (X : Cx) (Wx : WX) (f : Value) (o : List W → S → Res W) : Prop :=
  ∀ (pins : List (Addr × Obj)) (s : Shared) (σ : L2.St) (H : Hp) (vs : List V) (us : List Value) (Q : VK) (Pr R : Hp) (μ : Mu) (st : S) (ws : List W), Inv X pins σ H s → Vals vs us → Sim T R Pr μ st H → RelWs T R μ ws vs →
    Post T Pr Wx σ (RV T Q) R μ (o ws st) → wpAny (model X.prog X.w) X.A (PySem.call f us) (EP X pins σ Q) X.xe s
theorem RelWs.one {w : W} {vs : List V} (r : RelWs T R μ [w] vs) : ∃ v, vs = [v] ∧ RelW T R μ w v := by
  obtain ⟨v, t, rfl, h1, h2⟩ := r
  cases h2
  exact ⟨v, rfl, h1⟩
theorem RelWs.two {w w' : W} {vs : List V} (r : RelWs T R μ [w, w'] vs) : ∃ v v', vs = [v, v'] ∧ RelW T R μ w v ∧ RelW T R μ w' v' := by
  obtain ⟨v, t, rfl, h1, h2⟩ := r
  obtain ⟨v', rfl, h3⟩ := h2.one
  exact ⟨v, v', rfl, h1, h3⟩
theorem bools_of : ∀ {ws : List W} {bs : List Bool} {vs : List V}, bools ws = some bs → RelWs T R μ ws vs → vs = bs.map V.bl
  | [], _, _, e, r => by cases e; exact r
  | .c (.bl b) :: ws, bs, vs, e, ⟨v, t, h1, h2, h3⟩ => by
    simp only [bools] at e
    cases q : bools ws with
    | none => rw [q] at e; cases e
    | some bs' =>
      rw [q] at e
      cases e
      subst h1
      rw [bools_of q h3]
      cases h2
      rfl
  | .c .non :: _, _, _, e, _ => by simp [bools] at e
  | .c (.int _) :: _, _, _, e, _ => by simp [bools] at e
  | .c (.str _) :: _, _, _, e, _ => by simp [bools] at e
  | .c (.tup _) :: _, _, _, e, _ => by simp [bools] at e
  | .c (.lst _) :: _, _, _, e, _ => by simp [bools] at e
  | .c (.frz _) :: _, _, _, e, _ => by simp [bools] at e
  | .c (.dct _ _) :: _, _, _, e, _ => by simp [bools] at e
  | .c (.ins _ _ _) :: _, _, _, e, _ => by simp [bools] at e
  | .r _ :: _, _, _, e, _ => by simp [bools] at e
theorem ints_of : ∀ {ws : List W} {bs : List Int} {vs : List V}, intsOf ws = some bs → RelWs T R μ ws vs → vs = bs.map V.int
  | [], _, _, e, r => by cases e; exact r
  | .c (.int b) :: ws, bs, vs, e, ⟨v, t, h1, h2, h3⟩ => by
    simp only [intsOf] at e
    cases q : intsOf ws with
    | none => rw [q] at e; cases e
    | some bs' =>
      rw [q] at e
      cases e
      subst h1
      rw [ints_of q h3]
      cases h2
      rfl
  | .c .non :: _, _, _, e, _ => by simp [intsOf] at e
  | .c (.bl _) :: _, _, _, e, _ => by simp [intsOf] at e
  | .c (.str _) :: _, _, _, e, _ => by simp [intsOf] at e
  | .c (.tup _) :: _, _, _, e, _ => by simp [intsOf] at e
  | .c (.lst _) :: _, _, _, e, _ => by simp [intsOf] at e
  | .c (.frz _) :: _, _, _, e, _ => by simp [intsOf] at e
  | .c (.dct _ _) :: _, _, _, e, _ => by simp [intsOf] at e
  | .c (.ins _ _ _) :: _, _, _, e, _ => by simp [intsOf] at e
  | .r _ :: _, _, _, e, _ => by simp [intsOf] at e
theorem calls_bools (f : List Bool → Bool) {id : String} (ho : CallR X (.builtin id) (fun vs H Q => ∃ (a : Addr) (bs : List Bool), vs = [V.ref a] ∧ SqL X.K H a (bs.map V.bl) ∧ Q (.bl (f bs)) H)) (hK : X.K = T.K) : CallS T X Wx (.builtin id) (boolsF f) := by
  intro pins s σ H vs us Q Pr R μ st ws I r sm rw' h
  unfold boolsF at h
  split at h
  · rename_i w
    split at h
    · rename_i bs e
      obtain ⟨v, rfl, r1⟩ := rw'.one
      cases q : listW st w with
      | none => rw [q] at e; cases e
      | some xs =>
        rw [q] at e
        obtain ⟨p, ys, rfl, h1, h2⟩ := list_at sm q r1
        have e2 := bools_of e h1
        subst e2
        exact ho pins s σ H _ us Q I r ⟨p, bs, rfl, by rw [hK]; exact h2, h.okc sm rfl⟩
    · exact h.elim
  · exact h.elim
theorem calls_all (hK : X.K = T.K) (hc : X.calm = true) : CallS T X Wx (.builtin "all") (bfn T.g cl .all) := calls_bools _ (cr_all hc) hK
theorem calls_any (hK : X.K = T.K) (hc : X.calm = true) : CallS T X Wx (.builtin "any") (bfn T.g cl .any) := calls_bools _ (cr_any hc) hK
theorem calls_int : CallS T X Wx (.type "int") (bfn T.g cl .int) := by
  intro pins s σ H vs us Q Pr R μ st ws I r sm rw' h
  replace h : Post T Pr Wx σ (RV T Q) R μ (intF ws st) := h
  unfold intF at h
  split at h
  · obtain ⟨v, rfl, r1⟩ := rw'.one
    cases r1
    exact call_int1 pins s σ H _ us Q I r (.inl ⟨_, rfl, h.okc sm rfl⟩)
  · obtain ⟨v, rfl, r1⟩ := rw'.one
    cases r1
    exact call_int1 pins s σ H _ us Q I r (.inr ⟨_, rfl, h.okc sm rfl⟩)
  · exact h.elim
theorem calls_abs : CallS T X Wx (.builtin "abs") (bfn T.g cl .abs) := by
  intro pins s σ H vs us Q Pr R μ st ws I r sm rw' h
  replace h : Post T Pr Wx σ (RV T Q) R μ (absF ws st) := h
  unfold absF at h
  split at h
  · obtain ⟨v, rfl, r1⟩ := rw'.one
    cases r1
    exact call_abs pins s σ H _ us Q I r ⟨_, rfl, h.okc sm rfl⟩
  · exact h.elim
theorem foldl_min : ∀ (xs : List Int) (x : Int), xs.foldl (fun a b => if b < a then b else a) x ∈ x :: xs ∧ ∀ y ∈ x :: xs, xs.foldl (fun a b => if b < a then b else a) x ≤ y
  | [], x => by simp
  | z :: xs, x => by
    obtain ⟨h1, h2⟩ := foldl_min xs (if z < x then z else x)
    simp only [List.foldl_cons]
    refine ⟨?_, fun y hy => ?_⟩
    · rcases List.mem_cons.mp h1 with e | e
      · rw [e]; split <;> simp
      · simp [e]
    · have h3 := h2 _ List.mem_cons_self
      rcases List.mem_cons.mp hy with e | e
      · subst e; refine Int.le_trans h3 ?_; split <;> omega
      · rcases List.mem_cons.mp e with e | e
        · subst e; refine Int.le_trans h3 ?_; split <;> omega
        · exact h2 y (List.mem_cons_of_mem _ e)
theorem foldl_max : ∀ (xs : List Int) (x : Int), xs.foldl (fun a b => if a < b then b else a) x ∈ x :: xs ∧ ∀ y ∈ x :: xs, y ≤ xs.foldl (fun a b => if a < b then b else a) x
  | [], x => by simp
  | z :: xs, x => by
    obtain ⟨h1, h2⟩ := foldl_max xs (if x < z then z else x)
    simp only [List.foldl_cons]
    refine ⟨?_, fun y hy => ?_⟩
    · rcases List.mem_cons.mp h1 with e | e
      · rw [e]; split <;> simp
      · simp [e]
    · have h3 := h2 _ List.mem_cons_self
      rcases List.mem_cons.mp hy with e | e
      · subst e; refine Int.le_trans ?_ h3; split <;> omega
      · rcases List.mem_cons.mp e with e | e
        · subst e; refine Int.le_trans ?_ h3; split <;> omega
        · exact h2 y (List.mem_cons_of_mem _ e)
theorem ints_at (sm : Sim T R Pr μ st H) {w : W} {v : V} {ns : List Int} (e : (listW st w).bind intsOf = some ns) (r : RelW T R μ w v) : ∃ p, v = .ref p ∧ SqL T.K H p (ns.map V.int) := by
  cases q : listW st w with
  | none => rw [q] at e; cases e
  | some xs =>
    rw [q] at e
    obtain ⟨p, ys, rfl, h1, h2⟩ := list_at sm q r
    have e2 := ints_of e h1
    subst e2
    exact ⟨p, rfl, h2⟩
theorem calls_min (hK : X.K = T.K) (hc : X.calm = true) : CallS T X Wx (.builtin "min") (bfn T.g cl .min) := by
  intro pins s σ H vs us Q Pr R μ st ws I r sm rw' h
  replace h : Post T Pr Wx σ (RV T Q) R μ (minF ws st) := h
  unfold minF at h
  split at h
  · obtain ⟨v, v', rfl, r1, r2⟩ := rw'.two
    cases r1; cases r2
    exact call_min2 hc pins s σ H _ us Q I r ⟨_, _, rfl, h.okc sm rfl⟩
  · rename_i w
    obtain ⟨v, rfl, r1⟩ := rw'.one
    split at h
    · rename_i m e
      cases q : (listW st w).bind intsOf with
      | none => rw [q] at e; cases e
      | some ns =>
        rw [q] at e
        obtain ⟨p, rfl, h2⟩ := ints_at sm q r1
        cases ns with
        | nil => cases e
        | cons x xs =>
          refine cr_min hc pins s σ H _ us Q I r ⟨p, x :: xs, rfl, by rw [hK]; exact h2, by simp, fun z z1 z2 => ?_⟩
          have e : xs.foldl (fun a b => if b < a then b else a) x = m := Option.some.inj e
          obtain ⟨f1, f2⟩ := foldl_min xs x
          have : z = m := by
            rw [← e]
            exact Int.le_antisymm (z2 _ f1) (f2 _ z1)
          subst this
          exact h.okc sm rfl
    · exact h.elim
  · exact h.elim
theorem calls_max (hK : X.K = T.K) (hc : X.calm = true) : CallS T X Wx (.builtin "max") (bfn T.g cl .max) := by
  intro pins s σ H vs us Q Pr R μ st ws I r sm rw' h
  replace h : Post T Pr Wx σ (RV T Q) R μ (maxF ws st) := h
  unfold maxF at h
  split at h
  · obtain ⟨v, v', rfl, r1, r2⟩ := rw'.two
    cases r1; cases r2
    exact call_max2 hc pins s σ H _ us Q I r ⟨_, _, rfl, h.okc sm rfl⟩
  · rename_i w
    obtain ⟨v, rfl, r1⟩ := rw'.one
    split at h
    · rename_i m e
      cases q : (listW st w).bind intsOf with
      | none => rw [q] at e; cases e
      | some ns =>
        rw [q] at e
        obtain ⟨p, rfl, h2⟩ := ints_at sm q r1
        cases ns with
        | nil => cases e
        | cons x xs =>
          refine cr_max hc pins s σ H _ us Q I r ⟨p, x :: xs, rfl, by rw [hK]; exact h2, by simp, fun z z1 z2 => ?_⟩
          have e : xs.foldl (fun a b => if a < b then b else a) x = m := Option.some.inj e
          obtain ⟨f1, f2⟩ := foldl_max xs x
          have : z = m := by
            rw [← e]
            exact Int.le_antisymm (f2 _ z1) (z2 _ f1)
          subst this
          exact h.okc sm rfl
    · exact h.elim
  · exact h.elim
theorem calls_sum (hK : X.K = T.K) (hc : X.calm = true) : CallS T X Wx (.builtin "sum") (bfn T.g cl .sum) := by
  intro pins s σ H vs us Q Pr R μ st ws I r sm rw' h
  replace h : Post T Pr Wx σ (RV T Q) R μ (sumF ws st) := h
  unfold sumF at h
  split at h
  · rename_i w
    obtain ⟨v, rfl, r1⟩ := rw'.one
    split at h
    · rename_i ns e
      obtain ⟨p, rfl, h2⟩ := ints_at sm e r1
      exact cr_sum hc pins s σ H _ us Q I r ⟨p, ns, rfl, by rw [hK]; exact h2, h.okc sm rfl⟩
    · exact h.elim
  · exact h.elim
theorem calls_tuple (hK : X.K = T.K) : CallS T X Wx (.type "tuple") (bfn T.g cl .tuple) := by
  intro pins s σ H vs us Q Pr R μ st ws I r sm rw' h
  replace h : Post T Pr Wx σ (RV T Q) R μ (tupleF ws st) := h
  unfold tupleF at h
  split at h
  · obtain ⟨v, rfl, r1⟩ := rw'.one
    obtain ⟨p, ys, rfl, h1, h2⟩ := id r1
    exact call_tuple_of pins s σ H _ us Q I r ⟨p, ys, rfl, .inr ⟨by rw [hK]; exact sqT_le h1 sm.r, h.okc sm ⟨p, ys, rfl, h1, h2⟩⟩⟩
  · rename_i w hw
    obtain ⟨v, rfl, r1⟩ := rw'.one
    split at h
    · rename_i cs e
      cases q : listW st w with
      | none => rw [q] at e; cases e
      | some xs =>
        rw [q] at e
        obtain ⟨p, ys, rfl, h1, h2⟩ := list_at sm q r1
        refine call_tuple_of pins s σ H _ us Q I r ⟨p, ys, rfl, .inl ⟨by rw [hK]; exact h2, fun l hl => ?_⟩⟩
        exact h.fresh sm hl ⟨l, ys, rfl, .inl (.inl upd_same), (h1.clo e).upd' sm hl⟩
    · exact h.elim
  · exact h.elim
theorem calls_len (F : Fns T fa n cl) (O : TOk T fa) (c : Ctx T n N nms Wx X) : CallS T X Wx (.builtin "len") (bfn T.g cl .len) := by
  intro pins s σ H vs us Q Pr R μ st ws I r sm rw' h
  replace h : Post T Pr Wx σ (RV T Q) R μ (lenF T.g cl ws st) := h
  unfold lenF at h
  split at h
  · rename_i w
    obtain ⟨v, rfl, r1⟩ := rw'.one
    split at h
    · rename_i k hk
      split at h
      · rename_i f hf
        obtain ⟨kn, ad, hfa, hs⟩ := O.lenm k f hf
        obtain ⟨p, dx, fs, rfl, hp⟩ := cls_at sm hk r1
        obtain ⟨u, rfl, rx⟩ := vals1 r
        cases rx
        obtain ⟨od, J⟩ := inst_at I hp
        obtain ⟨m, hF⟩ := I.fr
        have hfn := (O.fn f ad hfa).2.1
        have hKI := I.ok.mod.kin
        rw [c.K] at hKI
        have h2 : Post T Pr Wx σ (RV T fun v H' => ∃ n : Int, v = .int n ∧ (0 ≤ n ∧ n < 2 ^ 63) ∧ Q (.int n) H') R μ (cl f [w] st) := by
          cases q : cl f [w] st with
          | ok w' st' =>
            rw [q] at h
            cases w' with
            | c x =>
              cases x with
              | int i =>
                simp only [lenB] at h
                split at h
                · rename_i hb
                  exact fun R' μ' H' l s v rv => ⟨i, rv, hb, h R' μ' H' l s (.int i) rfl⟩
                · exact h.elim
              | _ => exact h.elim
            | r k => exact h.elim
          | ex c x st' => rw [q] at h; exact h
          | stuck => rw [q] at h; exact h
        refine PySem.W.len_K hF hKI J hs hfn ?_
        refine thn (run_at (ws := [w]) F c hfa (c.room.mono (j := n + 1) (by omega)).in1 c.gu rfl I (vs := [.ref p]) (us := [.ref p]) (.cons rfl .nil) sm (⟨_, [], rfl, r1, rfl⟩ : RelWs T R μ [w] [.ref p]) h2) fun r s' ⟨z, H', I', rz, i, e, hb, q⟩ => ?_
        subst e
        obtain ⟨t, rfl⟩ := rz
        exact ⟨hb, .int i, H', I'.tok _, ⟨_, rfl⟩, q⟩
      · exact h.elim
    · split at h
      · rename_i m hm
        have q := fun (v : V) (e : v = .int (m : Nat)) => h.okc (Q := Q) (v := v) sm e
        cases w with
        | c x =>
          by_cases hx : ∃ y, x = .str y
          · obtain ⟨y, rfl⟩ := hx
            cases r1
            have hm : (if y.length ≤ 16777216 then some y.length else none) = some m := hm
            split at hm
            · rename_i hl
              cases hm
              exact L2.call_len pins s σ H _ us Q I r ⟨_, _, rfl, ⟨by rw [strV_len, ← line_eq]; exact hl, (strV_len _).symm⟩, q _ rfl⟩
            · cases hm
          · have hm : (seqW st (.c x)).map List.length = some m := by
              cases x <;> first | exact hm | exact absurd ⟨_, rfl⟩ hx
            cases e : seqW st (.c x) with
            | none => rw [e] at hm; cases hm
            | some ys =>
              rw [e] at hm
              cases hm
              obtain ⟨p, zs, rfl, h1, h2⟩ := seq_at sm e r1
              refine L2.call_len pins s σ H _ us Q I r ⟨_, zs.length, rfl, ?_, by rw [← h1.length]; exact q _ rfl⟩
              rcases h2 with h2 | h2
              · exact .inl ⟨zs, by rw [c.K]; exact h2, rfl⟩
              · exact .inr ⟨zs, by rw [c.K]; exact h2, rfl⟩
        | r k =>
          have hm : (seqW st (.r k)).map List.length = some m := hm
          cases e : seqW st (.r k) with
          | none => rw [e] at hm; cases hm
          | some ys =>
            rw [e] at hm
            cases hm
            obtain ⟨p, zs, rfl, h1, h2⟩ := seq_at sm e r1
            refine L2.call_len pins s σ H _ us Q I r ⟨_, zs.length, rfl, ?_, by rw [← h1.length]; exact q _ rfl⟩
            rcases h2 with h2 | h2
            · exact .inl ⟨zs, by rw [c.K]; exact h2, rfl⟩
            · exact .inr ⟨zs, by rw [c.K]; exact h2, rfl⟩
      · exact h.elim
  · exact h.elim
end
end Ev

/-! Exprs: each form of an expression. -/
namespace Ev
open PySem PySem.Spec PyProof.Rows L2
section
variable {T : Tb} {R R' Pr H : Hp} {μ : Mu} {st : S} {X : Cx} {σ : L2.St} {Wx : WX} {n : Nat} {N : List PySem.Str} {nms : List (PySem.Str × NameKind)} {fa : Nat → Option Addr} {cl : Cl}
variable {a b c : Expr} {pos : Pos} {A B D : Sm}
/-! ### truth -/
theorem tru_at (hK : X.K = T.K) (sm : Sim T R Pr μ st H) {w : W} {v : V} {k : Bool} (e : tru st w = some k) (r : RelW T R μ w v) : TruV X.K v H k := by
  cases w with
  | c x =>
    cases x with
    | non => cases e; cases r; rfl
    | bl b => cases e; cases r; rfl
    | int i => cases e; cases r; rfl
    | str y =>
      cases r
      have e : (if y.length ≤ 16777216 then some (!y.isEmpty) else none) = some k := e
      split at e
      · rename_i hl
        cases e
        refine ⟨by rw [strV_len, ← line_eq]; exact hl, ?_⟩
        rw [strV_len]
        cases y with
        | nil => rfl
        | cons _ _ => simp; omega
      · cases e
    | tup cs =>
      cases e
      obtain ⟨p, vs, rfl, h1, h2⟩ := r
      refine .inr (.inl ⟨vs, by rw [hK]; exact sqT_le h1 sm.r, ?_⟩)
      cases cs with
      | nil => cases h2; rfl
      | cons _ _ => obtain ⟨v, t, rfl, _⟩ := h2; rfl
    | lst cs =>
      cases e
      obtain ⟨p, vs, rfl, h1, h2⟩ := r
      refine .inl ⟨vs, .of (sm.r _ _ h1), ?_⟩
      cases cs with
      | nil => cases h2; rfl
      | cons _ _ => obtain ⟨v, t, rfl, _⟩ := h2; rfl
    | frz cs =>
      cases e
      obtain ⟨p, vs, rfl, h1, h2⟩ := r
      refine .inl ⟨vs, by rw [hK]; exact sqL_le h1 sm.r, ?_⟩
      cases cs with
      | nil => cases h2; rfl
      | cons _ _ => obtain ⟨v, t, rfl, _⟩ := h2; rfl
    | dct _ _ => cases e
    | ins _ _ _ => cases e
  | r j =>
    unfold tru at e
    cases q : cellAt st j with
    | none => simp only [q] at e; cases e
    | some x =>
      simp only [q] at e
      cases x with
      | lst ws =>
        cases e
        obtain ⟨p, h1, _, _, vs, h4, h5⟩ := sm.c j _ q
        obtain ⟨p', rfl, h6⟩ := r
        rw [h1] at h6; cases h6
        refine .inl ⟨vs, .of h4, ?_⟩
        cases ws with
        | nil => cases h5; rfl
        | cons _ _ => obtain ⟨v, t, rfl, _⟩ := h5; rfl
      | _ => cases e
theorem truR_post {w : W} {Q : Bool → Hp → Prop} {rel : Hp → Mu → Bool → Hp → Prop} (h : Post T Pr Wx σ rel R μ (truR w st)) : ∃ k, tru st w = some k ∧ Post T Pr Wx σ rel R μ (.ok k st) := by
  unfold truR at h
  split at h
  · rename_i k e
    exact ⟨k, e, h⟩
  · exact h.elim
/-- what a test asks of its node -/
def plainT : Expr → Bool
  | .UnaryOp .Not _ _ => false
  | .BoolOp _ _ _ => false
  | .IfExp _ _ _ _ => false
  | .Compare _ _ _ _ => false
  | _ => true
theorem isTrue_of {e : Expr} {env : PySem.Env} (h : plainT e = true) : ∀ whole, isTrue e env whole = (do let v ← whole; standAt e.pos; holding [v] (truthy v)) := by
  intro whole
  cases e with
  | UnaryOp op _ _ => cases op <;> first | rfl | cases h
  | _ => first | rfl | cases h
theorem snd_test (hK : X.K = T.K) (h : plainT a = true) (ha : PE X a (rdV T Wx A.v)) : PT X a (rdT T Wx fun env st => (A.v env st).bind truR) := by
  refine ⟨fun pins s σ H Q I hw => (pt_truth ha (isTrue_of h)).run pins s σ H Q I ?_⟩
  obtain ⟨Pr, R, μ, env, st, be, hp⟩ := hw
  refine rdV.bindV be hp fun R1 μ1 w st1 H1 v l b1 r p => ?_
  obtain ⟨k, e, p⟩ := truR_post (Q := Q) p
  exact ⟨k, tru_at hK b1.s e r, p.ok b1.s⟩

/-! ### operators -/
theorem snd_binop {op : Operator} {o : W → W → S → Res W} (ho : OpS T X Wx (binaryOp op) o) (ha : PE X a (rdV T Wx A.v)) (hb : PE X b (rdV T Wx B.v)) :
    PE X (.BinOp a op b pos) (rdV T Wx fun env st => (A.v env st).bind fun x st1 => (B.v env st1).bind fun y st2 => o x y st2) :=
  ⟨fun pins s σ H Q I h => wpAny_BinOp (snd_bin ho ha hb I h)⟩
theorem snd_cmp {op : CmpOp} {o : W → W → S → Res W} (ho : OpS T X Wx (compareOp op) o) (ha : PE X a (rdV T Wx A.v)) (hb : PE X b (rdV T Wx B.v)) (hm : behindInMarks op b = false) :
    PE X (.Compare a [op] [b] pos) (rdV T Wx fun env st => (A.v env st).bind fun x st1 => (B.v env st1).bind fun y st2 => o x y st2) :=
  ⟨fun pins s σ H Q I h => wpAny_Compare1 (snd_bin ho ha hb I h) hm⟩
/-- a result that is a truth value -/
def isBl : W → Prop
  | .c (.bl _) => True | _ => False
theorem snd_cmpT {op : CmpOp} {o : W → W → S → Res W} (ho : OpS T X Wx (compareOp op) o) (hbl : ∀ x y st w st', o x y st = .ok w st' → isBl w) (ha : PE X a (rdV T Wx A.v)) (hb : PE X b (rdV T Wx B.v)) (hm : behindInMarks op b = false) :
    PT X (.Compare a [op] [b] pos) (rdT T Wx fun env st => ((A.v env st).bind fun x st1 => (B.v env st1).bind fun y st2 => o x y st2).bind truR) := by
  refine ⟨fun pins s σ H Q I h => ?_⟩
  have h' : rdV T Wx (fun env st => (A.v env st).bind fun x st1 => (B.v env st1).bind fun y st2 => o x y st2) σ H (fun v H' => ∃ k, v = .bl k ∧ Q k H') := by
    obtain ⟨Pr, R, μ, env, st, be, hp⟩ := h
    refine ⟨Pr, R, μ, env, st, be, ?_⟩
    dsimp only at hp ⊢
    generalize hr : ((A.v env st).bind fun x st1 => (B.v env st1).bind fun y st2 => o x y st2) = r at hp ⊢
    cases r with
    | ok w st' =>
      have hw : isBl w := by
        cases q1 : A.v env st with
        | ok x1 s1 =>
          rw [q1] at hr
          simp only [Res.bind] at hr
          cases q2 : B.v env s1 with
          | ok x2 s2 =>
            rw [q2] at hr
            exact hbl _ _ _ _ _ hr
          | ex _ _ _ => rw [q2] at hr; cases hr
          | stuck => rw [q2] at hr; cases hr
        | ex _ _ _ => rw [q1] at hr; cases hr
        | stuck => rw [q1] at hr; cases hr
      cases w with
      | c x =>
        cases x with
        | bl k =>
          exact fun R' μ' H' l s v rv => ⟨k, rv, hp R' μ' H' l s⟩
        | _ => exact hw.elim
      | r j => exact hw.elim
    | ex c x st' => exact hp
    | stuck => exact hp
  refine wpAny_isTrue_Compare1 (thn (snd_bin ho ha hb I h') fun v s1 h1 => thn h1 fun u s2 h2 => thn h2 fun cc s3 ⟨x, H1, I1, r1, k, e, q⟩ => ?_) hm
  subst e
  cases r1
  exact wpAny_truthy_bool ⟨H1, I1, q⟩
theorem snd_neg (ha : PE X a (rdV T Wx A.v)) : PE X (.UnaryOp .USub a pos) (rdV T Wx fun env st => (A.v env st).bind fun x st1 => match x with | .c (.int i) => okc (.int (-i)) st1 | _ => .stuck) := by
  refine ⟨fun pins s σ H Q I h => (pe_un un_neg ha).run pins s σ H Q I ?_⟩
  obtain ⟨Pr, R, μ, env, st, be, hp⟩ := h
  refine rdV.bindV be hp fun R1 μ1 w st1 H1 v l b1 r p => ?_
  split at p
  · cases r
    exact ⟨_, rfl, p.okc b1.s rfl⟩
  · exact p.elim
theorem snd_not (hK : X.K = T.K) (ha : PE X a (rdV T Wx A.v)) : PE X (.UnaryOp .Not a pos) (rdV T Wx fun env st => (A.v env st).bind fun x st1 => (truR x st1).bind fun b st2 => okc (.bl (!b)) st2) := by
  refine ⟨fun pins s σ H Q I h => (pe_notT ha).run pins s σ H Q I ?_⟩
  obtain ⟨Pr, R, μ, env, st, be, hp⟩ := h
  refine rdV.bindV be hp fun R1 μ1 w st1 H1 v l b1 r p => ?_
  unfold truR at p
  split at p
  · rename_i k e
    exact ⟨k, tru_at hK b1.s e r, Post.okc b1.s p rfl⟩
  · exact p.elim
theorem snd_notT (ha : PT X a (rdT T Wx A.t)) : PT X (.UnaryOp .Not a pos) (rdT T Wx fun env st => (A.t env st).bind fun b st1 => .ok (!b) st1) := by
  refine ⟨fun pins s σ H Q I h => (pt_not ha).run pins s σ H Q I ?_⟩
  obtain ⟨Pr, R, μ, env, st, be, hp⟩ := h
  exact rdT.bindT be hp fun R1 μ1 w st1 H1 l b1 p => p.ok b1.s
theorem snd_and {r : List Expr} (hK : X.K = T.K) (ha : PE X a (rdV T Wx A.v)) (hb : PE X (.BoolOp .And (b :: r) pos) (rdV T Wx B.v)) :
    PE X (.BoolOp .And (a :: b :: r) pos) (rdV T Wx fun env st => (A.v env st).bind fun x st1 => (truR x st1).bind fun t st2 => match t with | true => B.v env st2 | false => .ok x st2) := by
  refine ⟨fun pins s σ H Q I h => (pe_andT ha hb).run pins s σ H Q I ?_⟩
  obtain ⟨Pr, R, μ, env, st, be, hp⟩ := h
  refine rdV.bindV be hp fun R1 μ1 w st1 H1 v l b1 r p => ?_
  unfold truR at p
  split at p
  · rename_i k e
    refine ⟨k, tru_at hK b1.s e r, ?_⟩
    cases k with
    | true => exact ⟨Pr, R1, μ1, env, st1, b1, p⟩
    | false => exact Post.ok b1.s p v r
  · exact p.elim
theorem snd_or {r : List Expr} (hK : X.K = T.K) (ha : PE X a (rdV T Wx A.v)) (hb : PE X (.BoolOp .Or (b :: r) pos) (rdV T Wx B.v)) :
    PE X (.BoolOp .Or (a :: b :: r) pos) (rdV T Wx fun env st => (A.v env st).bind fun x st1 => (truR x st1).bind fun t st2 => match t with | true => .ok x st2 | false => B.v env st2) := by
  refine ⟨fun pins s σ H Q I h => (pe_orT ha hb).run pins s σ H Q I ?_⟩
  obtain ⟨Pr, R, μ, env, st, be, hp⟩ := h
  refine rdV.bindV be hp fun R1 μ1 w st1 H1 v l b1 r p => ?_
  unfold truR at p
  split at p
  · rename_i k e
    refine ⟨k, tru_at hK b1.s e r, ?_⟩
    cases k with
    | false => exact ⟨Pr, R1, μ1, env, st1, b1, p⟩
    | true => exact Post.ok b1.s p v r
  · exact p.elim
theorem snd_andT {r : List Expr} (ha : PT X a (rdT T Wx A.t)) (hb : PW X (.BoolOp .And (b :: r) pos) (rdT T Wx B.t)) :
    PW X (.BoolOp .And (a :: b :: r) pos) (rdT T Wx fun env st => (A.t env st).bind fun t st1 => match t with | true => B.t env st1 | false => .ok false st1) := by
  refine ⟨fun wh pins s σ H Q I h => (pw_and ha hb).run wh pins s σ H Q I ?_⟩
  obtain ⟨Pr, R, μ, env, st, be, hp⟩ := h
  refine rdT.bindT be hp fun R1 μ1 w st1 H1 l b1 p => ?_
  cases w with
  | true => exact ⟨Pr, R1, μ1, env, st1, b1, p⟩
  | false => exact p.ok b1.s
theorem snd_orT {r : List Expr} (ha : PT X a (rdT T Wx A.t)) (hb : PW X (.BoolOp .Or (b :: r) pos) (rdT T Wx B.t)) :
    PW X (.BoolOp .Or (a :: b :: r) pos) (rdT T Wx fun env st => (A.t env st).bind fun t st1 => match t with | true => .ok true st1 | false => B.t env st1) := by
  refine ⟨fun wh pins s σ H Q I h => (pw_or ha hb).run wh pins s σ H Q I ?_⟩
  obtain ⟨Pr, R, μ, env, st, be, hp⟩ := h
  refine rdT.bindT be hp fun R1 μ1 w st1 H1 l b1 p => ?_
  cases w with
  | false => exact ⟨Pr, R1, μ1, env, st1, b1, p⟩
  | true => exact p.ok b1.s
theorem snd_ite (hc : PT X c (rdT T Wx D.t)) (ha : PE X a (rdV T Wx A.v)) (hb : PE X b (rdV T Wx B.v)) :
    PE X (.IfExp c a b pos) (rdV T Wx fun env st => (D.t env st).bind fun t st1 => match t with | true => A.v env st1 | false => B.v env st1) := by
  refine ⟨fun pins s σ H Q I h => (pe_ifExp hc ha hb).run pins s σ H Q I ?_⟩
  obtain ⟨Pr, R, μ, env, st, be, hp⟩ := h
  refine rdT.bindT be hp fun R1 μ1 w st1 H1 l b1 p => ?_
  cases w with
  | true => exact ⟨Pr, R1, μ1, env, st1, b1, p⟩
  | false => exact ⟨Pr, R1, μ1, env, st1, b1, p⟩
theorem snd_iteT (hc : PT X c (rdT T Wx D.t)) (ha : PT X a (rdT T Wx A.t)) (hb : PT X b (rdT T Wx B.t)) :
    PT X (.IfExp c a b pos) (rdT T Wx fun env st => (D.t env st).bind fun t st1 => match t with | true => A.t env st1 | false => B.t env st1) := by
  refine ⟨fun pins s σ H Q I h => ?_⟩
  obtain ⟨Pr, R, μ, env, st, be, hp⟩ := h
  refine isTrue_IfExp (thn (hc.run pins s σ H (fun t H1 => ∃ R1 μ1 st1, Be T Pr R1 μ1 env st1 σ H1 ∧ Post T Pr Wx σ (RB Q) R1 μ1 (match t with | true => A.t env st1 | false => B.t env st1)) I
    (rdT.bindT be hp fun R1 μ1 w st1 H1 l b1 p => ⟨R1, μ1, st1, b1, p⟩)) fun t s1 ⟨H1, I1, R1, μ1, st1, b1, p⟩ => ?_)
  cases t with
  | true => exact ha.run pins s1 σ H1 Q I1 ⟨Pr, R1, μ1, env, st1, b1, p⟩
  | false => exact hb.run pins s1 σ H1 Q I1 ⟨Pr, R1, μ1, env, st1, b1, p⟩

/-! ### arguments -/
def notStar : Expr → Bool
  | .Starred _ _ => false
  | _ => true
theorem star_of {e : Expr} {es : List Expr} {env : PySem.Env} (h : notStar e = true) : starEach (e :: es) env = (false, eval e env) :: starEach es env := by
  cases e <;> first | rfl | cases h
theorem star_any_of {env : PySem.Env} (pos : Pos) : ∀ {es : List Expr}, es.all notStar = true → (backTo pos (starEach es env)).any (·.1) = false
  | [], _ => rfl
  | e :: es, h => by
    simp only [List.all_cons, Bool.and_eq_true] at h
    rw [star_of h.1]
    have := star_any_of (env := env) pos h.2
    unfold backTo at this ⊢
    simp only [List.map_cons, List.any_cons, Bool.false_or]
    exact this
theorem snd_nil : PA X [] (rdL T Wx fun _ st => .ok [] st) := by
  refine ⟨fun pos pins s σ H Q I h => pa_nil.run pos pins s σ H Q I ?_⟩
  obtain ⟨Pr, R, μ, env, st, be, hp⟩ := h
  exact hp.ok be.s [] rfl
theorem snd_cons {es : List Expr} (hs : notStar a = true) (ha : PE X a (rdV T Wx A.v)) (hb : PA X es (rdL T Wx B.l)) :
    PA X (a :: es) (rdL T Wx fun env st => (A.v env st).bind fun x st1 => (B.l env st1).bind fun ws st2 => .ok (x :: ws) st2) := by
  refine ⟨fun pos pins s σ H Q I h => (pa_cons ha hb (star_of hs)).run pos pins s σ H Q I ?_⟩
  obtain ⟨Pr, R, μ, env, st, be, hp⟩ := h
  refine rdV.bindV be hp fun R1 μ1 w st1 H1 v l b1 r p => ?_
  refine rdL.bindL b1 p fun R2 μ2 ws st2 H2 vs l2 b2 r2 p2 => ?_
  exact p2.ok b2.s (v :: vs) ⟨v, vs, rfl, RelW.le l2 r, r2⟩
end
end Ev

/-! Make: displays, subscripts, fields, calls, methods, new instances, isinstance. -/
namespace Ev
open PySem PySem.Spec PyProof.Rows L2
section
variable {T : Tb} {R R' Pr H : Hp} {μ : Mu} {st : S} {X : Cx} {σ : L2.St} {Wx : WX} {n : Nat} {N : List PySem.Str} {nms : List (PySem.Str × NameKind)} {fa : Nat → Option Addr} {cl : Cl}
variable {a b c : Expr} {es : List Expr} {pos : Pos} {A B D : Sm}
/-! ### displays -/
theorem AP_len {xs : List V} {Q : List V → Hp → Prop} : True := trivial
theorem snd_tup {k : Nat} (ha : PA X es (rdL T Wx A.l)) (hl : ∀ env st ws st', A.l env st = .ok ws st' → ws.length ≤ 16777216) :
    PE X (.Tuple es k pos) (rdV T Wx fun env st => (A.l env st).bind fun ws st1 => match clo ws with | some cs => okc (.tup cs) st1 | none => .stuck) := by
  refine ⟨fun pins s σ H Q I h => (pe_tup ha).run pins s σ H Q I ?_⟩
  obtain ⟨Pr, R, μ, env, st, be, hp⟩ := h
  refine ⟨Pr, R, μ, env, st, be, ?_⟩
  dsimp only at hp
  cases q : A.l env st with
  | ok ws st1 =>
    rw [q] at hp
    have lw := hl env st ws st1 q
    intro R1 μ1 H1 l s1 vs rv
    have hp := hp.le l
    simp only [Res.bind] at hp
    split at hp
    · rename_i cs e
      refine ⟨by rw [← rv.length, ← line_eq]; exact lw, fun p hn => ?_⟩
      exact hp.fresh s1 hn ⟨p, vs, rfl, .inl (.inl upd_same), (rv.clo e).upd' s1 hn⟩
    · exact hp.elim
  | ex c x st1 => rw [q] at hp; exact hp
  | stuck => rw [q] at hp; exact hp
/-- a new list comes -/
def RF (T : Tb) (Q : VK) : Hp → Mu → List W → Hp → Prop := fun R μ ws H => ∀ vs p, RelWs T R μ ws vs → H p = none → Q (.ref p) (upd H p (.lst vs))
def rdF (T : Tb) (Wx : WX) (f : Env → S → Res (List W)) : TE := fun σ H Q => ∃ Pr R μ env st, Be T Pr R μ env st σ H ∧ Post T Pr Wx σ (RF T Q) R μ (f env st)
theorem pe_mono {e : Expr} {t u : TE} (h : PE X e t) (i : ∀ σ H Q, u σ H Q → t σ H Q) : PE X e u := ⟨fun pins s σ H Q I q => h.run pins s σ H Q I (i σ H Q q)⟩
theorem snd_lst (ha : PA X es (rdL T Wx A.l)) (hl : ∀ env st ws st', A.l env st = .ok ws st' → ws.length ≤ 16777216) : PE X (.List es pos) (rdF T Wx A.l) := by
  refine pe_mono (pe_lst ha) fun σ H Q h => ?_
  obtain ⟨Pr, R, μ, env, st, be, hp⟩ := h
  refine ⟨Pr, R, μ, env, st, be, ?_⟩
  cases q : A.l env st with
  | ok ws st1 =>
    rw [q] at hp
    have lw := hl env st ws st1 q
    intro R1 μ1 H1 l s1 vs rv
    exact ⟨by rw [← rv.length, ← line_eq]; exact lw, fun p hn => hp R1 μ1 H1 l s1 vs p rv hn⟩
  | ex c x st1 => rw [q] at hp; exact hp
  | stuck => rw [q] at hp; exact hp
/-- closed at once -/
theorem close_rd {l : Env → S → Res (List W)} {σ : L2.St} {H : Hp} {Q : VK} (h : rdV T Wx (Sm.ofL l).v σ H Q) : rdF T Wx l σ H Q := by
  obtain ⟨Pr, R, μ, env, st, be, hp⟩ := h
  refine ⟨Pr, R, μ, env, st, be, hp.bind' fun R1 μ1 ws st1 H1 l s1 p vs x rv hn => ?_⟩
  split at p
  · rename_i cs e
    exact p.fresh s1 hn ⟨x, vs, rfl, upd_same, (rv.clo e).upd' s1 hn⟩
  · exact p.elim
theorem snd_close (ha : PE X a (rdF T Wx A.l)) : PE X a (rdV T Wx (Sm.ofL A.l).v) := pe_mono ha fun σ H Q h => close_rd h
theorem snd_closeT (hp : plainT a = true) (ha : PE X a (rdF T Wx A.l)) (hK : X.K = T.K) : PT X a (rdT T Wx (Sm.ofL A.l).t) := by
  refine ⟨fun pins s σ H Q I h => (pt_truth ha (isTrue_of hp)).run pins s σ H Q I ?_⟩
  obtain ⟨Pr, R, μ, env, st, be, hp⟩ := h
  refine ⟨Pr, R, μ, env, st, be, hp.bind' fun R1 μ1 ws st1 H1 l s1 p vs x rv hn => ?_⟩
  have s2 := s1.ext (upd_ext (o := .lst vs) hn)
  have q := Post.ok s2 p
  refine ⟨!ws.isEmpty, .inl ⟨vs, .of upd_same, ?_⟩, q⟩
  cases ws with
  | nil => cases rv; rfl
  | cons _ _ => obtain ⟨v, t, rfl, _⟩ := rv; rfl
/-- kept as a cell -/
def mutR (l : Env → S → Res (List W)) : Env → S → Res W := fun env st => (l env st).bind fun ws st1 => .ok (.r st1.length) (st1 ++ [some (.lst ws)])
theorem mut_rd {l : Env → S → Res (List W)} {σ : L2.St} {H : Hp} {Q : VK} (h : rdV T Wx (mutR l) σ H Q) : rdF T Wx l σ H Q := by
  obtain ⟨Pr, R, μ, env, st, be, hp⟩ := h
  refine ⟨Pr, R, μ, env, st, be, hp.bind' fun R1 μ1 ws st1 H1 l s1 p vs x rv hn => ?_⟩
  obtain ⟨s2, l2⟩ := s1.alloc (x := .lst ws) hn (upd_ext (o := .lst vs) hn) ⟨vs, upd_same, rv⟩ fun m hm => by
    obtain ⟨a, ha⟩ := rv.refs m hm
    exact s1.dom m a ha
  exact p R1 _ _ l2 s2 (.ref x) ⟨x, rfl, if_pos rfl⟩
theorem snd_mut (ha : PE X a (rdF T Wx A.l)) : PE X a (rdV T Wx (mutR A.l)) := pe_mono ha fun σ H Q h => mut_rd h

theorem ops_madd : OpS T X Wx (binaryOp .Add) maddOp := by
  intro pins s σ H x y v u Q Pr R μ st a b I rx ry sm ra rb h
  unfold maddOp at h
  split at h
  · rename_i xs0 ys0 e1 e2
    obtain ⟨p, xs, rfl, h1, h2⟩ := lstOf_rel sm e1 ra
    obtain ⟨q, ys, rfl, k1, k2⟩ := lstOf_rel sm e2 rb
    split at h
    · rename_i hl
      refine op_cat pins s σ H _ _ v u Q I rx ry ⟨p, q, xs, ys, rfl, rfl, h1, k1, by rw [← h2.length, ← k2.length, ← line_eq]; exact hl, fun z hz => ?_⟩
      have rv : RelWs T R μ (xs0 ++ ys0) (xs ++ ys) := h2.append k2
      obtain ⟨s2, l2⟩ := sm.alloc (x := .lst (xs0 ++ ys0)) hz (upd_ext (o := .lst (xs ++ ys)) hz) ⟨_, upd_same, rv⟩ fun m hm => by
        obtain ⟨a, ha⟩ := rv.refs m hm
        exact sm.dom m a ha
      exact h R _ _ l2 s2 (.ref z) ⟨z, rfl, if_pos rfl⟩
    · exact h.elim
  · exact h.elim
/-! ### subscripts, slices, fields -/
theorem snd_ix {o : W → W → S → Res W} (ho : IxS T X Wx o) (ha : PE X a (rdV T Wx A.v)) (hb : PE X b (rdV T Wx B.v)) (hi : ixOk b = true) :
    PE X (.Subscript a b pos) (rdV T Wx fun env st => (A.v env st).bind fun x st1 => (B.v env st1).bind fun y st2 => o x y st2) := by
  refine ⟨fun pins s σ H Q I h => ?_⟩
  obtain ⟨Pr, R, μ, env, st, be, h⟩ := h
  refine Subscript_ (thn (ha.run pins s σ H (fun v H1 => ∃ R1 μ1 w st1, Le R μ R1 μ1 ∧ Be T Pr R1 μ1 env st1 σ H1 ∧ RelW T R1 μ1 w v ∧ Post T Pr Wx σ (RV T Q) R1 μ1 ((B.v env st1).bind fun y st2 => o w y st2)) I
    (rdV.bindV be h fun R1 μ1 w st1 H1 v l b1 r p => ⟨R1, μ1, w, st1, l, b1, r, p⟩)) fun v s1 ⟨x, H1, I1, r1, R1, μ1, w, st1, l, b1, rw1, p1⟩ => ?_)
  refine thn (hb.run pins s1 σ H1 (fun u H2 => ∃ R2 μ2 w2 st2, Le R1 μ1 R2 μ2 ∧ Be T Pr R2 μ2 env st2 σ H2 ∧ RelW T R2 μ2 w2 u ∧ Post T Pr Wx σ (RV T Q) R2 μ2 (o w w2 st2)) I1
    (rdV.bindV b1 p1 fun R2 μ2 w2 st2 H2 u l b2 r p => ⟨R2, μ2, w2, st2, l, b2, r, p⟩)) fun u s2 ⟨y, H2, I2, r2, R2, μ2, w2, st2, l2, b2, rw2, p2⟩ => ?_
  exact ho a b pins s2 σ H2 x y v u Q Pr R2 μ2 st2 w w2 hi I2 r1 r2 b2.s (RelW.le l2 rw1) rw2 p2
/-- a slice's part: left out (then f gives no value), or an expression -/
def PartS (T : Tb) (X : Cx) (Wx : WX) (e : Option Expr) (f : Env → S → Res (List W)) : Prop :=
  ∃ t, PO X e t ∧ ∀ σ H (Q : Option Int → Hp → Prop), (∃ Pr R μ env st, Be T Pr R μ env st σ H ∧ Post T Pr Wx σ (fun _ _ i H' => Q i H') R μ ((f env st).bind partR)) → t σ H Q
theorem part_none : PartS T X Wx none (fun _ st => .ok [] st) := by
  refine ⟨_, po_none, fun σ H Q ⟨Pr, R, μ, env, st, be, h⟩ => ?_⟩
  exact h R μ H (Le.refl _ _) be.s
theorem part_some (ha : PE X a (rdV T Wx A.v)) : PartS T X Wx (some a) (fun env st => (A.v env st).bind fun x st1 => (Res.ok [] st1 : Res (List W)).bind fun ws st2 => .ok (x :: ws) st2) := by
  refine ⟨_, po_some ha, fun σ H Q ⟨Pr, R, μ, env, st, be, h⟩ => ⟨Pr, R, μ, env, st, be, ?_⟩⟩
  dsimp only at h
  cases q : A.v env st with
  | ok w st1 =>
    rw [q] at h
    intro R1 μ1 H1 l s1 v rv
    have h : Post T Pr Wx σ (fun _ _ i H' => Q i H') R μ (partR [w] st1) := h
    unfold partR at h
    split at h
    · rename_i i e
      have q' := h R1 μ1 H1 l s1
      cases w with
      | c x =>
        cases x with
        | int k => cases e; exact ⟨k, rv, q'⟩
        | _ => cases e
      | r j => cases e
    · exact h.elim
  | ex c x st1 => rw [q] at h; exact h
  | stuck => rw [q] at h; exact h
theorem snd_sl {lo hi : Option Expr} {p2 : Pos} {g h' : Env → S → Res (List W)} (hK : X.K = T.K) (ha : PE X a (rdV T Wx A.v)) (hl : PartS T X Wx lo g) (hh : PartS T X Wx hi h') :
    PE X (.Subscript a (.Slice lo hi none p2) pos) (rdV T Wx fun env st => (A.v env st).bind fun x st1 => (g env st1).bind fun y st2 => (partR y st2).bind fun l st3 => (h' env st3).bind fun z st4 => (partR z st4).bind fun h st5 => slice x l h st5) := by
  obtain ⟨tl, hl, il⟩ := hl
  obtain ⟨th, hh, ih⟩ := hh
  refine pe_mono (pe_slice (sl_list.or sl_tupA) ha hl hh) fun σ H Q h => ?_
  obtain ⟨Pr, R, μ, env, st, be, hp⟩ := h
  refine rdV.bindV be hp fun R1 μ1 w st1 H1 v l1 b1 r p => ?_
  have as : ∀ {α : Type} (m : Res (List W)) (k : Option Int → S → Res α), (m.bind fun y st2 => (partR y st2).bind k) = (m.bind partR).bind k := fun m k => by cases m <;> rfl
  rw [as] at p
  refine il σ H1 _ ⟨Pr, R1, μ1, env, st1, b1, p.bind' fun R2 μ2 l st2 H2 l2 s2 p2 => ?_⟩
  rw [as] at p2
  have b2 := b1.le l2 s2
  refine ih σ H2 _ ⟨Pr, R2, μ2, env, st2, b2, p2.bind' fun R3 μ3 h st3 H3 l3 s3 p3 => ?_⟩
  have r3 := RelW.le (l2.trans l3) r
  unfold slice at p3
  split at p3
  · obtain ⟨p, vs, rfl, h1, h2⟩ := r3
    refine .inr ⟨p, vs, rfl, by rw [hK]; exact sqT_le h1 s3.r, fun e => ?_, fun e p' hn => ?_⟩
    · refine p3.okc s3 ?_
      have : ∀ cs : List C, cs.length = vs.length → cutL cs l h = cs := fun cs el => by
        unfold cutL
        rw [el, e.1, e.2, List.drop_zero, Nat.sub_zero, ← el, List.take_length]
      rw [this _ h2.length]
      exact ⟨p, vs, rfl, h1, h2⟩
    · exact p3.fresh s3 hn ⟨p', _, rfl, .inl (.inl upd_same), (h2.cut l h).upd' s3 hn⟩
  · obtain ⟨p, vs, rfl, h1, h2⟩ := r3
    refine .inl ⟨p, vs, rfl, .of (s3.r _ _ h1), fun p' hn => ?_⟩
    exact p3.fresh s3 hn ⟨p', _, rfl, upd_same, (h2.cut l h).upd' s3 hn⟩
  · obtain ⟨p, vs, rfl, h1, h2⟩ := r3
    refine .inl ⟨p, vs, rfl, by rw [hK]; exact sqL_le h1 s3.r, fun p' hn => ?_⟩
    exact p3.fresh s3 hn ⟨p', _, rfl, upd_same, (h2.cut l h).upd' s3 hn⟩
  · split at p3
    · rename_i ws q
      split at p3
      · rename_i cs e
        obtain ⟨p, h1, _, _, vs, h4, h5⟩ := s3.c _ _ q
        obtain ⟨p'', rfl, h6⟩ := r3
        rw [h1] at h6; cases h6
        refine .inl ⟨p, vs, rfl, .of h4, fun p' hn => ?_⟩
        exact p3.fresh s3 hn ⟨p', _, rfl, upd_same, ((h5.cut l h).clo e).upd' s3 hn⟩
      · exact p3.elim
    · exact p3.elim
  · exact p3.elim
def baseOk : Expr → Bool
  | .Call (.Name x _) [] [] _ => x != ("super" : PySem.Str)
  | _ => true
theorem base_of {o : Expr} {f : PySem.Str} {env : PySem.Env} {w : PySem.Sem Value} (h : baseOk o = true) : attributeBase o f env w = w := by
  unfold attributeBase
  split
  · rename_i x p pos
    have h : (x != ("super" : PySem.Str)) = true := h
    rw [if_pos (by rw [h]; rfl)]
  · rfl
theorem snd_attr (F : Fns T fa n cl) (O : TOk T fa) (c : Ctx T n N nms Wx X) {f : Nat} (ha : PE X a (rdV T Wx A.v)) (hb : baseOk a = true) :
    PE X (.Attribute a (T.nm f) pos) (rdV T Wx fun env st => (A.v env st).bind fun x st1 => attr T.g cl x f st1) := by
  refine ⟨fun pins s σ H Q I h => ?_⟩
  obtain ⟨Pr, R, μ, env, st, be, h⟩ := h
  refine attr_of (base_of hb) (thn (ha.run pins s σ H (fun v H1 => ∃ R1 μ1 w st1, Be T Pr R1 μ1 env st1 σ H1 ∧ RelW T R1 μ1 w v ∧ Post T Pr Wx σ (RV T Q) R1 μ1 (attr T.g cl w f st1)) I
    (rdV.bindV be h fun R1 μ1 w st1 H1 v l b1 r p => ⟨R1, μ1, w, st1, b1, r, p⟩)) fun v s1 ⟨x, H1, I1, r1, R1, μ1, w, st1, b1, rw1, p1⟩ => ?_)
  exact attrs F O c I1 r1 b1.s rw1 p1
end
end Ev

/-! Mth: calls of defs, methods, classes, built-ins. -/
namespace Ev
open PySem PySem.Spec PyProof.Rows L2
section
variable {T : Tb} {R R' Pr H : Hp} {μ : Mu} {st : S} {X : Cx} {σ : L2.St} {Wx : WX} {n : Nat} {N : List PySem.Str} {nms : List (PySem.Str × NameKind)} {fa : Nat → Option Addr} {cl : Cl}
variable {a b c : Expr} {es : List Expr} {pos p apos : Pos} {A B D : Sm}
/-- the arguments, then the rest by the values -/
theorem args_run (ha : PA X es (rdL T Wx A.l)) {pins : List (Addr × Obj)} {s : Shared} {env : Env} {α : Type} {rel : Hp → Mu → α → Hp → Prop} {k : List W → S → Res α} {Qf : List Value → Shared → Prop} (pos : Pos) (I : Inv X pins σ H s)
    (be : Be T Pr R μ env st σ H) (h : Post T Pr Wx σ rel R μ ((A.l env st).bind k))
    (hq : ∀ us s1 vs H1 R1 μ1 ws st1, Inv X pins σ H1 s1 → Vals vs us → Le R μ R1 μ1 → Be T Pr R1 μ1 env st1 σ H1 → RelWs T R1 μ1 ws vs → Post T Pr Wx σ rel R1 μ1 (k ws st1) → Qf us s1) :
    wpAny (model X.prog X.w) X.A (spliced (backTo pos (starEach es X.env))) Qf X.xe s := by
  refine thn (ha.run pos pins s σ H (fun vs H1 => ∃ R1 μ1 ws st1, Le R μ R1 μ1 ∧ Be T Pr R1 μ1 env st1 σ H1 ∧ RelWs T R1 μ1 ws vs ∧ Post T Pr Wx σ rel R1 μ1 (k ws st1)) I
    (rdL.bindL be h fun R1 μ1 ws st1 H1 vs l b1 r p => ⟨R1, μ1, ws, st1, l, b1, r, p⟩)) fun us s1 ⟨vs, H1, I1, r1, R1, μ1, ws, st1, l, b1, rw1, p1⟩ => ?_
  exact hq us s1 vs H1 R1 μ1 ws st1 I1 r1 l b1 rw1 p1
/-- f(..), f a def of the module -/
theorem snd_call (F : Fns T fa n cl) (O : TOk T fa) (c : Ctx T n N nms Wx X) {f : Nat} {ad : Addr} {x : PySem.Str} (hfa : fa f = some ad) (hx : glB nms x = true) (hm : T.mg x = some (.ref ad)) (hs : (a :: es).all notStar = true) (ha : PA X (a :: es) (rdL T Wx A.l)) :
    PE X (.Call (.Name x p) (a :: es) [] pos) (rdV T Wx fun env st => (A.l env st).bind fun ws st1 => cl f ws st1) := by
  refine ⟨fun pins s σ H Q I h => ?_⟩
  obtain ⟨Pr, R, μ, env, st, be, h⟩ := h
  obtain ⟨hg, hd, _⟩ := c.gl hx
  have hk := (O.fn f ad hfa).1
  rw [← c.K] at hk
  refine wpAny_Call_Name_kw (ld_glob I hg (by rw [c.mg]; exact hm) ?_ hd)
  simp only [List.all_cons, Bool.and_eq_true] at hs
  exact PySem.W.callWith_K (h₀ := X.base) I.ok.mod.kin hk (args_run ha pos I be h fun us s1 vs H1 R1 μ1 ws st1 I1 r1 l b1 rw1 p1 => ⟨I1.kIn, run_at F c hfa (c.room.mono (by omega)) c.gu rfl I1 r1 b1.s rw1 p1⟩) (star_of hs.1) (star_any_of pos hs.2)
theorem snd_call0 (F : Fns T fa n cl) (O : TOk T fa) (c : Ctx T n N nms Wx X) {f : Nat} {ad : Addr} {x : PySem.Str} (hfa : fa f = some ad) (hx : glB nms x = true) (hm : T.mg x = some (.ref ad)) :
    PE X (.Call (.Name x p) [] [] pos) (rdV T Wx fun env st => cl f [] st) := by
  refine ⟨fun pins s σ H Q I h => ?_⟩
  obtain ⟨Pr, R, μ, env, st, be, h⟩ := h
  obtain ⟨hg, hd, _⟩ := c.gl hx
  have hk := (O.fn f ad hfa).1
  rw [← c.K] at hk
  refine wpAny_Call_Name_kw (ld_glob I hg (by rw [c.mg]; exact hm) ?_ hd)
  exact PySem.W.callWith_K0 I.kIn hk (run_at (ws := []) F c hfa (c.room.mono (by omega)) c.gu rfl I (vs := []) (us := []) .nil be.s rfl h)
/-- o.m(..), m a method of the class -/
theorem meth_eq {m : PySem.Str} {env : PySem.Env} (hb : baseOk a = true) (hs : es.all notStar = true) (hl : es.length < 30) (hline : (apos.endLine == pos.line) = true) : eval (.Call (.Attribute a m apos) es [] pos) env = (do
      let ov ← eval a env
      standAt apos.atName
      let (f, first) ← holding [ov] (getMethod ov m (plainOf a env))
      callWith pos f first (backTo pos (starEach es env)) (backToKw pos (keywordEach [] env))) := by
  have h1 : ∀ l : List Expr, l.all notStar = true → (backTo pos (starEach l env)).all (fun x => !x.1) = true := fun l => by
    induction l with
    | nil => intro _; rfl
    | cons e es ih =>
      intro h
      simp only [List.all_cons, Bool.and_eq_true] at h
      rw [star_of h.1]
      have := ih h.2
      unfold backTo at this ⊢
      simp only [List.map_cons, List.all_cons, Bool.not_false, Bool.true_and]
      exact this
  have hf : methodCallForm (es.length + ([] : List Keyword).length) (backTo pos (starEach es env)) (backToKw pos (keywordEach [] env)) = true := by
    unfold methodCallForm
    rw [h1 es hs]
    simp [keywordEach, backToKw, hl]
  rw [arm_eval_Call, base_of hb]
  congr 1
  funext ov
  congr 1
  funext _
  exact mcall_line hf hline
theorem meth_at (O : TOk T fa) (c : Ctx T n N nms Wx X) (sm : Sim T R Pr μ st H) {w : W} {x : V} {m f : Nat} (hf : methOf T.g st w m = some f) (rw1 : RelW T R μ w x) :
    ∃ ad q C dx fs, fa f = some ad ∧ x = .ref q ∧ H q = some (.ins C dx fs) ∧ fs.lookup (T.nm m) = none ∧ Cls X.K C ∧ L2.Meth X.K C (T.nm m) ad := by
  unfold methOf at hf
  split at hf
  · rename_i k hk hn
    obtain ⟨kn, ad, hfa, hat⟩ := O.meth k m f hf
    obtain ⟨hkp, hfn, _⟩ := O.fn f ad hfa
    obtain ⟨q, dx, fs, rfl, hp⟩ := cls_at sm hk rw1
    have hfs : fs.lookup (T.nm m) = none := by
      cases w with
      | c y =>
        cases y with
        | ins c' fs' vs' =>
          obtain ⟨a', dx', ws', e1, e2, e3, e4, e5⟩ := rw1
          cases e1
          have e7 := Option.some.inj (hp.symm.trans (sm.r _ _ e2))
          injection e7 with _ _ e8
          rw [e8]
          have hn : ((fs'.zip vs').lookup m).map W.c = none := hn
          rw [← zip_mapc] at hn
          exact zipF_none (μ := μ) O.inj m (RelWs.ofC e5) hn
        | _ => cases hk
      | r j =>
        unfold fldOf at hn
        unfold clsOf at hk
        cases q0 : cellAt st j with
        | none => simp only [q0] at hk; cases hk
        | some y =>
          simp only [q0] at hk hn
          cases y with
          | ins c' fs' vs' =>
            obtain ⟨a', h1, _, _, dx', vs'', h4, h5, h6, h7⟩ := sm.c j _ q0
            obtain ⟨a'', e1, h8⟩ := rw1
            cases e1
            rw [h1] at h8; cases h8
            have e7 := Option.some.inj (hp.symm.trans h4)
            injection e7 with _ _ e8
            rw [e8]
            exact zipF_none O.inj m h7 hn
          | lst _ => cases hk
          | dct _ _ => cases hk
    exact ⟨ad, q, _, dx, fs, hfa, rfl, hp, hfs, by rw [c.K]; exact (O.cls k kn).cl, by rw [c.K]; exact hat, by rw [c.K]; exact hfn, by rw [c.K]; exact hkp⟩
  · cases hf
theorem snd_meth (F : Fns T fa n cl) (O : TOk T fa) (c : Ctx T n N nms Wx X) {m : Nat} (ho : PE X b (rdV T Wx B.v)) (hb : baseOk b = true) (hline : (apos.endLine == pos.line) = true) (hl : (a :: es).length < 30)
    (hs : (a :: es).all notStar = true) (ha : PA X (a :: es) (rdL T Wx A.l)) :
    PE X (.Call (.Attribute b (T.nm m) apos) (a :: es) [] pos) (rdV T Wx fun env st => (B.v env st).bind fun x st1 => match methOf T.g st1 x m with
      | some f => (A.l env st1).bind fun ws st2 => cl f (x :: ws) st2
      | none => .stuck) := by
  refine ⟨fun pins s σ H Q I h => ?_⟩
  obtain ⟨Pr, R, μ, env, st, be, h⟩ := h
  refine PySem.W.methodCall_KW (pl := plainOf b X.env) (thn (ho.run pins s σ H (fun v H1 => ∃ R1 μ1 w st1, Be T Pr R1 μ1 env st1 σ H1 ∧ RelW T R1 μ1 w v ∧ Post T Pr Wx σ (RV T Q) R1 μ1 (match methOf T.g st1 w m with
      | some f => (A.l env st1).bind fun ws st2 => cl f (w :: ws) st2
      | none => .stuck)) I
    (rdV.bindV be h fun R1 μ1 w st1 H1 v l b1 r p => ⟨R1, μ1, w, st1, b1, r, p⟩)) fun u s1 ⟨x, H1, I1, rx, R1, μ1, w, st1, b1, rw1, p1⟩ => ?_) (meth_eq hb hs hl hline)
  split at p1
  · rename_i f hf
    obtain ⟨ad, q, C, dx, fs, hfa, rfl, hp, hfs, hC, hM⟩ := meth_at O c b1.s hf rw1
    cases rx
    refine getmeth_ok I1 hp hC hM hfs ?_
    simp only [List.all_cons, Bool.and_eq_true] at hs
    refine PySem.W.callWith_K (first := [.ref q]) (h₀ := X.base) I.ok.mod.kin hM.kp (args_run ha pos I1 b1 p1 fun us s2 vs H2 R2 μ2 ws st2 I2 r2 l2 b2 rw2 p2 => ⟨I2.kIn, ?_⟩) (star_of hs.1) (star_any_of pos hs.2)
    exact run_at (ws := w :: ws) F c hfa (c.room.mono (by omega)) c.gu rfl I2 (vs := .ref q :: vs) (us := .ref q :: us) (.cons rfl r2) b2.s ⟨_, vs, rfl, RelW.le l2 rw1, rw2⟩ p2
  · exact p1.elim
theorem snd_meth0 (F : Fns T fa n cl) (O : TOk T fa) (c : Ctx T n N nms Wx X) {m : Nat} (ho : PE X b (rdV T Wx B.v)) (hb : baseOk b = true) (hline : (apos.endLine == pos.line) = true) :
    PE X (.Call (.Attribute b (T.nm m) apos) [] [] pos) (rdV T Wx fun env st => (B.v env st).bind fun x st1 => match methOf T.g st1 x m with
      | some f => (Res.ok [] st1 : Res (List W)).bind fun ws st2 => cl f (x :: ws) st2
      | none => .stuck) := by
  refine ⟨fun pins s σ H Q I h => ?_⟩
  obtain ⟨Pr, R, μ, env, st, be, h⟩ := h
  refine PySem.W.methodCall_KW (pl := plainOf b X.env) (thn (ho.run pins s σ H (fun v H1 => ∃ R1 μ1 w st1, Be T Pr R1 μ1 env st1 σ H1 ∧ RelW T R1 μ1 w v ∧ Post T Pr Wx σ (RV T Q) R1 μ1 (match methOf T.g st1 w m with
      | some f => (Res.ok [] st1 : Res (List W)).bind fun ws st2 => cl f (w :: ws) st2
      | none => .stuck)) I
    (rdV.bindV be h fun R1 μ1 w st1 H1 v l b1 r p => ⟨R1, μ1, w, st1, b1, r, p⟩)) fun u s1 ⟨x, H1, I1, rx, R1, μ1, w, st1, b1, rw1, p1⟩ => ?_) (meth_eq hb rfl (by simp) hline)
  split at p1
  · rename_i f hf
    obtain ⟨ad, q, C, dx, fs, hfa, rfl, hp, hfs, hC, hM⟩ := meth_at O c b1.s hf rw1
    cases rx
    refine getmeth_ok I1 hp hC hM hfs ?_
    exact PySem.W.callWith_K0 (first := [.ref q]) I1.kIn hM.kp (run_at (ws := [w]) F c hfa (c.room.mono (by omega)) c.gu rfl I1 (vs := [.ref q]) (us := [.ref q]) (.cons rfl .nil) b1.s ⟨_, [], rfl, rw1, rfl⟩ p1)
  · exact p1.elim

/-! ### new instances -/
/-- a cell is closed for good in a state without it -/
theorem freeze_gen {m : Nat} {x : C} {ad : Addr} {μ0 : Mu} {stt : S} (sm : Sim T R Pr μ st H) (e : freeze st m = some x) (ha : μ m = some ad) (st0 : Sim T R Pr μ0 stt H)
    (nc : ∀ y, cellAt st m = some y → ∀ j z, cellAt stt j = some z → μ0 j ≠ some ad) :
    ∃ R', Sim T R' Pr μ0 stt H ∧ (∀ a o, R a = some o → R' a = some o) ∧ RelC T R' x (.ref ad) := by
  unfold freeze at e
  cases q : cellAt st m with
  | none => simp only [q] at e; cases e
  | some y =>
    simp only [q] at e
    obtain ⟨ad', h1, h2, h3, h4⟩ := sm.c m y q
    rw [ha] at h1; cases h1
    cases y with
    | lst ws =>
      cases q2 : clo ws with
      | none => simp only [q2] at e; cases e
      | some cs =>
        simp only [q2, Option.map_some, Option.some.injEq] at e
        subst e
        obtain ⟨vs, h5, h6⟩ := h4
        obtain ⟨s2, l2⟩ := st0.close h5 (nc _ q) (fun u hu => by rw [h2] at hu; cases hu) h3
        exact ⟨_, s2, l2.r, ad, vs, rfl, upd_same, RelCs.le l2.r (h6.clo q2)⟩
    | ins c fs ws =>
      cases q2 : clo ws with
      | none => simp only [q2] at e; cases e
      | some cs =>
        simp only [q2, Option.map_some, Option.some.injEq] at e
        subst e
        obtain ⟨dx, vs, h5, h6, h7, h8⟩ := h4
        obtain ⟨s2, l2⟩ := st0.close h5 (nc _ q) (fun u hu => by rw [h2] at hu; cases hu) h3
        obtain ⟨s3, l3⟩ := s2.close h6 (fun j z hz e => by
          obtain ⟨b', k1, _, _, k4⟩ := s2.c j z hz
          rw [e] at k1; cases k1
          cases z with
          | lst _ => obtain ⟨_, k5, _⟩ := k4; rw [h6] at k5; cases k5
          | ins _ _ _ => obtain ⟨_, _, k5, _⟩ := k4; rw [h6] at k5; cases k5
          | dct _ _ => obtain ⟨_, _, k5, _⟩ := k4; rw [h6] at k5; cases k5) (fun u hu => Option.some.inj ((s2.r _ _ hu).symm.trans h6)) (by
          cases hq : Pr dx with
          | none => rfl
          | some u => rcases (s2.d _ _ hq).2 with ⟨xs, z⟩ | ⟨xs, z⟩ <;> (subst z; have := s2.p _ _ hq; rw [h6] at this; cases this))
        have l := l2.trans l3
        have hc := h8.clo q2
        exact ⟨_, s3, l.r, ad, dx, vs, rfl, l3.r _ _ upd_same, upd_same, h7, RelCs.le l.r hc⟩
    | dct ks ws =>
      cases q2 : clo ws with
      | none => simp only [q2] at e; cases e
      | some cs =>
        simp only [q2, Option.map_some, Option.some.injEq] at e
        subst e
        obtain ⟨us, vs, h5, h6, h7, h8⟩ := h4
        obtain ⟨s2, l2⟩ := st0.close h5 (nc _ q) (fun u hu => by rw [h2] at hu; cases hu) h3
        exact ⟨_, s2, l2.r, ad, us, vs, rfl, upd_same, h6, RelCs.le l2.r h7, RelCs.le l2.r (h8.clo q2)⟩
/-- a cell is closed for good; the cells from k on go -/
theorem freeze_ok {k m : Nat} {x : C} {ad : Addr} (sm : Sim T R Pr μ st H) (e : freeze st m = some x) (hk : k ≤ m) (ha : μ m = some ad) :
    ∃ R', Sim T R' Pr (fun i => if i < k then μ i else none) (st.take k) H ∧ (∀ a o, R a = some o → R' a = some o) ∧ RelC T R' x (.ref ad) := by
  refine freeze_gen sm e ha (sm.take k) fun y hy j z hz e => ?_
  obtain ⟨hj, hz⟩ := cellAt_take hz
  have e : (if j < k then μ j else none) = some ad := e
  rw [if_pos hj] at e
  have := sm.inj j m z y ad hz hy e ha
  omega
theorem deeps_ok {μ0 : Mu} {stt : S} {d : Nat → Option C} (hd : ∀ m x ad R0, d m = some x → μ m = some ad → (∀ a o, R a = some o → R0 a = some o) → Sim T R0 Pr μ0 stt H → ∃ R', Sim T R' Pr μ0 stt H ∧ (∀ a o, R0 a = some o → R' a = some o) ∧ RelC T R' x (.ref ad)) :
    ∀ (ws : List W) (cs : List C) (vs : List V) (R0 : Hp), deeps d ws = some cs → RelWs T R μ ws vs → (∀ a o, R a = some o → R0 a = some o) → Sim T R0 Pr μ0 stt H → ∃ R', Sim T R' Pr μ0 stt H ∧ (∀ a o, R0 a = some o → R' a = some o) ∧ RelCs T R' cs vs
  | [], cs, vs, R0, e, h, hl, s => by cases e; cases h; exact ⟨R0, s, fun _ _ z => z, rfl⟩
  | .c x :: ws, cs, vs, R0, e, ⟨v, r, h1, h2, h3⟩, hl, s => by
    unfold deeps at e
    split at e
    · rename_i cs' e'
      cases e
      obtain ⟨R', s', l', r'⟩ := deeps_ok hd ws cs' r R0 e' h3 hl s
      exact ⟨R', s', l', v, r, h1, RelC.le (fun a o z => l' a o (hl a o z)) h2, r'⟩
    · cases e
  | .r m :: ws, cs, vs, R0, e, ⟨v, r, h1, ⟨ad, h2, h4⟩, h3⟩, hl, s => by
    unfold deeps at e
    split at e
    · rename_i x cs' e1 e2
      cases e
      obtain ⟨R1, s1, l1, r1⟩ := hd m x ad R0 e1 h4 hl s
      obtain ⟨R2, s2, l2, r2⟩ := deeps_ok hd ws cs' r R1 e2 h3 (fun a o z => l1 a o (hl a o z)) s1
      exact ⟨R2, s2, fun a o z => l2 a o (l1 a o z), v, r, h1, by rw [h2]; exact RelC.le l2 r1, r2⟩
    · cases e
theorem deep_gen {k : Nat} (sm : Sim T R Pr μ st H) : ∀ (f m : Nat) (x : C) (ad : Addr) (R0 : Hp), deep st k f m = some x → μ m = some ad → (∀ a o, R a = some o → R0 a = some o) → Sim T R0 Pr (fun i => if i < k then μ i else none) (st.take k) H →
    ∃ R', Sim T R' Pr (fun i => if i < k then μ i else none) (st.take k) H ∧ (∀ a o, R0 a = some o → R' a = some o) ∧ RelC T R' x (.ref ad)
  | 0, m, x, ad, R0, e, ha, hl, s => by cases e
  | f + 1, m, x, ad, R0, e, ha, hl, s => by
    unfold deep at e
    split at e
    · cases e
    rename_i hk
    have hd := deeps_ok (deep_gen (k := k) sm f)
    cases q : cellAt st m with
    | none => simp only [q] at e; cases e
    | some y =>
      simp only [q] at e
      obtain ⟨ad', h1, h2, h3, h4⟩ := sm.c m y q
      rw [ha] at h1; cases h1
      have nc : ∀ j z, cellAt (st.take k) j = some z → (fun i => if i < k then μ i else none) j ≠ some ad := fun j z hz e => by
        obtain ⟨hj, hz⟩ := cellAt_take hz
        have e : (if j < k then μ j else none) = some ad := e
        rw [if_pos hj] at e
        have := sm.inj j m z y ad hz q e ha
        omega
      cases y with
      | lst ws =>
        obtain ⟨cs, q2, rfl⟩ := Option.map_eq_some_iff.mp e
        obtain ⟨vs, h5, h6⟩ := h4
        obtain ⟨R1, s1, l1, r1⟩ := hd ws cs vs R0 q2 h6 hl s
        obtain ⟨s2, l2⟩ := s1.close h5 nc (fun u hu => Option.some.inj ((s1.r _ _ hu).symm.trans h5)) h3
        exact ⟨_, s2, fun a o z => l2.r a o (l1 a o z), ad, vs, rfl, upd_same, RelCs.le l2.r r1⟩
      | ins c fs ws =>
        obtain ⟨cs, q2, rfl⟩ := Option.map_eq_some_iff.mp e
        obtain ⟨dx, vs, h5, h6, h7, h8⟩ := h4
        obtain ⟨R1, s1, l1, r1⟩ := hd ws cs vs R0 q2 h8 hl s
        obtain ⟨s2, l2⟩ := s1.close h5 nc (fun u hu => Option.some.inj ((s1.r _ _ hu).symm.trans h5)) h3
        obtain ⟨s3, l3⟩ := s2.close h6 (fun j z hz e => by
          obtain ⟨b', k1, _, _, k4⟩ := s2.c j z hz
          rw [e] at k1; cases k1
          cases z with
          | lst _ => obtain ⟨_, k5, _⟩ := k4; rw [h6] at k5; cases k5
          | ins _ _ _ => obtain ⟨_, _, k5, _⟩ := k4; rw [h6] at k5; cases k5
          | dct _ _ => obtain ⟨_, _, k5, _⟩ := k4; rw [h6] at k5; cases k5) (fun u hu => Option.some.inj ((s2.r _ _ hu).symm.trans h6)) (by
          cases hq : Pr dx with
          | none => rfl
          | some u => rcases (s2.d _ _ hq).2 with ⟨xs, z⟩ | ⟨xs, z⟩ <;> (subst z; have := s2.p _ _ hq; rw [h6] at this; cases this))
        have l := l2.trans l3
        exact ⟨_, s3, fun a o z => l.r a o (l1 a o z), ad, dx, vs, rfl, l3.r _ _ upd_same, upd_same, h7, RelCs.le l.r r1⟩
      | dct ks ws =>
        obtain ⟨cs, q2, rfl⟩ := Option.map_eq_some_iff.mp e
        obtain ⟨us, vs, h5, h6, h7, h8⟩ := h4
        obtain ⟨R1, s1, l1, r1⟩ := hd ws cs vs R0 q2 h8 hl s
        obtain ⟨s2, l2⟩ := s1.close h5 nc (fun u hu => Option.some.inj ((s1.r _ _ hu).symm.trans h5)) h3
        exact ⟨_, s2, fun a o z => l2.r a o (l1 a o z), ad, us, vs, rfl, upd_same, h6, RelCs.le (fun a o z => l2.r a o (l1 a o (hl a o z))) h7, RelCs.le l2.r r1⟩
/-- .. the cells from k on go -/
theorem deep_ok {k f m : Nat} {x : C} {ad : Addr} (sm : Sim T R Pr μ st H) (e : deep st k f m = some x) (ha : μ m = some ad) :
    ∃ R', Sim T R' Pr (fun i => if i < k then μ i else none) (st.take k) H ∧ (∀ a o, R a = some o → R' a = some o) ∧ RelC T R' x (.ref ad) :=
  deep_gen sm f m x ad R e ha (fun _ _ z => z) (sm.take k)
theorem cellAt_kill {st : S} {m j : Nat} {x : Cell} (h : cellAt (st.set m none) j = some x) : j ≠ m ∧ cellAt st j = some x := by
  by_cases e : j = m
  · subst e
    unfold cellAt at h
    by_cases hj : j < st.length
    · rw [List.getElem?_set_self hj] at h; cases h
    · rw [List.getElem?_eq_none (by simpa using hj)] at h; cases h
  · refine ⟨e, ?_⟩
    unfold cellAt at h ⊢
    rwa [List.getElem?_set_ne (Ne.symm e)] at h
theorem cellAt_kill_ne {st : S} {m j : Nat} (h : j ≠ m) : cellAt (st.set m none) j = cellAt st j := by
  unfold cellAt
  rw [List.getElem?_set_ne (Ne.symm h)]
theorem Sim.kill (s : Sim T R Pr μ st H) (m : Nat) : Sim T R Pr μ (st.set m none) H where
  r := s.r
  p := s.p
  c := fun n x hc => s.c n x (cellAt_kill hc).2
  inj := fun n k x y a h1 h2 h3 h4 => s.inj n k x y a (cellAt_kill h1).2 (cellAt_kill h2).2 h3 h4
  dom := fun n a h => by rw [List.length_set]; exact s.dom n a h
  low := fun n x hc => s.low n x (cellAt_kill hc).2
  d := s.d
  t := s.t
  nt := s.nt
/-- a cell is closed for good, and goes -/
theorem kill_ok {m : Nat} {x : C} {ad : Addr} (sm : Sim T R Pr μ st H) (e : freeze st m = some x) (ha : μ m = some ad) :
    ∃ R', Sim T R' Pr μ (st.set m none) H ∧ (∀ a o, R a = some o → R' a = some o) ∧ RelC T R' x (.ref ad) := by
  refine freeze_gen sm e ha (sm.kill m) fun y hy j z hz e => ?_
  obtain ⟨hj, hz⟩ := cellAt_kill hz
  exact hj (sm.inj j m z y ad hz hy e ha)
theorem makesA_ok (c : Ctx T n N nms Wx X) {k f : Nat} {ad : Addr} {af : List Value → Args} (hF : FnG T.P T.w T.K T.mg T.base n ad af (spF T cl f)) (M : Mk T.K (T.ca k) ad) {pins : List (Addr × Obj)} {s : Shared} {vs : List V} {us ps : List Value} {kw : List (PySem.Str × Value)} {ws : List W} {Q : VK} (haf : ∀ y : Value, af (y :: us) = ⟨y :: ps, kw⟩) (I : Inv X pins σ H s) (r : Vals vs us) (sm : Sim T R Pr μ st H) (rw' : RelWs T R μ ws vs)
    (h : Post T Pr Wx σ (RV T Q) R μ (mkf T.g cl f k ws st)) : wpAny (model X.prog X.w) X.A (PySem.call (.ref (T.ca k)) ps kw) (EP X pins σ Q) X.xe s := by
    unfold mkf at h
    have I2 := Inv.made (C := T.ca k) I
    have hx : H (s.heap.objs.size + 1) = none := I.hok.fresh (Nat.le_succ _)
    have hd : H s.heap.objs.size = none := I.hok.fresh (Nat.le_refl _)
    have hne : s.heap.objs.size ≠ s.heap.objs.size + 1 := Nat.ne_of_lt (Nat.lt_succ_self _)
    obtain ⟨s2, l2⟩ := sm.alloc (x := .ins k [] []) (p := s.heap.objs.size + 1) (H' := upd (upd H s.heap.objs.size (.own (s.heap.objs.size + 1))) (s.heap.objs.size + 1) (.ins (T.ca k) s.heap.objs.size []))
      hx (fun b u e => by rw [upd_ne (ne_of_none e hx), upd_ne (ne_of_none e hd)]; exact e) ⟨s.heap.objs.size, [], upd_same, by rw [upd_ne hne, upd_same], rfl, rfl⟩ (fun m hm => by simp [Cell.ws] at hm)
    have rw2 : RelWs T R (fun i => if i = st.length then some (s.heap.objs.size + 1) else μ i) (.r st.length :: ws) (.ref (s.heap.objs.size + 1) :: vs) := ⟨_, vs, rfl, ⟨_, rfl, if_pos rfl⟩, RelWs.le l2 rw'⟩
    have h2 : Post T Pr Wx σ (RV T fun v H' => v = .non ∧ Q (.ref (s.heap.objs.size + 1)) H') R (fun i => if i = st.length then some (s.heap.objs.size + 1) else μ i) (cl f (.r st.length :: ws) (st ++ [some (.ins k [] [])])) := by
      generalize hr : cl f (.r st.length :: ws) (st ++ [some (.ins k [] [])]) = res at h ⊢
      cases res with
      | ok w st' =>
        cases w with
        | c x =>
          cases x with
          | non =>
            intro R' μ' H' l s' v rv
            refine ⟨rv, ?_⟩
            have l0 := l2.trans l
            dsimp only at h
            have hmu : μ' st.length = some (s.heap.objs.size + 1) := l.m _ _ (if_pos rfl)
            split at h
            · split at h
              · rename_i x e
                obtain ⟨R2, s3, l3, rc⟩ := freeze_ok s' e (Nat.le_refl _) hmu
                exact h R2 _ H' ⟨fun a o e => l3 a o (l0.r a o e), fun m a e => by
                  show (if m < st.length then μ' m else none) = some a
                  rw [if_pos (sm.dom m a e)]; exact l0.m m a e⟩ s3 _ rc
              · exact h.elim
            · exact h R' μ' H' l0 s' _ ⟨_, rfl, hmu⟩
          | _ => exact h.elim
        | r j => exact h.elim
      | ex c x st' =>
        intro R' μ' H' d l s' hd'
        have l0 := l2.trans l
        exact h R' _ H' d ⟨l0.r, fun m a e => by
          show (if m < st.length then μ' m else none) = some a
          rw [if_pos (sm.dom m a e)]; exact l0.m m a e⟩ (s'.take st.length) hd'
      | stuck => exact h.elim
    rw [← c.P, ← c.w, ← c.K, ← c.mg, ← c.base] at hF
    have M2 : Mk X.K (T.ca k) ad := by rw [c.K]; exact M
    have r2 : Vals (V.ref (s.heap.objs.size + 1) :: vs) (Value.ref (s.heap.objs.size + 1) :: us) := .cons rfl r
    have hF2 := hF _ X.stack _ _ (Value.ref (s.heap.objs.size + 1) :: us) _ _ (fun cls d H' => Wx cls d σ H') ((c.room.mono (j := n + 1) (by omega)).make (T.ca k) ps kw) ((make_guards _ _).trans c.gu) (I2.env0.make (T.ca k) ps kw) r2 ⟨Pr, R, _, _, _, s2, rw2, h2.wish⟩
    rw [haf] at hF2
    refine wpAny_call (make_map (f := ad) I.kIn M2.makes M2.init (beq_iff_eq.mp M2.fn) (codeAny_mono hF2 fun r s' hq => ?_))
    cases r with
    | error e => exact passAt c.takes σ pins _ _ e s' I2 hq
    | ok fl =>
      cases fl with
      | ret u =>
        obtain ⟨v, H', I3, rv, ev, q3⟩ := I2.after hq
        subst ev
        exact ⟨rv, ⟨V.ref (s.heap.objs.size + 1), H', I3, rfl, q3⟩⟩
      | next => exact False.elim hq
      | brk => exact False.elim hq
      | cont => exact False.elim hq
theorem makes_ok (F : Fns T fa n cl) (O : TOk T fa) (c : Ctx T n N nms Wx X) {k : Nat} {pins : List (Addr × Obj)} {s : Shared} {vs : List V} {us : List Value} {ws : List W} {Q : VK} (I : Inv X pins σ H s) (r : Vals vs us) (sm : Sim T R Pr μ st H) (rw' : RelWs T R μ ws vs)
    (h : Post T Pr Wx σ (RV T Q) R μ (mk T.g cl k ws st)) : wpAny (model X.prog X.w) X.A (PySem.call (.ref (T.ca k)) us) (EP X pins σ Q) X.xe s := by
  unfold mk at h
  split at h
  · rename_i f hf
    obtain ⟨kn, ad, hfa, M⟩ := O.init k f hf
    exact makesA_ok c (F.fn f ad hfa) M (fun _ => rfl) I r sm rw' h
  · exact h.elim
theorem snd_make (F : Fns T fa n cl) (O : TOk T fa) (c : Ctx T n N nms Wx X) {k : Nat} {x : PySem.Str} (hi : (T.g.init k).isSome = true) (hx : glB nms x = true) (hm : T.mg x = some (.ref (T.ca k))) (hs : (a :: es).all notStar = true) (ha : PA X (a :: es) (rdL T Wx A.l)) :
    PE X (.Call (.Name x p) (a :: es) [] pos) (rdV T Wx fun env st => (A.l env st).bind fun ws st1 => mk T.g cl k ws st1) := by
  refine ⟨fun pins s σ H Q I h => ?_⟩
  obtain ⟨Pr, R, μ, env, st, be, h⟩ := h
  obtain ⟨hg, hd, _⟩ := c.gl hx
  obtain ⟨f, hf⟩ := Option.isSome_iff_exists.mp hi
  obtain ⟨kn, ad, hfa, M⟩ := O.init k f hf
  refine wpAny_Call_Name_kw (ld_glob I hg (by rw [c.mg]; exact hm) ?_ hd)
  simp only [List.all_cons, Bool.and_eq_true] at hs
  exact PySem.W.callWith_K (h₀ := X.base) I.ok.mod.kin (by rw [c.K]; exact M.kp) (args_run ha pos I be h fun us s1 vs H1 R1 μ1 ws st1 I1 r1 l b1 rw1 p1 => ⟨I1.kIn, makes_ok F O c I1 r1 b1.s rw1 p1⟩) (star_of hs.1) (star_any_of pos hs.2)
theorem snd_make0 (F : Fns T fa n cl) (O : TOk T fa) (c : Ctx T n N nms Wx X) {k : Nat} {x : PySem.Str} (hi : (T.g.init k).isSome = true) (hx : glB nms x = true) (hm : T.mg x = some (.ref (T.ca k))) :
    PE X (.Call (.Name x p) [] [] pos) (rdV T Wx fun env st => mk T.g cl k [] st) := by
  refine ⟨fun pins s σ H Q I h => ?_⟩
  obtain ⟨Pr, R, μ, env, st, be, h⟩ := h
  obtain ⟨hg, hd, _⟩ := c.gl hx
  obtain ⟨f, hf⟩ := Option.isSome_iff_exists.mp hi
  obtain ⟨kn, ad, hfa, M⟩ := O.init k f hf
  refine wpAny_Call_Name_kw (ld_glob I hg (by rw [c.mg]; exact hm) ?_ hd)
  exact PySem.W.callWith_K0 I.kIn (by rw [c.K]; exact M.kp) (makes_ok (ws := []) F O c I (vs := []) (us := []) .nil be.s rfl h)

/-! ### built-in functions, isinstance -/
theorem snd_bi {o : List W → S → Res W} {id : String} {x : PySem.Str} (c : CtxB T N nms Wx X) (ho : CallS T X Wx (.builtin id) o) (hx : glB nms x = true) (hm : T.mg x = none) (hv : bootBuiltins x = some (.builtin id)) (hs : (a :: es).all notStar = true) (ha : PA X (a :: es) (rdL T Wx A.l)) :
    PE X (.Call (.Name x p) (a :: es) [] pos) (rdV T Wx fun env st => (A.l env st).bind fun ws st1 => o ws st1) := by
  refine ⟨fun pins s σ H Q I h => ?_⟩
  obtain ⟨Pr, R, μ, env, st, be, h⟩ := h
  obtain ⟨hg, hd, hn⟩ := c.gl hx
  refine wpAny_Call_Name_kw (ld_blt I hg (by rw [c.mg]; exact hm) hv ?_ hn hd)
  simp only [List.all_cons, Bool.and_eq_true] at hs
  exact PyProof.Rows.callWith_builtin1 (args_run ha pos I be h fun us s1 vs H1 R1 μ1 ws st1 I1 r1 l b1 rw1 p1 => ho pins s1 σ H1 vs us Q Pr R1 μ1 st1 ws I1 r1 b1.s rw1 p1) (star_of hs.1) (star_any_of pos hs.2)
theorem snd_biT {o : List W → S → Res W} {id : String} {x : PySem.Str} (c : CtxB T N nms Wx X) (ho : CallS T X Wx (.type id) o) (hx : glB nms x = true) (hm : T.mg x = none) (hv : bootBuiltins x = some (.type id)) (hs : (a :: es).all notStar = true) (ha : PA X (a :: es) (rdL T Wx A.l)) :
    PE X (.Call (.Name x p) (a :: es) [] pos) (rdV T Wx fun env st => (A.l env st).bind fun ws st1 => o ws st1) := by
  refine ⟨fun pins s σ H Q I h => ?_⟩
  obtain ⟨Pr, R, μ, env, st, be, h⟩ := h
  obtain ⟨hg, hd, hn⟩ := c.gl hx
  refine wpAny_Call_Name_kw (ld_blt I hg (by rw [c.mg]; exact hm) hv ?_ hn hd)
  simp only [List.all_cons, Bool.and_eq_true] at hs
  exact PyProof.Rows.callWith_type1 (args_run ha pos I be h fun us s1 vs H1 R1 μ1 ws st1 I1 r1 l b1 rw1 p1 => ho pins s1 σ H1 vs us Q Pr R1 μ1 st1 ws I1 r1 b1.s rw1 p1) (star_of hs.1) (star_any_of pos hs.2)
end
end Ev

/-! Kw: calls by keywords, calls with a star. -/
namespace Ev
open PySem PySem.Spec PyProof.Rows L2
section
variable {T : Tb} {R R' Pr H : Hp} {μ : Mu} {st : S} {X : Cx} {σ : L2.St} {Wx : WX} {n : Nat} {N : List PySem.Str} {nms : List (PySem.Str × NameKind)} {fa : Nat → Option Addr} {cl : Cl}
variable {a b c e : Expr} {es : List Expr} {pos p apos sp_ : Pos} {A B D : Sm} {kws : List Keyword}
theorem kw_all {env : PySem.Env} (pos : Pos) : ∀ {kws : List Keyword}, kws.all (fun k => k.arg.isSome) = true → (backToKw pos (keywordEach kws env)).all (fun q => q.1.isSome) = true
  | [], _ => rfl
  | ⟨x, e, p⟩ :: kws, h => by
    simp only [List.all_cons, Bool.and_eq_true] at h
    have := kw_all (env := env) pos h.2
    unfold backToKw at this ⊢
    simp only [keywordEach, List.map_cons, List.all_cons, Bool.and_eq_true]
    exact ⟨h.1, this⟩
theorem kw_any {env : PySem.Env} (pos : Pos) : ∀ {kws : List Keyword}, kws.all (fun k => k.arg.isSome) = true → (backToKw pos (keywordEach kws env)).any (fun q => q.1.isNone) = false
  | [], _ => rfl
  | ⟨x, e, p⟩ :: kws, h => by
    simp only [List.all_cons, Bool.and_eq_true] at h
    have := kw_any (env := env) pos h.2
    unfold backToKw at this ⊢
    simp only [keywordEach, List.map_cons, List.any_cons, Bool.or_eq_false_iff]
    refine ⟨?_, this⟩
    cases x with
    | none => cases h.1
    | some y => rfl
theorem kw_names {env : PySem.Env} (pos : Pos) : ∀ {kws : List Keyword}, (backToKw pos (keywordEach kws env)).filterMap (fun q => q.1) = kws.filterMap (fun k => k.arg)
  | [] => rfl
  | ⟨x, e, p⟩ :: kws => by
    have := kw_names (env := env) pos (kws := kws)
    unfold backToKw at this ⊢
    simp only [keywordEach, List.map_cons, List.filterMap_cons]
    rw [this]
theorem pl_of {env : PySem.Env} (pos : Pos) {es : List Expr} {kws : List Keyword} (h1 : es.all notStar = true) (h2 : kws.all (fun k => k.arg.isSome) = true) : ((backTo pos (starEach es env)).any (fun q => q.1) || (backToKw pos (keywordEach kws env)).any (fun q => q.1.isNone)) = false := by
  rw [star_any_of pos h1, kw_any pos h2]; rfl
/-- the values by keywords -/
theorem kws_run (ha : PK X kws (rdL T Wx A.l)) {pins : List (Addr × Obj)} {s : Shared} {env : Env} {α : Type} {rel : Hp → Mu → α → Hp → Prop} {k : List W → S → Res α} {Qf : List Value → Shared → Prop} (pos : Pos) (I : Inv X pins σ H s)
    (be : Be T Pr R μ env st σ H) (h : Post T Pr Wx σ rel R μ ((A.l env st).bind k))
    (hq : ∀ us s1 vs H1 R1 μ1 ws st1, Inv X pins σ H1 s1 → Vals vs us → Le R μ R1 μ1 → Be T Pr R1 μ1 env st1 σ H1 → RelWs T R1 μ1 ws vs → Post T Pr Wx σ rel R1 μ1 (k ws st1) → Qf us s1) :
    wpAny (model X.prog X.w) X.A (evalAll ((backToKw pos (keywordEach kws X.env)).map (fun q => q.2))) Qf X.xe s := by
  refine thn (ha.run pos pins s σ H (fun vs H1 => ∃ R1 μ1 ws st1, Le R μ R1 μ1 ∧ Be T Pr R1 μ1 env st1 σ H1 ∧ RelWs T R1 μ1 ws vs ∧ Post T Pr Wx σ rel R1 μ1 (k ws st1)) I
    (rdL.bindL be h fun R1 μ1 ws st1 H1 vs l b1 r p => ⟨R1, μ1, ws, st1, l, b1, r, p⟩)) fun us s1 ⟨vs, H1, I1, r1, R1, μ1, ws, st1, l, b1, rw1, p1⟩ => ?_
  exact hq us s1 vs H1 R1 μ1 ws st1 I1 r1 l b1 rw1 p1
theorem snd_knil : PK X [] (rdL T Wx fun _ st => .ok [] st) := by
  refine ⟨fun pos pins s σ H Q I h => pk_nil.run pos pins s σ H Q I ?_⟩
  obtain ⟨Pr, R, μ, env, st, be, hp⟩ := h
  exact hp.ok be.s [] rfl
theorem snd_kcons {nm : Option PySem.Str} (ha : PE X a (rdV T Wx A.v)) (hb : PK X kws (rdL T Wx B.l)) : PK X (⟨nm, a, p⟩ :: kws) (rdL T Wx fun env st => (A.v env st).bind fun x st1 => (B.l env st1).bind fun ws st2 => .ok (x :: ws) st2) := by
  refine ⟨fun pos pins s σ H Q I h => (pk_cons ha hb).run pos pins s σ H Q I ?_⟩
  obtain ⟨Pr, R, μ, env, st, be, hp⟩ := h
  refine rdV.bindV be hp fun R1 μ1 w st1 H1 v l b1 r p => ?_
  refine rdL.bindL b1 p fun R2 μ2 ws st2 H2 vs l2 b2 r2 p2 => ?_
  exact p2.ok b2.s (v :: vs) ⟨v, vs, rfl, RelW.le l2 r, r2⟩
theorem callWith_of' {f : Value} {pos : Pos} {s : Shared} {pins : List (Addr × Obj)} {H₀ : Hp} (I : Inv X pins σ H₀ s) (hk : PySem.W.keepIn X.K f = true) (hs : es.all notStar = true) (hall : kws.all (fun k => k.arg.isSome) = true) {Q : Value → Shared → Prop}
    (h0 : es = [] → wpAny (model X.prog X.w) X.A (evalAll ((backToKw pos (keywordEach kws X.env)).map (fun q => q.2)))
      (fun ws s2 => X.K.In s2.heap ∧ wpAny (model X.prog X.w) X.A (PySem.call f [] ((kws.filterMap (fun k => k.arg)).zip ws)) Q X.xe s2) X.xe s)
    (h : wpAny (model X.prog X.w) X.A (spliced (backTo pos (starEach es X.env))) (fun us s1 => wpAny (model X.prog X.w) X.A (evalAll ((backToKw pos (keywordEach kws X.env)).map (fun q => q.2)))
      (fun ws s2 => X.K.In s2.heap ∧ wpAny (model X.prog X.w) X.A (PySem.call f us ((kws.filterMap (fun k => k.arg)).zip ws)) Q X.xe s2) X.xe s1) X.xe s) :
    wpAny (model X.prog X.w) X.A (callWith pos f [] (backTo pos (starEach es X.env)) (backToKw pos (keywordEach kws X.env))) Q X.xe s := by
  have hpl := pl_of (env := X.env) pos hs hall
  rw [← kw_names (env := X.env) pos] at h h0
  cases es with
  | nil => exact PySem.W.callWith_KW0 (h₀ := X.base) I.ok.mod.kin hk (kw_all pos hall) (h0 rfl) hpl
  | cons a es =>
    simp only [List.all_cons, Bool.and_eq_true] at hs
    exact PySem.W.callWith_KW (h₀ := X.base) I.ok.mod.kin hk (kw_all pos hall) h hpl (star_of hs.1)
/-- positional values, then those by keywords, then the rest -/
theorem kwargs_run {f : Value} {pos : Pos} {s : Shared} {pins : List (Addr × Obj)} {env : Env} {α : Type} {rel : Hp → Mu → α → Hp → Prop} {k : List W → S → Res α} (I : Inv X pins σ H s) (hk : PySem.W.keepIn X.K f = true) (hs : es.all notStar = true) (hall : kws.all (fun k => k.arg.isSome) = true)
    (ha : PA X es (rdL T Wx A.l)) (hl : ∀ env st ws st', A.l env st = .ok ws st' → ws.length = es.length) (hn : es = [] → A.l = fun _ st => .ok [] st) (hb : PK X kws (rdL T Wx B.l)) (be : Be T Pr R μ env st σ H)
    (h : Post T Pr Wx σ rel R μ ((A.l env st).bind fun ws st1 => (B.l env st1).bind fun zs st2 => k (ws ++ zs) st2)) {Q : Value → Shared → Prop}
    (hq : ∀ us ws s2 vs H2 R2 μ2 xs st2, Inv X pins σ H2 s2 → us.length = es.length → Vals vs (us ++ ws) → Be T Pr R2 μ2 env st2 σ H2 → RelWs T R2 μ2 xs vs → Post T Pr Wx σ rel R2 μ2 (k xs st2) →
      wpAny (model X.prog X.w) X.A (PySem.call f us ((kws.filterMap (fun k => k.arg)).zip ws)) Q X.xe s2) :
    wpAny (model X.prog X.w) X.A (callWith pos f [] (backTo pos (starEach es X.env)) (backToKw pos (keywordEach kws X.env))) Q X.xe s := by
  refine callWith_of' I hk hs hall (fun e => ?_) ?_
  · subst e
    rw [hn rfl] at h
    refine kws_run hb pos I be h fun ws s2 vs H2 R2 μ2 zs st2 I2 r2 l2 b2 rw2 p2 => ⟨I2.kIn, ?_⟩
    exact hq [] ws s2 vs H2 R2 μ2 zs st2 I2 rfl r2 b2 rw2 p2
  · cases q : A.l env st with
    | ok ws0 st1 =>
      have l0 := hl _ _ _ _ q
      rw [q] at h
      refine thn (ha.run pos pins s σ H (fun vs H1 => ∃ R1 μ1, Be T Pr R1 μ1 env st1 σ H1 ∧ RelWs T R1 μ1 ws0 vs ∧ Post T Pr Wx σ rel R1 μ1 ((B.l env st1).bind fun zs st2 => k (ws0 ++ zs) st2)) I
        ⟨Pr, R, μ, env, st, be, by rw [q]; exact fun R1 μ1 H1 l s1 vs rv => ⟨R1, μ1, be.le l s1, rv, Post.le l h⟩⟩) fun us s1 ⟨vs, H1, I1, r1, R1, μ1, b1, rw1, p1⟩ => ?_
      refine kws_run hb pos I1 b1 p1 fun ws s2 zs H2 R2 μ2 xs st2 I2 r2 l2 b2 rw2 p2 => ⟨I2.kIn, ?_⟩
      exact hq us ws s2 (vs ++ zs) H2 R2 μ2 (ws0 ++ xs) st2 I2 (by rw [← r1.length, ← rw1.length]; exact l0) (r1.append r2) b2 ((RelWs.le l2 rw1).append rw2) p2
    | ex c x st1 =>
      rw [q] at h
      exact thn (ha.run pos pins s σ H (fun vs H1 => False) I ⟨Pr, R, μ, env, st, be, by rw [q]; exact h⟩) fun us s1 ⟨_, _, _, _, z⟩ => z.elim
    | stuck => rw [q] at h; exact h.elim
/-- f(.., k = v, ..) -/
theorem snd_callk (F : Fns T fa n cl) (c : Ctx T n N nms Wx X) {f : Nat} {ad : Addr} {ks : List PySem.Str} {x : PySem.Str} (hfk : T.fk f = some (ad, es.length, ks)) (hkp : PySem.W.keepIn T.K (.ref ad) = true) (hx : glB nms x = true) (hm : T.mg x = some (.ref ad)) (hs : es.all notStar = true)
    (ha : PA X es (rdL T Wx A.l)) (hl : ∀ env st ws st', A.l env st = .ok ws st' → ws.length = es.length) (hn : es = [] → A.l = fun _ st => .ok [] st) (hb : PK X kws (rdL T Wx B.l)) (hall : kws.all (fun k => k.arg.isSome) = true) (hks : kws.filterMap (fun k => k.arg) = ks) :
    PE X (.Call (.Name x p) es kws pos) (rdV T Wx fun env st => (A.l env st).bind fun ws st1 => (B.l env st1).bind fun zs st2 => cl f (ws ++ zs) st2) := by
  refine ⟨fun pins s σ H Q I h => ?_⟩
  obtain ⟨Pr, R, μ, env, st, be, h⟩ := h
  obtain ⟨hg, hd, _⟩ := c.gl hx
  rw [← c.K] at hkp
  refine wpAny_Call_Name_kw (ld_glob I hg (by rw [c.mg]; exact hm) ?_ hd)
  refine kwargs_run I hkp hs hall ha hl hn hb be h fun us ws s2 vs H2 R2 μ2 xs st2 I2 l2 r2 b2 rw2 p2 => ?_
  have := run_kw F c hfk (c.room.mono (by omega)) c.gu rfl I2 r2 b2.s rw2 p2
  rw [List.take_left' l2, List.drop_left' l2, ← hks] at this
  exact this
/-- C(.., k = v, ..) -/
theorem snd_makek (F : Fns T fa n cl) (c : Ctx T n N nms Wx X) {f k : Nat} {ad : Addr} {ks : List PySem.Str} {x : PySem.Str} (hfk : T.fk f = some (ad, es.length + 1, ks)) (M : Mk T.K (T.ca k) ad) (hx : glB nms x = true) (hm : T.mg x = some (.ref (T.ca k))) (hs : es.all notStar = true)
    (ha : PA X es (rdL T Wx A.l)) (hl : ∀ env st ws st', A.l env st = .ok ws st' → ws.length = es.length) (hn : es = [] → A.l = fun _ st => .ok [] st) (hb : PK X kws (rdL T Wx B.l)) (hall : kws.all (fun k => k.arg.isSome) = true) (hks : kws.filterMap (fun k => k.arg) = ks) :
    PE X (.Call (.Name x p) es kws pos) (rdV T Wx fun env st => (A.l env st).bind fun ws st1 => (B.l env st1).bind fun zs st2 => mkf T.g cl f k (ws ++ zs) st2) := by
  refine ⟨fun pins s σ H Q I h => ?_⟩
  obtain ⟨Pr, R, μ, env, st, be, h⟩ := h
  obtain ⟨hg, hd, _⟩ := c.gl hx
  refine wpAny_Call_Name_kw (ld_glob I hg (by rw [c.mg]; exact hm) ?_ hd)
  refine kwargs_run (k := fun xs st2 => mkf T.g cl f k xs st2) I (by rw [c.K]; exact M.kp) hs hall ha hl hn hb be h fun us ws s2 vs H2 R2 μ2 xs st2 I2 l2 r2 b2 rw2 p2 => ?_
  refine makesA_ok c (F.kw f ad _ ks hfk) M (fun y => ?_) I2 r2 b2.s rw2 p2
  show (⟨(y :: (us ++ ws)).take (es.length + 1), ks.zip ((y :: (us ++ ws)).drop (es.length + 1))⟩ : Args) = _
  rw [List.take_succ_cons, List.drop_succ_cons, List.take_left' l2, List.drop_left' l2, hks]
/-- the items of what stands behind a star -/
theorem starW_at (sm : Sim T R Pr μ st H) {w : W} {ws : List W} {v : V} (e : starW w = some ws) (r : RelW T R μ w v) : ∃ a xs, v = .ref a ∧ (SqT T.K H a xs ∨ SqL T.K H a xs) ∧ RelWs T R μ ws xs := by
  unfold starW at e
  split at e
  · cases e
    obtain ⟨a, vs, rfl, h1, h2⟩ := r
    exact ⟨a, vs, rfl, .inl (sqT_le h1 sm.r), RelWs.ofC h2⟩
  · cases e
    obtain ⟨a, vs, rfl, h1, h2⟩ := r
    exact ⟨a, vs, rfl, .inr (.of (sm.r _ _ h1)), RelWs.ofC h2⟩
  · cases e
    obtain ⟨a, vs, rfl, h1, h2⟩ := r
    exact ⟨a, vs, rfl, .inr (sqL_le h1 sm.r), RelWs.ofC h2⟩
  · cases e
/-- x(*e) -/
theorem star_run {f : Value} {x : PySem.Str} {o : List W → S → Res W} (c : Ctx T n N nms Wx X) (hkp : PySem.W.keepIn T.K f = true) (hx : glB nms x = true) (hm : T.mg x = some f) (he : PE X e (rdV T Wx A.v))
    (go : ∀ (pins : List (Addr × Obj)) (s : Shared) (σ : L2.St) (H : Hp) (Q : VK) (vs : List V) (us : List Value) (Pr R : Hp) (μ : Mu) (st : S) (ws : List W), Inv X pins σ H s → Vals vs us → Sim T R Pr μ st H → RelWs T R μ ws vs → Post T Pr Wx σ (RV T Q) R μ (o ws st) → wpAny (model X.prog X.w) X.A (PySem.call f us) (EP X pins σ Q) X.xe s) :
    PE X (.Call (.Name x p) [.Starred e sp_] [] pos) (rdV T Wx fun env st => (A.v env st).bind fun w st1 => match starW w with | some ws => o ws st1 | none => .stuck) := by
  refine ⟨fun pins s σ H Q I h => ?_⟩
  obtain ⟨Pr, R, μ, env, st, be, h⟩ := h
  obtain ⟨hg, hd, _⟩ := c.gl hx
  rw [← c.K] at hkp
  refine wpAny_Call_Name_kw (ld_glob I hg (by rw [c.mg]; exact hm) ?_ hd)
  refine PySem.W.callWith_S (h₀ := X.base) I.ok.mod.kin hkp (thn (he.run pins s σ H (fun v H1 => ∃ R1 μ1 w st1, Be T Pr R1 μ1 env st1 σ H1 ∧ RelW T R1 μ1 w v ∧ Post T Pr Wx σ (RV T Q) R1 μ1 (match starW w with | some ws => o ws st1 | none => .stuck)) I
    (rdV.bindV be h fun R1 μ1 w st1 H1 v l b1 r p => ⟨R1, μ1, w, st1, b1, r, p⟩)) fun v s1 ⟨y, H1, I1, ry, R1, μ1, w, st1, b1, rw1, p1⟩ => ?_) (by rfl)
  cases q : starW w with
  | none => rw [q] at p1; exact p1.elim
  | some ws =>
    rw [q] at p1
    obtain ⟨a, xs, rfl, hx, rx⟩ := starW_at b1.s q rw1
    rw [← c.K] at hx
    obtain rfl : v = Value.ref a := ry
    exact StX.star_any I1 hx fun us s2 I2 rv => ⟨I2.kIn, go pins s2 σ H1 Q xs us Pr R1 μ1 st1 ws I2 rv b1.s rx p1⟩
theorem snd_calls (F : Fns T fa n cl) (O : TOk T fa) (c : Ctx T n N nms Wx X) {f : Nat} {ad : Addr} {x : PySem.Str} (hfa : fa f = some ad) (hx : glB nms x = true) (hm : T.mg x = some (.ref ad)) (he : PE X e (rdV T Wx A.v)) :
    PE X (.Call (.Name x p) [.Starred e sp_] [] pos) (rdV T Wx fun env st => (A.v env st).bind fun w st1 => match starW w with | some ws => cl f ws st1 | none => .stuck) :=
  star_run c (O.fn f ad hfa).1 hx hm he fun pins s σ H Q vs us Pr R μ st ws I r sm rw h => run_at F c hfa (c.room.mono (by omega)) c.gu rfl I r sm rw h
theorem snd_makes (F : Fns T fa n cl) (O : TOk T fa) (c : Ctx T n N nms Wx X) {k : Nat} {x : PySem.Str} (hi : (T.g.init k).isSome = true) (hx : glB nms x = true) (hm : T.mg x = some (.ref (T.ca k))) (he : PE X e (rdV T Wx A.v)) :
    PE X (.Call (.Name x p) [.Starred e sp_] [] pos) (rdV T Wx fun env st => (A.v env st).bind fun w st1 => match starW w with | some ws => mk T.g cl k ws st1 | none => .stuck) := by
  obtain ⟨f, hf⟩ := Option.isSome_iff_exists.mp hi
  obtain ⟨kn, ad, hfa, M⟩ := O.init k f hf
  exact star_run (o := fun ws st1 => mk T.g cl k ws st1) c M.kp hx hm he fun pins s σ H Q vs us Pr R μ st ws I r sm rw h => makes_ok F O c I r sm rw h
/-- C.m is a staticmethod: its record at p, its def at g -/
structure SMet (K : PySem.W.Frag) (C : Addr) (mc : Value) (m : PySem.Str) (p g : Addr) : Prop where
  at_ : PySem.W.findCls K (.ref C) mc m = some (.get (.builtin "staticmethod.__get__") (.ref p) .none (.ref C))
  rc : ∃ rest, PySem.W.recIn K p "staticmethod" = some (.ref g :: rest)
  rd : PySem.W.readsIn K C mc = true
  ga : PySem.W.specialIn K (.ref C) "__getattribute__" = some (some (.builtin "type.__getattribute__"))
theorem getsm_ok {pins : List (Addr × Obj)} {s : Shared} {C q g : Addr} {mc : Value} {m : PySem.Str} {E : Value → Shared → Prop} {Aa : Around} {pl : PySem.Sem Bool} {Q : Value × List Value → Shared → Prop} (I : Inv X pins σ H s) (k : SMet X.K C mc m q g)
    (h : ∀ s', Inv X pins σ H s' → Q (.ref g, []) s') : wpAny (model X.prog X.w) Aa (getMethod (.ref C) m pl) Q E s := by
  obtain ⟨rest, hp⟩ := k.rc
  refine PySem.W.method_cls I.kIn k.ga (PySem.W.cls_bind I.kIn k.rd k.at_ ?_)
  refine wpAny_call (PySem.W.sm_get (s := { s with toks := s.toks + 1 }) I.kIn hp (PySem.W.handed_on rfl ?_))
  exact h _ (I.tok _)
/-- C.m(..), m a staticmethod -/
theorem snd_smeth (F : Fns T fa n cl) (O : TOk T fa) (c : Ctx T n N nms Wx X) {x m : PySem.Str} {f : Nat} {ad C q : Addr} {mc : Value} {p2 : Pos} (hx : glB nms x = true) (hm : T.mg x = some (.ref C)) (hfa : fa f = some ad) (k : SMet T.K C mc m q ad)
    (hline : (apos.endLine == pos.line) = true) (hl : es.length < 30) (hs : es.all notStar = true) (ha : PA X es (rdL T Wx A.l)) (hn : es = [] → A.l = fun _ st => .ok [] st) :
    PE X (.Call (.Attribute (.Name x p2) m apos) es [] pos) (rdV T Wx fun env st => (A.l env st).bind fun ws st1 => cl f ws st1) := by
  refine ⟨fun pins s σ H Q I h => ?_⟩
  obtain ⟨Pr, R, μ, env, st, be, h⟩ := h
  obtain ⟨hg, hd, _⟩ := c.gl hx
  have hkp := (O.fn f ad hfa).1
  rw [← c.K] at hkp k
  refine PySem.W.methodCall_KW (pl := plainOf (.Name x p2) X.env) (ld_glob I hg (by rw [c.mg]; exact hm) ?_ hd) (meth_eq rfl hs hl hline)
  refine getsm_ok I k fun s1 I1 => ?_
  cases es with
  | nil =>
    rw [hn rfl] at h
    exact PySem.W.callWith_K0 (first := []) I1.kIn hkp (run_at (ws := []) F c hfa (c.room.mono (by omega)) c.gu rfl I1 (vs := []) (us := []) .nil be.s rfl h)
  | cons a es =>
    simp only [List.all_cons, Bool.and_eq_true] at hs
    refine PySem.W.callWith_K (first := []) (h₀ := X.base) I.ok.mod.kin hkp (args_run ha pos I1 be h fun us s2 vs H2 R2 μ2 ws st2 I2 r2 l2 b2 rw2 p2 => ⟨I2.kIn, ?_⟩) (star_of hs.1) (star_any_of pos hs.2)
    exact run_at F c hfa (c.room.mono (by omega)) c.gu rfl I2 r2 b2.s rw2 p2
end
end Ev

/-! Bm: methods of lists. -/
namespace Ev
open PySem PySem.Spec PyProof.Rows L2
section
variable {T : Tb} {R R' Pr H : Hp} {μ : Mu} {st : S} {X : Cx} {σ : L2.St} {Wx : WX} {n : Nat} {N : List PySem.Str} {nms : List (PySem.Str × NameKind)} {fa : Nat → Option Addr} {cl : Cl}
variable {a b c e o : Expr} {es : List Expr} {pos p apos : Pos} {A B D : Sm}
/-- how often an equal one stands in a list -/
def rCountD (K : PySem.W.Frag) : V → List V → Hp → VK → Prop := fun x xs H Q => ∃ (a : Addr) (y : V) (d : PyData) (ds : List PyData), x = V.ref a ∧ xs = [y] ∧ Dp K H (V.ref a) (.list ds) ∧ Dp K H y d ∧
  SeqAt.shaped (.list ds) = true ∧ SeqAt.shaped d = true ∧ Q (.int ((ds.countP fun z => PyData.eqv z d : Nat) : Int)) H
theorem mt_countD (hu : X.A.units + 65 < cLine) : MtR X "list.count" (rCountD X.K) := by
  intro pins s σ H x xs v us Q I rx rxs h
  obtain ⟨a, y, d, ds, rfl, rfl, hl, hy, sl, sd, q⟩ := h
  cases rx
  obtain ⟨uy, rfl, ry⟩ := rxs.one
  obtain ⟨bs, r1⟩ := Dp.reads I d y uy hy ry
  have hxs : PyData.canLayAll0 ds = true := SeqAt.canLay_of_shaped sl
  have hroom : X.A.units + 1 + min (PyData.depthAll ds) d.depth < cLine := room_in_shaped sd hu
  cases hl with
  | lst hs ha =>
    obtain ⟨its, rv, ⟨⟨cls, dd, data, sls⟩, m, ho, hc, hdn, hdt⟩, hlen⟩ := I.list hs
    simp only at hc hdt
    subst hc hdt
    obtain ⟨as, h4⟩ := Dp.readsAll I ds _ its ha rv
    have hmap : its.map (SeqAt.readOf s.heap) = ds := SeqAt.readsAll_map ds its as hxs h4
    refine call_meets PySem.F.slot_list_count ⟨_, ho, rfl⟩ PySem.F.entry_list_count (PySem.F.args_list_count_2 _ _)
      (SeqAt.list_countAt a its.toArray m dd sls uy (fun u => PyData.eqv (SeqAt.readOf s.heap u) d)) ⟨ho, SeqAt.items_eqAt (vs := its.toArray) (show ReadsAll s.heap its.toArray.toList ds as from h4) r1 hxs (SeqAt.canLay_of_shaped sd) hroom, ?_⟩
    have ec : its.toArray.toList.countP (fun u => PyData.eqv (SeqAt.readOf s.heap u) d) = ds.countP fun z => PyData.eqv z d := by
      rw [← hmap, List.countP_map]
      rfl
    refine ⟨.int ((ds.countP fun z => PyData.eqv z d : Nat) : Int), H, I.tok _, ⟨s.toks, ?_⟩, q⟩
    rw [ec]
theorem toDs_map : ∀ cs : List C, toDs cs = cs.map toD
  | [] => by simp [toDs]
  | c :: cs => by simp only [toDs, List.map_cons]; rw [toDs_map cs]
theorem idxOf_ok {y : C} : ∀ {xs : List C} {i k : Nat}, idxOf y xs i = some k → ∃ j, k = i + j ∧ ∃ z, xs[j]? = some z ∧ eqC z y = true ∧ ∀ m z', m < j → xs[m]? = some z' → eqC z' y = false
  | [], i, k, h => by cases h
  | x :: xs, i, k, h => by
    unfold idxOf at h
    split at h
    · rename_i q
      cases h
      exact ⟨0, rfl, x, rfl, q, fun m z' hm => absurd hm (by omega)⟩
    · rename_i q
      obtain ⟨j, rfl, z, h1, h2, h3⟩ := idxOf_ok h
      refine ⟨j + 1, by omega, z, h1, h2, fun m z' hm e => ?_⟩
      cases m with
      | zero => cases e; exact Bool.eq_false_iff.mpr q
      | succ m => exact h3 m z' (by omega) e
theorem isL_at (sm : Sim T R Pr μ st H) {w : W} {v : V} (h : isL st w = true) (r : RelW T R μ w v) : tyV T.K "list" v H := by
  unfold isL listW at h
  split at h
  · obtain ⟨a, vs, rfl, h1, _⟩ := r
    exact .inl ⟨rfl, vs, .of (sm.r _ _ h1)⟩
  · obtain ⟨a, vs, rfl, h1, _⟩ := r
    exact .inl ⟨rfl, vs, sqL_le h1 sm.r⟩
  · split at h
    · rename_i ws q
      obtain ⟨a, h1, _, _, vs, h4, _⟩ := sm.c _ _ q
      obtain ⟨a', rfl, h6⟩ := r
      rw [h1] at h6; cases h6
      exact .inl ⟨rfl, vs, .of h4⟩
    · cases h
  · cases h
/-- a list's method by values -/
def MthS (T : Tb) (X : Cx) (Wx : WX) (r : V → List V → Hp → VK → Prop) (o : W → List W → S → Res W) : Prop :=
  ∀ (σ : L2.St) (H : Hp) (x : V) (vs : List V) (Q : VK) (Pr R : Hp) (μ : Mu) (st : S) (w : W) (ws : List W), Sim T R Pr μ st H → RelW T R μ w x → RelWs T R μ ws vs → Post T Pr Wx σ (RV T Q) R μ (o w ws st) → r x vs H Q
theorem snd_bm {name : PySem.Str} {id : String} {r : V → List V → Hp → VK → Prop} {f : W → List W → S → Res W} (hK : X.K = T.K) (slot : Slot "list" name id) (hty : typeOf (.builtin id) = pure (.type "method_descriptor")) (hm : MtR X id r) (hf : MthS T X Wx r f)
    (ho : PE X o (rdV T Wx A.v)) (hb : baseOk o = true) (hline : (apos.endLine == pos.line) = true) (hl : (a :: es).length < 30) (hs : (a :: es).all notStar = true) (ha : PA X (a :: es) (rdL T Wx B.l)) :
    PE X (.Call (.Attribute o name apos) (a :: es) [] pos) (rdV T Wx fun env st => (A.v env st).bind fun x st1 => if isL st1 x then (B.l env st1).bind fun ws st2 => f x ws st2 else .stuck) := by
  simp only [List.all_cons, Bool.and_eq_true] at hs
  have hfew : ((backTo pos (starEach (a :: es) X.env)).all (fun x => !x.1) && (backToKw pos (keywordEach [] X.env)).all (fun x => x.1.isSome) && decide ((a :: es).length + ([] : List Keyword).length + (if ([] : List Keyword).isEmpty then 0 else 1) < 30)) = true := by
    have h1 := star_any_of (env := X.env) pos (es := a :: es) (by simp [hs.1, hs.2])
    have h2 : (backTo pos (starEach (a :: es) X.env)).all (fun x => !x.1) = true := by
      rw [List.all_eq_true]
      intro x hx
      rw [List.any_eq_false] at h1
      simpa using h1 x hx
    rw [h2, decide_eq_true (by simpa using hl)]
    rfl
  refine pe_mono (pe_bm PySem.F.plainAttrs_list slot hty hm ho ha (base_of hb) hfew hline (star_of hs.1) (star_any_of pos hs.2)) fun σ H Q h => ?_
  obtain ⟨Pr, R, μ, env, st, be, hp⟩ := h
  refine rdV.bindV be hp fun R1 μ1 w st1 H1 v l b1 r1 p => ?_
  split at p
  · rename_i q
    refine ⟨by rw [hK]; exact isL_at b1.s q r1, ?_⟩
    refine rdL.bindL b1 p fun R2 μ2 ws st2 H2 vs l2 b2 r2 p2 => ?_
    exact hf σ H2 v vs Q Pr R2 μ2 st2 w ws b2.s (RelW.le l2 r1) r2 p2
  · exact p.elim
theorem snd_bm0 {name : PySem.Str} {id : String} {r : V → List V → Hp → VK → Prop} {f : W → List W → S → Res W} (hK : X.K = T.K) (slot : Slot "list" name id) (hty : typeOf (.builtin id) = pure (.type "method_descriptor")) (hm : MtR X id r) (hf : MthS T X Wx r f)
    (ho : PE X o (rdV T Wx A.v)) (hb : baseOk o = true) (hline : (apos.endLine == pos.line) = true) :
    PE X (.Call (.Attribute o name apos) [] [] pos) (rdV T Wx fun env st => (A.v env st).bind fun x st1 => if isL st1 x then (Res.ok [] st1 : Res (List W)).bind fun ws st2 => f x ws st2 else .stuck) := by
  refine pe_mono (pe_bm0 PySem.F.plainAttrs_list slot hty hm ho (base_of hb) hline) fun σ H Q h => ?_
  obtain ⟨Pr, R, μ, env, st, be, hp⟩ := h
  refine rdV.bindV be hp fun R1 μ1 w st1 H1 v l b1 r1 p => ?_
  split at p
  · rename_i q
    refine ⟨by rw [hK]; exact isL_at b1.s q r1, ?_⟩
    exact hf σ H1 v [] Q Pr R1 μ1 st1 w [] b1.s r1 rfl p
  · exact p.elim
/-- a list cell -/
theorem cell_lst (sm : Sim T R Pr μ st H) {k : Nat} {xs : List W} {x : V} (hc : cellAt st k = some (.lst xs)) (r : RelW T R μ (.r k) x) : ∃ a vs, x = .ref a ∧ μ k = some a ∧ H a = some (.lst vs) ∧ RelWs T R μ xs vs := by
  obtain ⟨a, h1, _, _, vs, h4, h5⟩ := sm.c _ _ hc
  obtain ⟨a', rfl, h6⟩ := r
  rw [h1] at h6; cases h6
  exact ⟨a, vs, rfl, h1, h4, h5⟩
/-- what is put into a list -/
theorem close_at (sm : Sim T R Pr μ st H) {k : Nat} {xs : List W} {w w' : W} {st' : S} {v : V} (hc : cellAt st k = some (.lst xs)) (e : closeW st k w = some (w', st')) (r : RelW T R μ w v) :
    ∃ R', Le R μ R' μ ∧ Sim T R' Pr μ st' H ∧ RelW T R' μ w' v ∧ cellAt st' k = some (.lst xs) ∧ ∀ m, w' = .r m → m < k := by
  unfold closeW at e
  split at e
  · cases e
    exact ⟨R, Le.refl _ _, sm, r, hc, fun m z => by cases z⟩
  · split at e
    · cases e
      exact ⟨R, Le.refl _ _, sm, r, hc, fun m z => by cases z; assumption⟩
    · split at e
      · cases e
      · rename_i hne
        split at e
        · rename_i x q
          cases e
          obtain ⟨ad, rfl, hm⟩ := r
          obtain ⟨R2, s2, l2, rc⟩ := kill_ok sm q hm
          exact ⟨R2, ⟨l2, fun _ _ h => h⟩, s2, rc, by rw [cellAt_kill_ne (Ne.symm hne)]; exact hc, fun m z => by cases z⟩
        · cases e
/-- a list cell is written -/
theorem Sim.wlist (sm : Sim T R Pr μ st H) {k : Nat} {xs ys : List W} {us : List V} {a : Addr} (hc : cellAt st k = some (.lst xs)) (hm : μ k = some a) (ry : RelWs T R μ ys us) (hl : ∀ m, W.r m ∈ ys → m < k) :
    Sim T R Pr μ (setCell st k (.lst ys)) (upd H a (.lst us)) := sm.write hc hm ⟨us, upd_same, ry⟩ hl
theorem mem_snoc {xs : List W} {w : W} {k m : Nat} (h1 : ∀ m, W.r m ∈ xs → m < k) (h2 : ∀ m, w = .r m → m < k) (h : W.r m ∈ xs ++ [w]) : m < k := by
  rcases List.mem_append.mp h with q | q
  · exact h1 m q
  · rw [List.mem_singleton] at q; exact h2 m q.symm
theorem bm_append : MthS T X Wx rAppend bmAppend := by
  intro σ H x vs Q Pr R μ st w ws sm rw' rws h
  unfold bmAppend at h
  split at h
  · rename_i k w1
    split at h
    · rename_i xs hc
      obtain ⟨a, us, rfl, hm, hH, hxs⟩ := cell_lst sm hc rw'
      split at h
      · rename_i hl
        split at h
        · rename_i w' st' e
          obtain ⟨y, t, rfl, r1, rt⟩ := rws
          cases rt
          obtain ⟨R2, l2, s2, r2, c2, lo⟩ := close_at sm hc e r1
          refine ⟨a, us, y, rfl, rfl, hH, by rw [← hxs.length, ← line_eq]; exact hl, ?_⟩
          exact h R2 μ _ l2 (s2.wlist (us := us ++ [y]) c2 hm ((RelWs.le l2 hxs).append ⟨y, [], rfl, r2, rfl⟩) fun m hm' => mem_snoc (fun m h => sm.low k _ hc m h) lo hm') _ rfl
        · exact h.elim
      · exact h.elim
    · exact h.elim
  · exact h.elim
theorem bm_insert : MthS T X Wx (fun x vs H Q => ∃ (l : Addr) (xs : List V) (i : Int) (y : V), x = .ref l ∧ vs = [.int i, y] ∧ H l = some (.lst xs) ∧ xs.length < sizeLine ∧ 0 ≤ i ∧ i < 2 ^ 63 ∧
    Q .non (upd H l (.lst (xs.take i.toNat ++ [y] ++ xs.drop i.toNat)))) bmInsert := by
  intro σ H x vs Q Pr R μ st w ws sm rw' rws h
  unfold bmInsert at h
  split at h
  · rename_i k i w1
    split at h
    · rename_i xs hc
      obtain ⟨a, us, rfl, hm, hH, hxs⟩ := cell_lst sm hc rw'
      split at h
      · rename_i hl
        split at h
        · rename_i w' st' e
          obtain ⟨v0, t0, rfl, r0, y, t, rfl, r1, rt⟩ := rws
          cases rt
          cases r0
          obtain ⟨R2, l2, s2, r2, c2, lo⟩ := close_at sm hc e r1
          refine ⟨a, us, i, y, rfl, rfl, hH, by rw [← hxs.length, ← line_eq]; exact hl.2.2, hl.1, hl.2.1, ?_⟩
          have hx2 := RelWs.le l2 hxs
          refine h R2 μ _ l2 (s2.wlist (us := us.take i.toNat ++ [y] ++ us.drop i.toNat) c2 hm (((hx2.take _).append (show RelWs T R2 μ [w'] [y] from ⟨y, [], rfl, r2, rfl⟩)).append (hx2.drop _)) fun m hm' => ?_) _ rfl
          rcases List.mem_append.mp hm' with q | q
          · exact mem_snoc (fun m h => sm.low k _ hc m (List.mem_of_mem_take h)) lo q
          · exact sm.low k _ hc m (List.mem_of_mem_drop q)
        · exact h.elim
      · exact h.elim
    · exact h.elim
  · exact h.elim
theorem mem_mapc {cs : List C} {m : Nat} (h : W.r m ∈ cs.map W.c) : False := by
  obtain ⟨c, _, e⟩ := List.mem_map.mp h
  cases e
theorem bm_extend : MthS T X Wx rExtend bmExtend := by
  intro σ H x vs Q Pr R μ st w ws sm rw' rws h
  unfold bmExtend at h
  split at h
  · rename_i k w1
    split at h
    · rename_i xs cs hc
      obtain ⟨a, us, rfl, hm, hH, hxs⟩ := cell_lst sm hc rw'
      split at h
      · rename_i hl
        obtain ⟨y, t, rfl, r1, rt⟩ := rws
        cases rt
        obtain ⟨b, zs, rfl, h1, h2⟩ := r1
        refine ⟨a, b, us, zs, rfl, rfl, hH, sm.r _ _ h1, by rw [← hxs.length, ← h2.length, ← line_eq]; exact hl, ?_⟩
        refine h R μ _ (Le.refl _ _) (sm.wlist (us := us ++ zs) hc hm (hxs.append (RelWs.ofC h2)) fun m hm' => ?_) _ rfl
        rcases List.mem_append.mp hm' with q | q
        · exact sm.low k _ hc m q
        · exact (mem_mapc q).elim
      · exact h.elim
    · rename_i xs m hc
      obtain ⟨a, us, rfl, hm, hH, hxs⟩ := cell_lst sm hc rw'
      split at h
      · rename_i ys hd
        split at h
        · rename_i hl
          obtain ⟨y, t, rfl, r1, rt⟩ := rws
          cases rt
          obtain ⟨b, zs, rfl, hm2, hb, hys⟩ := cell_lst sm hd r1
          refine ⟨a, b, us, zs, rfl, rfl, hH, hb, by rw [← hxs.length, ← hys.length, ← line_eq]; exact hl.1, ?_⟩
          refine h R μ _ (Le.refl _ _) (sm.wlist (us := us ++ zs) hc hm (hxs.append hys) fun j hm' => ?_) _ rfl
          rcases List.mem_append.mp hm' with q | q
          · exact sm.low k _ hc j q
          · have := List.all_eq_true.mp hl.2 _ q
            exact of_decide_eq_true this
        · exact h.elim
      · exact h.elim
    · exact h.elim
  · exact h.elim
theorem RelWs.dropLast {ws : List W} {vs : List V} (h : RelWs T R μ ws vs) : RelWs T R μ ws.dropLast vs.dropLast := by
  rw [List.dropLast_eq_take, List.dropLast_eq_take, h.length]
  exact h.take _
theorem RelWs.erase : ∀ {ws : List W} {vs : List V} (i : Nat), RelWs T R μ ws vs → RelWs T R μ (ws.eraseIdx i) (vs.eraseIdx i)
  | [], _, _, h => by cases h; exact rfl
  | _ :: _, _, 0, ⟨v, t, rfl, _, h3⟩ => h3
  | _ :: _, _, i + 1, ⟨v, t, rfl, h2, h3⟩ => ⟨v, _, rfl, h2, RelWs.erase i h3⟩
theorem bm_pop : MthS T X Wx rPop bmPop := by
  intro σ H x vs Q Pr R μ st w ws sm rw' rws h
  unfold bmPop at h
  split at h
  · rename_i k
    split at h
    · rename_i xs hc
      obtain ⟨a, us, rfl, hm, hH, hxs⟩ := cell_lst sm hc rw'
      split at h
      · rename_i w' e
        cases rws
        obtain ⟨y, e1, e2⟩ := hxs.get e
        rw [hxs.length] at e1
        refine ⟨a, us, y, rfl, rfl, hH, e1, ?_⟩
        exact h R μ _ (Le.refl _ _) (sm.wlist (us := us.dropLast) hc hm hxs.dropLast fun m hm' => sm.low k _ hc m ((List.dropLast_subset _) hm')) _ e2
      · exact h.elim
    · exact h.elim
  · exact h.elim
theorem bm_popAt : MthS T X Wx rPopAt bmPopAt := by
  intro σ H x vs Q Pr R μ st w ws sm rw' rws h
  unfold bmPopAt at h
  split at h
  · rename_i k i
    split at h
    · rename_i xs hc
      obtain ⟨a, us, rfl, hm, hH, hxs⟩ := cell_lst sm hc rw'
      split at h
      · rename_i hl
        split at h
        · rename_i w' e
          obtain ⟨v0, t0, rfl, r0, rt⟩ := rws
          cases rt
          cases r0
          obtain ⟨y, e1, e2⟩ := hxs.get e
          have hn := hxs.length
          refine ⟨a, us, i, i.toNat, y, rfl, rfl, hH, by omega, by omega, ?_, e1, ?_⟩
          · unfold seqIndex?
            simp only [← hn]
            simp only [if_neg (show ¬ (i < 0) by omega)]
            rw [if_pos (by simp; omega)]
          · exact h R μ _ (Le.refl _ _) (sm.wlist (us := us.eraseIdx i.toNat) hc hm (hxs.erase _) fun m hm' => sm.low k _ hc m (List.mem_of_mem_eraseIdx hm')) _ e2
        · exact h.elim
      · exact h.elim
    · exact h.elim
  · exact h.elim
theorem bm_index (hK : X.K = T.K) : MthS T X Wx (rIndexD X.K) bmIndex := by
  intro σ H x vs Q Pr R μ st w ws sm rw' rws h
  unfold bmIndex at h
  split at h
  · rename_i w1
    split at h
    · rename_i xs y hx hy
      split at h
      · rename_i hs
        simp only [Bool.and_eq_true] at hs
        split at h
        · rename_i i e
          obtain ⟨v1, t, rfl, r1, rt⟩ := rws
          cases rt
          have d1 := dat_dp sm hx hs.1 rw'
          have d2 := dat_dp sm hy hs.2 r1
          obtain ⟨j, rfl, z, e1, e2, e3⟩ := idxOf_ok e
          rw [hK]
          have hd : ∃ a, x = .ref a := by
            simp only [toD] at d1
            cases d1; exact ⟨_, rfl⟩
          obtain ⟨a, rfl⟩ := hd
          simp only [toD] at d1
          refine ⟨a, v1, toD y, toDs xs, j, toD z, rfl, rfl, d1, d2, by have := shp_ok hs.1; simpa only [toD] using this, shp_ok hs.2, by rw [toDs_map, List.getElem?_map, e1]; rfl, e2, fun m z' hm e => ?_, ?_⟩
          · rw [toDs_map, List.getElem?_map] at e
            cases q : xs[m]? with
            | none => rw [q] at e; cases e
            | some z0 => rw [q] at e; cases e; exact e3 m z0 hm q
          · rw [Nat.zero_add] at h
            exact h.okc sm rfl
        · exact h.elim
      · exact h.elim
    · exact h.elim
  · exact h.elim
theorem bm_count (hK : X.K = T.K) : MthS T X Wx (rCountD X.K) bmCount := by
  intro σ H x vs Q Pr R μ st w ws sm rw' rws h
  unfold bmCount at h
  split at h
  · rename_i w1
    split at h
    · rename_i xs y hx hy
      split at h
      · rename_i hs
        simp only [Bool.and_eq_true] at hs
        obtain ⟨v1, t, rfl, r1, rt⟩ := rws
        cases rt
        have d1 := dat_dp sm hx hs.1 rw'
        have d2 := dat_dp sm hy hs.2 r1
        rw [hK]
        have hd : ∃ a, x = .ref a := by
          simp only [toD] at d1
          cases d1; exact ⟨_, rfl⟩
        obtain ⟨a, rfl⟩ := hd
        simp only [toD] at d1
        refine ⟨a, v1, toD y, toDs xs, rfl, rfl, d1, d2, by have := shp_ok hs.1; simpa only [toD] using this, shp_ok hs.2, ?_⟩
        rw [toDs_map, List.countP_map]
        exact h.okc sm rfl
      · exact h.elim
    · exact h.elim
  · exact h.elim
end
end Ev

/-! Rp: repr, str. -/
namespace Ev
open PySem PySem.Spec PyProof.Rows L2
section
variable {T : Tb} {R R' Pr H : Hp} {μ : Mu} {st : S} {X : Cx} {σ : L2.St} {Wx : WX} {n : Nat} {N : List PySem.Str} {nms : List (PySem.Str × NameKind)} {fa : Nat → Option Addr} {cl : Cl}
mutual
theorem noDict : ∀ (n : Nat) (c : C), pln n c = true → PyData.hasDict (toD c) = false
  | n, .non, _ => by simp [toD, PyData.hasDict]
  | n, .bl _, _ => by simp [toD, PyData.hasDict]
  | n, .int _, _ => by simp [toD, PyData.hasDict]
  | n, .str s, h => by simp [toD, PyData.hasDict]
  | 0, .tup cs, h => by simp [pln] at h
  | 0, .lst cs, h => by simp [pln] at h
  | 0, .frz cs, h => by simp [pln] at h
  | n + 1, .tup cs, h => by simp only [toD, PyData.hasDict]; exact noDicts n cs h
  | n + 1, .lst cs, h => by simp only [toD, PyData.hasDict]; exact noDicts n cs h
  | n + 1, .frz cs, h => by simp only [toD, PyData.hasDict]; exact noDicts n cs h
  | 0, .dct _ _, h => by simp [pln] at h
  | 0, .ins _ _ _, h => by simp [pln] at h
  | n + 1, .dct _ _, h => by simp [pln] at h
  | n + 1, .ins _ _ _, h => by simp [pln] at h
theorem noDicts : ∀ (n : Nat) (cs : List C), plns n cs = true → PyData.hasDictAll (toDs cs) = false
  | n, [], _ => by simp [toDs, PyData.hasDictAll]
  | n, c :: cs, h => by
    have h : pln n c = true ∧ plns n cs = true := by simpa [plns] using h
    simp only [toDs, PyData.hasDictAll, noDict n c h.1, noDicts n cs h.2, Bool.or_self]
end
theorem strV_shown (c : C) : strV (shownC c) = PyData.shown (toD c) := by
  unfold shownC strV
  rfl
theorem calls_repr (c : CtxB T N nms Wx X) : CallS T X Wx (.builtin "repr") (bfn T.g cl .repr) := by
  intro pins s σ H vs us Q Pr R μ st ws I r sm rw' h
  replace h : Post T Pr Wx σ (RV T Q) R μ (reprF ws st) := h
  unfold reprF at h
  split at h
  · obtain ⟨v, rfl, r1⟩ := rw'.one
    obtain ⟨u, rfl, ru⟩ := r.one
    obtain ⟨a, ks, ws, rfl, hR, hl, hk, hv⟩ := r1
    cases ru
    have ek : ks = [] := by
      cases ks with
      | nil => rfl
      | cons _ _ => cases hk
    subst ek
    have hH := sm.r _ _ hR
    obtain ⟨_, hb, vs, kv, o, es, ep, e1, ho, e, _, hp, _⟩ := (show ObjOk X.prog X.w H s.heap a (.dK []) from I.hok a _ hH)
    have q := h.okc sm (show RelC T R (.str [123, 125]) (V.str (PyData.shown (.dict []))) by show V.str _ = V.str _; kernel_rfl)
    cases kv
    have hes : es.toList = [] := List.length_eq_zero_iff.mp hp.length
    have rd : Reads s.heap (.ref a) (.dict []) _ := .dict e1 ho.1 e (by rw [hes]; exact .nil) (by rw [hes]; exact .nil)
    refine repr_of_reads' rd rfl (fun _ z => ?_) c.gu ?_ (fun b o e => e) (fun h' u tk hk => ⟨.str _, H, I.kept hk, ⟨u, rfl⟩, q⟩) (by show 2 ≤ sizeLine; rw [sizeLine_eq]; omega)
    · simp at z
      rw [z] at hb
      simp at hb
    · have := c.un
      have : PyData.depth (.dict []) ≤ 2 := by decide
      omega
  · rename_i w
    obtain ⟨v, rfl, r1⟩ := rw'.one
    obtain ⟨u, rfl, ru⟩ := r.one
    split at h
    · rename_i d hd
      split at h
      · rename_i hs
        simp only [Bool.and_eq_true, showB, decide_eq_true_eq] at hs
        have dp := dat_dp sm hd hs.1 r1
        have q := h.okc sm (show RelC T R (.str (shownC d)) (V.str (PyData.shown (toD d))) by show V.str _ = V.str _; rw [strV_shown])
        have hz : (PyData.shown (toD d)).length ≤ sizeLine := by rw [← line_eq]; exact hs.2.2
        rw [← c.K] at dp
        have hsh := shp_ok hs.1
        have nd := noDict 60 d hs.1
        have hdp := (pln_lay 60 d hs.1).2
        generalize toD d = e at dp hs q hz hsh nd hdp
        cases dp with
        | non =>
          cases ru
          simp only [PyData.shown] at q hz
          exact P.repr_of_none ⟨.str _, H, I.tok _, ⟨s.toks, rfl⟩, q⟩
        | bl b =>
          cases ru
          simp only [PyData.shown] at q hz
          exact P.repr_of_bool ⟨.str _, H, I.tok _, ⟨s.toks, rfl⟩, q⟩
        | int i =>
          obtain ⟨t, rfl⟩ := ru
          simp only [PyData.shown] at q hz
          have hi : i.natAbs.log2 < 1920 := by simpa [PyData.showable] using hs.2.1
          exact P.repr_of_int hi ⟨.str _, H, I.tok _, ⟨s.toks, rfl⟩, q⟩
        | str x =>
          obtain ⟨t, rfl⟩ := ru
          simp only [PyData.shown] at q hz
          exact P.repr_of_str ⟨.str _, H, I.tok _, ⟨s.toks, rfl⟩, q⟩ hz
        | lst h1 h2 =>
          cases ru
          obtain ⟨as, rd⟩ := Dp.reads I _ _ _ (.lst h1 h2) rfl
          have hdep := hdp
          refine repr_of_reads' rd hs.2.1 (fun z => by rw [nd] at z; cases z) c.gu ?_ (fun b o e => e) (fun h' u tk hk => ⟨.str _, H, I.kept hk, ⟨u, rfl⟩, q⟩) hz
          have := c.un
          omega
        | tup h1 h2 =>
          cases ru
          obtain ⟨as, rd⟩ := Dp.reads I _ _ _ (.tup h1 h2) rfl
          have hdep := hdp
          refine repr_of_reads' rd hs.2.1 (fun z => by rw [nd] at z; cases z) c.gu ?_ (fun b o e => e) (fun h' u tk hk => ⟨.str _, H, I.kept hk, ⟨u, rfl⟩, q⟩) hz
          have := c.un
          omega
      · exact h.elim
    · exact h.elim
  · exact h.elim
theorem calls_str : CallS T X Wx (.type "str") (bfn T.g cl .str) := by
  intro pins s σ H vs us Q Pr R μ st ws I r sm rw' h
  replace h : Post T Pr Wx σ (RV T Q) R μ (strF ws st) := h
  unfold strF at h
  split at h
  · rename_i i
    split at h
    · rename_i hi
      obtain ⟨v, rfl, r1⟩ := rw'.one
      cases r1
      refine call_str_int pins s σ H _ us Q I r ⟨i, rfl, hi, ?_⟩
      exact h.okc sm (by show V.str _ = V.str _; rw [strV_shown]; simp [toD, PyData.shown])
    · exact h.elim
  · obtain ⟨v, rfl, r1⟩ := rw'.one
    cases r1
    exact SkE.call_str_str pins s σ H _ us Q I r ⟨_, rfl, h.okc sm rfl⟩
  · exact h.elim
end
end Ev

/-! Its: what a loop walks; targets; comprehensions. -/
namespace Ev
open PySem PySem.Spec PyProof.Rows L2
section
variable {T : Tb} {R R' Pr H : Hp} {μ : Mu} {st : S} {X : Cx} {σ : L2.St} {Wx : WX} {n : Nat} {N : List PySem.Str} {nms : List (PySem.Str × NameKind)} {fa : Nat → Option Addr} {cl : Cl}
variable {a b c : Expr} {es : List Expr} {pos p apos : Pos} {A B D : Sm} {tg : Expr}
/-- J yields these items -/
def Wk (T : Tb) (J : It) (lk : Option Nat) (ws : List W) (R : Hp) (μ : Mu) : Prop :=
  ∀ Pr R' μ' st' H', Le R μ R' μ' → lkOk lk ws st' = true → Sim T R' Pr μ' st' H' → ∀ i,
    (∀ w, ws[i]? = some w → J.go i H' ∧ ∀ x H'', J.yld i H' x H'' → ∃ R'', Le R' μ' R'' μ' ∧ Sim T R'' Pr μ' st' H'' ∧ RelW T R'' μ' w x) ∧ (ws.length ≤ i → J.stop i H')
def rdI (T : Tb) (Wx : WX) (kf : Env → Option Nat) (f : Env → S → Res (List W)) : TI := fun σ H Q => ∃ Pr R μ env st, Be T Pr R μ env st σ H ∧ Post T Pr Wx σ (fun R1 μ1 ws H1 => ∀ J, Wk T J (kf env) ws R1 μ1 → Q J H1) R μ (f env st)
theorem pi_mono {e : Expr} {t u : TI} (h : PI X tg e t) (i : ∀ σ H Q, u σ H Q → t σ H Q) : PI X tg e u := ⟨fun pins s σ H Q I q => h.run pins s σ H Q I (i σ H Q q)⟩
theorem get_of_len {cs : List C} {vs : List V} (r : RelCs T R cs vs) {i : Nat} {w : W} (h : (cs.map W.c)[i]? = some w) : ∃ v, vs[i]? = some v ∧ RelW T R μ w v := by
  rw [List.getElem?_map] at h
  cases q : cs[i]? with
  | none => rw [q] at h; cases h
  | some y =>
    rw [q] at h; cases h
    obtain ⟨v, e1, e2⟩ := r.get q
    exact ⟨v, e1, e2⟩
theorem wk_list {K : PySem.W.Frag} (hK : K = T.K) {cs : List C} {vs : List V} {q : Addr} (h : SqL T.K R q vs) (r : RelCs T R cs vs) : Wk T (Itl K q) none (cs.map .c) R μ := by
  subst hK
  intro Pr R' μ' st' H' e0 _ s i
  have e := e0.r
  have h' : SqL T.K H' q vs := sqL_le (sqL_le h e) s.r
  have r' := RelCs.le e r
  refine ⟨fun w hw => ?_, fun hl => ⟨vs, h', by rw [List.length_map, r'.length] at hl; exact hl⟩⟩
  obtain ⟨v, e1, e2⟩ := get_of_len (μ := μ') r' hw
  exact ⟨⟨vs, v, h', e1⟩, fun x H'' ⟨y1, y2⟩ => ⟨R', Le.refl _ _, by rw [y1]; exact s, by rw [Option.some.inj (e1.symm.trans (y2 vs h'))] at e2; exact e2⟩⟩
theorem wk_tup {K : PySem.W.Frag} (hK : K = T.K) {cs : List C} {vs : List V} {q : Addr} (h : SqT T.K R q vs) (r : RelCs T R cs vs) : Wk T (Itt K q) none (cs.map .c) R μ := by
  subst hK
  intro Pr R' μ' st' H' e0 _ s i
  have e := e0.r
  have h' : SqT T.K H' q vs := sqT_le (sqT_le h e) s.r
  have r' := RelCs.le e r
  refine ⟨fun w hw => ?_, fun hl => ⟨vs, h', by rw [List.length_map, r'.length] at hl; exact hl⟩⟩
  obtain ⟨v, e1, e2⟩ := get_of_len (μ := μ') r' hw
  exact ⟨⟨vs, v, h', e1⟩, fun x H'' ⟨y1, y2⟩ => ⟨R', Le.refl _ _, by rw [y1]; exact s, by rw [Option.some.inj (e1.symm.trans (y2 vs h'))] at e2; exact e2⟩⟩
theorem wk_str {x : List Nat} : Wk T (Its (strV x)) none (x.map fun k => .c (.str [k])) R μ := by
  intro Pr R' μ' st' H' e0 _ s i
  have e := e0.r
  refine ⟨fun w hw => ?_, fun hl => ?_⟩
  · rw [List.getElem?_map] at hw
    cases q : x[i]? with
    | none => rw [q] at hw; cases hw
    | some k =>
      rw [q] at hw; cases hw
      have hi : i < x.length := by
        rcases Nat.lt_or_ge i x.length with h | h
        · exact h
        · rw [List.getElem?_eq_none h] at q; cases q
      refine ⟨by show i < (strV x).cps.size; exact hi, fun y H'' ⟨y1, cc, y2, y3⟩ => ⟨R', Le.refl _ _, by rw [y1]; exact s, ?_⟩⟩
      have : x[i]? = some cc := by
        have z : x.toArray[i]? = some cc := y2
        simpa using z
      rw [q] at this; cases this
      exact y3
  · show (strV x).cps.size ≤ i
    simpa [strV] using hl
theorem natsTo_get (n : Nat) : ∀ (lo : Int) (i : Nat), (natsTo lo n)[i]? = if i < n then some (.c (.int (lo + i))) else none := by
  induction n with
  | zero => intro lo i; rfl
  | succ n ih =>
    intro lo i
    cases i with
    | zero => simp [natsTo]
    | succ i =>
      show (natsTo (lo + 1) n)[i]? = _
      rw [ih]
      by_cases h : i < n
      · rw [if_pos h, if_pos (by omega)]
        congr 3
        omega
      · rw [if_neg h, if_neg (by omega)]
theorem natsTo_len (n : Nat) : ∀ (lo : Int), (natsTo lo n).length = n := by
  induction n with
  | zero => intro lo; rfl
  | succ n ih => intro lo; show (natsTo (lo + 1) n).length + 1 = n + 1; rw [ih]
theorem wk_range {lo : Int} {n : Nat} : Wk T (Itr lo n) none (natsTo lo n) R μ := by
  intro Pr R' μ' st' H' e0 _ s i
  have e := e0.r
  refine ⟨fun w hw => ?_, fun hl => by rw [natsTo_len] at hl; exact hl⟩
  rw [natsTo_get] at hw
  split at hw
  · rename_i h
    cases hw
    exact ⟨h, fun x H'' ⟨y1, y2⟩ => ⟨R', Le.refl _ _, by rw [y1]; exact s, y2⟩⟩
  · cases hw

/-! ### the walked -/
def iAny (K : PySem.W.Frag) (tl : TE) : TI := fun σ H R => tl σ H fun x H1 => (∃ a, x = .ref a ∧ (∃ xs, SqL K H1 a xs) ∧ R (Itl K a) H1) ∨ (∃ a, x = .ref a ∧ (∃ xs, SqT K H1 a xs) ∧ R (Itt K a) H1) ∨ ∃ y, x = .str y ∧ R (Its y) H1
theorem pi_any {l : Expr} {tl : TE} (hl : PE X l tl) : PI X tg l (iAny X.K tl) := by
  refine ⟨fun pins s σ H R I h => ?_⟩
  refine thn (hl.run pins s σ H _ I h) fun v s1 ⟨x, H1, I1, r1, q1⟩ => ?_
  rcases q1 with ⟨a, e, ⟨xs, hq⟩, q⟩ | ⟨a, e, ⟨xs, hq⟩, q⟩ | ⟨y, e, q⟩
  · subst e
    cases r1
    obtain ⟨its, rv, p, hz⟩ := I1.list hq
    refine wpAny_pyIter_list p.isList ?_
    refine ⟨s1.heap.objs.size, [s1.heap.objs.size], _, _, H1, rfl, I1.kept (t' := s1.toks) fun b o e => Heap.get?_push_of_some _ e, turn_list a _, ⟨_, Heap.get?_push_size _ rfl, rfl, rfl⟩, fun b hb => ?_, q⟩
    have e : b = s1.heap.objs.size := by simpa using hb
    subst e
    exact I1.fpOk (Nat.le_refl _) (I1.hok.fresh (Nat.le_refl _))
  · subst e
    cases r1
    obtain ⟨its, rv, p, hz⟩ := I1.tuple hq
    refine wpAny_pyIter_tuple (show s1.heap.IsTuple a its.toArray from p) ?_
    refine ⟨s1.heap.objs.size, [s1.heap.objs.size], _, _, H1, rfl, I1.kept (t' := s1.toks) fun b o e => Heap.get?_push_of_some _ e, turn_tuple a _, ⟨_, Heap.get?_push_size _ rfl, rfl, rfl⟩, fun b hb => ?_, q⟩
    have e : b = s1.heap.objs.size := by simpa using hb
    subst e
    exact I1.fpOk (Nat.le_refl _) (I1.hok.fresh (Nat.le_refl _))
  · subst e
    obtain ⟨t, rfl⟩ := r1
    cases ha : y.cps.all (· < 128)
    · exact wpAny_pyIter_wide ha (pi_one (tk := s1.toks) I1 _ (turn_str _ y t "str_iterator" (.inr rfl)) ⟨_, Heap.get?_push_size _ rfl, rfl, rfl⟩ q)
    · exact wpAny_pyIter_ascii ha (pi_one (tk := s1.toks) I1 _ (turn_str _ y t "str_ascii_iterator" (.inl rfl)) ⟨_, Heap.get?_push_size _ rfl, rfl, rfl⟩ q)
theorem snd_itv (hK : X.K = T.K) (ha : PE X a (rdV T Wx A.v)) : PI X tg a (rdI T Wx (fun _ => none) fun env st => (A.v env st).bind fun x st1 => match x with
      | .c (.lst cs) => .ok (cs.map .c) st1 | .c (.tup cs) => .ok (cs.map .c) st1 | .c (.frz cs) => .ok (cs.map .c) st1
      | .c (.str s) => .ok (s.map fun k => .c (.str [k])) st1
      | _ => .stuck) := by
  refine pi_mono (pi_any ha) fun σ H Q h => ?_
  obtain ⟨Pr, R, μ, env, st, be, hp⟩ := h
  refine rdV.bindV be hp fun R1 μ1 w st1 H1 v l1 b1 r p => ?_
  split at p
  · obtain ⟨q, vs, rfl, h1, h2⟩ := r
    exact .inl ⟨q, rfl, ⟨vs, .of (b1.s.r _ _ h1)⟩, p.ok b1.s _ (wk_list hK (.of h1) h2)⟩
  · obtain ⟨q, vs, rfl, h1, h2⟩ := r
    exact .inr (.inl ⟨q, rfl, ⟨vs, by rw [hK]; exact sqT_le h1 b1.s.r⟩, p.ok b1.s _ (wk_tup hK h1 h2)⟩)
  · obtain ⟨q, vs, rfl, h1, h2⟩ := r
    exact .inl ⟨q, rfl, ⟨vs, by rw [hK]; exact sqL_le h1 b1.s.r⟩, p.ok b1.s _ (wk_list hK h1 h2)⟩
  · cases r
    exact .inr (.inr ⟨_, rfl, p.ok b1.s _ wk_str⟩)
  · exact p.elim
mutual
theorem beqC_eq : ∀ a b : C, beqC a b = true → a = b
  | .non, b, h => by cases b <;> first | rfl | (exact absurd h (by unfold beqC; decide))
  | .bl x, b, h => by cases b <;> first | (unfold beqC at h; rw [eq_of_beq h]) | (exact absurd h (by unfold beqC; decide))
  | .int x, b, h => by cases b <;> first | (unfold beqC at h; rw [of_decide_eq_true h]) | (exact absurd h (by unfold beqC; decide))
  | .str x, b, h => by cases b <;> first | (unfold beqC at h; rw [of_decide_eq_true h]) | (exact absurd h (by unfold beqC; decide))
  | .tup x, b, h => by cases b <;> first | (unfold beqC at h; rw [beqCs_eq _ _ h]) | (exact absurd h (by unfold beqC; decide))
  | .lst x, b, h => by cases b <;> first | (unfold beqC at h; rw [beqCs_eq _ _ h]) | (exact absurd h (by unfold beqC; decide))
  | .frz x, b, h => by cases b <;> first | (unfold beqC at h; rw [beqCs_eq _ _ h]) | (exact absurd h (by unfold beqC; decide))
  | .dct k x, b, h => by cases b <;> first | (unfold beqC at h; rw [Bool.and_eq_true] at h; rw [beqCs_eq _ _ h.1, beqCs_eq _ _ h.2]) | (exact absurd h (by unfold beqC; decide))
  | .ins c f x, b, h => by cases b <;> first | (unfold beqC at h; rw [Bool.and_eq_true, Bool.and_eq_true] at h; rw [of_decide_eq_true h.1.1, of_decide_eq_true h.1.2, beqCs_eq _ _ h.2]) | (exact absurd h (by unfold beqC; decide))
theorem beqCs_eq : ∀ a b : List C, beqCs a b = true → a = b
  | [], [], _ => rfl
  | [], _ :: _, h => absurd h (by unfold beqCs; decide)
  | _ :: _, [], h => absurd h (by unfold beqCs; decide)
  | x :: xs, y :: ys, h => by
    unfold beqCs at h
    rw [Bool.and_eq_true] at h
    rw [beqC_eq x y h.1, beqCs_eq xs ys h.2]
end
theorem beqWs_eq : ∀ a b : List W, beqWs a b = true → a = b
  | [], [], _ => rfl
  | [], _ :: _, h => by unfold beqWs at h; cases h
  | .c _ :: _, [], h => by unfold beqWs at h; cases h
  | .r _ :: _, [], h => by unfold beqWs at h; cases h
  | .c _ :: _, .r _ :: _, h => by unfold beqWs at h; cases h
  | .r _ :: _, .c _ :: _, h => by unfold beqWs at h; cases h
  | .c x :: xs, .c y :: ys, h => by
    unfold beqWs at h
    rw [Bool.and_eq_true] at h
    rw [beqC_eq x y h.1, beqWs_eq xs ys h.2]
  | .r x :: xs, .r y :: ys, h => by
    unfold beqWs at h
    rw [Bool.and_eq_true] at h
    rw [of_decide_eq_true h.1, beqWs_eq xs ys h.2]
theorem lkOk_cell {n : Nat} {ws : List W} (h : lkOk (some n) ws st = true) : cellAt st n = some (.lst ws) := by
  replace h : (match cellAt st n with | some (.lst xs) => beqWs xs ws | _ => false) = true := h
  cases hc : cellAt st n with
  | none => rw [hc] at h; cases h
  | some x =>
    rw [hc] at h
    cases x with
    | lst xs => rw [beqWs_eq _ _ h]
    | ins _ _ _ => cases h
    | dct _ _ => cases h
theorem getW_of {ws : List W} {vs : List V} (r : RelWs T R μ ws vs) : ∀ {i : Nat} {w : W}, ws[i]? = some w → ∃ v, vs[i]? = some v ∧ RelW T R μ w v := by
  induction ws generalizing vs with
  | nil => intro i w h; cases h
  | cons x ws ih =>
    obtain ⟨v, rest, rfl, r1, r2⟩ := r
    intro i w h
    cases i with
    | zero => cases h; exact ⟨v, rfl, r1⟩
    | succ i => exact ih r2 h
theorem lenW_of {ws : List W} {vs : List V} (r : RelWs T R μ ws vs) : ws.length = vs.length := by
  induction ws generalizing vs with
  | nil => cases r; rfl
  | cons x ws ih =>
    obtain ⟨v, rest, rfl, r1, r2⟩ := r
    rw [List.length_cons, List.length_cons, ih r2]
theorem wk_cell {K : PySem.W.Frag} (hK : K = T.K) {ws : List W} {n : Nat} {q : Addr} (h : μ n = some q) : Wk T (Itl K q) (some n) ws R μ := by
  subst hK
  intro Pr R' μ' st' H' e hlk s i
  obtain ⟨a, h1, _, _, vs, h2, h3⟩ := s.c n _ (lkOk_cell hlk)
  cases (e.m n q h).symm.trans h1
  have h' : SqL T.K H' q vs := .inl (.of h2)
  refine ⟨fun w hw => ?_, fun hl => ⟨vs, h', by rw [lenW_of h3] at hl; exact hl⟩⟩
  obtain ⟨v, e1, e2⟩ := getW_of h3 hw
  exact ⟨⟨vs, v, h', e1⟩, fun x H'' ⟨y1, y2⟩ => ⟨R', Le.refl _ _, by rw [y1]; exact s, by rw [Option.some.inj (e1.symm.trans (y2 vs h'))] at e2; exact e2⟩⟩
theorem snd_itr {g : Gd} {i : Nat} (hK : X.K = T.K) (ha : PE X a (rdV T Wx (sem g cl (.var i)).v)) : PI X tg a (rdI T Wx (lkE (.itr i)) (sem g cl (.itr i)).l) := by
  refine pi_mono (pi_any ha) fun σ H Q h => ?_
  obtain ⟨Pr, R, μ, env, st, be, hp⟩ := h
  refine ⟨Pr, R, μ, env, st, be, ?_⟩
  replace hp : Post T Pr Wx σ (fun R1 μ1 ws H1 => ∀ J, Wk T J (match env[i]? with | some (some (.r n)) => some n | _ => none) ws R1 μ1 → Q J H1) R μ (match env[i]? with
    | some (some (.r n)) => (match cellAt st n with | some (.lst ws) => .ok ws st | _ => .stuck)
    | some (some (.c (.lst cs))) => .ok (cs.map .c) st
    | some (some (.c (.tup cs))) => .ok (cs.map .c) st
    | some (some (.c (.frz cs))) => .ok (cs.map .c) st
    | some (some (.c (.str s))) => .ok (s.map fun k => .c (.str [k])) st
    | _ => .stuck) := hp
  show Post T Pr Wx σ _ R μ (match env[i]? with | some (some w) => .ok w st | _ => .stuck)
  cases he : env[i]? with
  | none => rw [he] at hp; exact hp.elim
  | some o => cases o with
    | none => rw [he] at hp; exact hp.elim
    | some w =>
      rw [he] at hp
      dsimp only at hp ⊢
      cases w with
      | r n =>
        dsimp only at hp
        split at hp
        · rename_i ws hc
          intro R1 μ1 H1 l1 s1 v rv
          obtain ⟨q, rfl, hq⟩ := rv
          obtain ⟨a, h1, _, _, vs, h2, h3⟩ := s1.c n _ hc
          cases hq.symm.trans h1
          exact .inl ⟨q, rfl, ⟨vs, .inl (.of h2)⟩, hp R1 μ1 H1 l1 s1 _ (wk_cell hK hq)⟩
        · exact hp.elim
      | c x =>
        dsimp only at hp
        intro R1 μ1 H1 l1 s1 v rv
        split at hp
        · cases ‹some (some (W.c x)) = some (some (W.r _))›
        · cases ‹some (some (W.c x)) = some (some (W.c (C.lst _)))›
          obtain ⟨q, vs, rfl, h1, h2⟩ := rv
          exact .inl ⟨q, rfl, ⟨vs, .of (s1.r _ _ h1)⟩, hp R1 μ1 H1 l1 s1 _ (wk_list hK (.of h1) h2)⟩
        · cases ‹some (some (W.c x)) = some (some (W.c (C.tup _)))›
          obtain ⟨q, vs, rfl, h1, h2⟩ := rv
          exact .inr (.inl ⟨q, rfl, ⟨vs, by rw [hK]; exact sqT_le h1 s1.r⟩, hp R1 μ1 H1 l1 s1 _ (wk_tup hK h1 h2)⟩)
        · cases ‹some (some (W.c x)) = some (some (W.c (C.frz _)))›
          obtain ⟨q, vs, rfl, h1, h2⟩ := rv
          exact .inl ⟨q, rfl, ⟨vs, by rw [hK]; exact sqL_le h1 s1.r⟩, hp R1 μ1 H1 l1 s1 _ (wk_list hK h1 h2)⟩
        · cases ‹some (some (W.c x)) = some (some (W.c (C.str _)))›
          cases rv
          exact .inr (.inr ⟨_, rfl, hp R1 μ1 H1 l1 s1 _ wk_str⟩)
        · exact hp.elim
theorem snd_rng1 (c : Ctx T n N nms Wx X) (hx : glB nms "range" = true) (hm : T.mg "range" = none) (hs : notStar a = true) (ha : PE X a (rdV T Wx A.v)) : PI X tg (.Call (.Name "range" p) [a] [] pos) (rdI T Wx (fun _ => none) fun env st => (A.v env st).bind fun x st1 => match x with
      | .c (.int j) => if -(2 ^ 62) ≤ j ∧ j < 2 ^ 62 then .ok (natsTo 0 j.toNat) st1 else .stuck
      | _ => .stuck) := by
  obtain ⟨hg, hd, _⟩ := c.gl hx
  refine pi_mono (pi_range1 hg (by rw [c.mg]; exact hm) (pa_cons ha pa_nil (star_of hs)) (star_of hs)) fun σ H Q h => ?_
  obtain ⟨Pr, R, μ, env, st, be, hp⟩ := h
  refine rdV.bindV be hp fun R1 μ1 w st1 H1 v l1 b1 r p => ?_
  split at p
  · cases r
    split at p
    · rename_i h
      exact ⟨_, rfl, h.1, h.2, p.ok b1.s _ wk_range⟩
    · exact p.elim
  · exact p.elim
theorem snd_rng2 (c : Ctx T n N nms Wx X) (hx : glB nms "range" = true) (hm : T.mg "range" = none) (hs : notStar a = true) (hs2 : notStar b = true) (ha : PE X a (rdV T Wx A.v)) (hb : PE X b (rdV T Wx B.v)) : PI X tg (.Call (.Name "range" p) [a, b] [] pos) (rdI T Wx (fun _ => none) fun env st => (A.v env st).bind fun x st1 => (B.v env st1).bind fun y st2 => match x, y with
      | .c (.int i), .c (.int j) => if -(2 ^ 62) ≤ i ∧ i < 2 ^ 62 ∧ -(2 ^ 62) ≤ j ∧ j < 2 ^ 62 then .ok (natsTo i (j - i).toNat) st2 else .stuck
      | _, _ => .stuck) := by
  obtain ⟨hg, hd, _⟩ := c.gl hx
  refine pi_mono (pi_range2 hg (by rw [c.mg]; exact hm) (pa_cons ha (pa_cons hb pa_nil (star_of hs2)) (star_of hs)) (by rw [star_of hs, star_of hs2]; rfl) (by rw [star_of hs2]; rfl)) fun σ H Q h => ?_
  obtain ⟨Pr, R, μ, env, st, be, hp⟩ := h
  refine rdV.bindV be hp fun R1 μ1 w st1 H1 v l1 b1 r p => ?_
  refine rdV.bindV b1 p fun R2 μ2 w2 st2 H2 v2 l2 b2 r2 p => ?_
  have r := RelW.le l2 r
  split at p
  · cases r
    cases r2
    split at p
    · rename_i h
      exact ⟨_, _, rfl, h, p.ok b2.s _ wk_range⟩
    · exact p.elim
  · exact p.elim
theorem enumGo_get : ∀ (cs : List C) (k : Int) (i : Nat), (enumGo k cs)[i]? = cs[i]?.map fun c => W.c (.tup [.int (k + i), c])
  | [], k, i => rfl
  | c :: cs, k, 0 => by simp [enumGo]
  | c :: cs, k, i + 1 => by
    show (enumGo (k + 1) cs)[i]? = cs[i]?.map _
    rw [enumGo_get cs (k + 1) i]
    congr 1
    funext d
    congr 4
    omega
theorem enumGo_len : ∀ (cs : List C) (k : Int), (enumGo k cs).length = cs.length
  | [], _ => rfl
  | c :: cs, k => by show (enumGo (k + 1) cs).length + 1 = cs.length + 1; rw [enumGo_len cs]
theorem wk_enum {K : PySem.W.Frag} (hK : K = T.K) {cs : List C} {vs : List V} {q : Addr} (h : SqL T.K R q vs) (r : RelCs T R cs vs) : Wk T (Ite K q) none (enumGo 0 cs) R μ := by
  subst hK
  intro Pr R' μ' st' H' e0 _ s i
  have e := e0.r
  have h' : SqL T.K H' q vs := sqL_le (sqL_le h e) s.r
  have r' := RelCs.le e r
  refine ⟨fun w hw => ?_, fun hl => ⟨vs, h', by rw [enumGo_len, r'.length] at hl; exact hl⟩⟩
  rw [enumGo_get] at hw
  cases q0 : cs[i]? with
  | none => rw [q0] at hw; cases hw
  | some d =>
    rw [q0] at hw; cases hw
    obtain ⟨v, e1, e2⟩ := r'.get q0
    refine ⟨⟨vs, v, h', e1⟩, fun x H'' hy => ?_⟩
    obtain ⟨t, y, y1, y2, y3, y4⟩ := hy
    subst y1 y3
    obtain ⟨s2, l2⟩ := s.frozen (o := .tup [.int i, y]) y2
    refine ⟨_, l2, s2, t, [.int i, y], rfl, .inl (.inl upd_same), ?_⟩
    have e3 := Option.some.inj (e1.symm.trans (y4 vs h'))
    subst e3
    exact ⟨_, _, rfl, by rw [Int.zero_add]; rfl, _, _, rfl, RelC.le l2.r e2, rfl⟩
theorem wk_enumT {K : PySem.W.Frag} (hK : K = T.K) {cs : List C} {vs : List V} {q : Addr} (h : SqT T.K R q vs) (r : RelCs T R cs vs) : Wk T (Iten K q) none (enumGo 0 cs) R μ := by
  subst hK
  intro Pr R' μ' st' H' e0 _ s i
  have e := e0.r
  have h' : SqT T.K H' q vs := sqT_le (sqT_le h e) s.r
  have r' := RelCs.le e r
  refine ⟨fun w hw => ?_, fun hl => ⟨vs, h', by rw [enumGo_len, r'.length] at hl; exact hl⟩⟩
  rw [enumGo_get] at hw
  cases q0 : cs[i]? with
  | none => rw [q0] at hw; cases hw
  | some d =>
    rw [q0] at hw; cases hw
    obtain ⟨v, e1, e2⟩ := r'.get q0
    refine ⟨⟨vs, v, h', e1⟩, fun x H'' hy => ?_⟩
    obtain ⟨t, y, y1, y2, y3, y4⟩ := hy
    subst y1 y3
    obtain ⟨s2, l2⟩ := s.frozen (o := .tup [.int i, y]) y2
    refine ⟨_, l2, s2, t, [.int i, y], rfl, .inl (.inl upd_same), ?_⟩
    have e3 := Option.some.inj (e1.symm.trans (y4 vs h'))
    subst e3
    exact ⟨_, _, rfl, by rw [Int.zero_add]; rfl, _, _, rfl, RelC.le l2.r e2, rfl⟩
/-- enumerate of a list or a tuple -/
theorem pi_enumA {ta : TA} {elts : List Expr} {kk : Nat} {tpos : Pos} (hg : Gl X "enumerate") (hm : X.mg "enumerate" = none) (ha : PA X [a] ta) (hs : starEach [a] X.env = [(false, eval a X.env)]) :
    PI X (.Tuple elts kk tpos) (.Call (.Name "enumerate" p) [a] [] pos) (fun σ H Q => ta σ H fun vs H1 => ∃ q, vs = [.ref q] ∧ ((∃ xs, SqL X.K H1 q xs ∧ Q (Ite X.K q) H1) ∨ ∃ xs, SqT X.K H1 q xs ∧ Q (Iten X.K q) H1)) := by
  refine ⟨fun pins s σ H Q I h => ?_⟩
  refine Call_ (ld_blt I hg hm boot_enumerate (PyProof.Rows.callWith_type1 (thn (ha.run pos pins s σ H _ I h) fun us s1 ⟨vs, H1, I1, r1, q1⟩ => ?_) hs rfl))
  obtain ⟨q, rfl, q1⟩ := q1
  obtain ⟨u, rfl, ru⟩ := r1.one
  cases ru
  rcases q1 with ⟨xs, hq, hQ⟩ | ⟨xs, hq, hQ⟩
  · obtain ⟨its, rv, p', hz⟩ := I1.list hq
    refine call_enumerate_list p'.isList fun h' he hit hsz hk => wpAny_pyIter_enum he ?_
    refine ⟨s1.heap.objs.size + 1, [s1.heap.objs.size + 1, s1.heap.objs.size], _, _, H1, rfl, I1.kept (t' := s1.toks) hk, turn_enum q (s1.heap.objs.size + 1) s1.heap.objs.size, ⟨⟨.none, he⟩, hit, Nat.succ_ne_self _⟩, fun b hb => ?_, hQ⟩
    have hle : s1.heap.objs.size ≤ b := by rcases (by simpa using hb : b = s1.heap.objs.size + 1 ∨ b = s1.heap.objs.size) with rfl | rfl <;> omega
    exact I1.fpOk hle (I1.hok.fresh hle)
  · obtain ⟨its, rv, p', hz⟩ := I1.tuple hq
    refine call_enumT (show s1.heap.IsTuple q its.toArray from p') fun h' he hit hk => wpAny_pyIter_enum he ?_
    refine ⟨s1.heap.objs.size + 1, [s1.heap.objs.size + 1, s1.heap.objs.size], _, _, H1, rfl, I1.kept (t' := s1.toks) hk, turn_enumT q (s1.heap.objs.size + 1) s1.heap.objs.size, ⟨⟨.none, he⟩, hit, Nat.succ_ne_self _⟩, fun b hb => ?_, hQ⟩
    have hle : s1.heap.objs.size ≤ b := by rcases (by simpa using hb : b = s1.heap.objs.size + 1 ∨ b = s1.heap.objs.size) with rfl | rfl <;> omega
    exact I1.fpOk hle (I1.hok.fresh hle)
theorem snd_enum {elts : List Expr} {kk : Nat} {tpos : Pos} (c : Ctx T n N nms Wx X) (hx : glB nms "enumerate" = true) (hm : T.mg "enumerate" = none) (hs : notStar a = true) (ha : PE X a (rdV T Wx A.v)) :
    PI X (.Tuple elts kk tpos) (.Call (.Name "enumerate" p) [a] [] pos) (rdI T Wx (fun _ => none) fun env st => (A.v env st).bind fun x st1 => match x with
      | .c (.lst cs) => .ok (enumGo 0 cs) st1 | .c (.frz cs) => .ok (enumGo 0 cs) st1 | .c (.tup cs) => .ok (enumGo 0 cs) st1 | _ => .stuck) := by
  obtain ⟨hg, hd, _⟩ := c.gl hx
  refine pi_mono (pi_enumA hg (by rw [c.mg]; exact hm) (pa_cons ha pa_nil (star_of hs)) (star_of hs)) fun σ H Q h => ?_
  obtain ⟨Pr, R, μ, env, st, be, hp⟩ := h
  refine rdV.bindV be hp fun R1 μ1 w st1 H1 v l1 b1 r p => ?_
  have key : ∀ {cs : List C} {q : Addr} {vs : List V}, v = .ref q → SqL T.K R1 q vs → RelCs T R1 cs vs → Post T Pr Wx σ (fun R1 μ1 ws H1 => ∀ J, Wk T J none ws R1 μ1 → Q J H1) R1 μ1 (.ok (enumGo 0 cs) st1) → ∃ q, [v] = [V.ref q] ∧ ((∃ xs, SqL X.K H1 q xs ∧ Q (Ite X.K q) H1) ∨ ∃ xs, SqT X.K H1 q xs ∧ Q (Iten X.K q) H1) := fun {cs q vs} e1 e2 e3 e4 =>
    ⟨q, by rw [e1], .inl ⟨vs, by rw [c.K]; exact sqL_le e2 b1.s.r, e4.ok b1.s _ (wk_enum c.K e2 e3)⟩⟩
  split at p
  · obtain ⟨q, vs, e1, h1, h2⟩ := r
    exact key e1 (.of h1) h2 p
  · obtain ⟨q, vs, e1, h1, h2⟩ := r
    exact key e1 h1 h2 p
  · obtain ⟨q, vs, e1, h1, h2⟩ := r
    exact ⟨q, by rw [e1], .inr ⟨vs, by rw [c.K]; exact sqT_le h1 b1.s.r, p.ok b1.s _ (wk_enumT c.K h1 h2)⟩⟩
  · exact p.elim
theorem zipGo_get : ∀ (cs ds : List C) (i : Nat), (zipGo cs ds)[i]? = match cs[i]?, ds[i]? with | some c, some d => some (W.c (.tup [c, d])) | _, _ => none
  | [], ds, i => by simp [zipGo]
  | c :: cs, [], i => by cases i <;> simp [zipGo]
  | c :: cs, d :: ds, 0 => by simp [zipGo]
  | c :: cs, d :: ds, i + 1 => by
    show (zipGo cs ds)[i]? = _
    rw [zipGo_get cs ds i]
    rfl
theorem zipGo_len : ∀ (cs ds : List C), (zipGo cs ds).length ≤ cs.length ∧ (zipGo cs ds).length ≤ ds.length ∧ (cs.length ≤ (zipGo cs ds).length ∨ ds.length ≤ (zipGo cs ds).length)
  | [], ds => by simp [zipGo]
  | c :: cs, [] => by simp [zipGo]
  | c :: cs, d :: ds => by
    have h := zipGo_len cs ds
    simp only [zipGo, List.length_cons]
    omega
theorem wk_zip {K : PySem.W.Frag} (hK : K = T.K) {cs ds : List C} {vs us : List V} {q u : Addr} (h : SqL T.K R q vs) (r : RelCs T R cs vs) (h2 : SqL T.K R u us) (r2 : RelCs T R ds us) : Wk T (Itz K q u) none (zipGo cs ds) R μ := by
  subst hK
  intro Pr R' μ' st' H' e0 _ s i
  have e := e0.r
  have h' : SqL T.K H' q vs := sqL_le (sqL_le h e) s.r
  have h2' : SqL T.K H' u us := sqL_le (sqL_le h2 e) s.r
  have r' := RelCs.le e r
  have r2' := RelCs.le e r2
  refine ⟨fun w hw => ?_, fun hl => ⟨vs, us, h', h2', ?_⟩⟩
  · rw [zipGo_get] at hw
    split at hw
    · rename_i c d q1 q2
      cases hw
      obtain ⟨v, e1, e2⟩ := r'.get q1
      obtain ⟨v2, e3, e4⟩ := r2'.get q2
      refine ⟨⟨vs, us, v, v2, h', h2', e1, e3⟩, fun x H'' hy => ?_⟩
      obtain ⟨t, y, z, y1, y2, y3, y4, y5⟩ := hy
      subst y1 y3
      obtain ⟨s2, l2⟩ := s.frozen (o := .tup [y, z]) y2
      refine ⟨_, l2, s2, t, [y, z], rfl, .inl (.inl upd_same), ?_⟩
      have e5 := Option.some.inj (e1.symm.trans (y4 vs h'))
      have e6 := Option.some.inj (e3.symm.trans (y5 us h2'))
      subst e5 e6
      exact ⟨_, _, rfl, RelC.le l2.r e2, _, _, rfl, RelC.le l2.r e4, rfl⟩
    · cases hw
  · have := zipGo_len cs ds
    rw [← r'.length, ← r2'.length]
    omega
theorem wk_zipT {K : PySem.W.Frag} (hK : K = T.K) {cs ds : List C} {vs us : List V} {q u : Addr} (h : SqT T.K R q vs) (r : RelCs T R cs vs) (h2 : SqT T.K R u us) (r2 : RelCs T R ds us) : Wk T (RZ.ItzT K q u) none (zipGo cs ds) R μ := by
  subst hK
  intro Pr R' μ' st' H' e0 _ s i
  have e := e0.r
  have h' : SqT T.K H' q vs := sqT_le (sqT_le h e) s.r
  have h2' : SqT T.K H' u us := sqT_le (sqT_le h2 e) s.r
  have r' := RelCs.le e r
  have r2' := RelCs.le e r2
  refine ⟨fun w hw => ?_, fun hl => ⟨vs, us, h', h2', ?_⟩⟩
  · rw [zipGo_get] at hw
    split at hw
    · rename_i c d q1 q2
      cases hw
      obtain ⟨v, e1, e2⟩ := r'.get q1
      obtain ⟨v2, e3, e4⟩ := r2'.get q2
      refine ⟨⟨vs, us, v, v2, h', h2', e1, e3⟩, fun x H'' hy => ?_⟩
      obtain ⟨t, y, z, y1, y2, y3, y4, y5⟩ := hy
      subst y1 y3
      obtain ⟨s2, l2⟩ := s.frozen (o := .tup [y, z]) y2
      refine ⟨_, l2, s2, t, [y, z], rfl, .inl (.inl upd_same), ?_⟩
      have e5 := Option.some.inj (e1.symm.trans (y4 vs h'))
      have e6 := Option.some.inj (e3.symm.trans (y5 us h2'))
      subst e5 e6
      exact ⟨_, _, rfl, RelC.le l2.r e2, _, _, rfl, RelC.le l2.r e4, rfl⟩
    · cases hw
  · have := zipGo_len cs ds
    rw [← r'.length, ← r2'.length]
    omega
theorem snd_zip {elts : List Expr} {kk : Nat} {tpos : Pos} (c : Ctx T n N nms Wx X) (hx : glB nms "zip" = true) (hm : T.mg "zip" = none) (hs : notStar a = true) (hs2 : notStar b = true) (ha : PE X a (rdV T Wx A.v)) (hb : PE X b (rdV T Wx B.v)) :
    PI X (.Tuple elts kk tpos) (.Call (.Name "zip" p) [a, b] [] pos) (rdI T Wx (fun _ => none) fun env st => (A.v env st).bind fun x st1 => (B.v env st1).bind fun y st2 => match x, y with
      | .c (.lst cs), .c (.lst ds) => .ok (zipGo cs ds) st2 | .c (.tup cs), .c (.tup ds) => .ok (zipGo cs ds) st2 | _, _ => .stuck) := by
  obtain ⟨hg, hd, _⟩ := c.gl hx
  refine pi_mono (RZ.pi_zipA hg (by rw [c.mg]; exact hm) (pa_cons ha (pa_cons hb pa_nil (star_of hs2)) (star_of hs)) (star_of hs) (star_any_of pos (by simp [hs2]))) fun σ H Q h => ?_
  obtain ⟨Pr, R, μ, env, st, be, hp⟩ := h
  refine rdV.bindV be hp fun R1 μ1 w st1 H1 v l1 b1 r p => ?_
  refine rdV.bindV b1 p fun R2 μ2 w2 st2 H2 v2 l2 b2 r2 p => ?_
  replace r := RelW.le l2 r
  split at p
  · obtain ⟨q, vs, rfl, h1, h2⟩ := r
    obtain ⟨q', vs', rfl, h1', h2'⟩ := r2
    exact ⟨q, q', vs, vs', rfl, .inl ⟨.of (b2.s.r _ _ h1), .of (b2.s.r _ _ h1'), p.ok b2.s _ (wk_zip c.K (.of h1) h2 (.of h1') h2')⟩⟩
  · obtain ⟨q, vs, rfl, h1, h2⟩ := r
    obtain ⟨q', vs', rfl, h1', h2'⟩ := r2
    exact ⟨q, q', vs, vs', rfl, .inr ⟨by rw [c.K]; exact sqT_le h1 b2.s.r, by rw [c.K]; exact sqT_le h1' b2.s.r, p.ok b2.s _ (wk_zipT c.K h1 h2 h1' h2')⟩⟩
  · exact p.elim
end
end Ev

/-! Ul: a list is unpacked. -/
namespace Ev
open PySem PySem.Spec PyProof.Rows L2
section
variable {prog : Program} {w : World} {A : Around} {E : Value → Shared → Prop} {s : Shared}
theorem ul_draw {J p : Addr} {vs : Array Value} (hne : p ≠ J) : ∀ (k i : Nat) (s0 : Shared) (P : List Value → Shared → Prop), s0.heap.IsListIter J p i → s0.heap.IsList p vs → i + k ≤ vs.size →
    (∀ h1, h1.IsListIter J p (i + k) → Heap.SameBut J s0.heap h1 → P ((vs.toList.drop i).take k) { s0 with heap := h1 }) → wpAny (model prog w) A (draw (.ref J) k) P E s0
  | 0, i, s0, P, hj, _, _, hP => wpAny_pure (by simpa using hP s0.heap hj (Heap.SameBut.refl ..))
  | k + 1, i, s0, P, hj, hp, hle, hP => by
    have hi : i < vs.size := by omega
    show wpAny _ _ (pyNext (.ref J) >>= _) P E s0
    refine wpAny_bind (wpAny_pyNext_list_item hj hp (x := vs[i]) (by simp [hi]) fun g1 j1 b1 => ?_)
    refine wpAny_bind (wpAny_holding (ul_draw hne k (i + 1) _ _ j1 (hp.extBut b1.extBut hne) (by omega) fun g2 j2 b2 => wpAny_pure ?_))
    have e : vs.toList.drop i = vs[i] :: vs.toList.drop (i + 1) := by simp [List.drop_eq_getElem_cons, hi]
    have z := hP g2 (by rw [show i + (k + 1) = i + 1 + k by omega]; exact j2) (b1.trans b2)
    rwa [e, List.take_succ_cons] at z
theorem ul_items {p : Addr} {vs : Array Value} {P : List Value → Shared → Prop} (hh : A.handled = none) (hp : s.heap.IsList p vs)
    (hP : ∀ g, Heap.ExtBut s.heap.objs.size s.heap g → P vs.toList { s with heap := g }) : wpAny (model prog w) A (unpackItems (.ref p) vs.size none) P E s := by
  have hlt : p ≠ s.heap.objs.size := by obtain ⟨_, ho, _⟩ := hp; exact Nat.ne_of_lt (Heap.lt_size ho)
  unfold unpackItems notIterableAtAll
  refine wpAny_bind (wpAny_bind (wpAny_specialOf hp.typeIs slot_list_iter.lookup (wpAny_pure ?_)))
  dsimp only
  refine wpAny_bind (wpAny_holding (wpAny_pyIter_list hp ?_))
  refine wpAny_bind (wpAny_holding (ul_draw hlt vs.size 0 _ _ ⟨_, Heap.get?_push_size _ rfl, rfl, rfl⟩ (hp.push _) (by omega) fun g1 j1 b1 => ?_))
  have e : List.take vs.size (List.drop 0 vs.toList) = vs.toList := by
    rw [List.drop_zero, List.take_of_length_le (by simp)]
  rw [e, if_neg (by simp)]
  have p1 : g1.IsList p vs := (hp.push _).extBut b1.extBut hlt
  refine wpAny_bind (wpAny_holding (wpAny_pyNext_list_end hh j1 p1 (by simp) fun g2 b2 => ?_))
  dsimp only [Option.isSome]
  exact wpAny_pure (hP g2 fun b o hb ho => b2 b o hb (b1.extBut b o hb (Heap.get?_push_of_some _ ho)))
theorem ul_assign {env : PySem.Env} {es : List Expr} {k : Nat} {pos : Pos} {p : Addr} {vs : Array Value} {P : Unit → Shared → Prop} (hh : A.handled = none) (hp : s.heap.IsList p vs)
    (hn : (assignEach es env).length = vs.size) (hst : (assignEach es env).findIdx? (·.1) = none)
    (h : ∀ g, Heap.ExtBut s.heap.objs.size s.heap g → wpAny (model prog w) A (assignInOrder ((assignEach es env).map (·.2)) vs.toList) P E { s with heap := g }) :
    wpAny (model prog w) A (assign (.Tuple es k pos) env (.ref p)) P E s := by
  rw [assign_Tuple]
  refine wpAny_bind (wpAny_standAt ?_)
  unfold unpack
  rw [hn, hst]
  exact wpAny_bind (wpAny_holding (ul_items hh hp h))
end
section
variable {X : Cx}
/-- (a, b, ..) = a tuple or a list of that length -/
def gSq (K : PySem.W.Frag) (n : Nat) (t : TGs) : TG := fun v σ H Q => ∃ a xs, v = .ref a ∧ (SqT K H a xs ∨ SqL K H a xs) ∧ xs.length = n ∧ t xs σ H Q
theorem pg_sq {es : List Expr} {k : Nat} {t : TGs} {n : Nat} {pos : Pos} (hc : X.calm = true) (h : PGs X es t)
    (hn : (assignEach es X.env).length = n) (hst : (assignEach es X.env).findIdx? (·.1) = none) : PG X (.Tuple es k pos) (gSq X.K n t) := by
  refine ⟨fun pins s σ H v u Q I r hw => ?_⟩
  obtain ⟨a, xs, rfl, hq, hl, hw⟩ := hw
  cases r
  rcases hq with hq | hq
  · obtain ⟨its, rv, ht, hz⟩ := I.tuple hq
    refine assign_Tuple_tuple (I.ok.hd hc) ht (by simp [hn, ← hl, rv.length]) hst fun g hx => ?_
    exact h.run pins _ σ H xs _ Q (I.kept (t' := s.toks) fun b o e => hx b o (Nat.ne_of_lt (Heap.lt_size e)) e) (by simpa using rv) hw
  · obtain ⟨its, rv, ht, hz⟩ := I.list hq
    refine ul_assign (I.ok.hd hc) ht.isList (by simp [hn, ← hl, rv.length]) hst fun g hx => ?_
    exact h.run pins _ σ H xs _ Q (I.kept (t' := s.toks) fun b o e => hx b o (Nat.ne_of_lt (Heap.lt_size e)) e) (by simpa using rv) hw
end
end Ev

/-! Lc: targets; comprehensions. -/
namespace Ev
open PySem PySem.Spec PyProof.Rows L2
section
variable {T : Tb} {R R' Pr H : Hp} {μ : Mu} {st : S} {X : Cx} {σ : L2.St} {Wx : WX} {n : Nat} {N : List PySem.Str} {nms : List (PySem.Str × NameKind)} {fa : Nat → Option Addr} {cl : Cl}
variable {a b c : Expr} {es : List Expr} {pos p apos : Pos} {A B D : Sm} {tg : Expr}
/-! ### targets -/
def locB (nms : List (PySem.Str × NameKind)) (x : PySem.Str) : Bool := match nms.lookup x with | some .local => true | some .cell => true | _ => false
theorem CtxB.loc (c : CtxB T N nms Wx X) {x : PySem.Str} (h : locB nms x = true) : Loc X.env.scope x ∧ (X.fn x = true ∨ X.env.scope.names.lookup x = some .local) := by
  unfold locB at h
  cases e : nms.lookup x with
  | none => rw [e] at h; cases h
  | some kd =>
    rw [e] at h
    obtain ⟨kd', e1, e2⟩ := c.sc x kd e
    cases kd <;> first | cases h | skip
    · rcases e2 with rfl | ⟨q, _⟩
      · exact ⟨.inl e1, .inr e1⟩
      · cases q
    · rcases e2 with rfl | ⟨q, _⟩
      · exact ⟨.inr e1, .inl (c.fn x e)⟩
      · cases q
mutual
def slots : Tg → List Nat
  | .n i => [i] | .t a => slots a | .nil => [] | .cons a b => slots a ++ slots b
end
def tgOk : Expr → Bool
  | .Name _ _ => true | .Tuple _ _ _ => true | _ => false
theorem EnvR.len {env : Env} (e : EnvR T R μ env σ) (hc : T.exa = none) : env.length = σ.length := by
  have h := e.1
  unfold XcR at h
  rw [hc] at h
  exact h
theorem EnvR.len_le {env : Env} (e : EnvR T R μ env σ) : σ.length ≤ env.length := by
  have h := e.1
  unfold XcR at h
  split at h
  · omega
  · obtain ⟨x, h1, _⟩ := h
    omega
theorem EnvR.set {env : Env} (e : EnvR T R μ env σ) {w : W} {v : V} (r : RelW T R μ w v) (i : Nat) (hc : T.exa = none ∨ (i < σ.length ∧ ∀ e, T.exa = some e → e.j ≠ some i)) : EnvR T R μ (env.set i (some w)) (σ.set i (some v)) := by
  have hle := e.len_le
  refine ⟨?_, fun j u hj' h => ?_⟩
  · have h := e.1
    unfold XcR at h ⊢
    split
    · rename_i z
      rw [z] at h
      rw [List.length_set, List.length_set]; exact h
    · rename_i a z
      rw [z] at h
      obtain ⟨x, h1, h2, h4, h3⟩ := h
      have hi : i < σ.length ∧ ∀ e, T.exa = some e → e.j ≠ some i := by
        rcases hc with q | q
        · rw [q] at z; cases z
        · exact q
      have hi1 := hi.1
      exact ⟨x, by rw [List.length_set, List.length_set]; exact h1, by rw [List.length_set, List.getElem?_set_ne (by omega)]; exact h2, fun j e => by
        rw [List.getElem?_set_ne fun q => hi.2 _ z (by rw [q]; exact e)]
        exact h4 j e, h3⟩
  rw [List.length_set] at hj'
  by_cases hj : i = j
  · subst hj
    rw [List.getElem?_set_self (by omega)] at h
    cases h
    exact ⟨v, by rw [List.getElem?_set_self hj'], r⟩
  · rw [List.getElem?_set_ne hj] at h
    obtain ⟨v', e1, e2⟩ := e.2 j u hj' h
    exact ⟨v', by rw [List.getElem?_set_ne hj]; exact e1, e2⟩
theorem wipe_set (σ : L2.St) (i : Nat) (v : Option V) : ∀ {vs : List Nat}, i ∈ vs → wipe (σ.set i v) vs = wipe σ vs
  | [], h => by cases h
  | u :: vs, h => by
    unfold wipe
    by_cases hi : i ∈ vs
    · rw [wipe_set σ i v hi]
    · have e : i = u := by
        rcases List.mem_cons.mp h with e | e
        · exact e
        · exact absurd e hi
      subst e
      have key : ∀ vs : List Nat, i ∉ vs → wipe (σ.set i v) vs = (wipe σ vs).set i v := fun vs => by
        induction vs with
        | nil => intro _; rfl
        | cons u vs ih =>
          intro hn
          rw [List.mem_cons, not_or] at hn
          unfold wipe
          rw [ih hn.2, List.set_comm _ _ hn.1]
      rw [key vs hi, List.set_set]
def gT (T : Tb) (f : W → Env → Option Env) (sl : List Nat) : TG := fun v σ H Q => ∃ Pr R μ env env' st w, Be T Pr R μ env st σ H ∧ RelW T R μ w v ∧ f w env = some env' ∧ ∀ σ', EnvR T R μ env' σ' → (∀ vs, (∀ i ∈ sl, i ∈ vs) → wipe σ' vs = wipe σ vs) → Q σ' H
def gTs (T : Tb) (f : List W → Env → Option Env) (sl : List Nat) : TGs := fun v σ H Q => ∃ Pr R μ env env' st w, Be T Pr R μ env st σ H ∧ RelWs T R μ w v ∧ f w env = some env' ∧ ∀ σ', EnvR T R μ env' σ' → (∀ vs, (∀ i ∈ sl, i ∈ vs) → wipe σ' vs = wipe σ vs) → Q σ' H
theorem pg_mono {e : Expr} {t u : TG} (h : PG X e t) (i : ∀ v σ H Q, u v σ H Q → t v σ H Q) : PG X e u := ⟨fun pins s σ H v w Q I r q => h.run pins s σ H v w Q I r (i v σ H Q q)⟩
theorem pgs_mono {e : List Expr} {t u : TGs} (h : PGs X e t) (i : ∀ v σ H Q, u v σ H Q → t v σ H Q) : PGs X e u := ⟨fun pins s σ H v w Q I r q => h.run pins s σ H v w Q I r (i v σ H Q q)⟩
theorem snd_tgn (c : Ctx T n N nms Wx X) {x : PySem.Str} {i : Nat} (hi : N[i]? = some x) (hx : locB nms x = true) (st : S) : PG X (.Name x pos) (gT T (bindTg st (.n i)) [i]) := by
  obtain ⟨h1, h2⟩ := c.loc hx
  refine pg_mono (pg_name (i := i) (by rw [c.hN]; exact c.nd) (by rw [c.hN]; exact hi) h1 h2) fun v σ H Q h => ?_
  obtain ⟨Pr, R, μ, env, env', st', w, be, r, e, q⟩ := h
  have e : some (env.set i (some w)) = some env' := by unfold bindTg at e; exact e
  cases e
  exact q _ (be.e.set r i (.inl c.cold)) fun vs hv => wipe_set σ i _ (hv i (List.mem_singleton.mpr rfl))
theorem snd_tgnil (st : S) : PGs X [] (gTs T (bindTgs st .nil) []) := by
  refine pgs_mono pgs_nil fun v σ H Q h => ?_
  obtain ⟨Pr, R, μ, env, env', st', w, be, r, e, q⟩ := h
  cases w with
  | nil =>
    unfold bindTgs at e
    cases e
    cases r
    exact ⟨rfl, q _ be.e fun _ _ => rfl⟩
  | cons _ _ => unfold bindTgs at e; cases e
theorem snd_tgcons (st : S) {t u : Tg} (h1 : PG X a (gT T (bindTg st t) (slots t))) (h2 : PGs X es (gTs T (bindTgs st u) (slots u))) (hs : notStar a = true) : PGs X (a :: es) (gTs T (bindTgs st (.cons t u)) (slots t ++ slots u)) := by
  refine pgs_mono (pgs_cons h1 h2 (by cases a <;> first | rfl | cases hs)) fun v σ H Q h => ?_
  obtain ⟨Pr, R, μ, env, env', st', w, be, r, e, q⟩ := h
  cases w with
  | nil => unfold bindTgs at e; cases e
  | cons w ws =>
    unfold bindTgs at e
    split at e
    · rename_i env1 e1
      obtain ⟨v, vs, rfl, r1, r2⟩ := r
      refine ⟨v, vs, rfl, Pr, R, μ, env, env1, st', w, be, r1, e1, fun σ1 b1 w1 => ?_⟩
      refine ⟨Pr, R, μ, env1, env', st', ws, ⟨b1, be.s⟩, r2, e, fun σ2 b2 w2 => q σ2 b2 fun vs hv => ?_⟩
      rw [w2 vs fun i hi => hv i (List.mem_append_right _ hi), w1 vs fun i hi => hv i (List.mem_append_left _ hi)]
    · cases e
theorem assignEach_ok {env : PySem.Env} : ∀ {es : List Expr}, es.all notStar = true → (assignEach es env).length = es.length ∧ (assignEach es env).findIdx? (·.1) = none
  | [], _ => ⟨rfl, rfl⟩
  | e :: es, h => by
    simp only [List.all_cons, Bool.and_eq_true] at h
    obtain ⟨i1, i2⟩ := assignEach_ok (env := env) h.2
    have : assignEach (e :: es) env = (false, assign e env) :: assignEach es env := by cases e <;> first | rfl | cases h.1
    rw [this]
    refine ⟨by simp [i1], ?_⟩
    rw [List.findIdx?_cons, i2]
    rfl
theorem bindTgs_len {st : S} : ∀ {u : Tg} {ws : List W} {env env' : Env} {k : Nat}, bindTgs st u ws env = some env' → bindTgs st u ws env = some env' ∧ True := fun h => ⟨h, trivial⟩
def tgLen : Tg → Nat
  | .cons _ b => tgLen b + 1 | _ => 0
theorem bind_len {st : S} : ∀ (u : Tg) (ws : List W) (env env' : Env), bindTgs st u ws env = some env' → ws.length = tgLen u
  | .nil, [], _, _, _ => rfl
  | .nil, _ :: _, _, _, h => by unfold bindTgs at h; cases h
  | .cons t u, [], _, _, h => by unfold bindTgs at h; cases h
  | .cons t u, w :: ws, env, env', h => by
    unfold bindTgs at h
    split at h
    · show ws.length + 1 = tgLen u + 1
      rw [bind_len u ws _ _ h]
    · cases h
  | .n _, ws, _, _, h => by unfold bindTgs at h; cases ws <;> cases h
  | .t _, ws, _, _, h => by unfold bindTgs at h; cases ws <;> cases h
theorem snd_tgt (c : Ctx T n N nms Wx X) {k : Nat} {t : Tg} (st : S) (h : PGs X es (gTs T (bindTgs st t) (slots t))) (hs : es.all notStar = true) (hl : tgLen t = es.length) : PG X (.Tuple es k pos) (gT T (bindTg st (.t t)) (slots t)) := by
  refine pg_mono (pg_sq (n := es.length) c.calm h (assignEach_ok hs).1 (assignEach_ok hs).2) fun v σ H Q h => ?_
  obtain ⟨Pr, R, μ, env, env', st', w, be, r, e, q⟩ := h
  have fin : ∀ {cs : List C} {vs : List V}, bindTgs st t (cs.map .c) env = some env' → RelCs T R cs vs → vs.length = es.length ∧ gTs T (bindTgs st t) (slots t) vs σ H Q := fun {cs vs} e h2 => by
    have hlen := bind_len _ _ _ _ e
    rw [List.length_map] at hlen
    exact ⟨by rw [← h2.length, hlen, hl], Pr, R, μ, env, env', st', cs.map .c, be, RelWs.ofC h2, e, q⟩
  cases w with
  | r j => unfold bindTg at e; cases e
  | c x =>
    unfold bindTg at e
    split at e
    · rename_i x' cs heq
      cases heq
      obtain ⟨p, vs, rfl, h1, h2⟩ := r
      exact ⟨p, vs, rfl, .inl (by rw [c.K]; exact sqT_le h1 be.s.r), fin e h2⟩
    · rename_i x' cs heq
      cases heq
      obtain ⟨p, vs, rfl, h1, h2⟩ := r
      exact ⟨p, vs, rfl, .inr (.of (be.s.r _ _ h1)), fin e h2⟩
    · rename_i x' cs heq
      cases heq
      obtain ⟨p, vs, rfl, h1, h2⟩ := r
      exact ⟨p, vs, rfl, .inr (by rw [c.K]; exact sqL_le h1 be.s.r), fin e h2⟩
    · cases e
/-! ### comprehensions -/
abbrev WF : WX := fun _ _ _ _ => False
def blkB (N : List PySem.Str) (nms : List (PySem.Str × NameKind)) (scope : Scope) (own : List (PySem.Str × Nat)) : Bool :=
  decide (scope.kind = .function) && scope.names.all (fun y => scope.names.lookup y.1 == some y.2) && own.all (fun p => N[p.2]? == some p.1)
    && scope.names.all (fun y => !(y.2 == .free) || nms.lookup y.1 == some .cell || nms.lookup y.1 == some .free)
    && scope.names.all (fun y => !(y.2 == .local || y.2 == .cell) || (own.map (·.1)).contains y.1 || !N.contains y.1)
theorem blk_ok (c : Ctx T n N nms Wx X) {scope : Scope} {own : List (PySem.Str × Nat)} (h : blkB N nms scope own = true) : BlkOk X.N X.env.scope scope own := by
  unfold blkB at h
  simp only [Bool.and_eq_true, List.all_eq_true, decide_eq_true_eq, beq_iff_eq, Bool.or_eq_true, Bool.not_eq_true', List.contains_iff_mem] at h
  obtain ⟨⟨⟨⟨h1, h2⟩, h3⟩, h4⟩, h5⟩ := h
  refine ⟨h1, h2, fun p hp => by rw [c.hN]; exact h3 p hp, fun y hy e => ?_, fun y hy e => ?_⟩
  · rcases h4 y hy with (q | q) | q
    · rw [e] at q; cases q
    · obtain ⟨kd', e1, e2⟩ := c.sc _ _ q
      rcases e2 with rfl | ⟨z, _⟩
      · exact .inl e1
      · cases z
    · obtain ⟨kd', e1, e2⟩ := c.sc _ _ q
      rcases e2 with rfl | ⟨_, rfl⟩
      · exact .inr e1
      · exact .inl e1
  · rcases h5 y hy with (q | q) | q
    · rw [Bool.or_eq_false_iff] at q
      rcases e with e | e
      · rw [e] at q; simp at q
      · rw [e] at q; simp at q
    · exact .inl (by simpa using q)
    · exact .inr (by rw [c.hN]; simpa using q)
theorem relS_of {sc : Scope} : ∀ {names : List (PySem.Str × NameKind)} {x : PySem.Str} {k : NameKind}, names.lookup x = some k →
    ∃ k', (names.map fun (n, k) => if (k == NameKind.free && sc.kind == .function && sc.names.lookup n == some .cell) then (n, NameKind.cell) else (n, k)).lookup x = some k' ∧ (k' = k ∨ (k = .free ∧ k' = .cell))
  | [], _, _, h => by simp at h
  | (m, k₀) :: r, x, k, h => by
    simp only [List.map_cons, List.lookup_cons] at h ⊢
    split
    · rename_i hc
      simp only [List.lookup_cons]
      cases hx : x == m with
      | true =>
        rw [hx] at h; cases h
        simp only [Bool.and_eq_true, beq_iff_eq] at hc
        exact ⟨.cell, rfl, .inr ⟨hc.1.1, rfl⟩⟩
      | false =>
        rw [hx] at h
        exact relS_of h
    · simp only [List.lookup_cons]
      cases hx : x == m with
      | true => rw [hx] at h; cases h; exact ⟨_, rfl, .inl rfl⟩
      | false => rw [hx] at h; exact relS_of h
theorem Ctx.blk (c : Ctx T n N nms Wx X) {scope : Scope} {s : Shared} {H : Hp} {C : Addr} {cl : List (PySem.Str × Addr)} {fp : List Addr} : Ctx T n N scope.names WF (X.blk s H scope (compEnvC scope cl C X.env) fp) where
  P := c.P
  w := c.w
  K := c.K
  mg := c.mg
  base := c.base
  calm := c.calm
  room := c.room
  cold := c.cold
  lam := c.lam
  un := c.un
  hN := c.hN
  nd := c.nd
  sc := fun x kd h => relS_of (sc := X.env.scope) h
  takes := fun u s' ⟨_, _, _, _, _, _, _, _, _, _, _, _, _, _, _, _, w⟩ => w.elim
  fn := fun x h => by
    show (scope.names.lookup x == some .cell) = true
    rw [h]; rfl
  gu := c.gu
theorem Post.tame {α : Type} {rel : Hp → Mu → α → Hp → Prop} {r : Res α} {Wx' : WX} {σ' : L2.St} (h : Post T Pr Wx σ rel R μ r.tame) : Post T Pr Wx' σ' rel R μ r := by
  cases r with
  | ok a st => exact h
  | ex c x st => exact h.elim
  | stuck => exact h
/-- somebody watches more -/
theorem Sim.less {Pr' : Hp} (s : Sim T R Pr' μ st H) (h : ∀ a o, Pr a = some o → Pr' a = some o) : Sim T R Pr μ st H where
  r := s.r
  p := fun a o e => s.p a o (h a o e)
  c := fun n x hc => by
    obtain ⟨a, h1, h2, h3, h4⟩ := s.c n x hc
    refine ⟨a, h1, h2, ?_, h4⟩
    cases q : Pr a with
    | none => rfl
    | some o => rw [h a o q] at h3; cases h3
  inj := s.inj
  dom := s.dom
  low := s.low
  d := fun a o e => s.d a o (h a o e)
  t := s.t
  nt := s.nt
theorem Post.more {Pr' : Hp} {α : Type} {rel : Hp → Mu → α → Hp → Prop} {r : Res α} (h : Post T Pr Wx σ rel R μ r) (l : ∀ a o, Pr a = some o → Pr' a = some o) :
    Post T Pr' Wx σ (fun R1 μ1 a H1 => ∃ st1, Sim T R1 Pr' μ1 st1 H1 ∧ r = .ok a st1 ∧ Le R μ R1 μ1 ∧ rel R1 μ1 a H1) R μ r := by
  cases r with
  | ok a st => exact fun R' μ' H' e s => ⟨st, s, rfl, e, h R' μ' H' e (s.less l)⟩
  | ex c x st => exact fun R' μ' H' d e s => h R' μ' H' d e (s.less l)
  | stuck => exact h
theorem wipe_same {env : Env} {σ : L2.St} (hc : T.exa = none) (e : EnvR T R μ env σ) : ∀ vs : List Nat, EnvR T R μ (wipeE env vs) (wipe σ vs)
  | [] => e
  | v :: vs => by
    have ih := wipe_same hc e vs
    have il := ih.len hc
    refine ⟨by unfold XcR; rw [hc]; show ((wipeE env vs).set v none).length = ((wipe σ vs).set v none).length; rw [List.length_set, List.length_set]; exact il, fun i w hi' h => ?_⟩
    have hi' : i < ((wipe σ vs).set v none).length := hi'
    rw [List.length_set] at hi'
    have h : ((wipeE env vs).set v none)[i]? = some (some w) := h
    by_cases hi : v = i
    · subst hi
      by_cases hl : v < (wipeE env vs).length
      · rw [List.getElem?_set_self hl] at h; cases h
      · rw [List.getElem?_eq_none (by rw [List.length_set]; omega)] at h; cases h
    · rw [List.getElem?_set_ne hi] at h
      obtain ⟨u, e1, e2⟩ := ih.2 i w hi' h
      exact ⟨u, by show ((wipe σ vs).set v none)[i]? = _; rw [List.getElem?_set_ne hi]; exact e1, e2⟩
theorem EnvR.le {env : Env} (e : EnvR T R μ env σ) {μ' : Mu} (l : Le R μ R' μ') : EnvR T R' μ' env σ := e.leR l
/-- the watched list gets an item -/
theorem Sim.watch {q : Addr} {xs ys : List V} (s : Sim T R (upd Pr q (.lst xs)) μ st H) : Sim T R (upd Pr q (.lst ys)) μ st (upd H q (.lst ys)) := by
  have hq : H q = some (.lst xs) := s.p q _ upd_same
  have rq : R q = none := (s.d q _ upd_same).1
  refine ⟨fun a o e => ?_, fun a o e => ?_, fun n x hc => ?_, s.inj, s.dom, s.low, fun a o e => ?_, tabs_upd s.t (fun ps e => by rw [hq] at e; cases e) (fun φ e => by rw [hq] at e; cases e), s.nt⟩
  · rw [upd_ne fun z => by rw [z, rq] at e; cases e]; exact s.r a o e
  · by_cases z : a = q
    · subst z; rw [upd_same] at e ⊢; exact e
    · rw [upd_ne z] at e ⊢; exact s.p a o (by rw [upd_ne z]; exact e)
  · obtain ⟨a, h1, h2, h3, h4⟩ := s.c n x hc
    have z : a ≠ q := fun z => by rw [z, upd_same] at h3; cases h3
    refine ⟨a, h1, h2, by rw [upd_ne z] at h3 ⊢; exact h3, h4.heap (upd_ne z) fun dx k => ?_⟩
    rw [upd_ne fun z => by rw [z, hq] at k; cases k]; exact k
  · by_cases z : a = q
    · subst z
      rw [upd_same] at e; cases e
      exact ⟨rq, .inl ⟨_, rfl⟩⟩
    · rw [upd_ne z] at e
      exact s.d a o (by rw [upd_ne z]; exact e)
theorem Sim.watch0 {q : Addr} {ys : List V} (s : Sim T R Pr μ st H) (hq : H q = none) : Sim T R (upd Pr q (.lst ys)) μ st (upd H q (.lst ys)) := by
  have s2 := s.ext (upd_ext (o := .lst ys) hq)
  refine ⟨s2.r, fun a o e => ?_, fun n x hc => ?_, s.inj, s.dom, s.low, fun a o e => ?_, s2.t, s.nt⟩
  · by_cases z : a = q
    · subst z; rw [upd_same] at e ⊢; exact e
    · rw [upd_ne z] at e ⊢; exact s.p a o e
  · obtain ⟨a, h1, h2, h3, h4⟩ := s2.c n x hc
    have z : a ≠ q := fun z => by
      obtain ⟨a', k1, _, _, k4⟩ := s.c n x hc
      obtain ⟨ob, hob⟩ := k4.there
      rw [h1] at k1; cases k1
      rw [z, hq] at hob; cases hob
    exact ⟨a, h1, h2, by rw [upd_ne z]; exact h3, h4⟩
  · by_cases z : a = q
    · subst z; rw [upd_same] at e; cases e; exact ⟨s.rn hq, .inl ⟨_, rfl⟩⟩
    · rw [upd_ne z] at e; exact s.d a o e
/-- nobody watches it any more: the heap ahead of it -/
theorem Sim.unwatch {q : Addr} {xs : List V} (s : Sim T R (upd Pr q (.lst xs)) μ st H) (hp : Pr q = none) : ∃ H0, H = upd H0 q (.lst xs) ∧ H0 q = none ∧ Sim T R Pr μ st H0 := by
  have hq : H q = some (.lst xs) := s.p q _ upd_same
  have rq : R q = none := (s.d q _ upd_same).1
  have ne : ∀ a, a ≠ q → (fun a => if a = q then none else H a) a = H a := fun a z => if_neg z
  refine ⟨fun a => if a = q then none else H a, ?_, if_pos rfl, fun a o e => ?_, fun a o e => ?_, fun n x hc => ?_, s.inj, s.dom, s.low, fun a o e => ?_, tabs_del s.t (fun ps e => by rw [hq] at e; cases e) (fun φ e => by rw [hq] at e; cases e), s.nt⟩
  · funext a
    by_cases z : a = q
    · subst z; rw [upd_same]; exact hq
    · rw [upd_ne z]; exact (ne a z).symm
  · have z : a ≠ q := fun z => by rw [z, rq] at e; cases e
    rw [if_neg z]; exact s.r a o e
  · have z : a ≠ q := fun z => by rw [z, hp] at e; cases e
    rw [if_neg z]; exact s.p a o (by rw [upd_ne z]; exact e)
  · obtain ⟨a, h1, h2, h3, h4⟩ := s.c n x hc
    have z : a ≠ q := fun z => by rw [z, upd_same] at h3; cases h3
    refine ⟨a, h1, h2, by rw [upd_ne z] at h3; exact h3, h4.heap (ne a z) fun dx k => ?_⟩
    rw [if_neg fun z => by rw [z, hq] at k; cases k]; exact k
  · have z : a ≠ q := fun z => by rw [z, hp] at e; cases e
    exact s.d a o (by rw [upd_ne z]; exact e)
theorem Sim.watchO {q : Addr} {o : HO} (ho : (∃ xs, o = .lst xs) ∨ ∃ kv, o = .dK kv) (s : Sim T R Pr μ st H) (hq : H q = none) : Sim T R (upd Pr q o) μ st (upd H q o) := by
  have s2 := s.ext (upd_ext (o := o) hq)
  refine ⟨s2.r, fun a u e => ?_, fun n x hc => ?_, s.inj, s.dom, s.low, fun a u e => ?_, s2.t, s.nt⟩
  · by_cases z : a = q
    · subst z; rw [upd_same] at e ⊢; exact e
    · rw [upd_ne z] at e ⊢; exact s.p a u e
  · obtain ⟨a, h1, h2, h3, h4⟩ := s2.c n x hc
    have z : a ≠ q := fun z => by
      obtain ⟨a', k1, _, _, k4⟩ := s.c n x hc
      obtain ⟨ob, hob⟩ := k4.there
      rw [h1] at k1; cases k1
      rw [z, hq] at hob; cases hob
    exact ⟨a, h1, h2, by rw [upd_ne z]; exact h3, h4⟩
  · by_cases z : a = q
    · subst z; rw [upd_same] at e; cases e; exact ⟨s.rn hq, ho⟩
    · rw [upd_ne z] at e; exact s.d a u e
theorem Sim.unwatchO {q : Addr} {o : HO} (ho : (∃ xs, o = .lst xs) ∨ ∃ kv, o = .dK kv) (s : Sim T R (upd Pr q o) μ st H) (hp : Pr q = none) : ∃ H0, H = upd H0 q o ∧ H0 q = none ∧ Sim T R Pr μ st H0 := by
  have hq : H q = some o := s.p q _ upd_same
  have rq : R q = none := (s.d q _ upd_same).1
  have no : ∀ x, o ≠ .own x := fun x z => by rcases ho with ⟨_, e⟩ | ⟨_, e⟩ <;> (rw [z] at e; cases e)
  have ne : ∀ a, a ≠ q → (fun a => if a = q then none else H a) a = H a := fun a z => if_neg z
  refine ⟨fun a => if a = q then none else H a, ?_, if_pos rfl, fun a u e => ?_, fun a u e => ?_, fun n x hc => ?_, s.inj, s.dom, s.low, fun a u e => ?_, tabs_del s.t (fun ps e => by rcases ho with ⟨_, z⟩ | ⟨_, z⟩ <;> (rw [z] at hq; rw [hq] at e; cases e)) (fun φ e => by rcases ho with ⟨_, z⟩ | ⟨_, z⟩ <;> (rw [z] at hq; rw [hq] at e; cases e)), s.nt⟩
  · funext a
    by_cases z : a = q
    · subst z; rw [upd_same]; exact hq
    · rw [upd_ne z]; exact (ne a z).symm
  · have z : a ≠ q := fun z => by rw [z, rq] at e; cases e
    rw [if_neg z]; exact s.r a u e
  · have z : a ≠ q := fun z => by rw [z, hp] at e; cases e
    rw [if_neg z]; exact s.p a u (by rw [upd_ne z]; exact e)
  · obtain ⟨a, h1, h2, h3, h4⟩ := s.c n x hc
    have z : a ≠ q := fun z => by rw [z, upd_same] at h3; cases h3
    refine ⟨a, h1, h2, by rw [upd_ne z] at h3; exact h3, h4.heap (ne a z) fun dx k => ?_⟩
    rw [if_neg fun z => by rw [z, hq] at k; exact no _ (Option.some.inj k)]; exact k
  · have z : a ≠ q := fun z => by rw [z, hp] at e; cases e
    exact s.d a u (by rw [upd_ne z]; exact e)
theorem post_map {α β : Type} {rel : Hp → Mu → β → Hp → Prop} {r : Res α} {g : α → β} (h : Post T Pr Wx σ rel R μ (r.bind fun a st => .ok (g a) st)) : Post T Pr Wx σ (fun R μ a H => rel R μ (g a) H) R μ r := by
  cases r with
  | ok a st => exact h
  | ex c x st => exact h
  | stuck => exact h
theorem bind_st (st st2 : S) : ∀ t : Tg, (∀ w e, bindTg st t w e = bindTg st2 t w e) ∧ ∀ ws e, bindTgs st t ws e = bindTgs st2 t ws e := fun t => by
  induction t with
  | n i => exact ⟨fun _ _ => by unfold bindTg; rfl, fun ws _ => by cases ws <;> simp only [bindTgs]⟩
  | t a ih => exact ⟨fun w _ => by unfold bindTg; cases w <;> simp only [ih.2], fun ws _ => by cases ws <;> simp only [bindTgs]⟩
  | nil => exact ⟨fun w _ => by unfold bindTg; rfl, fun ws _ => by cases ws <;> simp only [bindTgs]⟩
  | cons a b iha ihb => exact ⟨fun w _ => by unfold bindTg; rfl, fun ws e => by cases ws <;> simp only [bindTgs, iha.1, ihb.2]⟩
theorem lcGo_lk {lk : S → Bool} {tg : Tg} {c : Env → S → Res Bool} {e : Env → S → Res W} {env : Env} {ws : List W} (h : lk st = false) : lcGo lk tg c e env ws st = .stuck := by
  cases ws with
  | nil => unfold lcGo; rw [h]; rfl
  | cons w ws =>
    unfold lcGo
    rw [h]
    cases bindTg st tg w env <;> rfl
theorem forGo_lk {lk : S → Bool} {tg : Tg} {b : Env → S → Res Fl} {env : Env} {ws : List W} (h : lk st = false) : forGo lk tg b ws env st = .stuck := by
  cases ws with
  | nil => unfold forGo; rw [h]; rfl
  | cons w ws =>
    unfold forGo
    rw [h]
    cases bindTg st tg w env <;> rfl
theorem snd_lcI (hcold : T.exa = none) {f : Env → S → Res (List W)} {kf : Env → Option Nat} {tt : Env → S → Res Bool} {te : Env → S → Res W} {vs : List Nat} {t : Tg} (hv : ∀ i ∈ slots t, i ∈ vs) {σ : L2.St} {H : Hp} {Q : VK}
    (h : rdF T Wx (fun env st => (f env st).bind fun ws st1 => if ws.length ≤ 16777216 then lcGo (lkOk (kf env) ws) t tt te (wipeE env vs) ws st1 else .stuck) σ H Q) :
    tLc (rdI T Wx kf f) (gT T (bindTg [] t) (slots t)) (rdT T WF tt) (rdV T WF te) vs σ H Q := by
  obtain ⟨Pr, R, μ, env, st, be, hp⟩ := h
  refine ⟨Pr, R, μ, env, st, be, hp.bind' fun R1 μ1 ws st1 H1 l1 s1 p J wk D hD => ?_⟩
  have be1 := be.e.le l1
  split at p
  · rename_i hw
    have pD : Pr D = none := s1.pn hD
    refine ⟨fun i m H' => m = ws.length - i ∧ i ≤ ws.length ∧ ∃ R2 μ2 st2 done acc, Le R1 μ1 R2 μ2 ∧ Sim T R2 (upd Pr D (.lst acc)) μ2 st2 H' ∧ RelWs T R2 μ2 done acc ∧ done.length ≤ i ∧
      Post T Pr Wx σ (fun R' μ' r H'' => RF T Q R' μ' (done ++ r) H'') R2 μ2 (lcGo (lkOk (kf env) ws) t tt te (wipeE env vs) (ws.drop i) st2), ⟨ws.length, by omega, by omega, R1, μ1, st1, [], [], Le.refl _ _, s1.watch0 hD, rfl, by simp, ?_⟩, ?_⟩
    · simpa using p
    rintro i m H' ⟨rfl, hi, R2, μ2, st2, done, acc, l2, s2, rd, hdl, p2⟩
    cases hlk : lkOk (kf env) ws st2 with
    | false => rw [lcGo_lk hlk] at p2; exact p2.elim
    | true =>
    have wk2 := wk _ R2 μ2 st2 H' l2 hlk s2 i
    by_cases hlt : i < ws.length
    · obtain ⟨go, yl⟩ := wk2.1 _ (List.getElem?_eq_getElem hlt)
      refine .inr ⟨go, fun H'' => i + 1 ≤ ws.length ∧ ∃ R2 μ2 st2 done acc, Le R1 μ1 R2 μ2 ∧ Sim T R2 (upd Pr D (.lst acc)) μ2 st2 H'' ∧ RelWs T R2 μ2 done acc ∧ done.length ≤ i + 1 ∧
        Post T Pr Wx σ (fun R' μ' r H'' => RF T Q R' μ' (done ++ r) H'') R2 μ2 (lcGo (lkOk (kf env) ws) t tt te (wipeE env vs) (ws.drop (i + 1)) st2), fun H'' nx => ⟨_, by omega, rfl, nx⟩, fun x H'' hy => ?_⟩
      obtain ⟨R3, l3, s3, rx⟩ := yl x H'' hy
      rw [List.drop_eq_getElem_cons hlt] at p2
      unfold lcGo at p2
      have p2 := p2.le l3
      have rd3 := RelWs.le l3 rd
      have l13 := l2.trans l3
      have up : ∀ a o, Pr a = some o → upd Pr D (.lst acc) a = some o := fun a o e => by rw [upd_ne fun z => by rw [z, pD] at e; cases e]; exact e
      cases hb : bindTg st2 t ws[i] (wipeE env vs) with
      | none => rw [hb, hlk] at p2; exact p2.elim
      | some env' =>
        rw [hb, hlk] at p2
        have ew := wipe_same hcold (be1.le l13) vs
        refine ⟨_, R3, μ2, wipeE env vs, env', st2, ws[i], ⟨ew, s3⟩, rx, by rw [(bind_st [] st2 t).1]; exact hb, fun σ2 e2 w2 => ⟨?_, ?_⟩⟩
        · rw [w2 vs hv]
          have key : ∀ us : List Nat, (∀ i ∈ us, i ∈ vs) → wipe (wipe σ vs) us = wipe σ vs := fun us => by
            induction us with
            | nil => intro _; rfl
            | cons u us ih =>
              intro hu
              show (wipe (wipe σ vs) us).set u none = _
              rw [ih fun i hi => hu i (List.mem_cons_of_mem _ hi)]
              have : ∀ vs : List Nat, u ∈ vs → (wipe σ vs).set u none = wipe σ vs := fun vs => by
                induction vs with
                | nil => intro h; cases h
                | cons y ys ih2 =>
                  intro h
                  show ((wipe σ ys).set y none).set u none = (wipe σ ys).set y none
                  by_cases z : u = y
                  · subst z; rw [List.set_set]
                  · rw [List.set_comm _ _ (Ne.symm z), ih2 ((List.mem_cons.mp h).resolve_left z)]
              exact this vs (hu u List.mem_cons_self)
          exact key vs fun _ h => h
        · replace p2 : Post T Pr Wx σ (fun R' μ' r H'' => RF T Q R' μ' (done ++ r) H'') R3 μ2 ((tt env' st2).tame.bind fun t' st1 => match t' with
            | false => lcGo (lkOk (kf env) ws) t tt te (wipeE env vs) (ws.drop (i + 1)) st1
            | true => (te env' st1).tame.bind fun x st2 => (lcGo (lkOk (kf env) ws) t tt te (wipeE env vs) (ws.drop (i + 1)) st2).bind fun r st3 => .ok (x :: r) st3) := p2
          refine ⟨_, R3, μ2, env', st2, ⟨e2, s3⟩, ?_⟩
          cases ht : tt env' st2 with
          | ex c x st4 => rw [ht] at p2; exact p2.elim
          | stuck => rw [ht] at p2; exact p2.elim
          | ok b st4 =>
            rw [ht] at p2
            simp only [Res.tame, Res.bind] at p2
            intro R4 μ4 H4 l4 s4
            have l14 := l13.trans l4
            cases b with
            | false => exact ⟨hlt, R4, μ4, st4, done, acc, l14, s4, RelWs.le l4 rd3, by omega, p2.le l4⟩
            | true =>
              refine ⟨_, R4, μ4, env', st4, ⟨e2.le l4, s4⟩, ?_⟩
              dsimp only at p2
              cases he : te env' st4 with
              | ex c x st5 => rw [he] at p2; exact p2.elim
              | stuck => rw [he] at p2; exact p2.elim
              | ok y st5 =>
                rw [he] at p2
                simp only [Res.tame, Res.bind] at p2
                intro R5 μ5 H5 l5 s5 v rv
                have l15 := l14.trans l5
                have l45 := l4.trans l5
                refine ⟨acc, s5.p D _ upd_same, ?_, hlt, R5, μ5, st5, done ++ [y], acc ++ [v], l15, s5.watch, (RelWs.le l45 rd3).append ⟨v, [], rfl, rv, rfl⟩, by rw [List.length_append]; show done.length + 1 ≤ i + 1; omega, ?_⟩
                · rw [← rd.length]
                  have := line_eq
                  omega
                · have q := (post_map p2).le l45
                  have e : (fun (R' : Hp) (μ' : Mu) (r : List W) (H'' : Hp) => RF T Q R' μ' (done ++ y :: r) H'') = fun R' μ' r H'' => RF T Q R' μ' (done ++ [y] ++ r) H'' := by
                    funext R' μ' r H''
                    rw [List.append_assoc]; rfl
                  rw [e] at q
                  exact q
    · have e : i = ws.length := by omega
      subst e
      refine .inl ⟨wk2.2 (Nat.le_refl _), ?_⟩
      rw [List.drop_length] at p2
      unfold lcGo at p2
      rw [if_pos hlk] at p2
      obtain ⟨H0, rfl, h0, s0⟩ := s2.unwatch pD
      have := Post.ok s0 p2
      rw [List.append_nil] at this
      exact this acc D rd h0
  · exact p.elim
theorem snd_lc {I E D : Sm} {kf : Env → Option Nat} {scope : Scope} {own : List (PySem.Str × Nat)} {elt iter : Expr} {ifs : List Expr} {t : Tg} (c : Ctx T n N nms Wx X) (hb : blkB N nms scope own = true) (hv : ∀ i ∈ slots t, i ∈ own.map (·.2)) (hi : PI X tg iter (rdI T Wx kf I.l))
    (hg : ∀ X', Ctx T n N scope.names WF X' → PG X' tg (gT T (bindTg [] t) (slots t))) (ht : ∀ X', Ctx T n N scope.names WF X' → PTs X' ifs (rdT T WF D.t)) (he : ∀ X', Ctx T n N scope.names WF X' → PE X' elt (rdV T WF E.v))
    (hs : ∀ x, foldedSetIterable iter X.env x = pure x) : PE X (.ListComp elt [⟨tg, iter, ifs, 0⟩] scope pos) (rdF T Wx fun env st => (I.l env st).bind fun ws st1 => if ws.length ≤ 16777216 then lcGo (lkOk (kf env) ws) t D.t E.v (wipeE env (own.map (·.2))) ws st1 else .stuck) :=
  pe_mono (pe_lc c.calm (by rw [c.hN]; exact c.nd) hi (blk_ok c hb) (fun _ _ _ _ _ => hg _ c.blk) (fun _ _ _ _ _ => ht _ c.blk) (fun _ _ _ _ _ => he _ c.blk) hs) fun σ H Q h => snd_lcI c.cold hv h
/-! ### a dict's display -/
section
variable {e : Expr} {pos : Pos} {A B D : Sm}
inductive Vs (T : Tb) (X : Cx) (Wx : WX) : List (Option Expr) → List Expr → List (List Nat) → (Env → S → Res (List W)) → List (TE × TE) → Prop
  | nil : Vs T X Wx [] [] [] (fun _ st => .ok [] st) []
  | cons {e : Expr} {A : Env → S → Res W} {keys : List (Option Expr)} {vals : List Expr} {k : List Nat} {ks : List (List Nat)} {l : Env → S → Res (List W)} {trs : List (TE × TE)} {j : Nat} {p : Pos} :
      PE X e (rdV T Wx A) → Vs T X Wx keys vals ks l trs → Vs T X Wx (some (.Constant (.str (strV k)) j p) :: keys) (e :: vals) (k :: ks) (fun env st => (A env st).bind fun x st1 => (l env st1).bind fun ws st2 => .ok (x :: ws) st2) ((tC (.str (strV k)), rdV T Wx A) :: trs)
variable {keys : List (Option Expr)} {vals : List Expr} {ks : List (List Nat)} {l : Env → S → Res (List W)} {trs : List (TE × TE)}
theorem Vs.pps (h : Vs T X Wx keys vals ks l trs) : PPs X pos keys vals trs := by
  induction h with
  | nil => exact pps_nil
  | cons h1 _ ih => exact pps_cons pe_str h1 ih
theorem Vs.len (h : Vs T X Wx keys vals ks l trs) : keys.length = vals.length ∧ keys.length = ks.length ∧ keys.all (·.isSome) = true := by
  induction h with
  | nil => exact ⟨rfl, rfl, rfl⟩
  | cons h1 _ ih => exact ⟨by simp [ih.1], by simp [ih.2.1], by simp [ih.2.2]⟩
theorem Vs.read (h : Vs T X Wx keys vals ks l trs) : ∀ {Pr R : Hp} {μ : Mu} {env : Env} {st : S} {σ : L2.St} {H : Hp} {K : List (V × V) → Hp → Prop}, Be T Pr R μ env st σ H →
    Post T Pr Wx σ (fun R1 μ1 ws H1 => ∀ vs, RelWs T R1 μ1 ws vs → K ((ks.map fun k => V.str (strV k)).zip vs) H1) R μ (l env st) → tPairs trs σ H K := by
  induction h with
  | nil =>
    intro Pr R μ env st σ H K be h
    exact h R μ H (Le.refl _ _) be.s [] rfl
  | @cons e A keys vals k ks l trs j p h1 hr ih =>
    intro Pr R μ env st σ H K be h
    show rdV T Wx A σ H _
    refine rdV.bindV be h fun R1 μ1 w st1 H1 v l1 b1 r p => ?_
    refine ih b1 (p.bind' fun R2 μ2 ws st2 H2 l2 s2 p2 vs rv => ?_)
    exact p2.ok s2 (v :: vs) ⟨v, vs, rfl, RelW.le l2 r, rv⟩
theorem mergeK_nodup : ∀ {more kvs : List (Key × V)}, (kvs.map (·.1) ++ more.map (·.1)).Nodup → mergeK kvs more = kvs ++ more
  | [], kvs, _ => by simp [mergeK]
  | (k, v) :: more, kvs, h => by
    have nk : (kvs.any fun kv => decide (kv.1 = k)) = false := by
      rw [List.any_eq_false]
      intro kv hkv
      rw [decide_eq_true_eq]
      intro e
      rw [List.nodup_append] at h
      exact h.2.2 kv.1 (List.mem_map_of_mem hkv) k (by simp) e
    show mergeK (putK kvs k v) more = _
    unfold putK
    rw [if_neg (by rw [nk]; simp)]
    rw [mergeK_nodup (by simpa using h)]
    simp
theorem keys_rel {R : Hp} : ∀ ks : List (List Nat), RelCs T R (ks.map .str) ((ks.map fun k => (Sum.inr (strV k) : Key)).map kV)
  | [] => rfl
  | k :: ks => ⟨_, _, rfl, rfl, keys_rel ks⟩
theorem keys_nodup : ∀ {ks : List (List Nat)}, ks.Nodup → (ks.map fun k => (Sum.inr (strV k) : Key)).Nodup
  | [], _ => List.nodup_nil
  | k :: ks, nd => by
    rw [List.nodup_cons] at nd
    rw [List.map_cons, List.nodup_cons]
    refine ⟨fun hm => nd.1 ?_, keys_nodup nd.2⟩
    obtain ⟨k', hk', e⟩ := List.mem_map.mp hm
    injection e with e
    rw [← strV_inj e]; exact hk'
theorem snd_dsp0 : PE X (.Dict [] [] pos) (rdV T Wx fun env st => okc (.dct [] []) st) := by
  refine pe_mono pe_dnewK fun σ H Q hq => ?_
  obtain ⟨Pr, R, μ, env, st, be, hp⟩ := hq
  intro p hn
  exact hp.fresh be.s hn ⟨p, [], [], rfl, upd_same, rfl, rfl, rfl⟩
theorem snd_dsp (h : Vs T X Wx keys vals ks l trs) (h0 : keys ≠ []) (h15 : keys.length ≤ 15) (nd : ks.Nodup) (hl : ∀ env st ws st', l env st = .ok ws st' → ws.length = ks.length) :
    PE X (.Dict keys vals pos) (rdV T Wx fun env st => (l env st).bind fun ws st1 => match clo ws with | some cs => okc (.dct (ks.map .str) cs) st1 | none => .stuck) := by
  obtain ⟨l1, l2, l3⟩ := h.len
  refine pe_mono (pe_disp h.pps l3 l1 h0 h15) fun σ H Q hq => ?_
  obtain ⟨Pr, R, μ, env, st, be, hp⟩ := hq
  intro p hn
  have ho : (∃ xs, (HO.dK [] : HO) = .lst xs) ∨ ∃ kv, (HO.dK [] : HO) = .dK kv := .inr ⟨_, rfl⟩
  have be2 : Be T (upd Pr p (.dK [])) R μ env st σ (upd H p (.dK [])) := ⟨be.e, be.s.watchO ho hn⟩
  have hPn := be.s.pn hn
  refine h.read be2 ?_
  dsimp only at hp
  cases q : l env st with
  | stuck => rw [q] at hp; exact hp.elim
  | ex c x st1 =>
    rw [q] at hp
    intro R' μ' H' d le s hd
    exact hp R' μ' H' d le (s.less fun a o e => upd_ext hPn a o e) hd
  | ok ws st1 =>
    rw [q] at hp
    have lw := hl _ _ _ _ q
    intro R1 μ1 H1 le s1 vs rv
    obtain ⟨H0, eH, hn0, s0⟩ := s1.unwatchO ho hPn
    subst eH
    have hp : Post T Pr Wx σ (RV T Q) R μ (match clo ws with | some cs => okc (.dct (ks.map .str) cs) st1 | none => .stuck) := hp
    split at hp
    · rename_i cs ec
      have lk : ks.length = vs.length := by rw [← lw, rv.length]
      refine ⟨upd_same, (ks.map fun k => (Sum.inr (strV k) : Key)).zip vs, ?_, ?_, ?_⟩
      · rw [List.map_zip_eq_zipWith, List.zip]
        simp only [List.zipWith_map_left]
        rfl
      · rw [List.length_zip, List.length_map]
        have := Nat.min_le_left ks.length vs.length
        omega
      · rw [mergeK_nodup, List.nil_append, upd_upd]
        · refine (hp.le le).fresh s0 hn0 ?_
          refine ⟨p, ks.map fun k => (Sum.inr (strV k) : Key), vs, rfl, upd_same, by simpa using lk, keys_rel ks, (rv.clo ec).upd' s0 hn0⟩
        · simp only [List.map_nil, List.nil_append]
          rw [List.map_fst_zip (by simp [lk])]
          exact keys_nodup nd
    · exact hp.elim
end
end
end Ev

/-! Stm: statements. -/
namespace Ev
open PySem PySem.Spec PyProof.Rows L2
section
variable {T : Tb} {R R' Pr H : Hp} {μ : Mu} {st : S} {X : Cx} {σ : L2.St} {Wx : WX} {n : Nat} {N : List PySem.Str} {nms : List (PySem.Str × NameKind)} {fa : Nat → Option Addr} {cl : Cl}
variable {a b c e : Expr} {es : List Expr} {pos p apos : Pos} {A B D : Sm} {tg : Expr} {E : Ends}
/-- what is wanted of a statement's end -/
def PostS (T : Tb) (Pr : Hp) (Wx : WX) (E : Ends) (R : Hp) (μ : Mu) : Res Fl → Prop
  | .ok (.nx env) st => ∀ R' μ' σ' H', Le R μ R' μ' → Be T Pr R' μ' env st σ' H' → E.nx σ' H'
  | .ok (.bk env) st => ∀ R' μ' σ' H', Le R μ R' μ' → Be T Pr R' μ' env st σ' H' → E.bk σ' H'
  | .ok (.ct env) st => ∀ R' μ' σ' H', Le R μ R' μ' → Be T Pr R' μ' env st σ' H' → E.ct σ' H'
  | .ok (.rt w) st => ∀ R' μ' H' v, Le R μ R' μ' → Sim T R' Pr μ' st H' → RelW T R' μ' w v → E.rt v H'
  | .ex c x st => ∀ R' μ' σ' H' d, Le R μ R' μ' → Sim T R' Pr μ' st H' → ExR T R' H' c x d → Wx (.ref (T.ea c)) d σ' H'
  | .stuck => False
def rdS (T : Tb) (Wx : WX) (f : Env → S → Res Fl) : TS := fun E σ H => ∃ Pr R μ env st, Be T Pr R μ env st σ H ∧ PostS T Pr Wx E R μ (f env st)
theorem PostS.le {μ' : Mu} {r : Res Fl} (e : Le R μ R' μ') (h : PostS T Pr Wx E R μ r) : PostS T Pr Wx E R' μ' r := by
  cases r with
  | ok f st => cases f with
    | nx env => exact fun R2 μ2 σ2 H2 l s => h R2 μ2 σ2 H2 (e.trans l) s
    | bk env => exact fun R2 μ2 σ2 H2 l s => h R2 μ2 σ2 H2 (e.trans l) s
    | ct env => exact fun R2 μ2 σ2 H2 l s => h R2 μ2 σ2 H2 (e.trans l) s
    | rt env => exact fun R2 μ2 H2 v l s => h R2 μ2 H2 v (e.trans l) s
  | ex c x st => exact fun R2 μ2 σ2 H2 d l s => h R2 μ2 σ2 H2 d (e.trans l) s
  | stuck => exact h
theorem PostS.bind {α : Type} {r : Res α} {k : α → S → Res Fl} {rel' : Hp → Mu → α → Hp → Prop} (h : PostS T Pr Wx E R μ (r.bind k))
    (c : ∀ R1 μ1 a st1 H1, Le R μ R1 μ1 → Sim T R1 Pr μ1 st1 H1 → PostS T Pr Wx E R1 μ1 (k a st1) → rel' R1 μ1 a H1) : Post T Pr Wx σ rel' R μ r := by
  cases r with
  | ok a st => exact fun R1 μ1 H1 l s => c R1 μ1 a st H1 l s (h.le l)
  | ex c x st => exact fun R1 μ1 H1 d l s => h R1 μ1 σ H1 d l s
  | stuck => exact h
theorem PostS.bindE {α : Type} {r : Res α} {k : α → S → Res Fl} {rel' : Hp → Mu → α → Hp → Prop} (h : PostS T Pr Wx E R μ (r.bind k))
    (c : ∀ R1 μ1 a st1 H1, r = .ok a st1 → Le R μ R1 μ1 → Sim T R1 Pr μ1 st1 H1 → PostS T Pr Wx E R1 μ1 (k a st1) → rel' R1 μ1 a H1) : Post T Pr Wx σ rel' R μ r := by
  cases r with
  | ok a st => exact fun R1 μ1 H1 l s => c R1 μ1 a st H1 rfl l s (h.le l)
  | ex c x st => exact fun R1 μ1 H1 d l s => h R1 μ1 σ H1 d l s
  | stuck => exact h
theorem set_id {α : Type} : ∀ {l : List α} {i : Nat} {x : α}, l[i]? = some x → l.set i x = l
  | [], _, _, h => by simp at h
  | y :: l, 0, x, h => by simp at h; subst h; rfl
  | y :: l, i + 1, x, h => by
    rw [List.set_cons_succ, set_id (by simpa using h)]
theorem rdS.bindV {f : Env → S → Res W} {k : Env → W → S → Res Fl} {σ : L2.St} {H : Hp} {Q : VK} (h : rdS T Wx (fun env st => (f env st).bind (k env)) E σ H)
    (c : ∀ Pr R1 μ1 env w st1 H1 v, Be T Pr R1 μ1 env st1 σ H1 → RelW T R1 μ1 w v → PostS T Pr Wx E R1 μ1 (k env w st1) → Q v H1) : rdV T Wx f σ H Q := by
  obtain ⟨Pr, R, μ, env, st, be, h⟩ := h
  exact ⟨Pr, R, μ, env, st, be, h.bind fun R1 μ1 a st1 H1 l s p v r => c Pr R1 μ1 env a st1 H1 v (be.le l s) r p⟩
theorem rdS.bindT {f : Env → S → Res Bool} {k : Env → Bool → S → Res Fl} {σ : L2.St} {H : Hp} {Q : Bool → Hp → Prop} (h : rdS T Wx (fun env st => (f env st).bind (k env)) E σ H)
    (c : ∀ Pr R1 μ1 env w st1 H1, Be T Pr R1 μ1 env st1 σ H1 → PostS T Pr Wx E R1 μ1 (k env w st1) → Q w H1) : rdT T Wx f σ H Q := by
  obtain ⟨Pr, R, μ, env, st, be, h⟩ := h
  exact ⟨Pr, R, μ, env, st, be, h.bind fun R1 μ1 a st1 H1 l s p => c Pr R1 μ1 env a st1 H1 (be.le l s) p⟩
theorem ps_mono {s : Stmt} {t u : TS} (h : PS X s t) (i : ∀ E σ H, u E σ H → t E σ H) : PS X s u := ⟨fun pins s σ H E I q => h.run pins s σ H E I (i E σ H q)⟩
theorem pss_mono {s : List Stmt} {t u : TS} (h : PSs X s t) (i : ∀ E σ H, u E σ H → t E σ H) : PSs X s u := ⟨fun pins s σ H E I q => h.run pins s σ H E I (i E σ H q)⟩

/-! ### assignments -/
def swB : Expr → Bool
  | .ListComp _ _ _ _ => false | .SetComp _ _ _ _ => false | .DictComp _ _ _ _ _ => false | _ => true
theorem sw_of (h : swB e = true) (t : Option Expr) (l : Nat) (env : PySem.Env) : swapsWith e t l env = pure false := by
  cases e <;> first | rfl | cases h
theorem set_rd (hcold : T.exa = none) {f : Env → S → Res W} {i : Nat} {σ : L2.St} {H : Hp} (h : rdS T Wx (fun env st => (f env st).bind fun w st1 => .ok (.nx (env.set i (some w))) st1) E σ H) : rdV T Wx f σ H (fun x H1 => E.nx (σ.set i (some x)) H1) :=
  rdS.bindV (k := fun env w st1 => .ok (.nx (env.set i (some w))) st1) h fun Pr R1 μ1 env w st1 H1 v be r p => p R1 μ1 _ H1 (Le.refl _ _) ⟨be.e.set r i (.inl hcold), be.s⟩
theorem snd_set (c : Ctx T n N nms Wx X) {x : PySem.Str} {i : Nat} (hi : N[i]? = some x) (hx : locB nms x = true) {pos' : Pos} (he : PE X e (rdV T Wx A.v)) (hs : swapsWith e (some (.Name x pos')) pos.line X.env = pure false) :
    PS X (.Assign [.Name x pos'] e pos) (rdS T Wx fun env st => (A.v env st).bind fun w st1 => .ok (.nx (env.set i (some w))) st1) := by
  obtain ⟨h1, h2⟩ := c.loc hx
  exact ps_mono (ps_set (i := i) (by rw [c.hN]; exact c.nd) (by rw [c.hN]; exact hi) h1 he hs h2) fun E σ H h => set_rd c.cold h
/-- a new list by a comprehension, on the line of the name -/
theorem snd_setLc {I E D : Sm} {kf : Env → Option Nat} {scope : Scope} {own : List (PySem.Str × Nat)} {elt iter : Expr} {ifs : List Expr} {t : Tg} (c : Ctx T n N nms Wx X) (hb : blkB N nms scope own = true) (hv : ∀ i ∈ slots t, i ∈ own.map (·.2)) (hi : PI X tg iter (rdI T Wx kf I.l))
    (hg : ∀ X', Ctx T n N scope.names WF X' → PG X' tg (gT T (bindTg [] t) (slots t))) (ht : ∀ X', Ctx T n N scope.names WF X' → PTs X' ifs (rdT T WF D.t)) (he : ∀ X', Ctx T n N scope.names WF X' → PE X' elt (rdV T WF E.v))
    (hs : ∀ x, foldedSetIterable iter X.env x = pure x) {y : PySem.Str} {j : Nat} {py spos : Pos} (hj : N[j]? = some y) (hy : nms.lookup y = some .local) (hl : (py.line == pos.line) = true) (hn : (scope.names.any fun (n, k) => n == y && (k == .local || k == .cell)) = false) (hk : X.env.scope.kind = .function)
    {f : Env → S → Res W} (hf : ∀ σ H Q, rdV T Wx f σ H Q → rdF T Wx (fun env st => (I.l env st).bind fun ws st1 => if ws.length ≤ 16777216 then lcGo (lkOk (kf env) ws) t D.t E.v (wipeE env (own.map (·.2))) ws st1 else .stuck) σ H Q) :
    PS X (.Assign [.Name y py] (.ListComp elt [⟨tg, iter, ifs, 0⟩] scope pos) spos) (rdS T Wx fun env st => (f env st).bind fun w st1 => .ok (.nx (env.set j (some w))) st1) := by
  have hloc : X.env.scope.names.lookup y = some .local := by
    obtain ⟨kd, e1, e2⟩ := c.sc _ _ hy
    rcases e2 with rfl | ⟨z, _⟩
    · exact e1
    · cases z
  refine ps_mono (ps_setLc (i := j) c.calm (by rw [c.hN]; exact c.nd) (by rw [c.hN]; exact hj) hloc (sw_true hk hloc hl hn) hi (blk_ok c hb) (fun _ _ _ _ _ => hg _ c.blk) (fun _ _ _ _ _ => ht _ c.blk) (fun _ _ _ _ _ => he _ c.blk) hs) fun E σ H h => ?_
  exact snd_lcI c.cold hv (hf _ _ _ (set_rd c.cold h))
theorem snd_tset {k : Nat} {pt : Pos} {t : Tg} (hg : PG X (.Tuple es k pt) (gT T (bindTg [] t) (slots t))) (he : PE X e (rdV T Wx A.v)) (hw : swappedStores [.Tuple es k pt] e X.env = pure none) :
    PS X (.Assign [.Tuple es k pt] e pos) (rdS T Wx fun env st => (A.v env st).bind fun w st1 => match bindTg st1 t w env with
    | some env' => .ok (.nx env') st1
    | none => .stuck) := by
  have hs : swapsWithSole [.Tuple es k pt] e pos.line X.env = pure false := by
    show swapsWith e (some (.Tuple es k pt)) pos.line X.env = pure false
    cases e <;> rfl
  refine ps_mono (ps_asg he hg hs hw rfl) fun E σ H h => ?_
  refine rdS.bindV (k := fun env w st1 => match bindTg st1 t w env with
    | some env' => .ok (.nx env') st1
    | none => .stuck) h fun Pr R1 μ1 env w st1 H1 v be r p => ?_
  split at p
  · rename_i env' hb
    exact ⟨Pr, R1, μ1, env, env', st1, w, be, r, by rw [(bind_st [] st1 t).1]; exact hb, fun σ' e' _ => p R1 μ1 σ' H1 (Le.refl _ _) ⟨e', be.s⟩⟩
  · exact p.elim
theorem snd_par {x y : PySem.Str} {i j : Nat} {px py pt pt2 : Pos} {kt k2 : Nat} (c : Ctx T n N nms Wx X) (hi : N[i]? = some x) (hj : N[j]? = some y) (hij : i ≠ j) (hx : nms.lookup x = some .local) (hy : nms.lookup y = some .local)
    (ha : PA X [a, b] (rdL T Wx A.l)) (hw : swappedStores [.Tuple [.Name x px, .Name y py] kt pt] (.Tuple [a, b] k2 pt2) X.env = pure (some [x, y])) :
    PS X (.Assign [.Tuple [.Name x px, .Name y py] kt pt] (.Tuple [a, b] k2 pt2) pos) (rdS T Wx fun env st => (A.l env st).bind fun ws st1 => match sets [i, j] ws env with
    | some env' => .ok (.nx env') st1
    | none => .stuck) := by
  have lo : ∀ {x}, nms.lookup x = some .local → X.env.scope.names.lookup x = some .local := fun {x} h => by
    obtain ⟨kd, e1, e2⟩ := c.sc _ _ h
    rcases e2 with rfl | ⟨z, _⟩
    · exact e1
    · cases z
  refine ps_mono (ps_par (i := i) (j := j) c.calm (by rw [c.hN]; exact c.nd) (by rw [c.hN]; exact hi) (by rw [c.hN]; exact hj) hij (lo hx) (lo hy) ha hw) fun E σ H h => ?_
  obtain ⟨Pr, R, μ, env, st, be, h⟩ := h
  refine ⟨Pr, R, μ, env, st, be, h.bind fun R1 μ1 ws st1 H1 l s p vs rv => ?_⟩
  split at p
  · rename_i env' hb
    match ws, rv, hb with
    | [w1, w2], rv, hb =>
      obtain ⟨v, u, rfl, r1, r2⟩ := rv.two
      have hb : some ((env.set i (some w1)).set j (some w2)) = some env' := hb
      cases hb
      have b1 := be.le l s
      exact ⟨v, u, rfl, p R1 μ1 _ H1 (Le.refl _ _) ⟨(b1.e.set r1 i (.inl c.cold)).set r2 j (.inl c.cold), b1.s⟩⟩
    | [], _, hb => cases hb
    | [_], _, hb => cases hb
    | _ :: _ :: _ :: _, _, hb => cases hb
  · exact p.elim
theorem snd_par3 {x y z : PySem.Str} {i j l : Nat} {px py pz pt pt2 : Pos} {kt k2 : Nat} (c' : Ctx T n N nms Wx X) (hi : N[i]? = some x) (hj : N[j]? = some y) (hl : N[l]? = some z) (hij : i ≠ j) (hil : i ≠ l) (hjl : j ≠ l) (hx : nms.lookup x = some .local) (hy : nms.lookup y = some .local) (hz : nms.lookup z = some .local)
    (ha : PA X [a, b, c] (rdL T Wx A.l)) (hw : swappedStores [.Tuple [.Name x px, .Name y py, .Name z pz] kt pt] (.Tuple [a, b, c] k2 pt2) X.env = pure (some [x, y, z])) :
    PS X (.Assign [.Tuple [.Name x px, .Name y py, .Name z pz] kt pt] (.Tuple [a, b, c] k2 pt2) pos) (rdS T Wx fun env st => (A.l env st).bind fun ws st1 => match sets [i, j, l] ws env with
    | some env' => .ok (.nx env') st1
    | none => .stuck) := by
  have lo : ∀ {x}, nms.lookup x = some .local → X.env.scope.names.lookup x = some .local := fun {x} h => by
    obtain ⟨kd, e1, e2⟩ := c'.sc _ _ h
    rcases e2 with rfl | ⟨z, _⟩
    · exact e1
    · cases z
  refine ps_mono (ps_par3 (i := i) (j := j) (l := l) c'.calm (by rw [c'.hN]; exact c'.nd) (by rw [c'.hN]; exact hi) (by rw [c'.hN]; exact hj) (by rw [c'.hN]; exact hl) hij hil hjl (lo hx) (lo hy) (lo hz) ha hw) fun E σ H h => ?_
  obtain ⟨Pr, R, μ, env, st, be, h⟩ := h
  refine ⟨Pr, R, μ, env, st, be, h.bind fun R1 μ1 ws st1 H1 le s p vs rv => ?_⟩
  split at p
  · rename_i env' hb
    match ws, rv, hb with
    | [w1, w2, w3], rv, hb =>
      obtain ⟨v, _, rfl, r1, u, _, rfl, r2, w, _, rfl, r3, e4⟩ := rv
      cases e4
      have hb : some (((env.set i (some w1)).set j (some w2)).set l (some w3)) = some env' := hb
      cases hb
      have b1 := be.le le s
      exact ⟨v, u, w, rfl, p R1 μ1 _ H1 (Le.refl _ _) ⟨((b1.e.set r1 i (.inl c'.cold)).set r2 j (.inl c'.cold)).set r3 l (.inl c'.cold), b1.s⟩⟩
    | [], _, hb => cases hb
    | [_], _, hb => cases hb
    | [_, _], _, hb => cases hb
    | _ :: _ :: _ :: _ :: _, _, hb => cases hb
  · exact p.elim

/-! ### stores into objects -/
theorem ixN_eq (k : Nat) (i : Int) : Ev.ixN k i = L2.ixN k i := by
  unfold Ev.ixN L2.ixN
  rfl
theorem storeMv_r {o : Ex} {x y : W} {m : Nat} {env : Env} {st : S} : storeMv o x y (.r m) env st = .stuck ∨ ∃ v n k xs j, o = .var v ∧ x = .r n ∧ y = .c (.int k) ∧ cellAt st n = some (.lst xs) ∧ (n < m ∧ m < st.length) ∧ Ev.ixN xs.length k = some j ∧
    storeMv o x y (.r m) env st = .ok (.nx (env.set v (some (.r st.length)))) (st.set n none ++ [some (.lst (xs.set j (.r m)))]) := by
  unfold storeMv
  dsimp only
  split
  · rename_i v n k
    split
    · rename_i xs hc
      split
      · rename_i hl
        split
        · rename_i j hj
          exact .inr ⟨v, n, k, xs, j, rfl, rfl, rfl, hc, hl, hj, rfl⟩
        · exact .inl rfl
      · exact .inl rfl
    · exact .inl rfl
  · exact .inl rfl
theorem snd_setix {cl : Cl} {oe : Ex} {o i : Expr} {po : Pos} (hcold : T.exa = none) (ho : PE X o (rdV T Wx (sem T.g cl oe).v)) (hi : PE X i (rdV T Wx B.v)) (hix : ixOk i = true) (he : PE X e (rdV T Wx D.v)) (hs : swB e = true ∨ True) :
    PS X (.Assign [.Subscript o i po] e pos) (rdS T Wx fun env st => (D.v env st).bind fun w st1 => ((sem T.g cl oe).v env st1).bind fun x st2 => (B.v env st2).bind fun y st3 => storeMv oe x y w env st3) := by
  have ha : ∀ v, assign (.Subscript o i po) X.env v = (do
      let ov ← holding [v] (eval o X.env)
      let iv ← holding [v, ov] (eval i X.env)
      standAt po
      holding [v, ov, iv] (setItem ov iv v)
      release [v, ov, iv] []) := by
    intro v
    cases i <;> first | rfl | cases hix
  have hs : swapsWithSole [.Subscript o i po] e pos.line X.env = pure false := by
    show swapsWith e (some (.Subscript o i po)) pos.line X.env = pure false
    cases e <;> rfl
  have hw : swappedStores [.Subscript o i po] e X.env = pure none := by
    unfold swappedStores
    rfl
  refine ps_mono (ps_asg he (pg_sub ho hi set_list ha) hs hw rfl) fun E σ H h => ?_
  refine rdS.bindV (k := fun env w st1 => ((sem T.g cl oe).v env st1).bind fun x st2 => (B.v env st2).bind fun y st3 => storeMv oe x y w env st3) h fun Pr R1 μ1 env w st1 H1 v be r p => ?_
  have hv : ∀ j x st2, oe = .var j → (sem T.g cl oe).v env st1 = .ok x st2 → env[j]? = some (some x) := fun j x st2 e q => by
    subst e
    have q : (match env[j]? with | some (some w) => .ok w st1 | _ => .stuck : Res W) = .ok x st2 := q
    split at q
    · rename_i w' e'; cases q; exact e'
    · cases q
  refine ⟨Pr, R1, μ1, env, st1, be, p.bindE fun R2 μ2 x st2 H2 ee l2 s2 p2 ov r2 => ?_⟩
  have b2 := be.le l2 s2
  refine ⟨Pr, R2, μ2, env, st2, b2, p2.bind fun R3 μ3 y st3 H3 l3 s3 p3 iv r3 => ?_⟩
  have b3 := b2.le l3 s3
  have r' := RelW.le (l2.trans l3) r
  have r2' := RelW.le l3 r2
  cases w with
  | r m =>
    rcases storeMv_r (o := oe) (x := x) (y := y) (m := m) (env := env) (st := st3) with e0 | ⟨v', n', kk, xs, j, rfl, rfl, rfl, hc, hlt, hj, e0⟩
    · rw [e0] at p3; exact p3.elim
    · rw [e0] at p3
      obtain ⟨q, hm, h2, h3, vs, h4, h5⟩ := s3.c _ _ hc
      obtain ⟨q', rfl, h6⟩ := r2'
      rw [hm] at h6; cases h6
      cases r3
      refine ⟨q, vs, kk, j, rfl, rfl, h4, by rw [← ixN_eq, ← h5.length]; exact hj, ?_⟩
      have rz : RelWs T R3 μ3 (xs.set j (.r m)) (vs.set j v) := RelWs.set r' j h5
      obtain ⟨sw, l4⟩ := s3.move (ys := xs.set j (.r m)) (o := .lst (vs.set j v)) hc hm ⟨_, upd_same, rz⟩ fun k hk => by
        rcases List.mem_or_eq_of_mem_set hk with h | h
        · have := s3.low _ _ hc k h; have := cellAt_lt hc; omega
        · cases h; exact hlt.2
      have ev := hv v' _ _ rfl ee
      have hv' : v' < σ.length := by
        rw [← b3.e.len hcold]
        exact (List.getElem?_eq_some_iff.mp ev).1
      obtain ⟨u, e1, ⟨q2, rfl, e3⟩⟩ := b3.e.2 v' _ hv' ev
      rw [hm] at e3; cases e3
      have e4 := EnvR.set (b3.e.leR l4) (w := .r st3.length) (v := .ref q) ⟨q, rfl, if_pos rfl⟩ v' (.inl hcold)
      rw [set_id e1] at e4
      exact p3 R3 _ _ _ l4 ⟨e4, sw⟩
  | c wc =>
    replace p3 : PostS T Pr Wx E R3 μ3 ((storeIx x y (.c wc) st3).bind fun _ st4 => .ok (.nx env) st4) := p3
    generalize hw : W.c wc = w at *
    unfold storeIx at p3
    split at p3
    · rename_i x' y' w' m kk z
      split at p3
      · rename_i xs hc
        split at p3
        · rename_i j hj
          obtain ⟨q, hm, h2, h3, vs, h4, h5⟩ := s3.c m _ hc
          obtain ⟨q', rfl, h6⟩ := r2'
          rw [hm] at h6; cases h6
          cases r3
          refine ⟨q, vs, kk, j, rfl, rfl, h4, by rw [← ixN_eq, ← h5.length]; exact hj, ?_⟩
          have rz : RelWs T R3 μ3 (xs.set j (.c z)) (vs.set j v) := RelWs.set r' j h5
          have sw := s3.write (y := .lst (xs.set j (.c z))) (o := .lst (vs.set j v)) hc hm ⟨_, upd_same, rz⟩ fun k hk => by
            have : W.r k ∈ xs := by
              have hk : W.r k ∈ xs.set j (.c z) := hk
              rcases List.mem_or_eq_of_mem_set hk with h | h
              · exact h
              · cases h
            exact s3.low m _ hc k this
          exact p3 R3 μ3 _ _ (Le.refl _ _) ⟨b3.e, sw⟩
        · exact p3.elim
      · exact p3.elim
    · exact p3.elim
theorem putF_of (inj : ∀ i j, T.nm i = T.nm j → i = j) (f : Nat) {w : W} {v : V} (r : RelW T R μ w v) : ∀ {fs : List Nat} {ws : List W} {vs : List V}, fs.length = vs.length → RelWs T R μ ws vs →
    ∃ vs', putF (T.nm f) v (zipF T fs vs) = zipF T (putFld f w fs ws).1 vs' ∧ (putFld f w fs ws).1.length = vs'.length ∧ RelWs T R μ (putFld f w fs ws).2 vs'
  | [], [], _, hl, h => by cases h; exact ⟨[v], rfl, rfl, v, [], rfl, r, rfl⟩
  | [], w' :: ws, vs, hl, h => by obtain ⟨_, _, rfl, _⟩ := h; simp at hl
  | f' :: fs, [], vs, hl, h => by cases h; simp at hl
  | f' :: fs, w' :: ws, vs, hl, h => by
    obtain ⟨v', t, rfl, h2, h3⟩ := h
    have hl' : fs.length = t.length := by simpa using hl
    unfold putFld
    by_cases q : f = f'
    · subst q
      rw [if_pos rfl]
      refine ⟨v :: t, ?_, by simp [hl'], ⟨v, t, rfl, r, h3⟩⟩
      show putF (T.nm f) v ((T.nm f, v') :: zipF T fs t) = _
      unfold putF
      rw [if_pos rfl]
      rfl
    · rw [if_neg q]
      obtain ⟨t', e1, e2, e3⟩ := putF_of inj f r hl' h3
      refine ⟨v' :: t', ?_, by simp [e2], ⟨v', t', rfl, h2, e3⟩⟩
      show putF (T.nm f) v ((T.nm f', v') :: zipF T fs t) = _
      unfold putF
      rw [if_neg fun z => q (inj _ _ z.symm), e1]
      rfl
theorem putFld_mem (f : Nat) (x : C) : ∀ (fs : List Nat) (ws : List W) (k : Nat), W.r k ∈ (putFld f (.c x) fs ws).2 → W.r k ∈ ws
  | [], ws, k, h => by unfold putFld at h; simp at h
  | _ :: _, [], k, h => by unfold putFld at h; simp at h
  | f' :: fs, w :: ws, k, h => by
    unfold putFld at h
    split at h
    · rcases List.mem_cons.mp h with h | h
      · cases h
      · exact List.mem_cons_of_mem _ h
    · rcases List.mem_cons.mp h with h | h
      · rw [h]; exact List.mem_cons_self
      · exact List.mem_cons_of_mem _ (putFld_mem f x fs ws k h)
theorem snd_setfld (O : TOk T fa) (c : Ctx T n N nms Wx X) {o : Expr} {f : Nat} {po : Pos} (ho : PE X o (rdV T Wx A.v)) (he : PE X e (rdV T Wx D.v)) :
    PS X (.Assign [.Attribute o (T.nm f) po] e pos) (rdS T Wx fun env st => (D.v env st).bind fun w st1 => (A.v env st1).bind fun x st2 => (storeFld T.g x f w st2).bind fun _ st3 => .ok (.nx env) st3) := by
  have hs : swapsWith e (some (.Attribute o (T.nm f) po)) pos.line X.env = pure false := by cases e <;> rfl
  refine ps_mono (ps_fld ho he hs) fun E σ H h => ?_
  refine rdS.bindV (k := fun env w st1 => (A.v env st1).bind fun x st2 => (storeFld T.g x f w st2).bind fun _ st3 => .ok (.nx env) st3) h fun Pr R1 μ1 env w st1 H1 v be r p => ?_
  refine ⟨Pr, R1, μ1, env, st1, be, p.bind fun R2 μ2 x st2 H2 l2 s2 p2 ov r2 => ?_⟩
  have b2 := be.le l2 s2
  have r' := RelW.le l2 r
  unfold storeFld at p2
  split at p2
  · rename_i x' w' m z
    split at p2
    · rename_i k fs ws hc
      split at p2
      · rename_i hq
        simp only [Bool.and_eq_true, decide_eq_true_eq] at hq
        obtain ⟨kn, na⟩ := O.fld k f hq.2
        obtain ⟨q, hm, h2, h3, dx, vs, h4, h5, h6, h7⟩ := s2.c m _ hc
        obtain ⟨q', rfl, h8⟩ := r2
        rw [hm] at h8; cases h8
        obtain ⟨vs', e1, e2, e3⟩ := putF_of O.inj f r' h6 h7
        refine ⟨q, _, dx, _, rfl, h4, by rw [c.K]; exact (O.cls k kn).cl, by rw [c.K]; exact na, ?_, ?_⟩
        · unfold zipF
          rw [List.length_zip, List.length_map]
          omega
        · rw [e1]
          have dq : dx ≠ q := fun z => by rw [z, h4] at h5; cases h5
          have sw := s2.write (y := .ins k (putFld f (.c z) fs ws).1 (putFld f (.c z) fs ws).2) (o := .ins (T.ca k) dx (zipF T (putFld f (.c z) fs ws).1 vs')) hc hm ⟨dx, vs', upd_same, by rw [upd_ne dq]; exact h5, e2, e3⟩ fun j hj =>
            s2.low m _ hc j (putFld_mem f z fs ws j hj)
          exact p2 R2 μ2 _ _ (Le.refl _ _) ⟨b2.e, sw⟩
      · exact p2.elim
    · exact p2.elim
  · exact p2.elim
end
end Ev

/-! Ctl: control. -/
namespace Ev
open PySem PySem.Spec PyProof.Rows L2
section
variable {T : Tb} {R R' Pr H : Hp} {μ : Mu} {st : S} {X : Cx} {σ : L2.St} {Wx : WX} {n : Nat} {N : List PySem.Str} {nms : List (PySem.Str × NameKind)} {fa : Nat → Option Addr} {cl : Cl}
variable {a b c e : Expr} {es : List Expr} {pos p apos : Pos} {A B D : Sm} {tg : Expr} {E : Ends}
theorem snd_expr (hs : swB e = true) (he : PE X e (rdV T Wx A.v)) : PS X (.Expr e pos) (rdS T Wx fun env st => (A.v env st).bind fun _ st1 => .ok (.nx env) st1) :=
  ps_mono (ps_expr he (sw_of hs _ _ _)) fun E σ H h => rdS.bindV (k := fun env _ st1 => .ok (.nx env) st1) h fun Pr R1 μ1 env w st1 H1 v be r p => p R1 μ1 _ _ (Le.refl _ _) be
theorem snd_ret (he : PE X e (rdV T Wx A.v)) : PS X (.Return (some e) pos) (rdS T Wx fun env st => (A.v env st).bind fun w st1 => .ok (.rt w) st1) :=
  ps_mono (ps_ret he) fun E σ H h => rdS.bindV (k := fun env w st1 => .ok (.rt w) st1) h fun Pr R1 μ1 env w st1 H1 v be r p => p R1 μ1 _ _ (Le.refl _ _) be.s r
theorem snd_retN : PS X (.Return none pos) (rdS T Wx fun env st => .ok (.rt (.c .non)) st) :=
  ps_mono ps_retN fun E σ H ⟨Pr, R, μ, env, st, be, h⟩ => h R μ _ _ (Le.refl _ _) be.s rfl
theorem nx_rd {E : Ends} {σ : L2.St} {H : Hp} (h : rdS T Wx (fun env st => .ok (.nx env) st) E σ H) : E.nx σ H := by
  obtain ⟨Pr, R, μ, env, st, be, h⟩ := h
  exact h R μ _ _ (Le.refl _ _) be
theorem snd_pass : PS X (.Pass pos) (rdS T Wx fun env st => .ok (.nx env) st) := ps_mono ps_pass fun E σ H h => nx_rd h
theorem snd_doc {x j pos'} : PS X (.Expr (.Constant (.str x) j pos') pos) (rdS T Wx fun env st => .ok (.nx env) st) := ps_mono ps_doc fun E σ H h => nx_rd h
theorem snd_brk : PS X (.Break pos) (rdS T Wx fun env st => .ok (.bk env) st) := ps_mono ps_break fun E σ H ⟨Pr, R, μ, env, st, be, h⟩ => h R μ _ _ (Le.refl _ _) be
theorem snd_cont : PS X (.Continue pos) (rdS T Wx fun env st => .ok (.ct env) st) := ps_mono ps_continue fun E σ H ⟨Pr, R, μ, env, st, be, h⟩ => h R μ _ _ (Le.refl _ _) be
theorem snd_never {s : Stmt} : PS X s (rdS T Wx fun env st => .stuck) := ps_mono ps_never fun E σ H ⟨Pr, R, μ, env, st, be, h⟩ => h.elim
theorem snd_snil : PSs X [] (rdS T Wx fun env st => .ok (.nx env) st) := pss_mono pss_nil fun E σ H h => nx_rd h
theorem snd_scons {s : Stmt} {ss : List Stmt} {f g : Env → S → Res Fl} (h1 : PS X s (rdS T Wx f)) (h2 : PSs X ss (rdS T Wx g)) : PSs X (s :: ss) (rdS T Wx fun env st => (f env st).bind fun fl st1 => match fl with
    | .nx env1 => g env1 st1
    | fl => .ok fl st1) := by
  refine pss_mono (pss_cons h1 h2) fun E σ H h => ?_
  obtain ⟨Pr, R, μ, env, st, be, h⟩ := h
  refine ⟨Pr, R, μ, env, st, be, ?_⟩
  dsimp only at h
  generalize f env st = r at h ⊢
  cases r with
  | ok fl st1 =>
    cases fl with
    | nx env1 => exact fun R' μ' σ' H' l b => ⟨Pr, R', μ', env1, st1, b, PostS.le l h⟩
    | rt w => exact h
    | bk env1 => exact h
    | ct env1 => exact h
  | ex c x st1 => exact h
  | stuck => exact h
theorem snd_if {ss tt : List Stmt} {f g : Env → S → Res Fl} (hc : PT X c (rdT T Wx D.t)) (h1 : PSs X ss (rdS T Wx f)) (h2 : PSs X tt (rdS T Wx g)) : PS X (.If c ss tt pos) (rdS T Wx fun env st => (D.t env st).bind fun t st1 => match t with
    | true => f env st1
    | false => g env st1) := by
  refine ps_mono (ps_if hc h1 h2) fun E σ H h => ?_
  refine rdS.bindT (k := fun env t st1 => match t with | true => f env st1 | false => g env st1) h fun Pr R1 μ1 env w st1 H1 be p => ?_
  cases w with
  | true => exact ⟨Pr, R1, μ1, env, st1, be, p⟩
  | false => exact ⟨Pr, R1, μ1, env, st1, be, p⟩
theorem snd_while {ss : List Stmt} {f : Env → S → Res Fl} {fu : Nat} (hp : PassesOwn (model X.prog X.w) X.A X.env X.xe) (hc : PT X c (rdT T Wx D.t)) (h1 : PSs X ss (rdS T Wx f)) : PS X (.While c ss [] pos) (rdS T Wx fun env st => whGo D.t f fu env st) := by
  refine ps_mono (ps_while hp hc h1) fun E σ H h => ?_
  obtain ⟨Pr, R, μ, env, st, be, h⟩ := h
  refine ⟨fun m σ H => ∃ R μ env st, Be T Pr R μ env st σ H ∧ PostS T Pr Wx E R μ (whGo D.t f m env st), ⟨fu, R, μ, env, st, be, h⟩, ?_⟩
  rintro m σ H ⟨R, μ, env, st, be, h⟩
  cases m with
  | zero => exact h.elim
  | succ m =>
    unfold whGo at h
    refine ⟨Pr, R, μ, env, st, be, h.bind fun R1 μ1 t st1 H1 l s p => ?_⟩
    have b1 := be.le l s
    cases t with
    | false => exact p R1 μ1 _ _ (Le.refl _ _) b1
    | true =>
      refine ⟨fun σ' H' => ∃ R μ env st, Be T Pr R μ env st σ' H' ∧ PostS T Pr Wx E R μ (whGo D.t f m env st), fun σ' H' n => ⟨m, Nat.lt_succ_self _, n⟩, ?_⟩
      refine ⟨Pr, R1, μ1, env, st1, b1, ?_⟩
      dsimp only at p
      generalize f env st1 = r at p ⊢
      cases r with
      | ok fl st2 =>
        cases fl with
        | nx env1 => exact fun R' μ' σ' H' l b => ⟨R', μ', env1, st2, b, PostS.le l p⟩
        | ct env1 => exact fun R' μ' σ' H' l b => ⟨R', μ', env1, st2, b, PostS.le l p⟩
        | bk env1 => exact p
        | rt w => exact p
      | ex c x st1 => exact p
      | stuck => exact p
theorem snd_for {kf : Env → Option Nat} {ss : List Stmt} {f : Env → S → Res Fl} {it : Expr} {t : Tg} (c : Ctx T n N nms Wx X) (hp : PassesOwn (model X.prog X.w) X.A X.env X.xe) (hi : PI X tg it (rdI T Wx kf A.l)) (hg : PG X tg (gT T (bindTg [] t) (slots t))) (h1 : PSs X ss (rdS T Wx f)) (hs : ∀ x, foldedSetIterable it X.env x = pure x) :
    PS X (.For tg it ss [] pos) (rdS T Wx fun env st => (A.l env st).bind fun ws st1 => forGo (lkOk (kf env) ws) t f ws env st1) := by
  refine ps_mono (ps_for hp c.calm hi hg h1 hs) fun E σ H h => ?_
  obtain ⟨Pr, R, μ, env, st, be, h⟩ := h
  refine ⟨Pr, R, μ, env, st, be, h.bind fun R1 μ1 ws st1 H1 l s p J wk => ?_⟩
  have b1 := be.le l s
  refine ⟨fun i m σ H => m = ws.length - i ∧ i ≤ ws.length ∧ ∃ R2 μ2 env2 st2, Le R1 μ1 R2 μ2 ∧ Be T Pr R2 μ2 env2 st2 σ H ∧ PostS T Pr Wx E R2 μ2 (forGo (lkOk (kf env) ws) t f (ws.drop i) env2 st2), ⟨ws.length, by omega, by omega, R1, μ1, env, st1, Le.refl _ _, b1, by simpa using p⟩, ?_⟩
  rintro i m σ2 H2 ⟨rfl, hi, R2, μ2, env2, st2, l2, b2, p2⟩
  cases hlk : lkOk (kf env) ws st2 with
  | false => rw [forGo_lk hlk] at p2; exact p2.elim
  | true =>
  have wk2 := wk _ R2 μ2 st2 H2 l2 hlk b2.s i
  by_cases hlt : i < ws.length
  · obtain ⟨go, yl⟩ := wk2.1 _ (List.getElem?_eq_getElem hlt)
    refine .inr ⟨go, fun σ' H' => i + 1 ≤ ws.length ∧ ∃ R2 μ2 env2 st2, Le R1 μ1 R2 μ2 ∧ Be T Pr R2 μ2 env2 st2 σ' H' ∧ PostS T Pr Wx E R2 μ2 (forGo (lkOk (kf env) ws) t f (ws.drop (i + 1)) env2 st2), fun σ' H' nx => ⟨_, by omega, rfl, nx⟩, fun x H'' hy => ?_⟩
    obtain ⟨R3, l3, s3, rx⟩ := yl x H'' hy
    rw [List.drop_eq_getElem_cons hlt] at p2
    unfold forGo at p2
    replace p2 := p2.le l3
    have l13 := l2.trans l3
    cases hb : bindTg st2 t ws[i] env2 with
    | none => rw [hb, hlk] at p2; exact p2.elim
    | some env' =>
      rw [hb, hlk] at p2
      dsimp only at p2
      refine ⟨Pr, R3, μ2, env2, env', st2, ws[i], b2.le l3 s3, rx, by rw [(bind_st [] st2 t).1]; exact hb, fun σ4 e4 w4 => ?_⟩
      refine ⟨Pr, R3, μ2, env', st2, ⟨e4, s3⟩, ?_⟩
      generalize f env' st2 = r at p2 ⊢
      cases r with
      | ok fl st4 =>
        cases fl with
        | nx env1 => exact fun R' μ' σ' H' l b => ⟨hlt, R', μ', env1, st4, l13.trans l, b, PostS.le l p2⟩
        | ct env1 => exact fun R' μ' σ' H' l b => ⟨hlt, R', μ', env1, st4, l13.trans l, b, PostS.le l p2⟩
        | bk env1 => exact p2
        | rt w => exact p2
      | ex c x st4 => exact p2
      | stuck => exact p2
  · have e : i = ws.length := by omega
    subst e
    refine .inl ⟨wk2.2 (Nat.le_refl _), ?_⟩
    rw [List.drop_length] at p2
    unfold forGo at p2
    rw [if_pos hlk] at p2
    exact p2 R2 μ2 _ _ (Le.refl _ _) b2
end
end Ev

/-! Isi: isinstance, list, sorted, chains. -/
namespace Ev
open PySem PySem.Spec PyProof.Rows L2
def tyV (T : Tb) : Ty → Value
  | .int => .type "int" | .bool => .type "bool" | .str => .type "str" | .lst => .type "list" | .tup => .type "tuple" | .own c => .ref (T.ca c)
def tyL (T : Tb) : Ty → V
  | .int => .ty "int" | .bool => .ty "bool" | .str => .ty "str" | .lst => .ty "list" | .tup => .ty "tuple" | .own c => .ref (T.ca c)
def tyS (T : Tb) (cn : Nat → PySem.Str) : Ty → PySem.Str
  | .int => "int" | .bool => "bool" | .str => "str" | .lst => "list" | .tup => "tuple" | .own c => cn c
def tyK (g : Gd) : Ty → Bool
  | .own c => g.known c | _ => true
/-- isinstance among the classes that are known -/
structure KitOk (T : Tb) : Prop where
  own : ∀ c t, T.g.known c = true → tyK T.g t = true → PySem.W.kitOne T.K (.ref (T.ca c)) (tyV T t) = some (decide (t = .own c))
  blt : ∀ s ∈ (["NoneType", "bool", "int", "str", "tuple", "list", "dict"] : List String), ∀ c, T.g.known c = true → PySem.W.kitOne T.K (.type s) (.ref (T.ca c)) = some false
section
variable {T : Tb} {R R' Pr H : Hp} {μ : Mu} {st : S} {X : Cx} {σ : L2.St} {Wx : WX} {n : Nat} {N : List PySem.Str} {nms : List (PySem.Str × NameKind)} {fa : Nat → Option Addr} {cl : Cl}
variable {a b c e : Expr} {es : List Expr} {pos p apos : Pos} {A B D : Sm} {tg : Expr} {E : Ends}
theorem tyV_cls (t : Ty) : ClsV (tyL T t) (tyV T t) := by
  cases t <;> first | exact .ty _ | exact .own _
theorem sqT_ty {K : PySem.W.Frag} {q : Addr} {vs : List V} (h : SqT K H q vs) : TyX K H (.ref q) (.type "tuple") := by
  rcases h with (h | ⟨o, h⟩) | h
  · exact .base (.tup h)
  · exact .fTuple h
  · obtain ⟨o, its, k, e, c, _⟩ := h
    exact .kTuple e c
theorem sqL_ty {K : PySem.W.Frag} {q : Addr} {vs : List V} (h : SqL K H q vs) : TyX K H (.ref q) (.type "list") := by
  rcases h with (h | ⟨o, h⟩) | h
  · exact .base (.lst h)
  · exact .base (.frz h)
  · obtain ⟨o, its, k, e, c, _⟩ := h
    exact .kList e c
theorem isin1_ty (O : TOk T fa) (Z : KitOk T) (sm : Sim T R Pr μ st H) {w : W} {v : V} (r : RelW T R μ w v) (kn : ∀ c, clsOf st w = some c → T.g.known c = true) (hs : (isin1 st w .int).isSome = true) :
    ∃ tv, TyX T.K H v tv ∧ ∀ t b, tyK T.g t = true → isin1 st w t = some b → PySem.W.kitOne T.K tv (tyV T t) = some b := by
  have bl : ∀ (s : String) (f : Ty → Bool), s ∈ (["NoneType", "bool", "int", "str", "tuple", "list", "dict"] : List String) → (∀ c, f (.own c) = false) → (kitB s "int" = some (f .int) ∧ kitB s "bool" = some (f .bool) ∧ kitB s "str" = some (f .str) ∧ kitB s "list" = some (f .lst) ∧ kitB s "tuple" = some (f .tup)) →
      ∀ t b, tyK T.g t = true → some (f t) = some b → PySem.W.kitOne T.K (.type s) (tyV T t) = some b := fun s f hs ho ⟨h1, h2, h3, h4, h5⟩ t b kt e => by
    rw [← e]
    cases t with
    | int => exact kit_ty h1
    | bool => exact kit_ty h2
    | str => exact kit_ty h3
    | lst => exact kit_ty h4
    | tup => exact kit_ty h5
    | own c => rw [ho]; exact Z.blt s hs c kt
  cases w with
  | c x =>
    cases x with
    | non => cases r; exact ⟨_, .base .non, bl "NoneType" (fun _ => false) (by simp) (fun _ => rfl) (by decide +kernel)⟩
    | bl b => cases r; exact ⟨_, .base (.bl _), bl "bool" (fun t => decide (t = .int ∨ t = .bool)) (by simp) (fun _ => by simp) (by decide +kernel)⟩
    | int i => cases r; exact ⟨_, .base (.int _), bl "int" (fun t => decide (t = .int)) (by simp) (fun _ => by simp) (by decide +kernel)⟩
    | str y => cases r; exact ⟨_, .base (.str _), bl "str" (fun t => decide (t = .str)) (by simp) (fun _ => by simp) (by decide +kernel)⟩
    | tup cs => obtain ⟨q, vs, rfl, h1, h2⟩ := r; exact ⟨_, sqT_ty (sqT_le h1 sm.r), bl "tuple" (fun t => decide (t = .tup)) (by simp) (fun _ => by simp) (by decide +kernel)⟩
    | lst cs => obtain ⟨q, vs, rfl, h1, h2⟩ := r; exact ⟨_, .base (.lst (sm.r _ _ h1)), bl "list" (fun t => decide (t = .lst)) (by simp) (fun _ => by simp) (by decide +kernel)⟩
    | frz cs => obtain ⟨q, vs, rfl, h1, h2⟩ := r; exact ⟨_, sqL_ty (sqL_le h1 sm.r), bl "list" (fun t => decide (t = .lst)) (by simp) (fun _ => by simp) (by decide +kernel)⟩
    | dct ks vs => obtain ⟨q, us, ws, rfl, h1, h2⟩ := r; exact ⟨_, .base (.dK (sm.r _ _ h1)), bl "dict" (fun _ => false) (by simp) (fun _ => rfl) (by decide +kernel)⟩
    | ins c fs vs =>
      obtain ⟨q, dx, ws, rfl, h1, h2⟩ := r
      have kc := kn c rfl
      have cx := O.cls c kc
      refine ⟨_, .base (.ins (sm.r _ _ h1) cx.cl cx.ha cx.hn cx.tk cx.hm), fun t b kt e => ?_⟩
      cases e
      exact Z.own c t kc kt
  | r j =>
    cases q0 : cellAt st j with
    | none =>
      unfold isin1 at hs
      simp only [q0] at hs
      cases hs
    | some y =>
      obtain ⟨q, hm, _, _, h4⟩ := sm.c j _ q0
      obtain ⟨q', rfl, h6⟩ := r
      rw [hm] at h6; cases h6
      have ev : ∀ t b, isin1 st (.r j) t = some b → (match y with | .lst _ => some (decide (t = .lst)) | .ins c _ _ => some (decide (t = .own c)) | .dct _ _ => some false) = some b := fun t b e => by
        unfold isin1 at e
        simp only [q0] at e
        cases y <;> exact e
      cases y with
      | lst ws =>
        obtain ⟨vs, h5, _⟩ := h4
        exact ⟨_, .base (.lst h5), fun t b kt e => bl "list" (fun t => decide (t = .lst)) (by simp) (fun _ => by simp) (by decide +kernel) t b kt (ev t b e)⟩
      | dct ks ws =>
        obtain ⟨us, vs, h5, _⟩ := h4
        exact ⟨_, .base (.dK h5), fun t b kt e => bl "dict" (fun _ => false) (by simp) (fun _ => rfl) (by decide +kernel) t b kt (ev t b e)⟩
      | ins c fs ws =>
        obtain ⟨dx, vs, h5, h6, _⟩ := h4
        have kc := kn c (by unfold clsOf; simp only [q0])
        have cx := O.cls c kc
        refine ⟨_, .base (.ins h5 cx.cl cx.ha cx.hn cx.tk cx.hm), fun t b kt e => ?_⟩
        have := ev t b e
        cases this
        exact Z.own c t kc kt
theorem isin_any {tv : Value} {w : W} (h : ∀ t b, tyK T.g t = true → isin1 st w t = some b → PySem.W.kitOne T.K tv (tyV T t) = some b) : ∀ {ts : List Ty} {b : Bool}, ts.all (tyK T.g) = true → isin st w ts = some b → PySem.W.kitAny T.K tv (ts.map (tyV T)) = some b
  | [], b, _, e => by cases e; rfl
  | t :: ts, b, hk, e => by
    simp only [List.all_cons, Bool.and_eq_true] at hk
    unfold isin at e
    cases q : isin1 st w t with
    | none => rw [q] at e; cases e
    | some d =>
      rw [q] at e
      cases d with
      | true => cases e; exact kitAny_cons (h t _ hk.1 q) (fun z => by cases z) fun _ => rfl
      | false => exact kitAny_cons (h t _ hk.1 q) (fun _ => isin_any h hk.2 e) fun z => by cases z
theorem isin1_int {w : W} {t : Ty} {b : Bool} (h : isin1 st w t = some b) : (isin1 st w .int).isSome = true := by
  cases w with
  | c x => cases x <;> rfl
  | r j =>
    unfold isin1 at h ⊢
    cases q : cellAt st j with
    | none => simp only [q] at h; cases h
    | some y => simp only [q]; cases y <;> rfl
theorem isin_int {w : W} {t : Ty} {ts : List Ty} {b : Bool} (h : isin st w (t :: ts) = some b) : (isin1 st w .int).isSome = true := by
  unfold isin at h
  cases q : isin1 st w t with
  | none => rw [q] at h; cases h
  | some d => exact isin1_int q
/-- isinstance(x, T) -/
theorem snd_isi1 (O : TOk T fa) (Z : KitOk T) (c : Ctx T n N nms Wx X) {t : Ty} (hx : glB nms "isinstance" = true) (hm : T.mg "isinstance" = none) (hs : notStar a = true) (hs2 : notStar b = true) (ha : PE X a (rdV T Wx A.v)) (hb : PE X b (tC (tyL T t))) (hk : tyK T.g t = true) :
    PE X (.Call (.Name "isinstance" p) [a, b] [] pos) (rdV T Wx fun env st => (A.v env st).bind fun x st1 => if knownW T.g st1 x then toB (isin st1 x [t]) st1 else .stuck) := by
  obtain ⟨hg, hd, _⟩ := c.gl hx
  refine pe_mono (pe_callB call_isi hg (by rw [c.mg]; exact hm) (by rfl) (pa_cons ha (pa_cons hb pa_nil (star_of hs2)) (star_of hs)) (hpl := star_any_of pos (by simp [hs2])) (he := star_of hs)) fun σ H Q h => ?_
  obtain ⟨Pr, R, μ, env, st, be, hp⟩ := h
  refine rdV.bindV be hp fun R1 μ1 w st1 H1 v l1 b1 r p => ?_
  split at p
  · rename_i kn
    obtain ⟨k, e, q⟩ := toB_post b1.s p
    obtain ⟨tv, ty, f⟩ := isin1_ty O Z b1.s r (fun c hc => by unfold knownW at kn; rw [hc] at kn; exact kn) (isin_int e)
    have e2 : isin1 st1 w t = some k := by
      unfold isin at e
      cases q : isin1 st1 w t with
      | none => rw [q] at e; cases e
      | some d => rw [q] at e; cases d <;> exact e
    exact ⟨v, _, tv, _, k, rfl, tyV_cls t, by rw [c.K]; exact ty, by rw [c.K]; exact f t k hk e2, q⟩
  · exact p.elim
inductive All2 {α β : Type} (r : α → β → Prop) : List α → List β → Prop where
  | nil : All2 r [] []
  | cons {a b as bs} (h : r a b) (t : All2 r as bs) : All2 r (a :: as) (b :: bs)
def tCs (vs : List V) : TA := fun _ H Q => Q vs H
theorem pa_tys {ts : List Ty} {es : List Expr} (h : All2 (fun e t => PE X e (tC (tyL T t)) ∧ notStar e = true) es ts) : PA X es (tCs (ts.map (tyL T))) := by
  induction h with
  | nil => exact ⟨fun pos pins s σ H Q I h => pa_nil.run pos pins s σ H Q I h⟩
  | cons h1 _ ih => exact ⟨fun pos pins s σ H Q I h => (pa_cons h1.1 ih (star_of h1.2)).run pos pins s σ H Q I h⟩
theorem tys_cls : ∀ ts : List Ty, Paired ClsV (ts.map (tyL T)) (ts.map (tyV T))
  | [] => .nil
  | t :: ts => .cons (tyV_cls t) (tys_cls ts)
theorem snd_isiT (O : TOk T fa) (Z : KitOk T) (c : Ctx T n N nms Wx X) {t : Ty} {ts : List Ty} {k : Nat} {pt : Pos} (hx : glB nms "isinstance" = true) (hm : T.mg "isinstance" = none) (hs : notStar a = true) (ha : PE X a (rdV T Wx A.v))
    (hb : All2 (fun e t => PE X e (tC (tyL T t)) ∧ notStar e = true) es (t :: ts)) (hk : (t :: ts).all (tyK T.g) = true) (hl : ts.length < 100) :
    PE X (.Call (.Name "isinstance" p) [a, .Tuple es k pt] [] pos) (rdV T Wx fun env st => (A.v env st).bind fun x st1 => if knownW T.g st1 x then toB (isin st1 x (t :: ts)) st1 else .stuck) := by
  obtain ⟨hg, hd, _⟩ := c.gl hx
  refine pe_mono (pe_callB call_isiT hg (by rw [c.mg]; exact hm) (by rfl) (pa_cons ha (pa_cons (pe_tup (pa_tys hb)) pa_nil (star_of rfl)) (star_of hs)) (hpl := star_any_of pos (by simp [notStar])) (he := star_of hs)) fun σ H Q h => ?_
  obtain ⟨Pr, R, μ, env, st, be, hp⟩ := h
  refine rdV.bindV be hp fun R1 μ1 w st1 H1 v l1 b1 r p => ?_
  split at p
  · rename_i kn
    obtain ⟨d, e⟩ : ∃ d, isin st1 w (t :: ts) = some d := by
      cases q : isin st1 w (t :: ts) with
      | none => rw [q] at p; exact p.elim
      | some d => exact ⟨d, rfl⟩
    rw [e] at p
    obtain ⟨tv, ty, f⟩ := isin1_ty O Z b1.s r (fun c hc => by unfold knownW at kn; rw [hc] at kn; exact kn) (isin_int e)
    refine ⟨?_, fun x hn => ?_⟩
    · rw [← line_eq]; simp; omega
    · have s2 := b1.s.ext (upd_ext (o := .tup ((t :: ts).map (tyL T))) hn)
      obtain ⟨tv, ty, f⟩ := isin1_ty O Z s2 r (fun c hc => by unfold knownW at kn; rw [hc] at kn; exact kn) (isin_int e)
      exact ⟨v, x, _, tv, _, d, rfl, upd_same, tys_cls (t :: ts), by rw [c.K]; exact ty, by rw [c.K]; exact isin_any f hk e, Post.okc s2 p rfl⟩
  · exact p.elim
/-- a type's name -/
theorem pe_tyn (c : Ctx T n N nms Wx X) {x : PySem.Str} {nm : String} (hx : glB nms x = true) (hm : T.mg x = none) (hv : bootBuiltins x = some (.type nm)) : PE X (.Name x pos) (tC (.ty nm)) := by
  obtain ⟨hg, hd, hn⟩ := c.gl hx
  exact pe_bltn hg (by rw [c.mg]; exact hm) hv rfl hn hd
theorem pe_own (c : Ctx T n N nms Wx X) {x : PySem.Str} {q : Addr} (hx : glB nms x = true) (hm : T.mg x = some (.ref q)) : PE X (.Name x pos) (tC (.ref q)) := by
  obtain ⟨hg, hd, hn⟩ := c.gl hx
  exact pe_glob hg (by rw [c.mg]; exact hm) rfl hd
end
end Ev

/-! Lst: list, sorted, chains. -/
namespace Ev
open PySem PySem.Spec PyProof.Rows L2
section
variable {T : Tb} {R R' Pr H : Hp} {μ : Mu} {st : S} {X : Cx} {σ : L2.St} {Wx : WX} {n : Nat} {N : List PySem.Str} {nms : List (PySem.Str × NameKind)} {fa : Nat → Option Addr} {cl : Cl}
variable {a b c e : Expr} {es : List Expr} {pos p apos : Pos} {A B D : Sm} {tg : Expr} {E : Ends}
def biL (b : Bfn) (f : Env → S → Res (List W)) : Env → S → Res (List W) := fun env st => (f env st).bind fun ws st1 => match bfnL b ws st1 with | some r => .ok r st1 | none => .stuck
theorem biL_v (g : Gd) (b : Bfn) (hb : b = .list ∨ b = .sorted) (f : Env → S → Res (List W)) : (Sm.ofL (biL b f)).v = fun env st => (f env st).bind fun ws st1 => bfn g cl b ws st1 := by
  funext env st
  have : ∀ ws st1, ((match bfnL b ws st1 with | some r => Res.ok r st1 | none => .stuck).bind fun ws st' => match clo ws with | some cs => okc (.lst cs) st' | none => .stuck) = bfn g cl b ws st1 := fun ws st1 => by
    rcases hb with rfl | rfl
    all_goals
      show _ = (match (bfnL _ ws st1).bind clo with | some cs => okc (.lst cs) st1 | none => .stuck)
      cases bfnL _ ws st1 with
      | none => rfl
      | some r => rfl
  show ((f env st).bind _).bind _ = _
  cases f env st with
  | ok ws st1 => exact this ws st1
  | ex c x st1 => rfl
  | stuck => rfl
theorem snd_list (c : Ctx T n N nms Wx X) (hx : glB nms "list" = true) (hm : T.mg "list" = none) (hs : notStar a = true) (ha : PE X a (rdV T Wx A.v)) :
    PE X (.Call (.Name "list" p) [a] [] pos) (rdF T Wx (biL .list fun env st => (A.v env st).bind fun x st1 => (Res.ok [] st1 : Res (List W)).bind fun ws st2 => .ok (x :: ws) st2)) := by
  obtain ⟨hg, hd, _⟩ := c.gl hx
  refine pe_mono (pe_callTy call_list_of hg (by rw [c.mg]; exact hm) (by rfl) (pa_cons ha pa_nil (star_of hs)) (he := star_of hs)) fun σ H Q h => ?_
  obtain ⟨Pr, R, μ, env, st, be, hp⟩ := h
  unfold biL at hp
  dsimp only at hp
  refine rdV.bindV (k := fun x st1 => match bfnL .list [x] st1 with | some r => .ok r st1 | none => .stuck) be (by
    cases q : A.v env st with
    | ok x st1 => rw [q] at hp; exact hp
    | ex c x st1 => rw [q] at hp; exact hp
    | stuck => rw [q] at hp; exact hp) fun R1 μ1 w st1 H1 v l1 b1 r p => ?_
  have p : Post T Pr Wx σ (RF T Q) R1 μ1 (match (match seqW st1 w with | some ws => if ws.length ≤ 16777216 then some ws else none | none => none) with | some r => Res.ok r st1 | none => .stuck) := p
  cases q : seqW st1 w with
  | none => rw [q] at p; exact p.elim
  | some ws =>
    rw [q] at p
    obtain ⟨x, vs, rfl, rw1, sq⟩ := seq_at b1.s q r
    refine ⟨x, vs, rfl, by rw [c.K]; exact sq, fun l hl => ?_⟩
    dsimp only at p
    split at p
    · rename_i r' hr
      split at hr
      · cases hr
        exact p.ok b1.s vs l rw1 hl
      · cases hr
    · exact p.elim
theorem sort_eq {xs ys : List Int} (h : ys.Perm xs) (s : ys.Pairwise (· ≤ ·)) : ys = sortI xs := by
  have h2 : (sortI xs).Perm xs := List.mergeSort_perm _ _
  have s2 : (sortI xs).Pairwise (· ≤ ·) := by
    have := List.pairwise_mergeSort (le := fun (a b : Int) => decide (a ≤ b)) (fun a b c h1 h2 => by simp only [decide_eq_true_eq] at *; omega) (fun a b => by simp only [Bool.or_eq_true, decide_eq_true_eq]; omega) xs
    exact this.imp fun h => by simpa using h
  exact List.Perm.eq_of_pairwise (fun a b _ _ h1 h2 => by omega) s s2 (h.trans h2.symm)
theorem snd_sorted (c : Ctx T n N nms Wx X) (hx : glB nms "sorted" = true) (hm : T.mg "sorted" = none) (hs : notStar a = true) (ha : PE X a (rdV T Wx A.v)) :
    PE X (.Call (.Name "sorted" p) [a] [] pos) (rdF T Wx (biL .sorted fun env st => (A.v env st).bind fun x st1 => (Res.ok [] st1 : Res (List W)).bind fun ws st2 => .ok (x :: ws) st2)) := by
  obtain ⟨hg, hd, _⟩ := c.gl hx
  refine pe_mono (pe_callB cr_sortedI hg (by rw [c.mg]; exact hm) (by rfl) (pa_cons ha pa_nil (star_of hs)) (he := star_of hs)) fun σ H Q h => ?_
  obtain ⟨Pr, R, μ, env, st, be, hp⟩ := h
  unfold biL at hp
  dsimp only at hp
  refine rdV.bindV (k := fun x st1 => match bfnL .sorted [x] st1 with | some r => .ok r st1 | none => .stuck) be (by
    cases q : A.v env st with
    | ok x st1 => rw [q] at hp; exact hp
    | ex c x st1 => rw [q] at hp; exact hp
    | stuck => rw [q] at hp; exact hp) fun R1 μ1 w st1 H1 v l1 b1 r p => ?_
  have p : Post T Pr Wx σ (RF T Q) R1 μ1 (match (match listW st1 w with
    | some ws => match intsOf ws with | some ns => if ns.length < 64 then some ((sortI ns).map fun i => W.c (.int i)) else none | none => none
    | none => none) with | some r => Res.ok r st1 | none => .stuck) := p
  cases q : listW st1 w with
  | none => rw [q] at p; exact p.elim
  | some ws =>
    rw [q] at p
    dsimp only at p
    cases q2 : intsOf ws with
    | none => rw [q2] at p; exact p.elim
    | some ns =>
      rw [q2] at p
      dsimp only at p
      obtain ⟨x, vs, rfl, rw1, sq⟩ := list_at b1.s q r
      have e := ints_of q2 rw1
      subst e
      refine ⟨x, ns, rfl, by rw [c.K]; exact sq, fun ns' l h1 h2 hl => ?_⟩
      rw [sort_eq h1 h2]
      split at p
      · rename_i r' hr
        split at hr
        · cases hr
          refine p.ok b1.s _ l ?_ hl
          generalize sortI ns = zs
          induction zs with
          | nil => rfl
          | cons z zs ih => exact ⟨_, _, rfl, rfl, ih⟩
        · cases hr
      · exact p.elim
theorem postBl {r : Res W} {Q : Bool → Hp → Prop} (hp : Post T Pr Wx σ (RB Q) R μ (r.bind truR)) (hw : ∀ w st', r = .ok w st' → isBl w) : Post T Pr Wx σ (RV T fun v H => ∃ k, v = .bl k ∧ Q k H) R μ r := by
  cases r with
  | ok w st' =>
    have hw := hw w st' rfl
    cases w with
    | c x =>
      cases x with
      | bl k => exact fun R' μ' H' l s v rv => ⟨k, rv, hp R' μ' H' l s⟩
      | _ => exact hw.elim
    | r j => exact hw.elim
  | ex c x st' => exact hp
  | stuck => exact hp
theorem snd_cmp2 {op op' : CmpOp} {o o' : W → W → S → Res W} (ho : OpS T X Wx (compareOp op) o) (ho' : OpS T X Wx (compareOp op') o') (ha : PE X a (rdV T Wx A.v)) (hb : PE X b (rdV T Wx B.v)) (hc : PE X c (rdV T Wx D.v)) (hm : lastMarks [op, op'] [b, c] = false) :
    PE X (.Compare a [op, op'] [b, c] pos) (rdV T Wx fun env st => (A.v env st).bind fun x st1 => (B.v env st1).bind fun y st2 => (o x y st2).bind fun t st3 => match t with
      | .c (.bl true) => (D.v env st3).bind fun z st4 => o' y z st4
      | .c (.bl false) => okc (.bl false) st3
      | _ => .stuck) := by
  refine ⟨fun pins s σ H Q I h => ?_⟩
  obtain ⟨Pr, R, μ, env, st, be, h⟩ := h
  refine Compare_chain (thn (ha.run pins s σ H (fun v H1 => ∃ R1 μ1 w st1, Be T Pr R1 μ1 env st1 σ H1 ∧ RelW T R1 μ1 w v ∧ Post T Pr Wx σ (RV T Q) R1 μ1 ((B.v env st1).bind fun y st2 => (o w y st2).bind fun t st3 => match t with
      | .c (.bl true) => (D.v env st3).bind fun z st4 => o' y z st4
      | .c (.bl false) => okc (.bl false) st3
      | _ => .stuck)) I
    (rdV.bindV be h fun R1 μ1 w st1 H1 v l b1 r p => ⟨R1, μ1, w, st1, b1, r, p⟩)) fun v s1 ⟨x, H1, I1, r1, R1, μ1, w, st1, b1, rw1, p1⟩ => chain_link ?_) hm
  refine thn (hb.run pins s1 σ H1 (fun u H2 => ∃ R2 μ2 w2 st2, Le R1 μ1 R2 μ2 ∧ Be T Pr R2 μ2 env st2 σ H2 ∧ RelW T R2 μ2 w2 u ∧ Post T Pr Wx σ (RV T Q) R2 μ2 ((o w w2 st2).bind fun t st3 => match t with
      | .c (.bl true) => (D.v env st3).bind fun z st4 => o' w2 z st4
      | .c (.bl false) => okc (.bl false) st3
      | _ => .stuck)) I1
    (rdV.bindV b1 p1 fun R2 μ2 w2 st2 H2 u l b2 r p => ⟨R2, μ2, w2, st2, l, b2, r, p⟩)) fun u s2 ⟨y, H2, I2, r2, R2, μ2, w2, st2, l2, b2, rw2, p2⟩ => ?_
  refine thn (ho pins s2 σ H2 x y v u (fun z H3 => ∃ k, z = .bl k ∧ ∃ R3 μ3 st3, Le R2 μ2 R3 μ3 ∧ Be T Pr R3 μ3 env st3 σ H3 ∧ Post T Pr Wx σ (RV T Q) R3 μ3 (match k with
      | true => (D.v env st3).bind fun z st4 => o' w2 z st4
      | false => okc (.bl false) st3)) Pr R2 μ2 st2 w w2 I2 r1 r2 b2.s (RelW.le l2 rw1) rw2 (p2.bind' fun R3 μ3 t st3 H3 l3 s3 p3 z rz => ?_)) fun d s3 ⟨z, H3, I3, r3, k, e, R3, μ3, st3, l3, b3, p3⟩ => ?_
  · split at p3
    · cases rz; exact ⟨true, rfl, R3, μ3, st3, l3, b2.le l3 s3, p3⟩
    · cases rz; exact ⟨false, rfl, R3, μ3, st3, l3, b2.le l3 s3, p3⟩
    · exact p3.elim
  · subst e
    cases r3
    refine wpAny_truthy_bool ?_
    cases k with
    | false => exact ite_ff ⟨.bl false, H3, I3, rfl, Post.okc b3.s p3 rfl⟩
    | true =>
      refine ite_tt (chain_last (thn (hc.run pins s3 σ H3 (fun z H4 => ∃ R4 μ4 w4 st4, Le R3 μ3 R4 μ4 ∧ Be T Pr R4 μ4 env st4 σ H4 ∧ RelW T R4 μ4 w4 z ∧ Post T Pr Wx σ (RV T Q) R4 μ4 (o' w2 w4 st4)) I3
        (rdV.bindV b3 p3 fun R4 μ4 w4 st4 H4 u l b4 r p => ⟨R4, μ4, w4, st4, l, b4, r, p⟩)) fun w' s4 ⟨z', H4, I4, r4, R4, μ4, w4, st4, l4, b4, rw4, p4⟩ => ?_))
      exact ho' pins s4 σ H4 y z' u w' Q Pr R4 μ4 st4 w2 w4 I4 r2 r4 b4.s (RelW.le l4 (RelW.le l3 rw2)) rw4 p4
theorem snd_cmp2T {op op' : CmpOp} {o o' : W → W → S → Res W} (ho : OpS T X Wx (compareOp op) o) (ho' : OpS T X Wx (compareOp op') o') (hbl : ∀ x y st w st', o' x y st = .ok w st' → isBl w) (ha : PE X a (rdV T Wx A.v)) (hb : PE X b (rdV T Wx B.v)) (hc : PE X c (rdV T Wx D.v)) (hm : lastMarks [op, op'] [b, c] = false) :
    PT X (.Compare a [op, op'] [b, c] pos) (rdT T Wx fun env st => ((A.v env st).bind fun x st1 => (B.v env st1).bind fun y st2 => (o x y st2).bind fun t st3 => match t with
      | .c (.bl true) => (D.v env st3).bind fun z st4 => o' y z st4
      | .c (.bl false) => okc (.bl false) st3
      | _ => .stuck).bind truR) := by
  refine ⟨fun pins s σ H Q0 I h => ?_⟩
  obtain ⟨Pr, R, μ, env, st, be, h⟩ := h
  replace h := postBl h (by
    intro w st' e
    cases q1 : A.v env st with
    | ex _ _ _ => rw [q1] at e; cases e
    | stuck => rw [q1] at e; cases e
    | ok x1 s1 =>
      rw [q1] at e
      simp only [Res.bind] at e
      cases q2 : B.v env s1 with
      | ex _ _ _ => rw [q2] at e; cases e
      | stuck => rw [q2] at e; cases e
      | ok x2 s2 =>
        rw [q2] at e
        simp only [Res.bind] at e
        cases q3 : o x1 x2 s2 with
        | ex _ _ _ => rw [q3] at e; cases e
        | stuck => rw [q3] at e; cases e
        | ok x3 s3 =>
          rw [q3] at e
          simp only [Res.bind] at e
          split at e
          · cases q4 : D.v env s3 with
            | ex _ _ _ => rw [q4] at e; cases e
            | stuck => rw [q4] at e; cases e
            | ok x4 s4 =>
              rw [q4] at e
              exact hbl _ _ _ _ _ e
          · cases e; trivial
          · cases e)
  generalize hQ : (fun (v : V) (H : Hp) => ∃ k, v = V.bl k ∧ Q0 k H) = Q at h
  refine isTrue_chain (thn (ha.run pins s σ H (fun v H1 => ∃ R1 μ1 w st1, Be T Pr R1 μ1 env st1 σ H1 ∧ RelW T R1 μ1 w v ∧ Post T Pr Wx σ (RV T Q) R1 μ1 ((B.v env st1).bind fun y st2 => (o w y st2).bind fun t st3 => match t with
      | .c (.bl true) => (D.v env st3).bind fun z st4 => o' y z st4
      | .c (.bl false) => okc (.bl false) st3
      | _ => .stuck)) I
    (rdV.bindV be h fun R1 μ1 w st1 H1 v l b1 r p => ⟨R1, μ1, w, st1, b1, r, p⟩)) fun v s1 ⟨x, H1, I1, r1, R1, μ1, w, st1, b1, rw1, p1⟩ => test_link ?_) hm
  refine thn (hb.run pins s1 σ H1 (fun u H2 => ∃ R2 μ2 w2 st2, Le R1 μ1 R2 μ2 ∧ Be T Pr R2 μ2 env st2 σ H2 ∧ RelW T R2 μ2 w2 u ∧ Post T Pr Wx σ (RV T Q) R2 μ2 ((o w w2 st2).bind fun t st3 => match t with
      | .c (.bl true) => (D.v env st3).bind fun z st4 => o' w2 z st4
      | .c (.bl false) => okc (.bl false) st3
      | _ => .stuck)) I1
    (rdV.bindV b1 p1 fun R2 μ2 w2 st2 H2 u l b2 r p => ⟨R2, μ2, w2, st2, l, b2, r, p⟩)) fun u s2 ⟨y, H2, I2, r2, R2, μ2, w2, st2, l2, b2, rw2, p2⟩ => ?_
  refine thn (ho pins s2 σ H2 x y v u (fun z H3 => ∃ k, z = .bl k ∧ ∃ R3 μ3 st3, Le R2 μ2 R3 μ3 ∧ Be T Pr R3 μ3 env st3 σ H3 ∧ Post T Pr Wx σ (RV T Q) R3 μ3 (match k with
      | true => (D.v env st3).bind fun z st4 => o' w2 z st4
      | false => okc (.bl false) st3)) Pr R2 μ2 st2 w w2 I2 r1 r2 b2.s (RelW.le l2 rw1) rw2 (p2.bind' fun R3 μ3 t st3 H3 l3 s3 p3 z rz => ?_)) fun d s3 ⟨z, H3, I3, r3, k, e, R3, μ3, st3, l3, b3, p3⟩ => ?_
  · split at p3
    · cases rz; exact ⟨true, rfl, R3, μ3, st3, l3, b2.le l3 s3, p3⟩
    · cases rz; exact ⟨false, rfl, R3, μ3, st3, l3, b2.le l3 s3, p3⟩
    · exact p3.elim
  · subst e
    cases r3
    refine wpAny_truthy_bool ?_
    cases k with
    | false =>
      have q := Post.okc (v := .bl false) b3.s p3 rfl
      rw [← hQ] at q
      obtain ⟨k', e', q'⟩ := q
      cases e'
      exact ite_ff ⟨H3, I3, q'⟩
    | true =>
      refine ite_tt (test_last (thn (hc.run pins s3 σ H3 (fun z H4 => ∃ R4 μ4 w4 st4, Le R3 μ3 R4 μ4 ∧ Be T Pr R4 μ4 env st4 σ H4 ∧ RelW T R4 μ4 w4 z ∧ Post T Pr Wx σ (RV T Q) R4 μ4 (o' w2 w4 st4)) I3
        (rdV.bindV b3 p3 fun R4 μ4 w4 st4 H4 u l b4 r p => ⟨R4, μ4, w4, st4, l, b4, r, p⟩)) fun w' s4 ⟨z', H4, I4, r4, R4, μ4, w4, st4, l4, b4, rw4, p4⟩ => ?_))
      refine thn (ho' pins s4 σ H4 y z' u w' Q Pr R4 μ4 st4 w2 w4 I4 r2 r4 b4.s (RelW.le l4 (RelW.le l3 rw2)) rw4 p4) fun d s5 ⟨z5, H5, I5, r5, q5⟩ => ?_
      rw [← hQ] at q5
      obtain ⟨k', e', q'⟩ := q5
      subst e'
      cases r5
      exact wpAny_truthy_bool ⟨H5, I5, q'⟩
end
end Ev

/-! Tr: the translation of expressions, and that it is sound. -/
namespace Ev
open PySem PySem.Spec PyProof.Rows L2
abbrev Nms := List (PySem.Str × NameKind)
/-- the names of a program -/
structure Gt where
  fn : PySem.Str → Option Nat
  cls : PySem.Str → Option Nat
  con : PySem.Str → Option Nat
  nm : PySem.Str → Option Nat
  free : PySem.Str → Bool
  mu : Pos → Bool
  /-- by keywords: a def; a class and its entry; a class's staticmethod -/
  kwf : PySem.Str → Nat → List PySem.Str → Option Nat := fun _ _ _ => none
  kwc : PySem.Str → Nat → List PySem.Str → Option (Nat × Nat) := fun _ _ _ => none
  sm : PySem.Str → PySem.Str → Option Nat := fun _ _ => none
  /-- exception classes; defs that are called in except suites; lambdas by the place of the call -/
  xc : PySem.Str → Option Nat := fun _ => none
  hfn : PySem.Str → Option Nat := fun _ => none
  thk : PySem.Str → Pos → Option Nat := fun _ _ => none
  lamN : List PySem.Str → Bool := fun _ => false
structure GtOk (T : Tb) (fa : Nat → Option Addr) (G : Gt) : Prop where
  xc : ∀ x c, G.xc x = some c → T.mg x = some (.ref (T.ea c))
  thk : ∀ x p j, G.thk x p = some j → ∃ ad, T.tha j = some ad ∧ T.mg x = some (.ref ad) ∧ PySem.W.keepIn T.K (.ref ad) = true
  lamN : ∀ N, G.lamN N = true → (T.lamN N).isSome = true
  hfn : ∀ x f, G.hfn x = some f → ∃ ad, T.hfa f = some ad ∧ T.mg x = some (.ref ad) ∧ PySem.W.keepIn T.K (.ref ad) = true
  fn : ∀ x f, G.fn x = some f → ∃ ad, fa f = some ad ∧ T.mg x = some (.ref ad)
  cls : ∀ x c, G.cls x = some c → T.mg x = some (.ref (T.ca c))
  con : ∀ x i, G.con x = some i → ∃ v u c, T.mg x = some u ∧ RelV v u ∧ T.g.con i = some c ∧ ∀ R, RelC T R c v
  nm : ∀ x i, G.nm x = some i → T.nm i = x
  free : ∀ x, G.free x = true → T.mg x = none
  kwf : ∀ x n ks f, G.kwf x n ks = some f → ∃ ad, T.fk f = some (ad, n, ks) ∧ T.mg x = some (.ref ad) ∧ PySem.W.keepIn T.K (.ref ad) = true
  kwc : ∀ x n ks c f, G.kwc x n ks = some (c, f) → ∃ ad, T.fk f = some (ad, n + 1, ks) ∧ T.mg x = some (.ref (T.ca c)) ∧ Mk T.K (T.ca c) ad
  sm : ∀ x m f, G.sm x m = some f → ∃ ad C q mc, fa f = some ad ∧ T.mg x = some (.ref C) ∧ SMet T.K C mc m q ad
abbrev TrE := Nms → Expr → Option Ex
def copOf : CmpOp → Cop
  | .Eq => .eq | .NotEq => .ne | .Lt => .lt | .LtE => .le | .Gt => .gt | .GtE => .ge | .Is => .is | .IsNot => .isnot | .In => .isin | .NotIn => .notin
def bopOf : Operator → Option Bop
  | .Add => some .add | .Sub => some .sub | .Mult => some .mul | .FloorDiv => some .fdiv | .Mod => some .mod | .Pow => some .pow | .BitAnd => some .band | _ => none
def bltOf (x : PySem.Str) : Option Bfn :=
  if x = "len" then some .len else if x = "all" then some .all else if x = "any" then some .any else if x = "abs" then some .abs else if x = "min" then some .min else if x = "max" then some .max else if x = "sum" then some .sum
  else if x = "int" then some .int else if x = "tuple" then some .tuple else if x = "repr" then some .repr else if x = "str" then some .str else none
section
variable (G : Gt) (g : Gd) (N : List PySem.Str) (r : TrE)
def trA (nms : Nms) : List Expr → Option Ex
  | [] => some .nil
  | e :: es => if notStar e then match r nms e, trA nms es with | some a, some b => some (.cons a b) | _, _ => none else none
def trB (nms : Nms) (op : BoolOp) : List Expr → Option Ex
  | [] => none
  | [e] => r nms e
  | e :: es => match r nms e, trB nms op es with
    | some a, some b => some (match op with | .And => .and a b | .Or => .or a b)
    | _, _ => none
def trTyN (nms : Nms) : Expr → Option Ty
  | .Name x _ => if glB nms x then (match G.cls x with
      | some c => if g.known c then some (.own c) else none
      | none => if G.free x then (if x = "int" then some .int else if x = "bool" then some .bool else if x = "str" then some .str else if x = "list" then some .lst else if x = "tuple" then some .tup else none) else none) else none
  | _ => none
def trTys (nms : Nms) : List Expr → Option (List Ty)
  | [] => some []
  | e :: es => match trTyN G g nms e, trTys nms es with | some a, some b => some (a :: b) | _, _ => none
def trTy (nms : Nms) : Expr → Option (List Ty)
  | .Tuple es _ _ => match trTys G g nms es with | some (t :: ts) => if ts.length < 100 then some (t :: ts) else none | _ => none
  | e => (trTyN G g nms e).map fun t => [t]
def ixOf (x : PySem.Str) : Option Nat := match N.findIdx? (· == x) with | some i => if N[i]? == some x then some i else none | none => none
def trT0 (nms : Nms) : Expr → Option Tg
  | .Name x _ => if locB nms x then (ixOf N x).map .n else none
  | _ => none
def trTs (t : Expr → Option Tg) : List Expr → Option Tg
  | [] => some .nil
  | e :: es => if notStar e then match t e, trTs t es with | some a, some b => some (.cons a b) | _, _ => none else none
def trT (nms : Nms) : Nat → Expr → Option Tg
  | 0, e => trT0 N nms e
  | k + 1, e => match e with
    | .Tuple es _ _ => match trTs (trT nms k) es with | some t => if tgLen t = es.length then some (.t t) else none | none => none
    | e => trT0 N nms e
def isTupE : Expr → Bool
  | .Tuple _ _ _ => true | _ => false
def trI (nms : Nms) (tg : Expr) : Expr → Option Ex
  | .Call (.Name x p) [a] [] pos =>
    if x = "range" ∧ glB nms "range" ∧ G.free "range" ∧ notStar a then (r nms a).map .rng1
    else if x = "enumerate" ∧ glB nms "enumerate" ∧ G.free "enumerate" ∧ notStar a ∧ isTupE tg then (r nms a).map .enum
    else (r nms (.Call (.Name x p) [a] [] pos)).map .itv
  | .Call (.Name x p) [a, b] [] pos =>
    if x = "range" ∧ glB nms "range" ∧ G.free "range" ∧ notStar a ∧ notStar b then match r nms a, r nms b with | some a, some b => some (.rng2 a b) | _, _ => none
    else if x = "zip" ∧ glB nms "zip" ∧ G.free "zip" ∧ notStar a ∧ notStar b ∧ isTupE tg then match r nms a, r nms b with | some a, some b => some (.zip a b) | _, _ => none
    else (r nms (.Call (.Name x p) [a, b] [] pos)).map .itv
  | e => match r nms e with | some (.var i) => some (.itr i) | o => o.map .itv
def notSet : Expr → Bool
  | .Set _ _ _ => false | _ => true
def ownOf (scope : Scope) : List (PySem.Str × Nat) := scope.names.filterMap fun (x, k) => if k == .local || k == .cell then (ixOf N x).map fun i => (x, i) else none
def trIf (nms : Nms) : List Expr → Option Ex
  | [] => some (.bl true) | [c] => r nms c | _ => none
/-- a new list -/
def trF (nms : Nms) : Expr → Option Ex
  | .List es _ => if es.length ≤ 16777216 then (trA r nms es).map .lst else none
  | .ListComp elt [⟨tg, iter, ifs, 0⟩] scope _ =>
    if blkB N nms scope (ownOf N scope) && notSet iter then match trI G r nms tg iter, trT N scope.names 3 tg, trIf r scope.names ifs, r scope.names elt with
      | some i, some t, some c, some e => if (slots t).all ((ownOf N scope).map (·.2)).contains then some (.lc e t i c ((ownOf N scope).map (·.2))) else none
      | _, _, _, _ => none
    else none
  | .Call (.Name x _) [a] [] _ =>
    if x = "list" ∧ glB nms "list" ∧ G.free "list" ∧ notStar a then (trA r nms [a]).map (.bi .list)
    else if x = "sorted" ∧ glB nms "sorted" ∧ G.free "sorted" ∧ notStar a then (trA r nms [a]).map (.bi .sorted)
    else none
  | _ => none
def trO (nms : Nms) : Option Expr → Option Ex
  | none => some .nil
  | some e => (r nms e).map fun x => .cons x .nil
/-- a sum, kept as a cell where it is changed later -/
def sumX (m : Bool) (op : Operator) (o : Bop) (a b : Ex) : Ex := match op with
  | .Add => if m then .madd a b else .bin o a b
  | _ => .bin o a b
def trC (nms : Nms) : Expr → Option Ex
  | .Name x _ => if visB nms x then (match ixOf N x with | some i => if (x == ("__debug__" : PySem.Str)) || (x == ("__classdict__" : PySem.Str)) then none else some (.var i) | none => none)
      else if glB nms x then (G.con x).map .glob else none
  | .Constant (.int i) _ _ => some (.int i)
  | .Constant (.bool b) _ _ => some (.bl b)
  | .Constant .none _ _ => some .non
  | .Constant (.str s) _ _ => some (.str s.cps.toList)
  | .BinOp a op b p => match r nms a, bopOf op, r nms b with | some a, some o, some b => some (sumX (G.mu p) op o a b) | _, _, _ => none
  | .UnaryOp .USub a _ => (r nms a).map .neg
  | .UnaryOp .Not a _ => (r nms a).map .not
  | .BoolOp op (e :: es) _ => trB r nms op (e :: es)
  | .IfExp c a b _ => match r nms c, r nms a, r nms b with | some c, some a, some b => some (.ite c a b) | _, _, _ => none
  | .Compare a [op] [b] _ => if behindInMarks op b then none else match r nms a, r nms b with | some a, some b => some (.cmp (copOf op) a b) | _, _ => none
  | .Compare a [op, op'] [b, c] _ => if lastMarks [op, op'] [b, c] then none else match r nms a, r nms b, r nms c with | some a, some b, some c => some (.cmp2 (copOf op) (copOf op') a b c) | _, _, _ => none
  | .Tuple es _ _ => if es.length ≤ 16777216 then (trA r nms es).map .tup else none
  | .Attribute o f _ => if baseOk o then match r nms o, G.nm f with | some o, some f => some (.attr o f) | _, _ => none else none
  | .Subscript o (.Slice lo hi none _) _ => match r nms o, trO r nms lo, trO r nms hi with | some o, some l, some h => some (.sl o l h) | _, _, _ => none
  | .Subscript o i _ => if ixOk i then match r nms o, r nms i with | some o, some i => some (.ix o i) | _, _ => none else none
  | .Call (.Name x _) args [] _ =>
    if glB nms x then match G.fn x with
      | some f => (trA r nms args).map (.call f)
      | none => match G.cls x with
        | some c => if (g.init c).isSome then (trA r nms args).map (.make c) else none
        | none => if G.free x then
            (if x = "isinstance" then match args with
              | [a, b] => if notStar a && notStar b then match r nms a, trTy G g nms b with | some a, some ts => some (.isi a ts) | _, _ => none else none
              | _ => none
            else match bltOf x, args with | some b, _ :: _ => (trA r nms args).map (.bi b) | _, _ => none)
          else none
    else none
  | .Call (.Attribute o m apos) args [] pos => if baseOk o && (apos.endLine == pos.line) && decide (args.length < 30) then match r nms o, G.nm m, trA r nms args with | some o, some m, some es => some (.meth o m es) | _, _, _ => none else none
  | _ => none
/-! ### keywords, stars, methods of lists, displays of dicts -/
def trKw (nms : Nms) : List Keyword → Option Ex
  | [] => some .nil
  | ⟨some _, e, _⟩ :: ks => match r nms e, trKw nms ks with | some a, some b => some (.cons a b) | _, _ => none
  | _ => none
def keyL : List (Option Expr) → Option (List (List Nat))
  | [] => some []
  | some (.Constant (.str s) _ _) :: l => (keyL l).map (s.cps.toList :: ·)
  | _ => none
def bmOf (m : PySem.Str) (n : Nat) : Option Bm :=
  if m = "append" ∧ n = 1 then some .append else if m = "extend" ∧ n = 1 then some .extend else if m = "pop" ∧ n = 0 then some .pop else if m = "pop" ∧ n = 1 then some .popat
  else if m = "insert" ∧ n = 2 then some .insert else if m = "index" ∧ n = 1 then some .index else if m = "count" ∧ n = 1 then some .count else none
def trX (nms : Nms) : Expr → Option Ex
  | .Dict keys vals _ => match keyL keys, trA r nms vals with
    | some ks, some x => if ks.length ≤ 15 ∧ ks.Nodup ∧ keys.length = vals.length then some (.dsp ks x) else none
    | _, _ => none
  | .Call (.Name x _) [.Starred e _] [] _ => if glB nms x then (match G.fn x with
      | some f => (r nms e).map (.calls f)
      | none => match G.cls x with
        | some c => if (g.init c).isSome then (r nms e).map (.makes c) else none
        | none => none) else none
  | .Call (.Name x _) args (k :: kws) _ => if glB nms x && (k :: kws).all (fun k => k.arg.isSome) then (match G.kwf x args.length ((k :: kws).filterMap fun k => k.arg) with
      | some f => match trA r nms args, trKw r nms (k :: kws) with | some a, some b => some (.callk f a b) | _, _ => none
      | none => match G.kwc x args.length ((k :: kws).filterMap fun k => k.arg) with
        | some (c, f) => match trA r nms args, trKw r nms (k :: kws) with | some a, some b => some (.makek c f a b) | _, _ => none
        | none => none) else none
  | .Call (.Attribute o m apos) args [] pos => if (apos.endLine == pos.line) && decide (args.length < 30) then (match bmOf m args.length with
      | some b => if baseOk o then (match r nms o, trA r nms args with | some o, some es => some (.bm b o es) | _, _ => none) else none
      | none => match o with
        | .Name x _ => if glB nms x then (match G.sm x m with
            | some f => (trA r nms args).map (.call f)
            | none => none) else none
        | _ => none) else none
  | _ => none
/-- F(lambda: e) -/
def freeIx : Nms → Option (List Nat)
  | [] => some []
  | (x, .free) :: l => (match ixOf N x, freeIx l with | some i, some is => some (i :: is) | _, _ => none)
  | _ :: l => freeIx l
def varL : List Nat → Ex
  | [] => .nil
  | i :: is => .cons (.var i) (varL is)
def lamB (nms : Nms) (scope : Scope) : Bool := decide (scope.kind = .function) && (!scope.isCoroutine && (!scope.isGenerator && scope.names.all fun y => !decide (y.2 = .local) && (!decide (y.2 = .cell) && (!decide (y.2 = .free) || decide (nms.lookup y.1 = some .cell)))))
def noArgs : Arguments → Bool
  | ⟨[], [], none, [], [], none, []⟩ => true
  | _ => false
def trL (nms : Nms) : Expr → Option Ex
  | .Call (.Name x _) [.Lambda params body scope _] [] pos => match G.thk x pos with
    | some j => if glB nms x && (lamB nms scope && (noArgs params && G.lamN N)) then (match g.thk j, freeIx N scope.names, r scope.names body with
      | some t, some is, some e => if t.n = N.length ∧ t.slots = is ∧ t.e = e then some (.call j (varL is)) else none
      | _, _, _ => none) else none
    | none => none
  | _ => none
/-- one step of the translation -/
def trS (r0 : TrE) : TrE := fun nms e => match trL G g N r0 nms e with
  | some x => some x
  | none => match trF G N r nms e with
    | some x => if G.mu e.pos then some (.mut x) else some x
    | none => match trX G g r nms e with
      | some x => some x
      | none => trC G g N r nms e
end
def Gt.nolam (G : Gt) : Gt := { G with lamN := fun _ => false, thk := fun _ _ => none }
def tr (G : Gt) (g : Gd) (N : List PySem.Str) : Nat → TrE
  | 0 => fun _ _ => none
  | n + 1 => trS G g N (tr G g N n) (tr G.nolam g N n)

def lamC (scope : Scope) : Bool := scope.names.all fun y => !decide (y.2 = .cell)
/-- what a def that is handed a lambda promises -/
def ThG (T : Tb) (n : Nat) (cl : Cl) (G : Gt) : Prop :=
  ∀ (j : Nat) (ad : Addr) (t : Th) (N : List PySem.Str) (nms : Nms) (Wx : WX) (X : Cx) (q : PySem.Str) (c P : Addr) (m : Nat) (params : Arguments) (body : Expr) (scope : Scope) (pins : List (Addr × Obj)) (s : Shared) (σ : L2.St) (H : Hp) (f c' : Addr) (pm ctv : Value)
    (Pr R : Hp) (μ : Mu) (envc : Env) (ws : List W) (st : S) (Q : VK), T.tha j = some ad → T.g.thk j = some t → Ctx T n N nms Wx X → T.lamN N = some (q, c, P) → noArgs params = true → LamX.LamS X.env.scope scope → lamC scope = true → tr G.nolam T.g N m scope.names body = some t.e →
    Inv X pins σ H s → s.heap.get? f = some (PySem.W.kla_obj "<lambda>" (X.env.qual ++ "<lambda>") params body scope (cloFrom X.env.cells scope.names []) pm c' ctv) → H f = none → f ∉ frs X.stack → H c' = some (LamX.CodeO c' (X.env.qual ++ "<lambda>")) →
    Sim T R Pr μ st H → sets t.slots ws (List.replicate t.n none) = some envc → EnvR T R μ envc σ → Post T Pr Wx σ (RV T Q) R μ (cl j ws st) → wpAny (model X.prog X.w) X.A (PySem.call (.ref ad) [.ref f]) (EP X pins σ Q) X.xe s

/-! ### sound -/
theorem cmpop_bl {g : Gd} {cl : Cl} {op : Cop} {x y : W} {st st' : S} {w : W} (h : cmpop g cl op x y st = .ok w st') : isBl w := by
  have tb : ∀ {o : Option Bool} {st : S}, toB o st = .ok w st' → isBl w := fun {o st} h => by
    unfold toB at h
    split at h
    · cases h; trivial
    · cases h
  have ng : ∀ {b : Bool} {r : Res W}, negR b r = .ok w st' → isBl w := fun {b r} h => by
    unfold negR at h
    split at h
    · cases h; trivial
    · cases h
    · cases h
    · cases h
  have eq : ∀ {b : Bool}, eqR g cl b x y st = .ok w st' → isBl w := fun {b} h => by
    unfold eqR at h
    split at h
    · split at h
      · split at h
        · split at h
          · exact ng h
          · cases h
        · split at h
          · exact ng h
          · cases h
      · cases h
    · exact tb h
  have inn : ∀ {b : Bool}, inR g cl b x y st = .ok w st' → isBl w := fun {b} h => by
    unfold inR at h
    split at h
    · split at h
      · exact ng h
      · cases h
    · exact tb h
  have od : ∀ {op : Cop}, ordOp op x y st = .ok w st' → isBl w := fun {op} h => by
    unfold ordOp at h
    split at h
    · exact tb h
    · cases h
  cases op with
  | eq => exact eq h
  | ne => exact eq h
  | lt => exact od h
  | le => exact od h
  | gt => exact od h
  | ge => exact od h
  | is => exact tb h
  | isnot => exact tb h
  | isin => exact inn h
  | notin => exact inn h
section
variable {T : Tb} {n : Nat} {N : List PySem.Str} {fa : Nat → Option Addr} {cl : Cl} {G : Gt}
def GoodE (T : Tb) (n : Nat) (N : List PySem.Str) (cl : Cl) (r : TrE) : Prop := ∀ nms e x, r nms e = some x → ∀ Wx X, Ctx T n N nms Wx X → PE X e (rdV T Wx (sem T.g cl x).v) ∧ PT X e (rdT T Wx (sem T.g cl x).t)
variable {r : TrE} {nms : Nms} {Wx : WX} {X : Cx}
theorem ops_cmp (F : Fns T fa n cl) (O : TOk T fa) (c : Ctx T n N nms Wx X) (op : CmpOp) : OpS T X Wx (compareOp op) (cmpop T.g cl (copOf op)) := by
  cases op with
  | Eq => exact ops_eq F O c
  | NotEq => exact ops_ne F O c
  | Lt => exact ops_lt _
  | LtE => exact ops_le _
  | Gt => exact ops_gt _
  | GtE => exact ops_ge _
  | Is => exact ops_is _
  | IsNot => exact ops_isnot _
  | In => exact ops_in F O c
  | NotIn => exact ops_notin F O c
theorem ops_bin (F : Fns T fa n cl) (O : TOk T fa) (c : Ctx T n N nms Wx X) {op : Operator} {o : Bop} (h : bopOf op = some o) : OpS T X Wx (binaryOp op) (bin T.g cl o) := by
  cases op <;> cases h
  · exact ops_add c.K
  · exact ops_sub
  · exact ops_mul
  · exact ops_mod
  · exact ops_pow
  · exact ops_band F O c
  · exact ops_fdiv
theorem snd_trA (g : GoodE T n N cl r) (c : Ctx T n N nms Wx X) : ∀ {es : List Expr} {x : Ex}, trA r nms es = some x → PA X es (rdL T Wx (sem T.g cl x).l) ∧ es.all notStar = true ∧ ∀ env st ws st', (sem T.g cl x).l env st = .ok ws st' → ws.length = es.length
  | [], x, h => by
    cases h
    refine ⟨snd_nil, rfl, fun env st ws st' e => ?_⟩
    have e : Res.ok [] st = .ok ws st' := e
    cases e; rfl
  | a :: es, x, h => by
    unfold trA at h
    split at h
    · rename_i hs
      split at h
      · rename_i y z hy hz
        cases h
        obtain ⟨i1, i2, i3⟩ := snd_trA g c hz
        refine ⟨snd_cons hs (g _ _ _ hy _ _ c).1 i1, by simp [hs, i2], fun env st ws st' e => ?_⟩
        have e : ((sem T.g cl y).v env st).bind (fun x st1 => ((sem T.g cl z).l env st1).bind fun ws st2 => .ok (x :: ws) st2) = .ok ws st' := e
        cases q1 : (sem T.g cl y).v env st with
        | ex _ _ _ => rw [q1] at e; cases e
        | stuck => rw [q1] at e; cases e
        | ok w1 st1 =>
          rw [q1] at e
          simp only [Res.bind] at e
          cases q2 : (sem T.g cl z).l env st1 with
          | ex _ _ _ => rw [q2] at e; cases e
          | stuck => rw [q2] at e; cases e
          | ok w2 st2 =>
            rw [q2] at e
            simp only [Res.bind] at e
            cases e
            simp [i3 _ _ _ _ q2]
      · cases h
    · cases h
theorem snd_trB (g : GoodE T n N cl r) (c : Ctx T n N nms Wx X) {pos : Pos} {op : BoolOp} : ∀ {es : List Expr} {x : Ex}, trB r nms op es = some x → PE X (.BoolOp op es pos) (rdV T Wx (sem T.g cl x).v) ∧ PW X (.BoolOp op es pos) (rdT T Wx (sem T.g cl x).t)
  | [], x, h => by cases h
  | [e], x, h => by
    unfold trB at h
    obtain ⟨g1, g2⟩ := g _ _ _ h _ _ c
    refine ⟨⟨fun pins s σ H Q I q => BoolOp_one (g1.run pins s σ H Q I q)⟩, ?_⟩
    cases op with
    | And => exact pw_and1 g2
    | Or => exact pw_or1 g2
  | e :: e2 :: es, x, h => by
    unfold trB at h
    split at h
    · rename_i a b ha hb
      cases h
      obtain ⟨g1, g2⟩ := g _ _ _ ha _ _ c
      obtain ⟨i1, i2⟩ := snd_trB g c (pos := pos) hb
      cases op with
      | And => exact ⟨snd_and c.K g1 i1, snd_andT g2 i2⟩
      | Or => exact ⟨snd_or c.K g1 i1, snd_orT g2 i2⟩
    · cases h
theorem ixOf_ok {x : PySem.Str} {i : Nat} (h : ixOf N x = some i) : N[i]? = some x := by
  unfold ixOf at h
  split at h
  · split at h
    · rename_i q; cases h; exact beq_iff_eq.mp q
    · cases h
  · cases h
theorem snd_trT0 (c : Ctx T n N nms Wx X) {e : Expr} {t : Tg} (h : trT0 N nms e = some t) : PG X e (gT T (bindTg [] t) (slots t)) := by
  unfold trT0 at h
  split at h
  · split at h
    · rename_i hl
      cases q : ixOf N _ with
      | none => rw [q] at h; cases h
      | some i => rw [q] at h; cases h; exact snd_tgn c (ixOf_ok q) hl []
    · cases h
  · cases h
theorem snd_trTs {f : Expr → Option Tg} (hf : ∀ e t, f e = some t → PG X e (gT T (bindTg [] t) (slots t))) : ∀ {es : List Expr} {t : Tg}, trTs f es = some t → PGs X es (gTs T (bindTgs [] t) (slots t)) ∧ es.all notStar = true
  | [], t, h => by cases h; exact ⟨snd_tgnil [], rfl⟩
  | e :: es, t, h => by
    unfold trTs at h
    split at h
    · rename_i hs
      split at h
      · rename_i a b ha hb
        cases h
        obtain ⟨i1, i2⟩ := snd_trTs hf hb
        exact ⟨snd_tgcons [] (hf _ _ ha) i1 hs, by simp [hs, i2]⟩
      · cases h
    · cases h
theorem snd_trT (c : Ctx T n N nms Wx X) : ∀ {k : Nat} {e : Expr} {t : Tg}, trT N nms k e = some t → PG X e (gT T (bindTg [] t) (slots t))
  | 0, e, t, h => snd_trT0 c h
  | k + 1, e, t, h => by
    unfold trT at h
    split at h
    · split at h
      · rename_i t' ht
        split at h
        · rename_i hl
          cases h
          obtain ⟨i1, i2⟩ := snd_trTs (fun e t h => snd_trT c h) ht
          exact snd_tgt c [] i1 i2 hl
        · cases h
      · cases h
    · exact snd_trT0 c h
theorem map_some {α β : Type} {o : Option α} {f : α → β} {y : β} (h : o.map f = some y) : ∃ x, o = some x ∧ f x = y := by
  cases o with
  | none => cases h
  | some x => cases h; exact ⟨x, rfl, rfl⟩
theorem snd_trI (K : GtOk T fa G) (g : GoodE T n N cl r) (c : Ctx T n N nms Wx X) {tg e : Expr} {x : Ex} (h : trI G r nms tg e = some x) : PI X tg e (rdI T Wx (lkE x) (sem T.g cl x).l) := by
  have itv : ∀ {e : Expr} {x : Ex}, (r nms e).map .itv = some x → PI X tg e (rdI T Wx (lkE x) (sem T.g cl x).l) := fun {e x} h => by
    obtain ⟨y, h1, rfl⟩ := map_some h
    exact snd_itv c.K (g _ _ _ h1 _ _ c).1
  unfold trI at h
  split at h
  · split at h
    · rename_i q
      obtain ⟨rfl, q1, q2, q3⟩ := q
      obtain ⟨y, h1, rfl⟩ := map_some h
      exact snd_rng1 c q1 (K.free _ q2) q3 (g _ _ _ h1 _ _ c).1
    · split at h
      · rename_i q
        obtain ⟨rfl, q1, q2, q3, q4⟩ := q
        obtain ⟨y, h1, rfl⟩ := map_some h
        cases tg <;> first | exact snd_enum c q1 (K.free _ q2) q3 (g _ _ _ h1 _ _ c).1 | cases q4
      · exact itv h
  · split at h
    · rename_i q
      obtain ⟨rfl, q1, q2, q3, q4⟩ := q
      split at h
      · rename_i ha hb
        cases h
        exact snd_rng2 c q1 (K.free _ q2) q3 q4 (g _ _ _ ha _ _ c).1 (g _ _ _ hb _ _ c).1
      · cases h
    · split at h
      · rename_i q
        obtain ⟨rfl, q1, q2, q3, q4, q5⟩ := q
        split at h
        · rename_i ha hb
          cases h
          cases tg <;> first | exact snd_zip c q1 (K.free _ q2) q3 q4 (g _ _ _ ha _ _ c).1 (g _ _ _ hb _ _ c).1 | cases q5
        · cases h
      · exact itv h
  · split at h
    · rename_i hv
      cases h
      exact snd_itr c.K (g _ _ _ hv _ _ c).1
    · exact itv h
theorem fold_of {e : Expr} {env : PySem.Env} (h : notSet e = true) : ∀ x, foldedSetIterable e env x = pure x := by
  intro x
  cases e <;> first | rfl | cases h
theorem snd_trIf (g : GoodE T n N cl r) (c : Ctx T n N nms Wx X) {ifs : List Expr} {x : Ex} (h : trIf r nms ifs = some x) : PTs X ifs (rdT T Wx (sem T.g cl x).t) := by
  unfold trIf at h
  split at h
  · cases h
    refine ⟨fun pins s σ H Q I hw => pts_nil.run pins s σ H Q I ?_⟩
    obtain ⟨Pr, R, μ, env, st, be, hp⟩ := hw
    exact hp R μ H (Le.refl _ _) be.s
  · exact pts_one (g _ _ _ h _ _ c).2
  · cases h
/-- what a new list is read as -/
structure GoodF (T : Tb) (cl : Cl) (Wx : WX) (X : Cx) (e : Expr) (x : Ex) : Prop where
  f : PE X e (rdF T Wx (sem T.g cl x).l)
  v : (sem T.g cl x).v = (Sm.ofL (sem T.g cl x).l).v
  p : plainT e = true
  t : (sem T.g cl x).t = (Sm.ofL (sem T.g cl x).l).t ∨ (sem T.g cl x).t = fun env st => ((sem T.g cl x).v env st).bind truR
/-- what a comprehension is made of -/
structure GoodLc (T : Tb) (n : Nat) (N : List PySem.Str) (cl : Cl) (nms : Nms) (Wx : WX) (X : Cx) (elt tg iter : Expr) (ifs : List Expr) (scope : Scope) (i : Ex) (t : Tg) (c e : Ex) : Prop where
  b : blkB N nms scope (ownOf N scope) = true
  ns : notSet iter = true
  sl : ∀ j ∈ slots t, j ∈ (ownOf N scope).map (·.2)
  i : PI X tg iter (rdI T Wx (lkE i) (sem T.g cl i).l)
  g : ∀ X', Ctx T n N scope.names WF X' → PG X' tg (gT T (bindTg [] t) (slots t))
  t : ∀ X', Ctx T n N scope.names WF X' → PTs X' ifs (rdT T WF (sem T.g cl c).t)
  e : ∀ X', Ctx T n N scope.names WF X' → PE X' elt (rdV T WF (sem T.g cl e).v)
theorem trF_lc (K : GtOk T fa G) (g : GoodE T n N cl r) (c : Ctx T n N nms Wx X) {elt tg iter : Expr} {ifs : List Expr} {scope : Scope} {pos : Pos} {x : Ex} (h : trF G N r nms (.ListComp elt [⟨tg, iter, ifs, 0⟩] scope pos) = some x) :
    ∃ i t k e, x = .lc e t i k ((ownOf N scope).map (·.2)) ∧ GoodLc T n N cl nms Wx X elt tg iter ifs scope i t k e := by
  have h : (if blkB N nms scope (ownOf N scope) && notSet iter then match trI G r nms tg iter, trT N scope.names 3 tg, trIf r scope.names ifs, r scope.names elt with
      | some i, some t, some c, some e => if (slots t).all ((ownOf N scope).map (·.2)).contains then some (Ex.lc e t i c ((ownOf N scope).map (·.2))) else none
      | _, _, _, _ => none
    else none) = some x := h
  split at h
  · rename_i q
    simp only [Bool.and_eq_true] at q
    split at h
    · rename_i i t k e hi ht hk he
      split at h
      · rename_i hs
        cases h
        refine ⟨i, t, k, e, rfl, q.1, q.2, fun j hj => ?_, snd_trI K g c hi, fun X' c' => snd_trT c' ht, fun X' c' => snd_trIf g c' hk, fun X' c' => (g _ _ _ he _ _ c').1⟩
        have := List.all_eq_true.mp hs j hj
        simpa using this
      · cases h
    · cases h
  · cases h
theorem snd_trF (K : GtOk T fa G) (g : GoodE T n N cl r) (c : Ctx T n N nms Wx X) {e : Expr} {x : Ex} (h : trF G N r nms e = some x) : GoodF T cl Wx X e x := by
  have h0 := h
  unfold trF at h
  split at h
  · split at h
    · rename_i hl
      obtain ⟨y, h1, rfl⟩ := map_some h
      obtain ⟨i1, i2, i3⟩ := snd_trA g c h1
      exact ⟨snd_lst i1 fun env st ws st' e => by rw [i3 _ _ _ _ e]; exact hl, rfl, rfl, .inl rfl⟩
    · cases h
  · obtain ⟨i, t, k, e, rfl, L⟩ := trF_lc K g c h0
    exact ⟨snd_lc c L.b L.sl L.i L.g L.t L.e (fold_of L.ns), rfl, rfl, .inl rfl⟩
  · rename_i x0 p a pos
    have key : ∀ {y : Ex}, trA r nms [a] = some y → ∃ z, y = .cons z .nil ∧ PE X a (rdV T Wx (sem T.g cl z).v) ∧ notStar a = true := fun {y} h1 => by
      unfold trA at h1
      split at h1
      · rename_i hs
        split at h1
        · rename_i y z hy hz
          cases h1
          cases hz
          exact ⟨y, rfl, (g _ _ _ hy _ _ c).1, hs⟩
        · cases h1
      · cases h1
    split at h
    · rename_i q
      obtain ⟨rfl, q1, q2, q3⟩ := q
      obtain ⟨y, h1, rfl⟩ := map_some h
      obtain ⟨z, rfl, k1, k2⟩ := key h1
      exact ⟨snd_list c q1 (K.free _ q2) k2 k1, (biL_v T.g .list (.inl rfl) (sem T.g cl (.cons z .nil)).l).symm, rfl, .inr rfl⟩
    · split at h
      · rename_i q
        obtain ⟨rfl, q1, q2, q3⟩ := q
        obtain ⟨y, h1, rfl⟩ := map_some h
        obtain ⟨z, rfl, k1, k2⟩ := key h1
        exact ⟨snd_sorted c q1 (K.free _ q2) k2 k1, (biL_v T.g .sorted (.inr rfl) (sem T.g cl (.cons z .nil)).l).symm, rfl, .inr rfl⟩
      · cases h
  · cases h
end
end Ev

/-! Lmc: F(lambda: e). -/
namespace Ev
open PySem PySem.Spec PyProof.Rows L2
section
variable {T : Tb} {R R' Pr H : Hp} {μ : Mu} {st : S} {X : Cx} {σ : L2.St} {Wx : WX} {n : Nat} {N : List PySem.Str} {nms : Nms} {fa : Nat → Option Addr} {cl : Cl} {G : Gt}
theorem Sim.extN {H1 : Hp} (s : Sim T R Pr μ st H) (e : LamX.ExtN H H1) (t : LamX.Tabs T.tabs H1) : Sim T R Pr μ st H1 where
  r := fun a o h => e a o (s.r a o h) fun ps z => s.nt a ps (by rw [← z]; exact h)
  p := fun a o h => e a o (s.p a o h) fun ps z => by
    rcases (s.d a o h).2 with ⟨_, q⟩ | ⟨_, q⟩ <;> (rw [z] at q; cases q)
  c := fun n x hc => by
    obtain ⟨a, h1, h2, h3, h4⟩ := s.c n x hc
    refine ⟨a, h1, h2, h3, ?_⟩
    cases x with
    | lst ws => obtain ⟨vs, q1, q2⟩ := h4; exact ⟨vs, e _ _ q1 (fun _ z => by cases z), q2⟩
    | ins c fs ws => obtain ⟨dx, vs, q1, q2, q3, q4⟩ := h4; exact ⟨dx, vs, e _ _ q1 (fun _ z => by cases z), e _ _ q2 (fun _ z => by cases z), q3, q4⟩
    | dct ks ws => obtain ⟨us, vs, q1, q2, q3, q4⟩ := h4; exact ⟨us, vs, e _ _ q1 (fun _ z => by cases z), q2, q3, q4⟩
  inj := s.inj
  dom := s.dom
  low := s.low
  d := s.d
  t := t
  nt := s.nt
/-- the names that are read -/
theorem varL_ok {g : Gd} {env : Env} {st : S} : ∀ (is : List Nat), (sem g cl (varL is)).l env st = .stuck ∨ ∃ ws, (sem g cl (varL is)).l env st = .ok ws st ∧ ∀ (e0 e1 : Env), sets is ws e0 = some e1 → e1.length = e0.length ∧ ∀ (i : Nat) (w : W), e1[i]? = some (some w) → e0[i]? = some (some w) ∨ env[i]? = some (some w)
  | [] => .inr ⟨[], rfl, fun e0 e1 h => by
    have h : some e0 = some e1 := h
    cases h
    exact ⟨rfl, fun i w h => .inl h⟩⟩
  | i :: is => by
    have e : (sem g cl (varL (i :: is))).l env st = ((match env[i]? with | some (some w) => Res.ok w st | _ => .stuck) : Res W).bind fun x st1 => ((sem g cl (varL is)).l env st1).bind fun ws st2 => .ok (x :: ws) st2 := rfl
    rw [e]
    cases q : env[i]? with
    | none => exact .inl rfl
    | some o =>
      cases o with
      | none => exact .inl rfl
      | some w =>
        dsimp only [Res.bind]
        rcases varL_ok (st := st) is with h | ⟨ws, h1, h2⟩
        · left
          rw [h]
        · right
          refine ⟨w :: ws, by rw [h1], fun e0 e1 h => ?_⟩
          have h : sets is ws (e0.set i (some w)) = some e1 := h
          obtain ⟨k1, k2⟩ := h2 _ _ h
          refine ⟨by rw [k1, List.length_set], fun j u hj => ?_⟩
          rcases k2 j u hj with z | z
          · by_cases e : i = j
            · subst e
              by_cases hl : i < e0.length
              · rw [List.getElem?_set_self hl] at z
                cases z
                exact .inr q
              · rw [List.getElem?_eq_none (by rw [List.length_set]; omega)] at z
                cases z
            · rw [List.getElem?_set_ne e] at z
              exact .inl z
          · exact .inr z
theorem sets_some : ∀ (is : List Nat) (ws : List W) (e0 : Env), is.length = ws.length → ∃ e1, sets is ws e0 = some e1
  | [], [], e0, _ => ⟨e0, rfl⟩
  | i :: is, w :: ws, e0, h => sets_some is ws _ (by simpa using h)
  | [], _ :: _, _, h => by cases h
  | _ :: _, [], _, h => by cases h
theorem varL_len {g : Gd} {env : Env} {st st' : S} : ∀ (is : List Nat) {ws : List W}, (sem g cl (varL is)).l env st = .ok ws st' → is.length = ws.length
  | [], ws, h => by
    have h : Res.ok [] st = .ok ws st' := h
    cases h; rfl
  | i :: is, ws, h => by
    have h : (((match env[i]? with | some (some w) => Res.ok w st | _ => .stuck) : Res W).bind fun x st1 => ((sem g cl (varL is)).l env st1).bind fun ws st2 => .ok (x :: ws) st2) = .ok ws st' := h
    cases q : ((match env[i]? with | some (some w) => Res.ok w st | _ => .stuck) : Res W) with
    | ex _ _ _ => rw [q] at h; cases h
    | stuck => rw [q] at h; cases h
    | ok w st1 =>
      rw [q] at h
      dsimp only [Res.bind] at h
      cases q2 : (sem g cl (varL is)).l env st1 with
      | ex _ _ _ => rw [q2] at h; cases h
      | stuck => rw [q2] at h; cases h
      | ok us st2 =>
        rw [q2] at h
        cases h
        simp [varL_len is q2]
theorem lamS_of (c : Ctx T n N nms Wx X) {scope : Scope} (h : lamB nms scope = true) : LamX.LamS X.env.scope scope := by
  unfold lamB at h
  simp only [Bool.and_eq_true, Bool.or_eq_true, Bool.not_eq_true', decide_eq_true_eq, decide_eq_false_iff_not, List.all_eq_true] at h
  obtain ⟨h1, h2, h3, h4⟩ := h
  refine ⟨h1, h2, h3, fun y hy => ⟨(h4 y hy).1, (h4 y hy).2.1⟩, fun y hy e => ?_⟩
  rcases (h4 y hy).2.2 with z | z
  · exact absurd e z
  · obtain ⟨kd', e1, e2⟩ := c.sc _ _ z
    rcases e2 with rfl | ⟨q, _⟩
    · exact .inl e1
    · cases q
theorem lamC_of {scope : Scope} (h : lamB nms scope = true) : lamC scope = true := by
  unfold lamB at h
  unfold lamC
  simp only [Bool.and_eq_true, Bool.not_eq_true', decide_eq_false_iff_not, List.all_eq_true] at h ⊢
  exact fun y hy => (h.2.2.2 y hy).2.1
theorem noArgs_eq {a : Arguments} (h : noArgs a = true) : a = ⟨[], [], none, [], [], none, []⟩ := by
  unfold noArgs at h
  split at h
  · rfl
  · cases h
theorem snd_trL (HT : ThG T n cl G) (O : TOk T fa) (K : GtOk T fa G) (c : Ctx T n N nms Wx X) {m : Nat} {e : Expr} {x : Ex} (h : trL G T.g N (tr G.nolam T.g N m) nms e = some x) : plainT e = true ∧ PE X e (rdV T Wx (sem T.g cl x).v) ∧ (sem T.g cl x).t = fun env st => ((sem T.g cl x).v env st).bind truR := by
  unfold trL at h
  split at h
  · rename_i xn p params body scope lpos pos
    split at h
    · rename_i j hj
      split at h
      · rename_i hb
        obtain ⟨hx, hb2⟩ := Bool.and_eq_true_iff.mp hb
        obtain ⟨hl, hb3⟩ := Bool.and_eq_true_iff.mp hb2
        obtain ⟨ha, hN⟩ := Bool.and_eq_true_iff.mp hb3
        split at h
        · rename_i t is ex ht his hex
          split at h
          · rename_i hq
            obtain ⟨q1, q2, q3⟩ := hq
            cases h
            refine ⟨rfl, ⟨fun pins s σ H Q I hh => ?_⟩, rfl⟩
            obtain ⟨Pr, R, μ, env, st, be, hp⟩ := hh
            obtain ⟨ad, k1, k2, k3⟩ := K.thk _ _ _ hj
            obtain ⟨⟨lq, lc, lP⟩, hlam⟩ := Option.isSome_iff_exists.mp (K.lamN _ hN)
            obtain ⟨lam1, lam2⟩ := c.lam _ _ _ hlam
            obtain ⟨TB, tm, tu⟩ := O.lam _ _ _ _ hlam
            have L := lamS_of c hl
            have hp : Post T Pr Wx σ (RV T Q) R μ (((sem T.g cl (varL is)).l env st).bind fun ws st1 => cl j ws st1) := hp
            rcases varL_ok (g := T.g) (cl := cl) (env := env) (st := st) is with z | ⟨ws, z1, z2⟩
            · rw [z] at hp; exact hp.elim
            rw [z1] at hp
            have hp : Post T Pr Wx σ (RV T Q) R μ (cl j ws st) := hp
            obtain ⟨envc, hs⟩ := sets_some is ws (List.replicate t.n none) (varL_len is z1)
            obtain ⟨s1, s2⟩ := z2 _ _ hs
            have hlen : env.length = N.length := by rw [be.e.len c.cold, I.len, c.hN]
            have er : EnvR T R μ envc σ := by
              refine ⟨?_, fun i w hi he => ?_⟩
              · unfold XcR
                rw [c.cold]
                rw [s1, List.length_replicate, q1, I.len, c.hN]
              · rcases s2 i w he with z | z
                · rw [List.getElem?_replicate] at z
                  split at z <;> cases z
                · exact be.e.2 i w hi z
            obtain ⟨hg, hdb, _⟩ := c.gl hx
            have hdef : defaultsOf params X.env = ([], []) := by rw [noArgs_eq ha]; rfl
            refine wpAny_Call_Name_kw (ld_glob I hg (by rw [c.mg]; exact k2) ?_ hdb)
            refine PySem.W.callWith_K (h₀ := X.base) I.ok.mod.kin (by rw [c.K]; exact k3) ?_ (by rfl) (by rfl)
            show wpAny _ _ (spliced ((false, eval (.Lambda params body scope lpos) X.env) :: backTo pos (starEach [] X.env))) _ _ s
            refine Calls.spliced_cons (LamX.lam_make2 I (by rw [c.base, c.mg]; exact TB) lam2 (by rw [lam1]; exact tm) (by rw [lam1]; exact tu) be.s.t hdef (L.has I.ok) fun f c' pm' ctv H1 s' I1 eN T1 hf hfn hfr hco => ?_)
            refine Calls.spliced_nil ⟨I1.kIn, ?_⟩
            exact HT j ad t N nms Wx X lq lc lP m params body scope pins s' σ H1 f c' pm' ctv Pr R μ envc ws st Q k1 ht c hlam ha L (lamC_of hl) (by rw [hex, ← q3]) I1 hf hfn hfr hco (be.s.extN eN T1) (by rw [q2]; exact hs) er hp
          · cases h
        · cases h
      · cases h
    · cases h
  · cases h
end
end Ev

/-! Tx: keywords, stars, methods of lists, displays of dicts: sound. -/
namespace Ev
open PySem PySem.Spec PyProof.Rows L2
section
variable {T : Tb} {n : Nat} {N : List PySem.Str} {fa : Nat → Option Addr} {cl : Cl} {G : Gt}
variable {r : TrE} {nms : Nms} {Wx : WX} {X : Cx}
theorem strV_of' (s : PySem.Str) : strV s.cps.toList = s := by
  cases s; rfl
theorem snd_trKw (g : GoodE T n N cl r) (c : Ctx T n N nms Wx X) : ∀ {kws : List Keyword} {x : Ex}, trKw r nms kws = some x → PK X kws (rdL T Wx (sem T.g cl x).l)
  | [], x, h => by cases h; exact snd_knil
  | ⟨some k, e, p⟩ :: kws, x, h => by
    unfold trKw at h
    split at h
    · rename_i a b ha hb
      cases h
      exact snd_kcons (g _ _ _ ha _ _ c).1 (snd_trKw g c hb)
    · cases h
  | ⟨none, e, p⟩ :: kws, x, h => by cases h
theorem snd_trVs (g : GoodE T n N cl r) (c : Ctx T n N nms Wx X) : ∀ {keys : List (Option Expr)} {vals : List Expr} {ks : List (List Nat)} {x : Ex}, keyL keys = some ks → trA r nms vals = some x → keys.length = vals.length → ∃ trs, Vs T X Wx keys vals ks (sem T.g cl x).l trs
  | [], [], ks, x, h1, h2, hl => by cases h1; cases h2; exact ⟨[], .nil⟩
  | [], _ :: _, ks, x, h1, h2, hl => by cases hl
  | _ :: _, [], ks, x, h1, h2, hl => by cases hl
  | k :: keys, e :: vals, ks, x, h1, h2, hl => by
    unfold keyL at h1
    split at h1
    · rename_i z; cases z
    · rename_i s j p l e0
      cases e0
      obtain ⟨ks', h3, rfl⟩ := map_some h1
      unfold trA at h2
      split at h2
      · split at h2
        · rename_i a b ha hb
          cases h2
          obtain ⟨trs, q⟩ := snd_trVs g c h3 hb (by simpa using hl)
          have q2 := Vs.cons (j := j) (p := p) (k := s.cps.toList) (g _ _ _ ha _ _ c).1 q
          rw [strV_of'] at q2
          exact ⟨_, q2⟩
        · cases h2
      · cases h2
    · cases h1
theorem nil_l (g : GoodE T n N cl r) {es : List Expr} {x : Ex} (h : trA r nms es = some x) : es = [] → (sem T.g cl x).l = fun _ st => .ok [] st := fun e => by
  subst e
  cases h
  rfl
theorem snd_trBm (c : Ctx T n N nms Wx X) (g : GoodE T n N cl r) {o : Expr} {m : PySem.Str} {b : Bm} {args : List Expr} {y z : Ex} {apos pos : Pos} (hb : bmOf m args.length = some b) (ho : r nms o = some y) (ha : trA r nms args = some z) (hbase : baseOk o = true) (hline : (apos.endLine == pos.line) = true) (hl : args.length < 30) :
    PE X (.Call (.Attribute o m apos) args [] pos) (rdV T Wx (sem T.g cl (.bm b y z)).v) := by
  have go := (g _ _ _ ho _ _ c).1
  obtain ⟨i1, i2, i3⟩ := snd_trA g c ha
  have hu := c.room.units
  unfold bmOf at hb
  split at hb
  · rename_i q; obtain ⟨rfl, q⟩ := q; cases hb
    match args, q with
    | [a], _ => exact snd_bm (f := bmAppend) c.K PySem.F.slot_list_append PySem.F.type_list_append mt_append bm_append go hbase hline hl i2 i1
  split at hb
  · rename_i q; obtain ⟨rfl, q⟩ := q; cases hb
    match args, q with
    | [a], _ => exact snd_bm (f := bmExtend) c.K PySem.F.slot_list_extend PySem.F.type_list_extend mt_extend bm_extend go hbase hline hl i2 i1
  split at hb
  · rename_i q; obtain ⟨rfl, q⟩ := q; cases hb
    match args, q, ha with
    | [], _, ha => cases ha; exact snd_bm0 (f := bmPop) c.K PySem.F.slot_list_pop PySem.F.type_list_pop mt_pop bm_pop go hbase hline
  split at hb
  · rename_i q; obtain ⟨rfl, q⟩ := q; cases hb
    match args, q with
    | [a], _ => exact snd_bm (f := bmPopAt) c.K PySem.F.slot_list_pop PySem.F.type_list_pop mt_popAt bm_popAt go hbase hline hl i2 i1
  split at hb
  · rename_i q; obtain ⟨rfl, q⟩ := q; cases hb
    match args, q with
    | [a, b], _ => exact snd_bm (f := bmInsert) c.K PySem.F.slot_list_insert PySem.F.type_list_insert mt_insert bm_insert go hbase hline hl i2 i1
  split at hb
  · rename_i q; obtain ⟨rfl, q⟩ := q; cases hb
    match args, q with
    | [a], _ => exact snd_bm (f := bmIndex) c.K PySem.F.slot_list_index PySem.F.type_list_index (mt_indexD (by have := (c.room.mono (j := n + 1) (by omega)).un; omega)) (bm_index c.K) go hbase hline hl i2 i1
  split at hb
  · rename_i q; obtain ⟨rfl, q⟩ := q; cases hb
    match args, q with
    | [a], _ => exact snd_bm (f := bmCount) c.K PySem.F.slot_list_count PySem.F.type_list_count (mt_countD (by have := (c.room.mono (j := n + 1) (by omega)).un; omega)) (bm_count c.K) go hbase hline hl i2 i1
  · cases hb
theorem snd_trX (F : Fns T fa n cl) (O : TOk T fa) (K : GtOk T fa G) (g : GoodE T n N cl r) (c : Ctx T n N nms Wx X) {e : Expr} {x : Ex} (h : trX G T.g r nms e = some x) : plainT e = true ∧ PE X e (rdV T Wx (sem T.g cl x).v) ∧ (sem T.g cl x).t = fun env st => ((sem T.g cl x).v env st).bind truR := by
  unfold trX at h
  split at h
  · split at h
    · rename_i ks y h1 h2
      split at h
      · rename_i q
        cases h
        obtain ⟨q2, q3, q4⟩ := q
        obtain ⟨trs, hv⟩ := snd_trVs g c h1 h2 q4
        obtain ⟨l1, l2, l3⟩ := hv.len
        obtain ⟨i1, i2, i3⟩ := snd_trA g c h2
        by_cases q1 : ks = []
        · subst q1
          have hk0 := List.length_eq_zero_iff.mp l2
          subst hk0
          have hv0 := List.length_eq_zero_iff.mp q4.symm
          subst hv0
          cases h2
          exact ⟨rfl, snd_dsp0, rfl⟩
        refine ⟨rfl, snd_dsp hv (fun z => by rw [z] at l2; exact q1 (List.length_eq_zero_iff.mp l2.symm)) (by omega) q3 fun env st ws st' e => by rw [i3 _ _ _ _ e, ← l1, l2], rfl⟩
      · cases h
    · cases h
  · split at h
    · rename_i hx
      split at h
      · rename_i f hf
        obtain ⟨y, h1, rfl⟩ := map_some h
        obtain ⟨ad, k1, k2⟩ := K.fn _ _ hf
        exact ⟨rfl, snd_calls F O c k1 hx k2 (g _ _ _ h1 _ _ c).1, rfl⟩
      · split at h
        · rename_i k hk
          split at h
          · rename_i hi
            obtain ⟨y, h1, rfl⟩ := map_some h
            exact ⟨rfl, snd_makes F O c hi hx (K.cls _ _ hk) (g _ _ _ h1 _ _ c).1, rfl⟩
          · cases h
        · cases h
    · cases h
  · split at h
    · rename_i hx
      obtain ⟨hx, hall⟩ := Bool.and_eq_true_iff.mp hx
      split at h
      · rename_i f hf
        split at h
        · rename_i a b ha hb
          cases h
          obtain ⟨ad, k1, k2, k3⟩ := K.kwf _ _ _ _ hf
          obtain ⟨i1, i2, i3⟩ := snd_trA g c ha
          exact ⟨rfl, snd_callk F c k1 k3 hx k2 i2 i1 i3 (nil_l g ha) (snd_trKw g c hb) hall rfl, rfl⟩
        · cases h
      · split at h
        · rename_i k f hf
          split at h
          · rename_i a b ha hb
            cases h
            obtain ⟨ad, k1, k2, k3⟩ := K.kwc _ _ _ _ _ hf
            obtain ⟨i1, i2, i3⟩ := snd_trA g c ha
            exact ⟨rfl, snd_makek F c k1 k3 hx k2 i2 i1 i3 (nil_l g ha) (snd_trKw g c hb) hall rfl, rfl⟩
          · cases h
        · cases h
    · cases h
  · split at h
    · rename_i hb
      simp only [Bool.and_eq_true, decide_eq_true_eq] at hb
      split at h
      · rename_i b hbm
        split at h
        · rename_i hbase
          split at h
          · rename_i y z ho ha
            cases h
            exact ⟨rfl, snd_trBm c g hbm ho ha hbase hb.1 hb.2, rfl⟩
          · cases h
        · cases h
      · split at h
        · rename_i y p2
          split at h
          · rename_i hx
            split at h
            · rename_i f hf
              obtain ⟨z, h1, rfl⟩ := map_some h
              obtain ⟨ad, C, q, mc, k1, k2, k3⟩ := K.sm _ _ _ hf
              obtain ⟨i1, i2, i3⟩ := snd_trA g c h1
              exact ⟨rfl, snd_smeth F O c hx k2 k1 k3 hb.1 hb.2 i2 i1 (nil_l g h1), rfl⟩
            · cases h
          · cases h
        · cases h
    · cases h
  · cases h
end
end Ev

/-! Trc: the other expressions. -/
namespace Ev
open PySem PySem.Spec PyProof.Rows L2
section
variable {T : Tb} {n : Nat} {N : List PySem.Str} {fa : Nat → Option Addr} {cl : Cl} {G : Gt}
variable {r : TrE} {nms : Nms} {Wx : WX} {X : Cx}
theorem strV_of (s : PySem.Str) : strV s.cps.toList = s := by
  cases s; rfl
theorem vt (c : Ctx T n N nms Wx X) {e : Expr} {A : Sm} (hp : plainT e = true) (ht : A.t = fun env st => (A.v env st).bind truR) (h : PE X e (rdV T Wx A.v)) : PE X e (rdV T Wx A.v) ∧ PT X e (rdT T Wx A.t) := by
  refine ⟨h, ?_⟩
  rw [ht]
  exact snd_test c.K hp h
theorem snd_trTyN (K : GtOk T fa G) (c : Ctx T n N nms Wx X) {e : Expr} {t : Ty} (h : trTyN G T.g nms e = some t) : PE X e (tC (tyL T t)) ∧ notStar e = true ∧ tyK T.g t = true := by
  unfold trTyN at h
  split at h
  · split at h
    · rename_i x p hx
      split at h
      · rename_i k hk
        split at h
        · rename_i kn
          cases h
          exact ⟨pe_own c hx (K.cls _ _ hk), rfl, kn⟩
        · cases h
      · split at h
        · rename_i hf
          have hm := K.free _ hf
          split at h
          · rename_i q; subst q; cases h; exact ⟨pe_tyn c hx hm rfl, rfl, rfl⟩
          · split at h
            · rename_i q; subst q; cases h; exact ⟨pe_tyn c hx hm rfl, rfl, rfl⟩
            · split at h
              · rename_i q; subst q; cases h; exact ⟨pe_tyn c hx hm rfl, rfl, rfl⟩
              · split at h
                · rename_i q; subst q; cases h; exact ⟨pe_tyn c hx hm rfl, rfl, rfl⟩
                · split at h
                  · rename_i q; subst q; cases h; exact ⟨pe_tyn c hx hm rfl, rfl, rfl⟩
                  · cases h
        · cases h
    · cases h
  · cases h
theorem snd_trTys (K : GtOk T fa G) (c : Ctx T n N nms Wx X) : ∀ {es : List Expr} {ts : List Ty}, trTys G T.g nms es = some ts → All2 (fun e t => PE X e (tC (tyL T t)) ∧ notStar e = true) es ts ∧ ts.all (tyK T.g) = true
  | [], ts, h => by cases h; exact ⟨.nil, rfl⟩
  | e :: es, ts, h => by
    unfold trTys at h
    split at h
    · rename_i a b ha hb
      cases h
      obtain ⟨h1, h2, h3⟩ := snd_trTyN K c ha
      obtain ⟨i1, i2⟩ := snd_trTys K c hb
      exact ⟨.cons ⟨h1, h2⟩ i1, by simp [h3, i2]⟩
    · cases h
theorem snd_trO (g : GoodE T n N cl r) (c : Ctx T n N nms Wx X) {o : Option Expr} {x : Ex} (h : trO r nms o = some x) : PartS T X Wx o (sem T.g cl x).l := by
  cases o with
  | none => cases h; exact part_none
  | some e =>
    obtain ⟨y, h1, rfl⟩ := map_some h
    exact part_some (g _ _ _ h1 _ _ c).1
set_option maxHeartbeats 4000000 in
theorem snd_blt (F : Fns T fa n cl) (O : TOk T fa) (K : GtOk T fa G) (c : Ctx T n N nms Wx X) {x : PySem.Str} {b : Bfn} (hb : bltOf x = some b) (hx : glB nms x = true) (hf : G.free x = true) {a : Expr} {es : List Expr} {A : Sm} {p pos : Pos} (hs : (a :: es).all notStar = true) (ha : PA X (a :: es) (rdL T Wx A.l)) :
    PE X (.Call (.Name x p) (a :: es) [] pos) (rdV T Wx fun env st => (A.l env st).bind fun ws st1 => bfn T.g cl b ws st1) := by
  have hm := K.free _ hf
  unfold bltOf at hb
  split at hb
  · rename_i q; subst q; cases hb; exact snd_bi c.toCtxB (calls_len F O c) hx hm rfl hs ha
  split at hb
  · rename_i q; subst q; cases hb; exact snd_bi c.toCtxB (calls_all c.K c.calm) hx hm rfl hs ha
  split at hb
  · rename_i q; subst q; cases hb; exact snd_bi c.toCtxB (calls_any c.K c.calm) hx hm rfl hs ha
  split at hb
  · rename_i q; subst q; cases hb; exact snd_bi c.toCtxB calls_abs hx hm rfl hs ha
  split at hb
  · rename_i q; subst q; cases hb; exact snd_bi c.toCtxB (calls_min c.K c.calm) hx hm rfl hs ha
  split at hb
  · rename_i q; subst q; cases hb; exact snd_bi c.toCtxB (calls_max c.K c.calm) hx hm rfl hs ha
  split at hb
  · rename_i q; subst q; cases hb; exact snd_bi c.toCtxB (calls_sum c.K c.calm) hx hm rfl hs ha
  split at hb
  · rename_i q; subst q; cases hb; exact snd_biT c.toCtxB calls_int hx hm rfl hs ha
  split at hb
  · rename_i q; subst q; cases hb; exact snd_biT c.toCtxB (calls_tuple c.K) hx hm rfl hs ha
  split at hb
  · rename_i q; subst q; cases hb; exact snd_bi c.toCtxB (calls_repr c.toCtxB) hx hm rfl hs ha
  split at hb
  · rename_i q; subst q; cases hb; exact snd_biT c.toCtxB calls_str hx hm rfl hs ha
  · cases hb
theorem bi_nofresh {x : PySem.Str} {b : Bfn} (hb : bltOf x = some b) : True := trivial
theorem snd_call_any (F : Fns T fa n cl) (O : TOk T fa) (K : GtOk T fa G) (g : GoodE T n N cl r) (c : Ctx T n N nms Wx X) {x : PySem.Str} {f : Nat} (hx : glB nms x = true) (hf : G.fn x = some f) {args : List Expr} {y : Ex} {p pos : Pos} (hy : trA r nms args = some y) :
    PE X (.Call (.Name x p) args [] pos) (rdV T Wx (sem T.g cl (.call f y)).v) := by
  obtain ⟨ad, h1, h2⟩ := K.fn _ _ hf
  cases args with
  | nil => cases hy; exact snd_call0 F O c h1 hx h2
  | cons a es =>
    obtain ⟨i1, i2, _⟩ := snd_trA g c hy
    exact snd_call F O c h1 hx h2 i2 i1
theorem snd_make_any (F : Fns T fa n cl) (O : TOk T fa) (K : GtOk T fa G) (g : GoodE T n N cl r) (c : Ctx T n N nms Wx X) {x : PySem.Str} {k : Nat} (hx : glB nms x = true) (hf : G.cls x = some k) (hi : (T.g.init k).isSome = true) {args : List Expr} {y : Ex} {p pos : Pos} (hy : trA r nms args = some y) :
    PE X (.Call (.Name x p) args [] pos) (rdV T Wx (sem T.g cl (.make k y)).v) := by
  have h2 := K.cls _ _ hf
  cases args with
  | nil => cases hy; exact snd_make0 F O c hi hx h2
  | cons a es =>
    obtain ⟨i1, i2, _⟩ := snd_trA g c hy
    exact snd_make F O c hi hx h2 i2 i1
theorem snd_meth_any (F : Fns T fa n cl) (O : TOk T fa) (g : GoodE T n N cl r) (c : Ctx T n N nms Wx X) {b : Expr} {m : Nat} {z y : Ex} {args : List Expr} {apos pos : Pos} (hz : r nms b = some z) (hy : trA r nms args = some y) (hb : baseOk b = true) (hline : (apos.endLine == pos.line) = true) (hl : args.length < 30) :
    PE X (.Call (.Attribute b (T.nm m) apos) args [] pos) (rdV T Wx (sem T.g cl (.meth z m y)).v) := by
  cases args with
  | nil => cases hy; exact snd_meth0 F O c (g _ _ _ hz _ _ c).1 hb hline
  | cons a es =>
    obtain ⟨i1, i2, _⟩ := snd_trA g c hy
    exact snd_meth F O c (g _ _ _ hz _ _ c).1 hb hline hl i2 i1
theorem snd_trC (F : Fns T fa n cl) (O : TOk T fa) (Z : KitOk T) (K : GtOk T fa G) (g : GoodE T n N cl r) (c : Ctx T n N nms Wx X) {e : Expr} {x : Ex} (h : trC G T.g N r nms e = some x) : PE X e (rdV T Wx (sem T.g cl x).v) ∧ PT X e (rdT T Wx (sem T.g cl x).t) := by
  unfold trC at h
  split at h
  · -- a name
    rename_i y p
    split at h
    · rename_i hv
      split at h
      · rename_i i hi
        split at h
        · cases h
        · rename_i hd
          cases h
          simp only [Bool.or_eq_true, not_or, Bool.not_eq_true] at hd
          exact vt c rfl rfl (snd_var c.toCtxB (ixOf_ok hi) hv hd.1 hd.2 T.g cl)
      · cases h
    · split at h
      · rename_i hx
        obtain ⟨i, h1, rfl⟩ := map_some h
        obtain ⟨v, u, k, k1, k2, k3, k4⟩ := K.con _ _ h1
        obtain ⟨hg, hd, hn⟩ := c.gl hx
        exact vt c rfl rfl (snd_con (pe_glob hg (by rw [c.mg]; exact k1) k2 hd) k4 fun env st => by
          show (match T.g.con i with | some c => okc c st | none => .stuck) = okc k st
          rw [k3])
      · cases h
  · cases h; exact vt c rfl rfl (snd_con (x := .int _) pe_int (fun _ => rfl) fun _ _ => rfl)
  · cases h; exact vt c rfl rfl (snd_con (x := .bl _) pe_bl (fun _ => rfl) fun _ _ => rfl)
  · cases h; exact vt c rfl rfl (snd_con (x := .non) pe_non (fun _ => rfl) fun _ _ => rfl)
  · rename_i s _ _
    cases h; exact vt c rfl rfl (snd_con pe_str (fun R => by
      show V.str s = V.str (strV s.cps.toList)
      rw [strV_of]) fun _ _ => rfl)
  · split at h
    · rename_i h1 h2 h3
      cases h
      unfold sumX
      split
      · split
        · exact vt c rfl rfl (snd_binop ops_madd (g _ _ _ h1 _ _ c).1 (g _ _ _ h3 _ _ c).1)
        · exact vt c rfl rfl (snd_binop (ops_bin F O c h2) (g _ _ _ h1 _ _ c).1 (g _ _ _ h3 _ _ c).1)
      · exact vt c rfl rfl (snd_binop (ops_bin F O c h2) (g _ _ _ h1 _ _ c).1 (g _ _ _ h3 _ _ c).1)
    · cases h
  · obtain ⟨y, h1, rfl⟩ := map_some h
    exact vt c rfl rfl (snd_neg (g _ _ _ h1 _ _ c).1)
  · obtain ⟨y, h1, rfl⟩ := map_some h
    exact ⟨snd_not c.K (g _ _ _ h1 _ _ c).1, snd_notT (g _ _ _ h1 _ _ c).2⟩
  · obtain ⟨h1, h2⟩ := snd_trB g c h
    exact ⟨h1, h2.pt⟩
  · split at h
    · rename_i h1 h2 h3
      cases h
      exact ⟨snd_ite (g _ _ _ h1 _ _ c).2 (g _ _ _ h2 _ _ c).1 (g _ _ _ h3 _ _ c).1, snd_iteT (g _ _ _ h1 _ _ c).2 (g _ _ _ h2 _ _ c).2 (g _ _ _ h3 _ _ c).2⟩
    · cases h
  · split at h
    · cases h
    · rename_i hm
      split at h
      · rename_i h1 h2
        cases h
        have hm := Bool.eq_false_iff.mpr hm
        exact ⟨snd_cmp (ops_cmp F O c _) (g _ _ _ h1 _ _ c).1 (g _ _ _ h2 _ _ c).1 hm, snd_cmpT (ops_cmp F O c _) (fun _ _ _ _ _ e => cmpop_bl e) (g _ _ _ h1 _ _ c).1 (g _ _ _ h2 _ _ c).1 hm⟩
      · cases h
  · split at h
    · cases h
    · rename_i hm
      split at h
      · rename_i h1 h2 h3
        cases h
        have hm := Bool.eq_false_iff.mpr hm
        exact ⟨snd_cmp2 (ops_cmp F O c _) (ops_cmp F O c _) (g _ _ _ h1 _ _ c).1 (g _ _ _ h2 _ _ c).1 (g _ _ _ h3 _ _ c).1 hm, snd_cmp2T (ops_cmp F O c _) (ops_cmp F O c _) (fun _ _ _ _ _ e => cmpop_bl e) (g _ _ _ h1 _ _ c).1 (g _ _ _ h2 _ _ c).1 (g _ _ _ h3 _ _ c).1 hm⟩
      · cases h
  · split at h
    · rename_i hl
      obtain ⟨y, h1, rfl⟩ := map_some h
      obtain ⟨i1, i2, i3⟩ := snd_trA g c h1
      exact vt c rfl rfl (snd_tup i1 fun env st ws st' e => by rw [i3 _ _ _ _ e]; exact hl)
    · cases h
  · split at h
    · rename_i hb
      split at h
      · rename_i h1 h2
        cases h
        have := K.nm _ _ h2
        subst this
        exact vt c rfl rfl (snd_attr F O c (g _ _ _ h1 _ _ c).1 hb)
      · cases h
    · cases h
  · split at h
    · rename_i h1 h2 h3
      cases h
      exact vt c rfl rfl (snd_sl c.K (g _ _ _ h1 _ _ c).1 (snd_trO g c h2) (snd_trO g c h3))
    · cases h
  · split at h
    · rename_i hi
      split at h
      · rename_i h1 h2
        cases h
        exact vt c rfl rfl (snd_ix (ixs F O c) (g _ _ _ h1 _ _ c).1 (g _ _ _ h2 _ _ c).1 hi)
      · cases h
    · cases h
  · split at h
    · rename_i hx
      split at h
      · rename_i f hf
        obtain ⟨y, h1, rfl⟩ := map_some h
        exact vt c rfl rfl (snd_call_any F O K g c hx hf h1)
      · split at h
        · rename_i k hk
          split at h
          · rename_i hi
            obtain ⟨y, h1, rfl⟩ := map_some h
            exact vt c rfl rfl (snd_make_any F O K g c hx hk hi h1)
          · cases h
        · split at h
          · rename_i hf
            split at h
            · rename_i q
              subst q
              split at h
              · rename_i a b
                split at h
                · rename_i hs
                  simp only [Bool.and_eq_true] at hs
                  split at h
                  · rename_i x ts h1 h2
                    cases h
                    have one : ∀ {b : Expr} {t : Ty} {p pos : Pos}, trTyN G T.g nms b = some t → PE X (.Call (.Name "isinstance" p) [a, b] [] pos) (rdV T Wx (sem T.g cl (.isi x [t])).v) := fun {b t p pos} hb => by
                      obtain ⟨k1, k2, k3⟩ := snd_trTyN K c hb
                      exact snd_isi1 O Z c hx (K.free _ hf) hs.1 k2 (g _ _ _ h1 _ _ c).1 k1 k3
                    unfold trTy at h2
                    split at h2
                    · split at h2
                      · rename_i t ts h3
                        split at h2
                        · rename_i hl
                          cases h2
                          obtain ⟨k1, k2⟩ := snd_trTys K c h3
                          exact vt c rfl rfl (snd_isiT O Z c hx (K.free _ hf) hs.1 (g _ _ _ h1 _ _ c).1 k1 k2 hl)
                        · cases h2
                      · cases h2
                    · obtain ⟨t, h3, rfl⟩ := map_some h2
                      exact vt c rfl rfl (one h3)
                  · cases h
                · cases h
              · cases h
            · split at h
              · rename_i b a es hb
                obtain ⟨y, h1, rfl⟩ := map_some h
                obtain ⟨i1, i2, i3⟩ := snd_trA g c h1
                exact vt c rfl rfl (snd_blt F O K c hb hx hf i2 i1)
              · cases h
          · cases h
    · cases h
  · split at h
    · rename_i hb
      simp only [Bool.and_eq_true, decide_eq_true_eq] at hb
      split at h
      · rename_i h1 h2 h3
        cases h
        have := K.nm _ _ h2
        subst this
        exact vt c rfl rfl (snd_meth_any F O g c h1 h3 hb.1.1 hb.1.2 hb.2)
      · cases h
    · cases h
  · cases h
theorem good_trS (F : Fns T fa n cl) (HT : ThG T n cl G) (O : TOk T fa) (Z : KitOk T) (K : GtOk T fa G) {m : Nat} (g : GoodE T n N cl (tr G T.g N m)) : GoodE T n N cl (trS G T.g N (tr G T.g N m) (tr G.nolam T.g N m)) := by
  intro nms e x h Wx X c
  unfold trS at h
  split at h
  · rename_i y hy
    cases h
    obtain ⟨p1, p2, p3⟩ := snd_trL HT O K c hy
    exact vt c p1 p3 p2
  split at h
  · rename_i y hy
    have f := snd_trF (Wx := Wx) (X := X) K g c hy
    have cv : PE X e (rdV T Wx (sem T.g cl y).v) := by rw [f.v]; exact snd_close f.f
    split at h
    · cases h
      have mv : PE X e (rdV T Wx (sem T.g cl (.mut y)).v) := snd_mut f.f
      exact vt c f.p rfl mv
    · cases h
      refine ⟨cv, ?_⟩
      rcases f.t with q | q
      · rw [q]; exact snd_closeT f.p f.f c.K
      · rw [q]; exact snd_test c.K f.p cv
  · split at h
    · rename_i y hy
      cases h
      obtain ⟨p1, p2, p3⟩ := snd_trX F O K g c hy
      exact vt c p1 p3 p2
    · exact snd_trC F O Z K g c h
theorem good_tr (F : Fns T fa n cl) (HT : ThG T n cl G) (O : TOk T fa) (Z : KitOk T) (K : GtOk T fa G) : ∀ k, GoodE T n N cl (tr G T.g N k)
  | 0 => fun _ _ _ h => by cases h
  | k + 1 => good_trS F HT O Z K (good_tr F HT O Z K k)
end
end Ev

/-! Hx: except suites, defs that are called in them: their forms. -/
namespace Ev
open PySem PySem.Spec PyProof.Rows L2
abbrev Tb.att (T : Tb) (e : Option Xa) : Tb := { T with exa := e }
section
variable {T T' : Tb} {R R' Pr H : Hp} {μ : Mu} {st : S} {e : Option Xa}
/-- alike but for the exception that is handled -/
structure Alike (T T' : Tb) : Prop where
  K : T'.K = T.K
  ca : T'.ca = T.ca
  nm : T'.nm = T.nm
  tabs : T'.tabs = T.tabs
  ea : T'.ea = T.ea
  g : T'.g = T.g
theorem alike_att : Alike T (T.att e) := ⟨rfl, rfl, rfl, rfl, rfl, rfl⟩
theorem alike_unatt : Alike (T.att e) T := ⟨rfl, rfl, rfl, rfl, rfl, rfl⟩
theorem zipF_al (A : Alike T T') (fs : List Nat) (vs : List V) : zipF T' fs vs = zipF T fs vs := by unfold zipF; rw [A.nm]
mutual
theorem RelC.al (A : Alike T T') : ∀ {c : C} {v : V}, RelC T R c v → RelC T' R c v
  | .non, _, h => h
  | .bl _, _, h => h
  | .int _, _, h => h
  | .str _, _, h => h
  | .tup _, _, ⟨a, vs, h1, h2, h3⟩ => ⟨a, vs, h1, by rw [A.K]; exact h2, RelCs.al A h3⟩
  | .lst _, _, ⟨a, vs, h1, h2, h3⟩ => ⟨a, vs, h1, h2, RelCs.al A h3⟩
  | .frz _, _, ⟨a, vs, h1, h2, h3⟩ => ⟨a, vs, h1, by rw [A.K]; exact h2, RelCs.al A h3⟩
  | .dct _ _, _, ⟨a, us, ws, h1, h2, h3, h4, h5⟩ => ⟨a, us, ws, h1, h2, h3, RelCs.al A h4, RelCs.al A h5⟩
  | .ins _ _ _, _, ⟨a, dx, ws, h1, h2, h3, h4, h5⟩ => ⟨a, dx, ws, h1, by rw [A.ca, zipF_al A]; exact h2, h3, h4, RelCs.al A h5⟩
theorem RelCs.al (A : Alike T T') : ∀ {cs : List C} {vs : List V}, RelCs T R cs vs → RelCs T' R cs vs
  | [], _, h => h
  | _ :: _, _, ⟨v, r, h1, h2, h3⟩ => ⟨v, r, h1, RelC.al A h2, RelCs.al A h3⟩
end
theorem RelW.al (A : Alike T T') : ∀ {w : W} {v : V}, RelW T R μ w v → RelW T' R μ w v
  | .c _, _, h => RelC.al A h
  | .r _, _, h => h
theorem RelWs.al (A : Alike T T') : ∀ {ws : List W} {vs : List V}, RelWs T R μ ws vs → RelWs T' R μ ws vs
  | [], _, h => h
  | _ :: _, _, ⟨v, r, h1, h2, h3⟩ => ⟨v, r, h1, RelW.al A h2, RelWs.al A h3⟩
theorem CellRel.al (A : Alike T T') : ∀ {x : Cell} {a : Addr}, CellRel T R μ H x a → CellRel T' R μ H x a
  | .lst _, _, ⟨vs, h1, h2⟩ => ⟨vs, h1, RelWs.al A h2⟩
  | .ins _ _ _, _, ⟨dx, vs, h1, h2, h3, h4⟩ => ⟨dx, vs, by rw [A.ca, zipF_al A]; exact h1, h2, h3, RelWs.al A h4⟩
  | .dct _ _, _, ⟨us, vs, h1, h2, h3, h4⟩ => ⟨us, vs, h1, h2, RelCs.al A h3, RelWs.al A h4⟩
theorem Sim.al (A : Alike T T') (s : Sim T R Pr μ st H) : Sim T' R Pr μ st H :=
  ⟨s.r, s.p, fun n x hc => let ⟨a, h1, h2, h3, h4⟩ := s.c n x hc; ⟨a, h1, h2, h3, h4.al A⟩, s.inj, s.dom, s.low, s.d, by rw [A.tabs]; exact s.t, s.nt⟩
end
section
variable {T : Tb} {R R' Pr H : Hp} {μ : Mu} {st : S} {X : Cx} {σ : L2.St} {Wx : WX} {n : Nat} {N : List PySem.Str} {nms : List (PySem.Str × NameKind)} {cl : Cl} {env : Env}
variable {a b : Expr} {pos p p2 : Pos} {A B D : Sm}
/-- where an exception is being handled -/
structure CtxH (T : Tb) (n : Nat) (N : List PySem.Str) (nms : List (PySem.Str × NameKind)) (Wx : WX) (X : Cx) (e : Xa) : Prop extends CtxB T N nms Wx X where
  ex : T.exa = some e
  rm : L2H.RoomH n X.A
  xn : T.xf e.c = none → e.d = none
  xc : XCl T.K (T.ea e.c)
  pin : ∃ oe, (e.a, oe) ∈ X.pn ∧ Zc (.ref (T.ea e.c)) e.d oe ∧ ∃ vs, oe.data = .fields vs
theorem cur_of {e : Xa} (he : T.exa = some e) (r : EnvR T R μ env σ) : ∃ x, xcur env = some (e.c, x) ∧ (∀ j, e.j = some j → σ[j]? = some (some (.ref e.a))) ∧ ∀ f, T.xf e.c = some f → ∃ dd v, e.d = some dd ∧ R dd = some (.xd [(f, v)]) ∧ RelC T R x v := by
  have h := r.1
  unfold XcR at h
  rw [he] at h
  obtain ⟨x, h1, h2, h3, h4⟩ := h
  refine ⟨x, ?_, h3, h4⟩
  unfold xcur
  have : env.getLast? = some (some (.c (xtup e.c x))) := by
    rw [List.getLast?_eq_getElem?, h1, Nat.add_sub_cancel]
    exact h2
  rw [this]
  simp [xtup]
/-- the instance -/
theorem inst_of {e : Xa} (c : CtxH T n N nms Wx X e) {pins : List (Addr × Obj)} {s : Shared} (I : Inv X pins σ H s) {dd : Addr} {fs : List (PySem.Str × V)} (hd : e.d = some dd) (hH : H dd = some (.xd fs)) :
    ∃ oe od mA, PySem.W.InstAt s.heap e.a oe (T.ea e.c) (some od) ∧ s.heap.Ns1 dd mA ∧ (∀ f, RelO (fs.lookup f) (mA f)) ∧ s.heap.get? dd = some od := by
  obtain ⟨oe, hp, hz, vs, hv⟩ := c.pin
  obtain ⟨ha, _⟩ := I.pin (e.a, oe) (List.mem_append_left _ hp)
  have hx : ObjOk X.prog X.w H s.heap dd (.xd fs) := I.hok dd _ hH
  obtain ⟨mA, hns, hr⟩ := hx
  obtain ⟨od, es, ep, ho, r⟩ := id hns
  refine ⟨oe, od, mA, ⟨ha, hz.1, by unfold PySem.W.notCls; rw [hv] <;> rfl, ?_⟩, hns, hr, ho⟩
  rw [hz.2, hd]
  exact ho
/-- the instance, with a dict or not -/
theorem inst_at' {e : Xa} (c : CtxH T n N nms Wx X e) {pins : List (Addr × Obj)} {s : Shared} (I : Inv X pins σ H s) (h : ∀ f, T.xf e.c = some f → ∃ dd v, e.d = some dd ∧ H dd = some (.xd [(f, v)])) :
    ∃ oe od, PySem.W.InstAt s.heap e.a oe (T.ea e.c) od := by
  cases q : T.xf e.c with
  | some f =>
    obtain ⟨dd, v, h1, h2⟩ := h f q
    obtain ⟨oe, od, mA, J, _⟩ := inst_of c I h1 h2
    exact ⟨oe, _, J⟩
  | none =>
    obtain ⟨oe, hp, hz, vs, hv⟩ := c.pin
    obtain ⟨ha, _⟩ := I.pin (e.a, oe) (List.mem_append_left _ hp)
    refine ⟨oe, none, ⟨ha, hz.1, by unfold PySem.W.notCls; rw [hv] <;> rfl, ?_⟩⟩
    rw [hz.2, c.xn q]
    trivial
def rIsX (T : Tb) (e : Xa) : List V → Hp → VK → Prop := fun xs H Q => ∃ (D : Addr) (b : Bool), xs = [.ref e.a, .ref D] ∧ PySem.W.kitOne T.K (.ref (T.ea e.c)) (.ref D) = some b ∧ (∀ f, T.xf e.c = some f → ∃ dd v, e.d = some dd ∧ H dd = some (.xd [(f, v)])) ∧ Q (.bl b) H
theorem call_isX {e : Xa} (c : CtxH T n N nms Wx X e) : CallR X (.builtin "isinstance") (rIsX T e) := by
  intro pins s σ H xs us Q I r h
  obtain ⟨D, b, rfl, ek, hd, q⟩ := h
  cases r with
  | cons rx rr =>
    cases rr with
    | cons rt rr =>
      cases rr
      cases rx
      cases rt
      obtain ⟨oe, od, J⟩ := inst_at' c I hd
      have x := c.xc
      have ek2 : PySem.W.kitOne X.K (.ref (T.ea e.c)) (.ref D) = some b := by rw [c.K]; exact ek
      exact PySem.W.kia_one (PySem.W.kitx_exc (od := od) (ox := oe) (by rw [c.K]; exact x.cl) (by rw [c.K]; exact x.ga) (by rw [c.K]; exact x.gt) (by rw [c.K]; exact x.sub) (by rw [c.K]; exact x.ha) (by rw [c.K]; exact x.hn) (by rw [c.K]; exact x.tk) (by rw [c.K]; exact x.hm)) I.kIn J ek2 (fun z => nomatch z) fun tk => ⟨.bl b, H, I.kept (t' := tk) fun _ _ z => z, rfl, q⟩
/-- isinstance(e, D) -/
theorem snd_xis {py : Pos} {e : Xa} (c : CtxH T n N nms Wx X e) {y x : PySem.Str} {j d : Nat} (hj : e.j = some j) (hN : N[j]? = some y) (hv : visB nms y = true) (hd : (y == ("__debug__" : PySem.Str)) = false) (hcd : (y == ("__classdict__" : PySem.Str)) = false)
    (hx : glB nms "isinstance" = true) (hm : T.mg "isinstance" = none) (hg : glB nms x = true) (hD : T.mg x = some (.ref (T.ea d))) (hk : ∀ b, T.g.xsub e.c d = some b → PySem.W.kitOne T.K (.ref (T.ea e.c)) (.ref (T.ea d)) = some b) (g : Gd) (hgx : g.xsub = T.g.xsub) :
    PE X (.Call (.Name "isinstance" p) [.Name y py, .Name x p2] [] pos) (rdV T Wx (sem g cl (.xis d)).v) := by
  obtain ⟨g1, d1, _⟩ := c.gl hx
  obtain ⟨g2, d2, _⟩ := c.gl hg
  refine pe_mono (pe_callB (call_isX c) g1 (by rw [c.mg]; exact hm) (by rfl) (pa_cons (pe_var (i := j) (by rw [c.hN]; exact hN) (c.vis hv) hd hcd) (pa_cons (pe_glob (v := .ref (T.ea d)) g2 (by rw [c.mg]; exact hD) rfl d2) pa_nil))) fun σ H Q h => ?_
  obtain ⟨Pr, R, μ, env, st, be, hp⟩ := h
  obtain ⟨xx, hc, hs, hf⟩ := cur_of c.ex be.e
  refine ⟨_, hs j hj, ?_⟩
  have hp : Post T Pr Wx σ (RV T Q) R μ (match xcur env with | some (d', _) => toB (g.xsub d' d) st | none => .stuck) := hp
  rw [hc] at hp
  obtain ⟨b, e2, q⟩ := toB_post be.s hp
  rw [hgx] at e2
  exact ⟨_, b, rfl, hk b e2, fun f q => let ⟨dd, v, h1, h2, _⟩ := hf f q; ⟨dd, v, h1, be.s.r _ _ h2⟩, q⟩
/-- e.f -/
theorem snd_xat {e : Xa} (c : CtxH T n N nms Wx X e) {y : PySem.Str} {j k : Nat} (hj : e.j = some j) (hN : N[j]? = some y) (hv : visB nms y = true) (hd : (y == ("__debug__" : PySem.Str)) = false) (hcd : (y == ("__classdict__" : PySem.Str)) = false)
    (hno : T.xf e.c = some (T.nm k) → PySem.W.findIn T.K (.ref (T.ea e.c)) (T.nm k) = some none) (g : Gd) (hgx : g.xfld = T.g.xfld) :
    PE X (.Attribute (.Name y pos) (T.nm k) p) (rdV T Wx (sem g cl (.xat k)).v) := by
  refine ⟨fun pins s σ H Q I h => ?_⟩
  obtain ⟨Pr, R, μ, env, st, be, hp⟩ := h
  obtain ⟨xx, hc, hs, hf⟩ := cur_of c.ex be.e
  have hp : Post T Pr Wx σ (RV T Q) R μ (match xcur env with | some (d', x') => if g.xfld d' = some k then okc x' st else .stuck | none => .stuck) := hp
  rw [hc] at hp
  dsimp only at hp
  split at hp
  · rename_i hk
    rw [hgx] at hk
    have ef : T.xf e.c = some (T.nm k) := by unfold Tb.xf; rw [hk]; rfl
    obtain ⟨dd, v, h1, h2, h3⟩ := hf _ ef
    have q := hp.okc be.s h3
    refine attr_of (by rfl) (thn ((pe_var (X := X) (i := j) (pos := pos) (by rw [c.hN]; exact hN) (c.vis hv) hd hcd).run pins s σ H (fun u H1 => u = .ref e.a ∧ H1 = H) I ⟨_, hs j hj, rfl, rfl⟩) fun u s1 ⟨x1, H1, I1, r1, ex, eh⟩ => ?_)
    subst ex eh
    obtain rfl : u = Value.ref e.a := r1
    have hH : H1 dd = some (.xd [(T.nm k, v)]) := be.s.r _ _ h2
    obtain ⟨oe, od, mA, J, hns, hr, ho⟩ := inst_of c I1 h1 hH
    obtain ⟨od', ho', hl⟩ := lookIn_ns hns
    rw [ho] at ho'
    cases ho'
    obtain ⟨u, hu, ru⟩ := RelO.some_of (v := v) (o := mA (T.nm k)) (by have := hr (T.nm k); rw [List.lookup_cons, beq_self_eq_true] at this; exact this)
    have x := c.xc
    have no := hno ef
    rw [← c.K] at no
    exact HandSPX.exc_get I1.kIn J (by rw [c.K]; exact x.ga) (by rw [c.K]; exact x.gt) (by rw [c.K]; exact x.sub) (PySem.W.findObj_own (by rw [c.K]; exact x.dct) no rfl (by rw [hl, hu])) (handed_of ru) ⟨v, H1, I1.tok _, ru, q⟩
  · exact hp.elim
theorem hcmp_eq (c : CtxB T N nms Wx X) : OpS T X Wx (compareOp .Eq) (hcmpop .eq) := by
  intro pins s σ H x y v u Q Pr R μ st a b I rx ry sm ra rb h
  unfold hcmpop at h
  split at h
  · rename_i x1 x2 _ e1 e2
    split at h
    · rename_i hs
      obtain ⟨hs1, hs2⟩ := Bool.and_eq_true_iff.mp hs
      have hu := c.un
      exact op_eqD (by omega) pins s σ H x y v u Q I rx ry ⟨toD x1, toD x2, by rw [c.K]; exact dat_dp sm e1 hs1 ra, by rw [c.K]; exact dat_dp sm e2 hs2 rb, shp_ok hs1, shp_ok hs2, h.okc sm rfl⟩
    · exact h.elim
  · rename_i q _ _; cases q
  · unfold ordOp at h
    split at h
    · exact h.elim
    · exact h.elim
theorem hcmp_ne (c : CtxB T N nms Wx X) : OpS T X Wx (compareOp .NotEq) (hcmpop .ne) := by
  intro pins s σ H x y v u Q Pr R μ st a b I rx ry sm ra rb h
  unfold hcmpop at h
  split at h
  · rename_i q _ _; cases q
  · rename_i x1 x2 _ e1 e2
    split at h
    · rename_i hs
      obtain ⟨hs1, hs2⟩ := Bool.and_eq_true_iff.mp hs
      have hu := c.un
      exact op_neD (by omega) pins s σ H x y v u Q I rx ry ⟨toD x1, toD x2, by rw [c.K]; exact dat_dp sm e1 hs1 ra, by rw [c.K]; exact dat_dp sm e2 hs2 rb, shp_ok hs1, shp_ok hs2, h.okc sm rfl⟩
    · exact h.elim
  · unfold ordOp at h
    split at h
    · exact h.elim
    · exact h.elim
def hopOk : CmpOp → Bool
  | .Eq => true | .NotEq => true | .Lt => true | .LtE => true | .Gt => true | .GtE => true | _ => false
def hcopOf : CmpOp → Cop
  | .Eq => .eq | .NotEq => .ne | .Lt => .lt | .LtE => .le | .Gt => .gt | .GtE => .ge | _ => .is
theorem ops_hcmp (c : CtxB T N nms Wx X) {op : CmpOp} (h : hopOk op = true) : OpS T X Wx (compareOp op) (hcmpop (hcopOf op)) := by
  cases op <;> first | cases h | skip
  · exact hcmp_eq c
  · exact hcmp_ne c
  · exact ops_lt T.g (cl := fun _ _ _ => .stuck)
  · exact ops_le T.g (cl := fun _ _ _ => .stuck)
  · exact ops_gt T.g (cl := fun _ _ _ => .stuck)
  · exact ops_ge T.g (cl := fun _ _ _ => .stuck)
theorem hixs (c : CtxB T N nms Wx X) : IxS T X Wx hgetix := by
  intro value slice pins s σ H x y v u Q Pr R μ st a b hi I rx ry sm ra rb h
  unfold hgetix at h
  split at h
  · rename_i ws k _ _ hws
    split at h
    · rename_i w hw
      cases rb
      obtain ⟨p, vs, rfl, h1, h2⟩ := seq_at sm hws ra
      obtain ⟨z, e1, e2⟩ := atI_of h1 hw
      have q := h.ok sm z e2
      rcases h2 with h2 | h2
      · exact ix_list value slice pins s σ H _ _ v u Q I rx ry ⟨p, vs, _, z, rfl, rfl, by rw [c.K]; exact h2, e1, q⟩ (plainIx_of hi _ _)
      · exact ix_tup value slice pins s σ H _ _ v u Q I rx ry ⟨p, vs, _, z, rfl, rfl, by rw [c.K]; exact h2, e1, q⟩ (plainIx_of hi _ _)
    · exact h.elim
  · exact h.elim
end
/-! ### the translation -/
section
variable (G : Gt) (N : List PySem.Str) (y : PySem.Str) (r : TrE)
def hName (nms : Nms) (x : PySem.Str) : Option Ex := if visB nms x then (match ixOf N x with | some i => if (x == ("__debug__" : PySem.Str)) || (x == ("__classdict__" : PySem.Str)) then none else some (.var i) | none => none) else none
def hY (nms : Nms) (z : PySem.Str) : Bool := decide (z = y) && ((ixOf N y).isSome && (visB nms y && (!(y == ("__debug__" : PySem.Str)) && !(y == ("__classdict__" : PySem.Str)))))
def hMeth (nms : Nms) (o : Expr) (m : PySem.Str) (apos pos : Pos) (a : Expr) : Option Ex :=
  if (apos.endLine == pos.line) && (baseOk o && notStar a) then match r nms o, trA r nms [a] with
    | some o, some es => if m = "append" then some (.bm .append o es) else if m = "index" then some (.bm .index o es) else if m = "count" then some (.bm .count o es) else none
    | _, _ => none
  else none
def hCall (nms : Nms) (x : PySem.Str) (a : Expr) : Option Ex :=
  if x = "repr" then (if glB nms "repr" && (G.free "repr" && notStar a) then (trA r nms [a]).map (.bi .repr) else none)
  else match a with
    | .Name z _ => if hY N y nms z && glB nms x then (G.hfn x).map .hcall else none
    | _ => none
def hIsi (nms : Nms) (x z w : PySem.Str) : Option Ex := if x = "isinstance" ∧ (hY N y nms z && (glB nms "isinstance" && (G.free "isinstance" && glB nms w))) = true then (G.xc w).map .xis else none
def trHE : TrE := fun nms e => match e with
  | .Name x _ => hName N nms x
  | .Constant (.int i) _ _ => some (.int i)
  | .Constant (.bool b) _ _ => some (.bl b)
  | .Constant .none _ _ => some .non
  | .Constant (.str s) _ _ => some (.str s.cps.toList)
  | .List es p => if es.length ≤ 16777216 then (trA r nms es).map fun x => if G.mu p then .mut (.lst x) else .lst x else none
  | .BinOp a .Add b p => match r nms a, r nms b with | some a, some b => some (if G.mu p then .madd a b else .bin .add a b) | _, _ => none
  | .Compare a [op] [b] _ => if hopOk op && !(behindInMarks op b) then match r nms a, r nms b with | some a, some b => some (.hcmp (hcopOf op) a b) | _, _ => none else none
  | .BoolOp op (e :: es) _ => trB r nms op (e :: es)
  | .IfExp c a b _ => match r nms c, r nms a, r nms b with | some c, some a, some b => some (.ite c a b) | _, _, _ => none
  | .Subscript o i _ => if ixOk i then match r nms o, r nms i with | some o, some i => some (.hix o i) | _, _ => none else none
  | .Attribute (.Name z _) f _ => if hY N y nms z then (G.nm f).map .xat else none
  | .Call (.Attribute o m apos) [a] [] pos => hMeth r nms o m apos pos a
  | .Call (.Name x _) [a] [] _ => hCall G N y r nms x a
  | .Call (.Name x _) [.Name z _, .Name w _] [] _ => hIsi G N y nms x z w
  | _ => none
end
def trH (G : Gt) (N : List PySem.Str) (y : PySem.Str) : Nat → TrE
  | 0 => fun _ _ => none
  | n + 1 => trHE G N y (trH G N y n)
section
variable {T : Tb} {n : Nat} {N : List PySem.Str} {fa : Nat → Option Addr} {cl : Cl} {G : Gt} {y : PySem.Str}
/-- what a def that is called in a suite promises -/
def FnH (T : Tb) (n : Nat) (a : Addr) (cl : Cl) (f : Nat) : Prop :=
  ∀ (A : Around) (outer : List PySem.Env) (s : Shared) (H : Hp) (oe : Obj) (e : Xa) (Pr R : Hp) (μ : Mu) (x : C) (st : S) (Q : VK) (E : XK), L2H.RoomH n A → A.guards = some [] → Env0 T.P T.w T.K T.mg T.base A outer s H → L2H.PinOk outer H s (e.a, oe) → Zc (.ref (T.ea e.c)) e.d oe → (∃ vs, oe.data = .fields vs) → XCl T.K (T.ea e.c) → (T.xf e.c = none → e.d = none) →
    Sim T R Pr μ st H → (∀ f, T.xf e.c = some f → ∃ dd v, e.d = some dd ∧ R dd = some (.xd [(f, v)]) ∧ RelC T R x v) → Post T Pr (fun c d _ H' => E c d H') [] (RV T Q) R μ (cl f [.c (xtup e.c x)] st) →
    codeAny (model T.P T.w) A (.call (.ref a) ⟨[.ref e.a], []⟩) (CR (L2.CX T.P T.w) outer T.P T.w H s Q E) s
def GoodH (T : Tb) (n : Nat) (N : List PySem.Str) (cl : Cl) (y : PySem.Str) (r : TrE) : Prop := ∀ nms ex x, r nms ex = some x → ∀ Wx X (e : Xa), CtxH T n N nms Wx X e → e.j = ixOf N y → PE X ex (rdV T Wx (sem T.g cl x).v) ∧ PT X ex (rdT T Wx (sem T.g cl x).t)
variable {r : TrE} {nms : Nms} {Wx : WX} {X : Cx} {e : Xa}
theorem snd_hA (g : GoodH T n N cl y r) (c : CtxH T n N nms Wx X e) (hj : e.j = ixOf N y) : ∀ {es : List Expr} {x : Ex}, trA r nms es = some x → PA X es (rdL T Wx (sem T.g cl x).l) ∧ es.all notStar = true ∧ ∀ env st ws st', (sem T.g cl x).l env st = .ok ws st' → ws.length = es.length
  | [], x, h => by
    cases h
    refine ⟨snd_nil, rfl, fun env st ws st' e => ?_⟩
    have e : Res.ok [] st = .ok ws st' := e
    cases e; rfl
  | a :: es, x, h => by
    unfold trA at h
    split at h
    · rename_i hs
      split at h
      · rename_i u z hy hz
        cases h
        obtain ⟨i1, i2, i3⟩ := snd_hA g c hj hz
        refine ⟨snd_cons hs (g _ _ _ hy _ _ _ c hj).1 i1, by simp [hs, i2], fun env st ws st' e => ?_⟩
        have e : ((sem T.g cl u).v env st).bind (fun x st1 => ((sem T.g cl z).l env st1).bind fun ws st2 => .ok (x :: ws) st2) = .ok ws st' := e
        cases q1 : (sem T.g cl u).v env st with
        | ex _ _ _ => rw [q1] at e; cases e
        | stuck => rw [q1] at e; cases e
        | ok w1 st1 =>
          rw [q1] at e
          simp only [Res.bind] at e
          cases q2 : (sem T.g cl z).l env st1 with
          | ex _ _ _ => rw [q2] at e; cases e
          | stuck => rw [q2] at e; cases e
          | ok w2 st2 =>
            rw [q2] at e
            cases e
            simp [i3 _ _ _ _ q2]
      · cases h
    · cases h
theorem snd_hB (g : GoodH T n N cl y r) (c : CtxH T n N nms Wx X e) (hj : e.j = ixOf N y) {pos : Pos} {op : BoolOp} : ∀ {es : List Expr} {x : Ex}, trB r nms op es = some x → PE X (.BoolOp op es pos) (rdV T Wx (sem T.g cl x).v) ∧ PW X (.BoolOp op es pos) (rdT T Wx (sem T.g cl x).t)
  | [], x, h => by cases h
  | [a], x, h => by
    unfold trB at h
    obtain ⟨g1, g2⟩ := g _ _ _ h _ _ _ c hj
    refine ⟨⟨fun pins s σ H Q I q => BoolOp_one (g1.run pins s σ H Q I q)⟩, ?_⟩
    cases op with
    | And => exact pw_and1 g2
    | Or => exact pw_or1 g2
  | a :: b :: es, x, h => by
    unfold trB at h
    split at h
    · rename_i u z ha hb
      cases h
      obtain ⟨g1, g2⟩ := g _ _ _ ha _ _ _ c hj
      obtain ⟨i1, i2⟩ := snd_hB g c hj (pos := pos) hb
      cases op with
      | And => exact ⟨snd_and c.K g1 i1, snd_andT g2 i2⟩
      | Or => exact ⟨snd_or c.K g1 i1, snd_orT g2 i2⟩
    · cases h
theorem snd_hcall (c : CtxH T n N nms Wx X e) {f j : Nat} {ad : Addr} {x : PySem.Str} {p py pos : Pos} (hF : FnH T n ad cl f) (hj : e.j = some j) (hN : N[j]? = some y) (hv : visB nms y = true) (hd : (y == ("__debug__" : PySem.Str)) = false) (hcd : (y == ("__classdict__" : PySem.Str)) = false)
    (hx : glB nms x = true) (hm : T.mg x = some (.ref ad)) (hk : PySem.W.keepIn T.K (.ref ad) = true) (g : Gd) : PE X (.Call (.Name x p) [.Name y py] [] pos) (rdV T Wx (sem g cl (.hcall f)).v) := by
  refine ⟨fun pins s σ H Q I h => ?_⟩
  obtain ⟨Pr, R, μ, env, st, be, hp⟩ := h
  obtain ⟨xx, hc, hs, hf⟩ := cur_of c.ex be.e
  have hp : Post T Pr Wx σ (RV T Q) R μ (match xcur env with | some (d', x') => cl f [.c (xtup d' x')] st | none => .stuck) := hp
  rw [hc] at hp
  obtain ⟨hg, hdb, _⟩ := c.gl hx
  refine wpAny_Call_Name_kw (ld_glob I hg (by rw [c.mg]; exact hm) ?_ hdb)
  refine PySem.W.callWith_K (h₀ := X.base) I.ok.mod.kin (by rw [c.K]; exact hk) ?_ (by rfl) (by rfl)
  show wpAny _ _ (spliced ((false, eval (.Name y py) X.env) :: backTo pos (starEach [] X.env))) _ _ s
  refine Calls.spliced_cons (thn ((pe_var (X := X) (i := j) (pos := py) (by rw [c.hN]; exact hN) (c.vis hv) hd hcd).run pins s σ H (fun u H1 => u = .ref e.a ∧ H1 = H) I ⟨_, hs j hj, rfl, rfl⟩) fun u s1 ⟨x1, H1, I1, r1, ex, eh⟩ => ?_)
  subst ex eh
  obtain rfl : u = Value.ref e.a := r1
  refine Calls.spliced_nil ⟨I1.kIn, ?_⟩
  obtain ⟨oe, hpn, hz, hv⟩ := c.pin
  obtain ⟨q1, q2, q3, q4, q5⟩ := I1.pin (e.a, oe) (List.mem_append_left _ hpn)
  have po : L2H.PinOk X.stack H1 s1 (e.a, oe) := ⟨q1, q2, fun hm => by
    rcases List.mem_cons.mp (I1.stkSub _ hm) with z | z
    · exact q3 z
    · exact q4 z, q5⟩
  have e0 := I1.env0
  rw [c.P, c.w, c.K, c.mg, c.base] at e0
  have z := hF X.A X.stack s1 H1 oe e Pr R μ xx st Q (fun cls d H' => Wx cls d σ H') c.rm c.gu e0 po hz hv c.xc c.xn be.s hf hp.wish
  rw [← c.P, ← c.w] at z
  refine wpAny_call (codeAny_mono z fun r s' hq => ?_)
  cases r with
  | error er => exact passAt c.takes σ pins H1 s1 er s' I1 hq
  | ok fl =>
    cases fl with
    | ret u => exact I1.after hq
    | next => exact False.elim hq
    | brk => exact False.elim hq
    | cont => exact False.elim hq
theorem hY_ok {z : PySem.Str} (h : hY N y nms z = true) : z = y ∧ (∃ j, ixOf N y = some j) ∧ visB nms y = true ∧ (y == ("__debug__" : PySem.Str)) = false ∧ (y == ("__classdict__" : PySem.Str)) = false := by
  unfold hY at h
  simp only [Bool.and_eq_true, decide_eq_true_eq, Bool.not_eq_true'] at h
  exact ⟨h.1, Option.isSome_iff_exists.mp h.2.1, h.2.2.1, h.2.2.2.1, h.2.2.2.2⟩
theorem hcmp_bl {op : CmpOp} (h : hopOk op = true) {x z : W} {st st' : S} {w : W} (e : hcmpop (hcopOf op) x z st = .ok w st') : isBl w := by
  have tb : ∀ {o : Option Bool} {st : S}, toB o st = .ok w st' → isBl w := fun {o st} h => by
    unfold toB at h
    split at h
    · cases h; trivial
    · cases h
  have od : ∀ {op : Cop}, ordOp op x z st = .ok w st' → isBl w := fun {op} h => by
    unfold ordOp at h
    split at h
    · exact tb h
    · cases h
  unfold hcmpop at e
  split at e
  · split at e
    · cases e; trivial
    · cases e
  · split at e
    · cases e; trivial
    · cases e
  · exact od e
theorem good_trHE (hF : ∀ f ad, T.hfa f = some ad → FnH T n ad cl f) (O : TOk T fa) (K : GtOk T fa G) (g : GoodH T n N cl y r) : GoodH T n N cl y (trHE G N y r) := by
  intro nms ex x h Wx X e c hj
  have vt : ∀ {ex : Expr} {A : Sm}, plainT ex = true → (A.t = fun env st => (A.v env st).bind truR) → PE X ex (rdV T Wx A.v) → PE X ex (rdV T Wx A.v) ∧ PT X ex (rdT T Wx A.t) := fun {ex A} hp ht h => by
    refine ⟨h, ?_⟩
    rw [ht]
    exact snd_test c.K hp h
  unfold trHE at h
  split at h
  · rename_i z p
    unfold hName at h
    split at h
    · rename_i hv
      split at h
      · rename_i i hi
        split at h
        · cases h
        · rename_i hd
          cases h
          simp only [Bool.or_eq_true, not_or, Bool.not_eq_true] at hd
          exact vt rfl rfl (snd_var c.toCtxB (ixOf_ok hi) hv hd.1 hd.2 T.g cl)
      · cases h
    · cases h
  · cases h; exact vt rfl rfl (snd_con (x := .int _) pe_int (fun _ => rfl) fun _ _ => rfl)
  · cases h; exact vt rfl rfl (snd_con (x := .bl _) pe_bl (fun _ => rfl) fun _ _ => rfl)
  · cases h; exact vt rfl rfl (snd_con (x := .non) pe_non (fun _ => rfl) fun _ _ => rfl)
  · rename_i s _ _
    cases h; exact vt rfl rfl (snd_con pe_str (fun R => by
      show V.str s = V.str (strV s.cps.toList)
      rw [strV_of]) fun _ _ => rfl)
  · rename_i es pl
    split at h
    · rename_i hl
      obtain ⟨u, h1, rfl⟩ := map_some h
      obtain ⟨i1, i2, i3⟩ := snd_hA g c hj h1
      have f := snd_lst (pos := pl) i1 fun env st ws st' e => by rw [i3 _ _ _ _ e]; exact hl
      split
      · exact vt rfl rfl (snd_mut f)
      · exact ⟨snd_close f, snd_closeT rfl f c.K⟩
    · cases h
  · split at h
    · rename_i h1 h2
      cases h
      split
      · exact vt rfl rfl (snd_binop ops_madd (g _ _ _ h1 _ _ _ c hj).1 (g _ _ _ h2 _ _ _ c hj).1)
      · exact vt rfl rfl (snd_binop (ops_add (g := T.g) (cl := cl) c.K) (g _ _ _ h1 _ _ _ c hj).1 (g _ _ _ h2 _ _ _ c hj).1)
    · cases h
  · split at h
    · rename_i hm
      obtain ⟨hm1, hm2⟩ := Bool.and_eq_true_iff.mp hm
      have hm2 := (Bool.not_eq_true' _).mp hm2
      split at h
      · rename_i h1 h2
        cases h
        exact ⟨snd_cmp (ops_hcmp c.toCtxB hm1) (g _ _ _ h1 _ _ _ c hj).1 (g _ _ _ h2 _ _ _ c hj).1 hm2, snd_cmpT (ops_hcmp c.toCtxB hm1) (fun _ _ _ _ _ e => hcmp_bl hm1 e) (g _ _ _ h1 _ _ _ c hj).1 (g _ _ _ h2 _ _ _ c hj).1 hm2⟩
      · cases h
    · cases h
  · obtain ⟨h1, h2⟩ := snd_hB g c hj h
    exact ⟨h1, h2.pt⟩
  · split at h
    · rename_i h1 h2 h3
      cases h
      exact ⟨snd_ite (g _ _ _ h1 _ _ _ c hj).2 (g _ _ _ h2 _ _ _ c hj).1 (g _ _ _ h3 _ _ _ c hj).1, snd_iteT (g _ _ _ h1 _ _ _ c hj).2 (g _ _ _ h2 _ _ _ c hj).2 (g _ _ _ h3 _ _ _ c hj).2⟩
    · cases h
  · split at h
    · rename_i hi
      split at h
      · rename_i h1 h2
        cases h
        exact vt rfl rfl (snd_ix (hixs c.toCtxB) (g _ _ _ h1 _ _ _ c hj).1 (g _ _ _ h2 _ _ _ c hj).1 hi)
      · cases h
    · cases h
  · split at h
    · rename_i hy
      obtain ⟨rfl, ⟨j, hj2⟩, hv, hd, hcd⟩ := hY_ok hy
      have ej := hj.trans hj2
      have hNj := ixOf_ok hj2
      obtain ⟨k, h1, rfl⟩ := map_some h
      have := K.nm _ _ h1
      subst this
      exact vt rfl rfl (snd_xat c ej hNj hv hd hcd (fun ef => by
        obtain ⟨B, newId, initId, bmB, fI, cda, cc, params, body, scope, qual, v, p0, p1, p2, p3, p4, p5, p6, p7, p8, p9, k', text, XC, _⟩ := O.exc _ _ ef
        exact XC.no) T.g rfl)
    · cases h
  · rename_i o m apos a pos
    unfold hMeth at h
    split at h
    · rename_i hb
      obtain ⟨hline, hb2⟩ := Bool.and_eq_true_iff.mp hb
      obtain ⟨hbase, hns⟩ := Bool.and_eq_true_iff.mp hb2
      split at h
      · rename_i zo zs h1 h2
        have go := (g _ _ _ h1 _ _ _ c hj).1
        obtain ⟨i1, i2, i3⟩ := snd_hA g c hj h2
        have hu := c.un
        split at h
        · rename_i q
          subst q
          cases h
          exact vt rfl rfl (snd_bm (f := bmAppend) c.K PySem.F.slot_list_append PySem.F.type_list_append mt_append bm_append go hbase hline (show 1 < 30 by decide) i2 i1)
        · split at h
          · rename_i q
            subst q
            cases h
            exact vt rfl rfl (snd_bm (f := bmIndex) c.K PySem.F.slot_list_index PySem.F.type_list_index (mt_indexD (by omega)) (bm_index c.K) go hbase hline (show 1 < 30 by decide) i2 i1)
          · split at h
            · rename_i q
              subst q
              cases h
              exact vt rfl rfl (snd_bm (f := bmCount) c.K PySem.F.slot_list_count PySem.F.type_list_count (mt_countD (by omega)) (bm_count c.K) go hbase hline (show 1 < 30 by decide) i2 i1)
            · cases h
      · cases h
    · cases h
  · rename_i x0 p a pos
    unfold hCall at h
    split at h
    · rename_i q
      subst q
      split at h
      · rename_i hb
        obtain ⟨hx, hb2⟩ := Bool.and_eq_true_iff.mp hb
        obtain ⟨hf, hns⟩ := Bool.and_eq_true_iff.mp hb2
        obtain ⟨u, h1, rfl⟩ := map_some h
        obtain ⟨i1, i2, i3⟩ := snd_hA g c hj h1
        exact vt rfl rfl (snd_bi c.toCtxB (calls_repr c.toCtxB) hx (K.free _ hf) rfl i2 i1)
      · cases h
    · split at h
      · split at h
        · rename_i hb
          obtain ⟨hy, hx⟩ := Bool.and_eq_true_iff.mp hb
          obtain ⟨rfl, ⟨j, hj2⟩, hv, hd, hcd⟩ := hY_ok hy
          have ej := hj.trans hj2
          have hNj := ixOf_ok hj2
          obtain ⟨f, h1, rfl⟩ := map_some h
          obtain ⟨ad, k1, k2, k3⟩ := K.hfn _ _ h1
          exact vt rfl rfl (snd_hcall c (hF _ _ k1) ej hNj hv hd hcd hx k2 k3 T.g)
        · cases h
      · cases h
  · rename_i x0 p z pz w pw pos
    unfold hIsi at h
    split at h
    · rename_i hb
      obtain ⟨rfl, hb⟩ := hb
      obtain ⟨hy, hb2⟩ := Bool.and_eq_true_iff.mp hb
      obtain ⟨hx, hb3⟩ := Bool.and_eq_true_iff.mp hb2
      obtain ⟨hf, hw⟩ := Bool.and_eq_true_iff.mp hb3
      obtain ⟨rfl, ⟨j, hj2⟩, hv, hd, hcd⟩ := hY_ok hy
      have ej := hj.trans hj2
      have hNj := ixOf_ok hj2
      obtain ⟨d, h1, rfl⟩ := map_some h
      exact vt rfl rfl (snd_xis c ej hNj hv hd hcd hx (K.free _ hf) hw (K.xc _ _ h1) (fun b hb => (O.xsub _ _ _ hb).2.1) T.g rfl)
    · cases h
  · cases h
theorem good_trH (hF : ∀ f ad, T.hfa f = some ad → FnH T n ad cl f) (O : TOk T fa) (K : GtOk T fa G) : ∀ k, GoodH T n N cl y (trH G N y k)
  | 0 => fun _ _ _ h => by cases h
  | k + 1 => good_trHE hF O K (good_trH hF O K k)
end
end Ev

/-! Xt: raise; try with clauses, each with a name or without. -/
namespace Ev
open PySem PySem.Spec PyProof.Rows L2
abbrev Cl3 : Type := Value × Option Nat × (Addr → Value → Option Addr → TS)
/-- the ends of a suite whose name goes behind it -/
def DX : Option Nat → Ends → Ends
  | none, D => D
  | some i, D => { nx := fun σ' H' => D.nx (σ'.set i none) H', rt := D.rt, bk := fun σ' H' => D.bk (σ'.set i none) H', ct := fun σ' H' => D.ct (σ'.set i none) H' }
def sX : Option Nat → L2.St → Addr → L2.St
  | none, σ, _ => σ
  | some i, σ, a => σ.set i (some (.ref a))
/-- what the clauses wish of an exception of the body -/
def wCl (K : PySem.W.Frag) (n : Nat) (Wout : WX) (D : Ends) : List Cl3 → WX
  | [] => Wout
  | (c, i, ts) :: r => fun cls d σ H => σ.length = n → ∃ b, PySem.W.exmOne K cls c = some b ∧ (b = true → ∀ a, H a = none → ts a cls d (DX i D) (sX i σ a) H) ∧ (b = false → wCl K n Wout D r cls d σ H)
/-- the slot of a clause's name -/
def NmOk (X : Cx) : Option PySem.Str → Option Nat → Prop
  | none, i => i = none
  | some n, i => ∃ k, i = some k ∧ X.N[k]? = some n ∧ X.env.kindOf n = some .local
inductive HdsX (X : Cx) : List ExceptHandler → List Cl3 → Prop
  | nil : HdsX X [] []
  | cons {x : PySem.Str} {c : Value} {nm : Option PySem.Str} {i : Option Nat} {ts : Addr → Value → Option Addr → TS} {b₀ : Stmt} {suite : List Stmt} {np pos' : Pos} {hds : List ExceptHandler} {l : List Cl3} (hc : Names X x c) (hi : NmOk X nm i)
      (hsu : ∀ (a : Addr) (oe : Obj) (cls : Value) (d : Option Addr) (pn : List (Addr × Obj)), Zc cls d oe → (∃ vs, oe.data = .fields vs) → PSs (X.suite a ((a, oe) :: pn)) (b₀ :: suite) (ts a cls d)) (r : HdsX X hds l) :
      HdsX X (.ExceptHandler (some (.Name x np)) nm (b₀ :: suite) pos' :: hds) ((c, i, ts) :: l)
section
variable {X : Cx} {body : List Stmt} {h₀ : ExceptHandler} {hds : List ExceptHandler} {l : List Cl3} {pos : Pos} {tb : WX → TS} {Wout : WX}
theorem ps_try_x (hs : X.stack = X.env :: X.outer) (hf : X.env.frame = some X.env.locals) (hN : X.N.Nodup) (tk : Takes X Wout)
    (hb : ∀ (W : WX) (pn : List (Addr × Obj)) (xe : Value → Shared → Prop), Takes (X.tr pn xe) W → PassesOwn (model X.prog X.w) X.A X.env xe → PSs (X.tr pn xe) body (tb W))
    (hh : HdsX X (h₀ :: hds) l) : PS X (.Try body (h₀ :: hds) [] [] pos) (fun D σ H => tb (wCl X.K X.N.length Wout D l) D σ H) := by
  refine ⟨fun pins s σ H D I0 h => ?_⟩
  have ok := I0.ok
  have hfr : X.A.frames = some (X.env :: X.outer) := by rw [ok.frames, hs]
  refine wpAny_Try_except ?_
  refine wpAny_mono ((hb (wCl X.K X.N.length Wout D l) (X.pn ++ pins) (fun e s₁ => wpAny (model X.prog X.w) X.A (noteFrame e X.env) (fun _ s₂ => wpAny (model X.prog X.w) X.A (setFlight e none) (fun _ s₃ =>
    wpAny (model X.prog X.w) X.A (handleBy e X.env (h₀ :: hds)) (SP X pins D) X.xe s₃) X.xe s₂) X.xe s₁) (fun u s' xx => ?_) PassesOwn.looking).run [] s σ H D (I0.toTry _) h) (fun f s1 hsp => ?_) (fun e s1 he => he)
  · obtain ⟨a, gr, si, pins', σ', H', cls, d, rfl, j0, nb, up, sky, na, os, ag, w⟩ := xx
    have j1 : Inv X pins σ' H' si := j0.ofTry ok
    have sky' : Sky gr (X.env :: X.outer) a (Zc cls d) X.env.locals s'.heap := by rw [← hs]; exact sky
    show wpAny (model X.prog X.w) X.A (noteFrame (.ref a) X.env) _ _ _
    refine Sky.land Zc.steady hfr hf sky' fun h3 fl3 up3 => ?_
    have j3 : Inv X pins σ' H' { s' with heap := h3 } := j1.landed nb fl3.1 (up.trans up3) os ag
    obtain ⟨oe3, vs3, he3, hz3, hd3⟩ := fl3.there
    have notFr : ∀ {h : Heap} {o : Obj} {vs : Array Value}, h.FunFrames gr (X.env :: X.outer) → h.get? a = some o → o.data = .fields vs → a ∉ frs (X.env :: X.outer) := fun {h o vs} ff e dd hm => by
      obtain ⟨_, o', e', hnf⟩ := ff.mem hm
      rw [e] at e'; cases e'
      exact hnf _ dd
    have nfr := notFr fl3.2.2.1 he3 hd3
    have nL : a ≠ X.env.locals := fun z => nfr (List.mem_filterMap.mpr ⟨X.env, List.mem_cons_self, by rw [hf, z]⟩)
    have nF : a ∉ X.fs := fun hm => by
      obtain ⟨e, he, q⟩ := List.mem_filterMap.mp hm
      exact nfr (List.mem_filterMap.mpr ⟨e, List.mem_cons_of_mem _ he, q⟩)
    have s3 := j3.suite he3 hd3 na nL nF
    have go : ∀ {hds' : List ExceptHandler} {l' : List Cl3}, HdsX X hds' l' → wCl X.K X.N.length Wout D l' cls d σ' H' →
        wpAny (model X.prog X.w) X.A (handleBy (.ref a) X.env hds') (SP X pins D) X.xe { s' with heap := h3 } := by
      intro hds' l' hk
      induction hk with
      | nil =>
        intro w
        refine wpAny_handleBy_nil ?_
        obtain ⟨k1, k2, k3, oe, vs, T, oT, ts', he, hz, hd, h1, hr⟩ := id fl3
        unfold PySem.passOn
        refine wpAny_bind (wpAny_field he hd h1 ?_)
        rw [if_neg (show ¬ ((Value.ref T == Value.none) = true) from by simp)]
        have fin : wpAny (model X.prog X.w) X.A (setFlight (.ref a) X.env.frame) (fun _ s4 => wpAny (model X.prog X.w) X.A (throw (.ref a) : Sem Flow) (SP X pins D) X.xe s4) X.xe { s' with heap := h3 } := by
          rw [hf]
          refine HandSPX.setFlight_upZ fl3 fun h4 hh4 up4 => wpAny_throw (tk _ _ ?_)
          exact ⟨a, gr, si, pins, σ', H', cls, d, rfl, j1, nb, (up.trans up3).trans up4, .inr (.inr (by rw [hs]; exact hh4)), na, os, ag, w⟩
        first
          | exact wpAny_bind (wpAny_pure (wpAny_bind fin))
          | exact wpAny_bind fin
      | @cons x c nm i ts b₀ suite np pos' hds2 l2 hc hi hsu r ih =>
        intro w
        obtain ⟨b, hb1, hyes, hno⟩ := w j3.len
        refine wpAny_handleBy_cons (codeAny_handlers_test ?_) (by intro q; cases q)
        have LT : PySem.W.Looks (model X.prog X.w) h3 (typeOf (.ref a)) cls := fun A Q E s k q => wpAny_typeOf_ref (k _ _ he3) (by rw [hz3.1]; exact q)
        have LM := PySem.W.exm_one (M := model X.prog X.w) (j3.kIn) LT hb1
        have test : ∀ {Q : Value → Shared → Prop} {E : Value → Shared → Prop}, Q c { s' with heap := h3 } → wpAny (model X.prog X.w) (X.A.mark (some (.ref a))) (eval (.Name x np) X.env) Q E { s' with heap := h3 } := fun {Q E} q => by
          obtain ⟨hg, hdbg, hm | ⟨hm, hv, hnn⟩⟩ := hc
          · exact ld_glob (X := X.suite a ((a, oe3) :: (X.pn ++ pins))) s3 hg hm q hdbg
          · exact ld_blt (X := X.suite a ((a, oe3) :: (X.pn ++ pins))) s3 hg hm hv q hnn hdbg
        refine test (LM.here ?_)
        cases b with
        | true =>
          cases nm with
          | none =>
            have hi : i = none := hi
            subst hi
            refine codeAny_handlers_suite ?_
            refine HandSPX.lands_againZ fl3 fun h4 fl4 up4 => ?_
            have j4 : Inv X pins σ' H' { s' with heap := h4 } := j1.landed nb fl4.1 ((up.trans up3).trans up4) os ag
            obtain ⟨oe4, vs4, he4, hz4, hd4⟩ := fl4.there
            have s4 := j4.suite he4 hd4 na nL nF
            refine wpAny_mono ((hsu a oe4 cls d (X.pn ++ pins) hz4 ⟨_, hd4⟩).run [] _ _ H' _ s4 (hyes rfl a na)) (fun f s6 hsp => ?_) (fun _ _ z => False.elim z)
            cases f with
            | next =>
              obtain ⟨σ6, H6, t6, q6⟩ := hsp
              exact ⟨_, _, t6.unsuite ok, q6⟩
            | brk =>
              obtain ⟨σ6, H6, t6, q6⟩ := hsp
              exact ⟨_, _, t6.unsuite ok, q6⟩
            | cont =>
              obtain ⟨σ6, H6, t6, q6⟩ := hsp
              exact ⟨_, _, t6.unsuite ok, q6⟩
            | ret u =>
              obtain ⟨v6, σ6, H6, t6, r6, q6⟩ := hsp
              exact ⟨_, _, _, t6.unsuite ok, r6, q6⟩
          | some n =>
            obtain ⟨k, rfl, hik, hln⟩ := hi
            have hloc : Loc X.env.scope n := .inl hln
            refine codeAny_handlers_suite_as ?_
            refine HandSPX.lands_againZ fl3 fun h4 fl4 up4 => ?_
            have j4 : Inv X pins σ' H' { s' with heap := h4 } := j1.landed nb fl4.1 ((up.trans up3).trans up4) os ag
            obtain ⟨oe4, vs4, he4, hz4, hd4⟩ := fl4.there
            have s4 := j4.suite he4 hd4 na nL nF
            refine store_ok (X := X.suite a ((a, oe4) :: (X.pn ++ pins))) (v := .ref a) s4 hN hik hloc rfl (fun s5 t5 => ?_) (.inr hln)
            refine wpAny_mono ((hsu a oe4 cls d (X.pn ++ pins) hz4 ⟨_, hd4⟩).run [] s5 _ H' _ t5 (hyes rfl a na)) (fun f s6 hsp => ?_) (fun _ _ z => False.elim z)
            have end_ : ∀ {σ6 : L2.St} {H6 : Hp} {Q : Shared → Prop}, Inv (X.suite a ((a, oe4) :: (X.pn ++ pins))) [] σ6 H6 s6 → (∀ s7, Inv X pins (σ6.set k none) H6 s7 → Q s7) →
                wpAny (model X.prog X.w) X.A (do bindName X.env n .none; unbindBehindTheSuite X.env n pos') (fun _ s7 => Q s7) X.xe s6 := fun {σ6 H6 Q} t6 hq => gone_ok (t6.unsuite ok) hN hik hln hq
            cases f with
            | next =>
              obtain ⟨σ6, H6, t6, q6⟩ := hsp
              exact end_ t6 fun s7 j7 => ⟨_, _, j7, q6⟩
            | brk =>
              obtain ⟨σ6, H6, t6, q6⟩ := hsp
              exact end_ t6 fun s7 j7 => ⟨_, _, j7, q6⟩
            | cont =>
              obtain ⟨σ6, H6, t6, q6⟩ := hsp
              exact end_ t6 fun s7 j7 => ⟨_, _, j7, q6⟩
            | ret u =>
              obtain ⟨v6, σ6, H6, t6, r6, q6⟩ := hsp
              exact end_ t6 fun s7 j7 => ⟨_, _, _, j7, r6, q6⟩
        | false =>
          show wpAny _ X.A (handleBy (.ref a) X.env hds2) _ _ _
          exact ih (hno rfl)
    exact go hh w
  · cases f with
    | next =>
      obtain ⟨σ', H', j1, q⟩ := hsp
      exact wpAny_execs_nil ⟨σ', H', j1.ofTry ok, q⟩
    | brk =>
      obtain ⟨σ', H', j1, q⟩ := hsp
      exact ⟨σ', H', j1.ofTry ok, q⟩
    | cont =>
      obtain ⟨σ', H', j1, q⟩ := hsp
      exact ⟨σ', H', j1.ofTry ok, q⟩
    | ret u =>
      obtain ⟨v, σ', H', j1, r, q⟩ := hsp
      exact ⟨v, σ', H', j1.ofTry ok, r, q⟩
end
section
variable {T : Tb} {R R' Pr H : Hp} {μ μ' : Mu} {st : S} {X : Cx} {σ : L2.St} {Wx : WX} {n : Nat} {N : List PySem.Str} {nms : Nms} {fa : Nat → Option Addr} {cl : Cl} {G : Gt} {fu : Nat}
variable {a b e : Expr} {pos p : Pos} {A B D : Sm} {E : Ends}
theorem ps_monoI {s : Stmt} {t u : TS} (h : PS X s t) (i : ∀ pins s σ H, Inv X pins σ H s → ∀ E, u E σ H → t E σ H) : PS X s u := ⟨fun pins s σ H E I q => h.run pins s σ H E I (i pins s σ H I E q)⟩
/-! ### raise -/
theorem xd_sim {d : Addr} {f : PySem.Str} {v : V} (s : Sim T R Pr μ st H) (hd : H d = none) : Sim T R Pr μ st (upd H d (.xd [(f, v)])) := s.ext (upd_ext hd)
theorem snd_raise (O : TOk T fa) (c : Ctx T n N nms Wx X) {x : PySem.Str} {k : Nat} {pc : Pos} (hx : glB nms x = true) (hm : T.mg x = some (.ref (T.ea k))) (hk : (T.xf k).isSome = true) (hst : notStar' a = true) (ha : PE X a (rdV T Wx A.v)) :
    PS X (.Raise (some (.Call (.Name x p) [a] [] pc)) none pos) (rdS T Wx fun env st => (A.v env st).bind fun w st1 => match w with | .c y => .ex k y st1 | .r _ => .stuck) := by
  obtain ⟨f, hf⟩ := Option.isSome_iff_exists.mp hk
  obtain ⟨B, newId, initId, bmB, fI, cda, cc, params, body, scope, qual, v, p0, p1, p2, p3, p4, p5, p6, p7, p8, p9, k', text, XC, XD, hline, hbody, iC, kC, sC, tC⟩ := O.exc k f hf
  obtain ⟨hg, hdb, _⟩ := c.gl hx
  refine ps_mono (ps_raise c.calm c.takes (pmk_sup (n := n + 1) (pos := pc) (p := p) (by rw [c.P, c.K]; exact XD) hline hbody (by rw [c.K]; exact XC) (by rw [c.K]; exact iC) c.room hg (by rw [c.mg]; exact hm) (by rw [c.K]; exact kC) (raises_own (by rw [c.K]; exact sC) (by rw [c.K]; exact tC)) ha hst hdb)) fun E σ H h => ?_
  refine rdS.bindV (k := fun env w st1 => match w with | .c y => .ex k y st1 | .r _ => .stuck) h fun Pr R1 μ1 env w st1 H1 v be r p => ?_
  cases w with
  | r m => exact p.elim
  | c y =>
    intro d hd
    refine p R1 μ1 σ _ (some d) (Le.refl _ _) (xd_sim be.s hd) ?_
    unfold ExR
    rw [hf]
    exact ⟨d, v, rfl, upd_same, r⟩
/-! ### suites -/
theorem hset_rd {i : Nat} {ex : Xa} (he : T.exa = some ex) (hn : ex.j ≠ some i) {f : Env → S → Res W} {σ : L2.St} {H : Hp} (hi : i < σ.length) (h : rdS T Wx (fun env st => (f env st).bind fun w st1 => .ok (.nx (env.set i (some w))) st1) E σ H) : rdV T Wx f σ H (fun x H1 => E.nx (σ.set i (some x)) H1) :=
  rdS.bindV (k := fun env w st1 => .ok (.nx (env.set i (some w))) st1) h fun Pr R1 μ1 env w st1 H1 v be r p => p R1 μ1 _ H1 (Le.refl _ _) ⟨be.e.set r i (.inr ⟨hi, fun e2 h2 => by rw [he] at h2; cases h2; exact hn⟩), be.s⟩
theorem snd_hset {ex : Xa} (c : CtxH T n N nms Wx X ex) {x : PySem.Str} {i : Nat} (hi : N[i]? = some x) (hx : locB nms x = true) (hn : ex.j ≠ some i) {pos' : Pos} (he : PE X e (rdV T Wx A.v)) (hs : swapsWith e (some (.Name x pos')) pos.line X.env = pure false) :
    PS X (.Assign [.Name x pos'] e pos) (rdS T Wx fun env st => (A.v env st).bind fun w st1 => .ok (.nx (env.set i (some w))) st1) := by
  obtain ⟨h1, h2⟩ := c.toCtxB.loc hx
  exact ps_monoI (ps_set (i := i) (by rw [c.hN]; exact c.nd) (by rw [c.hN]; exact hi) h1 he hs h2) fun pins s σ H I E h => hset_rd c.ex hn (by rw [I.len, c.hN]; exact (List.getElem?_eq_some_iff.mp hi).1) h
def trSs (s : Stmt → Option Sx) : List Stmt → Option Sx
  | [] => some .nil
  | a :: as => match s a, trSs s as with | some x, some y => some (.cons x y) | _, _ => none
section
variable (G : Gt) (N : List PySem.Str) (y : PySem.Str) (nms : Nms) (r : TrE)
def trHS1 (s : Stmt → Option Sx) : Stmt → Option Sx
  | .Assign [.Name z _] e _ => if swB e && locB nms z then (match ixOf N z, r nms e with
    | some i, some x => if ixOf N y = some i then none else some (.set i x)
    | _, _ => none) else none
  | .Expr (.Constant (.str _) _ _) _ => some .pass
  | .Expr e _ => if swB e then (r nms e).map .expr else none
  | .Return (some e) _ => (r nms e).map .ret
  | .If c a b _ => match r nms c, trSs s a, trSs s b with | some c, some a, some b => some (.ite c a b) | _, _, _ => none
  | _ => none
end
def trHS (G : Gt) (N : List PySem.Str) (y : PySem.Str) (nms : Nms) (m : Nat) : Nat → Stmt → Option Sx
  | 0 => fun _ => none
  | k + 1 => trHS1 N y nms (trH G N y m) (trHS G N y nms m k)
def GoodHS (T : Tb) (n : Nat) (N : List PySem.Str) (cl : Cl) (y : PySem.Str) (nms : Nms) (fu : Nat) (s : Stmt → Option Sx) : Prop := ∀ st x, s st = some x → ∀ Wx X ex, CtxH T n N nms Wx X ex → ex.j = ixOf N y → PS X st (rdS T Wx (stm T.g cl fu x))
variable {y : PySem.Str} {ex : Xa}
theorem snd_trHSs {s : Stmt → Option Sx} (hs : GoodHS T n N cl y nms fu s) (c : CtxH T n N nms Wx X ex) (hj : ex.j = ixOf N y) : ∀ {ss : List Stmt} {x : Sx}, trSs s ss = some x → PSs X ss (rdS T Wx (stm T.g cl fu x))
  | [], x, h => by cases h; exact snd_snil
  | a :: as, x, h => by
    unfold trSs at h
    split at h
    · rename_i h1 h2
      cases h
      exact snd_scons (hs _ _ h1 _ _ _ c hj) (snd_trHSs hs c hj h2)
    · cases h
theorem good_trHS1 {r : TrE} (g : GoodH T n N cl y r) {s : Stmt → Option Sx} (hs : GoodHS T n N cl y nms fu s) : GoodHS T n N cl y nms fu (trHS1 N y nms r s) := by
  intro st x h Wx X ex c hj
  unfold trHS1 at h
  split at h
  · split at h
    · rename_i hb
      obtain ⟨hb1, hb2⟩ := Bool.and_eq_true_iff.mp hb
      split at h
      · rename_i hi h1
        split at h
        · cases h
        · rename_i hne
          cases h
          exact snd_hset c (ixOf_ok hi) hb2 (by rw [hj]; exact hne) (g _ _ _ h1 _ _ _ c hj).1 (sw_of hb1 _ _ _)
      · cases h
    · cases h
  · cases h; exact snd_doc
  · split at h
    · rename_i hb
      obtain ⟨z, h1, rfl⟩ := map_some h
      exact snd_expr hb (g _ _ _ h1 _ _ _ c hj).1
    · cases h
  · obtain ⟨z, h1, rfl⟩ := map_some h
    exact snd_ret (g _ _ _ h1 _ _ _ c hj).1
  · split at h
    · rename_i h1 h2 h3
      cases h
      exact snd_if (g _ _ _ h1 _ _ _ c hj).2 (snd_trHSs hs c hj h2) (snd_trHSs hs c hj h3)
    · cases h
  · cases h
theorem good_trHS (hF : ∀ f ad, T.hfa f = some ad → FnH T n ad cl f) (O : TOk T fa) (K : GtOk T fa G) (m : Nat) : ∀ k, GoodHS T n N cl y nms fu (trHS G N y nms m k)
  | 0 => fun _ _ h => by cases h
  | k + 1 => good_trHS1 (good_trH hF O K m) (good_trHS hF O K m k)
end
/-! ### the same facts, whatever is handled -/
section
variable {T : Tb} {n : Nat} {fa : Nat → Option Addr} {cl : Cl} {G : Gt} {e : Option Xa}
theorem TOk.att (O : TOk T fa) : TOk (T.att e) fa where
  lam := O.lam
  exc := O.exc
  xsub := O.xsub
  inj := O.inj
  fn := O.fn
  cls := O.cls
  meth := O.meth
  prop := O.prop
  fld := O.fld
  init := O.init
  eqm := O.eqm
  getm := O.getm
  lenm := O.lenm
  inm := O.inm
  andm := O.andm
theorem GtOk.att (K : GtOk T fa G) : GtOk (T.att e) fa G where
  xc := K.xc
  thk := K.thk
  lamN := K.lamN
  hfn := K.hfn
  fn := K.fn
  cls := K.cls
  con := fun x i h => let ⟨v, u, c, h1, h2, h3, h4⟩ := K.con x i h; ⟨v, u, c, h1, h2, h3, fun R => (h4 R).al alike_att⟩
  nm := K.nm
  free := K.free
  kwf := K.kwf
  kwc := K.kwc
  sm := K.sm
theorem post_unatt {Pr R : Hp} {μ : Mu} {Wx : WX} {σ : L2.St} {Q : VK} {r : Res W} (h : Post (T.att e) Pr Wx σ (RV (T.att e) Q) R μ r) : Post T Pr Wx σ (RV T Q) R μ r := by
  cases r with
  | ok w st => exact fun R' μ' H' l s v rv => h R' μ' H' l (s.al alike_att) v (rv.al alike_att)
  | ex c x st =>
    intro R' μ' H' d l s xr
    refine h R' μ' H' d l (s.al alike_att) ?_
    unfold ExR at xr ⊢
    have ef : (T.att e).xf c = T.xf c := rfl
    rw [ef]
    split
    · rename_i f q
      rw [q] at xr
      obtain ⟨dd, v, h1, h2, h3⟩ := xr
      exact ⟨dd, v, h1, h2, h3.al alike_att⟩
    · rename_i q
      rw [q] at xr
      exact xr
  | stuck => exact h
theorem FnH.att {a : Addr} {f : Nat} (h : FnH T n a cl f) : FnH (T.att e) n a cl f := by
  intro A outer s H oe ex Pr R μ x st Q E hr hgu e0 po hz hv xc xn sm hf hp
  exact h A outer s H oe ex Pr R μ x st Q E hr hgu e0 po hz hv xc xn (sm.al alike_unatt) (fun f q => let ⟨dd, v, h1, h2, h3⟩ := hf f q; ⟨dd, v, h1, h2, h3.al alike_unatt⟩) (post_unatt hp)
end
/-! ### try -/
section
variable (N : List PySem.Str) (G : Gt) (nms : Nms)
def nmB : Option PySem.Str → Bool
  | none => (ixOf N ⟨#[]⟩).isNone
  | some n => (nms.lookup n == some .local) && (ixOf N n).isSome
def nmY : Option PySem.Str → PySem.Str
  | none => ⟨#[]⟩
  | some n => n
def trHd (hot : PySem.Str → List Stmt → Option Sx) : List ExceptHandler → Option Sx
  | [] => some .hnil
  | .ExceptHandler (some (.Name x _)) nm (b₀ :: suite) _ :: r => if glB nms x && nmB N nms nm then (match G.xc x, hot (nmY nm) (b₀ :: suite), trHd hot r with
    | some c, some a, some b => some (.hcons [c] a b)
    | _, _, _ => none) else none
  | _ => none
end
section
variable {T : Tb} {R R' Pr H : Hp} {μ μ' : Mu} {st : S} {X : Cx} {σ : L2.St} {Wx : WX} {n : Nat} {N : List PySem.Str} {nms : Nms} {fa : Nat → Option Addr} {cl : Cl} {G : Gt} {fu : Nat} {E : Ends}
theorem xcur_xenv (k c : Nat) (x : C) : xcur (xenv k c x) = some (c, x) := by
  unfold xcur xenv
  rw [List.getLast?_concat]
  simp [xtup]
theorem env_len {T : Tb} {e : Xa} {env : Env} (he : T.exa = some e) (r : EnvR T R μ env σ) : env.length = σ.length + 1 := by
  have h := r.1
  unfold XcR at h
  rw [he] at h
  exact h.choose_spec.1
theorem env_none (hc : T.exa = none) {k : Nat} (hl : k = σ.length) : EnvR T R μ (List.replicate k none) σ := by
  refine ⟨?_, fun i w hi e => ?_⟩
  · unfold XcR
    rw [hc]
    simpa using hl
  · rw [List.getElem?_replicate] at e
    split at e <;> cases e
/-- the end of a suite -/
theorem hend_post (hc : T.exa = none) {ex : Xa} {i : Option Nat} {r : Res Fl} (l : Le R μ R' μ') (h : PostS T Pr Wx E R μ (hend r)) : PostS (T.att (some ex)) Pr WF (DX i E) R' μ' r := by
  have el : ∀ {R2 : Hp} {μ2 : Mu} {env1 : Env} {σ2 : L2.St}, EnvR (T.att (some ex)) R2 μ2 env1 σ2 → EnvR T R2 μ2 (List.replicate (env1.length - 1) none) σ2 := fun {R2 μ2 env1 σ2} e => env_none hc (by rw [env_len rfl e]; omega)
  have el2 : ∀ {R2 : Hp} {μ2 : Mu} {env1 : Env} {σ2 : L2.St} {k : Nat}, EnvR (T.att (some ex)) R2 μ2 env1 σ2 → EnvR T R2 μ2 (List.replicate (env1.length - 1) none) (σ2.set k none) := fun {R2 μ2 env1 σ2 k} e => env_none hc (by rw [env_len rfl e, List.length_set]; omega)
  cases r with
  | ok f st =>
    cases f with
    | nx env1 =>
      intro R2 μ2 σ2 H2 l2 b
      cases i with
      | none => exact h R2 μ2 σ2 H2 (l.trans l2) ⟨el b.e, b.s.al alike_unatt⟩
      | some k => exact h R2 μ2 (σ2.set k none) H2 (l.trans l2) ⟨el2 b.e, b.s.al alike_unatt⟩
    | bk env1 =>
      intro R2 μ2 σ2 H2 l2 b
      cases i with
      | none => exact h R2 μ2 σ2 H2 (l.trans l2) ⟨el b.e, b.s.al alike_unatt⟩
      | some k => exact h R2 μ2 (σ2.set k none) H2 (l.trans l2) ⟨el2 b.e, b.s.al alike_unatt⟩
    | ct env1 =>
      intro R2 μ2 σ2 H2 l2 b
      cases i with
      | none => exact h R2 μ2 σ2 H2 (l.trans l2) ⟨el b.e, b.s.al alike_unatt⟩
      | some k => exact h R2 μ2 (σ2.set k none) H2 (l.trans l2) ⟨el2 b.e, b.s.al alike_unatt⟩
    | rt w =>
      intro R2 μ2 H2 v l2 s rv
      have z := h R2 μ2 H2 v (l.trans l2) (s.al alike_unatt) (rv.al alike_unatt)
      cases i <;> exact z
  | ex c x st => exact h.elim
  | stuck => exact h.elim
/-- what a suite wants -/
def tsOf (T : Tb) (cl : Cl) (fu : Nat) (j : Option Nat) (z : Sx) : Addr → Value → Option Addr → TS := fun a cls d D σ H => ∃ c, cls = .ref (T.ea c) ∧ XCl T.K (T.ea c) ∧ (T.xf c = none → d = none) ∧ rdS (T.att (some ⟨a, c, d, j⟩)) WF (stm T.g cl fu z) D σ H
def HotOk (T : Tb) (n : Nat) (N : List PySem.Str) (nms : Nms) (cl : Cl) (fu : Nat) (hot : PySem.Str → List Stmt → Option Sx) : Prop :=
  ∀ y suite x, hot y suite = some x → ∀ (ex : Xa) Wx X, CtxH (T.att (some ex)) n N nms Wx X ex → ex.j = ixOf N y → PSs X suite (rdS (T.att (some ex)) Wx (stm T.g cl fu x))
/-- an exception of the body, among the clauses -/
theorem wcl_of (O : TOk T fa) (K : GtOk T fa G) (c : Ctx T n N nms Wx X) {hot : PySem.Str → List Stmt → Option Sx} (hh : HotOk T n N nms cl fu hot) : ∀ {hds : List ExceptHandler} {z : Sx}, trHd N G nms hot hds = some z → ∃ l, HdsX X hds l ∧
    ∀ (Pr : Hp) (E : Ends) (k : Nat) (x : C) (st1 : S) (R1 : Hp) (μ1 : Mu) (σ1 : L2.St) (H1 : Hp) (d : Option Addr), PostS T Pr Wx E R1 μ1 (stm T.g cl fu z (xenv N.length k x) st1) → Sim T R1 Pr μ1 st1 H1 → ExR T R1 H1 k x d → wCl X.K X.N.length Wx E l (.ref (T.ea k)) d σ1 H1
  | [], z, h => by
    cases h
    refine ⟨[], .nil, fun Pr E k x st1 R1 μ1 σ1 H1 d hp sm xr => ?_⟩
    have hp : PostS T Pr Wx E R1 μ1 (match xcur (xenv N.length k x) with | some (c, x) => Res.ex c x st1 | none => .stuck) := hp
    rw [xcur_xenv] at hp
    exact hp R1 μ1 σ1 H1 d (Le.refl _ _) sm xr
  | h₁ :: hds, z, h => by
    unfold trHd at h
    split at h
    · rename_i e0; cases e0
    · rename_i xn np nm b₀ suite hp' r e0
      cases e0
      split at h
      · rename_i hb
        obtain ⟨hg, hnm⟩ := Bool.and_eq_true_iff.mp hb
        split at h
        · rename_i k1 a1 r1 hk ha hr
          cases h
          obtain ⟨l, hl, ih⟩ := wcl_of O K c hh hr
          obtain ⟨g1, gd, gn⟩ := c.gl hg
          have hnames : Names X xn (.ref (T.ea k1)) := ⟨g1, gd, .inl (by rw [c.mg]; exact K.xc _ _ hk)⟩
          have hno : NmOk X nm (ixOf N (nmY nm)) := by
            cases nm with
            | none => exact Option.isNone_iff_eq_none.mp hnm
            | some n0 =>
              obtain ⟨h1, h2⟩ := Bool.and_eq_true_iff.mp (show ((nms.lookup n0 == some .local) && (ixOf N n0).isSome) = true from hnm)
              obtain ⟨k0, hk0⟩ := Option.isSome_iff_exists.mp h2
              have hl0 := beq_iff_eq.mp h1
              obtain ⟨kd', e1, e2⟩ := c.sc _ _ hl0
              refine ⟨k0, hk0, by rw [c.hN]; exact ixOf_ok hk0, ?_⟩
              rcases e2 with rfl | ⟨q, _⟩
              · exact e1
              · cases q
          refine ⟨(.ref (T.ea k1), ixOf N (nmY nm), tsOf T cl fu (ixOf N (nmY nm)) a1) :: l, .cons hnames hno (fun a oe cls d pn hz hv => ⟨fun pins s σ H E I q => ?_⟩) hl, fun Pr E k x st1 R1 μ1 σ1 H1 d hp sm xr => ?_⟩
          · obtain ⟨cc, rfl, xcl, xnn, q⟩ := q
            have cH : CtxH (T.att (some ⟨a, cc, d, ixOf N (nmY nm)⟩)) n N nms WF (X.suite a ((a, oe) :: pn)) ⟨a, cc, d, ixOf N (nmY nm)⟩ := by
              have hrm := c.room
              exact ⟨⟨c.P, c.w, c.K, c.mg, c.base, c.hN, c.nd, c.sc, takes_none5, c.fn, c.gu, c.un⟩, rfl, (L2H.roomH_of (hrm.mono (by omega))).mono (Nat.le_refl _) |> fun r => ⟨r.dp, r.un⟩, xnn, xcl, oe, List.mem_cons_self, hz, hv⟩
            exact (hh _ _ _ ha _ _ _ cH rfl).run pins s σ H E I q
          · intro hlen
            have hp : PostS T Pr Wx E R1 μ1 (match xcur (xenv N.length k x) with
              | some (c, _) => (match xmatch T.g c [k1] with
                | some true => hend (stm T.g cl fu a1 (xenv N.length k x) st1)
                | some false => stm T.g cl fu r1 (xenv N.length k x) st1
                | none => .stuck)
              | none => .stuck) := hp
            rw [xcur_xenv] at hp
            dsimp only at hp
            unfold xmatch at hp
            cases hs : T.g.xsub k k1 with
            | none => rw [hs] at hp; exact hp.elim
            | some bb =>
              rw [hs] at hp
              obtain ⟨q1, q2, q3⟩ := O.xsub _ _ _ hs
              refine ⟨bb, by rw [c.K]; exact q3, fun hbt a na => ?_, fun hbf => ?_⟩
              · subst hbt
                have hp : PostS T Pr Wx E R1 μ1 (hend (stm T.g cl fu a1 (xenv N.length k x) st1)) := hp
                have xnn : T.xf k = none → d = none := fun q => by unfold ExR at xr; rw [q] at xr; exact xr
                -- the dict is closed
                obtain ⟨R2, l2, s2, hf2⟩ : ∃ R2, Le R1 μ1 R2 μ1 ∧ Sim T R2 Pr μ1 st1 H1 ∧ ∀ f, T.xf k = some f → ∃ dd v, d = some dd ∧ R2 dd = some (.xd [(f, v)]) ∧ RelC T R2 x v := by
                  cases qf : T.xf k with
                  | none => exact ⟨R1, Le.refl _ _, sm, fun f q => by cases q⟩
                  | some f =>
                    unfold ExR at xr
                    rw [qf] at xr
                    obtain ⟨dd, v, rfl, hd1, rv⟩ := xr
                    obtain ⟨s3, l3⟩ := sm.close (o := .xd [(f, v)]) hd1 (fun n0 x0 hc0 e0 => by
                      obtain ⟨a0, h1, h2, h3, h4⟩ := sm.c n0 x0 hc0
                      rw [e0] at h1
                      cases h1
                      cases x0 with
                      | lst ws => obtain ⟨vs, q, _⟩ := h4; rw [hd1] at q; cases q
                      | ins c fs ws => obtain ⟨_, vs, q, _⟩ := h4; rw [hd1] at q; cases q
                      | dct ks ws => obtain ⟨_, vs, q, _⟩ := h4; rw [hd1] at q; cases q) (fun u hu => by
                      have := sm.r _ _ hu
                      rw [hd1] at this
                      exact (Option.some.inj this).symm) (by
                      cases q : Pr dd with
                      | none => rfl
                      | some o =>
                        have h1 := sm.p _ _ q
                        rw [hd1] at h1
                        cases h1
                        rcases (sm.d _ _ q).2 with ⟨_, z⟩ | ⟨_, z⟩ <;> cases z)
                    exact ⟨_, l3, s3, fun f' q => by cases q; exact ⟨dd, v, rfl, upd_same, RelC.le l3.r rv⟩⟩
                refine ⟨k, rfl, q1, xnn, Pr, R2, μ1, xenv N.length k x, st1, ⟨⟨?_, fun i0 w0 hi0 e0 => ?_⟩, s2.al alike_att⟩, hend_post c.cold l2 hp⟩
                · show ∃ x', _ ∧ _ ∧ _ ∧ _
                  have hsl : (sX (ixOf N (nmY nm)) σ1 a).length = N.length := by
                    cases ixOf N (nmY nm) with
                    | none => exact hlen.trans (by rw [c.hN])
                    | some k0 => show (σ1.set k0 _).length = _; rw [List.length_set, hlen, c.hN]
                  refine ⟨x, by rw [hsl]; simp [xenv], by rw [hsl]; unfold xenv; rw [List.getElem?_append_right (by simp)]; simp, fun j0 hj0 => ?_, fun f q => ?_⟩
                  · have hj0 : ixOf N (nmY nm) = some j0 := hj0
                    rw [hj0]
                    show (σ1.set j0 (some (.ref a)))[j0]? = _
                    rw [List.getElem?_set_self (by rw [hlen, c.hN]; exact (List.getElem?_eq_some_iff.mp (ixOf_ok hj0)).1)]
                  · obtain ⟨dd, v, h1, h2, h3⟩ := hf2 f q
                    exact ⟨dd, v, h1, h2, h3.al alike_att⟩
                · have hsl : (sX (ixOf N (nmY nm)) σ1 a).length = N.length := by
                    cases ixOf N (nmY nm) with
                    | none => exact hlen.trans (by rw [c.hN])
                    | some k0 => show (σ1.set k0 _).length = _; rw [List.length_set, hlen, c.hN]
                  rw [hsl] at hi0
                  unfold xenv at e0
                  rw [List.getElem?_append_left (by simpa using hi0), List.getElem?_replicate, if_pos hi0] at e0
                  cases e0
              · subst hbf
                exact ih Pr E k x st1 R1 μ1 σ1 H1 d hp sm xr
        · cases h
      · cases h
    · cases h
end
end Ev

/-! Trs: the translation of statements. -/
namespace Ev
open PySem PySem.Spec PyProof.Rows L2
section
variable {T : Tb} {n : Nat} {N : List PySem.Str} {fa : Nat → Option Addr} {cl : Cl} {G : Gt}
variable {r : TrE} {nms : Nms} {Wx : WX} {X : Cx}
theorem kind_loc (c : Ctx T n N nms Wx X) {x : PySem.Str} (h : nms.lookup x = some .local) : X.env.kindOf x = some .local := by
  obtain ⟨kd, e1, e2⟩ := c.sc _ _ h
  rcases e2 with rfl | ⟨z, _⟩
  · exact e1
  · cases z
theorem kind_cell (c : Ctx T n N nms Wx X) {x : PySem.Str} (h : nms.lookup x = some .cell) : X.env.kindOf x = some .cell := by
  obtain ⟨kd, e1, e2⟩ := c.sc _ _ h
  rcases e2 with rfl | ⟨z, _⟩
  · exact e1
  · cases z
theorem blk_fn (hk : X.env.scope.kind = .function) : X.env.blockKind = .function := by
  unfold Env.blockKind; rw [hk]; rfl
/-- how a row of names is stored, by the local names -/
def isStar : Expr → Bool
  | .Starred .. => true | _ => false
def swN (loc : PySem.Str → Bool) (line : Nat) : Expr → Option PySem.Str
  | .Name id pos => if loc id && pos.line == line then some id else none
  | _ => none
def swP (loc : PySem.Str → Bool) (ts vs : List Expr) : Option (Option (List PySem.Str)) :=
  if !(ts.length == 2 || ts.length == 3) || vs.length != ts.length then some none
  else if vs.any isStar then some none
  else if (ts.filterMap (swN loc ((ts.head?.map (·.pos.line)).getD 0))).length != ts.length || (ts.filterMap (swN loc ((ts.head?.map (·.pos.line)).getD 0))).eraseDups.length != (ts.filterMap (swN loc ((ts.head?.map (·.pos.line)).getD 0))).length then some none
  else if vs.all (foldedForSure 8) then some none
  else if vs.all (constantsAlone 8) then none
  else some (some (ts.filterMap (swN loc ((ts.head?.map (·.pos.line)).getD 0))))
theorem swP_ok {env : PySem.Env} (hk : env.blockKind = .function) {ts vs : List Expr} {k k2 : Nat} {pt pt2 : Pos} {o : Option (List PySem.Str)} (h : swP (fun x => env.kindOf x == some .local) ts vs = some o) :
    swappedStores [.Tuple ts k pt] (.Tuple vs k2 pt2) env = pure o := by
  unfold swP at h
  unfold swappedStores
  simp only [hk]
  have e3 : (ScopeKind.function != ScopeKind.function) = false := rfl
  simp only [e3, Bool.or_false] at h ⊢
  split at h
  · rename_i q; cases h; exact if_pos q
  · rename_i q
    refine (if_neg q).trans ?_
    split at h
    · rename_i q; cases h; exact if_pos q
    · rename_i q
      refine (if_neg q).trans ?_
      split at h
      · rename_i q; cases h; exact if_pos q
      · rename_i q
        refine (if_neg q).trans ?_
        split at h
        · rename_i q; cases h; exact if_pos q
        · rename_i q
          refine (if_neg q).trans ?_
          split at h
          · cases h
          · rename_i q; cases h; exact if_neg q
end
/-! ### the translation of statements -/
def isTupD : Expr → Bool
  | .Tuple _ _ _ => true | _ => false
section
variable (G : Gt) (g : Gd) (N : List PySem.Str) (nms : Nms) (r : TrE)
def trSet (y : PySem.Str) (py : Pos) (e : Expr) : Option Sx :=
  match ixOf N y, r nms e with
  | some i, some x => if locB nms y then (match e with
      | .ListComp _ _ sc p => if (py.line == p.line) == false || nms.lookup y == some .cell then some (.set i x) else none
      | e => if swB e then some (.set i x) else none) else none
  | _, _ => none
/-- by a comprehension on the name's line -/
def trSetLc (r0 : TrE) (y : PySem.Str) (py : Pos) (elt tg iter : Expr) (ifs : List Expr) (sc : Scope) (p : Pos) : Option Sx :=
  if nms.lookup y == some .local && (py.line == p.line) && !(sc.names.any fun (n, k) => n == y && (k == .local || k == .cell)) then
    match ixOf N y, trF G N r0 nms (.ListComp elt [⟨tg, iter, ifs, 0⟩] sc p) with
    | some i, some x => some (.set i (if G.mu p then .mut x else x))
    | _, _ => none
  else none
def allLoc (ts : List Expr) : Bool := ts.all fun | .Name x _ => locB nms x | _ => true
def trPar (ns : List PySem.Str) (ts vs : List Expr) : Option Sx := match ts, vs with
  | [.Name x _, .Name y _], [a, b] => match ixOf N x, ixOf N y, trA r nms [a, b] with
    | some i, some j, some es => if ns = [x, y] ∧ i ≠ j ∧ nms.lookup x = some .local ∧ nms.lookup y = some .local then some (.par [i, j] es) else none
    | _, _, _ => none
  | [.Name x _, .Name y _, .Name z _], [a, b, c] => match ixOf N x, ixOf N y, ixOf N z, trA r nms [a, b, c] with
    | some i, some j, some l, some es => if ns = [x, y, z] ∧ i ≠ j ∧ i ≠ l ∧ j ≠ l ∧ nms.lookup x = some .local ∧ nms.lookup y = some .local ∧ nms.lookup z = some .local then some (.par [i, j, l] es) else none
    | _, _, _, _ => none
  | _, _ => none
def trTup (ts : List Expr) (k : Nat) (pt : Pos) (e : Expr) : Option Sx := match trT N nms 3 (.Tuple ts k pt), r nms e with
  | some t, some x => some (.tset t x)
  | _, _ => none
def trAs (ts : List Expr) (k : Nat) (pt : Pos) (e : Expr) : Option Sx := match e with
  | .Tuple vs _ _ => if allLoc nms ts then (match swP (fun x => nms.lookup x == some .local) ts vs with
    | some none => trTup N nms r ts k pt e
    | some (some ns) => trPar N nms r ns ts vs
    | none => none) else none
  | e => trTup N nms r ts k pt e
def trSt (r0 : TrE) (s : Stmt → Option Sx) (hot : PySem.Str → List Stmt → Option Sx) : Stmt → Option Sx
  | .Raise (some (.Call (.Name x _) [a] [] _)) none _ => if glB nms x && notStar' a then (match G.xc x, r nms a with
    | some k, some e => if (g.xfld k).isSome then some (.raise k e) else none
    | _, _ => none) else none
  | .Try body (h₀ :: hds) [] [] _ => match trSs s body, trHd N G nms hot (h₀ :: hds) with
    | some b, some z => some (.tri b z)
    | _, _ => none
  | .Assign [.Name y py] (.ListComp elt [⟨tg, iter, ifs, 0⟩] sc p) _ => match trSetLc G N nms r0 y py elt tg iter ifs sc p with
    | some x => some x
    | none => trSet N nms r y py (.ListComp elt [⟨tg, iter, ifs, 0⟩] sc p)
  | .Assign [.Name y py] e _ => trSet N nms r y py e
  | .Assign [.Tuple ts k pt] e _ => trAs N nms r ts k pt e
  | .Assign [.Subscript o i _] e _ => if ixOk i then match r nms o, r nms i, r nms e with | some o, some i, some e => some (.setix o i e) | _, _, _ => none else none
  | .Assign [.Attribute o f _] e _ => match r nms o, G.nm f, r nms e with | some o, some f, some e => some (.setfld o f e) | _, _, _ => none
  | .Expr (.Constant (.str _) _ _) _ => some .pass
  | .Expr e _ => if swB e then (r nms e).map .expr else none
  | .Return (some e) _ => (r nms e).map .ret
  | .Return none _ => some .retN
  | .If c a b _ => match r nms c, trSs s a, trSs s b with | some c, some a, some b => some (.ite c a b) | _, _, _ => none
  | .For tg it body [] _ => if notSet it then match trI G r nms tg it, trT N nms 3 tg, trSs s body with | some i, some t, some b => some (.for t i b) | _, _, _ => none else none
  | .While c body [] _ => match r nms c, trSs s body with | some c, some b => some (.while c b) | _, _ => none
  | .Pass _ => some .pass
  | .Break _ => some .brk
  | .Continue _ => some .cont
  | _ => some .never
end
def trs (G : Gt) (g : Gd) (N : List PySem.Str) (nms : Nms) (m : Nat) : Nat → Stmt → Option Sx
  | 0 => fun _ => none
  | k + 1 => fun s => match trSt G g N nms (tr G g N (m + 1)) (tr G g N m) (trs G g N nms m k) (fun y ss => trSs (trHS G N y nms m k) ss) s with
    | some x => some x
    | none => some .never
section
variable {T : Tb} {n : Nat} {N : List PySem.Str} {fa : Nat → Option Addr} {cl : Cl} {G : Gt}
variable {r : TrE} {nms : Nms} {Wx : WX} {X : Cx} {fu : Nat}
/-- where statements run -/
structure CtxS (T : Tb) (n : Nat) (N : List PySem.Str) (nms : Nms) (Wx : WX) (X : Cx) : Prop where
  c : Ctx T n N nms Wx X
  p : PassesOwn (model X.prog X.w) X.A X.env X.xe
  k : X.env.scope.kind = .function
  st : X.stack = X.env :: X.outer
  fr : X.env.frame = some X.env.locals
theorem snd_tri (O : TOk T fa) (K : GtOk T fa G) (c : CtxS T n N nms Wx X) {hot : PySem.Str → List Stmt → Option Sx} (hh : HotOk T n N nms cl fu hot) {body : List Stmt} {h₀ : ExceptHandler} {hds : List ExceptHandler} {b z : Sx} {pos : Pos}
    (hb : ∀ W X', CtxS T n N nms W X' → PSs X' body (rdS T W (stm T.g cl fu b))) (hz : trHd N G nms hot (h₀ :: hds) = some z) : PS X (.Try body (h₀ :: hds) [] [] pos) (rdS T Wx (stm T.g cl fu (.tri b z))) := by
  obtain ⟨l, hl, go⟩ := wcl_of O K c.c hh hz
  refine ps_monoI (ps_try_x c.st c.fr (by rw [c.c.hN]; exact c.c.nd) c.c.takes (tb := fun W => rdS T W (stm T.g cl fu b)) (fun W pn xe tk pa => hb W _ ⟨⟨⟨c.c.P, c.c.w, c.c.K, c.c.mg, c.c.base, c.c.hN, c.c.nd, c.c.sc, tk, c.c.fn, c.c.gu, c.c.un⟩, c.c.calm, c.c.room, c.c.cold, c.c.lam⟩, pa, c.k, c.st, c.fr⟩) hl) fun pins s σ H I E h => ?_
  obtain ⟨Pr, R, μ, env, st, be, h⟩ := h
  have hle : env.length = N.length := by rw [be.e.len c.c.cold, I.len, c.c.hN]
  refine ⟨Pr, R, μ, env, st, be, ?_⟩
  have h : PostS T Pr Wx E R μ (match stm T.g cl fu b env st with
    | .ex c x st1 => stm T.g cl fu z (xenv env.length c x) st1
    | r => r) := h
  rw [hle] at h
  generalize stm T.g cl fu b env st = r at h ⊢
  cases r with
  | ok f st1 =>
    cases f with
    | nx env1 => exact h
    | bk env1 => exact h
    | ct env1 => exact h
    | rt w => exact h
  | ex k x st1 => exact fun R1 μ1 σ1 H1 d l1 s1 xr => go Pr E k x st1 R1 μ1 σ1 H1 d (PostS.le l1 h) s1 xr
  | stuck => exact h.elim
def GoodS (T : Tb) (n : Nat) (N : List PySem.Str) (cl : Cl) (nms : Nms) (fu : Nat) (s : Stmt → Option Sx) : Prop := ∀ st x, s st = some x → ∀ Wx X, CtxS T n N nms Wx X → PS X st (rdS T Wx (stm T.g cl fu x))
theorem snd_trSs {s : Stmt → Option Sx} (hs : GoodS T n N cl nms fu s) (c : CtxS T n N nms Wx X) : ∀ {ss : List Stmt} {x : Sx}, trSs s ss = some x → PSs X ss (rdS T Wx (stm T.g cl fu x))
  | [], x, h => by cases h; exact snd_snil
  | a :: as, x, h => by
    unfold trSs at h
    split at h
    · rename_i h1 h2
      cases h
      exact snd_scons (hs _ _ h1 _ _ c) (snd_trSs hs c h2)
    · cases h
theorem snd_trSet (g : GoodE T n N cl r) (c : CtxS T n N nms Wx X) {y : PySem.Str} {py pos : Pos} {e : Expr} {x : Sx} (h : trSet N nms r y py e = some x) : PS X (.Assign [.Name y py] e pos) (rdS T Wx (stm T.g cl fu x)) := by
  unfold trSet at h
  split at h
  · rename_i i z hi hz
    split at h
    · rename_i hl
      split at h
      · rename_i elt gs sc p
        split at h
        · rename_i q
          cases h
          refine snd_set c.c (ixOf_ok hi) hl (g _ _ _ hz _ _ c.c).1 ?_
          rw [Bool.or_eq_true] at q
          unfold swapsWith
          rcases q with q | q
          · have q : (py.line == p.line) = false := by simpa using q
            simp only [Expr.pos, q]
            simp
          · have q := kind_cell c.c (beq_iff_eq.mp q)
            simp only [q]
            have e : (some NameKind.cell == some NameKind.local) = false := rfl
            simp [e]
        · cases h
      · split at h
        · rename_i hs
          cases h
          exact snd_set c.c (ixOf_ok hi) hl (g _ _ _ hz _ _ c.c).1 (sw_of hs _ _ _)
        · cases h
    · cases h
  · cases h
theorem snd_trSetLc (K : GtOk T fa G) {r0 : TrE} (g : GoodE T n N cl r0) (c : CtxS T n N nms Wx X) {y : PySem.Str} {py pos p : Pos} {elt tg iter : Expr} {ifs : List Expr} {sc : Scope} {x : Sx} (h : trSetLc G N nms r0 y py elt tg iter ifs sc p = some x) :
    PS X (.Assign [.Name y py] (.ListComp elt [⟨tg, iter, ifs, 0⟩] sc p) pos) (rdS T Wx (stm T.g cl fu x)) := by
  unfold trSetLc at h
  split at h
  · rename_i q
    simp only [Bool.and_eq_true, beq_iff_eq, Bool.not_eq_true'] at q
    split at h
    · rename_i i z hi hz
      cases h
      obtain ⟨i', t, k, e, rfl, L⟩ := trF_lc K g c.c hz
      split
      · exact snd_setLc c.c L.b L.sl L.i L.g L.t L.e (fold_of L.ns) (ixOf_ok hi) q.1.1 (by simpa using q.1.2) q.2 c.k fun σ H Q h => mut_rd h
      · exact snd_setLc c.c L.b L.sl L.i L.g L.t L.e (fold_of L.ns) (ixOf_ok hi) q.1.1 (by simpa using q.1.2) q.2 c.k fun σ H Q h => close_rd h
    · cases h
  · cases h
theorem snd_trTup (g : GoodE T n N cl r) (c : CtxS T n N nms Wx X) {ts : List Expr} {k : Nat} {pt pos : Pos} {e : Expr} {x : Sx} (h : trTup N nms r ts k pt e = some x) (hw : swappedStores [.Tuple ts k pt] e X.env = pure none) : PS X (.Assign [.Tuple ts k pt] e pos) (rdS T Wx (stm T.g cl fu x)) := by
  unfold trTup at h
  split at h
  · rename_i t z ht hz
    cases h
    have ht' := snd_trT c.c ht
    exact snd_tset ht' (g _ _ _ hz _ _ c.c).1 hw
  · cases h
theorem swN_congr (c : Ctx T n N nms Wx X) {line : Nat} : ∀ {ts : List Expr}, allLoc nms ts = true → ts.filterMap (swN (fun x => nms.lookup x == some .local) line) = ts.filterMap (swN (fun x => X.env.kindOf x == some .local) line)
  | [], _ => rfl
  | e :: es, h => by
    unfold allLoc at h
    rw [List.all_cons, Bool.and_eq_true] at h
    have ih := swN_congr c (line := line) (ts := es) h.2
    have : swN (fun x => nms.lookup x == some .local) line e = swN (fun x => X.env.kindOf x == some .local) line e := by
      cases e with
      | Name x p =>
        have h1 : locB nms x = true := h.1
        unfold locB at h1
        have : (nms.lookup x == some .local) = (X.env.kindOf x == some .local) := by
          cases q : nms.lookup x with
          | none => rw [q] at h1; cases h1
          | some kd =>
            rw [q] at h1
            cases kd <;> first | cases h1 | skip
            · rw [kind_loc c q]
            · rw [kind_cell c q]
        unfold swN
        simp only [this]
      | _ => rfl
    rw [List.filterMap_cons, List.filterMap_cons, this, ih]
theorem swP_congr (c : Ctx T n N nms Wx X) {ts vs : List Expr} (h : allLoc nms ts = true) : swP (fun x => nms.lookup x == some .local) ts vs = swP (fun x => X.env.kindOf x == some .local) ts vs := by
  unfold swP
  rw [swN_congr c h]
theorem snd_trAs (g : GoodE T n N cl r) (c : CtxS T n N nms Wx X) {ts : List Expr} {k : Nat} {pt pos : Pos} {e : Expr} {x : Sx} (h : trAs N nms r ts k pt e = some x) : PS X (.Assign [.Tuple ts k pt] e pos) (rdS T Wx (stm T.g cl fu x)) := by
  unfold trAs at h
  split at h
  · rename_i vs k2 p2
    split at h
    · rename_i hl
      have hb := blk_fn c.k
      split at h
      · rename_i hw
        rw [swP_congr c.c hl] at hw
        exact snd_trTup g c h (swP_ok hb hw)
      · rename_i ns hw
        rw [swP_congr c.c hl] at hw
        have hw := swP_ok (k := k) (k2 := k2) (pt := pt) (pt2 := p2) hb hw
        unfold trPar at h
        split at h
        · split at h
          · rename_i hi hj hes
            split at h
            · rename_i q
              obtain ⟨rfl, q1, q2, q3⟩ := q
              cases h
              exact snd_par c.c (ixOf_ok hi) (ixOf_ok hj) q1 q2 q3 (snd_trA g c.c hes).1 hw
            · cases h
          · cases h
        · split at h
          · rename_i hi hj hl2 hes
            split at h
            · rename_i q
              obtain ⟨rfl, q1, q2, q3, q4, q5, q6⟩ := q
              cases h
              exact snd_par3 c.c (ixOf_ok hi) (ixOf_ok hj) (ixOf_ok hl2) q1 q2 q3 q4 q5 q6 (snd_trA g c.c hes).1 hw
            · cases h
          · cases h
        · cases h
      · cases h
    · cases h
  · rename_i hne
    refine snd_trTup g c h ?_
    cases e <;> first | rfl | exact absurd rfl (hne _ _ _)
theorem good_trSt {hot : PySem.Str → List Stmt → Option Sx} (hh : HotOk T n N nms cl fu hot) (F : Fns T fa n cl) (O : TOk T fa) (K : GtOk T fa G) {r0 : TrE} (g0 : GoodE T n N cl r0) (g : GoodE T n N cl r) {s : Stmt → Option Sx} (hs : GoodS T n N cl nms fu s) : GoodS T n N cl nms fu (trSt G T.g N nms r r0 s hot) := by
  intro st x h Wx X c
  unfold trSt at h
  split at h
  · split at h
    · rename_i hb
      obtain ⟨hx, hst⟩ := Bool.and_eq_true_iff.mp hb
      split at h
      · rename_i hk h1
        split at h
        · rename_i hf
          cases h
          exact snd_raise O c.c hx (K.xc _ _ hk) (by unfold Tb.xf; rw [Option.isSome_map]; exact hf) hst (g _ _ _ h1 _ _ c.c).1
        · cases h
      · cases h
    · cases h
  · split at h
    · rename_i h1 h2
      cases h
      exact snd_tri O K c hh (fun W X' c' => snd_trSs hs c' h1) h2
    · cases h
  · split at h
    · rename_i hl
      cases h
      exact snd_trSetLc K g0 c hl
    · exact snd_trSet g c h
  · exact snd_trSet g c h
  · exact snd_trAs g c h
  · split at h
    · rename_i hi
      split at h
      · rename_i h1 h2 h3
        cases h
        exact snd_setix c.c.cold (g _ _ _ h1 _ _ c.c).1 (g _ _ _ h2 _ _ c.c).1 hi (g _ _ _ h3 _ _ c.c).1 (.inr trivial)
      · cases h
    · cases h
  · split at h
    · rename_i h1 h2 h3
      cases h
      have := K.nm _ _ h2
      subst this
      exact snd_setfld O c.c (g _ _ _ h1 _ _ c.c).1 (g _ _ _ h3 _ _ c.c).1
    · cases h
  · cases h; exact snd_doc
  · split at h
    · rename_i hb
      obtain ⟨y, h1, rfl⟩ := map_some h
      exact snd_expr hb (g _ _ _ h1 _ _ c.c).1
    · cases h
  · obtain ⟨y, h1, rfl⟩ := map_some h
    exact snd_ret (g _ _ _ h1 _ _ c.c).1
  · cases h; exact snd_retN
  · split at h
    · rename_i h1 h2 h3
      cases h
      exact snd_if (g _ _ _ h1 _ _ c.c).2 (snd_trSs hs c h2) (snd_trSs hs c h3)
    · cases h
  · split at h
    · rename_i hn
      split at h
      · rename_i h1 h2 h3
        cases h
        exact snd_for c.c c.p (snd_trI K g c.c h1) (snd_trT c.c h2) (snd_trSs hs c h3) (fold_of hn)
      · cases h
    · cases h
  · split at h
    · rename_i h1 h2
      cases h
      exact snd_while c.p (g _ _ _ h1 _ _ c.c).2 (snd_trSs hs c h2)
    · cases h
  · cases h; exact snd_pass
  · cases h; exact snd_brk
  · cases h; exact snd_cont
  · cases h; exact snd_never
theorem good_trs (F : Fns T fa n cl) (HT : ThG T n cl G) (hF : ∀ f ad, T.hfa f = some ad → FnH T n ad cl f) (O : TOk T fa) (Z : KitOk T) (K : GtOk T fa G) (m : Nat) : ∀ k, GoodS T n N cl nms fu (trs G T.g N nms m k)
  | 0 => fun _ _ h => by cases h
  | k + 1 => fun st x h Wx X c => by
    unfold trs at h
    split at h
    · rename_i y e
      cases h
      have hh : HotOk T n N nms cl fu (fun y ss => trSs (trHS G N y nms m k) ss) := fun y suite x hx ex Wx X cH hj => snd_trHSs (T := T.att (some ex)) (good_trHS (T := T.att (some ex)) (fun f ad hf => (hF f ad hf).att) O.att K.att m k) cH hj hx
      exact good_trSt hh F O K (good_tr F HT O Z K m) (good_tr F HT O Z K (m + 1)) (good_trs F HT hF O Z K m k) st _ e Wx X c
    · cases h
      exact snd_never
end
end Ev

/-! Lm: a def that is handed a lambda keeps its promise. -/
namespace Ev
open PySem PySem.Spec PyProof.Rows L2
section
variable {T T' : Tb} {R R' Pr H : Hp} {μ : Mu} {st : S} {X : Cx} {σ : L2.St} {Wx : WX} {n : Nat} {N : List PySem.Str} {nms : Nms} {fa : Nat → Option Addr} {cl : Cl} {G : Gt}
theorem Alike.xf (A : Alike T T') (c : Nat) : T'.xf c = T.xf c := by unfold Tb.xf; rw [A.g, A.nm]
theorem ExR.al (A : Alike T T') {c : Nat} {x : C} {d : Option Addr} (h : ExR T R H c x d) : ExR T' R H c x d := by
  unfold ExR at h ⊢
  rw [A.xf]
  split
  · rename_i f q
    rw [q] at h
    obtain ⟨dd, v, h1, h2, h3⟩ := h
    exact ⟨dd, v, h1, h2, h3.al A⟩
  · rename_i q
    rw [q] at h
    exact h
theorem Post.al (A : Alike T T') (B : Alike T' T) {Q : VK} {r : Res W} (h : Post T Pr Wx σ (RV T Q) R μ r) : Post T' Pr Wx σ (RV T' Q) R μ r := by
  cases r with
  | ok w st => exact fun R' μ' H' l s v rv => h R' μ' H' l (s.al B) v (rv.al B)
  | ex c x st =>
    intro R' μ' H' d l s xr
    rw [A.ea]
    exact h R' μ' H' d l (s.al B) (xr.al B)
  | stuck => exact h
abbrev Tb.nolam (T : Tb) : Tb := { T with lamN := fun _ => none }
theorem alike_nolam : Alike T T.nolam := ⟨rfl, rfl, rfl, rfl, rfl, rfl⟩
theorem alike_unnolam : Alike T.nolam T := ⟨rfl, rfl, rfl, rfl, rfl, rfl⟩
theorem TOk.nolam (O : TOk T fa) : TOk T.nolam fa where
  lam := fun N q c P h => by cases h
  exc := O.exc
  xsub := O.xsub
  inj := O.inj
  fn := O.fn
  cls := O.cls
  meth := O.meth
  prop := O.prop
  fld := O.fld
  init := O.init
  eqm := O.eqm
  getm := O.getm
  lenm := O.lenm
  inm := O.inm
  andm := O.andm
theorem GtOk.nolam (K : GtOk T fa G) : GtOk T.nolam fa G.nolam where
  xc := K.xc
  thk := fun x p j h => by cases h
  lamN := fun N h => by cases h
  hfn := K.hfn
  fn := K.fn
  cls := K.cls
  con := fun x i h => let ⟨v, u, c, h1, h2, h3, h4⟩ := K.con x i h; ⟨v, u, c, h1, h2, h3, fun R => (h4 R).al alike_nolam⟩
  nm := K.nm
  free := K.free
  kwf := K.kwf
  kwc := K.kwc
  sm := K.sm
theorem Fns.nolam (F : Fns T fa n cl) : Fns T.nolam fa n cl where
  fn := fun f a ha A outer s H us vs Q E hr hgu e0 rv ⟨Pr, R, μ, ws, st, sm, rw', hp⟩ => F.fn f a ha A outer s H us vs Q E hr hgu e0 rv ⟨Pr, R, μ, ws, st, sm.al alike_unnolam, rw'.al alike_unnolam, hp.al alike_unnolam alike_nolam⟩
  kw := fun f a m ks ha A outer s H us vs Q E hr hgu e0 rv ⟨Pr, R, μ, ws, st, sm, rw', hp⟩ => F.kw f a m ks ha A outer s H us vs Q E hr hgu e0 rv ⟨Pr, R, μ, ws, st, sm.al alike_unnolam, rw'.al alike_unnolam, hp.al alike_unnolam alike_nolam⟩
theorem thg_nolam : ThG T.nolam n cl G.nolam := fun j ad t N nms Wx X q c P m params body scope pins s σ H f c' pm ctv Pr R μ envc ws st Q h1 h2 h3 h4 => by cases h4
theorem KitOk.nolam (Z : KitOk T) : KitOk T.nolam := ⟨fun c h => Z.1 c h, fun c h => Z.2 c h⟩
theorem EnvR.al (A : Alike T T') (he : T'.exa = T.exa) {env : Env} (h : EnvR T R μ env σ) : EnvR T' R μ env σ := by
  refine ⟨?_, fun i w hi e => let ⟨v, h1, h2⟩ := h.2 i w hi e; ⟨v, h1, h2.al A⟩⟩
  have h := h.1
  unfold XcR at h ⊢
  rw [he]
  split
  · rename_i q; rw [q] at h; exact h
  · rename_i e q
    rw [q] at h
    obtain ⟨x, h1, h2, h3, h4⟩ := h
    exact ⟨x, h1, h2, h3, fun f hf => by
      rw [A.xf] at hf
      obtain ⟨dd, v, k1, k2, k3⟩ := h4 f hf
      exact ⟨dd, v, k1, k2, k3.al A⟩⟩
end
section
variable {X : Cx} {pins : List (Addr × Obj)} {σ : L2.St} {H : Hp} {s : Shared}
open LamX in
/-- a(), in the def that got the lambda -/
theorem pe_lam {CXg : CXT} {Eg : XK} {Ng : List PySem.Str} {qg : PySem.Str} {sg : Scope} {g f c' : Addr} {cdg pm ctv : Value} {params : Arguments} {body : Expr} {scope : Scope} {k i : Nat} {a : PySem.Str} {pn : List (Addr × Obj)} {xe : Value → Shared → Prop} {W : WX} {E : XK} {tb : TE} {p1 p2 : Pos}
    (I : Inv X pins σ H s) (L : LamS X.env.scope scope) (hf : s.heap.get? f = some (PySem.W.kla_obj "<lambda>" (X.env.qual ++ "<lambda>") params body scope (cloFrom X.env.cells scope.names []) pm c' ctv)) (hfn : H f = none) (hfr : f ∉ frs X.stack)
    (hbind : bindArgs (PySem.W.kla_fn "<lambda>" (X.env.qual ++ "<lambda>") params body scope (cloFrom X.env.cells scope.names []) pm (.ref c') ctv) ⟨[], []⟩ = pure [])
    (tk : Takes ((cxOf CXg X.prog X.w X.K X.mg X.base Ng qg sg g cdg X.A X.stack s H Eg).tr pn xe) W) (hW : ∀ cls d σ' H', E cls d H' → W cls d σ' H') (hr : Room (k + 1) (X.A.deeper (envOfC qg sg s.heap.objs.size g cdg)))
    (hbody : ∀ (s1 : Shared) (H1 : Hp), Room k ((X.A.deeper (envOfC qg sg s.heap.objs.size g cdg)).deeper (lamEnv X scope s1.heap.objs.size f c')) → PE (lamCx X (X.A.deeper (envOfC qg sg s.heap.objs.size g cdg)) (envOfC qg sg s.heap.objs.size g cdg :: X.stack) s1 H1 E scope f c') body tb)
    (hN : Ng[i]? = some a) (hv : Vis sg a) (hd : (a == ("__debug__" : PySem.Str)) = false) (hcd : (a == ("__classdict__" : PySem.Str)) = false) :
    PE ((cxOf CXg X.prog X.w X.K X.mg X.base Ng qg sg g cdg X.A X.stack s H Eg).tr pn xe) (.Call (.Name a p1) [] [] p2)
      (fun σZ HZ Q => σZ[i]? = some (some (.ref f)) ∧ HZ c' = some (CodeO c' (X.env.qual ++ "<lambda>")) ∧ tb σ HZ Q) := by
  refine ⟨fun pinsZ sZ σZ HZ Q IZ h => ?_⟩
  obtain ⟨hs, hc, ht⟩ := h
  refine wpAny_Call_Name_kw (thn ((pe_var (pos := p1) (i := i) hN hv hd hcd).run pinsZ sZ σZ HZ (fun v H1 => v = .ref f ∧ H1 = HZ) IZ ⟨.ref f, hs, rfl, rfl⟩) fun u z1 ⟨v, H1, J1, r1, ev, eH⟩ => ?_)
  subst ev
  rw [eH] at J1
  obtain rfl : u = Value.ref f := r1
  have hf1 : z1.heap.get? f = some (PySem.W.kla_obj "<lambda>" (X.env.qual ++ "<lambda>") params body scope (cloFrom X.env.cells scope.names []) pm c' ctv) := J1.base.keep f _ hf hfn hfr (fun z => nomatch (show f ∈ ([] : List Addr) from z))
  refine PySem.W.callWith_F0 ⟨_, _, _, _, hf1⟩ ?_
  have un : Un (frs X.stack) [] H HZ s.heap z1.heap := J1.base
  obtain ⟨⟨oc, vs, t, hoc, hdc, hvc⟩, _, _⟩ := J1.hok c' _ hc
  have rc : codeAny (model X.prog X.w) (X.A.deeper (envOfC qg sg s.heap.objs.size g cdg)) (.call (.ref f) ⟨[], []⟩) (CR (L2.CX X.prog X.w) (envOfC qg sg s.heap.objs.size g cdg :: X.stack) X.prog X.w HZ z1 Q E) z1 := by
    refine PySem.W.kla_callFunE hr.depth hf1 rfl L.co L.gen rfl ⟨c', oc, vs, t, rfl, hoc, hdc, hvc⟩ ?_
    rw [hbind]
    refine wpAny_pure (wpAny_newFunctionEnv (fun y hy => (L.own y hy).2) (fun y hy => absurd hy (by simp)) (fun h₁ hns hsb => ⟨J1.nolimit.fresh _ hsb, ?_⟩) L.kind)
    show codeAny _ _ (.expr body (lamEnv X scope z1.heap.objs.size f c')) _ _
    have kp : ∀ b o, z1.heap.get? b = some o → h₁.get? b = some o := fun b o e => hsb.extBut b o (Nat.ne_of_lt (Heap.lt_size e)) (Heap.get?_push_of_some _ e)
    have JL : Inv (lamCx X (X.A.deeper (envOfC qg sg s.heap.objs.size g cdg)) (envOfC qg sg s.heap.objs.size g cdg :: X.stack) z1 HZ E scope f c') [] σ HZ { z1 with heap := h₁, toks := z1.toks + ([] : List (PySem.Str × Value)).length } :=
      lam_start2 I L J1.env0 hr.hd un hns kp
    refine PySem.W.kla_codeExpr (wpAny_mono ((hbody z1 HZ (hr.deeper _)).run [] _ _ HZ Q JL ht) (fun v s' hq => ?_) fun e s' hq => hq)
    obtain ⟨w', H', J', rv, q⟩ := hq
    exact ⟨w', H', J'.os, J'.bare, J'.base, J'.hok, rv, q⟩
  have hx : Passes (L2.CX X.prog X.w) ((cxOf CXg X.prog X.w X.K X.mg X.base Ng qg sg g cdg X.A X.stack s H Eg).tr pn xe) E := passes_call tk hW
  refine wpAny_call (codeAny_mono rc fun r s' hq => ?_)
  cases r with
  | error e => exact hx pinsZ σZ HZ z1 e s' J1 hq
  | ok fl =>
    cases fl with
    | ret u => exact J1.after hq
    | next => exact False.elim hq
    | brk => exact False.elim hq
    | cont => exact False.elim hq
end
end Ev

/-! Fun: defs keep their promises, at every depth. -/
namespace Ev
open PySem PySem.Spec PyProof.Rows L2
section
variable {T : Tb} {n : Nat} {fa : Nat → Option Addr} {cl : Cl} {G : Gt} {fu : Nat}
/-- what the end of a call asks of the body's end -/
theorem fin_post {R Pr H : Hp} {μ : Mu} {st : S} {keep : Bool} {Q : VK} {E : XK} {r : Res Fl} (sm : Sim T R Pr μ st H) (h : Post T Pr (fun c d _ H' => E c d H') [] (RV T Q) R μ (fin st.length keep (endS r))) :
    PostS T Pr (fun c d _ H' => E c d H') { nx := fun _ H' => Q .non H', rt := Q } R μ r := by
  have lt : ∀ {R' μ'}, Le R μ R' μ' → Le R μ R' (fun k => if k < st.length then μ' k else none) := fun l => Le.take st.length l fun m a e => sm.dom m a e
  have cl : ∀ {x : C} {st' : S}, Post T Pr (fun c d _ H' => E c d H') [] (RV T Q) R μ (fin st.length keep (.ok (.c x) st')) → ∀ R' μ' H' v, Le R μ R' μ' → Sim T R' Pr μ' st' H' → RelC T R' x v → Q v H' := fun {x st'} h R' μ' H' v l s rv => by
    have h : Post T Pr (fun c d _ H' => E c d H') [] (RV T Q) R μ (.ok (.c x) (if keep then st' else st'.take st.length)) := h
    cases keep with
    | true => exact h R' μ' H' l s v rv
    | false => exact h R' _ H' (lt l) (s.take _) v rv
  cases r with
  | ok f st' =>
    cases f with
    | nx env => exact fun R' μ' σ' H' l be => cl (x := .non) h R' μ' H' _ l be.s rfl
    | bk env => exact h.elim
    | ct env => exact h.elim
    | rt w =>
      cases w with
      | c x => exact cl h
      | r m =>
        intro R' μ' H' v l s rv
        replace h : Post T Pr (fun c d _ H' => E c d H') [] (RV T Q) R μ (if keep then .ok (.r m) st' else if m < st.length then .ok (.r m) (st'.take st.length) else match deep st' st.length 8 m with
          | some x => .ok (.c x) (st'.take st.length)
          | none => .stuck) := h
        cases keep with
        | true => exact h R' μ' H' l s v rv
        | false =>
          rw [if_neg Bool.false_ne_true] at h
          split at h
          · rename_i hm
            obtain ⟨a, e1, e2⟩ := rv
            exact h R' _ H' (lt l) (s.take _) v ⟨a, e1, by show (if m < st.length then μ' m else none) = some a; rw [if_pos hm]; exact e2⟩
          · rename_i hm
            split at h
            · rename_i x e
              obtain ⟨a, rfl, e2⟩ := rv
              obtain ⟨R2, s2, l2, rc⟩ := deep_ok s e e2
              exact h R2 _ H' ⟨fun a o q => l2 a o (l.r a o q), (lt l).m⟩ s2 _ rc
            · exact h.elim
  | ex c x st' =>
    intro R' μ' σ' H' d l s hd
    replace h : Post T Pr (fun c d _ H' => E c d H') [] (RV T Q) R μ (.ex c x (if keep then st' else st'.take st.length)) := h
    cases keep with
    | true => exact h R' μ' H' d l s hd
    | false => exact h R' _ H' d (lt l) (s.take _) hd
  | stuck => exact h.elim
theorem start_env (hcold : T.exa = none) {R : Hp} {μ : Mu} {N : List PySem.Str} {ws : List W} {vs : List V} (h : RelWs T R μ ws vs) : EnvR T R μ (startE N.length ws) (start N vs) := by
  have hl := h.length
  unfold startE L2.start
  refine ⟨by unfold XcR; rw [hcold]; simp [hl], fun i w hi' e => ?_⟩
  by_cases hi : i < ws.length
  · rw [List.getElem?_append_left (by simpa using hi), List.getElem?_map] at e
    cases q : ws[i]? with
    | none => rw [q] at e; cases e
    | some w' =>
      rw [q] at e; cases e
      obtain ⟨v, e1, e2⟩ := h.get q
      refine ⟨v, ?_, e2⟩
      rw [List.getElem?_append_left (by simpa [← hl] using hi), List.getElem?_map, e1]
      rfl
  · rw [List.getElem?_append_right (by simpa using Nat.le_of_not_lt hi), List.getElem?_replicate] at e
    split at e <;> cases e
/-- how the arguments come to the parameters' places -/
def Bd (T : Tb) (fd : FuncData) (ps : List PySem.Str) (af : List Value → Args) (d : Df) : Prop :=
  ∀ (A : Around) (outer : List PySem.Env) (s : Shared) (H : Hp) (E : XK) (us : List Value) (vs : List V) (ws ws' : List W) (R Pr : Hp) (μ : Mu) (st : S), Env0 T.P T.w T.K T.mg T.base A outer s H → Vals vs us → Sim T R Pr μ st H → RelWs T R μ ws vs → fill d ws = some ws' → ws'.length = d.np →
    StX.Bnd (L2.CX T.P T.w) T.P T.w T.K T.mg T.base fd (af us) ps A outer s H E (fun xs H2 => ∃ R', Le R μ R' μ ∧ Sim T R' Pr μ st H2 ∧ RelWs T R' μ ws' xs)
/-- .. where nothing is made for it -/
theorem bd_of {fd : FuncData} {ps : List PySem.Str} {af : List Value → Args} {d : Df}
    (h : ∀ (s : Shared) (us : List Value) (vs : List V) (ws ws' : List W) (R : Hp) (μ : Mu), T.K.In s.heap → Vals vs us → RelWs T R μ ws vs → fill d ws = some ws' → ws'.length = d.np → ∃ us' vs', BindsTo s fd (af us) (ps.zip us') ∧ Vals vs' us' ∧ vs'.length = ps.length ∧ RelWs T R μ ws' vs') : Bd T fd ps af d := by
  intro A outer s H E us vs ws ws' R Pr μ st e0 r sm rw' hf hnl A' Ex Q hQ
  obtain ⟨us', vs', hb, r', hl, rw2⟩ := h s us vs ws ws' R μ (e0.mod.kin.keeps fun b o e => (e0.bs b o e).1) r rw' hf hnl
  exact hb _ _ _ _ (hQ s H vs' us' e0 Un.refl rfl (fun _ _ z => z) r' hl ⟨R, Le.refl _ _, sm, rw2⟩)
def pickV (vs kv : List V) : Nat ⊕ Nat → V
  | .inl i => vs.getD i .non
  | .inr j => kv.getD j .non
def pickU (us ku : List Value) : Nat ⊕ Nat → Value
  | .inl i => us.getD i .none
  | .inr j => ku.getD j .none
theorem vals_getD : ∀ {vs : List V} {us : List Value} (i : Nat), Vals vs us → RelV (vs.getD i .non) (us.getD i .none)
  | _, _, i, .nil => by cases i <;> exact rfl
  | _, _, 0, .cons a _ => a
  | _, _, i + 1, .cons _ r => by
    have := vals_getD i r
    simpa using this
theorem relWs_getD {R : Hp} {μ : Mu} : ∀ {ws : List W} {vs : List V} (i : Nat), RelWs T R μ ws vs → RelW T R μ (ws.getD i (.c .non)) (vs.getD i .non)
  | [], vs, i, h => by cases h; simp [RelW, RelC]
  | _ :: _, _, 0, ⟨v, t, rfl, h2, h3⟩ => h2
  | _ :: _, _, i + 1, ⟨v, t, rfl, h2, h3⟩ => by
    have := relWs_getD i h3
    simpa using this
theorem relCs_getD {R : Hp} : ∀ {ws : List C} {vs : List V} (i : Nat), RelCs T R ws vs → RelC T R (ws.getD i .non) (vs.getD i .non)
  | [], vs, i, h => by cases h; simp [RelC]
  | _ :: _, _, 0, ⟨v, t, rfl, h2, h3⟩ => h2
  | _ :: _, _, i + 1, ⟨v, t, rfl, h2, h3⟩ => by
    have := relCs_getD i h3
    simpa using this
theorem pick_rel {R : Hp} {μ : Mu} {ws : List W} {vs kv : List V} {kc : List C} (h : RelWs T R μ ws vs) (hk : RelCs T R kc kv) : ∀ l : List (Nat ⊕ Nat), RelWs T R μ (l.map (pickW ws kc)) (l.map (pickV vs kv))
  | [] => rfl
  | .inl i :: l => ⟨_, _, rfl, relWs_getD i h, pick_rel h hk l⟩
  | .inr j :: l => ⟨_, _, rfl, relCs_getD j hk, pick_rel h hk l⟩
theorem pick_vals {vs kv : List V} {us ku : List Value} (h : Vals vs us) (hk : Vals kv ku) : ∀ l : List (Nat ⊕ Nat), Vals (l.map (pickV vs kv)) (l.map (pickU us ku))
  | [] => .nil
  | .inl i :: l => .cons (vals_getD i h) (pick_vals h hk l)
  | .inr j :: l => .cons (vals_getD j hk) (pick_vals h hk l)
section
variable {x qual : PySem.Str} {params : Arguments} {body : List Stmt} {scope : Scope} {dvs kv : List V} {a : Addr} {fd : FuncData} {ps kn : List PySem.Str} {d : Df}
/-- keyword-only parameters, no positional defaults: n are given, the last ones by the names ks; ms: the places of those that lack -/
theorem bd_kw {nn : Nat} {af : List Value → Args} {l : List (Nat ⊕ Nat)} (ms : List Nat) (FD : FunD T.K x qual params body scope [] (kn.zip kv) a fd) (hz : kn.length = kv.length) (hkn : kn ≠ []) (hd : d.arr = some (nn, l)) (hl : l.length = ps.length) (hms : ∀ j ∈ ms, j < kn.length) (hkc : ∀ R, RelCs T R d.kwo kv)
    (h : ∀ (D : Addr) (doc pm : Value) (an : Option Addr) (cdv ct : Value) (us ku : List Value), us.length = nn → ku.length = kn.length →
      KwChain D (ms.map fun j => (kn.getD j ⟨#[]⟩, ku.getD j .none)) (bindArgs (PySem.W.fnOf x qual params body scope .none (.ref D) doc pm an cdv ct) (af us)) (ps.zip (l.map (pickU us ku)))) : Bd T fd ps af d := by
  obtain ⟨oc, od, dV, kV, doc, pm, an, cdv, ct, osl, rfl, lk, hcd, hD, hK⟩ := FD.ex
  have hdV : dV = .none := by
    rcases hD with ⟨_, e⟩ | ⟨e, _⟩
    · exact e
    · exact absurd rfl e
  subst hdV
  have hkz : kn.zip kv ≠ [] := fun z => by
    have := congrArg List.length z
    rw [List.length_zip, hz, Nat.min_self, List.length_nil] at this
    exact hkn (List.length_eq_zero_iff.mp (by omega))
  rcases hK with e | ⟨D, rfl, hq⟩
  · exact absurd e hkz
  obtain ⟨ku, hlu, rk, hks⟩ := kwd_vals hq
  have hku : ku.length = kn.length := by rw [hlu, List.length_zip, hz, Nat.min_self]
  have rk' : Vals kv ku := by
    rw [List.map_snd_zip (by omega)] at rk
    exact rk
  rw [List.map_fst_zip (by omega)] at hks
  refine bd_of fun s us vs ws ws' R μ KX r rw' hf hnl => ?_
  unfold fill at hf
  rw [hd] at hf
  dsimp only at hf
  split at hf
  · rename_i hn
    cases hf
    have hun : us.length = nn := by rw [← r.length, ← rw'.length]; exact hn
    refine ⟨l.map (pickU us ku), l.map (pickV vs kv), BindsTo.of_looks fun M => ?_, pick_vals r rk' l, by rw [List.length_map]; exact hl, pick_rel rw' (hkc R) l⟩
    refine KwChain.looks KX (fun q hq => ?_) (h D doc pm an cdv ct us ku hun hku)
    obtain ⟨j, hj, rfl⟩ := List.mem_map.mp hq
    have hj' := hms j hj
    refine hks _ ?_
    have e1 : kn.getD j ⟨#[]⟩ = kn[j] := by simp [List.getD, List.getElem?_eq_getElem hj']
    have e2 : ku.getD j .none = ku[j] := by simp [List.getD, List.getElem?_eq_getElem (show j < ku.length by omega)]
    rw [e1, e2]
    have : (kn.zip ku)[j]'(by rw [List.length_zip]; omega) = (kn[j], ku[j]) := by simp
    rw [← this]
    exact List.getElem_mem _
  · cases hf
/-- by position, with defaults -/
theorem bd_pos (ha : d.arr = none) (hs : d.star = false) (hnp : ps.length = d.np) (hdf : ∀ R, RelCs T R d.dfl dvs) (hb : ∀ j, j ≤ dvs.length → ∃ ds, Vals (dvs.drop j) ds ∧ Binds T.K fd ps ds) : Bd T fd ps posA d := by
  refine bd_of fun s us vs ws ws' R μ KX r rw' hf hnl => ?_
  unfold fill at hf
  rw [ha, hs] at hf
  dsimp only at hf
  cases hf
  have hdl := (hdf R).length
  have hl : ws.length + (d.dfl.length - (ws.length + d.dfl.length - d.np)) = d.np := by simpa using hnl
  obtain ⟨ds, hv, hB⟩ := hb (ws.length + d.dfl.length - d.np) (by omega)
  have hlen : (vs ++ dvs.drop (ws.length + d.dfl.length - d.np)).length = ps.length := by rw [List.length_append, List.length_drop, ← rw'.length, ← hdl, hnp]; exact hl
  have r2 := r.append hv
  exact ⟨us ++ ds, _, hB s us KX (by rw [← r2.length]; exact hlen), r2, hlen, rw'.append (RelWs.ofC ((hdf R).drop _))⟩
/-- the last parameter takes what is left over -/
theorem bd_star {pv : PySem.Str} {ps0 : List PySem.Str} (FD : FunD T.K x qual params body scope [] [] a fd) (ha : d.arr = none) (hs : d.star = true) (hps : ps = ps0 ++ [pv]) (hnp : ps.length = d.np)
    (hb : ∀ (kV doc pm : Value) (an : Option Addr) (cdv ct : Value) (us rest : List Value), us.length = ps0.length → bindArgs (PySem.W.fnOf x qual params body scope .none kV doc pm an cdv ct) ⟨us ++ rest, []⟩ = (newTuple rest >>= fun t => pure (ps0.zip us ++ [(pv, t)]))) : Bd T fd ps posA d := by
  obtain ⟨oc, od, dV, kV, doc, pm, an, cdv, ct, osl, rfl, lk, hcd, hD, hK⟩ := FD.ex
  have hdV : dV = .none := by
    rcases hD with ⟨_, e⟩ | ⟨e, _⟩
    · exact e
    · exact absurd rfl e
  subst hdV hps
  intro A outer s H E us vs ws ws' R Pr μ st e0 r sm rw' hf hnl A' Ex Q hQ
  unfold fill at hf
  rw [ha, hs] at hf
  dsimp only at hf
  rw [if_pos rfl] at hf
  split at hf
  · rename_i hz
    split at hf
    · rename_i cs ec
      cases hf
      have hl0 : d.np - 1 = ps0.length := by rw [← hnp, List.length_append, List.length_singleton]; omega
      rw [hl0] at ec hnl hQ
      have hn := Heap.get?_push_size s.heap (o := ({ cls := .type "tuple", data := .seq (us.drop ps0.length).toArray } : Obj)) rfl
      have hf0 : H s.heap.objs.size = Option.none := e0.hok.fresh (Nat.le_refl _)
      have hwl : ws.length = vs.length := rw'.length
      have hvl : vs.length = us.length := r.length
      have hle : ps0.length ≤ us.length := by rw [← hl0]; omega
      have htl : (us.take ps0.length).length = ps0.length := by rw [List.length_take]; omega
      have hb1 := hb kV doc pm an cdv ct (us.take ps0.length) (us.drop ps0.length) htl
      rw [List.take_append_drop] at hb1
      show wpAny _ A' (bindArgs _ ⟨us, []⟩) Q Ex s
      rw [hb1]
      have hsz : (us.drop ps0.length).length ≤ sizeLine := by rw [List.length_drop, ← line_eq]; omega
      refine wpAny_bind (wpAny_newTuple (wpAny_pure ?_) hsz)
      have rd : Vals (vs.drop ps0.length) (us.drop ps0.length) := r.drop _
      have rt : Vals (vs.take ps0.length) (us.take ps0.length) := by
        have : ∀ {xs : List V} {ys : List Value} (n : Nat), Vals xs ys → Vals (xs.take n) (ys.take n) := fun {xs ys} n h => by
          induction h generalizing n with
          | nil => simp; exact .nil
          | cons a _ ih =>
            cases n with
            | zero => exact .nil
            | succ n => exact .cons a (ih n)
        exact this _ r
      have new : ObjOk T.P T.w (upd H s.heap.objs.size (.tup (vs.drop ps0.length))) (s.heap.push ({ cls := .type "tuple", data := .seq (us.drop ps0.length).toArray } : Obj)) s.heap.objs.size (.tup (vs.drop ps0.length)) :=
        ⟨by rw [rd.length]; exact hsz, _, rd, ⟨_, hn, rfl, _, rfl⟩⟩
      obtain ⟨s2, l2⟩ := sm.frozen (o := .tup (vs.drop ps0.length)) hf0
      have rc : RelCs T R cs (vs.drop ps0.length) := (rw'.drop _).clo ec
      have un := StX.un_laid (fs := frs outer) (s := s) (o := ({ cls := .type "tuple", data := .seq (us.drop ps0.length).toArray } : Obj)) (u := .tup (vs.drop ps0.length)) hf0
      have z := hQ _ _ (vs.take ps0.length ++ [V.ref s.heap.objs.size]) (us.take ps0.length ++ [Value.ref s.heap.objs.size]) (StX.env0_laid e0 new) un rfl
        (fun e s' => StX.cxUp outer s H _ _ E e s' un (fun b o q => Heap.get?_push_of_some _ q) rfl) (rt.append (.cons rfl .nil)) (by rw [List.length_append, List.length_append, List.length_take, List.length_singleton, List.length_singleton]; omega)
        ⟨_, l2, s2, (RelWs.le l2 (rw'.take _)).append ⟨_, [], rfl, ⟨_, _, rfl, .inl (.inl upd_same), RelCs.le l2.r rc⟩, rfl⟩⟩
      rw [List.zip_append htl.symm] at z
      exact z
    · cases hf
  · cases hf
end
/-- a def of the program stands where it is said to stand -/
structure DefOk (T : Tb) (G : Gt) (a : Addr) (af : List Value → Args) (d : Df) : Prop where
  ok : ∃ (x qual : PySem.Str) (params : Arguments) (body : List Stmt) (scope : Scope) (dvs : List V) (kws : List (PySem.Str × V)) (fd : FuncData) (N ps : List PySem.Str) (m k : Nat),
    FunD T.K x qual params body scope dvs kws a fd ∧ FnScope N ps scope ∧ ps.length = d.np ∧ d.n = N.length ∧ trSs (trs G T.g N scope.names m k) body = some d.body ∧ Bd T fd ps af d ∧
    ∀ q c P, T.lamN N = some (q, c, P) → qual ++ ".<locals>." = q ∧ fd.code = .ref c
theorem RelCs.drop' {R : Hp} : ∀ {cs : List C} {vs : List V} (j : Nat), RelCs T R cs vs → RelCs T R (cs.drop j) (vs.drop j) := fun {cs vs} j h => h.drop j
theorem def_ok (F : Fns T fa n cl) (HT : ThG T n cl G) (hF : ∀ f ad, T.hfa f = some ad → FnH T n ad cl f) (hcold : T.exa = none) (O : TOk T fa) (Z : KitOk T) (K : GtOk T fa G) {a : Addr} {af : List Value → Args} {d : Df} (h : DefOk T G a af d) {f : Nat} {cl' : Cl} (hc : ∀ ws st, cl' f ws st = match fill d ws with | some ws' => run T.g cl fu d ws' st | none => .stuck) :
    FnG T.P T.w T.K T.mg T.base (n + 3) a af (spF T cl' f) := by
  obtain ⟨x, qual, params, body, scope, dvs, kws, fd, N, ps, m, k, FD, S, hps, hn, htr, hb, hlam⟩ := h.ok
  obtain ⟨oc, od, dV, kV, doc, pm, an, cdv, ct, osl, rfl, lk, hcd, _, _⟩ := FD.ex
  intro A outer s H us vs Q E hr hgu e0 rv hs
  obtain ⟨Pr, R, μ, ws, st, sm, rw', hp⟩ := hs
  rw [hc] at hp
  cases hf : fill d ws with
  | none => rw [hf] at hp; exact hp.elim
  | some ws' =>
    rw [hf] at hp
    have hnl : ws'.length = d.np := by
      have hp : Post T Pr (fun c d _ H' => E c d H') [] (RV T Q) R μ (run T.g cl fu d ws' st) := hp
      unfold run at hp
      split at hp
      · assumption
      · exact hp.elim
    refine StX.run_bnd (k := n + 2) lk hcd S hr e0 (hb A outer s H E us vs ws ws' R Pr μ st e0 rv sm rw' hf hnl) fun s2 H2 xs ⟨R', le, s2', rw2⟩ hr' => ?_
    have C : CtxS T n N scope.names (fun c d _ H' => E c d H') (cxOf (L2.CX T.P T.w) T.P T.w T.K T.mg T.base N qual scope a cdv A outer s2 H2 E) :=
      ⟨⟨⟨rfl, rfl, rfl, rfl, rfl, rfl, S.nd, fun x kd h => ⟨kd, h, .inl rfl⟩, takes_of rfl rfl rfl rfl, fun _ _ => rfl, hgu, by have := hr'.un; exact Nat.lt_of_le_of_lt (Nat.add_le_add_right (Nat.le_add_right _ _) 200) this⟩, rfl, hr', hcold, hlam⟩, passes_of rfl, S.kind, rfl, rfl⟩
    refine ⟨_, snd_trSs (fu := fu) (good_trs F HT hF O Z K m k) C htr, Pr, R', μ, startE d.n ws', st, ⟨by rw [hn]; exact start_env hcold rw2, s2'⟩, ?_⟩
    have hp : Post T Pr (fun c d _ H' => E c d H') [] (RV T Q) R μ (run T.g cl fu d ws' st) := hp
    unfold run at hp
    rw [if_pos hnl] at hp
    exact fin_post s2' (hp.le le)
/-! ### defs that are called in except suites -/
theorem run_hot {CX : CXT} {P : Program} {w : World} {K : PySem.W.Frag} {mg : PySem.Str → Option Value} {base : Heap} {k : Nat} {f : Addr} {name qual : PySem.Str} {params : Arguments} {body : List Stmt} {scope : Scope} {dV kV doc pm cdv ct oc : Value} {an od : Option Addr}
    {osl : Array (Option Value)} {N ps : List PySem.Str} (lk : K.lookup f = some ⟨oc, od, .func (PySem.W.fnOf name qual params body scope dV kV doc pm an cdv ct), osl⟩) (hcd : PySem.W.codeIn K cdv qual = true) (S : FnScope N ps scope)
    {A : Around} {outer : List PySem.Env} {s : Shared} {H : Hp} {args : Args} {us : List Value} {vs : List V} {Q : VK} {E : XK} {p : Addr × Obj} (hr : L2H.RoomH (k + 1) A) (hpin : L2H.PinOk outer H s p) (e0 : Env0 P w K mg base A outer s H) (hb : BindsTo s (PySem.W.fnOf name qual params body scope dV kV doc pm an cdv ct) args (ps.zip us)) (rv : Vals vs us) (hl : vs.length = ps.length)
    (hbody : L2H.RoomH k (A.deeper (envOfC qual scope s.heap.objs.size f cdv)) → ∃ t, PSs (L2H.cxH CX P w K mg base N qual scope f cdv A outer s H E p) body t ∧ t { nx := fun _ H' => Q .non H', rt := Q } (L2.start N vs) H) :
    codeAny (model P w) A (.call (.ref f) args) (CR CX outer P w H s Q E) s := by
  have kx : K.In s.heap := e0.mod.kin.keeps fun b o e => (e0.bs b o e).1
  have lm : s.heap.NoLimit := e0.mod.nolimit.keeps fun b o e => (e0.bs b o e).1
  have hkd : ∀ y ∈ ps.zip us, scope.names.lookup y.1 = some .local ∨ (scope.names.lookup y.1 = some .cell ∧ ((cellsFrom (s.heap.objs.size + 1) scope.names []).lookup y.1).isSome = true) := fun ⟨n, v⟩ hy => by
    rcases S.par n (List.of_mem_zip hy).1 with q | q
    · exact .inl q
    · exact .inr ⟨q, PySem.W.cellsFrom_some _ _ _ (.inl q)⟩
  refine codeAny_call_function hr.depth (kx _ _ lk) rfl S.co S.gen rfl (PySem.W.codeRec_of kx hcd) (hb _ _ _ _ ?_)
  refine wpAny_newFunctionEnv_cells S.kind hkd fun env he s1 x => ?_
  subst he
  refine ⟨lm.keeps x.toInCall.keep, codeAny_func ?_⟩
  obtain ⟨t, ht, hq⟩ := hbody (hr.deeper _)
  have j0 : Inv (L2H.cxH CX P w K mg base N qual scope f cdv A outer s H E p) [] (L2.start N vs) H s1 := L2H.inv_startH S hpin e0 hl rv x
  refine wpAny_mono (ht.run [] s1 (L2.start N vs) H _ j0 hq) (fun fl s' hs => ?_) fun e s' hs => hs
  have fin : ∀ {σ' : L2.St} {H' : Hp} {v : V} {u : Value}, Inv (L2H.cxH CX P w K mg base N qual scope f cdv A outer s H E p) [] σ' H' s' → L2.RelV v u → Q v H' → CE outer P w H s Q u s' :=
    fun {σ' H' v u} j r q => ⟨v, H', j.os, j.bare, j.base, j.hok, r, q⟩
  cases fl with
  | ret u =>
    obtain ⟨v, σ', H', j, r, q⟩ := hs
    exact fin j r q
  | next =>
    obtain ⟨σ', H', j, q⟩ := hs
    exact fin (v := V.non) (u := Value.none) j rfl q
  | brk =>
    obtain ⟨_, _, _, q⟩ := hs
    exact False.elim q
  | cont =>
    obtain ⟨_, _, _, q⟩ := hs
    exact False.elim q
structure DefHOk (T : Tb) (G : Gt) (a : Addr) (d : Df) : Prop where
  ok : ∃ (x qual : PySem.Str) (params : Arguments) (body : List Stmt) (scope : Scope) (fd : FuncData) (N : List PySem.Str) (y : PySem.Str) (m k : Nat),
    FunD T.K x qual params body scope [] [] a fd ∧ FnScope N [y] scope ∧ d.n = N.length ∧ ixOf N y = some 0 ∧ trSs (trHS G N y scope.names m k) body = some d.body ∧ ∀ (s : Shared) (u : Value), BindsTo s fd ⟨[u], []⟩ [(y, u)]
theorem defH_ok (hF : ∀ f ad, T.hfa f = some ad → FnH T n ad cl f) (hcold : T.exa = none) (O : TOk T fa) (K : GtOk T fa G) {a : Addr} {d : Df} (h : DefHOk T G a d) {f : Nat} {cl' : Cl} (hc : ∀ ws st, cl' f ws st = runH T.g cl fu d ws st) : FnH T (n + 3) a cl' f := by
  obtain ⟨x, qual, params, body, scope, fd, N, y, m, k, FD, S, hn, hix, htr, hbi⟩ := h.ok
  obtain ⟨oc, od, dV, kV, doc, pm, an, cdv, ct, osl, rfl, lk, hcd, _, _⟩ := FD.ex
  intro A outer s H oe e Pr R μ xx st Q E hr hgu e0 po hz hv xc xn sm hf hp
  rw [hc] at hp
  refine run_hot (k := n + 2) (us := [.ref e.a]) (vs := [.ref e.a]) lk hcd S hr po e0 (hbi _ _) (.cons rfl .nil) rfl fun hr' => ?_
  have hj : (Xa.mk e.a e.c e.d (some 0)).j = ixOf N y := hix.symm
  have cH : CtxH (T.att (some ⟨e.a, e.c, e.d, some 0⟩)) n N scope.names (fun c d _ H' => E c d H') (L2H.cxH (L2.CX T.P T.w) T.P T.w T.K T.mg T.base N qual scope a cdv A outer s H E (e.a, oe)) ⟨e.a, e.c, e.d, some 0⟩ :=
    ⟨⟨rfl, rfl, rfl, rfl, rfl, rfl, S.nd, fun x kd h => ⟨kd, h, .inl rfl⟩, takes_of rfl rfl rfl rfl, fun _ _ => rfl, hgu, by have := hr'.un; exact Nat.lt_of_le_of_lt (Nat.add_le_add_right (Nat.le_add_right _ _) 200) this⟩, rfl, hr'.mono (by omega), xn, xc, oe, List.mem_cons_self, hz, hv⟩
  have hb := snd_trHSs (T := T.att (some ⟨e.a, e.c, e.d, some 0⟩)) (fu := fu) (good_trHS (T := T.att (some ⟨e.a, e.c, e.d, some 0⟩)) (fun f ad hf => (hF f ad hf).att) O.att K.att m k) cH hj htr
  have hN0 : 0 < N.length := (List.getElem?_eq_some_iff.mp (ixOf_ok hix)).1
  have hsl : (L2.start N [V.ref e.a]).length = N.length := by
    unfold L2.start
    simp
    omega
  refine ⟨_, hb, Pr, R, μ, xenv N.length e.c xx, st, ⟨⟨?_, fun i w hi he => ?_⟩, sm.al alike_att⟩, ?_⟩
  · show ∃ x', _ ∧ _ ∧ _ ∧ _
    refine ⟨xx, by rw [hsl]; simp [xenv], by rw [hsl]; unfold xenv; rw [List.getElem?_append_right (by simp)]; simp, fun j hj => ?_, fun f q => ?_⟩
    · cases hj
      rfl
    · obtain ⟨dd, v, h1, h2, h3⟩ := hf f q
      exact ⟨dd, v, h1, h2, h3.al alike_att⟩
  · rw [hsl] at hi
    unfold xenv at he
    rw [List.getElem?_append_left (by simpa using hi), List.getElem?_replicate, if_pos hi] at he
    cases he
  · have hp2 : Post T Pr (fun c d _ H' => E c d H') [] (RV T Q) R μ (fin st.length d.keep (endS (stm T.g cl fu d.body (xenv d.n e.c xx) st))) := hp
    rw [hn] at hp2
    exact fin_post (T := T.att (some ⟨e.a, e.c, e.d, some 0⟩)) (sm.al alike_att) (hp2.al alike_att alike_unatt)
/-! ### defs that are handed a lambda -/
structure ThD (T : Tb) (G : Gt) (ad : Addr) (t : Th) : Prop where
  ok : ∃ (x qual : PySem.Str) (params : Arguments) (scope : Scope) (fd : FuncData) (NF : List PySem.Str) (a : PySem.Str) (p1 p2 p3 p4 : Pos) (h₀ : ExceptHandler) (hds : List ExceptHandler) (rest : List Stmt) (m k : Nat),
    FunD T.K x qual params (.Try [.Expr (.Call (.Name a p1) [] [] p2) p3] (h₀ :: hds) [] [] p4 :: rest) scope [] [] ad fd ∧ FnScope NF [a] scope ∧ NF.length = t.m ∧ NF[0]? = some a ∧ (a == ("__debug__" : PySem.Str)) = false ∧ (a == ("__classdict__" : PySem.Str)) = false ∧
      trHd NF G scope.names (fun y ss => trSs (trHS G NF y scope.names m k) ss) (h₀ :: hds) = some t.hs ∧ trSs (trs G T.g NF scope.names m k) rest = some t.rest ∧ T.lamN NF = none ∧ ∀ (s : Shared) (u : Value), BindsTo s fd ⟨[u], []⟩ [(a, u)]
theorem thg_ok (F : Fns T fa n cl) (HT : ThG T n cl G) (hF : ∀ f ad, T.hfa f = some ad → FnH T n ad cl f) (O : TOk T fa) (Z : KitOk T) (K : GtOk T fa G) {cl' : Cl} (hD : ∀ j ad t, T.tha j = some ad → T.g.thk j = some t → ThD T G ad t) (hc : ∀ j ad t, T.tha j = some ad → T.g.thk j = some t → ∀ ws st, cl' j ws st = runT T.g cl fu t ws st) : ThG T (n + 3) cl' G := by
  intro j ad t N nms Wx X q c P m params body scope pins s σ H f c' pm ctv Pr R μ envc ws st Q hta hth C hlam hna L lc htr I hf hfn hfr hco sm hs er hp
  obtain ⟨x, qual, pF, sF, fd, NF, a, p1, p2, p3, p4, h₀, hds, rest, m', k', FD, S, hm, hN0, hda, hca, hhd, hrest, hlamF, hbi⟩ := (hD j ad t hta hth).ok
  obtain ⟨oc, od, dV, kV, doc, pmF, an, cdv, ct, osl, rfl, lk, hcd, _, _⟩ := FD.ex
  rw [hc j ad t hta hth] at hp
  unfold runT at hp
  rw [hs] at hp
  have hp2 := fin_post (E := fun cls d H' => Wx cls d σ H') sm hp.wish
  have hcold := C.cold
  have rc : codeAny (model X.prog X.w) X.A (.call (.ref ad) ⟨[.ref f], []⟩) (CR (L2.CX X.prog X.w) X.stack X.prog X.w H s Q (fun cls d H' => Wx cls d σ H')) s := by
    refine LamX.run_ofS (k := n + 4) (us := [.ref f]) (vs := [.ref f]) (by rw [C.K]; exact lk) (by rw [C.K]; exact hcd) S (C.room.mono (by omega)) I.env0 (hbi _ _) (.cons rfl .nil) rfl fun hr' => ?_
    have CZ : CtxS T n NF sF.names (fun c d _ H' => Wx c d σ H') (cxOf (L2.CX X.prog X.w) X.prog X.w X.K X.mg X.base NF qual sF ad cdv X.A X.stack s H (fun cls d H' => Wx cls d σ H')) :=
      ⟨⟨⟨C.P, C.w, C.K, C.mg, C.base, rfl, S.nd, fun x kd h => ⟨kd, h, .inl rfl⟩, takes_of rfl rfl rfl rfl, fun _ _ => rfl, C.gu, by have := hr'.un; exact Nat.lt_of_le_of_lt (Nat.add_le_add_right (Nat.le_add_right _ _) 200) this⟩, rfl, hr'.mono (by omega), hcold, fun q c P h => by rw [hlamF] at h; cases h⟩, passes_of rfl, S.kind, rfl, rfl⟩
    have gs := good_trs (nms := sF.names) (N := NF) (fu := fu) F HT hF O Z K m' k'
    have hh : HotOk T n NF sF.names cl fu (fun y ss => trSs (trHS G NF y sF.names m' k') ss) := fun y suite x hx ex Wx X cH hj => snd_trHSs (T := T.att (some ex)) (good_trHS (T := T.att (some ex)) (fun f ad hf => (hF f ad hf).att) O.att K.att m' k') cH hj hx
    obtain ⟨l, hl, go⟩ := wcl_of O K CZ.c hh hhd
    have hvis : Vis sF a := by
      rcases S.par a List.mem_cons_self with q | q
      · exact .inl q
      · exact .inr (.inl q)
    have g0 := good_tr (T := T.nolam) (G := G.nolam) (N := N) F.nolam thg_nolam O.nolam Z.nolam K.nolam m scope.names body _ htr
    have hbnd : ∀ (q : PySem.Str) (cl : List (PySem.Str × Addr)) (pm cv ctv : Value), bindArgs (PySem.W.kla_fn "<lambda>" q params body scope cl pm cv ctv) ⟨[], []⟩ = pure [] := fun q cl pm cv ctv => by rw [noArgs_eq hna]; rfl
    refine ⟨_, pss_cons (ps_try_x (X := cxOf (L2.CX X.prog X.w) X.prog X.w X.K X.mg X.base NF qual sF ad cdv X.A X.stack s H (fun cls d H' => Wx cls d σ H')) rfl rfl S.nd CZ.c.takes
      (tb := fun W E0 σZ HZ => σZ[0]? = some (some (.ref f)) ∧ HZ c' = some (LamX.CodeO c' (X.env.qual ++ "<lambda>")) ∧ rdV T.nolam (fun cls d _ H' => ∀ σ', W cls d σ' H') (sem T.g cl t.e).v σ HZ (fun _ H' => E0.nx σZ H')) (fun W pn xe tk pa => ?_) hl) (snd_trSs gs CZ hrest), ?_⟩
    · refine pss_one (ps_expr (pe_lam (k := n + 3) (E := fun cls d H' => ∀ σ', W cls d σ' H') (tb := rdV T.nolam (fun cls d _ H' => ∀ σ', W cls d σ' H') (sem T.g cl t.e).v) I L hf hfn hfr (hbnd _ _ _ _ _) tk (fun cls d σ' H' h => h σ') hr' (fun s1 H1 hr2 => ?_) hN0 hvis hda hca))
      refine (g0 _ (LamX.lamCx X (X.A.deeper (envOfC qual sF s.heap.objs.size ad cdv)) (envOfC qual sF s.heap.objs.size ad cdv :: X.stack) s1 H1 (fun cls d H' => ∀ σ', W cls d σ' H') scope f c') ?_).1
      exact ⟨⟨C.P, C.w, C.K, C.mg, C.base, C.hN, C.nd, fun x kd h => ⟨kd, h, .inl rfl⟩, takes_of rfl rfl rfl rfl, fun x h => by
        have := PySem.mem_of_lookup h
        unfold lamC at lc
        have := List.all_eq_true.mp lc _ this
        simp at this, C.gu, by have := hr2.un; exact Nat.lt_of_le_of_lt (Nat.add_le_add_right (Nat.le_add_right _ _) 200) this⟩, rfl, hr2.mono (by omega), hcold, fun q c P h => by cases h⟩
    · have hst0 : (L2.start NF [V.ref f])[0]? = some (some (V.ref f)) := rfl
      have hN1 : 0 < NF.length := (List.getElem?_eq_some_iff.mp hN0).1
      have hsl : (L2.start NF [V.ref f]).length = NF.length := by
        unfold L2.start
        simp
        omega
      refine ⟨hst0, hco, Pr, R, μ, envc, st, ⟨er.al alike_nolam rfl, sm.al alike_nolam⟩, ?_⟩
      have hp3 : PostS T Pr (fun c d _ H' => Wx c d σ H') { nx := fun _ H' => Q .non H', rt := Q } R μ ((thkS T.g cl fu t envc st).bind fun f st1 => match f with
        | .nx env1 => stm T.g cl fu t.rest env1 st1
        | f => .ok f st1) := hp2
      unfold thkS at hp3
      cases hq : (sem T.g cl t.e).v envc st with
      | ok w st1 =>
        rw [hq] at hp3
        intro R1 μ1 H1 l1 s1 v rv
        exact ⟨Pr, R1, μ1, List.replicate t.m none, st1, ⟨env_none hcold (by rw [hsl, hm]), s1.al alike_unnolam⟩, PostS.le l1 hp3⟩
      | stuck => rw [hq] at hp3; exact hp3.elim
      | ex k x st1 =>
        rw [hq] at hp3
        intro R1 μ1 H1 d l1 s1 xr σ'
        refine go Pr _ k x st1 R1 μ1 σ' H1 d ?_ (s1.al alike_unnolam) (xr.al alike_unnolam)
        have hp4 := PostS.le l1 hp3
        rw [hm]
        dsimp only at hp4
        generalize stm T.g cl fu t.hs (xenv t.m k x) st1 = r at hp4 ⊢
        cases r with
        | ok fl st2 =>
          cases fl with
          | nx env1 => exact fun R2 μ2 σ2 H2 l2 b => ⟨Pr, R2, μ2, env1, st2, b, PostS.le l2 hp4⟩
          | rt w => exact hp4
          | bk env1 => exact hp4
          | ct env1 => exact hp4
        | ex k2 x2 st2 => exact hp4
        | stuck => exact hp4
  refine wpAny_call (codeAny_mono rc fun r s' hq => ?_)
  cases r with
  | error e => exact passAt C.takes σ pins H s e s' I hq
  | ok fl =>
    cases fl with
    | ret u => exact I.after hq
    | next => exact False.elim hq
    | brk => exact False.elim hq
    | cont => exact False.elim hq
/-- EVERY DEPTH -/
structure All (T : Tb) (fa : Nat → Option Addr) (G : Gt) (n : Nat) (cl : Cl) : Prop where
  F : Fns T fa n cl
  H : ∀ f ad, T.hfa f = some ad → FnH T n ad cl f
  T : ThG T n cl G
structure Prog (T : Tb) (fa : Nat → Option Addr) (G : Gt) : Prop where
  d : ∀ f d a, T.g.df f = some d → fa f = some a → d.hot = false ∧ DefOk T G a posA d
  k : ∀ f d a m ks, T.g.df f = some d → T.fk f = some (a, m, ks) → d.hot = false ∧ DefOk T G a (kwA m ks) d
  h : ∀ f a, T.hfa f = some a → ∃ d, T.g.df f = some d ∧ d.hot = true ∧ DefHOk T G a d
  t : ∀ j ad t, T.tha j = some ad → T.g.thk j = some t → ThD T G ad t ∧ T.g.df j = none
  nf : ∀ f, T.g.df f = none → fa f = none ∧ T.fk f = none
theorem fns_all (hcold : T.exa = none) (O : TOk T fa) (Z : KitOk T) (K : GtOk T fa G) (D : Prog T fa G) : ∀ k, All T fa G (3 * k) (call T.g fu k)
  | 0 => ⟨⟨fun f a ha A outer s H us vs Q E hr hgu e0 r hs => by
      obtain ⟨Pr, R, μ, ws, st, sm, rw', hp⟩ := hs
      exact hp.elim, fun f a m ks ha A outer s H us vs Q E hr hgu e0 r hs => by
      obtain ⟨Pr, R, μ, ws, st, sm, rw', hp⟩ := hs
      exact hp.elim⟩, fun f ad h A outer s H oe e Pr R μ x st Q E hr hgu e0 po hz hv xc xn sm hf hp => hp.elim, fun j ad t N nms Wx X q c P m params body scope pins s σ H f c' pm ctv Pr R μ envc ws st Q h1 h2 h3 h4 h5 h6 h7 h8 h9 h10 h11 h12 h13 h14 h15 h16 hp => hp.elim⟩
  | k + 1 => by
    have ih := fns_all hcold O Z K D k
    have eq : ∀ {f : Nat} {d : Df}, T.g.df f = some d → d.hot = false → ∀ ws st, call T.g fu (k + 1) f ws st = match fill d ws with | some ws' => run T.g (call T.g fu k) fu d ws' st | none => .stuck := fun {f d} q hh ws st => by
      show (match T.g.df f with | some d => (if d.hot then runH T.g (call T.g fu k) fu d ws st else match fill d ws with | some ws' => run T.g (call T.g fu k) fu d ws' st | none => .stuck) | none => (match T.g.thk f with | some t => runT T.g (call T.g fu k) fu t ws st | none => .stuck)) = _
      rw [q]
      dsimp only
      rw [hh]
      rfl
    refine ⟨⟨fun f a ha => ?_, fun f a m ks ha => ?_⟩, fun f ad hf => ?_, ?_⟩
    · cases q : T.g.df f with
      | none => rw [(D.nf f q).1] at ha; cases ha
      | some d =>
        obtain ⟨h1, h2⟩ := D.d f d a q ha
        exact def_ok ih.F ih.T ih.H hcold O Z K h2 (eq q h1)
    · cases q : T.g.df f with
      | none => rw [(D.nf f q).2] at ha; cases ha
      | some d =>
        obtain ⟨h1, h2⟩ := D.k f d a m ks q ha
        exact def_ok ih.F ih.T ih.H hcold O Z K h2 (eq q h1)
    · obtain ⟨d, q, h1, h2⟩ := D.h f ad hf
      exact defH_ok ih.H hcold O K h2 fun ws st => by
        show (match T.g.df f with | some d => (if d.hot then runH T.g (call T.g fu k) fu d ws st else match fill d ws with | some ws' => run T.g (call T.g fu k) fu d ws' st | none => .stuck) | none => (match T.g.thk f with | some t => runT T.g (call T.g fu k) fu t ws st | none => .stuck)) = _
        rw [q]
        dsimp only
        rw [h1]
        rfl
    · exact thg_ok ih.F ih.T ih.H O Z K (fun j ad t h1 h2 => (D.t j ad t h1 h2).1) fun j ad t h1 h2 ws st => by
        show (match T.g.df j with | some d => (if d.hot then runH T.g (call T.g fu k) fu d ws st else match fill d ws with | some ws' => run T.g (call T.g fu k) fu d ws' st | none => .stuck) | none => (match T.g.thk j with | some t => runT T.g (call T.g fu k) fu t ws st | none => .stuck)) = _
        rw [(D.t j ad t h1 h2).2]
        dsimp only
        rw [h2]
end
end Ev

/-! Hook: a program's data; what the top leaves, checked by one Boolean. -/
namespace Ev
open PySem PySem.Spec PyProof.Rows L2 He
inductive Loc where | glo (x : PySem.Str) | met (c m : PySem.Str) | prp (c m : PySem.Str) | sta (c m : PySem.Str)
  deriving DecidableEq
def prA (K : PySem.W.Frag) (c m : PySem.Str) : Addr := match PySem.W.findIn K (.ref (ga K c)) m with | some (some (.ref p)) => p | _ => 0
def Loc.adr (K : PySem.W.Frag) : Loc → Addr
  | .glo x => ga K x
  | .met c m => ma K (ga K c) m
  | .prp c m => match PySem.W.recIn K (prA K c m) "property" with | some (.ref g :: _) => g | _ => 0
  | .sta c m => He5.wf K (ga K c) "staticmethod" m
/-- a def: where, its text, its defaults, its translation -/
structure Fd where
  loc : Loc
  name : PySem.Str
  qual : PySem.Str
  st : Stmt
  N : List PySem.Str
  dfl : List C := []
  body : Sx
  keep : Bool := false
  kwo : List (PySem.Str × C) := []
  star : Bool := false
  arr : Option (Nat × List (Nat ⊕ Nat)) := none
  kw : Option (Nat × List PySem.Str) := none
  hot : Bool := false
/-- an exception class: its number, its field's name, over OverflowError or not, its __init__, the parameter -/
structure Xi where
  c : Nat
  f : Nat
  ov : Bool
  qual : PySem.Str
  st : Stmt
  v : PySem.Str
def parN (st : Stmt) : List PySem.Str := (defArgs st).args.map (·.arg) ++ ((defArgs st).vararg.toList.map (·.arg) ++ (defArgs st).kwonlyargs.map (·.arg))
def Fd.df (d : Fd) : Df := ⟨d.N.length, (parN d.st).length, d.dfl, d.body, d.keep, d.star, d.kwo.map (·.2), d.arr, d.hot⟩
def Fd.af (d : Fd) : List Value → Args := match d.kw with | none => posA | some (m, ks) => kwA m ks
structure Lw where
  names : List PySem.Str
  clss : List PySem.Str
  known : List Nat
  frz : List Nat := []
  fns : List Fd
  cons : List (PySem.Str × C)
  free : List PySem.Str
  meths : List ((Nat × Nat) × Nat)
  props : List ((Nat × Nat) × Nat)
  flds : List (Nat × Nat)
  inits : List (Nat × Nat)
  eqs : List (Nat × Nat) := []
  gets : List (Nat × Nat) := []
  lens : List (Nat × Nat) := []
  ins : List (Nat × Nat) := []
  ands : List (Nat × Nat) := []
  stas : List ((PySem.Str × PySem.Str) × Nat) := []
  /-- the numbers of the defs; the classes, the constants that are there -/
  ids : List Nat := []
  glos : List PySem.Str := []
  conp : List PySem.Str := []
  mu : Pos → Bool := fun _ => false
  /-- exceptions: the names of the classes, those with an own __init__, who is under whom -/
  xcn : List PySem.Str := []
  xis : List Xi := []
  xsubs : List ((Nat × Nat) × Bool) := []
  hotN : List (PySem.Str × Nat) := []
  /-- lambdas: number, the def that is handed it, what is run; the place of the call; the defs that make them -/
  thks : List (Nat × Nat × Th) := []
  thp : Pos → Option Nat := fun _ => none
  lamT : List (List PySem.Str × Nat) := []
  file : PySem.Str := "law.py"
def Lw.ix (L : Lw) (f : Nat) : Nat := L.ids.findIdx (· == f)
def Lw.id (L : Lw) (i : Nat) : Nat := L.ids.getD i 0
def Lw.gd (L : Lw) : Gd where
  df := fun f => (L.fns[L.ix f]?).map Fd.df
  con := fun i => (L.cons[i]?).map (·.2)
  known := fun c => L.known.contains c
  fld := fun c m => L.flds.contains (c, m)
  meth := fun c m => L.meths.lookup (c, m)
  prop := fun c m => L.props.lookup (c, m)
  init := fun c => L.inits.lookup c
  frz := fun c => L.frz.contains c
  eqm := fun c => L.eqs.lookup c
  getm := fun c => L.gets.lookup c
  lenm := fun c => L.lens.lookup c
  inm := fun c => L.ins.lookup c
  andm := fun c => L.ands.lookup c
  xsub := fun c d => L.xsubs.lookup (c, d)
  xfld := fun c => (L.xis.find? fun x => x.c == c).map Xi.f
  thk := fun j => (L.thks.lookup j).map (·.2)
def Lw.nm (L : Lw) (i : Nat) : PySem.Str := match L.names[i]? with | some x => x | none => ⟨#[0, i]⟩
def Lw.cn (L : Lw) (c : Nat) : PySem.Str := (L.clss[c]?).getD "object"
def codeAt (K : PySem.W.Frag) (a : Addr) : Addr := match K.lookup a with
  | some ⟨_, _, .func fd, _⟩ => (match fd.code with | .ref c => c | _ => 0)
  | _ => 0
def Lw.adr (L : Lw) (K : PySem.W.Frag) (f : Nat) : Addr := match L.fns[L.ix f]? with | some d => d.loc.adr K | none => 0
def Lw.qualF (L : Lw) (f : Nat) : PySem.Str := match L.fns[L.ix f]? with | some d => d.qual | none => ⟨#[]⟩
def Lw.lamC (L : Lw) (K : PySem.W.Frag) (f : Nat) : Addr × Addr := (codeAt K (L.adr K f), tabOf K (codeAt K (L.adr K f)))
def Lw.lamQ (L : Lw) (f : Nat) : PySem.Str := L.qualF f ++ ".<locals>."
def Lw.tb (L : Lw) (P : Program) (w : World) (K : PySem.W.Frag) (mg : PySem.Str → Option Value) (base : Heap) : Tb where
  P := P
  w := w
  K := K
  mg := mg
  base := base
  g := L.gd
  ca := fun c => ga K (L.cn c)
  ea := fun c => ga K (L.cn c)
  nm := L.nm
  fk := fun f => (L.fns[L.ix f]?).bind fun d => d.kw.map fun q => (d.loc.adr K, q.1, q.2)
  hfa := fun f => (L.fns[L.ix f]?).bind fun d => if d.hot then some (d.loc.adr K) else none
  lamN := fun N => (L.lamT.lookup N).map fun f => (L.lamQ f, L.lamC K f)
  tha := fun j => (L.thks.lookup j).map fun q => L.adr K q.1
  tabs := L.lamT.map fun q => ((L.lamC K q.2).2, L.lamQ q.2 ++ "<lambda>")
def Lw.fa (L : Lw) (K : PySem.W.Frag) (f : Nat) : Option Addr := (L.fns[L.ix f]?).bind fun d => if d.kw.isNone && !d.hot then some (d.loc.adr K) else none
def Lw.posF (L : Lw) (f : Nat) : Bool := match L.fns[L.ix f]? with | some d => d.kw.isNone && !d.hot | none => false
def Lw.kwIx (L : Lw) (l : Loc → Bool) (m : Nat) (ks : List PySem.Str) : Option Nat := L.fns.findIdx? fun d => l d.loc && decide (d.kw = some (m, ks))
def ixL (x : PySem.Str) (l : List PySem.Str) : Option Nat := match l.findIdx? (· == x) with | some i => if l[i]? == some x then some i else none | none => none
def Lw.gt (L : Lw) : Gt where
  fn := fun x => match L.fns.findIdx? (fun d => (match d.loc with | .glo y => y == x | _ => false) && (d.kw.isNone && !d.hot)) with
    | some i => (match L.fns[L.ix (L.id i)]? with | some d => if d.loc = .glo x ∧ d.kw = none ∧ d.hot = false then some (L.id i) else none | _ => none)
    | none => none
  cls := fun x => if L.glos.contains x then ixL x L.clss else none
  con := fun x => if L.conp.contains x then (match L.cons.findIdx? (fun d => d.1 == x) with
    | some i => (match L.cons[i]? with | some (y, _) => if y = x then some i else none | none => none)
    | none => none) else none
  nm := fun x => ixL x L.names
  free := fun x => L.free.contains x
  mu := L.mu
  kwf := fun x m ks => match L.kwIx (fun l => decide (l = .glo x)) m ks with
    | some i => (match L.fns[L.ix (L.id i)]? with | some d => if d.loc = .glo x ∧ d.kw = some (m, ks) then some (L.id i) else none | _ => none)
    | none => none
  kwc := fun x m ks => match L.kwIx (fun l => decide (l = .met x "__init__")) (m + 1) ks, (if L.glos.contains x then ixL x L.clss else none) with
    | some i, some c => (match L.fns[L.ix (L.id i)]?, L.inits.lookup c with | some d, some j => if d.loc = .met x "__init__" ∧ d.kw = some (m + 1, ks) ∧ (L.fns[L.ix j]?).map (·.loc) = some (.met x "__init__") then some (c, L.id i) else none | _, _ => none)
    | _, _ => none
  sm := fun x m => if L.glos.contains x then L.stas.lookup (x, m) else none
  xc := fun x => if L.xcn.contains x then ixL x L.clss else none
  hfn := fun x => match L.hotN.lookup x with
    | some f => (match L.fns[L.ix f]? with | some d => if d.hot = true ∧ d.loc = .glo x then some f else none | none => none)
    | none => none
  thk := fun x p => match L.thp p with
    | some j => (match L.thks.lookup j with
      | some q => (match L.fns[L.ix q.1]? with | some d => if d.loc = .glo x then some j else none | none => none)
      | none => none)
    | none => none
  lamN := fun N => (L.lamT.lookup N).isSome
/-! ### checks -/
def vOf : Value → V
  | .none => .non | .bool b => .bl b | .int i _ => .int i | .str x _ => .str x | .bytes b _ => .byt b | .float b _ => .flt b | .ref a => .ref a | .type n => .ty n | _ => .non
theorem vOf_rel {v : V} {u : Value} (r : RelV v u) : v = vOf u := by
  cases v with
  | non => cases r; rfl
  | bl b => cases r; rfl
  | int i => obtain ⟨t, rfl⟩ := r; rfl
  | str x => obtain ⟨t, rfl⟩ := r; rfl
  | byt x => obtain ⟨t, rfl⟩ := r; rfl
  | flt x => obtain ⟨t, rfl⟩ := r; rfl
  | ref a => cases r; rfl
  | ty n => cases r; rfl
def kwU (K : PySem.W.Frag) (a : Addr) (x : PySem.Str) : Option Value := match K.lookup a with
  | some ⟨_, _, .func fd, _⟩ => (match fd.kwdefaults with
    | .ref D => (match PySem.W.nsIn K D x with | some (some u) => some u | _ => none)
    | _ => none)
  | _ => none
def kvK (K : PySem.W.Frag) (a : Addr) (l : List (PySem.Str × C)) : List V := l.map fun q => match kwU K a q.1 with | some u => vOf u | none => .non
mutual
def relCB (K : PySem.W.Frag) : C → Value → Bool
  | .non, u => (match u with | .none => true | _ => false)
  | .bl b, u => (match u with | .bool c => b == c | _ => false)
  | .int i, u => (match u with | .int j _ => decide (i = j) | _ => false)
  | .str s, u => (match u with | .str y _ => decide (strV s = y) | _ => false)
  | .tup cs, u => (match u with
    | .ref a => (match K.lookup a with | some ⟨.type c, _, .seq its _, _⟩ => decide (c = "tuple") && (decide (its.size ≤ sizeLine) && relCBs K cs its.toList) | _ => false)
    | _ => false)
  | .frz cs, u => (match u with
    | .ref a => (match K.lookup a with | some ⟨.type c, none, .seq its _, _⟩ => decide (c = "list") && (decide (its.size ≤ sizeLine) && relCBs K cs its.toList) | _ => false)
    | _ => false)
  | .lst _, _ => false
  | .dct _ _, _ => false
  | .ins _ _ _, _ => false
def relCBs (K : PySem.W.Frag) : List C → List Value → Bool
  | [], us => us.isEmpty
  | c :: cs, us => (match us with | u :: us => relCB K c u && relCBs K cs us | [] => false)
end
def simV : C → Option V
  | .non => some .non | .bl b => some (.bl b) | .int i => some (.int i) | .str s => some (.str (strV s)) | _ => none
def simVs : List C → Option (List V)
  | [] => some []
  | c :: cs => match simV c, simVs cs with | some v, some vs => some (v :: vs) | _, _ => none
def kwoB (K : PySem.W.Frag) (a : Addr) (l : List (PySem.Str × C)) : Bool := l.all fun q => match kwU K a q.1 with | some u => relCB K q.2 u | none => false
def fnWa (K : PySem.W.Frag) (a : Addr) : FnW := match K.lookup a with
  | some ⟨_, _, .func fd, _⟩ => some (fd.name, fd.qualname, fd.params, fd.body, fd.scope, fd.globals, fd.closure, fd.builtins)
  | _ => none
def Fd.val (d : Fd) : FnW := some (d.name, d.qual, defArgs d.st, .stmts (defBody d.st), defScope d.st, mainGlobals, [], builtinsNs)
def eqA (a b : Option (Option Value)) : Bool := eqO a b
def fnOkB (K : PySem.W.Frag) (d : Fd) : Bool := PySem.W.keepIn K (.ref (d.loc.adr K)) && (PySem.W.isFn K (.ref (d.loc.adr K)) && (PySem.W.fnIn K (d.loc.adr K) && ((match d.loc with
    | .glo x => eqO (PySem.W.nsIn K mainGlobals x) (some (some (.ref (ga K x))))
    | _ => true) && (match K.lookup (d.loc.adr K) with
    | some ⟨_, _, .func fd, _⟩ => PySem.W.codeIn K fd.code d.qual && ((match simVs d.dfl with | some vs => dflB K fd.defaults vs | none => false) && kwoB K (d.loc.adr K) d.kwo)
    | _ => false))))
def clsOkB (K : PySem.W.Frag) (x : PySem.Str) : Bool := (Fa.cls x).ok K && (eqO (PySem.W.findIn K (.ref (ga K x)) "__class__") (some (some (.builtin "object.__class__"))) && (decide (PySem.W.takesIn K (.builtin "object.__class__") = some true) && decide (PySem.W.mroIn K (ga K x) (.type "object") = some true)))
def tys7 : List String := ["NoneType", "bool", "int", "str", "tuple", "list", "dict"]
def tysB : List Ty := [.int, .bool, .str, .lst, .tup]
section
variable (L : Lw) (K : PySem.W.Frag)
def specB (m : PySem.Str) (l : List (Nat × Nat)) : Bool := l.all fun q => L.known.contains q.1 && (L.posF q.2 && eqO (PySem.W.findIn K (.ref (ga K (L.cn q.1))) m) (some (some (.ref (L.adr K q.2)))))
def tyVK : Ty → Value
  | .int => .type "int" | .bool => .type "bool" | .str => .type "str" | .lst => .type "list" | .tup => .type "tuple" | .own c => .ref (ga K (L.cn c))
def okMeth : Bool := L.meths.all fun q => L.known.contains q.1.1 && (L.posF q.2 && eqO (PySem.W.findIn K (.ref (ga K (L.cn q.1.1))) (L.nm q.1.2)) (some (some (.ref (L.adr K q.2)))))
def okProp1 (p : Addr) (x m : PySem.Str) (a : Addr) : Bool := eqO (PySem.W.findIn K (.ref (ga K x)) m) (some (some (.ref p))) && (eqO (PySem.W.specialIn K (.ref p) "__get__") (some (some (.builtin "property.__get__"))) && (decide (PySem.W.takesIn K (.ref p) = some true) &&
    (match PySem.W.recIn K p "property" with | some (u :: _) => decide (u = .ref a) | _ => false)))
def okProp : Bool := L.props.all fun q => L.known.contains q.1.1 && (L.posF q.2 && okProp1 K (prA K (L.cn q.1.1) (L.nm q.1.2)) (L.cn q.1.1) (L.nm q.1.2) (L.adr K q.2))
def okFld : Bool := L.flds.all fun q => L.known.contains q.1 && eqO (PySem.W.findIn K (.ref (ga K (L.cn q.1))) (L.nm q.2)) (some none)
def okInit : Bool := L.inits.all fun q => L.known.contains q.1 && (L.posF q.2 && (PySem.W.makesIn K (ga K (L.cn q.1)) && (eqO (PySem.W.findIn K (.ref (ga K (L.cn q.1))) "__init__") (some (some (.ref (L.adr K q.2)))) && PySem.W.keepIn K (.ref (ga K (L.cn q.1))))))
def okEq : Bool := L.eqs.all fun q => eqO (PySem.W.findIn K (.ref (ga K (L.cn q.1))) "__ne__") (some (some (.builtin "object.__ne__"))) && tys7.all fun t => PySem.W.notFirst K (ga K (L.cn q.1)) (.type t)
def okAnd : Bool := L.ands.all fun q => PySem.W.selfFirst K (ga K (L.cn q.1))
def okKit1 (c : Nat) : Bool := tysB.all (fun t => decide (PySem.W.kitOne K (.ref (ga K (L.cn c))) (tyVK L K t) = some false)) && (L.known.all (fun c' => decide (PySem.W.kitOne K (.ref (ga K (L.cn c))) (.ref (ga K (L.cn c'))) = some (decide (c' = c)))) &&
    tys7.all (fun t => decide (PySem.W.kitOne K (.type t) (.ref (ga K (L.cn c))) = some false)))
def okCls : Bool := L.known.all fun c => clsOkB K (L.cn c)
def okHn : Bool := L.known.isEmpty || eqO (PySem.W.specialIn K (.builtin "object.__class__") "__get__") (some (some (.builtin "getset_descriptor.__get__")))
def okGlo : Bool := L.glos.all fun x => eqO (PySem.W.nsIn K mainGlobals x) (some (some (.ref (ga K x))))
def okCon : Bool := L.cons.all fun q => !L.conp.contains q.1 || match PySem.W.nsIn K mainGlobals q.1 with | some (some u) => relCB K q.2 u | _ => false
def okFree : Bool := L.free.all fun x => eqO (PySem.W.nsIn K mainGlobals x) (some none)
def okSta : Bool := L.stas.all fun q => L.posF q.2 && (decide ((L.fns[L.ix q.2]?).map (·.loc) = some (.sta q.1.1 q.1.2)) && (He5.wrapB K (ga K q.1.1) "staticmethod" "staticmethod.__get__" q.1.2 && (PySem.W.readsIn K (ga K q.1.1) (.type "type") &&
  eqO (PySem.W.specialIn K (.ref (ga K q.1.1)) "__getattribute__") (some (some (.builtin "type.__getattribute__"))))))
def Lw.ok : Bool :=
  L.fns.all (fnOkB K) && (okCls L K && (okHn L K && (okMeth L K && (okProp L K && (okFld L K && (okInit L K && (specB L K "__eq__" L.eqs && (okEq L K && (specB L K "__getitem__" L.gets && (specB L K "__len__" L.lens && (specB L K "__contains__" L.ins &&
  (specB L K "__and__" L.ands && (okAnd L K && (L.known.all (okKit1 L K) && (okGlo L K && (okCon L K && (okFree L K && okSta L K)))))))))))))))))
end
/-- of the names alone -/
def Lw.fit (L : Lw) : Bool := L.names.all (fun x => match x.cps[0]? with | some 0 => false | _ => true) && decide L.names.Nodup
section
variable {L : Lw} {P : Program} {w : World} {K : PySem.W.Frag} {mg : PySem.Str → Option Value} {base h : Heap}
theorem nm_inj (hf : L.fit = true) : ∀ i j, L.nm i = L.nm j → i = j := by
  unfold Lw.fit at hf
  obtain ⟨h1, h2⟩ := ba hf
  have nd := of_decide_eq_true h2
  have nz : ∀ i x, L.names[i]? = some x → ∀ j, x ≠ (⟨#[0, j]⟩ : PySem.Str) := fun i x hx j e => by
    have := List.all_eq_true.mp h1 x (List.mem_of_getElem? hx)
    rw [e] at this
    cases this
  intro i j e
  unfold Lw.nm at e
  cases qi : L.names[i]? with
  | none =>
    cases qj : L.names[j]? with
    | none =>
      rw [qi, qj] at e
      have : (#[0, i] : Array Nat) = #[0, j] := congrArg PySem.Str.cps e
      simpa using this
    | some y => rw [qi, qj] at e; exact absurd e.symm (nz j y qj i)
  | some x =>
    cases qj : L.names[j]? with
    | none => rw [qi, qj] at e; exact absurd e (nz i x qi j)
    | some y =>
      rw [qi, qj] at e
      have hi : i < L.names.length := by
        rcases Nat.lt_or_ge i L.names.length with h | h
        · exact h
        · rw [List.getElem?_eq_none h] at qi; cases qi
      have e2 : L.names[i]? = L.names[j]? := by rw [qi, qj]; exact congrArg some e
      exact (List.getElem?_inj hi nd).mp e2
theorem fa_of {f : Nat} (h : L.posF f = true) : L.fa K f = some (L.adr K f) := by
  unfold Lw.posF at h
  unfold Lw.fa Lw.adr
  cases q : L.fns[L.ix f]? with
  | none => rw [q] at h; cases h
  | some d =>
    rw [q] at h
    have h : (d.kw.isNone && !d.hot) = true := h
    show (if d.kw.isNone && !d.hot then some (d.loc.adr K) else none) = _
    rw [if_pos h]
theorem lookup_mem' {α β : Type} [BEq α] [LawfulBEq α] {a : α} {b : β} : ∀ {l : List (α × β)}, l.lookup a = some b → (a, b) ∈ l
  | [], h => by cases h
  | (x, y) :: l, h => by
    rw [List.lookup_cons] at h
    cases q : a == x with
    | true => rw [q] at h; cases h; rw [eq_of_beq q]; exact List.mem_cons_self
    | false => rw [q] at h; exact List.mem_cons_of_mem _ (lookup_mem' h)
theorem specB_ok {m : PySem.Str} {l : List (Nat × Nat)} (h : specB L K m l = true) {c f : Nat} (hl : l.lookup c = some f) : L.known.contains c = true ∧ L.fa K f = some (L.adr K f) ∧ PySem.W.findIn K (.ref (ga K (L.cn c))) m = some (some (.ref (L.adr K f))) := by
  have := List.all_eq_true.mp h _ (lookup_mem' hl)
  obtain ⟨h1, h2⟩ := ba this
  obtain ⟨h3, h4⟩ := ba h2
  exact ⟨h1, fa_of h3, eqO_ok h4⟩
structure OkAll (L : Lw) (K : PySem.W.Frag) : Prop where
  fn : L.fns.all (fnOkB K) = true
  cls : okCls L K = true
  hn : okHn L K = true
  meth : okMeth L K = true
  prop : okProp L K = true
  fld : okFld L K = true
  init : okInit L K = true
  eq : specB L K "__eq__" L.eqs = true
  ne : okEq L K = true
  get : specB L K "__getitem__" L.gets = true
  len : specB L K "__len__" L.lens = true
  inn : specB L K "__contains__" L.ins = true
  and : specB L K "__and__" L.ands = true
  self : okAnd L K = true
  kit : L.known.all (okKit1 L K) = true
  glo : okGlo L K = true
  con : okCon L K = true
  free : okFree L K = true
  sta : okSta L K = true
theorem ok_all (h : L.ok K = true) : OkAll L K := by
  unfold Lw.ok at h
  simp only [Bool.and_eq_true] at h
  obtain ⟨h1, h2, h3, h4, h5, h6, h7, h8, h9, h10, h11, h12, h13, h14, h15, h16, h17, h18, h19⟩ := h
  exact ⟨h1, h2, h3, h4, h5, h6, h7, h8, h9, h10, h11, h12, h13, h14, h15, h16, h17, h18, h19⟩
/-- what is said of exceptions and lambdas -/
structure ExtT (T : Tb) : Prop where
  lam : ∀ N q c P, T.lamN N = some (q, c, P) → LamX.TabB T.base T.mg c P ∧ (P, q ++ "<lambda>") ∈ T.tabs ∧ ∀ p ∈ T.tabs, p.1 = P → p.2 = q ++ "<lambda>"
  exc : ∀ c f, T.xf c = some f → XSt T c f
  xsub : ∀ c d b, T.g.xsub c d = some b → XCl T.K (T.ea c) ∧ PySem.W.kitOne T.K (.ref (T.ea c)) (.ref (T.ea d)) = some b ∧ PySem.W.exmOne T.K (.ref (T.ea c)) (.ref (T.ea d)) = some b
structure ExtG (T : Tb) (G : Gt) : Prop where
  xc : ∀ x c, G.xc x = some c → T.mg x = some (.ref (T.ea c))
  thk : ∀ x p j, G.thk x p = some j → ∃ ad, T.tha j = some ad ∧ T.mg x = some (.ref ad) ∧ PySem.W.keepIn T.K (.ref ad) = true
  lamN : ∀ N, G.lamN N = true → (T.lamN N).isSome = true
  hfn : ∀ x f, G.hfn x = some f → ∃ ad, T.hfa f = some ad ∧ T.mg x = some (.ref ad) ∧ PySem.W.keepIn T.K (.ref ad) = true
theorem tok_of (hf : L.fit = true) (o : OkAll L K) (e : ExtT (L.tb P w K mg base)) : TOk (L.tb P w K mg base) (L.fa K) where
  lam := e.lam
  exc := e.exc
  xsub := e.xsub
  inj := nm_inj hf
  fn := fun f a ha => by
    unfold Lw.fa at ha
    cases q : L.fns[L.ix f]? with
    | none => rw [q] at ha; cases ha
    | some d =>
      rw [q] at ha
      have ha : (if d.kw.isNone && !d.hot then some (d.loc.adr K) else none) = some a := ha
      split at ha
      case isFalse => cases ha
      cases ha
      have := List.all_eq_true.mp o.fn d (List.mem_of_getElem? q)
      unfold fnOkB at this
      obtain ⟨h1, h2⟩ := ba this
      obtain ⟨h3, h4⟩ := ba h2
      obtain ⟨h5, h6⟩ := ba h4
      exact ⟨h1, h3, h5⟩
  cls := fun c hc => by
    have hc : L.known.contains c = true := hc
    have hm : c ∈ L.known := by simpa using hc
    have := List.all_eq_true.mp o.cls c hm
    unfold clsOkB at this
    obtain ⟨h1, h2⟩ := ba this
    obtain ⟨h3, h4⟩ := ba h2
    obtain ⟨h5, h6⟩ := ba h4
    have hn := o.hn
    unfold okHn at hn
    have hn : eqO (PySem.W.specialIn K (.builtin "object.__class__") "__get__") (some (some (.builtin "getset_descriptor.__get__"))) = true := by
      rcases Bool.or_eq_true_iff.mp hn with z | z
      · have : L.known = [] := by simpa using z
        rw [this] at hm; cases hm
      · exact z
    exact ⟨cls_ok h1, eqO_ok h3, eqO_ok hn, of_decide_eq_true h5, of_decide_eq_true h6⟩
  meth := fun c m f h => by
    have := List.all_eq_true.mp o.meth _ (lookup_mem' (a := (c, m)) h)
    obtain ⟨h1, h2⟩ := ba this
    obtain ⟨h3, h4⟩ := ba h2
    exact ⟨h1, _, fa_of h3, eqO_ok h4⟩
  prop := fun c m f h => by
    have := List.all_eq_true.mp o.prop _ (lookup_mem' (a := (c, m)) h)
    obtain ⟨h1, h2⟩ := ba this
    obtain ⟨h3, h4⟩ := ba h2
    unfold okProp1 at h4
    obtain ⟨h5, h6⟩ := ba h4
    obtain ⟨h7, h8⟩ := ba h6
    obtain ⟨h9, h10⟩ := ba h8
    refine ⟨h1, _, _, fa_of h3, eqO_ok h5, eqO_ok h7, of_decide_eq_true h9, ?_⟩
    split at h10
    · rename_i u rest e
      exact ⟨rest, by rw [of_decide_eq_true h10] at e; exact e⟩
    · cases h10
  fld := fun c m h => by
    have h : L.flds.contains (c, m) = true := h
    have := List.all_eq_true.mp o.fld (c, m) (by simpa using h)
    obtain ⟨h1, h2⟩ := ba this
    exact ⟨h1, eqO_ok h2⟩
  init := fun c f h => by
    have := List.all_eq_true.mp o.init _ (lookup_mem' (a := c) h)
    obtain ⟨h1, h2⟩ := ba this
    obtain ⟨h3, h4⟩ := ba h2
    obtain ⟨h5, h6⟩ := ba h4
    obtain ⟨h7, h8⟩ := ba h6
    obtain ⟨d, hd⟩ : ∃ d, L.fns[L.ix f]? = some d := by
      have h3 : L.posF f = true := h3
      unfold Lw.posF at h3
      cases q : L.fns[L.ix f]? with
      | none => rw [q] at h3; cases h3
      | some d => exact ⟨d, rfl⟩
    have hk : PySem.W.isFn K (.ref (L.adr K f)) = true := by
      have := List.all_eq_true.mp o.fn d (List.mem_of_getElem? hd)
      unfold fnOkB at this
      obtain ⟨k1, k2⟩ := ba this
      obtain ⟨k3, _⟩ := ba k2
      have e : L.adr K f = d.loc.adr K := by unfold Lw.adr; rw [hd]
      rw [e]; exact k3
    exact ⟨h1, _, fa_of h3, h5, eqO_ok h7, hk, h8⟩
  eqm := fun c f h => by
    obtain ⟨h1, h2, h3⟩ := specB_ok o.eq h
    have := List.all_eq_true.mp o.ne _ (lookup_mem' (a := c) h)
    obtain ⟨h4, h5⟩ := ba this
    exact ⟨h1, ⟨_, h2, h3, eqO_ok h4⟩, fun t ht => List.all_eq_true.mp h5 t ht⟩
  getm := fun c f h => let ⟨h1, h2, h3⟩ := specB_ok o.get h; ⟨h1, _, h2, h3⟩
  lenm := fun c f h => let ⟨h1, h2, h3⟩ := specB_ok o.len h; ⟨h1, _, h2, h3⟩
  inm := fun c f h => let ⟨h1, h2, h3⟩ := specB_ok o.inn h; ⟨h1, _, h2, h3⟩
  andm := fun c f h => let ⟨h1, h2, h3⟩ := specB_ok o.and h; ⟨h1, List.all_eq_true.mp o.self _ (lookup_mem' (a := c) h), _, h2, h3⟩
theorem kit_of' (o : OkAll L K) : KitOk (L.tb P w K mg base) where
  own := fun c t hc ht => by
    have hm : c ∈ L.known := by simpa using (show L.known.contains c = true from hc)
    obtain ⟨h1, h2⟩ := ba (List.all_eq_true.mp o.kit c hm)
    obtain ⟨h3, h4⟩ := ba h2
    have bl : ∀ t ∈ tysB, PySem.W.kitOne K (.ref (ga K (L.cn c))) (tyVK L K t) = some false := fun t ht => of_decide_eq_true (List.all_eq_true.mp h1 t ht)
    cases t with
    | int => exact bl .int (by simp [tysB])
    | bool => exact bl .bool (by simp [tysB])
    | str => exact bl .str (by simp [tysB])
    | lst => exact bl .lst (by simp [tysB])
    | tup => exact bl .tup (by simp [tysB])
    | own c' =>
      have hm' : c' ∈ L.known := by simpa using (show L.known.contains c' = true from ht)
      have := of_decide_eq_true (List.all_eq_true.mp h3 c' hm')
      have e : decide (Ty.own c' = Ty.own c) = decide (c' = c) := by simp
      rw [e]
      exact this
  blt := fun s hs c hc => by
    have hm : c ∈ L.known := by simpa using (show L.known.contains c = true from hc)
    obtain ⟨h1, h2⟩ := ba (List.all_eq_true.mp o.kit c hm)
    obtain ⟨h3, h4⟩ := ba h2
    exact of_decide_eq_true (List.all_eq_true.mp h4 s hs)
mutual
theorem relCB_ok : ∀ {c : C} {u : Value}, relCB K c u = true → ∃ v, RelV v u ∧ ∀ R, RelC (L.tb P w K mg base) R c v
  | .non, u, h => by
    unfold relCB at h
    split at h
    · exact ⟨.non, rfl, fun _ => rfl⟩
    · cases h
  | .bl b, u, h => by
    unfold relCB at h
    split at h
    · exact ⟨.bl b, by rw [eq_of_beq h]; rfl, fun _ => rfl⟩
    · cases h
  | .int i, u, h => by
    unfold relCB at h
    split at h
    · exact ⟨.int i, ⟨_, by rw [of_decide_eq_true h]⟩, fun _ => rfl⟩
    · cases h
  | .str s, u, h => by
    unfold relCB at h
    split at h
    · exact ⟨.str (strV s), ⟨_, by rw [of_decide_eq_true h]⟩, fun _ => rfl⟩
    · cases h
  | .tup cs, u, h => by
    unfold relCB at h
    split at h
    · split at h
      · rename_i a _ c dd its k sl e
        obtain ⟨h1, h2⟩ := ba h
        obtain ⟨h3, h4⟩ := ba h2
        obtain ⟨vs, r1, r2⟩ := relCBs_ok h4
        exact ⟨.ref a, rfl, fun R => ⟨a, vs, rfl, .inr ⟨_, its, k, e, congrArg Value.type (of_decide_eq_true h1), rfl, of_decide_eq_true h3, r1⟩, r2 R⟩⟩
      · cases h
    · cases h
  | .frz cs, u, h => by
    unfold relCB at h
    split at h
    · split at h
      · rename_i a _ c its k sl e
        obtain ⟨h1, h2⟩ := ba h
        obtain ⟨h3, h4⟩ := ba h2
        obtain ⟨vs, r1, r2⟩ := relCBs_ok h4
        exact ⟨.ref a, rfl, fun R => ⟨a, vs, rfl, .inr ⟨_, its, k, e, congrArg Value.type (of_decide_eq_true h1), rfl, rfl, of_decide_eq_true h3, r1⟩, r2 R⟩⟩
      · cases h
    · cases h
  | .lst _, u, h => by unfold relCB at h; cases h
  | .dct _ _, u, h => by unfold relCB at h; cases h
  | .ins _ _ _, u, h => by unfold relCB at h; cases h
theorem relCBs_ok : ∀ {cs : List C} {us : List Value}, relCBs K cs us = true → ∃ vs, Vals vs us ∧ ∀ R, RelCs (L.tb P w K mg base) R cs vs
  | [], us, h => by
    unfold relCBs at h
    cases us with
    | nil => exact ⟨[], .nil, fun _ => rfl⟩
    | cons _ _ => cases h
  | c :: cs, us, h => by
    unfold relCBs at h
    cases us with
    | nil => cases h
    | cons u us =>
      obtain ⟨h1, h2⟩ := ba h
      obtain ⟨v, r1, r2⟩ := relCB_ok h1
      obtain ⟨vs, r3, r4⟩ := relCBs_ok h2
      exact ⟨v :: vs, .cons r1 r3, fun R => ⟨v, vs, rfl, r2 R, r4 R⟩⟩
end
theorem ixL_ok {x : PySem.Str} {l : List PySem.Str} {i : Nat} (h : ixL x l = some i) : l[i]? = some x := by
  unfold ixL at h
  split at h
  · split at h
    · rename_i q; cases h; exact beq_iff_eq.mp q
    · cases h
  · cases h
theorem fn_at (o : OkAll L K) {f : Nat} {d : Fd} (q : L.fns[L.ix f]? = some d) : (match d.loc with | .glo x => eqO (PySem.W.nsIn K mainGlobals x) (some (some (.ref (ga K x)))) | _ => true) = true ∧ PySem.W.keepIn K (.ref (d.loc.adr K)) = true := by
  have := List.all_eq_true.mp o.fn _ (List.mem_of_getElem? q)
  unfold fnOkB at this
  obtain ⟨h1, h2⟩ := ba this
  obtain ⟨h3, h4⟩ := ba h2
  obtain ⟨h5, h6⟩ := ba h4
  obtain ⟨h7, h8⟩ := ba h6
  exact ⟨h7, h1⟩
theorem gt_of (O : TOk (L.tb P w K mg base) (L.fa K)) (e : ExtG (L.tb P w K mg base) L.gt) (o : OkAll L K) (X : K.In h) (N : h.Ns mainGlobals mg) : GtOk (L.tb P w K mg base) (L.fa K) L.gt where
  xc := e.xc
  thk := e.thk
  lamN := e.lamN
  hfn := e.hfn
  fn := fun x f hf => by
    have hf : (match L.fns.findIdx? (fun d => (match d.loc with | .glo y => y == x | _ => false) && (d.kw.isNone && !d.hot)) with
      | some i => (match L.fns[L.ix (L.id i)]? with | some d => if d.loc = .glo x ∧ d.kw = none ∧ d.hot = false then some (L.id i) else none | _ => none)
      | none => none) = some f := hf
    split at hf
    · split at hf
      · rename_i i _ d q
        split at hf
        · rename_i e
          cases hf
          obtain ⟨h7, _⟩ := fn_at o q
          refine ⟨d.loc.adr K, by unfold Lw.fa; rw [q]; simp [e.2.1, e.2.2], ?_⟩
          rw [e.1] at h7 ⊢
          exact PySem.W.mg_of X N (eqO_ok h7)
        · cases hf
      · cases hf
    · cases hf
  cls := fun x c hc => by
    have hc : (if L.glos.contains x then ixL x L.clss else none) = some c := hc
    split at hc
    case isFalse => cases hc
    rename_i hx
    have e := ixL_ok hc
    have := List.all_eq_true.mp o.glo x (by simpa using hx)
    have e2 : L.cn c = x := by unfold Lw.cn; rw [e]; rfl
    show mg x = some (.ref (ga K (L.cn c)))
    rw [e2]
    exact PySem.W.mg_of X N (eqO_ok this)
  con := fun x i hi => by
    have hi : (if L.conp.contains x then (match L.cons.findIdx? (fun d => d.1 == x) with
      | some i => (match L.cons[i]? with | some (y, _) => if y = x then some i else none | none => none)
      | none => none) else none) = some i := hi
    split at hi
    case isFalse => cases hi
    rename_i hxp
    split at hi
    · split at hi
      · rename_i i' _ y c q
        split at hi
        · rename_i e
          cases hi
          subst e
          have := List.all_eq_true.mp o.con _ (List.mem_of_getElem? q)
          rcases Bool.or_eq_true_iff.mp this with this | this
          · simp only [Bool.not_eq_true'] at this
            rw [this] at hxp; cases hxp
          dsimp only at this
          split at this
          · rename_i u e
            obtain ⟨v, r1, r2⟩ := relCB_ok (L := L) (P := P) (w := w) (mg := mg) (base := base) this
            exact ⟨v, u, c, PySem.W.mg_of X N e, r1, by show (L.cons[i]?).map (·.2) = some c; rw [q]; rfl, r2⟩
          · cases this
        · cases hi
      · cases hi
    · cases hi
  nm := fun x i hi => by
    have e := ixL_ok hi
    show L.nm i = x
    unfold Lw.nm
    rw [e]
  free := fun x hx => by
    have hx : L.free.contains x = true := hx
    have := List.all_eq_true.mp o.free x (by simpa using hx)
    exact PySem.W.mg_none_of X N (eqO_ok this)
  kwf := fun x m ks f hf => by
    have hf : (match L.kwIx (fun l => decide (l = .glo x)) m ks with
      | some i => (match L.fns[L.ix (L.id i)]? with | some d => if d.loc = .glo x ∧ d.kw = some (m, ks) then some (L.id i) else none | _ => none)
      | none => none) = some f := hf
    split at hf
    · split at hf
      · rename_i i _ d q
        split at hf
        · rename_i e
          cases hf
          obtain ⟨h7, h1⟩ := fn_at o q
          refine ⟨d.loc.adr K, ?_, ?_, h1⟩
          · show Option.bind (L.fns[L.ix _]?) (fun d => d.kw.map fun q => (d.loc.adr K, q.1, q.2)) = _
            rw [q]
            show (d.kw.map fun q => (d.loc.adr K, q.1, q.2)) = _
            rw [e.2]; rfl
          · rw [e.1] at h7 ⊢
            exact PySem.W.mg_of X N (eqO_ok h7)
        · cases hf
      · cases hf
    · cases hf
  kwc := fun x m ks c f hf => by
    have hf : (match L.kwIx (fun l => decide (l = .met x "__init__")) (m + 1) ks, (if L.glos.contains x then ixL x L.clss else none) with
      | some i, some c => (match L.fns[L.ix (L.id i)]?, L.inits.lookup c with | some d, some j => if d.loc = .met x "__init__" ∧ d.kw = some (m + 1, ks) ∧ (L.fns[L.ix j]?).map (·.loc) = some (.met x "__init__") then some (c, L.id i) else none | _, _ => none)
      | _, _ => none) = some (c, f) := hf
    split at hf
    · rename_i i c' _ hc
      split at hf
      · rename_i d j q hj
        split at hf
        · rename_i e
          cases hf
          obtain ⟨e1, e2, e3⟩ := e
          split at hc
          case isFalse => cases hc
          rename_i hx
          have ec := ixL_ok hc
          have hcn : L.cn c = x := by unfold Lw.cn; rw [ec]; rfl
          have hg := List.all_eq_true.mp o.glo x (by simpa using hx)
          obtain ⟨_, ad, hfa, M⟩ := O.init c j hj
          have had : ad = d.loc.adr K := by
            have hfa : ((L.fns[L.ix j]?).bind fun d => if d.kw.isNone && !d.hot then some (d.loc.adr K) else none) = some ad := hfa
            cases qj : L.fns[L.ix j]? with
            | none => rw [qj] at e3; cases e3
            | some dj =>
              rw [qj] at e3 hfa
              have e3 : some dj.loc = some (.met x "__init__") := e3
              have hfa : (if dj.kw.isNone && !dj.hot then some (dj.loc.adr K) else none) = some ad := hfa
              split at hfa
              · cases hfa
                injection e3 with e3
                rw [e3, e1]
              · cases hfa
          refine ⟨ad, ?_, ?_, M⟩
          · show ((L.fns[L.ix (L.id i)]?).bind fun d => d.kw.map fun q => (d.loc.adr K, q.1, q.2)) = _
            rw [q]
            show (d.kw.map fun q => (d.loc.adr K, q.1, q.2)) = _
            rw [e2, had]; rfl
          · show mg x = some (.ref (ga K (L.cn c)))
            rw [hcn]
            exact PySem.W.mg_of X N (eqO_ok hg)
        · cases hf
      · cases hf
    · cases hf
  sm := fun x m f hf => by
    have hf : (if L.glos.contains x then L.stas.lookup (x, m) else none) = some f := hf
    split at hf
    · rename_i hx
      have := List.all_eq_true.mp o.sta _ (lookup_mem' hf)
      obtain ⟨h1, h2⟩ := ba this
      obtain ⟨h3, h4⟩ := ba h2
      obtain ⟨h5, h6⟩ := ba h4
      obtain ⟨h7, h8⟩ := ba h6
      have h3 := of_decide_eq_true h3
      obtain ⟨k1, k2⟩ := He5.wrapB_ok h5
      have hg := List.all_eq_true.mp o.glo x (by simpa using hx)
      refine ⟨L.adr K f, ga K x, _, .type "type", fa_of h1, PySem.W.mg_of X N (eqO_ok hg), k1, ?_, h7, eqO_ok h8⟩
      have ea : L.adr K f = He5.wf K (ga K x) "staticmethod" m := by
        unfold Lw.adr
        cases q : L.fns[L.ix f]? with
        | none => rw [q] at h3; cases h3
        | some d =>
          rw [q] at h3
          have h3 : some d.loc = some (.sta x m) := h3
          injection h3 with h3
          show d.loc.adr K = _
          rw [h3]; rfl
      rw [ea]
      exact k2
    · cases hf
end
end Ev

/-! Hex: what the top leaves of exceptions and of the makers of lambdas. -/
namespace Ev
open PySem PySem.Spec PyProof.Rows L2 He
/-! ### exceptions -/
def bmX (ov : Bool) : List Value := if ov then [.type "OverflowError", .type "ArithmeticError", .type "Exception", .type "BaseException", .type "object"] else [.type "ValueError", .type "Exception", .type "BaseException", .type "object"]
def bX (ov : Bool) : String := if ov then "OverflowError" else "ValueError"
def newX (ov : Bool) : String := if ov then "OverflowError.__new__" else "ValueError.__new__"
def iniX (ov : Bool) : String := if ov then "OverflowError.__init__" else "ValueError.__init__"
theorem factsX (ov : Bool) : ExcBaseFacts (bX ov) (newX ov) (iniX ov) (bmX ov) ∧ PySem.W.KxsFacts (bX ov) (iniX ov) ∧ StoreFacts (bX ov) (bmX ov) "object.__setattr__" "object" := by
  cases ov
  · exact ⟨PySem.F.excBase_ValueError, PySem.W.kxs_ValueError, F.store_ValueError⟩
  · exact ⟨PySem.F.excBase_OverflowError, PySem.W.kxs_OverflowError, F.store_OverflowError⟩
section
variable (L : Lw) (K : PySem.W.Frag)
def xiC (x : Xi) : Addr := ga K (L.cn x.c)
def xiA (x : Xi) : Addr := match PySem.W.findIn K (.ref (xiC L K x)) "__init__" with | some (some (.ref f)) => f | _ => 0
def xiCc (x : Xi) : Addr := match K.lookup (xiA L K x) with | some ⟨_, _, .func fd, _⟩ => (match fd.closure with | [(_, cc)] => cc | _ => 0) | _ => 0
def fileB (K : PySem.W.Frag) (file : PySem.Str) : Value → Bool
  | .ref cda => (match K.lookup cda with
    | some ⟨_, _, .fields vs, _⟩ => (match (vs[2]? : Option Value) with | some (.str f _) => file == f | _ => false)
    | _ => false)
  | _ => false
/-- the def as it stands, its cell's place left out -/
def noClo : FnW → FnW
  | some (a, b, c, d, e, f, g, h) => some (a, b, c, d, e, f, g.map fun q => (q.1, 0), h)
  | none => none
def Xi.val (x : Xi) : FnW := some ("__init__", x.qual, defArgs x.st, .stmts (defBody x.st), defScope x.st, mainGlobals, [("__class__", 0)], builtinsNs)
def okXi (x : Xi) : Bool := eqO (PySem.W.findIn K (.ref (xiC L K x)) "__init__") (some (some (.ref (xiA L K x)))) && (PySem.W.isFn K (.ref (xiA L K x)) && ((match K.lookup (xiCc L K x) with
    | some ⟨_, _, .cell (some (.ref C')), _⟩ => C' == xiC L K x
    | _ => false) && ((match K.lookup (xiA L K x) with
    | some ⟨_, _, .func fd, _⟩ => PySem.W.codeIn K fd.code x.qual && (dflB K fd.defaults [] && fileB K L.file fd.code)
    | _ => false) && (PySem.W.excInitIn K (xiC L K x) (bmX x.ov) (newX x.ov) && (PySem.W.excOver K (xiC L K x) (bmX x.ov) && (eqO (PySem.W.ks_superIn K (xiC L K x) (xiC L K x) "__init__") (some (some (.builtin (iniX x.ov)))) &&
    (decide (PySem.W.subIn K (.ref (xiC L K x)) (.type (bX x.ov)) = some true) && (decide (PySem.W.mroIn K (xiC L K x) (.ref (xiC L K x)) = some true) && (eqO (PySem.W.findIn K (.ref (xiC L K x)) "__setattr__") (some (some (.builtin "object.__setattr__"))) &&
    (eqO (PySem.W.findIn K (.ref (xiC L K x)) (L.nm x.f)) (some none) && (((PySem.W.clsIn K (xiC L K x)).any fun cd => cd.hasDict) && (PySem.W.keepIn K (.ref (xiC L K x)) && (decide (PySem.W.subIn K (.ref (xiC L K x)) (.type "BaseException") = some true) &&
    eqO (some (PySem.W.typeIn K (.ref (xiC L K x)))) (some (some (.type "type"))))))))))))))))
def okXs : Bool := L.xis.isEmpty || (eqO (PySem.W.nsIn K cStatics "thirdparty.any") (some none) && eqO (PySem.W.nsIn K mainGlobals "super") (some none))
def okXsub : Bool := L.xsubs.all fun q => (PySem.W.clsIn K (ga K (L.cn q.1.1))).isSome && (eqO (PySem.W.findIn K (.ref (ga K (L.cn q.1.1))) "__getattribute__") (some (some (.builtin "BaseException.__getattribute__"))) && (eqO (PySem.W.findIn K (.ref (ga K (L.cn q.1.1))) "__getattr__") (some none) &&
  (decide (PySem.W.subIn K (.ref (ga K (L.cn q.1.1))) (.type "BaseException") = some true) && (PySem.W.hasDictIn K (ga K (L.cn q.1.1)) && (eqO (PySem.W.findIn K (.ref (ga K (L.cn q.1.1))) "__class__") (some (some (.builtin "object.__class__"))) &&
  (eqO (PySem.W.specialIn K (.builtin "object.__class__") "__get__") (some (some (.builtin "getset_descriptor.__get__"))) && (decide (PySem.W.takesIn K (.builtin "object.__class__") = some true) && (decide (PySem.W.mroIn K (ga K (L.cn q.1.1)) (.type "object") = some true) &&
  (eqO (some (PySem.W.typeIn K (.ref (ga K (L.cn q.1.1))))) (some (some (.type "type"))) && (decide (PySem.W.kitOne K (.ref (ga K (L.cn q.1.1))) (.ref (ga K (L.cn q.1.2))) = some q.2) && decide (PySem.W.exmOne K (.ref (ga K (L.cn q.1.1))) (.ref (ga K (L.cn q.1.2))) = some q.2)))))))))))
def okXcn : Bool := L.xcn.all fun x => eqO (PySem.W.nsIn K mainGlobals x) (some (some (.ref (ga K x))))
/-- the makers' tables: not in K, no two alike -/
def okLam : Bool := L.lamT.all fun q => PySem.W.codeHdIn K (L.lamC K q.2).1 (L.lamC K q.2).2 && ((K.lookup (L.lamC K q.2).2).isNone && L.lamT.all fun r => r.2 == q.2 || (L.lamC K r.2).2 != (L.lamC K q.2).2)
def Lw.okX : Bool := L.xis.all (okXi L K) && (okXs L K && (okXsub L K && (okXcn L K && okLam L K)))
end
/-- what is told of such an __init__ by its text alone -/
structure XiOk (L : Lw) (P : Program) (x : Xi) : Prop where
  file : ((P.main.file : PySem.Str) == L.file) = true
  top : (P.main.scope.names.lookup ("super" : PySem.Str)).isSome = false
  body : ∃ (p0 p1 p2 p3 p4 p5 p6 p7 p8 p9 : Pos) (k : Nat) (text : PySem.Str), (p2.endLine == p4.line) = true ∧ defBody x.st = xiBody p0 p1 p2 p3 p4 p5 p6 p7 p8 p9 k text (L.nm x.f) x.v
  bind : ∀ (kV doc pm : Value) (an : Option Addr) (cdv ct : Value) (cc : Addr) (a b : Value), bindArgs (PySem.W.ksFn "__init__" x.qual (defArgs x.st) (defBody x.st) (defScope x.st) .none kV doc pm an cdv ct cc) ⟨[a, b], []⟩ = pure [(("self" : PySem.Str), a), (x.v, b)]
  head : ∃ ar : Arg, ((defArgs x.st).posonlyargs ++ (defArgs x.st).args).head? = some ar ∧ ar.arg = "self"
  ks : (defScope x.st).names.lookup ("super" : PySem.Str) = some .globalImplicit
  kc : (defScope x.st).names.lookup ("__class__" : PySem.Str) = some .free
  ka : (defScope x.st).names.lookup ("self" : PySem.Str) = some .local
  kv : (defScope x.st).names.lookup x.v = some .local
  vs : x.v ≠ "self"
  vd : (x.v == ("__debug__" : PySem.Str)) = false
  nc : ∀ y ∈ (defScope x.st).names, y.2 ≠ .cell
  k : (defScope x.st).kind = .function
  co : (defScope x.st).isCoroutine = false
  gen : (defScope x.st).isGenerator = false
section
variable {L : Lw} {P : Program} {w : World} {K : PySem.W.Frag} {mg : PySem.Str → Option Value} {base : Heap}
theorem xst_of {x : Xi} (e : noClo (fnWa K (xiA L K x)) = x.val) (c : okXi L K x = true) (cs : (eqO (PySem.W.nsIn K cStatics "thirdparty.any") (some none) && eqO (PySem.W.nsIn K mainGlobals "super") (some none)) = true) (o : XiOk L P x) : XSt (L.tb P w K mg base) x.c (L.nm x.f) := by
  unfold okXi at c
  simp only [Bool.and_eq_true] at c
  obtain ⟨c1, c2, c3, c4, c5, c6, c7, c8, c9, c10, c11, c12, c13, c14, c15⟩ := c
  obtain ⟨d1, d2⟩ := ba cs
  obtain ⟨F1, F2, F3⟩ := factsX x.ov
  obtain ⟨p0, p1, p2, p3, p4, p5, p6, p7, p8, p9, k, text, hl, hb⟩ := o.body
  cases q : K.lookup (xiA L K x) with
  | none => rw [q] at c4; cases c4
  | some ob =>
    obtain ⟨oc, od, dt, osl⟩ := ob
    cases dt with
    | func fd =>
      unfold fnWa at e
      have hcc : xiCc L K x = (match fd.closure with | [(_, cc)] => cc | _ => 0) := by unfold xiCc; rw [q]
      rw [hcc] at c3
      rw [q] at c4 e
      obtain ⟨n1, n2, n3, n4, n5, n6, n7, n8, n9, n10, n11, n12, n13, n14, n15⟩ := fd
      have e2 : (some (n1, n2, n3, n4, n5, n6, n7.map fun q => (q.1, 0), n15) : FnW) = some (("__init__" : PySem.Str), x.qual, defArgs x.st, .stmts (defBody x.st), defScope x.st, mainGlobals, [(("__class__" : PySem.Str), 0)], builtinsNs) := e
      simp only [Option.some.injEq, Prod.mk.injEq] at e2
      obtain ⟨h1, h2, h3, h4, h5, h6, h7, h8⟩ := e2
      subst h1 h2 h3 h4 h5 h6 h8
      have c4 : (PySem.W.codeIn K n13 x.qual && (dflB K n8 [] && fileB K L.file n13)) = true := by simpa only [Bool.and_eq_true] using c4
      obtain ⟨k1, k2⟩ := ba c4
      obtain ⟨k2, k3⟩ := ba k2
      have hn8 : n8 = .none := by
        unfold dflB at k2
        cases n8 with
        | none => rfl
        | _ => cases k2
      subst hn8
      match n7, h7, c3 with
      | [(nm, cc)], h7, c3 =>
        have h7 : [(nm, 0)] = [(("__class__" : PySem.Str), (0 : Addr))] := h7
        have hnm : nm = "__class__" := by simpa using h7
        subst hnm
        have c3 : (match K.lookup cc with
          | some ⟨_, _, .cell (some (.ref C')), _⟩ => C' == xiC L K x
          | _ => false) = true := c3
        cases n13 with
        | ref cda =>
          unfold fileB at k3
          dsimp only at k3
          refine ⟨_, _, _, _, xiA L K x, cda, cc, defArgs x.st, defBody x.st, defScope x.st, x.qual, x.v, p0, p1, p2, p3, p4, p5, p6, p7, p8, p9, k, text, ⟨F1, F2, F3, c5, c6, eqO_ok c7, of_decide_eq_true c8, of_decide_eq_true c9, eqO_ok d1, eqO_ok c10, eqO_ok c11, ?_⟩,
            ⟨⟨oc, od, _, _, _, _, _, _, osl, q, fun a b => o.bind _ _ _ _ _ _ _ a b⟩, k1, ?_, ?_, o.head, o.ks, o.kc, o.ka, o.kv, o.vs, o.vd, o.nc, o.k, o.co, o.gen, o.top, eqO_ok d2, c2⟩, hl, hb, eqO_ok c1, c13, of_decide_eq_true c14, Option.some.inj (eqO_ok c15)⟩
          · obtain ⟨cd, h1, h2⟩ := (Option.any_eq_true _ _).mp c12
            exact ⟨cd, h1, h2⟩
          · split at k3
            · rename_i ccl cdd vs ccs q1
              split at k3
              · rename_i file tf q2
                refine ⟨_, _, _, _, file, tf, q1, q2, ?_⟩
                show ((P.main.file : PySem.Str) == file) = true
                rw [beq_iff_eq.mp o.file]; exact k3
              · cases k3
            · cases k3
          · split at c3
            · rename_i cl cld C' csl q1
              have : C' = xiC L K x := by simpa using c3
              subst this
              exact ⟨_, _, _, q1⟩
            · cases c3
        | _ => cases k1
    | _ => rw [q] at c4; cases c4
/-- what is told of the makers by the statics: at the heap the tables are empty, the code objects stand -/
theorem extT_of (hX : L.xis.map (fun x => noClo (fnWa K (xiA L K x))) = L.xis.map Xi.val) (o : L.okX K = true) (hP : ∀ x ∈ L.xis, XiOk L P x) (hT : ∀ q ∈ L.lamT, LamX.TabB base mg (L.lamC K q.2).1 (L.lamC K q.2).2) : ExtT (L.tb P w K mg base) := by
  unfold Lw.okX at o
  simp only [Bool.and_eq_true] at o
  obtain ⟨o1, o2, o3, o4, o5⟩ := o
  refine ⟨fun N q c P' h => ?_, fun c f h => ?_, fun c d b h => ?_⟩
  · have h : (L.lamT.lookup N).map (fun f => (L.lamQ f, L.lamC K f)) = some (q, c, P') := h
    cases z : L.lamT.lookup N with
    | none => rw [z] at h; cases h
    | some f =>
      rw [z] at h
      have h : (L.lamQ f, L.lamC K f) = (q, c, P') := Option.some.inj h
      have hm := lookup_mem' z
      have h1 : L.lamQ f = q := congrArg (·.1) h
      have h2 : L.lamC K f = (c, P') := congrArg (·.2) h
      have tb := hT _ hm
      dsimp only at tb
      rw [h2] at tb
      refine ⟨tb, ?_, fun p hp e => ?_⟩
      · refine List.mem_map.mpr ⟨_, hm, ?_⟩
        dsimp only
        rw [h1, h2]
      · obtain ⟨r, hr, rfl⟩ := List.mem_map.mp hp
        have := List.all_eq_true.mp o5 _ hm
        obtain ⟨_, this⟩ := ba this
        obtain ⟨_, this⟩ := ba this
        have := List.all_eq_true.mp this r hr
        dsimp only at this e ⊢
        rcases Bool.or_eq_true_iff.mp this with y | y
        · rw [beq_iff_eq.mp y, h1]
        · rw [h2] at y
          rw [e] at y
          simp at y
  · have h : ((L.xis.find? fun x => x.c == c).map Xi.f).map L.nm = some f := h
    cases z : L.xis.find? fun x => x.c == c with
    | none => rw [z] at h; cases h
    | some x =>
      rw [z] at h
      cases h
      have hm := List.mem_of_find?_eq_some z
      have hc : x.c = c := by simpa using List.find?_some z
      subst hc
      have hne : (L.xis.isEmpty) = false := by
        cases y : L.xis with
        | nil => rw [y] at hm; cases hm
        | cons _ _ => rfl
      unfold okXs at o2
      rw [hne, Bool.false_or] at o2
      obtain ⟨i, hi, ei⟩ := List.mem_iff_getElem.mp hm
      have e1 : (L.xis.map (fun x => noClo (fnWa K (xiA L K x))))[i]? = (L.xis.map Xi.val)[i]? := by rw [hX]
      rw [List.getElem?_map, List.getElem?_map, List.getElem?_eq_getElem hi, ei] at e1
      exact xst_of (Option.some.inj e1) (List.all_eq_true.mp o1 x hm) o2 (hP x hm)
  · have h : L.xsubs.lookup (c, d) = some b := h
    have := List.all_eq_true.mp o3 _ (lookup_mem' h)
    simp only [Bool.and_eq_true] at this
    obtain ⟨c1, c2, c3, c4, c5, c6, c7, c8, c9, c10, c11, c12⟩ := this
    exact ⟨⟨c1, eqO_ok c2, eqO_ok c3, of_decide_eq_true c4, c5, eqO_ok c6, eqO_ok c7, of_decide_eq_true c8, of_decide_eq_true c9, Option.some.inj (eqO_ok c10)⟩, of_decide_eq_true c11, of_decide_eq_true c12⟩
theorem extG_of {h : Heap} (X : K.In h) (N : h.Ns mainGlobals mg) (o : OkAll L K) (ox : L.okX K = true) : ExtG (L.tb P w K mg base) L.gt := by
  unfold Lw.okX at ox
  simp only [Bool.and_eq_true] at ox
  obtain ⟨o1, o2, o3, o4, o5⟩ := ox
  refine ⟨fun x c hc => ?_, fun x p j hj => ?_, fun M hM => ?_, fun x f hf => ?_⟩
  · have hc : (if L.xcn.contains x then ixL x L.clss else none) = some c := hc
    split at hc
    case isFalse => cases hc
    rename_i hx
    have e := ixL_ok hc
    have := List.all_eq_true.mp o4 x (by simpa using hx)
    have e2 : L.cn c = x := by unfold Lw.cn; rw [e]; rfl
    show mg x = some (.ref (ga K (L.cn c)))
    rw [e2]
    exact PySem.W.mg_of X N (eqO_ok this)
  · have hj : (match L.thp p with
      | some j => (match L.thks.lookup j with
        | some q => (match L.fns[L.ix q.1]? with | some d => if d.loc = .glo x then some j else none | none => none)
        | none => none)
      | none => none) = some j := hj
    split at hj
    · split at hj
      · split at hj
        · split at hj
          · rename_i j' _ q hq _ d hd hl
            cases hj
            obtain ⟨h7, h1⟩ := fn_at o hd
            refine ⟨d.loc.adr K, ?_, ?_, h1⟩
            · show (L.thks.lookup j).map (fun q => L.adr K q.1) = _
              rw [hq]
              show some (L.adr K q.1) = _
              unfold Lw.adr
              rw [hd]
            · rw [hl] at h7 ⊢
              exact PySem.W.mg_of X N (eqO_ok h7)
          · cases hj
        · cases hj
      · cases hj
    · cases hj
  · have hM : (L.lamT.lookup M).isSome = true := hM
    show ((L.lamT.lookup M).map fun f => (L.lamQ f, L.lamC K f)).isSome = true
    rw [Option.isSome_map]; exact hM
  · have hf : (match L.hotN.lookup x with
      | some f => (match L.fns[L.ix f]? with | some d => if d.hot = true ∧ d.loc = .glo x then some f else none | none => none)
      | none => none) = some f := hf
    split at hf
    · split at hf
      · split at hf
        · rename_i f' _ _ d hd hl
          cases hf
          obtain ⟨h7, h1⟩ := fn_at o hd
          refine ⟨d.loc.adr K, ?_, ?_, h1⟩
          · show ((L.fns[L.ix f]?).bind fun d => if d.hot then some (d.loc.adr K) else none) = _
            rw [hd]
            show (if d.hot then some (d.loc.adr K) else none) = _
            rw [hl.1]; rfl
          · rw [hl.2] at h7 ⊢
            exact PySem.W.mg_of X N (eqO_ok h7)
        · cases hf
      · cases hf
    · cases hf
end
end Ev

/-! End: from the plain claim to the law. -/
namespace Ev
open PySem PySem.Spec PyProof.Rows L2 He
/-! ### the hook -/
def vlE (L : Lw) : List FnW × Bool := (L.fns.map Fd.val ++ L.xis.map Xi.val, true)
def rowsK (L : Lw) (K : PySem.W.Frag) : List FnW := L.fns.map (fun d => fnWa K (d.loc.adr K)) ++ L.xis.map (fun x => noClo (fnWa K (xiA L K x)))
def obK (L : Lw) (K : PySem.W.Frag) : List FnW × Bool := (rowsK L K, L.ok K && L.okX K)
/-- the tables of the makers of lambdas are empty -/
def tabsE (L : Lw) (K : PySem.W.Frag) (g : Addr → Option Obj) : Bool := L.lamT.all fun q => match g (L.lamC K q.2).2 with | some o => emptyTab o | none => false
def obE (n : Nat) (L : Lw) (g : Addr → Option Obj) : List FnW × Bool := (rowsK L (frT g (cStatics :: asD g n)), (L.ok (frT g (cStatics :: asD g n)) && L.okX (frT g (cStatics :: asD g n))) && tabsE L (frT g (cStatics :: asD g n)) g)
theorem obE_of {n : Nat} {L : Lw} {g : Addr → Option Obj} (e : obE n L g = vlE L) : obK L (frT g (cStatics :: asD g n)) = vlE L ∧ ∀ q ∈ L.lamT, g (L.lamC (frT g (cStatics :: asD g n)) q.2).2 = some { cls := .none, data := .fields #[] } := by
  have e1 : rowsK L (frT g (cStatics :: asD g n)) = L.fns.map Fd.val ++ L.xis.map Xi.val := congrArg (·.1) e
  have e2 : ((L.ok (frT g (cStatics :: asD g n)) && L.okX (frT g (cStatics :: asD g n))) && tabsE L (frT g (cStatics :: asD g n)) g) = true := congrArg (·.2) e
  obtain ⟨h1, h2⟩ := ba e2
  refine ⟨by unfold obK vlE; rw [e1, h1], fun q hq => ?_⟩
  have := List.all_eq_true.mp h2 q hq
  split at this
  · rename_i o ho
    rw [ho, emptyTab_eq this]
  · cases this
def hkE (n : Nat) (L : Lw) : PySem.W.Hook where
  α := List FnW × Bool
  obs := fun s => obE n L s.heap.get?
  val := fun _ => vlE L
  says := fun _ h => ∃ K : PySem.W.Frag, K.In h ∧ obK L K = vlE L ∧ ∀ q ∈ L.lamT, h.get? (L.lamC K q.2).2 = some { cls := .none, data := .fields #[] }
  of := fun _ _ e => ⟨_, frT_in, obE_of e⟩
  keeps := fun _ _ _ ⟨K, hK, c, t⟩ k => ⟨K, PySem.W.Frag.In.keeps hK k, c, fun q hq => k _ _ (t q hq)⟩
theorem obE_eq {n : Nat} {L : Lw} {g : Addr → Option Obj} {s : Shared} (h : ∀ a, g a = s.heap.get? a) : obE n L g = (hkE n L).obs s := by
  have e : g = s.heap.get? := funext h
  rw [e] <;> rfl
/-! ### each def -/
section
variable {L : Lw} {P : Program} {w : World} {K : PySem.W.Frag} {mg : PySem.Str → Option Value} {base h : Heap}
theorem kvK_rel {a : Addr} : ∀ {l : List (PySem.Str × C)}, kwoB K a l = true → ∀ R, RelCs (L.tb P w K mg base) R (l.map (·.2)) (kvK K a l)
  | [], _, R => rfl
  | q :: l, h, R => by
    unfold kwoB at h
    simp only [List.all_cons, Bool.and_eq_true] at h
    obtain ⟨h1, h2⟩ := h
    have ih := kvK_rel (l := l) (by unfold kwoB; exact h2) R
    cases e : kwU K a q.1 with
    | none => rw [e] at h1; cases h1
    | some u =>
      rw [e] at h1
      obtain ⟨v, r1, r2⟩ := relCB_ok (L := L) (P := P) (w := w) (mg := mg) (base := base) h1
      refine ⟨vOf u, kvK K a l, ?_, ?_, ih⟩
      · show (match kwU K a q.1 with | some u => vOf u | none => .non) :: kvK K a l = _
        rw [e]
      · rw [← vOf_rel r1]; exact r2 R
end
theorem relCB_vOf {K : PySem.W.Frag} {c : C} {u : Value} (h : relCB K c u = true) : RelV (vOf u) u := by
  cases u with
  | none => rfl
  | bool b => rfl
  | int i t => exact ⟨t, rfl⟩
  | str x t => exact ⟨t, rfl⟩
  | bytes x t => exact ⟨t, rfl⟩
  | float x t => exact ⟨t, rfl⟩
  | ref a => rfl
  | type n => rfl
  | _ => exfalso; cases c <;> (unfold relCB at h; cases h)
theorem kwU_ok {K : PySem.W.Frag} {a : Addr} {oc : Value} {od : Option Addr} {fd : FuncData} {osl : Array (Option Value)} {x : PySem.Str} {u : Value} (q : K.lookup a = some ⟨oc, od, .func fd, osl⟩) (h : kwU K a x = some u) : ∃ D, fd.kwdefaults = .ref D ∧ PySem.W.nsIn K D x = some (some u) := by
  unfold kwU at h
  rw [q] at h
  dsimp only at h
  split at h
  · rename_i D e
    split at h
    · rename_i u' en
      cases h
      exact ⟨D, e, en⟩
    · cases h
  · cases h
theorem funD_of {K : PySem.W.Frag} {d : Fd} (e : fnWa K (d.loc.adr K) = d.val) (c : fnOkB K d = true) : ∃ fd vs, simVs d.dfl = some vs ∧ kwoB K (d.loc.adr K) d.kwo = true ∧ FunD K d.name d.qual (defArgs d.st) (defBody d.st) (defScope d.st) vs ((d.kwo.map (·.1)).zip (kvK K (d.loc.adr K) d.kwo)) (d.loc.adr K) fd := by
  unfold fnOkB at c
  obtain ⟨kp, c⟩ := ba c
  obtain ⟨_, c⟩ := ba c
  obtain ⟨_, c⟩ := ba c
  obtain ⟨_, c2⟩ := ba c
  unfold fnWa at e
  cases q : K.lookup (d.loc.adr K) with
  | none =>
    rw [q] at c2
    cases c2
  | some o =>
    obtain ⟨oc, od, dt, osl⟩ := o
    rw [q] at c2 e
    cases dt with
    | func fd =>
      obtain ⟨n1, n2, n3, n4, n5, n6, n7, n8, n9, n10, n11, n12, n13, n14, n15⟩ := fd
      have e2 : (some (n1, n2, n3, n4, n5, n6, n7, n15) : FnW) = some (d.name, d.qual, defArgs d.st, .stmts (defBody d.st), defScope d.st, mainGlobals, [], builtinsNs) := e
      simp only [Option.some.injEq, Prod.mk.injEq] at e2
      obtain ⟨h1, h2, h3, h4, h5, h6, h7, h8⟩ := e2
      subst h1 h2 h3 h4 h5 h6 h7 h8
      have c3 : (PySem.W.codeIn K n13 d.qual && ((match simVs d.dfl with | some vs => dflB K n8 vs | none => false) && kwoB K (d.loc.adr K) d.kwo)) = true := c2
      obtain ⟨k1, k2⟩ := ba c3
      obtain ⟨k2, k3⟩ := ba k2
      cases qv : simVs d.dfl with
      | none => rw [qv] at k2; cases k2
      | some vs =>
        rw [qv] at k2
        have hkw : KwdV K n9 ((d.kwo.map (·.1)).zip (kvK K (d.loc.adr K) d.kwo)) := by
          cases ek : d.kwo with
          | nil => exact .inl rfl
          | cons q0 l =>
            have uu : ∀ x u, kwU K (d.loc.adr K) x = some u → ∃ D, n9 = .ref D ∧ PySem.W.nsIn K D x = some (some u) := fun x u hu => kwU_ok q hu
            have all : ∀ q ∈ d.kwo, ∃ u, kwU K (d.loc.adr K) q.1 = some u ∧ relCB K q.2 u = true := fun p hp => by
              have := List.all_eq_true.mp (show d.kwo.all _ = true from k3) p hp
              have this : (match kwU K (d.loc.adr K) p.1 with | some u => relCB K p.2 u | none => false) = true := this
              split at this
              · rename_i u eu; exact ⟨u, eu, this⟩
              · cases this
            obtain ⟨u0, hu0, _⟩ := all q0 (by rw [ek]; exact List.mem_cons_self)
            obtain ⟨D, rfl, _⟩ := uu _ _ hu0
            refine .inr ⟨D, rfl, fun p hp => ?_⟩
            rw [← ek] at hp
            have : ∀ (l : List (PySem.Str × C)) (p : PySem.Str × V), p ∈ (l.map (·.1)).zip (kvK K (d.loc.adr K) l) → ∃ q ∈ l, p.1 = q.1 ∧ p.2 = (match kwU K (d.loc.adr K) q.1 with | some u => vOf u | none => .non) := fun l => by
              induction l with
              | nil => intro p hp; cases hp
              | cons a l ih =>
                intro p hp
                have hp : p ∈ (a.1, (match kwU K (d.loc.adr K) a.1 with | some u => vOf u | none => .non)) :: (l.map (·.1)).zip (kvK K (d.loc.adr K) l) := hp
                rcases List.mem_cons.mp hp with e | hp
                · exact ⟨a, List.mem_cons_self, by subst e; rfl, by subst e; rfl⟩
                · obtain ⟨q, hq, e⟩ := ih p hp
                  exact ⟨q, List.mem_cons_of_mem _ hq, e⟩
            obtain ⟨q, hq, e1, e2⟩ := this _ p hp
            obtain ⟨u, hu, hr⟩ := all q hq
            obtain ⟨D', eD, en⟩ := uu _ _ hu
            cases eD
            rw [hu] at e2
            have e2 : p.2 = vOf u := e2
            exact ⟨u, by rw [e1]; exact en, by rw [e2]; exact relCB_vOf hr⟩
        exact ⟨_, vs, rfl, k3, ⟨oc, od, n8, n9, n10, n11, n12, n13, n14, osl, rfl, q, k1, dflB_ok k2, hkw⟩, kp⟩
    | _ => cases c2
/-- what the text of a def is to be -/
structure FdC (L : Lw) (d : Fd) : Prop where
  hot : d.hot = false
  sc : FnScope d.N (parN d.st) (defScope d.st)
  tr : ∃ m k, trSs (trs L.gt L.gd d.N (defScope d.st).names m k) (defBody d.st) = some d.body
  bind : ∀ (P : Program) (w : World) (K : PySem.W.Frag) (mg : PySem.Str → Option Value) (base : Heap) (a : Addr) (fd : FuncData) (vs kv : List V), simVs d.dfl = some vs → (∀ R, RelCs (L.tb P w K mg base) R d.dfl vs) → (∀ R, RelCs (L.tb P w K mg base) R (d.kwo.map (·.2)) kv) →
    FunD K d.name d.qual (defArgs d.st) (defBody d.st) (defScope d.st) vs ((d.kwo.map (·.1)).zip kv) a fd → Bd (L.tb P w K mg base) fd (parN d.st) d.af d.df
/-- .. of one that is handed the exception in except suites -/
structure FdH (L : Lw) (d : Fd) : Prop where
  hot : d.hot = true
  dfl : d.dfl = []
  kwo : d.kwo = []
  ok : ∃ (y : PySem.Str) (m k : Nat), FnScope d.N [y] (defScope d.st) ∧ ixOf d.N y = some 0 ∧ trSs (trHS L.gt d.N y (defScope d.st).names m k) (defBody d.st) = some d.body ∧
    ∀ (kV doc pm : Value) (an : Option Addr) (cdv ct : Value) (us : List Value), us.length = [y].length → bindArgs (PySem.W.fnOf d.name d.qual (defArgs d.st) (defBody d.st) (defScope d.st) .none kV doc pm an cdv ct) ⟨us, []⟩ = pure ([y].zip us)
def FdOk (L : Lw) (d : Fd) : Prop := FdC L d ∨ FdH L d
/-- .. of one that is handed a lambda, the lambda's number j -/
structure FdT (L : Lw) (j f : Nat) (t : Th) : Prop where
  no : L.fns[L.ix j]? = none
  ok : ∃ (d : Fd) (NF : List PySem.Str) (a : PySem.Str) (p1 p2 p3 p4 : Pos) (h₀ : ExceptHandler) (hds : List ExceptHandler) (rest : List Stmt) (m k : Nat),
    L.fns[L.ix f]? = some d ∧ d.dfl = [] ∧ d.kwo = [] ∧ defBody d.st = .Try [.Expr (.Call (.Name a p1) [] [] p2) p3] (h₀ :: hds) [] [] p4 :: rest ∧ FnScope NF [a] (defScope d.st) ∧ NF.length = t.m ∧ NF[0]? = some a ∧ (a == ("__debug__" : PySem.Str)) = false ∧ (a == ("__classdict__" : PySem.Str)) = false ∧
      trHd NF L.gt (defScope d.st).names (fun y ss => trSs (trHS L.gt NF y (defScope d.st).names m k) ss) (h₀ :: hds) = some t.hs ∧ trSs (trs L.gt L.gd NF (defScope d.st).names m k) rest = some t.rest ∧ L.lamT.lookup NF = none ∧
      ∀ (kV doc pm : Value) (an : Option Addr) (cdv ct : Value) (us : List Value), us.length = [a].length → bindArgs (PySem.W.fnOf d.name d.qual (defArgs d.st) (defBody d.st) (defScope d.st) .none kV doc pm an cdv ct) ⟨us, []⟩ = pure ([a].zip us)
/-- the rows of names of the makers of lambdas are theirs alone -/
def Lw.lamFit (L : Lw) : Bool := L.fns.all fun d => match L.lamT.lookup d.N with
  | none => true
  | some f => match L.fns[L.ix f]? with | some d' => decide (d'.loc = d.loc) && d'.qual == d.qual | none => false
/-- all of a program's texts -/
structure PrgOk (L : Lw) (P : Program) : Prop where
  fd : ∀ d ∈ L.fns, FdOk L d
  xi : ∀ x ∈ L.xis, XiOk L P x
  th : ∀ j f t, L.thks.lookup j = some (f, t) → FdT L j f t
  lam : L.lamFit = true
  kw : ∀ d ∈ L.fns, ∀ p, d.kw = some p → d.hot = false
/-- .. without exceptions, lambdas -/
theorem PrgOk.of {L : Lw} {P : Program} (h : ∀ d ∈ L.fns, FdC L d) (x : L.xis = []) (t : L.thks = []) (l : L.lamT = []) : PrgOk L P where
  fd := fun d hd => .inl (h d hd)
  xi := fun y hy => by rw [x] at hy; cases hy
  th := fun j f q hq => by rw [t] at hq; cases hq
  lam := by
    unfold Lw.lamFit
    rw [l]
    exact List.all_eq_true.mpr fun _ _ => rfl
  kw := fun d hd _ _ => (h d hd).hot
section
variable {L : Lw} {P : Program} {w : World} {K : PySem.W.Frag} {mg : PySem.Str → Option Value} {base h : Heap}
theorem simV_ok : ∀ {c : C} {v : V}, simV c = some v → ∀ R, RelC (L.tb P w K mg base) R c v := fun {c v} h R => by
  cases c <;> first | (cases h; rfl) | cases h
theorem simVs_ok : ∀ {cs : List C} {vs : List V}, simVs cs = some vs → ∀ R, RelCs (L.tb P w K mg base) R cs vs
  | [], vs, h, R => by cases h; rfl
  | c :: cs, vs, h, R => by
    unfold simVs at h
    split at h
    · rename_i h1 h2
      cases h
      exact ⟨_, _, rfl, simV_ok h1 R, simVs_ok h2 R⟩
    · cases h
theorem rows_at {L : Lw} (e : obK L K = vlE L) : L.fns.map (fun d => fnWa K (d.loc.adr K)) = L.fns.map Fd.val ∧ L.xis.map (fun x => noClo (fnWa K (xiA L K x))) = L.xis.map Xi.val := by
  have e1 : rowsK L K = L.fns.map Fd.val ++ L.xis.map Xi.val := congrArg (·.1) e
  unfold rowsK at e1
  exact List.append_inj e1 (by simp)
theorem fnW_at {L : Lw} (e : obK L K = vlE L) {d : Fd} {f : Nat} (q : L.fns[L.ix f]? = some d) : fnWa K (d.loc.adr K) = d.val := by
  have e2 : (L.fns.map fun d => fnWa K (d.loc.adr K))[L.ix f]? = (L.fns.map Fd.val)[L.ix f]? := by rw [(rows_at e).1]
  rw [List.getElem?_map, List.getElem?_map, q] at e2
  exact Option.some.inj e2
theorem ok_at {L : Lw} (e : obK L K = vlE L) : OkAll L K := ok_all (ba (congrArg (·.2) e)).1
theorem okX_at {L : Lw} (e : obK L K = vlE L) : L.okX K = true := (ba (congrArg (·.2) e)).2
theorem codeAt_eq {a : Addr} {name qual : PySem.Str} {params : Arguments} {body : List Stmt} {scope : Scope} {dvs : List V} {kws : List (PySem.Str × V)} {fd : FuncData} (FD : FunD K name qual params body scope dvs kws a fd) : fd.code = .ref (codeAt K a) := by
  obtain ⟨oc, od, dV, kV, doc, pm, an, cdv, ct, osl, rfl, lk, hcd, _, _⟩ := FD.ex
  obtain ⟨c, rfl⟩ := codeIn_ref hcd
  unfold codeAt
  rw [lk]
theorem fun_at (e : obK L K = vlE L) {f : Nat} {x : Fd} (q : L.fns[L.ix f]? = some x) : ∃ fd vs, simVs x.dfl = some vs ∧ kwoB K (x.loc.adr K) x.kwo = true ∧ FunD K x.name x.qual (defArgs x.st) (defBody x.st) (defScope x.st) vs ((x.kwo.map (·.1)).zip (kvK K (x.loc.adr K) x.kwo)) (x.loc.adr K) fd := funD_of (fnW_at e q) (List.all_eq_true.mp (ok_at e).fn x (List.mem_of_getElem? q))
theorem def_at (e : obK L K = vlE L) (hl : L.lamFit = true) {f : Nat} {x : Fd} (q : L.fns[L.ix f]? = some x) (hx : FdC L x) : DefOk (L.tb P w K mg base) L.gt (x.loc.adr K) x.af x.df := by
  obtain ⟨fd, vs, hv, hk, FD⟩ := fun_at e q
  obtain ⟨_, sc, ⟨m, k, tr⟩, bind⟩ := hx
  refine ⟨_, _, _, _, _, vs, _, fd, x.N, _, m, k, FD, sc, rfl, rfl, tr, bind P w K mg base _ fd vs _ hv (simVs_ok hv) (kvK_rel hk) FD, fun Q c P' hlm => ?_⟩
  have hlm : (L.lamT.lookup x.N).map (fun f => (L.lamQ f, L.lamC K f)) = some (Q, c, P') := hlm
  have fit := List.all_eq_true.mp hl x (List.mem_of_getElem? q)
  cases z : L.lamT.lookup x.N with
  | none => rw [z] at hlm; cases hlm
  | some f' =>
    rw [z] at hlm fit
    dsimp only at fit
    have hlm : (L.lamQ f', L.lamC K f') = (Q, c, P') := Option.some.inj hlm
    cases y : L.fns[L.ix f']? with
    | none => rw [y] at fit; cases fit
    | some d' =>
      rw [y] at fit
      obtain ⟨f1, f2⟩ := ba fit
      have f1 := of_decide_eq_true f1
      have f2 : d'.qual = x.qual := eq_of_beq f2
      have h1 : L.lamQ f' = Q := congrArg (·.1) hlm
      have h2 : (L.lamC K f').1 = c := congrArg (fun p => p.2.1) hlm
      refine ⟨?_, ?_⟩
      · rw [← h1, ← f2]
        unfold Lw.lamQ Lw.qualF
        rw [y]
      · rw [codeAt_eq FD, ← h2, ← f1]
        unfold Lw.lamC Lw.adr
        rw [y]
theorem hot_at (e : obK L K = vlE L) {f : Nat} {x : Fd} (q : L.fns[L.ix f]? = some x) (hx : FdH L x) : DefHOk (L.tb P w K mg base) L.gt (x.loc.adr K) x.df := by
  obtain ⟨fd, vs, hv, hk, FD⟩ := fun_at e q
  obtain ⟨_, hd, hk, y, m, k, sc, hix, tr, bind⟩ := hx
  rw [hd] at hv
  cases hv
  rw [hk] at FD
  exact ⟨_, _, _, _, _, fd, x.N, y, m, k, FD, sc, rfl, hix, tr, fun s u => FD.bindsA (ps := [y]) bind s [u] rfl⟩
theorem th_at (e : obK L K = vlE L) {j f : Nat} {t : Th} (h : FdT L j f t) : ThD (L.tb P w K mg base) L.gt (L.adr K f) t := by
  obtain ⟨_, d, NF, a, p1, p2, p3, p4, h₀, hds, rest, m, k, q, hd, hk, hb, sc, hm, h0, n1, n2, t1, t2, nl, bind⟩ := h
  obtain ⟨fd, vs, hv, _, FD⟩ := fun_at e q
  rw [hd] at hv
  cases hv
  rw [hk] at FD
  have hb2 := FD.bindsA (ps := [a]) bind
  rw [hb] at FD
  have ea : L.adr K f = d.loc.adr K := by unfold Lw.adr; rw [q]
  rw [ea]
  refine ⟨_, _, _, _, fd, NF, a, p1, p2, p3, p4, h₀, hds, rest, m, k, FD, sc, hm, h0, n1, n2, t1, t2, ?_, fun s u => hb2 s [u] rfl⟩
  show (L.lamT.lookup NF).map _ = none
  rw [nl]; rfl
theorem defs_of (e : obK L K = vlE L) (hd : PrgOk L P) : Prog (L.tb P w K mg base) (L.fa K) L.gt := by
  refine ⟨fun f d a h1 h2 => ?_, fun f d a m ks h1 h2 => ?_, fun f a h => ?_, fun j ad t h1 h2 => ?_, fun f h => ?_⟩
  · have h1 : (L.fns[L.ix f]?).map Fd.df = some d := h1
    unfold Lw.fa at h2
    cases q : L.fns[L.ix f]? with
    | none => rw [q] at h1; cases h1
    | some x =>
      rw [q] at h1 h2
      cases h1
      have h2 : (if x.kw.isNone && !x.hot then some (x.loc.adr K) else none) = some a := h2
      split at h2
      · rename_i hn
        obtain ⟨hn, hh⟩ := ba hn
        have hh : x.hot = false := by simpa using hh
        cases h2
        have z := def_at (P := P) (w := w) (mg := mg) (base := base) e hd.lam q ((hd.fd x (List.mem_of_getElem? q)).resolve_right fun y => by rw [y.hot] at hh; cases hh)
        have ea : x.af = posA := by
          unfold Fd.af
          cases ek : x.kw with
          | none => rfl
          | some p => rw [ek] at hn; cases hn
        rw [ea] at z
        exact ⟨hh, z⟩
      · cases h2
  · have h1 : (L.fns[L.ix f]?).map Fd.df = some d := h1
    have h2 : ((L.fns[L.ix f]?).bind fun d => d.kw.map fun q => (d.loc.adr K, q.1, q.2)) = some (a, m, ks) := h2
    cases q : L.fns[L.ix f]? with
    | none => rw [q] at h1; cases h1
    | some x =>
      rw [q] at h1 h2
      cases h1
      have h2 : (x.kw.map fun q => (x.loc.adr K, q.1, q.2)) = some (a, m, ks) := h2
      cases ek : x.kw with
      | none => rw [ek] at h2; cases h2
      | some p =>
        rw [ek] at h2
        cases h2
        have hk := hd.kw x (List.mem_of_getElem? q) p ek
        have z := def_at (P := P) (w := w) (mg := mg) (base := base) e hd.lam q ((hd.fd x (List.mem_of_getElem? q)).resolve_right fun y => by rw [y.hot] at hk; cases hk)
        have ea : x.af = kwA p.1 p.2 := by
          unfold Fd.af
          rw [ek]
        rw [ea] at z
        exact ⟨hk, z⟩
  · have h : ((L.fns[L.ix f]?).bind fun d => if d.hot then some (d.loc.adr K) else none) = some a := h
    cases q : L.fns[L.ix f]? with
    | none => rw [q] at h; cases h
    | some x =>
      rw [q] at h
      have h : (if x.hot then some (x.loc.adr K) else none) = some a := h
      split at h
      · rename_i hh
        cases h
        refine ⟨x.df, by show (L.fns[L.ix f]?).map Fd.df = _; rw [q]; rfl, hh, hot_at e q ((hd.fd x (List.mem_of_getElem? q)).resolve_left fun y => by rw [y.hot] at hh; cases hh)⟩
      · cases h
  · have h1 : (L.thks.lookup j).map (fun q => L.adr K q.1) = some ad := h1
    have h2 : (L.thks.lookup j).map (·.2) = some t := h2
    cases q : L.thks.lookup j with
    | none => rw [q] at h1; cases h1
    | some p =>
      obtain ⟨f, t'⟩ := p
      rw [q] at h1 h2
      cases h1
      have h2 : t' = t := Option.some.inj h2
      subst h2
      have z := hd.th j f t' q
      exact ⟨th_at e z, by show (L.fns[L.ix j]?).map Fd.df = none; rw [z.no]; rfl⟩
  · have h : (L.fns[L.ix f]?).map Fd.df = none := h
    cases q : L.fns[L.ix f]? with
    | some x => rw [q] at h; cases h
    | none =>
      refine ⟨by unfold Lw.fa; rw [q]; rfl, ?_⟩
      show ((L.fns[L.ix f]?).bind fun d => d.kw.map fun q => (d.loc.adr K, q.1, q.2)) = none
      rw [q]; rfl
end
/-! ### the walk -/
section
variable {P : Program} {w : World} {K : PySem.W.Frag} {mg mb : PySem.Str → Option Value} {k : Nat} {fa a : Addr} {sp : Sp} {s1 : Shared} {vs : List Value} {ns : List Int}
/-- what the law's call is to give -/
abbrev Given (s1 : Shared) : Result → Shared → Prop := fun r s' => r = .ok (.ret (.bool true)) ∧ OldK s1.heap s'.heap ∧ s'.os = s1.os ∧ AllBare s'.gens
/-- the tables of the makers, as the walk begins -/
structure Tbs (s1 : Shared) (K : PySem.W.Frag) (mg : PySem.Str → Option Value) (cs : List (Addr × Addr)) : Prop where
  e : ∀ p ∈ cs, s1.heap.get? p.2 = some { cls := .none, data := .fields #[] }
  n : ∀ p ∈ cs, K.lookup p.2 = none
  c : ∀ p ∈ cs, PySem.W.CodeHd s1.heap p.1 p.2
  b : ∃ (bm : Addr) (ob : Obj), mg "__builtins__" = some (.ref bm) ∧ bm ≠ builtinsNs ∧ s1.heap.get? bm = some ob ∧ ob.cls = .type "module" ∧ ob.dict = some builtinsNs ∧ ob.data = .plain
def IsT (cs : List (Addr × Addr)) (b : Addr) : Prop := b ∈ cs.map (·.2)
theorem Tbs.at {cs : List (Addr × Addr)} (t : Tbs s1 K mg cs) {b : Addr} (h : IsT cs b) : s1.heap.get? b = some { cls := .none, data := .fields #[] } ∧ K.lookup b = none ∧ isCodeTable s1.heap b := by
  obtain ⟨p, hp, rfl⟩ := List.mem_map.mp h
  exact ⟨t.e p hp, t.n p hp, ((t.c p hp).tab (t.e p hp)).isCodeTable⟩
/-- the law's call, where the script and the tables alone may be tracked -/
theorem law_core {cs : List (Addr × Addr)} (KX : K.In s1.heap) (hns : s1.heap.Ns mainGlobals mg) (hb : s1.heap.Ns builtinsNs mb) (hbb : ∀ x : PySem.Str, x ≠ "__name__" → mb x = bootBuiltins x) (hlim : s1.heap.NoLimit) (hg : s1.gens = #[]) (t : Tbs s1 K mg cs)
    (ha : s1.heap.get? a = some { cls := .type "list", data := .seq vs.toArray }) (hr : Room k callerA) (F : ∀ base : Heap, K.In base → base.Ns mainGlobals mg → (∀ p ∈ cs, LamX.TabB base mg p.1 p.2) → FnG P w K mg base k fa posA sp)
    (H : Hp) (hO : ∀ b, H b = none ∨ (IsT cs b ∧ H b = some (.tbl #[])) ∨ ∃ o xs, H b = some (.frz o (.lst xs))) (hT : ∀ b, IsT cs b → H b = some (.tbl #[])) (hsp : sp [.ref a] H (fun v _ => v = .bl true) fun _ _ _ => False) (hok : HOk P w H s1.heap) (hA : ∀ b, H b ≠ none → b = a ∨ IsT cs b) (hK : H a ≠ none → K.lookup a = none) :
    codeAny (model P w) callerA (.call (.ref fa) ⟨[.ref a], []⟩) (Given s1) s1 := by
  have low : ∀ {b : Addr} {o : Obj}, s1.heap.get? b = some o → H b = none → (hidT s1.heap H).get? b = some o := fun e n => hidT_get e n
  -- what is neither a list nor an empty table is not tracked
  have out : ∀ {b : Addr} {o : Obj}, s1.heap.get? b = some o → o.data ≠ .seq vs.toArray → o.data ≠ .fields #[] → H b = none := fun {b o} e n1 n2 => by
    cases q : H b with
    | none => rfl
    | some u =>
      rcases hA b (by rw [q]; simp) with z | z
      · rw [z, ha] at e; cases e; exact absurd rfl n1
      · rw [(t.at z).1] at e; cases e; exact absurd rfl n2
  have ns : ∀ {b : Addr} {m : PySem.Str → Option Value}, s1.heap.Ns b m → (hidT s1.heap H).Ns b m := fun {b m} ⟨o, es, ep, e, d, r⟩ =>
    ⟨o, es, ep, low e (out e (by rw [d]; intro z; cases z) (by rw [d]; intro z; cases z)), d, r⟩
  have hKb : K.In (hidT s1.heap H) := fun b o e => by
    refine low (KX b o e) ?_
    cases q : H b with
    | none => rfl
    | some u =>
      rcases hA b (by rw [q]; simp) with z | z
      · rw [z] at e q
        rw [hK (by rw [q]; simp)] at e
        cases e
      · rw [(t.at z).2.1] at e; cases e
  have hM : Mod K mg (hidT s1.heap H) := by
    obtain ⟨mc, h1, h2⟩ := hlim
    exact ⟨hKb, ns hns, ⟨mb, ns hb, hbb⟩, mc, ns h1, h2⟩
  have TB : ∀ p ∈ cs, LamX.TabB (hidT s1.heap H) mg p.1 p.2 := fun p hp => by
    have hp2 : IsT cs p.2 := List.mem_map.mpr ⟨p, hp, rfl⟩
    obtain ⟨g0, gs, gp, g1, g2, _⟩ := hns
    refine ⟨?_, ?_, fun z => ?_⟩
    · obtain ⟨o, us, file, tf, flags, tg, inF, text, tt, e1, r1, r2, r3, r⟩ := t.c p hp
      exact ⟨o, us, file, tf, flags, tg, inF, text, tt, low e1 (out e1 (by rw [r2]; intro z; cases z) (by rw [r2]; intro z; cases z; simp at r3)), r1, r2, r3, r⟩
    · obtain ⟨bm, ob, b1, b2, b3, b4, b5, b6⟩ := t.b
      refine ⟨bm, ob, b1, b2, fun z => ?_, fun z => ?_, low b3 (out b3 (by rw [b6]; intro z; cases z) (by rw [b6]; intro z; cases z)), b4, b5, b6⟩
      · rw [z, g1] at b3; cases b3; rw [b6] at g2; cases g2
      · rw [z, (t.at hp2).1] at b3; cases b3; cases b6
    · rw [z, (t.at hp2).1] at g1; cases g1; cases g2
  have e0 : Env0 P w K mg (hidT s1.heap H) callerA [] s1 H :=
    ⟨rfl, hM, fun b o e => of_hidT e, Nat.le_of_eq (hidT_size _ _), trivial, fun b hb => (nomatch (show b ∈ ([] : List Addr) from hb)), hok, .of_eq hg⟩
  refine codeAny_mono (F _ hKb (ns hns) TB callerA [] s1 H [.ref a] [.ref a] _ _ hr rfl e0 (.cons rfl .nil) hsp) fun r s' h => ?_
  cases r with
  | error e => obtain ⟨_, _, _, _, _, _, _, _, _, _, _, _, z⟩ := h; exact z.elim
  | ok fl =>
    cases fl with
    | ret u =>
      obtain ⟨v, H', os, bare, un, hok', r', q⟩ := h
      cases (show v = .bl true from q)
      cases (show u = Value.bool true from r')
      have each : ∀ b o, s1.heap.get? b = some o → s'.heap.get? b = some o ∨ (IsT cs b ∧ o = { cls := .none, data := .fields #[] } ∧ ∃ more : Array Value, s'.heap.get? b = some { cls := .none, data := .fields more }) := fun b o e => by
        rcases hO b with z | ⟨z, z2⟩ | ⟨ob, xs, z⟩
        · exact .inl (un.keep b o e z (fun y => nomatch (show b ∈ ([] : List Addr) from y)) (by simp))
        · obtain ⟨more, y⟩ := un.tbls b #[] z2
          rw [(t.at z).1] at e
          exact .inr ⟨z, (Option.some.inj e).symm, _, hok' b _ y⟩
        · have e1 := (hok b _ z).1
          rw [e] at e1
          cases e1
          exact .inl (hok' b _ (un.frzs b _ _ z)).1
      refine ⟨rfl, ⟨fun b o e => ?_, fun b o e => ?_⟩, os, bare⟩
      · rcases each b o e with z | ⟨z, rfl, more, y⟩
        · exact .inl z
        · exact .inr (.inl ⟨(t.at z).2.2, rfl, #[], more, rfl, by rw [Array.empty_append]; exact y⟩)
      · rcases each b o e with z | ⟨z, rfl, more, y⟩
        · exact ⟨_, z⟩
        · exact ⟨_, y⟩
    | _ => exact False.elim h
theorem law_run {cs : List (Addr × Addr)} (KX : K.In s1.heap) (hns : s1.heap.Ns mainGlobals mg) (hb : s1.heap.Ns builtinsNs mb) (hbb : ∀ x : PySem.Str, x ≠ "__name__" → mb x = bootBuiltins x) (hlim : s1.heap.NoLimit) (hg : s1.gens = #[]) (t : Tbs s1 K mg cs)
    (ha : s1.heap.get? a = some { cls := .type "list", data := .seq vs.toArray }) (hi : IntsAre vs ns) (hl : ns.length ≤ sizeLine) (hr : Room k callerA) (F : ∀ base : Heap, K.In base → base.Ns mainGlobals mg → (∀ p ∈ cs, LamX.TabB base mg p.1 p.2) → FnG P w K mg base k fa posA sp)
    (hsp : ∀ H R : Hp, (∀ b o, R b = some o → H b = some o) → (∀ b ps, R b ≠ some (.tbl ps)) → (∀ b, IsT cs b → H b = some (.tbl #[])) → SqL K R a (ns.map V.int) → sp [.ref a] H (fun v _ => v = .bl true) fun _ _ _ => False) : codeAny (model P w) callerA (.call (.ref fa) ⟨[.ref a], []⟩) (Given s1) s1 := by
  classical
  have rv := vals_ints hi
  have lv := hi.length
  have aT : ¬ IsT cs a := fun z => by
    have e := (t.at z).1
    rw [ha] at e
    exact nomatch (show Data.seq vs.toArray _ = Data.fields #[] from congrArg Obj.data (Option.some.inj e))
  let T0 : Hp := fun b => if IsT cs b then some (.tbl #[]) else none
  cases hk : K.lookup a with
  | some o =>
    have e := KX a o hk
    rw [ha] at e
    cases e
    refine law_core KX hns hb hbb hlim hg t ha hr F T0 (fun b => ?_) (fun b h => if_pos h) (hsp T0 (fun _ => none) (fun b o h => nomatch (show (none : Option HO) = some o from h)) (fun b ps h => nomatch (show (none : Option HO) = _ from h)) (fun b h => if_pos h) (.inr ⟨_, vs.toArray, _, hk, rfl, rfl, rfl, ?_, by simpa using rv⟩)) (fun b u z => ?_) (fun b z => ?_) fun z => absurd (show T0 a = none from if_neg aT) z
    · by_cases h : IsT cs b
      · exact .inr (.inl ⟨h, if_pos h⟩)
      · exact .inl (if_neg h)
    · rw [List.size_toArray, lv]
      exact hl
    · by_cases h : IsT cs b
      · cases (show (if IsT cs b then some (HO.tbl #[]) else none) = some (.tbl #[]) from if_pos h).symm.trans z
        exact (t.at h).1
      · cases (show (if IsT cs b then some (HO.tbl #[]) else none) = none from if_neg h).symm.trans z
    · by_cases h : IsT cs b
      · exact .inr h
      · exact absurd (show T0 b = none from if_neg h) z
  | none =>
    let R0 : Hp := fun b => if b = a then some (.frz { cls := .type "list", data := .seq vs.toArray } (.lst (ns.map V.int))) else none
    let H0 : Hp := fun b => if b = a then some (.frz { cls := .type "list", data := .seq vs.toArray } (.lst (ns.map V.int))) else T0 b
    have h0 : ∀ b, b ≠ a → H0 b = T0 b := fun b h => if_neg h
    have hta : ∀ b, IsT cs b → H0 b = some (.tbl #[]) := fun b h => (h0 b fun z => aT (z ▸ h)).trans (if_pos h)
    refine law_core KX hns hb hbb hlim hg t ha hr F H0 (fun b => ?_) hta (hsp H0 R0 (fun b o h => ?_) (fun b ps h => ?_) hta (.inl (.inr ⟨_, if_pos rfl⟩))) (fun b u z => ?_) (fun b z => ?_) fun _ => hk
    · by_cases hb : b = a
      · exact .inr (.inr ⟨_, _, if_pos hb⟩)
      · by_cases h : IsT cs b
        · exact .inr (.inl ⟨h, hta b h⟩)
        · exact .inl ((h0 b hb).trans (if_neg h))
    · by_cases hb : b = a
      · exact (if_pos hb).trans ((show R0 b = _ from if_pos hb).symm.trans h)
      · cases (show R0 b = none from if_neg hb).symm.trans h
    · by_cases hb : b = a
      · cases (show R0 b = _ from if_pos hb).symm.trans h
      · cases (show R0 b = none from if_neg hb).symm.trans h
    · by_cases hb : b = a
      · cases (show H0 b = _ from if_pos hb).symm.trans z
        subst hb
        exact ⟨ha, by rw [List.length_map]; exact hl, vs, _, rv, ha⟩
      · have z := (h0 b hb).symm.trans z
        by_cases h : IsT cs b
        · cases (show T0 b = _ from if_pos h).symm.trans z
          exact (t.at h).1
        · cases (show T0 b = none from if_neg h).symm.trans z
    · by_cases hb : b = a
      · exact .inl hb
      · by_cases h : IsT cs b
        · exact .inr h
        · exact absurd ((h0 b hb).trans (if_neg h)) z
end
/-- the law's script -/
def scriptW (ns : List Int) : W := .c (.frz (ns.map .int))
theorem script_rel {T : Tb} {R : Hp} : ∀ ns : List Int, RelCs T R (ns.map .int) (ns.map V.int)
  | [] => rfl
  | _ :: ns => ⟨_, _, rfl, rfl, script_rel ns⟩
theorem law_walk {l : PySem.W.OpenLaw} {q : Program} {loose : List PySem.Str} {XP : (PySem.Str → Option Value) → Heap → Prop} {d : DefRec} {L : Lw} {n k f fu : Nat} {dl : Fd}
    (hn : l.most = some 63) (hdf : d.params.defaults = []) (hr : Room (3 * k) callerA) (hfit : L.fit = true) (hfd : PrgOk L l.prog) (hf : L.fns[L.ix f]? = some dl) (hloc : dl.loc = .glo d.name) (hkw : dl.kw = none) (hhot : dl.hot = false)
    (claim : ∀ ns : List Int, ns.length ≤ 63 → ∃ st, call L.gd fu k f [scriptW ns] [] = .ok (.c (.bl true)) st) :
    PySem.W.WalkO q loose XP (hkE n L).says l.row.toRowW d [] (fun f vs => PySem.call f vs) := by
  refine Att.attach_call hn hdf fun w s₀ s₁ mg mb fa o pm cd doc a vs ns G Y ho hd hcd hmg hobj hints hlen hg => ?_
  obtain ⟨K, KX, e, et⟩ := Y
  have o := ok_at e
  have ox := okX_at e
  have hadr : dl.loc.adr K = fa := by
    obtain ⟨h7, _⟩ := fn_at o hf
    rw [hloc] at h7 ⊢
    have := PySem.W.mg_of KX G.T.g (eqO_ok h7)
    rw [hmg] at this
    injection this with this
    injection this with this
    exact this.symm
  have oL : okLam L K = true := by
    unfold Lw.okX at ox
    simp only [Bool.and_eq_true] at ox
    exact ox.2.2.2.2
  have cs_of : ∀ p ∈ L.lamT.map (fun q => L.lamC K q.2), ∃ q ∈ L.lamT, L.lamC K q.2 = p := fun p hp => List.mem_map.mp hp
  have t : Tbs s₁ K mg (L.lamT.map fun q => L.lamC K q.2) := by
    refine ⟨fun p hp => ?_, fun p hp => ?_, fun p hp => ?_, G.T.bmain⟩
    · obtain ⟨q, hq, rfl⟩ := cs_of p hp
      exact et q hq
    · obtain ⟨q, hq, rfl⟩ := cs_of p hp
      obtain ⟨_, h2⟩ := ba (List.all_eq_true.mp oL q hq)
      obtain ⟨h2, _⟩ := ba h2
      exact Option.isNone_iff_eq_none.mp h2
    · obtain ⟨q, hq, rfl⟩ := cs_of p hp
      obtain ⟨h1, _⟩ := ba (List.all_eq_true.mp oL q hq)
      exact PySem.W.codeHd_of_K KX h1
  refine law_run (P := l.prog) (w := w) (K := K) (fa := fa) (sp := fun vs H Q E => ∀ base : Heap, spF (L.tb l.prog w K mg base) (call L.gd fu k) f vs H Q E) KX G.T.g G.T.b G.T.builtins G.T.nolimit hg t hobj hints (Nat.le_trans hlen (by rw [sizeLine_eq]; omega)) hr (fun base hB hG hTB => ?_) fun H R hRH hRt hT hS base => ?_
  · have O := tok_of (P := l.prog) (w := w) (mg := mg) (base := base) hfit o (extT_of (rows_at e).2 ox hfd.xi fun q hq => hTB _ (List.mem_map.mpr ⟨q, hq, rfl⟩))
    have Z := kit_of' (P := l.prog) (w := w) (mg := mg) (base := base) o
    have Gk := gt_of (P := l.prog) (w := w) (base := base) O (extG_of KX G.T.g o ox) o KX G.T.g
    have F := fns_all (fu := fu) rfl O Z Gk (defs_of (P := l.prog) (w := w) (mg := mg) (base := base) e hfd) k
    have hfa : L.fa K f = some fa := by
      unfold Lw.fa
      rw [hf]
      show (if dl.kw.isNone && !dl.hot then some (dl.loc.adr K) else none) = _
      rw [hkw, hhot, hadr]; rfl
    intro A outer s H us vs Q E hr' hgu e0 rv hs
    exact F.F.fn f fa hfa A outer s H us vs Q E hr' hgu e0 rv (hs base)
  · obtain ⟨st, hc⟩ := claim ns hlen
    refine ⟨fun _ => none, R, fun _ => none, [scriptW ns], [], ⟨hRH, fun _ _ h => (by cases h), fun n x h => (by cases h), fun n m x y a h => (by cases h), fun n a h => (by cases h), fun n x h => (by cases h), fun _ _ h => (by cases h), fun p hp => ?_, hRt⟩, ⟨.ref a, [], rfl, ⟨a, ns.map V.int, rfl, hS, script_rel ns⟩, rfl⟩, ?_⟩
    · obtain ⟨q, hq, rfl⟩ := List.mem_map.mp hp
      exact LamX.TabS.nil (hT _ (List.mem_map.mpr ⟨_, List.mem_map.mpr ⟨q, hq, rfl⟩, rfl⟩))
    · show Post _ _ _ _ _ _ _ (call L.gd fu k f [scriptW ns] [])
      rw [hc]
      exact fun R' μ' H' l s v rv => rv
end Ev
namespace Ev
open PySem PySem.Spec PyProof.Rows L2
section
variable {L : Lw} {d : Fd}
/-- a def by position, its defaults simple -/
theorem fdP (ps : List PySem.Str) (hp : parN d.st = ps) (ha : d.arr = none) (hs : d.star = false) (hh : d.hot = false) (hk : d.kw = none) (hkw : d.kwo = []) (sc : FnScope d.N ps (defScope d.st)) (tr : trSs (trs L.gt L.gd d.N (defScope d.st).names 40 12) (defBody d.st) = some d.body)
    (hb : ∀ (K : PySem.W.Frag) (a : Addr) (fd : FuncData) (vs : List V), simVs d.dfl = some vs → FunD K d.name d.qual (defArgs d.st) (defBody d.st) (defScope d.st) vs [] a fd → ∀ j, j ≤ vs.length → ∃ ds, Vals (vs.drop j) ds ∧ Binds K fd ps ds) : FdC L d := by
  subst hp
  refine ⟨hh, sc, ⟨40, 12, tr⟩, fun P w K mg base a fd vs kv hv hdf hkv FD => ?_⟩
  have ea : d.af = posA := by unfold Fd.af; rw [hk]
  rw [ea]
  rw [hkw] at FD
  exact bd_pos ha hs rfl hdf (hb K a fd vs hv FD)
/-- a def without defaults -/
theorem fd0 (ps : List PySem.Str) (hp : parN d.st = ps) (ha : d.arr = none) (hs : d.star = false) (hh : d.hot = false) (hk : d.kw = none) (hkw : d.kwo = []) (h0 : d.dfl = []) (sc : FnScope d.N ps (defScope d.st)) (tr : trSs (trs L.gt L.gd d.N (defScope d.st).names 40 12) (defBody d.st) = some d.body)
    (hb : ∀ (kV doc pm : Value) (an : Option Addr) (cdv ct : Value) (us : List Value), us.length = ps.length → bindArgs (PySem.W.fnOf d.name d.qual (defArgs d.st) (defBody d.st) (defScope d.st) .none kV doc pm an cdv ct) ⟨us, []⟩ = pure (ps.zip us)) : FdC L d := by
  refine fdP ps hp ha hs hh hk hkw sc tr fun K a fd vs hv FD j hj => ?_
  rw [h0] at hv
  cases hv
  cases j with
  | zero => exact ⟨[], .nil, FD.bindsN hb⟩
  | succ j => cases hj
/-- a def whose last parameter takes what is left over -/
theorem fdS (ps0 : List PySem.Str) (pv : PySem.Str) (hp : parN d.st = ps0 ++ [pv]) (ha : d.arr = none) (hs : d.star = true) (hh : d.hot = false) (hk : d.kw = none) (hkw : d.kwo = []) (h0 : d.dfl = []) (sc : FnScope d.N (ps0 ++ [pv]) (defScope d.st)) (tr : trSs (trs L.gt L.gd d.N (defScope d.st).names 40 12) (defBody d.st) = some d.body)
    (hb : ∀ (kV doc pm : Value) (an : Option Addr) (cdv ct : Value) (us rest : List Value), us.length = ps0.length → bindArgs (PySem.W.fnOf d.name d.qual (defArgs d.st) (defBody d.st) (defScope d.st) .none kV doc pm an cdv ct) ⟨us ++ rest, []⟩ = (newTuple rest >>= fun t => pure (ps0.zip us ++ [(pv, t)]))) : FdC L d := by
  refine ⟨hh, by rw [hp]; exact sc, ⟨40, 12, tr⟩, fun P w K mg base a fd vs kv hv hdf hkv FD => ?_⟩
  have ea : d.af = posA := by unfold Fd.af; rw [hk]
  rw [ea]
  rw [hkw] at FD
  rw [h0] at hv
  cases hv
  exact bd_star (ps := parN d.st) FD ha hs hp rfl hb
/-- an entry with keyword-only parameters -/
theorem fdK {nn : Nat} {l : List (Nat ⊕ Nat)} (ms : List Nat) (ps kn : List PySem.Str) (hp : parN d.st = ps) (ha : d.arr = some (nn, l)) (hh : d.hot = false) (h0 : d.dfl = []) (hkn : d.kwo.map (·.1) = kn) (hk0 : kn ≠ []) (hl : l.length = ps.length) (hms : ∀ j ∈ ms, j < kn.length) (sc : FnScope d.N ps (defScope d.st))
    (tr : trSs (trs L.gt L.gd d.N (defScope d.st).names 40 12) (defBody d.st) = some d.body)
    (h : ∀ (D : Addr) (doc pm : Value) (an : Option Addr) (cdv ct : Value) (us ku : List Value), us.length = nn → ku.length = kn.length →
      KwChain D (ms.map fun j => (kn.getD j ⟨#[]⟩, ku.getD j .none)) (bindArgs (PySem.W.fnOf d.name d.qual (defArgs d.st) (defBody d.st) (defScope d.st) .none (.ref D) doc pm an cdv ct) (d.af us)) (ps.zip (l.map (pickU us ku)))) : FdC L d := by
  subst hp
  refine ⟨hh, sc, ⟨40, 12, tr⟩, fun P w K mg base a fd vs kv hv hdf hkv FD => ?_⟩
  rw [h0] at hv
  cases hv
  rw [hkn] at FD
  have hz : kn.length = kv.length := by
    have := (hkv fun _ => none).length
    rw [← this, ← hkn, List.length_map, List.length_map]
  exact bd_kw (d := d.df) ms FD hz hk0 ha hl hms hkv h
/-- a def that is handed the exception in except suites -/
theorem fdH (y : PySem.Str) (hh : d.hot = true) (h0 : d.dfl = []) (hk : d.kwo = []) (sc : FnScope d.N [y] (defScope d.st)) (hi : ixOf d.N y = some 0) (tr : trSs (trHS L.gt d.N y (defScope d.st).names 40 12) (defBody d.st) = some d.body)
    (hb : ∀ (kV doc pm : Value) (an : Option Addr) (cdv ct : Value) (us : List Value), us.length = [y].length → bindArgs (PySem.W.fnOf d.name d.qual (defArgs d.st) (defBody d.st) (defScope d.st) .none kV doc pm an cdv ct) ⟨us, []⟩ = pure ([y].zip us)) : FdH L d :=
  ⟨hh, h0, hk, y, 40, 12, sc, hi, tr, hb⟩
def thParts : List Stmt → Option (PySem.Str × List ExceptHandler × List Stmt)
  | .Try [.Expr (.Call (.Name a _) [] [] _) _] (h₀ :: hds) [] [] _ :: rest => some (a, h₀ :: hds, rest)
  | _ => none
theorem thParts_eq {b rest : List Stmt} {a : PySem.Str} {hs : List ExceptHandler} (h : thParts b = some (a, hs, rest)) : ∃ p1 p2 p3 p4 h₀ hds, hs = h₀ :: hds ∧ b = .Try [.Expr (.Call (.Name a p1) [] [] p2) p3] (h₀ :: hds) [] [] p4 :: rest := by
  unfold thParts at h
  split at h
  · cases h; exact ⟨_, _, _, _, _, _, rfl, rfl⟩
  · cases h
/-- the clauses and what follows, translated -/
def thCk (L : Lw) (d : Fd) (x : PySem.Str) : Option (Sx × Sx) := match thParts (defBody d.st) with
  | some (a, hs, rest) => if a = x ∧ d.N[0]? = some x ∧ (x == ("__debug__" : PySem.Str)) = false ∧ (x == ("__classdict__" : PySem.Str)) = false then (match trHd d.N L.gt (defScope d.st).names (fun y ss => trSs (trHS L.gt d.N y (defScope d.st).names 40 12) ss) hs, trSs (trs L.gt L.gd d.N (defScope d.st).names 40 12) rest with
    | some a, some b => some (a, b)
    | _, _ => none) else none
  | none => none
theorem fdT {j f : Nat} {t : Th} (x : PySem.Str) (no : L.fns[L.ix j]? = none) (q : L.fns[L.ix f]? = some d) (h0 : d.dfl = []) (hk : d.kwo = []) (sc : FnScope d.N [x] (defScope d.st)) (hm : d.N.length = t.m) (ck : thCk L d x = some (t.hs, t.rest)) (nl : L.lamT.lookup d.N = none)
    (hb : ∀ (kV doc pm : Value) (an : Option Addr) (cdv ct : Value) (us : List Value), us.length = [x].length → bindArgs (PySem.W.fnOf d.name d.qual (defArgs d.st) (defBody d.st) (defScope d.st) .none kV doc pm an cdv ct) ⟨us, []⟩ = pure ([x].zip us)) : FdT L j f t := by
  unfold thCk at ck
  split at ck
  case h_2 => cases ck
  rename_i a hs rest e
  split at ck
  case isFalse => cases ck
  rename_i c
  obtain ⟨rfl, c2, c3, c4⟩ := c
  split at ck
  case h_2 => cases ck
  rename_i t1 t2
  cases ck
  obtain ⟨p1, p2, p3, p4, h₀, hds, rfl, eb⟩ := thParts_eq e
  exact ⟨no, d, d.N, a, p1, p2, p3, p4, h₀, hds, rest, 40, 12, q, h0, hk, eb, sc, hm, c2, c3, c4, t1, t2, nl, hb⟩
def xiParts : List Stmt → Option (PySem.Str × PySem.Str)
  | [.Expr (.Call (.Attribute (.Call (.Name s _) [] [] _) i p2) [.Constant (.str _) _ _] [] p4) _, .Assign [.Attribute (.Name se _) f _] (.Name v _) _] => if s = "super" ∧ i = "__init__" ∧ se = "self" ∧ (p2.endLine == p4.line) = true then some (f, v) else none
  | _ => none
theorem xiParts_eq {b : List Stmt} {f v : PySem.Str} (h : xiParts b = some (f, v)) : ∃ (p0 p1 p2 p3 p4 p5 p6 p7 p8 p9 : Pos) (k : Nat) (text : PySem.Str), (p2.endLine == p4.line) = true ∧ b = xiBody p0 p1 p2 p3 p4 p5 p6 p7 p8 p9 k text f v := by
  unfold xiParts at h
  split at h
  · split at h
    · rename_i c
      cases h
      obtain ⟨rfl, rfl, rfl, c⟩ := c
      exact ⟨_, _, _, _, _, _, _, _, _, _, _, _, c, rfl⟩
    · cases h
  · cases h
def xiB (L : Lw) (P : Program) (x : Xi) : Bool := ((P.main.file : PySem.Str) == L.file) && (!(P.main.scope.names.lookup ("super" : PySem.Str)).isSome && (decide (xiParts (defBody x.st) = some (L.nm x.f, x.v)) && (decide ((((defArgs x.st).posonlyargs ++ (defArgs x.st).args).head?).map (·.arg) = some "self") &&
  (decide ((defScope x.st).names.lookup ("super" : PySem.Str) = some .globalImplicit) && (decide ((defScope x.st).names.lookup ("__class__" : PySem.Str) = some .free) && (decide ((defScope x.st).names.lookup ("self" : PySem.Str) = some .local) && (decide ((defScope x.st).names.lookup x.v = some .local) &&
  (decide (x.v ≠ "self") && (!(x.v == ("__debug__" : PySem.Str)) && ((defScope x.st).names.all (fun y => decide (y.2 ≠ .cell)) && (decide ((defScope x.st).kind = .function) && (!(defScope x.st).isCoroutine && !(defScope x.st).isGenerator))))))))))))
theorem xi_of {P : Program} {x : Xi} (h : xiB L P x = true) (hb : ∀ (kV doc pm : Value) (an : Option Addr) (cdv ct : Value) (cc : Addr) (a b : Value), bindArgs (PySem.W.ksFn "__init__" x.qual (defArgs x.st) (defBody x.st) (defScope x.st) .none kV doc pm an cdv ct cc) ⟨[a, b], []⟩ = pure [(("self" : PySem.Str), a), (x.v, b)]) : XiOk L P x := by
  unfold xiB at h
  simp only [Bool.and_eq_true] at h
  obtain ⟨h1, h2, h3, h4, h5, h6, h7, h8, h9, h10, h11, h12, h13, h14⟩ := h
  refine ⟨h1, by simpa using h2, xiParts_eq (of_decide_eq_true h3), hb, ?_, of_decide_eq_true h5, of_decide_eq_true h6, of_decide_eq_true h7, of_decide_eq_true h8, of_decide_eq_true h9, by simpa using h10, fun y hy => of_decide_eq_true (List.all_eq_true.mp h11 y hy), of_decide_eq_true h12, by simpa using h13, by simpa using h14⟩
  obtain ⟨ar, e1, e2⟩ := Option.map_eq_some_iff.mp (of_decide_eq_true h4)
  exact ⟨ar, e1, e2⟩
/-- all thunks, one by one -/
theorem ths_nil : ∀ j f t, ([] : List (Nat × Nat × Th)).lookup j = some (f, t) → FdT L j f t := fun j f t h => by cases h
theorem ths_cons {j0 f0 : Nat} {t0 : Th} {l : List (Nat × Nat × Th)} (a : FdT L j0 f0 t0) (b : ∀ j f t, l.lookup j = some (f, t) → FdT L j f t) : ∀ j f t, ((j0, f0, t0) :: l).lookup j = some (f, t) → FdT L j f t := fun j f t h => by
  rw [List.lookup_cons] at h
  cases q : j == j0 with
  | true => rw [q] at h; cases h; rw [eq_of_beq q]; exact a
  | false => rw [q] at h; exact b j f t h
end
end Ev

/-! Pl: a run by rules: what it comes to, by the form that it has. -/
namespace Ev
section
variable {α β : Type}
/-- it ends, and so; or raises, and so -/
def Sat (r : Res α) (E : Nat → C → S → Prop) (Q : α → S → Prop) : Prop := match r with
  | .ok a st => Q a st
  | .ex c x st => E c x st
  | .stuck => False
variable {E : Nat → C → S → Prop} {Q Q' : α → S → Prop} {r : Res α} {st : S}
theorem sat_ok {a : α} (h : Q a st) : Sat (.ok a st) E Q := h
theorem sat_eq {a : α} {s : S} (e : r = .ok a s) (h : Q a s) : Sat r E Q := by rw [e]; exact h
theorem sat_bind {k : α → S → Res β} {P : β → S → Prop} (h : Sat r E fun a s => Sat (k a s) E P) : Sat (r.bind k) E P := by
  cases r with
  | ok a s => exact h
  | ex c x s => exact h
  | stuck => exact h
theorem sat_mono (h : Sat r E Q) (m : ∀ a s, Q a s → Q' a s) : Sat r E Q' := by
  cases r with
  | ok a s => exact m _ _ h
  | ex c x s => exact h
  | stuck => exact h
theorem sat_no {P : α → S → Prop} (h : Sat r (fun _ _ _ => False) P) (m : ∀ a s, P a s → Q a s) : Sat r E Q := by
  cases r with
  | ok a s => exact m _ _ h
  | ex c x s => exact h.elim
  | stuck => exact h
theorem eq_sat {a : α} {s : S} (h : Sat r (fun _ _ _ => False) fun b t => b = a ∧ t = s) : r = .ok a s := by
  cases r with
  | ok b t => obtain ⟨rfl, rfl⟩ := h; rfl
  | ex c x s => exact h.elim
  | stuck => exact h.elim
theorem sat_tame (h : Sat r (fun _ _ _ => False) Q) : Sat r.tame E Q := by
  cases r with
  | ok b t => exact h
  | ex c x s => exact h.elim
  | stuck => exact h.elim
inductive Al2 (P : W → W → Prop) : List W → List W → Prop where
  | nil : Al2 P [] []
  | cons {a b : W} {as bs : List W} : P a b → Al2 P as bs → Al2 P (a :: as) (b :: bs)
/-- two ways -/
def Br (b : Bool) (A B : Prop) : Prop := (b = true → A) ∧ (b = false → B)
theorem br_t {A B : Prop} (h : A) : Br true A B := ⟨fun _ => h, fun e => nomatch e⟩
theorem br_f {A B : Prop} (h : B) : Br false A B := ⟨(fun e => nomatch e), fun _ => h⟩
theorem br_yes {A B : Prop} {b : Bool} (e : b = true) (h : A) : Br b A B := by rw [e]; exact br_t h
theorem br_no {A B : Prop} {b : Bool} (e : b = false) (h : B) : Br b A B := by rw [e]; exact br_f h
theorem br_dec {A B : Prop} {p : Prop} [Decidable p] (h1 : p → A) (h2 : ¬p → B) : Br (decide p) A B := ⟨fun e => h1 (of_decide_eq_true e), fun e => h2 (of_decide_eq_false e)⟩
theorem br_neg {A B : Prop} {b : Bool} (h : Br b B A) : Br (!b) A B := by
  cases b with
  | true => exact br_f (h.1 rfl)
  | false => exact br_t (h.2 rfl)
theorem br_all {A B : Prop} {b : Bool} (h1 : b = true → A) (h2 : b = false → B) : Br b A B := ⟨h1, h2⟩
def IsB (w : W) (K : Bool → Prop) : Prop := ∃ b, w = .c (.bl b) ∧ K b
theorem isB_i {b : Bool} {K : Bool → Prop} (h : K b) : IsB (.c (.bl b)) K := ⟨b, rfl, h⟩
def IsI (w : W) (K : Int → Prop) : Prop := ∃ i, w = .c (.int i) ∧ K i
theorem isI_i {i : Int} {K : Int → Prop} (h : K i) : IsI (.c (.int i)) K := ⟨i, rfl, h⟩
/-- aside: p -/
def Sd (p K : Prop) : Prop := p ∧ K
theorem sd_i {p K : Prop} (h : p) (k : K) : Sd p K := ⟨h, k⟩
def Som (o : Option α) (K : α → Prop) : Prop := ∃ a, o = some a ∧ K a
theorem som_i {o : Option α} {K : α → Prop} {a : α} (e : o = some a) (h : K a) : Som o K := ⟨a, e, h⟩
def Clo (ws : List W) (K : List C → Prop) : Prop := ∃ cs, clo ws = some cs ∧ K cs
theorem clo_i {ws : List W} {cs : List C} {K : List C → Prop} (e : clo ws = some cs) (h : K cs) : Clo ws K := ⟨cs, e, h⟩
theorem clo_map {f : α → C} : ∀ l : List α, clo (l.map fun a => W.c (f a)) = some (l.map f)
  | [] => rfl
  | a :: l => by
    show (match clo (l.map fun a => W.c (f a)) with | some cs => some (f a :: cs) | none => none) = _
    rw [clo_map l]; rfl
theorem clo_cs : ∀ l : List C, clo (l.map W.c) = some l
  | [] => rfl
  | a :: l => by
    show (match clo (l.map W.c) with | some cs => some (a :: cs) | none => none) = _
    rw [clo_cs l]
theorem bools_map {f : α → Bool} : ∀ l : List α, bools (l.map fun a => W.c (.bl (f a))) = some (l.map f)
  | [] => rfl
  | a :: l => by
    show (bools (l.map fun a => W.c (.bl (f a)))).map (f a :: ·) = _
    rw [bools_map l]; rfl
theorem intsOf_map {f : α → Int} : ∀ l : List α, intsOf (l.map fun a => W.c (.int (f a))) = some (l.map f)
  | [] => rfl
  | a :: l => by
    show (intsOf (l.map fun a => W.c (.int (f a)))).map (f a :: ·) = _
    rw [intsOf_map l]; rfl
end
section
variable {g : Gd} {cl : Cl} {fu : Nat} {env : Env} {st : S} {E : Nat → C → S → Prop} {Q : W → S → Prop} {T : Bool → S → Prop} {M : List W → S → Prop} {F : Fl → S → Prop}
/-! ### values -/
theorem v_var {i : Nat} {w : W} (e : env[i]? = some (some w)) (h : Q w st) : Sat ((sem g cl (.var i)).v env st) E Q := by
  show Sat (match env[i]? with | some (some w) => .ok w st | _ => .stuck) E Q
  rw [e]; exact h
theorem v_int {i : Int} (h : Q (.c (.int i)) st) : Sat ((sem g cl (.int i)).v env st) E Q := h
theorem v_bl {b : Bool} (h : Q (.c (.bl b)) st) : Sat ((sem g cl (.bl b)).v env st) E Q := h
theorem v_non (h : Q (.c .non) st) : Sat ((sem g cl .non).v env st) E Q := h
theorem v_str {s : List Nat} (h : Q (.c (.str s)) st) : Sat ((sem g cl (.str s)).v env st) E Q := h
theorem v_glob {i : Nat} {c : C} (e : g.con i = some c) (h : Q (.c c) st) : Sat ((sem g cl (.glob i)).v env st) E Q := by
  show Sat (match g.con i with | some c => okc c st | none => .stuck) E Q
  rw [e]; exact h
theorem v_bin {op : Bop} {a b : Ex} (h : Sat ((sem g cl a).v env st) E fun x s => Sat ((sem g cl b).v env s) E fun y s' => Sat (bin g cl op x y s') E Q) : Sat ((sem g cl (.bin op a b)).v env st) E Q := sat_bind (sat_mono h fun _ _ h => sat_bind h)
theorem v_neg {a : Ex} (h : Sat ((sem g cl a).v env st) E fun x s => IsI x fun i => Q (.c (.int (-i))) s) : Sat ((sem g cl (.neg a)).v env st) E Q := sat_bind (sat_mono h fun _ _ ⟨_, e, h⟩ => by subst e; exact h)
theorem v_not {a : Ex} (h : Sat ((sem g cl a).v env st) E fun x s => Sat (truR x s) E fun b s' => Q (.c (.bl (!b))) s') : Sat ((sem g cl (.not a)).v env st) E Q := sat_bind (sat_mono h fun _ _ h => sat_bind h)
theorem v_cmp {op : Cop} {a b : Ex} (h : Sat ((sem g cl a).v env st) E fun x s => Sat ((sem g cl b).v env s) E fun y s' => Sat (cmpop g cl op x y s') E Q) : Sat ((sem g cl (.cmp op a b)).v env st) E Q := sat_bind (sat_mono h fun _ _ h => sat_bind h)
theorem v_cmp2 {o1 o2 : Cop} {a b c : Ex} (h : Sat ((sem g cl a).v env st) E fun x s => Sat ((sem g cl b).v env s) E fun y s2 => Sat (cmpop g cl o1 x y s2) E fun t s3 => IsB t fun t => Br t (Sat ((sem g cl c).v env s3) E fun z s4 => Sat (cmpop g cl o2 y z s4) E Q) (Q (.c (.bl false)) s3)) :
    Sat ((sem g cl (.cmp2 o1 o2 a b c)).v env st) E Q :=
  sat_bind (sat_mono h fun _ _ h => sat_bind (sat_mono h fun _ _ h => sat_bind (sat_mono h fun t s ⟨b, e, h⟩ => by
    subst e
    cases b with
    | true => exact sat_bind (h.1 rfl)
    | false => exact h.2 rfl)))
theorem v_and {a b : Ex} (h : Sat ((sem g cl a).v env st) E fun x s => Sat (truR x s) E fun t s' => Br t (Sat ((sem g cl b).v env s') E Q) (Q x s')) : Sat ((sem g cl (.and a b)).v env st) E Q :=
  sat_bind (sat_mono h fun _ _ h => sat_bind (sat_mono h fun t _ h => match t with | true => h.1 rfl | false => h.2 rfl))
theorem v_or {a b : Ex} (h : Sat ((sem g cl a).v env st) E fun x s => Sat (truR x s) E fun t s' => Br t (Q x s') (Sat ((sem g cl b).v env s') E Q)) : Sat ((sem g cl (.or a b)).v env st) E Q :=
  sat_bind (sat_mono h fun _ _ h => sat_bind (sat_mono h fun t _ h => match t with | true => h.1 rfl | false => h.2 rfl))
theorem v_ite {c a b : Ex} (h : Sat ((sem g cl c).t env st) E fun t s => Br t (Sat ((sem g cl a).v env s) E Q) (Sat ((sem g cl b).v env s) E Q)) : Sat ((sem g cl (.ite c a b)).v env st) E Q :=
  sat_bind (sat_mono h fun t _ h => match t with | true => h.1 rfl | false => h.2 rfl)
theorem v_tup {es : Ex} (h : Sat ((sem g cl es).l env st) E fun ws s => Clo ws fun cs => Q (.c (.tup cs)) s) : Sat ((sem g cl (.tup es)).v env st) E Q :=
  sat_bind (sat_mono h fun ws s ⟨cs, e, h⟩ => by show Sat (match clo ws with | some cs => okc (.tup cs) s | none => .stuck) E Q; rw [e]; exact h)
theorem v_dsp {ks : List (List Nat)} {es : Ex} (h : Sat ((sem g cl es).l env st) E fun ws s => Clo ws fun cs => Q (.c (.dct (ks.map .str) cs)) s) : Sat ((sem g cl (.dsp ks es)).v env st) E Q :=
  sat_bind (sat_mono h fun ws s ⟨cs, e, h⟩ => by show Sat (match clo ws with | some cs => okc (.dct (ks.map .str) cs) s | none => .stuck) E Q; rw [e]; exact h)
theorem v_ofL {l : Env → S → Res (List W)} (h : Sat (l env st) E fun ws s => Clo ws fun cs => Q (.c (.lst cs)) s) : Sat ((Sm.ofL l).v env st) E Q :=
  sat_bind (sat_mono h fun ws s ⟨cs, e, h⟩ => by show Sat (match clo ws with | some cs => okc (.lst cs) s | none => .stuck) E Q; rw [e]; exact h)
theorem v_lst {es : Ex} (h : Sat ((sem g cl es).l env st) E fun ws s => Clo ws fun cs => Q (.c (.lst cs)) s) : Sat ((sem g cl (.lst es)).v env st) E Q := v_ofL h
theorem v_lc {elt it cnd : Ex} {tg : Tg} {vs : List Nat} (h : Sat ((sem g cl (.lc elt tg it cnd vs)).l env st) E fun ws s => Clo ws fun cs => Q (.c (.lst cs)) s) : Sat ((sem g cl (.lc elt tg it cnd vs)).v env st) E Q := v_ofL h
theorem v_mut {e : Ex} (h : Sat ((sem g cl e).l env st) E fun ws s => Q (.r s.length) (s ++ [some (.lst ws)])) : Sat ((sem g cl (.mut e)).v env st) E Q := sat_bind h
theorem v_call {f : Nat} {es : Ex} (h : Sat ((sem g cl es).l env st) E fun ws s => Sat (cl f ws s) E Q) : Sat ((sem g cl (.call f es)).v env st) E Q := sat_bind h
theorem v_make {c : Nat} {es : Ex} (h : Sat ((sem g cl es).l env st) E fun ws s => Sat (mk g cl c ws s) E Q) : Sat ((sem g cl (.make c es)).v env st) E Q := sat_bind h
theorem v_callk {f : Nat} {es ks : Ex} (h : Sat ((sem g cl es).l env st) E fun ws s => Sat ((sem g cl ks).l env s) E fun zs s' => Sat (cl f (ws ++ zs) s') E Q) : Sat ((sem g cl (.callk f es ks)).v env st) E Q := sat_bind (sat_mono h fun _ _ h => sat_bind h)
theorem v_makek {c f : Nat} {es ks : Ex} (h : Sat ((sem g cl es).l env st) E fun ws s => Sat ((sem g cl ks).l env s) E fun zs s' => Sat (mkf g cl f c (ws ++ zs) s') E Q) : Sat ((sem g cl (.makek c f es ks)).v env st) E Q := sat_bind (sat_mono h fun _ _ h => sat_bind h)
theorem v_calls {f : Nat} {e : Ex} (h : Sat ((sem g cl e).v env st) E fun w s => Som (starW w) fun ws => Sat (cl f ws s) E Q) : Sat ((sem g cl (.calls f e)).v env st) E Q :=
  sat_bind (sat_mono h fun w s ⟨ws, e, h⟩ => by show Sat (match starW w with | some ws => cl f ws s | none => .stuck) E Q; rw [e]; exact h)
theorem v_makes {c : Nat} {e : Ex} (h : Sat ((sem g cl e).v env st) E fun w s => Som (starW w) fun ws => Sat (mk g cl c ws s) E Q) : Sat ((sem g cl (.makes c e)).v env st) E Q :=
  sat_bind (sat_mono h fun w s ⟨ws, e, h⟩ => by show Sat (match starW w with | some ws => mk g cl c ws s | none => .stuck) E Q; rw [e]; exact h)
/-- the method of a value -/
def IsM (g : Gd) (s : S) (x : W) (m : Nat) (K : Nat → Prop) : Prop := ∃ f, methOf g s x m = some f ∧ K f
theorem isM_i {s : S} {x : W} {m f : Nat} {K : Nat → Prop} (e : methOf g s x m = some f) (h : K f) : IsM g s x m K := ⟨f, e, h⟩
theorem v_meth {o es : Ex} {m : Nat} (h : Sat ((sem g cl o).v env st) E fun x s => IsM g s x m fun f => Sat ((sem g cl es).l env s) E fun ws s' => Sat (cl f (x :: ws) s') E Q) : Sat ((sem g cl (.meth o m es)).v env st) E Q :=
  sat_bind (sat_mono h fun x s ⟨f, e, h⟩ => by show Sat (match methOf g s x m with | some f => ((sem g cl es).l env s).bind fun ws st2 => cl f (x :: ws) st2 | none => .stuck) E Q; rw [e]; exact sat_bind h)
theorem v_attr {o : Ex} {f : Nat} (h : Sat ((sem g cl o).v env st) E fun x s => Sat (attr g cl x f s) E Q) : Sat ((sem g cl (.attr o f)).v env st) E Q := sat_bind h
theorem v_ix {o i : Ex} (h : Sat ((sem g cl o).v env st) E fun x s => Sat ((sem g cl i).v env s) E fun y s' => Sat (getix g cl x y s') E Q) : Sat ((sem g cl (.ix o i)).v env st) E Q := sat_bind (sat_mono h fun _ _ h => sat_bind h)
theorem v_sl {o lo hi : Ex} (h : Sat ((sem g cl o).v env st) E fun x s => Sat ((sem g cl lo).l env s) E fun y s2 => Sat (partR y s2) E fun l s3 => Sat ((sem g cl hi).l env s3) E fun z s4 => Sat (partR z s4) E fun h s5 => Sat (slice x l h s5) E Q) : Sat ((sem g cl (.sl o lo hi)).v env st) E Q :=
  sat_bind (sat_mono h fun _ _ h => sat_bind (sat_mono h fun _ _ h => sat_bind (sat_mono h fun _ _ h => sat_bind (sat_mono h fun _ _ h => sat_bind h))))
theorem v_bi {b : Bfn} {es : Ex} (h : Sat ((sem g cl es).l env st) E fun ws s => Sat (bfn g cl b ws s) E Q) : Sat ((sem g cl (.bi b es)).v env st) E Q := sat_bind h
theorem v_bm {m : Bm} {o es : Ex} (h : Sat ((sem g cl o).v env st) E fun x s => Sd (isL s x = true) (Sat ((sem g cl es).l env s) E fun ws s' => Sat (bmeth m x ws s') E Q)) : Sat ((sem g cl (.bm m o es)).v env st) E Q :=
  sat_bind (sat_mono h fun x s h => by show Sat (if isL s x then ((sem g cl es).l env s).bind fun ws st2 => bmeth m x ws st2 else .stuck) E Q; rw [if_pos h.1]; exact sat_bind h.2)
theorem v_isi {e : Ex} {ts : List Ty} (h : Sat ((sem g cl e).v env st) E fun x s => Sd (knownW g s x = true) (Som (isin s x ts) fun b => Q (.c (.bl b)) s)) : Sat ((sem g cl (.isi e ts)).v env st) E Q :=
  sat_bind (sat_mono h fun x s ⟨h1, b, h2, h⟩ => by show Sat (if knownW g s x then toB (isin s x ts) s else .stuck) E Q; rw [if_pos h1, h2]; exact h)
/-! ### truth -/
theorem t_v {e : Ex} {f : Env → S → Res W} (q : sem g cl e = Sm.ofV f) (h : Sat ((sem g cl e).v env st) E fun w s => Sat (truR w s) E T) : Sat ((sem g cl e).t env st) E T := by
  rw [q] at h ⊢
  exact sat_bind h
theorem t_not {a : Ex} (h : Sat ((sem g cl a).t env st) E fun b s => T (!b) s) : Sat ((sem g cl (.not a)).t env st) E T := sat_bind h
theorem t_and {a b : Ex} (h : Sat ((sem g cl a).t env st) E fun t s => Br t (Sat ((sem g cl b).t env s) E T) (T false s)) : Sat ((sem g cl (.and a b)).t env st) E T :=
  sat_bind (sat_mono h fun t _ h => match t with | true => h.1 rfl | false => h.2 rfl)
theorem t_or {a b : Ex} (h : Sat ((sem g cl a).t env st) E fun t s => Br t (T true s) (Sat ((sem g cl b).t env s) E T)) : Sat ((sem g cl (.or a b)).t env st) E T :=
  sat_bind (sat_mono h fun t _ h => match t with | true => h.1 rfl | false => h.2 rfl)
theorem t_ite {c a b : Ex} (h : Sat ((sem g cl c).t env st) E fun t s => Br t (Sat ((sem g cl a).t env s) E T) (Sat ((sem g cl b).t env s) E T)) : Sat ((sem g cl (.ite c a b)).t env st) E T :=
  sat_bind (sat_mono h fun t _ h => match t with | true => h.1 rfl | false => h.2 rfl)
theorem t_bi {b : Bfn} {es : Ex} (h : Sat ((sem g cl es).l env st) E fun ws s => Sat (bfn g cl b ws s) E fun w s => Sat (truR w s) E T) : Sat ((sem g cl (.bi b es)).t env st) E T := sat_bind (sat_bind (sat_mono h fun _ _ h => h))
theorem tru_bl {b : Bool} (h : T b st) : Sat (truR (.c (.bl b)) st) E T := h
theorem tru_int {i : Int} (h : T (i != 0) st) : Sat (truR (.c (.int i)) st) E T := h
theorem tru_non (h : T false st) : Sat (truR (.c .non) st) E T := h
/-! ### lists of values -/
theorem l_nil (h : M [] st) : Sat ((sem g cl .nil).l env st) E M := h
theorem l_cons {e es : Ex} (h : Sat ((sem g cl e).v env st) E fun x s => Sat ((sem g cl es).l env s) E fun ws s' => M (x :: ws) s') : Sat ((sem g cl (.cons e es)).l env st) E M := sat_bind (sat_mono h fun _ _ h => sat_bind h)
theorem l_lst {es : Ex} (h : Sat ((sem g cl es).l env st) E M) : Sat ((sem g cl (.lst es)).l env st) E M := h
theorem l_bi {b : Bfn} {es : Ex} (h : Sat ((sem g cl es).l env st) E fun ws s => Som (bfnL b ws s) fun r => M r s) : Sat ((sem g cl (.bi b es)).l env st) E M :=
  sat_bind (sat_mono h fun ws s ⟨r, e, h⟩ => by show Sat (match bfnL b ws s with | some r => .ok r s | none => .stuck) E M; rw [e]; exact h)
theorem l_rng1 {a : Ex} (h : Sat ((sem g cl a).v env st) E fun x s => IsI x fun j => Sd (-(2 ^ 62) ≤ j ∧ j < 2 ^ 62) (M (natsTo 0 j.toNat) s)) : Sat ((sem g cl (.rng1 a)).l env st) E M :=
  sat_bind (sat_mono h fun x s ⟨j, e, hj, h⟩ => by subst e; show Sat (if -(2 ^ 62) ≤ j ∧ j < 2 ^ 62 then .ok (natsTo 0 j.toNat) s else .stuck) E M; rw [if_pos hj]; exact h)
theorem l_rng2 {a b : Ex} (h : Sat ((sem g cl a).v env st) E fun x s => Sat ((sem g cl b).v env s) E fun y s' => IsI x fun i => IsI y fun j => Sd (-(2 ^ 62) ≤ i ∧ i < 2 ^ 62 ∧ -(2 ^ 62) ≤ j ∧ j < 2 ^ 62) (M (natsTo i (j - i).toNat) s')) : Sat ((sem g cl (.rng2 a b)).l env st) E M :=
  sat_bind (sat_mono h fun x s h => sat_bind (sat_mono h fun y s' ⟨i, e, j, e', hj, z⟩ => by subst e; subst e'; show Sat (if -(2 ^ 62) ≤ i ∧ i < 2 ^ 62 ∧ -(2 ^ 62) ≤ j ∧ j < 2 ^ 62 then .ok (natsTo i (j - i).toNat) s' else .stuck) E M; rw [if_pos hj]; exact z))
/-- items to be walked -/
def itC : C → Option (List W)
  | .lst cs => some (cs.map .c) | .tup cs => some (cs.map .c) | .frz cs => some (cs.map .c)
  | .str s => some (s.map fun k => .c (.str [k]))
  | _ => none
def itW : W → Option (List W)
  | .c c => itC c | .r _ => none
theorem l_itv {a : Ex} (h : Sat ((sem g cl a).v env st) E fun x s => Som (itW x) fun ws => M ws s) : Sat ((sem g cl (.itv a)).l env st) E M :=
  sat_bind (sat_mono h fun x s ⟨ws, e2, h⟩ => by
    cases x with
    | r n => cases e2
    | c c => cases c <;> first | (cases e2; done) | (cases e2; exact h))
theorem l_enum {a : Ex} (h : Sat ((sem g cl a).v env st) E fun x s => ∃ cs, (x = .c (.lst cs) ∨ x = .c (.tup cs) ∨ x = .c (.frz cs)) ∧ M (enumGo 0 cs) s) : Sat ((sem g cl (.enum a)).l env st) E M :=
  sat_bind (sat_mono h fun x s ⟨cs, e, h⟩ => by
    rcases e with e | e | e <;> subst e <;> exact h)
theorem l_zipL {a b : Ex} (h : Sat ((sem g cl a).v env st) E fun x s => Sat ((sem g cl b).v env s) E fun y s' => ∃ cs ds, ((x = .c (.lst cs) ∧ y = .c (.lst ds)) ∨ (x = .c (.tup cs) ∧ y = .c (.tup ds))) ∧ M (zipGo cs ds) s') : Sat ((sem g cl (.zip a b)).l env st) E M :=
  sat_bind (sat_mono h fun x s h => sat_bind (sat_mono h fun y s' ⟨cs, ds, e, z⟩ => by
    rcases e with ⟨e, e'⟩ | ⟨e, e'⟩ <;> subst e <;> subst e' <;> exact z))
theorem natsTo_map (n : Nat) : ∀ lo : Int, natsTo lo n = (List.range n).map fun (a : Nat) => W.c (.int (lo + a)) := by
  induction n with
  | zero => intro lo; rfl
  | succ n ih =>
    intro lo
    show W.c (.int lo) :: natsTo (lo + 1) n = _
    rw [ih, List.range_succ_eq_map, List.map_cons, List.map_map]
    congr 1
    · simp
    · apply List.map_congr_left
      intro a _
      simp only [Function.comp]
      congr 2
      omega
theorem ntLen (lo : Int) (n : Nat) : (natsTo lo n).length = n := by rw [natsTo_map]; simp
/-- a comprehension that changes nothing: those that are taken, what they give -/
theorem lcGo_pure {lk : S → Bool} {tg : Tg} {c : Env → S → Res Bool} {e : Env → S → Res W} {p : W → Bool} {f : W → C} (hlk : lk st = true) : ∀ {ws : List W}, (∀ w ∈ ws, ∃ env', bindTg st tg w env = some env' ∧ Sat (c env' st) (fun _ _ _ => False) fun t s => t = p w ∧ s = st ∧ (p w = true → Sat (e env' st) (fun _ _ _ => False) fun x s' => x = .c (f w) ∧ s' = st)) →
      lcGo lk tg c e env ws st = .ok ((ws.filter p).map fun w => .c (f w)) st
  | [], _ => if_pos hlk
  | w :: ws, he => by
    obtain ⟨env', h1, h2⟩ := he w List.mem_cons_self
    unfold lcGo
    rw [h1, hlk]
    have h3 := eq_sat (sat_mono h2 fun _ _ h => ⟨h.1, h.2.1⟩)
    rw [h3] at h2
    obtain ⟨-, -, h2⟩ := h2
    have ih := lcGo_pure hlk fun w hw => he w (List.mem_cons_of_mem _ hw)
    rw [List.filter_cons]
    dsimp only
    rw [h3]
    show (match p w with | false => lcGo lk tg c e env ws st | true => (e env' st).tame.bind fun x st2 => (lcGo lk tg c e env ws st2).bind fun r st3 => .ok (x :: r) st3) = _
    cases hp : p w with
    | false => exact ih
    | true =>
      have h4 := eq_sat (h2 hp)
      dsimp only
      rw [h4]
      show ((lcGo lk tg c e env ws st).bind fun r st3 => .ok (W.c (f w) :: r) st3) = _
      rw [ih]
      rfl
/-- over the numbers from 0 -/
theorem lc_nats {lk : S → Bool} {i m : Nat} {c : Env → S → Res Bool} {e : Env → S → Res W} {M : List W → S → Prop} (f : Int → C) (hc : ∀ env s, c env s = .ok true s) (he : ∀ j : Int, 0 ≤ j → j < m → Sat (e (env.set i (some (.c (.int j)))) st) (fun _ _ _ => False) fun x s => x = .c (f j) ∧ s = st) (h : M ((List.range m).map fun (a : Nat) => .c (f a)) st) (hlk : lk st = true := by rfl) : Sat (lcGo lk (.n i) c e env (natsTo 0 m) st) E M := by
  have e1 : lcGo lk (.n i) c e env (natsTo 0 m) st = .ok (((natsTo 0 m).filter fun _ => true).map fun w => .c (match w with | .c (.int j) => f j | _ => .non)) st := by
    refine lcGo_pure hlk fun w hw => ⟨_, rfl, ?_⟩
    rw [hc]
    refine ⟨rfl, rfl, fun _ => ?_⟩
    rw [natsTo_map] at hw
    obtain ⟨a, ha, rfl⟩ := List.mem_map.mp hw
    have := List.mem_range.mp ha
    have := he (0 + (a : Int)) (by omega) (by omega)
    exact this
  refine sat_eq e1 ?_
  rw [List.filter_eq_self.mpr fun _ _ => rfl, natsTo_map, List.map_map]
  have e2 : (List.range m).map ((fun w => W.c (match w with | .c (.int j) => f j | _ => .non)) ∘ fun (a : Nat) => W.c (.int (0 + (a : Int)))) = (List.range m).map fun (a : Nat) => W.c (f a) := by
    apply List.map_congr_left
    intro a _
    simp
  rw [e2]
  exact h
/-- over the numbers from 0, some of them -/
theorem lc_natsIf {lk : S → Bool} {i m : Nat} {c : Env → S → Res Bool} {e : Env → S → Res W} {M : List W → S → Prop} (p : Int → Bool) (f : Int → C) (hc : ∀ j : Int, 0 ≤ j → j < m → Sat (c (env.set i (some (.c (.int j)))) st) (fun _ _ _ => False) fun t s => t = p j ∧ s = st) (he : ∀ j : Int, 0 ≤ j → j < m → p j = true → Sat (e (env.set i (some (.c (.int j)))) st) (fun _ _ _ => False) fun x s => x = .c (f j) ∧ s = st) (h : M (((List.range m).filter fun (a : Nat) => p a).map fun (a : Nat) => .c (f a)) st) (hlk : lk st = true := by rfl) : Sat (lcGo lk (.n i) c e env (natsTo 0 m) st) E M := by
  have e1 : lcGo lk (.n i) c e env (natsTo 0 m) st = .ok (((natsTo 0 m).filter fun w => match w with | .c (.int j) => p j | _ => false).map fun w => .c (match w with | .c (.int j) => f j | _ => .non)) st := by
    refine lcGo_pure hlk fun w hw => ⟨_, rfl, ?_⟩
    rw [natsTo_map] at hw
    obtain ⟨a, ha, rfl⟩ := List.mem_map.mp hw
    have := List.mem_range.mp ha
    have h1 := hc (0 + (a : Int)) (by omega) (by omega)
    have h2 := he (0 + (a : Int)) (by omega) (by omega)
    exact sat_mono h1 fun t s z => ⟨z.1, z.2, h2⟩
  refine sat_eq e1 ?_
  rw [natsTo_map, List.filter_map, List.map_map]
  have e3 : (List.range m).filter ((fun w => match w with | .c (.int j) => p j | _ => false) ∘ fun (a : Nat) => W.c (.int (0 + (a : Int)))) = (List.range m).filter fun (a : Nat) => p a := by
    apply List.filter_congr
    intro a _
    simp
  rw [e3]
  have e2 : ((List.range m).filter fun (a : Nat) => p a).map ((fun w => W.c (match w with | .c (.int j) => f j | _ => .non)) ∘ fun (a : Nat) => W.c (.int (0 + (a : Int)))) = ((List.range m).filter fun (a : Nat) => p a).map fun (a : Nat) => W.c (f a) := by
    apply List.map_congr_left
    intro a _
    simp
  rw [e2]
  exact h
/-- over a list -/
theorem lc_list {α : Type} {lk : S → Bool} {tg : Tg} {c : Env → S → Res Bool} {e : Env → S → Res W} {M : List W → S → Prop} (u : α → C) (p : α → Bool) (f : α → C) : ∀ {l : List α}, (∀ x ∈ l, ∃ env', bindTg st tg (.c (u x)) env = some env' ∧ Sat (c env' st) (fun _ _ _ => False) fun t s => t = p x ∧ s = st ∧ (p x = true → Sat (e env' st) (fun _ _ _ => False) fun w s' => w = .c (f x) ∧ s' = st)) →
    M ((l.filter p).map fun x => .c (f x)) st → (hlk : lk st = true := by rfl) → Sat (lcGo lk tg c e env ((l.map u).map .c) st) E M := by
  intro l he h hlk
  refine sat_eq ?_ h
  clear h
  induction l with
  | nil => exact if_pos hlk
  | cons x l ih =>
    obtain ⟨env', h1, h2⟩ := he x List.mem_cons_self
    have ih := ih fun y hy => he y (List.mem_cons_of_mem _ hy)
    show lcGo lk tg c e env (.c (u x) :: (l.map u).map .c) st = _
    unfold lcGo
    rw [h1, hlk]
    have h3 := eq_sat (sat_mono h2 fun _ _ h => ⟨h.1, h.2.1⟩)
    rw [h3] at h2
    obtain ⟨-, -, h2⟩ := h2
    rw [List.filter_cons]
    dsimp only
    rw [h3]
    show (match p x with | false => lcGo lk tg c e env ((l.map u).map .c) st | true => (e env' st).tame.bind fun x st2 => (lcGo lk tg c e env ((l.map u).map .c) st2).bind fun r st3 => .ok (x :: r) st3) = _
    cases hp : p x with
    | false => exact ih
    | true =>
      have h4 := eq_sat (h2 hp)
      dsimp only
      rw [h4]
      show ((lcGo lk tg c e env ((l.map u).map .c) st).bind fun r st3 => .ok (W.c (f x) :: r) st3) = _
      rw [ih]
      rfl
theorem lc_listT {α : Type} {lk : S → Bool} {tg : Tg} {c : Env → S → Res Bool} {e : Env → S → Res W} {M : List W → S → Prop} (u : α → C) (f : α → C) {l : List α} (hc : ∀ env s, c env s = .ok true s) (he : ∀ x ∈ l, ∃ env', bindTg st tg (.c (u x)) env = some env' ∧ Sat (e env' st) (fun _ _ _ => False) fun w s' => w = .c (f x) ∧ s' = st)
    (h : M (l.map fun x => .c (f x)) st) (hlk : lk st = true := by rfl) : Sat (lcGo lk tg c e env ((l.map u).map .c) st) E M := by
  refine lc_list u (fun _ => true) f (fun x hx => ?_) ?_ hlk
  · obtain ⟨env', h1, h2⟩ := he x hx
    refine ⟨env', h1, ?_⟩
    rw [hc]
    exact ⟨rfl, rfl, fun _ => h2⟩
  · rw [List.filter_eq_self.mpr fun _ _ => rfl]; exact h
/-- a comprehension without a condition, in which something changes -/
theorem lcGo_st {lk : S → Bool} {tg : Tg} {e : Env → S → Res W} {c : Env → S → Res Bool} (I : List W → S → Prop) (P : W → W → Prop) (hlk : ∀ ws st, I ws st → lk st = true) : ∀ (ws : List W) (st : S) (M : List W → S → Prop), I ws st →
    (∀ w ws st, I (w :: ws) st → ∃ env', bindTg st tg w env = some env' ∧ Sat (c env' st) (fun _ _ _ => False) fun t s => t = true ∧ s = st ∧ Sat (e env' st) (fun _ _ _ => False) fun x s' => P w x ∧ I ws s') → (∀ rs st, Al2 P ws rs → I [] st → M rs st) → Sat (lcGo lk tg c e env ws st) E M
  | [], st, M, hi, _, hm => by
    show Sat (if lk st then .ok [] st else .stuck) E M
    rw [if_pos (hlk _ _ hi)]
    exact hm [] st .nil hi
  | w :: ws, st, M, hi, he, hm => by
    obtain ⟨env', h1, h2⟩ := he w ws st hi
    unfold lcGo
    rw [h1, hlk _ _ hi]
    dsimp only
    refine sat_bind (sat_tame (sat_mono h2 fun t s h => ?_))
    obtain ⟨rfl, rfl, h⟩ := h
    refine sat_bind (sat_tame (sat_mono h fun x s' h => ?_))
    exact sat_bind (lcGo_st I P hlk ws s' _ h.2 he fun rs st hr hI => hm (x :: rs) st (.cons h.1 hr) hI)
theorem l_lc {elt it cnd : Ex} {tg : Tg} {vs : List Nat} (h : Sat ((sem g cl it).l env st) E fun ws s => Sd (ws.length ≤ 16777216) (Sat (lcGo (lkOk (lkE it env) ws) tg (sem g cl cnd).t (sem g cl elt).v (wipeE env vs) ws s) E M)) : Sat ((sem g cl (.lc elt tg it cnd vs)).l env st) E M :=
  sat_bind (sat_mono h fun ws s h => by show Sat (if ws.length ≤ 16777216 then lcGo (lkOk (lkE it env) ws) tg (sem g cl cnd).t (sem g cl elt).v (wipeE env vs) ws s else .stuck) E M; rw [if_pos h.1]; exact h.2)
theorem l_itrC {i : Nat} {x : C} (e : env[i]? = some (some (.c x))) (h : Som (itC x) fun ws => M ws st) : Sat ((sem g cl (.itr i)).l env st) E M := by
  obtain ⟨ws, e2, h⟩ := h
  show Sat (match env[i]? with
    | some (some (.r n)) => (match cellAt st n with | some (.lst ws) => .ok ws st | _ => .stuck)
    | some (some (.c (.lst cs))) => .ok (cs.map .c) st
    | some (some (.c (.tup cs))) => .ok (cs.map .c) st
    | some (some (.c (.frz cs))) => .ok (cs.map .c) st
    | some (some (.c (.str s))) => .ok (s.map fun k => .c (.str [k])) st
    | _ => .stuck) E M
  rw [e]
  cases x <;> first | (cases e2; done) | (cases e2; exact h)
theorem l_itrR {i n : Nat} {ws : List W} (e : env[i]? = some (some (.r n))) (hc : cellAt st n = some (.lst ws)) (h : M ws st) : Sat ((sem g cl (.itr i)).l env st) E M := by
  show Sat (match env[i]? with
    | some (some (.r n)) => (match cellAt st n with | some (.lst ws) => .ok ws st | _ => .stuck)
    | some (some (.c (.lst cs))) => .ok (cs.map .c) st
    | some (some (.c (.tup cs))) => .ok (cs.map .c) st
    | some (some (.c (.frz cs))) => .ok (cs.map .c) st
    | some (some (.c (.str s))) => .ok (s.map fun k => .c (.str [k])) st
    | _ => .stuck) E M
  rw [e]
  dsimp only
  rw [hc]; exact h
mutual
theorem beqC_refl : ∀ a : C, beqC a a = true
  | .non => by unfold beqC; rfl
  | .bl x => by unfold beqC; exact beq_self_eq_true x
  | .int x => by unfold beqC; exact decide_eq_true rfl
  | .str x => by unfold beqC; exact decide_eq_true rfl
  | .tup x => by unfold beqC; exact beqCs_refl x
  | .lst x => by unfold beqC; exact beqCs_refl x
  | .frz x => by unfold beqC; exact beqCs_refl x
  | .dct k x => by unfold beqC; rw [beqCs_refl k, beqCs_refl x]; rfl
  | .ins c f x => by unfold beqC; rw [beqCs_refl x, decide_eq_true rfl, decide_eq_true rfl]; rfl
theorem beqCs_refl : ∀ a : List C, beqCs a a = true
  | [] => by unfold beqCs; rfl
  | x :: xs => by unfold beqCs; rw [beqC_refl x, beqCs_refl xs]; rfl
end
theorem beqWs_refl : ∀ a : List W, beqWs a a = true
  | [] => by unfold beqWs; rfl
  | .c x :: xs => by unfold beqWs; rw [beqC_refl x, beqWs_refl xs]; rfl
  | .r n :: xs => by unfold beqWs; rw [beqWs_refl xs, decide_eq_true rfl]; rfl
theorem lkOk_of {n : Nat} {ws : List W} (h : cellAt st n = some (.lst ws)) : lkOk (some n) ws st = true := by
  show (match cellAt st n with | some (.lst xs) => beqWs xs ws | _ => false) = true
  rw [h]; exact beqWs_refl ws
/-! ### statements -/
theorem s_nil (h : F (.nx env) st) : Sat (stm g cl fu .nil env st) E F := h
theorem s_pass (h : F (.nx env) st) : Sat (stm g cl fu .pass env st) E F := h
theorem s_brk (h : F (.bk env) st) : Sat (stm g cl fu .brk env st) E F := h
theorem s_cont (h : F (.ct env) st) : Sat (stm g cl fu .cont env st) E F := h
theorem s_retN (h : F (.rt (.c .non)) st) : Sat (stm g cl fu .retN env st) E F := h
theorem s_cons {s ss : Sx} (h : Sat (stm g cl fu s env st) E fun f s' => match f with | .nx e => Sat (stm g cl fu ss e s') E F | f => F f s') : Sat (stm g cl fu (.cons s ss) env st) E F :=
  sat_bind (sat_mono h fun f s h => match f with | .nx _ => h | .rt _ => h | .bk _ => h | .ct _ => h)
theorem s_cut {s ss : Sx} (I : Env → S → Prop) (h : Sat (stm g cl fu s env st) E fun f s' => match f with | .nx e => I e s' | f => F f s') (h2 : ∀ e s', I e s' → Sat (stm g cl fu ss e s') E F) : Sat (stm g cl fu (.cons s ss) env st) E F :=
  s_cons (sat_mono h fun f s' h => match f with | .nx e => h2 e s' h | .rt _ => h | .bk _ => h | .ct _ => h)
theorem s_set {i : Nat} {e : Ex} (h : Sat ((sem g cl e).v env st) E fun w s => F (.nx (env.set i (some w))) s) : Sat (stm g cl fu (.set i e) env st) E F := sat_bind h
theorem s_tset {tg : Tg} {e : Ex} (h : Sat ((sem g cl e).v env st) E fun w s => Som (bindTg s tg w env) fun env' => F (.nx env') s) : Sat (stm g cl fu (.tset tg e) env st) E F :=
  sat_bind (sat_mono h fun w s ⟨env', e, h⟩ => by show Sat (match bindTg s tg w env with | some env' => .ok (.nx env') s | none => .stuck) E F; rw [e]; exact h)
theorem s_par {is : List Nat} {es : Ex} (h : Sat ((sem g cl es).l env st) E fun ws s => Som (sets is ws env) fun env' => F (.nx env') s) : Sat (stm g cl fu (.par is es) env st) E F :=
  sat_bind (sat_mono h fun ws s ⟨env', e, h⟩ => by show Sat (match sets is ws env with | some env' => .ok (.nx env') s | none => .stuck) E F; rw [e]; exact h)
theorem storeIx_r {x y : W} {m : Nat} : storeIx x y (.r m) st = .stuck := by
  unfold storeIx
  split
  · rename_i h; cases h
  · rfl
theorem st_mv {o : Ex} {x y w : W} (h : Sat (storeIx x y w st) E fun _ s4 => F (.nx env) s4) : Sat (storeMv o x y w env st) E F := by
  cases w with
  | c z => exact sat_bind h
  | r m => rw [storeIx_r] at h; exact h.elim
theorem s_setix {o i e : Ex} (h : Sat ((sem g cl e).v env st) E fun w s => Sat ((sem g cl o).v env s) E fun x s2 => Sat ((sem g cl i).v env s2) E fun y s3 => Sat (storeIx x y w s3) E fun _ s4 => F (.nx env) s4) : Sat (stm g cl fu (.setix o i e) env st) E F :=
  sat_bind (sat_mono h fun _ _ h => sat_bind (sat_mono h fun _ _ h => sat_bind (sat_mono h fun _ _ h => st_mv h)))
/-- .. a later cell: the list that the name holds moves behind it -/
theorem s_setixM {v : Nat} {i e : Ex} (h : Sat ((sem g cl e).v env st) E fun w s => Sat ((sem g cl (.var v)).v env s) E fun x s2 => Sat ((sem g cl i).v env s2) E fun y s3 => Sat (storeMv (.var v) x y w env s3) E F) : Sat (stm g cl fu (.setix (.var v) i e) env st) E F :=
  sat_bind (sat_mono h fun _ _ h => sat_bind (sat_mono h fun _ _ h => sat_bind h))
theorem s_setfld {o e : Ex} {f : Nat} (h : Sat ((sem g cl e).v env st) E fun w s => Sat ((sem g cl o).v env s) E fun x s2 => Sat (storeFld g x f w s2) E fun _ s3 => F (.nx env) s3) : Sat (stm g cl fu (.setfld o f e) env st) E F :=
  sat_bind (sat_mono h fun _ _ h => sat_bind (sat_mono h fun _ _ h => sat_bind h))
theorem s_expr {e : Ex} (h : Sat ((sem g cl e).v env st) E fun _ s => F (.nx env) s) : Sat (stm g cl fu (.expr e) env st) E F := sat_bind h
theorem s_ret {e : Ex} (h : Sat ((sem g cl e).v env st) E fun w s => F (.rt w) s) : Sat (stm g cl fu (.ret e) env st) E F := sat_bind h
theorem s_ite {c : Ex} {a b : Sx} (h : Sat ((sem g cl c).t env st) E fun t s => Br t (Sat (stm g cl fu a env s) E F) (Sat (stm g cl fu b env s) E F)) : Sat (stm g cl fu (.ite c a b) env st) E F :=
  sat_bind (sat_mono h fun t _ h => match t with | true => h.1 rfl | false => h.2 rfl)
theorem s_for {tg : Tg} {it : Ex} {b : Sx} (h : Sat ((sem g cl it).l env st) E fun ws s => Sat (forGo (lkOk (lkE it env) ws) tg (stm g cl fu b) ws env s) E F) : Sat (stm g cl fu (.for tg it b) env st) E F := sat_bind h
theorem s_while {c : Ex} {b : Sx} (h : Sat (whGo (sem g cl c).t (stm g cl fu b) fu env st) E F) : Sat (stm g cl fu (.while c b) env st) E F := h
/-- a loop: what stays so, what goes on -/
theorem for_inv {lk : S → Bool} {tg : Tg} {b : Env → S → Res Fl} (I : List W → Env → S → Prop) : ∀ (ws : List W) (env : Env) (st : S), I ws env st →
    (∀ w ws env st, I (w :: ws) env st → ∃ env', bindTg st tg w env = some env' ∧ Sat (b env' st) E fun f s => match f with | .nx e => I ws e s | .ct e => I ws e s | .bk e => F (.nx e) s | .rt v => F (.rt v) s) → (∀ env st, I [] env st → F (.nx env) st) → (hlk : ∀ ws env st, I ws env st → lk st = true := by intros; rfl) → Sat (forGo lk tg b ws env st) E F
  | [], env, st, hi, _, hm, hlk => by
    show Sat (if lk st then .ok (.nx env) st else .stuck) E F
    rw [if_pos (hlk _ _ _ hi)]
    exact hm env st hi
  | w :: ws, env, st, hi, he, hm, hlk => by
    obtain ⟨env', h1, h2⟩ := he w ws env st hi
    unfold forGo
    rw [h1, hlk _ _ _ hi]
    exact sat_bind (sat_mono h2 fun f s h => match f with
      | .nx e => for_inv I ws e s h he hm hlk
      | .ct e => for_inv I ws e s h he hm hlk
      | .bk e => h
      | .rt v => h)
theorem wh_go {c : Env → S → Res Bool} {b : Env → S → Res Fl} {n : Nat} (h : Sat (c env st) E fun t s => Br t (Sat (b env s) E fun f s' => match f with | .nx e => Sat (whGo c b n e s') E F | .ct e => Sat (whGo c b n e s') E F | .bk e => F (.nx e) s' | .rt v => F (.rt v) s') (F (.nx env) s)) : Sat (whGo c b (n + 1) env st) E F := by
  unfold whGo
  exact sat_bind (sat_mono h fun t s h => match t with
    | true => sat_bind (sat_mono (h.1 rfl) fun f s h => match f with | .nx _ => h | .ct _ => h | .bk _ => h | .rt _ => h)
    | false => h.2 rfl)
/-! ### calls -/
/-- what a call leaves: its own cells go -/
def Fin (n : Nat) (keep : Bool) (w : W) (s : S) (Q : W → S → Prop) : Prop := ∃ w' s', fin n keep (.ok w s) = .ok w' s' ∧ Q w' s'
theorem fin_c {n : Nat} {x : C} {s : S} (h : Q (.c x) (s.take n)) : Fin n false (.c x) s Q := ⟨_, _, rfl, h⟩
theorem fin_k {n : Nat} {w : W} {s : S} (h : Q w s) : Fin n true w s Q := ⟨w, s, by cases w <;> rfl, h⟩
theorem call_go {f k : Nat} {d : Df} {ws ws' : List W} {env : Env} (hd : g.df f = some d) (hf : fill d ws = some ws') (hl : ws'.length = d.np) (he : startE d.n ws' = env)
    (h : Sat (stm g (call g fu k) fu d.body env st) E fun f s => match f with | .rt w => Fin st.length d.keep w s Q | .nx _ => Fin st.length d.keep (.c .non) s Q | _ => False)
    (hE : ∀ c x s, E c x s → E c x (if d.keep then s else s.take st.length)) (hh : d.hot = false := by rfl) : Sat (call g fu (k + 1) f ws st) E Q := by
  show Sat (match g.df f with | some d => (if d.hot then runH g (call g fu k) fu d ws st else match fill d ws with | some ws' => run g (call g fu k) fu d ws' st | none => .stuck) | none => (match g.thk f with | some t => runT g (call g fu k) fu t ws st | none => .stuck)) E Q
  rw [hd]
  dsimp only
  rw [hh]
  show Sat (match fill d ws with | some ws' => run g (call g fu k) fu d ws' st | none => .stuck) E Q
  rw [hf]
  show Sat (if ws'.length = d.np then fin st.length d.keep (endS (stm g (call g fu k) fu d.body (startE d.n ws') st)) else .stuck) E Q
  rw [if_pos hl, he]
  revert h
  generalize stm g (call g fu k) fu d.body env st = r
  intro h
  cases r with
  | ok f s =>
    cases f with
    | rt w => obtain ⟨w', s', e, h⟩ := h; show Sat (fin st.length d.keep (.ok w s)) E Q; rw [e]; exact h
    | nx e => obtain ⟨w', s', e, h⟩ := h; show Sat (fin st.length d.keep (.ok (.c .non) s)) E Q; rw [e]; exact h
    | bk e => exact h.elim
    | ct e => exact h.elim
  | ex c x s => exact hE c x s h
  | stuck => exact h.elim
/-- a def that is handed the exception -/
theorem call_hot {f k c : Nat} {d : Df} {x : C} (hd : g.df f = some d) (hh : d.hot = true)
    (h : Sat (stm g (call g fu k) fu d.body (xenv d.n c x) st) E fun f s => match f with | .rt w => Fin st.length d.keep w s Q | .nx _ => Fin st.length d.keep (.c .non) s Q | _ => False)
    (hE : ∀ c x s, E c x s → E c x (if d.keep then s else s.take st.length)) : Sat (call g fu (k + 1) f [.c (.tup [.int c, x])] st) E Q := by
  show Sat (match g.df f with | some d => (if d.hot then runH g (call g fu k) fu d [.c (.tup [.int c, x])] st else match fill d [.c (.tup [.int c, x])] with | some ws' => run g (call g fu k) fu d ws' st | none => .stuck) | none => (match g.thk f with | some t => runT g (call g fu k) fu t [.c (.tup [.int c, x])] st | none => .stuck)) E Q
  rw [hd]
  dsimp only
  rw [hh]
  show Sat (fin st.length d.keep (endS (stm g (call g fu k) fu d.body (xenv d.n c x) st))) E Q
  revert h
  generalize stm g (call g fu k) fu d.body (xenv d.n c x) st = r
  intro h
  cases r with
  | ok f s =>
    cases f with
    | nx e => obtain ⟨w', s', e1, q⟩ := h; show Sat (fin _ _ (.ok (.c .non) s)) E Q; rw [e1]; exact q
    | rt w => obtain ⟨w', s', e1, q⟩ := h; show Sat (fin _ _ (.ok w s)) E Q; rw [e1]; exact q
    | bk e => exact h.elim
    | ct e => exact h.elim
  | ex c x s => exact hE c x s h
  | stuck => exact h.elim
/-- a def that is handed a lambda: the lambda's text, the clauses, what follows -/
theorem call_thk {j k : Nat} {t : Th} {ws : List W} {env : Env} (hd : g.df j = none) (ht : g.thk j = some t) (he : sets t.slots ws (List.replicate t.n none) = some env)
    (h : Sat ((sem g (call g fu k) t.e).v env st) (fun c x s => Sat (stm g (call g fu k) fu t.hs (xenv t.m c x) s) E fun f s => match f with
        | .rt w => Fin st.length false w s Q
        | .nx e => Sat (stm g (call g fu k) fu t.rest e s) E fun f s => match f with | .rt w => Fin st.length false w s Q | .nx _ => Fin st.length false (.c .non) s Q | _ => False
        | _ => False)
      fun _ s => Sat (stm g (call g fu k) fu t.rest (List.replicate t.m none) s) E fun f s => match f with | .rt w => Fin st.length false w s Q | .nx _ => Fin st.length false (.c .non) s Q | _ => False)
    (hE : ∀ c x s, E c x s → E c x (s.take st.length)) : Sat (call g fu (k + 1) j ws st) E Q := by
  show Sat (match g.df j with | some d => (if d.hot then runH g (call g fu k) fu d ws st else match fill d ws with | some ws' => run g (call g fu k) fu d ws' st | none => .stuck) | none => (match g.thk j with | some t => runT g (call g fu k) fu t ws st | none => .stuck)) E Q
  rw [hd]
  dsimp only
  rw [ht]
  show Sat (runT g (call g fu k) fu t ws st) E Q
  unfold runT
  rw [he]
  show Sat (fin st.length false (endS ((thkS g (call g fu k) fu t env st).bind fun f st1 => match f with
    | .nx env1 => stm g (call g fu k) fu t.rest env1 st1
    | f => .ok f st1))) E Q
  -- the end of a run
  have fe : ∀ r : Res Fl, Sat r E (fun f s => match f with | .rt w => Fin st.length false w s Q | .nx _ => Fin st.length false (.c .non) s Q | _ => False) → Sat (fin st.length false (endS r)) E Q := fun r h => by
    cases r with
    | ok f s =>
      cases f with
      | nx e => obtain ⟨w', s', e1, q⟩ := h; show Sat (fin _ _ (.ok (.c .non) s)) E Q; rw [e1]; exact q
      | rt w => obtain ⟨w', s', e1, q⟩ := h; show Sat (fin _ _ (.ok w s)) E Q; rw [e1]; exact q
      | bk e => exact h.elim
      | ct e => exact h.elim
    | ex c x s => exact hE c x s h
    | stuck => exact h.elim
  refine fe _ ?_
  unfold thkS
  revert h
  generalize (sem g (call g fu k) t.e).v env st = r
  intro h
  cases r with
  | ok w s => exact h
  | ex c x s =>
    have h : Sat (stm g (call g fu k) fu t.hs (xenv t.m c x) s) E _ := h
    show Sat ((stm g (call g fu k) fu t.hs (xenv t.m c x) s).bind _) E _
    refine sat_bind (sat_mono h fun f s h => ?_)
    cases f with
    | nx e => exact h
    | rt w => exact h
    | bk e => exact h.elim
    | ct e => exact h.elim
  | stuck => exact h.elim
/-- a call that changes nothing -/
theorem call_pure {f k : Nat} {d : Df} {ws ws' : List W} {env : Env} {x : C} (hd : g.df f = some d) (hf : fill d ws = some ws') (hl : ws'.length = d.np) (he : startE d.n ws' = env)
    (h : Sat (stm g (call g fu k) fu d.body env st) (fun _ _ _ => False) fun f s => f = .rt (.c x) ∧ s = st) (hh : d.hot = false := by rfl) : call g fu (k + 1) f ws st = .ok (.c x) st := by
  refine eq_sat (call_go hd hf hl he (sat_mono h fun f s z => ?_) (fun _ _ _ z => z) hh)
  obtain ⟨rfl, rfl⟩ := z
  refine ⟨.c x, s, ?_, rfl, rfl⟩
  show Res.ok (W.c x) (if d.keep then s else s.take s.length) = _
  rw [List.take_length, ite_self]
end
end Ev

/-! Po: the operators, by rules. -/
namespace Ev
section
variable {g : Gd} {cl : Cl} {fu : Nat} {env : Env} {st : S} {E : Nat → C → S → Prop} {Q : W → S → Prop} {U : Unit → S → Prop} {O : Option Int → S → Prop}
theorem small64_of {i : Int} (h1 : -(2 ^ 64) < i) (h2 : i < 2 ^ 64) : small64 i = true := by
  unfold small64
  simp only [Bool.and_eq_true, decide_eq_true_eq]
  exact ⟨h1, h2⟩
theorem br_Nn {A B : Prop} (h : A) : Br (isNon (.c .non)) A B := br_t h
theorem br_Ni {A B : Prop} {i : Int} (h : B) : Br (isNon (.c (.int i))) A B := br_f h
theorem br_Nb {A B : Prop} {i : Bool} (h : B) : Br (isNon (.c (.bl i))) A B := br_f h
theorem br_Ns {A B : Prop} {i : List Nat} (h : B) : Br (isNon (.c (.str i))) A B := br_f h
theorem br_Nt {A B : Prop} {i : List C} (h : B) : Br (isNon (.c (.tup i))) A B := br_f h
theorem br_Nl {A B : Prop} {i : List C} (h : B) : Br (isNon (.c (.lst i))) A B := br_f h
theorem br_No {A B : Prop} {c : Nat} {i : List Nat} {v : List C} (h : B) : Br (isNon (.c (.ins c i v))) A B := br_f h
theorem o_add {i j : Int} (h : Q (.c (.int (i + j))) st) : Sat (bin g cl .add (.c (.int i)) (.c (.int j)) st) E Q := h
theorem o_sub {i j : Int} (h : Q (.c (.int (i - j))) st) : Sat (bin g cl .sub (.c (.int i)) (.c (.int j)) st) E Q := h
theorem o_mul {i j : Int} (hs : (small64 i || small64 j) = true) (h : Q (.c (.int (i * j))) st) : Sat (bin g cl .mul (.c (.int i)) (.c (.int j)) st) E Q := by
  show Sat (if small64 i || small64 j then okc (.int (i * j)) st else .stuck) E Q
  rw [if_pos hs]; exact h
theorem o_fdiv {i j : Int} (hs : 0 < j ∧ j < 1073741824) (h : Q (.c (.int (i / j))) st) : Sat (bin g cl .fdiv (.c (.int i)) (.c (.int j)) st) E Q := by
  show Sat (if decide (0 < j ∧ j < 1073741824) = true then okc (.int (i / j)) st else .stuck) E Q
  rw [if_pos (decide_eq_true hs)]; exact h
theorem o_mod {i j : Int} (hs : 0 < j) (h : Q (.c (.int (i % j))) st) : Sat (bin g cl .mod (.c (.int i)) (.c (.int j)) st) E Q := by
  show Sat (if decide (0 < j) = true then okc (.int (i % j)) st else .stuck) E Q
  rw [if_pos (decide_eq_true hs)]; exact h
theorem o_pow {i j : Int} (hs : (decide (0 ≤ j ∧ j ≤ 1000000) && small64 i) = true) (h : Q (.c (.int (i ^ j.toNat))) st) : Sat (bin g cl .pow (.c (.int i)) (.c (.int j)) st) E Q := by
  show Sat (if (decide (0 ≤ j ∧ j ≤ 1000000) && small64 i) = true then okc (.int (i ^ j.toNat)) st else .stuck) E Q
  rw [if_pos hs]; exact h
theorem o_addL {xs ys : List C} (hs : xs.length + ys.length ≤ 16777216) (h : Q (.c (.lst (xs ++ ys))) st) : Sat (bin g cl .add (.c (.lst xs)) (.c (.lst ys)) st) E Q := by
  show Sat (if xs.length + ys.length ≤ 16777216 then okc (.lst (xs ++ ys)) st else .stuck) E Q
  rw [if_pos hs]; exact h
theorem o_addT {xs ys : List C} (hs : xs.length + ys.length ≤ 16777216) (h : Q (.c (.tup (xs ++ ys))) st) : Sat (bin g cl .add (.c (.tup xs)) (.c (.tup ys)) st) E Q := by
  show Sat (if xs.length + ys.length ≤ 16777216 then okc (.tup (xs ++ ys)) st else .stuck) E Q
  rw [if_pos hs]; exact h
theorem o_and {c f : Nat} {x y : W} (e : clsOf st x = some c) (e2 : clsOf st y = some c) (e3 : g.andm c = some f) (h : Sat (cl f [x, y] st) E Q) : Sat (bin g cl .band x y st) E Q := by
  show Sat (match Bop.band, clsOf st x with
    | .band, some c => (match g.andm c with | some f => if clsOf st y = some c then cl f [x, y] st else .stuck | none => .stuck)
    | op, _ => binop op x y st) E Q
  rw [e]
  dsimp only
  rw [e3]
  dsimp only
  rw [if_pos e2]; exact h
theorem c_lt {i j : Int} (h : Q (.c (.bl (decide (i < j)))) st) : Sat (cmpop g cl .lt (.c (.int i)) (.c (.int j)) st) E Q := h
theorem c_le {i j : Int} (h : Q (.c (.bl (decide (i ≤ j)))) st) : Sat (cmpop g cl .le (.c (.int i)) (.c (.int j)) st) E Q := h
theorem c_gt {i j : Int} (h : Q (.c (.bl (decide (j < i)))) st) : Sat (cmpop g cl .gt (.c (.int i)) (.c (.int j)) st) E Q := h
theorem c_ge {i j : Int} (h : Q (.c (.bl (decide (j ≤ i)))) st) : Sat (cmpop g cl .ge (.c (.int i)) (.c (.int j)) st) E Q := h
theorem c_isN {a : W} (h : Q (.c (.bl (isNon a))) st) : Sat (cmpop g cl .is a (.c .non) st) E Q := h
theorem c_isnotN {a : W} (h : Q (.c (.bl (!isNon a))) st) : Sat (cmpop g cl .isnot a (.c .non) st) E Q := h
theorem eqC_int (i j : Int) : eqC (.int i) (.int j) = decide (i = j) := by
  unfold eqC toD PySem.PyData.eqv
  by_cases h : i = j <;> simp [h]
theorem eqC_bl (i j : Bool) : eqC (.bl i) (.bl j) = (i == j) := by
  unfold eqC toD PySem.PyData.eqv; rfl
theorem eqv_str (x y : PySem.Str) : PySem.PyData.eqv (.str x) (.str y) = (x == y) := by unfold PySem.PyData.eqv; rfl
theorem eqC_str (a b : List Nat) : eqC (.str a) (.str b) = decide (a = b) := by
  unfold eqC toD
  rw [eqv_str]
  by_cases h : a = b
  · subst h; simp
  · have : (⟨a.toArray⟩ : PySem.Str) ≠ ⟨b.toArray⟩ := fun e => h (by injection e with e; simpa using e)
    simp [h, this]
mutual
theorem pln_can : ∀ (n : Nat) (c : C), pln n c = true → PySem.PyData.eqv (toD c) (toD c) = true
  | n, .non, _ => by simp [toD, PySem.PyData.eqv]
  | n, .bl _, _ => by simp [toD, PySem.PyData.eqv]
  | n, .int _, _ => by simp [toD, PySem.PyData.eqv]
  | n, .str s, h => by simp [toD, PySem.PyData.eqv]
  | 0, .tup cs, h => by simp [pln] at h
  | 0, .lst cs, h => by simp [pln] at h
  | 0, .frz cs, h => by simp [pln] at h
  | n + 1, .tup cs, h => by simp only [toD, PySem.PyData.eqv]; exact plns_can n cs h
  | n + 1, .lst cs, h => by simp only [toD, PySem.PyData.eqv]; exact plns_can n cs h
  | n + 1, .frz cs, h => by simp only [toD, PySem.PyData.eqv]; exact plns_can n cs h
  | 0, .dct _ _, h => by simp [pln] at h
  | 0, .ins _ _ _, h => by simp [pln] at h
  | n + 1, .dct _ _, h => by simp [pln] at h
  | n + 1, .ins _ _ _, h => by simp [pln] at h
theorem plns_can : ∀ (n : Nat) (cs : List C), plns n cs = true → PySem.PyData.eqvAll (toDs cs) (toDs cs) = true
  | n, [], _ => by simp [toDs, PySem.PyData.eqvAll]
  | n, c :: cs, h => by
    have h : pln n c = true ∧ plns n cs = true := by simpa [plns] using h
    simp only [toDs, PySem.PyData.eqvAll, pln_can n c h.1, plns_can n cs h.2, Bool.and_self]
end
theorem eqC_refl {c : C} (h : shp c = true) : eqC c c = true := pln_can 60 c h
/-- closed values, none of them an instance, compared -/
def NoI : C → Prop
  | .ins _ _ _ => False | .dct _ _ => False | _ => True
theorem eqR_cc {n : Bool} {a b : C} (na : NoI a) (nb : NoI b) (ha : shp a = true) (hb : shp b = true) (h : Q (.c (.bl (eqC a b != n))) st) : Sat (eqR g cl n (.c a) (.c b) st) E Q := by
  have e : clsOf st (.c a) = none := by cases a <;> first | rfl | exact na.elim
  have e2 : eqOp st (.c a) (.c b) = some (eqC a b) := by
    unfold eqOp
    split
    · rename_i z _; cases z; exact na.elim
    · show (if shp a && shp b then some (eqC a b) else none) = _
      rw [ha, hb]; rfl
  unfold eqR
  rw [e]
  show Sat (toB ((eqOp st (.c a) (.c b)).map fun t => t != n) st) E Q
  rw [e2]; exact h
theorem c_eq {a b : C} (na : NoI a) (nb : NoI b) (ha : shp a = true) (hb : shp b = true) (h : Q (.c (.bl (eqC a b))) st) : Sat (cmpop g cl .eq (.c a) (.c b) st) E Q := by
  refine eqR_cc na nb ha hb ?_
  rw [Bool.bne_false]; exact h
theorem c_ne {a b : C} (na : NoI a) (nb : NoI b) (ha : shp a = true) (hb : shp b = true) (h : Q (.c (.bl (!eqC a b))) st) : Sat (cmpop g cl .ne (.c a) (.c b) st) E Q := by
  refine eqR_cc na nb ha hb ?_
  rw [Bool.bne_true]; exact h
theorem c_eqI {i j : Int} (h : Q (.c (.bl (decide (i = j)))) st) : Sat (cmpop g cl .eq (.c (.int i)) (.c (.int j)) st) E Q := c_eq trivial trivial rfl rfl (by rw [eqC_int]; exact h)
theorem c_neI {i j : Int} (h : Q (.c (.bl (!decide (i = j)))) st) : Sat (cmpop g cl .ne (.c (.int i)) (.c (.int j)) st) E Q := c_ne trivial trivial rfl rfl (by rw [eqC_int]; exact h)
theorem c_eqB {i j : Bool} (h : Q (.c (.bl (i == j))) st) : Sat (cmpop g cl .eq (.c (.bl i)) (.c (.bl j)) st) E Q := c_eq trivial trivial rfl rfl (by rw [eqC_bl]; exact h)
theorem c_neB {i j : Bool} (h : Q (.c (.bl (!(i == j)))) st) : Sat (cmpop g cl .ne (.c (.bl i)) (.c (.bl j)) st) E Q := c_ne trivial trivial rfl rfl (by rw [eqC_bl]; exact h)
/-- an instance and its own method -/
theorem eqR_own {n b : Bool} {c f : Nat} {x y : W} (e : clsOf st x = some c) (e1 : g.eqm c = some f) (e2 : clsOf st y = some c) (h : Sat (cl f [x, y] st) E fun w s => w = .c (.bl b) ∧ Q (.c (.bl (b != n))) s) : Sat (eqR g cl n x y st) E Q := by
  have z : Sat (negR n (cl f [x, y] st)) E Q := by
    revert h
    generalize cl f [x, y] st = r
    intro h
    cases r with
    | ok w s => obtain ⟨rfl, h⟩ := h; exact h
    | ex _ _ _ => exact h
    | stuck => exact h.elim
  unfold eqR
  rw [e]
  show Sat (match g.eqm c with | some f => (match clsOf st y with | some c' => if c' = c then negR n (cl f [x, y] st) else .stuck | none => _) | none => _) E Q
  rw [e1, e2]
  show Sat (if c = c then negR n (cl f [x, y] st) else .stuck) E Q
  rw [if_pos rfl]; exact z
theorem c_eqO {b : Bool} {c f : Nat} {x y : W} (e : clsOf st x = some c) (e1 : g.eqm c = some f) (e2 : clsOf st y = some c) (h : Sat (cl f [x, y] st) E fun w s => w = .c (.bl b) ∧ Q (.c (.bl b)) s) : Sat (cmpop g cl .eq x y st) E Q := eqR_own (n := false) e e1 e2 (by rw [Bool.bne_false]; exact h)
theorem c_neO {b : Bool} {c f : Nat} {x y : W} (e : clsOf st x = some c) (e1 : g.eqm c = some f) (e2 : clsOf st y = some c) (h : Sat (cl f [x, y] st) E fun w s => w = .c (.bl b) ∧ Q (.c (.bl (!b))) s) : Sat (cmpop g cl .ne x y st) E Q := eqR_own (n := true) e e1 e2 (by rw [Bool.bne_true]; exact h)
/-- an instance and what is none -/
theorem eqR_ownC {n b : Bool} {c f : Nat} {x : W} {y : C} (e : clsOf st x = some c) (e1 : g.eqm c = some f) (e2 : NoI y) (h : Sat (cl f [x, .c y] st) E fun w s => w = .c (.bl b) ∧ Q (.c (.bl (b != n))) s) : Sat (eqR g cl n x (.c y) st) E Q := by
  have z : Sat (negR n (cl f [x, .c y] st)) E Q := by
    revert h
    generalize cl f [x, .c y] st = r
    intro h
    cases r with
    | ok w s => obtain ⟨rfl, h⟩ := h; exact h
    | ex _ _ _ => exact h
    | stuck => exact h.elim
  have e3 : clsOf st (.c y) = none := by cases y <;> first | rfl | exact e2.elim
  unfold eqR
  rw [e]
  show Sat (match g.eqm c with | some f => (match clsOf st (.c y) with | some c' => if c' = c then negR n (cl f [x, .c y] st) else .stuck | none => negR n (cl f [x, .c y] st)) | none => _) E Q
  rw [e1, e3]
  exact z
/-- items -/
theorem x_lst {cs : List C} {d : Int} {c : C} (h0 : 0 ≤ d) (h1 : cs[d.toNat]? = some c) (h : Q (.c c) st) : Sat (getix g cl (.c (.lst cs)) (.c (.int d)) st) E Q := by
  have hl : d.toNat < cs.length := by
    rcases Nat.lt_or_ge d.toNat cs.length with z | z
    · exact z
    · rw [List.getElem?_eq_none z] at h1; cases h1
  have hl' : d < cs.length := by omega
  refine sat_eq (a := .c c) (s := st) ?_ h
  have hc : cs[d.toNat] = c := by rw [List.getElem?_eq_getElem hl] at h1; injection h1
  simp [getix, clsOf, dctW, seqW, ixN, h0, hl', hl, hc]
theorem x_tup {cs : List C} {d : Int} {c : C} (h0 : 0 ≤ d) (h1 : cs[d.toNat]? = some c) (h : Q (.c c) st) : Sat (getix g cl (.c (.tup cs)) (.c (.int d)) st) E Q := by
  have hl : d.toNat < cs.length := by
    rcases Nat.lt_or_ge d.toNat cs.length with z | z
    · exact z
    · rw [List.getElem?_eq_none z] at h1; cases h1
  have hl' : d < cs.length := by omega
  refine sat_eq (a := .c c) (s := st) ?_ h
  have hc : cs[d.toNat] = c := by rw [List.getElem?_eq_getElem hl] at h1; injection h1
  simp [getix, clsOf, dctW, seqW, ixN, h0, hl', hl, hc]
theorem x_frz {cs : List C} {d : Int} {c : C} (h0 : 0 ≤ d) (h1 : cs[d.toNat]? = some c) (h : Q (.c c) st) : Sat (getix g cl (.c (.frz cs)) (.c (.int d)) st) E Q := by
  have hl : d.toNat < cs.length := by
    rcases Nat.lt_or_ge d.toNat cs.length with z | z
    · exact z
    · rw [List.getElem?_eq_none z] at h1; cases h1
  have hl' : d < cs.length := by omega
  refine sat_eq (a := .c c) (s := st) ?_ h
  have hc : cs[d.toNat] = c := by rw [List.getElem?_eq_getElem hl] at h1; injection h1
  simp [getix, clsOf, dctW, seqW, ixN, h0, hl', hl, hc]
theorem x_cell {n : Nat} {ws : List W} {d : Int} {w : W} (hc : cellAt st n = some (.lst ws)) (h0 : 0 ≤ d) (h1 : ws[d.toNat]? = some w) (h : Q w st) : Sat (getix g cl (.r n) (.c (.int d)) st) E Q := by
  have hl : d.toNat < ws.length := by
    rcases Nat.lt_or_ge d.toNat ws.length with z | z
    · exact z
    · rw [List.getElem?_eq_none z] at h1; cases h1
  have hl' : d < ws.length := by omega
  refine sat_eq (a := w) (s := st) ?_ h
  have hc' : ws[d.toNat] = w := by rw [List.getElem?_eq_getElem hl] at h1; injection h1
  simp [getix, clsOf, dctW, hc, seqW, ixN, h0, hl', hl, hc']
theorem x_own {c f : Nat} {x y : W} (e : clsOf st x = some c) (e1 : g.getm c = some f) (h : Sat (cl f [x, y] st) E Q) : Sat (getix g cl x y st) E Q := by
  unfold getix
  rw [e]
  show Sat (match g.getm c with | some f => cl f [x, y] st | none => .stuck) E Q
  rw [e1]; exact h
theorem p_none (h : O none st) : Sat (partR [] st) E O := h
theorem p_some {i : Int} (h : O (some i) st) : Sat (partR [.c (.int i)] st) E O := h
theorem sl_lst {cs : List C} {l h : Option Int} (hq : Q (.c (.lst (cutL cs l h))) st) : Sat (slice (.c (.lst cs)) l h st) E Q := hq
theorem sl_frz {cs : List C} {l h : Option Int} (hq : Q (.c (.lst (cutL cs l h))) st) : Sat (slice (.c (.frz cs)) l h st) E Q := hq
theorem sl_tup {cs : List C} {l h : Option Int} (hq : Q (.c (.tup (cutL cs l h))) st) : Sat (slice (.c (.tup cs)) l h st) E Q := hq
/-- parts of an instance -/
theorem a_fld {c f : Nat} {x w : W} (e : clsOf st x = some c) (e1 : g.prop c f = none) (e2 : g.fld c f = true) (e3 : fldOf st f x = some w) (h : Q w st) : Sat (attr g cl x f st) E Q := by
  unfold attr
  rw [e]
  show Sat (match g.prop c f with | some p => noex (cl p [x] st) | none => if g.fld c f then (match fldOf st f x with | some w => .ok w st | none => .stuck) else .stuck) E Q
  rw [e1]
  show Sat (if g.fld c f then (match fldOf st f x with | some w => .ok w st | none => .stuck) else .stuck) E Q
  rw [if_pos e2, e3]; exact h
theorem a_prop {c f p : Nat} {x : W} (e : clsOf st x = some c) (e1 : g.prop c f = some p) (h : Sat (cl p [x] st) (fun _ _ _ => False) Q) : Sat (attr g cl x f st) E Q := by
  unfold attr
  rw [e]
  show Sat (match g.prop c f with | some p => noex (cl p [x] st) | none => _) E Q
  rw [e1]
  show Sat (noex (cl p [x] st)) E Q
  revert h
  generalize cl p [x] st = r
  intro h
  cases r with
  | ok w s => exact h
  | ex _ _ _ => exact h.elim
  | stuck => exact h.elim
/-- built-in functions -/
theorem b_lenC {c : C} {n : Nat} (e : clsOf st (.c c) = none) (h1 : lenW st (.c c) = some n) (h : Q (.c (.int n)) st) : Sat (bfn g cl .len [.c c] st) E Q := by
  show Sat (lenF g cl [.c c] st) E Q
  unfold lenF
  dsimp only
  rw [e]
  dsimp only
  rw [h1]; exact h
theorem b_lenR {n m : Nat} (e : clsOf st (.r n) = none) (h1 : lenW st (.r n) = some m) (h : Q (.c (.int m)) st) : Sat (bfn g cl .len [.r n] st) E Q := by
  show Sat (lenF g cl [.r n] st) E Q
  unfold lenF
  dsimp only
  rw [e]
  dsimp only
  rw [h1]; exact h
theorem b_lenO {c f : Nat} {x : W} {n : Int} (e : clsOf st x = some c) (e1 : g.lenm c = some f) (h : Sat (cl f [x] st) E fun w s => w = .c (.int n) ∧ (0 ≤ n ∧ n < 2 ^ 63) ∧ Q (.c (.int n)) s) : Sat (bfn g cl .len [x] st) E Q := by
  show Sat (lenF g cl [x] st) E Q
  unfold lenF
  dsimp only
  rw [e]
  dsimp only
  rw [e1]
  dsimp only
  revert h
  generalize cl f [x] st = r
  intro h
  cases r with
  | ok w s =>
    obtain ⟨rfl, hn, h⟩ := h
    show Sat (if 0 ≤ n ∧ n < 2 ^ 63 then okc (.int n) s else .stuck) E Q
    rw [if_pos hn]; exact h
  | ex _ _ _ => exact h
  | stuck => exact h.elim
theorem b_int {i : Int} (h : Q (.c (.int i)) st) : Sat (bfn g cl .int [.c (.int i)] st) E Q := h
theorem b_abs {i : Int} (h : Q (.c (.int (if i < 0 then -i else i))) st) : Sat (bfn g cl .abs [.c (.int i)] st) E Q := h
theorem b_min2 {i j : Int} (h : Q (.c (.int (if j < i then j else i))) st) : Sat (bfn g cl .min [.c (.int i), .c (.int j)] st) E Q := h
theorem b_max2 {i j : Int} (h : Q (.c (.int (if j > i then j else i))) st) : Sat (bfn g cl .max [.c (.int i), .c (.int j)] st) E Q := h
theorem b_all {cs : List C} {bs : List Bool} (e : bools (cs.map .c) = some bs) (h : Q (.c (.bl (bs.all id))) st) : Sat (bfn g cl .all [.c (.lst cs)] st) E Q := by
  show Sat (match (listW st (.c (.lst cs))).bind bools with | some bs => okc (.bl (bs.all id)) st | none => .stuck) E Q
  show Sat (match bools (cs.map .c) with | some bs => okc (.bl (bs.all id)) st | none => .stuck) E Q
  rw [e]; exact h
theorem b_any {cs : List C} {bs : List Bool} (e : bools (cs.map .c) = some bs) (h : Q (.c (.bl (bs.any id))) st) : Sat (bfn g cl .any [.c (.lst cs)] st) E Q := by
  show Sat (match (listW st (.c (.lst cs))).bind bools with | some bs => okc (.bl (bs.any id)) st | none => .stuck) E Q
  show Sat (match bools (cs.map .c) with | some bs => okc (.bl (bs.any id)) st | none => .stuck) E Q
  rw [e]; exact h
theorem b_repr {c : C} (h1 : shp c = true) (h2 : showB c = true) (h : Q (.c (.str (shownC c))) st) : Sat (bfn g cl .repr [.c c] st) E Q := by
  show Sat (reprF [.c c] st) E Q
  unfold reprF
  split
  · rename_i e
    cases e
    simp [shp, pln] at h1
  · rename_i w _ e
    cases e
    show Sat (if shp c && showB c then okc (.str (shownC c)) st else .stuck) E Q
    rw [h1, h2]; exact h
  · rename_i e1 e2
    exact absurd rfl (e2 (.c c))
/-- what is stored -/
theorem st_ix {n : Nat} {k : Int} {x : C} {xs : List W} (hc : cellAt st n = some (.lst xs)) (h0 : 0 ≤ k) (h1 : k < xs.length) (h : U () (setCell st n (.lst (xs.set k.toNat (.c x))))) : Sat (storeIx (.r n) (.c (.int k)) (.c x) st) E U := by
  show Sat (match cellAt st n with | some (.lst xs) => (match ixN xs.length k with | some j => .ok () (setCell st n (.lst (xs.set j (.c x)))) | none => .stuck) | _ => .stuck) E U
  rw [hc]
  dsimp only
  have : ixN xs.length k = some k.toNat := by simp [ixN, h0, h1]
  rw [this]; exact h
theorem st_fld {n c f : Nat} {x : C} {fs : List Nat} {vs : List W} (hc : cellAt st n = some (.ins c fs vs)) (h1 : (decide (fs.length < 900) && g.fld c f) = true) (h : U () (setCell st n (.ins c (putFld f (.c x) fs vs).1 (putFld f (.c x) fs vs).2))) : Sat (storeFld g (.r n) f (.c x) st) E U := by
  show Sat (match cellAt st n with | some (.ins c fs vs) => if decide (fs.length < 900) && g.fld c f then .ok () (setCell st n (.ins c (putFld f (.c x) fs vs).1 (putFld f (.c x) fs vs).2)) else .stuck | _ => .stuck) E U
  rw [hc]
  dsimp only
  rw [if_pos h1]; exact h
/-- an instance is made, and never changes -/
theorem mkf_frz {c f : Nat} {ws : List W} (hf : g.frz c = true) (h : Sat (cl f (.r st.length :: ws) (st ++ [some (.ins c [] [])])) E fun w s => w = .c .non ∧ ∃ x, freeze s st.length = some x ∧ Q (.c x) (s.take st.length)) (hE : ∀ c x s, E c x s → E c x (s.take st.length)) : Sat (mkf g cl f c ws st) E Q := by
  unfold mkf
  revert h
  generalize cl f (.r st.length :: ws) (st ++ [some (.ins c [] [])]) = r
  intro h
  cases r with
  | ok w s =>
    obtain ⟨rfl, x, e, h⟩ := h
    show Sat (if g.frz c then (match freeze s st.length with | some x => .ok (.c x) (s.take st.length) | none => .stuck) else _) E Q
    rw [if_pos hf, e]; exact h
  | ex _ _ _ => exact hE _ _ _ h
  | stuck => exact h.elim
theorem mk_frz {c f : Nat} {ws : List W} (hi : g.init c = some f) (hf : g.frz c = true) (h : Sat (cl f (.r st.length :: ws) (st ++ [some (.ins c [] [])])) E fun w s => w = .c .non ∧ ∃ x, freeze s st.length = some x ∧ Q (.c x) (s.take st.length)) (hE : ∀ c x s, E c x s → E c x (s.take st.length)) : Sat (mk g cl c ws st) E Q := by
  unfold mk
  rw [hi]
  exact mkf_frz hf h hE
@[simp] theorem cellAt_last (x : Cell) : cellAt (st ++ [some x]) st.length = some x := by
  unfold cellAt
  rw [List.getElem?_append_right (Nat.le_refl _), Nat.sub_self]
  rfl
@[simp] theorem setCell_last (x y : Cell) : setCell (st ++ [some x]) st.length y = st ++ [some y] := by
  unfold setCell
  rw [List.set_append_right _ _ (Nat.le_refl _), Nat.sub_self]
  rfl
@[simp] theorem take_last (x : Option Cell) : (st ++ [x]).take st.length = st := by simp
/-- but for cell n all is as before -/
def Oth (n : Nat) (st st' : S) : Prop := st'.length = st.length ∧ ∀ m, m ≠ n → st'[m]? = st[m]?
theorem Oth.refl {n : Nat} : Oth n st st := ⟨rfl, fun _ _ => rfl⟩
theorem Oth.trans {n : Nat} {a b c : S} (h : Oth n a b) (h' : Oth n b c) : Oth n a c := ⟨h'.1.trans h.1, fun m z => (h'.2 m z).trans (h.2 m z)⟩
theorem oth_set {n : Nat} {x : Cell} : Oth n st (setCell st n x) := ⟨by unfold setCell; simp, fun m h => by unfold setCell; rw [List.getElem?_set_ne (Ne.symm h)]⟩
theorem cell_lt {n : Nat} {x : Cell} (h : cellAt st n = some x) : n < st.length := by
  rcases Nat.lt_or_ge n st.length with z | z
  · exact z
  · unfold cellAt at h; rw [List.getElem?_eq_none z] at h; cases h
theorem cell_set {n : Nat} {x y : Cell} (h : cellAt st n = some x) : cellAt (setCell st n y) n = some y := by
  unfold cellAt setCell
  rw [List.getElem?_set_self (cell_lt h)]
theorem set_set {n : Nat} {x y : Cell} : setCell (setCell st n x) n y = setCell st n y := by unfold setCell; simp
theorem st_ixS {n : Nat} {k : Int} {x : C} {y : Cell} {xs : List W} (hc : cellAt st n = some y) (h0 : 0 ≤ k) (h1 : k < xs.length) (h : U () (setCell st n (.lst (xs.set k.toNat (.c x))))) : Sat (storeIx (.r n) (.c (.int k)) (.c x) (setCell st n (.lst xs))) E U :=
  st_ix (cell_set hc) h0 h1 (by rw [set_set]; exact h)
theorem b_listL {cs : List C} (hl : cs.length ≤ 16777216) (h : Q (.c (.lst cs)) st) : Sat (bfn g cl .list [.c (.lst cs)] st) E Q := by
  show Sat (match (if (cs.map W.c).length ≤ 16777216 then some (cs.map W.c) else none).bind clo with | some cs => okc (.lst cs) st | none => .stuck) E Q
  rw [List.length_map, if_pos hl]
  show Sat (match clo (cs.map W.c) with | some cs => okc (.lst cs) st | none => .stuck) E Q
  rw [clo_cs]; exact h
/-- some item -/
theorem x_any {cs : List C} {d : Int} (h0 : 0 ≤ d) (h1 : d < cs.length) (h : ∀ c ∈ cs, Q (.c c) st) : Sat (getix g cl (.c (.lst cs)) (.c (.int d)) st) E Q := by
  have hd : d.toNat < cs.length := by omega
  exact x_lst h0 (List.getElem?_eq_getElem hd) (h _ (List.getElem_mem hd))
theorem x_anyT {cs : List C} {d : Int} (h0 : 0 ≤ d) (h1 : d < cs.length) (h : ∀ c ∈ cs, Q (.c c) st) : Sat (getix g cl (.c (.tup cs)) (.c (.int d)) st) E Q := by
  have hd : d.toNat < cs.length := by omega
  exact x_tup h0 (List.getElem?_eq_getElem hd) (h _ (List.getElem_mem hd))
theorem x_anyF {cs : List C} {d : Int} (h0 : 0 ≤ d) (h1 : d < cs.length) (h : ∀ c ∈ cs, Q (.c c) st) : Sat (getix g cl (.c (.frz cs)) (.c (.int d)) st) E Q := by
  have hd : d.toNat < cs.length := by omega
  exact x_frz h0 (List.getElem?_eq_getElem hd) (h _ (List.getElem_mem hd))
/-- the item n of a row over the numbers from 0 -/
theorem x_rng {m : Nat} {n : Int} (F : Int → C) (h0 : 0 ≤ n) (h1 : n < m) (h : Q (.c (F n)) st) : Sat (getix g cl (.c (.lst ((List.range m).map fun (a : Nat) => F a))) (.c (.int n)) st) E Q := by
  refine x_lst h0 (c := F n) ?_ h
  have : n.toNat < m := by omega
  rw [List.getElem?_map, List.getElem?_range this]
  show some (F (n.toNat : Int)) = _
  rw [Int.toNat_of_nonneg h0]
theorem eqC_lst (xs ys : List C) : eqC (.lst xs) (.lst ys) = PySem.PyData.eqvAll (toDs xs) (toDs ys) := by unfold eqC toD PySem.PyData.eqv; rfl
theorem eqC_tup (xs ys : List C) : eqC (.tup xs) (.tup ys) = PySem.PyData.eqvAll (toDs xs) (toDs ys) := by unfold eqC toD PySem.PyData.eqv; rfl
theorem eqC_nil (xs : List C) : eqC (.lst xs) (.lst []) = xs.isEmpty := by
  rw [eqC_lst]
  cases xs <;> simp [toDs, PySem.PyData.eqvAll]
theorem eqAll_cons (x y : C) (xs ys : List C) : PySem.PyData.eqvAll (toDs (x :: xs)) (toDs (y :: ys)) = (eqC x y && PySem.PyData.eqvAll (toDs xs) (toDs ys)) := by
  simp only [toDs, PySem.PyData.eqvAll]; rfl
theorem eqAll_map {α : Type} {f h : α → C} : ∀ l : List α, PySem.PyData.eqvAll (toDs (l.map f)) (toDs (l.map h)) = l.all fun x => eqC (f x) (h x)
  | [] => by simp [toDs, PySem.PyData.eqvAll]
  | x :: l => by rw [List.map_cons, List.map_cons, eqAll_cons, eqAll_map l, List.all_cons]
theorem eqC_map {α : Type} {f h : α → C} (l : List α) : eqC (.lst (l.map f)) (.lst (l.map h)) = l.all fun x => eqC (f x) (h x) := by rw [eqC_lst, eqAll_map]
theorem plns_map {α : Type} {f : α → C} {n : Nat} : ∀ {l : List α}, (∀ x ∈ l, pln n (f x) = true) → plns n (l.map f) = true
  | [], _ => by cases n <;> rfl
  | x :: l, h => by simp [plns, h x List.mem_cons_self, plns_map fun y hy => h y (List.mem_cons_of_mem _ hy)]
theorem shp_map {α : Type} {f : α → C} {l : List α} (h : ∀ x ∈ l, pln 59 (f x) = true) : shp (.lst (l.map f)) = true := plns_map h
theorem mul_r {i j : Int} (h : small64 j = true) : (small64 i || small64 j) = true := by rw [h, Bool.or_true]
theorem mul_l {i j : Int} (h : small64 i = true) : (small64 i || small64 j) = true := by rw [h, Bool.true_or]
end
end Ev

/-! Px: exceptions, suites, what is called in them, by rules. -/
namespace Ev
section
variable {g : Gd} {cl : Cl} {fu : Nat} {env : Env} {st : S} {E : Nat → C → S → Prop} {Q : W → S → Prop} {F : Fl → S → Prop} {c : Nat} {x : C}
theorem v_xis {d : Nat} {b : Bool} (hx : xcur env = some (c, x)) (hs : g.xsub c d = some b) (h : Q (.c (.bl b)) st) : Sat ((sem g cl (.xis d)).v env st) E Q := by
  show Sat (match xcur env with | some (c, _) => toB (g.xsub c d) st | none => .stuck) E Q
  rw [hx]
  show Sat (toB (g.xsub c d) st) E Q
  rw [hs]; exact h
theorem v_xat {f : Nat} (hx : xcur env = some (c, x)) (hs : g.xfld c = some f) (h : Q (.c x) st) : Sat ((sem g cl (.xat f)).v env st) E Q := by
  show Sat (match xcur env with | some (c, x) => if g.xfld c = some f then okc x st else .stuck | none => .stuck) E Q
  rw [hx]
  show Sat (if g.xfld c = some f then okc x st else .stuck) E Q
  rw [if_pos hs]; exact h
theorem v_hcall {f : Nat} (hx : xcur env = some (c, x)) (h : Sat (cl f [.c (.tup [.int c, x])] st) E Q) : Sat ((sem g cl (.hcall f)).v env st) E Q := by
  show Sat (match xcur env with | some (c, x) => cl f [.c (xtup c x)] st | none => .stuck) E Q
  rw [hx]; exact h
theorem v_hcmp {op : Cop} {a b : Ex} (h : Sat ((sem g cl a).v env st) E fun x s => Sat ((sem g cl b).v env s) E fun y s' => Sat (hcmpop op x y s') E Q) : Sat ((sem g cl (.hcmp op a b)).v env st) E Q := sat_bind (sat_mono h fun _ _ h => sat_bind h)
theorem v_hix {a b : Ex} (h : Sat ((sem g cl a).v env st) E fun x s => Sat ((sem g cl b).v env s) E fun y s' => Sat (hgetix x y s') E Q) : Sat ((sem g cl (.hix a b)).v env st) E Q := sat_bind (sat_mono h fun _ _ h => sat_bind h)
theorem v_madd {a b : Ex} (h : Sat ((sem g cl a).v env st) E fun x s => Sat ((sem g cl b).v env s) E fun y s' => Sat (maddOp x y s') E Q) : Sat ((sem g cl (.madd a b)).v env st) E Q := sat_bind (sat_mono h fun _ _ h => sat_bind h)
theorem o_maddW {a b : W} {xs ys : List W} (ha : lstOf st a = some xs) (hb : lstOf st b = some ys) (hs : xs.length + ys.length ≤ 16777216) (h : Q (.r st.length) (st ++ [some (.lst (xs ++ ys))])) : Sat (maddOp a b st) E Q := by
  unfold maddOp
  rw [ha, hb]
  show Sat (if xs.length + ys.length ≤ 16777216 then .ok (.r st.length) (st ++ [some (.lst (xs ++ ys))]) else .stuck) E Q
  rw [if_pos hs]; exact h
theorem o_madd {xs ys : List C} (hs : xs.length + ys.length ≤ 16777216) (h : Q (.r st.length) (st ++ [some (.lst ((xs ++ ys).map .c))])) : Sat (maddOp (.c (.lst xs)) (.c (.lst ys)) st) E Q :=
  o_maddW (xs := xs.map .c) (ys := ys.map .c) rfl rfl (by simpa using hs) (by rw [← List.map_append]; exact h)
theorem hc_eqI {i j : Int} (h : Q (.c (.bl (decide (i = j)))) st) : Sat (hcmpop .eq (.c (.int i)) (.c (.int j)) st) E Q := by
  show Sat (if shp (.int i) && shp (.int j) then okc (.bl (eqC (.int i) (.int j))) st else .stuck) E Q
  rw [eqC_int]; exact h
theorem hx_lst {xs : List C} {k : Int} {y : C} (h0 : 0 ≤ k) (h1 : xs[k.toNat]? = some y) (h : Q (.c y) st) : Sat (hgetix (.c (.lst xs)) (.c (.int k)) st) E Q := by
  show Sat (match (ixN (xs.map W.c).length k).bind fun j => (xs.map W.c)[j]? with | some w => .ok w st | none => .stuck) E Q
  obtain ⟨hl, _⟩ := List.getElem?_eq_some_iff.mp h1
  have e : ixN (xs.map W.c).length k = some k.toNat := by
    unfold ixN
    rw [if_pos h0, if_pos (by rw [List.length_map]; omega)]
  rw [e]
  show Sat (match (xs.map W.c)[k.toNat]? with | some w => .ok w st | none => .stuck) E Q
  rw [List.getElem?_map, h1]; exact h
theorem bm_ix {o : W} {xs : List C} {y : C} {i : Nat} (hd : dat st o = some (.lst xs)) (h1 : (shp (.lst xs) && shp y) = true) (h2 : idxOf y xs 0 = some i) (hy : dat st (.c y) = some y := by rfl) (h : Q (.c (.int i)) st) : Sat (bmIndex o [.c y] st) E Q := by
  unfold bmIndex
  dsimp only
  rw [hd, hy]
  dsimp only
  rw [if_pos h1, h2]; exact h
theorem s_raise {d : Nat} {e : Ex} (h : Sat ((sem g cl e).v env st) E fun w s => ∃ x, w = .c x ∧ E d x s) : Sat (stm g cl fu (.raise d e) env st) E F := sat_bind (sat_mono h fun w s ⟨x, e, h⟩ => by subst e; exact h)
theorem s_hcons_t {cs : List Nat} {suite rest : Sx} (hx : xcur env = some (c, x)) (hm : xmatch g c cs = some true) (h : Sat (stm g cl fu suite env st) (fun _ _ _ => False) fun f s => match f with | .rt w => F (.rt w) s | .nx e => F (.nx (List.replicate (e.length - 1) none)) s | _ => False) : Sat (stm g cl fu (.hcons cs suite rest) env st) E F := by
  show Sat (match xcur env with | some (c, _) => (match xmatch g c cs with | some true => hend (stm g cl fu suite env st) | some false => stm g cl fu rest env st | none => .stuck) | none => .stuck) E F
  rw [hx]
  dsimp only
  rw [hm]
  dsimp only
  revert h
  generalize stm g cl fu suite env st = r
  intro h
  cases r with
  | ok f s => cases f with
    | nx e => exact h
    | rt w => exact h
    | bk e => exact h.elim
    | ct e => exact h.elim
  | ex c x s => exact h.elim
  | stuck => exact h.elim
theorem s_hcons_f {cs : List Nat} {suite rest : Sx} (hx : xcur env = some (c, x)) (hm : xmatch g c cs = some false) (h : Sat (stm g cl fu rest env st) E F) : Sat (stm g cl fu (.hcons cs suite rest) env st) E F := by
  show Sat (match xcur env with | some (c, _) => (match xmatch g c cs with | some true => hend (stm g cl fu suite env st) | some false => stm g cl fu rest env st | none => .stuck) | none => .stuck) E F
  rw [hx]
  dsimp only
  rw [hm]; exact h
theorem b_reprD (h : Q (.c (.str [123, 125])) st) : Sat (bfn g cl .repr [.c (.dct [] [])] st) E Q := h
end
end Ev

namespace Ev.B
open Ev
def b__law_begin : Sx := .cons (.ret (.mut (.lst (.cons (.bi (.list) (.cons (.sl (.var 0) (.nil) (.cons (.int 63) (.nil))) (.nil))) (.cons (.int 0) (.cons (.int 0) (.cons (.int 7) (.nil)))))))) (.nil)
def b__law_draw : Sx := .cons (.ite (.and (.cmp (.lt) (.ix (.var 0) (.int 2)) (.bin (.pow) (.int 10) (.int 18))) (.cmp (.lt) (.ix (.var 0) (.int 1)) (.bi (.len) (.cons (.ix (.var 0) (.int 0)) (.nil))))) (.cons (.set 2 (.bi (.int) (.cons (.ix (.ix (.var 0) (.int 0)) (.ix (.var 0) (.int 1))) (.nil)))) (.cons (.setix (.var 0) (.int 1) (.bin (.add) (.ix (.var 0) (.int 1)) (.int 1))) (.cons (.setix (.var 0) (.int 2) (.int 0)) (.cons (.ite (.cmp (.ge) (.var 2) (.bin (.pow) (.int 10) (.int 18))) (.cons (.setix (.var 0) (.int 2) (.var 2)) (.nil)) (.nil)) (.cons (.setix (.var 0) (.int 3) (.bin (.mod) (.bi (.int) (.cons (.bin (.add) (.bin (.add) (.bin (.mul) (.ix (.var 0) (.int 3)) (.int 48271)) (.bin (.mod) (.var 2) (.int 2147483629))) (.int 11)) (.nil))) (.int 2147483647))) (.nil)))))) (.nil)) (.cons (.ite (.cmp (.ge) (.ix (.var 0) (.int 2)) (.bin (.pow) (.int 10) (.int 18))) (.cons (.set 3 (.bin (.mod) (.bi (.int) (.cons (.ix (.var 0) (.int 2)) (.nil))) (.var 1))) (.cons (.setix (.var 0) (.int 2) (.bin (.fdiv) (.ix (.var 0) (.int 2)) (.var 1))) (.cons (.ret (.var 3)) (.nil)))) (.nil)) (.cons (.setix (.var 0) (.int 3) (.bin (.mod) (.bi (.int) (.cons (.bin (.add) (.bin (.mul) (.ix (.var 0) (.int 3)) (.int 39373)) (.int 12820163)) (.nil))) (.int 2147483647))) (.cons (.ret (.bin (.mod) (.bi (.int) (.cons (.bin (.fdiv) (.ix (.var 0) (.int 3)) (.int 16)) (.nil))) (.var 1))) (.nil))))
end Ev.B
namespace Ev
abbrev D__law_begin : Df := ⟨1, 1, [], B.b__law_begin, true, false, [], none, false⟩
abbrev D__law_draw : Df := ⟨4, 2, [], B.b__law_draw, false, false, [], none, false⟩
/-- what a law has of these -/
structure BDraw_G (g : Gd) : Prop where
  d__law_begin : g.df 9 = some D__law_begin
  d__law_draw : g.df 10 = some D__law_draw
end Ev

namespace Ev.B
open Ev
def b__law_pick : Sx := .cons (.ret (.ix (.var 1) (.call 10 (.cons (.var 0) (.cons (.bi (.len) (.cons (.var 1) (.nil))) (.nil)))))) (.nil)
end Ev.B
namespace Ev
abbrev D__law_pick : Df := ⟨2, 2, [], B.b__law_pick, false, false, [], none, false⟩
/-- what a law has of these -/
structure BPick_G (g : Gd) : Prop where
  d__law_pick : g.df 11 = some D__law_pick
end Ev

namespace Ev.B
open Ev
def b_places_is_integer : Sx := .cons (.ret (.and (.isi (.var 0) [.int]) (.not (.isi (.var 0) [.bool])))) (.nil)
def b_places_is_between : Sx := .cons (.ret (.and (.call 0 (.cons (.var 0) (.nil))) (.cmp2 (.le) (.le) (.var 1) (.var 0) (.var 2)))) (.nil)
def b_places_is_count : Sx := .cons (.ret (.and (.call 0 (.cons (.var 0) (.nil))) (.cmp (.ge) (.var 0) (.int 0)))) (.nil)
def b_forms_divisor : Sx := .cons (.while (.cmp (.ne) (.var 1) (.int 0)) (.cons (.par [0, 1] (.cons (.var 1) (.cons (.bin (.mod) (.var 0) (.var 1)) (.nil)))) (.nil))) (.cons (.ret (.var 0)) (.nil))
def b_forms_is_lesser : Sx := .cons (.ret (.or (.cmp (.is) (.var 1) (.non)) (.and (.cmp (.isnot) (.var 0) (.non)) (.cmp (.le) (.var 0) (.var 1))))) (.nil)
def b_Form___init__ : Sx := .cons (.ite (.and (.cmp (.isnot) (.var 1) (.non)) (.not (.call 2 (.cons (.var 1) (.nil))))) (.cons (.raise 21 (.str [103, 97, 116, 101])) (.nil)) (.nil)) (.cons (.ite (.and (.cmp (.isnot) (.var 2) (.non)) (.not (.call 1 (.cons (.var 2) (.cons (.int 1) (.cons (.glob 14) (.nil))))))) (.cons (.raise 21 (.str [116, 114, 105, 101, 115])) (.nil)) (.nil)) (.cons (.ite (.and (.cmp (.isnot) (.var 3) (.non)) (.not (.call 1 (.cons (.var 3) (.cons (.int 1) (.cons (.glob 15) (.nil))))))) (.cons (.raise 21 (.str [119, 105, 110, 100, 111, 119])) (.nil)) (.nil)) (.cons (.setfld (.var 0) 58 (.var 1)) (.cons (.setfld (.var 0) 59 (.var 2)) (.cons (.setfld (.var 0) 60 (.var 3)) (.nil))))))
def b_Form_gate : Sx := .cons (.ret (.attr (.var 0) 58)) (.nil)
def b_Form_tries : Sx := .cons (.ret (.attr (.var 0) 59)) (.nil)
def b_Form_window : Sx := .cons (.ret (.attr (.var 0) 60)) (.nil)
def b_Form_opens : Sx := .cons (.ite (.or (.cmp (.is) (.attr (.var 0) 60) (.non)) (.cmp (.isnot) (.attr (.var 0) 59) (.non))) (.cons (.ret (.attr (.var 0) 58)) (.nil)) (.nil)) (.cons (.ite (.cmp (.is) (.attr (.var 0) 58) (.non)) (.cons (.ret (.attr (.var 0) 60)) (.nil)) (.nil)) (.cons (.ret (.bi (.min) (.cons (.attr (.var 0) 58) (.cons (.attr (.var 0) 60) (.nil))))) (.nil)))
def b_Form_told : Sx := .cons (.ite (.and (.cmp (.isnot) (.attr (.var 0) 63) (.non)) (.cmp (.ge) (.var 1) (.attr (.var 0) 63))) (.cons (.ret (.non)) (.nil)) (.nil)) (.cons (.ite (.or (.cmp (.is) (.attr (.var 0) 60) (.non)) (.cmp (.is) (.attr (.var 0) 59) (.non))) (.cons (.ret (.var 1)) (.nil)) (.nil)) (.cons (.ret (.bin (.add) (.var 1) (.bin (.mul) (.bin (.mul) (.bin (.sub) (.attr (.var 0) 59) (.int 1)) (.attr (.var 0) 60)) (.bin (.fdiv) (.var 1) (.attr (.var 0) 60))))) (.nil)))
def b_Form___getitem__ : Sx := .cons (.ite (.not (.call 2 (.cons (.var 1) (.nil)))) (.cons (.raise 12 (.var 1)) (.nil)) (.nil)) (.cons (.ret (.meth (.var 0) 64 (.cons (.var 1) (.nil)))) (.nil))
def b_Form___iter__ : Sx := .cons (.never) (.nil)
def b_Form_period : Sx := .cons (.ret (.ite (.or (.cmp (.is) (.attr (.var 0) 60) (.non)) (.cmp (.is) (.attr (.var 0) 59) (.non))) (.int 1) (.attr (.var 0) 60))) (.nil)
def b_Form_is_under : Sx := .cons (.ite (.and (.cmp (.isnot) (.attr (.var 0) 63) (.non)) (.or (.cmp (.is) (.attr (.var 1) 63) (.non)) (.cmp (.lt) (.attr (.var 0) 63) (.attr (.var 1) 63)))) (.cons (.ret (.bl false)) (.nil)) (.nil)) (.cons (.set 2 (.bin (.add) (.bin (.fdiv) (.bin (.mul) (.meth (.var 0) 65 (.nil)) (.meth (.var 1) 65 (.nil))) (.call 195 (.cons (.meth (.var 0) 65 (.nil)) (.cons (.meth (.var 1) 65 (.nil)) (.nil))))) (.int 1))) (.cons (.ite (.cmp (.isnot) (.attr (.var 1) 63) (.non)) (.cons (.set 2 (.bi (.min) (.cons (.var 2) (.cons (.attr (.var 1) 63) (.nil))))) (.nil)) (.nil)) (.cons (.ret (.bi (.all) (.cons (.lc (.call 196 (.cons (.meth (.var 0) 64 (.cons (.var 3) (.nil))) (.cons (.meth (.var 1) 64 (.cons (.var 3) (.nil))) (.nil)))) (.n 3) (.rng1 (.var 2)) (.bl true) [3]) (.nil)))) (.nil))))
def b_Form___eq__ : Sx := .cons (.ret (.and (.isi (.var 1) [.own 5]) (.and (.meth (.var 0) 66 (.cons (.var 1) (.nil))) (.meth (.var 1) 66 (.cons (.var 0) (.nil)))))) (.nil)
def b_Form___and__ : Sx := .cons (.ite (.not (.isi (.var 1) [.own 5])) (.cons (.never) (.nil)) (.nil)) (.cons (.set 2 (.lc (.tup (.cons (.meth (.var 0) 64 (.cons (.var 3) (.nil))) (.cons (.meth (.var 1) 64 (.cons (.var 3) (.nil))) (.nil)))) (.n 3) (.rng1 (.glob 16)) (.bl true) [3])) (.cons (.ret (.lc (.ite (.call 196 (.cons (.var 4) (.cons (.var 5) (.nil)))) (.var 5) (.var 4)) (.t (.cons (.n 4) (.cons (.n 5) (.nil)))) (.itr 2) (.bl true) [4, 5])) (.nil)))
end Ev.B
namespace Ev
abbrev D_places_is_integer : Df := ⟨1, 1, [], B.b_places_is_integer, false, false, [], none, false⟩
abbrev D_places_is_between : Df := ⟨3, 3, [], B.b_places_is_between, false, false, [], none, false⟩
abbrev D_places_is_count : Df := ⟨1, 1, [], B.b_places_is_count, false, false, [], none, false⟩
abbrev D_forms_divisor : Df := ⟨2, 2, [], B.b_forms_divisor, false, false, [], none, false⟩
abbrev D_forms_is_lesser : Df := ⟨2, 2, [], B.b_forms_is_lesser, false, false, [], none, false⟩
abbrev D_Form___init__ : Df := ⟨4, 4, [.non, (.int (1)), .non], B.b_Form___init__, false, false, [], none, false⟩
abbrev D_Form_gate : Df := ⟨1, 1, [], B.b_Form_gate, false, false, [], none, false⟩
abbrev D_Form_tries : Df := ⟨1, 1, [], B.b_Form_tries, false, false, [], none, false⟩
abbrev D_Form_window : Df := ⟨1, 1, [], B.b_Form_window, false, false, [], none, false⟩
abbrev D_Form_opens : Df := ⟨1, 1, [], B.b_Form_opens, false, false, [], none, false⟩
abbrev D_Form_told : Df := ⟨2, 2, [], B.b_Form_told, false, false, [], none, false⟩
abbrev D_Form___getitem__ : Df := ⟨2, 2, [], B.b_Form___getitem__, false, false, [], none, false⟩
abbrev D_Form___iter__ : Df := ⟨1, 1, [], B.b_Form___iter__, false, false, [], none, false⟩
abbrev D_Form_period : Df := ⟨1, 1, [], B.b_Form_period, false, false, [], none, false⟩
abbrev D_Form_is_under : Df := ⟨4, 2, [], B.b_Form_is_under, false, false, [], none, false⟩
abbrev D_Form___eq__ : Df := ⟨2, 2, [], B.b_Form___eq__, false, false, [], none, false⟩
abbrev D_Form___and__ : Df := ⟨6, 2, [], B.b_Form___and__, false, false, [], none, false⟩
/-- what a law has of these -/
structure BForm_G (g : Gd) : Prop where
  d_places_is_integer : g.df 0 = some D_places_is_integer
  d_places_is_between : g.df 1 = some D_places_is_between
  d_places_is_count : g.df 2 = some D_places_is_count
  d_forms_divisor : g.df 195 = some D_forms_divisor
  d_forms_is_lesser : g.df 196 = some D_forms_is_lesser
  d_Form___init__ : g.df 197 = some D_Form___init__
  d_Form_gate : g.df 198 = some D_Form_gate
  d_Form_tries : g.df 199 = some D_Form_tries
  d_Form_window : g.df 200 = some D_Form_window
  d_Form_opens : g.df 201 = some D_Form_opens
  d_Form_told : g.df 202 = some D_Form_told
  d_Form___getitem__ : g.df 203 = some D_Form___getitem__
  d_Form___iter__ : g.df 204 = some D_Form___iter__
  d_Form_period : g.df 205 = some D_Form_period
  d_Form_is_under : g.df 206 = some D_Form_is_under
  d_Form___eq__ : g.df 207 = some D_Form___eq__
  d_Form___and__ : g.df 208 = some D_Form___and__
  kn_Form : g.known 5 = true
  fr_Form : g.frz 5 = true
  inits_Form : g.init 5 = some 197
  eqs_Form : g.eqm 5 = some 207
  gets_Form : g.getm 5 = some 203
  lens_Form : g.lenm 5 = none
  ins_Form : g.inm 5 = none
  ands_Form : g.andm 5 = some 208
  me_Form___init__ : g.meth 5 5 = some 197
  pr_Form_tries : g.prop 5 10 = some 199
  me_Form___getitem__ : g.meth 5 12 = some 203
  me_Form___iter__ : g.meth 5 13 = some 204
  me_Form___eq__ : g.meth 5 14 = some 207
  fl_Form_kept_gate : g.fld 5 58 = true
  np_Form_kept_gate : g.prop 5 58 = none
  fl_Form_kept_tries : g.fld 5 59 = true
  np_Form_kept_tries : g.prop 5 59 = none
  fl_Form_kept_window : g.fld 5 60 = true
  np_Form_kept_window : g.prop 5 60 = none
  pr_Form_gate : g.prop 5 61 = some 198
  pr_Form_window : g.prop 5 62 = some 200
  pr_Form_opens : g.prop 5 63 = some 201
  me_Form_told : g.meth 5 64 = some 202
  me_Form_period : g.meth 5 65 = some 205
  me_Form_is_under : g.meth 5 66 = some 206
  me_Form___and__ : g.meth 5 67 = some 208
  co_14 : g.con 14 = some (.int (4))
  co_15 : g.con 15 = some (.int (7))
  co_16 : g.con 16 = some (.int (13))
end Ev

/-! Shw: what repr shows: how long, of which signs. -/
namespace Ev
open PySem
def OkS (x : Str) : Prop := ∀ c ∈ x.cps.toList, c < 0x110000
theorem okS_iff {x : Str} : PyData.strOk x = true ↔ OkS x := by
  unfold PyData.strOk OkS
  rw [Array.all_eq_true_iff_forall_mem]
  simp
theorem okS_app {a b : Str} (h : OkS a) (h' : OkS b) : OkS (a ++ b) := by
  intro c hc
  have : (a ++ b).cps = a.cps ++ b.cps := rfl
  rw [this, Array.toList_append, List.mem_append] at hc
  exact hc.elim (h c) (h' c)
theorem char_lt (c : Char) : c.toNat < 0x110000 := by
  have := c.valid
  simp only [Char.toNat, UInt32.isValidChar, Nat.isValidChar] at *
  omega
theorem okS_of (s : String) : OkS (Str.ofString s) := by
  rw [Str.ofString_eq_toList]
  intro c hc
  simp only [List.mem_map] at hc
  obtain ⟨x, _, rfl⟩ := hc
  exact char_lt x
theorem okS_char {q c : Nat} (hc : c < 0x110000) : ∀ x ∈ Builtin.Str.reprChar q c, x < 0x110000 := by
  have hx : ∀ w, ∀ x ∈ (let d := (Nat.toDigits 16 c).map Char.toNat; List.replicate (w - d.length) 48 ++ d), x < 0x110000 := by
    intro w x hx
    simp only [List.mem_append, List.mem_replicate, List.mem_map] at hx
    rcases hx with ⟨_, rfl⟩ | ⟨y, _, rfl⟩
    · omega
    · exact char_lt y
  intro x h
  unfold Builtin.Str.reprChar at h
  simp only at h
  split at h
  · simp only [List.mem_cons, List.not_mem_nil, or_false] at h; omega
  split at h
  · simp only [List.mem_cons, List.not_mem_nil, or_false] at h; omega
  split at h
  · simp only [List.mem_cons, List.not_mem_nil, or_false] at h; omega
  split at h
  · simp only [List.mem_cons, List.not_mem_nil, or_false] at h; omega
  split at h
  · simp only [List.mem_cons, List.not_mem_nil, or_false] at h; omega
  split at h
  · rcases List.mem_append.mp h with h | h
    · simp only [List.mem_cons, List.not_mem_nil, or_false] at h; omega
    · exact hx 2 x h
  split at h
  · rcases List.mem_append.mp h with h | h
    · simp only [List.mem_cons, List.not_mem_nil, or_false] at h; omega
    · exact hx 4 x h
  · rcases List.mem_append.mp h with h | h
    · simp only [List.mem_cons, List.not_mem_nil, or_false] at h; omega
    · exact hx 8 x h
theorem okS_repr {x : Str} (h : OkS x) : OkS (reprText x) := by
  have hq : reprQuote x < 0x110000 := by unfold reprQuote; split <;> omega
  have go : ∀ (l : List Nat) (acc : Array Nat), (∀ c ∈ l, c < 0x110000) → (∀ c ∈ acc.toList, c < 0x110000) → ∀ c ∈ (l.foldl (fun out c => out ++ (Builtin.Str.reprChar (reprQuote x) c).toArray) acc).toList, c < 0x110000 := by
    intro l
    induction l with
    | nil => intro acc _ ha; exact ha
    | cons y l ih =>
      intro acc hl ha
      refine ih _ (fun c hc => hl c (List.mem_cons_of_mem _ hc)) fun c hc => ?_
      rw [Array.toList_append, List.mem_append] at hc
      exact hc.elim (ha c) (okS_char (hl y List.mem_cons_self) c)
  intro c hc
  unfold reprText at hc
  rw [Array.toList_push, List.mem_append] at hc
  rcases hc with hc | hc
  · rw [← Array.foldl_toList] at hc
    exact go x.cps.toList #[reprQuote x] h (fun c hc => by simp at hc; omega) c hc
  · simp only [List.mem_cons, List.not_mem_nil, or_false] at hc; omega
theorem okS_from : ∀ (ts : List Str) (k : Nat) (acc : Str), (∀ t ∈ ts, OkS t) → OkS acc → OkS (textFrom k acc ts)
  | [], _, _, _, ha => ha
  | t :: ts, k, acc, h, ha => okS_from ts (k + 1) _ (fun t ht => h t (List.mem_cons_of_mem _ ht)) (okS_app (okS_app ha (okS_of _)) (h t List.mem_cons_self))
theorem okS_join : ∀ (ts : List Str), (∀ t ∈ ts, OkS t) → OkS (Str.join ", " ts)
  | [], _ => fun c hc => by simp [Str.join, Str.empty] at hc
  | [x], h => h x List.mem_cons_self
  | x :: y :: r, h => okS_app (okS_app (h x List.mem_cons_self) (okS_of _)) (okS_join (y :: r) fun t ht => h t (List.mem_cons_of_mem _ ht))
mutual
theorem okS_shown : ∀ (n : Nat) (c : C), pln n c = true → OkS (PyData.shown (toD c))
  | n, .non, _ => okS_of _
  | n, .bl b, _ => by unfold toD PyData.shown; split <;> exact okS_of _
  | n, .int _, _ => okS_of _
  | n, .str s, h => by
    have h : PyData.strOk ⟨s.toArray⟩ = true := by unfold pln at h; exact h
    exact okS_repr (okS_iff.mp h)
  | 0, .tup cs, h => by simp [pln] at h
  | 0, .lst cs, h => by simp [pln] at h
  | 0, .frz cs, h => by simp [pln] at h
  | n + 1, .tup cs, h => by
    have := okS_shownAll n cs h
    exact okS_app (okS_app (okS_of _) (okS_join _ this)) (okS_of _)
  | n + 1, .lst cs, h => okS_app (okS_from _ _ _ (okS_shownAll n cs h) (okS_of _)) (okS_of _)
  | n + 1, .frz cs, h => okS_app (okS_from _ _ _ (okS_shownAll n cs h) (okS_of _)) (okS_of _)
  | 0, .dct _ _, h => by simp [pln] at h
  | 0, .ins _ _ _, h => by simp [pln] at h
  | n + 1, .dct _ _, h => by simp [pln] at h
  | n + 1, .ins _ _ _, h => by simp [pln] at h
theorem okS_shownAll : ∀ (n : Nat) (cs : List C), plns n cs = true → ∀ t ∈ PyData.shownAll (toDs cs), OkS t
  | n, [], _ => fun t ht => by simp [toDs, PyData.shownAll] at ht
  | n, c :: cs, h => fun t ht => by
    have h : pln n c = true ∧ plns n cs = true := by simpa [plns] using h
    simp only [toDs, PyData.shownAll, List.mem_cons] at ht
    rcases ht with rfl | ht
    · exact okS_shown n c h.1
    · exact okS_shownAll n cs h.2 t ht
end
theorem shp_shown {c : C} (h : shp c = true) : shp (.str (shownC c)) = true := by
  have := okS_shown 60 c h
  show PyData.strOk ⟨(shownC c).toArray⟩ = true
  have e : (⟨(shownC c).toArray⟩ : Str) = PyData.shown (toD c) := by unfold shownC; simp
  rw [e]
  exact okS_iff.mpr this
/-- shown, at most so long -/
def Sh (n : Nat) (c : C) : Prop := shp c = true ∧ PyData.showable (toD c) = true ∧ (PyData.shown (toD c)).length ≤ n
def ShB (d n : Nat) (c : C) : Prop := pln d c = true ∧ PyData.showable (toD c) = true ∧ (PyData.shown (toD c)).length ≤ n
def ShA (d n : Nat) (cs : List C) : Prop := plns d cs = true ∧ PyData.showableAll (toDs cs) = true ∧ ((PyData.shownAll (toDs cs)).map (·.length)).sum + 2 * cs.length ≤ n
theorem shB_mono {d n m : Nat} {c : C} (h : ShB d n c) (hm : n ≤ m) : ShB d m c := ⟨h.1, h.2.1, Nat.le_trans h.2.2 hm⟩
theorem shB_non {d : Nat} : ShB d 4 .non := ⟨by cases d <;> rfl, rfl, by decide⟩
theorem shB_bl {d : Nat} {b : Bool} : ShB d 5 (.bl b) := ⟨by cases d <;> rfl, rfl, by cases b <;> decide⟩
theorem shB_int {d k : Nat} {i : Int} (hk : 0 < k) (hk2 : k ≤ 500) (h : i.natAbs < 10 ^ k) : ShB d (k + 1) (.int i) := by
  refine ⟨by cases d <;> rfl, ?_, ?_⟩
  · show decide (i.natAbs.log2 < 1920) = true
    refine decide_eq_true ?_
    rcases Nat.eq_zero_or_pos i.natAbs with z | z
    · rw [z]; decide
    · refine (Nat.log2_lt (by omega)).mpr (Nat.lt_of_lt_of_le h ?_)
      refine Nat.le_trans (Nat.pow_le_pow_right (by decide) hk2) ?_
      decide +kernel
  · show (Str.ofString (toString i)).length ≤ _
    have e : (Str.ofString (toString i)).length = (toString i).length := by
      rw [Str.ofString_eq_toList]
      show (List.toArray _).size = _
      rw [List.size_toArray, List.length_map, String.length_toList]
    rw [e]
    exact int_text_length_le10 hk h
theorem shA_nil {d : Nat} : ShA d 0 [] := ⟨by cases d <;> rfl, rfl, by simp [toDs, PyData.shownAll]⟩
theorem shA_cons {d n m : Nat} {c : C} {cs : List C} (h : ShB d n c) (h' : ShA d m cs) : ShA d (n + 2 + m) (c :: cs) := by
  refine ⟨by simp [plns, h.1, h'.1], by simp [toDs, PyData.showableAll, h.2.1, h'.2.1], ?_⟩
  have h1 := h.2.2
  have h2 := h'.2.2
  simp only [toDs, PyData.shownAll, List.map_cons, List.sum_cons, List.length_cons]
  omega
theorem shA_all {d n : Nat} : ∀ {cs : List C}, (∀ c ∈ cs, ShB d n c) → ShA d (cs.length * (n + 2)) cs
  | [], _ => by simpa using shA_nil
  | c :: cs, h => by
    have := shA_cons (h c List.mem_cons_self) (shA_all fun x hx => h x (List.mem_cons_of_mem _ hx))
    rw [List.length_cons, Nat.succ_mul, Nat.add_comm]
    exact this
theorem shownAll_len : ∀ cs : List C, (PyData.shownAll (toDs cs)).length = cs.length
  | [] => rfl
  | c :: cs => by simp [toDs, PyData.shownAll, shownAll_len cs]
theorem shB_lst {d n : Nat} {cs : List C} (h : ShA d n cs) : ShB (d + 1) (n + 3) (.lst cs) := by
  refine ⟨h.1, h.2.1, ?_⟩
  show (listText (PyData.shownAll (toDs cs))).length ≤ _
  have := listText_len_le (PyData.shownAll (toDs cs))
  rw [shownAll_len] at this
  have := h.2.2
  omega
theorem shB_frz {d n : Nat} {cs : List C} (h : ShA d n cs) : ShB (d + 1) (n + 3) (.frz cs) := by
  refine ⟨h.1, h.2.1, ?_⟩
  show (listText (PyData.shownAll (toDs cs))).length ≤ _
  have := listText_len_le (PyData.shownAll (toDs cs))
  rw [shownAll_len] at this
  have := h.2.2
  omega
theorem shB_tup {d n : Nat} {cs : List C} (h : ShA d n cs) : ShB (d + 1) (n + 3) (.tup cs) := by
  refine ⟨h.1, h.2.1, ?_⟩
  show (tupleText (PyData.shownAll (toDs cs))).length ≤ _
  have := tupleText_len_le (PyData.shownAll (toDs cs))
  rw [shownAll_len] at this
  have := h.2.2
  omega
section
variable {g : Gd} {cl : Cl} {st : S} {E : Nat → C → S → Prop} {Q : W → S → Prop}
theorem b_reprS {n : Nat} {c : C} (h : ShB 60 n c) (hn : n ≤ 16777216) (hq : Q (.c (.str (shownC c))) st) : Sat (bfn g cl .repr [.c c] st) E Q := by
  refine b_repr h.1 ?_ hq
  unfold showB
  rw [h.2.1, Bool.true_and]
  exact decide_eq_true (Nat.le_trans h.2.2 hn)
/-- two texts -/
theorem n_shown {a b : C} (ha : shp a = true) (hb : shp b = true) (hq : Q (.c (.bl (!decide (shownC a = shownC b)))) st) : Sat (cmpop g cl .ne (.c (.str (shownC a))) (.c (.str (shownC b))) st) E Q :=
  c_ne trivial trivial (shp_shown ha) (shp_shown hb) (by rw [eqC_str]; exact hq)
theorem e_shown {a b : C} (ha : shp a = true) (hb : shp b = true) (hq : Q (.c (.bl (decide (shownC a = shownC b)))) st) : Sat (cmpop g cl .eq (.c (.str (shownC a))) (.c (.str (shownC b))) st) E Q :=
  c_eq trivial trivial (shp_shown ha) (shp_shown hb) (by rw [eqC_str]; exact hq)
end
end Ev

/-! Dr: what is drawn. -/
namespace Ev
local macro_rules | `(tactic| fail) => `(tactic| first
  | ((with_reducible apply v_var); (· rfl))
  | (with_reducible first
    | refine s_cons ?_ | refine s_nil ?_ | refine s_ite ?_ | refine s_ret ?_ | refine s_set ?_ | refine s_expr ?_ | refine s_setix ?_ | refine s_setfld ?_ | refine s_pass ?_ | refine s_retN ?_ | refine s_cont ?_ | refine s_brk ?_ | refine s_for ?_ | refine s_par ?_ | refine s_tset ?_ | refine l_rng1 ?_ | refine l_rng2 ?_ | refine l_lc ?_ | refine l_itv ?_
    | refine v_int ?_ | refine v_bl ?_ | refine v_non ?_ | refine v_str ?_ | refine l_cons ?_ | refine l_nil ?_ | refine l_lst ?_
    | refine v_bin ?_ | refine v_cmp ?_ | refine v_call ?_ | refine v_meth ?_ | refine v_attr ?_ | refine v_ix ?_ | refine v_sl ?_ | refine v_bi ?_ | refine v_bm ?_ | refine v_isi ?_ | refine v_make ?_ | refine v_callk ?_ | refine v_makek ?_ | refine v_calls ?_ | refine v_makes ?_
    | refine v_and ?_ | refine v_or ?_ | refine v_not ?_ | refine v_ite ?_ | refine v_cmp2 ?_ | refine v_neg ?_ | refine v_tup ?_ | refine v_dsp ?_ | refine v_lst ?_ | refine v_lc ?_ | refine v_mut ?_
    | refine t_not ?_ | refine t_and ?_ | refine t_or ?_ | refine t_ite ?_ | refine t_bi ?_
    | refine tru_bl ?_ | refine tru_int ?_ | refine tru_non ?_ | refine isB_i ?_ | refine isI_i ?_ | refine br_t ?_ | refine br_f ?_ | refine br_neg ?_
    | refine o_add ?_ | refine o_sub ?_ | refine c_lt ?_ | refine c_le ?_ | refine c_gt ?_ | refine c_ge ?_ | refine c_eqI ?_ | refine c_neI ?_ | refine c_eqB ?_ | refine c_neB ?_ | refine c_isN ?_ | refine c_isnotN ?_
    | refine p_none ?_ | refine p_some ?_ | refine sl_lst ?_ | refine sl_frz ?_ | refine sl_tup ?_ | refine fin_c ?_ | refine fin_k ?_ | refine b_int ?_ | refine b_abs ?_ | refine b_min2 ?_ | refine b_max2 ?_
    | refine br_Nn ?_ | refine br_Ni ?_ | refine br_Nb ?_ | refine br_Ns ?_ | refine br_Nt ?_ | refine br_Nl ?_ | refine br_No ?_)
  | ((with_reducible apply t_v); (· rfl))
  | ((with_reducible apply v_glob); (· first | rfl | assumption))
  | ((with_reducible apply l_itrC); (· rfl))
  | ((with_reducible apply l_itrR); (· rfl); (· assumption))
  | ((with_reducible apply clo_i); (· rfl))
  | ((with_reducible apply som_i); (· rfl))
  | ((with_reducible refine sd_i ?_ ?_); (· first | with_reducible rfl | decide | omega | (rw [ntLen]; omega) | (simp only [List.length_map, List.length_range]; first | decide | omega)))
  | ((with_reducible apply isM_i); (· first | rfl | assumption))
  | ((with_reducible apply o_mul); (· first | exact mul_r (by decide) | exact mul_l (by decide)))
  | ((with_reducible apply o_fdiv); (· first | decide | omega))
  | ((with_reducible apply o_mod); (· first | decide | omega))
  | ((with_reducible apply o_pow); (· decide))
  | ((with_reducible apply x_cell); (· first | assumption | (apply cell_set; assumption)); (· decide); (· rfl))
  | ((with_reducible apply x_lst); (· decide); (· rfl))
  | ((with_reducible apply x_tup); (· decide); (· rfl))
  | ((with_reducible apply st_ixS); (· assumption); (· decide); (· exact of_decide_eq_true rfl))
  | ((with_reducible apply st_ix); (· first | assumption | (apply cell_set; assumption)); (· decide); (· exact of_decide_eq_true rfl)))
section
variable {g : Gd} {fu k : Nat} {st : S} {E : Nat → C → S → Prop} {Q : W → S → Prop}
/-- the source at n -/
def Src (st : S) (n : Nat) : Prop := ∃ (cs : List Int) (p c s : Int), cellAt st n = some (.lst [.c (.lst (cs.map .int)), .c (.int p), .c (.int c), .c (.int s)]) ∧ 0 ≤ p ∧ cs.length ≤ 63
theorem draw_ok (G : BDraw_G g) {n : Nat} {l : Int} (h : Src st n) (hl : 0 < l ∧ l < 1073741824) (hq : ∀ d st', 0 ≤ d → d < l → Src st' n → Oth n st st' → Q (.c (.int d)) st') : Sat (call g fu (k + 1) 10 [.r n, .c (.int l)] st) E Q := by
  refine sat_no (P := fun w s => ∃ d, w = .c (.int d) ∧ 0 ≤ d ∧ d < l ∧ Src s n ∧ Oth n st s) ?_ fun w s ⟨d, e, h1, h2, h3, h4⟩ => by subst e; exact hq d s h1 h2 h3 h4
  refine call_go (env := [some (.r n), some (.c (.int l)), none, none]) G.d__law_draw rfl rfl rfl ?_ fun _ _ _ h => h
  unfold D__law_draw B.b__law_draw
  refine s_cut (fun e s => ∃ w2, e = [some (.r n), some (.c (.int l)), w2, none] ∧ Src s n ∧ Oth n st s) ?_ ?_
  · have h' := h
    obtain ⟨cs, p, c, s, hc, hp, hcs⟩ := h
    (repeat (first | fail | fail_if_success skip))
    refine br_all (fun h1 => ?_) fun h1 => ?_
    · (repeat (first | fail | fail_if_success skip))
      refine b_lenC (n := cs.length) rfl (by simp [lenW, seqW]) ?_
      (repeat (first | fail | fail_if_success skip))
      refine br_dec (fun h2 => ?_) fun h2 => ?_
      · have hx : (cs.map C.int)[p.toNat]? = some (.int (cs.getD p.toNat 0)) := by
          have : p.toNat < cs.length := by omega
          simp [this]
        (repeat (first | fail | fail_if_success skip))
        refine x_lst hp hx ?_
        (repeat (first | fail | fail_if_success skip))
        refine br_all (fun h3 => ?_) fun h3 => ?_
        · (repeat (first | fail | fail_if_success skip))
          exact ⟨_, rfl, ⟨cs, _, _, _, cell_set hc, by omega, hcs⟩, oth_set⟩
        · (repeat (first | fail | fail_if_success skip))
          exact ⟨_, rfl, ⟨cs, _, _, _, cell_set hc, by omega, hcs⟩, oth_set⟩
      · (repeat (first | fail | fail_if_success skip))
        exact ⟨_, rfl, h', Oth.refl⟩
    · (repeat (first | fail | fail_if_success skip))
      exact ⟨_, rfl, h', Oth.refl⟩
  · rintro e s' ⟨w2, rfl, ⟨cs, p, c, s, hc, hp, hcs⟩, ho⟩
    have hz : s'.take st.length = s' := by rw [← ho.1]; exact List.take_length
    (repeat (first | fail | fail_if_success skip))
    refine br_all (fun h1 => ?_) fun h1 => ?_
    · (repeat (first | fail | fail_if_success skip))
      have hz : ∀ x, (setCell s' n x).take st.length = setCell s' n x := fun x => by
        rw [← ho.1, ← (oth_set (st := s') (n := n) (x := x)).1]
        exact List.take_length
      refine ⟨_, rfl, Int.emod_nonneg _ (by omega), Int.emod_lt_of_pos _ hl.1, ?_, ?_⟩
      · rw [hz]
        exact ⟨cs, _, _, _, cell_set hc, hp, hcs⟩
      · rw [hz]
        exact ho.trans oth_set
    · (repeat (first | fail | fail_if_success skip))
      have hz : ∀ x, (setCell s' n x).take st.length = setCell s' n x := fun x => by
        rw [← ho.1, ← (oth_set (st := s') (n := n) (x := x)).1]
        exact List.take_length
      refine ⟨_, rfl, Int.emod_nonneg _ (by omega), Int.emod_lt_of_pos _ hl.1, ?_, ?_⟩
      · rw [hz]
        exact ⟨cs, _, _, _, cell_set hc, hp, hcs⟩
      · rw [hz]
        exact ho.trans oth_set
theorem cut63 {cs : List C} (h : cs.length ≤ 63) : cutL cs none (some 63) = cs := by
  unfold cutL HT.sIx
  simp only [List.drop_zero]
  have : ((if (63 : Int) < 0 then (63 + (cs.length : Int)).toNat else min (Int.toNat 63) cs.length) - 0) = cs.length := by
    rw [if_neg (by omega)]
    show min 63 cs.length - 0 = _
    omega
  rw [this]
  exact List.take_length
theorem begin_ok (G : BDraw_G g) {ns : List Int} (hn : ns.length ≤ 63) (hq : ∀ st', Src st' 0 → st'.length = 1 → Q (.r 0) st') : Sat (call g fu (k + 1) 9 [.c (.frz (ns.map .int))] []) E Q := by
  refine sat_no (P := fun w s => w = .r 0 ∧ Src s 0 ∧ s.length = 1) ?_ fun w s z => by obtain ⟨rfl, z, z'⟩ := z; exact hq s z z'
  refine call_go (env := [some (.c (.frz (ns.map .int)))]) G.d__law_begin rfl rfl rfl ?_ fun _ _ _ h => h
  unfold D__law_begin B.b__law_begin
  (repeat (first | fail | fail_if_success skip))
  rw [cut63 (by simpa using hn)]
  refine b_listL (by rw [List.length_map]; omega) ?_
  (repeat (first | fail | fail_if_success skip))
  exact ⟨rfl, ⟨ns, 0, 0, 7, rfl, by omega, hn⟩, rfl⟩
theorem pick_ok (G : BDraw_G g) (G2 : BPick_G g) {n : Nat} {cs : List C} (h : Src st n) (hl : 0 < cs.length ∧ cs.length < 1073741824) (hq : ∀ c ∈ cs, ∀ st', Src st' n → Oth n st st' → Q (.c c) st') : Sat (call g fu (k + 2) 11 [.r n, .c (.lst cs)] st) E Q := by
  refine sat_no (P := fun w s => ∃ c, w = .c c ∧ c ∈ cs ∧ Src s n ∧ Oth n st s) ?_ fun w s ⟨d, e, h1, h2, h3⟩ => by subst e; exact hq d h1 s h2 h3
  refine call_go (env := [some (.r n), some (.c (.lst cs))]) G2.d__law_pick rfl rfl rfl ?_ fun _ _ _ h => h
  unfold D__law_pick B.b__law_pick
  (repeat (first | fail | fail_if_success skip))
  refine b_lenC (n := cs.length) rfl (by simp [lenW, seqW]) ?_
  (repeat (first | fail | fail_if_success skip))
  refine draw_ok G h (by omega) fun d st' h1 h2 hs ho => ?_
  refine x_any h1 h2 fun c hc => ?_
  (repeat (first | fail | fail_if_success skip))
  have hz : st'.take st.length = st' := by rw [← ho.1]; exact List.take_length
  refine ⟨c, rfl, hc, ?_, ?_⟩
  · rw [hz]; exact hs
  · rw [hz]; exact ho
end
end Ev

/-! Fo: forms. -/
namespace Ev
local macro_rules | `(tactic| fail) => `(tactic| first
  | ((with_reducible apply v_var); (· rfl))
  | (with_reducible first
    | refine s_cons ?_ | refine s_nil ?_ | refine s_ite ?_ | refine s_ret ?_ | refine s_set ?_ | refine s_expr ?_ | refine s_setix ?_ | refine s_setfld ?_ | refine s_pass ?_ | refine s_retN ?_ | refine s_cont ?_ | refine s_brk ?_ | refine s_for ?_ | refine s_par ?_ | refine s_tset ?_ | refine l_rng1 ?_ | refine l_rng2 ?_ | refine l_lc ?_ | refine l_itv ?_
    | refine v_int ?_ | refine v_bl ?_ | refine v_non ?_ | refine v_str ?_ | refine l_cons ?_ | refine l_nil ?_ | refine l_lst ?_
    | refine v_bin ?_ | refine v_cmp ?_ | refine v_call ?_ | refine v_meth ?_ | refine v_attr ?_ | refine v_ix ?_ | refine v_sl ?_ | refine v_bi ?_ | refine v_bm ?_ | refine v_isi ?_ | refine v_make ?_ | refine v_callk ?_ | refine v_makek ?_ | refine v_calls ?_ | refine v_makes ?_
    | refine v_and ?_ | refine v_or ?_ | refine v_not ?_ | refine v_ite ?_ | refine v_cmp2 ?_ | refine v_neg ?_ | refine v_tup ?_ | refine v_dsp ?_ | refine v_lst ?_ | refine v_lc ?_ | refine v_mut ?_
    | refine t_not ?_ | refine t_and ?_ | refine t_or ?_ | refine t_ite ?_ | refine t_bi ?_
    | refine tru_bl ?_ | refine tru_int ?_ | refine tru_non ?_ | refine isB_i ?_ | refine isI_i ?_ | refine br_t ?_ | refine br_f ?_ | refine br_neg ?_
    | refine o_add ?_ | refine o_sub ?_ | refine c_lt ?_ | refine c_le ?_ | refine c_gt ?_ | refine c_ge ?_ | refine c_eqI ?_ | refine c_neI ?_ | refine c_eqB ?_ | refine c_neB ?_ | refine c_isN ?_ | refine c_isnotN ?_
    | refine p_none ?_ | refine p_some ?_ | refine sl_lst ?_ | refine sl_frz ?_ | refine sl_tup ?_ | refine fin_c ?_ | refine fin_k ?_ | refine b_int ?_ | refine b_abs ?_ | refine b_min2 ?_ | refine b_max2 ?_
    | refine br_Nn ?_ | refine br_Ni ?_ | refine br_Nb ?_ | refine br_Ns ?_ | refine br_Nt ?_ | refine br_Nl ?_ | refine br_No ?_)
  | ((with_reducible apply t_v); (· rfl))
  | ((with_reducible apply v_glob); (· first | rfl | assumption))
  | ((with_reducible apply l_itrC); (· rfl))
  | ((with_reducible apply l_itrR); (· rfl); (· assumption))
  | ((with_reducible apply clo_i); (· rfl))
  | ((with_reducible apply som_i); (· rfl))
  | ((with_reducible refine sd_i ?_ ?_); (· first | with_reducible rfl | decide | omega | (rw [ntLen]; omega) | (simp only [List.length_map, List.length_range]; first | decide | omega)))
  | ((with_reducible apply isM_i); (· first | rfl | assumption))
  | ((with_reducible apply o_mul); (· first | exact mul_r (by decide) | exact mul_l (by decide)))
  | ((with_reducible apply o_fdiv); (· first | decide | omega))
  | ((with_reducible apply o_mod); (· first | decide | omega))
  | ((with_reducible apply o_pow); (· decide))
  | ((with_reducible apply x_cell); (· first | assumption | (apply cell_set; assumption)); (· decide); (· rfl))
  | ((with_reducible apply x_lst); (· decide); (· rfl))
  | ((with_reducible apply x_tup); (· decide); (· rfl))
  | ((with_reducible apply st_ixS); (· assumption); (· decide); (· exact of_decide_eq_true rfl))
  | ((with_reducible apply st_ix); (· first | assumption | (apply cell_set; assumption)); (· decide); (· exact of_decide_eq_true rfl)))
section
variable {g : Gd} {cl : Cl} {fu k : Nat} {st : S} {E : Nat → C → S → Prop} {Q : W → S → Prop}
/-- a number or none -/
abbrev oC : Option Int → C
  | none => .non | some i => .int i
theorem pln_oC {n : Nat} (x : Option Int) : pln n (oC x) = true := by cases x <;> cases n <;> rfl
theorem eqC_oC (x y : Option Int) : eqC (oC x) (oC y) = decide (x = y) := by
  cases x <;> cases y <;> simp [eqC, toD, PySem.PyData.eqv]
  rfl
abbrev form (a t w : Option Int) : C := .ins 5 [58, 59, 60] [oC a, oC t, oC w]
theorem s_integer (G : BForm_G g) (i : Int) : call g fu (k + 1) 0 [.c (.int i)] st = .ok (.c (.bl true)) st := by
  refine call_pure (env := [some (.c (.int i))]) G.d_places_is_integer rfl rfl rfl ?_
  unfold D_places_is_integer B.b_places_is_integer
  (repeat (first | fail | fail_if_success skip))
  refine ⟨rfl, true, by simp [isin, isin1], ?_⟩
  (repeat (first | fail | fail_if_success skip))
  refine ⟨rfl, false, by simp [isin, isin1], ?_⟩
  (repeat (first | fail | fail_if_success skip))
  exact ⟨rfl, rfl⟩
local macro_rules | `(tactic| fail_if_success skip) => `(tactic| (with_reducible refine sat_eq (s_integer (by assumption) ..) ?_))
theorem s_between (G : BForm_G g) (i l h : Int) : call g fu (k + 2) 1 [.c (.int i), .c (.int l), .c (.int h)] st = .ok (.c (.bl (decide (l ≤ i ∧ i ≤ h)))) st := by
  refine call_pure (env := [some (.c (.int i)), some (.c (.int l)), some (.c (.int h))]) G.d_places_is_between rfl rfl rfl ?_
  unfold D_places_is_between B.b_places_is_between
  (repeat (first | fail | fail_if_success skip))
  refine br_dec (fun h1 => ?_) fun h1 => ?_ <;> (repeat (first | fail | fail_if_success skip)) <;> exact ⟨by simp [h1], rfl⟩
local macro_rules | `(tactic| fail_if_success skip) => `(tactic| (with_reducible refine sat_eq (s_between (by assumption) ..) ?_))
theorem s_count (G : BForm_G g) (i : Int) : call g fu (k + 2) 2 [.c (.int i)] st = .ok (.c (.bl (decide (0 ≤ i)))) st := by
  refine call_pure (env := [some (.c (.int i))]) G.d_places_is_count rfl rfl rfl ?_
  unfold D_places_is_count B.b_places_is_count
  (repeat (first | fail | fail_if_success skip))
  exact ⟨rfl, rfl⟩
local macro_rules | `(tactic| fail_if_success skip) => `(tactic| (with_reducible refine sat_eq (s_count (by assumption) ..) ?_))
def lesser (a b : Option Int) : Bool := match b with | none => true | some y => match a with | none => false | some x => decide (x ≤ y)
theorem s_lesser (G : BForm_G g) (a b : Option Int) : call g fu (k + 1) 196 [.c (oC a), .c (oC b)] st = .ok (.c (.bl (lesser a b))) st := by
  refine call_pure (env := [some (.c (oC a)), some (.c (oC b))]) G.d_forms_is_lesser rfl rfl rfl ?_
  unfold D_forms_is_lesser B.b_forms_is_lesser
  cases a <;> cases b <;> (repeat (first | fail | fail_if_success skip)) <;> exact ⟨rfl, rfl⟩
local macro_rules | `(tactic| fail_if_success skip) => `(tactic| (with_reducible refine sat_eq (s_lesser (by assumption) ..) ?_))
section
variable {a t w : Option Int}
theorem f_g (G : BForm_G g) (h : Q (.c (oC a)) st) : Sat (attr g cl (.c (form a t w)) 58 st) E Q := a_fld rfl G.np_Form_kept_gate G.fl_Form_kept_gate rfl h
theorem f_t (G : BForm_G g) (h : Q (.c (oC t)) st) : Sat (attr g cl (.c (form a t w)) 59 st) E Q := a_fld rfl G.np_Form_kept_tries G.fl_Form_kept_tries rfl h
theorem f_w (G : BForm_G g) (h : Q (.c (oC w)) st) : Sat (attr g cl (.c (form a t w)) 60 st) E Q := a_fld rfl G.np_Form_kept_window G.fl_Form_kept_window rfl h
local macro_rules | `(tactic| fail_if_success skip) => `(tactic| (with_reducible refine f_g (by assumption) ?_))
local macro_rules | `(tactic| fail_if_success skip) => `(tactic| (with_reducible refine f_t (by assumption) ?_))
local macro_rules | `(tactic| fail_if_success skip) => `(tactic| (with_reducible refine f_w (by assumption) ?_))
def opens (a t w : Option Int) : Option Int := match w, t with
  | none, _ => a
  | some _, some _ => a
  | some y, none => match a with | none => some y | some x => some (if y < x then y else x)
theorem s_opens (G : BForm_G g) : call g fu (k + 1) 201 [.c (form a t w)] st = .ok (.c (oC (opens a t w))) st := by
  refine call_pure (env := [some (.c (form a t w))]) G.d_Form_opens rfl rfl rfl ?_
  unfold D_Form_opens B.b_Form_opens
  cases a <;> cases t <;> cases w <;> (repeat (first | fail | fail_if_success skip)) <;> exact ⟨rfl, rfl⟩
theorem f_o (G : BForm_G g) (h : Q (.c (oC (opens a t w))) st) : Sat (attr g (call g fu (k + 1)) (.c (form a t w)) 63 st) E Q := a_prop rfl G.pr_Form_opens (sat_eq (s_opens G) h)
local macro_rules | `(tactic| fail_if_success skip) => `(tactic| (with_reducible refine f_o (by assumption) ?_))
theorem f_os (G : BForm_G g) {o : Int} (e : opens a t w = some o) (h : Q (.c (.int o)) st) : Sat (attr g (call g fu (k + 1)) (.c (form a t w)) 63 st) E Q := f_o G (by rw [e]; exact h)
theorem f_on (G : BForm_G g) (e : opens a t w = none) (h : Q (.c .non) st) : Sat (attr g (call g fu (k + 1)) (.c (form a t w)) 63 st) E Q := f_o G (by rw [e]; exact h)
local macro_rules | `(tactic| fail_if_success skip) => `(tactic| (with_reducible refine f_os (by assumption) (by assumption) ?_))
local macro_rules | `(tactic| fail_if_success skip) => `(tactic| (with_reducible refine f_on (by assumption) (by assumption) ?_))
theorem s_gate (G : BForm_G g) : call g fu (k + 1) 198 [.c (form a t w)] st = .ok (.c (oC a)) st := by
  refine call_pure (env := [some (.c (form a t w))]) G.d_Form_gate rfl rfl rfl ?_
  unfold D_Form_gate B.b_Form_gate
  (repeat (first | fail | fail_if_success skip))
  exact ⟨rfl, rfl⟩
theorem f_gate (G : BForm_G g) (h : Q (.c (oC a)) st) : Sat (attr g (call g fu (k + 1)) (.c (form a t w)) 61 st) E Q := a_prop rfl G.pr_Form_gate (sat_eq (s_gate G) h)
local macro_rules | `(tactic| fail_if_success skip) => `(tactic| (with_reducible refine f_gate (by assumption) ?_))
theorem s_tries (G : BForm_G g) : call g fu (k + 1) 199 [.c (form a t w)] st = .ok (.c (oC t)) st := by
  refine call_pure (env := [some (.c (form a t w))]) G.d_Form_tries rfl rfl rfl ?_
  unfold D_Form_tries B.b_Form_tries
  (repeat (first | fail | fail_if_success skip))
  exact ⟨rfl, rfl⟩
theorem f_tries (G : BForm_G g) (h : Q (.c (oC t)) st) : Sat (attr g (call g fu (k + 1)) (.c (form a t w)) 10 st) E Q := a_prop rfl G.pr_Form_tries (sat_eq (s_tries G) h)
local macro_rules | `(tactic| fail_if_success skip) => `(tactic| (with_reducible refine f_tries (by assumption) ?_))
theorem s_window (G : BForm_G g) : call g fu (k + 1) 200 [.c (form a t w)] st = .ok (.c (oC w)) st := by
  refine call_pure (env := [some (.c (form a t w))]) G.d_Form_window rfl rfl rfl ?_
  unfold D_Form_window B.b_Form_window
  (repeat (first | fail | fail_if_success skip))
  exact ⟨rfl, rfl⟩
theorem f_window (G : BForm_G g) (h : Q (.c (oC w)) st) : Sat (attr g (call g fu (k + 1)) (.c (form a t w)) 62 st) E Q := a_prop rfl G.pr_Form_window (sat_eq (s_window G) h)
local macro_rules | `(tactic| fail_if_success skip) => `(tactic| (with_reducible refine f_window (by assumption) ?_))
def baseF (t w : Option Int) (n : Int) : Option Int := match w, t with | some y, some x => some (n + (x - 1) * y * (n / y)) | _, _ => some n
def toldF (a t w : Option Int) (n : Int) : Option Int := match opens a t w with
  | some o => if o ≤ n then none else baseF t w n
  | none => baseF t w n
/-- what a form is made of -/
structure Ok3 (a t w : Option Int) : Prop where
  g : ∀ x, a = some x → 0 ≤ x
  t : ∀ x, t = some x → 1 ≤ x ∧ x ≤ 4
  w : ∀ x, w = some x → 1 ≤ x ∧ x ≤ 7
theorem mul_small {x y : Int} (hx : 1 ≤ x ∧ x ≤ 4) (hy : 1 ≤ y ∧ y ≤ 7) : 0 ≤ (x - 1) * y ∧ (x - 1) * y ≤ 21 := by
  obtain ⟨h1, h2⟩ := hx
  have : x = 1 ∨ x = 2 ∨ x = 3 ∨ x = 4 := by omega
  rcases this with rfl | rfl | rfl | rfl <;> omega
theorem s_told (G : BForm_G g) (h : Ok3 a t w) (n : Int) : call g fu (k + 2) 202 [.c (form a t w), .c (.int n)] st = .ok (.c (oC (toldF a t w n))) st := by
  refine call_pure (env := [some (.c (form a t w)), some (.c (.int n))]) G.d_Form_told rfl rfl rfl ?_
  unfold D_Form_told B.b_Form_told
  refine s_cut (fun e s' => e = [some (.c (form a t w)), some (.c (.int n))] ∧ s' = st ∧ toldF a t w n = baseF t w n) ?_ ?_
  · unfold toldF
    cases ho : opens a t w with
    | none => (repeat (first | fail | fail_if_success skip)); exact ⟨rfl, rfl, rfl⟩
    | some o =>
      (repeat (first | fail | fail_if_success skip))
      refine br_dec (fun q => ?_) fun q => ?_ <;> (repeat (first | fail | fail_if_success skip))
      · exact ⟨by simp [q], rfl⟩
      · exact ⟨rfl, rfl, by simp [q]⟩
  · rintro _ _ ⟨rfl, rfl, e⟩
    rw [e]
    cases w with
    | none => (repeat (first | fail | fail_if_success skip)); exact ⟨rfl, rfl⟩
    | some y => cases t with
      | none => (repeat (first | fail | fail_if_success skip)); exact ⟨rfl, rfl⟩
      | some x =>
        have hx := h.t x rfl
        have hy := h.w y rfl
        have hm := mul_small hx hy
        (repeat (first | fail | fail_if_success skip))
        refine o_mul (mul_r (small64_of (by omega) (by omega))) ?_
        (repeat (first | fail | fail_if_success skip))
        refine o_mul (mul_l (small64_of (by omega) (by omega))) ?_
        (repeat (first | fail | fail_if_success skip))
        exact ⟨rfl, rfl⟩
theorem s_tld (G : BForm_G g) (h : Ok3 a t w) (n : Int) (hq : Q (.c (oC (toldF a t w n))) st) : Sat (call g fu (k + 2) 202 [.c (form a t w), .c (.int n)] st) E Q := sat_eq (s_told G h n) hq
local macro_rules | `(tactic| fail_if_success skip) => `(tactic| ((with_reducible refine s_tld (by assumption) ?_ _ ?_); (· assumption)))
theorem m_told (G : BForm_G g) {K : Nat → Prop} (h : K 202) : IsM g st (.c (form a t w)) 64 K := isM_i (by unfold methOf; exact G.me_Form_told) h
local macro_rules | `(tactic| fail_if_success skip) => `(tactic| (with_reducible refine m_told (by assumption) ?_))
theorem m_period (G : BForm_G g) {K : Nat → Prop} (h : K 205) : IsM g st (.c (form a t w)) 65 K := isM_i (by unfold methOf; exact G.me_Form_period) h
local macro_rules | `(tactic| fail_if_success skip) => `(tactic| (with_reducible refine m_period (by assumption) ?_))
theorem m_under (G : BForm_G g) {K : Nat → Prop} (h : K 206) : IsM g st (.c (form a t w)) 66 K := isM_i (by unfold methOf; exact G.me_Form_is_under) h
local macro_rules | `(tactic| fail_if_success skip) => `(tactic| (with_reducible refine m_under (by assumption) ?_))
theorem s_item (G : BForm_G g) (h : Ok3 a t w) {n : Int} (hn : 0 ≤ n) : call g fu (k + 3) 203 [.c (form a t w), .c (.int n)] st = .ok (.c (oC (toldF a t w n))) st := by
  refine call_pure (env := [some (.c (form a t w)), some (.c (.int n))]) G.d_Form___getitem__ rfl rfl rfl ?_
  unfold D_Form___getitem__ B.b_Form___getitem__
  (repeat (first | fail | fail_if_success skip))
  refine br_yes (decide_eq_true hn) ?_
  (repeat (first | fail | fail_if_success skip))
  exact ⟨rfl, rfl⟩
theorem x_form (G : BForm_G g) (h : Ok3 a t w) {n : Int} (hn : 0 ≤ n) (hq : Q (.c (oC (toldF a t w n))) st) : Sat (getix g (call g fu (k + 3)) (.c (form a t w)) (.c (.int n)) st) E Q := x_own rfl G.gets_Form (sat_eq (s_item G h hn) hq)
def perF (t w : Option Int) : Int := match w, t with | some y, some _ => y | _, _ => 1
theorem s_period (G : BForm_G g) : call g fu (k + 1) 205 [.c (form a t w)] st = .ok (.c (.int (perF t w))) st := by
  refine call_pure (env := [some (.c (form a t w))]) G.d_Form_period rfl rfl rfl ?_
  unfold D_Form_period B.b_Form_period
  cases t <;> cases w <;> (repeat (first | fail | fail_if_success skip)) <;> exact ⟨rfl, rfl⟩
local macro_rules | `(tactic| fail_if_success skip) => `(tactic| (with_reducible refine sat_eq (s_period (by assumption) ..) ?_))
theorem perF_bd (h : Ok3 a t w) : 1 ≤ perF t w ∧ perF t w ≤ 7 := by
  unfold perF
  cases w with
  | none => simp
  | some y => cases t with
    | none => simp
    | some x => exact h.w y rfl
theorem gcd_go {F : Fl → S → Prop} (cl : Cl) : ∀ (n a b : Nat), b < n → F (.nx [some (.c (.int (Nat.gcd b a : Nat))), some (.c (.int 0))]) st → Sat (whGo (sem g cl (.cmp .ne (.var 1) (.int 0))).t (stm g cl fu (.cons (.par [0, 1] (.cons (.var 1) (.cons (.bin .mod (.var 0) (.var 1)) .nil))) .nil)) n [some (.c (.int a)), some (.c (.int b))] st) E F
  | 0, a, b, h, _ => absurd h (by omega)
  | n + 1, a, b, h, hq => by
    refine wh_go ?_
    (repeat (first | fail | fail_if_success skip))
    refine br_dec (fun hb => ?_) fun hb => ?_
    · have : b = 0 := by omega
      subst this
      rw [Nat.gcd_zero_left] at hq
      exact hq
    · (repeat (first | fail | fail_if_success skip))
      have hp : 0 < (b : Int) := by omega
      have ih := gcd_go cl n b (a % b) (by have := Nat.mod_lt a (show 0 < b by omega); omega) (by rw [← Nat.gcd_rec]; exact hq)
      rw [Int.natCast_emod] at ih
      exact ih
def gcdI (p q : Int) : Int := (Nat.gcd q.toNat p.toNat : Nat)
theorem s_gcd (G : BForm_G g) {p q : Int} (hp : 0 ≤ p) (hq : 0 ≤ q) (hb : q.toNat < fu) : call g fu (k + 1) 195 [.c (.int p), .c (.int q)] st = .ok (.c (.int (gcdI p q))) st := by
  refine call_pure (env := [some (.c (.int p)), some (.c (.int q))]) G.d_forms_divisor rfl rfl rfl ?_
  unfold D_forms_divisor B.b_forms_divisor
  have h := fun (F : Fl → S → Prop) => gcd_go (g := g) (fu := fu) (st := st) (E := fun _ _ _ => False) (F := F) (call g fu k) fu p.toNat q.toNat hb
  rw [Int.toNat_of_nonneg hp, Int.toNat_of_nonneg hq] at h
  (repeat (first | fail | fail_if_success skip))
  refine s_while ?_
  refine h _ ?_
  (repeat (first | fail | fail_if_success skip))
  exact ⟨rfl, rfl⟩
theorem gcdI_bd {p q : Int} (hp : 1 ≤ p) (hq : 1 ≤ q) (hq' : q ≤ 7) : 1 ≤ gcdI p q ∧ gcdI p q ≤ 7 := by
  unfold gcdI
  have h1 : 0 < Nat.gcd q.toNat p.toNat := Nat.gcd_pos_of_pos_left _ (by omega)
  have h2 : Nat.gcd q.toNat p.toNat ≤ q.toNat := Nat.gcd_le_left _ (by omega)
  omega
def lastF (p q : Int) : Int := p * q / gcdI p q + 1
theorem lastF_bd {p q : Int} (hp : 1 ≤ p ∧ p ≤ 7) (hq : 1 ≤ q ∧ q ≤ 7) : 1 ≤ lastF p q ∧ lastF p q ≤ 50 := by
  obtain ⟨h1, h2⟩ := gcdI_bd hp.1 hq.1 hq.2
  unfold lastF
  have hm : 0 ≤ p * q ∧ p * q ≤ 49 := by
    have : p = 1 ∨ p = 2 ∨ p = 3 ∨ p = 4 ∨ p = 5 ∨ p = 6 ∨ p = 7 := by omega
    rcases this with rfl | rfl | rfl | rfl | rfl | rfl | rfl <;> omega
  have h3 : 0 ≤ p * q / gcdI p q := Int.ediv_nonneg hm.1 (by omega)
  have h4 : p * q / gcdI p q ≤ p * q := Int.ediv_le_self _ hm.1
  omega
def allF (a t w a' t' w' : Option Int) (l : Int) : Bool := (List.range l.toNat).all fun (n : Nat) => lesser (toldF a t w n) (toldF a' t' w' n)
def restF (a t w a' t' w' : Option Int) : Bool := match opens a' t' w' with
  | none => allF a t w a' t' w' (lastF (perF t w) (perF t' w'))
  | some o => allF a t w a' t' w' (if o < lastF (perF t w) (perF t' w') then o else lastF (perF t w) (perF t' w'))
def underF (a t w a' t' w' : Option Int) : Bool := match opens a t w with
  | none => restF a t w a' t' w'
  | some o => match opens a' t' w' with
    | none => false
    | some o' => if o < o' then false else restF a t w a' t' w'
theorem opens_nn (h : Ok3 a t w) {o : Int} (e : opens a t w = some o) : 0 ≤ o := by
  unfold opens at e
  split at e
  · exact h.g _ e
  · exact h.g _ e
  · rename_i y
    have hy := h.w y rfl
    split at e
    · cases e; omega
    · rename_i x
      have hx := h.g x rfl
      cases e
      split <;> omega
variable {a' t' w' : Option Int}
theorem kn_form (G : BForm_G g) {K : Prop} (h : K) : Sd (knownW g st (.c (form a t w)) = true) K := ⟨G.kn_Form, h⟩
local macro_rules | `(tactic| fail_if_success skip) => `(tactic| (with_reducible refine kn_form (by assumption) ?_))
theorem s_under (G : BForm_G g) (h : Ok3 a t w) (h' : Ok3 a' t' w') (hfu : 8 ≤ fu) : call g fu (k + 3) 206 [.c (form a t w), .c (form a' t' w')] st = .ok (.c (.bl (underF a t w a' t' w'))) st := by
  refine call_pure (env := [some (.c (form a t w)), some (.c (form a' t' w')), none, none]) G.d_Form_is_under rfl rfl rfl ?_
  unfold D_Form_is_under B.b_Form_is_under
  have b1 := perF_bd h
  have b2 := perF_bd h'
  have b3 := lastF_bd b1 b2
  have b4 := gcdI_bd b1.1 b2.1 b2.2
  refine s_cut (fun e s => e = [some (.c (form a t w)), some (.c (form a' t' w')), none, none] ∧ s = st ∧ underF a t w a' t' w' = restF a t w a' t' w') ?_ ?_
  · unfold underF
    cases ho : opens a t w with
    | none => (repeat (first | fail | fail_if_success skip)); exact ⟨rfl, rfl, rfl⟩
    | some o =>
      cases ho' : opens a' t' w' with
      | none => (repeat (first | fail | fail_if_success skip)); exact ⟨rfl, rfl⟩
      | some o' =>
        (repeat (first | fail | fail_if_success skip))
        refine br_dec (fun q => ?_) fun q => ?_ <;> (repeat (first | fail | fail_if_success skip))
        · exact ⟨by simp [q], rfl⟩
        · exact ⟨rfl, rfl, by simp [q]⟩
  rintro _ s1 ⟨rfl, rfl, e⟩
  rw [e]
  refine s_cut (fun e s' => e = [some (.c (form a t w)), some (.c (form a' t' w')), some (.c (.int (lastF (perF t w) (perF t' w')))), none] ∧ s' = s1) ?_ ?_
  · (repeat (first | fail | fail_if_success skip))
    refine o_mul (mul_r (small64_of (by omega) (by omega))) ?_
    (repeat (first | fail | fail_if_success skip))
    refine sat_eq (s_gcd G (by omega) (by omega) (by omega)) ?_
    (repeat (first | fail | fail_if_success skip))
    exact ⟨rfl, rfl⟩
  rintro _ s2 ⟨rfl, rfl⟩
  refine s_cut (fun e s' => ∃ l : Int, e = [some (.c (form a t w)), some (.c (form a' t' w')), some (.c (.int l)), none] ∧ s' = s2 ∧ 0 ≤ l ∧ l ≤ 50 ∧ restF a t w a' t' w' = allF a t w a' t' w' l) ?_ ?_
  · unfold restF
    cases ho' : opens a' t' w' with
    | none => (repeat (first | fail | fail_if_success skip)); exact ⟨_, rfl, rfl, by omega, by omega, rfl⟩
    | some o' =>
      have := opens_nn h' ho'
      (repeat (first | fail | fail_if_success skip))
      exact ⟨_, rfl, rfl, by show 0 ≤ (if o' < lastF (perF t w) (perF t' w') then o' else lastF (perF t w) (perF t' w')); split <;> omega, by show (if o' < lastF (perF t w) (perF t' w') then o' else lastF (perF t w) (perF t' w')) ≤ 50; split <;> omega, rfl⟩
  rintro _ _ ⟨l, rfl, rfl, h0, h1, e⟩
  rw [e]
  (repeat (first | fail | fail_if_success skip))
  refine lc_nats (fun n => .bl (lesser (toldF a t w n) (toldF a' t' w' n))) (fun _ _ => rfl) (fun j _ _ => ?_) ?_
  · (repeat (first | fail | fail_if_success skip))
    exact ⟨rfl, rfl⟩
  · refine clo_i (clo_map _) ?_
    (repeat (first | fail | fail_if_success skip))
    refine b_all (bs := (List.range l.toNat).map fun (n : Nat) => lesser (toldF a t w n) (toldF a' t' w' n)) (by rw [List.map_map]; exact bools_map _) ?_
    rw [List.all_map]
    exact ⟨rfl, rfl⟩
theorem s_undr (G : BForm_G g) (h : Ok3 a t w) (h' : Ok3 a' t' w') (hfu : 8 ≤ fu) (hq : Q (.c (.bl (underF a t w a' t' w'))) st) : Sat (call g fu (k + 3) 206 [.c (form a t w), .c (form a' t' w')] st) E Q := sat_eq (s_under G h h' hfu) hq
local macro_rules | `(tactic| fail_if_success skip) => `(tactic| ((with_reducible refine s_undr (by assumption) ?_ ?_ ?_ ?_); (· assumption); (· assumption); (· assumption)))
/-- other == self -/
def eqF (a t w a' t' w' : Option Int) : Bool := underF a t w a' t' w' && underF a' t' w' a t w
theorem s_eq (G : BForm_G g) (h : Ok3 a t w) (h' : Ok3 a' t' w') (hfu : 8 ≤ fu) : call g fu (k + 4) 207 [.c (form a t w), .c (form a' t' w')] st = .ok (.c (.bl (eqF a t w a' t' w'))) st := by
  refine call_pure (env := [some (.c (form a t w)), some (.c (form a' t' w'))]) G.d_Form___eq__ rfl rfl rfl ?_
  unfold D_Form___eq__ B.b_Form___eq__
  (repeat (first | fail | fail_if_success skip))
  refine br_all (fun q => ?_) fun q => ?_ <;> (repeat (first | fail | fail_if_success skip))
  · exact ⟨by simp [eqF, q], rfl⟩
  · exact ⟨by simp [eqF, q], rfl⟩
theorem e_form (G : BForm_G g) (h : Ok3 a t w) (h' : Ok3 a' t' w') (hfu : 8 ≤ fu) (hq : Q (.c (.bl (eqF a t w a' t' w'))) st) : Sat (cmpop g (call g fu (k + 4)) .eq (.c (form a t w)) (.c (form a' t' w')) st) E Q := c_eqO rfl G.eqs_Form rfl (sat_eq (s_eq G h h' hfu) ⟨rfl, hq⟩)
theorem n_form (G : BForm_G g) (h : Ok3 a t w) (h' : Ok3 a' t' w') (hfu : 8 ≤ fu) (hq : Q (.c (.bl (!eqF a t w a' t' w'))) st) : Sat (cmpop g (call g fu (k + 4)) .ne (.c (form a t w)) (.c (form a' t' w')) st) E Q := c_neO rfl G.eqs_Form rfl (sat_eq (s_eq G h h' hfu) ⟨rfl, hq⟩)
local macro_rules | `(tactic| fail_if_success skip) => `(tactic| ((with_reducible refine e_form (by assumption) ?_ ?_ ?_ ?_); (· assumption); (· assumption); (· assumption)))
local macro_rules | `(tactic| fail_if_success skip) => `(tactic| ((with_reducible refine n_form (by assumption) ?_ ?_ ?_ ?_); (· assumption); (· assumption); (· assumption)))
theorem s_eqL (G : BForm_G g) {cs : List C} : call g fu (k + 1) 207 [.c (form a t w), .c (.lst cs)] st = .ok (.c (.bl false)) st := by
  refine call_pure (env := [some (.c (form a t w)), some (.c (.lst cs))]) G.d_Form___eq__ rfl rfl rfl ?_
  unfold D_Form___eq__ B.b_Form___eq__
  (repeat (first | fail | fail_if_success skip))
  refine ⟨rfl, false, rfl, ?_⟩
  (repeat (first | fail | fail_if_success skip))
  exact ⟨rfl, rfl⟩
theorem e_formL (G : BForm_G g) {cs : List C} (hq : Q (.c (.bl false)) st) : Sat (cmpop g (call g fu (k + 1)) .eq (.c (form a t w)) (.c (.lst cs)) st) E Q :=
  eqR_ownC (n := false) (y := .lst cs) rfl G.eqs_Form trivial (sat_eq (s_eqL G) ⟨rfl, hq⟩)
/-- the greater of both -/
def andC (a t w a' t' w' : Option Int) (n : Nat) : C := oC (if lesser (toldF a t w n) (toldF a' t' w' n) then toldF a' t' w' n else toldF a t w n)
theorem s_and (G : BForm_G g) (h : Ok3 a t w) (h' : Ok3 a' t' w') : call g fu (k + 3) 208 [.c (form a t w), .c (form a' t' w')] st = .ok (.c (.lst ((List.range 13).map (andC a t w a' t' w')))) st := by
  refine call_pure (env := [some (.c (form a t w)), some (.c (form a' t' w')), none, none, none, none]) G.d_Form___and__ rfl rfl rfl ?_
  unfold D_Form___and__ B.b_Form___and__
  have hg := G.co_16
  (repeat (first | fail | fail_if_success skip))
  refine lc_nats (m := 13) (fun n => .tup [oC (toldF a t w n), oC (toldF a' t' w' n)]) (fun _ _ => rfl) (fun j _ _ => ?_) ?_
  · (repeat (first | fail | fail_if_success skip))
    exact ⟨rfl, rfl⟩
  · refine clo_i (clo_map _) ?_
    (repeat (first | fail | fail_if_success skip))
    refine lc_listT _ (andC a t w a' t' w') (fun _ _ => rfl) (fun n _ => ⟨_, rfl, ?_⟩) ?_
    · (repeat (first | fail | fail_if_success skip))
      refine br_all (fun q => ?_) fun q => ?_ <;> (repeat (first | fail | fail_if_success skip))
      · exact ⟨by simp [andC, q], rfl⟩
      · exact ⟨by simp [andC, q], rfl⟩
    · refine clo_i (clo_map _) ?_
      (repeat (first | fail | fail_if_success skip))
      exact ⟨rfl, rfl⟩
theorem a_form (G : BForm_G g) (h : Ok3 a t w) (h' : Ok3 a' t' w') (hq : Q (.c (.lst ((List.range 13).map (andC a t w a' t' w')))) st) : Sat (bin g (call g fu (k + 3)) .band (.c (form a t w)) (.c (form a' t' w')) st) E Q := o_and rfl rfl G.ands_Form (sat_eq (s_and G h h') hq)
local macro_rules | `(tactic| fail_if_success skip) => `(tactic| ((with_reducible refine a_form (by assumption) ?_ ?_ ?_); (· assumption); (· assumption)))
theorem s_init (G : BForm_G g) (h : Ok3 a t w) (hq : Q (.c .non) (st ++ [some (.ins 5 [58, 59, 60] [.c (oC a), .c (oC t), .c (oC w)])])) : Sat (call g fu (k + 3) 197 [.r st.length, .c (oC a), .c (oC t), .c (oC w)] (st ++ [some (.ins 5 [] [])])) E Q := by
  refine sat_no (P := fun v s => v = .c .non ∧ s = st ++ [some (.ins 5 [58, 59, 60] [.c (oC a), .c (oC t), .c (oC w)])]) ?_ fun v s z => by obtain ⟨rfl, rfl⟩ := z; exact hq
  refine call_go (env := [some (.r st.length), some (.c (oC a)), some (.c (oC t)), some (.c (oC w))]) G.d_Form___init__ rfl rfl rfl ?_ fun _ _ _ z => z
  unfold D_Form___init__ B.b_Form___init__
  have hg := G.co_14
  have hg' := G.co_15
  have ff : g.fld 5 58 = true := G.fl_Form_kept_gate
  have ft : g.fld 5 59 = true := G.fl_Form_kept_tries
  have fw : g.fld 5 60 = true := G.fl_Form_kept_window
  refine s_cut (fun e s => e = [some (.r st.length), some (.c (oC a)), some (.c (oC t)), some (.c (oC w))] ∧ s = st ++ [some (.ins 5 [] [])]) ?_ ?_
  · cases a with
    | none => (repeat (first | fail | fail_if_success skip)); exact ⟨rfl, rfl⟩
    | some x =>
      have := h.g x rfl
      (repeat (first | fail | fail_if_success skip))
      refine br_yes (decide_eq_true this) ?_
      (repeat (first | fail | fail_if_success skip))
      exact ⟨rfl, rfl⟩
  rintro _ _ ⟨rfl, rfl⟩
  refine s_cut (fun e s => e = [some (.r st.length), some (.c (oC a)), some (.c (oC t)), some (.c (oC w))] ∧ s = st ++ [some (.ins 5 [] [])]) ?_ ?_
  · cases t with
    | none => (repeat (first | fail | fail_if_success skip)); exact ⟨rfl, rfl⟩
    | some x =>
      have := h.t x rfl
      (repeat (first | fail | fail_if_success skip))
      refine br_yes (decide_eq_true this) ?_
      (repeat (first | fail | fail_if_success skip))
      exact ⟨rfl, rfl⟩
  rintro _ _ ⟨rfl, rfl⟩
  refine s_cut (fun e s => e = [some (.r st.length), some (.c (oC a)), some (.c (oC t)), some (.c (oC w))] ∧ s = st ++ [some (.ins 5 [] [])]) ?_ ?_
  · cases w with
    | none => (repeat (first | fail | fail_if_success skip)); exact ⟨rfl, rfl⟩
    | some x =>
      have := h.w x rfl
      (repeat (first | fail | fail_if_success skip))
      refine br_yes (decide_eq_true this) ?_
      (repeat (first | fail | fail_if_success skip))
      exact ⟨rfl, rfl⟩
  rintro _ _ ⟨rfl, rfl⟩
  (repeat (first | fail | fail_if_success skip))
  refine st_fld (cellAt_last _) (by simp [ff]) ?_
  rw [setCell_last]
  (repeat (first | fail | fail_if_success skip))
  refine st_fld (cellAt_last _) (by simp [ft, putFld]) ?_
  rw [setCell_last]
  (repeat (first | fail | fail_if_success skip))
  refine st_fld (cellAt_last _) (by simp [fw, putFld]) ?_
  rw [setCell_last]
  (repeat (first | fail | fail_if_success skip))
  refine ⟨rfl, ?_⟩
  simp only [putFld, List.length_append, List.length_cons, List.length_nil]
  rw [List.take_of_length_le (by simp)]
  rfl
theorem mk_form (G : BForm_G g) (h : Ok3 a t w) (hE : ∀ c x s, E c x s → E c x (s.take st.length)) (hq : Q (.c (form a t w)) st) : Sat (mk g (call g fu (k + 3)) 5 [.c (oC a), .c (oC t), .c (oC w)] st) E Q := by
  refine mk_frz G.inits_Form G.fr_Form ?_ hE
  refine s_init G h ⟨rfl, form a t w, ?_, ?_⟩
  · unfold freeze
    rw [cellAt_last]
    rfl
  · rw [take_last]; exact hq
end
end
end Ev

/-! Un: when a form is under another one. -/
namespace Ev
section
variable {a t w a' t' w' : Option Int}
/-- how often a window's people come again -/
def cF (t w : Option Int) : Int := match w, t with | some _, some x => x - 1 | _, _ => 0
theorem baseF_eq (n : Int) : baseF t w n = some (n + cF t w * perF t w * (n / perF t w)) := by
  cases w <;> cases t <;> simp [baseF, cF, perF]
theorem lesser_some {x y : Int} : lesser (some x) (some y) = decide (x ≤ y) := rfl
theorem lesser_none {x : Option Int} : lesser x none = true := rfl
theorem told_open {o n : Int} (e : opens a t w = some o) (h : o ≤ n) : toldF a t w n = none := by
  unfold toldF; rw [e]; exact if_pos h
theorem told_base {n : Int} (h : ∀ o, opens a t w = some o → n < o) : toldF a t w n = baseF t w n := by
  unfold toldF
  cases e : opens a t w with
  | none => rfl
  | some o => exact if_neg (by have := h o e; omega)
theorem per_add {c p L q r : Int} (hp : 0 < p) (hL : p ∣ L) : c * p * ((q * L + r) / p) = q * (c * p * (L / p)) + c * p * (r / p) := by
  obtain ⟨m, rfl⟩ := hL
  have e1 : (q * (p * m) + r) / p = q * m + r / p := by
    rw [show q * (p * m) + r = r + (q * m) * p by rw [Int.mul_comm p m, ← Int.mul_assoc, Int.add_comm], Int.add_mul_ediv_right _ _ (by omega), Int.add_comm]
  have e2 : p * m / p = m := Int.mul_ediv_cancel_left _ (by omega)
  rw [e1, e2, Int.mul_add]
  congr 1
  rw [← Int.mul_assoc, ← Int.mul_assoc, ← Int.mul_assoc, Int.mul_comm (c * p) q, ← Int.mul_assoc]
theorem lcm_dvd {p q : Int} (hp : 1 ≤ p ∧ p ≤ 7) (hq : 1 ≤ q ∧ q ≤ 7) : p ∣ p * q / gcdI p q ∧ q ∣ p * q / gcdI p q ∧ 0 < p * q / gcdI p q := by
  have h1 : p = 1 ∨ p = 2 ∨ p = 3 ∨ p = 4 ∨ p = 5 ∨ p = 6 ∨ p = 7 := by omega
  have h2 : q = 1 ∨ q = 2 ∨ q = 3 ∨ q = 4 ∨ q = 5 ∨ q = 6 ∨ q = 7 := by omega
  rcases h1 with rfl | rfl | rfl | rfl | rfl | rfl | rfl <;> rcases h2 with rfl | rfl | rfl | rfl | rfl | rfl | rfl <;> decide
theorem allF_iff {l : Int} : allF a t w a' t' w' l = true ↔ ∀ n : Int, 0 ≤ n → n < l → lesser (toldF a t w n) (toldF a' t' w' n) = true := by
  unfold allF
  rw [List.all_eq_true]
  constructor
  · intro h n h0 h1
    have := h n.toNat (List.mem_range.mpr (by omega))
    rw [Int.toNat_of_nonneg h0] at this
    exact this
  · intro h n hn
    have := List.mem_range.mp hn
    exact h n (by omega) (by omega)
theorem base_all (h : Ok3 a t w) (h' : Ok3 a' t' w') (hb : ∀ n : Int, 0 ≤ n → n < lastF (perF t w) (perF t' w') → lesser (baseF t w n) (baseF t' w' n) = true) {n : Int} (hn : 0 ≤ n) : lesser (baseF t w n) (baseF t' w' n) = true := by
  have p1 := perF_bd h
  have p2 := perF_bd h'
  obtain ⟨d1, d2, d3⟩ := lcm_dvd p1 p2
  unfold lastF at hb
  revert hb d1 d2 d3
  generalize perF t w * perF t' w' / gcdI (perF t w) (perF t' w') = L
  intro hb d1 d2 d3
  have hL := hb L (by omega) (by omega)
  have hr := hb (n % L) (Int.emod_nonneg _ (by omega)) (by have := Int.emod_lt_of_pos n d3; omega)
  rw [baseF_eq, baseF_eq, lesser_some, decide_eq_true_eq] at hL hr ⊢
  have e : n = (n / L) * L + n % L := by have := Int.mul_ediv_add_emod n L; rw [Int.mul_comm]; omega
  have hq : 0 ≤ n / L := Int.ediv_nonneg hn (by omega)
  have e1 := per_add (c := cF t w) (p := perF t w) (L := L) (q := n / L) (r := n % L) (by omega) d1
  have e2 := per_add (c := cF t' w') (p := perF t' w') (L := L) (q := n / L) (r := n % L) (by omega) d2
  rw [← e] at e1 e2
  rw [e1, e2]
  have hm : (n / L) * (cF t w * perF t w * (L / perF t w)) ≤ (n / L) * (cF t' w' * perF t' w' * (L / perF t' w')) := Int.mul_le_mul_of_nonneg_left (by omega) hq
  omega
theorem under_all (h : Ok3 a t w) (h' : Ok3 a' t' w') (hu : underF a t w a' t' w' = true) {n : Int} (hn : 0 ≤ n) : lesser (toldF a t w n) (toldF a' t' w' n) = true := by
  have hres : restF a t w a' t' w' = true ∧ (∀ o, opens a t w = some o → ∃ o', opens a' t' w' = some o' ∧ o' ≤ o) := by
    unfold underF at hu
    cases e : opens a t w with
    | none => rw [e] at hu; exact ⟨hu, fun _ z => by cases z⟩
    | some o =>
      rw [e] at hu
      cases e' : opens a' t' w' with
      | none => rw [e'] at hu; cases hu
      | some o' =>
        rw [e'] at hu
        dsimp only at hu
        split at hu
        · cases hu
        · exact ⟨hu, fun z ez => by cases ez; exact ⟨o', rfl, by omega⟩⟩
  obtain ⟨hr, ho⟩ := hres
  unfold restF at hr
  cases e' : opens a' t' w' with
  | none =>
    rw [e'] at hr
    have hr := allF_iff.mp hr
    have e : ∀ m, toldF a t w m = baseF t w m := fun m => told_base fun o eo => by
      obtain ⟨o', z, _⟩ := ho o eo
      rw [e'] at z; cases z
    have e2 : ∀ m, toldF a' t' w' m = baseF t' w' m := fun m => told_base fun o eo => by rw [e'] at eo; cases eo
    simp only [e, e2] at hr ⊢
    exact base_all h h' hr hn
  | some o' =>
    rw [e'] at hr
    have hr := allF_iff.mp hr
    rcases Int.lt_or_le n o' with q | q
    · rcases Int.lt_or_le n (lastF (perF t w) (perF t' w')) with q2 | q2
      · exact hr n hn (by split <;> omega)
      · rw [if_neg (by omega)] at hr
        have e : ∀ m, m < o' → toldF a t w m = baseF t w m := fun m hm => told_base fun o eo => by
          obtain ⟨z', z, _⟩ := ho o eo
          rw [e'] at z; cases z; omega
        have e2 : ∀ m, m < o' → toldF a' t' w' m = baseF t' w' m := fun m hm => told_base fun o eo => by rw [e'] at eo; cases eo; omega
        rw [e n q, e2 n q]
        refine base_all h h' (fun m h0 h1 => ?_) hn
        rw [← e m (by omega), ← e2 m (by omega)]
        exact hr m h0 h1
    · rw [told_open e' q]; rfl
theorem under_of (h : Ok3 a t w) (h' : Ok3 a' t' w') {N : Int} (hN : 49 ≤ N) (ho : ∀ o, opens a t w = some o → o ≤ N) (hl : ∀ n : Int, 0 ≤ n → n ≤ N → lesser (toldF a t w n) (toldF a' t' w' n) = true) : underF a t w a' t' w' = true := by
  have b := lastF_bd (perF_bd h) (perF_bd h')
  have hres : restF a t w a' t' w' = true := by
    unfold restF
    split
    · exact allF_iff.mpr fun n h0 h1 => hl n h0 (by omega)
    · exact allF_iff.mpr fun n h0 h1 => hl n h0 (by split at h1 <;> omega)
  unfold underF
  cases e : opens a t w with
  | none => exact hres
  | some o =>
    have h0 := opens_nn h e
    have hz := hl o h0 (ho o e)
    rw [told_open e (Int.le_refl _)] at hz
    cases e' : opens a' t' w' with
    | none =>
      rw [told_base (fun z ez => by rw [e'] at ez; cases ez), baseF_eq] at hz
      cases hz
    | some o' =>
      dsimp only
      split
      · rename_i q
        rw [told_base (fun z ez => by rw [e'] at ez; cases ez; exact q), baseF_eq] at hz
        cases hz
      · exact hres
theorem under_iff (h : Ok3 a t w) (h' : Ok3 a' t' w') {N : Int} (hN : 49 ≤ N) (ho : ∀ o, opens a t w = some o → o ≤ N) : underF a t w a' t' w' = true ↔ ∀ n : Int, 0 ≤ n → n ≤ N → lesser (toldF a t w n) (toldF a' t' w' n) = true :=
  ⟨fun hu n h0 _ => under_all h h' hu h0, under_of h h' hN ho⟩
theorem lesser_refl (x : Option Int) : lesser x x = true := by cases x <;> simp [lesser]
theorem lesser_antisymm {x y : Option Int} (h : lesser x y = true) (h' : lesser y x = true) : x = y := by
  cases x <;> cases y <;> simp_all [lesser] <;> omega
theorem lesser_trans {x y z : Option Int} (h : lesser x y = true) (h' : lesser y z = true) : lesser x z = true := by
  cases x <;> cases y <;> cases z <;> simp_all [lesser] <;> omega
theorem lesser_total (x y : Option Int) : lesser x y = true ∨ lesser y x = true := by
  cases x <;> cases y <;> simp [lesser] <;> omega
/-- what opens is at most -/
theorem opens_le {N : Int} (h : Ok3 a t w) (ha : ∀ x, a = some x → x ≤ N) (hN : 7 ≤ N) {o : Int} (e : opens a t w = some o) : o ≤ N := by
  unfold opens at e
  split at e
  · exact ha _ e
  · exact ha _ e
  · rename_i y
    have hy := h.w y rfl
    split at e
    · cases e; omega
    · rename_i x
      have hx := ha x rfl
      cases e
      split <;> omega
theorem told_bd (h : Ok3 a t w) {n x : Int} (hn : 0 ≤ n) (e : toldF a t w n = some x) : 0 ≤ x ∧ x ≤ 22 * n := by
  have hb : baseF t w n = some x := by
    unfold toldF at e
    split at e
    · split at e
      · cases e
      · exact e
    · exact e
  unfold baseF at hb
  split at hb
  · rename_i y z
    have hy := h.w y rfl
    have hz := h.t z rfl
    have := mul_small hz hy
    cases hb
    have h1 : 0 ≤ n / y := Int.ediv_nonneg hn (by omega)
    have h2 : n / y ≤ n := Int.ediv_le_self _ hn
    have h3 : 0 ≤ (z - 1) * y * (n / y) := Int.mul_nonneg this.1 h1
    have h4 : (z - 1) * y * (n / y) ≤ 21 * n := by
      refine Int.le_trans (Int.mul_le_mul_of_nonneg_right this.2 h1) ?_
      omega
    omega
  · cases hb; omega
end
end Ev

namespace Ev.B
open Ev
def b__law_wrong : Sx := .cons (.tri (.cons (.never) (.nil)) (.hcons [11] (.cons (.ret (.lst (.cons (.hcall 14) (.cons (.bi (.repr) (.cons (.xat 0) (.nil))) (.nil))))) (.nil)) (.hcons [22] (.cons (.ret (.lst (.cons (.str [109, 97, 110, 121]) (.cons (.bi (.repr) (.cons (.xat 1) (.nil))) (.nil))))) (.nil)) (.hnil)))) (.cons (.ret (.non)) (.nil))
def b__law_kind : Sx := .cons (.set 1 (.lst (.cons (.xis 12) (.cons (.xis 13) (.cons (.xis 14) (.nil)))))) (.cons (.set 1 (.bin (.add) (.var 1) (.lst (.cons (.xis 15) (.cons (.xis 16) (.cons (.xis 17) (.nil))))))) (.cons (.set 1 (.madd (.var 1) (.lst (.cons (.xis 18) (.cons (.xis 19) (.cons (.xis 20) (.nil))))))) (.cons (.expr (.bm (.append) (.var 1) (.cons (.xis 21) (.nil)))) (.cons (.set 2 (.lst (.cons (.str [110, 117, 109, 98, 101, 114]) (.cons (.str [110, 97, 109, 101]) (.cons (.str [112, 108, 97, 99, 101]) (.cons (.str [114, 117, 108, 101]) (.cons (.str [112, 108, 97, 110]) (.cons (.str [116, 101, 120, 116]) (.cons (.str [104, 97, 108, 108]) (.cons (.str [100, 101, 101, 100]) (.cons (.str [114, 117, 110]) (.cons (.str [102, 111, 114, 109]) (.nil))))))))))))) (.cons (.ret (.ite (.hcmp (.eq) (.bm (.count) (.var 1) (.cons (.bl true) (.nil))) (.int 1)) (.hix (.var 2) (.bm (.index) (.var 1) (.cons (.bl true) (.nil)))) (.str [111, 100, 100]))) (.nil))))))
def b__law_value : Sx := .cons (.ite (.and (.cmp (.isnot) (.var 0) (.non)) (.cmp (.ge) (.var 3) (.var 0))) (.cons (.ret (.non)) (.nil)) (.nil)) (.cons (.ite (.or (.cmp (.is) (.var 2) (.non)) (.cmp (.lt) (.var 3) (.var 2))) (.cons (.ret (.var 3)) (.nil)) (.nil)) (.cons (.ret (.ite (.cmp (.is) (.var 1) (.non)) (.non) (.bin (.add) (.var 3) (.bin (.mul) (.bin (.mul) (.bin (.sub) (.var 1) (.int 1)) (.var 2)) (.bin (.fdiv) (.var 3) (.var 2)))))) (.nil)))
def b__law_parts_drawn : Sx := .cons (.set 1 (.ix (.lst (.cons (.non) (.cons (.call 10 (.cons (.var 0) (.cons (.int 30) (.nil)))) (.cons (.call 10 (.cons (.var 0) (.cons (.int 9) (.nil)))) (.nil))))) (.call 10 (.cons (.var 0) (.cons (.int 3) (.nil)))))) (.cons (.ret (.mut (.lst (.cons (.var 1) (.cons (.ix (.lst (.cons (.non) (.cons (.int 1) (.cons (.int 2) (.cons (.int 3) (.cons (.int 4) (.nil))))))) (.call 10 (.cons (.var 0) (.cons (.int 5) (.nil))))) (.cons (.ix (.lst (.cons (.non) (.cons (.int 1) (.cons (.int 2) (.cons (.int 3) (.cons (.int 4) (.cons (.int 5) (.cons (.int 6) (.cons (.int 7) (.nil)))))))))) (.call 10 (.cons (.var 0) (.cons (.int 8) (.nil))))) (.nil))))))) (.nil))
def b__law_form : Sx := .cons (.ret (.make 5 (.cons (.ix (.var 0) (.int 0)) (.cons (.ix (.var 0) (.int 1)) (.cons (.ix (.var 0) (.int 2)) (.nil)))))) (.nil)
def b__law_great : Sx := .cons (.set 3 (.int 1)) (.cons (.for (.n 4) (.rng1 (.bin (.add) (.var 1) (.call 10 (.cons (.var 0) (.cons (.var 2) (.nil)))))) (.cons (.set 3 (.bin (.mul) (.var 3) (.int 10))) (.nil))) (.cons (.ret (.bin (.add) (.var 3) (.call 10 (.cons (.var 0) (.cons (.int 1000) (.nil)))))) (.nil)))
def b_law_k17 : Sx := .cons (.par [1, 2] (.cons (.call 9 (.cons (.var 0) (.nil))) (.cons (.lst (.cons (.str [103, 97, 116, 101]) (.cons (.str [116, 114, 105, 101, 115]) (.cons (.str [119, 105, 110, 100, 111, 119]) (.nil))))) (.nil)))) (.cons (.for (.n 3) (.rng1 (.int 12)) (.cons (.set 13 (.call 210 (.cons (.var 1) (.nil)))) (.cons (.set 11 (.call 211 (.cons (.var 13) (.nil)))) (.cons (.ite (.cmp (.ne) (.bi (.repr) (.cons (.lst (.cons (.attr (.var 11) 61) (.cons (.attr (.var 11) 10) (.cons (.attr (.var 11) 62) (.nil))))) (.nil))) (.bi (.repr) (.cons (.var 13) (.nil)))) (.cons (.ret (.bl false)) (.nil)) (.nil)) (.cons (.set 4 (.lc (.call 209 (.cons (.ix (.var 13) (.int 0)) (.cons (.ix (.var 13) (.int 1)) (.cons (.ix (.var 13) (.int 2)) (.cons (.var 14) (.nil)))))) (.n 14) (.rng1 (.int 41)) (.bl true) [14])) (.cons (.ite (.cmp (.ne) (.bi (.repr) (.cons (.lc (.ix (.var 11) (.var 14)) (.n 14) (.rng1 (.int 41)) (.bl true) [14]) (.nil))) (.bi (.repr) (.cons (.var 4) (.nil)))) (.cons (.ret (.bl false)) (.nil)) (.nil)) (.cons (.set 5 (.call 212 (.cons (.var 1) (.cons (.int 20) (.cons (.int 40) (.nil)))))) (.cons (.ite (.cmp (.ne) (.bi (.repr) (.cons (.ix (.var 11) (.var 5)) (.nil))) (.bi (.repr) (.cons (.call 209 (.cons (.ix (.var 13) (.int 0)) (.cons (.ix (.var 13) (.int 1)) (.cons (.ix (.var 13) (.int 2)) (.cons (.var 5) (.nil)))))) (.nil)))) (.cons (.ret (.bl false)) (.nil)) (.nil)) (.cons (.set 6 (.lc (.var 14) (.n 14) (.rng1 (.int 41)) (.cmp (.is) (.ix (.var 4) (.var 14)) (.non)) [14])) (.cons (.ite (.cmp (.ne) (.bi (.repr) (.cons (.attr (.var 11) 63) (.nil))) (.bi (.repr) (.cons (.ite (.cmp (.ne) (.var 6) (.lst (.nil))) (.ix (.var 6) (.int 0)) (.non)) (.nil)))) (.cons (.ret (.bl false)) (.nil)) (.nil)) (.cons (.set 7 (.mut (.lst (.cons (.call 11 (.cons (.var 1) (.cons (.lst (.cons (.neg (.int 1)) (.cons (.bl true) (.cons (.str [48]) (.cons (.tup (.cons (.int 0) (.nil))) (.cons (.lst (.cons (.int 1) (.nil))) (.nil))))))) (.nil)))) (.cons (.call 11 (.cons (.var 1) (.cons (.lst (.cons (.int 0) (.cons (.int 5) (.cons (.bl true) (.cons (.str [49]) (.cons (.neg (.int 1)) (.nil))))))) (.nil)))) (.nil)))))) (.cons (.expr (.bm (.append) (.var 7) (.cons (.call 11 (.cons (.var 1) (.cons (.lst (.cons (.int 0) (.cons (.int 8) (.cons (.bl true) (.cons (.str [49]) (.cons (.neg (.int 1)) (.nil))))))) (.nil)))) (.nil)))) (.cons (.par [8, 9] (.cons (.call 10 (.cons (.var 1) (.cons (.int 3) (.nil)))) (.cons (.call 10 (.cons (.var 1) (.cons (.int 3) (.nil)))) (.nil)))) (.cons (.for (.n 10) (.itv (.lst (.cons (.var 8) (.cons (.var 9) (.nil))))) (.cons (.setix (.var 13) (.var 10) (.ix (.var 7) (.var 10))) (.nil))) (.cons (.ite (.cmp (.ne) (.call 20000 (.cons (.var 13) (.nil))) (.lst (.cons (.str [102, 111, 114, 109]) (.cons (.bi (.repr) (.cons (.ix (.var 2) (.ite (.cmp (.lt) (.var 8) (.var 9)) (.var 8) (.var 9))) (.nil))) (.nil))))) (.cons (.ret (.bl false)) (.nil)) (.nil)) (.cons (.set 12 (.call 11 (.cons (.var 1) (.cons (.lst (.cons (.neg (.int 1)) (.cons (.bl true) (.cons (.non) (.cons (.str [49]) (.nil)))))) (.nil))))) (.cons (.ite (.cmp (.ne) (.call 20001 (.cons (.var 11) (.cons (.var 12) (.nil)))) (.lst (.cons (.str [110, 117, 109, 98, 101, 114]) (.cons (.bi (.repr) (.cons (.var 12) (.nil))) (.nil))))) (.cons (.ret (.bl false)) (.nil)) (.nil)) (.nil)))))))))))))))))) (.cons (.ret (.and (.cmp (.eq) (.make 5 (.nil)) (.make 5 (.cons (.non) (.cons (.int 1) (.cons (.non) (.nil)))))) (.and (.cmp (.is) (.attr (.make 5 (.nil)) 63) (.non)) (.cmp (.is) (.ix (.make 5 (.cons (.bin (.pow) (.int 10) (.int 50)) (.nil))) (.bin (.pow) (.int 10) (.int 50))) (.non))))) (.nil)))
def t17_0 : Th := ⟨15, [13], .call 211 (.cons (.var 13) (.nil)), 2, .hcons [11] (.cons (.ret (.lst (.cons (.hcall 14) (.cons (.bi (.repr) (.cons (.xat 0) (.nil))) (.nil))))) (.nil)) (.hcons [22] (.cons (.ret (.lst (.cons (.str [109, 97, 110, 121]) (.cons (.bi (.repr) (.cons (.xat 1) (.nil))) (.nil))))) (.nil)) (.hnil)), .cons (.ret (.non)) (.nil)⟩
def t17_1 : Th := ⟨15, [11, 12], .ix (.var 11) (.var 12), 2, .hcons [11] (.cons (.ret (.lst (.cons (.hcall 14) (.cons (.bi (.repr) (.cons (.xat 0) (.nil))) (.nil))))) (.nil)) (.hcons [22] (.cons (.ret (.lst (.cons (.str [109, 97, 110, 121]) (.cons (.bi (.repr) (.cons (.xat 1) (.nil))) (.nil))))) (.nil)) (.hnil)), .cons (.ret (.non)) (.nil)⟩
end Ev.B
namespace Ev
abbrev D__law_wrong : Df := ⟨2, 1, [], B.b__law_wrong, false, false, [], none, false⟩
abbrev D__law_kind : Df := ⟨3, 1, [], B.b__law_kind, false, false, [], none, true⟩
abbrev D__law_value : Df := ⟨4, 4, [], B.b__law_value, false, false, [], none, false⟩
abbrev D__law_parts_drawn : Df := ⟨2, 1, [], B.b__law_parts_drawn, true, false, [], none, false⟩
abbrev D__law_form : Df := ⟨1, 1, [], B.b__law_form, false, false, [], none, false⟩
abbrev D__law_great : Df := ⟨5, 3, [], B.b__law_great, false, false, [], none, false⟩
abbrev D_law_k17 : Df := ⟨15, 1, [], B.b_law_k17, false, false, [], none, false⟩
/-- what a law has of these -/
structure BK17_G (g : Gd) : Prop where
  d__law_wrong : g.df 13 = some D__law_wrong
  d__law_kind : g.df 14 = some D__law_kind
  d__law_value : g.df 209 = some D__law_value
  d__law_parts_drawn : g.df 210 = some D__law_parts_drawn
  d__law_form : g.df 211 = some D__law_form
  d__law_great : g.df 212 = some D__law_great
  d_law_k17 : g.df 213 = some D_law_k17
  th_20000 : g.thk 20000 = some B.t17_0
  td_20000 : g.df 20000 = none
  th_20001 : g.thk 20001 = some B.t17_1
  td_20001 : g.df 20001 = none
  xs_21_11 : g.xsub 21 11 = some true
  xs_21_22 : g.xsub 21 22 = some false
  xs_21_12 : g.xsub 21 12 = some false
  xs_21_13 : g.xsub 21 13 = some false
  xs_21_14 : g.xsub 21 14 = some false
  xs_21_15 : g.xsub 21 15 = some false
  xs_21_16 : g.xsub 21 16 = some false
  xs_21_17 : g.xsub 21 17 = some false
  xs_21_18 : g.xsub 21 18 = some false
  xs_21_19 : g.xsub 21 19 = some false
  xs_21_20 : g.xsub 21 20 = some false
  xs_21_21 : g.xsub 21 21 = some true
  xs_12_11 : g.xsub 12 11 = some true
  xs_12_22 : g.xsub 12 22 = some false
  xs_12_12 : g.xsub 12 12 = some true
  xs_12_13 : g.xsub 12 13 = some false
  xs_12_14 : g.xsub 12 14 = some false
  xs_12_15 : g.xsub 12 15 = some false
  xs_12_16 : g.xsub 12 16 = some false
  xs_12_17 : g.xsub 12 17 = some false
  xs_12_18 : g.xsub 12 18 = some false
  xs_12_19 : g.xsub 12 19 = some false
  xs_12_20 : g.xsub 12 20 = some false
  xs_12_21 : g.xsub 12 21 = some false
  xf_12 : g.xfld 12 = some 0
  xf_21 : g.xfld 21 = some 0
end Ev

set_option maxHeartbeats 0
/-! P17a: forms told, refused. -/
namespace Ev
namespace K17
local macro_rules | `(tactic| fail) => `(tactic| first
  | ((with_reducible apply v_var); (· rfl))
  | (with_reducible first
    | refine s_cons ?_ | refine s_nil ?_ | refine s_ite ?_ | refine s_ret ?_ | refine s_set ?_ | refine s_expr ?_ | refine s_setix ?_ | refine s_setfld ?_ | refine s_pass ?_ | refine s_retN ?_ | refine s_cont ?_ | refine s_brk ?_ | refine s_for ?_ | refine s_par ?_ | refine s_tset ?_ | refine l_rng1 ?_ | refine l_rng2 ?_ | refine l_lc ?_ | refine l_itv ?_
    | refine v_int ?_ | refine v_bl ?_ | refine v_non ?_ | refine v_str ?_ | refine l_cons ?_ | refine l_nil ?_ | refine l_lst ?_
    | refine v_bin ?_ | refine v_cmp ?_ | refine v_call ?_ | refine v_meth ?_ | refine v_attr ?_ | refine v_ix ?_ | refine v_sl ?_ | refine v_bi ?_ | refine v_bm ?_ | refine v_isi ?_ | refine v_make ?_ | refine v_callk ?_ | refine v_makek ?_ | refine v_calls ?_ | refine v_makes ?_
    | refine v_and ?_ | refine v_or ?_ | refine v_not ?_ | refine v_ite ?_ | refine v_cmp2 ?_ | refine v_neg ?_ | refine v_tup ?_ | refine v_dsp ?_ | refine v_lst ?_ | refine v_lc ?_ | refine v_mut ?_
    | refine t_not ?_ | refine t_and ?_ | refine t_or ?_ | refine t_ite ?_ | refine t_bi ?_
    | refine tru_bl ?_ | refine tru_int ?_ | refine tru_non ?_ | refine isB_i ?_ | refine isI_i ?_ | refine br_t ?_ | refine br_f ?_ | refine br_neg ?_
    | refine o_add ?_ | refine o_sub ?_ | refine c_lt ?_ | refine c_le ?_ | refine c_gt ?_ | refine c_ge ?_ | refine c_eqI ?_ | refine c_neI ?_ | refine c_eqB ?_ | refine c_neB ?_ | refine c_isN ?_ | refine c_isnotN ?_
    | refine p_none ?_ | refine p_some ?_ | refine sl_lst ?_ | refine sl_frz ?_ | refine sl_tup ?_ | refine fin_c ?_ | refine fin_k ?_ | refine b_int ?_ | refine b_abs ?_ | refine b_min2 ?_ | refine b_max2 ?_
    | refine br_Nn ?_ | refine br_Ni ?_ | refine br_Nb ?_ | refine br_Ns ?_ | refine br_Nt ?_ | refine br_Nl ?_ | refine br_No ?_)
  | ((with_reducible apply t_v); (· rfl))
  | ((with_reducible apply v_glob); (· first | rfl | assumption))
  | ((with_reducible apply l_itrC); (· rfl))
  | ((with_reducible apply l_itrR); (· rfl); (· assumption))
  | ((with_reducible apply clo_i); (· rfl))
  | ((with_reducible apply som_i); (· rfl))
  | ((with_reducible refine sd_i ?_ ?_); (· first | with_reducible rfl | decide | omega | (rw [ntLen]; omega) | (simp only [List.length_map, List.length_range]; first | decide | omega)))
  | ((with_reducible apply isM_i); (· first | rfl | assumption))
  | ((with_reducible apply o_mul); (· first | exact mul_r (by decide) | exact mul_l (by decide)))
  | ((with_reducible apply o_fdiv); (· first | decide | omega))
  | ((with_reducible apply o_mod); (· first | decide | omega))
  | ((with_reducible apply o_pow); (· decide))
  | ((with_reducible apply x_cell); (· first | assumption | (apply cell_set; assumption)); (· decide); (· rfl))
  | ((with_reducible apply x_lst); (· decide); (· rfl))
  | ((with_reducible apply x_tup); (· decide); (· rfl))
  | ((with_reducible apply st_ixS); (· assumption); (· decide); (· exact of_decide_eq_true rfl))
  | ((with_reducible apply st_ix); (· first | assumption | (apply cell_set; assumption)); (· decide); (· exact of_decide_eq_true rfl)))
local macro_rules | `(tactic| fail_if_success skip) => `(tactic| (with_reducible refine sat_eq (s_integer (by assumption) ..) ?_))
local macro_rules | `(tactic| fail_if_success skip) => `(tactic| (with_reducible refine sat_eq (s_between (by assumption) ..) ?_))
local macro_rules | `(tactic| fail_if_success skip) => `(tactic| (with_reducible refine sat_eq (s_count (by assumption) ..) ?_))
local macro_rules | `(tactic| fail_if_success skip) => `(tactic| (with_reducible refine sat_eq (s_lesser (by assumption) ..) ?_))
local macro_rules | `(tactic| fail_if_success skip) => `(tactic| (with_reducible refine f_g (by assumption) ?_))
local macro_rules | `(tactic| fail_if_success skip) => `(tactic| (with_reducible refine f_t (by assumption) ?_))
local macro_rules | `(tactic| fail_if_success skip) => `(tactic| (with_reducible refine f_w (by assumption) ?_))
local macro_rules | `(tactic| fail_if_success skip) => `(tactic| (with_reducible refine f_o (by assumption) ?_))
local macro_rules | `(tactic| fail_if_success skip) => `(tactic| (with_reducible refine f_os (by assumption) (by assumption) ?_))
local macro_rules | `(tactic| fail_if_success skip) => `(tactic| (with_reducible refine f_on (by assumption) (by assumption) ?_))
local macro_rules | `(tactic| fail_if_success skip) => `(tactic| (with_reducible refine f_gate (by assumption) ?_))
local macro_rules | `(tactic| fail_if_success skip) => `(tactic| (with_reducible refine f_tries (by assumption) ?_))
local macro_rules | `(tactic| fail_if_success skip) => `(tactic| (with_reducible refine f_window (by assumption) ?_))
local macro_rules | `(tactic| fail_if_success skip) => `(tactic| ((with_reducible refine s_tld (by assumption) ?_ _ ?_); (· assumption)))
local macro_rules | `(tactic| fail_if_success skip) => `(tactic| (with_reducible refine m_told (by assumption) ?_))
local macro_rules | `(tactic| fail_if_success skip) => `(tactic| (with_reducible refine m_period (by assumption) ?_))
local macro_rules | `(tactic| fail_if_success skip) => `(tactic| (with_reducible refine m_under (by assumption) ?_))
local macro_rules | `(tactic| fail_if_success skip) => `(tactic| (with_reducible refine sat_eq (s_period (by assumption) ..) ?_))
local macro_rules | `(tactic| fail_if_success skip) => `(tactic| (with_reducible refine kn_form (by assumption) ?_))
local macro_rules | `(tactic| fail_if_success skip) => `(tactic| ((with_reducible refine s_undr (by assumption) ?_ ?_ ?_ ?_); (· assumption); (· assumption); (· assumption)))
local macro_rules | `(tactic| fail_if_success skip) => `(tactic| ((with_reducible refine e_form (by assumption) ?_ ?_ ?_ ?_); (· assumption); (· assumption); (· assumption)))
local macro_rules | `(tactic| fail_if_success skip) => `(tactic| ((with_reducible refine n_form (by assumption) ?_ ?_ ?_ ?_); (· assumption); (· assumption); (· assumption)))
local macro_rules | `(tactic| fail_if_success skip) => `(tactic| ((with_reducible refine a_form (by assumption) ?_ ?_ ?_); (· assumption); (· assumption)))
local macro_rules | `(tactic| fail_if_success skip) => `(tactic| ((with_reducible refine sd_i ?_ ?_); (· rfl)))
local macro_rules | `(tactic| fail_if_success skip) => `(tactic| (with_reducible first | refine s_raise ?_ | refine v_madd ?_ | refine v_hcmp ?_ | refine v_hix ?_ | refine hc_eqI ?_))
section
variable {g : Gd} {fu k : Nat} {st : S} {E : Nat → C → S → Prop} {Q : W → S → Prop}
theorem br_tt {b : Bool} {A B : Prop} (hb : b = true) (h : A) : Br b A B := by subst hb; exact br_t h
theorem br_ff {b : Bool} {A B : Prop} (hb : b = false) (h : B) : Br b A B := by subst hb; exact br_f h
theorem sat_ex {α : Type} {r : Res α} {F : α → S → Prop} {c : Nat} {x : C} {s : S} (e : r = .ex c x s) (h : E c x s) : Sat r E F := by rw [e]; exact h
theorem ex_sat {α : Type} {r : Res α} {c : Nat} {x : C} {s : S} (z : Sat r (fun c' x' s' => c' = c ∧ x' = x ∧ s' = s) fun _ _ => False) : r = .ex c x s := by
  cases r with
  | ok a s => exact z.elim
  | ex c' x' s => obtain ⟨rfl, rfl, rfl⟩ := z; rfl
  | stuck => exact z.elim
def isI : C → Bool
  | .int _ => true | _ => false
def noIns : C → Bool
  | .ins _ _ _ => false | _ => true
theorem isint_ok (G : BForm_G g) {c : C} (hc : noIns c = true) : call g fu (k + 1) 0 [.c c] st = .ok (.c (.bl (isI c))) st := by
  refine call_pure (env := [some (.c c)]) G.d_places_is_integer rfl rfl rfl ?_
  unfold D_places_is_integer B.b_places_is_integer
  cases c <;> first | cases hc | skip
  all_goals (repeat (first | fail | fail_if_success skip))
  all_goals first | exact ⟨rfl, rfl⟩ | skip
def btw (lo hi : Int) : C → Bool
  | .int v => decide (lo ≤ v) && decide (v ≤ hi) | _ => false
theorem between_ok (G : BForm_G g) {c : C} {lo hi : Int} (hc : noIns c = true) : call g fu (k + 2) 1 [.c c, .c (.int lo), .c (.int hi)] st = .ok (.c (.bl (btw lo hi c))) st := by
  refine call_pure (env := [some (.c c), some (.c (.int lo)), some (.c (.int hi))]) G.d_places_is_between rfl rfl rfl ?_
  unfold D_places_is_between B.b_places_is_between
  (repeat (first | fail | fail_if_success skip))
  refine sat_eq (isint_ok G hc) ?_
  (repeat (first | fail | fail_if_success skip))
  cases c
  all_goals (repeat (first | fail | fail_if_success skip))
  all_goals first | exact ⟨rfl, rfl⟩ | (refine br_ff rfl ?_; (repeat (first | fail | fail_if_success skip)); exact ⟨rfl, rfl⟩) | skip
  refine br_tt rfl ?_
  (repeat (first | fail | fail_if_success skip))
  refine br_dec (fun h1 => ?_) fun h1 => ?_ <;> (repeat (first | fail | fail_if_success skip)) <;> exact ⟨by simp [btw, h1], rfl⟩
def cntF : C → Bool
  | .int v => decide (0 ≤ v) | _ => false
theorem count_ok (G : BForm_G g) {c : C} (hc : noIns c = true) : call g fu (k + 2) 2 [.c c] st = .ok (.c (.bl (cntF c))) st := by
  refine call_pure (env := [some (.c c)]) G.d_places_is_count rfl rfl rfl ?_
  unfold D_places_is_count B.b_places_is_count
  (repeat (first | fail | fail_if_success skip))
  refine sat_eq (isint_ok G hc) ?_
  (repeat (first | fail | fail_if_success skip))
  cases c
  all_goals (repeat (first | fail | fail_if_success skip))
  all_goals first | exact ⟨rfl, rfl⟩ | (refine br_ff rfl ?_; (repeat (first | fail | fail_if_success skip)); exact ⟨rfl, rfl⟩) | skip
  refine br_tt rfl ?_
  (repeat (first | fail | fail_if_success skip))
  exact ⟨rfl, rfl⟩
abbrev wGate : List Nat := [103, 97, 116, 101]
abbrev wTries : List Nat := [116, 114, 105, 101, 115]
abbrev wWindow : List Nat := [119, 105, 110, 100, 111, 119]
def isN : C → Bool
  | .non => true | _ => false
/-- the first part that is not allowed -/
def badOf (p q r : C) : Option (List Nat) :=
  if !isN p && !cntF p then some wGate else if !isN q && !btw 1 4 q then some wTries else if !isN r && !btw 1 7 r then some wWindow else none
theorem br_isN {c : C} {A B : Prop} (h1 : isN c = true → A) (h2 : isN c = false → B) : Br (isNon (.c c)) A B := by
  cases c <;> first | exact br_t (h1 rfl) | exact br_f (h2 rfl)
theorem init_bad (G : BForm_G g) {p q r : C} {wd : List Nat} (hp : noIns p = true) (hq : noIns q = true) (hr : noIns r = true) (h : badOf p q r = some wd) : call g fu (k + 3) 197 [.r st.length, .c p, .c q, .c r] (st ++ [some (.ins 5 [] [])]) = .ex 21 (.str wd) (st ++ [some (.ins 5 [] [])]) := by
  refine ex_sat (call_go (env := [some (.r st.length), some (.c p), some (.c q), some (.c r)]) G.d_Form___init__ rfl rfl rfl ?_ fun c x s z => by
    obtain ⟨rfl, rfl, rfl⟩ := z; exact ⟨rfl, rfl, List.take_length⟩)
  unfold D_Form___init__ B.b_Form___init__
  have hg := G.co_14
  have hg' := G.co_15
  unfold badOf at h
  let En : Env := [some (.r st.length), some (.c p), some (.c q), some (.c r)]
  refine s_cut (fun e s => e = En ∧ s = st ++ [some (.ins 5 [] [])] ∧ (!isN p && !cntF p) = false) ?_ ?_
  · (repeat (first | fail | fail_if_success skip))
    refine br_isN (fun z => ?_) fun z => ?_
    · (repeat (first | fail | fail_if_success skip))
      exact ⟨rfl, rfl, by simp [z]⟩
    · (repeat (first | fail | fail_if_success skip))
      refine sat_eq (count_ok G hp) ?_
      (repeat (first | fail | fail_if_success skip))
      refine br_all (fun z2 => ?_) fun z2 => ?_
      · (repeat (first | fail | fail_if_success skip))
        exact ⟨rfl, rfl, by simp [z2]⟩
      · (repeat (first | fail | fail_if_success skip))
        rw [if_pos (by simp [z, z2])] at h
        cases h
        exact ⟨_, rfl, rfl, rfl, rfl⟩
  rintro _ _ ⟨rfl, rfl, e1⟩
  rw [if_neg (by simp [e1])] at h
  refine s_cut (fun e s => e = En ∧ s = st ++ [some (.ins 5 [] [])] ∧ (!isN q && !btw 1 4 q) = false) ?_ ?_
  · (repeat (first | fail | fail_if_success skip))
    refine br_isN (fun z => ?_) fun z => ?_
    · (repeat (first | fail | fail_if_success skip))
      exact ⟨rfl, rfl, by simp [z]⟩
    · (repeat (first | fail | fail_if_success skip))
      refine sat_eq (between_ok G hq) ?_
      (repeat (first | fail | fail_if_success skip))
      refine br_all (fun z2 => ?_) fun z2 => ?_
      · (repeat (first | fail | fail_if_success skip))
        exact ⟨rfl, rfl, by simp [z2]⟩
      · (repeat (first | fail | fail_if_success skip))
        rw [if_pos (by simp [z, z2])] at h
        cases h
        exact ⟨_, rfl, rfl, rfl, rfl⟩
  rintro _ _ ⟨rfl, rfl, e2⟩
  rw [if_neg (by simp [e2])] at h
  refine s_cut (fun e s => False) ?_ fun _ _ z => z.elim
  (repeat (first | fail | fail_if_success skip))
  refine br_isN (fun z => ?_) fun z => ?_
  · rw [if_neg (by simp [z])] at h; cases h
  · (repeat (first | fail | fail_if_success skip))
    refine sat_eq (between_ok G hr) ?_
    (repeat (first | fail | fail_if_success skip))
    refine br_all (fun z2 => ?_) fun z2 => ?_
    · rw [if_neg (by simp [z2])] at h; cases h
    · (repeat (first | fail | fail_if_success skip))
      rw [if_pos (by simp [z, z2])] at h
      cases h
      exact ⟨_, rfl, rfl, rfl, rfl⟩
theorem mk_bad (G : BForm_G g) {p q r : C} {wd : List Nat} (hp : noIns p = true) (hq : noIns q = true) (hr : noIns r = true) (h : badOf p q r = some wd) : mk g (call g fu (k + 3)) 5 [.c p, .c q, .c r] st = .ex 21 (.str wd) st := by
  unfold mk
  rw [G.inits_Form]
  unfold mkf
  dsimp only
  rw [init_bad G hp hq hr h]
  show Res.ex 21 (.str wd) ((st ++ [_]).take st.length) = _
  rw [List.take_left]
theorem lform_bad (G : BForm_G g) (V : BK17_G g) {p q r : C} {wd : List Nat} {n : Nat} (hc : cellAt st n = some (.lst [.c p, .c q, .c r])) (hp : noIns p = true) (hq : noIns q = true) (hr : noIns r = true) (h : badOf p q r = some wd) : call g fu (k + 4) 211 [.r n] st = .ex 21 (.str wd) st := by
  refine ex_sat (call_go (env := [some (.r n)]) V.d__law_form rfl rfl rfl ?_ fun c x s z => by
    obtain ⟨rfl, rfl, rfl⟩ := z; exact ⟨rfl, rfl, List.take_length⟩)
  unfold D__law_form B.b__law_form
  (repeat (first | fail | fail_if_success skip))
  refine sat_ex (mk_bad G hp hq hr h) ?_
  exact ⟨rfl, rfl, rfl⟩
theorem lform_good (G : BForm_G g) (V : BK17_G g) {a t w : Option Int} {n : Nat} (hc : cellAt st n = some (.lst [.c (oC a), .c (oC t), .c (oC w)])) (h : Ok3 a t w) : call g fu (k + 4) 211 [.r n] st = .ok (.c (form a t w)) st := by
  refine call_pure (env := [some (.r n)]) V.d__law_form rfl rfl rfl ?_
  unfold D__law_form B.b__law_form
  (repeat (first | fail | fail_if_success skip))
  refine mk_form G h (fun _ _ _ z => z) ?_
  (repeat (first | fail | fail_if_success skip))
  exact ⟨rfl, rfl⟩
theorem item_bad (G : BForm_G g) {a t w : Option Int} {c : C} (hc : noIns c = true) (hb : cntF c = false) : call g fu (k + 3) 203 [.c (form a t w), .c c] st = .ex 12 c st := by
  refine ex_sat (call_go (env := [some (.c (form a t w)), some (.c c)]) G.d_Form___getitem__ rfl rfl rfl ?_ fun c x s z => by
    obtain ⟨rfl, rfl, rfl⟩ := z; exact ⟨rfl, rfl, List.take_length⟩)
  unfold D_Form___getitem__ B.b_Form___getitem__
  (repeat (first | fail | fail_if_success skip))
  refine sat_eq (count_ok G hc) ?_
  (repeat (first | fail | fail_if_success skip))
  refine br_ff hb ?_
  (repeat (first | fail | fail_if_success skip))
  exact ⟨_, rfl, rfl, rfl, rfl⟩
/-- a great number: 10 to the so manieth and a bit -/
theorem great_ok (G : BDraw_G g) (V : BK17_G g) {n : Nat} (h : Src st n) (hq : ∀ (i : Int) st', 1 ≤ i → i < 10 ^ 62 → Src st' n → Oth n st st' → Q (.c (.int i)) st') : Sat (call g fu (k + 2) 212 [.r n, .c (.int 20), .c (.int 40)] st) E Q := by
  refine sat_no (P := fun v s => ∃ i : Int, v = .c (.int i) ∧ 1 ≤ i ∧ i < 10 ^ 62 ∧ Src s n ∧ Oth n st s) ?_ fun v s ⟨i, e, h1, h2, h3, h4⟩ => by subst e; exact hq i s h1 h2 h3 h4
  refine call_go (env := [some (.r n), some (.c (.int 20)), some (.c (.int 40)), none, none]) V.d__law_great rfl rfl rfl ?_ fun _ _ _ h => h
  unfold D__law_great B.b__law_great
  refine s_cut (fun e s => e = [some (.r n), some (.c (.int 20)), some (.c (.int 40)), some (.c (.int 1)), none] ∧ s = st) ?_ ?_
  · (repeat (first | fail | fail_if_success skip))
    exact ⟨rfl, rfl⟩
  rintro _ st ⟨rfl, rfl⟩
  refine s_cut (fun e s => ∃ (i : Int) (x4 : Option W), e = [some (.r n), some (.c (.int 20)), some (.c (.int 40)), some (.c (.int i)), x4] ∧ 1 ≤ i ∧ i ≤ 10 ^ 60 ∧ Src s n ∧ Oth n st s) ?_ ?_
  · (repeat (first | fail | fail_if_success skip))
    refine draw_ok G h (by omega) fun d s1 h1 h2 hs ho => ?_
    (repeat (first | fail | fail_if_success skip))
    refine for_inv (fun ws e s => s = s1 ∧ ∃ (i : Int) (x4 : Option W), e = [some (.r n), some (.c (.int 20)), some (.c (.int 40)), some (.c (.int i)), x4] ∧ 1 ≤ i ∧ i * 10 ^ ws.length ≤ 10 ^ 60) _ _ _ ⟨rfl, 1, _, rfl, by omega, ?_⟩ ?_ ?_
    · rw [ntLen, Int.one_mul]
      have := Nat.pow_le_pow_right (show 0 < 10 by decide) (show (20 + d).toNat ≤ 60 by omega)
      have h2 : ((10 ^ (20 + d).toNat : Nat) : Int) ≤ ((10 ^ 60 : Nat) : Int) := Int.ofNat_le.mpr this
      rw [Int.natCast_pow] at h2
      exact h2
    · rintro tn ws _ _ ⟨rfl, i, x4, rfl, hi, hb⟩
      refine ⟨_, rfl, ?_⟩
      (repeat (first | fail | fail_if_success skip))
      refine ⟨rfl, _, _, rfl, by omega, ?_⟩
      rw [List.length_cons, Int.pow_succ] at hb
      rw [Int.mul_assoc, Int.mul_comm 10]
      exact hb
    · rintro _ _ ⟨rfl, i, x4, rfl, hi, hb⟩
      exact ⟨i, x4, rfl, hi, by simpa using hb, hs, ho⟩
  rintro _ s1 ⟨i, x4, rfl, h1, h2, hs, ho⟩
  (repeat (first | fail | fail_if_success skip))
  refine draw_ok G hs (by omega) fun d s2 h3 h4 hs2 ho2 => ?_
  (repeat (first | fail | fail_if_success skip))
  have o := ho.trans ho2
  have hz : s2.take st.length = s2 := by rw [← o.1]; exact List.take_length
  rw [hz]
  exact ⟨_, rfl, by omega, by omega, hs2, o⟩
end
end K17
end Ev

set_option maxHeartbeats 0
/-! P17b: what is told of a refusal. -/
namespace Ev
namespace K17
local macro_rules | `(tactic| fail) => `(tactic| first
  | ((with_reducible apply v_var); (· rfl))
  | (with_reducible first
    | refine s_cons ?_ | refine s_nil ?_ | refine s_ite ?_ | refine s_ret ?_ | refine s_set ?_ | refine s_expr ?_ | refine s_setix ?_ | refine s_setfld ?_ | refine s_pass ?_ | refine s_retN ?_ | refine s_cont ?_ | refine s_brk ?_ | refine s_for ?_ | refine s_par ?_ | refine s_tset ?_ | refine l_rng1 ?_ | refine l_rng2 ?_ | refine l_lc ?_ | refine l_itv ?_
    | refine v_int ?_ | refine v_bl ?_ | refine v_non ?_ | refine v_str ?_ | refine l_cons ?_ | refine l_nil ?_ | refine l_lst ?_
    | refine v_bin ?_ | refine v_cmp ?_ | refine v_call ?_ | refine v_meth ?_ | refine v_attr ?_ | refine v_ix ?_ | refine v_sl ?_ | refine v_bi ?_ | refine v_bm ?_ | refine v_isi ?_ | refine v_make ?_ | refine v_callk ?_ | refine v_makek ?_ | refine v_calls ?_ | refine v_makes ?_
    | refine v_and ?_ | refine v_or ?_ | refine v_not ?_ | refine v_ite ?_ | refine v_cmp2 ?_ | refine v_neg ?_ | refine v_tup ?_ | refine v_dsp ?_ | refine v_lst ?_ | refine v_lc ?_ | refine v_mut ?_
    | refine t_not ?_ | refine t_and ?_ | refine t_or ?_ | refine t_ite ?_ | refine t_bi ?_
    | refine tru_bl ?_ | refine tru_int ?_ | refine tru_non ?_ | refine isB_i ?_ | refine isI_i ?_ | refine br_t ?_ | refine br_f ?_ | refine br_neg ?_
    | refine o_add ?_ | refine o_sub ?_ | refine c_lt ?_ | refine c_le ?_ | refine c_gt ?_ | refine c_ge ?_ | refine c_eqI ?_ | refine c_neI ?_ | refine c_eqB ?_ | refine c_neB ?_ | refine c_isN ?_ | refine c_isnotN ?_
    | refine p_none ?_ | refine p_some ?_ | refine sl_lst ?_ | refine sl_frz ?_ | refine sl_tup ?_ | refine fin_c ?_ | refine fin_k ?_ | refine b_int ?_ | refine b_abs ?_ | refine b_min2 ?_ | refine b_max2 ?_
    | refine br_Nn ?_ | refine br_Ni ?_ | refine br_Nb ?_ | refine br_Ns ?_ | refine br_Nt ?_ | refine br_Nl ?_ | refine br_No ?_)
  | ((with_reducible apply t_v); (· rfl))
  | ((with_reducible apply v_glob); (· first | rfl | assumption))
  | ((with_reducible apply l_itrC); (· rfl))
  | ((with_reducible apply l_itrR); (· rfl); (· assumption))
  | ((with_reducible apply clo_i); (· rfl))
  | ((with_reducible apply som_i); (· rfl))
  | ((with_reducible refine sd_i ?_ ?_); (· first | with_reducible rfl | decide | omega | (rw [ntLen]; omega) | (simp only [List.length_map, List.length_range]; first | decide | omega)))
  | ((with_reducible apply isM_i); (· first | rfl | assumption))
  | ((with_reducible apply o_mul); (· first | exact mul_r (by decide) | exact mul_l (by decide)))
  | ((with_reducible apply o_fdiv); (· first | decide | omega))
  | ((with_reducible apply o_mod); (· first | decide | omega))
  | ((with_reducible apply o_pow); (· decide))
  | ((with_reducible apply x_cell); (· first | assumption | (apply cell_set; assumption)); (· decide); (· rfl))
  | ((with_reducible apply x_lst); (· decide); (· rfl))
  | ((with_reducible apply x_tup); (· decide); (· rfl))
  | ((with_reducible apply st_ixS); (· assumption); (· decide); (· exact of_decide_eq_true rfl))
  | ((with_reducible apply st_ix); (· first | assumption | (apply cell_set; assumption)); (· decide); (· exact of_decide_eq_true rfl)))
local macro_rules | `(tactic| fail_if_success skip) => `(tactic| (with_reducible refine sat_eq (s_integer (by assumption) ..) ?_))
local macro_rules | `(tactic| fail_if_success skip) => `(tactic| (with_reducible refine sat_eq (s_between (by assumption) ..) ?_))
local macro_rules | `(tactic| fail_if_success skip) => `(tactic| (with_reducible refine sat_eq (s_count (by assumption) ..) ?_))
local macro_rules | `(tactic| fail_if_success skip) => `(tactic| (with_reducible refine sat_eq (s_lesser (by assumption) ..) ?_))
local macro_rules | `(tactic| fail_if_success skip) => `(tactic| (with_reducible refine f_g (by assumption) ?_))
local macro_rules | `(tactic| fail_if_success skip) => `(tactic| (with_reducible refine f_t (by assumption) ?_))
local macro_rules | `(tactic| fail_if_success skip) => `(tactic| (with_reducible refine f_w (by assumption) ?_))
local macro_rules | `(tactic| fail_if_success skip) => `(tactic| (with_reducible refine f_o (by assumption) ?_))
local macro_rules | `(tactic| fail_if_success skip) => `(tactic| (with_reducible refine f_os (by assumption) (by assumption) ?_))
local macro_rules | `(tactic| fail_if_success skip) => `(tactic| (with_reducible refine f_on (by assumption) (by assumption) ?_))
local macro_rules | `(tactic| fail_if_success skip) => `(tactic| (with_reducible refine f_gate (by assumption) ?_))
local macro_rules | `(tactic| fail_if_success skip) => `(tactic| (with_reducible refine f_tries (by assumption) ?_))
local macro_rules | `(tactic| fail_if_success skip) => `(tactic| (with_reducible refine f_window (by assumption) ?_))
local macro_rules | `(tactic| fail_if_success skip) => `(tactic| ((with_reducible refine s_tld (by assumption) ?_ _ ?_); (· assumption)))
local macro_rules | `(tactic| fail_if_success skip) => `(tactic| (with_reducible refine m_told (by assumption) ?_))
local macro_rules | `(tactic| fail_if_success skip) => `(tactic| (with_reducible refine m_period (by assumption) ?_))
local macro_rules | `(tactic| fail_if_success skip) => `(tactic| (with_reducible refine m_under (by assumption) ?_))
local macro_rules | `(tactic| fail_if_success skip) => `(tactic| (with_reducible refine sat_eq (s_period (by assumption) ..) ?_))
local macro_rules | `(tactic| fail_if_success skip) => `(tactic| (with_reducible refine kn_form (by assumption) ?_))
local macro_rules | `(tactic| fail_if_success skip) => `(tactic| ((with_reducible refine s_undr (by assumption) ?_ ?_ ?_ ?_); (· assumption); (· assumption); (· assumption)))
local macro_rules | `(tactic| fail_if_success skip) => `(tactic| ((with_reducible refine e_form (by assumption) ?_ ?_ ?_ ?_); (· assumption); (· assumption); (· assumption)))
local macro_rules | `(tactic| fail_if_success skip) => `(tactic| ((with_reducible refine n_form (by assumption) ?_ ?_ ?_ ?_); (· assumption); (· assumption); (· assumption)))
local macro_rules | `(tactic| fail_if_success skip) => `(tactic| ((with_reducible refine a_form (by assumption) ?_ ?_ ?_); (· assumption); (· assumption)))
local macro_rules | `(tactic| fail_if_success skip) => `(tactic| ((with_reducible refine sd_i ?_ ?_); (· rfl)))
local macro_rules | `(tactic| fail_if_success skip) => `(tactic| (with_reducible first | refine s_raise ?_ | refine v_madd ?_ | refine v_hcmp ?_ | refine v_hix ?_ | refine hc_eqI ?_))
local macro_rules | `(tactic| fail_if_success skip) => `(tactic| ((with_reducible refine br_ff ?_ ?_); (· first | rfl | decide)))
local macro_rules | `(tactic| fail_if_success skip) => `(tactic| ((with_reducible refine br_tt ?_ ?_); (· first | rfl | decide)))
local macro_rules | `(tactic| fail_if_success skip) => `(tactic| ((with_reducible apply v_xis); (· rfl); (· assumption)))
local macro_rules | `(tactic| fail_if_success skip) => `(tactic| ((with_reducible apply v_xat); (· rfl); (· assumption)))
local macro_rules | `(tactic| fail_if_success skip) => `(tactic| ((with_reducible apply v_hcall); (· rfl)))
local macro_rules | `(tactic| fail_if_success skip) => `(tactic| ((with_reducible refine o_madd ?_ ?_); (· decide)))
local macro_rules | `(tactic| fail_if_success skip) => `(tactic| ((with_reducible refine o_addL ?_ ?_); (· decide)))
section
variable {g : Gd} {fu k : Nat} {st : S} {E : Nat → C → S → Prop} {Q : W → S → Prop}
theorem cell_top {x : Cell} : cellAt (st ++ [some x]) st.length = some x := by unfold cellAt; simp
theorem set_top {x y : Cell} : setCell (st ++ [some x]) st.length y = st ++ [some y] := by unfold setCell; simp
theorem isL_top {ws : List W} : isL (st ++ [some (.lst ws)]) (.r st.length) = true := by
  simp only [isL, listW, cell_top, Option.isSome_some]
theorem dat_top {cs : List C} {ws : List W} (h : clo ws = some cs) : dat (st ++ [some (.lst ws)]) (.r st.length) = some (.lst cs) := by
  simp only [dat, cell_top, h, Option.map_some]
theorem bm_appT {xs : List W} {c : C} (hl : xs.length < 16777216) (h : Q (.c .non) (st ++ [some (.lst (xs ++ [.c c]))])) : Sat (bmeth .append (.r st.length) [.c c] (st ++ [some (.lst xs)])) E Q := by
  unfold bmeth bmAppend
  simp only [cell_top, if_pos hl, closeW, set_top]
  exact h
theorem bm_cntT {ws : List W} {cs : List C} {n : Nat} (hc : clo ws = some cs) (h1 : (shp (.lst cs) && shp (.bl true)) = true) (hn : (cs.countP fun x => eqC x (.bl true)) = n) (h : Q (.c (.int n)) (st ++ [some (.lst ws)])) : Sat (bmeth .count (.r st.length) [.c (.bl true)] (st ++ [some (.lst ws)])) E Q := by
  unfold bmeth bmCount
  have e : dat (st ++ [some (.lst ws)]) (.c (.bl true)) = some (.bl true) := rfl
  simp only [dat_top hc, e, if_pos h1, hn]
  exact h
theorem bm_idxT {ws : List W} {cs : List C} {n : Nat} (hc : clo ws = some cs) (h1 : (shp (.lst cs) && shp (.bl true)) = true) (hn : idxOf (.bl true) cs 0 = some n) (h : Q (.c (.int n)) (st ++ [some (.lst ws)])) : Sat (bmeth .index (.r st.length) [.c (.bl true)] (st ++ [some (.lst ws)])) E Q := by
  unfold bmeth bmIndex
  have e : dat (st ++ [some (.lst ws)]) (.c (.bl true)) = some (.bl true) := rfl
  simp only [dat_top hc, e, if_pos h1, hn]
  exact h
abbrev sForm : List Nat := [102, 111, 114, 109]
abbrev sNumber : List Nat := [110, 117, 109, 98, 101, 114]
theorem kind_form (G : BK17_G g) {x : C} : call g fu (k + 1) 14 [.c (.tup [.int 21, x])] st = .ok (.c (.str sForm)) st := by
  refine eq_sat (call_hot G.d__law_kind rfl ?_ (fun _ _ _ z => z))
  unfold D__law_kind B.b__law_kind
  have h1 := G.xs_21_12
  have h2 := G.xs_21_13
  have h3 := G.xs_21_14
  have h4 := G.xs_21_15
  have h5 := G.xs_21_16
  have h6 := G.xs_21_17
  have h7 := G.xs_21_18
  have h8 := G.xs_21_19
  have h9 := G.xs_21_20
  have h10 := G.xs_21_21
  (repeat (first | fail | fail_if_success skip))
  refine sd_i isL_top ?_
  (repeat (first | fail | fail_if_success skip))
  refine bm_appT (by decide) ?_
  (repeat (first | fail | fail_if_success skip))
  refine sd_i isL_top ?_
  (repeat (first | fail | fail_if_success skip))
  refine bm_cntT (n := 1) rfl (by decide +kernel) rfl ?_
  (repeat (first | fail | fail_if_success skip))
  refine sd_i isL_top ?_
  (repeat (first | fail | fail_if_success skip))
  refine bm_idxT (n := 9) rfl (by decide +kernel) rfl ?_
  refine hx_lst (by decide) rfl ?_
  (repeat (first | fail | fail_if_success skip))
  exact ⟨rfl, List.take_left⟩
theorem kind_number (G : BK17_G g) {x : C} : call g fu (k + 1) 14 [.c (.tup [.int 12, x])] st = .ok (.c (.str sNumber)) st := by
  refine eq_sat (call_hot G.d__law_kind rfl ?_ (fun _ _ _ z => z))
  unfold D__law_kind B.b__law_kind
  have h1 := G.xs_12_12
  have h2 := G.xs_12_13
  have h3 := G.xs_12_14
  have h4 := G.xs_12_15
  have h5 := G.xs_12_16
  have h6 := G.xs_12_17
  have h7 := G.xs_12_18
  have h8 := G.xs_12_19
  have h9 := G.xs_12_20
  have h10 := G.xs_12_21
  (repeat (first | fail | fail_if_success skip))
  refine sd_i isL_top ?_
  (repeat (first | fail | fail_if_success skip))
  refine bm_appT (by decide) ?_
  (repeat (first | fail | fail_if_success skip))
  refine sd_i isL_top ?_
  (repeat (first | fail | fail_if_success skip))
  refine bm_cntT (n := 1) rfl (by decide +kernel) rfl ?_
  (repeat (first | fail | fail_if_success skip))
  refine sd_i isL_top ?_
  (repeat (first | fail | fail_if_success skip))
  refine bm_idxT (n := 0) rfl (by decide +kernel) rfl ?_
  refine hx_lst (by decide) rfl ?_
  (repeat (first | fail | fail_if_success skip))
  exact ⟨rfl, List.take_left⟩
theorem xm {c : Nat} (h : g.xsub c 11 = some true) : xmatch g c [11] = some true := by unfold xmatch; rw [h]
abbrev words : List (List Nat) := [wGate, wTries, wWindow]
theorem repr_word {cl : Cl} {wd : List Nat} (h : wd ∈ words) (q : Q (.c (.str (shownC (.str wd)))) st) : Sat (bfn g cl .repr [.c (.str wd)] st) E Q := by
  simp only [List.mem_cons, List.not_mem_nil, or_false] at h
  rcases h with rfl | rfl | rfl
  all_goals exact b_repr (by decide +kernel) (by decide +kernel) q
theorem badOf_word {p q r : C} {wd : List Nat} (h : badOf p q r = some wd) : wd ∈ words := by
  unfold badOf at h
  split at h
  · cases h; simp
  · split at h
    · cases h; simp
    · split at h
      · cases h; simp
      · cases h
theorem thk0 (F : BForm_G g) (G : BK17_G g) {p q r : C} {wd : List Nat} {n : Nat} (hc : cellAt st n = some (.lst [.c p, .c q, .c r])) (hp : noIns p = true) (hq : noIns q = true) (hr : noIns r = true) (h : badOf p q r = some wd) :
    call g fu (k + 5) 20000 [.r n] st = .ok (.c (.lst [.str sForm, .str (shownC (.str wd))])) st := by
  refine eq_sat (call_thk (env := [none, none, none, none, none, none, none, none, none, none, none, none, none, some (.r n), none]) G.td_20000 G.th_20000 rfl ?_ (fun _ _ _ z => z))
  unfold B.t17_0
  dsimp only
  have h1 := G.xf_21
  (repeat (first | fail | fail_if_success skip))
  refine sat_ex (lform_bad F G hc hp hq hr h) ?_
  refine s_hcons_t (c := 21) (x := .str wd) rfl (xm G.xs_21_11) ?_
  (repeat (first | fail | fail_if_success skip))
  refine sat_eq (kind_form G) ?_
  (repeat (first | fail | fail_if_success skip))
  refine repr_word (badOf_word h) ?_
  (repeat (first | fail | fail_if_success skip))
  exact ⟨rfl, List.take_length⟩
abbrev bads : List C := [.int (-1), .bl true, .non, .str [49]]
theorem repr_bad {cl : Cl} {c : C} (h : c ∈ bads) (q : Q (.c (.str (shownC c))) st) : Sat (bfn g cl .repr [.c c] st) E Q := by
  simp only [List.mem_cons, List.not_mem_nil, or_false] at h
  rcases h with rfl | rfl | rfl | rfl
  all_goals exact b_repr (by decide +kernel) (by decide +kernel) q
theorem bad_f {c : C} (h : c ∈ bads) : noIns c = true ∧ cntF c = false := by
  simp only [List.mem_cons, List.not_mem_nil, or_false] at h
  rcases h with rfl | rfl | rfl | rfl
  all_goals exact ⟨rfl, rfl⟩
theorem thk1 (F : BForm_G g) (G : BK17_G g) {a t w : Option Int} {c : C} (hc : c ∈ bads) : call g fu (k + 5) 20001 [.c (form a t w), .c c] st = .ok (.c (.lst [.str sNumber, .str (shownC c)])) st := by
  refine eq_sat (call_thk (env := [none, none, none, none, none, none, none, none, none, none, none, some (.c (form a t w)), some (.c c), none, none]) G.td_20001 G.th_20001 rfl ?_ (fun _ _ _ z => z))
  unfold B.t17_1
  dsimp only
  have h1 := G.xf_12
  (repeat (first | fail | fail_if_success skip))
  refine x_own rfl F.gets_Form (sat_ex (item_bad F (bad_f hc).1 (bad_f hc).2) ?_)
  refine s_hcons_t (c := 12) (x := c) rfl (xm G.xs_12_11) ?_
  (repeat (first | fail | fail_if_success skip))
  refine sat_eq (kind_number G) ?_
  (repeat (first | fail | fail_if_success skip))
  refine repr_bad hc ?_
  (repeat (first | fail | fail_if_success skip))
  exact ⟨rfl, List.take_length⟩
end
end K17
end Ev

set_option maxHeartbeats 0
/-! P17c: what the law reckons. -/
namespace Ev
namespace K17
local macro_rules | `(tactic| fail) => `(tactic| first
  | ((with_reducible apply v_var); (· rfl))
  | (with_reducible first
    | refine s_cons ?_ | refine s_nil ?_ | refine s_ite ?_ | refine s_ret ?_ | refine s_set ?_ | refine s_expr ?_ | refine s_setix ?_ | refine s_setfld ?_ | refine s_pass ?_ | refine s_retN ?_ | refine s_cont ?_ | refine s_brk ?_ | refine s_for ?_ | refine s_par ?_ | refine s_tset ?_ | refine l_rng1 ?_ | refine l_rng2 ?_ | refine l_lc ?_ | refine l_itv ?_
    | refine v_int ?_ | refine v_bl ?_ | refine v_non ?_ | refine v_str ?_ | refine l_cons ?_ | refine l_nil ?_ | refine l_lst ?_
    | refine v_bin ?_ | refine v_cmp ?_ | refine v_call ?_ | refine v_meth ?_ | refine v_attr ?_ | refine v_ix ?_ | refine v_sl ?_ | refine v_bi ?_ | refine v_bm ?_ | refine v_isi ?_ | refine v_make ?_ | refine v_callk ?_ | refine v_makek ?_ | refine v_calls ?_ | refine v_makes ?_
    | refine v_and ?_ | refine v_or ?_ | refine v_not ?_ | refine v_ite ?_ | refine v_cmp2 ?_ | refine v_neg ?_ | refine v_tup ?_ | refine v_dsp ?_ | refine v_lst ?_ | refine v_lc ?_ | refine v_mut ?_
    | refine t_not ?_ | refine t_and ?_ | refine t_or ?_ | refine t_ite ?_ | refine t_bi ?_
    | refine tru_bl ?_ | refine tru_int ?_ | refine tru_non ?_ | refine isB_i ?_ | refine isI_i ?_ | refine br_t ?_ | refine br_f ?_ | refine br_neg ?_
    | refine o_add ?_ | refine o_sub ?_ | refine c_lt ?_ | refine c_le ?_ | refine c_gt ?_ | refine c_ge ?_ | refine c_eqI ?_ | refine c_neI ?_ | refine c_eqB ?_ | refine c_neB ?_ | refine c_isN ?_ | refine c_isnotN ?_
    | refine p_none ?_ | refine p_some ?_ | refine sl_lst ?_ | refine sl_frz ?_ | refine sl_tup ?_ | refine fin_c ?_ | refine fin_k ?_ | refine b_int ?_ | refine b_abs ?_ | refine b_min2 ?_ | refine b_max2 ?_
    | refine br_Nn ?_ | refine br_Ni ?_ | refine br_Nb ?_ | refine br_Ns ?_ | refine br_Nt ?_ | refine br_Nl ?_ | refine br_No ?_)
  | ((with_reducible apply t_v); (· rfl))
  | ((with_reducible apply v_glob); (· first | rfl | assumption))
  | ((with_reducible apply l_itrC); (· rfl))
  | ((with_reducible apply l_itrR); (· rfl); (· assumption))
  | ((with_reducible apply clo_i); (· rfl))
  | ((with_reducible apply som_i); (· rfl))
  | ((with_reducible refine sd_i ?_ ?_); (· first | with_reducible rfl | decide | omega | (rw [ntLen]; omega) | (simp only [List.length_map, List.length_range]; first | decide | omega)))
  | ((with_reducible apply isM_i); (· first | rfl | assumption))
  | ((with_reducible apply o_mul); (· first | exact mul_r (by decide) | exact mul_l (by decide)))
  | ((with_reducible apply o_fdiv); (· first | decide | omega))
  | ((with_reducible apply o_mod); (· first | decide | omega))
  | ((with_reducible apply o_pow); (· decide))
  | ((with_reducible apply x_cell); (· first | assumption | (apply cell_set; assumption)); (· decide); (· rfl))
  | ((with_reducible apply x_lst); (· decide); (· rfl))
  | ((with_reducible apply x_tup); (· decide); (· rfl))
  | ((with_reducible apply st_ixS); (· assumption); (· decide); (· exact of_decide_eq_true rfl))
  | ((with_reducible apply st_ix); (· first | assumption | (apply cell_set; assumption)); (· decide); (· exact of_decide_eq_true rfl)))
local macro_rules | `(tactic| fail_if_success skip) => `(tactic| (with_reducible refine sat_eq (s_integer (by assumption) ..) ?_))
local macro_rules | `(tactic| fail_if_success skip) => `(tactic| (with_reducible refine sat_eq (s_between (by assumption) ..) ?_))
local macro_rules | `(tactic| fail_if_success skip) => `(tactic| (with_reducible refine sat_eq (s_count (by assumption) ..) ?_))
local macro_rules | `(tactic| fail_if_success skip) => `(tactic| (with_reducible refine sat_eq (s_lesser (by assumption) ..) ?_))
local macro_rules | `(tactic| fail_if_success skip) => `(tactic| (with_reducible refine f_g (by assumption) ?_))
local macro_rules | `(tactic| fail_if_success skip) => `(tactic| (with_reducible refine f_t (by assumption) ?_))
local macro_rules | `(tactic| fail_if_success skip) => `(tactic| (with_reducible refine f_w (by assumption) ?_))
local macro_rules | `(tactic| fail_if_success skip) => `(tactic| (with_reducible refine f_o (by assumption) ?_))
local macro_rules | `(tactic| fail_if_success skip) => `(tactic| (with_reducible refine f_os (by assumption) (by assumption) ?_))
local macro_rules | `(tactic| fail_if_success skip) => `(tactic| (with_reducible refine f_on (by assumption) (by assumption) ?_))
local macro_rules | `(tactic| fail_if_success skip) => `(tactic| (with_reducible refine f_gate (by assumption) ?_))
local macro_rules | `(tactic| fail_if_success skip) => `(tactic| (with_reducible refine f_tries (by assumption) ?_))
local macro_rules | `(tactic| fail_if_success skip) => `(tactic| (with_reducible refine f_window (by assumption) ?_))
local macro_rules | `(tactic| fail_if_success skip) => `(tactic| ((with_reducible refine s_tld (by assumption) ?_ _ ?_); (· assumption)))
local macro_rules | `(tactic| fail_if_success skip) => `(tactic| (with_reducible refine m_told (by assumption) ?_))
local macro_rules | `(tactic| fail_if_success skip) => `(tactic| (with_reducible refine m_period (by assumption) ?_))
local macro_rules | `(tactic| fail_if_success skip) => `(tactic| (with_reducible refine m_under (by assumption) ?_))
local macro_rules | `(tactic| fail_if_success skip) => `(tactic| (with_reducible refine sat_eq (s_period (by assumption) ..) ?_))
local macro_rules | `(tactic| fail_if_success skip) => `(tactic| (with_reducible refine kn_form (by assumption) ?_))
local macro_rules | `(tactic| fail_if_success skip) => `(tactic| ((with_reducible refine s_undr (by assumption) ?_ ?_ ?_ ?_); (· assumption); (· assumption); (· assumption)))
local macro_rules | `(tactic| fail_if_success skip) => `(tactic| ((with_reducible refine e_form (by assumption) ?_ ?_ ?_ ?_); (· assumption); (· assumption); (· assumption)))
local macro_rules | `(tactic| fail_if_success skip) => `(tactic| ((with_reducible refine n_form (by assumption) ?_ ?_ ?_ ?_); (· assumption); (· assumption); (· assumption)))
local macro_rules | `(tactic| fail_if_success skip) => `(tactic| ((with_reducible refine a_form (by assumption) ?_ ?_ ?_); (· assumption); (· assumption)))
section
variable {g : Gd} {fu k : Nat} {st : S} {E : Nat → C → S → Prop} {Q : W → S → Prop} {a t w : Option Int}
theorem s_value (V : BK17_G g) (h : Ok3 a t w) {n : Int} (hn : 0 ≤ n) : call g fu (k + 1) 209 [.c (oC a), .c (oC t), .c (oC w), .c (.int n)] st = .ok (.c (oC (toldF a t w n))) st := by
  refine call_pure (env := [some (.c (oC a)), some (.c (oC t)), some (.c (oC w)), some (.c (.int n))]) V.d__law_value rfl rfl rfl ?_
  unfold D__law_value B.b__law_value
  refine s_cut (fun e s => e = [some (.c (oC a)), some (.c (oC t)), some (.c (oC w)), some (.c (.int n))] ∧ s = st ∧ ∀ x, a = some x → n < x) ?_ ?_
  · cases a with
    | none => (repeat (first | fail | fail_if_success skip)); exact ⟨rfl, rfl, fun _ e => by cases e⟩
    | some x =>
      (repeat (first | fail | fail_if_success skip))
      refine br_dec (fun q => ?_) fun q => ?_ <;> (repeat (first | fail | fail_if_success skip))
      · refine ⟨?_, rfl⟩
        have : opens (some x) t w = some x ∨ ∃ o, opens (some x) t w = some o ∧ o ≤ n := by
          unfold opens
          split
          · exact .inl rfl
          · exact .inl rfl
          · right; exact ⟨_, rfl, by split <;> omega⟩
        rcases this with e | ⟨o, e, ho⟩
        · rw [told_open e q]
        · rw [told_open e ho]
      · exact ⟨rfl, rfl, fun y e => by cases e; omega⟩
  rintro _ s1 ⟨rfl, rfl, ha⟩
  cases w with
  | none =>
    (repeat (first | fail | fail_if_success skip))
    rw [told_base (by intro o e; exact ha o e)]
    cases t <;> exact ⟨rfl, rfl⟩
  | some y =>
    have hy := h.w y rfl
    (repeat (first | fail | fail_if_success skip))
    refine br_dec (fun q => ?_) fun q => ?_
    · (repeat (first | fail | fail_if_success skip))
      have ho : ∀ o, opens a t (some y) = some o → n < o := fun o e => by
        unfold opens at e
        split at e
        · exact ha _ e
        · exact ha _ e
        · rename_i z hz
          cases hz
          split at e
          · cases e; omega
          · rename_i x
            have := ha x rfl
            cases e
            split <;> omega
      rw [told_base ho, baseF_eq]
      have hq : n / y = 0 := Int.ediv_eq_zero_of_lt hn q
      cases t with
      | none => simp [cF, perF]
      | some x => simp [cF, perF, hq]
    · (repeat (first | fail | fail_if_success skip))
      cases t with
      | none =>
        (repeat (first | fail | fail_if_success skip))
        have : ∃ o, opens a none (some y) = some o ∧ o ≤ n := by
          unfold opens
          cases a with
          | none => exact ⟨_, rfl, by omega⟩
          | some x => exact ⟨_, rfl, by split <;> omega⟩
        obtain ⟨o, e, ho⟩ := this
        rw [told_open e ho]
        exact ⟨rfl, rfl⟩
      | some x =>
        have hx := h.t x rfl
        have hm := mul_small hx hy
        (repeat (first | fail | fail_if_success skip))
        refine o_mul (mul_r (small64_of (by omega) (by omega))) ?_
        (repeat (first | fail | fail_if_success skip))
        refine o_mul (mul_l (small64_of (by omega) (by omega))) ?_
        (repeat (first | fail | fail_if_success skip))
        rw [told_base (by intro o e; exact ha o e)]
        exact ⟨rfl, rfl⟩
theorem s_val (V : BK17_G g) (h : Ok3 a t w) {n : Int} (hn : 0 ≤ n) (hq : Q (.c (oC (toldF a t w n))) st) : Sat (call g fu (k + 1) 209 [.c (oC a), .c (oC t), .c (oC w), .c (.int n)] st) E Q := sat_eq (s_value V h hn) hq

theorem src_push {n : Nat} {x : Option Cell} (h : Src st n) : Src (st ++ [x]) n := by
  obtain ⟨cs, p, c, s, hc, h1, h2⟩ := h
  refine ⟨cs, p, c, s, ?_, h1, h2⟩
  have := cell_lt hc
  unfold cellAt at hc ⊢
  rwa [List.getElem?_append_left this]
abbrev cel (a t w : Option Int) : Cell := .lst [.c (oC a), .c (oC t), .c (oC w)]
theorem parts_ok (G : BDraw_G g) (V : BK17_G g) {n : Nat} (h : Src st n) (hq : ∀ a t w st', Ok3 a t w → (∀ x, a = some x → x < 30) → Src st' n → st'.length = st.length → Q (.r st'.length) (st' ++ [some (cel a t w)])) : Sat (call g fu (k + 2) 210 [.r n] st) E Q := by
  refine sat_no (P := fun v s => ∃ a t w st', v = .r st'.length ∧ s = st' ++ [some (cel a t w)] ∧ Ok3 a t w ∧ (∀ x, a = some x → x < 30) ∧ Src st' n ∧ st'.length = st.length) ?_ fun v s ⟨a, t, w, st', e, e2, h1, h2, h3, h4⟩ => by subst e; subst e2; exact hq a t w st' h1 h2 h3 h4
  refine call_go (env := [some (.r n), none]) V.d__law_parts_drawn rfl rfl rfl ?_ fun _ _ _ h => h
  unfold D__law_parts_drawn B.b__law_parts_drawn
  (repeat (first | fail | fail_if_success skip))
  refine draw_ok G h (by omega) fun d1 s1 a1 b1 h1 o1 => ?_
  (repeat (first | fail | fail_if_success skip))
  refine draw_ok G h1 (by omega) fun d2 s2 a2 b2 h2 o2 => ?_
  (repeat (first | fail | fail_if_success skip))
  refine draw_ok G h2 (by omega) fun d3 s3 a3 b3 h3 o3 => ?_
  refine x_any a3 b3 fun c hc => ?_
  have hg : ∃ a, c = oC a ∧ (∀ x, a = some x → 0 ≤ x ∧ x < 30) := by
    simp only [List.mem_cons, List.not_mem_nil, or_false] at hc
    rcases hc with rfl | rfl | rfl
    · exact ⟨none, rfl, fun _ e => by cases e⟩
    · exact ⟨some d1, rfl, fun _ e => by cases e; exact ⟨a1, b1⟩⟩
    · exact ⟨some d2, rfl, fun _ e => by cases e; exact ⟨a2, by omega⟩⟩
  obtain ⟨a, rfl, ha⟩ := hg
  (repeat (first | fail | fail_if_success skip))
  refine draw_ok G h3 (by omega) fun d4 s4 a4 b4 h4 o4 => ?_
  refine x_any a4 b4 fun c hc => ?_
  have hg : ∃ t, c = oC t ∧ (∀ x, t = some x → 1 ≤ x ∧ x ≤ 4) := by
    simp only [List.mem_cons, List.not_mem_nil, or_false] at hc
    rcases hc with rfl | rfl | rfl | rfl | rfl
    · exact ⟨none, rfl, fun _ e => by cases e⟩
    all_goals exact ⟨some _, rfl, fun _ e => by cases e; omega⟩
  obtain ⟨t, rfl, ht⟩ := hg
  (repeat (first | fail | fail_if_success skip))
  refine draw_ok G h4 (by omega) fun d5 s5 a5 b5 h5 o5 => ?_
  refine x_any a5 b5 fun c hc => ?_
  have hg : ∃ w, c = oC w ∧ (∀ x, w = some x → 1 ≤ x ∧ x ≤ 7) := by
    simp only [List.mem_cons, List.not_mem_nil, or_false] at hc
    rcases hc with rfl | rfl | rfl | rfl | rfl | rfl | rfl | rfl
    · exact ⟨none, rfl, fun _ e => by cases e⟩
    all_goals exact ⟨some _, rfl, fun _ e => by cases e; omega⟩
  obtain ⟨w, rfl, hw⟩ := hg
  (repeat (first | fail | fail_if_success skip))
  have o := o1.trans (o2.trans (o3.trans (o4.trans o5)))
  exact ⟨a, t, w, s5, rfl, rfl, ⟨fun x e => (ha x e).1, ht, hw⟩, fun x e => (ha x e).2, h5, o.1⟩
/-! ### loops over a few things, cells -/
theorem for_cons {lk : S → Bool} {tg : Tg} {b : Env → S → Res Fl} {x : W} {ws : List W} {env env' : Env} {F : Fl → S → Prop} (hb : bindTg st tg x env = some env') (hl : lk st = true)
    (h : Sat (b env' st) E fun f s1 => match f with | .nx e1 => Sat (forGo lk tg b ws e1 s1) E F | .ct e1 => Sat (forGo lk tg b ws e1 s1) E F | .bk e1 => F (.nx e1) s1 | .rt v => F (.rt v) s1) : Sat (forGo lk tg b (x :: ws) env st) E F := by
  unfold forGo
  rw [hb, hl]
  refine sat_bind (sat_mono h fun f s1 h => ?_)
  cases f <;> exact h
theorem for_nil {lk : S → Bool} {tg : Tg} {b : Env → S → Res Fl} {env : Env} {F : Fl → S → Prop} (hl : lk st = true) (h : F (.nx env) st) : Sat (forGo lk tg b [] env st) E F := by
  unfold forGo
  rw [if_pos hl]; exact h
theorem cell_ne {n m : Nat} {x : Cell} (h : m ≠ n) : cellAt (setCell st n x) m = cellAt st m := by
  unfold cellAt setCell
  rw [List.getElem?_set_ne (Ne.symm h)]
theorem cell_oth {n m : Nat} {s' : S} (o : Oth n st s') (h : m ≠ n) : cellAt s' m = cellAt st m := by
  unfold cellAt
  rw [o.2 m h]
theorem bm_app {xs : List W} {c : C} {n : Nat} (hc : cellAt st n = some (.lst xs)) (hl : xs.length < 16777216) (h : Q (.c .non) (setCell st n (.lst (xs ++ [.c c])))) : Sat (bmeth .append (.r n) [.c c] st) E Q := by
  unfold bmeth bmAppend
  simp only [hc, if_pos hl, closeW]
  exact h
theorem isL_r {xs : List W} {n : Nat} (hc : cellAt st n = some (.lst xs)) : isL st (.r n) = true := by
  simp only [isL, listW, hc, Option.isSome_some]
theorem dat_r {xs : List W} {cs : List C} {n : Nat} (hc : cellAt st n = some (.lst xs)) (e : clo xs = some cs) : dat st (.r n) = some (.lst cs) := by
  simp only [dat, hc, e, Option.map_some]
theorem b_reprR {g : Gd} {cl : Cl} {n : Nat} {c : C} (hd : dat st (.r n) = some c) (h1 : shp c = true) (h2 : showB c = true) (h : Q (.c (.str (shownC c))) st) : Sat (bfn g cl .repr [.r n] st) E Q := by
  show Sat (reprF [.r n] st) E Q
  unfold reprF
  simp only [hd, h1, h2, Bool.and_self, if_true]
  exact h
theorem src_set {n m : Nat} {x : Cell} (h : Src st n) (hm : n ≠ m) : Src (setCell st m x) n := by
  obtain ⟨cs, p, c, s, hc, h1, h2⟩ := h
  exact ⟨cs, p, c, s, by rw [cell_ne hm]; exact hc, h1, h2⟩
/-- Form() -/
theorem init_dfl (F : BForm_G g) {n : Nat} {s : S} : call g fu (k + 3) 197 [.r n] s = call g fu (k + 3) 197 [.r n, .c .non, .c (.int 1), .c .non] s := by
  unfold call
  rw [F.d_Form___init__]
  rfl
theorem init_dfl1 (F : BForm_G g) {n : Nat} {x : W} {s : S} : call g fu (k + 3) 197 [.r n, x] s = call g fu (k + 3) 197 [.r n, x, .c (.int 1), .c .non] s := by
  unfold call
  rw [F.d_Form___init__]
  rfl
theorem mk_dfl (F : BForm_G g) : mk g (call g fu (k + 3)) 5 [] st = mk g (call g fu (k + 3)) 5 [.c .non, .c (.int 1), .c .non] st := by
  unfold mk
  rw [F.inits_Form]
  dsimp only
  unfold mkf
  rw [init_dfl F]
theorem mk_dfl1 (F : BForm_G g) {x : W} : mk g (call g fu (k + 3)) 5 [x] st = mk g (call g fu (k + 3)) 5 [x, .c (.int 1), .c .non] st := by
  unfold mk
  rw [F.inits_Form]
  dsimp only
  unfold mkf
  rw [init_dfl1 F]
end
end K17
end Ev

set_option maxHeartbeats 0
/-! P17: the law of forms made and told. -/
namespace Ev
namespace K17
local macro_rules | `(tactic| fail) => `(tactic| first
  | ((with_reducible apply v_var); (· rfl))
  | (with_reducible first
    | refine s_cons ?_ | refine s_nil ?_ | refine s_ite ?_ | refine s_ret ?_ | refine s_set ?_ | refine s_expr ?_ | refine s_setix ?_ | refine s_setfld ?_ | refine s_pass ?_ | refine s_retN ?_ | refine s_cont ?_ | refine s_brk ?_ | refine s_for ?_ | refine s_par ?_ | refine s_tset ?_ | refine l_rng1 ?_ | refine l_rng2 ?_ | refine l_lc ?_ | refine l_itv ?_
    | refine v_int ?_ | refine v_bl ?_ | refine v_non ?_ | refine v_str ?_ | refine l_cons ?_ | refine l_nil ?_ | refine l_lst ?_
    | refine v_bin ?_ | refine v_cmp ?_ | refine v_call ?_ | refine v_meth ?_ | refine v_attr ?_ | refine v_ix ?_ | refine v_sl ?_ | refine v_bi ?_ | refine v_bm ?_ | refine v_isi ?_ | refine v_make ?_ | refine v_callk ?_ | refine v_makek ?_ | refine v_calls ?_ | refine v_makes ?_
    | refine v_and ?_ | refine v_or ?_ | refine v_not ?_ | refine v_ite ?_ | refine v_cmp2 ?_ | refine v_neg ?_ | refine v_tup ?_ | refine v_dsp ?_ | refine v_lst ?_ | refine v_lc ?_ | refine v_mut ?_
    | refine t_not ?_ | refine t_and ?_ | refine t_or ?_ | refine t_ite ?_ | refine t_bi ?_
    | refine tru_bl ?_ | refine tru_int ?_ | refine tru_non ?_ | refine isB_i ?_ | refine isI_i ?_ | refine br_t ?_ | refine br_f ?_ | refine br_neg ?_
    | refine o_add ?_ | refine o_sub ?_ | refine c_lt ?_ | refine c_le ?_ | refine c_gt ?_ | refine c_ge ?_ | refine c_eqI ?_ | refine c_neI ?_ | refine c_eqB ?_ | refine c_neB ?_ | refine c_isN ?_ | refine c_isnotN ?_
    | refine p_none ?_ | refine p_some ?_ | refine sl_lst ?_ | refine sl_frz ?_ | refine sl_tup ?_ | refine fin_c ?_ | refine fin_k ?_ | refine b_int ?_ | refine b_abs ?_ | refine b_min2 ?_ | refine b_max2 ?_
    | refine br_Nn ?_ | refine br_Ni ?_ | refine br_Nb ?_ | refine br_Ns ?_ | refine br_Nt ?_ | refine br_Nl ?_ | refine br_No ?_)
  | ((with_reducible apply t_v); (· rfl))
  | ((with_reducible apply v_glob); (· first | rfl | assumption))
  | ((with_reducible apply l_itrC); (· rfl))
  | ((with_reducible apply l_itrR); (· rfl); (· assumption))
  | ((with_reducible apply clo_i); (· rfl))
  | ((with_reducible apply som_i); (· rfl))
  | ((with_reducible refine sd_i ?_ ?_); (· first | with_reducible rfl | decide | omega | (rw [ntLen]; omega) | (simp only [List.length_map, List.length_range]; first | decide | omega)))
  | ((with_reducible apply isM_i); (· first | rfl | assumption))
  | ((with_reducible apply o_mul); (· first | exact mul_r (by decide) | exact mul_l (by decide)))
  | ((with_reducible apply o_fdiv); (· first | decide | omega))
  | ((with_reducible apply o_mod); (· first | decide | omega))
  | ((with_reducible apply o_pow); (· decide))
  | ((with_reducible apply x_cell); (· first | assumption | (apply cell_set; assumption)); (· decide); (· rfl))
  | ((with_reducible apply x_lst); (· decide); (· rfl))
  | ((with_reducible apply x_tup); (· decide); (· rfl))
  | ((with_reducible apply st_ixS); (· assumption); (· decide); (· exact of_decide_eq_true rfl))
  | ((with_reducible apply st_ix); (· first | assumption | (apply cell_set; assumption)); (· decide); (· exact of_decide_eq_true rfl)))
local macro_rules | `(tactic| fail_if_success skip) => `(tactic| (with_reducible refine sat_eq (s_integer (by assumption) ..) ?_))
local macro_rules | `(tactic| fail_if_success skip) => `(tactic| (with_reducible refine sat_eq (s_between (by assumption) ..) ?_))
local macro_rules | `(tactic| fail_if_success skip) => `(tactic| (with_reducible refine sat_eq (s_count (by assumption) ..) ?_))
local macro_rules | `(tactic| fail_if_success skip) => `(tactic| (with_reducible refine sat_eq (s_lesser (by assumption) ..) ?_))
local macro_rules | `(tactic| fail_if_success skip) => `(tactic| (with_reducible refine f_g (by assumption) ?_))
local macro_rules | `(tactic| fail_if_success skip) => `(tactic| (with_reducible refine f_t (by assumption) ?_))
local macro_rules | `(tactic| fail_if_success skip) => `(tactic| (with_reducible refine f_w (by assumption) ?_))
local macro_rules | `(tactic| fail_if_success skip) => `(tactic| (with_reducible refine f_o (by assumption) ?_))
local macro_rules | `(tactic| fail_if_success skip) => `(tactic| (with_reducible refine f_os (by assumption) (by assumption) ?_))
local macro_rules | `(tactic| fail_if_success skip) => `(tactic| (with_reducible refine f_on (by assumption) (by assumption) ?_))
local macro_rules | `(tactic| fail_if_success skip) => `(tactic| (with_reducible refine f_gate (by assumption) ?_))
local macro_rules | `(tactic| fail_if_success skip) => `(tactic| (with_reducible refine f_tries (by assumption) ?_))
local macro_rules | `(tactic| fail_if_success skip) => `(tactic| (with_reducible refine f_window (by assumption) ?_))
local macro_rules | `(tactic| fail_if_success skip) => `(tactic| ((with_reducible refine s_tld (by assumption) ?_ _ ?_); (· assumption)))
local macro_rules | `(tactic| fail_if_success skip) => `(tactic| (with_reducible refine m_told (by assumption) ?_))
local macro_rules | `(tactic| fail_if_success skip) => `(tactic| (with_reducible refine m_period (by assumption) ?_))
local macro_rules | `(tactic| fail_if_success skip) => `(tactic| (with_reducible refine m_under (by assumption) ?_))
local macro_rules | `(tactic| fail_if_success skip) => `(tactic| (with_reducible refine sat_eq (s_period (by assumption) ..) ?_))
local macro_rules | `(tactic| fail_if_success skip) => `(tactic| (with_reducible refine kn_form (by assumption) ?_))
local macro_rules | `(tactic| fail_if_success skip) => `(tactic| ((with_reducible refine s_undr (by assumption) ?_ ?_ ?_ ?_); (· assumption); (· assumption); (· assumption)))
local macro_rules | `(tactic| fail_if_success skip) => `(tactic| ((with_reducible refine e_form (by assumption) ?_ ?_ ?_ ?_); (· assumption); (· assumption); (· assumption)))
local macro_rules | `(tactic| fail_if_success skip) => `(tactic| ((with_reducible refine n_form (by assumption) ?_ ?_ ?_ ?_); (· assumption); (· assumption); (· assumption)))
local macro_rules | `(tactic| fail_if_success skip) => `(tactic| ((with_reducible refine a_form (by assumption) ?_ ?_ ?_); (· assumption); (· assumption)))
local macro_rules | `(tactic| fail_if_success skip) => `(tactic| ((with_reducible refine o_addL ?_ ?_); (· decide)))
section
variable {g : Gd} {fu k : Nat} {st : S} {E : Nat → C → S → Prop} {Q : W → S → Prop} {a t w : Option Int}
theorem eqC_l (x y : List Nat) : eqC (.lst [.str x, .str y]) (.lst [.str x, .str y]) = true := by
  simp [eqC, toD, toDs, PySem.PyData.eqv, PySem.PyData.eqvAll]
theorem ne_l {cl : Cl} {x y : List Nat} (hs : shp (.lst [.str x, .str y]) = true) (h : Q (.c (.bl false)) st) : Sat (cmpop g cl .ne (.c (.lst [.str x, .str y])) (.c (.lst [.str x, .str y])) st) E Q := c_ne trivial trivial hs hs (by rw [eqC_l]; exact h)
theorem ne_sh {cl : Cl} {c : C} (hs : shp c = true) (h : Q (.c (.bl false)) st) : Sat (cmpop g cl .ne (.c (.str (shownC c))) (.c (.str (shownC c))) st) E Q := n_shown hs hs (by rw [decide_eq_true rfl]; exact h)
abbrev pool0 : List C := [.int (-1), .bl true, .str [48], .tup [.int 0], .lst [.int 1]]
abbrev pool1 : List C := [.int 0, .int 5, .bl true, .str [49], .int (-1)]
abbrev pool2 : List C := [.int 0, .int 8, .bl true, .str [49], .int (-1)]
theorem p0 {c : C} (h : c ∈ pool0) : noIns c = true ∧ (!isN c && !cntF c) = true := by
  simp only [List.mem_cons, List.not_mem_nil, or_false] at h
  rcases h with rfl | rfl | rfl | rfl | rfl <;> exact ⟨rfl, rfl⟩
theorem p1 {c : C} (h : c ∈ pool1) : noIns c = true ∧ (!isN c && !btw 1 4 c) = true := by
  simp only [List.mem_cons, List.not_mem_nil, or_false] at h
  rcases h with rfl | rfl | rfl | rfl | rfl <;> exact ⟨rfl, rfl⟩
theorem p2 {c : C} (h : c ∈ pool2) : noIns c = true ∧ (!isN c && !btw 1 7 c) = true := by
  simp only [List.mem_cons, List.not_mem_nil, or_false] at h
  rcases h with rfl | rfl | rfl | rfl | rfl <;> exact ⟨rfl, rfl⟩
theorem noI_oC {x : Option Int} : noIns (oC x) = true := by cases x <;> rfl
theorem good0 (h : Ok3 a t w) : (!isN (oC a) && !cntF (oC a)) = false := by
  cases a with
  | none => rfl
  | some x => have := h.g x rfl; simp [isN, cntF, this]
theorem good1 (h : Ok3 a t w) : (!isN (oC t) && !btw 1 4 (oC t)) = false := by
  cases t with
  | none => rfl
  | some x => have := h.t x rfl; simp [isN, btw, this]
theorem good2 (h : Ok3 a t w) : (!isN (oC w) && !btw 1 7 (oC w)) = false := by
  cases w with
  | none => rfl
  | some x => have := h.w x rfl; simp [isN, btw, this]
theorem sh_oC {x : Option Int} {m : Nat} (hm : 0 < m) (hm2 : m ≤ 400) (hx : ∀ y, x = some y → 0 ≤ y ∧ y < 10 ^ m) : ShB 59 (m + 5) (oC x) := by
  cases x with
  | none => exact shB_mono shB_non (by omega)
  | some y =>
    obtain ⟨h1, h2⟩ := hx y rfl
    refine shB_mono (shB_int (k := m) hm (by omega) ?_) (by omega)
    have h3 : ((y.natAbs : Nat) : Int) < ((10 ^ m : Nat) : Int) := by
      rw [Int.natCast_pow]
      have : ((y.natAbs : Nat) : Int) = y := Int.natAbs_of_nonneg h1
      rw [this]; exact h2
    exact Int.ofNat_lt.mp h3
theorem up {d n : Nat} {c : C} (h : ShB 59 n c) (hp : ∀ x, c = oC x → ShB 60 n c) : True := trivial
theorem sh60 {x : Option Int} {n : Nat} (h : ShB 59 n (oC x)) : ShB 60 n (oC x) := ⟨by cases x <;> rfl, h.2⟩
theorem sh_told (h : Ok3 a t w) {n : Int} {m : Nat} (hn : 0 ≤ n) (hb : 22 * n < 10 ^ m) (hm : 0 < m) (hm2 : m ≤ 400) : ShB 59 (m + 5) (oC (toldF a t w n)) :=
  sh_oC hm hm2 fun y e => by have := told_bd h hn e; omega
theorem sh_list {f : Int → C} {m : Nat} (h : ∀ n : Nat, n < 41 → ShB 59 m (f n)) : ShB 60 (41 * (m + 2) + 3) (.lst ((List.range 41).map fun (n : Nat) => f n)) := by
  have z : ShA 59 (((List.range 41).map fun (n : Nat) => f n).length * (m + 2)) ((List.range 41).map fun (n : Nat) => f n) := shA_all fun c hc => by
    obtain ⟨n, hn, rfl⟩ := List.mem_map.mp hc
    exact h n (List.mem_range.mp hn)
  rw [List.length_map, List.length_range] at z
  exact shB_lst z
theorem sh_parts (h : Ok3 a t w) (ha : ∀ x, a = some x → x < 30) : ShB 60 30 (.lst [oC a, oC t, oC w]) := by
  have h1 : ShB 59 7 (oC a) := sh_oC (m := 2) (by decide) (by decide) fun y e => ⟨h.g y e, by have := ha y e; omega⟩
  have h2 : ShB 59 7 (oC t) := sh_oC (m := 2) (by decide) (by decide) fun y e => by have := h.t y e; omega
  have h3 : ShB 59 7 (oC w) := sh_oC (m := 2) (by decide) (by decide) fun y e => by have := h.w y e; omega
  exact shB_mono (shB_lst (shA_cons h1 (shA_cons h2 (shA_cons h3 shA_nil)))) (by omega)
theorem base_some (t w : Option Int) (n : Int) : ∃ y, baseF t w n = some y := by
  unfold baseF
  split <;> exact ⟨_, rfl⟩
theorem none_iff {n : Int} : isNon (.c (oC (toldF a t w n))) = (match opens a t w with | some o => decide (o ≤ n) | none => false) := by
  unfold toldF
  obtain ⟨y, e⟩ := base_some t w n
  cases opens a t w with
  | none => rw [e]; rfl
  | some o =>
    dsimp only
    by_cases h : o ≤ n
    · rw [if_pos h, decide_eq_true h]; rfl
    · rw [if_neg h, decide_eq_false h, e]; rfl
theorem flt_at : ∀ o : _root_.Fin 41, ∃ l, (List.range 41).filter (fun (n : Nat) => decide (o.val ≤ n)) = o.val :: l := by
  intro o
  have h : ∀ o : _root_.Fin 41, ((List.range 41).filter (fun (n : Nat) => decide (o.val ≤ n))).head? = some o.val := by decide +kernel
  have := h o
  cases q : (List.range 41).filter (fun (n : Nat) => decide (o.val ≤ n)) with
  | nil => rw [q] at this; cases this
  | cons x l => rw [q] at this; cases this; exact ⟨l, rfl⟩
theorem eqF_refl (h : Ok3 a t w) : eqF a t w a t w = true := by
  have hN : ∀ o, opens a t w = some o → o ≤ (match opens a t w with | some o => (if o < 50 then 50 else o) | none => 50) := fun o e => by rw [e]; dsimp only; split <;> omega
  have h2 : 49 ≤ (match opens a t w with | some o => (if o < 50 then 50 else o) | none => 50) := by
    split
    · split <;> omega
    · omega
  have : underF a t w a t w = true := under_of h h h2 hN fun n _ _ => lesser_refl _
  unfold eqF
  rw [this]; rfl
abbrev sWords : C := .lst [.str wGate, .str wTries, .str wWindow]
abbrev En (sc tn : W) (x4 x5 x6 x7 x8 x9 x10 x11 x12 x13 x14 : Option W) : Env := [some sc, some (.r 0), some (.c sWords), some tn, x4, x5, x6, x7, x8, x9, x10, x11, x12, x13, x14]
theorem law_ok (F : BForm_G g) (hD : BDraw_G g) (hP : BPick_G g) (V : BK17_G g) (hfu : 8 ≤ fu) (ns : List Int) (hn : ns.length ≤ 63) : Sat (call g fu (k + 8) 213 [.c (.frz (ns.map .int))] []) (fun _ _ _ => False) fun w s => w = .c (.bl true) := by
  refine call_go (env := [some (.c (.frz (ns.map .int))), none, none, none, none, none, none, none, none, none, none, none, none, none, none]) V.d_law_k17 rfl rfl rfl ?_ fun _ _ _ z => z
  unfold D_law_k17 B.b_law_k17
  refine s_cut (fun e s => ∃ sc, e = [some sc, some (.r 0), some (.c sWords), none, none, none, none, none, none, none, none, none, none, none, none] ∧ Src s 0) ?_ ?_
  · (repeat (first | fail | fail_if_success skip))
    refine begin_ok hD hn fun s0 hs0 _ => ?_
    (repeat (first | fail | fail_if_success skip))
    exact ⟨_, rfl, hs0⟩
  rintro _ s0 ⟨sc, rfl, hs0⟩
  refine s_cut (fun e s => True) ?_ ?_
  · (repeat (first | fail | fail_if_success skip))
    refine for_inv (fun ws e s => Src s 0 ∧ ∃ x3 x4 x5 x6 x7 x8 x9 x10 x11 x12 x13 x14, e = [some sc, some (.r 0), some (.c sWords), x3, x4, x5, x6, x7, x8, x9, x10, x11, x12, x13, x14]) _ _ _ ⟨hs0, _, _, _, _, _, _, _, _, _, _, _, _, rfl⟩ ?_ fun _ _ _ => trivial
    rintro tn ws _ s ⟨hs, x3, x4, x5, x6, x7, x8, x9, x10, x11, x12, x13, x14, rfl⟩
    refine ⟨_, rfl, ?_⟩
    refine s_cut (fun e s => ∃ a t w m, e = En sc tn x4 x5 x6 x7 x8 x9 x10 x11 x12 (some (.r m)) x14 ∧ Src s 0 ∧ Ok3 a t w ∧ (∀ x, a = some x → x < 30) ∧ m ≠ 0 ∧ cellAt s m = some (cel a t w)) ?_ ?_
    · (repeat (first | fail | fail_if_success skip))
      refine parts_ok hD V hs fun a t w s1 h ha h1 hl => ?_
      have h0 : 0 < s1.length := by obtain ⟨_, _, _, _, hc, _⟩ := h1; exact cell_lt hc
      exact ⟨a, t, w, s1.length, rfl, src_push h1, h, ha, by omega, cell_top⟩
    rintro _ s1 ⟨a, t, w, m, rfl, hs, h, ha, hm, hc⟩
    have hc' : cellAt s1 m = some (.lst [.c (oC a), .c (oC t), .c (oC w)]) := hc
    refine s_cut (fun e s => s1 = s ∧ e = En sc tn x4 x5 x6 x7 x8 x9 x10 (some (.c (form a t w))) x12 (some (.r m)) x14) ?_ ?_
    · (repeat (first | fail | fail_if_success skip))
      refine sat_eq (lform_good F V hc h) ?_
      (repeat (first | fail | fail_if_success skip))
      exact ⟨rfl, rfl⟩
    rintro _ _ ⟨rfl, rfl⟩
    have shp1 := sh_parts h ha
    refine s_cut (fun e s => s1 = s ∧ e = En sc tn x4 x5 x6 x7 x8 x9 x10 (some (.c (form a t w))) x12 (some (.r m)) x14) ?_ ?_
    · (repeat (first | fail | fail_if_success skip))
      refine b_reprS shp1 (by decide) ?_
      (repeat (first | fail | fail_if_success skip))
      refine b_reprR (dat_r hc rfl) shp1.1 (by unfold showB; rw [shp1.2.1, Bool.true_and]; exact decide_eq_true (Nat.le_trans shp1.2.2 (by decide))) ?_
      refine ne_sh shp1.1 ?_
      (repeat (first | fail | fail_if_success skip))
      exact ⟨rfl, rfl⟩
    rintro _ _ ⟨rfl, rfl⟩
    let LL : C := .lst ((List.range 41).map fun (n : Nat) => oC (toldF a t w n))
    have shL : ShB 60 _ LL := sh_list (m := 9) (f := fun n => oC (toldF a t w n)) fun n hn => sh_told (m := 4) h (by omega) (by omega) (by decide) (by decide)
    refine s_cut (fun e s => s1 = s ∧ e = En sc tn (some (.c LL)) x5 x6 x7 x8 x9 x10 (some (.c (form a t w))) x12 (some (.r m)) x14) ?_ ?_
    · (repeat (first | fail | fail_if_success skip))
      refine lc_nats (m := 41) (fun n => oC (toldF a t w n)) (fun _ _ => rfl) (fun n h0 _ => ?_) ?_
      · (repeat (first | fail | fail_if_success skip))
        refine s_val V h h0 ?_
        exact ⟨rfl, rfl⟩
      · refine clo_i (clo_map _) ?_
        exact ⟨rfl, rfl⟩
    rintro _ _ ⟨rfl, rfl⟩
    refine s_cut (fun e s => s1 = s ∧ e = En sc tn (some (.c LL)) x5 x6 x7 x8 x9 x10 (some (.c (form a t w))) x12 (some (.r m)) x14) ?_ ?_
    · (repeat (first | fail | fail_if_success skip))
      refine lc_nats (m := 41) (fun n => oC (toldF a t w n)) (fun _ _ => rfl) (fun n h0 _ => ?_) ?_
      · (repeat (first | fail | fail_if_success skip))
        refine x_form F h h0 ?_
        exact ⟨rfl, rfl⟩
      · refine clo_i (clo_map _) ?_
        (repeat (first | fail | fail_if_success skip))
        refine b_reprS shL (by decide) ?_
        (repeat (first | fail | fail_if_success skip))
        refine b_reprS shL (by decide) ?_
        refine ne_sh shL.1 ?_
        (repeat (first | fail | fail_if_success skip))
        exact ⟨rfl, rfl⟩
    rintro _ _ ⟨rfl, rfl⟩
    refine s_cut (fun e s => ∃ i : Int, 1 ≤ i ∧ i < 10 ^ 62 ∧ e = En sc tn (some (.c LL)) (some (.c (.int i))) x6 x7 x8 x9 x10 (some (.c (form a t w))) x12 (some (.r m)) x14 ∧ Src s 0 ∧ cellAt s m = some (cel a t w)) ?_ ?_
    · (repeat (first | fail | fail_if_success skip))
      refine great_ok hD V hs fun i s2 h1 h2 hs2 o2 => ?_
      exact ⟨i, h1, h2, rfl, hs2, (cell_oth o2 hm).trans hc⟩
    clear hs hc hc'
    rintro _ s1 ⟨i, hi1, hi2, rfl, hs, hc⟩
    have hc' : cellAt s1 m = some (.lst [.c (oC a), .c (oC t), .c (oC w)]) := hc
    refine s_cut (fun e s => s1 = s ∧ e = En sc tn (some (.c LL)) (some (.c (.int i))) x6 x7 x8 x9 x10 (some (.c (form a t w))) x12 (some (.r m)) x14) ?_ ?_
    · have shf := sh60 (sh_told (m := 70) h (n := i) (by omega) (by omega) (by decide) (by decide))
      (repeat (first | fail | fail_if_success skip))
      refine x_form F h (by omega) ?_
      (repeat (first | fail | fail_if_success skip))
      refine b_reprS shf (by decide) ?_
      (repeat (first | fail | fail_if_success skip))
      refine s_val V h (by omega) ?_
      (repeat (first | fail | fail_if_success skip))
      refine b_reprS shf (by decide) ?_
      refine ne_sh shf.1 ?_
      (repeat (first | fail | fail_if_success skip))
      exact ⟨rfl, rfl⟩
    rintro _ _ ⟨rfl, rfl⟩
    let pF : Nat → Bool := fun n => match opens a t w with | some o => decide (o ≤ (n : Int)) | none => false
    let LS : C := .lst (((List.range 41).filter pF).map fun (n : Nat) => .int n)
    refine s_cut (fun e s => s1 = s ∧ e = En sc tn (some (.c LL)) (some (.c (.int i))) (some (.c LS)) x7 x8 x9 x10 (some (.c (form a t w))) x12 (some (.r m)) x14) ?_ ?_
    · (repeat (first | fail | fail_if_success skip))
      refine lc_natsIf (m := 41) (fun n => match opens a t w with | some o => decide (o ≤ n) | none => false) (fun n => .int n) (fun n h0 h1 => ?_) (fun n h0 _ _ => ?_) ?_
      · (repeat (first | fail | fail_if_success skip))
        refine x_rng (fun n => oC (toldF a t w n)) h0 h1 ?_
        (repeat (first | fail | fail_if_success skip))
        exact ⟨none_iff, rfl⟩
      · (repeat (first | fail | fail_if_success skip))
        exact ⟨rfl, rfl⟩
      · refine clo_i (clo_map _) ?_
        exact ⟨rfl, rfl⟩
    rintro _ _ ⟨rfl, rfl⟩
    refine s_cut (fun e s => s1 = s ∧ e = En sc tn (some (.c LL)) (some (.c (.int i))) (some (.c LS)) x7 x8 x9 x10 (some (.c (form a t w))) x12 (some (.r m)) x14) ?_ ?_
    · have sho : ShB 60 9 (oC (opens a t w)) := sh60 (sh_oC (m := 4) (by decide) (by decide) fun y e => ⟨opens_nn h e, by have := opens_le (N := 40) h (fun x z => by have := ha x z; omega) (by omega) e; omega⟩)
      (repeat (first | fail | fail_if_success skip))
      refine b_reprS sho (by decide) ?_
      (repeat (first | fail | fail_if_success skip))
      refine c_ne trivial trivial (shp_map fun _ _ => rfl) rfl ?_
      rw [eqC_nil]
      cases ho : opens a t w with
      | none =>
        have e : (List.range 41).filter pF = [] := List.filter_eq_nil_iff.mpr fun n _ => by
          show ¬ (match opens a t w with | some o => decide (o ≤ (n : Int)) | none => false) = true
          rw [ho]; exact Bool.false_ne_true
        have e3 : ((List.range 41).filter pF |>.map fun (n : Nat) => C.int n).isEmpty = true := by rw [e]; rfl
        rw [e3]
        (repeat (first | fail | fail_if_success skip))
        rw [ho] at sho
        refine b_reprS sho (by decide) ?_
        refine ne_sh sho.1 ?_
        (repeat (first | fail | fail_if_success skip))
        exact ⟨rfl, rfl⟩
      | some o =>
        have h0 := opens_nn h ho
        have h1 := opens_le (N := 40) h (fun x z => by have := ha x z; omega) (by omega) ho
        obtain ⟨l, e⟩ := flt_at ⟨o.toNat, by omega⟩
        have e : (List.range 41).filter pF = o.toNat :: l := by
          rw [← e]
          refine List.filter_congr fun n _ => ?_
          show (match opens a t w with | some o => decide (o ≤ (n : Int)) | none => false) = _
          rw [ho]
          show decide (o ≤ (n : Int)) = decide (o.toNat ≤ n)
          have : o ≤ (n : Int) ↔ o.toNat ≤ n := by omega
          simp only [this]
        have e2 : LS = .lst (.int o :: l.map fun (n : Nat) => .int n) := by
          show C.lst (((List.range 41).filter pF).map fun (n : Nat) => .int n) = _
          rw [e, List.map_cons, Int.toNat_of_nonneg h0]
        have e3 : ((List.range 41).filter pF |>.map fun (n : Nat) => C.int n).isEmpty = false := by rw [e]; rfl
        rw [e3]
        (repeat (first | fail | fail_if_success skip))
        rw [e2]
        refine x_lst (c := .int o) (by decide) rfl ?_
        (repeat (first | fail | fail_if_success skip))
        rw [ho] at sho
        refine b_reprS sho (by decide) ?_
        refine ne_sh sho.1 ?_
        (repeat (first | fail | fail_if_success skip))
        exact ⟨rfl, rfl⟩
    rintro _ _ ⟨rfl, rfl⟩
    refine s_cut (fun e s => ∃ o0 o1 j, e = En sc tn (some (.c LL)) (some (.c (.int i))) (some (.c LS)) (some (.r j)) x8 x9 x10 (some (.c (form a t w))) x12 (some (.r m)) x14 ∧ o0 ∈ pool0 ∧ o1 ∈ pool1 ∧ Src s 0 ∧ cellAt s m = some (cel a t w) ∧ j ≠ 0 ∧ j ≠ m ∧ cellAt s j = some (.lst [.c o0, .c o1])) ?_ ?_
    · (repeat (first | fail | fail_if_success skip))
      refine pick_ok hD hP hs (by decide) fun o0 h0 s2 hs2 q2 => ?_
      (repeat (first | fail | fail_if_success skip))
      refine pick_ok hD hP hs2 (by decide) fun o1 h1 s3 hs3 q3 => ?_
      (repeat (first | fail | fail_if_success skip))
      have hc3 : cellAt s3 m = some (cel a t w) := (cell_oth (q2.trans q3) hm).trans hc
      have hl := cell_lt hc3
      refine ⟨o0, o1, s3.length, rfl, h0, h1, src_push hs3, ?_, by omega, by omega, cell_top⟩
      unfold cellAt at hc3 ⊢
      rwa [List.getElem?_append_left hl]
    clear hs hc hc'
    rintro _ s1 ⟨o0, o1, j, rfl, ho0, ho1, hs, hc, hj, hjm, hcj⟩
    refine s_cut (fun e s => ∃ o2, e = En sc tn (some (.c LL)) (some (.c (.int i))) (some (.c LS)) (some (.r j)) x8 x9 x10 (some (.c (form a t w))) x12 (some (.r m)) x14 ∧ o2 ∈ pool2 ∧ Src s 0 ∧ cellAt s m = some (cel a t w) ∧ cellAt s j = some (.lst [.c o0, .c o1, .c o2])) ?_ ?_
    · (repeat (first | fail | fail_if_success skip))
      refine sd_i (isL_r hcj) ?_
      (repeat (first | fail | fail_if_success skip))
      refine pick_ok hD hP hs (by decide) fun o2 h2 s2 hs2 q2 => ?_
      (repeat (first | fail | fail_if_success skip))
      have hcj2 := (cell_oth q2 hj).trans hcj
      refine bm_app hcj2 (by simp) ?_
      (repeat (first | fail | fail_if_success skip))
      exact ⟨o2, rfl, h2, src_set hs2 (Ne.symm hj), by rw [cell_ne (Ne.symm hjm)]; exact (cell_oth q2 hm).trans hc, cell_set hcj2⟩
    clear hs hc hcj
    rintro _ s1 ⟨o2, rfl, ho2, hs, hc, hcj⟩
    refine s_cut (fun e s => ∃ d1 d2 : Int, e = En sc tn (some (.c LL)) (some (.c (.int i))) (some (.c LS)) (some (.r j)) (some (.c (.int d1))) (some (.c (.int d2))) x10 (some (.c (form a t w))) x12 (some (.r m)) x14 ∧ (d1 = 0 ∨ d1 = 1 ∨ d1 = 2) ∧ (d2 = 0 ∨ d2 = 1 ∨ d2 = 2) ∧ Src s 0 ∧ cellAt s m = some (cel a t w) ∧ cellAt s j = some (.lst [.c o0, .c o1, .c o2])) ?_ ?_
    · (repeat (first | fail | fail_if_success skip))
      refine draw_ok hD hs (by omega) fun d1 s2 z1 z2 hs2 q2 => ?_
      (repeat (first | fail | fail_if_success skip))
      refine draw_ok hD hs2 (by omega) fun d2 s3 z3 z4 hs3 q3 => ?_
      (repeat (first | fail | fail_if_success skip))
      exact ⟨d1, d2, rfl, by omega, by omega, hs3, (cell_oth (q2.trans q3) hm).trans hc, (cell_oth (q2.trans q3) hj).trans hcj⟩
    clear hs hc hcj
    rintro _ s1 ⟨d1, d2, rfl, hd1, hd2, hs, hc, hcj⟩
    obtain ⟨n0, b0⟩ := p0 ho0
    obtain ⟨n1, b1⟩ := p1 ho1
    obtain ⟨n2, b2⟩ := p2 ho2
    have g0 := good0 h
    have g1 := good1 h
    have g2 := good2 h
    have m0 : noIns (oC a) = true := noI_oC
    have m1 : noIns (oC t) = true := noI_oC
    have m2 : noIns (oC w) = true := noI_oC
    refine s_cut (fun e s => ∃ x10 p q r wd, e = En sc tn (some (.c LL)) (some (.c (.int i))) (some (.c LS)) (some (.r j)) (some (.c (.int d1))) (some (.c (.int d2))) x10 (some (.c (form a t w))) x12 (some (.r m)) x14 ∧ Src s 0 ∧ cellAt s m = some (.lst [.c p, .c q, .c r]) ∧ noIns p = true ∧ noIns q = true ∧ noIns r = true ∧ badOf p q r = some wd ∧ words[(if d1 < d2 then d1 else d2).toNat]? = some wd) ?_ ?_
    · have hjm' : m ≠ j := Ne.symm hjm
      rcases hd1 with rfl | rfl | rfl <;> rcases hd2 with rfl | rfl | rfl
      all_goals
        (repeat (first | fail | fail_if_success skip))
        refine for_cons rfl rfl ?_
        (repeat (first | fail | fail_if_success skip))
        refine for_cons rfl rfl ?_
        (repeat (first | fail | fail_if_success skip))
        refine x_cell ((cell_ne hjm).trans hcj) (by decide) rfl ?_
        (repeat (first | fail | fail_if_success skip))
        refine for_nil rfl ?_
        refine ⟨_, _, _, _, _, rfl, src_set hs (Ne.symm hm), cell_set hc, ?_, ?_, ?_, ?_, rfl⟩
        · assumption
        · assumption
        · assumption
        · simp only [badOf, b0, b1, b2, g0, g1, g2, if_true, Bool.false_eq_true, if_false]
    clear hs hc hcj
    rintro _ s1 ⟨y10, p, q, r, wd, rfl, hs, hc, np, nq, nr, hb, hw⟩
    have hww := badOf_word hb
    refine s_cut (fun e s => s1 = s ∧ e = En sc tn (some (.c LL)) (some (.c (.int i))) (some (.c LS)) (some (.r j)) (some (.c (.int d1))) (some (.c (.int d2))) y10 (some (.c (form a t w))) x12 (some (.r m)) x14) ?_ ?_
    · (repeat (first | fail | fail_if_success skip))
      refine sat_eq (thk0 F V hc np nq nr hb) ?_
      (repeat (first | fail | fail_if_success skip))
      refine br_dec (fun z => ?_) fun z => ?_
      all_goals first | rw [if_pos z] at hw | rw [if_neg z] at hw
      all_goals
        (repeat (first | fail | fail_if_success skip))
        refine x_lst (c := .str wd) (by omega) (by
          show (words.map C.str)[_]? = _
          rw [List.getElem?_map, hw]; rfl) ?_
        (repeat (first | fail | fail_if_success skip))
        refine repr_word hww ?_
        (repeat (first | fail | fail_if_success skip))
        refine ne_l ?_ ?_
        · simp only [List.mem_cons, List.not_mem_nil, or_false] at hww
          rcases hww with rfl | rfl | rfl
          all_goals decide +kernel
        (repeat (first | fail | fail_if_success skip))
        exact ⟨rfl, rfl⟩
    rintro _ _ ⟨rfl, rfl⟩
    (repeat (first | fail | fail_if_success skip))
    refine pick_ok hD hP hs (by decide) fun c hcb s2 hs2 q2 => ?_
    (repeat (first | fail | fail_if_success skip))
    refine sat_eq (thk1 F V hcb) ?_
    (repeat (first | fail | fail_if_success skip))
    refine repr_bad hcb ?_
    (repeat (first | fail | fail_if_success skip))
    refine ne_l ?_ ?_
    · simp only [List.mem_cons, List.not_mem_nil, or_false] at hcb
      rcases hcb with rfl | rfl | rfl | rfl
      all_goals decide +kernel
    (repeat (first | fail | fail_if_success skip))
    exact ⟨hs2, _, _, _, _, _, _, _, _, _, _, _, _, rfl⟩
  · rintro e s _
    have ok0 : Ok3 none (some 1) none := ⟨fun _ z => (by cases z), fun _ z => (by cases z; omega), fun _ z => (by cases z)⟩
    have ok1 : Ok3 (some (10 ^ (50 : Int).toNat)) (some 1) none := ⟨fun _ z => (by cases z; decide), fun _ z => (by cases z; omega), fun _ z => (by cases z)⟩
    (repeat (first | fail | fail_if_success skip))
    rw [mk_dfl F]
    refine mk_form (a := none) (t := some 1) (w := none) F ok0 (fun _ _ _ z => z) ?_
    (repeat (first | fail | fail_if_success skip))
    refine mk_form (a := none) (t := some 1) (w := none) F ok0 (fun _ _ _ z => z) ?_
    (repeat (first | fail | fail_if_success skip))
    rw [eqF_refl ok0]
    (repeat (first | fail | fail_if_success skip))
    rw [mk_dfl F]
    refine mk_form (a := none) (t := some 1) (w := none) F ok0 (fun _ _ _ z => z) ?_
    (repeat (first | fail | fail_if_success skip))
    refine br_yes rfl ?_
    (repeat (first | fail | fail_if_success skip))
    rw [mk_dfl1 F]
    refine mk_form (a := some (10 ^ (50 : Int).toNat)) (t := some 1) (w := none) F ok1 (fun _ _ _ z => z) ?_
    (repeat (first | fail | fail_if_success skip))
    refine x_form F ok1 (by decide) ?_
    (repeat (first | fail | fail_if_success skip))
    rfl
end
end K17
end Ev

set_option maxHeartbeats 0
namespace Ev.B
open Ev
end Ev.B
namespace K17
open PySem PySem.Spec PyProof.Rows L2 Ev
abbrev top (i : Nat) : Stmt := PySem.Challenge.pw_countertickets_k17_forms_made_and_told.main.body.getD i (.Pass ⟨0, 0, 0, 0⟩)
def cbody : Stmt → List Stmt | .ClassDef _ _ _ b _ _ _ _ _ _ _ => b | _ => []
abbrev mem (i j : Nat) : Stmt := (cbody (top i)).getD j (.Pass ⟨0, 0, 0, 0⟩)
abbrev th0 : Th := ⟨0, [], .var 0, 0, .nil, .nil⟩
def L : Lw where
  names := "value" :: "limit" :: "append" :: "count" :: "index" :: "__init__" :: "kept_parts" :: "comers" :: "sends" :: "away" :: "tries" :: "__contains__" :: "__getitem__" :: "__iter__" :: "__eq__" :: "changed" :: "strict" :: "kind" :: "kept_rules" :: "rules" :: "__len__" :: "has" :: "alone" :: "pair" :: "join" :: "split" :: "kept_plan" :: "kept_queues" :: "kept_desks" :: "kept_fresh" :: "plan" :: "queues" :: "desks" :: "fresh" :: "people" :: "state" :: "where" :: "empty" :: "rows" :: "extend" :: "pop" :: "insert" :: "kept_hall" :: "kept_deeds" :: "hall" :: "made" :: "do" :: "play" :: "own_plan" :: "counter" :: "person" :: "bound" :: "begun" :: "steps" :: "is_ahead" :: "graph" :: "longest" :: "update" :: "kept_gate" :: "kept_tries" :: "kept_window" :: "gate" :: "window" :: "opens" :: "told" :: "period" :: "is_under" :: "__and__" :: "ahead" :: "lines" :: "seats" :: "number" :: "stand" :: "sit" :: "set_up" :: "own_most" :: "own_calls" :: "own_states" :: "board" :: "show" :: "halls" :: "must" :: "may" :: "clear" :: "by_name" :: "__setitem__" :: "names" :: "present" :: "past" :: "kept" :: "put_back" :: "go_to" :: "rule" :: "undo" :: "worst" :: "perform" :: "attempt" :: "session" :: "run" :: "startswith" :: "answer" :: "done" :: "replace" :: "desk" :: "form_answer" :: []
  clss := "Rule" :: "Plan" :: "Hall" :: "Play" :: "Search" :: "Form" :: "Stage" :: "Watch" :: "Notes" :: "Session" :: "Console" :: "TicketError" :: "InvalidNumber" :: "InvalidName" :: "InvalidPlace" :: "InvalidRule" :: "InvalidPlan" :: "InvalidText" :: "InvalidHall" :: "InvalidDeed" :: "InvalidRun" :: "InvalidForm" :: "TooMany" :: "InvalidBoard" :: "InvalidEdit" :: "InvalidCommand" :: "NothingToUndo" :: []
  known := [5]
  frz := [5]
  fns :=
    ⟨.glo "is_integer", "is_integer", "is_integer", top 14, ["value"], [], B.b_places_is_integer, false, [], false, none, none, false⟩ ::
    ⟨.glo "is_between", "is_between", "is_between", top 15, ["value", "low", "high"], [], B.b_places_is_between, false, [], false, none, none, false⟩ ::
    ⟨.glo "is_count", "is_count", "is_count", top 16, ["value"], [], B.b_places_is_count, false, [], false, none, none, false⟩ ::
    ⟨.glo "divisor", "divisor", "divisor", top 21, ["one", "other"], [], B.b_forms_divisor, false, [], false, none, none, false⟩ ::
    ⟨.glo "is_lesser", "is_lesser", "is_lesser", top 22, ["one", "other"], [], B.b_forms_is_lesser, false, [], false, none, none, false⟩ ::
    ⟨.met "Form" "__init__", "__init__", "Form.__init__", mem 23 0, ["self", "gate", "tries", "window"], [.non, (.int (1)), .non], B.b_Form___init__, false, [], false, none, none, false⟩ ::
    ⟨.prp "Form" "gate", "gate", "Form.gate", mem 23 1, ["self"], [], B.b_Form_gate, false, [], false, none, none, false⟩ ::
    ⟨.prp "Form" "tries", "tries", "Form.tries", mem 23 2, ["self"], [], B.b_Form_tries, false, [], false, none, none, false⟩ ::
    ⟨.prp "Form" "window", "window", "Form.window", mem 23 3, ["self"], [], B.b_Form_window, false, [], false, none, none, false⟩ ::
    ⟨.prp "Form" "opens", "opens", "Form.opens", mem 23 4, ["self"], [], B.b_Form_opens, false, [], false, none, none, false⟩ ::
    ⟨.met "Form" "told", "told", "Form.told", mem 23 5, ["self", "ahead"], [], B.b_Form_told, false, [], false, none, none, false⟩ ::
    ⟨.met "Form" "__getitem__", "__getitem__", "Form.__getitem__", mem 23 6, ["self", "ahead"], [], B.b_Form___getitem__, false, [], false, none, none, false⟩ ::
    ⟨.met "Form" "__iter__", "__iter__", "Form.__iter__", mem 23 7, ["self"], [], B.b_Form___iter__, false, [], false, none, none, false⟩ ::
    ⟨.met "Form" "period", "period", "Form.period", mem 23 8, ["self"], [], B.b_Form_period, false, [], false, none, none, false⟩ ::
    ⟨.met "Form" "is_under", "is_under", "Form.is_under", mem 23 9, ["self", "other", "last", "ahead"], [], B.b_Form_is_under, false, [], false, none, none, false⟩ ::
    ⟨.met "Form" "__eq__", "__eq__", "Form.__eq__", mem 23 10, ["self", "other"], [], B.b_Form___eq__, false, [], false, none, none, false⟩ ::
    ⟨.met "Form" "__and__", "__and__", "Form.__and__", mem 23 11, ["self", "other", "pairs", "ahead", "first", "second"], [], B.b_Form___and__, false, [], false, none, none, false⟩ ::
    ⟨.glo "_law_begin", "_law_begin", "_law_begin", top 25, ["_law_script"], [], B.b__law_begin, true, [], false, none, none, false⟩ ::
    ⟨.glo "_law_draw", "_law_draw", "_law_draw", top 26, ["_law_source", "_law_limit", "_law_cell", "_law_digit"], [], B.b__law_draw, false, [], false, none, none, false⟩ ::
    ⟨.glo "_law_pick", "_law_pick", "_law_pick", top 27, ["_law_source", "_law_items"], [], B.b__law_pick, false, [], false, none, none, false⟩ ::
    ⟨.glo "_law_wrong", "_law_wrong", "_law_wrong", top 28, ["_law_call", "e"], [], B.b__law_wrong, false, [], false, none, none, false⟩ ::
    ⟨.glo "_law_kind", "_law_kind", "_law_kind", top 29, ["_law_error", "_law_kinds", "_law_names"], [], B.b__law_kind, false, [], false, none, none, true⟩ ::
    ⟨.glo "_law_value", "_law_value", "_law_value", top 30, ["_law_gate", "_law_times", "_law_width", "_law_ahead"], [], B.b__law_value, false, [], false, none, none, false⟩ ::
    ⟨.glo "_law_parts_drawn", "_law_parts_drawn", "_law_parts_drawn", top 31, ["_law_source", "_law_gate"], [], B.b__law_parts_drawn, true, [], false, none, none, false⟩ ::
    ⟨.glo "_law_form", "_law_form", "_law_form", top 32, ["_law_pieces"], [], B.b__law_form, false, [], false, none, none, false⟩ ::
    ⟨.glo "_law_great", "_law_great", "_law_great", top 33, ["_law_source", "_law_least", "_law_more", "_law_number", "_law_turn"], [], B.b__law_great, false, [], false, none, none, false⟩ ::
    ⟨.glo "law", "law", "law", top 34, ["_law_script", "_law_source", "_law_words", "_law_turn", "_law_due", "_law_far", "_law_least", "_law_odd", "_law_at", "_law_also", "_law_k", "_law_made", "_law_none", "_law_pieces", "_law_a"], [], B.b_law_k17, false, [], false, none, none, false⟩ :: []
  cons := ("places.MOST_BEHIND", (.int (6))) :: ("rules.PARTS", (.tup [(.str [99, 111, 109, 101, 114, 115]), (.str [115, 101, 110, 100, 115]), (.str [97, 119, 97, 121]), (.str [116, 114, 105, 101, 115])])) :: ("rules.OUT", (.tup [(.str [111, 117, 116])])) :: ("rules.MOST_SENDS", (.int (3))) :: ("rules.MOST_TRIES", (.int (4))) :: ("rules.LAST_COUNTER", (.int (3))) :: ("rules.KIND_TRIES", (.int (3))) :: ("plans.MOST_COUNTERS", (.int (4))) :: ("texts.MOST_DIGITS", (.int (30))) :: ("halls.MOST_PEOPLE", (.int (60))) :: ("deeds.SHORT_WORDS", (.tup [(.str [99, 111, 109, 101]), (.str [99, 97, 108, 108]), (.str [109, 105, 115, 115]), (.str [100, 111, 110, 101])])) :: ("runs.MOST_LENGTH", (.int (8))) :: (".MOST_HALLS", (.int (20000))) :: (".MOST_COMERS", (.int (3))) :: ("MOST_TRIES", (.int (4))) :: ("MOST_WINDOW", (.int (7))) :: ("LISTED", (.int (13))) :: ("witnesses.MOST_AHEAD", (.int (10))) :: ("witnesses.MOST_CALLS", (.int (20))) :: ("wishes.WORDS", (.tup [(.str [98, 111, 117, 110, 100, 101, 100]), (.str [99, 97, 108, 109]), (.str [111, 114, 100, 101, 114, 108, 121])])) :: ("boards.MOST_ENTRIES", (.int (12))) :: ("changes.MOST_EDITS", (.int (6))) :: ("places.LETTERS", (.str [97, 98, 99, 100, 101, 102, 103, 104, 105, 106, 107, 108, 109, 110, 111, 112, 113, 114, 115, 116, 117, 118, 119, 120, 121, 122])) :: ("places.MOST_LETTERS", (.int (8))) :: ("sessions.WORDS", (.tup [(.str [100, 111]), (.str [114, 117, 108, 101]), (.str [117, 110, 100, 111])])) :: ("sessions.MOST_SESSIONS", (.int (100))) :: ("console.DEEDS", (.tup [(.str [99, 111, 109, 101]), (.str [99, 97, 108, 108]), (.str [109, 105, 115, 115]), (.str [100, 111, 110, 101]), (.str [115, 101, 110, 100])])) :: []
  conp := ["MOST_TRIES", "MOST_WINDOW", "LISTED"]
  glos := ["Form"]
  ids := [0, 1, 2, 195, 196, 197, 198, 199, 200, 201, 202, 203, 204, 205, 206, 207, 208, 9, 10, 11, 13, 14, 209, 210, 211, 212, 213]
  free := ["len", "all", "any", "abs", "min", "max", "sum", "int", "tuple", "list", "sorted", "isinstance", "range", "enumerate", "zip", "str", "bool", "repr"]
  meths := [((5, 5), 197), ((5, 64), 202), ((5, 12), 203), ((5, 13), 204), ((5, 65), 205), ((5, 66), 206), ((5, 14), 207), ((5, 67), 208)]
  props := [((5, 61), 198), ((5, 10), 199), ((5, 62), 200), ((5, 63), 201)]
  flds := [(5, 58), (5, 59), (5, 60)]
  inits := [(5, 197)]
  eqs := [(5, 207)]
  gets := [(5, 203)]
  lens := []
  ins := []
  ands := [(5, 208)]
  stas := []
  mu := fun p => ([(145, 11), (173, 17), (185, 11), (209, 19)] : List (Nat × Nat)).contains (p.line, p.col)
  xcn := "InvalidForm" :: "InvalidNumber" :: "TicketError" :: "TooMany" :: "InvalidName" :: "InvalidPlace" :: "InvalidRule" :: "InvalidPlan" :: "InvalidText" :: "InvalidHall" :: "InvalidDeed" :: "InvalidRun" :: []
  xis := [⟨12, 0, false, "InvalidNumber.__init__", mem 2 0, "value"⟩, ⟨21, 0, false, "InvalidForm.__init__", mem 11 0, "value"⟩]
  xsubs := ((21, 11), true) :: ((21, 22), false) :: ((21, 12), false) :: ((21, 13), false) :: ((21, 14), false) :: ((21, 15), false) :: ((21, 16), false) :: ((21, 17), false) :: ((21, 18), false) :: ((21, 19), false) :: ((21, 20), false) :: ((21, 21), true) :: ((12, 11), true) :: ((12, 22), false) :: ((12, 12), true) :: ((12, 13), false) :: ((12, 14), false) :: ((12, 15), false) :: ((12, 16), false) :: ((12, 17), false) :: ((12, 18), false) :: ((12, 19), false) :: ((12, 20), false) :: ((12, 21), false) :: []
  hotN := [("_law_kind", 14)]
  thks := [(20000, 13, B.t17_0), (20001, 13, B.t17_1)]
  thp := fun p => ([((214, 11), 20000), ((217, 11), 20001)] : List ((Nat × Nat) × Nat)).lookup (p.line, p.col)
  lamT := [(["_law_script", "_law_source", "_law_words", "_law_turn", "_law_due", "_law_far", "_law_least", "_law_odd", "_law_at", "_law_also", "_law_k", "_law_made", "_law_none", "_law_pieces", "_law_a"], 213)]
  file := "/claim/cut.py"
def fdA (i : Nat) : Fd := L.fns.getD i ⟨.glo "", "", "", .Pass ⟨0, 0, 0, 0⟩, [], [], .nil, false, [], false, none, none, false⟩
abbrev R : PySem.W.OpenRow := PySem.W.OpenLaw.row PySem.Challenge.rw_countertickets_k17_forms_made_and_told
abbrev hk : PySem.W.Hook := hkE 7 L
def ob (s : PySem.W.SharedT) : List He.FnW × Bool := obE 7 L (HandSHeadRun.getT s)
theorem ob_eq (s : PySem.W.SharedT) : ob s = hk.obs s.abs := obE_eq (HandSHeadRun.getT_eq s)
def loose : List PySem.Str := "TicketError" :: "InvalidNumber" :: "InvalidName" :: "InvalidPlace" :: "InvalidRule" :: "InvalidPlan" :: "InvalidText" :: "InvalidHall" :: "InvalidDeed" :: "InvalidRun" :: "InvalidForm" :: "TooMany" :: "is_integer" :: "is_between" :: "is_count" :: "MOST_TRIES" :: "MOST_WINDOW" :: "LISTED" :: "divisor" :: "is_lesser" :: "Form" :: "_law_begin" :: "_law_draw" :: "_law_pick" :: "_law_wrong" :: "_law_kind" :: "_law_value" :: "_law_parts_drawn" :: "_law_form" :: "_law_great" :: []
end K17

set_option maxHeartbeats 0
namespace K17
open PySem PySem.Spec PyProof.Rows L2 Ev
theorem glue3 {α β γ δ : Type} {x : Option α} {f : α → β} {g : α → γ} {h : α → δ} {b : β} {c : γ} {d : δ} (h1 : x.map f = some b) (h2 : x.map g = some c) (h3 : x.map h = some d) : x.map (fun s => (f s, g s, h s)) = some (b, c, d) := by
  cases x with
  | none => cases h1
  | some s => rw [Option.map_some] at h1 h2 h3 ⊢; rw [Option.some.inj h1, Option.some.inj h2, Option.some.inj h3]
theorem glueS {α A1 A2 A3 A4 A5 A6 R : Type} {x : Option α} {g : α → A1 × A2 × A3 × A4 × A5 × A6 × R} {c : A1 × A2 × A3 × A4 × A5 × A6 × R} (h1 : x.map (fun s => ((g s).1, (g s).2.1, (g s).2.2.1, (g s).2.2.2.1)) = some (c.1, c.2.1, c.2.2.1, c.2.2.2.1))
    (h2 : x.map (fun s => ((g s).2.2.2.2.1, (g s).2.2.2.2.2.1)) = some (c.2.2.2.2.1, c.2.2.2.2.2.1)) (h3 : x.map (fun s => (g s).2.2.2.2.2.2) = some c.2.2.2.2.2.2) : x.map g = some c := by
  cases x with
  | none => cases h1
  | some s =>
    rw [Option.map_some] at h1 h2 h3 ⊢
    generalize g s = z at h1 h2 h3
    obtain ⟨z1, z2, z3, z4, z5, z6, z7⟩ := z
    obtain ⟨c1, c2, c3, c4, c5, c6, c7⟩ := c
    have h4 : z7 = c7 := Option.some.inj h3
    have h1 := Option.some.inj h1
    have h2 := Option.some.inj h2
    simp only [Prod.mk.injEq] at h1 h2
    obtain ⟨rfl, rfl, rfl, rfl⟩ := h1
    obtain ⟨rfl, rfl⟩ := h2
    exact congrArg (fun r => some (z1, z2, z3, z4, z5, z6, r)) h4
noncomputable def en (w : World) (os : OsState) := HandSHeadRun.endF (HandSHeadRun.stepQ (HandSHeadRun.denQ HandSHeadRun.tabQ) R.prog w) 8000 R.prog w os
noncomputable def sq (s : PySem.W.SharedT) := HandSHeadRun.seenQ (PySem.W.view R.prog [34]) loose (importedModules R.prog.main.body) (fun s => PySem.W.xlAt (PySem.W.view R.prog [34]) [] s && PySem.W.recOk R.toRowW.records s) s.abs
noncomputable def og := PySem.W.openGood (PySem.W.view R.prog [34]) loose
theorem run1 (w : World) (os : OsState) : (en w os).map (fun s => HandSHeadRun.looksF R.prog (PySem.W.boot_heap w.params) s.abs) = some true := by kernel_rfl
theorem run2 (w : World) (os : OsState) : (en w os).map (fun s => ob s) = some (hk.val w) := by kernel_rfl
theorem run3 (w : World) (os : OsState) : (en w os).map (fun s => ((sq s).1, (sq s).2.1, (sq s).2.2.1, (sq s).2.2.2.1)) = some (og.1, og.2.1, og.2.2.1, og.2.2.2.1) := by kernel_rfl
theorem run4 (w : World) (os : OsState) : (en w os).map (fun s => ((sq s).2.2.2.2.1, (sq s).2.2.2.2.2.1)) = some (og.2.2.2.2.1, og.2.2.2.2.2.1) := by kernel_rfl
theorem run5 (w : World) (os : OsState) : (en w os).map (fun s => (sq s).2.2.2.2.2.2) = some (og.2.2.2.2.2.2) := by kernel_rfl
theorem runH (w : World) : HandSHeadRun.RunEq R (PySem.W.view R.prog [34]) hk ob 8000 loose w := by
  intro os
  exact glue3 (run1 w os) (glueS (run3 w os) (run4 w os) (run5 w os)) (run2 w os)
theorem f0 : FdC L (fdA 0) := fd0 ["value"] rfl rfl rfl rfl rfl rfl rfl ⟨rfl, rfl, rfl, by decide +kernel, rfl, by decide +kernel, by decide +kernel⟩ (by kernel_rfl) fun _ _ _ _ _ _ us hl => match us, hl with | [_], _ => rfl
theorem f1 : FdC L (fdA 1) := fd0 ["value", "low", "high"] rfl rfl rfl rfl rfl rfl rfl ⟨rfl, rfl, rfl, by decide +kernel, rfl, by decide +kernel, by decide +kernel⟩ (by kernel_rfl) fun _ _ _ _ _ _ us hl => match us, hl with | [_, _, _], _ => rfl
theorem f2 : FdC L (fdA 2) := fd0 ["value"] rfl rfl rfl rfl rfl rfl rfl ⟨rfl, rfl, rfl, by decide +kernel, rfl, by decide +kernel, by decide +kernel⟩ (by kernel_rfl) fun _ _ _ _ _ _ us hl => match us, hl with | [_], _ => rfl
theorem f3 : FdC L (fdA 3) := fd0 ["one", "other"] rfl rfl rfl rfl rfl rfl rfl ⟨rfl, rfl, rfl, by decide +kernel, rfl, by decide +kernel, by decide +kernel⟩ (by kernel_rfl) fun _ _ _ _ _ _ us hl => match us, hl with | [_, _], _ => rfl
theorem f4 : FdC L (fdA 4) := fd0 ["one", "other"] rfl rfl rfl rfl rfl rfl rfl ⟨rfl, rfl, rfl, by decide +kernel, rfl, by decide +kernel, by decide +kernel⟩ (by kernel_rfl) fun _ _ _ _ _ _ us hl => match us, hl with | [_, _], _ => rfl
theorem f5 : FdC L (fdA 5) := by
  refine fdP ["self", "gate", "tries", "window"] rfl rfl rfl rfl rfl rfl ⟨rfl, rfl, rfl, by decide +kernel, rfl, by decide +kernel, by decide +kernel⟩ (by kernel_rfl) fun K a fd vs hv FD j hj => ?_
  cases hv
  match j, hj with
  | 0, _ => exact FD.binds1 1 0 (by simp) rfl fun T kV doc pm an cdv ct us its hu hi => match us, its, hu, hi with | [_], [_, _, _], _, _ => ⟨_, rfl, rfl⟩
  | 1, _ => exact FD.binds1 2 1 (by simp) rfl fun T kV doc pm an cdv ct us its hu hi => match us, its, hu, hi with | [_, _], [_, _, _], _, _ => ⟨_, rfl, rfl⟩
  | 2, _ => exact FD.binds1 3 2 (by simp) rfl fun T kV doc pm an cdv ct us its hu hi => match us, its, hu, hi with | [_, _, _], [_, _, _], _, _ => ⟨_, rfl, rfl⟩
  | 3, _ => exact FD.binds1 4 3 (by simp) rfl fun T kV doc pm an cdv ct us its hu hi => match us, its, hu, hi with | [_, _, _, _], [_, _, _], _, _ => ⟨_, rfl, rfl⟩
theorem f6 : FdC L (fdA 6) := fd0 ["self"] rfl rfl rfl rfl rfl rfl rfl ⟨rfl, rfl, rfl, by decide +kernel, rfl, by decide +kernel, by decide +kernel⟩ (by kernel_rfl) fun _ _ _ _ _ _ us hl => match us, hl with | [_], _ => rfl
theorem f7 : FdC L (fdA 7) := fd0 ["self"] rfl rfl rfl rfl rfl rfl rfl ⟨rfl, rfl, rfl, by decide +kernel, rfl, by decide +kernel, by decide +kernel⟩ (by kernel_rfl) fun _ _ _ _ _ _ us hl => match us, hl with | [_], _ => rfl
theorem f8 : FdC L (fdA 8) := fd0 ["self"] rfl rfl rfl rfl rfl rfl rfl ⟨rfl, rfl, rfl, by decide +kernel, rfl, by decide +kernel, by decide +kernel⟩ (by kernel_rfl) fun _ _ _ _ _ _ us hl => match us, hl with | [_], _ => rfl
theorem f9 : FdC L (fdA 9) := fd0 ["self"] rfl rfl rfl rfl rfl rfl rfl ⟨rfl, rfl, rfl, by decide +kernel, rfl, by decide +kernel, by decide +kernel⟩ (by kernel_rfl) fun _ _ _ _ _ _ us hl => match us, hl with | [_], _ => rfl
theorem f10 : FdC L (fdA 10) := fd0 ["self", "ahead"] rfl rfl rfl rfl rfl rfl rfl ⟨rfl, rfl, rfl, by decide +kernel, rfl, by decide +kernel, by decide +kernel⟩ (by kernel_rfl) fun _ _ _ _ _ _ us hl => match us, hl with | [_, _], _ => rfl
theorem f11 : FdC L (fdA 11) := fd0 ["self", "ahead"] rfl rfl rfl rfl rfl rfl rfl ⟨rfl, rfl, rfl, by decide +kernel, rfl, by decide +kernel, by decide +kernel⟩ (by kernel_rfl) fun _ _ _ _ _ _ us hl => match us, hl with | [_, _], _ => rfl
theorem f12 : FdC L (fdA 12) := fd0 ["self"] rfl rfl rfl rfl rfl rfl rfl ⟨rfl, rfl, rfl, by decide +kernel, rfl, by decide +kernel, by decide +kernel⟩ (by kernel_rfl) fun _ _ _ _ _ _ us hl => match us, hl with | [_], _ => rfl
theorem f13 : FdC L (fdA 13) := fd0 ["self"] rfl rfl rfl rfl rfl rfl rfl ⟨rfl, rfl, rfl, by decide +kernel, rfl, by decide +kernel, by decide +kernel⟩ (by kernel_rfl) fun _ _ _ _ _ _ us hl => match us, hl with | [_], _ => rfl
theorem f14 : FdC L (fdA 14) := fd0 ["self", "other"] rfl rfl rfl rfl rfl rfl rfl ⟨rfl, rfl, rfl, by decide +kernel, rfl, by decide +kernel, by decide +kernel⟩ (by kernel_rfl) fun _ _ _ _ _ _ us hl => match us, hl with | [_, _], _ => rfl
theorem f15 : FdC L (fdA 15) := fd0 ["self", "other"] rfl rfl rfl rfl rfl rfl rfl ⟨rfl, rfl, rfl, by decide +kernel, rfl, by decide +kernel, by decide +kernel⟩ (by kernel_rfl) fun _ _ _ _ _ _ us hl => match us, hl with | [_, _], _ => rfl
theorem f16 : FdC L (fdA 16) := fd0 ["self", "other"] rfl rfl rfl rfl rfl rfl rfl ⟨rfl, rfl, rfl, by decide +kernel, rfl, by decide +kernel, by decide +kernel⟩ (by kernel_rfl) fun _ _ _ _ _ _ us hl => match us, hl with | [_, _], _ => rfl
theorem f17 : FdC L (fdA 17) := fd0 ["_law_script"] rfl rfl rfl rfl rfl rfl rfl ⟨rfl, rfl, rfl, by decide +kernel, rfl, by decide +kernel, by decide +kernel⟩ (by kernel_rfl) fun _ _ _ _ _ _ us hl => match us, hl with | [_], _ => rfl
theorem f18 : FdC L (fdA 18) := fd0 ["_law_source", "_law_limit"] rfl rfl rfl rfl rfl rfl rfl ⟨rfl, rfl, rfl, by decide +kernel, rfl, by decide +kernel, by decide +kernel⟩ (by kernel_rfl) fun _ _ _ _ _ _ us hl => match us, hl with | [_, _], _ => rfl
theorem f19 : FdC L (fdA 19) := fd0 ["_law_source", "_law_items"] rfl rfl rfl rfl rfl rfl rfl ⟨rfl, rfl, rfl, by decide +kernel, rfl, by decide +kernel, by decide +kernel⟩ (by kernel_rfl) fun _ _ _ _ _ _ us hl => match us, hl with | [_, _], _ => rfl
theorem f20 : FdC L (fdA 20) := fd0 ["_law_call"] rfl rfl rfl rfl rfl rfl rfl ⟨rfl, rfl, rfl, by decide +kernel, rfl, by decide +kernel, by decide +kernel⟩ (by kernel_rfl) fun _ _ _ _ _ _ us hl => match us, hl with | [_], _ => rfl
theorem f21 : FdH L (fdA 21) := fdH "_law_error" rfl rfl rfl ⟨rfl, rfl, rfl, by decide +kernel, rfl, by decide +kernel, by decide +kernel⟩ (by kernel_rfl) (by kernel_rfl) fun _ _ _ _ _ _ us hl => match us, hl with | [_], _ => rfl
theorem f22 : FdC L (fdA 22) := fd0 ["_law_gate", "_law_times", "_law_width", "_law_ahead"] rfl rfl rfl rfl rfl rfl rfl ⟨rfl, rfl, rfl, by decide +kernel, rfl, by decide +kernel, by decide +kernel⟩ (by kernel_rfl) fun _ _ _ _ _ _ us hl => match us, hl with | [_, _, _, _], _ => rfl
theorem f23 : FdC L (fdA 23) := fd0 ["_law_source"] rfl rfl rfl rfl rfl rfl rfl ⟨rfl, rfl, rfl, by decide +kernel, rfl, by decide +kernel, by decide +kernel⟩ (by kernel_rfl) fun _ _ _ _ _ _ us hl => match us, hl with | [_], _ => rfl
theorem f24 : FdC L (fdA 24) := fd0 ["_law_pieces"] rfl rfl rfl rfl rfl rfl rfl ⟨rfl, rfl, rfl, by decide +kernel, rfl, by decide +kernel, by decide +kernel⟩ (by kernel_rfl) fun _ _ _ _ _ _ us hl => match us, hl with | [_], _ => rfl
theorem f25 : FdC L (fdA 25) := fd0 ["_law_source", "_law_least", "_law_more"] rfl rfl rfl rfl rfl rfl rfl ⟨rfl, rfl, rfl, by decide +kernel, rfl, by decide +kernel, by decide +kernel⟩ (by kernel_rfl) fun _ _ _ _ _ _ us hl => match us, hl with | [_, _, _], _ => rfl
theorem f26 : FdC L (fdA 26) := fd0 ["_law_script"] rfl rfl rfl rfl rfl rfl rfl ⟨rfl, rfl, rfl, by decide +kernel, rfl, by decide +kernel, by decide +kernel⟩ (by kernel_rfl) fun _ _ _ _ _ _ us hl => match us, hl with | [_], _ => rfl
theorem fds : ∀ d ∈ L.fns, FdOk L d := List.forall_mem_cons.mpr ⟨.inl f0, List.forall_mem_cons.mpr ⟨.inl f1, List.forall_mem_cons.mpr ⟨.inl f2, List.forall_mem_cons.mpr ⟨.inl f3, List.forall_mem_cons.mpr ⟨.inl f4, List.forall_mem_cons.mpr ⟨.inl f5, List.forall_mem_cons.mpr ⟨.inl f6, List.forall_mem_cons.mpr ⟨.inl f7, List.forall_mem_cons.mpr ⟨.inl f8, List.forall_mem_cons.mpr ⟨.inl f9, List.forall_mem_cons.mpr ⟨.inl f10, List.forall_mem_cons.mpr ⟨.inl f11, List.forall_mem_cons.mpr ⟨.inl f12, List.forall_mem_cons.mpr ⟨.inl f13, List.forall_mem_cons.mpr ⟨.inl f14, List.forall_mem_cons.mpr ⟨.inl f15, List.forall_mem_cons.mpr ⟨.inl f16, List.forall_mem_cons.mpr ⟨.inl f17, List.forall_mem_cons.mpr ⟨.inl f18, List.forall_mem_cons.mpr ⟨.inl f19, List.forall_mem_cons.mpr ⟨.inl f20, List.forall_mem_cons.mpr ⟨.inr f21, List.forall_mem_cons.mpr ⟨.inl f22, List.forall_mem_cons.mpr ⟨.inl f23, List.forall_mem_cons.mpr ⟨.inl f24, List.forall_mem_cons.mpr ⟨.inl f25, List.forall_mem_cons.mpr ⟨.inl f26, fun _ h => by cases h⟩⟩⟩⟩⟩⟩⟩⟩⟩⟩⟩⟩⟩⟩⟩⟩⟩⟩⟩⟩⟩⟩⟩⟩⟩⟩⟩
theorem kwh : ∀ d ∈ L.fns, ∀ p, d.kw = some p → d.hot = false := List.forall_mem_cons.mpr ⟨fun _ _ => rfl, List.forall_mem_cons.mpr ⟨fun _ _ => rfl, List.forall_mem_cons.mpr ⟨fun _ _ => rfl, List.forall_mem_cons.mpr ⟨fun _ _ => rfl, List.forall_mem_cons.mpr ⟨fun _ _ => rfl, List.forall_mem_cons.mpr ⟨fun _ _ => rfl, List.forall_mem_cons.mpr ⟨fun _ _ => rfl, List.forall_mem_cons.mpr ⟨fun _ _ => rfl, List.forall_mem_cons.mpr ⟨fun _ _ => rfl, List.forall_mem_cons.mpr ⟨fun _ _ => rfl, List.forall_mem_cons.mpr ⟨fun _ _ => rfl, List.forall_mem_cons.mpr ⟨fun _ _ => rfl, List.forall_mem_cons.mpr ⟨fun _ _ => rfl, List.forall_mem_cons.mpr ⟨fun _ _ => rfl, List.forall_mem_cons.mpr ⟨fun _ _ => rfl, List.forall_mem_cons.mpr ⟨fun _ _ => rfl, List.forall_mem_cons.mpr ⟨fun _ _ => rfl, List.forall_mem_cons.mpr ⟨fun _ _ => rfl, List.forall_mem_cons.mpr ⟨fun _ _ => rfl, List.forall_mem_cons.mpr ⟨fun _ _ => rfl, List.forall_mem_cons.mpr ⟨fun _ _ => rfl, List.forall_mem_cons.mpr ⟨fun _ h => (by cases h), List.forall_mem_cons.mpr ⟨fun _ _ => rfl, List.forall_mem_cons.mpr ⟨fun _ _ => rfl, List.forall_mem_cons.mpr ⟨fun _ _ => rfl, List.forall_mem_cons.mpr ⟨fun _ _ => rfl, List.forall_mem_cons.mpr ⟨fun _ _ => rfl, fun _ h => by cases h⟩⟩⟩⟩⟩⟩⟩⟩⟩⟩⟩⟩⟩⟩⟩⟩⟩⟩⟩⟩⟩⟩⟩⟩⟩⟩⟩
abbrev Pg : Program := PySem.W.OpenLaw.prog PySem.Challenge.rw_countertickets_k17_forms_made_and_told
def xiA (i : Nat) : Xi := L.xis.getD i ⟨0, 0, false, "", .Pass ⟨0, 0, 0, 0⟩, ""⟩
theorem x0 : XiOk L Pg (xiA 0) := xi_of (by kernel_rfl) fun _ _ _ _ _ _ _ _ _ => rfl
theorem x1 : XiOk L Pg (xiA 1) := xi_of (by kernel_rfl) fun _ _ _ _ _ _ _ _ _ => rfl
theorem xds : ∀ x ∈ L.xis, XiOk L Pg x := List.forall_mem_cons.mpr ⟨x0, List.forall_mem_cons.mpr ⟨x1, fun _ h => by cases h⟩⟩
theorem t1 : FdT L 20001 13 B.t17_1 := fdT (d := fdA 20) "_law_call" (by kernel_rfl) (by kernel_rfl) rfl rfl ⟨rfl, rfl, rfl, by decide +kernel, rfl, by decide +kernel, by decide +kernel⟩ (by kernel_rfl) (by kernel_rfl) (by kernel_rfl) fun _ _ _ _ _ _ us hl => match us, hl with | [_], _ => rfl
theorem t0 : FdT L 20000 13 B.t17_0 := fdT (d := fdA 20) "_law_call" (by kernel_rfl) (by kernel_rfl) rfl rfl ⟨rfl, rfl, rfl, by decide +kernel, rfl, by decide +kernel, by decide +kernel⟩ (by kernel_rfl) (by kernel_rfl) (by kernel_rfl) fun _ _ _ _ _ _ us hl => match us, hl with | [_], _ => rfl
theorem tds : ∀ j f t, L.thks.lookup j = some (f, t) → FdT L j f t := ths_cons t0 (ths_cons t1 (ths_nil))
theorem prg : PrgOk L Pg := ⟨fds, xds, tds, by kernel_rfl, kwh⟩
theorem fits : L.fit = true := by decide +kernel
end K17
open PySem PySem.W PySem.Calls PyProof.Rows L2 Ev in
theorem k17_of (claim : ∀ ns : List Int, ns.length ≤ 63 → ∃ st, call K17.L.gd 100 12 213 [scriptW ns] [] = .ok (.c (.bl true)) st) : PySem.Challenge.rw_countertickets_k17_forms_made_and_told.Holds := by
  w_on; o_law
  refine HandSHeadRun.head_any (r := OpenLaw.row PySem.Challenge.rw_countertickets_k17_forms_made_and_told) (q := view (OpenLaw.row PySem.Challenge.rw_countertickets_k17_forms_made_and_told).prog [34]) (H := K17.hk) (ob := K17.ob) (M := 8000) (loose := K17.loose) (d := HandSHeadRun.topDef (OpenLaw.row PySem.Challenge.rw_countertickets_k17_forms_made_and_told).prog 34) (kwd := []) K17.ob_eq
    (by kernel_rfl) (fun s => by kernel_rfl) K17.runH (by kernel_rfl) (by kernel_rfl) (by kernel_rfl) (by rfl) (by first | assumption | decide +kernel) (by decide +kernel) ⟨rfl, rfl, rfl, rfl, rfl, by decide +kernel⟩ ?hw ?hc
  case hw => w_witness2
  case hc =>
    exact law_walk (l := PySem.Challenge.rw_countertickets_k17_forms_made_and_told) (L := K17.L) (n := 7) (k := 12) (f := 213) (fu := 100) (dl := K17.fdA 26) rfl (by rfl) ⟨rfl, by decide, by decide⟩ K17.fits K17.prg (by rfl) (by rfl) (by rfl) (by rfl) claim

open Ev
theorem k17_claim (ns : List Int) (hn : ns.length ≤ 63) : ∃ st, call K17.L.gd 100 12 213 [scriptW ns] [] = .ok (.c (.bl true)) st := by
  have h := Ev.K17.law_ok (g := K17.L.gd) (fu := 100) (k := 4) (by constructor <;> rfl) (by constructor <;> rfl) (by constructor <;> rfl) (by constructor <;> rfl) (by decide) ns hn
  revert h
  show Sat (call K17.L.gd 100 12 213 [scriptW ns] []) _ _ → _
  generalize call K17.L.gd 100 12 213 [scriptW ns] [] = r
  intro h
  cases r with
  | ok w s => exact ⟨s, by rw [show w = _ from h]⟩
  | ex _ _ _ => exact h.elim
  | stuck => exact h.elim
theorem PySem.Challenge.cw_countertickets_k17_forms_made_and_told_holds : PySem.Challenge.rw_countertickets_k17_forms_made_and_told.Holds :=
  k17_of k17_claim

