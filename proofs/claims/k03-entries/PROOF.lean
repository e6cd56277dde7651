import PyProof.Rows.All
import Wide.All
import OpenK.AllK
import Wide.FinOn
import KE.KStateDown
import PyProof.EqLayable
import PyProof.StrBlockL
import HandS.ForMost
import HandS.Exc
import HandS.ExcOwn
import HandS.ExcIs
import HandS.ExcValue
import HandS.WordsExc
import HandS.TryOnly
import HandS.IsInst
import HandS.Wide
import HandS.Deep
import HandS.TupAny
import HandS.TupLe
import HandS.Zip
import HandS.WideBits
import HandS.Text
import HandS.Style
import HandS.Defaults
import HandS.Head0
import HandS.Head1
import HandS.Head2
import HandS.HeadEnd
import HandS.HeadHook1
import HandS.HeadHook2
import Open.Row
import HandS.Codes
import PySem.Challenge.RW_markhabits_k03_entries_of_any_things
set_option Elab.async false
set_option linter.all false
set_option maxRecDepth 100000
set_option maxHeartbeats 0
/-! MSem: a mini language of expressions and statements over data, and what it comes to. -/
namespace M
open PySem

abbrev D := PyData
/-- a value: data that never changes, an object of the small heap, a caught error -/
inductive W where
  | dat (d : D)
  | ref (n : Nat)
  | exc (c : Nat)
  | scr (l : List Int)

/-- an object of the small heap -/
inductive Ob where
  | lst (l : List W)
  | dct (l : List (D × W))
  | lck (l : List (D × W))
  | ins (c : Nat) (fs : List (Str × W))
  | tpl (l : List W)
  | gone

abbrev Hh := List Ob
abbrev En := List (Option W)

inductive Res (α : Type) where
  | ok (a : α) (h : Hh)
  | exc (c : Nat) (h : Hh)
  | bad

inductive SR where
  | nxt (e : En) (h : Hh)
  | ret (w : W) (h : Hh)
  | exc (c : Nat) (e : En) (h : Hh)
  | bad

def Res.bind {α β : Type} (m : Res α) (f : α → Hh → Res β) : Res β := match m with
  | .ok a h => f a h
  | .exc c h => .exc c h
  | .bad => .bad
theorem Res.bind_ok {α β : Type} (a : α) (h : Hh) (f : α → Hh → Res β) : (Res.ok a h).bind f = f a h := rfl
theorem Res.bind_exc {α β : Type} (c : Nat) (h : Hh) (f : α → Hh → Res β) : (Res.exc (α := α) c h).bind f = .exc c h := rfl
theorem Res.bind_bad {α β : Type} (f : α → Hh → Res β) : (Res.bad (α := α)).bind f = .bad := rfl

/-- built-in types that isinstance asks -/
inductive Ty where
  | int | bool | str | tuple | list | dict | exc (c : Nat) | verr
  deriving DecidableEq

inductive BOp where
  | add | sub | mul | fdiv | mod | pow
  deriving DecidableEq
inductive COp where
  | eq | ne | lt | le | gt | ge | is | isnt | isin | notin
  deriving DecidableEq
/-- built-in functions -/
inductive Fb where
  | abs | len | all | any | int | bool | str | min2 | max2 | min1 | max1 | divmod | tuple | list | sorted | sortset | lenset | sum | dict | repr
  deriving DecidableEq
/-- methods of built-in types -/
inductive Mb where
  | append | extend | pop0 | pop1 | pop2 | get1 | get2 | update | index | count | insert | remove | clear | join | split | partition | replace | upper | keys | values | items
  deriving DecidableEq

mutual
inductive CE where
  | var (i : Nat)
  | glb (k : Nat)
  | cst (d : D)
  | tup (es : CEs)
  | lst (m : Bool) (es : CEs)
  | dct (m : Bool) (ks vs : CEs)
  | bin (o : BOp) (m : Bool) (a b : CE)
  | neg (a : CE)
  | not (a : CE)
  | bop (con : Bool) (es : CEs)
  | cmp (o : COp) (a b : CE)
  | chn (o p : COp) (a b c : CE)
  | ite (c a b : CE)
  | idx (a i : CE)
  | slc (a : CE) (lo hi : CO)
  | rev (a : CE)
  | fld (a : CE) (f : Str)
  | call (f : Nat) (es : CEs)
  | meth (a : CE) (f : Nat) (es : CEs)
  | mk (c : Nat) (es : CEs)
  | isi (a : CE) (t : Ty)
  | blt (f : Fb) (m : Bool) (es : CEs)
  | bmt (f : Mb) (m : Bool) (a : CE) (es : CEs)
  | comp (m : Bool) (own : List (Str × Nat)) (tg : CT) (it : CI) (ifs : CEs) (elt : CE)
  | frz (a : CE)
inductive CEs where
  | nil
  | cons (e : CE) (es : CEs)
inductive CO where
  | non
  | som (e : CE)
inductive CI where
  | ex (e : CE)
  | rng1 (b : CE)
  | rng2 (a b : CE)
  | enm (e : CE)
  | zip2 (a b : CE)
inductive CT where
  | nam (i : Nat)
  | tup (l : List Nat)
end

/-- targets of an assignment -/
inductive CG where
  | nam (i : Nat)
  | tup (l : List Nat)
  | sub (o i : CE)
  | fld (o : CE) (f : Str)
  | subnam (o i : CE) (j : Nat)

mutual
inductive CS where
  | pass
  | expr (e : CE)
  | ret (e : CE)
  | retN
  | asg (g : CG) (e : CE)
  | par (i j : Nat) (a b : CE)
  | setc (i : Nat) (e : CE)
  | ifs (c : CE) (a b : CSs)
  | whil (c : CE) (b : CSs)
  | for_ (tg : CT) (it : CI) (b : CSs)
  | rais (c : Nat)
  | tryas (c : Nat) (i : Nat) (b : CSs) (s : CSs)
  | try_ (c : Nat) (b : CSs) (s : CSs)
inductive CSs where
  | nil
  | cons (s : CS) (ss : CSs)
end

/-! ### values -/
def dOf : W → Option D
  | .dat d => some d
  | _ => none
def dsOf : List W → Option (List D)
  | [] => some []
  | w :: ws => match w, dsOf ws with
    | .dat d, some ds => some (d :: ds)
    | _, _ => none
/-- the items of a list or tuple -/
def seqOf (h : Hh) : W → Option (List W)
  | .dat (.list l) => some (l.map .dat)
  | .dat (.tuple l) => some (l.map .dat)
  | .ref n => match h[n]? with
    | some (.lst l) => some l
    | some (.tpl l) => some l
    | _ => none
  | .scr l => some (l.map fun i => .dat (.int i))
  | _ => none
/-- a dict's entries -/
def dctOf (h : Hh) : W → Option (List (D × W))
  | .dat (.dict l) => some (l.map fun p => (p.1, .dat p.2))
  | .ref n => match h[n]? with
    | some (.dct l) => some l
    | some (.lck l) => some l
    | _ => none
  | _ => none
/-- a new list: data where it isn't to be changed and bears no objects -/
def mkLst (m : Bool) (l : List W) (h : Hh) : Res W := match m, dsOf l with
  | false, some ds => .ok (.dat (.list ds)) h
  | _, _ => .ok (.ref h.length) (h ++ [.lst l])
def mkTup (l : List W) (h : Hh) : Res W := match dsOf l with
  | some ds => .ok (.dat (.tuple ds)) h
  | none => .ok (.ref h.length) (h ++ [.tpl l])
def truth (w : W) : Option Bool := match w with
  | .dat (.bool b) => some b
  | _ => none

/-! ### operators -/
def bigMul (i j : Int) : Bool := decide (i.natAbs.log2 + j.natAbs.log2 < 100000000)
def okDiv (j : Int) : Bool := decide (0 < j) && decide (j.natAbs.log2 < 9000)
def okPow (i j : Int) : Bool := decide (0 ≤ j) && (decide (j ≤ 1000000) && decide (i.natAbs < 2 ^ 64))
def sizeL : Nat := 1000000
def catL (m : Bool) (h : Hh) : Option (List W) → Option (List W) → Res W
  | some x, some y => if x.length + y.length ≤ sizeL then mkLst m (x ++ y) h else .bad
  | _, _ => .bad
/-- the items of a list, for + -/
def lstOf (h : Hh) : W → Option (List W)
  | .dat (.list l) => some (l.map .dat)
  | .ref n => match h[n]? with
    | some (.lst l) => some l
    | _ => none
  | _ => none
def addW (m : Bool) (a b : W) (h : Hh) : Res W := match a with
  | .dat (.int i) => (match b with
    | .dat (.int j) => .ok (.dat (.int (i + j))) h
    | _ => .bad)
  | .dat (.str x) => (match b with
    | .dat (.str y) => if x.length + y.length ≤ sizeL then .ok (.dat (.str (x ++ y))) h else .bad
    | _ => .bad)
  | .dat (.tuple x) => (match b with
    | .dat (.tuple y) => if x.length + y.length ≤ sizeL then .ok (.dat (.tuple (x ++ y))) h else .bad
    | _ => .bad)
  | .dat (.list x) => catL m h (some (x.map .dat)) (lstOf h b)
  | .ref n => (match h[n]? with
    | some (.lst l) => catL m h (some l) (lstOf h b)
    | _ => .bad)
  | _ => .bad
def intop (o : BOp) (i j : Int) (h : Hh) : Res W := match o with
  | .add => .ok (.dat (.int (i + j))) h
  | .sub => .ok (.dat (.int (i - j))) h
  | .mul => if bigMul i j then .ok (.dat (.int (i * j))) h else .bad
  | .fdiv => if okDiv j then .ok (.dat (.int (i / j))) h else .bad
  | .mod => if decide (0 < j) then .ok (.dat (.int (i % j))) h else .bad
  | .pow => if okPow i j then .ok (.dat (.int (i ^ j.toNat))) h else .bad
def binop (o : BOp) (m : Bool) (a b : W) (h : Hh) : Res W := match o with
  | .add => addW m a b h
  | o => match a, b with
    | .dat (.int i), .dat (.int j) => intop o i j h
    | _, _ => .bad

def shp (d : D) : Bool := SeqAt.shaped d
def eqD (a b : D) : Option Bool := match a, b with
  | .int i, .int j => some (decide (i = j))
  | .str x, .str y => some (decide (x = y))
  | .bool x, .bool y => some (decide (x = y))
  | a, b => if shp a && shp b then some (PyData.eqv a b) else none
/-- x is c, c a constant -/
def isC (a : W) : W → Option Bool
  | .dat .none => (match a with
    | .dat d => some (match d with
      | .none => true
      | _ => false)
    | .ref _ => some false
    | .exc _ => some false
    | .scr _ => some false)
  | .dat (.bool k) => (match a with
    | .dat (.bool b) => some (decide (b = k))
    | _ => none)
  | _ => none
def intcmp (o : COp) (i j : Int) : Option Bool := match o with
  | .eq => some (decide (i = j))
  | .ne => some (!decide (i = j))
  | .lt => some (decide (i < j))
  | .le => some (decide (i ≤ j))
  | .gt => some (decide (j < i))
  | .ge => some (decide (j ≤ i))
  | _ => none
def inSeq (d : D) (l : List D) : Option Bool := if shp d && shp (.list l) then some (l.any fun e => PyData.eqv e d) else none
def inStr (x y : Str) : Bool := !(Builtin.Str.occurrences y x 0 y.length 1).isEmpty
def inW (h : Hh) (a b : W) : Option Bool := match a with
  | .dat d => (match b with
    | .dat (.str y) => (match d with
      | .str x => some (inStr x y)
      | _ => none)
    | .dat (.list l) => inSeq d l
    | .dat (.tuple l) => inSeq d l
    | .ref n => (match h[n]? with
      | some (.lst l) => (match dsOf l with
        | some ds => inSeq d ds
        | none => none)
      | _ => none)
    | _ => none)
  | _ => none
def cmpW (o : COp) (a b : W) (h : Hh) : Option Bool := match o with
  | .is => isC a b
  | .isnt => (isC a b).map not
  | .isin => inW h a b
  | .notin => (inW h a b).map not
  | .eq => (match a, b with
    | .dat x, .dat y => eqD x y
    | _, _ => none)
  | .ne => (match a, b with
    | .dat x, .dat y => (eqD x y).map not
    | _, _ => none)
  | o => match a, b with
    | .dat (.int i), .dat (.int j) => intcmp o i j
    | _, _ => none
/-- the error of number c is one of number d; number 0 is the base of all -/
def subX (c d : Nat) : Bool := decide (d = 0) || decide (c = d)
def tyIs (t : Ty) : W → Option Bool
  | .dat d => (match t with
    | .exc _ => none
    | .verr => none
    | t => some (match t, d with
    | .int, .int _ => true
    | .int, .bool _ => true
    | .bool, .bool _ => true
    | .str, .str _ => true
    | .tuple, .tuple _ => true
    | .list, .list _ => true
    | .dict, .dict _ => true
    | _, _ => false))
  | .exc c => (match t with
    | .exc d => some (subX c d)
    | .verr => some true
    | _ => none)
  | _ => none

/-! ### built-ins -/
def boolsOf : List W → Option (List Bool)
  | [] => some []
  | w :: ws => match truth w, boolsOf ws with
    | some b, some bs => some (b :: bs)
    | _, _ => none
def lenOf (h : Hh) (w : W) : Option Nat := match w with
  | .dat (.str x) => if x.length ≤ sizeL then some x.length else none
  | w => (seqOf h w).map List.length
def optR {α : Type} (h : Hh) : Option α → Res α
  | some a => .ok a h
  | none => .bad
def rb (h : Hh) (o : Option Bool) : Res W := match o with
  | some b => .ok (.dat (.bool b)) h
  | none => .bad
def ri (h : Hh) (o : Option Int) : Res W := match o with
  | some i => .ok (.dat (.int i)) h
  | none => .bad
def tupleOf (w : W) (h : Hh) : Res W := match w with
  | .dat (.tuple l) => .ok (.dat (.tuple l)) h
  | w => (match lstOf h w with
      | some l => mkTup l h
      | none => .bad)
def builtin (f : Fb) (m : Bool) (ws : List W) (h : Hh) : Res W := match f with
  | .abs => (match ws with
    | [.dat (.int i)] => .ok (.dat (.int (if i < 0 then -i else i))) h
    | _ => .bad)
  | .len => (match ws with
    | [w] => ri h ((lenOf h w).map Int.ofNat)
    | _ => .bad)
  | .all => (match ws with
    | [w] => rb h (((lstOf h w).bind boolsOf).map fun l => l.all id)
    | _ => .bad)
  | .any => (match ws with
    | [w] => rb h (((lstOf h w).bind boolsOf).map fun l => l.any id)
    | _ => .bad)
  | .int => (match ws with
    | [.dat (.int i)] => .ok (.dat (.int i)) h
    | [.dat (.bool k)] => .ok (.dat (.int (if k then 1 else 0))) h
    | _ => .bad)
  | .min2 => (match ws with
    | [.dat (.int i), .dat (.int j)] => .ok (.dat (.int (if j < i then j else i))) h
    | _ => .bad)
  | .max2 => (match ws with
    | [.dat (.int i), .dat (.int j)] => .ok (.dat (.int (if j > i then j else i))) h
    | _ => .bad)
  | .divmod => (match ws with
    | [.dat (.int i), .dat (.int j)] => if okDiv j then .ok (.dat (.tuple [.int (i / j), .int (i % j)])) h else .bad
    | _ => .bad)
  | .tuple => (match ws with
    | [w] => tupleOf w h
    | _ => .bad)
  | .list => (match ws with
    | [w] => (match seqOf h w with
      | some l => mkLst m l h
      | none => .bad)
    | _ => .bad)
  | .str => (match ws with
    | [.dat (.int i)] => if decide (i.natAbs.log2 < 1920) then .ok (.dat (.str (toString i))) h else .bad
    | _ => .bad)
  | _ => .bad
/-- what a method of a built-in type is asked of -/
def bmIs (f : Mb) (x : W) (h : Hh) : Bool := match f with
  | .append => (match x with
    | .ref n => (match h[n]? with
      | some (.lst _) => true
      | _ => false)
    | _ => false)
  | .join => (match x with
    | .dat (.str _) => true
    | _ => false)
  | .upper => (match x with
    | .dat (.str _) => true
    | _ => false)
  | _ => false
def strsOf : List W → Option (List Str)
  | [] => some []
  | w :: ws => match w, strsOf ws with
    | .dat (.str x), some xs => some (x :: xs)
    | _, _ => none
def joinW (a : Str) (l : List W) (h : Hh) : Res W := match strsOf l with
  | some ys => if decide ((ys.map (·.length)).sum + ys.length * a.length ≤ 16777216) then .ok (.dat (.str (Txt.join a ys))) h else .bad
  | none => .bad
def bmeth (f : Mb) (x : W) (ws : List W) (h : Hh) : Res W := match f with
  | .append => (match x, ws with
    | .ref n, [w] => (match h[n]? with
      | some (.lst l) => if decide (l.length < sizeL) then .ok (.dat .none) (h.set n (.lst (l ++ [w]))) else .bad
      | _ => .bad)
    | _, _ => .bad)
  | .join => (match x, ws with
    | .dat (.str a), [w] => (match seqOf h w with
      | some l => joinW a l h
      | none => .bad)
    | _, _ => .bad)
  | .upper => (match x, ws with
    | .dat (.str a), [] => if decide (a.length ≤ 5592405) then .ok (.dat (.str (Txt.upper a))) h else .bad
    | _, _ => .bad)
  | _ => .bad

/-! ### subscripts -/
def ixM (n : Nat) (i : Int) : Option Nat :=
  if 0 ≤ i then (if i < n then some i.toNat else none)
  else if -(n : Int) ≤ i then some (i + n).toNat else none
def atI {α : Type} (l : List α) (i : Int) : Option α := (ixM l.length i).bind fun j => l[j]?
def strAt (x : Str) (i : Int) : Option Str := if x.length ≤ sizeL then (atI x.cps.toList i).map fun c => ⟨#[c]⟩ else none
def index (a i : W) (h : Hh) : Res W := match i with
  | .dat (.int i) => (match a with
    | .dat (.str x) => (match strAt x i with
      | some y => .ok (.dat (.str y)) h
      | none => .bad)
    | w => (match seqOf h w with
      | some l => optR h (atI l i)
      | none => .bad))
  | _ => .bad
/-- the place that a slice's end names, in a row of n -/
def cutM (n d : Nat) (o : Option Int) : Nat := match o with
  | none => d
  | some v => if v < 0 then (v + (n : Int)).toNat else min v.toNat n
def cutL {α : Type} (l : List α) (lo hi : Option Int) : List α :=
  (l.drop (cutM l.length 0 lo)).take (cutM l.length l.length hi - cutM l.length 0 lo)
def slice (a : W) (lo hi : Option Int) (h : Hh) : Res W := match a with
  | .dat (.tuple l) => .ok (.dat (.tuple (cutL l lo hi))) h
  | .dat (.list l) => .ok (.dat (.list (cutL l lo hi))) h
  | .dat (.str x) => if x.length ≤ sizeL then .ok (.dat (.str ⟨(cutL x.cps.toList lo hi).toArray⟩)) h else .bad
  | .ref n => (match h[n]? with
    | some (.lst l) => mkLst false (cutL l lo hi) h
    | _ => .bad)
  | .scr l => .ok (.dat (.list ((cutL l lo hi).map .int))) h
  | _ => .bad
def revW (a : W) (h : Hh) : Res W := match a with
  | .dat (.tuple l) => .ok (.dat (.tuple l.reverse)) h
  | .dat (.list l) => .ok (.dat (.list l.reverse)) h
  | .ref n => (match h[n]? with
    | some (.lst l) => mkLst false l.reverse h
    | _ => .bad)
  | _ => .bad
def getF (f : Str) (fs : List (Str × W)) : Option W := fs.lookup f
def setF (f : Str) (w : W) : List (Str × W) → List (Str × W)
  | [] => [(f, w)]
  | (g, v) :: r => if g = f then (g, w) :: r else (g, v) :: setF f w r
def setAt (o i v : W) (h : Hh) : Option Hh := match o with
  | .ref n => (match h[n]? with
    | some (.lst l) => (match i with
      | .dat (.int i) => if 0 ≤ i ∧ i < l.length then some (h.set n (.lst (l.set i.toNat v))) else none
      | _ => none)
    | _ => none)
  | _ => none

/-! ### the language -/
structure Cc where
  glb : Nat → Option D
  call : Nat → List W → Hh → Res W
  wh : (En → Hh → Res Bool) → (En → Hh → SR) → En → Hh → SR

def toB (r : Res W) : Res Bool := r.bind fun w h => optR h (truth w)
def ofB (r : Res Bool) : Res W := r.bind fun b h => .ok (.dat (.bool b)) h
def rngL (lo hi : Int) : List W := (List.range (hi - lo).toNat).map fun (k : Nat) => W.dat (.int (lo + (k : Int)))
def okR (i : Int) : Bool := decide (-(2 ^ 62) ≤ i) && decide (i < 2 ^ 62)
def strL (x : Str) : List W := x.cps.toList.map fun c => .dat (.str ⟨#[c]⟩)
/-- what is walked: items that stand, or a list of the small heap as it stands at each turn -/
inductive Itm where
  | ws (l : List W)
  | cell (n k : Nat)
def Itm.num : Itm → Nat
  | .ws l => l.length
  | .cell _ k => k
def Itm.get (I : Itm) (i : Nat) (h : Hh) : Option W := match I with
  | .ws l => l[i]?
  | .cell n _ => match h[n]? with
    | some (.lst l) => l[i]?
    | _ => none
def Itm.fin (I : Itm) (i : Nat) (h : Hh) : Bool := match I with
  | .ws l => decide (l.length ≤ i)
  | .cell n _ => match h[n]? with
    | some (.lst l) => decide (l.length ≤ i)
    | _ => false
/-- what a for walks over a value -/
def itemsOf (w : W) (h : Hh) : Option Itm := match w with
  | .dat (.list l) => some (.ws (l.map .dat))
  | .dat (.tuple l) => some (.ws (l.map .dat))
  | .dat (.str x) => some (.ws (strL x))
  | .ref n => (match h[n]? with
    | some (.lst l) => some (.cell n l.length)
    | _ => none)
  | _ => none
def setAll (e : En) : List Nat → List W → Option En
  | [], [] => some e
  | i :: is, w :: ws => setAll (e.set i (some w)) is ws
  | _, _ => none
def bindT (t : CT) (w : W) (e : En) : Option En := match t with
  | .nam i => some (e.set i (some w))
  | .tup l => match w with
    | .dat (.tuple ds) => setAll e l (ds.map .dat)
    | _ => none
def slotsT : CT → List Nat
  | .nam i => [i]
  | .tup l => l
def wipe (e : En) : List Nat → En
  | [] => e
  | v :: vs => (wipe e vs).set v none
/-- a comprehension's turns -/
def compG (I : Itm) (step : W → Hh → Res (Option W)) : Nat → Nat → Hh → List W → Res (List W)
  | 0, i, h, acc => if I.fin i h then .ok acc h else .bad
  | k + 1, i, h, acc => match I.get i h with
    | some w => (step w h).bind fun o h => match o with
      | some v => if acc.length < sizeL then compG I step k (i + 1) h (acc ++ [v]) else .bad
      | none => compG I step k (i + 1) h acc
    | none => .bad
/-- inside a comprehension nothing is raised -/
def noexc {α : Type} (r : Res α) : Res α := match r with
  | .ok a h => .ok a h
  | _ => .bad

def CEs.len : CEs → Nat
  | .nil => 0
  | .cons _ es => es.len + 1
section
variable (C : Cc)
mutual
def ev : CE → En → Hh → Res W
  | .var i, e, h => (match e[i]? with
    | some (some w) => .ok w h
    | _ => .bad)
  | .glb k, _, h => (match C.glb k with
    | some d => .ok (.dat d) h
    | none => .bad)
  | .cst d, _, h => .ok (.dat d) h
  | .tup es, e, h => (evs es e h).bind fun l h => if l.length ≤ 1000 then mkTup l h else .bad
  | .lst m es, e, h => (evs es e h).bind fun l h => if l.length ≤ 1000 then mkLst m l h else .bad
  | .dct _ .nil .nil, _, h => .ok (.dat (.dict [])) h
  | .dct _ _ _, _, _ => .bad
  | .bin o m a b, e, h => (ev a e h).bind fun x h => (ev b e h).bind fun y h => binop o m x y h
  | .neg a, e, h => (ev a e h).bind fun x h => (match x with
    | .dat (.int i) => .ok (.dat (.int (-i))) h
    | _ => .bad)
  | .not a, e, h => (ev a e h).bind fun x h => (match truth x with
    | some b => .ok (.dat (.bool (!b))) h
    | none => .bad)
  | .bop con es, e, h => ofB (evb con es e h)
  | .cmp o a b, e, h => (ev a e h).bind fun x h => (ev b e h).bind fun y h => rb h (cmpW o x y h)
  | .chn o p a b c, e, h => (ev a e h).bind fun x h => (ev b e h).bind fun y h => (match cmpW o x y h with
    | some true => (ev c e h).bind fun z h => rb h (cmpW p y z h)
    | some false => .ok (.dat (.bool false)) h
    | none => .bad)
  | .ite c a b, e, h => (toB (ev c e h)).bind fun k h => if k = true then ev a e h else ev b e h
  | .idx a i, e, h => (ev a e h).bind fun x h => (ev i e h).bind fun y h => index x y h
  | .slc a lo hi, e, h => (ev a e h).bind fun x h => (evo lo e h).bind fun l h => (evo hi e h).bind fun u h => slice x l u h
  | .rev a, e, h => (ev a e h).bind fun x h => revW x h
  | .fld _ _, _, _ => .bad
  | .call f es, e, h => (evs es e h).bind fun ws h => C.call f ws h
  | .meth _ _ _, _, _ => .bad
  | .mk _ _, _, _ => .bad
  | .isi a t, e, h => (ev a e h).bind fun x h => rb h (tyIs t x)
  | .blt f m es, e, h => (evs es e h).bind fun ws h => builtin f m ws h
  | .bmt f _ a es, e, h => (ev a e h).bind fun x h => if bmIs f x h = true then (evs es e h).bind fun ws h => bmeth f x ws h else .bad
  | .comp m own tg it ifs elt, e, h => (evi it e h).bind fun l h =>
      (compG l (fun w h => match bindT tg w (wipe e (own.map (·.2))) with
        | some e2 => noexc ((evb true ifs e2 h).bind fun k h => if k = true then (ev elt e2 h).bind fun v h => .ok (some v) h else .ok none h)
        | none => .bad) l.num 0 h []).bind fun r h => mkLst m r h
  | .frz _, _, _ => .bad
/-- all of them, or one of them -/
def evb (con : Bool) : CEs → En → Hh → Res Bool
  | .nil, _, h => .ok con h
  | .cons a es, e, h => (toB (ev a e h)).bind fun b h => if b = con then evb con es e h else .ok (!con) h
def evs : CEs → En → Hh → Res (List W)
  | .nil, _, h => .ok [] h
  | .cons a es, e, h => (ev a e h).bind fun x h => (evs es e h).bind fun xs h => .ok (x :: xs) h
def evo : CO → En → Hh → Res (Option Int)
  | .non, _, h => .ok none h
  | .som a, e, h => (ev a e h).bind fun x h => (match x with
    | .dat (.int i) => .ok (some i) h
    | _ => .bad)
def evi : CI → En → Hh → Res Itm
  | .ex a, e, h => (ev a e h).bind fun x h => optR h (itemsOf x h)
  | .rng1 b, e, h => (ev b e h).bind fun x h => (match x with
    | .dat (.int j) => if okR j then .ok (.ws (rngL 0 j)) h else .bad
    | _ => .bad)
  | .rng2 a b, e, h => (ev a e h).bind fun x h => (ev b e h).bind fun y h => (match x, y with
    | .dat (.int i), .dat (.int j) => if okR i && okR j then .ok (.ws (rngL i j)) h else .bad
    | _, _ => .bad)
  | .enm _, _, _ => .bad
  | .zip2 _ _, _, _ => .bad
end
end

/-! ### statements -/
def SR.bind (m : SR) (f : En → Hh → SR) : SR := match m with
  | .nxt e h => f e h
  | .ret w h => .ret w h
  | .exc c e h => .exc c e h
  | .bad => .bad
/-- a caught error -/
def SR.catch (m : SR) (f : Nat → En → Hh → SR) : SR := match m with
  | .nxt e h => .nxt e h
  | .ret w h => .ret w h
  | .exc c e h => f c e h
  | .bad => .bad
/-- behind an except suite: its name goes -/
def SR.suite (i : Nat) (m : SR) : SR := match m with
  | .nxt e h => .nxt (e.set i none) h
  | .ret w h => .ret w h
  | .exc _ _ _ => .bad
  | .bad => .bad
def SR.suite0 (m : SR) : SR := match m with
  | .exc _ _ _ => .bad
  | r => r
def Res.then {α : Type} (m : Res α) (e : En) (f : α → Hh → SR) : SR := match m with
  | .ok a h => f a h
  | .exc c h => .exc c e h
  | .bad => .bad
/-- a for's turns -/
def forG (I : Itm) (step : W → En → Hh → SR) : Nat → Nat → En → Hh → SR
  | 0, i, e, h => if I.fin i h then .nxt e h else .bad
  | k + 1, i, e, h => match I.get i h with
    | some w => (step w e h).bind fun e h => forG I step k (i + 1) e h
    | none => .bad
def forL (step : W → En → Hh → SR) : List W → En → Hh → SR
  | [], e, h => .nxt e h
  | w :: ws, e, h => (step w e h).bind fun e h => forL step ws e h
theorem forG_drop (l : List W) (step : W → En → Hh → SR) : ∀ (k i : Nat) (e : En) (h : Hh), k + i = l.length → forG (.ws l) step k i e h = forL step (l.drop i) e h
  | 0, i, e, h, q => by
    have : i = l.length := by omega
    subst this
    simp [forG, forL, Itm.fin]
  | k + 1, i, e, h, q => by
    have hi : i < l.length := by omega
    rw [List.drop_eq_getElem_cons hi]
    simp only [forG, Itm.get, forL, List.getElem?_eq_getElem hi]
    congr 1
    funext e h
    exact forG_drop l step k (i + 1) e h (by omega)
theorem forG_ws (l : List W) (step : W → En → Hh → SR) (e : En) (h : Hh) : forG (.ws l) step (Itm.ws l).num 0 e h = forL step l e h := by
  have q := forG_drop l step l.length 0 e h (by omega)
  rw [List.drop_zero] at q
  exact q
def compL (step : W → Hh → Res (Option W)) : List W → Hh → List W → Res (List W)
  | [], h, acc => .ok acc h
  | w :: ws, h, acc => (step w h).bind fun o h => match o with
    | some v => if acc.length < sizeL then compL step ws h (acc ++ [v]) else .bad
    | none => compL step ws h acc
theorem compG_drop (l : List W) (step : W → Hh → Res (Option W)) : ∀ (k i : Nat) (h : Hh) (acc : List W), k + i = l.length → compG (.ws l) step k i h acc = compL step (l.drop i) h acc
  | 0, i, h, acc, q => by
    have : i = l.length := by omega
    subst this
    simp [compG, compL, Itm.fin]
  | k + 1, i, h, acc, q => by
    have hi : i < l.length := by omega
    rw [List.drop_eq_getElem_cons hi]
    simp only [compG, Itm.get, compL, List.getElem?_eq_getElem hi]
    congr 1
    funext o h
    cases o with
    | none => exact compG_drop l step k (i + 1) h acc (by omega)
    | some v => simp only [compG_drop l step k (i + 1) h (acc ++ [v]) (by omega)]
theorem compG_ws (l : List W) (step : W → Hh → Res (Option W)) (h : Hh) (acc : List W) : compG (.ws l) step (Itm.ws l).num 0 h acc = compL step l h acc := by
  have q := compG_drop l step l.length 0 h acc (by omega)
  rw [List.drop_zero] at q
  exact q
section
variable (C : Cc)
/-- a value is stored to a target -/
def stor (g : CG) (w : W) (e : En) (h : Hh) : SR := match g with
  | .nam i => .nxt (e.set i (some w)) h
  | .tup l => (match seqOf h w with
    | some ws => (match setAll e l ws with
      | some e => .nxt e h
      | none => .bad)
    | none => .bad)
  | .sub o i => (ev C o e h).then e fun x h => (ev C i e h).then e fun y h => (match setAt x y w h with
    | some h => .nxt e h
    | none => .bad)
  | .fld _ _ => .bad
  | .subnam o i j => (match w with
    | .dat (.tuple [a, b]) => (ev C o e h).then e fun x h => (ev C i e h).then e fun y h => (match setAt x y (.dat a) h with
      | some h => .nxt (e.set j (some (.dat b))) h
      | none => .bad)
    | _ => .bad)
mutual
def ex : CS → En → Hh → SR
  | .pass, e, h => .nxt e h
  | .expr a, e, h => (ev C a e h).then e fun _ h => .nxt e h
  | .ret a, e, h => (ev C a e h).then e fun w h => .ret w h
  | .retN, _, h => .ret (.dat .none) h
  | .asg g a, e, h => (ev C a e h).then e fun w h => stor C g w e h
  | .par i j a b, e, h => (ev C a e h).then e fun v h => (ev C b e h).then e fun w h => .nxt ((e.set i (some v)).set j (some w)) h
  | .setc i a, e, h => (ev C a e h).then e fun w h => .nxt (e.set i (some w)) h
  | .ifs c a b, e, h => (toB (ev C c e h)).then e fun k h => if k = true then exs a e h else exs b e h
  | .whil c b, e, h => C.wh (fun e h => toB (ev C c e h)) (fun e h => exs b e h) e h
  | .for_ tg it b, e, h => (evi C it e h).then e fun l h => forG l (fun w e h => match bindT tg w e with
      | some e => exs b e h
      | none => .bad) l.num 0 e h
  | .rais c, e, h => .exc c e h
  | .tryas c i b s, e, h => (exs b e h).catch fun k e h => if subX k c = true then (exs s (e.set i (some (.exc k))) h).suite i else .exc k e h
  | .try_ c b s, e, h => (exs b e h).catch fun k e h => if subX k c = true then (exs s e h).suite0 else .exc k e h
def exs : CSs → En → Hh → SR
  | .nil, e, h => .nxt e h
  | .cons s ss, e, h => (ex s e h).bind fun e h => exs ss e h
end
end

/-! ### whiles -/
def whN (c : En → Hh → Res Bool) (b : En → Hh → SR) : Nat → En → Hh → SR
  | 0, _, _ => .bad
  | n + 1, e, h => (c e h).then e fun k h => if k = true then (b e h).bind fun e h => whN c b n e h else .nxt e h
theorem whN_mono (c : En → Hh → Res Bool) (b : En → Hh → SR) : ∀ (n : Nat) (e : En) (h : Hh), whN c b n e h ≠ .bad → whN c b (n + 1) e h = whN c b n e h
  | 0, e, h, q => absurd rfl q
  | n + 1, e, h, q => by
    unfold whN at q ⊢
    cases hc : c e h with
    | bad => rfl
    | exc k h' => rfl
    | ok k h' =>
      rw [hc] at q
      cases k with
      | false => rfl
      | true =>
        have q1 : (b e h').bind (fun e h => whN c b n e h) ≠ .bad := q
        show (b e h').bind (fun e h => whN c b (n + 1) e h) = (b e h').bind (fun e h => whN c b n e h)
        cases hb : b e h' with
        | bad => rfl
        | exc _ _ _ => rfl
        | ret _ _ => rfl
        | nxt e2 h2 =>
          rw [hb] at q1
          exact whN_mono c b n e2 h2 q1
theorem whN_le (c : En → Hh → Res Bool) (b : En → Hh → SR) {n m : Nat} (l : n ≤ m) {e : En} {h : Hh} (q : whN c b n e h ≠ .bad) : whN c b m e h = whN c b n e h := by
  induction l with
  | refl => rfl
  | step _ ih => rw [whN_mono c b _ e h (by rw [ih]; exact q), ih]
open Classical in
noncomputable def whM (c : En → Hh → Res Bool) (b : En → Hh → SR) (e : En) (h : Hh) : SR :=
  if q : ∃ n, whN c b n e h ≠ .bad then whN c b (Classical.choose q) e h else .bad
theorem whM_of {c : En → Hh → Res Bool} {b : En → Hh → SR} {n : Nat} {e : En} {h : Hh} (q : whN c b n e h ≠ .bad) : whM c b e h = whN c b n e h := by
  have z : ∃ n, whN c b n e h ≠ .bad := ⟨n, q⟩
  unfold whM
  rw [dif_pos z]
  have q2 := Classical.choose_spec z
  rcases Nat.le_total n (Classical.choose z) with l | l
  · exact whN_le c b l q
  · exact (whN_le c b l q2).symm
theorem whM_get {c : En → Hh → Res Bool} {b : En → Hh → SR} {e : En} {h : Hh} (q : whM c b e h ≠ .bad) : ∃ n, whN c b n e h = whM c b e h := by
  unfold whM at q ⊢
  by_cases z : ∃ n, whN c b n e h ≠ .bad
  · rw [dif_pos z] at q ⊢
    exact ⟨_, rfl⟩
  · rw [dif_neg z] at q
    exact absurd rfl q
theorem whM_eq (c : En → Hh → Res Bool) (b : En → Hh → SR) (e : En) (h : Hh) : whM c b e h = (c e h).then e fun k h => if k = true then (b e h).bind fun e h => whM c b e h else .nxt e h := by
  by_cases z : ∃ n, whN c b n e h ≠ .bad
  · obtain ⟨n, q⟩ := z
    rw [whM_of q]
    cases n with
    | zero => exact absurd rfl q
    | succ n =>
      unfold whN at q ⊢
      cases hc : c e h with
      | bad => rfl
      | exc k h' => rfl
      | ok k h' =>
        rw [hc] at q
        cases k with
        | false => rfl
        | true =>
          have q1 : (b e h').bind (fun e h => whN c b n e h) ≠ .bad := q
          show (b e h').bind (fun e h => whN c b n e h) = (b e h').bind (fun e h => whM c b e h)
          cases hb : b e h' with
          | bad => rfl
          | exc _ _ _ => rfl
          | ret _ _ => rfl
          | nxt e2 h2 =>
            rw [hb] at q1
            exact (whM_of q1).symm
  · have e0 : whM c b e h = .bad := by
      unfold whM
      rw [dif_neg z]
    rw [e0]
    cases hc : c e h with
    | bad => rfl
    | exc k h' => exact absurd ⟨1, by unfold whN; rw [hc]; exact fun q => nomatch q⟩ z
    | ok k h' =>
      cases k with
      | false => exact absurd ⟨1, by unfold whN; rw [hc]; exact fun q => nomatch q⟩ z
      | true =>
        show SR.bad = (b e h').bind (fun e h => whM c b e h)
        cases hb : b e h' with
        | bad => rfl
        | exc _ _ _ => exact absurd ⟨1, by unfold whN; rw [hc]; show (b e h').bind _ ≠ _; rw [hb]; exact fun q => nomatch q⟩ z
        | ret _ _ => exact absurd ⟨1, by unfold whN; rw [hc]; show (b e h').bind _ ≠ _; rw [hb]; exact fun q => nomatch q⟩ z
        | nxt e2 h2 =>
          show SR.bad = whM c b e2 h2
          by_cases q : whM c b e2 h2 = .bad
          · exact q.symm
          · obtain ⟨n, hn⟩ := whM_get q
            exact absurd ⟨n + 1, by unfold whN; rw [hc]; show (b e h').bind _ ≠ _; rw [hb]; show whN c b n e2 h2 ≠ _; rw [hn]; exact q⟩ z

/-! ### defs -/
structure Df where
  name : Str
  cls : Option Nat
  pars : Nat
  many : Nat
  keep : Bool
  body : CSs
def refB (n : Nat) : W → Bool
  | .ref k => decide (k < n)
  | _ => true
def obB (n : Nat) : Ob → Bool
  | .lst l => l.all (refB n)
  | .dct l => l.all fun p => refB n p.2
  | .lck l => l.all fun p => refB n p.2
  | .ins _ fs => fs.all fun p => refB n p.2
  | .tpl l => l.all (refB n)
  | .gone => true
/-- no object names one that isn't there -/
def closedB (h : Hh) : Bool := h.all (obB h.length)
def finish (keep : Bool) (n : Nat) : SR → Res W
  | .ret w h => if keep then .ok w h else match w with
    | .dat d => if closedB (h.take n) then .ok (.dat d) (h.take n) else .bad
    | .ref k => (match h[k]? with
      | some (.lst l) => (match dsOf l with
        | some ds => if decide (n ≤ k) && closedB (h.take n) then .ok (.dat (.list ds)) (h.take n) else .bad
        | none => .bad)
      | _ => .bad)
    | _ => .bad
  | .nxt _ h => if keep then .ok (.dat .none) h else if closedB (h.take n) then .ok (.dat .none) (h.take n) else .bad
  | .exc c _ h => if keep then .exc c h else if closedB (h.take n) then .exc c (h.take n) else .bad
  | .bad => .bad
def start (d : Df) (ws : List W) : En := ws.map some ++ List.replicate (d.many - ws.length) none
def runBy (wh : (En → Hh → Res Bool) → (En → Hh → SR) → En → Hh → SR) (G : Nat → Option D) (T : List Df) : Nat → Nat → List W → Hh → Res W
  | 0, _, _, _ => .bad
  | n + 1, f, ws, h => match T[f]? with
    | some d => if ws.length = d.pars then finish d.keep h.length (exs ⟨G, runBy wh G T n, wh⟩ d.body (start d ws) h) else .bad
    | none => .bad
noncomputable def run (G : Nat → Option D) (T : List Df) (n f : Nat) (ws : List W) (h : Hh) : Res W := runBy whM G T n f ws h
end M
/-! MRel: how the mini language's data and small heap stand in the layer's abstract heap. -/
namespace M
open PySem PySem.Spec PyProof.Rows L2

/-! ### data -/
/-- where the small heap's objects stand; what is being made, which no value names yet -/
structure Mu where
  m : List Addr
  x : List Addr
/-- a tuple of the written part -/
def KT (K : PySem.W.Frag) (a : Addr) (xs : List V) : Prop :=
  ∃ (o : Obj) (its : Array Value) (n : Nat), K.lookup a = some o ∧ o.cls = .type "tuple" ∧ o.data = .seq its n ∧ its.size ≤ sizeLine ∧ Vals xs its.toList
def LstAt (K : PySem.W.Frag) (μ : Mu) (H : Hp) (a : Addr) (xs : List V) : Prop := (a ∉ μ.m ∧ a ∉ μ.x) ∧ Rd H a (.lst xs)
def TupAt (K : PySem.W.Frag) (μ : Mu) (H : Hp) (a : Addr) (xs : List V) : Prop := ((a ∉ μ.m ∧ a ∉ μ.x) ∧ Rd H a (.tup xs)) ∨ KT K a xs
theorem LstAt.sq {K : PySem.W.Frag} {μ : Mu} {H : Hp} {a : Addr} {xs : List V} (h : LstAt K μ H a xs) : SqL K H a xs := .inl h.2
theorem TupAt.sq {K : PySem.W.Frag} {μ : Mu} {H : Hp} {a : Addr} {xs : List V} (h : TupAt K μ H a xs) : SqT K H a xs := h.elim (fun z => .inl z.2) fun z => .inr z

/-- a dict's key -/
def keyD : Key → D
  | .inl i => .int i
  | .inr x => .str x
def DctAt (μ : Mu) (H : Hp) (a : Addr) (kvs : List (Key × V)) : Prop := (a ∉ μ.m ∧ a ∉ μ.x) ∧ Rd H a (.dK kvs)
mutual
inductive VR (K : PySem.W.Frag) (μ : Mu) (H : Hp) : D → V → Prop
  | non : VR K μ H .none .non
  | bl (b : Bool) : VR K μ H (.bool b) (.bl b)
  | int (i : Int) : VR K μ H (.int i) (.int i)
  | str (x : Str) : VR K μ H (.str x) (.str x)
  | lst {a : Addr} {xs : List V} {ds : List D} : LstAt K μ H a xs → VRs K μ H ds xs → VR K μ H (.list ds) (.ref a)
  | tup {a : Addr} {xs : List V} {ds : List D} : TupAt K μ H a xs → VRs K μ H ds xs → VR K μ H (.tuple ds) (.ref a)
  | dct {a : Addr} {kvs : List (Key × V)} {ds : List (D × D)} : DctAt μ H a kvs → VDs K μ H ds kvs → VR K μ H (.dict ds) (.ref a)
inductive VDs (K : PySem.W.Frag) (μ : Mu) (H : Hp) : List (D × D) → List (Key × V) → Prop
  | nil : VDs K μ H [] []
  | cons {d : D} {ds : List (D × D)} {k : Key} {v : V} {vs : List (Key × V)} : VR K μ H d v → VDs K μ H ds vs → VDs K μ H ((keyD k, d) :: ds) ((k, v) :: vs)
inductive VRs (K : PySem.W.Frag) (μ : Mu) (H : Hp) : List D → List V → Prop
  | nil : VRs K μ H [] []
  | cons {d : D} {ds : List D} {v : V} {vs : List V} : VR K μ H d v → VRs K μ H ds vs → VRs K μ H (d :: ds) (v :: vs)
end

/-- what is no lock -/
def Pl : HO → Prop
  | .frz _ _ => False
  | _ => True
/-- from a state on: the small heap may have grown, what is not of it stands -/
structure Stp (μ : Mu) (H : Hp) (μ' : Mu) (H' : Hp) : Prop where
  pre : ∃ t, μ'.m = μ.m ++ t ∧ ∀ a ∈ t, H a = none
  inx : ∀ a ∈ μ.x, a ∈ μ'.x
  oux : ∀ a ∈ μ'.x, a ∈ μ.x ∨ H a = none
  fix : ∀ a ∈ μ.x, H' a = H a
  keep : ∀ a u, a ∉ μ.m → Pl u → Rd H a u → Rd H' a u
  live : ∀ a, H' a = none → H a = none
theorem Rd.some {H : Hp} {a : Addr} {u : HO} (h : Rd H a u) : H a ≠ none := fun e => by
  rcases h with h | ⟨o, h⟩ <;> (rw [e] at h; cases h)
theorem Stp.refl {μ : Mu} {H : Hp} : Stp μ H μ H := ⟨⟨[], by simp, fun _ z => nomatch z⟩, fun _ h => h, fun _ h => .inl h, fun _ _ => rfl, fun _ _ _ _ h => h, fun _ h => h⟩
theorem Stp.out {μ μ' : Mu} {H H' : Hp} (s : Stp μ H μ' H') {a : Addr} (n : a ∉ μ.m) (h : H a ≠ none) : a ∉ μ'.m := by
  obtain ⟨t, e, ht⟩ := s.pre
  intro z
  rw [e] at z
  rcases List.mem_append.mp z with z | z
  · exact n z
  · exact h (ht a z)
theorem Stp.out2 {μ μ' : Mu} {H H' : Hp} (s : Stp μ H μ' H') {a : Addr} (n : a ∉ μ.m ∧ a ∉ μ.x) (h : H a ≠ none) : a ∉ μ'.m ∧ a ∉ μ'.x := ⟨s.out n.1 h, fun z => (s.oux a z).elim n.2 h⟩
theorem Stp.trans {μ μ1 μ2 : Mu} {H H1 H2 : Hp} (s : Stp μ H μ1 H1) (r : Stp μ1 H1 μ2 H2) : Stp μ H μ2 H2 := by
  refine ⟨?_, fun a h => r.inx a (s.inx a h), fun a h => (r.oux a h).elim (s.oux a) fun z => .inr (s.live a z), fun a h => (r.fix a (s.inx a h)).trans (s.fix a h), fun a u n p h => r.keep a u (s.out n (Rd.some h)) p (s.keep a u n p h), fun a h => s.live a (r.live a h)⟩
  obtain ⟨t, e, ht⟩ := s.pre
  obtain ⟨t', e', ht'⟩ := r.pre
  refine ⟨t ++ t', by rw [e', e, List.append_assoc], fun a z => ?_⟩
  rcases List.mem_append.mp z with z | z
  · exact ht a z
  · exact s.live a (ht' a z)
theorem Stp.get {μ μ' : Mu} {H H' : Hp} (s : Stp μ H μ' H') {n : Nat} {a : Addr} (h : μ.m[n]? = some a) : μ'.m[n]? = some a := by
  obtain ⟨t, e, _⟩ := s.pre
  rw [e, List.getElem?_append_left (List.getElem?_eq_some_iff.mp h).1]
  exact h
theorem LstAt.mono {K : PySem.W.Frag} {μ μ' : Mu} {H H' : Hp} {a : Addr} {xs : List V} (h : LstAt K μ H a xs) (s : Stp μ H μ' H') : LstAt K μ' H' a xs :=
  ⟨s.out2 h.1 (Rd.some h.2), s.keep a _ h.1.1 trivial h.2⟩
theorem TupAt.mono {K : PySem.W.Frag} {μ μ' : Mu} {H H' : Hp} {a : Addr} {xs : List V} (h : TupAt K μ H a xs) (s : Stp μ H μ' H') : TupAt K μ' H' a xs := by
  rcases h with ⟨n, h⟩ | h
  · exact .inl ⟨s.out2 n (Rd.some h), s.keep a _ n.1 trivial h⟩
  · exact .inr h
theorem DctAt.mono {μ μ' : Mu} {H H' : Hp} {a : Addr} {kvs : List (Key × V)} (h : DctAt μ H a kvs) (s : Stp μ H μ' H') : DctAt μ' H' a kvs :=
  ⟨s.out2 h.1 (Rd.some h.2), s.keep a _ h.1.1 trivial h.2⟩
mutual
theorem VR.mono {K : PySem.W.Frag} {μ μ' : Mu} {H H' : Hp} (s : Stp μ H μ' H') : ∀ {d : D} {v : V}, VR K μ H d v → VR K μ' H' d v
  | _, _, .non => .non
  | _, _, .bl b => .bl b
  | _, _, .int i => .int i
  | _, _, .str x => .str x
  | _, _, .lst h hs => .lst (h.mono s) (VRs.mono s hs)
  | _, _, .tup h hs => .tup (h.mono s) (VRs.mono s hs)
  | _, _, .dct h hs => .dct (h.mono s) (VDs.mono s hs)
theorem VDs.mono {K : PySem.W.Frag} {μ μ' : Mu} {H H' : Hp} (s : Stp μ H μ' H') : ∀ {ds : List (D × D)} {vs : List (Key × V)}, VDs K μ H ds vs → VDs K μ' H' ds vs
  | _, _, .nil => .nil
  | _, _, .cons h hs => .cons (VR.mono s h) (VDs.mono s hs)
theorem VRs.mono {K : PySem.W.Frag} {μ μ' : Mu} {H H' : Hp} (s : Stp μ H μ' H') : ∀ {ds : List D} {vs : List V}, VRs K μ H ds vs → VRs K μ' H' ds vs
  | _, _, .nil => .nil
  | _, _, .cons h hs => .cons (VR.mono s h) (VRs.mono s hs)
end
/-! data as HandS has it -/
mutual
theorem VR.dp {K : PySem.W.Frag} {μ : Mu} {H : Hp} : ∀ {d : D} {v : V}, VR K μ H d v → d.canLay0 = true → Dp K H v d
  | _, _, .non, _ => .non
  | _, _, .bl b, _ => .bl b
  | _, _, .int i, _ => .int i
  | _, _, .str x, _ => .str x
  | _, _, .lst h hs, c => .lst h.sq (VRs.dp hs (by simpa [PyData.canLay0] using c))
  | _, _, .tup h hs, c => .tup h.sq (VRs.dp hs (by simpa [PyData.canLay0] using c))
  | _, _, .dct h hs, c => by simp [PyData.canLay0] at c
theorem VRs.dp {K : PySem.W.Frag} {μ : Mu} {H : Hp} : ∀ {ds : List D} {vs : List V}, VRs K μ H ds vs → PyData.canLayAll0 ds = true → DpAll K H vs ds
  | _, _, .nil, _ => .nil
  | _, _, .cons h hs, c => by
    have c2 := Bool.and_eq_true_iff.mp (show (PyData.canLay0 _ && PyData.canLayAll0 _) = true from by rw [PyData.canLayAll0] at c; exact c)
    exact .cons (VR.dp h c2.1) (VRs.dp hs c2.2)
end
theorem VRs.len {K : PySem.W.Frag} {μ : Mu} {H : Hp} : ∀ {ds : List D} {vs : List V}, VRs K μ H ds vs → ds.length = vs.length
  | _, _, .nil => rfl
  | _, _, .cons _ hs => by simp [VRs.len hs]

/-! ### values, objects -/
/-- a caught error of the class at C -/
def ExV (C : Addr) (a : Addr) : HO := .ext fun h => ∃ (oe : Obj), h.get? a = some oe ∧ Zc (.ref C) none oe ∧ ∃ vs, oe.data = .fields vs
inductive WR (K : PySem.W.Frag) (ca : Nat → Addr) (μ : Mu) (H : Hp) : W → V → Prop
  | dat {d : D} {v : V} : VR K μ H d v → WR K ca μ H (.dat d) v
  | ref {n : Nat} {a : Addr} : μ.m[n]? = some a → WR K ca μ H (.ref n) (.ref a)
  | exc {c : Nat} {a : Addr} : (a ∉ μ.m ∧ a ∉ μ.x) → Rd H a (ExV (ca c) a) → WR K ca μ H (.exc c) (.ref a)
  | scr {l : List Int} {a : Addr} : (∃ xs, xs = l.map V.int ∧ (((a ∉ μ.m ∧ a ∉ μ.x) ∧ Rd H a (.lst xs)) ∨ ∀ H', SqL K H' a xs)) → WR K ca μ H (.scr l) (.ref a)
abbrev WRs (K : PySem.W.Frag) (ca : Nat → Addr) (μ : Mu) (H : Hp) : List W → List V → Prop := Paired (WR K ca μ H)
section
variable {K : PySem.W.Frag} {ca : Nat → Addr} {μ μ' : Mu} {H H' : Hp}
theorem WR.mono (s : Stp μ H μ' H') {w : W} {v : V} (r : WR K ca μ H w v) : WR K ca μ' H' w v := by
  cases r with
  | dat h => exact .dat (h.mono s)
  | ref h => exact .ref (s.get h)
  | exc n h => exact .exc (s.out2 n (Rd.some h)) (s.keep _ _ n.1 trivial h)
  | scr h =>
    obtain ⟨xs, e, h⟩ := h
    exact .scr ⟨xs, e, h.elim (fun z => .inl ⟨s.out2 z.1 (Rd.some z.2), s.keep _ _ z.1.1 trivial z.2⟩) .inr⟩
theorem WRs.mono (s : Stp μ H μ' H') {ws : List W} {vs : List V} (r : WRs K ca μ H ws vs) : WRs K ca μ' H' ws vs := Paired.mapP r fun _ _ h => WR.mono s h
theorem WRs.of {ds : List D} {vs : List V} (h : VRs K μ H ds vs) : WRs K ca μ H (ds.map .dat) vs := by
  induction ds generalizing vs with
  | nil =>
    cases h
    exact .nil
  | cons d ds ih =>
    cases h with
    | cons h hs => exact .cons (.dat h) (ih hs)
theorem WRs.data : ∀ {ws : List W} {vs : List V} {ds : List D}, WRs K ca μ H ws vs → dsOf ws = some ds → VRs K μ H ds vs
  | [], _, ds, h, e => by
    cases h
    cases e
    exact .nil
  | w :: ws, _, ds, h, e => by
    cases h with
    | cons r rr =>
      cases w with
      | dat d =>
        cases q : dsOf ws with
        | none => simp [dsOf, q] at e
        | some ds' =>
          simp only [dsOf, q, Option.some.injEq] at e
          subst e
          cases r with
          | dat h => exact .cons h (WRs.data rr q)
      | ref n => simp [dsOf] at e
      | exc n => simp [dsOf] at e
      | scr n => simp [dsOf] at e
end
/-- one object of the small heap, at a -/
def ObR (K : PySem.W.Frag) (ca : Nat → Addr) (μ : Mu) (H : Hp) (a : Addr) : Ob → Prop
  | .lst l => ∃ xs, H a = some (.lst xs) ∧ WRs K ca μ H l xs
  | .tpl l => ∃ xs, H a = some (.tup xs) ∧ WRs K ca μ H l xs
  | .ins c fs => ∃ dx fv, H a = some (.ins (ca c) dx fv) ∧ Paired (fun (p : Str × W) (q : Str × V) => p.1 = q.1 ∧ WR K ca μ H p.2 q.2) fs fv
  | .dct _ => False
  | .lck _ => False
  | .gone => True
structure HR (K : PySem.W.Frag) (ca : Nat → Addr) (μ : Mu) (H : Hp) (h : Hh) : Prop where
  len : μ.m.length = h.length
  nd : μ.m.Nodup
  live : ∀ a ∈ μ.m, H a ≠ none
  livx : ∀ a ∈ μ.x, H a ≠ none
  dis : ∀ a ∈ μ.m, a ∉ μ.x
  ob : ∀ (n : Nat) (o : Ob) (a : Addr), h[n]? = some o → μ.m[n]? = some a → ObR K ca μ H a o
section
variable {K : PySem.W.Frag} {ca : Nat → Addr} {μ μ' : Mu} {H H' : Hp} {h : Hh}
theorem nodup_get {α : Type} : ∀ {l : List α} {i j : Nat} {a : α}, l.Nodup → l[i]? = some a → l[j]? = some a → i = j
  | [], i, _, _, _, h, _ => by simp at h
  | x :: l, 0, 0, _, _, _, _ => rfl
  | x :: l, 0, j + 1, a, n, h, g => by
    simp at h g
    subst h
    exact absurd (List.mem_of_getElem? g) (List.nodup_cons.mp n).1
  | x :: l, i + 1, 0, a, n, h, g => by
    simp at h g
    subst g
    exact absurd (List.mem_of_getElem? h) (List.nodup_cons.mp n).1
  | x :: l, i + 1, j + 1, a, n, h, g => by
    simp at h g
    rw [nodup_get (List.nodup_cons.mp n).2 h g]
/-- the object at a changes, a's place n -/
theorem HR.set (r : HR K ca μ H h) {n : Nat} {a : Addr} {o : Ob} {u : HO} (ha : μ.m[n]? = some a) (ho : ∀ s : Stp μ H μ (upd H a u), ObR K ca μ (upd H a u) a o) : Stp μ H μ (upd H a u) ∧ HR K ca μ (upd H a u) (h.set n o) := by
  have st : Stp μ H μ (upd H a u) := by
    refine ⟨⟨[], by simp, fun _ z => nomatch z⟩, fun _ h => h, fun _ h => .inl h, fun b hb => upd_ne fun e => r.dis a (List.mem_of_getElem? ha) (e ▸ hb), fun b v nb _ q => ?_, fun b e => ?_⟩
    · have ne : b ≠ a := fun e => nb (e ▸ List.mem_of_getElem? ha)
      rcases q with q | ⟨x, q⟩
      · exact .inl (by rw [upd_ne ne]; exact q)
      · exact .inr ⟨x, by rw [upd_ne ne]; exact q⟩
    · by_cases eb : b = a
      · subst eb; rw [upd_same] at e; cases e
      · rw [upd_ne eb] at e; exact e
  refine ⟨st, by rw [List.length_set]; exact r.len, r.nd, fun b hb e => ?_, fun b hb e => ?_, r.dis, fun m o' b e1 e2 => ?_⟩
  · exact r.live b hb (st.live b e)
  · exact r.livx b hb (st.live b e)
  · by_cases q : n = m
    · subst q
      rw [ha] at e2
      cases e2
      have hl : n < h.length := by rw [← r.len]; exact (List.getElem?_eq_some_iff.mp ha).1
      rw [List.getElem?_set_self hl] at e1
      cases e1
      exact ho st
    · rw [List.getElem?_set_ne q] at e1
      have ne : b ≠ a := fun e => q (nodup_get r.nd ha (e ▸ e2))
      have z := r.ob m o' b e1 e2
      cases o' with
      | lst l => obtain ⟨xs, y, w⟩ := z; exact ⟨xs, by rw [upd_ne ne]; exact y, WRs.mono st w⟩
      | tpl l => obtain ⟨xs, y, w⟩ := z; exact ⟨xs, by rw [upd_ne ne]; exact y, WRs.mono st w⟩
      | ins c fs => obtain ⟨dx, fv, y, w⟩ := z; exact ⟨dx, fv, by rw [upd_ne ne]; exact y, Paired.mapP w fun _ _ q => ⟨q.1, WR.mono st q.2⟩⟩
      | dct l => exact z.elim
      | lck l => exact z.elim
      | gone => trivial
/-- something new that is not of the small heap -/
theorem Stp.new {p : Addr} {u : HO} (hx : p ∉ μ.x) (hp : H p = none) : Stp μ H μ (upd H p u) := by
  refine ⟨⟨[], by simp, fun _ z => nomatch z⟩, fun _ h => h, fun _ h => .inl h, fun b hb => upd_ne fun e => hx (e ▸ hb), fun b v nb _ q => ?_, fun b e => ?_⟩
  · have ne : b ≠ p := fun e => Rd.some q (e ▸ hp)
    rcases q with q | ⟨x, q⟩
    · exact .inl (by rw [upd_ne ne]; exact q)
    · exact .inr ⟨x, by rw [upd_ne ne]; exact q⟩
  · by_cases eb : b = p
    · subst eb; rw [upd_same] at e; cases e
    · rw [upd_ne eb] at e; exact e
theorem ObR.grow {μ' : Mu} {a : Addr} {o : Ob} (st : Stp μ H μ' H') (ne : H' a = H a) (z : ObR K ca μ H a o) : ObR K ca μ' H' a o := by
  cases o with
  | lst l => obtain ⟨xs, y, w⟩ := z; exact ⟨xs, by rw [ne]; exact y, WRs.mono st w⟩
  | tpl l => obtain ⟨xs, y, w⟩ := z; exact ⟨xs, by rw [ne]; exact y, WRs.mono st w⟩
  | ins c fs => obtain ⟨dx, fv, y, w⟩ := z; exact ⟨dx, fv, by rw [ne]; exact y, Paired.mapP w fun _ _ q => ⟨q.1, WR.mono st q.2⟩⟩
  | dct l => exact z.elim
  | lck l => exact z.elim
  | gone => trivial
theorem HR.nox (r : HR K ca μ H h) {p : Addr} (hp : H p = none) : p ∉ μ.x := fun z => r.livx p z hp
theorem HR.stp (r : HR K ca μ H h) {p : Addr} {u : HO} (hp : H p = none) : Stp μ H μ (upd H p u) := Stp.new (r.nox hp) hp
theorem HR.new (r : HR K ca μ H h) {p : Addr} {u : HO} (hp : H p = none) : HR K ca μ (upd H p u) h :=
  ⟨r.len, r.nd, fun a ha e => r.live a ha ((r.stp (u := u) hp).live a e), fun a ha e => r.livx a ha ((r.stp (u := u) hp).live a e), r.dis, fun n o a e1 e2 =>
    (r.ob n o a e1 e2).grow (r.stp hp) (upd_ne fun e => r.live a (List.mem_of_getElem? e2) (e ▸ hp))⟩
def Mu.add (μ : Mu) (p : Addr) : Mu := ⟨μ.m ++ [p], μ.x⟩
/-- a new object of the small heap -/
theorem HR.push (r : HR K ca μ H h) {p : Addr} {u : HO} {o : Ob} (hp : H p = none) (ho : ∀ s : Stp μ H (μ.add p) (upd H p u), ObR K ca (μ.add p) (upd H p u) p o) : Stp μ H (μ.add p) (upd H p u) ∧ HR K ca (μ.add p) (upd H p u) (h ++ [o]) := by
  have s0 : Stp μ H μ (upd H p u) := r.stp hp
  have st : Stp μ H (μ.add p) (upd H p u) := ⟨⟨[p], rfl, fun a z => by rw [List.mem_singleton.mp z]; exact hp⟩, s0.inx, s0.oux, s0.fix, s0.keep, s0.live⟩
  have np : p ∉ μ.m := fun z => r.live p z hp
  refine ⟨st, by show (μ.m ++ [p]).length = _; rw [List.length_append, List.length_append, r.len]; rfl, ?_, fun a ha e => ?_, fun a ha e => r.livx a ha (st.live a e), fun a ha z => ?_, fun n o' a e1 e2 => ?_⟩
  · show (μ.m ++ [p]).Nodup
    rw [List.nodup_append]
    exact ⟨r.nd, by simp, fun a ha b hb e => by rw [List.mem_singleton.mp hb] at e; exact np (e ▸ ha)⟩
  · rcases List.mem_append.mp ha with ha | ha
    · exact r.live a ha (st.live a e)
    · rw [List.mem_singleton.mp ha, upd_same] at e
      cases e
  · rcases List.mem_append.mp ha with ha | ha
    · exact r.dis a ha z
    · rw [List.mem_singleton.mp ha] at z
      exact r.nox hp z
  · have e2 : (μ.m ++ [p])[n]? = some a := e2
    by_cases q : n < h.length
    · rw [List.getElem?_append_left q] at e1
      rw [List.getElem?_append_left (by rw [r.len]; exact q)] at e2
      exact (r.ob n o' a e1 e2).grow st (upd_ne fun e => np (e ▸ List.mem_of_getElem? e2))
    · have q2 : n = h.length := by
        have := (List.getElem?_eq_some_iff.mp e1).1
        rw [List.length_append] at this
        simp at this
        omega
      subst q2
      rw [List.getElem?_append_right (Nat.le_refl _), Nat.sub_self] at e1
      rw [List.getElem?_append_right (by rw [r.len]; exact Nat.le_refl _), r.len, Nat.sub_self] at e2
      simp at e1 e2
      subst e1 e2
      exact ho st
theorem HR.last (r : HR K ca μ H h) (p : Addr) : (μ.add p).m[h.length]? = some p := by
  show (μ.m ++ [p])[h.length]? = _
  rw [List.getElem?_append_right (by rw [r.len]; exact Nat.le_refl _), r.len, Nat.sub_self]
  rfl
end

/-! ### what is being made -/
/-- one address more that no value names -/
def Mu.hide (μ : Mu) (p : Addr) : Mu := ⟨μ.m, p :: μ.x⟩
section
variable {K : PySem.W.Frag} {ca : Nat → Addr} {μ μ' : Mu} {H H' : Hp} {h : Hh}
/-! what was related ahead of a new address names it not -/
mutual
theorem VR.hide {Y : Addr} (s : ∀ a u, a ≠ Y → Rd H a u → Rd H' a u) (n : ∀ a u, a ∉ μ.m ∧ a ∉ μ.x → Rd H a u → a ≠ Y) (em : μ'.m = μ.m) (ex : ∀ a, a ≠ Y → a ∉ μ.x → a ∉ μ'.x) : ∀ {d : M.D} {v : V}, VR K μ H d v → VR K μ' H' d v
  | _, _, .non => .non
  | _, _, .bl b => .bl b
  | _, _, .int i => .int i
  | _, _, .str x => .str x
  | _, _, .lst h hs => .lst ⟨⟨by rw [em]; exact h.1.1, ex _ (n _ _ h.1 h.2) h.1.2⟩, s _ _ (n _ _ h.1 h.2) h.2⟩ (VRs.hide s n em ex hs)
  | _, _, .tup h hs => .tup (h.elim (fun h => .inl ⟨⟨by rw [em]; exact h.1.1, ex _ (n _ _ h.1 h.2) h.1.2⟩, s _ _ (n _ _ h.1 h.2) h.2⟩) .inr) (VRs.hide s n em ex hs)
  | _, _, .dct h hs => .dct ⟨⟨by rw [em]; exact h.1.1, ex _ (n _ _ h.1 h.2) h.1.2⟩, s _ _ (n _ _ h.1 h.2) h.2⟩ (VDs.hide s n em ex hs)
theorem VDs.hide {Y : Addr} (s : ∀ a u, a ≠ Y → Rd H a u → Rd H' a u) (n : ∀ a u, a ∉ μ.m ∧ a ∉ μ.x → Rd H a u → a ≠ Y) (em : μ'.m = μ.m) (ex : ∀ a, a ≠ Y → a ∉ μ.x → a ∉ μ'.x) : ∀ {ds : List (M.D × M.D)} {vs : List (Key × V)}, VDs K μ H ds vs → VDs K μ' H' ds vs
  | _, _, .nil => .nil
  | _, _, .cons h hs => .cons (VR.hide s n em ex h) (VDs.hide s n em ex hs)
theorem VRs.hide {Y : Addr} (s : ∀ a u, a ≠ Y → Rd H a u → Rd H' a u) (n : ∀ a u, a ∉ μ.m ∧ a ∉ μ.x → Rd H a u → a ≠ Y) (em : μ'.m = μ.m) (ex : ∀ a, a ≠ Y → a ∉ μ.x → a ∉ μ'.x) : ∀ {ds : List M.D} {vs : List V}, VRs K μ H ds vs → VRs K μ' H' ds vs
  | _, _, .nil => .nil
  | _, _, .cons h hs => .cons (VR.hide s n em ex h) (VRs.hide s n em ex hs)
end
theorem WR.hide {D : Addr} (s : ∀ a u, a ≠ D → Rd H a u → Rd H' a u) (n : ∀ a u, a ∉ μ.m ∧ a ∉ μ.x → Rd H a u → a ≠ D) (em : μ'.m = μ.m) (ex : ∀ a, a ≠ D → a ∉ μ.x → a ∉ μ'.x) {w : W} {v : V} (r : WR K ca μ H w v) : WR K ca μ' H' w v := by
  cases r with
  | dat h => exact .dat (h.hide s n em ex)
  | ref h => exact .ref (by rw [em]; exact h)
  | exc m h => exact .exc ⟨by rw [em]; exact m.1, ex _ (n _ _ m h) m.2⟩ (s _ _ (n _ _ m h) h)
  | scr h =>
    obtain ⟨xs, e, h⟩ := h
    exact .scr ⟨xs, e, h.elim (fun z => .inl ⟨⟨by rw [em]; exact z.1.1, ex _ (n _ _ z.1 z.2) z.1.2⟩, s _ _ (n _ _ z.1 z.2) z.2⟩) .inr⟩
/-- the whole heap's relation carried over a change at D alone -/
theorem HR.hide {D : Addr} (r : HR K ca μ H h) (eH : ∀ a, a ≠ D → H' a = H a) (nD : D ∉ μ.m) (lD : D ∈ μ'.x → H' D ≠ none) (n : ∀ a u, a ∉ μ.m ∧ a ∉ μ.x → Rd H a u → a ≠ D) (em : μ'.m = μ.m) (ex : ∀ a, a ≠ D → a ∉ μ.x → a ∉ μ'.x) (ey : ∀ a, a ≠ D → a ∈ μ'.x → a ∈ μ.x) : HR K ca μ' H' h := by
  have dis' : ∀ a ∈ μ'.m, a ∉ μ'.x := fun a ha z => by
    rw [em] at ha
    exact r.dis a ha (ey a (fun e => nD (e ▸ ha)) z)
  have s : ∀ a u, a ≠ D → Rd H a u → Rd H' a u := fun a u ne q => by
    unfold Rd
    rw [eH a ne]
    exact q
  have nm : ∀ a ∈ μ.m, a ≠ D := fun a ha e => nD (e ▸ ha)
  refine ⟨by rw [em]; exact r.len, by rw [em]; exact r.nd, fun a ha => ?_, fun a ha => ?_, dis', fun m o a e1 e2 => ?_⟩
  · rw [em] at ha
    rw [eH a (nm a ha)]
    exact r.live a ha
  · by_cases e : a = D
    · subst e; exact lD ha
    · rw [eH a e]; exact r.livx a (ey a e ha)
  · rw [em] at e2
    have z := r.ob m o a e1 e2
    have ea := eH a (nm a (List.mem_of_getElem? e2))
    cases o with
    | lst l => obtain ⟨xs, y, w⟩ := z; exact ⟨xs, by rw [ea]; exact y, Paired.mapP w fun _ _ q => q.hide s n em ex⟩
    | tpl l => obtain ⟨xs, y, w⟩ := z; exact ⟨xs, by rw [ea]; exact y, Paired.mapP w fun _ _ q => q.hide s n em ex⟩
    | ins c fs => obtain ⟨dx, fv, y, w⟩ := z; exact ⟨dx, fv, by rw [ea]; exact y, Paired.mapP w fun _ _ q => ⟨q.1, q.2.hide s n em ex⟩⟩
    | dct l => exact z.elim
    | lck l => exact z.elim
    | gone => trivial
end

/-! ### the slots -/
structure ER (K : PySem.W.Frag) (ca : Nat → Addr) (μ : Mu) (H : Hp) (e : En) (σ : L2.St) : Prop where
  len : e.length = σ.length
  at_ : ∀ (i : Nat) (w : W), e[i]? = some (some w) → ∃ v, σ[i]? = some (some v) ∧ WR K ca μ H w v
section
variable {K : PySem.W.Frag} {ca : Nat → Addr} {μ μ' : Mu} {H H' : Hp} {e : En} {σ : L2.St}
theorem ER.mono (s : Stp μ H μ' H') (r : ER K ca μ H e σ) : ER K ca μ' H' e σ := ⟨r.len, fun i w h => let ⟨v, a, b⟩ := r.at_ i w h; ⟨v, a, b.mono s⟩⟩
theorem ER.set (r : ER K ca μ H e σ) {i : Nat} {w : W} {v : V} (h : WR K ca μ H w v) : ER K ca μ H (e.set i (some w)) (σ.set i (some v)) := by
  refine ⟨by rw [List.length_set, List.length_set]; exact r.len, fun j x q => ?_⟩
  by_cases z : i = j
  · subst z
    have hl : i < e.length := by
      have := (List.getElem?_eq_some_iff.mp q).1
      rw [List.length_set] at this
      exact this
    rw [List.getElem?_set_self hl] at q
    cases q
    exact ⟨v, List.getElem?_set_self (by rw [← r.len]; exact hl), h⟩
  · rw [List.getElem?_set_ne z] at q
    rw [List.getElem?_set_ne z]
    exact r.at_ j x q
theorem ER.unset (r : ER K ca μ H e σ) (i : Nat) : ER K ca μ H (e.set i none) (σ.set i none) := by
  refine ⟨by rw [List.length_set, List.length_set]; exact r.len, fun j x q => ?_⟩
  by_cases z : i = j
  · subst z
    have hl : i < e.length := by
      have := (List.getElem?_eq_some_iff.mp q).1
      rw [List.length_set] at this
      exact this
    rw [List.getElem?_set_self hl] at q
    cases q
  · rw [List.getElem?_set_ne z] at q
    rw [List.getElem?_set_ne z]
    exact r.at_ j x q
theorem ER.wipe (r : ER K ca μ H e σ) : ∀ vs : List Nat, ER K ca μ H (M.wipe e vs) (L2.wipe σ vs)
  | [] => r
  | v :: vs => (ER.wipe r vs).unset v
end
end M
/-! MRead: readings of the layer made of runs of the mini language. -/
namespace M
open PySem PySem.Spec L2

/-- what must hold of a run's end, so that Q follows, or (an error) E -/
def Out {α β : Type} (K : PySem.W.Frag) (ca : Nat → Addr) (μ : Mu) (H : Hp) (rel : Mu → Hp → α → β → Prop) (Q : β → Hp → Prop) (E : Nat → Hp → Prop) : Res α → Prop
  | .ok a h => ∀ μ' H' b, Stp μ H μ' H' → HR K ca μ' H' h → rel μ' H' a b → Q b H'
  | .exc c h => ∀ μ' H', Stp μ H μ' H' → HR K ca μ' H' h → E c H'
  | .bad => False
section
variable {α β γ δ : Type} {K : PySem.W.Frag} {ca : Nat → Addr} {μ μ' : Mu} {H H' : Hp} {h : Hh} {rel : Mu → Hp → α → β → Prop} {Q Q' : β → Hp → Prop} {E E' : Nat → Hp → Prop}
theorem Out.shift {r : Res α} (o : Out K ca μ H rel Q E r) (s : Stp μ H μ' H') : Out K ca μ' H' rel Q E r := by
  cases r with
  | ok a h => exact fun μ2 H2 b s2 => o μ2 H2 b (s.trans s2)
  | exc c h => exact fun μ2 H2 s2 => o μ2 H2 (s.trans s2)
  | bad => exact o
theorem Out.mono {r : Res α} (o : Out K ca μ H rel Q E r) (hQ : ∀ b H', Q b H' → Q' b H') (hE : ∀ c H', E c H' → E' c H') : Out K ca μ H rel Q' E' r := by
  cases r with
  | ok a h => exact fun μ2 H2 b s2 r2 z => hQ _ _ (o μ2 H2 b s2 r2 z)
  | exc c h => exact fun μ2 H2 s2 r2 => hE _ _ (o μ2 H2 s2 r2)
  | bad => exact o
theorem Out.now {a : α} {b : β} (o : Out K ca μ H rel Q E (.ok a h)) (hr : HR K ca μ H h) (z : rel μ H a b) : Q b H := o μ H b .refl hr z
/-- the first part of a run, the rest kept for behind it -/
theorem Out.bind {relc : Mu → Hp → γ → δ → Prop} {R : δ → Hp → Prop} {m : Res α} {f : α → Hh → Res γ} (o : Out K ca μ H relc R E (m.bind f)) (rel : Mu → Hp → α → β → Prop) :
    Out K ca μ H rel (fun b H1 => ∃ μ1 h1 a, Stp μ H μ1 H1 ∧ HR K ca μ1 H1 h1 ∧ rel μ1 H1 a b ∧ Out K ca μ1 H1 relc R E (f a h1)) E m := by
  cases m with
  | ok a h => exact fun μ2 H2 b s2 r2 z => ⟨μ2, h, a, s2, r2, z, o.shift s2⟩
  | exc c h => exact o
  | bad => exact o
end
/-- a reading: the mini run m from related slots and heap -/
def tI {α β : Type} (K : PySem.W.Frag) (ca : Nat → Addr) (W' : Nat → L2.St → Hp → Prop) (rel : Mu → Hp → α → β → Prop) (m : En → Hh → Res α) : L2.St → Hp → (β → Hp → Prop) → Prop :=
  fun σ H Q => ∃ μ e h, ER K ca μ H e σ ∧ HR K ca μ H h ∧ Out K ca μ H rel Q (fun c H' => W' c σ H') (m e h)
section
variable {α β γ δ : Type} {K : PySem.W.Frag} {ca : Nat → Addr} {μ μ' : Mu} {H H' : Hp} {h : Hh} {e : En} {σ : L2.St} {W' : Nat → L2.St → Hp → Prop} {relc : Mu → Hp → γ → δ → Prop} {R : δ → Hp → Prop} {Q2 : β → Hp → Prop}
theorem tI_mono {K : PySem.W.Frag} {ca : Nat → Addr} {W' : Nat → L2.St → Hp → Prop} {rel : Mu → Hp → α → β → Prop} {m : En → Hh → Res α} {σ : L2.St} {H : Hp} {Q Q' : β → Hp → Prop} (h : tI K ca W' rel m σ H Q) (k : ∀ b H', Q b H' → Q' b H') : tI K ca W' rel m σ H Q' :=
  let ⟨μ, e, hh, er, hr, o⟩ := h
  ⟨μ, e, hh, er, hr, o.mono k fun _ _ z => z⟩
/-- one run, then what hangs on it -/
theorem seqI {m : En → Hh → Res α} {f : α → Hh → Res γ} (rel : Mu → Hp → α → β → Prop) (er : ER K ca μ H e σ) (hr : HR K ca μ H h) (o : Out K ca μ H relc R (fun c H' => W' c σ H') ((m e h).bind f))
    (k : ∀ (μ1 : Mu) (H1 : Hp) (h1 : Hh) (a : α) (b : β), Stp μ H μ1 H1 → ER K ca μ1 H1 e σ → HR K ca μ1 H1 h1 → rel μ1 H1 a b → Out K ca μ1 H1 relc R (fun c H' => W' c σ H') (f a h1) → Q2 b H1) : tI K ca W' rel m σ H Q2 :=
  ⟨μ, e, h, er, hr, (o.bind rel).mono (fun b H1 ⟨μ1, h1, a, s, r1, z, o1⟩ => k μ1 H1 h1 a b s (er.mono s) r1 z o1) fun _ _ z => z⟩
end
abbrev rW (K : PySem.W.Frag) (ca : Nat → Addr) : Mu → Hp → W → V → Prop := WR K ca
abbrev rB : Mu → Hp → Bool → Bool → Prop := fun _ _ a b => a = b
abbrev rWs (K : PySem.W.Frag) (ca : Nat → Addr) : Mu → Hp → List W → List V → Prop := WRs K ca

/-! ### operators by values -/
/-- a two-place operation of the mini language, read on values -/
def rOp (K : PySem.W.Frag) (ca : Nat → Addr) (f : W → W → Hh → Res W) : R2 := fun x y H Q => ∃ μ h a b, HR K ca μ H h ∧ WR K ca μ H a x ∧ WR K ca μ H b y ∧ Out K ca μ H (rW K ca) Q (fun _ _ => False) (f a b h)
section
variable {X : Cx} {ca : Nat → Addr} {μ : Mu} {H : Hp}
theorem WR.of_int {K : PySem.W.Frag} {i : Int} {x : V} (r : WR K ca μ H (.dat (.int i)) x) : x = .int i := by
  cases r with
  | dat h => cases h; rfl
theorem WR.of_str {K : PySem.W.Frag} {z : Str} {x : V} (r : WR K ca μ H (.dat (.str z)) x) : x = .str z := by
  cases r with
  | dat h => cases h; rfl
theorem WR.of_bool {K : PySem.W.Frag} {b : Bool} {x : V} (r : WR K ca μ H (.dat (.bool b)) x) : x = .bl b := by
  cases r with
  | dat h => cases h; rfl
theorem WR.of_none {K : PySem.W.Frag} {x : V} (r : WR K ca μ H (.dat .none) x) : x = .non := by
  cases r with
  | dat h => cases h; rfl
theorem WR.of_list {K : PySem.W.Frag} {ds : List D} {x : V} (r : WR K ca μ H (.dat (.list ds)) x) : ∃ a xs, x = .ref a ∧ LstAt K μ H a xs ∧ VRs K μ H ds xs := by
  cases r with
  | dat h => cases h with
    | lst h hs => exact ⟨_, _, rfl, h, hs⟩
theorem WR.of_tup {K : PySem.W.Frag} {ds : List D} {x : V} (r : WR K ca μ H (.dat (.tuple ds)) x) : ∃ a xs, x = .ref a ∧ TupAt K μ H a xs ∧ VRs K μ H ds xs := by
  cases r with
  | dat h => cases h with
    | tup h hs => exact ⟨_, _, rfl, h, hs⟩
theorem WR.int {K : PySem.W.Frag} {i : Int} : WR K ca μ H (.dat (.int i)) (.int i) := .dat (.int i)
theorem WR.bl {K : PySem.W.Frag} {i : Bool} : WR K ca μ H (.dat (.bool i)) (.bl i) := .dat (.bl i)
theorem WR.str {K : PySem.W.Frag} {i : Str} : WR K ca μ H (.dat (.str i)) (.str i) := .dat (.str i)

theorem sizeL_le {n : Nat} (h : n ≤ sizeL) : n ≤ sizeLine := Nat.le_trans h (by decide)

/-- a fresh tuple of data -/
theorem VR.newTup {K : PySem.W.Frag} {ds : List D} {xs : List V} {p : Addr} (hr : ∃ h, HR K ca μ H h) (hp : H p = none) (h : VRs K μ H ds xs) : VR K μ (upd H p (.tup xs)) (.tuple ds) (.ref p) := by
  obtain ⟨h0, hr⟩ := hr
  exact .tup (.inl ⟨⟨fun z => hr.live p z hp, fun z => hr.livx p z hp⟩, .inl upd_same⟩) (h.mono (hr.stp hp))
theorem VR.newLst {K : PySem.W.Frag} {ds : List D} {xs : List V} {p : Addr} (hr : ∃ h, HR K ca μ H h) (hp : H p = none) (h : VRs K μ H ds xs) : VR K μ (upd H p (.lst xs)) (.list ds) (.ref p) := by
  obtain ⟨h0, hr⟩ := hr
  exact .lst ⟨⟨fun z => hr.live p z hp, fun z => hr.livx p z hp⟩, .inl upd_same⟩ (h.mono (hr.stp hp))
/-- what a display of a tuple hands on -/
theorem out_mkTup {K : PySem.W.Frag} {l : List W} {xs : List V} {h : Hh} {Q : VK} {E : Nat → Hp → Prop} (hr : HR K ca μ H h) (z : WRs K ca μ H l xs) (o : Out K ca μ H (rW K ca) Q E (mkTup l h)) {p : Addr} (hp : H p = none) : Q (.ref p) (upd H p (.tup xs)) := by
  unfold mkTup at o
  cases e : dsOf l with
  | some ds =>
    rw [e] at o
    exact o μ _ _ (hr.stp hp) (hr.new hp) (.dat (VR.newTup ⟨h, hr⟩ hp (z.data e)))
  | none =>
    rw [e] at o
    obtain ⟨s, r⟩ := hr.push (u := .tup xs) (o := .tpl l) hp fun s => ⟨xs, upd_same, z.mono s⟩
    exact o _ _ _ s r (.ref (hr.last p))
theorem out_mkLst {K : PySem.W.Frag} {m : Bool} {l : List W} {xs : List V} {h : Hh} {Q : VK} {E : Nat → Hp → Prop} (hr : HR K ca μ H h) (z : WRs K ca μ H l xs) (o : Out K ca μ H (rW K ca) Q E (mkLst m l h)) {p : Addr} (hp : H p = none) : Q (.ref p) (upd H p (.lst xs)) := by
  have obj : Out K ca μ H (rW K ca) Q E (.ok (.ref h.length) (h ++ [.lst l])) → Q (.ref p) (upd H p (.lst xs)) := fun o => by
    obtain ⟨s, r⟩ := hr.push (u := .lst xs) (o := .lst l) hp fun s => ⟨xs, upd_same, z.mono s⟩
    exact o _ _ _ s r (.ref (hr.last p))
  unfold mkLst at o
  cases m with
  | true => exact obj o
  | false =>
    cases e : dsOf l with
    | some ds =>
      rw [e] at o
      exact o μ _ _ (hr.stp hp) (hr.new hp) (.dat (VR.newLst ⟨h, hr⟩ hp (z.data e)))
    | none =>
      rw [e] at o
      exact obj o
/-- a list or tuple that a value stands for -/
theorem seqOf_ok {K : PySem.W.Frag} {h : Hh} {w : W} {x : V} {l : List W} (hr : HR K ca μ H h) (r : WR K ca μ H w x) (e : seqOf h w = some l) : ∃ a xs, x = .ref a ∧ WRs K ca μ H l xs ∧ (SqL K H a xs ∨ SqT K H a xs) := by
  cases w with
  | dat d =>
    cases d with
    | list ds =>
      obtain ⟨a, xs, rfl, h1, h2⟩ := r.of_list
      cases e
      exact ⟨a, xs, rfl, WRs.of h2, .inl h1.sq⟩
    | tuple ds =>
      obtain ⟨a, xs, rfl, h1, h2⟩ := r.of_tup
      cases e
      exact ⟨a, xs, rfl, WRs.of h2, .inr h1.sq⟩
    | _ => cases e
  | ref n =>
    cases r with
    | ref hn =>
      rename_i a
      cases q : h[n]? with
      | none => simp [seqOf, q] at e
      | some o =>
        have z := hr.ob n o a q hn
        cases o with
        | lst l' =>
          simp only [seqOf, q, Option.some.injEq] at e
          subst e
          obtain ⟨xs, y, w⟩ := z
          exact ⟨a, xs, rfl, w, .inl (SqL.of y)⟩
        | tpl l' =>
          simp only [seqOf, q, Option.some.injEq] at e
          subst e
          obtain ⟨xs, y, w⟩ := z
          exact ⟨a, xs, rfl, w, .inr (SqT.of y)⟩
        | _ => simp [seqOf, q] at e
  | exc c => cases e
  | scr l' =>
    cases r with
    | scr z =>
      obtain ⟨xs, rfl, z⟩ := z
      cases e
      refine ⟨_, _, rfl, ?_, .inl (z.elim (fun q => .inl q.2) fun q => q H)⟩
      clear z hr
      induction l' with
      | nil => exact .nil
      | cons i l ih => exact .cons .int ih
end
end M
/-! MOps: the mini language's operators are the model's. -/
namespace M
open PySem PySem.Spec L2
section
variable {X : Cx} {ca : Nat → Addr}
/-- the goal of an operator: some rule of the layer, and its reading -/
theorem opr_of {f : Value → Value → Sem Value} {r : R2} {g : W → W → Hh → Res W} (h : OpR X f r)
    (k : ∀ (μ : Mu) (hh : Hh) (a b : W) (x y : V) (H : Hp) (Q : VK), HR X.K ca μ H hh → WR X.K ca μ H a x → WR X.K ca μ H b y → Out X.K ca μ H (rW X.K ca) Q (fun _ _ => False) (g a b hh) → r x y H Q) : OpR X f (rOp X.K ca g) :=
  fun pins s σ H x y v u Q I rx ry ⟨μ, hh, a, b, hr, ra, rb, o⟩ => h pins s σ H x y v u Q I rx ry (k μ hh a b x y H Q hr ra rb o)
/-- two frozen or tracked lists added -/
def rCatR : R2 := fun x y H Q => ∃ l b xs zs, x = .ref l ∧ y = .ref b ∧ Rd H l (.lst xs) ∧ Rd H b (.lst zs) ∧ xs.length + zs.length ≤ sizeLine ∧ ∀ p, H p = none → Q (.ref p) (upd H p (.lst (xs ++ zs)))
theorem op_catR : OpR X (binaryOp .Add) rCatR := by
  intro pins s σ H x y v u Q I rx ry ⟨l, b, xs, zs, ex, ey, hl, hb, hz, q⟩
  subst ex
  subst ey
  cases rx
  cases ry
  obtain ⟨_, its, n, r, e⟩ := hl.ok I.hok
  obtain ⟨_, its2, n2, r2, e2⟩ := hb.ok I.hok
  have l1 := r.length
  have l2 := r2.length
  refine PySem.P.add_list e e2 ?_ (by simp only [List.size_toArray]; omega)
  rw [show its.toArray ++ its2.toArray = (its ++ its2).toArray by simp]
  exact ⟨.ref _, _, I.lnew (t' := s.toks) (r.append r2) (by rw [List.length_append]; exact hz), rfl, q _ I.fresh⟩
/-- what + is read as -/
def rAddAll (K : PySem.W.Frag) : R2 := fun x y H Q => rI0 (fun i j => .int (i + j)) x y H Q ∨
  (∃ i j, x = .str i ∧ y = .str j ∧ i.length + j.length ≤ sizeLine ∧ Q (.str (i ++ j)) H) ∨ rCatA K x y H Q ∨ rCatR x y H Q
theorem op_addAll : OpR X (binaryOp .Add) (rAddAll X.K) := op_add.or (op_add_str.or (op_catA.or op_catR))

theorem WRs.app {K : PySem.W.Frag} {μ : Mu} {H : Hp} : ∀ {a b : List W} {xs ys : List V}, WRs K ca μ H a xs → WRs K ca μ H b ys → WRs K ca μ H (a ++ b) (xs ++ ys)
  | _, _, _, _, .nil, h => h
  | _, _, _, _, .cons r t, h => .cons r (WRs.app t h)
theorem VRs.app {K : PySem.W.Frag} {μ : Mu} {H : Hp} : ∀ {a b : List D} {xs ys : List V}, VRs K μ H a xs → VRs K μ H b ys → VRs K μ H (a ++ b) (xs ++ ys)
  | _, _, _, _, .nil, h => h
  | _, _, _, _, .cons r t, h => .cons r (VRs.app t h)
theorem WRs.len {K : PySem.W.Frag} {μ : Mu} {H : Hp} {a : List W} {xs : List V} (h : WRs K ca μ H a xs) : a.length = xs.length := Paired.length h
/-- a list that + takes -/
theorem lst_ok {K : PySem.W.Frag} {μ : Mu} {H : Hp} {h : Hh} {w : W} {x : V} {l : List W} (hr : HR K ca μ H h) (r : WR K ca μ H w x) (nt : ∀ t, w ≠ .dat (.tuple t)) (ns : ∀ t, w ≠ .scr t) (nq : ∀ n t, w = .ref n → h[n]? ≠ some (.tpl t)) (e : seqOf h w = some l) :
    ∃ a xs, x = .ref a ∧ WRs K ca μ H l xs ∧ Rd H a (.lst xs) := by
  cases w with
  | dat d =>
    cases d with
    | list ds =>
      obtain ⟨a, xs, rfl, h1, h2⟩ := r.of_list
      cases e
      exact ⟨a, xs, rfl, WRs.of h2, h1.2⟩
    | tuple ds => exact absurd rfl (nt ds)
    | _ => cases e
  | ref n =>
    cases r with
    | ref hn =>
      rename_i a
      cases q : h[n]? with
      | none => simp [seqOf, q] at e
      | some o =>
        have z := hr.ob n o a q hn
        cases o with
        | lst l' =>
          simp only [seqOf, q, Option.some.injEq] at e
          subst e
          obtain ⟨xs, y, w⟩ := z
          exact ⟨a, xs, rfl, w, .inl y⟩
        | tpl l' => exact absurd q (nq n l' rfl)
        | _ => simp [seqOf, q] at e
  | exc c => cases e
  | scr c => exact absurd rfl (ns c)
theorem lstOf_seq {h : Hh} {w : W} {l : List W} (e : lstOf h w = some l) : seqOf h w = some l ∧ (∀ t, w ≠ .dat (.tuple t)) ∧ (∀ t, w ≠ .scr t) ∧ ∀ n t, w = .ref n → h[n]? ≠ some (.tpl t) := by
  cases w with
  | dat d =>
    cases d with
    | list ds => exact ⟨e, fun _ z => (nomatch z), fun _ z => (nomatch z), fun _ _ z => (nomatch z)⟩
    | _ => cases e
  | ref n =>
    cases q : h[n]? with
    | none => simp [lstOf, q] at e
    | some o =>
      cases o with
      | lst l' => exact ⟨by simpa [lstOf, seqOf, q] using e, fun _ z => (nomatch z), fun _ z => (nomatch z), fun k t z w => by cases z; rw [q] at w; cases w⟩
      | _ => simp [lstOf, q] at e
  | exc c => cases e
  | scr c => cases e
/-- two lists come together -/
theorem cat_ok {K : PySem.W.Frag} {μ : Mu} {H : Hp} {hh : Hh} {Q : VK} {m : Bool} {a b : W} {x y : V} {l : List W} (hr : HR K ca μ H hh) (ra : WR K ca μ H a x) (rb : WR K ca μ H b y)
    (ea : seqOf hh a = some l) (n1 : ∀ t, a ≠ .dat (.tuple t)) (n2 : ∀ t, a ≠ .scr t) (n3 : ∀ n t, a = .ref n → hh[n]? ≠ some (.tpl t)) (o : Out K ca μ H (rW K ca) Q (fun _ _ => False) (catL m hh (some l) (lstOf hh b))) : rCatR x y H Q := by
  cases eb : lstOf hh b with
  | none => rw [eb] at o; exact o.elim
  | some z =>
    rw [eb] at o
    have o1 : Out K ca μ H (rW K ca) Q (fun _ _ => False) (if l.length + z.length ≤ sizeL then mkLst m (l ++ z) hh else .bad) := o
    by_cases hz : l.length + z.length ≤ sizeL
    · rw [if_pos hz] at o1
      obtain ⟨p, xs, rfl, w1, d1⟩ := lst_ok hr ra n1 n2 n3 ea
      obtain ⟨eb', m1, m2, m3⟩ := lstOf_seq eb
      obtain ⟨q, ys, rfl, w2, d2⟩ := lst_ok hr rb m1 m2 m3 eb'
      refine ⟨p, q, xs, ys, rfl, rfl, d1, d2, by rw [← w1.len, ← w2.len]; exact sizeL_le hz, fun a ha => out_mkLst hr (w1.app w2) o1 ha⟩
    · rw [if_neg hz] at o1
      exact o1.elim
theorem ok_add {m : Bool} : OpR X (binaryOp .Add) (rOp X.K ca (addW m)) := by
  refine opr_of op_addAll fun μ hh a b x y H Q hr ra rb o => ?_
  cases a with
  | dat d =>
    cases d with
    | int i =>
      cases b with
      | dat e =>
        cases e with
        | int j => exact .inl ⟨i, j, ra.of_int, rb.of_int, o.now hr .int⟩
        | _ => exact o.elim
      | _ => exact o.elim
    | str i =>
      cases b with
      | dat e =>
        cases e with
        | str j =>
          have o1 : Out X.K ca μ H (rW X.K ca) Q (fun _ _ => False) (if i.length + j.length ≤ sizeL then .ok (.dat (.str (i ++ j))) hh else .bad) := o
          by_cases hz : i.length + j.length ≤ sizeL
          · rw [if_pos hz] at o1
            exact .inr (.inl ⟨i, j, ra.of_str, rb.of_str, sizeL_le hz, o1.now hr .str⟩)
          · rw [if_neg hz] at o1
            exact o1.elim
        | _ => exact o.elim
      | _ => exact o.elim
    | tuple i =>
      cases b with
      | dat e =>
        cases e with
        | tuple j =>
          have o1 : Out X.K ca μ H (rW X.K ca) Q (fun _ _ => False) (if i.length + j.length ≤ sizeL then .ok (.dat (.tuple (i ++ j))) hh else .bad) := o
          by_cases hz : i.length + j.length ≤ sizeL
          · rw [if_pos hz] at o1
            obtain ⟨p, xs, rfl, h1, w1⟩ := ra.of_tup
            obtain ⟨q, ys, rfl, h2, w2⟩ := rb.of_tup
            refine .inr (.inr (.inl ⟨p, q, xs, ys, rfl, rfl, h1.sq, h2.sq, by rw [← w1.len, ← w2.len]; exact sizeL_le hz, fun e => ?_, fun _ e => ?_, fun _ _ t ht => ?_⟩))
            · subst e
              cases w1
              exact o1.now hr rb
            · subst e
              cases w2
              rw [List.append_nil] at o1
              exact o1.now hr ra
            · exact o1 μ _ _ (hr.stp ht) (hr.new ht) (.dat (VR.newTup ⟨hh, hr⟩ ht (w1.app w2)))
          · rw [if_neg hz] at o1
            exact o1.elim
        | _ => exact o.elim
      | _ => exact o.elim
    | list i => exact .inr (.inr (.inr (cat_ok (l := i.map .dat) hr ra rb rfl (fun _ z => nomatch z) (fun _ z => nomatch z) (fun _ _ z => nomatch z) o)))
    | _ => exact o.elim
  | ref n =>
    cases q : hh[n]? with
    | none => simp only [addW, q] at o; exact o.elim
    | some ob =>
      cases ob with
      | lst l =>
        simp only [addW, q] at o
        exact .inr (.inr (.inr (cat_ok (l := l) hr ra rb (by simp [seqOf, q]) (fun _ z => nomatch z) (fun _ z => nomatch z) (fun k t z w => by cases z; rw [q] at w; cases w) o)))
      | _ => simp only [addW, q] at o; exact o.elim
  | _ => exact o.elim
/-- ints alone -/
theorem out_if {α β : Type} {K : PySem.W.Frag} {μ : Mu} {H : Hp} {rel : Mu → Hp → α → β → Prop} {Q : β → Hp → Prop} {E : Nat → Hp → Prop} {c : Bool} {r : Res α} (o : Out K ca μ H rel Q E (if c then r else .bad)) : c = true ∧ Out K ca μ H rel Q E r := by
  cases c with
  | true => exact ⟨rfl, o⟩
  | false => exact o.elim
theorem ints_of {K : PySem.W.Frag} {μ : Mu} {H : Hp} {hh : Hh} {Q : VK} {E : Nat → Hp → Prop} {op : BOp} {m : Bool} (na : op ≠ .add) {a b : W} (o : Out K ca μ H (rW K ca) Q E (binop op m a b hh)) : ∃ i j, a = .dat (.int i) ∧ b = .dat (.int j) ∧ Out K ca μ H (rW K ca) Q E (intop op i j hh) := by
  cases a with
  | dat d =>
    cases d with
    | int i =>
      cases b with
      | dat e =>
        cases e with
        | int j => exact ⟨i, j, rfl, rfl, by cases op <;> first | exact absurd rfl na | exact o⟩
        | _ => cases op <;> first | exact absurd rfl na | exact o.elim
      | _ => cases op <;> first | exact absurd rfl na | exact o.elim
    | _ => cases op <;> first | exact absurd rfl na | exact o.elim
  | _ => cases op <;> first | exact absurd rfl na | exact o.elim
def opA : BOp → Operator
  | .add => .Add
  | .sub => .Sub
  | .mul => .Mult
  | .fdiv => .FloorDiv
  | .mod => .Mod
  | .pow => .Pow
/-- two factors of together less than a hundred million bits -/
def MulV (i j : Int) : Prop := i.natAbs.log2 + j.natAbs.log2 < 100000000
theorem MulV.fine {i j : Int} (c : MulV i j) : IntMulOk i j := by
  have le : ∀ z : Int, Builtin.Int.intBits z ≤ z.natAbs.log2 + 1 := by
    intro z
    unfold Builtin.Int.intBits
    split <;> omega
  have a := le i
  have b := le j
  have c : i.natAbs.log2 + j.natAbs.log2 < 100000000 := c
  have line : bitsLine = 134217728 := by decide
  intro h
  have big := of_decide_eq_true (show decide _ = true from (Bool.and_eq_true_iff.mp h).2)
  rw [line] at big
  omega
theorem op_mulV {X : Cx} : OpR X (binaryOp .Mult) (rI MulV fun i j => .int (i * j)) := opI fun _ _ _ _ _ _ _ c q => PyProof.Rows.mul_int q c.fine
theorem ok_bin {op : BOp} {m : Bool} : OpR X (binaryOp (opA op)) (rOp X.K ca (binop op m)) := by
  cases op with
  | add => exact ok_add
  | sub =>
    refine opr_of op_sub fun μ hh a b x y H Q hr ra rb o => ?_
    obtain ⟨i, j, rfl, rfl, o⟩ := ints_of (by decide) o
    exact ⟨i, j, ra.of_int, rb.of_int, o.now hr .int⟩
  | mul =>
    refine opr_of op_mulV fun μ hh a b x y H Q hr ra rb o => ?_
    obtain ⟨i, j, rfl, rfl, o⟩ := ints_of (by decide) o
    obtain ⟨c, o⟩ := out_if o
    exact ⟨i, j, ra.of_int, rb.of_int, (show i.natAbs.log2 + j.natAbs.log2 < 100000000 from of_decide_eq_true c), o.now hr .int⟩
  | fdiv =>
    refine opr_of op_fdivW fun μ hh a b x y H Q hr ra rb o => ?_
    obtain ⟨i, j, rfl, rfl, o⟩ := ints_of (by decide) o
    obtain ⟨c, o⟩ := out_if o
    have c2 := Bool.and_eq_true_iff.mp c
    exact ⟨i, j, ra.of_int, rb.of_int, ⟨of_decide_eq_true c2.1, of_decide_eq_true c2.2⟩, o.now hr .int⟩
  | mod =>
    refine opr_of op_mod fun μ hh a b x y H Q hr ra rb o => ?_
    obtain ⟨i, j, rfl, rfl, o⟩ := ints_of (by decide) o
    obtain ⟨c, o⟩ := out_if o
    exact ⟨i, j, ra.of_int, rb.of_int, of_decide_eq_true c, o.now hr .int⟩
  | pow =>
    refine opr_of op_pow fun μ hh a b x y H Q hr ra rb o => ?_
    obtain ⟨i, j, rfl, rfl, o⟩ := ints_of (by decide) o
    obtain ⟨c, o⟩ := out_if o
    have c2 := Bool.and_eq_true_iff.mp c
    have c3 := Bool.and_eq_true_iff.mp c2.2
    exact ⟨i, j, ra.of_int, rb.of_int, ⟨of_decide_eq_true c2.1, of_decide_eq_true c3.1, of_decide_eq_true c3.2⟩, o.now hr .int⟩
end
end M
/-! MCmp: the mini language's comparisons are the model's. -/
namespace M
open PySem PySem.Spec L2
def opC : COp → CmpOp
  | .eq => .Eq
  | .ne => .NotEq
  | .lt => .Lt
  | .le => .LtE
  | .gt => .Gt
  | .ge => .GtE
  | .is => .Is
  | .isnt => .IsNot
  | .isin => .In
  | .notin => .NotIn
section
variable {X : Cx} {ca : Nat → Addr}
theorem WR.dp {K : PySem.W.Frag} {μ : Mu} {H : Hp} {d : D} {x : V} (r : WR K ca μ H (.dat d) x) (c : SeqAt.shaped d = true) : Dp K H x d := by
  cases r with
  | dat h => exact h.dp (SeqAt.canLay_of_shaped c)
/-- the answer of a comparison -/
theorem out_rb {K : PySem.W.Frag} {μ : Mu} {H : Hp} {hh : Hh} {Q : VK} {E : Nat → Hp → Prop} {o : Option Bool} (hr : HR K ca μ H hh) (z : Out K ca μ H (rW K ca) Q E (rb hh o)) : ∃ k, o = some k ∧ Q (.bl k) H := by
  cases o with
  | none => exact z.elim
  | some k => exact ⟨k, rfl, z.now hr .bl⟩
theorem eqD_ok {K : PySem.W.Frag} {μ : Mu} {H : Hp} {d e : D} {x y : V} {k : Bool} (rx : WR K ca μ H (.dat d) x) (ry : WR K ca μ H (.dat e) y) (h : eqD d e = some k) :
    (scal x y = true ∧ k = decide (x = y)) ∨ (SeqAt.shaped d = true ∧ SeqAt.shaped e = true ∧ k = PyData.eqv d e) := by
  have gen : (if shp d && shp e then some (PyData.eqv d e) else none) = some k → (SeqAt.shaped d = true ∧ SeqAt.shaped e = true ∧ k = PyData.eqv d e) := fun q => by
    by_cases z : (shp d && shp e) = true
    · rw [if_pos z] at q
      have z2 := Bool.and_eq_true_iff.mp z
      exact ⟨z2.1, z2.2, (Option.some.inj q).symm⟩
    · rw [if_neg z] at q
      cases q
  cases d with
  | int i =>
    cases e with
    | int j =>
      obtain rfl := rx.of_int
      obtain rfl := ry.of_int
      exact .inl ⟨rfl, by rw [← Option.some.inj h]; simp⟩
    | _ => exact .inr (gen h)
  | str i =>
    cases e with
    | str j =>
      obtain rfl := rx.of_str
      obtain rfl := ry.of_str
      exact .inl ⟨rfl, by rw [← Option.some.inj h]; simp⟩
    | _ => exact .inr (gen h)
  | bool i =>
    cases e with
    | bool j =>
      obtain rfl := rx.of_bool
      obtain rfl := ry.of_bool
      exact .inl ⟨rfl, by rw [← Option.some.inj h]; simp⟩
    | _ => exact .inr (gen h)
  | _ => exact .inr (gen (by cases e <;> exact h))
theorem isN_ok {K : PySem.W.Frag} {μ : Mu} {H : Hp} {a : W} {x : V} {k : Bool} (r : WR K ca μ H a x) (h : isC a (.dat .none) = some k) : k = decide (x = .non) := by
  cases r with
  | dat q => cases q <;> (cases h; simp)
  | ref q => cases h; simp
  | exc n q => cases h; simp
  | scr q => cases h; simp
/-- in, over data -/
def rInA (K : PySem.W.Frag) (neg : Bool) : R2 := fun x y H Q => ∃ d ds, Dp K H x d ∧ (Dp K H y (.list ds) ∨ Dp K H y (.tuple ds)) ∧ SeqAt.shaped d = true ∧ SeqAt.shaped (.list ds) = true ∧ Q (.bl (if neg then !(ds.any fun z => PyData.eqv z d) else ds.any fun z => PyData.eqv z d)) H
theorem op_inA (hu : X.A.units + 65 < cLine) : OpR X (compareOp .In) (rInA X.K false) := by
  intro pins s σ H x y v u Q I rx ry h
  obtain ⟨d, ds, hd, he, sd, se, q⟩ := h
  obtain ⟨as, r1⟩ := Dp.reads I d x v hd rx
  rcases he with he | he
  · obtain ⟨bs, r2⟩ := Dp.reads I (.list ds) y u he ry
    exact SeqAt.in_list_reads r2 r1 (SeqAt.canLay_of_shaped se) (SeqAt.canLay_of_shaped sd) (PyProof.Rows.room_in_shaped sd hu) ⟨.bl _, H, I, rfl, q⟩
  · obtain ⟨bs, r2⟩ := Dp.reads I (.tuple ds) y u he ry
    exact SeqAt.in_tuple_reads r2 r1 (SeqAt.canLay_of_shaped se) (SeqAt.canLay_of_shaped sd) (PyProof.Rows.room_in_shaped sd hu) ⟨.bl _, H, I, rfl, q⟩
theorem op_notInA (hu : X.A.units + 65 < cLine) : OpR X (compareOp .NotIn) (rInA X.K true) := by
  intro pins s σ H x y v u Q I rx ry h
  obtain ⟨d, ds, hd, he, sd, se, q⟩ := h
  obtain ⟨as, r1⟩ := Dp.reads I d x v hd rx
  rcases he with he | he
  · obtain ⟨bs, r2⟩ := Dp.reads I (.list ds) y u he ry
    exact SeqAt.notIn_list_reads r2 r1 (SeqAt.canLay_of_shaped se) (SeqAt.canLay_of_shaped sd) (PyProof.Rows.room_in_shaped sd hu) ⟨.bl _, H, I, rfl, q⟩
  · obtain ⟨bs, r2⟩ := Dp.reads I (.tuple ds) y u he ry
    exact SeqAt.notIn_tuple_reads r2 r1 (SeqAt.canLay_of_shaped se) (SeqAt.canLay_of_shaped sd) (PyProof.Rows.room_in_shaped sd hu) ⟨.bl _, H, I, rfl, q⟩
theorem inSeq_ok {d : D} {l : List D} {k : Bool} (h : inSeq d l = some k) : SeqAt.shaped d = true ∧ SeqAt.shaped (.list l) = true ∧ k = l.any fun e => PyData.eqv e d := by
  unfold inSeq at h
  by_cases z : (shp d && shp (.list l)) = true
  · rw [if_pos z] at h
    have z2 := Bool.and_eq_true_iff.mp z
    exact ⟨z2.1, z2.2, (Option.some.inj h).symm⟩
  · rw [if_neg z] at h
    cases h
/-- what in comes to -/
theorem inW_ok {K : PySem.W.Frag} {μ : Mu} {H : Hp} {hh : Hh} {a b : W} {x y : V} {k : Bool} (hr : HR K ca μ H hh) (rx : WR K ca μ H a x) (ry : WR K ca μ H b y) (h : inW hh a b = some k) :
    (∃ i j, x = .str i ∧ y = .str j ∧ k = inStr i j) ∨ ∃ d ds, Dp K H x d ∧ (Dp K H y (.list ds) ∨ Dp K H y (.tuple ds)) ∧ SeqAt.shaped d = true ∧ SeqAt.shaped (.list ds) = true ∧ k = ds.any fun z => PyData.eqv z d := by
  cases a with
  | dat d =>
    cases b with
    | dat e =>
      cases e with
      | str j =>
        cases d with
        | str i => exact .inl ⟨i, j, rx.of_str, ry.of_str, (Option.some.inj h).symm⟩
        | _ => cases h
      | list l =>
        obtain ⟨h1, h2, h3⟩ := inSeq_ok h
        exact .inr ⟨d, l, rx.dp h1, .inl (ry.dp h2), h1, h2, h3⟩
      | tuple l =>
        obtain ⟨h1, h2, h3⟩ := inSeq_ok h
        exact .inr ⟨d, l, rx.dp h1, .inr (ry.dp h2), h1, h2, h3⟩
      | _ => cases h
    | ref n =>
      cases ry with
      | ref hn =>
        rename_i p
        cases q : hh[n]? with
        | none => simp [inW, q] at h
        | some o =>
          have z := hr.ob n o p q hn
          cases o with
          | lst l =>
            cases w : dsOf l with
            | none => simp [inW, q, w] at h
            | some ds =>
              simp only [inW, q, w] at h
              obtain ⟨xs, y1, y2⟩ := z
              obtain ⟨h1, h2, h3⟩ := inSeq_ok h
              exact .inr ⟨d, ds, rx.dp h1, .inl (.lst (SqL.of y1) ((WRs.data y2 w).dp (by have := SeqAt.canLay_of_shaped h2; simpa [PyData.canLay0] using this))), h1, h2, h3⟩
          | _ => simp [inW, q] at h
    | _ => cases h
  | _ => cases h
theorem ord_of {K : PySem.W.Frag} {μ : Mu} {H : Hp} {hh : Hh} {Q : VK} {E : Nat → Hp → Prop} {op : COp} (hop : op = .lt ∨ op = .le ∨ op = .gt ∨ op = .ge) {a b : W} (hr : HR K ca μ H hh) (o : Out K ca μ H (rW K ca) Q E (rb hh (cmpW op a b hh))) :
    ∃ i j k, a = .dat (.int i) ∧ b = .dat (.int j) ∧ intcmp op i j = some k ∧ Q (.bl k) H := by
  obtain ⟨k, e, q⟩ := out_rb hr o
  cases a with
  | dat d =>
    cases d with
    | int i =>
      cases b with
      | dat d2 =>
        cases d2 with
        | int j => exact ⟨i, j, k, rfl, rfl, by rcases hop with rfl | rfl | rfl | rfl <;> exact e, q⟩
        | _ => rcases hop with rfl | rfl | rfl | rfl <;> cases e
      | _ => rcases hop with rfl | rfl | rfl | rfl <;> cases e
    | _ => rcases hop with rfl | rfl | rfl | rfl <;> cases e
  | _ => rcases hop with rfl | rfl | rfl | rfl <;> cases e
theorem map_not {o : Option Bool} {k : Bool} (h : o.map not = some k) : o = some (!k) := by
  cases o with
  | none => cases h
  | some b => cases b <;> cases k <;> first | rfl | cases h
theorem ok_cmp (hu : X.A.units + 65 < cLine) {op : COp} : OpR X (compareOp (opC op)) (rOp X.K ca fun a b h => rb h (cmpW op a b h)) := by
  cases op with
  | eq =>
    refine opr_of (op_eq.or (op_eqD (by omega))) fun μ hh a b x y H Q hr ra rb' o => ?_
    obtain ⟨k, e, q⟩ := out_rb hr o
    cases a with
    | dat d =>
      cases b with
      | dat d2 =>
        rcases eqD_ok ra rb' e with ⟨h1, rfl⟩ | ⟨h1, h2, rfl⟩
        · exact .inl ⟨h1, q⟩
        · exact .inr ⟨d, d2, ra.dp h1, rb'.dp h2, h1, h2, q⟩
      | _ => cases e
    | _ => cases e
  | ne =>
    refine opr_of (op_ne.or (op_neD (by omega))) fun μ hh a b x y H Q hr ra rb' o => ?_
    obtain ⟨k, e, q⟩ := out_rb hr o
    cases a with
    | dat d =>
      cases b with
      | dat d2 =>
        have e2 := map_not (show (eqD d d2).map not = some k from e)
        rcases eqD_ok ra rb' e2 with ⟨h1, h3⟩ | ⟨h1, h2, h3⟩
        · exact .inl ⟨h1, by rw [← h3, Bool.not_not]; exact q⟩
        · exact .inr ⟨d, d2, ra.dp h1, rb'.dp h2, h1, h2, by rw [← h3, Bool.not_not]; exact q⟩
      | _ => cases e
    | _ => cases e
  | lt =>
    refine opr_of op_lt fun μ hh a b x y H Q hr ra rb' o => ?_
    obtain ⟨i, j, k, rfl, rfl, e, q⟩ := ord_of (.inl rfl) hr o
    exact ⟨i, j, ra.of_int, rb'.of_int, by cases e; exact q⟩
  | le =>
    refine opr_of op_le fun μ hh a b x y H Q hr ra rb' o => ?_
    obtain ⟨i, j, k, rfl, rfl, e, q⟩ := ord_of (.inr (.inl rfl)) hr o
    exact ⟨i, j, ra.of_int, rb'.of_int, by cases e; exact q⟩
  | gt =>
    refine opr_of op_gt fun μ hh a b x y H Q hr ra rb' o => ?_
    obtain ⟨i, j, k, rfl, rfl, e, q⟩ := ord_of (.inr (.inr (.inl rfl))) hr o
    exact ⟨i, j, ra.of_int, rb'.of_int, by cases e; exact q⟩
  | ge =>
    refine opr_of op_ge fun μ hh a b x y H Q hr ra rb' o => ?_
    obtain ⟨i, j, k, rfl, rfl, e, q⟩ := ord_of (.inr (.inr (.inr rfl))) hr o
    exact ⟨i, j, ra.of_int, rb'.of_int, by cases e; exact q⟩
  | is =>
    refine opr_of (op_isN.or op_is_bl) fun μ hh a b x y H Q hr ra rb' o => ?_
    obtain ⟨k, e, q⟩ := out_rb hr o
    cases b with
    | dat d =>
      cases d with
      | none => exact .inl ⟨rb'.of_none, by rw [← isN_ok ra e]; exact q⟩
      | bool j =>
        cases a with
        | dat d2 =>
          cases d2 with
          | bool i => exact .inr ⟨i, j, ra.of_bool, rb'.of_bool, by rw [Option.some.inj (show some (decide (i = j)) = some k from e)]; exact q⟩
          | _ => cases e
        | _ => cases e
      | _ => cases e
    | _ => cases e
  | isnt =>
    refine opr_of (op_notN.or op_isnot_bl) fun μ hh a b x y H Q hr ra rb' o => ?_
    obtain ⟨k, e0, q⟩ := out_rb hr o
    have e := map_not (show (isC a b).map not = some k from e0)
    cases b with
    | dat d =>
      cases d with
      | none => exact .inl ⟨rb'.of_none, by rw [← isN_ok ra e, Bool.not_not]; exact q⟩
      | bool j =>
        cases a with
        | dat d2 =>
          cases d2 with
          | bool i => exact .inr ⟨i, j, ra.of_bool, rb'.of_bool, by rw [Option.some.inj (show some (decide (i = j)) = some (!k) from e), Bool.not_not]; exact q⟩
          | _ => cases e
        | _ => cases e
      | _ => cases e
    | _ => cases e
  | isin =>
    refine opr_of (op_in_str.or (op_inA hu)) fun μ hh a b x y H Q hr ra rb' o => ?_
    obtain ⟨k, e, q⟩ := out_rb hr o
    rcases inW_ok hr ra rb' e with ⟨i, j, h1, h2, rfl⟩ | ⟨d, ds, h1, h2, h3, h4, rfl⟩
    · exact .inl ⟨i, j, h1, h2, q⟩
    · exact .inr ⟨d, ds, h1, h2, h3, h4, q⟩
  | notin =>
    refine opr_of (op_notin_str.or (op_notInA hu)) fun μ hh a b x y H Q hr ra rb' o => ?_
    obtain ⟨k, e0, q⟩ := out_rb hr o
    have e := map_not (show (inW hh a b).map not = some k from e0)
    rcases inW_ok hr ra rb' e with ⟨i, j, h1, h2, h3⟩ | ⟨d, ds, h1, h2, h3, h4, h5⟩
    · exact .inl ⟨i, j, h1, h2, by rw [show (!(!(Builtin.Str.occurrences j i 0 j.length 1).isEmpty)) = k by rw [show (!(Builtin.Str.occurrences j i 0 j.length 1).isEmpty) = !k from h3.symm, Bool.not_not]]; exact q⟩
    · exact .inr ⟨d, ds, h1, h2, h3, h4, by rw [if_pos rfl, ← h5, Bool.not_not]; exact q⟩
end
end M
/-! MBlt: built-in functions, subscripts, slices. -/
namespace M
open PySem PySem.Spec L2
/-- a call by values, read by the mini language -/
def rC (K : PySem.W.Frag) (ca : Nat → Addr) (f : List W → Hh → Res W) : List V → Hp → VK → Prop := fun xs H Q => ∃ μ h ws, HR K ca μ H h ∧ WRs K ca μ H ws xs ∧ Out K ca μ H (rW K ca) Q (fun _ _ => False) (f ws h)
section
variable {X : Cx} {ca : Nat → Addr}
theorem cr_of {f : Value} {r : List V → Hp → VK → Prop} {g : List W → Hh → Res W} (h : CallR X f r)
    (k : ∀ (μ : Mu) (hh : Hh) (ws : List W) (xs : List V) (H : Hp) (Q : VK), HR X.K ca μ H hh → WRs X.K ca μ H ws xs → Out X.K ca μ H (rW X.K ca) Q (fun _ _ => False) (g ws hh) → r xs H Q) : CallR X f (rC X.K ca g) :=
  fun pins s σ H xs us Q I r ⟨μ, hh, ws, hr, z, o⟩ => h pins s σ H xs us Q I r (k μ hh ws xs H Q hr z o)
theorem ws1 {K : PySem.W.Frag} {μ : Mu} {H : Hp} {w : W} {xs : List V} (h : WRs K ca μ H [w] xs) : ∃ x, xs = [x] ∧ WR K ca μ H w x := by
  cases h with
  | cons r t => cases t; exact ⟨_, rfl, r⟩
theorem ws2 {K : PySem.W.Frag} {μ : Mu} {H : Hp} {w v : W} {xs : List V} (h : WRs K ca μ H [w, v] xs) : ∃ x y, xs = [x, y] ∧ WR K ca μ H w x ∧ WR K ca μ H v y := by
  cases h with
  | cons r t =>
    obtain ⟨y, rfl, q⟩ := ws1 t
    exact ⟨_, y, rfl, r, q⟩
theorem bools_ok {K : PySem.W.Frag} {μ : Mu} {H : Hp} : ∀ {l : List W} {xs : List V} {bs : List Bool}, WRs K ca μ H l xs → boolsOf l = some bs → xs = bs.map V.bl
  | [], _, _, .nil, e => by cases e; rfl
  | w :: l, _, bs, .cons r t, e => by
    cases q : truth w with
    | none => simp [boolsOf, q] at e
    | some b =>
      cases q2 : boolsOf l with
      | none => simp [boolsOf, q, q2] at e
      | some bs' =>
        simp only [boolsOf, q, q2, Option.some.injEq] at e
        subst e
        rw [List.map_cons, ← bools_ok t q2]
        have z : w = .dat (.bool b) := by
          cases w with
          | dat d => cases d <;> first | (cases q; rfl) | cases q
          | _ => cases q
        subst z
        rw [r.of_bool]
theorem lst_ok2 {K : PySem.W.Frag} {μ : Mu} {H : Hp} {h : Hh} {w : W} {x : V} {l : List W} (hr : HR K ca μ H h) (r : WR K ca μ H w x) (e : lstOf h w = some l) : ∃ a xs, x = .ref a ∧ WRs K ca μ H l xs ∧ SqL K H a xs := by
  obtain ⟨e1, e2, e3, e4⟩ := lstOf_seq e
  obtain ⟨a, xs, h1, h2, h3⟩ := lst_ok hr r e2 e3 e4 e1
  exact ⟨a, xs, h1, h2, .inl h3⟩
theorem ok_abs : CallR X (.builtin "abs") (rC X.K ca (builtin .abs m)) := by
  refine cr_of call_abs fun μ hh ws xs H Q hr z o => ?_
  match ws, z, o with
  | [.dat (.int i)], z, o =>
    obtain ⟨x, rfl, r⟩ := ws1 z
    exact ⟨i, by rw [r.of_int], o.now hr .int⟩
theorem ok_len : CallR X (.builtin "len") (rC X.K ca (builtin .len m)) := by
  refine cr_of call_len fun μ hh ws xs H Q hr z o => ?_
  match ws, z, o with
  | [w], z, o =>
    obtain ⟨x, rfl, r⟩ := ws1 z
    have o1 : Out X.K ca μ H (rW X.K ca) Q (fun _ _ => False) (ri hh ((lenOf hh w).map Int.ofNat)) := o
    cases e : lenOf hh w with
    | none => rw [e] at o1; exact o1.elim
    | some n =>
      rw [e] at o1
      refine ⟨x, n, rfl, ?_, o1.now hr .int⟩
      have sq : (seqOf hh w).map List.length = some n → LenV X.K x H n := fun q => by
        cases q2 : seqOf hh w with
        | none => rw [q2] at q; cases q
        | some l =>
          rw [q2] at q
          obtain ⟨a, ys, rfl, w2, s⟩ := seqOf_ok hr r q2
          have : n = ys.length := by rw [← w2.len]; exact (Option.some.inj q).symm
          exact s.elim (fun s => .inl ⟨ys, s, this⟩) fun s => .inr ⟨ys, s, this⟩
      cases w with
      | dat d =>
        cases d with
        | str y =>
          have e1 : (if y.length ≤ sizeL then some y.length else none) = some n := e
          by_cases hz : y.length ≤ sizeL
          · rw [if_pos hz] at e1
            rw [r.of_str]
            exact ⟨sizeL_le hz, (Option.some.inj e1).symm⟩
          · rw [if_neg hz] at e1
            cases e1
        | _ => exact sq e
      | _ => exact sq e
theorem ok_all (hc : X.calm = true) : CallR X (.builtin "all") (rC X.K ca (builtin .all m)) := by
  refine cr_of (cr_all hc) fun μ hh ws xs H Q hr z o => ?_
  match ws, z, o with
  | [w], z, o =>
    obtain ⟨x, rfl, r⟩ := ws1 z
    obtain ⟨k, e, q⟩ := out_rb hr (show Out X.K ca μ H (rW X.K ca) Q (fun _ _ => False) (rb hh (((lstOf hh w).bind boolsOf).map fun l => l.all id)) from o)
    obtain ⟨bs, e1, e2⟩ := Option.map_eq_some_iff.mp e
    obtain ⟨l, e3, e4⟩ := Option.bind_eq_some_iff.mp e1
    obtain ⟨a, ys, rfl, w2, s⟩ := lst_ok2 hr r e3
    refine ⟨a, bs, rfl, ?_, by rw [e2]; exact q⟩
    rw [← bools_ok w2 e4]
    exact s
theorem ok_any (hc : X.calm = true) : CallR X (.builtin "any") (rC X.K ca (builtin .any m)) := by
  refine cr_of (cr_any hc) fun μ hh ws xs H Q hr z o => ?_
  match ws, z, o with
  | [w], z, o =>
    obtain ⟨x, rfl, r⟩ := ws1 z
    obtain ⟨k, e, q⟩ := out_rb hr (show Out X.K ca μ H (rW X.K ca) Q (fun _ _ => False) (rb hh (((lstOf hh w).bind boolsOf).map fun l => l.any id)) from o)
    obtain ⟨bs, e1, e2⟩ := Option.map_eq_some_iff.mp e
    obtain ⟨l, e3, e4⟩ := Option.bind_eq_some_iff.mp e1
    obtain ⟨a, ys, rfl, w2, s⟩ := lst_ok2 hr r e3
    refine ⟨a, bs, rfl, ?_, by rw [e2]; exact q⟩
    rw [← bools_ok w2 e4]
    exact s
theorem ok_int : CallR X (.type "int") (rC X.K ca (builtin .int m)) := by
  refine cr_of call_int1 fun μ hh ws xs H Q hr z o => ?_
  match ws, z, o with
  | [.dat (.int i)], z, o =>
    obtain ⟨x, rfl, r⟩ := ws1 z
    exact .inl ⟨i, by rw [r.of_int], o.now hr .int⟩
  | [.dat (.bool i)], z, o =>
    obtain ⟨x, rfl, r⟩ := ws1 z
    exact .inr ⟨i, by rw [r.of_bool], o.now hr .int⟩
theorem ok_min2 (hc : X.calm = true) : CallR X (.builtin "min") (rC X.K ca (builtin .min2 m)) := by
  refine cr_of (call_min2 hc) fun μ hh ws xs H Q hr z o => ?_
  match ws, z, o with
  | [.dat (.int i), .dat (.int j)], z, o =>
    obtain ⟨x, y, rfl, r, r2⟩ := ws2 z
    exact ⟨i, j, by rw [r.of_int, r2.of_int], o.now hr .int⟩
theorem ok_max2 (hc : X.calm = true) : CallR X (.builtin "max") (rC X.K ca (builtin .max2 m)) := by
  refine cr_of (call_max2 hc) fun μ hh ws xs H Q hr z o => ?_
  match ws, z, o with
  | [.dat (.int i), .dat (.int j)], z, o =>
    obtain ⟨x, y, rfl, r, r2⟩ := ws2 z
    exact ⟨i, j, by rw [r.of_int, r2.of_int], o.now hr .int⟩
theorem ok_divmod : CallR X (.builtin "divmod") (rC X.K ca (builtin .divmod m)) := by
  refine cr_of call_divmodW fun μ hh ws xs H Q hr z o => ?_
  match ws, z, o with
  | [.dat (.int i), .dat (.int j)], z, o =>
    obtain ⟨x, y, rfl, r, r2⟩ := ws2 z
    obtain ⟨c, o⟩ := out_if o
    have c2 := Bool.and_eq_true_iff.mp c
    refine ⟨i, j, by rw [r.of_int, r2.of_int], ⟨of_decide_eq_true c2.1, PyProof.noPylong_of_log2 (of_decide_eq_true c2.2)⟩, fun p hp => ?_⟩
    exact o μ _ _ (hr.stp hp) (hr.new hp) (.dat (VR.newTup ⟨hh, hr⟩ hp (.cons (.int _) (.cons (.int _) .nil))))
theorem ok_str : CallR X (.type "str") (rC X.K ca (builtin .str m)) := by
  refine cr_of call_str_int fun μ hh ws xs H Q hr z o => ?_
  match ws, z, o with
  | [.dat (.int i)], z, o =>
    obtain ⟨x, rfl, r⟩ := ws1 z
    obtain ⟨c, o⟩ := out_if o
    exact ⟨i, by rw [r.of_int], of_decide_eq_true c, o.now hr (.dat (.str _))⟩
theorem ok_tuple : CallR X (.type "tuple") (rC X.K ca (builtin .tuple m)) := by
  refine cr_of call_tuple_of fun μ hh ws xs H Q hr z o => ?_
  match ws, z, o with
  | [w], z, o =>
    obtain ⟨x, rfl, r⟩ := ws1 z
    have gen : Out X.K ca μ H (rW X.K ca) Q (fun _ _ => False) (match lstOf hh w with
      | some l => mkTup l hh
      | none => .bad) → ∃ p ys, [x] = [V.ref p] ∧ ((SqL X.K H p ys ∧ ∀ l, H l = none → Q (.ref l) (upd H l (.tup ys))) ∨ (SqT X.K H p ys ∧ Q (.ref p) H)) := fun o => by
      cases e : lstOf hh w with
      | none => rw [e] at o; exact o.elim
      | some l =>
        rw [e] at o
        obtain ⟨a, ys, rfl, w2, s⟩ := lst_ok2 hr r e
        exact ⟨a, ys, rfl, .inl ⟨s, fun p hp => out_mkTup hr w2 o hp⟩⟩
    cases w with
    | dat d =>
      cases d with
      | tuple ds =>
        obtain ⟨a, ys, rfl, h1, h2⟩ := r.of_tup
        exact ⟨a, ys, rfl, .inr ⟨h1.sq, o.now hr r⟩⟩
      | _ => exact gen o
    | _ => exact gen o
theorem ok_list : CallR X (.type "list") (rC X.K ca (builtin .list m)) := by
  refine cr_of call_list_of fun μ hh ws xs H Q hr z o => ?_
  match ws, z, o with
  | [w], z, o =>
    obtain ⟨x, rfl, r⟩ := ws1 z
    cases e : seqOf hh w with
    | none => simp only [builtin, e] at o; exact o.elim
    | some l =>
      simp only [builtin, e] at o
      obtain ⟨a, ys, rfl, w2, s⟩ := seqOf_ok hr r e
      exact ⟨a, ys, rfl, s, fun p hp => out_mkLst hr w2 o hp⟩

/-! ### subscripts -/
theorem atI_eq {α : Type} (l : List α) (i : Int) : M.atI l i = L2.atI l i := rfl
theorem WRs.at_ {K : PySem.W.Frag} {μ : Mu} {H : Hp} {l : List W} {xs : List V} {i : Int} {w : W} (z : WRs K ca μ H l xs) (e : M.atI l i = some w) : ∃ v, L2.atI xs i = some v ∧ WR K ca μ H w v := by
  have go : ∀ {l : List W} {xs : List V} {j : Nat}, WRs K ca μ H l xs → l[j]? = some w → ∃ v, xs[j]? = some v ∧ WR K ca μ H w v := by
    intro l xs j z
    induction z generalizing j with
    | nil => intro e; simp at e
    | cons r t ih =>
      intro e
      cases j with
      | zero => simp at e; subst e; exact ⟨_, rfl, r⟩
      | succ j => simpa using ih (by simpa using e)
  obtain ⟨j, e1, e2⟩ := Option.bind_eq_some_iff.mp e
  obtain ⟨v, h1, h2⟩ := go z e2
  refine ⟨v, ?_, h2⟩
  show (ixN xs.length i).bind _ = _
  rw [← z.len]
  rw [show ixN l.length i = some j from e1]
  exact h1
def ixOf (a : W) (i : Int) (hh : Hh) : Option W := match a with
  | .dat (.str x) => (strAt x i).map fun y => .dat (.str y)
  | w => (seqOf hh w).bind fun l => M.atI l i
theorem ok_index : IxR X (rOp X.K ca index) := by
  intro value sl pins s σ H x y v u Q I rx ry h hs
  obtain ⟨μ, hh, a, b, hr, ra, rb', o⟩ := h
  refine ix_seq value sl pins s σ H x y v u Q I rx ry ?_ hs
  cases b with
  | dat d =>
    cases d with
    | int i =>
      obtain rfl := rb'.of_int
      have sq : Out X.K ca μ H (rW X.K ca) Q (fun _ _ => False) (match seqOf hh a with
        | some l => optR hh (M.atI l i)
        | none => .bad) → rIxL X.K x (.int i) H Q ∨ rIxT X.K x (.int i) H Q := fun o => by
        cases e : seqOf hh a with
        | none => rw [e] at o; exact o.elim
        | some l =>
          rw [e] at o
          cases e2 : M.atI l i with
          | none => simp only [e2, optR] at o; exact o.elim
          | some w =>
            simp only [e2, optR] at o
            obtain ⟨p, ys, rfl, w2, s⟩ := seqOf_ok hr ra e
            obtain ⟨z, h1, h2⟩ := w2.at_ e2
            have q := o.now hr h2
            exact s.elim (fun s => .inl ⟨p, ys, i, z, rfl, rfl, s, h1, q⟩) fun s => .inr ⟨p, ys, i, z, rfl, rfl, s, h1, q⟩
      have sq2 : rIxL X.K x (.int i) H Q ∨ rIxT X.K x (.int i) H Q → rIxL X.K x (.int i) H Q ∨ rIxT X.K x (.int i) H Q ∨ rIxS x (.int i) H Q := fun z => z.elim .inl fun z => .inr (.inl z)
      cases a with
      | dat d =>
        cases d with
        | str z =>
          obtain rfl := ra.of_str
          cases e : strAt z i with
          | none => simp only [index, e] at o; exact o.elim
          | some y =>
            simp only [index, e] at o
            unfold strAt at e
            by_cases hz : z.length ≤ sizeL
            · rw [if_pos hz] at e
              obtain ⟨c, e1, e2⟩ := Option.map_eq_some_iff.mp e
              subst e2
              exact .inr (.inr ⟨z, i, c, rfl, rfl, sizeL_le hz, e1, o.now hr .str⟩)
            · rw [if_neg hz] at e
              cases e
        | _ => exact sq2 (sq o)
      | _ => exact sq2 (sq o)
    | _ => exact o.elim
  | _ => exact o.elim

/-! ### slices -/
theorem cutM_eq (n d : Nat) (o : Option Int) : cutM n d o = HT.sIx n d o := by cases o <;> rfl
theorem WRs.drop {K : PySem.W.Frag} {μ : Mu} {H : Hp} : ∀ (n : Nat) {l : List W} {xs : List V}, WRs K ca μ H l xs → WRs K ca μ H (l.drop n) (xs.drop n)
  | 0, _, _, z => z
  | _ + 1, _, _, .nil => .nil
  | n + 1, _, _, .cons _ t => WRs.drop n t
theorem WRs.take {K : PySem.W.Frag} {μ : Mu} {H : Hp} : ∀ (n : Nat) {l : List W} {xs : List V}, WRs K ca μ H l xs → WRs K ca μ H (l.take n) (xs.take n)
  | 0, _, _, _ => .nil
  | _ + 1, _, _, .nil => .nil
  | n + 1, _, _, .cons r t => .cons r (WRs.take n t)
theorem WRs.cut {K : PySem.W.Frag} {μ : Mu} {H : Hp} {l : List W} {xs : List V} (lo hi : Option Int) (z : WRs K ca μ H l xs) : WRs K ca μ H (cutL l lo hi) (cutV xs lo hi) := by
  unfold cutL cutV
  rw [cutM_eq, cutM_eq, z.len]
  exact WRs.take _ (WRs.drop _ z)
theorem VRs.drop {K : PySem.W.Frag} {μ : Mu} {H : Hp} : ∀ (n : Nat) {l : List D} {xs : List V}, VRs K μ H l xs → VRs K μ H (l.drop n) (xs.drop n)
  | 0, _, _, z => z
  | _ + 1, _, _, .nil => .nil
  | n + 1, _, _, .cons _ t => VRs.drop n t
theorem VRs.take {K : PySem.W.Frag} {μ : Mu} {H : Hp} : ∀ (n : Nat) {l : List D} {xs : List V}, VRs K μ H l xs → VRs K μ H (l.take n) (xs.take n)
  | 0, _, _, _ => .nil
  | _ + 1, _, _, .nil => .nil
  | n + 1, _, _, .cons r t => .cons r (VRs.take n t)
theorem VRs.cut {K : PySem.W.Frag} {μ : Mu} {H : Hp} {l : List D} {xs : List V} (lo hi : Option Int) (z : VRs K μ H l xs) : VRs K μ H (cutL l lo hi) (cutV xs lo hi) := by
  unfold cutL cutV
  rw [cutM_eq, cutM_eq, z.len]
  exact VRs.take _ (VRs.drop _ z)
def rSlAll (K : PySem.W.Frag) : V → Option Int → Option Int → Hp → VK → Prop := fun x lo hi H Q => rSlL K x lo hi H Q ∨ rSlA K x lo hi H Q ∨ rSlS x lo hi H Q
theorem sl_all : SlR X (rSlAll X.K) := sl_list.or (sl_tupA.or sl_str)
def rSlM (K : PySem.W.Frag) (ca : Nat → Addr) : V → Option Int → Option Int → Hp → VK → Prop := fun x lo hi H Q => ∃ μ hh a, HR K ca μ H hh ∧ WR K ca μ H a x ∧ Out K ca μ H (rW K ca) Q (fun _ _ => False) (slice a lo hi hh)
theorem ok_slice : SlR X (rSlM X.K ca) := by
  intro pins s σ H x v vl vu lo hi sl Q I rx hs pl pu h
  obtain ⟨μ, hh, a, hr, ra, o⟩ := h
  refine sl_all pins s σ H x v vl vu lo hi sl Q I rx hs pl pu ?_
  cases a with
  | dat d =>
    cases d with
    | tuple l =>
      obtain ⟨p, xs, rfl, h1, h2⟩ := ra.of_tup
      refine .inr (.inl ⟨p, xs, rfl, h1.sq, fun e => ?_, fun _ q hq => ?_⟩)
      · have e2 : cutL l lo hi = l := by
          unfold cutL
          rw [cutM_eq, cutM_eq, h2.len, e.1, e.2, List.drop_zero, Nat.sub_zero, ← h2.len, List.take_length]
        have o1 : Out X.K ca μ H (rW X.K ca) Q (fun _ _ => False) (.ok (.dat (.tuple (cutL l lo hi))) hh) := o
        rw [e2] at o1
        exact o1.now hr ra
      · exact (show Out X.K ca μ H (rW X.K ca) Q (fun _ _ => False) (.ok (.dat (.tuple (cutL l lo hi))) hh) from o) μ _ _ (hr.stp hq) (hr.new hq) (.dat (VR.newTup ⟨hh, hr⟩ hq (h2.cut lo hi)))
    | list l =>
      obtain ⟨p, xs, rfl, h1, h2⟩ := ra.of_list
      exact .inl ⟨p, xs, rfl, h1.sq, fun q hq => (show Out X.K ca μ H (rW X.K ca) Q (fun _ _ => False) (.ok (.dat (.list (cutL l lo hi))) hh) from o) μ _ _ (hr.stp hq) (hr.new hq) (.dat (VR.newLst ⟨hh, hr⟩ hq (h2.cut lo hi)))⟩
    | str z =>
      obtain rfl := ra.of_str
      have o1 : Out X.K ca μ H (rW X.K ca) Q (fun _ _ => False) (if z.length ≤ sizeL then .ok (.dat (.str ⟨(cutL z.cps.toList lo hi).toArray⟩)) hh else .bad) := o
      by_cases hz : z.length ≤ sizeL
      · rw [if_pos hz] at o1
        refine .inr (.inr ⟨z, rfl, sizeL_le hz, ?_⟩)
        have q := o1.now hr .str
        rw [show cutS z lo hi = ⟨(cutL z.cps.toList lo hi).toArray⟩ by unfold cutS cutL; rw [cutM_eq, cutM_eq]; rfl]
        exact q
      · rw [if_neg hz] at o1
        exact o1.elim
    | _ => exact o.elim
  | ref n =>
    cases ra with
    | ref hn =>
      rename_i p
      cases q : hh[n]? with
      | none => simp only [slice, q] at o; exact o.elim
      | some ob =>
        have z := hr.ob n ob p q hn
        cases ob with
        | lst l =>
          simp only [slice, q] at o
          obtain ⟨xs, y1, y2⟩ := z
          exact .inl ⟨p, xs, rfl, SqL.of y1, fun t ht => out_mkLst hr (y2.cut lo hi) o ht⟩
        | _ => simp only [slice, q] at o; exact o.elim
  | scr l =>
    cases ra with
    | scr z =>
      rename_i p
      obtain ⟨xs, rfl, z⟩ := z
      have sq : SqL X.K H p (l.map V.int) := z.elim (fun q => .inl q.2) fun q => q H
      refine .inl ⟨p, _, rfl, sq, fun t ht => ?_⟩
      have vr : ∀ l : List Int, VRs X.K μ H (l.map PyData.int) (l.map V.int) := fun l => by
        induction l with
        | nil => exact .nil
        | cons i l ih => exact .cons (.int i) ih
      have e : cutV (l.map V.int) lo hi = (cutL l lo hi).map V.int := by
        unfold cutL cutV
        rw [cutM_eq, cutM_eq, List.length_map, ← List.map_drop, ← List.map_take]
      rw [e]
      exact (show Out X.K ca μ H (rW X.K ca) Q (fun _ _ => False) (.ok (.dat (.list ((cutL l lo hi).map .int))) hh) from o) μ _ _ (hr.stp ht) (hr.new ht) (.dat (VR.newLst ⟨hh, hr⟩ ht (vr _)))
  | exc c => exact o.elim
end
end M
/-! MBmt: methods of built-in types. -/
namespace M
open PySem PySem.Spec L2
/-- a method's name, its type, the built-in's id, how many arguments -/
def bmName : Mb → Str
  | .append => "append"
  | .join => "join"
  | .upper => "upper"
  | _ => "?"
def bmType : Mb → String
  | .append => "list"
  | .join => "str"
  | .upper => "str"
  | _ => "?"
def bmId : Mb → String
  | .append => "list.append"
  | .join => "str.join"
  | .upper => "str.upper"
  | _ => "?"
def bmMany : Mb → Nat
  | .append => 1
  | .join => 1
  | _ => 0
def rM (K : PySem.W.Frag) (ca : Nat → Addr) (f : W → List W → Hh → Res W) : V → List V → Hp → VK → Prop := fun x xs H Q => ∃ μ h w ws, HR K ca μ H h ∧ WR K ca μ H w x ∧ WRs K ca μ H ws xs ∧ Out K ca μ H (rW K ca) Q (fun _ _ => False) (f w ws h)
section
variable {X : Cx} {ca : Nat → Addr}
theorem mr_of {id : String} {r : V → List V → Hp → VK → Prop} {g : W → List W → Hh → Res W} (h : MtR X id r)
    (k : ∀ (μ : Mu) (hh : Hh) (w : W) (ws : List W) (x : V) (xs : List V) (H : Hp) (Q : VK), HR X.K ca μ H hh → WR X.K ca μ H w x → WRs X.K ca μ H ws xs → Out X.K ca μ H (rW X.K ca) Q (fun _ _ => False) (g w ws hh) → r x xs H Q) : MtR X id (rM X.K ca g) :=
  fun pins s σ H x xs v us Q I r1 r2 ⟨μ, hh, w, ws, hr, z, zs, o⟩ => h pins s σ H x xs v us Q I r1 r2 (k μ hh w ws x xs H Q hr z zs o)
theorem ok_append : MtR X "list.append" (rM X.K ca (bmeth .append)) := by
  refine mr_of mt_append fun μ hh w ws x xs H Q hr z zs o => ?_
  cases w with
  | ref n =>
    cases z with
    | ref hn =>
      rename_i p
      match ws, zs, o with
      | [], _, o => exact o.elim
      | _ :: _ :: _, _, o => exact o.elim
      | [w], zs, o =>
        obtain ⟨y, rfl, r⟩ := ws1 zs
        cases q : hh[n]? with
        | none => simp only [bmeth, q] at o; exact o.elim
        | some ob =>
          cases ob with
          | lst l =>
            simp only [bmeth, q] at o
            obtain ⟨c, o⟩ := out_if o
            obtain ⟨ys, y1, y2⟩ := hr.ob n _ p q hn
            have hl := y2.len
            refine ⟨p, ys, y, rfl, rfl, y1, ?_, ?_⟩
            · have := of_decide_eq_true c
              unfold sizeL at this
              rw [sizeLine_eq]
              omega
            · obtain ⟨st, hr2⟩ := hr.set (o := .lst (l ++ [w])) (u := .lst (ys ++ [y])) hn fun s => ⟨_, upd_same, WRs.app (WRs.mono s y2) (.cons (r.mono s) .nil)⟩
              exact o _ _ _ st hr2 (.dat .non)
          | _ => simp only [bmeth, q] at o; exact o.elim
  | dat d => exact o.elim
  | exc c => exact o.elim
  | scr l => exact o.elim
theorem strs_ok {K : PySem.W.Frag} {μ : Mu} {H : Hp} : ∀ {l : List W} {xs : List V} {ys : List Str}, WRs K ca μ H l xs → strsOf l = some ys → xs = ys.map V.str
  | [], _, _, .nil, e => by cases e; rfl
  | w :: l, _, ys, .cons r t, e => by
    cases w with
    | dat d =>
      cases d with
      | str x =>
        cases q : strsOf l with
        | none => simp [strsOf, q] at e
        | some zs =>
          simp only [strsOf, q, Option.some.injEq] at e
          subst e
          rw [List.map_cons, ← strs_ok t q, r.of_str]
      | _ => simp [strsOf] at e
    | _ => simp [strsOf] at e
theorem ok_join : MtR X "str.join" (rM X.K ca (bmeth .join)) := by
  refine mr_of mt_join fun μ hh w ws x xs H Q hr z zs o => ?_
  cases w with
  | dat d =>
    cases d with
    | str a =>
      obtain rfl := z.of_str
      match ws, zs, o with
      | [], _, o => exact o.elim
      | _ :: _ :: _, _, o => exact o.elim
      | [w], zs, o =>
        obtain ⟨y, rfl, r⟩ := ws1 zs
        cases q : seqOf hh w with
        | none => simp only [bmeth, q] at o; exact o.elim
        | some l =>
          simp only [bmeth, q] at o
          cases q2 : strsOf l with
          | none => simp only [joinW, q2] at o; exact o.elim
          | some ys =>
            simp only [joinW, q2] at o
            obtain ⟨c, o⟩ := out_if o
            obtain ⟨p, vs, rfl, wr, s1⟩ := seqOf_ok hr r q
            have e := strs_ok wr q2
            subst e
            exact ⟨a, p, ys, rfl, rfl, s1, of_decide_eq_true c, o.now hr (.dat (.str _))⟩
    | _ => exact o.elim
  | _ => exact o.elim
theorem ok_upper : MtR X "str.upper" (rM X.K ca (bmeth .upper)) := by
  refine mr_of mt_upper fun μ hh w ws x xs H Q hr z zs o => ?_
  cases w with
  | dat d =>
    cases d with
    | str a =>
      obtain rfl := z.of_str
      match ws, zs, o with
      | _ :: _, _, o => exact o.elim
      | [], zs, o =>
        cases zs
        have o : Out X.K ca μ H (rW X.K ca) Q (fun _ _ => False) (if decide (a.length ≤ 5592405) = true then .ok (.dat (.str (Txt.upper a))) hh else .bad) := o
        obtain ⟨c, o⟩ := out_if o
        exact ⟨a, rfl, rfl, of_decide_eq_true c, o.now hr (.dat (.str _))⟩
    | _ => exact o.elim
  | _ => exact o.elim
/-- what a method of a built-in type must show -/
structure BmOk (X : Cx) (ca : Nat → Addr) (f : Mb) : Prop where
  pa : PlainAttrs (bmType f)
  slot : Slot (bmType f) (bmName f) (bmId f)
  ty : typeOf (.builtin (bmId f)) = pure (.type "method_descriptor")
  run : MtR X (bmId f) (rM X.K ca (bmeth f))
theorem bm_ok {f : Mb} (h : bmName f ≠ "?") : BmOk X ca f := by
  cases f with
  | append => exact ⟨F.plainAttrs_list, F.slot_list_append, F.type_list_append, ok_append⟩
  | join => exact ⟨F.plainAttrs_str, F.slot_str_join, F.type_str_join, ok_join⟩
  | upper => exact ⟨F.plainAttrs_str, F.slot_str_upper, F.type_str_upper, ok_upper⟩
  | _ => exact absurd rfl h
/-- its object's type -/
theorem bm_ty {K : PySem.W.Frag} {μ : Mu} {H : Hp} {hh : Hh} {f : Mb} {w : W} {x : V} (hr : HR K ca μ H hh) (r : WR K ca μ H w x) (h : bmIs f w hh = true) : tyV K (bmType f) x H := by
  cases f with
  | append =>
    cases w with
    | ref n =>
      cases r with
      | ref hn =>
        simp only [bmIs] at h
        cases q : hh[n]? with
        | none => simp [q] at h
        | some ob =>
          cases ob with
          | lst l =>
            obtain ⟨xs, y, _⟩ := hr.ob n _ _ q hn
            exact .inl ⟨rfl, xs, .inl (.inl y)⟩
          | _ => simp [q] at h
    | _ => simp [bmIs] at h
  | join =>
    cases w with
    | dat d =>
      cases d with
      | str a => obtain rfl := r.of_str; rfl
      | _ => simp [bmIs] at h
    | _ => simp [bmIs] at h
  | upper =>
    cases w with
    | dat d =>
      cases d with
      | str a => obtain rfl := r.of_str; rfl
      | _ => simp [bmIs] at h
    | _ => simp [bmIs] at h
  | _ => simp [bmIs] at h
end
end M
/-! MRev: a[::-1] of a list, of a tuple. -/
namespace M
open PySem PySem.Spec PyProof.Rows L2
theorem rev_places (n : Nat) : Builtin.Slice.slicePlaces ((n : Int) - 1) (-1) (-1) = n := by
  unfold Builtin.Slice.slicePlaces
  rw [if_neg (show ¬ ((-1 : Int) > 0) by decide)]
  by_cases z : n = 0
  · subst z; rfl
  · rw [if_pos (show (n : Int) - 1 > -1 by omega), show -(-1 : Int) = 1 from rfl, Int.ediv_one]
    omega
theorem rev_pick (xs : Array Value) : ((List.range xs.size).filterMap fun (m : Nat) => xs[((xs.size : Int) - 1 + (m : Int) * (-1)).toNat]?).toArray = xs.toList.reverse.toArray := by
  congr 1
  have e : ∀ m ∈ List.range xs.size, xs[((xs.size : Int) - 1 + (m : Int) * (-1)).toNat]? = some (xs.toList.reverse.getD m .none) := fun m hm => by
    have hm := List.mem_range.mp hm
    have a : ((xs.size : Int) - 1 + (m : Int) * (-1)).toNat = xs.size - 1 - m := by omega
    have hl : m < xs.toList.reverse.length := by simpa using hm
    rw [a, List.getD_eq_getElem?_getD, List.getElem?_eq_getElem hl, Option.getD_some, List.getElem_reverse, Array.getElem?_eq_getElem (by omega)]
    simp
  have f : ∀ (l : List Nat) (g : Nat → Option Value) (k : Nat → Value), (∀ m ∈ l, g m = some (k m)) → l.filterMap g = l.map k := by
    intro l g k h
    induction l with
    | nil => rfl
    | cons x l ih => rw [List.filterMap_cons, h x List.mem_cons_self, List.map_cons, ih fun y hy => h y (List.mem_cons_of_mem _ hy)]
  rw [f _ _ _ e]
  apply List.ext_getElem
  · simp
  · intro i h1 h2
    simp at h1
    rw [List.getElem_map, List.getElem_range, List.getD_eq_getElem?_getD, List.getElem?_eq_getElem h2, Option.getD_some]
section
variable {prog : Program} {w : World} {A : Around} {E : Value → Shared → Prop} {s : Shared}
theorem applied_rev {sl : Addr} {t : Tok} {n : Nat} {Q : Int × Int × Nat → Shared → Prop} (hs : s.heap.IsSliceOf sl .none .none (.int (-1) t)) (h : Q ((n : Int) - 1, -1, n) s) : wpAny (model prog w) A (Builtin.Slice.sliceApplied (.ref sl) (pure (n : Int))) Q E s := by
  obtain ⟨o, ho, _, hd⟩ := id hs
  unfold Builtin.Slice.sliceApplied Builtin.Slice.sliceFields
  refine wpAny_bind (wpAny_bind (wpAny_field ho hd (x := .none) rfl (wpAny_bind (wpAny_field ho hd (x := .none) rfl (wpAny_bind (wpAny_field ho hd (x := .int (-1) t) rfl (wpAny_pure ?_)))))))
  refine wpAny_bind (HT.slicePart_ (.int (-1) t) ?_)
  show wpAny _ _ (if ((-1 : Int) == 0) = true then _ else _) _ _ s
  rw [if_neg (by decide)]
  refine wpAny_bind (HT.slicePart_ .none (wpAny_bind (HT.slicePart_ .none (wpAny_bind (wpAny_pure ?_)))))
  show wpAny _ _ (match Builtin.Slice.sliceAdjust none none (-1) (n : Int) with | (lo, hi) => pure (lo, (-1 : Int), Builtin.Slice.slicePlaces lo hi (-1))) _ _ s
  have e : Builtin.Slice.sliceAdjust none none (-1) (n : Int) = ((n : Int) - 1, -1) := rfl
  rw [e]
  show wpAny _ _ (pure ((n : Int) - 1, (-1 : Int), Builtin.Slice.slicePlaces ((n : Int) - 1) (-1) (-1))) _ _ s
  rw [rev_places]
  exact wpAny_pure h
theorem tuple_rev {t sl : Addr} {items : Array Value} {k : Tok} {Q : Value → Shared → Prop} (ht : IsTup s.heap t items) (hs : s.heap.IsSliceOf sl .none .none (.int (-1) k))
    (h : Q (.ref s.heap.objs.size) { s with heap := s.heap.push { cls := .type "tuple", data := .seq items.toList.reverse.toArray } }) (hsz : items.size ≤ sizeLine) : wpAny (model prog w) A (getItem (.ref t) (.ref sl)) Q E s := by
  have fits : sizeOk (.seq items.toList.reverse.toArray) := by
    show items.toList.reverse.toArray.size ≤ sizeLine
    rw [List.size_toArray, List.length_reverse, Array.length_toList]
    exact hsz
  obtain ⟨o, ho, hc, _⟩ := id hs
  have isSl : s.TypeIs (.ref sl) "slice" := ⟨o, ho, hc⟩
  unfold getItem
  try with_reducible refine wpAny_holding ?_
  first | refine wpAny_bind (wpAny_pure ?_) | skip
  refine wpAny_bind (wpAny_sequenceKey ht.typeIs (by decide) ?_)
  refine wpAny_bind (wpAny_callSpecial?_slot (name := Str.ofString "__getitem__") ht.typeIs PyProof.Rows.slot_tuple_getitem
    (wpAny_call_entry PyProof.Rows.slot_tuple_getitem ht.typeIs entry_tuple_getitem ?_ (args_tuple_getitem _ _)))
  show wpAny _ _ (Builtin.Tuple.tupleItemsOf (.ref t) >>= _) _ _ s
  refine wpAny_bind (tupleItemsOf_ ht (wpAny_bind (wpAny_typeOf isSl ?_)))
  rw [if_pos (by decide)]
  refine wpAny_bind (applied_rev hs ?_)
  show wpAny _ _ (if (((items.size : Int) - 1 == 0) && ((-1 : Int) == 1) && (items.size == items.size)) = true then _ else _) _ _ s
  rw [if_neg (by simp), rev_pick]
  first
    | exact wpAny_bind (m := Builtin.Tuple.tupleExact _) (wpAny_newObj_type (wpAny_pure ⟨_, rfl, wpAny_pure h⟩) fits)
    | exact wpAny_bind (m := Builtin.Tuple.tupleExact _) (wpAny_newObj_type (wpAny_bind (wpAny_pure (wpAny_pure ⟨_, rfl, wpAny_pure h⟩))) fits)
    | exact wpAny_bind (wpAny_bind (m := Builtin.Tuple.tupleExact _) (wpAny_newObj_type (wpAny_pure (wpAny_pure ⟨_, rfl, wpAny_pure h⟩)) fits))
    | exact wpAny_bind (wpAny_bind (m := Builtin.Tuple.tupleExact _) (wpAny_newObj_type (wpAny_pure ⟨_, rfl, wpAny_pure h⟩) fits))
end
/-- a list's, a tuple's reading -/
def tRev (K : PySem.W.Frag) (te : TE) : TE := fun σ H Q => te σ H fun x H1 => (∃ a xs, x = .ref a ∧ SqL K H1 a xs ∧ ∀ p, H1 p = none → Q (.ref p) (upd H1 p (.lst xs.reverse))) ∨ (∃ a xs, x = .ref a ∧ SqT K H1 a xs ∧ ∀ p, H1 p = none → Q (.ref p) (upd H1 p (.tup xs.reverse)))
section
variable {X : Cx}
theorem pe_rev {e : Expr} {te : TE} {k : Nat} {p1 p2 p3 pos : Pos} (he : PE X e te) : PE X (.Subscript e (.Slice none none (some (.UnaryOp .USub (.Constant (.int 1) k p1) p2)) p3) pos) (tRev X.K te) := by
  constructor
  intro pins s σ H Q I wish
  refine Subscript_ (thn (he.run pins s σ H _ I wish) fun v s1 got => ?_)
  obtain ⟨x, H1, I1, r1, q1⟩ := got
  have step : PO X (some (.UnaryOp .USub (.Constant (.int 1) k p1) p2)) (tPart (tUn (rU fun i => .int (-i)) (tC (.int 1)))) := po_some (pe_un un_neg pe_int)
  refine wpAny_Slice (thn (po_none.run pins s1 σ H1 (fun o G => o = none ∧ G = H1) I1 ⟨rfl, rfl⟩) fun v1 s2 g1 => ?_)
  obtain ⟨_, G, I2, pa1, rfl, rfl⟩ := g1
  refine thn (po_none.run pins s2 σ G (fun o F => o = none ∧ F = G) I2 ⟨rfl, rfl⟩) fun v2 s3 g2 => ?_
  obtain ⟨_, F, I3, pa2, rfl, rfl⟩ := g2
  refine thn (step.run pins s3 σ F (fun o T => o = some (-1) ∧ T = F) I3 ⟨1, rfl, -1, rfl, rfl, rfl⟩) fun v3 s4 g3 => ?_
  obtain ⟨_, T, I4, pa3, rfl, rfl⟩ := g3
  cases pa1
  cases pa2
  cases pa3 with
  | int i tk =>
  have I5 : Inv X pins σ T { s4 with heap := s4.heap.push { cls := .type "slice", data := .fields #[.none, .none, .int (-1) tk] } } := I4.kept (t' := s4.toks) fun b ob q => Heap.get?_push_of_some _ q
  rcases q1 with ⟨a, xs, rfl, hx, go⟩ | ⟨a, xs, rfl, hx, go⟩
  · cases r1
    obtain ⟨its, r, isl, small⟩ := I5.list hx
    have ln := r.length
    show wpAny (model X.prog X.w) X.A (subscriptTail e (.Slice none none (some (.UnaryOp .USub (.Constant (.int 1) k p1) p2)) p3) (.ref a) (.ref s4.heap.objs.size)) (EP X pins σ Q) X.xe _
    refine tail_any (ops := [.ref a, .ref s4.heap.objs.size]) isl.isList.typeIs (PySem.slot_list_getitem.lookup) ?_ (by with_unfolding_all rfl)
    refine wpAny_getItem_list_slice isl.isList (Heap.IsSliceOf.new _ .none .none (.int (-1) tk)) .none .none (.int (-1) tk) (by decide) ?_ (by rw [List.size_toArray]; omega)
    rw [PySem.W.krv_pick]
    exact ⟨.ref _, _, I5.laid (t' := s4.toks) (o := .lst xs.reverse) (fun b ob q => Heap.get?_push_of_some _ q) (Nat.le_refl _) ⟨by rw [List.length_reverse]; exact small, _, 0, r.reverse, Heap.get?_push_size _ rfl⟩, rfl, go _ (I5.hok.fresh (Nat.le_refl _))⟩
  · cases r1
    obtain ⟨its, r, ist, small⟩ := I5.tuple hx
    have ln := r.length
    show wpAny (model X.prog X.w) X.A (subscriptTail e (.Slice none none (some (.UnaryOp .USub (.Constant (.int 1) k p1) p2)) p3) (.ref a) (.ref s4.heap.objs.size)) (EP X pins σ Q) X.xe _
    refine tail_any (ops := [.ref a, .ref s4.heap.objs.size]) ist.typeIs (PyProof.Rows.slot_tuple_getitem.lookup) ?_ (by with_unfolding_all rfl)
    refine tuple_rev ist (Heap.IsSliceOf.new _ .none .none (.int (-1) tk)) ?_ (by rw [List.size_toArray]; omega)
    exact ⟨.ref _, _, I5.laid (t' := s4.toks) (o := .tup xs.reverse) (fun b ob q => Heap.get?_push_of_some _ q) (Nat.le_refl _) ⟨by rw [List.length_reverse]; exact small, _, r.reverse, _, Heap.get?_push_size _ rfl, rfl, 0, rfl⟩, rfl, go _ (I5.hok.fresh (Nat.le_refl _))⟩
end
end M
/-! MChk: whether an expression of the text is one of the mini language. -/
namespace M
open PySem PySem.Spec L2
/-- what is written at the top: defs, constants, the built-in names that stay, the errors' classes -/
structure Sg where
  T : List Df
  glbs : List (Str × D)
  frees : List Str
  excs : List Str
  plain : List Str
  calm : Bool := true
def Sg.at (S : Sg) (b : Bool) : Sg := { S with calm := b }
def Sg.glb (S : Sg) (k : Nat) : Option D := (S.glbs[k]?).map (·.2)

def visB (sc : Scope) (x : Str) : Bool := match sc.names.lookup x with
  | some .local => true
  | some .cell => true
  | some .free => true
  | _ => false
def locB (sc : Scope) (x : Str) : Bool := decide (sc.names.lookup x = some .local)
def gloB (sc : Scope) (x : Str) : Bool := decide (sc.names.lookup x = some .globalImplicit)
def plainB (x : Str) : Bool := !(x == ("__debug__" : Str)) && (!(x == ("__classdict__" : Str)) && decide (x ≠ ("__name__" : Str)))
def cstB : D → Const → Bool
  | .none, .none => true
  | .bool a, .bool b => decide (a = b)
  | .int a, .int b => decide (a = b)
  | .str a, .str b => decide (a = b)
  | _, _ => false
/-- a built-in by its name; how many arguments -/
def fbName : Fb → Str
  | .abs => "abs"
  | .len => "len"
  | .all => "all"
  | .any => "any"
  | .int => "int"
  | .min2 => "min"
  | .max2 => "max"
  | .divmod => "divmod"
  | .tuple => "tuple"
  | .list => "list"
  | .str => "str"
  | _ => "?"
def fbMany : Fb → Nat
  | .min2 => 2
  | .max2 => 2
  | .divmod => 2
  | _ => 1
def tyName : Ty → Str
  | .int => "int"
  | .bool => "bool"
  | .str => "str"
  | .tuple => "tuple"
  | .list => "list"
  | .dict => "dict"
  | _ => "?"
def freeB (S : Sg) (x : Str) : Bool := decide (x ∈ S.frees)
/-- a class that isinstance asks -/
def tyB (S : Sg) (t : Ty) (y : Str) : Bool := match t with
  | .exc c => decide (S.excs[c]? = some y)
  | .verr => decide (y = "ValueError") && (freeB S y && !S.excs.isEmpty)
  | t => decide (tyName t = y) && (decide (y ≠ "?") && freeB S y)
/-- no super() -/
def baseB : Expr → Bool
  | .Call (.Name _ _) [] [] _ => false
  | _ => true
def lineB (pos epos : Pos) : Bool := true
section
variable (S : Sg) (N : List Str)
/-- a target of a loop or a comprehension -/
def celB (sc : Scope) (x : Str) : Bool := decide (sc.names.lookup x = some .cell)
def namB (cl : Bool) (sc : Scope) (i : Nat) (x : Str) : Bool := decide (N[i]? = some x) && (locB sc x || (cl && celB sc x))
def namsB (cl : Bool) (sc : Scope) : List Nat → List Expr → Bool
  | [], [] => true
  | i :: is, .Name x _ :: es => namB N cl sc i x && namsB cl sc is es
  | _, _ => false
def chkT (cl : Bool) (sc : Scope) : CT → Expr → Bool
  | .nam i, .Name x _ => namB N cl sc i x
  | .tup l, .Tuple es _ _ => namsB N cl sc l es
  | _, _ => false
mutual
def chkE : Scope → CE → Expr → Bool
  | sc, .var i, .Name x _ => decide (N[i]? = some x) && (visB sc x && plainB x)
  | sc, .glb k, .Name x _ => decide ((S.glbs[k]?).map (·.1) = some x) && (gloB sc x && plainB x)
  | _, .cst d, .Constant c _ _ => cstB d c
  | sc, .tup es, .Tuple l _ _ => chkEs sc es l
  | sc, .lst _ es, .List l _ => chkEs sc es l
  | sc, .bin o _ a b, .BinOp l op r _ => decide (op = opA o) && (chkE sc a l && chkE sc b r)
  | sc, .neg a, .UnaryOp op e _ => decide (op = .USub) && chkE sc a e
  | sc, .not a, .UnaryOp op e _ => decide (op = .Not) && chkE sc a e
  | sc, .bop con es, .BoolOp op l _ => decide (op = if con then .And else .Or) && (!l.isEmpty && chkEs sc es l)
  | sc, .cmp o a b, .Compare l [op] [r] _ => decide (op = opC o) && (!behindInMarks op r && (chkE sc a l && chkE sc b r))
  | sc, .chn o p a b c, .Compare l [op, op'] [r, r'] _ => decide (op = opC o) && (decide (op' = opC p) && (!lastMarks [op, op'] [r, r'] && (chkE sc a l && (chkE sc b r && chkE sc c r'))))
  | sc, .ite c a b, .IfExp t x y _ => chkE sc c t && (chkE sc a x && chkE sc b y)
  | sc, .idx a i, .Subscript e s _ => chkE sc a e && chkE sc i s
  | sc, .slc a lo hi, .Subscript e (.Slice l u none _) _ => chkE sc a e && (chkO sc lo l && chkO sc hi u)
  | sc, .rev a, .Subscript e (.Slice none none (some (.UnaryOp op (.Constant (.int i) _ _) _)) _) _ => decide (op = .USub) && (decide (i = 1) && chkE sc a e)
  | sc, .call f es, .Call (.Name x _) l [] _ => (match S.T[f]? with
    | some d => decide (d.cls = none) && (decide (d.name = x) && decide (es.len = d.pars))
    | none => false) && (gloB sc x && (plainB x && (!l.isEmpty && (S.calm && chkEs sc es l))))
  | sc, .blt fb _ es, .Call (.Name x _) l [] _ => decide (fbName fb = x) && (decide (x ≠ "?") && (decide (es.len = fbMany fb) && (freeB S x && (gloB sc x && (!l.isEmpty && ((S.calm || decide (fb = .int)) && chkEs sc es l))))))
  | _, .dct _ .nil .nil, .Dict [] [] _ => true
  | sc, .bmt f _ a es, .Call (.Attribute o x apos) l [] cpos => decide (bmName f = x) && (decide (x ≠ "?") && (decide (apos.endLine = cpos.line) && (baseB o && (decide (l.length < 30) && (decide (es.len = bmMany f) && (decide (l.length = bmMany f) && (chkE sc a o && chkEs sc es l)))))))
  | sc, .isi a t, .Call (.Name f _) [e, .Name y _] [] _ => decide (f = "isinstance") && (freeB S f && (gloB sc f && (tyB S t y && (gloB sc y && (plainB y && chkE sc a e)))))
  | sc, .comp _ own tg it ifs elt, .ListComp e [⟨t, i, l, asy⟩] scope _ => decide (asy = 0) && (blkC N sc scope own && ((slotsT tg).all (fun j => decide (j ∈ own.map (·.2))) && (chkI sc it i && (chkT N false (relS scope sc) tg t && (chkEs (relS scope sc) ifs l && (decide (ifs.len ≤ 1) && (S.calm && chkE (relS scope sc) elt e)))))))
  | _, _, _ => false
def chkEs : Scope → CEs → List Expr → Bool
  | _, .nil, [] => true
  | sc, .cons a es, e :: l => chkE sc a e && chkEs sc es l
  | _, _, _ => false
def chkO : Scope → CO → Option Expr → Bool
  | _, .non, none => true
  | sc, .som a, some e => chkE sc a e
  | _, _, _ => false
def chkI : Scope → CI → Expr → Bool
  | sc, .ex a, e => chkE sc a e
  | sc, .rng1 b, .Call (.Name f _) [e] [] _ => decide (f = "range") && (freeB S f && (gloB sc f && chkE sc b e))
  | sc, .rng2 a b, .Call (.Name f _) [d, e] [] _ => decide (f = "range") && (freeB S f && (gloB sc f && (chkE sc a d && chkE sc b e)))
  | _, _, _ => false
end
end
/-- an expression of the mini language is no star, no slice -/
def plainE : Expr → Bool
  | .Starred _ _ => false
  | .Slice _ _ _ _ => false
  | .Set _ _ _ => false
  | _ => true
section
variable {S : Sg} {N : List Str}
theorem chkE_plain {sc : Scope} {c : CE} {e : Expr} (h : chkE S N sc c e = true) : plainE e = true := by
  cases e with
  | Starred a b => unfold chkE at h; cases c <;> simp at h
  | Slice a b c d => unfold chkE at h; rename_i c0; cases c0 <;> simp at h
  | Set a b c => unfold chkE at h; rename_i c0; cases c0 <;> simp at h
  | _ => rfl
theorem star_of {e : Expr} {es : List Expr} {env : Env} (h : plainE e = true) : starEach (e :: es) env = (false, eval e env) :: starEach es env := by
  cases e <;> first | rfl | cases h
theorem plainIx_of {e : Expr} (h : plainE e = true) : PlainIx e := by
  intro o i
  cases e <;> first | rfl | cases h
theorem chkEs_plain {sc : Scope} : ∀ {es : CEs} {l : List Expr}, chkEs S N sc es l = true → ∀ e ∈ l, plainE e = true
  | .nil, [], _ => fun e z => nomatch z
  | .cons a es, e :: l, h => fun x z => by
    unfold chkEs at h
    have h2 := Bool.and_eq_true_iff.mp h
    rcases List.mem_cons.mp z with z | z
    · subst z; exact chkE_plain h2.1
    · exact chkEs_plain h2.2 x z
  | .nil, _ :: _, h => by simp [chkEs] at h
  | .cons _ _, [], h => by simp [chkEs] at h
theorem base_of {o : Expr} {x : Str} {env : Env} (h : baseB o = true) : attributeBase o x env (eval o env) = eval o env := by
  unfold attributeBase
  split
  · cases h
  · rfl
theorem star_none {pos : Pos} {env : Env} : ∀ {l : List Expr}, (∀ e ∈ l, plainE e = true) → (backTo pos (starEach l env)).any (·.1) = false := by
  intro l
  induction l with
  | nil => intro _; rfl
  | cons e l ih =>
    intro h
    have h1 := h e List.mem_cons_self
    have h2 := ih fun x z => h x (List.mem_cons_of_mem _ z)
    rw [star_of h1]
    exact h2
end
end M
/-! MSound: an expression of the mini language does in the model what it says. -/
namespace M
open PySem PySem.Spec L2
/-- what a def does by values -/
def spC (K : PySem.W.Frag) (ca : Nat → Addr) (n : Nat) (f : List W → Hh → Res W) : Sp := fun vs H Q E => vs.length = n ∧ ∃ μ h ws, HR K ca μ H h ∧ WRs K ca μ H ws vs ∧ Out K ca μ H (rW K ca) Q (fun c H' => E (.ref (ca c)) none H') (f ws h)
/-- what the errors' classes say -/
structure ExS (S : Sg) (K : PySem.W.Frag) (mg : Str → Option Value) (ca : Nat → Addr) : Prop where
  gl : ∀ (c : Nat) (x : Str), S.excs[c]? = some x → mg x = some (.ref (ca c)) ∧ PySem.W.keepIn K (.ref (ca c)) = true ∧ PySem.W.subIn K (.ref (ca c)) (.type "BaseException") = some true ∧ PySem.W.typeIn K (.ref (ca c)) = some (.type "type")
  pl : ∀ (c : Nat) (x : Str), S.excs[c]? = some x → x ∈ S.plain → PySem.W.excIn K (ca c) [.type "ValueError", .type "Exception", .type "BaseException", .type "object"] "ValueError.__new__" = true
  ic : ∀ c : Nat, S.excs ≠ [] → ExcC K (ca c) ∧ PySem.W.kitOne K (.ref (ca c)) (.type "ValueError") = some true
  kk : ∀ (c d : Nat) (y : Str), S.excs[d]? = some y → PySem.W.kitOne K (.ref (ca c)) (.ref (ca d)) = some (subX c d) ∧ PySem.W.exmOne K (.ref (ca c)) (.ref (ca d)) = some (subX c d)
/-- where an expression stands -/
structure Cok (S : Sg) (ca : Nat → Addr) (call : Nat → List W → Hh → Res W) (lv : Nat) (N : List Str) (sc : Scope) (X : Cx) (Wx : WX) : Prop where
  eN : X.N = N
  nd : N.Nodup
  esc : X.env.scope = sc
  calm : S.calm = true → X.calm = true
  un : X.A.units + 65 < cLine
  room : S.calm = true → Room lv X.A
  free : ∀ x, x ∈ S.frees → X.mg x = none
  glb : ∀ (k : Nat) (x : Str) (d : D), S.glbs[k]? = some (x, d) → ∃ u v, X.mg x = some u ∧ RelV v u ∧ ∀ μ H, VR X.K μ H d v
  fns : ∀ (f : Nat) (d : Df), S.T[f]? = some d → d.cls = none → ∃ a fd ps, X.mg d.name = some (.ref a) ∧ PySem.W.keepIn X.K (.ref a) = true ∧ Binds X.K fd ps [] ∧
    FnOk X.prog X.w X.K X.mg X.base (L2.CX X.prog X.w) lv a fd ps (spC X.K ca d.pars (call f))
  exS : ExS S X.K X.mg ca
  tk : Takes X Wx
abbrev wI (ca : Nat → Addr) (Wx : WX) : Nat → L2.St → Hp → Prop := fun c σ H => Wx (.ref (ca c)) none σ H
section
variable {S : Sg} {ca : Nat → Addr} {call : Nat → List W → Hh → Res W} {lv : Nat} {N : List Str} {sc : Scope} {X : Cx} {Wx : WX}
abbrev Sg.cc (S : Sg) (call : Nat → List W → Hh → Res W) (wh : (En → Hh → Res Bool) → (En → Hh → SR) → En → Hh → SR) : Cc := ⟨S.glb, call, wh⟩
theorem _root_.L2.PE.imp {e : Expr} {t t' : TE} (h : PE X e t) (k : ∀ σ H Q, t' σ H Q → t σ H Q) : PE X e t' := ⟨fun pins s σ H Q I q => h.run pins s σ H Q I (k σ H Q q)⟩
theorem _root_.L2.PT.imp {e : Expr} {t t' : TT} (h : PT X e t) (k : ∀ σ H Q, t' σ H Q → t σ H Q) : PT X e t' := ⟨fun pins s σ H Q I q => h.run pins s σ H Q I (k σ H Q q)⟩
theorem _root_.L2.PW.imp {e : Expr} {t t' : TT} (h : PW X e t) (k : ∀ σ H Q, t' σ H Q → t σ H Q) : PW X e t' := ⟨fun wh pins s σ H Q I q => h.run wh pins s σ H Q I (k σ H Q q)⟩
theorem _root_.L2.PA.imp {es : List Expr} {t t' : TA} (h : PA X es t) (k : ∀ σ H Q, t' σ H Q → t σ H Q) : PA X es t' := ⟨fun p pins s σ H Q I q => h.run p pins s σ H Q I (k σ H Q q)⟩
theorem _root_.L2.PI.imp {tg e : Expr} {t t' : TI} (h : PI X tg e t) (k : ∀ σ H Q, t' σ H Q → t σ H Q) : PI X tg e t' := ⟨fun pins s σ H Q I q => h.run pins s σ H Q I (k σ H Q q)⟩
/-- a value's run as a test -/
theorem toB_seq {K : PySem.W.Frag} {W' : Nat → L2.St → Hp → Prop} {σ : L2.St} {H : Hp} {m : En → Hh → Res W} {Q : Bool → Hp → Prop} (h : tI K ca W' rB (fun e h => toB (m e h)) σ H Q) : tI K ca W' (rW K ca) m σ H fun x H' => ∃ k, x = .bl k ∧ Q k H' := by
  obtain ⟨μ, e, h, er, hr, o⟩ := h
  refine seqI (rW K ca) er hr o fun μ1 H1 h1 w v s1 er1 hr1 z o1 => ?_
  cases q : truth w with
  | none => rw [q] at o1; exact o1.elim
  | some b =>
    rw [q] at o1
    have e2 : w = .dat (.bool b) := by
      cases w with
      | dat d => cases d <;> first | (cases q; rfl) | cases q
      | _ => cases q
    subst e2
    exact ⟨b, z.of_bool, o1.now hr1 rfl⟩
/-- by a rule for the operator -/
theorem tI_op {K : PySem.W.Frag} {W' : Nat → L2.St → Hp → Prop} {σ : L2.St} {H : Hp} {Q : VK} {m1 m2 : En → Hh → Res W} {f : W → W → Hh → Res W} (hf : ∀ a b h c h', f a b h ≠ .exc c h')
    (h : tI K ca W' (rW K ca) (fun e h => (m1 e h).bind fun x h => (m2 e h).bind fun y h => f x y h) σ H Q) : tOp (rOp K ca f) (tI K ca W' (rW K ca) m1) (tI K ca W' (rW K ca) m2) σ H Q := by
  obtain ⟨μ, e, h, er, hr, o⟩ := h
  refine seqI (rW K ca) er hr o fun μ1 H1 h1 w v s1 er1 hr1 z o1 => ?_
  refine seqI (rW K ca) er1 hr1 o1 fun μ2 H2 h2 w2 v2 s2 er2 hr2 z2 o2 => ?_
  refine ⟨μ2, h2, w, w2, hr2, z.mono s2, z2, ?_⟩
  cases q : f w w2 h2 with
  | ok a h' => rw [q] at o2; exact o2
  | exc c h' => exact absurd q (hf _ _ _ _ _)
  | bad => rw [q] at o2; exact o2
/-- no operator raises -/
theorem ok_ne {α : Type} {a : α} {h : Hh} {c : Nat} {h' : Hh} : Res.ok a h ≠ .exc c h' := fun z => nomatch z
theorem bad_ne {α : Type} {c : Nat} {h' : Hh} : (Res.bad : Res α) ≠ .exc c h' := fun z => nomatch z
theorem optR_ne {α : Type} {h : Hh} {o : Option α} {c : Nat} {h' : Hh} : optR h o ≠ .exc c h' := by cases o <;> exact fun z => nomatch z
theorem rb_ne {h : Hh} {o : Option Bool} {c : Nat} {h' : Hh} : rb h o ≠ .exc c h' := by cases o <;> exact fun z => nomatch z
theorem mkLst_ne {m : Bool} {l : List W} {h : Hh} {c : Nat} {h' : Hh} : mkLst m l h ≠ .exc c h' := by
  unfold mkLst
  split <;> exact fun z => nomatch z
theorem mkTup_ne {l : List W} {h : Hh} {c : Nat} {h' : Hh} : mkTup l h ≠ .exc c h' := by
  unfold mkTup
  split <;> exact fun z => nomatch z
theorem ite_ne {α : Type} {k : Bool} {r : Res α} {c : Nat} {h' : Hh} (h : r ≠ .exc c h') : (if k then r else .bad) ≠ .exc c h' := by
  cases k with
  | true => exact h
  | false => exact fun z => nomatch z
theorem itp_ne {α : Type} {p : Prop} [Decidable p] {r : Res α} {c : Nat} {h' : Hh} (h : r ≠ .exc c h') : (if p then r else .bad) ≠ .exc c h' := by
  by_cases z : p
  · rw [if_pos z]; exact h
  · rw [if_neg z]; exact fun z => nomatch z
theorem catL_ne {m : Bool} {h : Hh} {a b : Option (List W)} {c : Nat} {h' : Hh} : catL m h a b ≠ .exc c h' := by
  unfold catL
  split
  · exact itp_ne mkLst_ne
  · exact fun z => nomatch z
theorem addW_ne {m : Bool} {a b : W} {h : Hh} {c : Nat} {h' : Hh} : addW m a b h ≠ .exc c h' := by
  unfold addW
  repeat' split
  all_goals first | exact ok_ne | exact bad_ne | exact itp_ne ok_ne | exact catL_ne
theorem intop_ne {op : BOp} {i j : Int} {h : Hh} {c : Nat} {h' : Hh} : intop op i j h ≠ .exc c h' := by
  cases op <;> first | exact ok_ne | exact bad_ne | exact itp_ne ok_ne
theorem binop_ne {op : BOp} {m : Bool} {a b : W} {h : Hh} {c : Nat} {h' : Hh} : binop op m a b h ≠ .exc c h' := by
  unfold binop
  repeat' split
  all_goals first | exact addW_ne | exact intop_ne | exact ok_ne | exact bad_ne
theorem index_ne {a b : W} {h : Hh} {c : Nat} {h' : Hh} : index a b h ≠ .exc c h' := by
  unfold index
  repeat' split
  all_goals first | exact optR_ne | exact ok_ne | exact bad_ne
theorem slice_ne {a : W} {lo hi : Option Int} {h : Hh} {c : Nat} {h' : Hh} : slice a lo hi h ≠ .exc c h' := by
  unfold slice
  repeat' split
  all_goals first | exact mkLst_ne | exact ok_ne | exact bad_ne | exact itp_ne ok_ne
theorem tupleOf_ne {w : W} {h : Hh} {c : Nat} {h' : Hh} : tupleOf w h ≠ .exc c h' := by
  unfold tupleOf
  repeat' split
  all_goals first | exact mkTup_ne | exact ok_ne | exact bad_ne
theorem ri_ne {h : Hh} {o : Option Int} {c : Nat} {h' : Hh} : ri h o ≠ .exc c h' := by cases o <;> exact fun z => nomatch z
theorem revW_ne {a : W} {h : Hh} {c : Nat} {h' : Hh} : revW a h ≠ .exc c h' := by
  unfold revW
  split
  · exact ok_ne
  · exact ok_ne
  · split
    · exact mkLst_ne
    · exact bad_ne
  · exact bad_ne
theorem joinW_ne {a : Str} {l : List W} {h : Hh} {c : Nat} {h' : Hh} : joinW a l h ≠ .exc c h' := by
  unfold joinW
  split
  · exact ite_ne ok_ne
  · exact bad_ne
theorem bmeth_ne {f : Mb} {x : W} {ws : List W} {h : Hh} {c : Nat} {h' : Hh} : bmeth f x ws h ≠ .exc c h' := by
  unfold bmeth
  split
  · split
    · split
      · exact ite_ne ok_ne
      · exact bad_ne
    · exact bad_ne
  · split
    · split
      · exact joinW_ne
      · exact bad_ne
    · exact bad_ne
  · split
    · exact ite_ne ok_ne
    · exact bad_ne
  · exact bad_ne
theorem builtin_ne {f : Fb} {m : Bool} {ws : List W} {h : Hh} {c : Nat} {h' : Hh} : builtin f m ws h ≠ .exc c h' := by
  unfold builtin
  repeat' split
  all_goals first | exact rb_ne | exact ri_ne | exact mkLst_ne | exact tupleOf_ne | exact ok_ne | exact bad_ne | exact itp_ne ok_ne | exact ite_ne ok_ne
end
end M
/-! MWalk: what loops and comprehensions walk over; comprehensions. -/
namespace M
open PySem PySem.Spec L2
/-- the iterator J hands out what I says, from (μ0, H0) on -/
structure Walk (K : PySem.W.Frag) (ca : Nat → Addr) (J : It) (I : Itm) (μ0 : Mu) (H0 : Hp) : Prop where
  go : ∀ (i : Nat) (μ : Mu) (H : Hp) (h : Hh) (w : W), Stp μ0 H0 μ H → HR K ca μ H h → I.get i h = some w → J.go i H
  yld : ∀ (i : Nat) (μ : Mu) (H : Hp) (h : Hh) (w : W) (x : V) (H' : Hp), Stp μ0 H0 μ H → HR K ca μ H h → I.get i h = some w → J.yld i H x H' → Stp μ H μ H' ∧ HR K ca μ H' h ∧ WR K ca μ H' w x
  stop : ∀ (i : Nat) (μ : Mu) (H : Hp) (h : Hh), Stp μ0 H0 μ H → HR K ca μ H h → I.fin i h = true → J.stop i H
abbrev rIt (K : PySem.W.Frag) (ca : Nat → Addr) : Mu → Hp → Itm → It → Prop := fun μ H l J => Walk K ca J l μ H
section
variable {K : PySem.W.Frag} {ca : Nat → Addr} {μ μ' : Mu} {H H' : Hp} {h : Hh}
theorem Walk.later {J : It} {I : Itm} (w : Walk K ca J I μ H) (s : Stp μ H μ' H') : Walk K ca J I μ' H' :=
  ⟨fun i m g a b t => w.go i m g a b (s.trans t), fun i m g a b c d t => w.yld i m g a b c d (s.trans t), fun i m g a t => w.stop i m g a (s.trans t)⟩
theorem VRs.get {ds : List D} {xs : List V} {i : Nat} {x : V} (r : VRs K μ H ds xs) (e : xs[i]? = some x) : ∃ d, ds[i]? = some d ∧ VR K μ H d x := by
  induction ds generalizing xs i with
  | nil => cases r; simp at e
  | cons d ds ih =>
    cases r with
    | cons r t =>
      cases i with
      | zero => simp at e; subst e; exact ⟨d, rfl, r⟩
      | succ i => simpa using ih t (by simpa using e)
theorem WRs.get {ws : List W} {xs : List V} {i : Nat} {x : V} (r : WRs K ca μ H ws xs) (e : xs[i]? = some x) : ∃ w, ws[i]? = some w ∧ WR K ca μ H w x := by
  induction r generalizing i with
  | nil => simp at e
  | cons r t ih =>
    cases i with
    | zero => simp at e; subst e; exact ⟨_, rfl, r⟩
    | succ i => simpa using ih (by simpa using e)
theorem get_map {ds : List D} {i : Nat} {w : W} (e : (Itm.ws (ds.map W.dat)).get i h = some w) : ∃ d, ds[i]? = some d ∧ w = .dat d := by
  have e : (ds.map W.dat)[i]? = some w := e
  rw [List.getElem?_map] at e
  obtain ⟨d, e1, e2⟩ := Option.map_eq_some_iff.mp e
  exact ⟨d, e1, e2.symm⟩
theorem walk_list {a : Addr} {xs : List V} {ds : List D} (q : LstAt K μ H a xs) (r : VRs K μ H ds xs) : Walk K ca (Itl K a) (.ws (ds.map .dat)) μ H := by
  have hl := r.len
  refine ⟨fun i m g hh w s hr e => ?_, fun i m g hh w x g' s hr e y => ?_, fun i m g hh s hr e => ?_⟩
  · obtain ⟨d, e1, _⟩ := get_map e
    have hi := (List.getElem?_eq_some_iff.mp e1).1
    exact ⟨xs, xs[i]'(by omega), (q.mono s).sq, List.getElem?_eq_getElem _⟩
  · obtain ⟨rfl, y⟩ := y
    obtain ⟨d, e1, rfl⟩ := get_map e
    obtain ⟨d', e2, v⟩ := (r.mono s).get (y xs (q.mono s).sq)
    rw [e1] at e2
    cases e2
    exact ⟨.refl, hr, .dat v⟩
  · have e1 : decide ((ds.map W.dat).length ≤ i) = true := e
    have e2 := of_decide_eq_true e1
    rw [List.length_map] at e2
    exact ⟨xs, (q.mono s).sq, by omega⟩
theorem walk_tup {a : Addr} {xs : List V} {ds : List D} (q : TupAt K μ H a xs) (r : VRs K μ H ds xs) : Walk K ca (Itt K a) (.ws (ds.map .dat)) μ H := by
  have hl := r.len
  refine ⟨fun i m g hh w s hr e => ?_, fun i m g hh w x g' s hr e y => ?_, fun i m g hh s hr e => ?_⟩
  · obtain ⟨d, e1, _⟩ := get_map e
    have hi := (List.getElem?_eq_some_iff.mp e1).1
    exact ⟨xs, xs[i]'(by omega), (q.mono s).sq, List.getElem?_eq_getElem _⟩
  · obtain ⟨rfl, y⟩ := y
    obtain ⟨d, e1, rfl⟩ := get_map e
    obtain ⟨d', e2, v⟩ := (r.mono s).get (y xs (q.mono s).sq)
    rw [e1] at e2
    cases e2
    exact ⟨.refl, hr, .dat v⟩
  · have e1 : decide ((ds.map W.dat).length ≤ i) = true := e
    have e2 := of_decide_eq_true e1
    rw [List.length_map] at e2
    exact ⟨xs, (q.mono s).sq, by omega⟩
theorem walk_rng {lo hi : Int} : Walk K ca (Itr lo (hi - lo).toNat) (.ws (rngL lo hi)) μ H := by
  have hl : (rngL lo hi).length = (hi - lo).toNat := by simp [rngL]
  have at_ : ∀ {i : Nat} {w : W}, (rngL lo hi)[i]? = some w → i < (hi - lo).toNat ∧ w = .dat (.int (lo + (i : Int))) := fun {i w} e => by
    have hi := (List.getElem?_eq_some_iff.mp e).1
    rw [hl] at hi
    refine ⟨hi, ?_⟩
    unfold rngL at e
    rw [List.getElem?_map, List.getElem?_range hi] at e
    exact (Option.some.inj e).symm
  refine ⟨fun i m g hh w s hr e => (at_ e).1, fun i m g hh w x g' s hr e y => ?_, fun i m g hh s hr e => ?_⟩
  · obtain ⟨rfl, rfl⟩ := y
    rw [(at_ e).2]
    exact ⟨.refl, hr, .int⟩
  · have e1 : decide ((rngL lo hi).length ≤ i) = true := e
    have e2 := of_decide_eq_true e1
    rw [hl] at e2
    exact e2
theorem walk_str {x : Str} : Walk K ca (Its x) (.ws (strL x)) μ H := by
  have hl : (strL x).length = x.cps.size := by simp [strL]
  have at_ : ∀ {i : Nat} {w : W}, (strL x)[i]? = some w → ∃ c, x.cps[i]? = some c ∧ w = .dat (.str ⟨#[c]⟩) := fun {i w} e => by
    unfold strL at e
    rw [List.getElem?_map] at e
    obtain ⟨c, e1, e2⟩ := Option.map_eq_some_iff.mp e
    exact ⟨c, by simpa using e1, e2.symm⟩
  refine ⟨fun i m g hh w s hr e => ?_, fun i m g hh w v g' s hr e y => ?_, fun i m g hh s hr e => ?_⟩
  · have hi := (List.getElem?_eq_some_iff.mp e).1
    rw [hl] at hi
    exact hi
  · obtain ⟨rfl, c, e1, rfl⟩ := y
    obtain ⟨c', e2, rfl⟩ := at_ e
    rw [e1] at e2
    cases e2
    exact ⟨.refl, hr, .str⟩
  · have e1 : decide ((strL x).length ≤ i) = true := e
    have e2 := of_decide_eq_true e1
    rw [hl] at e2
    exact e2
theorem walk_cell {n k : Nat} {a : Addr} (ha : μ.m[n]? = some a) : Walk K ca (Itl K a) (.cell n k) μ H := by
  have cell : ∀ {m : Mu} {g : Hp} {hh : Hh} {l : List W}, Stp μ H m g → HR K ca m g hh → hh[n]? = some (.lst l) → ∃ xs, SqL K g a xs ∧ WRs K ca m g l xs := fun {m g hh l} s hr e => by
    obtain ⟨xs, y, z⟩ := hr.ob n _ a e (s.get ha)
    exact ⟨xs, SqL.of y, z⟩
  refine ⟨fun i m g hh w s hr e => ?_, fun i m g hh w v g' s hr e y => ?_, fun i m g hh s hr e => ?_⟩
  · cases q : hh[n]? with
    | none => simp [Itm.get, q] at e
    | some o =>
      cases o with
      | lst l =>
        simp only [Itm.get, q] at e
        obtain ⟨xs, s1, z⟩ := cell s hr q
        have hi := (List.getElem?_eq_some_iff.mp e).1
        have hl := z.len
        exact ⟨xs, xs[i]'(by omega), s1, List.getElem?_eq_getElem _⟩
      | _ => simp [Itm.get, q] at e
  · obtain ⟨rfl, y⟩ := y
    cases q : hh[n]? with
    | none => simp [Itm.get, q] at e
    | some o =>
      cases o with
      | lst l =>
        simp only [Itm.get, q] at e
        obtain ⟨xs, s1, z⟩ := cell s hr q
        obtain ⟨w', e2, v⟩ := z.get (y xs s1)
        rw [e] at e2
        cases e2
        exact ⟨.refl, hr, v⟩
      | _ => simp [Itm.get, q] at e
  · cases q : hh[n]? with
    | none => simp [Itm.fin, q] at e
    | some o =>
      cases o with
      | lst l =>
        simp only [Itm.fin, q, decide_eq_true_eq] at e
        obtain ⟨xs, s1, z⟩ := cell s hr q
        exact ⟨xs, s1, by rw [← z.len]; exact e⟩
      | _ => simp [Itm.fin, q] at e
end
section
variable {X : Cx} {ca : Nat → Addr} {W' : Nat → L2.St → Hp → Prop} {tg e : Expr}
/-- a walk over a value: which iterator it is, the mini run tells ahead -/
theorem pi_ex {m : En → Hh → Res W} (he : PE X e (tI X.K ca W' (rW X.K ca) m)) : PI X tg e (tI X.K ca W' (rIt X.K ca) fun e h => (m e h).bind fun x h => optR h (itemsOf x h)) := by
  refine ⟨fun pins s σ H R I q => ?_⟩
  obtain ⟨μ, en, hh, er, hr, o⟩ := q
  have o : Out X.K ca μ H (rIt X.K ca) R (fun c H' => W' c σ H') ((m en hh).bind fun x h => optR h (itemsOf x h)) := o
  cases eq : m en hh with
  | bad => rw [eq] at o; exact o.elim
  | exc c h1 =>
    rw [eq] at o
    exact (pi_list he).run pins s σ H R I ⟨μ, en, hh, er, hr, by rw [eq]; exact o⟩
  | ok w h1 =>
    rw [eq] at o
    have o : Out X.K ca μ H (rIt X.K ca) R (fun c H' => W' c σ H') (optR h1 (itemsOf w h1)) := o
    cases e2 : itemsOf w h1 with
    | none => rw [e2] at o; exact o.elim
    | some it =>
      rw [e2] at o
      have o : ∀ μ' H' J, Stp μ H μ' H' → HR X.K ca μ' H' h1 → Walk X.K ca J it μ' H' → R J H' := o
      cases w with
      | dat d =>
        cases d with
        | list ds =>
          cases e2
          refine (pi_list he).run pins s σ H R I ⟨μ, en, hh, er, hr, ?_⟩
          rw [eq]
          intro μ' H' v st hr' wr
          obtain ⟨a, xs, rfl, z1, z2⟩ := wr.of_list
          exact ⟨a, rfl, ⟨xs, z1.sq⟩, o _ _ _ st hr' (walk_list z1 z2)⟩
        | tuple ds =>
          cases e2
          refine (pi_tup he).run pins s σ H R I ⟨μ, en, hh, er, hr, ?_⟩
          rw [eq]
          intro μ' H' v st hr' wr
          obtain ⟨a, xs, rfl, z1, z2⟩ := wr.of_tup
          exact ⟨a, rfl, ⟨xs, z1.sq⟩, o _ _ _ st hr' (walk_tup z1 z2)⟩
        | str x =>
          cases e2
          refine (pi_str he).run pins s σ H R I ⟨μ, en, hh, er, hr, ?_⟩
          rw [eq]
          intro μ' H' v st hr' wr
          exact ⟨x, wr.of_str, o _ _ _ st hr' walk_str⟩
        | _ => cases e2
      | ref n =>
        cases q : h1[n]? with
        | none => simp [itemsOf, q] at e2
        | some ob =>
          cases ob with
          | lst l =>
            simp only [itemsOf, q, Option.some.injEq] at e2
            subst e2
            refine (pi_list he).run pins s σ H R I ⟨μ, en, hh, er, hr, ?_⟩
            rw [eq]
            intro μ' H' v st hr' wr
            cases wr with
            | ref hn =>
              obtain ⟨xs, y, _⟩ := hr'.ob n _ _ q hn
              exact ⟨_, rfl, ⟨xs, SqL.of y⟩, o _ _ _ st hr' (walk_cell hn)⟩
          | _ => simp [itemsOf, q] at e2
      | _ => cases e2
theorem okR_of {i : Int} (h : okR i = true) : -(2 ^ 62) ≤ i ∧ i < 2 ^ 62 := by
  have h2 := Bool.and_eq_true_iff.mp h
  exact ⟨of_decide_eq_true h2.1, of_decide_eq_true h2.2⟩
theorem pi_rng1M {b : Expr} {p pos : Pos} {m : En → Hh → Res W} (hg : Gl X "range") (hm : X.mg "range" = none) (pb : plainE b = true) (hb : PE X b (tI X.K ca W' (rW X.K ca) m)) :
    PI X tg (.Call (.Name "range" p) [b] [] pos) (tI X.K ca W' (rIt X.K ca) fun e h => (m e h).bind fun x h => (match x with
      | .dat (.int j) => if okR j then .ok (.ws (rngL 0 j)) h else .bad
      | _ => .bad)) := by
  refine (pi_range1 hg hm (pa_cons hb pa_nil (star_of pb)) (star_of pb)).imp fun σ H R q => ?_
  obtain ⟨μ, en, hh, er, hr, o⟩ := q
  refine seqI (rW X.K ca) er hr o fun μ1 H1 h1 w v s1 er1 hr1 z o1 => ?_
  cases w with
  | dat d =>
    cases d with
    | int j =>
      obtain ⟨c, o1⟩ := out_if o1
      obtain rfl := z.of_int
      refine ⟨j, rfl, (okR_of c).1, (okR_of c).2, ?_⟩
      have w := walk_rng (K := X.K) (ca := ca) (lo := 0) (hi := j) (μ := μ1) (H := H1)
      rw [Int.sub_zero] at w
      exact o1.now hr1 w
    | _ => exact o1.elim
  | _ => exact o1.elim
theorem pi_rng2M {a b : Expr} {p pos : Pos} {m n : En → Hh → Res W} (hg : Gl X "range") (hm : X.mg "range" = none) (pa : plainE a = true) (pb : plainE b = true) (ha : PE X a (tI X.K ca W' (rW X.K ca) m)) (hb : PE X b (tI X.K ca W' (rW X.K ca) n)) :
    PI X tg (.Call (.Name "range" p) [a, b] [] pos) (tI X.K ca W' (rIt X.K ca) fun e h => (m e h).bind fun x h => (n e h).bind fun y h => (match x, y with
      | .dat (.int i), .dat (.int j) => if okR i && okR j then .ok (.ws (rngL i j)) h else .bad
      | _, _ => .bad)) := by
  refine (pi_range2 hg hm (pa_cons ha (pa_cons hb pa_nil (star_of pb)) (star_of pa)) (by rw [star_of pa, star_of pb]; rfl) (star_of pb)).imp fun σ H R q => ?_
  obtain ⟨μ, en, hh, er, hr, o⟩ := q
  refine seqI (rW X.K ca) er hr o fun μ1 H1 h1 w v s1 er1 hr1 z o1 => ?_
  refine seqI (rW X.K ca) er1 hr1 o1 fun μ2 H2 h2 w2 v2 s2 er2 hr2 z2 o2 => ?_
  cases w with
  | dat d =>
    cases d with
    | int i =>
      cases w2 with
      | dat d2 =>
        cases d2 with
        | int j =>
          obtain ⟨c, o2⟩ := out_if o2
          obtain rfl := z.of_int
          obtain rfl := z2.of_int
          have c2 := Bool.and_eq_true_iff.mp c
          exact ⟨i, j, rfl, ⟨(okR_of c2.1).1, (okR_of c2.1).2, (okR_of c2.2).1, (okR_of c2.2).2⟩, o2.now hr2 walk_rng⟩
        | _ => exact o2.elim
      | _ => exact o2.elim
    | _ => exact o2.elim
  | _ => exact o2.elim
end

/-! ### targets -/
abbrev rE (K : PySem.W.Frag) (ca : Nat → Addr) : Mu → Hp → En → L2.St → Prop := ER K ca
/-- the slots differ at these places alone -/
def SameBut (l : List Nat) (σ σ' : L2.St) : Prop := σ'.length = σ.length ∧ ∀ j, j ∉ l → σ'[j]? = σ[j]?
/-- a walk's target takes a value -/
def tgI (K : PySem.W.Frag) (ca : Nat → Addr) (t : CT) : TG := fun v σ H Q => ∃ μ e h w e2, ER K ca μ H e σ ∧ HR K ca μ H h ∧ WR K ca μ H w v ∧ bindT t w e = some e2 ∧ ∀ σ2, SameBut (slotsT t) σ σ2 → ER K ca μ H e2 σ2 → Q σ2 H
theorem SameBut.set (σ : L2.St) (i : Nat) (v : Option V) : SameBut [i] σ (σ.set i v) := ⟨by rw [List.length_set], fun j hj => List.getElem?_set_ne (fun e => hj (by rw [e]; exact List.mem_singleton.mpr rfl))⟩
theorem SameBut.cons {l : List Nat} {i : Nat} {σ σ' σ2 : L2.St} (a : SameBut [i] σ σ') (b : SameBut l σ' σ2) : SameBut (i :: l) σ σ2 := ⟨b.1.trans a.1, fun j hj => (b.2 j fun z => hj (List.mem_cons_of_mem _ z)).trans (a.2 j fun z => hj (by rw [List.mem_singleton.mp z]; exact List.mem_cons_self))⟩
theorem wipe_get (σ : L2.St) : ∀ (vs : List Nat) (j : Nat), (L2.wipe σ vs)[j]? = if j ∈ vs then (if j < σ.length then some none else none) else σ[j]?
  | [], j => by simp [L2.wipe]
  | v :: vs, j => by
    show ((L2.wipe σ vs).set v none)[j]? = _
    by_cases e : v = j
    · subst e
      rw [if_pos List.mem_cons_self]
      by_cases hl : v < σ.length
      · rw [if_pos hl, List.getElem?_set_self (by rw [wipe_length]; exact hl)]
      · rw [if_neg hl, List.getElem?_eq_none (by rw [List.length_set, wipe_length]; omega)]
    · rw [List.getElem?_set_ne e, wipe_get σ vs j]
      have : (j ∈ v :: vs) ↔ j ∈ vs := by
        simp only [List.mem_cons]
        exact ⟨fun z => z.elim (fun z => absurd z.symm e) id, .inr⟩
      simp only [this]
theorem wipe_same {σ σ2 : L2.St} {l vs : List Nat} (s : SameBut l (L2.wipe σ vs) σ2) (h : ∀ j ∈ l, j ∈ vs) : L2.wipe σ2 vs = L2.wipe σ vs := by
  refine List.ext_getElem? fun j => ?_
  rw [wipe_get, wipe_get]
  have hl : σ2.length = σ.length := by rw [s.1, wipe_length]
  by_cases e : j ∈ vs
  · rw [if_pos e, if_pos e, hl]
  · rw [if_neg e, if_neg e, s.2 j (fun z => e (h j z)), wipe_get, if_neg e]
section
variable {X : Cx} {ca : Nat → Addr} {S : Sg} {N : List Str} {sc : Scope}
theorem _root_.L2.PG.imp {e : Expr} {t t' : TG} (h : PG X e t) (k : ∀ v σ H Q, t' v σ H Q → t v σ H Q) : PG X e t' := ⟨fun pins s σ H v u Q I r q => h.run pins s σ H v u Q I r (k v σ H Q q)⟩
theorem nam_loc {cl : Bool} {i : Nat} {x : Str} (es : X.env.scope = sc) (hf : cl = true → ∀ x, X.fn x = true) (h : namB N cl sc i x = true) : N[i]? = some x ∧ Loc X.env.scope x ∧ (X.fn x = true ∨ X.env.scope.names.lookup x = some .local) := by
  have h2 := Bool.and_eq_true_iff.mp h
  refine ⟨of_decide_eq_true h2.1, ?_⟩
  rcases Bool.or_eq_true_iff.mp h2.2 with q | q
  · have hl : X.env.scope.names.lookup x = some .local := by rw [es]; exact of_decide_eq_true q
    exact ⟨.inl hl, .inr hl⟩
  · have q2 := Bool.and_eq_true_iff.mp q
    exact ⟨.inr (by rw [es]; exact of_decide_eq_true q2.2), .inl (hf q2.1 x)⟩
theorem nam_ok {cl : Bool} {i : Nat} {x : Str} {pos : Pos} (eN : X.N = N) (nd : N.Nodup) (es : X.env.scope = sc) (hf : cl = true → ∀ x, X.fn x = true) (h : namB N cl sc i x = true) : PG X (.Name x pos) (gName i) := by
  obtain ⟨h1, h2, h3⟩ := nam_loc es hf h
  exact pg_name (by rw [eN]; exact nd) (by rw [eN]; exact h1) h2 h3
/-- several names, each a value -/
def gsI (K : PySem.W.Frag) (ca : Nat → Addr) (l : List Nat) : TGs := fun vs σ H Q => ∃ μ e h ws e2, ER K ca μ H e σ ∧ HR K ca μ H h ∧ WRs K ca μ H ws vs ∧ setAll e l ws = some e2 ∧ ∀ σ2, SameBut l σ σ2 → ER K ca μ H e2 σ2 → Q σ2 H
theorem nams_ok {c0 : Bool} (eN : X.N = N) (nd : N.Nodup) (es : X.env.scope = sc) (hf : c0 = true → ∀ x, X.fn x = true) : ∀ {l : List Nat} {ts : List Expr}, namsB N c0 sc l ts = true → PGs X ts (gsI X.K ca l) ∧ (assignEach ts X.env).length = l.length ∧ (assignEach ts X.env).findIdx? (·.1) = none
  | [], [], _ => by
    refine ⟨⟨fun pins s σ H vs us Q I r q => pgs_nil.run pins s σ H vs us Q I r ?_⟩, rfl, rfl⟩
    obtain ⟨μ, e, h, ws, e2, er, hr, z, eq, k⟩ := q
    cases z with
    | nil =>
      cases eq
      exact ⟨rfl, k _ ⟨rfl, fun _ _ => rfl⟩ er⟩
    | cons r t => cases eq
  | i :: l, e0 :: ts, h => by
    cases e0 with
    | Name x p =>
      have h2 := Bool.and_eq_true_iff.mp (show (namB N c0 sc i x && namsB N c0 sc l ts) = true from h)
      obtain ⟨q1, q2, q3⟩ := nams_ok eN nd es hf h2.2
      refine ⟨⟨fun pins s σ H vs us Q I r q => (pgs_cons (nam_ok eN nd es hf h2.1) q1).run pins s σ H vs us Q I r ?_⟩, ?_, ?_⟩
      · obtain ⟨μ, e, h, ws, e2, er, hr, z, eq, k⟩ := q
        cases z with
        | nil => cases eq
        | cons w1 t => exact ⟨_, _, rfl, μ, _, h, _, e2, er.set w1, hr, t, eq, fun σ2 sb er2 => k σ2 ((SameBut.set _ _ _).cons sb) er2⟩
      · show (assignEach ts X.env).length + 1 = _
        rw [q2]
        rfl
      · show (((false, assign (.Name x p) X.env) :: assignEach ts X.env).findIdx? (·.1)) = none
        rw [List.findIdx?_cons, if_neg Bool.false_ne_true, q3]
        rfl
    | _ => cases h
  | [], _ :: _, h => by cases h
  | _ :: _, [], h => by cases h
theorem setAll_len : ∀ {l : List Nat} {ws : List W} {e e2 : En}, setAll e l ws = some e2 → l.length = ws.length
  | [], [], _, _, _ => rfl
  | _ :: _, _ :: _, _, _, h => congrArg (· + 1) (setAll_len h)
  | [], _ :: _, _, _, h => by cases h
  | _ :: _, [], _, _, h => by cases h
theorem tg_ok {c0 : Bool} (eN : X.N = N) (nd : N.Nodup) (es : X.env.scope = sc) (hf : c0 = true → ∀ x, X.fn x = true) (hc : X.calm = true) {t : CT} {e : Expr} (h : chkT N c0 sc t e = true) : PG X e (tgI X.K ca t) := by
  cases t with
  | nam i =>
    cases e with
    | Name x p =>
      refine (nam_ok eN nd es hf h).imp fun v σ H Q q => ?_
      obtain ⟨μ, en, hh, w, e2, er, hr, wr, eq, k⟩ := q
      cases eq
      exact k _ (SameBut.set _ _ _) (er.set wr)
    | _ => cases h
  | tup l =>
    cases e with
    | Tuple ts k p =>
      obtain ⟨q1, q2, q3⟩ := nams_ok (ca := ca) eN nd es hf (show namsB N c0 sc l ts = true from h)
      refine (pg_tup hc q1 q2 q3).imp fun v σ H Q q => ?_
      obtain ⟨μ, en, hh, w, e2, er, hr, wr, eq, k⟩ := q
      cases w with
      | dat d =>
        cases d with
        | tuple ds =>
          obtain ⟨a, xs, rfl, z1, z2⟩ := wr.of_tup
          have hl := z2.len
          have hs : setAll en l (ds.map .dat) = some e2 := eq
          exact ⟨a, xs, rfl, z1.sq, by rw [← hl, setAll_len hs, List.length_map], μ, en, hh, _, e2, er, hr, WRs.of z2, hs, k⟩
        | _ => cases eq
      | _ => cases eq
    | _ => cases h
end

/-! ### comprehensions -/
/-- one step of a comprehension -/
def stepC (t : CT) (vs : List Nat) (mt : En → Hh → Res Bool) (me : En → Hh → Res W) (e : En) (w : W) (h : Hh) : Res (Option W) := match bindT t w (wipe e vs) with
  | some e2 => noexc ((mt e2 h).bind fun k h => if k = true then (me e2 h).bind fun v h => .ok (some v) h else .ok none h)
  | none => .bad
theorem Stp.atNew {μ μ' : Mu} {H H' : Hp} {Y : Addr} {o : HO} (s : Stp μ H μ' H') (n : H Y = none) (nx : Y ∉ μ.x) : Stp μ H μ' (upd H' Y o) := by
  refine ⟨s.pre, s.inx, s.oux, fun a ha => ?_, fun a u na p q => ?_, fun a e => ?_⟩
  · rw [upd_ne fun (e : a = Y) => nx (e ▸ ha)]
    exact s.fix a ha
  · have ne : a ≠ Y := fun e => Rd.some q (e ▸ n)
    have z := s.keep a u na p q
    unfold Rd
    rw [upd_ne ne]
    exact z
  · by_cases e2 : a = Y
    · rw [e2]; exact n
    · rw [upd_ne e2] at e
      exact s.live a e
theorem Res.bind_assoc {α β γ : Type} (m : Res α) (f : α → Hh → Res β) (g : β → Hh → Res γ) : (m.bind f).bind g = m.bind fun a h => (f a h).bind g := by cases m <;> rfl
/-- the abstract heap without Y -/
def cutH (H : Hp) (Y : Addr) : Hp := fun b => if b = Y then none else H b
theorem cutH_ne {H : Hp} {Y b : Addr} (h : b ≠ Y) : cutH H Y b = H b := by unfold cutH; rw [if_neg h]
theorem cutH_same {H : Hp} {Y : Addr} : cutH H Y Y = none := by unfold cutH; rw [if_pos rfl]
theorem cutH_upd {H : Hp} {Y : Addr} {o : HO} (h : H Y = some o) : upd (cutH H Y) Y o = H := by
  funext b
  by_cases e : b = Y
  · rw [e, upd_same, h]
  · rw [upd_ne e, cutH_ne e]
def Mu.cut (μ : Mu) (Y : Addr) : Mu := ⟨μ.m, μ.x.filter fun a => decide (a ≠ Y)⟩
theorem Mu.cut_mem {μ : Mu} {Y a : Addr} : a ∈ (μ.cut Y).x ↔ a ∈ μ.x ∧ a ≠ Y := by
  show a ∈ μ.x.filter _ ↔ _
  rw [List.mem_filter, decide_eq_true_eq]
section
variable {X : Cx} {ca : Nat → Addr} {W' : Nat → L2.St → Hp → Prop} {elt tg iter : Expr} {ifs : List Expr} {scope : Scope} {own : List (Str × Nat)} {pos : Pos} {mi : En → Hh → Res Itm} {mt : En → Hh → Res Bool} {me : En → Hh → Res W} {t : CT} {m : Bool}
theorem comp_ok (hc : X.calm = true) (hN : X.N.Nodup) (hi : PI X tg iter (tI X.K ca W' (rIt X.K ca) mi)) (ok : BlkOk X.N X.env.scope scope own) (hsl : ∀ j ∈ slotsT t, j ∈ own.map (·.2))
    (hg : ∀ (s : Shared) (H : Hp) (C : Addr) (cl : List (Str × Addr)) (fp : List Addr), PG (X.blk s H scope (compEnvC scope cl C X.env) fp) tg (tgI X.K ca t))
    (ht : ∀ (s : Shared) (H : Hp) (C : Addr) (cl : List (Str × Addr)) (fp : List Addr), PTs (X.blk s H scope (compEnvC scope cl C X.env) fp) ifs (tI X.K ca (fun _ _ _ => False) rB mt))
    (he : ∀ (s : Shared) (H : Hp) (C : Addr) (cl : List (Str × Addr)) (fp : List Addr), PE (X.blk s H scope (compEnvC scope cl C X.env) fp) elt (tI X.K ca (fun _ _ _ => False) (rW X.K ca) me))
    (hs : ∀ x, foldedSetIterable iter X.env x = pure x) (σ : L2.St) (H : Hp) (Q : VK)
    (q : tI X.K ca W' (rW X.K ca) (fun e h => (mi e h).bind fun l h => (compG l (stepC t (own.map (·.2)) mt me e) l.num 0 h []).bind fun r h => mkLst m r h) σ H Q) :
    tLc (tI X.K ca W' (rIt X.K ca) mi) (tgI X.K ca t) (tI X.K ca (fun _ _ _ => False) rB mt) (tI X.K ca (fun _ _ _ => False) (rW X.K ca) me) (own.map (·.2)) σ H Q := by
  obtain ⟨μ, en, hh, er, hr, o⟩ := q
  refine seqI (rIt X.K ca) er hr o fun μ1 H1 h1 it J s1 er1 hr1 wk o1 => ?_
  intro Y hY
  have nx : Y ∉ μ1.x := hr1.nox hY
  have nm : Y ∉ μ1.m := fun z => hr1.live Y z hY
  generalize hstep : stepC t (own.map (·.2)) mt me en = step at o1
  refine ⟨fun i k H2 => ∃ μ2 h2 accW accV, Stp μ1 H1 μ2 H2 ∧ Y ∈ μ2.x ∧ HR X.K ca μ2 H2 h2 ∧ H2 Y = some (.lst accV) ∧ WRs X.K ca μ2 H2 accW accV ∧
    Out X.K ca μ1 H1 (rW X.K ca) Q (fun c H' => W' c σ H') ((compG it step k i h2 accW).bind fun r h => mkLst m r h), ⟨it.num, μ1.hide Y, h1, [], [], ?_, List.mem_cons_self, ?_, upd_same, .nil, o1⟩, ?_⟩
  · exact ⟨⟨[], by simp [Mu.hide], fun _ z => nomatch z⟩, fun a h => List.mem_cons_of_mem _ h, fun a h => (List.mem_cons.mp h).elim (fun e => .inr (by rw [e]; exact hY)) .inl, fun a ha => upd_ne fun e => nx (e ▸ ha), (hr1.stp hY).keep, (hr1.stp hY).live⟩
  · exact hr1.hide (D := Y) (fun a ne => upd_ne ne) nm (fun _ z => by rw [upd_same] at z; cases z) (fun a u _ q e => Rd.some q (e ▸ hY)) rfl (fun a ne h z => (List.mem_cons.mp z).elim ne h) fun a ne z => (List.mem_cons.mp z).elim (fun e => absurd e ne) id
  · rintro i k H2 ⟨μ2, h2, accW, accV, st, hx, hr2, hl, wr, o2⟩
    have Ym : Y ∉ μ2.m := fun z => hr2.dis Y z hx
    have nn : ∀ a u, a ∉ μ2.m ∧ a ∉ μ2.x → Rd H2 a u → a ≠ Y := fun a u z _ e => z.2 (e ▸ hx)
    cases k with
    | zero =>
      by_cases hf : it.fin i h2 = true
      · refine .inl ⟨wk.stop i μ2 H2 h2 st hr2 hf, ?_⟩
        have o3 : Out X.K ca μ1 H1 (rW X.K ca) Q (fun c H' => W' c σ H') (mkLst m accW h2) := by
          have z : compG it step 0 i h2 accW = .ok accW h2 := by unfold compG; rw [if_pos hf]
          rw [z] at o2
          exact o2
        have hrc : HR X.K ca (μ2.cut Y) (cutH H2 Y) h2 := hr2.hide (D := Y) (fun a ne => cutH_ne ne) Ym (fun z => absurd rfl (Mu.cut_mem.mp z).2) nn rfl (fun a ne h z => h (Mu.cut_mem.mp z).1) fun a ne z => (Mu.cut_mem.mp z).1
        have wrc : WRs X.K ca (μ2.cut Y) (cutH H2 Y) accW accV := Paired.mapP wr fun _ _ z => WR.hide (μ' := μ2.cut Y) (H' := cutH H2 Y) (D := Y) (fun a u ne q => by unfold Rd; rw [cutH_ne ne]; exact q) nn rfl (fun a ne h z => h (Mu.cut_mem.mp z).1) z
        have stc : Stp μ1 H1 (μ2.cut Y) (cutH H2 Y) := by
          refine ⟨st.pre, fun a ha => Mu.cut_mem.mpr ⟨st.inx a ha, fun e => nx (e ▸ ha)⟩, fun a ha => st.oux a (Mu.cut_mem.mp ha).1, fun a ha => ?_, fun a u na p z => ?_, fun a e => ?_⟩
          · rw [cutH_ne fun (e : a = Y) => nx (e ▸ ha)]
            exact st.fix a ha
          · have ne : a ≠ Y := fun e => Rd.some z (e ▸ hY)
            have z2 := st.keep a u na p z
            unfold Rd
            rw [cutH_ne ne]
            exact z2
          · by_cases e2 : a = Y
            · rw [e2]; exact hY
            · rw [cutH_ne e2] at e
              exact st.live a e
        have z := out_mkLst hrc wrc (o3.shift stc) (p := Y) cutH_same
        rw [cutH_upd hl] at z
        exact z
      · have z : compG it step 0 i h2 accW = .bad := by unfold compG; rw [if_neg hf]
        rw [z] at o2
        exact o2.elim
    | succ k =>
      cases eg : it.get i h2 with
      | none =>
        have z : compG it step (k + 1) i h2 accW = .bad := by unfold compG; rw [eg]
        rw [z] at o2
        exact o2.elim
      | some w =>
        have z : compG it step (k + 1) i h2 accW = (step w h2).bind fun o h => match o with
          | some v => if accW.length < sizeL then compG it step k (i + 1) h (accW ++ [v]) else .bad
          | none => compG it step k (i + 1) h accW := by rw [compG, eg] <;> rfl
        rw [z, Res.bind_assoc] at o2
        refine .inr ⟨wk.go i μ2 H2 h2 w st hr2 eg, _, fun H' z => ⟨k, Nat.lt_succ_self k, z⟩, fun x H3 y => ?_⟩
        obtain ⟨s3, hr3, w3⟩ := wk.yld i μ2 H2 h2 w x H3 st hr2 eg y
        subst hstep
        unfold stepC at o2
        cases eb : bindT t w (M.wipe en (own.map (·.2))) with
        | none => rw [eb] at o2; exact o2.elim
        | some e2 =>
          rw [eb] at o2
          refine ⟨μ2, _, h2, w, e2, (er1.mono (st.trans s3)).wipe _, hr3, w3, eb, fun σ2 sb er2 => ⟨wipe_same sb hsl, ?_⟩⟩
          have stt := st.trans s3
          cases hmt : mt e2 h2 with
          | bad => simp only [hmt] at o2; exact o2.elim
          | exc c h' => simp only [hmt] at o2; exact o2.elim
          | ok b h4 =>
            simp only [hmt] at o2
            refine ⟨μ2, e2, h2, er2, hr3, ?_⟩
            rw [hmt]
            intro μ4 H4 b' s4 hr4 e4
            have e4 : b = b' := e4
            subst e4
            have hx4 : Y ∈ μ4.x := s4.inx Y hx
            have hl4 : H4 Y = some (.lst accV) := by rw [s4.fix Y hx, s3.fix Y hx]; exact hl
            cases b with
            | false =>
              rw [if_neg Bool.false_ne_true]
              exact ⟨μ4, h4, accW, accV, stt.trans s4, hx4, hr4, hl4, wr.mono (s3.trans s4), o2⟩
            | true =>
              rw [if_pos rfl]
              cases hme : me e2 h4 with
              | bad =>
                have o2 : Out X.K ca μ1 H1 (rW X.K ca) Q (fun c H' => W' c σ H') ((noexc ((me e2 h4).bind fun v h => .ok (some v) h)).bind _) := o2
                rw [hme] at o2
                exact o2.elim
              | exc c h' =>
                have o2 : Out X.K ca μ1 H1 (rW X.K ca) Q (fun c H' => W' c σ H') ((noexc ((me e2 h4).bind fun v h => .ok (some v) h)).bind _) := o2
                rw [hme] at o2
                exact o2.elim
              | ok v h5 =>
                have o2 : Out X.K ca μ1 H1 (rW X.K ca) Q (fun c H' => W' c σ H') ((noexc ((me e2 h4).bind fun v h => .ok (some v) h)).bind _) := o2
                rw [hme] at o2
                refine ⟨μ4, e2, h4, er2.mono s4, hr4, ?_⟩
                rw [hme]
                intro μ5 H5 y5 s5 hr5 wy
                have hx5 : Y ∈ μ5.x := s5.inx Y hx4
                have hl5 : H5 Y = some (.lst accV) := by rw [s5.fix Y hx4]; exact hl4
                have o3 : Out X.K ca μ1 H1 (rW X.K ca) Q (fun c H' => W' c σ H') ((if accW.length < sizeL then compG it (stepC t (own.map (·.2)) mt me en) k (i + 1) h5 (accW ++ [v]) else .bad).bind fun r h => mkLst m r h) := o2
                by_cases hz : accW.length < sizeL
                · rw [if_pos hz] at o3
                  have wr5 : WRs X.K ca μ5 H5 (accW ++ [v]) (accV ++ [y5]) := (wr.mono ((s3.trans s4).trans s5)).app (.cons wy .nil)
                  have n5 : ∀ a u, a ∉ μ5.m ∧ a ∉ μ5.x → Rd H5 a u → a ≠ Y := fun a u z _ e => z.2 (e ▸ hx5)
                  refine ⟨accV, hl5, Nat.lt_of_lt_of_le (by rw [← wr.len]; exact hz) (by decide), μ5, h5, accW ++ [v], accV ++ [y5], ((stt.trans s4).trans s5).atNew hY nx, hx5, ?_, upd_same, ?_, o3⟩
                  · exact hr5.hide (D := Y) (fun a ne => upd_ne ne) (fun z => hr5.dis Y z hx5) (fun _ z => by rw [upd_same] at z; cases z) n5 rfl (fun a ne h => h) fun a ne z => z
                  · exact Paired.mapP wr5 fun _ _ z => WR.hide (D := Y) (fun a u ne q => by unfold Rd; rw [upd_ne ne]; exact q) n5 rfl (fun a ne h => h) z
                · rw [if_neg hz] at o3
                  exact o3.elim
end
end M
/-! MExpr: every expression of the mini language. -/
namespace M
open PySem PySem.Spec L2
section
variable {X : Cx} {ca : Nat → Addr} {W' : Nat → L2.St → Hp → Prop}
theorem vis_of {sc : Scope} {x : Str} (h : visB sc x = true) : Vis sc x := by
  unfold visB at h
  unfold Vis
  cases q : sc.names.lookup x with
  | none => rw [q] at h; cases h
  | some k => cases k <;> first | exact .inl rfl | exact .inr (.inl rfl) | exact .inr (.inr rfl) | (rw [q] at h; cases h)
theorem plain_of {x : Str} (h : plainB x = true) : (x == ("__debug__" : Str)) = false ∧ (x == ("__classdict__" : Str)) = false ∧ x ≠ ("__name__" : Str) := by
  have h2 := Bool.and_eq_true_iff.mp h
  have h3 := Bool.and_eq_true_iff.mp h2.2
  refine ⟨?_, ?_, of_decide_eq_true h3.2⟩
  · cases q : (x == ("__debug__" : Str)) with
    | false => rfl
    | true => rw [q] at h2; cases h2.1
  · cases q : (x == ("__classdict__" : Str)) with
    | false => rfl
    | true => rw [q] at h3; cases h3.1
/-- a test of a value -/
theorem pt_of {e : Expr} {m : En → Hh → Res W} (h : PE X e (tI X.K ca W' (rW X.K ca) m)) (he : ∀ whole, isTrue e X.env whole = (do let v ← whole; standAt e.pos; holding [v] (truthy v)) := by intro _; rfl) : PT X e (tI X.K ca W' rB fun e h => toB (m e h)) :=
  (pt_val h he).imp fun _ _ _ q => toB_seq q
theorem e_var {i : Nat} {x : Str} {pos : Pos} (hN : X.N[i]? = some x) (hv : Vis X.env.scope x) (hp : plainB x = true) : PE X (.Name x pos) (tI X.K ca W' (rW X.K ca) fun e h => (match e[i]? with
    | some (some w) => .ok w h
    | _ => .bad)) := by
  refine (pe_var hN hv (plain_of hp).1 (plain_of hp).2.1).imp fun σ H Q q => ?_
  obtain ⟨μ, en, hh, er, hr, o⟩ := q
  cases e : en[i]? with
  | none => simp only [e] at o; exact o.elim
  | some o1 =>
    cases o1 with
    | none => simp only [e] at o; exact o.elim
    | some w =>
      simp only [e] at o
      obtain ⟨v, h1, h2⟩ := er.at_ i w e
      exact ⟨v, h1, o.now hr h2⟩
theorem e_cst {d : D} {c : Const} {k : Nat} {pos : Pos} (h : cstB d c = true) : PE X (.Constant c k pos) (tI X.K ca W' (rW X.K ca) fun _ h => .ok (.dat d) h) := by
  cases d with
  | none => cases c with
    | none => exact pe_non.imp fun σ H Q ⟨μ, en, hh, er, hr, o⟩ => o.now hr (.dat .non)
    | _ => cases h
  | bool b => cases c with
    | bool b' =>
      have e : b = b' := of_decide_eq_true h
      subst e
      exact pe_bl.imp fun σ H Q ⟨μ, en, hh, er, hr, o⟩ => o.now hr .bl
    | _ => cases h
  | int b => cases c with
    | int b' =>
      have e : b = b' := of_decide_eq_true h
      subst e
      exact pe_int.imp fun σ H Q ⟨μ, en, hh, er, hr, o⟩ => o.now hr .int
    | _ => cases h
  | str b => cases c with
    | str b' =>
      have e : b = b' := of_decide_eq_true h
      subst e
      exact pe_str.imp fun σ H Q ⟨μ, en, hh, er, hr, o⟩ => o.now hr .str
    | _ => cases h
  | _ => cases h
theorem e_tup {l : List Expr} {k : Nat} {pos : Pos} {m : En → Hh → Res (List W)} (h : PA X l (tI X.K ca W' (rWs X.K ca) m)) : PE X (.Tuple l k pos) (tI X.K ca W' (rW X.K ca) fun e h => (m e h).bind fun l h => if l.length ≤ 1000 then mkTup l h else .bad) := by
  refine (pe_tup h).imp fun σ H Q q => ?_
  obtain ⟨μ, en, hh, er, hr, o⟩ := q
  refine seqI (rWs X.K ca) er hr o fun μ1 H1 h1 l xs s1 er1 hr1 z o1 => ?_
  by_cases hl : l.length ≤ 1000
  · rw [if_pos hl] at o1
    exact ⟨by rw [← z.len]; exact Nat.le_trans hl (by decide), fun p hp => out_mkTup hr1 z o1 hp⟩
  · rw [if_neg hl] at o1
    exact o1.elim
theorem e_lst {l : List Expr} {pos : Pos} {b : Bool} {m : En → Hh → Res (List W)} (h : PA X l (tI X.K ca W' (rWs X.K ca) m)) : PE X (.List l pos) (tI X.K ca W' (rW X.K ca) fun e h => (m e h).bind fun l h => if l.length ≤ 1000 then mkLst b l h else .bad) := by
  refine (pe_lst h).imp fun σ H Q q => ?_
  obtain ⟨μ, en, hh, er, hr, o⟩ := q
  refine seqI (rWs X.K ca) er hr o fun μ1 H1 h1 l xs s1 er1 hr1 z o1 => ?_
  by_cases hl : l.length ≤ 1000
  · rw [if_pos hl] at o1
    exact ⟨by rw [← z.len]; exact Nat.le_trans hl (by decide), fun p hp => out_mkLst hr1 z o1 hp⟩
  · rw [if_neg hl] at o1
    exact o1.elim
theorem e_neg {e : Expr} {pos : Pos} {m : En → Hh → Res W} (h : PE X e (tI X.K ca W' (rW X.K ca) m)) : PE X (.UnaryOp .USub e pos) (tI X.K ca W' (rW X.K ca) fun e h => (m e h).bind fun x h => (match x with
    | .dat (.int i) => .ok (.dat (.int (-i))) h
    | _ => .bad)) := by
  refine (pe_un un_neg h).imp fun σ H Q q => ?_
  obtain ⟨μ, en, hh, er, hr, o⟩ := q
  refine seqI (rW X.K ca) er hr o fun μ1 H1 h1 w v s1 er1 hr1 z o1 => ?_
  cases w with
  | dat d =>
    cases d with
    | int i => exact ⟨i, z.of_int, o1.now hr1 .int⟩
    | _ => exact o1.elim
  | _ => exact o1.elim
theorem truth_ok {w : W} {b : Bool} (h : truth w = some b) : w = .dat (.bool b) := by
  cases w with
  | dat d => cases d <;> first | (cases h; rfl) | cases h
  | _ => cases h
theorem e_not {e : Expr} {pos : Pos} {m : En → Hh → Res W} (h : PE X e (tI X.K ca W' (rW X.K ca) m)) : PE X (.UnaryOp .Not e pos) (tI X.K ca W' (rW X.K ca) fun e h => (m e h).bind fun x h => (match truth x with
    | some b => .ok (.dat (.bool (!b))) h
    | none => .bad)) := by
  refine (pe_not h).imp fun σ H Q q => ?_
  obtain ⟨μ, en, hh, er, hr, o⟩ := q
  refine seqI (rW X.K ca) er hr o fun μ1 H1 h1 w v s1 er1 hr1 z o1 => ?_
  cases e : truth w with
  | none => simp only [e] at o1; exact o1.elim
  | some b =>
    simp only [e] at o1
    obtain rfl := truth_ok e
    exact ⟨b, z.of_bool, o1.now hr1 .bl⟩
theorem t_not {e : Expr} {pos : Pos} {m : En → Hh → Res W} (h : PT X e (tI X.K ca W' rB fun e h => toB (m e h))) : PT X (.UnaryOp .Not e pos) (tI X.K ca W' rB fun e h => toB ((m e h).bind fun x h => (match truth x with
    | some b => .ok (.dat (.bool (!b))) h
    | none => .bad))) := by
  refine (pt_not h).imp fun σ H Q q => ?_
  obtain ⟨μ, en, hh, er, hr, o⟩ := q
  have o : Out X.K ca μ H rB Q (fun c H' => W' c σ H') ((toB (m en hh)).bind fun b h => .ok (!b) h) := by
    cases e : m en hh with
    | bad => simp only [e] at o; exact o.elim
    | exc c h' => simp only [e] at o; exact o
    | ok w h' =>
      simp only [e] at o
      cases e2 : truth w with
      | none => simp only [Res.bind, e2, toB] at o; exact o.elim
      | some b =>
        simp only [Res.bind, e2, toB] at o
        simp only [toB, Res.bind, e2, optR]
        exact o
  refine seqI rB er hr (f := fun b h => .ok (!b) h) (m := fun e h => toB (m e h)) o fun μ1 H1 h1 b b' s1 er1 hr1 z o1 => ?_
  have z : b = b' := z
  subst z
  exact o1.now hr1 rfl
theorem t_cmp (hu : X.A.units + 65 < cLine) {o : COp} {a b : Expr} {pos : Pos} {m n : En → Hh → Res W} (ha : PE X a (tI X.K ca W' (rW X.K ca) m)) (hb : PE X b (tI X.K ca W' (rW X.K ca) n)) (hm : behindInMarks (opC o) b = false) :
    PE X (.Compare a [opC o] [b] pos) (tI X.K ca W' (rW X.K ca) fun e h => (m e h).bind fun x h => (n e h).bind fun y h => rb h (cmpW o x y h)) ∧
    PT X (.Compare a [opC o] [b] pos) (tI X.K ca W' rB fun e h => toB ((m e h).bind fun x h => (n e h).bind fun y h => rb h (cmpW o x y h))) :=
  ⟨(pe_cmpR (ok_cmp hu) ha hb hm).imp fun σ H Q q => tI_op (f := fun a b h => rb h (cmpW o a b h)) (fun _ _ _ _ _ => rb_ne) q,
   (pt_cmpR (ok_cmp hu) ha hb hm).imp fun σ H Q q => tI_op (f := fun a b h => rb h (cmpW o a b h)) (fun _ _ _ _ _ => rb_ne) (toB_seq q)⟩
theorem chn_ok {K : PySem.W.Frag} {o p : COp} {m n l : En → Hh → Res W} {σ : L2.St} {H : Hp} {Q : VK} (q : tI K ca W' (rW K ca) (fun e h => (m e h).bind fun x h => (n e h).bind fun y h => (match cmpW o x y h with
    | some true => (l e h).bind fun z h => rb h (cmpW p y z h)
    | some false => .ok (.dat (.bool false)) h
    | none => .bad)) σ H Q) : tChain (rOp K ca fun a b h => rb h (cmpW o a b h)) (rOp K ca fun a b h => rb h (cmpW p a b h)) (tI K ca W' (rW K ca) m) (tI K ca W' (rW K ca) n) (tI K ca W' (rW K ca) l) σ H Q := by
  obtain ⟨μ, en, hh, er, hr, o1⟩ := q
  refine seqI (rW K ca) er hr o1 fun μ1 H1 h1 w v s1 er1 hr1 z o2 => ?_
  refine seqI (rW K ca) er1 hr1 o2 fun μ2 H2 h2 w2 v2 s2 er2 hr2 z2 o3 => ?_
  refine ⟨μ2, h2, w, w2, hr2, z.mono s2, z2, ?_⟩
  cases e : cmpW o w w2 h2 with
  | none => simp only [e] at o3; exact o3.elim
  | some k =>
    show Out K ca μ2 H2 (rW K ca) _ _ (rb h2 (cmpW o w w2 h2))
    rw [e]
    intro μ3 H3 b s3 hr3 zb
    refine ⟨k, zb.of_bool, ?_⟩
    cases k with
    | false =>
      rw [if_neg Bool.false_ne_true]
      simp only [e] at o3
      have := o3 μ3 H3 b s3 hr3 zb
      rw [zb.of_bool] at this
      exact this
    | true =>
      rw [if_pos rfl]
      simp only [e] at o3
      refine seqI (rW K ca) (er2.mono s3) hr3 (o3.shift s3) fun μ4 H4 h4 w4 v4 s4 er4 hr4 z4 o5 => ?_
      refine ⟨μ4, h4, w2, w4, hr4, (z2.mono s3).mono s4, z4, ?_⟩
      show Out K ca μ4 H4 (rW K ca) _ _ (rb h4 (cmpW p w2 w4 h4))
      cases q : rb h4 (cmpW p w2 w4 h4) with
      | ok a h' => rw [q] at o5; exact o5
      | exc c h' => exact absurd q rb_ne
      | bad => rw [q] at o5; exact o5
theorem e_ite {c a b : Expr} {pos : Pos} {k m n : En → Hh → Res W} (hc : PT X c (tI X.K ca W' rB fun e h => toB (k e h))) (ha : PE X a (tI X.K ca W' (rW X.K ca) m)) (hb : PE X b (tI X.K ca W' (rW X.K ca) n)) :
    PE X (.IfExp c a b pos) (tI X.K ca W' (rW X.K ca) fun e h => (toB (k e h)).bind fun q h => if q = true then m e h else n e h) := by
  refine (pe_ifExp hc ha hb).imp fun σ H Q q => ?_
  obtain ⟨μ, en, hh, er, hr, o⟩ := q
  refine seqI (m := fun e h => toB (k e h)) rB er hr o fun μ1 H1 h1 w v s1 er1 hr1 z o1 => ?_
  have z : w = v := z
  subst z
  cases w with
  | true => exact ⟨μ1, en, h1, er1, hr1, o1⟩
  | false => exact ⟨μ1, en, h1, er1, hr1, o1⟩
theorem t_ite {c a b : Expr} {pos : Pos} {k m n : En → Hh → Res W} (hc : PT X c (tI X.K ca W' rB fun e h => toB (k e h))) (ha : PT X a (tI X.K ca W' rB fun e h => toB (m e h))) (hb : PT X b (tI X.K ca W' rB fun e h => toB (n e h))) :
    PT X (.IfExp c a b pos) (tI X.K ca W' rB fun e h => toB ((toB (k e h)).bind fun q h => if q = true then m e h else n e h)) := by
  refine ⟨fun pins s σ H Q I q => ?_⟩
  obtain ⟨μ, en, hh, er, hr, o⟩ := q
  have o : Out X.K ca μ H rB Q (fun c H' => W' c σ H') ((toB (k en hh)).bind fun q h => if q = true then toB (m en h) else toB (n en h)) := by
    cases e : toB (k en hh) with
    | bad => simp only [e] at o; exact o.elim
    | exc c h' => simp only [e] at o; exact o
    | ok w h' =>
      simp only [e] at o
      cases w with
      | true => exact o
      | false => exact o
  have hw := seqI (m := fun e h => toB (k e h)) (Q2 := fun b H1 => if b = true then tI X.K ca W' rB (fun e h => toB (m e h)) σ H1 Q else tI X.K ca W' rB (fun e h => toB (n e h)) σ H1 Q) rB er hr o fun μ1 H1 h1 w v s1 er1 hr1 z o1 => by
    have z : w = v := z
    subst z
    cases w with
    | true => exact ⟨μ1, en, h1, er1, hr1, o1⟩
    | false => exact ⟨μ1, en, h1, er1, hr1, o1⟩
  show wpAny _ _ (do if ← isTrue c X.env (eval c X.env) then isTrue a X.env (eval a X.env) else isTrue b X.env (eval b X.env)) _ _ _
  refine wpAny_bind (thn (hc.run pins s σ H _ I hw) fun d s1 ⟨H1, I1, q1⟩ => ?_)
  cases d with
  | true => exact ha.run pins s1 σ H1 Q I1 q1
  | false => exact hb.run pins s1 σ H1 Q I1 q1
theorem e_slc {a : Expr} {lo hi : Option Expr} {p pos : Pos} {m : En → Hh → Res W} {l u : En → Hh → Res (Option Int)} (ha : PE X a (tI X.K ca W' (rW X.K ca) m)) (hl : PO X lo (tI X.K ca W' (fun _ _ a b => a = b) l)) (hu : PO X hi (tI X.K ca W' (fun _ _ a b => a = b) u)) :
    PE X (.Subscript a (.Slice lo hi none p) pos) (tI X.K ca W' (rW X.K ca) fun e h => (m e h).bind fun x h => (l e h).bind fun y h => (u e h).bind fun z h => slice x y z h) := by
  refine (pe_slice (ok_slice (ca := ca)) ha hl hu).imp fun σ H Q q => ?_
  obtain ⟨μ, en, hh, er, hr, o⟩ := q
  refine seqI (rW X.K ca) er hr o fun μ1 H1 h1 w v s1 er1 hr1 z o1 => ?_
  refine seqI (fun _ _ a b => a = b) er1 hr1 o1 fun μ2 H2 h2 w2 v2 s2 er2 hr2 z2 o2 => ?_
  refine seqI (fun _ _ a b => a = b) er2 hr2 o2 fun μ3 H3 h3 w3 v3 s3 er3 hr3 z3 o3 => ?_
  subst z2
  subst z3
  refine ⟨μ3, h3, w, hr3, (z.mono s2).mono s3, ?_⟩
  cases q : slice w w2 w3 h3 with
  | ok a h' => rw [q] at o3; exact o3
  | exc c h' => exact absurd q slice_ne
  | bad => rw [q] at o3; exact o3
theorem o_non : PO X none (tI X.K ca W' (fun _ _ a b => a = b) fun _ h => .ok none h) := ⟨fun pins s σ H Q I ⟨μ, en, hh, er, hr, o⟩ => po_none.run pins s σ H Q I (o.now hr rfl)⟩
theorem o_som {e : Expr} {m : En → Hh → Res W} (h : PE X e (tI X.K ca W' (rW X.K ca) m)) : PO X (some e) (tI X.K ca W' (fun _ _ a b => a = b) fun e h => (m e h).bind fun x h => (match x with
    | .dat (.int i) => .ok (some i) h
    | _ => .bad)) := by
  refine ⟨fun pins s σ H Q I q => (po_some h).run pins s σ H Q I ?_⟩
  obtain ⟨μ, en, hh, er, hr, o⟩ := q
  refine seqI (rW X.K ca) er hr o fun μ1 H1 h1 w v s1 er1 hr1 z o1 => ?_
  cases w with
  | dat d =>
    cases d with
    | int i => exact ⟨i, z.of_int, o1.now hr1 rfl⟩
    | _ => exact o1.elim
  | _ => exact o1.elim
/-- arguments -/
theorem a_nil : PA X [] (tI X.K ca W' (rWs X.K ca) fun _ h => .ok [] h) := pa_nil.imp fun σ H Q ⟨μ, en, hh, er, hr, o⟩ => o.now hr .nil
theorem a_cons {e : Expr} {l : List Expr} {m : En → Hh → Res W} {n : En → Hh → Res (List W)} (pe : plainE e = true) (he : PE X e (tI X.K ca W' (rW X.K ca) m)) (hl : PA X l (tI X.K ca W' (rWs X.K ca) n)) :
    PA X (e :: l) (tI X.K ca W' (rWs X.K ca) fun e h => (m e h).bind fun x h => (n e h).bind fun xs h => .ok (x :: xs) h) := by
  refine (pa_cons he hl (star_of pe)).imp fun σ H Q q => ?_
  obtain ⟨μ, en, hh, er, hr, o⟩ := q
  refine seqI (rW X.K ca) er hr o fun μ1 H1 h1 w v s1 er1 hr1 z o1 => ?_
  refine seqI (rWs X.K ca) er1 hr1 o1 fun μ2 H2 h2 w2 v2 s2 er2 hr2 z2 o2 => ?_
  exact o2.now hr2 (.cons (z.mono s2) z2)
/-- a call by values of a built-in -/
theorem tI_cb {f : List W → Hh → Res W} {n : En → Hh → Res (List W)} (hf : ∀ a h c h', f a h ≠ .exc c h') {σ : L2.St} {H : Hp} {Q : VK} (q : tI X.K ca W' (rW X.K ca) (fun e h => (n e h).bind fun ws h => f ws h) σ H Q) : tCB (rC X.K ca f) (tI X.K ca W' (rWs X.K ca) n) σ H Q := by
  obtain ⟨μ, en, hh, er, hr, o⟩ := q
  refine seqI (rWs X.K ca) er hr o fun μ1 H1 h1 w v s1 er1 hr1 z o1 => ?_
  refine ⟨μ1, h1, w, hr1, z, ?_⟩
  cases q : f w h1 with
  | ok a h' => rw [q] at o1; exact o1
  | exc c h' => exact absurd q (hf _ _ _ _)
  | bad => rw [q] at o1; exact o1
/-- and, or -/
def opB (con : Bool) : BoolOp := if con then .And else .Or
theorem evb_bool {con b : Bool} {e : En} {h : Hh} {m : Res Bool} {f : Hh → Res Bool} : True := trivial
theorem b_one {con : Bool} {e : Expr} {pos : Pos} {m : En → Hh → Res W} (he : PE X e (tI X.K ca W' (rW X.K ca) m)) (ht : PT X e (tI X.K ca W' rB fun e h => toB (m e h))) :
    PE X (.BoolOp (opB con) [e] pos) (tI X.K ca W' (rW X.K ca) fun e h => ofB ((toB (m e h)).bind fun b h => if b = con then .ok con h else .ok (!con) h)) ∧
    PW X (.BoolOp (opB con) [e] pos) (tI X.K ca W' rB fun e h => (toB (m e h)).bind fun b h => if b = con then .ok con h else .ok (!con) h) := by
  have same : ∀ (b : Bool) (h : Hh), (if b = con then Res.ok con h else .ok (!con) h) = .ok b h := fun b h => by
    by_cases q : b = con
    · rw [if_pos q, q]
    · rw [if_neg q]
      cases b <;> cases con <;> first | rfl | exact absurd rfl q
  have eta : ∀ r : Res Bool, r.bind (fun b h => if b = con then Res.ok con h else .ok (!con) h) = r := fun r => by
    cases r with
    | ok b h => exact same b h
    | exc c h => rfl
    | bad => rfl
  refine ⟨(pe_one he).imp fun σ H Q q => ?_, ?_⟩
  · obtain ⟨μ, en, hh, er, hr, o⟩ := q
    have o : Out X.K ca μ H (rW X.K ca) Q (fun c H' => W' c σ H') (ofB ((toB (m en hh)).bind fun b h => if b = con then .ok con h else .ok (!con) h)) := o
    rw [eta] at o
    refine ⟨μ, en, hh, er, hr, ?_⟩
    cases e : m en hh with
    | bad => rw [e] at o; exact o.elim
    | exc c h' => rw [e] at o; exact o
    | ok w h' =>
      rw [e] at o
      have o : Out X.K ca μ H (rW X.K ca) Q (fun c H' => W' c σ H') (ofB (optR h' (truth w))) := o
      cases e2 : truth w with
      | none => rw [e2] at o; exact o.elim
      | some b =>
        rw [e2] at o
        obtain rfl := truth_ok e2
        exact o
  · have z : PW X (.BoolOp (opB con) [e] pos) (tI X.K ca W' rB fun e h => toB (m e h)) := by
      cases con with
      | true => exact pw_and1 ht
      | false => exact pw_or1 ht
    refine z.imp fun σ H Q q => ?_
    obtain ⟨μ, en, hh, er, hr, o⟩ := q
    have o : Out X.K ca μ H rB Q (fun c H' => W' c σ H') ((toB (m en hh)).bind fun b h => if b = con then Res.ok con h else Res.ok (!con) h) := o
    rw [eta] at o
    exact ⟨μ, en, hh, er, hr, o⟩
theorem b_cons {con : Bool} {e e1 : Expr} {l : List Expr} {pos : Pos} {m : En → Hh → Res W} {n : En → Hh → Res Bool} (he : PE X e (tI X.K ca W' (rW X.K ca) m)) (ht : PT X e (tI X.K ca W' rB fun e h => toB (m e h)))
    (h1 : PE X (.BoolOp (opB con) (e1 :: l) pos) (tI X.K ca W' (rW X.K ca) fun e h => ofB (n e h))) (h2 : PW X (.BoolOp (opB con) (e1 :: l) pos) (tI X.K ca W' rB n)) :
    PE X (.BoolOp (opB con) (e :: e1 :: l) pos) (tI X.K ca W' (rW X.K ca) fun e h => ofB ((toB (m e h)).bind fun b h => if b = con then n e h else .ok (!con) h)) ∧
    PW X (.BoolOp (opB con) (e :: e1 :: l) pos) (tI X.K ca W' rB fun e h => (toB (m e h)).bind fun b h => if b = con then n e h else .ok (!con) h) := by
  have vals : ∀ (σ : L2.St) (H : Hp) (Q : VK), tI X.K ca W' (rW X.K ca) (fun e h => ofB ((toB (m e h)).bind fun b h => if b = con then n e h else .ok (!con) h)) σ H Q →
      tI X.K ca W' (rW X.K ca) m σ H fun x H1 => ∃ c, x = .bl c ∧ if c = con then tI X.K ca W' (rW X.K ca) (fun e h => ofB (n e h)) σ H1 Q else Q (.bl (!con)) H1 := fun σ H Q q => by
    obtain ⟨μ, en, hh, er, hr, o⟩ := q
    have o : Out X.K ca μ H (rW X.K ca) Q (fun c H' => W' c σ H') ((toB (m en hh)).bind fun b h => ofB (if b = con then n en h else .ok (!con) h)) := by
      cases e : toB (m en hh) with
      | bad => simp only [e] at o; exact o.elim
      | exc c h' => simp only [e] at o; exact o
      | ok w h' => simp only [e] at o; exact o
    refine toB_seq ⟨μ, en, hh, er, hr, (o.bind rB).mono (fun b H1 ⟨μ1, h1, a, s, r1, z, o1⟩ => ?_) fun _ _ z => z⟩
    have z : a = b := z
    subst z
    by_cases q : a = con
    · rw [if_pos q] at o1 ⊢
      exact ⟨μ1, en, h1, er.mono s, r1, o1⟩
    · rw [if_neg q] at o1 ⊢
      exact o1.now r1 .bl
  have tests : ∀ (σ : L2.St) (H : Hp) (Q : Bool → Hp → Prop), tI X.K ca W' rB (fun e h => (toB (m e h)).bind fun b h => if b = con then n e h else .ok (!con) h) σ H Q →
      tI X.K ca W' rB (fun e h => toB (m e h)) σ H fun c H1 => if c = con then tI X.K ca W' rB n σ H1 Q else Q (!con) H1 := fun σ H Q q => by
    obtain ⟨μ, en, hh, er, hr, o⟩ := q
    refine seqI (m := fun e h => toB (m e h)) rB er hr o fun μ1 H1 h1 a b s er1 r1 z o1 => ?_
    have z : a = b := z
    subst z
    by_cases q : a = con
    · rw [if_pos q] at o1 ⊢
      exact ⟨μ1, en, h1, er1, r1, o1⟩
    · rw [if_neg q] at o1 ⊢
      exact o1.now r1 rfl
  cases con with
  | true =>
    exact ⟨(pe_and he h1).imp fun σ H Q q => vals σ H Q q, (pw_and ht h2).imp fun σ H Q q => tests σ H Q q⟩
  | false =>
    refine ⟨(pe_or he h1).imp fun σ H Q q => ?_, (pw_or ht h2).imp fun σ H Q q => ?_⟩
    · refine tI_mono (vals σ H Q q) fun x H1 ⟨c, e, z⟩ => ⟨c, e, ?_⟩
      cases c with
      | true => exact z
      | false => exact z
    · refine tI_mono (tests σ H Q q) fun c H1 z => ?_
      cases c with
      | true => exact z
      | false => exact z
end
end M
/-! MMain: every expression of the mini language does what it says. -/
namespace M
open PySem PySem.Spec L2
section
variable {S : Sg} {ca : Nat → Addr} {call : Nat → List W → Hh → Res W} {lv : Nat} {N : List Str} {wh : (En → Hh → Res Bool) → (En → Hh → SR) → En → Hh → SR}
theorem and2 {a b : Bool} (h : (a && b) = true) : a = true ∧ b = true := Bool.and_eq_true_iff.mp h
theorem boot_min : bootBuiltins "min" = some (.builtin "min") := by decide +kernel
theorem boot_max : bootBuiltins "max" = some (.builtin "max") := by decide +kernel
theorem boot_all : bootBuiltins "all" = some (.builtin "all") := by decide +kernel
theorem boot_any : bootBuiltins "any" = some (.builtin "any") := by decide +kernel
theorem hu65 {k : Nat} {A : Around} (hr : Room k A) : A.units + 65 < cLine := by
  have h1 := hr.un
  omega
/-- a built-in function's rule -/
theorem fb_ok {X : Cx} {f : Fb} {m : Bool} (hc : (S.calm || decide (f = .int)) = true) (hc2 : S.calm = true → X.calm = true) (h : fbName f ≠ "?") : (∃ id, bootBuiltins (fbName f) = some (.builtin id) ∧ CallR X (.builtin id) (rC X.K ca (builtin f m))) ∨ ∃ T, bootBuiltins (fbName f) = some (.type T) ∧ CallR X (.type T) (rC X.K ca (builtin f m)) := by
  have hc : f ≠ .int → X.calm = true := fun n => hc2 (by cases q : S.calm with
    | true => rfl
    | false => rw [q] at hc; exact absurd (of_decide_eq_true (show decide (f = .int) = true from hc)) n)
  cases f with
  | abs => exact .inl ⟨_, PyProof.Rows.boot_abs, ok_abs⟩
  | len => exact .inl ⟨_, PySem.boot_len, ok_len⟩
  | all => exact .inl ⟨_, boot_all, ok_all (hc (by decide))⟩
  | any => exact .inl ⟨_, boot_any, ok_any (hc (by decide))⟩
  | int => exact .inr ⟨_, PyProof.Rows.boot_int, ok_int⟩
  | min2 => exact .inl ⟨_, boot_min, ok_min2 (hc (by decide))⟩
  | max2 => exact .inl ⟨_, boot_max, ok_max2 (hc (by decide))⟩
  | divmod => exact .inl ⟨_, PyProof.Rows.boot_divmod, ok_divmod⟩
  | tuple => exact .inr ⟨_, PyProof.Rows.boot_tuple, ok_tuple⟩
  | list => exact .inr ⟨_, PyProof.Rows.boot_list, ok_list⟩
  | str => exact .inr ⟨_, PyProof.Rows.boot_str, ok_str⟩
  | _ => exact absurd rfl h
/-- the built-in type of data -/
def tyOf : D → String
  | .none => "NoneType"
  | .bool _ => "bool"
  | .int _ => "int"
  | .str _ => "str"
  | .list _ => "list"
  | .tuple _ => "tuple"
  | .dict _ => "dict"
theorem tyx_ok {X : Cx} {μ : Mu} {H : Hp} {d : D} {x : V} (r : VR X.K μ H d x) : TyX X.K H x (.type (tyOf d)) := by
  cases r with
  | non => exact .base .non
  | bl b => exact .base (.bl b)
  | int i => exact .base (.int i)
  | str z => exact .base (.str z)
  | lst h hs =>
    rcases h.2 with q | ⟨o, q⟩
    · exact .base (.lst q)
    · exact .base (.frz q)
  | tup h hs =>
    rcases h with ⟨_, q | ⟨o, q⟩⟩ | ⟨o, its, n, q, hc, _⟩
    · exact .base (.tup q)
    · exact .fTuple q
    · exact .kTuple q hc
  | dct h hs =>
    rcases h.2 with q | ⟨o, q⟩
    · exact .base (.dK q)
    · exact .fDict q
def tyStr : Ty → String
  | .int => "int"
  | .bool => "bool"
  | .str => "str"
  | .tuple => "tuple"
  | .list => "list"
  | .dict => "dict"
  | _ => "?"
theorem kit_all (t : Ty) (ht : tyStr t ≠ "?") (d : D) : ∃ b, tyIs t (.dat d) = some b ∧ kitB (tyOf d) (tyStr t) = some b := by
  cases t <;> first | exact absurd rfl ht | skip
  all_goals cases d
  all_goals refine ⟨_, rfl, ?_⟩
  all_goals simp only [tyOf, tyStr]
  all_goals decide +kernel
theorem boot_ty (t : Ty) (ht : tyStr t ≠ "?") : bootBuiltins (tyName t) = some (.type (tyStr t)) := by
  cases t <;> first | exact absurd rfl ht | (show bootBuiltins _ = _; decide +kernel)
/-- isinstance of a caught error -/
def rIsX (K : PySem.W.Frag) (ca : Nat → Addr) : List V → Hp → VK → Prop := fun xs H Q => ∃ (a : Addr) (c : Nat) (y : V) (cv : Value) (b : Bool), xs = [.ref a, y] ∧ Rd H a (ExV (ca c) a) ∧ ExcC K (ca c) ∧ (∀ u, RelV y u → u = cv) ∧ PySem.W.kitOne K (.ref (ca c)) cv = some b ∧ Q (.bl b) H
theorem call_isX {X : Cx} : CallR X (.builtin "isinstance") (rIsX X.K ca) := by
  intro pins s σ H xs us Q I r h
  obtain ⟨a, c, y, cv, b, rfl, hR, C, hcv, e, q⟩ := h
  obtain ⟨u1, u2, rfl, r1, r2⟩ := vals2 r
  cases (show u1 = Value.ref a from r1)
  have ec := hcv _ r2
  subst ec
  obtain ⟨⟨oe, hget, hz, vs, hv⟩, _, _⟩ := (show ObjOk X.prog X.w H s.heap a (ExV (ca c) a) from hR.ok I.hok)
  have J : PySem.W.InstAt s.heap a oe (ca c) none := by
    obtain ⟨oc, od, oda, osl⟩ := oe
    obtain ⟨h1, h2⟩ := hz
    dsimp only at h1 h2 hv
    subst h1 h2 hv
    exact ⟨hget, rfl, rfl, trivial⟩
  exact PySem.W.kia_one (PySem.W.handS_kitx_exc C.hg C.hk C.hs C.hd C.ha C.hn C.ht C.hm) I.kIn J e (fun z => nomatch z) fun tk => ⟨.bl b, H, I.tok tk, rfl, q⟩
/-- isinstance, of either -/
theorem callR_or {X : Cx} {u : Value} {r r' : List V → Hp → VK → Prop} (h : CallR X u r) (h' : CallR X u r') : CallR X u (fun xs H Q => r xs H Q ∨ r' xs H Q) := fun pins s σ H xs us Q I rv z => z.elim (h pins s σ H xs us Q I rv) (h' pins s σ H xs us Q I rv)
theorem e_isi {X : Cx} {W' : Nat → L2.St → Hp → Prop} {a : Expr} {t : Ty} {y : Str} {p p2 pos : Pos} {m : En → Hh → Res W} (hg : Gl X "isinstance") (hm : X.mg "isinstance" = none) (hg2 : Gl X y) (hm2 : ∀ x, freeB S x = true → X.mg x = none) (ht : tyB S t y = true) (pa : plainE a = true)
    (ex : ExS S X.K X.mg ca) (hp : plainB y = true) (ha : PE X a (tI X.K ca W' (rW X.K ca) m)) :
    PE X (.Call (.Name "isinstance" p) [a, .Name y p2] [] pos) (tI X.K ca W' (rW X.K ca) fun e h => (m e h).bind fun x h => rb h (tyIs t x)) := by
  have key : ∃ (v : V) (cv : Value), PE X (.Name y p2) (tC v) ∧ (∀ u, RelV v u → u = cv) ∧ ((tyStr t ≠ "?" ∧ v = .ty (tyStr t) ∧ cv = .type (tyStr t)) ∨ (t = .verr ∧ v = .ty "ValueError" ∧ cv = .type "ValueError" ∧ S.excs ≠ []) ∨ ∃ d z, t = .exc d ∧ S.excs[d]? = some z ∧ cv = .ref (ca d)) := by
    have pn0 := plain_of hp
    have pn : (y == ("__debug__" : Str)) = false ∧ y ≠ ("__name__" : Str) := ⟨pn0.1, pn0.2.2⟩
    by_cases hs : tyStr t = "?"
    · cases t with
      | exc c =>
        have e := of_decide_eq_true (show decide (S.excs[c]? = some y) = true from ht)
        exact ⟨.ref (ca c), .ref (ca c), pe_glob hg2 (ex.gl c y e).1 rfl pn.1, fun u r => r, .inr (.inr ⟨c, y, rfl, e, rfl⟩)⟩
      | verr =>
        have h2 := and2 (show (decide (y = "ValueError") && (freeB S y && !S.excs.isEmpty)) = true from ht)
        have h3 := and2 h2.2
        have ne : S.excs ≠ [] := fun z => by have := h3.2; rw [z] at this; cases this
        have e := of_decide_eq_true h2.1
        subst e
        exact ⟨.ty "ValueError", .type "ValueError", pe_bltn hg2 (hm2 _ h3.1) (by decide +kernel) rfl pn.2 pn.1, fun u r => r, .inr (.inl ⟨rfl, rfl, rfl, ne⟩)⟩
      | _ => exact absurd hs (by decide)
    · have z : y = tyName t ∧ freeB S y = true := by
        cases t <;> first | exact absurd rfl hs | (have h2 := and2 (show (decide (_ = y) && (decide (y ≠ "?") && freeB S y)) = true from ht); exact ⟨(of_decide_eq_true h2.1).symm, (and2 h2.2).2⟩)
      obtain ⟨e, f⟩ := z
      subst e
      exact ⟨.ty (tyStr t), .type (tyStr t), pe_bltn hg2 (hm2 _ f) (boot_ty t hs) rfl pn.2 pn.1, fun u r => r, .inl ⟨hs, rfl, rfl⟩⟩
  obtain ⟨cv0, cv, h2, hcv, cases_⟩ := key
  refine (pe_callB (callR_or call_isi (call_isX (ca := ca))) hg hm PyProof.Rows.boot_isinstance (pa_cons ha (pa_cons h2 pa_nil rfl) (star_of pa)) (by decide) (by decide) (star_of pa) rfl).imp fun σ H Q q => ?_
  obtain ⟨μ, en, hh, er, hr, o⟩ := q
  refine seqI (rW X.K ca) er hr o fun μ1 H1 h1 w v s1 er1 hr1 z o1 => ?_
  obtain ⟨k, e, q⟩ := out_rb hr1 o1
  cases w with
  | dat d =>
    rcases cases_ with ⟨ht, rfl, rfl⟩ | ⟨rfl, _, _⟩ | ⟨d', _, rfl, _, _⟩
    · obtain ⟨b, e1, e2⟩ := kit_all t ht d
      rw [e1] at e
      cases e
      cases z with
      | dat z => exact .inl ⟨v, .ty (tyStr t), _, _, _, rfl, .ty _, tyx_ok z, kit_ty e2, q⟩
    · cases e
    · cases e
  | exc c =>
    cases z with
    | exc n hR =>
      rcases cases_ with ⟨ht, rfl, rfl⟩ | ⟨rfl, rfl, rfl, ne⟩ | ⟨d', z', rfl, hz, rfl⟩
      · cases t <;> first | exact absurd rfl ht | cases e
      · cases e
        exact .inr ⟨_, c, _, _, _, rfl, hR, (ex.ic c ne).1, hcv, (ex.ic c ne).2, q⟩
      · cases e
        have ne : S.excs ≠ [] := fun z => by rw [z] at hz; simp at hz
        exact .inr ⟨_, c, _, _, _, rfl, hR, (ex.ic c ne).1, hcv, (ex.kk c d' z' hz).1, q⟩
  | _ => cases e
theorem few_of {cpos : Pos} {env : Env} {l : List Expr} (h : ∀ e ∈ l, plainE e = true) (hl : l.length < 30) : ((backTo cpos (starEach l env)).all (fun x => !x.1) && (backToKw cpos (keywordEach [] env)).all (fun x => x.1.isSome)
    && decide (l.length + ([] : List Keyword).length + (if ([] : List Keyword).isEmpty then 0 else 1) < 30)) = true := by
  have z := star_none (pos := cpos) (env := env) h
  have a : (backTo cpos (starEach l env)).all (fun x => !x.1) = true := by
    rw [List.all_eq_true]
    intro x hx
    rw [List.any_eq_false] at z
    have := z x hx
    cases q : x.1 with
    | false => rfl
    | true => exact absurd q this
  have b : decide (l.length + ([] : List Keyword).length + (if ([] : List Keyword).isEmpty then 0 else 1) < 30) = true := decide_eq_true (by simpa using hl)
  rw [a, b]
  rfl
theorem e_bmt {X : Cx} {W' : Nat → L2.St → Hp → Prop} {o e0 : Expr} {l : List Expr} {apos cpos : Pos} {f : Mb} {m : En → Hh → Res W} {n : En → Hh → Res (List W)} (hf : bmName f ≠ "?") (hb : baseB o = true) (hl : (e0 :: l).length < 30) (pl : ∀ e ∈ e0 :: l, plainE e = true) (li : apos.endLine = cpos.line)
    (ho : PE X o (tI X.K ca W' (rW X.K ca) m)) (ha : PA X (e0 :: l) (tI X.K ca W' (rWs X.K ca) n)) :
    PE X (.Call (.Attribute o (bmName f) apos) (e0 :: l) [] cpos) (tI X.K ca W' (rW X.K ca) fun e h => (m e h).bind fun x h => if bmIs f x h = true then (n e h).bind fun ws h => bmeth f x ws h else .bad) := by
  have B := bm_ok (X := X) (ca := ca) hf
  refine (pe_bm B.pa B.slot B.ty B.run ho ha (base_of hb) (few_of pl hl) (by rw [li]; exact beq_self_eq_true _) (star_of (pl e0 List.mem_cons_self)) (star_none fun x z => pl x (List.mem_cons_of_mem _ z))).imp fun σ H Q q => ?_
  obtain ⟨μ, en, hh, er, hr, o⟩ := q
  refine seqI (rW X.K ca) er hr o fun μ1 H1 h1 w x s1 er1 hr1 z o1 => ?_
  obtain ⟨c, o1⟩ := out_if o1
  refine ⟨bm_ty hr1 z c, ?_⟩
  refine seqI (rWs X.K ca) er1 hr1 o1 fun μ2 H2 h2 ws xs s2 er2 hr2 zs o2 => ?_
  refine ⟨μ2, h2, w, ws, hr2, z.mono s2, zs, ?_⟩
  cases q : bmeth f w ws h2 with
  | ok a h' => rw [q] at o2; exact o2
  | exc c h' => exact absurd q bmeth_ne
  | bad => rw [q] at o2; exact o2
theorem e_bmt0 {X : Cx} {W' : Nat → L2.St → Hp → Prop} {o : Expr} {apos cpos : Pos} {f : Mb} {m : En → Hh → Res W} (hf : bmName f ≠ "?") (hb : baseB o = true) (li : apos.endLine = cpos.line) (ho : PE X o (tI X.K ca W' (rW X.K ca) m)) :
    PE X (.Call (.Attribute o (bmName f) apos) [] [] cpos) (tI X.K ca W' (rW X.K ca) fun e h => (m e h).bind fun x h => if bmIs f x h = true then bmeth f x [] h else .bad) := by
  have B := bm_ok (X := X) (ca := ca) hf
  refine (pe_bm0 B.pa B.slot B.ty B.run ho (base_of hb) (by rw [li]; exact beq_self_eq_true _)).imp fun σ H Q q => ?_
  obtain ⟨μ, en, hh, er, hr, o⟩ := q
  refine seqI (rW X.K ca) er hr o fun μ1 H1 h1 w x s1 er1 hr1 z o1 => ?_
  obtain ⟨c, o1⟩ := out_if o1
  refine ⟨bm_ty hr1 z c, μ1, h1, w, [], hr1, z, .nil, ?_⟩
  cases q : bmeth f w [] h1 with
  | ok a h' => rw [q] at o1; exact o1
  | exc c h' => exact absurd q bmeth_ne
  | bad => rw [q] at o1; exact o1
/-- {} -/
theorem e_dict {X : Cx} {W' : Nat → L2.St → Hp → Prop} {pos : Pos} : PE X (.Dict [] [] pos) (tI X.K ca W' (rW X.K ca) fun _ h => .ok (.dat (.dict [])) h) :=
  pe_dnewK.imp fun σ H Q ⟨μ, en, hh, er, hr, o⟩ => fun p hp => by
    have st : Stp μ H μ (upd H p (.dK [])) := hr.stp hp
    exact o μ _ _ st (hr.new hp) (.dat (.dct ⟨⟨fun z => hr.live p z hp, fun z => hr.livx p z hp⟩, .inl upd_same⟩ .nil))
theorem VRs.rev {K : PySem.W.Frag} {μ : Mu} {H : Hp} {ds : List D} {xs : List V} (z : VRs K μ H ds xs) : VRs K μ H ds.reverse xs.reverse := by
  have key : ∀ {a b : List D} {xs ys : List V}, VRs K μ H a xs → VRs K μ H b ys → VRs K μ H (a.reverseAux b) (xs.reverseAux ys) := by
    intro a
    induction a with
    | nil => intro b xs ys h1 h2; cases h1; exact h2
    | cons d a ih => intro b xs ys h1 h2; cases h1 with | cons r t => have z := ih t (.cons r h2); exact z
  exact key z .nil
theorem WRs.rev {K : PySem.W.Frag} {μ : Mu} {H : Hp} {ws : List W} {xs : List V} (z : WRs K ca μ H ws xs) : WRs K ca μ H ws.reverse xs.reverse := by
  have key : ∀ {a b : List W} {xs ys : List V}, WRs K ca μ H a xs → WRs K ca μ H b ys → WRs K ca μ H (a.reverseAux b) (xs.reverseAux ys) := by
    intro a
    induction a with
    | nil => intro b xs ys h1 h2; cases h1; exact h2
    | cons d a ih => intro b xs ys h1 h2; cases h1 with | cons r t => have z := ih t (.cons r h2); exact z
  exact key z .nil
/-- a[::-1] -/
theorem e_rev {X : Cx} {W' : Nat → L2.St → Hp → Prop} {e : Expr} {m : En → Hh → Res W} {k : Nat} {p1 p2 p3 pos : Pos} (he : PE X e (tI X.K ca W' (rW X.K ca) m)) :
    PE X (.Subscript e (.Slice none none (some (.UnaryOp .USub (.Constant (.int 1) k p1) p2)) p3) pos) (tI X.K ca W' (rW X.K ca) fun e h => (m e h).bind fun x h => revW x h) := by
  refine (pe_rev he).imp fun σ H Q q => ?_
  obtain ⟨μ, en, hh, er, hr, o⟩ := q
  refine seqI (rW X.K ca) er hr o fun μ1 H1 h1 w x s1 er1 hr1 z o1 => ?_
  cases w with
  | dat d =>
    cases d with
    | tuple l =>
      obtain ⟨a, xs, rfl, t1, t2⟩ := z.of_tup
      exact .inr ⟨a, xs, rfl, t1.sq, fun p hp => o1 μ1 _ _ (hr1.stp hp) (hr1.new hp) (.dat (VR.newTup ⟨_, hr1⟩ hp t2.rev))⟩
    | list l =>
      obtain ⟨a, xs, rfl, t1, t2⟩ := z.of_list
      exact .inl ⟨a, xs, rfl, t1.sq, fun p hp => o1 μ1 _ _ (hr1.stp hp) (hr1.new hp) (.dat (VR.newLst ⟨_, hr1⟩ hp t2.rev))⟩
    | _ => exact (show False from o1).elim
  | ref n =>
    cases z with
    | ref hn =>
      rename_i a
      cases q : h1[n]? with
      | none => simp only [revW, q] at o1; exact o1.elim
      | some ob =>
        cases ob with
        | lst l =>
          simp only [revW, q] at o1
          obtain ⟨xs, y1, y2⟩ := hr1.ob n _ a q hn
          exact .inl ⟨a, xs, rfl, SqL.of y1, fun p hp => out_mkLst hr1 (WRs.rev y2) o1 hp⟩
        | _ => simp only [revW, q] at o1; exact o1.elim
  | _ => exact (show False from o1).elim
theorem rev_inv {sc : Scope} {a : CE} {v s : Expr} {p : Pos} (h : chkE S N sc (.rev a) (.Subscript v s p) = true) : ∃ j p1 p2 p3, s = .Slice none none (some (.UnaryOp .USub (.Constant (.int 1) j p1) p2)) p3 ∧ chkE S N sc a v = true := by
  cases s with
  | Slice l u st p3 =>
    cases l with
    | some _ => unfold chkE at h; simp at h
    | none =>
      cases u with
      | some _ => unfold chkE at h; simp at h
      | none =>
        cases st with
        | none => unfold chkE at h; simp at h
        | some e =>
          cases e with
          | UnaryOp op e1 p2 =>
            cases e1 with
            | Constant c j p1 =>
              cases c with
              | int i =>
                unfold chkE at h
                have h2 := and2 h
                have h3 := and2 h2.2
                obtain rfl := of_decide_eq_true h2.1
                obtain rfl := of_decide_eq_true h3.1
                exact ⟨j, p1, p2, p3, rfl, h3.2⟩
              | _ => unfold chkE at h; simp at h
            | _ => unfold chkE at h; simp at h
          | _ => unfold chkE at h; simp at h
  | _ => unfold chkE at h; simp at h
theorem bmt_inv {sc : Scope} {f : Mb} {b : Bool} {a : CE} {es : CEs} {fn : Expr} {l : List Expr} {kw : List Keyword} {p : Pos} (h : chkE S N sc (.bmt f b a es) (.Call fn l kw p) = true) : ∃ o x apos, fn = .Attribute o x apos ∧ kw = [] ∧
    (decide (bmName f = x) && (decide (x ≠ "?") && (decide (apos.endLine = p.line) && (baseB o && (decide (l.length < 30) && (decide (es.len = bmMany f) && (decide (l.length = bmMany f) && (chkE S N sc a o && chkEs S N sc es l)))))))) = true := by
  cases fn with
  | Attribute o x apos =>
    cases kw with
    | nil => exact ⟨o, x, apos, rfl, rfl, by unfold chkE at h; exact h⟩
    | cons _ _ => unfold chkE at h; simp at h
  | _ => unfold chkE at h; simp at h
theorem opB_eq {con : Bool} {op : BoolOp} (h : decide (op = if con then .And else .Or) = true) : op = opB con := of_decide_eq_true h
theorem chkEs_len {sc : Scope} : ∀ {es : CEs} {l : List Expr}, chkEs S N sc es l = true → es.len = l.length
  | .nil, [], _ => rfl
  | .cons a es, e :: l, h => by
    unfold chkEs at h
    show es.len + 1 = l.length + 1
    rw [chkEs_len (and2 h).2]
  | .nil, _ :: _, h => by simp [chkEs] at h
  | .cons _ _, [], h => by simp [chkEs] at h
theorem evs_len {C : Cc} : ∀ {es : CEs} {e : En} {h : Hh} {ws : List W} {h' : Hh}, evs C es e h = .ok ws h' → ws.length = es.len
  | .nil, e, h, ws, h', q => by
    unfold evs at q
    cases q
    rfl
  | .cons a es, e, h, ws, h', q => by
    unfold evs at q
    cases q1 : ev C a e h with
    | ok x h1 =>
      rw [q1, Res.bind_ok] at q
      cases q2 : evs C es e h1 with
      | ok xs h2 =>
        rw [q2, Res.bind_ok] at q
        cases q
        show xs.length + 1 = es.len + 1
        rw [evs_len q2]
      | exc c h2 => rw [q2] at q; cases q
      | bad => rw [q2] at q; cases q
    | exc c h1 => rw [q1] at q; cases q
    | bad => rw [q1] at q; cases q
theorem Cok.blk {sc : Scope} {X : Cx} {Wx : WX} (k : Cok S ca call lv N sc X Wx) (s : Shared) (H : Hp) (scope : Scope) (cl : List (Str × Addr)) (C : Addr) (fp : List Addr) :
    Cok S ca call lv N (relS scope sc) (X.blk s H scope (compEnvC scope cl C X.env) fp) (fun _ _ _ _ => False) :=
  ⟨k.eN, k.nd, by rw [← k.esc]; rfl, k.calm, k.un, k.room, k.free, k.glb, k.fns, k.exS, takes0⟩
theorem fold_of {e : Expr} {env : Env} (h : plainE e = true) : ∀ x, foldedSetIterable e env x = pure x := by
  intro x
  cases e <;> first | rfl | cases h
theorem chkI_plain {sc : Scope} {c : CI} {e : Expr} (h : chkI S N sc c e = true) : plainE e = true := by
  cases c with
  | ex a => exact chkE_plain (show chkE S N sc a e = true from by unfold chkI at h; exact h)
  | rng1 b => unfold chkI at h; cases e <;> first | rfl | simp at h
  | rng2 a b => unfold chkI at h; cases e <;> first | rfl | simp at h
  | enm a => unfold chkI at h; cases e <;> first | rfl | simp at h
  | zip2 a b => unfold chkI at h; cases e <;> first | rfl | simp at h
theorem isi_inv {sc : Scope} {a : CE} {t : Ty} {fn : Expr} {l : List Expr} {kw : List Keyword} {p : Pos} (h : chkE S N sc (.isi a t) (.Call fn l kw p) = true) : ∃ f p1 e0 y p2, fn = .Name f p1 ∧ l = [e0, .Name y p2] ∧ kw = [] ∧
    (decide (f = "isinstance") && (freeB S f && (gloB sc f && (tyB S t y && (gloB sc y && (plainB y && chkE S N sc a e0)))))) = true := by
  cases fn with
  | Name f p1 =>
    cases kw with
    | nil =>
      match l, h with
      | [e0, e1], h =>
        cases e1 with
        | Name y p2 => exact ⟨f, p1, e0, y, p2, rfl, rfl, rfl, by unfold chkE at h; exact h⟩
        | _ => unfold chkE at h; simp at h
      | [], h => unfold chkE at h; simp at h
      | [_], h => unfold chkE at h; simp at h
      | _ :: _ :: _ :: _, h => unfold chkE at h; simp at h
    | cons _ _ => unfold chkE at h; simp at h
  | _ => unfold chkE at h; simp at h
theorem rng1_inv {sc : Scope} {b : CE} {fn : Expr} {l : List Expr} {kw : List Keyword} {p : Pos} (h : chkI S N sc (.rng1 b) (.Call fn l kw p) = true) : ∃ f p1 e0, fn = .Name f p1 ∧ l = [e0] ∧ kw = [] ∧
    (decide (f = "range") && (freeB S f && (gloB sc f && chkE S N sc b e0))) = true := by
  cases fn with
  | Name f p1 =>
    cases kw with
    | nil =>
      match l, h with
      | [e0], h => exact ⟨f, p1, e0, rfl, rfl, rfl, by unfold chkI at h; exact h⟩
      | [], h => unfold chkI at h; simp at h
      | _ :: _ :: _, h => unfold chkI at h; simp at h
    | cons _ _ => unfold chkI at h; simp at h
  | _ => unfold chkI at h; simp at h
theorem rng2_inv {sc : Scope} {a b : CE} {fn : Expr} {l : List Expr} {kw : List Keyword} {p : Pos} (h : chkI S N sc (.rng2 a b) (.Call fn l kw p) = true) : ∃ f p1 e0 e1, fn = .Name f p1 ∧ l = [e0, e1] ∧ kw = [] ∧
    (decide (f = "range") && (freeB S f && (gloB sc f && (chkE S N sc a e0 && chkE S N sc b e1)))) = true := by
  cases fn with
  | Name f p1 =>
    cases kw with
    | nil =>
      match l, h with
      | [e0, e1], h => exact ⟨f, p1, e0, e1, rfl, rfl, rfl, by unfold chkI at h; exact h⟩
      | [], h => unfold chkI at h; simp at h
      | [_], h => unfold chkI at h; simp at h
      | _ :: _ :: _ :: _, h => unfold chkI at h; simp at h
    | cons _ _ => unfold chkI at h; simp at h
  | _ => unfold chkI at h; simp at h
mutual
theorem sndE : ∀ (c : CE) {e : Expr} {sc : Scope} {X : Cx} {Wx : WX}, Cok S ca call lv N sc X Wx → chkE S N sc c e = true →
    PE X e (tI X.K ca (wI ca Wx) (rW X.K ca) (ev (S.cc call wh) c)) ∧ PT X e (tI X.K ca (wI ca Wx) rB fun e h => toB (ev (S.cc call wh) c e h))
  | .var i, e, sc, X, Wx, k, h => by
    cases e with
    | Name x p =>
      unfold chkE at h
      have h2 := and2 h
      have z : PE X (.Name x p) (tI X.K ca (wI ca Wx) (rW X.K ca) (ev (S.cc call wh) (.var i))) := e_var (by rw [k.eN]; exact of_decide_eq_true h2.1) (by rw [k.esc]; exact vis_of (and2 h2.2).1) (and2 h2.2).2
      exact ⟨z, pt_of z⟩
    | _ => unfold chkE at h; simp at h
  | .glb i, e, sc, X, Wx, k, h => by
    cases e with
    | Name x p =>
      unfold chkE at h
      have h2 := and2 h
      have h3 := and2 h2.2
      have z : PE X (.Name x p) (tI X.K ca (wI ca Wx) (rW X.K ca) (ev (S.cc call wh) (.glb i))) := by
        obtain ⟨⟨y, d⟩, e1, e2⟩ := Option.map_eq_some_iff.mp (of_decide_eq_true h2.1)
        have e2 : y = x := e2
        subst e2
        obtain ⟨u, v, m1, r1, r2⟩ := k.glb i y d e1
        refine (pe_glob (by rw [Gl, Env.kindOf, k.esc]; exact of_decide_eq_true h3.1) m1 r1 (plain_of h3.2).1).imp fun σ H Q q => ?_
        obtain ⟨μ, en, hh, er, hr, o⟩ := q
        have e3 : (S.cc call wh).glb i = some d := by show (S.glbs[i]?).map _ = _; rw [e1]; rfl
        unfold ev at o
        rw [e3] at o
        exact o.now hr (.dat (r2 μ H))
      exact ⟨z, pt_of z⟩
    | _ => unfold chkE at h; simp at h
  | .cst d, e, sc, X, Wx, k, h => by
    cases e with
    | Constant c j p =>
      unfold chkE at h
      have z : PE X (.Constant c j p) (tI X.K ca (wI ca Wx) (rW X.K ca) (ev (S.cc call wh) (.cst d))) := e_cst h
      exact ⟨z, pt_of z⟩
    | _ => unfold chkE at h; simp at h
  | .tup es, e, sc, X, Wx, k, h => by
    cases e with
    | Tuple l j p =>
      unfold chkE at h
      have z : PE X (.Tuple l j p) (tI X.K ca (wI ca Wx) (rW X.K ca) (ev (S.cc call wh) (.tup es))) := e_tup (sndEs es k h).1
      exact ⟨z, pt_of z⟩
    | _ => unfold chkE at h; simp at h
  | .lst b es, e, sc, X, Wx, k, h => by
    cases e with
    | List l p =>
      unfold chkE at h
      have z : PE X (.List l p) (tI X.K ca (wI ca Wx) (rW X.K ca) (ev (S.cc call wh) (.lst b es))) := e_lst (sndEs es k h).1
      exact ⟨z, pt_of z⟩
    | _ => unfold chkE at h; simp at h
  | .bin o b c d, e, sc, X, Wx, k, h => by
    cases e with
    | BinOp l op r p =>
      unfold chkE at h
      have h2 := and2 h
      have h3 := and2 h2.2
      have e0 : op = opA o := of_decide_eq_true h2.1
      subst e0
      have z : PE X (.BinOp l (opA o) r p) (tI X.K ca (wI ca Wx) (rW X.K ca) (ev (S.cc call wh) (.bin o b c d))) :=
        (pe_op (ok_bin (m := b)) (sndE c k h3.1).1 (sndE d k h3.2).1).imp fun σ H Q q => tI_op (fun _ _ _ _ _ => binop_ne) q
      exact ⟨z, pt_of z⟩
    | _ => unfold chkE at h; simp at h
  | .neg a, e, sc, X, Wx, k, h => by
    cases e with
    | UnaryOp op a' p =>
      unfold chkE at h
      have h2 := and2 h
      have e0 := of_decide_eq_true h2.1
      subst e0
      have z : PE X (.UnaryOp .USub a' p) (tI X.K ca (wI ca Wx) (rW X.K ca) (ev (S.cc call wh) (.neg a))) := e_neg (sndE a k h2.2).1
      exact ⟨z, pt_of z⟩
    | _ => unfold chkE at h; simp at h
  | .not a, e, sc, X, Wx, k, h => by
    cases e with
    | UnaryOp op a' p =>
      unfold chkE at h
      have h2 := and2 h
      have e0 := of_decide_eq_true h2.1
      subst e0
      have z := sndE a k h2.2
      exact ⟨e_not z.1, t_not z.2⟩
    | _ => unfold chkE at h; simp at h
  | .bop con es, e, sc, X, Wx, k, h => by
    cases e with
    | BoolOp op l p =>
      unfold chkE at h
      have h2 := and2 h
      have h3 := and2 h2.2
      obtain rfl := opB_eq h2.1
      have hne : l ≠ [] := fun e => by subst e; simp at h3
      have z := (sndEs es k h3.2).2.1 con p hne
      refine ⟨z.1, z.2.pt.imp fun σ H Q q => ?_⟩
      obtain ⟨μ, en, hh, er, hr, o⟩ := q
      refine ⟨μ, en, hh, er, hr, ?_⟩
      have o : Out X.K ca μ H rB Q (fun c H' => wI ca Wx c σ H') (toB (ofB (evb (S.cc call wh) con es en hh))) := o
      cases q : evb (S.cc call wh) con es en hh with
      | ok b h' => rw [q] at o; exact o
      | exc c h' => rw [q] at o; exact o
      | bad => rw [q] at o; exact o
    | _ => unfold chkE at h; simp at h
  | .cmp o a b, e, sc, X, Wx, k, h => by
    cases e with
    | Compare l ops rs p =>
      match ops, rs, h with
      | [op], [r], h =>
        unfold chkE at h
        have h2 := and2 h
        have h3 := and2 h2.2
        have h4 := and2 h3.2
        have e0 : op = opC o := of_decide_eq_true h2.1
        subst e0
        exact t_cmp (k.un) (sndE a k h4.1).1 (sndE b k h4.2).1 (by have := h3.1; cases q : behindInMarks (opC o) r with | false => rfl | true => rw [q] at this; cases this)
      | [], _, h => unfold chkE at h; simp at h
      | _ :: _ :: _, _, h => unfold chkE at h; simp at h
      | [_], [], h => unfold chkE at h; simp at h
      | [_], _ :: _ :: _, h => unfold chkE at h; simp at h
    | _ => unfold chkE at h; simp at h
  | .chn o q a b c, e, sc, X, Wx, k, h => by
    cases e with
    | Compare l ops rs p =>
      match ops, rs, h with
      | [op, op'], [r, r'], h =>
        unfold chkE at h
        have h2 := and2 h
        have h3 := and2 h2.2
        have h4 := and2 h3.2
        have h5 := and2 h4.2
        have h6 := and2 h5.2
        have e0 : op = opC o := of_decide_eq_true h2.1
        have e1 : op' = opC q := of_decide_eq_true h3.1
        subst e0
        subst e1
        have hl : lastMarks [opC o, opC q] [r, r'] = false := by
          have := h4.1
          cases q : lastMarks [opC o, opC q] [r, r'] with
          | false => rfl
          | true => rw [q] at this; cases this
        have u := k.un
        exact ⟨(pe_chain (ok_cmp u) (ok_cmp u) (sndE a k h5.1).1 (sndE b k h6.1).1 (sndE c k h6.2).1 hl).imp fun σ H Q z => chn_ok z,
          (pt_chain (ok_cmp u) (ok_cmp u) (sndE a k h5.1).1 (sndE b k h6.1).1 (sndE c k h6.2).1 hl).imp fun σ H Q z => chn_ok (toB_seq z)⟩
      | [], _, h => unfold chkE at h; simp at h
      | [_], _, h => unfold chkE at h; simp at h
      | _ :: _ :: _ :: _, _, h => unfold chkE at h; simp at h
      | [_, _], [], h => unfold chkE at h; simp at h
      | [_, _], [_], h => unfold chkE at h; simp at h
      | [_, _], _ :: _ :: _ :: _, h => unfold chkE at h; simp at h
    | _ => unfold chkE at h; simp at h
  | .ite c a b, e, sc, X, Wx, k, h => by
    cases e with
    | IfExp t x y p =>
      unfold chkE at h
      have h2 := and2 h
      have h3 := and2 h2.2
      have z1 := sndE c k h2.1
      have z2 := sndE a k h3.1
      have z3 := sndE b k h3.2
      exact ⟨e_ite z1.2 z2.1 z3.1, t_ite z1.2 z2.2 z3.2⟩
    | _ => unfold chkE at h; simp at h
  | .idx a i, e, sc, X, Wx, k, h => by
    cases e with
    | Subscript v s p =>
      unfold chkE at h
      have h2 := and2 h
      have z : PE X (.Subscript v s p) (tI X.K ca (wI ca Wx) (rW X.K ca) (ev (S.cc call wh) (.idx a i))) :=
        (pe_ix ok_index (sndE a k h2.1).1 (sndE i k h2.2).1 (plainIx_of (chkE_plain h2.2))).imp fun σ H Q q => tI_op (fun _ _ _ _ _ => index_ne) q
      exact ⟨z, pt_of z⟩
    | _ => unfold chkE at h; simp at h
  | .slc a lo hi, e, sc, X, Wx, k, h => by
    cases e with
    | Subscript v s p =>
      cases s with
      | Slice l u st p2 =>
        cases st with
        | none =>
          unfold chkE at h
          have h2 := and2 h
          have h3 := and2 h2.2
          have z : PE X (.Subscript v (.Slice l u none p2) p) (tI X.K ca (wI ca Wx) (rW X.K ca) (ev (S.cc call wh) (.slc a lo hi))) := e_slc (sndE a k h2.1).1 (sndO lo k h3.1) (sndO hi k h3.2)
          exact ⟨z, pt_of z⟩
        | some _ => unfold chkE at h; simp at h
      | _ => unfold chkE at h; simp at h
    | _ => unfold chkE at h; simp at h
  | .call f es, e, sc, X, Wx, k, h => by
    cases e with
    | Call fn l kw p =>
      cases fn with
      | Name x p1 =>
        cases kw with
        | nil =>
          unfold chkE at h
          have h2 := and2 h
          have h3 := and2 h2.2
          have h4 := and2 h3.2
          have h5 := and2 h4.2
          cases l with
          | nil => simp at h5
          | cons e0 l =>
            have h6 := and2 h5.2
            cases ef : S.T[f]? with
            | none => rw [ef] at h2; simp at h2
            | some d =>
              rw [ef] at h2
              have g1 := and2 h2.1
              have g2 := and2 g1.2
              have d1 : d.cls = none := of_decide_eq_true g1.1
              have d2 : d.name = x := of_decide_eq_true g2.1
              have d3 : es.len = d.pars := of_decide_eq_true g2.2
              subst d2
              obtain ⟨a, fd, ps, m1, m2, m3, m4⟩ := k.fns f d ef d1
              have pl := chkEs_plain h6.2
              have z : PE X (.Call (.Name d.name p1) (e0 :: l) [] p) (tI X.K ca (wI ca Wx) (rW X.K ca) (ev (S.cc call wh) (.call f es))) := by
                refine (pe_callS (E := WE Wx) m4 (k.room h6.1) (by rw [Gl, Env.kindOf, k.esc]; exact of_decide_eq_true h3.1) m1 m2 m3 (fun σ => passAt k.tk σ) (sndEs es k h6.2).1 (plain_of h4.1).1 (star_of (pl e0 List.mem_cons_self)) (star_none fun x z => pl x (List.mem_cons_of_mem _ z))).imp fun σ H Q q => ?_
                obtain ⟨μ, en, hh, er, hr, o⟩ := q
                refine ⟨μ, en, hh, er, hr, ?_⟩
                unfold ev at o
                cases q : evs (S.cc call wh) es en hh with
                | bad => rw [q] at o; exact o.elim
                | exc c h' => rw [q] at o; exact o
                | ok ws h' =>
                  rw [q] at o
                  intro μ1 H1 vs s1 hr1 z
                  exact ⟨by rw [← z.len, evs_len q, d3], μ1, h', ws, hr1, z, o.shift s1⟩
              exact ⟨z, pt_of z⟩
        | cons _ _ => unfold chkE at h; simp at h
      | _ => unfold chkE at h; simp at h
    | _ => unfold chkE at h; simp at h
  | .blt f b es, e, sc, X, Wx, k, h => by
    cases e with
    | Call fn l kw p =>
      cases fn with
      | Name x p1 =>
        cases kw with
        | nil =>
          unfold chkE at h
          have h2 := and2 h
          have h3 := and2 h2.2
          have h4 := and2 h3.2
          have h5 := and2 h4.2
          have h6 := and2 h5.2
          have h7 := and2 h6.2
          cases l with
          | nil => simp at h7
          | cons e0 l =>
            have h8 := and2 h7.2
            have e1 : fbName f = x := of_decide_eq_true h2.1
            subst e1
            have pl := chkEs_plain h8.2
            have gl : Gl X (fbName f) := by rw [Gl, Env.kindOf, k.esc]; exact of_decide_eq_true h6.1
            have fr : X.mg (fbName f) = none := k.free _ (of_decide_eq_true h5.1)
            have ne : fbName f ≠ ("__name__" : Str) ∧ (fbName f == ("__debug__" : Str)) = false := by cases f <;> decide
            have z : PE X (.Call (.Name (fbName f) p1) (e0 :: l) [] p) (tI X.K ca (wI ca Wx) (rW X.K ca) (ev (S.cc call wh) (.blt f b es))) := by
              rcases fb_ok (X := X) (ca := ca) (m := b) h8.1 k.calm (of_decide_eq_true h3.1) with ⟨id, q1, q2⟩ | ⟨T, q1, q2⟩
              · exact (pe_callB q2 gl fr q1 (sndEs es k h8.2).1 ne.1 ne.2 (star_of (pl e0 List.mem_cons_self)) (star_none fun x z => pl x (List.mem_cons_of_mem _ z))).imp fun σ H Q q => tI_cb (fun _ _ _ _ => builtin_ne) q
              · exact (pe_callTy q2 gl fr q1 (sndEs es k h8.2).1 ne.1 ne.2 (star_of (pl e0 List.mem_cons_self)) (star_none fun x z => pl x (List.mem_cons_of_mem _ z))).imp fun σ H Q q => tI_cb (fun _ _ _ _ => builtin_ne) q
            exact ⟨z, pt_of z⟩
        | cons _ _ => unfold chkE at h; simp at h
      | _ => unfold chkE at h; simp at h
    | _ => unfold chkE at h; simp at h
  | .isi a t, e, sc, X, Wx, k, h => by
    cases e with
    | Call fn l kw p =>
      obtain ⟨f, p1, e0, y, p2, g1, g2, g3, h⟩ := isi_inv h
      subst g1
      subst g2
      subst g3
      have h2 := and2 h
      have h3 := and2 h2.2
      have h4 := and2 h3.2
      have h5 := and2 h4.2
      have h6 := and2 h5.2
      have h7 := and2 h6.2
      have e1 : f = "isinstance" := of_decide_eq_true h2.1
      subst e1
      have z : PE X (.Call (.Name "isinstance" p1) [e0, .Name y p2] [] p) (tI X.K ca (wI ca Wx) (rW X.K ca) (ev (S.cc call wh) (.isi a t))) :=
        e_isi (by rw [Gl, Env.kindOf, k.esc]; exact of_decide_eq_true h4.1) (k.free _ (of_decide_eq_true h3.1)) (by rw [Gl, Env.kindOf, k.esc]; exact of_decide_eq_true h6.1) (fun x q => k.free _ (of_decide_eq_true q)) h5.1 (chkE_plain h7.2) k.exS h7.1 (sndE a k h7.2).1
      exact ⟨z, pt_of z⟩
    | _ => unfold chkE at h; simp at h
  | .comp b own tg it ifs elt, e, sc, X, Wx, k, h => by
    cases e with
    | ListComp e0 gs scope p =>
      match gs, h with
      | [⟨t, i, l, asy⟩], h =>
        unfold chkE at h
        have h2 := and2 h
        have h3 := and2 h2.2
        have h4 := and2 h3.2
        have h5 := and2 h4.2
        have h6 := and2 h5.2
        have h7 := and2 h6.2
        have h8 := and2 h7.2
        have h9 := and2 h8.2
        have cm := k.calm h9.1
        have e1 : asy = 0 := of_decide_eq_true h2.1
        subst e1
        have bo := blkOk_by h3.1
        have nd : X.N.Nodup := by rw [k.eN]; exact k.nd
        have z : PE X (.ListComp e0 [⟨t, i, l, 0⟩] scope p) (tI X.K ca (wI ca Wx) (rW X.K ca) (ev (S.cc call wh) (.comp b own tg it ifs elt))) := by
          have hi := sndI (tg := t) it k h5.1
          have hg : ∀ (s : Shared) (H : Hp) (C : Addr) (cl : List (Str × Addr)) (fp : List Addr), PG (X.blk s H scope (compEnvC scope cl C X.env) fp) t (tgI X.K ca tg) :=
            fun s H C cl fp => tg_ok (k.blk s H scope cl C fp).eN k.nd (k.blk s H scope cl C fp).esc (fun (z : false = true) => Bool.noConfusion z) cm h6.1
          have ht : ∀ (s : Shared) (H : Hp) (C : Addr) (cl : List (Str × Addr)) (fp : List Addr), PTs (X.blk s H scope (compEnvC scope cl C X.env) fp) l (tI X.K ca (fun _ _ _ => False) rB (evb (S.cc call wh) true ifs)) :=
            fun s H C cl fp => (sndEs ifs (k.blk s H scope cl C fp) h7.1).2.2 (of_decide_eq_true h8.1)
          have he : ∀ (s : Shared) (H : Hp) (C : Addr) (cl : List (Str × Addr)) (fp : List Addr), PE (X.blk s H scope (compEnvC scope cl C X.env) fp) e0 (tI X.K ca (fun _ _ _ => False) (rW X.K ca) (ev (S.cc call wh) elt)) :=
            fun s H C cl fp => (sndE elt (k.blk s H scope cl C fp) h9.2).1
          have hsl : ∀ j ∈ slotsT tg, j ∈ own.map (·.2) := fun j hj => of_decide_eq_true (List.all_eq_true.mp h4.1 j hj)
          have fo := fold_of (env := X.env) (chkI_plain h5.1)
          exact (pe_lc cm nd hi (by rw [k.eN, k.esc]; exact bo) hg ht he fo).imp fun σ H Q q => comp_ok (m := b) cm nd hi (by rw [k.eN, k.esc]; exact bo) hsl hg ht he fo σ H Q q
        exact ⟨z, pt_of z⟩
      | [], h => unfold chkE at h; simp at h
      | _ :: _ :: _, h => unfold chkE at h; simp at h
    | _ => unfold chkE at h; simp at h
  | .dct b .nil .nil, e, sc, X, Wx, k, h => by
    cases e with
    | Dict ks vs p =>
      match ks, vs, h with
      | [], [], h =>
        have z : PE X (.Dict [] [] p) (tI X.K ca (wI ca Wx) (rW X.K ca) (ev (S.cc call wh) (.dct b .nil .nil))) := e_dict
        exact ⟨z, pt_of z⟩
      | _ :: _, _, h => unfold chkE at h; simp at h
      | [], _ :: _, h => unfold chkE at h; simp at h
    | _ => unfold chkE at h; simp at h
  | .dct _ (.cons _ _) _, e, sc, X, Wx, k, h => by unfold chkE at h; simp at h
  | .dct _ .nil (.cons _ _), e, sc, X, Wx, k, h => by unfold chkE at h; simp at h
  | .rev a, e, sc, X, Wx, k, h => by
    cases e with
    | Subscript v s p =>
      obtain ⟨j, p1, p2, p3, e1, h2⟩ := rev_inv h
      subst e1
      have z : PE X (.Subscript v (.Slice none none (some (.UnaryOp .USub (.Constant (.int 1) j p1) p2)) p3) p) (tI X.K ca (wI ca Wx) (rW X.K ca) (ev (S.cc call wh) (.rev a))) := e_rev (sndE a k h2).1
      exact ⟨z, pt_of z⟩
    | _ => unfold chkE at h; simp at h
  | .fld _ _, e, sc, X, Wx, k, h => by unfold chkE at h; simp at h
  | .meth _ _ _, e, sc, X, Wx, k, h => by unfold chkE at h; simp at h
  | .mk _ _, e, sc, X, Wx, k, h => by unfold chkE at h; simp at h
  | .bmt f b a es, e, sc, X, Wx, k, h => by
    cases e with
    | Call fn l kw p =>
      obtain ⟨o, x, apos, e1, e2, h⟩ := bmt_inv h
      subst e1
      subst e2
      have h2 := and2 h
      have h3 := and2 h2.2
      have h4 := and2 h3.2
      have h5 := and2 h4.2
      have h6 := and2 h5.2
      have h7 := and2 h6.2
      have h8 := and2 h7.2
      have h9 := and2 h8.2
      have e1 : bmName f = x := of_decide_eq_true h2.1
      subst e1
      have nq := of_decide_eq_true h3.1
      have li := of_decide_eq_true h4.1
      have za := (sndE a k h9.1).1
      cases l with
      | nil =>
        have ees : es = .nil := by
          cases es with
          | nil => rfl
          | cons _ _ => have := h9.2; unfold chkEs at this; simp at this
        subst ees
        have z : PE X (.Call (.Attribute o (bmName f) apos) [] [] p) (tI X.K ca (wI ca Wx) (rW X.K ca) (ev (S.cc call wh) (.bmt f b a .nil))) := e_bmt0 nq h5.1 li za
        exact ⟨z, pt_of z⟩
      | cons e0 l =>
        have z : PE X (.Call (.Attribute o (bmName f) apos) (e0 :: l) [] p) (tI X.K ca (wI ca Wx) (rW X.K ca) (ev (S.cc call wh) (.bmt f b a es))) :=
          e_bmt nq h5.1 (of_decide_eq_true h6.1) (chkEs_plain h9.2) li za (sndEs es k h9.2).1
        exact ⟨z, pt_of z⟩
    | _ => unfold chkE at h; simp at h
  | .frz _, e, sc, X, Wx, k, h => by unfold chkE at h; simp at h
theorem sndEs : ∀ (c : CEs) {l : List Expr} {sc : Scope} {X : Cx} {Wx : WX}, Cok S ca call lv N sc X Wx → chkEs S N sc c l = true →
    PA X l (tI X.K ca (wI ca Wx) (rWs X.K ca) (evs (S.cc call wh) c)) ∧
    (∀ (con : Bool) (p : Pos), l ≠ [] → PE X (.BoolOp (opB con) l p) (tI X.K ca (wI ca Wx) (rW X.K ca) fun e h => ofB (evb (S.cc call wh) con c e h)) ∧ PW X (.BoolOp (opB con) l p) (tI X.K ca (wI ca Wx) rB (evb (S.cc call wh) con c))) ∧
    (c.len ≤ 1 → PTs X l (tI X.K ca (wI ca Wx) rB (evb (S.cc call wh) true c)))
  | .nil, l, sc, X, Wx, k, h => by
    cases l with
    | nil =>
      refine ⟨a_nil, fun _ _ z => absurd rfl z, fun _ => ⟨fun pins s σ H Q I q => pts_nil.run pins s σ H Q I ?_⟩⟩
      obtain ⟨μ, en, hh, er, hr, o⟩ := q
      exact Out.now (a := true) (rel := rB) o hr rfl
    | cons _ _ => unfold chkEs at h; simp at h
  | .cons a es, l, sc, X, Wx, k, h => by
    cases l with
    | nil => unfold chkEs at h; simp at h
    | cons e l =>
      unfold chkEs at h
      have h2 := and2 h
      have z1 := sndE a k h2.1
      have z2 := sndEs es k h2.2
      refine ⟨a_cons (chkE_plain h2.1) z1.1 z2.1, fun con p _ => ?_, fun hl => ?_⟩
      · cases l with
        | nil =>
          cases es with
          | nil => exact b_one z1.1 z1.2
          | cons _ _ => unfold chkEs at h2; simp at h2
        | cons e1 l =>
          have z3 := z2.2.1 con p (List.cons_ne_nil _ _)
          exact b_cons z1.1 z1.2 z3.1 z3.2
      · cases es with
        | cons _ _ =>
          have : (CEs.cons a (CEs.cons _ _)).len ≤ 1 := hl
          simp [CEs.len] at this
        | nil =>
          cases l with
          | cons _ _ => unfold chkEs at h2; simp at h2
          | nil =>
            refine ⟨fun pins s σ H Q I q => (pts_one z1.2).run pins s σ H Q I ?_⟩
            obtain ⟨μ, en, hh, er, hr, o⟩ := q
            refine ⟨μ, en, hh, er, hr, ?_⟩
            show Out X.K ca μ H rB Q (fun c H' => wI ca Wx c σ H') (toB (ev (S.cc call wh) a en hh))
            have o : Out X.K ca μ H rB Q (fun c H' => wI ca Wx c σ H') ((toB (ev (S.cc call wh) a en hh)).bind fun b h => if b = true then .ok true h else .ok (!true) h) := o
            cases q : toB (ev (S.cc call wh) a en hh) with
            | ok b h' => rw [q] at o; cases b <;> exact o
            | exc c h' => rw [q] at o; exact o
            | bad => rw [q] at o; exact o
theorem sndO : ∀ (c : CO) {e : Option Expr} {sc : Scope} {X : Cx} {Wx : WX}, Cok S ca call lv N sc X Wx → chkO S N sc c e = true →
    PO X e (tI X.K ca (wI ca Wx) (fun _ _ a b => a = b) (evo (S.cc call wh) c))
  | .non, e, sc, X, Wx, k, h => by
    cases e with
    | none => exact o_non
    | some _ => unfold chkO at h; simp at h
  | .som a, e, sc, X, Wx, k, h => by
    cases e with
    | none => unfold chkO at h; simp at h
    | some e =>
      unfold chkO at h
      exact o_som (sndE a k h).1
theorem sndI : ∀ (c : CI) {e tg : Expr} {sc : Scope} {X : Cx} {Wx : WX}, Cok S ca call lv N sc X Wx → chkI S N sc c e = true →
    PI X tg e (tI X.K ca (wI ca Wx) (rIt X.K ca) (evi (S.cc call wh) c))
  | .ex a, e, tg, sc, X, Wx, k, h => by
    unfold chkI at h
    exact pi_ex (sndE a k h).1
  | .rng1 b, e, tg, sc, X, Wx, k, h => by
    cases e with
    | Call fn l kw p =>
      obtain ⟨f, p1, e0, g1, g2, g3, h⟩ := rng1_inv h
      subst g1
      subst g2
      subst g3
      have h2 := and2 h
      have h3 := and2 h2.2
      have h4 := and2 h3.2
      have e1 : f = "range" := of_decide_eq_true h2.1
      subst e1
      exact pi_rng1M (by rw [Gl, Env.kindOf, k.esc]; exact of_decide_eq_true h4.1) (k.free _ (of_decide_eq_true h3.1)) (chkE_plain h4.2) (sndE b k h4.2).1
    | _ => unfold chkI at h; simp at h
  | .rng2 a b, e, tg, sc, X, Wx, k, h => by
    cases e with
    | Call fn l kw p =>
      obtain ⟨f, p1, e0, e1, g1, g2, g3, h⟩ := rng2_inv h
      subst g1
      subst g2
      subst g3
      have h2 := and2 h
      have h3 := and2 h2.2
      have h4 := and2 h3.2
      have h5 := and2 h4.2
      have ef : f = "range" := of_decide_eq_true h2.1
      subst ef
      exact pi_rng2M (by rw [Gl, Env.kindOf, k.esc]; exact of_decide_eq_true h4.1) (k.free _ (of_decide_eq_true h3.1)) (chkE_plain h5.1) (chkE_plain h5.2) (sndE a k h5.1).1 (sndE b k h5.2).1
    | _ => unfold chkI at h; simp at h
  | .enm _, e, tg, sc, X, Wx, k, h => by unfold chkI at h; simp at h
  | .zip2 _ _, e, tg, sc, X, Wx, k, h => by unfold chkI at h; simp at h
end
end
end M
/-! MStmt: statements of the mini language: their check, their readings. -/
namespace M
open PySem PySem.Spec L2
/-! ### readings -/
def OutS (K : PySem.W.Frag) (ca : Nat → Addr) (μ : Mu) (H : Hp) (W' : Nat → L2.St → Hp → Prop) (D : Ends) : SR → Prop
  | .nxt e h => ∀ μ' H' σ', Stp μ H μ' H' → HR K ca μ' H' h → ER K ca μ' H' e σ' → D.nx σ' H'
  | .ret w h => ∀ μ' H' v, Stp μ H μ' H' → HR K ca μ' H' h → WR K ca μ' H' w v → D.rt v H'
  | .exc c e h => ∀ μ' H' σ', Stp μ H μ' H' → HR K ca μ' H' h → ER K ca μ' H' e σ' → W' c σ' H'
  | .bad => False
def tS (K : PySem.W.Frag) (ca : Nat → Addr) (W' : Nat → L2.St → Hp → Prop) (m : En → Hh → SR) : TS := fun D σ H => ∃ μ e h, ER K ca μ H e σ ∧ HR K ca μ H h ∧ OutS K ca μ H W' D (m e h)
section
variable {K : PySem.W.Frag} {ca : Nat → Addr} {μ μ' : Mu} {H H' : Hp} {h : Hh} {e : En} {σ : L2.St} {W' : Nat → L2.St → Hp → Prop} {D : Ends}
theorem OutS.shift {r : SR} (o : OutS K ca μ H W' D r) (s : Stp μ H μ' H') : OutS K ca μ' H' W' D r := by
  cases r with
  | nxt e h => exact fun μ2 H2 σ2 s2 => o μ2 H2 σ2 (s.trans s2)
  | ret w h => exact fun μ2 H2 σ2 s2 => o μ2 H2 σ2 (s.trans s2)
  | exc c e h => exact fun μ2 H2 σ2 s2 => o μ2 H2 σ2 (s.trans s2)
  | bad => exact o
theorem OutS.now (o : OutS K ca μ H W' D (.nxt e h)) (hr : HR K ca μ H h) (er : ER K ca μ H e σ) : D.nx σ H := o μ H σ .refl hr er
/-- an expression's run, then a statement's -/
theorem seqS {α β : Type} {m : En → Hh → Res α} {f : α → Hh → SR} {Q2 : β → Hp → Prop} (rel : Mu → Hp → α → β → Prop) (er : ER K ca μ H e σ) (hr : HR K ca μ H h) (o : OutS K ca μ H W' D ((m e h).then e f))
    (k : ∀ (μ1 : Mu) (H1 : Hp) (h1 : Hh) (a : α) (b : β), Stp μ H μ1 H1 → ER K ca μ1 H1 e σ → HR K ca μ1 H1 h1 → rel μ1 H1 a b → OutS K ca μ1 H1 W' D (f a h1) → Q2 b H1) : tI K ca W' rel m σ H Q2 := by
  refine ⟨μ, e, h, er, hr, ?_⟩
  cases q : m e h with
  | ok a h1 =>
    rw [q] at o
    exact fun μ1 H1 b s r z => k μ1 H1 h1 a b s (er.mono s) r z (o.shift s)
  | exc c h1 =>
    rw [q] at o
    exact fun μ1 H1 s r => o μ1 H1 σ s r (er.mono s)
  | bad => rw [q] at o; exact o
theorem _root_.L2.PS.imp {X : Cx} {st : Stmt} {t t' : TS} (h : PS X st t) (k : ∀ D σ H, t' D σ H → t D σ H) : PS X st t' := ⟨fun pins s σ H D I q => h.run pins s σ H D I (k D σ H q)⟩
theorem _root_.L2.PSs.imp {X : Cx} {st : List Stmt} {t t' : TS} (h : PSs X st t) (k : ∀ D σ H, t' D σ H → t D σ H) : PSs X st t' := ⟨fun pins s σ H D I q => h.run pins s σ H D I (k D σ H q)⟩
end

/-! ### where a statement stands -/
structure Sok (S : Sg) (ca : Nat → Addr) (call : Nat → List W → Hh → Res W) (lv : Nat) (N : List Str) (sc : Scope) (X : Cx) (Wx : WX) : Prop where
  k : Cok S ca call lv N sc X Wx
  po : PassesOwn (model X.prog X.w) X.A X.env X.xe
  fn : ∀ x, X.fn x = true
  stk : X.stack = X.env :: X.outer
  fr : X.env.frame = some X.env.locals
  ex0 : X.ex = []
  kd : sc.kind = .function

/-! ### the check -/
def noComp : Expr → Bool
  | .ListComp _ _ _ _ => false
  | .SetComp _ _ _ _ => false
  | .DictComp _ _ _ _ _ => false
  | _ => true
def noTup : Expr → Bool
  | .Tuple _ _ _ => false
  | _ => true
def noSq : Expr → Bool
  | .Tuple _ _ _ => false
  | .List _ _ => false
  | _ => true
theorem swaps_no {e : Expr} {t : Option Expr} {l : Nat} {env : Env} (h : noComp e = true) : swapsWith e t l env = pure false := by
  cases e <;> first | rfl | cases h
/-- no swap: another value, another target, or a name that is no plain local -/
def swB (sc : Scope) (tg e : Expr) : Bool := noTup e || (noSq tg || (match tg with
  | .Tuple ts _ _ => ts.any fun t => match t with
    | .Name x _ => !(locB sc x)
    | _ => true
  | _ => false))
theorem fm_len {α β : Type} {f : α → Option β} : ∀ {l : List α}, (∃ x ∈ l, f x = none) → (l.filterMap f).length < l.length
  | [], h => by obtain ⟨_, h, _⟩ := h; cases h
  | x :: l, h => by
    have le : (l.filterMap f).length ≤ l.length := List.length_filterMap_le f l
    rw [List.filterMap_cons]
    cases q : f x with
    | none =>
      show (l.filterMap f).length < (x :: l).length
      rw [List.length_cons]
      omega
    | some y =>
      obtain ⟨z, hz, e⟩ := h
      rcases List.mem_cons.mp hz with r | r
      · subst r; rw [q] at e; cases e
      · have := fm_len ⟨z, r, e⟩
        show (y :: l.filterMap f).length < (x :: l).length
        rw [List.length_cons, List.length_cons]
        omega
theorem swap_no {tg e : Expr} {env : Env} (h : swB env.scope tg e = true) : swappedStores [tg] e env = pure none := by
  have first : noTup e = true ∨ noSq tg = true → swappedStores [tg] e env = pure none := fun h => by
    rcases h with h | h
    · cases e <;> first | (cases tg <;> rfl) | cases h
    · cases tg <;> first | (cases e <;> rfl) | cases h
  unfold swB at h
  rcases Bool.or_eq_true_iff.mp h with h | h
  · exact first (.inl h)
  · rcases Bool.or_eq_true_iff.mp h with h | h
    · exact first (.inr h)
    · cases tg with
      | Tuple ts k p =>
        cases e with
        | Tuple vs k2 p2 =>
          obtain ⟨t, ht, q⟩ := List.any_eq_true.mp h
          unfold swappedStores
          dsimp only
          split
          · rfl
          · split
            · rfl
            · rename_i q1 q2
              rw [if_pos]
              rw [Bool.or_eq_true]
              left
              have : (ts.filterMap fun t => match t with
                | .Name id pos => if env.kindOf id == some .local && pos.line == (ts.head?.map (·.pos.line)).getD 0 then some id else none
                | _ => none).length < ts.length := fm_len ⟨t, ht, by
                  cases t with
                  | Name x px =>
                    have q : (!(locB env.scope x)) = true := q
                    have z : (env.kindOf x == some .local) = false := by
                      cases r : (env.kindOf x == some NameKind.local) with
                      | false => rfl
                      | true =>
                        have r := eq_of_beq r
                        unfold locB at q
                        rw [decide_eq_true (show env.scope.names.lookup x = some .local from r)] at q
                        cases q
                    simp [z]
                  | _ => rfl⟩
              exact bne_iff_ne.mpr (Nat.ne_of_lt this)
        | _ => rfl
      | _ => cases h
section
variable (S : Sg) (N : List Str)
def chkG (sc : Scope) : CG → Expr → Bool
  | .nam i, .Name x _ => namB N true sc i x
  | .tup l, .Tuple es _ _ => S.calm && namsB N true sc l es
  | .sub o i, .Subscript a b _ => chkE S N sc o a && chkE S N sc i b
  | .subnam o i j, .Tuple [.Subscript a b _, .Name x _] _ _ => S.calm && (chkE S N sc o a && (chkE S N sc i b && namB N true sc j x))
  | _, _ => false
/-- an except clause: its class, its name, its suite -/
def hdC (sc : Scope) (c : Nat) (i : Option Nat) (x : Str) (n : Option Str) : Bool := decide (S.excs[c]? = some x) && (gloB sc x && (plainB x && (match i, n with
    | some i, some n => decide (N[i]? = some n) && locB sc n
    | none, none => true
    | _, _ => false)))
def hdB (sc : Scope) (c : Nat) (i : Option Nat) : List ExceptHandler → Option (List Stmt)
  | [.ExceptHandler (some (.Name x _)) n (b₀ :: l) _] => (match hdC S N sc c i x n with
    | true => some (b₀ :: l)
    | false => none)
  | _ => none
mutual
def chkS : Bool → Scope → CS → Stmt → Bool
  | _, _, .pass, .Pass _ => true
  | cm, sc, .expr a, .Expr e _ => noComp e && chkE (S.at cm) N sc a e
  | cm, sc, .ret a, .Return (some e) _ => chkE (S.at cm) N sc a e
  | _, _, .retN, .Return none _ => true
  | cm, sc, .asg g a, .Assign [tg] e _ => noComp e && (swB sc tg e && (chkG (S.at cm) N sc g tg && chkE (S.at cm) N sc a e))
  | cm, sc, .setc i a, .Assign [.Name y py] (.ListComp elt gs scope p) _ => decide (py.line = p.line) && (!(scope.names.any fun (n, k) => n == y && (k == .local || k == .cell)) && (decide (N[i]? = some y) && (locB sc y && chkE (S.at cm) N sc a (.ListComp elt gs scope p))))
  | cm, sc, .ifs c a b, .If e x y _ => chkE (S.at cm) N sc c e && (chkSs cm sc a x && chkSs cm sc b y)
  | cm, sc, .whil c b, .While e x [] _ => chkE (S.at cm) N sc c e && chkSs cm sc b x
  | cm, sc, .for_ tg it b, .For t i x [] _ => chkT N true sc tg t && (chkI (S.at cm) N sc it i && (cm && chkSs cm sc b x))
  | cm, sc, .rais c, .Raise (some (.Call (.Name x _) [.Constant (.str _) _ _] [] _)) none _ => decide (S.excs[c]? = some x) && (decide (x ∈ S.plain) && (gloB sc x && (cm && plainB x)))
  | cm, sc, .par i j a b, .Assign [.Tuple [.Name x px, .Name y py] _ _] (.Tuple [u, v] _ _) _ => decide (N[i]? = some x) && (decide (N[j]? = some y) && (locB sc x && (locB sc y && (decide (i ≠ j) && (decide (px.line = py.line) && (!(foldedForSure 8 u && foldedForSure 8 v) && (!(constantsAlone 8 u && constantsAlone 8 v) && (cm && (chkE (S.at cm) N sc a u && chkE (S.at cm) N sc b v)))))))))
  | cm, sc, .tryas c i b s, .Try body hds [] [] _ => cm && (chkSs cm sc b body && (match hdB S N sc c (some i) hds with
    | some l => chkSs false sc s l
    | none => false))
  | cm, sc, .try_ c b s, .Try body hds [] [] _ => cm && (chkSs cm sc b body && (match hdB S N sc c none hds with
    | some l => chkSs false sc s l
    | none => false))
  | _, _, _, _ => false
def chkSs : Bool → Scope → CSs → List Stmt → Bool
  | _, _, .nil, [] => true
  | cm, sc, .cons s ss, st :: l => chkS cm sc s st && chkSs cm sc ss l
  | _, _, _, _ => false
end
end

/-! ### the readings of the simple statements -/
section
variable {X : Cx} {ca : Nat → Addr} {W' : Nat → L2.St → Hp → Prop}
theorem s_expr {e : Expr} {pos : Pos} {m : En → Hh → Res W} (nc : noComp e = true) (he : PE X e (tI X.K ca W' (rW X.K ca) m)) : PS X (.Expr e pos) (tS X.K ca W' fun e h => (m e h).then e fun _ h => .nxt e h) := by
  refine (ps_expr he (swaps_no nc)).imp fun D σ H q => ?_
  obtain ⟨μ, en, hh, er, hr, o⟩ := q
  exact seqS (rW X.K ca) er hr o fun μ1 H1 h1 a b s er1 hr1 z o1 => o1.now hr1 er1
theorem s_ret {e : Expr} {pos : Pos} {m : En → Hh → Res W} (he : PE X e (tI X.K ca W' (rW X.K ca) m)) : PS X (.Return (some e) pos) (tS X.K ca W' fun e h => (m e h).then e fun w h => .ret w h) := by
  refine (ps_ret he).imp fun D σ H q => ?_
  obtain ⟨μ, en, hh, er, hr, o⟩ := q
  exact seqS (rW X.K ca) er hr o fun μ1 H1 h1 a b s er1 hr1 z o1 => o1 _ _ _ .refl hr1 z
theorem s_retN {pos : Pos} : PS X (.Return none pos) (tS X.K ca W' fun _ h => .ret (.dat .none) h) :=
  ps_retN.imp fun D σ H ⟨μ, en, hh, er, hr, o⟩ => o _ _ _ .refl hr (.dat .non)
theorem s_pass {pos : Pos} : PS X (.Pass pos) (tS X.K ca W' fun e h => .nxt e h) :=
  ps_pass.imp fun D σ H ⟨μ, en, hh, er, hr, o⟩ => o.now hr er
/-- a value is stored to a target -/
def gI (K : PySem.W.Frag) (ca : Nat → Addr) (W' : Nat → L2.St → Hp → Prop) (f : W → En → Hh → SR) : TG := fun v σ H Q => ∃ μ e h w D, ER K ca μ H e σ ∧ HR K ca μ H h ∧ WR K ca μ H w v ∧ D.nx = Q ∧ OutS K ca μ H W' D (f w e h)
theorem s_asg {tg e : Expr} {pos : Pos} {m : En → Hh → Res W} {f : W → En → Hh → SR} (nc : noComp e = true) (nt : swB X.env.scope tg e = true) (h1 : (assignEach [tg] X.env).map (·.2) = [assign tg X.env]) (hg : PG X tg (gI X.K ca W' f)) (he : PE X e (tI X.K ca W' (rW X.K ca) m)) :
    PS X (.Assign [tg] e pos) (tS X.K ca W' fun e h => (m e h).then e fun w h => f w e h) := by
  refine (ps_asg he hg (swaps_no nc) (swap_no nt) h1).imp fun D σ H q => ?_
  obtain ⟨μ, en, hh, er, hr, o⟩ := q
  exact seqS (rW X.K ca) er hr o fun μ1 H1 h1 a b s er1 hr1 z o1 => ⟨μ1, en, h1, a, D, er1, hr1, z, rfl, o1⟩
theorem s_setc {i : Nat} {x : Str} {px p pos : Pos} {elt : Expr} {gs : List Comprehension} {scope : Scope} {m : En → Hh → Res W} (hs : PS X (.Assign [.Name x px] (.ListComp elt gs scope p) pos) (tAsg (tI X.K ca W' (rW X.K ca) m) (gName i))) :
    PS X (.Assign [.Name x px] (.ListComp elt gs scope p) pos) (tS X.K ca W' fun e h => (m e h).then e fun w h => .nxt (e.set i (some w)) h) := by
  refine hs.imp fun D σ H q => ?_
  obtain ⟨μ, en, hh, er, hr, o⟩ := q
  exact seqS (rW X.K ca) er hr o fun μ1 H1 h1 a b s er1 hr1 z o1 => o1.now hr1 (er1.set z)
theorem s_if {c : Expr} {a b : List Stmt} {pos : Pos} {k : En → Hh → Res Bool} {m n : En → Hh → SR} (hc : PT X c (tI X.K ca W' rB k)) (ha : PSs X a (tS X.K ca W' m)) (hb : PSs X b (tS X.K ca W' n)) :
    PS X (.If c a b pos) (tS X.K ca W' fun e h => (k e h).then e fun q h => if q = true then m e h else n e h) := by
  refine (ps_if hc ha hb).imp fun D σ H q => ?_
  obtain ⟨μ, en, hh, er, hr, o⟩ := q
  refine seqS rB er hr o fun μ1 H1 h1 a b s er1 hr1 z o1 => ?_
  have z : a = b := z
  subst z
  cases a with
  | true => exact ⟨μ1, en, h1, er1, hr1, o1⟩
  | false => exact ⟨μ1, en, h1, er1, hr1, o1⟩
theorem s_nil : PSs X [] (tS X.K ca W' fun e h => .nxt e h) := pss_nil.imp fun D σ H ⟨μ, en, hh, er, hr, o⟩ => o.now hr er
theorem s_cons {st : Stmt} {l : List Stmt} {m n : En → Hh → SR} (h1 : PS X st (tS X.K ca W' m)) (h2 : PSs X l (tS X.K ca W' n)) : PSs X (st :: l) (tS X.K ca W' fun e h => (m e h).bind fun e h => n e h) := by
  refine (pss_cons h1 h2).imp fun D σ H q => ?_
  obtain ⟨μ, en, hh, er, hr, o⟩ := q
  refine ⟨μ, en, hh, er, hr, ?_⟩
  cases q : m en hh with
  | nxt e2 h2 =>
    simp only [q] at o
    intro μ1 H1 σ1 s1 hr1 er1
    exact ⟨μ1, e2, h2, er1, hr1, o.shift s1⟩
  | ret w h2 => simp only [q] at o; exact o
  | exc c e2 h2 => simp only [q] at o; exact o
  | bad => simp only [q] at o; exact o.elim
theorem s_while {c : Expr} {b : List Stmt} {pos : Pos} {k : En → Hh → Res Bool} {m : En → Hh → SR} (po : PassesOwn (model X.prog X.w) X.A X.env X.xe) (hc : PT X c (tI X.K ca W' rB k)) (hb : PSs X b (tS X.K ca W' m)) :
    PS X (.While c b [] pos) (tS X.K ca W' fun e h => whM k m e h) := by
  refine (ps_while po hc hb).imp fun D σ H q => ?_
  obtain ⟨μ, en, hh, er, hr, o⟩ := q
  have nb : whM k m en hh ≠ .bad := fun z => by rw [show (fun e h => whM k m e h) en hh = .bad from z] at o; exact o
  obtain ⟨n, hn⟩ := whM_get nb
  have o : OutS X.K ca μ H W' D (whN k m n en hh) := by rw [hn]; exact o
  refine ⟨fun n σ H => ∃ μ e h, ER X.K ca μ H e σ ∧ HR X.K ca μ H h ∧ OutS X.K ca μ H W' D (whN k m n e h), ⟨n, μ, en, hh, er, hr, o⟩, ?_⟩
  rintro n σ H ⟨μ, en, hh, er, hr, o⟩
  cases n with
  | zero => exact o.elim
  | succ n =>
    unfold whN at o
    refine seqS rB er hr o fun μ1 H1 h1 a b s er1 hr1 z o1 => ?_
    have z : a = b := z
    subst z
    cases a with
    | false => exact o1.now hr1 er1
    | true =>
      rw [if_pos rfl] at o1 ⊢
      refine ⟨_, fun σ' H' q => ⟨n, Nat.lt_succ_self n, q⟩, μ1, en, h1, er1, hr1, ?_⟩
      cases q : m en h1 with
      | nxt e2 h2 =>
        rw [q] at o1
        intro μ2 H2 σ2 s2 hr2 er2
        exact ⟨μ2, e2, h2, er2, hr2, o1.shift s2⟩
      | ret w h2 => rw [q] at o1; exact o1
      | exc c e2 h2 => rw [q] at o1; exact o1
      | bad => rw [q] at o1; exact o1.elim
theorem s_for {tg it : Expr} {b : List Stmt} {pos : Pos} {t : CT} {mi : En → Hh → Res Itm} {m : En → Hh → SR} (hcalm : X.calm = true) (po : PassesOwn (model X.prog X.w) X.A X.env X.xe) (hi : PI X tg it (tI X.K ca W' (rIt X.K ca) mi)) (hg : PG X tg (tgI X.K ca t)) (hb : PSs X b (tS X.K ca W' m))
    (hs : ∀ x, foldedSetIterable it X.env x = pure x) :
    PS X (.For tg it b [] pos) (tS X.K ca W' fun e h => (mi e h).then e fun l h => forG l (fun w e h => match bindT t w e with
      | some e => m e h
      | none => .bad) l.num 0 e h) := by
  refine (ps_for po hcalm hi hg hb hs).imp fun D σ H q => ?_
  obtain ⟨μ, en, hh, er, hr, o⟩ := q
  refine seqS (rIt X.K ca) er hr o fun μ1 H1 h1 I J s1 er1 hr1 wk o1 => ?_
  refine ⟨fun i k σ H => ∃ μ e h, Stp μ1 H1 μ H ∧ ER X.K ca μ H e σ ∧ HR X.K ca μ H h ∧ OutS X.K ca μ H W' D (forG I (fun w e h => match bindT t w e with
      | some e => m e h
      | none => .bad) k i e h), ⟨I.num, μ1, en, h1, .refl, er1, hr1, o1⟩, ?_⟩
  rintro i k σ H ⟨μ, en, hh, st, er, hr, o⟩
  cases k with
  | zero =>
    unfold forG at o
    by_cases hf : I.fin i hh = true
    · rw [if_pos hf] at o
      exact .inl ⟨wk.stop i μ H hh st hr hf, o.now hr er⟩
    · rw [if_neg hf] at o
      exact o.elim
  | succ k =>
    unfold forG at o
    cases eg : I.get i hh with
    | none => rw [eg] at o; exact o.elim
    | some w =>
      rw [eg] at o
      refine .inr ⟨wk.go i μ H hh w st hr eg, _, fun σ' H' z => ⟨k, Nat.lt_succ_self k, z⟩, fun x H3 y => ?_⟩
      obtain ⟨s3, hr3, w3⟩ := wk.yld i μ H hh w x H3 st hr eg y
      cases eb : bindT t w en with
      | none => simp only [eb] at o; exact o.elim
      | some e2 =>
        simp only [eb] at o
        refine ⟨μ, en, hh, w, e2, er.mono s3, hr3, w3, eb, fun σ2 _ er2 => ⟨μ, e2, hh, er2, hr3, ?_⟩⟩
        have o := o.shift s3
        cases q : m e2 hh with
        | nxt e4 h4 =>
          rw [q] at o
          intro μ4 H4 σ4 s4 hr4 er4
          exact ⟨μ4, e4, h4, (st.trans s3).trans s4, er4, hr4, o.shift s4⟩
        | ret w h2 => rw [q] at o; exact o
        | exc c e4 h2 => rw [q] at o; exact o
        | bad => rw [q] at o; exact o.elim
end
end M
/-! MTry: try .. except: the caught error is told among the objects. -/
namespace M
open PySem PySem.Spec PyProof.Rows L2
section
variable {X : Cx} {pins : List (Addr × Obj)} {σ : L2.St} {H : Hp} {s : Shared} {ca : Nat → Addr}
theorem exv_ok {P : Program} {w : World} {H : Hp} {h : Heap} {a C : Addr} {oe : Obj} (he : h.get? a = some oe) (hz : Zc (.ref C) none oe) (hd : ∃ vs, oe.data = .fields vs) : ObjOk P w H h a (ExV C a) :=
  ⟨⟨oe, he, hz, hd⟩, ⟨oe, he⟩, fun h1 h2 ⟨o, e, z, d⟩ k => ⟨o, k _ e, z, d⟩⟩
/-- the context of an except suite whose error is told of -/
abbrev suiteX (X : Cx) (a : Addr) (pn : List (Addr × Obj)) : Cx := { X with A := X.A.mark (some (.ref a)), calm := false, pn := pn, xe := fun _ _ => False }
theorem suiteX_ok (o : X.Ok) (a : Addr) (pn : List (Addr × Obj)) : (suiteX X a pn).Ok := by
  obtain ⟨q1, q2, q3, q4, q5, q6, q7, q8, q9, q10, q11, q12, q13, q14, q15, q16, q17, q18⟩ := o
  exact ⟨q1, q2, q3, q4, q5, q6, q7, q8, (fun z => Bool.noConfusion (show false = true from z)), q10, q11, q12, q13, q14, q15, q16, q17, q18⟩
theorem track {a C : Addr} {oe : Obj} {o : HO} (eo : o = ExV C a) (I : Inv X pins σ H s) (ex0 : X.ex = []) (ha : s.heap.get? a = some oe) (hz : Zc (.ref C) none oe) (hd : ∃ vs, oe.data = .fields vs) (na : H a = none) (n0 : X.s_0.heap.get? a = none) (nL : a ≠ X.env.locals)
    (np : ∀ p ∈ X.pn ++ pins, p.1 ≠ a) : Inv (suiteX X a (X.pn ++ pins)) [] σ (upd H a o) s := by
  subst eo
  have ne : ∀ b u, H b = some u → b ≠ a := fun b u e z => by rw [z, na] at e; cases e
  refine ⟨suiteX_ok I.ok _ _, I.os, I.bare, ⟨I.base.keep, I.base.slot, fun b o e n hb => ?_, I.base.there, fun b xs q => ?_, fun b o u q => ?_, fun b ps q => ?_⟩, I.loc, I.cell, ?_, fun x c e => ?_, fun p hp => ?_, fun b u e => ?_, I.len⟩
  · have hba : b ≠ a := fun z => by rw [z, n0] at e; cases e
    rw [upd_ne hba]
    exact I.base.free b o e n hb
  · have q2 := I.base.tups b xs q
    rw [upd_ne (ne _ _ q2)]
    exact q2
  · have q2 := I.base.frzs b o u q
    rw [upd_ne (ne _ _ q2)]
    exact q2
  · obtain ⟨m, q2⟩ := I.base.tbls b ps q
    exact ⟨m, by rw [upd_ne (ne _ _ q2)]; exact q2⟩
  · show upd H a _ X.env.locals = none
    rw [upd_ne (Ne.symm nL)]
    exact I.free
  · have hc := I.freeC x c e
    have hca : c ≠ a := fun z => by
      obtain ⟨v, oc, q1, q2⟩ := I.cell x c e
      obtain ⟨vs, hd⟩ := hd
      rw [z, ha] at q1
      have q3 := Option.some.inj q1
      rw [← q3, hd] at q2
      cases q2
    rw [upd_ne hca]
    exact hc
  · have hp' : p ∈ X.pn ++ pins := by rw [List.append_nil] at hp; exact hp
    obtain ⟨e, n, n1, n2, d⟩ := I.pin p hp'
    exact ⟨e, by rw [upd_ne (np p hp')]; exact n, n1, n2, d⟩
  · by_cases hb : b = a
    · subst hb
      rw [upd_same] at e
      cases e
      exact exv_ok ha hz hd
    · rw [upd_ne hb] at e
      exact (I.hok b u e).stay (fun _ _ _ q => q) (fun c q => by rw [upd_ne (ne _ _ q)]; exact q) fun c xs q => by rw [upd_ne (ne _ _ q)]; exact q
/-- what the clause wishes of an exception of the body -/
def wTr (K : PySem.W.Frag) (c : Value) (i : Nat) (ts : TS) (Wout : WX) (D : Ends) : WX := fun cls d σ H =>
  ∃ b, PySem.W.exmOne K cls c = some b ∧ (b = true → ∃ C, cls = .ref C ∧ d = none ∧ ∀ a, H a = none → ts { nx := fun σ' H' => D.nx (σ'.set i none) H', rt := D.rt, bk := fun σ' H' => D.bk (σ'.set i none) H', ct := fun σ' H' => D.ct (σ'.set i none) H' } (σ.set i (some (.ref a))) (upd H a (ExV C a))) ∧
    (b = false → Wout cls d σ H)
end
section
variable {X : Cx} {x n : Str} {c : Value} {i : Nat} {body suite : List Stmt} {b₀ : Stmt} {np pos pos' : Pos} {tb : WX → TS} {ts : TS} {Wout : WX}
/-- what lies on the ground is no frame's dict -/
theorem off_frames {B h : Heap} {l : List Env} {a : Addr} {o : Obj} {vs : Array Value} (ff : h.FunFrames B l) (ho : h.get? a = some o) (rec : o.data = .fields vs) : a ∉ frs l := by
  intro m
  obtain ⟨_, o2, ho2, no⟩ := ff.mem m
  rw [ho] at ho2
  exact no vs (Option.some.inj ho2 ▸ rec)
/-- the error's object is none of those that stood ahead -/
theorem is_new {pins : List (Addr × Obj)} {σ : L2.St} {H : Hp} {sI : Shared} {B : Heap} {a : Addr} (J : Inv X pins σ H sI) (ex0 : X.ex = []) (nb : ∀ b o, sI.heap.get? b = some o → b ∉ frs X.stack → B.get? b = some o) (hB : B.get? a = none) (off : a ∉ frs X.stack) :
    X.s_0.heap.get? a = none ∧ ∀ p ∈ X.pn ++ pins, p.1 ≠ a := by
  have gone : ∀ o, sI.heap.get? a ≠ some o := fun o e => nomatch hB.symm.trans (nb a o e off)
  refine ⟨Option.eq_none_iff_forall_ne_some.mpr fun o e => ?_, fun p hp e => gone p.2 (e ▸ (J.pin p hp).1)⟩
  obtain ⟨o2, e2⟩ := J.base.there a o e (by rw [ex0]; exact List.not_mem_nil)
  exact gone o2 e2
theorem ps_try_tr (ex0 : X.ex = []) (stk : X.stack = X.env :: X.outer) (frm : X.env.frame = some X.env.locals) (nd : X.N.Nodup) (ix : X.N[i]? = some n) (lc : X.env.kindOf n = some .local) (nam : Names X x c) (out : Takes X Wout)
    (body_ok : ∀ (W : WX) (pn : List (Addr × Obj)) (xe : Value → Shared → Prop), Takes (X.tr pn xe) W → PassesOwn (model X.prog X.w) X.A X.env xe → PSs (X.tr pn xe) body (tb W))
    (suite_ok : ∀ (a : Addr) (pn : List (Addr × Obj)), PSs (suiteX X a pn) (b₀ :: suite) ts) :
    PS X (.Try body [.ExceptHandler (some (.Name x np)) (some n) (b₀ :: suite) pos'] [] [] pos) (fun D σ H => tb (wTr X.K c i ts Wout D) D σ H) := by
  constructor
  intro pins s σ H D I wish
  have okX := I.ok
  have all_fr : X.A.frames = some (X.env :: X.outer) := stk ▸ okX.frames
  refine wpAny_Try_except ?_
  have run_body := (body_ok (wTr X.K c i ts Wout D) (X.pn ++ pins) (fun u t₁ => wpAny (model X.prog X.w) X.A (noteFrame u X.env) (fun _ t₂ => wpAny (model X.prog X.w) X.A (setFlight u none) (fun _ t₃ =>
    wpAny (model X.prog X.w) X.A (handleBy u X.env [.ExceptHandler (some (.Name x np)) (some n) (b₀ :: suite) pos']) (SP X pins D) X.xe t₃) X.xe t₂) X.xe t₁) (fun u t raised => ?fell) PassesOwn.looking).run [] s σ H D (I.toTry _) wish
  case fell =>
    obtain ⟨a, B, sI, pins1, σ1, H1, cls, d, rfl, J1, nb, up, sky, na, os, ag, b, e_b, yes, no⟩ := raised
    have J := Inv.ofTry J1 okX
    rw [stk] at sky
    refine Sky.land Zc.steady all_fr frm sky fun hA flA upA => ?_
    have KA := (J.landed (s' := { t with heap := hA }) nb flA.1 (up.trans upA) os ag)
    obtain ⟨oA, vA, getA, zA, recA⟩ := flA.there
    have off := off_frames flA.2.2.1 getA recA
    have offL : a ≠ X.env.locals := fun e => off (List.mem_filterMap.mpr ⟨_, List.mem_cons_self, e ▸ frm⟩)
    have offF : a ∉ X.fs := fun m => off (by
      obtain ⟨v, hv, ev⟩ := List.mem_filterMap.mp m
      exact List.mem_filterMap.mpr ⟨v, List.mem_cons_of_mem _ hv, ev⟩)
    obtain ⟨new0, newP⟩ := is_new J ex0 nb flA.2.1 (stk ▸ off)
    have at_clause := KA.suite getA recA na offL offF
    have its_class : PySem.W.Looks (model X.prog X.w) hA (typeOf (.ref a)) cls := by
      intro A' Q' E' s' stays q
      exact wpAny_typeOf_ref (stays _ _ getA) (zA.1.symm ▸ q)
    refine wpAny_handleBy_cons (codeAny_handlers_test ?_) fun q => nomatch q
    have ask := (PySem.W.exm_one (M := model X.prog X.w) KA.kIn its_class e_b)
    have named : ∀ {R F : Value → Shared → Prop}, R c { t with heap := hA } → wpAny (model X.prog X.w) (X.A.mark (some (.ref a))) (eval (.Name x np) X.env) R F { t with heap := hA } := by
      intro R F r
      rcases nam with ⟨gl, nd2, from_mg | ⟨no_mg, from_b, nn⟩⟩
      · exact ld_glob (X := Cx.suite X a _) at_clause gl from_mg r nd2
      · exact ld_blt (X := Cx.suite X a _) at_clause gl no_mg from_b r nn nd2
    refine named (ask.here ?_)
    cases b
    case true =>
      obtain ⟨C, rfl, rfl, go⟩ := yes rfl
      refine codeAny_handlers_suite_as (HandSPX.lands_againZ flA fun hB flB upB => ?_)
      have KB := (J.landed (s' := { t with heap := hB }) nb flB.1 ((up.trans upA).trans upB) os ag)
      obtain ⟨oB, vB, getB, zB, recB⟩ := flB.there
      refine store_ok (X := suiteX X a (X.pn ++ pins)) (v := .ref a) (track rfl KB ex0 getB zB ⟨_, recB⟩ na new0 offL newP) nd ix (.inl lc) rfl (fun t2 K2 => ?_) (.inr lc)
      have back : ∀ {σ' : L2.St} {H' : Hp} {t' : Shared}, Inv (suiteX X a (X.pn ++ pins)) [] σ' H' t' → Inv X pins σ' H' t' := fun K => ⟨okX, K.os, K.bare, K.base, K.loc, K.cell, K.free, K.freeC, fun p m => K.pin p (List.mem_append_left _ m), K.hok, K.len⟩
      refine wpAny_mono ((suite_ok a (X.pn ++ pins)).run [] t2 _ _ _ K2 (go a na)) (fun f t3 told => ?_) fun _ _ z => z.elim
      match f, told with
      | .next, ⟨_, _, K3, w3⟩ => exact gone_ok (back K3) nd ix lc fun t4 K4 => ⟨_, _, K4, w3⟩
      | .brk, ⟨_, _, K3, w3⟩ => exact gone_ok (back K3) nd ix lc fun t4 K4 => ⟨_, _, K4, w3⟩
      | .cont, ⟨_, _, K3, w3⟩ => exact gone_ok (back K3) nd ix lc fun t4 K4 => ⟨_, _, K4, w3⟩
      | .ret u, ⟨_, _, _, K3, r3, w3⟩ => exact gone_ok (back K3) nd ix lc fun t4 K4 => ⟨_, _, _, K4, r3, w3⟩
    case false =>
      refine wpAny_handleBy_nil ?_
      obtain ⟨_, _, _, o5, v5, T, oT, _, get5, _, rec5, at1, _⟩ := id flA
      unfold PySem.passOn
      refine wpAny_bind (wpAny_field get5 rec5 at1 ?_)
      rw [if_neg (by simp : ¬ ((Value.ref T == Value.none) = true))]
      have leave : wpAny (model X.prog X.w) X.A (setFlight (.ref a) X.env.frame) (fun _ t6 => wpAny (model X.prog X.w) X.A (throw (.ref a) : Sem Flow) (SP X pins D) X.xe t6) X.xe { t with heap := hA } := by
        rw [frm]
        refine HandSPX.setFlight_upZ flA fun hC flC upC => wpAny_throw (out _ _ ⟨a, B, sI, pins, σ1, H1, cls, d, rfl, J, nb, (up.trans upA).trans upC, .inr (.inr (stk ▸ flC)), na, os, ag, no rfl⟩)
      first
        | exact wpAny_bind leave
        | exact wpAny_bind (wpAny_pure (wpAny_bind leave))
  refine wpAny_mono run_body (fun f t told => ?_) fun _ _ z => z
  match f, told with
  | .next, ⟨_, _, K3, w3⟩ => exact wpAny_execs_nil ⟨_, _, Inv.ofTry K3 okX, w3⟩
  | .brk, ⟨_, _, K3, w3⟩ => exact ⟨_, _, Inv.ofTry K3 okX, w3⟩
  | .cont, ⟨_, _, K3, w3⟩ => exact ⟨_, _, Inv.ofTry K3 okX, w3⟩
  | .ret u, ⟨_, _, _, K3, r3, w3⟩ => exact ⟨_, _, _, Inv.ofTry K3 okX, r3, w3⟩
end
section
variable {X : Cx} {x n : Str} {c : Value} {i : Nat} {body suite : List Stmt} {b₀ : Stmt} {np pos pos' : Pos} {tb : WX → TS} {ts : TS} {Wout : WX}
/-- try: .. except c as n: .. -/
theorem s_tryas {ca : Nat → Addr} {x n : Str} {k0 i : Nat} {body suite : List Stmt} {b₀ : Stmt} {np pos pos' : Pos} {Wx : WX} {m ms : En → Hh → SR} (ex0 : X.ex = []) (hs : X.stack = X.env :: X.outer) (hf : X.env.frame = some X.env.locals) (hN : X.N.Nodup) (hi : X.N[i]? = some n) (hln : X.env.kindOf n = some .local)
    (hc : Names X x (.ref (ca k0))) (hk : ∀ k, PySem.W.exmOne X.K (.ref (ca k)) (.ref (ca k0)) = some (subX k k0)) (tk : Takes X Wx)
    (hb : ∀ (W : WX) (pn : List (Addr × Obj)) (xe : Value → Shared → Prop), Takes (X.tr pn xe) W → PassesOwn (model X.prog X.w) X.A X.env xe → PSs (X.tr pn xe) body (tS X.K ca (wI ca W) m))
    (hsu : ∀ (a : Addr) (pn : List (Addr × Obj)), PSs (suiteX X a pn) (b₀ :: suite) (tS X.K ca (wI ca fun _ _ _ _ => False) ms)) :
    PS X (.Try body [.ExceptHandler (some (.Name x np)) (some n) (b₀ :: suite) pos'] [] [] pos) (tS X.K ca (wI ca Wx) fun e h => (m e h).catch fun k e h => if subX k k0 = true then (ms (e.set i (some (.exc k))) h).suite i else .exc k e h) := by
  refine (ps_try_tr (i := i) (tb := fun W => tS X.K ca (wI ca W) m) ex0 hs hf hN hi hln hc tk hb hsu).imp fun D σ H q => ?_
  obtain ⟨μ, en, hh, er, hr, o⟩ := q
  refine ⟨μ, en, hh, er, hr, ?_⟩
  cases q : m en hh with
  | nxt e h => simp only [q] at o; exact o
  | ret w h => simp only [q] at o; exact o
  | bad => simp only [q] at o; exact o
  | exc k e h =>
    simp only [q] at o
    have o : OutS X.K ca μ H (wI ca Wx) D (if subX k k0 = true then (ms (e.set i (some (.exc k))) h).suite i else .exc k e h) := o
    intro μ1 H1 σ1 s1 hr1 er1
    refine ⟨_, hk k, fun z => ⟨_, rfl, rfl, fun a na => ?_⟩, fun z => ?_⟩
    · rw [if_pos z] at o
      have nm : a ∉ μ1.m ∧ a ∉ μ1.x := ⟨fun z => hr1.live a z na, fun z => hr1.livx a z na⟩
      have st : Stp μ1 H1 μ1 (upd H1 a (ExV (ca k) a)) := hr1.stp na
      have hr2 : HR X.K ca μ1 (upd H1 a (ExV (ca k) a)) h := hr1.new na
      refine ⟨μ1, e.set i (some (.exc k)), h, (er1.mono st).set (.exc nm (.inl upd_same)), hr2, ?_⟩
      have o2 := o.shift (s1.trans st)
      cases q2 : ms (e.set i (some (.exc k))) h with
      | nxt e2 h2 =>
        rw [q2] at o2
        intro μ2 H2 σ2 s2 hr2 er2
        exact o2 μ2 H2 _ s2 hr2 (er2.unset i)
      | ret w h2 =>
        rw [q2] at o2
        exact o2
      | exc c e2 h2 => rw [q2] at o2; exact o2.elim
      | bad => rw [q2] at o2; exact o2.elim
    · rw [if_neg (by rw [z]; exact Bool.false_ne_true)] at o
      exact o μ1 H1 σ1 s1 hr1 er1
/-- try: .. except c: .. -/
theorem s_try {ca : Nat → Addr} {x : Str} {k0 : Nat} {body suite : List Stmt} {b₀ : Stmt} {np pos pos' : Pos} {Wx : WX} {m ms : En → Hh → SR} (hs : X.stack = X.env :: X.outer) (hf : X.env.frame = some X.env.locals)
    (hc : Names X x (.ref (ca k0))) (hk : ∀ k, PySem.W.exmOne X.K (.ref (ca k)) (.ref (ca k0)) = some (subX k k0)) (tk : Takes X Wx)
    (hb : ∀ (W : WX) (pn : List (Addr × Obj)) (xe : Value → Shared → Prop), Takes (X.tr pn xe) W → PassesOwn (model X.prog X.w) X.A X.env xe → PSs (X.tr pn xe) body (tS X.K ca (wI ca W) m))
    (hsu : ∀ (a : Addr) (pn : List (Addr × Obj)), PSs (suiteX X a pn) (b₀ :: suite) (tS X.K ca (wI ca fun _ _ _ _ => False) ms)) :
    PS X (.Try body [.ExceptHandler (some (.Name x np)) none (b₀ :: suite) pos'] [] [] pos) (tS X.K ca (wI ca Wx) fun e h => (m e h).catch fun k e h => if subX k k0 = true then (ms e h).suite0 else .exc k e h) := by
  refine (ps_try_only (tb := fun W => tS X.K ca (wI ca W) m) (ts := fun _ _ _ => tS X.K ca (wI ca fun _ _ _ _ => False) ms) hs hf hc tk hb (fun a oe cls d pn _ _ => hsu a ((a, oe) :: pn))).imp fun D σ H q => ?_
  obtain ⟨μ, en, hh, er, hr, o⟩ := q
  refine ⟨μ, en, hh, er, hr, ?_⟩
  cases q : m en hh with
  | nxt e h => simp only [q] at o; exact o
  | ret w h => simp only [q] at o; exact o
  | bad => simp only [q] at o; exact o
  | exc k e h =>
    simp only [q] at o
    have o : OutS X.K ca μ H (wI ca Wx) D (if subX k k0 = true then (ms e h).suite0 else .exc k e h) := o
    intro μ1 H1 σ1 s1 hr1 er1
    refine ⟨_, hk k, fun z a na => ?_, fun z => ?_⟩
    · rw [if_pos z] at o
      refine ⟨μ1, e, h, er1, hr1, ?_⟩
      have o2 := o.shift s1
      cases q2 : ms e h with
      | nxt e2 h2 => rw [q2] at o2; exact o2
      | ret w h2 => rw [q2] at o2; exact o2
      | exc c e2 h2 => rw [q2] at o2; exact o2.elim
      | bad => rw [q2] at o2; exact o2.elim
    · rw [if_neg (by rw [z]; exact Bool.false_ne_true)] at o
      exact o μ1 H1 σ1 s1 hr1 er1
end
end M
/-! MMain2: every statement of the mini language. -/
namespace M
open PySem PySem.Spec L2
/-- o[i] = v -/
def rSetM (K : PySem.W.Frag) (ca : Nat → Addr) : V → V → V → Hp → (Hp → Prop) → Prop := fun o i v H Q => ∃ μ h a b c h', HR K ca μ H h ∧ WR K ca μ H a o ∧ WR K ca μ H b i ∧ WR K ca μ H c v ∧ setAt a b c h = some h' ∧ ∀ μ' H', Stp μ H μ' H' → HR K ca μ' H' h' → Q H'
theorem Paired.set {α β : Type} {F : α → β → Prop} {x : α} {y : β} (r : F x y) : ∀ {l : List α} {m : List β} (i : Nat), Paired F l m → Paired F (l.set i x) (m.set i y)
  | _, _, _, .nil => .nil
  | _, _, 0, .cons _ t => .cons r t
  | _, _, i + 1, .cons q t => .cons q (Paired.set r i t)
section
variable {X : Cx} {ca : Nat → Addr} {W' : Nat → L2.St → Hp → Prop}
theorem set_ok : PSet X (rSetM X.K ca) := by
  intro pins s σ H o i v ov iv u Q I ro ri rv q
  refine set_list pins s σ H o i v ov iv u Q I ro ri rv ?_
  obtain ⟨μ, h, a, b, c, h', hr, ra, rb', rc, e, k⟩ := q
  cases a with
  | ref n =>
    cases ra with
    | ref hn =>
      rename_i p
      cases q : h[n]? with
      | none => simp [setAt, q] at e
      | some ob =>
        cases ob with
        | lst l =>
          cases b with
          | dat d =>
            cases d with
            | int j =>
              simp only [setAt, q] at e
              by_cases hj : 0 ≤ j ∧ j < l.length
              · rw [if_pos hj] at e
                have e : h.set n (.lst (l.set j.toNat c)) = h' := Option.some.inj e
                subst e
                obtain ⟨xs, y, z⟩ := hr.ob n _ p q hn
                have hl := z.len
                refine ⟨p, xs, j, j.toNat, rfl, rb'.of_int, y, ?_, ?_⟩
                · unfold ixN
                  rw [if_pos hj.1, if_pos (by rw [← hl]; exact hj.2)]
                · obtain ⟨st, hr2⟩ := hr.set (o := .lst (l.set j.toNat c)) (u := .lst (xs.set j.toNat v)) hn fun s => ⟨_, upd_same, Paired.set (rc.mono s) _ (z.mono s)⟩
                  exact k _ _ st hr2
              · rw [if_neg hj] at e
                cases e
            | _ => simp [setAt, q] at e
          | _ => simp [setAt, q] at e
        | _ => simp [setAt, q] at e
  | _ => cases e
variable {S : Sg} {N : List Str} {sc : Scope} {C : Cc}
theorem sub_eq {o i : Expr} {pos : Pos} {env : Env} (h : plainE i = true) (v : Value) : assign (.Subscript o i pos) env v = (do
    let a ← holding [v] (eval o env)
    let b ← holding [v, a] (eval i env)
    standAt pos
    holding [v, a, b] (setItem a b v)
    release [v, a, b] []) := by
  cases i <;> first | rfl | cases h
theorem g_nam {i : Nat} {x : Str} {pos : Pos} (eN : X.N = N) (nd : N.Nodup) (es : X.env.scope = sc) (hf : ∀ x, X.fn x = true) (h : namB N true sc i x = true) : PG X (.Name x pos) (gI X.K ca W' (stor C (.nam i))) := by
  refine (nam_ok eN nd es (fun _ => hf) h).imp fun v σ H Q q => ?_
  obtain ⟨μ, e, hh, w, D, er, hr, z, rfl, o⟩ := q
  exact OutS.now (e := e.set i (some w)) o hr (er.set z)
theorem g_tup {l : List Nat} {ts : List Expr} {k : Nat} {pos : Pos} (eN : X.N = N) (nd : N.Nodup) (es : X.env.scope = sc) (hf : ∀ x, X.fn x = true) (hc : X.calm = true) (h : namsB N true sc l ts = true) : PG X (.Tuple ts k pos) (gI X.K ca W' (stor C (.tup l))) := by
  obtain ⟨q1, q2, q3⟩ := nams_ok (ca := ca) eN nd es (fun _ => hf) h
  refine ⟨fun pins s σ H v u Q I r q => ?_⟩
  obtain ⟨μ, e, hh, w, D, er, hr, z, rfl, o⟩ := q
  cases eq : seqOf hh w with
  | none => simp only [stor, eq] at o; exact o.elim
  | some ws =>
    simp only [stor, eq] at o
    cases e2 : setAll e l ws with
    | none => simp only [e2] at o; exact o.elim
    | some en =>
      simp only [e2] at o
      obtain ⟨a, xs, rfl, wr, s1⟩ := seqOf_ok hr z eq
      have hl : xs.length = l.length := by rw [← wr.len, setAll_len e2]
      have go : gsI X.K ca l xs σ H D.nx := ⟨μ, e, hh, ws, en, er, hr, wr, e2, fun σ2 _ er2 => o.now hr er2⟩
      rcases s1 with s1 | s1
      · exact (pg_lst hc q1 q2 q3).run pins s σ H _ u D.nx I r ⟨a, xs, rfl, s1, hl, go⟩
      · exact (pg_tup hc q1 q2 q3).run pins s σ H _ u D.nx I r ⟨a, xs, rfl, s1, hl, go⟩
theorem g_sub {o i : Expr} {pos : Pos} {co ci : CE} (pi : plainE i = true) (ho : PE X o (tI X.K ca W' (rW X.K ca) (ev C co))) (hi : PE X i (tI X.K ca W' (rW X.K ca) (ev C ci))) : PG X (.Subscript o i pos) (gI X.K ca W' (stor C (.sub co ci))) := by
  refine (pg_sub ho hi (set_ok (ca := ca)) (sub_eq pi)).imp fun v σ H Q q => ?_
  obtain ⟨μ, e, hh, w, D, er, hr, z, rfl, o⟩ := q
  refine seqS (rW X.K ca) er hr (show OutS X.K ca μ H W' D ((ev C co e hh).then e _) from o) fun μ1 H1 h1 a b s1 er1 hr1 z1 o1 => ?_
  refine seqS (rW X.K ca) er1 hr1 o1 fun μ2 H2 h2 a2 b2 s2 er2 hr2 z2 o2 => ?_
  cases e3 : setAt a a2 w h2 with
  | none => simp only [e3] at o2; exact o2.elim
  | some h3 =>
    simp only [e3] at o2
    exact ⟨μ2, h2, a, a2, w, h3, hr2, z1.mono s2, z2, (z.mono s1).mono s2, e3, fun μ3 H3 s3 hr3 => o2 μ3 H3 σ s3 hr3 (er2.mono s3)⟩
theorem g_subnam {o i : Expr} {x : Str} {p1 p2 pos : Pos} {k j : Nat} {co ci : CE} (eN : X.N = N) (nd : N.Nodup) (es : X.env.scope = sc) (hf : ∀ x, X.fn x = true) (hc : X.calm = true) (pi : plainE i = true) (ho : PE X o (tI X.K ca W' (rW X.K ca) (ev C co))) (hi : PE X i (tI X.K ca W' (rW X.K ca) (ev C ci)))
    (h : namB N true sc j x = true) : PG X (.Tuple [.Subscript o i p1, .Name x p2] k pos) (gI X.K ca W' (stor C (.subnam co ci j))) := by
  have g2 : PG X (.Name x p2) (gName j) := nam_ok eN nd es (fun _ => hf) h
  refine (pg_tup hc (pgs_cons (pg_sub ho hi (set_ok (ca := ca)) (sub_eq pi)) (pgs_cons g2 pgs_nil)) (n := 2)).imp fun v σ H Q q => ?_
  obtain ⟨μ, e, hh, w, D, er, hr, z, rfl, o⟩ := q
  have key : ∃ w1 w2 a, v = .ref a ∧ (∃ v1 v2, SqT X.K H a [v1, v2] ∧ WR X.K ca μ H w1 v1 ∧ WR X.K ca μ H w2 v2) ∧ OutS X.K ca μ H W' D ((ev C co e hh).then e fun x h => (ev C ci e h).then e fun y h => (match setAt x y w1 h with
      | some h => .nxt (e.set j (some w2)) h
      | none => .bad)) := by
    cases w with
    | dat d =>
      cases d with
      | tuple ds =>
        obtain ⟨a, xs, rfl, t1, t2⟩ := z.of_tup
        cases t2 with
        | nil => exact o.elim
        | cons r1 t2 =>
          cases t2 with
          | nil => exact o.elim
          | cons r2 t2 =>
            cases t2 with
            | nil => exact ⟨_, _, a, rfl, ⟨_, _, t1.sq, .dat r1, .dat r2⟩, o⟩
            | cons _ _ => exact o.elim
      | _ => exact (show False from o).elim
    | _ => exact (show False from o).elim
  obtain ⟨w1, w2, a, rfl, ⟨v1, v2, t1, r1, r2⟩, o⟩ := key
  refine ⟨a, [v1, v2], rfl, t1, rfl, v1, [v2], rfl, ?_⟩
  refine seqS (rW X.K ca) er hr o fun μ1 H1 h1 a1 b1 s1 er1 hr1 z1 o1 => ?_
  refine seqS (rW X.K ca) er1 hr1 o1 fun μ2 H2 h2 a2 b2 s2 er2 hr2 z2 o2 => ?_
  cases e3 : setAt a1 a2 w1 h2 with
  | none => simp only [e3] at o2; exact o2.elim
  | some h3 =>
    simp only [e3] at o2
    refine ⟨μ2, h2, a1, a2, w1, h3, hr2, z1.mono s2, z2, (r1.mono s1).mono s2, e3, fun μ3 H3 s3 hr3 => ?_⟩
    refine ⟨v2, [], rfl, ⟨rfl, ?_⟩⟩
    exact o2 μ3 H3 _ s3 hr3 ((er2.mono s3).set (((r2.mono s1).mono s2).mono s3))
theorem plainAs {tg : Expr} {env : Env} (h : plainE tg = true) : (assignEach [tg] env).map (·.2) = [assign tg env] := by
  cases tg <;> first | rfl | cases h
/-- a, b = u, v of two local names -/
theorem swap_two {x y : Str} {px py pt pt2 : Pos} {kt k2 : Nat} {u v : Expr} {env : Env} (hk : env.scope.kind = .function) (hx : env.scope.names.lookup x = some .local) (hy : env.scope.names.lookup y = some .local) (hne : x ≠ y) (hl : px.line = py.line)
    (pu : plainE u = true) (pv : plainE v = true) (h1 : (foldedForSure 8 u && foldedForSure 8 v) = false) (h2 : (constantsAlone 8 u && constantsAlone 8 v) = false) :
    swappedStores [.Tuple [.Name x px, .Name y py] kt pt] (.Tuple [u, v] k2 pt2) env = pure (some [x, y]) := by
  have hb : env.blockKind = .function := by unfold Env.blockKind; rw [hk]; rfl
  have kx : env.kindOf x = some .local := hx
  have ky : env.kindOf y = some .local := hy
  have s1 : ∀ e : Expr, plainE e = true → (match e with | .Starred .. => true | _ => false) = false := fun e h => by cases e <;> first | rfl | cases h
  unfold swappedStores
  simp only [hb, List.length_cons, List.length_nil, List.any_cons, List.any_nil, List.all_cons, List.all_nil, Bool.and_true, h1, h2, List.filterMap_cons, List.filterMap_nil, kx, ky, List.head?_cons, Option.map_some, Option.getD_some, Expr.pos, hl]
  have e1 := s1 u pu
  have e2 := s1 v pv
  simp only [e1, e2, Bool.or_false, Bool.false_eq_true, if_false]
  have yx : (y == x) = false := beq_eq_false_iff_ne.mpr (Ne.symm hne)
  have hd : ([x, y] : List Str).eraseDups.length = 2 := by
    rw [List.eraseDups_cons]
    simp [yx, List.eraseDups_cons]
  simp [hd]
  intro z
  rcases z with z | z
  · cases u <;> first | exact (Bool.noConfusion z) | (exact (Bool.noConfusion pu))
  · cases v <;> first | exact (Bool.noConfusion z) | (exact (Bool.noConfusion pv))
theorem s_par {i j : Nat} {x y : Str} {px py pt pt2 pos : Pos} {kt k2 : Nat} {u v : Expr} {m n : En → Hh → Res W} (hc : X.calm = true) (nd : X.N.Nodup) (hi : X.N[i]? = some x) (hj : X.N[j]? = some y) (hij : i ≠ j)
    (hk : X.env.scope.kind = .function) (hx : X.env.scope.names.lookup x = some .local) (hy : X.env.scope.names.lookup y = some .local) (hl : px.line = py.line) (pu : plainE u = true) (pv : plainE v = true)
    (h1 : (foldedForSure 8 u && foldedForSure 8 v) = false) (h2 : (constantsAlone 8 u && constantsAlone 8 v) = false) (hu : PE X u (tI X.K ca W' (rW X.K ca) m)) (hv : PE X v (tI X.K ca W' (rW X.K ca) n)) :
    PS X (.Assign [.Tuple [.Name x px, .Name y py] kt pt] (.Tuple [u, v] k2 pt2) pos) (tS X.K ca W' fun e h => (m e h).then e fun v h => (n e h).then e fun w h => .nxt ((e.set i (some v)).set j (some w)) h) := by
  have hne : x ≠ y := fun e => hij (nodup_get nd hi (e ▸ hj))
  have pa : PA X [u, v] (tCons (tI X.K ca W' (rW X.K ca) m) (tCons (tI X.K ca W' (rW X.K ca) n) tNil)) := pa_cons hu (pa_cons hv pa_nil (star_of pv)) (star_of pu)
  refine (ps_par hc nd hi hj hij hx hy pa (swap_two hk hx hy hne hl pu pv h1 h2) rfl).imp fun D σ H q => ?_
  obtain ⟨μ, en, hh, er, hr, o⟩ := q
  refine seqS (rW X.K ca) er hr o fun μ1 H1 h1 a b s1 er1 hr1 z1 o1 => ?_
  refine seqS (rW X.K ca) er1 hr1 o1 fun μ2 H2 h2 a2 b2 s2 er2 hr2 z2 o2 => ?_
  exact ⟨_, _, rfl, o2.now hr2 ((er2.set (z1.mono s2)).set z2)⟩
theorem s_raise {c : Nat} {x msg : Str} {j : Nat} {p p2 p3 pos : Pos} {Wx : WX} (hc : X.calm = true) (tk : Takes X Wx) (gC : X.mg x = some (.ref (ca c))) (kC : PySem.W.keepIn X.K (.ref (ca c)) = true) (q : PySem.W.excIn X.K (ca c) [.type "ValueError", .type "Exception", .type "BaseException", .type "object"] "ValueError.__new__" = true)
    (r : Raises X (.ref (ca c))) (hg : Gl X x) (hd : (x == ("__debug__" : Str)) = false) :
    PS X (.Raise (some (.Call (.Name x p) [.Constant (.str msg) j p2] [] p3)) none pos) (tS X.K ca (wI ca Wx) fun e h => .exc c e h) := by
  refine (ps_raise hc tk (pmk_own PySem.F.excBase_ValueError q gC kC r hg hd)).imp fun D σ H q => ?_
  obtain ⟨μ, en, hh, er, hr, o⟩ := q
  exact o μ H σ .refl hr er
end
/-! ### all statements -/
section
variable {S : Sg} {ca : Nat → Addr} {call : Nat → List W → Hh → Res W} {lv : Nat} {N : List Str}
theorem bnot {b : Bool} (h : (!b) = true) : b = false := by cases b <;> first | rfl | cases h
theorem Sok.gok {sc : Scope} {X : Cx} {Wx : WX} (k : Sok S ca call lv N sc X Wx) {g : CG} {tg : Expr} (h : chkG S N sc g tg = true) : PG X tg (gI X.K ca (wI ca Wx) (stor (S.cc call whM) g)) ∧ plainE tg = true := by
  cases g with
  | nam i =>
    cases tg with
    | Name x p => exact ⟨g_nam k.k.eN k.k.nd k.k.esc k.fn h, rfl⟩
    | _ => cases h
  | tup l =>
    cases tg with
    | Tuple ts j p =>
      have h2 := and2 (show (S.calm && namsB N true sc l ts) = true from h)
      exact ⟨g_tup k.k.eN k.k.nd k.k.esc k.fn (k.k.calm h2.1) h2.2, rfl⟩
    | _ => cases h
  | sub o i =>
    cases tg with
    | Subscript a b p =>
      have h2 := and2 (show (chkE S N sc o a && chkE S N sc i b) = true from h)
      exact ⟨g_sub (chkE_plain h2.2) (sndE o k.k h2.1).1 (sndE i k.k h2.2).1, rfl⟩
    | _ => cases h
  | fld o f => cases tg <;> cases h
  | subnam o i j =>
    cases tg with
    | Tuple ts q p =>
      match ts, h with
      | [], h => cases h
      | [e1], h => cases e1 <;> cases h
      | e1 :: e2 :: e3 :: r, h => cases e1 <;> first | cases h | (cases e2 <;> cases h)
      | [e1, e2], h =>
        cases e1 with
        | Subscript a b p1 =>
          cases e2 with
          | Name x p2 =>
            have h1 := and2 (show (S.calm && (chkE S N sc o a && (chkE S N sc i b && namB N true sc j x))) = true from h)
            have h2 := and2 h1.2
            have h3 := and2 h2.2
            exact ⟨g_subnam k.k.eN k.k.nd k.k.esc k.fn (k.k.calm h1.1) (chkE_plain h3.1) (sndE o k.k h2.1).1 (sndE i k.k h3.1).1 h3.2, rfl⟩
          | _ => cases h
        | _ => cases h
    | _ => cases h
theorem rais_inv {cm : Bool} {sc : Scope} {c : Nat} {o1 o2 : Option Expr} {pos : Pos} (h : chkS S N cm sc (.rais c) (.Raise o1 o2 pos) = true) : ∃ x p1 msg j p2 p3, o1 = some (.Call (.Name x p1) [.Constant (.str msg) j p2] [] p3) ∧ o2 = none ∧
    (decide (S.excs[c]? = some x) && (decide (x ∈ S.plain) && (gloB sc x && (cm && plainB x)))) = true := by
  cases o2 with
  | some _ => unfold chkS at h; simp at h
  | none =>
    cases o1 with
    | none => unfold chkS at h; simp at h
    | some e =>
      cases e with
      | Call fn l kw p3 =>
        cases fn with
        | Name x p1 =>
          cases kw with
          | nil =>
            match l, h with
            | [e0], h =>
              cases e0 with
              | Constant k j p2 =>
                cases k with
                | str msg => exact ⟨x, p1, msg, j, p2, p3, rfl, rfl, by unfold chkS at h; exact h⟩
                | _ => unfold chkS at h; simp at h
              | _ => unfold chkS at h; simp at h
            | [], h => unfold chkS at h; simp at h
            | _ :: _ :: _, h => unfold chkS at h; simp at h
          | cons _ _ => unfold chkS at h; simp at h
        | _ => unfold chkS at h; simp at h
      | _ => unfold chkS at h; simp at h
theorem par_inv {cm : Bool} {sc : Scope} {i j : Nat} {a b : CE} {ts : List Expr} {e : Expr} {pos : Pos} (h : chkS S N cm sc (.par i j a b) (.Assign ts e pos) = true) : ∃ x px y py k1 p1 u v k2 p2, ts = [.Tuple [.Name x px, .Name y py] k1 p1] ∧ e = .Tuple [u, v] k2 p2 ∧
    (decide (N[i]? = some x) && (decide (N[j]? = some y) && (locB sc x && (locB sc y && (decide (i ≠ j) && (decide (px.line = py.line) && (!(foldedForSure 8 u && foldedForSure 8 v) && (!(constantsAlone 8 u && constantsAlone 8 v) && (cm && (chkE (S.at cm) N sc a u && chkE (S.at cm) N sc b v)))))))))) = true := by
  cases e with
  | Tuple es k2 p2 =>
    match es, h with
    | [u, v], h =>
      match ts, h with
      | [tg], h =>
        cases tg with
        | Tuple ns k1 p1 =>
          match ns, h with
          | [n1, n2], h =>
            cases n1 with
            | Name x px =>
              cases n2 with
              | Name y py => exact ⟨x, px, y, py, k1, p1, u, v, k2, p2, rfl, rfl, by unfold chkS at h; exact h⟩
              | _ => unfold chkS at h; simp at h
            | _ => unfold chkS at h; simp at h
          | [], h => unfold chkS at h; simp at h
          | [_], h => unfold chkS at h; simp at h
          | _ :: _ :: _ :: _, h => unfold chkS at h; simp at h
        | _ => unfold chkS at h; simp at h
      | [], h => unfold chkS at h; simp at h
      | _ :: _ :: _, h => unfold chkS at h; simp at h
    | [], h => unfold chkS at h; simp at h
    | [_], h => unfold chkS at h; simp at h
    | _ :: _ :: _ :: _, h => unfold chkS at h; simp at h
  | _ => unfold chkS at h; simp at h
theorem comp_set {sc : Scope} {X : Cx} {Wx : WX} (k : Sok S ca call lv N sc X Wx) {a : CE} {elt : Expr} {gs : List Comprehension} {scope : Scope} {pc py pos : Pos} {i : Nat} {y : Str} (h : chkE S N sc a (.ListComp elt gs scope pc) = true) (hi : X.N[i]? = some y) (hl : X.env.scope.names.lookup y = some .local)
    (sw : swapsWith (.ListComp elt gs scope pc) (some (.Name y py)) pos.line X.env = pure true) : PS X (.Assign [.Name y py] (.ListComp elt gs scope pc) pos) (tAsg (tI X.K ca (wI ca Wx) (rW X.K ca) (ev (S.cc call whM) a)) (gName i)) := by
  have k := k.k
  cases a with
  | comp b own tg it ifs elt0 =>
    match gs, h, sw with
    | [⟨t, i0, l, asy⟩], h, sw =>
      unfold chkE at h
      have h2 := and2 h
      have h3 := and2 h2.2
      have h4 := and2 h3.2
      have h5 := and2 h4.2
      have h6 := and2 h5.2
      have h7 := and2 h6.2
      have h8 := and2 h7.2
      have h9 := and2 h8.2
      have cm := k.calm h9.1
      have e1 : asy = 0 := of_decide_eq_true h2.1
      subst e1
      have bo := blkOk_by h3.1
      have nd : X.N.Nodup := by rw [k.eN]; exact k.nd
      have hI := sndI (wh := whM) (tg := t) it k h5.1
      have hg : ∀ (s : Shared) (H : Hp) (C : Addr) (cl : List (Str × Addr)) (fp : List Addr), PG (X.blk s H scope (compEnvC scope cl C X.env) fp) t (tgI X.K ca tg) :=
        fun s H C cl fp => tg_ok (k.blk s H scope cl C fp).eN k.nd (k.blk s H scope cl C fp).esc (fun (z : false = true) => Bool.noConfusion z) cm h6.1
      have ht : ∀ (s : Shared) (H : Hp) (C : Addr) (cl : List (Str × Addr)) (fp : List Addr), PTs (X.blk s H scope (compEnvC scope cl C X.env) fp) l (tI X.K ca (fun _ _ _ => False) rB (evb (S.cc call whM) true ifs)) :=
        fun s H C cl fp => (sndEs ifs (k.blk s H scope cl C fp) h7.1).2.2 (of_decide_eq_true h8.1)
      have he : ∀ (s : Shared) (H : Hp) (C : Addr) (cl : List (Str × Addr)) (fp : List Addr), PE (X.blk s H scope (compEnvC scope cl C X.env) fp) elt (tI X.K ca (fun _ _ _ => False) (rW X.K ca) (ev (S.cc call whM) elt0)) :=
        fun s H C cl fp => (sndE elt0 (k.blk s H scope cl C fp) h9.2).1
      have hsl : ∀ j ∈ slotsT tg, j ∈ own.map (·.2) := fun j hj => of_decide_eq_true (List.all_eq_true.mp h4.1 j hj)
      have fo := fold_of (env := X.env) (chkI_plain h5.1)
      exact (ps_setLc cm nd hi hl sw hI (by rw [k.eN, k.esc]; exact bo) hg ht he fo).imp fun D σ H q => comp_ok (m := b) cm nd hI (by rw [k.eN, k.esc]; exact bo) hsl hg ht he fo σ H _ q
    | [], h, _ => unfold chkE at h; simp at h
    | _ :: _ :: _, h, _ => unfold chkE at h; simp at h
  | _ => unfold chkE at h; simp at h
theorem try_inv {cm : Bool} {sc : Scope} {c i : Nat} {b s : CSs} {body orelse fin : List Stmt} {hds : List ExceptHandler} {p : Pos} (h : chkS S N cm sc (.tryas c i b s) (.Try body hds orelse fin p) = true) : orelse = [] ∧ fin = [] ∧ (cm && (chkSs S N cm sc b body && (match hdB S N sc c (some i) hds with
    | some l => chkSs S N false sc s l
    | none => false))) = true := by
  cases orelse with
  | nil =>
    cases fin with
    | nil => exact ⟨rfl, rfl, by unfold chkS at h; exact h⟩
    | cons _ _ => unfold chkS at h; simp at h
  | cons _ _ => unfold chkS at h; simp at h
theorem try_inv0 {cm : Bool} {sc : Scope} {c : Nat} {b s : CSs} {body orelse fin : List Stmt} {hds : List ExceptHandler} {p : Pos} (h : chkS S N cm sc (.try_ c b s) (.Try body hds orelse fin p) = true) : orelse = [] ∧ fin = [] ∧ (cm && (chkSs S N cm sc b body && (match hdB S N sc c none hds with
    | some l => chkSs S N false sc s l
    | none => false))) = true := by
  cases orelse with
  | nil =>
    cases fin with
    | nil => exact ⟨rfl, rfl, by unfold chkS at h; exact h⟩
    | cons _ _ => unfold chkS at h; simp at h
  | cons _ _ => unfold chkS at h; simp at h
theorem hd_look {sc : Scope} {c : Nat} {i : Option Nat} {hds : List ExceptHandler} {l0 : List Stmt} (h : hdB S N sc c i hds = some l0) : ∃ x np n b₀ l p', hds = [.ExceptHandler (some (.Name x np)) n (b₀ :: l) p'] ∧ l0 = b₀ :: l ∧ hdC S N sc c i x n = true := by
  unfold hdB at h
  split at h
  · rename_i x np n b₀ l p'
    cases q : hdC S N sc c i x n with
    | true =>
      rw [q] at h
      cases h
      exact ⟨_, _, _, _, _, _, rfl, rfl, q⟩
    | false =>
      rw [q] at h
      cases h
  · cases h
theorem hd_inv {sc : Scope} {c i : Nat} {hds : List ExceptHandler} {s : CSs} (h : (match hdB S N sc c (some i) hds with
    | some l => chkSs S N false sc s l
    | none => false) = true) : ∃ x np n b₀ l p', hds = [.ExceptHandler (some (.Name x np)) (some n) (b₀ :: l) p'] ∧ (decide (S.excs[c]? = some x) && (gloB sc x && (plainB x && (decide (N[i]? = some n) && locB sc n)))) = true ∧ chkSs S N false sc s (b₀ :: l) = true := by
  cases q : hdB S N sc c (some i) hds with
  | none => rw [q] at h; cases h
  | some l0 =>
    rw [q] at h
    obtain ⟨x, np, n, b₀, l, p', rfl, rfl, z⟩ := hd_look q
    unfold hdC at z
    cases n with
    | none => simp at z
    | some n => exact ⟨x, np, n, b₀, l, p', rfl, z, h⟩
theorem hd_inv0 {sc : Scope} {c : Nat} {hds : List ExceptHandler} {s : CSs} (h : (match hdB S N sc c none hds with
    | some l => chkSs S N false sc s l
    | none => false) = true) : ∃ x np b₀ l p', hds = [.ExceptHandler (some (.Name x np)) none (b₀ :: l) p'] ∧ (decide (S.excs[c]? = some x) && (gloB sc x && (plainB x && true))) = true ∧ chkSs S N false sc s (b₀ :: l) = true := by
  cases q : hdB S N sc c none hds with
  | none => rw [q] at h; cases h
  | some l0 =>
    rw [q] at h
    obtain ⟨x, np, n, b₀, l, p', rfl, rfl, z⟩ := hd_look q
    unfold hdC at z
    cases n with
    | none => exact ⟨x, np, b₀, l, p', rfl, z, h⟩
    | some n => simp at z
theorem Sok.tr {cm : Bool} {sc : Scope} {X : Cx} {Wx W : WX} {pn : List (Addr × Obj)} {xe : Value → Shared → Prop} (k : Sok (S.at cm) ca call lv N sc X Wx) (tk : Takes (X.tr pn xe) W) (po : PassesOwn (model X.prog X.w) X.A X.env xe) : Sok (S.at cm) ca call lv N sc (X.tr pn xe) W :=
  ⟨⟨k.k.eN, k.k.nd, k.k.esc, k.k.calm, k.k.un, k.k.room, k.k.free, k.k.glb, k.k.fns, k.k.exS, tk⟩, po, k.fn, k.stk, k.fr, k.ex0, k.kd⟩
theorem Sok.suite {cm : Bool} {sc : Scope} {X : Cx} {Wx : WX} (k : Sok (S.at cm) ca call lv N sc X Wx) (a : Addr) (pn : List (Addr × Obj)) : Sok (S.at false) ca call lv N sc (suiteX X a pn) (fun _ _ _ _ => False) :=
  ⟨⟨k.k.eN, k.k.nd, k.k.esc, fun z => absurd (show false = true from z) Bool.false_ne_true, k.k.un, fun z => absurd (show false = true from z) Bool.false_ne_true, k.k.free, k.k.glb, k.k.fns, ⟨k.k.exS.gl, k.k.exS.pl, k.k.exS.ic, k.k.exS.kk⟩, takes0⟩, .never, k.fn, k.stk, k.fr, k.ex0, k.kd⟩
mutual
theorem sndS : ∀ (c : CS) {st : Stmt} {sc : Scope} {X : Cx} {Wx : WX} {cm : Bool}, Sok (S.at cm) ca call lv N sc X Wx → chkS S N cm sc c st = true → PS X st (tS X.K ca (wI ca Wx) (ex ((S.at cm).cc call whM) c))
  | .pass, st, sc, X, Wx, cm, k, h => by
    cases st with
    | Pass p => exact s_pass
    | _ => unfold chkS at h; simp at h
  | .expr a, st, sc, X, Wx, cm, k, h => by
    cases st with
    | Expr e p =>
      unfold chkS at h
      have h2 := and2 h
      exact s_expr h2.1 (sndE a k.k h2.2).1
    | _ => unfold chkS at h; simp at h
  | .ret a, st, sc, X, Wx, cm, k, h => by
    cases st with
    | Return o p =>
      cases o with
      | some e =>
        unfold chkS at h
        exact s_ret (sndE a k.k h).1
      | none => unfold chkS at h; simp at h
    | _ => unfold chkS at h; simp at h
  | .retN, st, sc, X, Wx, cm, k, h => by
    cases st with
    | Return o p =>
      cases o with
      | none => exact s_retN
      | some e => unfold chkS at h; simp at h
    | _ => unfold chkS at h; simp at h
  | .asg g a, st, sc, X, Wx, cm, k, h => by
    cases st with
    | Assign ts e p =>
      match ts, h with
      | [tg], h =>
        unfold chkS at h
        have h2 := and2 h
        have h3 := and2 h2.2
        have h4 := and2 h3.2
        obtain ⟨g1, g2⟩ := k.gok h4.1
        exact s_asg h2.1 (by rw [k.k.esc]; exact h3.1) (plainAs g2) g1 (sndE a k.k h4.2).1
      | [], h => unfold chkS at h; simp at h
      | _ :: _ :: _, h => unfold chkS at h; simp at h
    | _ => unfold chkS at h; simp at h
  | .setc i a, st, sc, X, Wx, cm, k, h => by
    cases st with
    | Assign ts e p =>
      match ts, h with
      | [tg], h =>
        cases tg with
        | Name y py =>
          cases e with
          | ListComp elt gs scope pc =>
            unfold chkS at h
            have h2 := and2 h
            have h3 := and2 h2.2
            have h4 := and2 h3.2
            have h5 := and2 h4.2
            have hl : X.env.scope.names.lookup y = some .local := by rw [k.k.esc]; exact of_decide_eq_true h5.1
            have line : (py.line == pc.line) = true := by rw [of_decide_eq_true h2.1]; exact beq_self_eq_true _
            exact s_setc (comp_set k h5.2 (by rw [k.k.eN]; exact of_decide_eq_true h4.1) hl (sw_true (by rw [k.k.esc]; exact k.kd) hl line (bnot h3.1)))
          | _ => unfold chkS at h; simp at h
        | _ => unfold chkS at h; simp at h
      | [], h => unfold chkS at h; simp at h
      | _ :: _ :: _, h => unfold chkS at h; simp at h
    | _ => unfold chkS at h; simp at h
  | .ifs c a b, st, sc, X, Wx, cm, k, h => by
    cases st with
    | If e x y p =>
      unfold chkS at h
      have h2 := and2 h
      have h3 := and2 h2.2
      exact s_if (sndE c k.k h2.1).2 (sndSs a k h3.1) (sndSs b k h3.2)
    | _ => unfold chkS at h; simp at h
  | .whil c b, st, sc, X, Wx, cm, k, h => by
    cases st with
    | While e x y p =>
      cases y with
      | nil =>
        unfold chkS at h
        have h2 := and2 h
        exact s_while k.po (sndE c k.k h2.1).2 (sndSs b k h2.2)
      | cons _ _ => unfold chkS at h; simp at h
    | _ => unfold chkS at h; simp at h
  | .for_ tg it b, st, sc, X, Wx, cm, k, h => by
    cases st with
    | For t i x y p =>
      cases y with
      | nil =>
        unfold chkS at h
        have h2 := and2 h
        have h3 := and2 h2.2
        have h4 := and2 h3.2
        have cal := k.k.calm h4.1
        exact s_for cal k.po (sndI it k.k h3.1) (tg_ok k.k.eN k.k.nd k.k.esc (fun _ => k.fn) cal h2.1) (sndSs b k h4.2) (fold_of (chkI_plain h3.1))
      | cons _ _ => unfold chkS at h; simp at h
    | _ => unfold chkS at h; simp at h
  | .rais c, st, sc, X, Wx, cm, k, h => by
    cases st with
    | Raise o1 o2 p =>
      obtain ⟨x, p1, msg, j, p2, p3, e1, e2, h⟩ := rais_inv h
      subst e1
      subst e2
      have h2 := and2 h
      have h3 := and2 h2.2
      have h4 := and2 h3.2
      have ex := of_decide_eq_true h2.1
      have h5 := and2 h4.2
      obtain ⟨q1, q2, q3, q4⟩ := k.k.exS.gl c x ex
      exact s_raise (k.k.calm h5.1) k.k.tk q1 q2 (k.k.exS.pl c x ex (of_decide_eq_true h3.1)) (raises_own q3 q4) (by rw [Gl, Env.kindOf, k.k.esc]; exact of_decide_eq_true h4.1) (plain_of h5.2).1
    | _ => unfold chkS at h; simp at h
  | .par i j a b, st, sc, X, Wx, cm, k, h => by
    cases st with
    | Assign ts e p =>
      obtain ⟨x, px, y, py, k1, p1, u, v, k2, p2, e1, e2, h⟩ := par_inv h
      subst e1
      subst e2
      have h2 := and2 h
      have h3 := and2 h2.2
      have h4 := and2 h3.2
      have h5 := and2 h4.2
      have h6 := and2 h5.2
      have h7 := and2 h6.2
      have h8 := and2 h7.2
      have h9 := and2 h8.2
      have h10 := and2 h9.2
      have h0 := and2 h10.2
      exact s_par (k.k.calm h10.1) (by rw [k.k.eN]; exact k.k.nd) (by rw [k.k.eN]; exact of_decide_eq_true h2.1) (by rw [k.k.eN]; exact of_decide_eq_true h3.1) (of_decide_eq_true h6.1) (by rw [k.k.esc]; exact k.kd) (by rw [k.k.esc]; exact of_decide_eq_true h4.1) (by rw [k.k.esc]; exact of_decide_eq_true h5.1)
        (of_decide_eq_true h7.1) (chkE_plain h0.1) (chkE_plain h0.2) (bnot h8.1) (bnot h9.1) (sndE a k.k h0.1).1 (sndE b k.k h0.2).1
    | _ => unfold chkS at h; simp at h
  | .tryas c i b s, st, sc, X, Wx, cm, k, h => by
    cases st with
    | Try body hds orelse fin p =>
      obtain ⟨e1, e2, h⟩ := try_inv h
      subst e1
      subst e2
      have h2 := and2 h
      have h3 := and2 h2.2
      obtain ⟨x, np, n, b₀, l, p', e3, h4, h5⟩ := hd_inv h3.2
      subst e3
      have h6 := and2 h4
      have h7 := and2 h6.2
      have h8 := and2 h7.2
      have h9 := and2 (show (decide (N[i]? = some n) && locB sc n) = true from h8.2)
      have ex := of_decide_eq_true h6.1
      have pl := plain_of h8.1
      exact s_tryas (k0 := c) k.ex0 k.stk k.fr (by rw [k.k.eN]; exact k.k.nd) (by rw [k.k.eN]; exact of_decide_eq_true h9.1) (by rw [Env.kindOf, k.k.esc]; exact of_decide_eq_true h9.2) ⟨by rw [Gl, Env.kindOf, k.k.esc]; exact of_decide_eq_true h7.1, pl.1, .inl (k.k.exS.gl c x ex).1⟩ (fun j => (k.k.exS.kk j c x ex).2) k.k.tk
        (fun W pn xe tk po => sndSs b (k.tr tk po) h3.1) (fun a pn => sndSs s (cm := false) (k.suite a pn) h5)
    | _ => unfold chkS at h; simp at h
  | .try_ c b s, st, sc, X, Wx, cm, k, h => by
    cases st with
    | Try body hds orelse fin p =>
      obtain ⟨e1, e2, h⟩ := try_inv0 h
      subst e1
      subst e2
      have h2 := and2 h
      have h3 := and2 h2.2
      obtain ⟨x, np, b₀, l, p', e3, h4, h5⟩ := hd_inv0 h3.2
      subst e3
      have h6 := and2 h4
      have h7 := and2 h6.2
      have h8 := and2 h7.2
      have ex := of_decide_eq_true h6.1
      have pl := plain_of h8.1
      exact s_try (k0 := c) k.stk k.fr ⟨by rw [Gl, Env.kindOf, k.k.esc]; exact of_decide_eq_true h7.1, pl.1, .inl (k.k.exS.gl c x ex).1⟩ (fun j => (k.k.exS.kk j c x ex).2) k.k.tk
        (fun W pn xe tk po => sndSs b (k.tr tk po) h3.1) (fun a pn => sndSs s (cm := false) (k.suite a pn) h5)
    | _ => unfold chkS at h; simp at h
theorem sndSs : ∀ (c : CSs) {l : List Stmt} {sc : Scope} {X : Cx} {Wx : WX} {cm : Bool}, Sok (S.at cm) ca call lv N sc X Wx → chkSs S N cm sc c l = true → PSs X l (tS X.K ca (wI ca Wx) (exs ((S.at cm).cc call whM) c))
  | .nil, l, sc, X, Wx, cm, k, h => by
    cases l with
    | nil => exact s_nil
    | cons _ _ => unfold chkSs at h; simp at h
  | .cons s ss, l, sc, X, Wx, cm, k, h => by
    cases l with
    | nil => unfold chkSs at h; simp at h
    | cons st l =>
      unfold chkSs at h
      have h2 := and2 h
      exact s_cons (sndS s k h2.1) (sndSs ss k h2.2)
end
end
end M
/-! MDefs: every def of the text keeps the promise of its mini text; the law. -/
namespace M
open PySem PySem.Spec L2
theorem Stp.cutback {μ μ2 : Mu} {H H2 : Hp} (s : Stp μ H μ2 H2) : Stp μ H ⟨μ.m, μ2.x⟩ H2 := ⟨⟨[], by simp, fun _ z => nomatch z⟩, s.inx, s.oux, s.fix, s.keep, s.live⟩
mutual
theorem VR.fewer {K : PySem.W.Frag} {μ μ' : Mu} {H : Hp} (hm : ∀ a ∈ μ'.m, a ∈ μ.m) (hx : ∀ a ∈ μ'.x, a ∈ μ.x) : ∀ {d : D} {v : V}, VR K μ H d v → VR K μ' H d v
  | _, _, .non => .non
  | _, _, .bl b => .bl b
  | _, _, .int i => .int i
  | _, _, .str x => .str x
  | _, _, .lst h hs => .lst ⟨⟨fun z => h.1.1 (hm _ z), fun z => h.1.2 (hx _ z)⟩, h.2⟩ (VRs.fewer hm hx hs)
  | _, _, .tup h hs => .tup (h.elim (fun h => .inl ⟨⟨fun z => h.1.1 (hm _ z), fun z => h.1.2 (hx _ z)⟩, h.2⟩) .inr) (VRs.fewer hm hx hs)
  | _, _, .dct h hs => .dct ⟨⟨fun z => h.1.1 (hm _ z), fun z => h.1.2 (hx _ z)⟩, h.2⟩ (VDs.fewer hm hx hs)
theorem VDs.fewer {K : PySem.W.Frag} {μ μ' : Mu} {H : Hp} (hm : ∀ a ∈ μ'.m, a ∈ μ.m) (hx : ∀ a ∈ μ'.x, a ∈ μ.x) : ∀ {ds : List (D × D)} {vs : List (Key × V)}, VDs K μ H ds vs → VDs K μ' H ds vs
  | _, _, .nil => .nil
  | _, _, .cons h hs => .cons (VR.fewer hm hx h) (VDs.fewer hm hx hs)
theorem VRs.fewer {K : PySem.W.Frag} {μ μ' : Mu} {H : Hp} (hm : ∀ a ∈ μ'.m, a ∈ μ.m) (hx : ∀ a ∈ μ'.x, a ∈ μ.x) : ∀ {ds : List D} {vs : List V}, VRs K μ H ds vs → VRs K μ' H ds vs
  | _, _, .nil => .nil
  | _, _, .cons h hs => .cons (VR.fewer hm hx h) (VRs.fewer hm hx hs)
end
section
variable {K : PySem.W.Frag} {ca : Nat → Addr} {μ μ2 : Mu} {H H2 : Hp} {h h2 : Hh}
theorem WR.fewer {μ' : Mu} (hp : ∃ t, μ2.m = μ'.m ++ t) (hx : ∀ a ∈ μ'.x, a ∈ μ2.x) {w : W} {v : V} (hw : refB μ'.m.length w = true) (r : WR K ca μ2 H w v) : WR K ca μ' H w v := by
  obtain ⟨t, e⟩ := hp
  have hm : ∀ a ∈ μ'.m, a ∈ μ2.m := fun a z => by rw [e]; exact List.mem_append_left _ z
  cases r with
  | dat h => exact .dat (h.fewer hm hx)
  | ref h =>
    have hn := of_decide_eq_true hw
    rw [e, List.getElem?_append_left hn] at h
    exact .ref h
  | exc n h => exact .exc ⟨fun z => n.1 (hm _ z), fun z => n.2 (hx _ z)⟩ h
  | scr h =>
    obtain ⟨xs, e, h⟩ := h
    exact .scr ⟨xs, e, h.elim (fun z => .inl ⟨⟨fun q => z.1.1 (hm _ q), fun q => z.1.2 (hx _ q)⟩, z.2⟩) .inr⟩
theorem WRs.fewer {μ' : Mu} (hp : ∃ t, μ2.m = μ'.m ++ t) (hx : ∀ a ∈ μ'.x, a ∈ μ2.x) : ∀ {ws : List W} {vs : List V}, ws.all (refB μ'.m.length) = true → WRs K ca μ2 H ws vs → WRs K ca μ' H ws vs
  | _, _, _, .nil => .nil
  | _, _, hw, .cons r t => by
    rw [List.all_cons] at hw
    exact .cons (r.fewer hp hx (and2 hw).1) (WRs.fewer hp hx (and2 hw).2 t)
/-- the small heap's tail is forgotten -/
theorem HR.cutback {n : Nat} (s : Stp μ H μ2 H2) (hn : μ.m.length = n) (r : HR K ca μ2 H2 h2) (hc : closedB (h2.take n) = true) (hl : n ≤ h2.length) : HR K ca ⟨μ.m, μ2.x⟩ H2 (h2.take n) := by
  obtain ⟨t, e, _⟩ := s.pre
  have hp : ∃ t, μ2.m = (⟨μ.m, μ2.x⟩ : Mu).m ++ t := ⟨t, e⟩
  have hm : ∀ a ∈ μ.m, a ∈ μ2.m := fun a z => by rw [e]; exact List.mem_append_left _ z
  have hlen : (h2.take n).length = n := by rw [List.length_take]; omega
  refine ⟨by rw [hlen]; exact hn, ?_, fun a z => r.live a (hm a z), r.livx, fun a z => r.dis a (hm a z), fun i o a e1 e2 => ?_⟩
  · have := r.nd
    rw [e, List.nodup_append] at this
    exact this.1
  · have hi : i < n := by
      have := (List.getElem?_eq_some_iff.mp e1).1
      omega
    rw [List.getElem?_take, if_pos hi] at e1
    have e3 : μ2.m[i]? = some a := by
      rw [e, List.getElem?_append_left (by rw [hn]; exact hi)]
      exact e2
    have z := r.ob i o a e1 e3
    have co : obB n o = true := by
      have q := List.all_eq_true.mp hc o (List.mem_of_getElem? (i := i) (by rw [List.getElem?_take, if_pos hi]; exact e1))
      rw [hlen] at q
      exact q
    have hn' : (⟨μ.m, μ2.x⟩ : Mu).m.length = n := hn
    cases o with
    | lst l =>
      obtain ⟨xs, y, w⟩ := z
      exact ⟨xs, y, WRs.fewer hp (fun _ q => q) (by rw [hn']; exact co) w⟩
    | tpl l =>
      obtain ⟨xs, y, w⟩ := z
      exact ⟨xs, y, WRs.fewer hp (fun _ q => q) (by rw [hn']; exact co) w⟩
    | ins c fs =>
      obtain ⟨dx, fv, y, w⟩ := z
      refine ⟨dx, fv, y, ?_⟩
      have co : fs.all (fun p => refB n p.2) = true := co
      clear y e1
      induction w with
      | nil => exact .nil
      | cons q t ih =>
        rw [List.all_cons] at co
        exact .cons ⟨q.1, q.2.fewer hp (fun _ q => q) (by rw [hn']; exact (and2 co).1)⟩ (ih (and2 co).2 (and2 co).2)
    | dct l => exact z.elim
    | lck l => exact z.elim
    | gone => trivial
end

/-! ### arguments -/
theorem zip_look : ∀ {ps : List Str} {us : List Value}, us.length = ps.length → ∀ n ∈ ps, ((ps.zip us).lookup n).isNone = false
  | [], _, _, n, h => nomatch h
  | p :: ps, [], hl, _, _ => by cases hl
  | p :: ps, u :: us, hl, n, h => by
    rw [List.zip_cons_cons, List.lookup_cons]
    cases e : n == p with
    | true => rfl
    | false =>
      refine zip_look (by simpa using hl) n ?_
      rcases List.mem_cons.mp h with z | z
      · rw [z] at e
        simp at e
      · exact z
theorem fm_congr {α β : Type} {f g : α → Option β} : ∀ {l : List α}, (∀ x ∈ l, f x = g x) → l.filterMap f = l.filterMap g
  | [], _ => rfl
  | x :: l, h => by
    rw [List.filterMap_cons, List.filterMap_cons, h x List.mem_cons_self, fm_congr fun y hy => h y (List.mem_cons_of_mem _ hy)]
theorem zip_map {ps : List Str} : ∀ {us : List Value}, ps.Nodup → us.length = ps.length → ps.filterMap (fun n => ((ps.zip us).lookup n).map (n, ·)) = ps.zip us := by
  induction ps with
  | nil => intro us _ _; rfl
  | cons p ps ih =>
    intro us nd hl
    cases us with
    | nil => cases hl
    | cons u us =>
      have nd2 := List.nodup_cons.mp nd
      have e2 : ps.filterMap (fun n => ((((p :: ps).zip (u :: us))).lookup n).map (n, ·)) = ps.filterMap (fun n => ((ps.zip us).lookup n).map (n, ·)) := by
        refine fm_congr fun n hn => ?_
        have ne : (n == p) = false := beq_eq_false_iff_ne.mpr fun e => nd2.1 (e ▸ hn)
        rw [List.zip_cons_cons, List.lookup_cons, ne]
      rw [List.filterMap_cons, e2, ih nd2.2 (by simpa using hl)]
      simp
theorem bind_plain {name qual : Str} {args : List Arg} {body : List Stmt} {scope : Scope} {kV doc pm cdv ct : Value} {an : Option Addr} {us : List Value} (nd : (args.map (·.arg)).Nodup) (hl : us.length = (args.map (·.arg)).length) :
    bindArgs (PySem.W.fnOf name qual ⟨[], args, none, [], [], none, []⟩ body scope .none kV doc pm an cdv ct) ⟨us, []⟩ = pure ((args.map (·.arg)).zip us) := by
  have hz := zip_map nd hl
  have hf : (args.map (·.arg)).filter (fun n => (((args.map (·.arg)).zip us).lookup n).isNone) = [] := by
    rw [List.filter_eq_nil_iff]
    intro n hn
    rw [zip_look hl n hn]
    exact Bool.false_ne_true
  have hl2 : ¬ args.length < us.length := by rw [hl, List.length_map]; omega
  rw [List.filterMap_map] at hz
  unfold bindArgs
  simp [PySem.W.fnOf, seqItems?, notAStandIn, hl2, List.take_of_length_le, hf]
  rw [hz]
/-! ### what the top has written -/
/-- one def of the text: its mini text, its qualified name, its names (parameters first), its statement -/
structure DefM where
  d : Df
  at_ : Str × Option Str
  qual : Str
  N : List Str
  st : Stmt
def argsB : Arguments → List Str → Bool
  | ⟨[], as, none, [], [], none, []⟩, ps => decide (as.map (·.arg) = ps)
  | _, _ => false
/-- the text's def is the mini one -/
def DefM.okB (S : Sg) (m : DefM) : Bool :=
  chkSs S m.N S.calm (defScope m.st) m.d.body (defBody m.st) && (decide (m.N.length = m.d.many) && (decide (m.N.Nodup) && (decide (m.d.pars ≤ m.N.length) && (argsB (defArgs m.st) (m.N.take m.d.pars) &&
    ((match (defScope m.st).kind with
      | .function => true
      | _ => false) && (!(defScope m.st).isCoroutine && (!(defScope m.st).isGenerator &&
    (((m.N.take m.d.pars).all fun x => locB (defScope m.st) x || celB (defScope m.st) x) && ((defScope m.st).names.all fun y => decide (y.2 ≠ .free))))))))))
/-- what the head tells: K the written part, mg the module's names -/
structure Facts (S : Sg) (M : List DefM) (K : PySem.W.Frag) (mg : Str → Option Value) (ca : Nat → Addr) : Prop where
  tab : M.map (·.d) = S.T
  free : ∀ x, x ∈ S.frees → mg x = none
  glb : ∀ (k : Nat) (x : Str) (d : D), S.glbs[k]? = some (x, d) → ∃ u v, mg x = some u ∧ RelV v u ∧ ∀ μ H, VR K μ H d v
  fns : ∀ (f : Nat) (m : DefM), M[f]? = some m → ∃ a fd, FunD K m.d.name m.qual (defArgs m.st) (defBody m.st) (defScope m.st) [] [] a fd ∧ (m.d.cls = none → mg m.d.name = some (.ref a))
  exs : ExS S K mg ca
theorem args_inv {a : Arguments} {ps : List Str} (h : argsB a ps = true) : ∃ as, a = ⟨[], as, none, [], [], none, []⟩ ∧ as.map (·.arg) = ps := by
  unfold argsB at h
  split at h
  · exact ⟨_, rfl, of_decide_eq_true h⟩
  · cases h
theorem start_er {K : PySem.W.Frag} {ca : Nat → Addr} {μ : Mu} {H : Hp} {N : List Str} {d : Df} {ws : List W} {vs : List V} (hl : N.length = d.many) (z : WRs K ca μ H ws vs) : ER K ca μ H (M.start d ws) (L2.start N vs) := by
  have e := z.len
  refine ⟨?_, fun i w h => ?_⟩
  · unfold M.start L2.start
    simp only [List.length_append, List.length_map, List.length_replicate, e, hl]
  · unfold M.start at h
    unfold L2.start
    have key : ∀ {ws : List W} {vs : List V} (n m : Nat) (i : Nat) (w : W), WRs K ca μ H ws vs → (ws.map some ++ List.replicate n none)[i]? = some (some w) → ∃ v, (vs.map some ++ List.replicate m none)[i]? = some (some v) ∧ WR K ca μ H w v := by
      intro ws vs n m i w z
      induction z generalizing i with
      | nil =>
        intro h
        rw [List.map_nil, List.nil_append] at h
        have := List.mem_of_getElem? h
        rw [List.mem_replicate] at this
        cases this.2
      | cons r t ih =>
        intro h
        cases i with
        | zero => simp at h; subst h; exact ⟨_, rfl, r⟩
        | succ i => simpa using ih i (by simpa using h)
    exact key _ _ i w z h
/-- a def's end -/
theorem fin_ok {K : PySem.W.Frag} {ca : Nat → Addr} {μ : Mu} {H : Hp} {h : Hh} {keep : Bool} {Q : VK} {E : XK} {r : SR} (hr : HR K ca μ H h) (o : Out K ca μ H (rW K ca) Q (fun c H' => E (.ref (ca c)) none H') (finish keep h.length r)) :
    OutS K ca μ H (fun c _ H' => E (.ref (ca c)) none H') { nx := fun _ H' => Q .non H', rt := Q } r := by
  have lens : ∀ {μ' : Mu} {H' : Hp} {h' : Hh}, Stp μ H μ' H' → HR K ca μ' H' h' → h.length ≤ h'.length := fun {μ' H' h'} s r => by
    obtain ⟨t, e, _⟩ := s.pre
    have l1 := r.len
    rw [e, List.length_append, hr.len] at l1
    omega
  cases r with
  | bad => exact o
  | exc c e h' =>
    intro μ' H' σ' s r' _
    cases keep with
    | true =>
      have o : Out K ca μ H (rW K ca) Q (fun c H' => E (.ref (ca c)) none H') (.exc c h') := o
      exact o _ _ s r'
    | false =>
      have o : Out K ca μ H (rW K ca) Q (fun c H' => E (.ref (ca c)) none H') (if closedB (h'.take h.length) then .exc c (h'.take h.length) else .bad) := o
      obtain ⟨cl, o⟩ := out_if o
      exact o _ _ s.cutback (r'.cutback s hr.len cl (lens s r'))
  | nxt e h' =>
    intro μ' H' σ' s r' _
    cases keep with
    | true =>
      have o : Out K ca μ H (rW K ca) Q (fun c H' => E (.ref (ca c)) none H') (.ok (.dat .none) h') := o
      exact o _ _ _ s r' (.dat .non)
    | false =>
      have o : Out K ca μ H (rW K ca) Q (fun c H' => E (.ref (ca c)) none H') (if closedB (h'.take h.length) then .ok (.dat .none) (h'.take h.length) else .bad) := o
      obtain ⟨cl, o⟩ := out_if o
      exact o _ _ _ s.cutback (r'.cutback s hr.len cl (lens s r')) (.dat .non)
  | ret w h' =>
    intro μ' H' v s r' z
    cases keep with
    | true =>
      have o : Out K ca μ H (rW K ca) Q (fun c H' => E (.ref (ca c)) none H') (.ok w h') := o
      exact o _ _ _ s r' z
    | false =>
      cases w with
      | dat d =>
        have o : Out K ca μ H (rW K ca) Q (fun c H' => E (.ref (ca c)) none H') (if closedB (h'.take h.length) then .ok (.dat d) (h'.take h.length) else .bad) := o
        obtain ⟨cl, o⟩ := out_if o
        obtain ⟨t, e, _⟩ := s.pre
        exact o _ _ _ s.cutback (r'.cutback s hr.len cl (lens s r')) (WR.fewer (μ' := ⟨μ.m, μ'.x⟩) ⟨t, e⟩ (fun _ q => q) rfl z)
      | ref k =>
        have o : Out K ca μ H (rW K ca) Q (fun c H' => E (.ref (ca c)) none H') (match h'[k]? with
          | some (.lst l) => (match dsOf l with
            | some ds => if (decide (h.length ≤ k) && closedB (h'.take h.length)) = true then .ok (.dat (.list ds)) (h'.take h.length) else .bad
            | none => .bad)
          | _ => .bad) := o
        cases q : h'[k]? with
        | none => rw [q] at o; exact o.elim
        | some ob =>
          cases ob with
          | lst l =>
            rw [q] at o
            cases q2 : dsOf l with
            | none => simp only [q2] at o; exact o.elim
            | some ds =>
              simp only [q2] at o
              obtain ⟨cl, o⟩ := out_if o
              have c2 := and2 cl
              have hk : h.length ≤ k := of_decide_eq_true c2.1
              obtain ⟨t, e, _⟩ := s.pre
              cases z with
              | ref hn =>
                rename_i a
                obtain ⟨xs, y1, y2⟩ := r'.ob k _ a q hn
                have na : a ∉ μ.m := fun m => by
                  obtain ⟨i, hi⟩ := List.getElem?_of_mem m
                  have e2 := s.get hi
                  have := nodup_get r'.nd e2 hn
                  subst this
                  have := (List.getElem?_eq_some_iff.mp hi).1
                  rw [hr.len] at this
                  omega
                exact o _ _ _ s.cutback (r'.cutback s hr.len c2.2 (lens s r')) (.dat (.lst ⟨⟨na, r'.dis a (List.mem_of_getElem? hn)⟩, .inl y1⟩ (VRs.fewer (μ := μ') (μ' := ⟨μ.m, μ'.x⟩) (fun b m => by rw [e]; exact List.mem_append_left _ m) (fun _ m => m) (WRs.data y2 q2))))
          | _ => rw [q] at o; exact o.elim
      | _ => exact o.elim
section
variable {S : Sg} {L : List DefM} {K : PySem.W.Frag} {mg : Str → Option Value} {ca : Nat → Addr} {P : Program} {w : World} {base : Heap}
theorem Sg.at_ {L : List DefM} (e : L.map (·.d) = S.T) {f : Nat} {d : Df} (h : S.T[f]? = some d) : ∃ m, L[f]? = some m ∧ m.d = d := by
  rw [← e, List.getElem?_map] at h
  exact Option.map_eq_some_iff.mp h
theorem DefM.binds {m : DefM} {a : Addr} {fd : FuncData} (F : FunD K m.d.name m.qual (defArgs m.st) (defBody m.st) (defScope m.st) [] [] a fd) (h : argsB (defArgs m.st) (m.N.take m.d.pars) = true) (nd : m.N.Nodup) : Binds K fd (m.N.take m.d.pars) [] := by
  obtain ⟨as, e1, e2⟩ := args_inv h
  rw [e1] at F
  refine F.bindsN fun kV doc pm an cdv ct us hl => ?_
  have nd2 : (as.map (·.arg)).Nodup := by rw [e2]; exact nd.sublist (List.take_sublist _ _)
  rw [← e2] at hl ⊢
  exact bind_plain nd2 hl
theorem _root_.L2.FunD.look {K : PySem.W.Frag} {x qual : Str} {params : Arguments} {body : List Stmt} {scope : Scope} {dvs : List V} {kws : List (Str × V)} {f : Addr} {fd : FuncData} (F : FunD K x qual params body scope dvs kws f fd) : ∃ oc od osl, K.lookup f = some ⟨oc, od, .func fd, osl⟩ := by
  obtain ⟨oc, od, _, _, _, _, _, _, _, osl, _, lk, _⟩ := F.ex
  exact ⟨oc, od, osl, lk⟩
/-- every def, to every depth -/
theorem def_ok (G : Facts S L K mg ca) (ok : ∀ m ∈ L, m.okB S = true) : ∀ (n f : Nat) (m : DefM), L[f]? = some m → ∃ a fd, (m.d.cls = none → mg m.d.name = some (.ref a)) ∧ PySem.W.keepIn K (.ref a) = true ∧ (∃ oc od osl, K.lookup a = some ⟨oc, od, .func fd, osl⟩) ∧ Binds K fd (m.N.take m.d.pars) [] ∧ (∀ (s : Shared) (us : List Value), us.length = (m.N.take m.d.pars).length → BindsTo s fd ⟨us, []⟩ ((m.N.take m.d.pars).zip us)) ∧
    FnOk P w K mg base (L2.CX P w) n a fd (m.N.take m.d.pars) (spC K ca m.d.pars (run S.glb S.T n f)) := by
  intro n
  induction n with
  | zero =>
    intro f m hm
    obtain ⟨a, fd, F, g⟩ := G.fns f m hm
    have b := and2 (ok m (List.mem_of_getElem? hm))
    have b2 := and2 b.2
    have b3 := and2 b2.2
    have b4 := and2 b3.2
    have b5 := and2 b4.2
    obtain ⟨as, e1, e2⟩ := args_inv b5.1
    refine ⟨a, fd, g, F.kp, F.look, DefM.binds F b5.1 (of_decide_eq_true b3.1), fun s us hl => ?_, ⟨fun vs H Q E q => ?_, fun A outer s H args us vs Q E _ _ _ _ q => ?_⟩⟩
    · have nd2 : (as.map (·.arg)).Nodup := by rw [e2]; exact (of_decide_eq_true b3.1).sublist (List.take_sublist _ _)
      rw [e1] at F
      refine F.bindsA (fun kV doc pm an cdv ct us hl => ?_) s us hl
      rw [← e2] at hl ⊢
      exact bind_plain nd2 hl
    · obtain ⟨_, _, _, _, _, _, o⟩ := q
      exact o.elim
    · obtain ⟨_, _, _, _, _, _, o⟩ := q
      exact o.elim
  | succ n ih =>
    intro f m hm
    obtain ⟨a, fd, F, g⟩ := G.fns f m hm
    have b := and2 (ok m (List.mem_of_getElem? hm))
    have b2 := and2 b.2
    have b3 := and2 b2.2
    have b4 := and2 b3.2
    have b5 := and2 b4.2
    have b6 := and2 b5.2
    have b7 := and2 b6.2
    have b8 := and2 b7.2
    have b9 := and2 b8.2
    have nd : m.N.Nodup := of_decide_eq_true b3.1
    have hpl : (m.N.take m.d.pars).length = m.d.pars := by rw [List.length_take]; have := of_decide_eq_true b4.1; omega
    have kd : (defScope m.st).kind = .function := by
      have := b6.1
      cases q : (defScope m.st).kind <;> rw [q] at this <;> first | rfl | cases this
    have SC : FnScope m.N (m.N.take m.d.pars) (defScope m.st) := by
      refine ⟨kd, bnot b7.1, bnot b8.1, nd, by rw [hpl], fun x hx => ?_, fun y hy => of_decide_eq_true (List.all_eq_true.mp b9.2 y hy)⟩
      rcases Bool.or_eq_true_iff.mp (List.all_eq_true.mp b9.1 x hx) with q | q
      · exact .inl (of_decide_eq_true q)
      · exact .inr (of_decide_eq_true q)
    obtain ⟨as, e1, e2⟩ := args_inv b5.1
    refine ⟨a, fd, g, F.kp, F.look, DefM.binds F b5.1 nd, fun s us hl => ?_, ?_⟩
    · have nd2 : (as.map (·.arg)).Nodup := by rw [e2]; exact nd.sublist (List.take_sublist _ _)
      rw [e1] at F
      refine F.bindsA (fun kV doc pm an cdv ct us hl => ?_) s us hl
      rw [← e2] at hl ⊢
      exact bind_plain nd2 hl
    refine F.ok SC (fun vs H Q E q => by rw [hpl]; exact q.1) fun cdv A outer s H vs Q E hr q => ?_
    obtain ⟨hv, μ, h, ws, hrr, z, o⟩ := q
    refine ⟨tS K ca (fun c σ H' => E (.ref (ca c)) none H') (exs (S.cc (run S.glb S.T n) whM) m.d.body), ?_, ?_⟩
    · have ck : Cok S ca (run S.glb S.T n) n m.N (defScope m.st) (cxOf (L2.CX P w) P w K mg base m.N m.qual (defScope m.st) a cdv A outer s H E) (fun cls d _ H' => E cls d H') :=
        ⟨rfl, nd, rfl, fun _ => rfl, hu65 hr, fun _ => hr, G.free, G.glb, fun f2 d2 hf hc => by
          obtain ⟨m2, h2, rfl⟩ := Sg.at_ G.tab hf
          obtain ⟨a2, fd2, g1, g2, _, g3, _, g4⟩ := ih f2 m2 h2
          exact ⟨a2, fd2, _, g1 hc, g2, g3, g4⟩, G.exs, takes_of rfl rfl rfl rfl⟩
      exact sndSs (S := S) (cm := S.calm) m.d.body ⟨ck, passes_of rfl, fun _ => rfl, rfl, rfl, rfl, kd⟩ b.1
    · have hT : S.T[f]? = some m.d := by rw [← G.tab, List.getElem?_map, hm]; rfl
      have hw : ws.length = m.d.pars := by rw [z.len]; exact hv
      have o : Out K ca μ H (rW K ca) Q (fun c H' => E (.ref (ca c)) none H') (finish m.d.keep h.length (exs ⟨S.glb, run S.glb S.T n, whM⟩ m.d.body (M.start m.d ws) h)) := by
        have e : run S.glb S.T (n + 1) f ws h = finish m.d.keep h.length (exs ⟨S.glb, run S.glb S.T n, whM⟩ m.d.body (M.start m.d ws) h) := by
          show (match S.T[f]? with
            | some d => if ws.length = d.pars then finish d.keep h.length (exs ⟨S.glb, runBy whM S.glb S.T n, whM⟩ d.body (M.start d ws) h) else .bad
            | none => .bad) = _
          rw [hT]
          show (if ws.length = m.d.pars then _ else _) = _
          rw [if_pos hw]
          rfl
        rw [← e]
        exact o
      exact ⟨μ, _, h, start_er (of_decide_eq_true b2.1) z, hrr, fin_ok hrr o⟩
end
end M
/-! MLaw: from what the head tells to the law. -/
namespace M
open PySem PySem.Spec PyProof.Rows L2
/-! ### constants of the top -/
mutual
def relD (K : PySem.W.Frag) : D → Value → Option V
  | .none, .none => some .non
  | .bool b, .bool c => if b = c then some (.bl b) else none
  | .int i, .int j _ => if i = j then some (.int i) else none
  | .str x, .str y _ => if x = y then some (.str x) else none
  | .tuple ds, .ref a => (match K.lookup a with
    | some ⟨.type c, _, .seq its _, _⟩ => if c = "tuple" ∧ its.size ≤ sizeLine then (relDs K ds its.toList).map fun _ => .ref a else none
    | _ => none)
  | _, _ => none
def relDs (K : PySem.W.Frag) : List D → List Value → Option (List V)
  | [], [] => some []
  | d :: ds, u :: us => (match relD K d u, relDs K ds us with
    | some v, some vs => some (v :: vs)
    | _, _ => none)
  | _, _ => none
end
mutual
theorem relD_ok {K : PySem.W.Frag} : ∀ {d : D} {u : Value} {v : V}, relD K d u = some v → RelV v u ∧ ∀ μ H, VR K μ H d v
  | .none, u, v, h => by
    cases u <;> simp [relD] at h
    subst h
    exact ⟨rfl, fun _ _ => .non⟩
  | .bool b, u, v, h => by
    cases u <;> simp [relD] at h
    obtain ⟨rfl, rfl⟩ := h
    exact ⟨rfl, fun _ _ => .bl _⟩
  | .int b, u, v, h => by
    cases u <;> simp [relD] at h
    obtain ⟨rfl, rfl⟩ := h
    exact ⟨⟨_, rfl⟩, fun _ _ => .int _⟩
  | .str b, u, v, h => by
    cases u <;> simp [relD] at h
    obtain ⟨rfl, rfl⟩ := h
    exact ⟨⟨_, rfl⟩, fun _ _ => .str _⟩
  | .list _, u, v, h => by simp [relD] at h
  | .dict _, u, v, h => by simp [relD] at h
  | .tuple ds, u, v, h => by
    cases u with
    | ref a =>
      unfold relD at h
      split at h
      · rename_i c od its n sl e
        split at h
        · rename_i q
          cases r : relDs K ds its.toList with
          | none => rw [r] at h; cases h
          | some vs =>
            rw [r] at h
            cases h
            obtain ⟨h1, h2⟩ := relDs_ok r
            exact ⟨rfl, fun μ H => .tup (.inr ⟨_, its, n, e, congrArg Value.type q.1, rfl, q.2, h1⟩) (h2 μ H)⟩
        · cases h
      · cases h
    | _ => simp [relD] at h
theorem relDs_ok {K : PySem.W.Frag} : ∀ {ds : List D} {us : List Value} {vs : List V}, relDs K ds us = some vs → Vals vs us ∧ ∀ μ H, VRs K μ H ds vs
  | [], us, vs, h => by
    cases us <;> simp [relDs] at h
    subst h
    exact ⟨.nil, fun _ _ => .nil⟩
  | d :: ds, us, vs, h => by
    cases us with
    | nil => simp [relDs] at h
    | cons u us =>
      unfold relDs at h
      cases h1 : relD K d u with
      | none => rw [h1] at h; cases h
      | some v =>
        cases h2 : relDs K ds us with
        | none => rw [h1, h2] at h; cases h
        | some vs2 =>
          rw [h1, h2] at h
          cases h
          obtain ⟨a1, a2⟩ := relD_ok h1
          obtain ⟨b1, b2⟩ := relDs_ok h2
          exact ⟨.cons a1 b1, fun μ H => .cons (a2 μ H) (b2 μ H)⟩
end
/-! ### the errors' classes -/
def Sg.cn (S : Sg) (c : Nat) : Str := match S.excs[c]? with
  | some x => x
  | none => "MarkError"
def Sg.ca (S : Sg) (K : PySem.W.Frag) (c : Nat) : Addr := He.ga K (S.cn c)
def icB (K : PySem.W.Frag) (D : Addr) : Bool :=
  He.eqO (PySem.W.findIn K (.ref D) "__getattribute__") (some (some (.builtin "BaseException.__getattribute__"))) && (He.eqO (PySem.W.findIn K (.ref D) "__getattr__") (some none) && (decide (PySem.W.subIn K (.ref D) (.type "BaseException") = some true) && (PySem.W.hasDictIn K D &&
    (He.eqO (PySem.W.findIn K (.ref D) "__class__") (some (some (.builtin "object.__class__"))) && (He.eqO (PySem.W.specialIn K (.builtin "object.__class__") "__get__") (some (some (.builtin "getset_descriptor.__get__"))) && (decide (PySem.W.takesIn K (.builtin "object.__class__") = some true) &&
      (decide (PySem.W.mroIn K D (.type "object") = some true) && decide (PySem.W.kitOne K (.ref D) (.type "ValueError") = some true))))))))
theorem icB_ok {K : PySem.W.Frag} {D : Addr} (h : icB K D = true) : ExcC K D ∧ PySem.W.kitOne K (.ref D) (.type "ValueError") = some true := by
  have h1 := and2 h
  have h2 := and2 h1.2
  have h3 := and2 h2.2
  have h4 := and2 h3.2
  have h5 := and2 h4.2
  have h6 := and2 h5.2
  have h7 := and2 h6.2
  have h8 := and2 h7.2
  exact ⟨⟨He.eqO_ok h1.1, He.eqO_ok h2.1, of_decide_eq_true h3.1, h4.1, He.eqO_ok h5.1, He.eqO_ok h6.1, of_decide_eq_true h7.1, of_decide_eq_true h8.1⟩, of_decide_eq_true h8.2⟩
def exB1 (K : PySem.W.Frag) (S : Sg) : Bool :=
  decide (S.excs[0]? = some ("MarkError" : Str)) && ((S.excs.all fun x => (He.Fa.glo x).ok K && (PySem.W.keepIn K (.ref (He.ga K x)) && (decide (PySem.W.typeIn K (.ref (He.ga K x)) = some (.type "type")) && icB K (He.ga K x)))) &&
    ((S.plain.all fun x => PySem.W.excIn K (He.ga K x) He.veBase "ValueError.__new__") &&
      ((List.range S.excs.length).all fun c => (List.range S.excs.length).all fun d => decide (PySem.W.kitOne K (.ref (S.ca K c)) (.ref (S.ca K d)) = some (subX c d)) && decide (PySem.W.exmOne K (.ref (S.ca K c)) (.ref (S.ca K d)) = some (subX c d)))))
def exB (K : PySem.W.Frag) (S : Sg) : Bool := S.excs.isEmpty || exB1 K S
section
variable {K : PySem.W.Frag} {S : Sg} {mg : Str → Option Value} {h : Heap}
theorem cn_of {c : Nat} {x : Str} (e : S.excs[c]? = some x) : S.cn c = x := by unfold Sg.cn; rw [e]
theorem exB1_ok (X : K.In h) (G : h.Ns mainGlobals mg) (q : exB1 K S = true) : ExS S K mg (S.ca K) := by
  have h1 := and2 q
  have h2 := and2 h1.2
  have h3 := and2 h2.2
  have e0 : S.excs[0]? = some ("MarkError" : Str) := of_decide_eq_true h1.1
  have each : ∀ x, x ∈ S.excs → mg x = some (.ref (He.ga K x)) ∧ PySem.W.keepIn K (.ref (He.ga K x)) = true ∧ PySem.W.typeIn K (.ref (He.ga K x)) = some (.type "type") ∧ ExcC K (He.ga K x) ∧ PySem.W.kitOne K (.ref (He.ga K x)) (.type "ValueError") = some true := fun x hx => by
    have z := and2 (List.all_eq_true.mp h2.1 x hx)
    have z2 := and2 z.2
    have z3 := and2 z2.2
    exact ⟨He.glo_ok X G z.1, z2.1, of_decide_eq_true z3.1, icB_ok z3.2⟩
  have mem : ∀ c, S.cn c ∈ S.excs := fun c => by
    unfold Sg.cn
    cases e : S.excs[c]? with
    | some x => exact List.mem_of_getElem? e
    | none => exact List.mem_of_getElem? e0
  have kk : ∀ c d, c < S.excs.length → d < S.excs.length → PySem.W.kitOne K (.ref (S.ca K c)) (.ref (S.ca K d)) = some (subX c d) ∧ PySem.W.exmOne K (.ref (S.ca K c)) (.ref (S.ca K d)) = some (subX c d) := fun c d hc hd => by
    have z := and2 (List.all_eq_true.mp (List.all_eq_true.mp h3.2 c (List.mem_range.mpr hc)) d (List.mem_range.mpr hd))
    exact ⟨of_decide_eq_true z.1, of_decide_eq_true z.2⟩
  refine ⟨fun c x e => ?_, fun c x e hp => ?_, fun c _ => ?_, fun c d y e => ?_⟩
  · have z := each x (List.mem_of_getElem? e)
    unfold Sg.ca
    rw [cn_of e]
    exact ⟨z.1, z.2.1, z.2.2.2.1.hs, z.2.2.1⟩
  · unfold Sg.ca
    rw [cn_of e]
    exact List.all_eq_true.mp h3.1 x hp
  · exact (each _ (mem c)).2.2.2
  · have hd := (List.getElem?_eq_some_iff.mp e).1
    by_cases hc : c < S.excs.length
    · exact kk c d hc hd
    · have z := kk 0 d (by omega) hd
      have e1 : S.ca K c = S.ca K 0 := by
        unfold Sg.ca
        rw [cn_of e0]
        unfold Sg.cn
        rw [List.getElem?_eq_none (by omega)]
      have e2 : subX c d = subX 0 d := by
        unfold subX
        by_cases hd0 : d = 0
        · subst hd0; rfl
        · have : ¬ c = d := by omega
          have : ¬ 0 = d := by omega
          simp [*]
      rw [e1, e2]
      exact z
theorem exB_ok (X : K.In h) (G : h.Ns mainGlobals mg) (q : exB K S = true) : ExS S K mg (S.ca K) := by
  rcases Bool.or_eq_true_iff.mp q with q | q
  · have e : S.excs = [] := List.isEmpty_iff.mp q
    exact ⟨fun c x z => by rw [e] at z; simp at z, fun c x z => by rw [e] at z; simp at z, fun c z => absurd e z, fun c d y z => by rw [e] at z; simp at z⟩
  · exact exB1_ok X G q
end
/-! ### the Hook -/
def glB (K : PySem.W.Frag) (p : Str × D) : Bool := match PySem.W.nsIn K mainGlobals p.1 with
  | some (some u) => (relD K p.2 u).isSome
  | _ => false
theorem glB_ok {K : PySem.W.Frag} {h : Heap} {mg : Str → Option Value} (X : K.In h) (G : h.Ns mainGlobals mg) {p : Str × D} (q : glB K p = true) : ∃ u v, mg p.1 = some u ∧ RelV v u ∧ ∀ μ H, VR K μ H p.2 v := by
  unfold glB at q
  split at q
  · rename_i u e
    obtain ⟨v, hv⟩ := Option.isSome_iff_exists.mp q
    obtain ⟨a, b⟩ := relD_ok hv
    exact ⟨u, v, PySem.W.mg_of X G e, a, b⟩
  · cases q
def DefM.dd (m : DefM) : He.DefD := ⟨m.at_, m.d.name, m.qual, defArgs m.st, defBody m.st, defScope m.st, [], []⟩
def faOf (S : Sg) (L : List DefM) : List He.Fa := S.frees.map .free ++ L.filterMap fun m => if m.d.cls = none then some (.glo m.d.name) else none
def fnOf (L : List DefM) : List He.DefD := L.map DefM.dd
/-- the further looks -/
def xtB (S : Sg) (K : PySem.W.Frag) : Bool := (S.glbs.all fun p => glB K p) && exB K S
abbrev AlM : Type := He.AlD × Bool
def obM (S : Sg) (L : List DefM) (n : Nat) (g : Addr → Option Obj) : AlM := (He.obsD (faOf S L) (fnOf L) (He.frG g (He.asD g n)), xtB S (He.frG g (He.asD g n)))
def SaysM (S : Sg) (L : List DefM) (K : PySem.W.Frag) : Prop := He.SaysD (faOf S L) (fnOf L) K ∧ xtB S K = true
def hookM (S : Sg) (L : List DefM) (n : Nat) : PySem.W.Hook where
  α := AlM
  obs := fun s => obM S L n s.heap.get?
  val := fun _ => (He.valD (fnOf L), true)
  says := fun _ h => ∃ K : PySem.W.Frag, K.In h ∧ SaysM S L K
  of := fun _ _ e => ⟨_, He.frG_in, congrArg Prod.fst e, congrArg Prod.snd e⟩
  keeps := fun _ _ _ ⟨K, hK, c⟩ k => ⟨K, PySem.W.Frag.In.keeps hK k, c⟩
theorem obM_eq {S : Sg} {L : List DefM} {n : Nat} {g : Addr → Option Obj} {s : Shared} (h : ∀ a, g a = s.heap.get? a) : obM S L n g = (hookM S L n).obs s := by
  have e : g = s.heap.get? := funext h
  rw [e] <;> rfl
theorem says_fact {fa : List He.Fa} {fn : List He.DefD} {K : PySem.W.Frag} (c : He.SaysD fa fn K) {f : He.Fa} (h : f ∈ fa) : f.ok K = true := by
  have c1 := (He.ba (show ((fa.all fun f => f.ok K) && fn.all fun d => d.ok K) = true from congrArg (fun z : He.AlD => z.1) c)).1
  exact List.all_eq_true.mp c1 f h
/-- a def of the module stands under its name -/
def DefM.atB (m : DefM) : Bool := match m.d.cls with
  | none => decide (m.at_ = (m.d.name, none))
  | some _ => true
theorem facts_of {S : Sg} {L : List DefM} {K : PySem.W.Frag} {h : Heap} {mg : Str → Option Value} (X : K.In h) (G : h.Ns mainGlobals mg) (tab : L.map (·.d) = S.T) (hat : ∀ m ∈ L, m.atB = true) (c : SaysM S L K) : Facts S L K mg (S.ca K) where
  tab := tab
  free := fun x hx => He.free_ok X G (says_fact c.1 (List.mem_append_left _ (List.mem_map.mpr ⟨x, hx, rfl⟩)))
  glb := fun k x d e => glB_ok X G (p := (x, d)) (List.all_eq_true.mp (and2 c.2).1 _ (List.mem_of_getElem? e))
  fns := fun f m e => by
    obtain ⟨fd, F⟩ := c.1.def_ f (d := m.dd) (by unfold fnOf; rw [List.getElem?_map, e]; rfl)
    refine ⟨_, fd, F, fun hc => ?_⟩
    have z := hat m (List.mem_of_getElem? e)
    unfold DefM.atB at z
    rw [hc] at z
    have z := of_decide_eq_true z
    show mg m.d.name = some (.ref (He.fAd K m.at_))
    rw [z]
    exact He.glo_ok X G (says_fact c.1 (List.mem_append_right _ (List.mem_filterMap.mpr ⟨m, List.mem_of_getElem? e, by rw [if_pos hc]⟩)))
  exs := exB_ok X G (and2 c.2).2
/-- what a def may let out, in any world -/
def CXa : CXT := fun outer H s E u s' => ∃ P w, L2.CX P w outer H s E u s'
/-- the law -/
theorem law_walk {l : PySem.W.OpenLaw} {S : Sg} {L : List DefM} {k f n j : Nat} {m : DefM} {q : Program} {loose : List Str} {XP : (Str → Option Value) → Heap → Prop} {d : DefRec} {x : Str}
    (hn : l.most = some n) (hn2 : n ≤ sizeLine) (hdf : d.params.defaults = []) (hr : Room k callerA) (tab : L.map (·.d) = S.T) (hat : ∀ m ∈ L, m.atB = true) (ok : ∀ m ∈ L, m.okB S = true)
    (hm : L[f]? = some m) (hc : m.d.cls = none) (hp : m.d.pars = 1) (hN : m.N.take 1 = [x]) (hd : d.name = m.d.name)
    (hrun : ∀ ns : List Int, ns.length ≤ n → ∃ h', run S.glb S.T k f [.scr ns] [] = .ok (.dat (.bool true)) h') :
    PySem.W.WalkO q loose XP (hookM S L j).says l.row.toRowW d [] (fun f vs => PySem.call f vs) := by
  refine L2.walk_ofE (l := l) (n := n) (k := k) (x := x) (CX := CXa) hn hn2 hdf hr (fun w mg fa h Y G hmg => ?_) (fun H s e s' z => ?_)
  · obtain ⟨K, KX, c⟩ := Y
    have F : ∀ (mg : Str → Option Value) (h : Heap), K.In h → h.Ns mainGlobals mg → Facts S L K mg (S.ca K) := fun mg h X G => facts_of X G tab hat c
    obtain ⟨a, fd, g1, g2, ⟨o1, o2, o3, g0⟩, g3, g4, _⟩ := def_ok (P := l.prog) (w := w) (base := h) (F mg h KX G) ok k f m hm
    have ea : a = fa := by
      have z := g1 hc
      rw [← hd, hmg] at z
      cases z
      rfl
    subst ea
    rw [hp, hN] at g4
    refine ⟨K, fd, spC K (S.ca K) 1 (run S.glb S.T k f), KX, fun s u => g4 s [u] rfl, fun H a ns hl _ hS => ?_, fun base kb Gb => ?_⟩
    · obtain ⟨h', e⟩ := hrun ns hl
      refine ⟨rfl, ⟨[], []⟩, [], [.scr ns], ⟨rfl, List.nodup_nil, fun a z => (nomatch z), fun a z => (nomatch z), fun a z => (nomatch z), fun n o a z => by simp at z⟩, .cons (.scr ⟨_, rfl, ?_⟩) .nil, ?_⟩
      · rcases hS with q | q
        · exact .inl ⟨⟨fun z => (nomatch z), fun z => (nomatch z)⟩, q⟩
        · exact .inr fun H' => .inr q
      · rw [e]
        intro μ' H' v _ _ z
        cases z with
        | dat z => cases z; rfl
    · obtain ⟨a', fd', g1', g2', ⟨o1', o2', o3', g0'⟩, g3', g4', g5'⟩ := def_ok (P := l.prog) (w := w) (base := base) (F mg base kb Gb) ok k f m hm
      have e1 : a' = a := by
        have z := (g1' hc).symm.trans (g1 hc)
        exact Value.ref.inj (Option.some.inj z)
      subst e1
      have e2 : fd' = fd := by
        rw [g0] at g0'
        cases g0'
        rfl
      subst e2
      rw [hp, hN] at g5'
      exact ⟨g5'.len, fun A outer s H args us vs Q E r1 r2 r3 r4 r5 => codeAny_mono (g5'.run A outer s H args us vs Q E r1 r2 r3 r4 r5) fun r s' z => by
        unfold CR at z ⊢
        cases r with
        | ok c => cases c <;> exact z
        | error e => exact ⟨_, _, z⟩⟩
  · obtain ⟨P, w, a, B, H', cls, d, _, _, _, _, _, _, _, q⟩ := z
    exact q
end M
/-! MEval: what a run of the mini language comes to, by rules. -/
namespace M
open PySem
/-- ends well with Q, or raises with E -/
def okW {α : Type} (r : Res α) (Q : α → Hh → Prop) (E : Nat → Hh → Prop) : Prop := match r with
  | .ok a h => Q a h
  | .exc c h => E c h
  | .bad => False
def okS (r : SR) (N : En → Hh → Prop) (R : W → Hh → Prop) (X : Nat → En → Hh → Prop) : Prop := match r with
  | .nxt e h => N e h
  | .ret w h => R w h
  | .exc c e h => X c e h
  | .bad => False
abbrev noE : Nat → Hh → Prop := fun _ _ => False
section
variable {α β : Type} {Q : α → Hh → Prop} {E : Nat → Hh → Prop} {N : En → Hh → Prop} {R : W → Hh → Prop} {X : Nat → En → Hh → Prop}
theorem okW.imp {r : Res α} {Q' : α → Hh → Prop} {E' : Nat → Hh → Prop} (h : okW r Q E) (q : ∀ a h, Q a h → Q' a h) (e : ∀ c h, E c h → E' c h) : okW r Q' E' := by
  cases r <;> first | exact q _ _ h | exact e _ _ h | exact h
theorem okS.imp {r : SR} {N' : En → Hh → Prop} {R' : W → Hh → Prop} {X' : Nat → En → Hh → Prop} (h : okS r N R X) (n : ∀ e h, N e h → N' e h) (q : ∀ a h, R a h → R' a h) (x : ∀ c e h, X c e h → X' c e h) : okS r N' R' X' := by
  cases r <;> first | exact n _ _ h | exact q _ _ h | exact x _ _ _ h | exact h
theorem okW.get {r : Res α} (h : okW r Q noE) : ∃ a h', r = .ok a h' ∧ Q a h' := by
  cases r with
  | ok a h' => exact ⟨a, h', rfl, h⟩
  | exc _ _ => exact h.elim
  | bad => exact h.elim
theorem okW.of {r : Res α} {a : α} {h : Hh} (e : r = .ok a h) (q : Q a h) : okW r Q E := by rw [e]; exact q
@[simp] theorem okW_ok (a : α) (h : Hh) : okW (.ok a h) Q E = Q a h := (rfl)
@[simp] theorem okW_exc (c : Nat) (h : Hh) : okW (.exc c h : Res α) Q E = E c h := (rfl)
@[simp] theorem okW_bad : okW (.bad : Res α) Q E = False := (rfl)
@[simp] theorem okW_bind {m : Res β} {f : β → Hh → Res α} : okW (m.bind f) Q E = okW m (fun a h => okW (f a h) Q E) E := by cases m <;> rfl
@[simp] theorem okS_nxt (e : En) (h : Hh) : okS (.nxt e h) N R X = N e h := (rfl)
@[simp] theorem okS_ret (w : W) (h : Hh) : okS (.ret w h) N R X = R w h := (rfl)
@[simp] theorem okS_exc (c : Nat) (e : En) (h : Hh) : okS (.exc c e h) N R X = X c e h := (rfl)
@[simp] theorem okS_bad : okS .bad N R X = False := (rfl)
@[simp] theorem okS_bind {m : SR} {f : En → Hh → SR} : okS (m.bind f) N R X = okS m (fun e h => okS (f e h) N R X) R X := by cases m <;> rfl
@[simp] theorem okS_then {m : Res β} {e : En} {f : β → Hh → SR} : okS (m.then e f) N R X = okW m (fun a h => okS (f a h) N R X) (fun c h => X c e h) := by cases m <;> rfl
@[simp] theorem okS_catch {m : SR} {f : Nat → En → Hh → SR} : okS (m.catch f) N R X = okS m N R (fun c e h => okS (f c e h) N R X) := by cases m <;> rfl
@[simp] theorem okS_suite {m : SR} {i : Nat} : okS (m.suite i) N R X = okS m (fun e h => N (e.set i none) h) R (fun _ _ _ => False) := by cases m <;> rfl
@[simp] theorem okS_suite0 {m : SR} : okS m.suite0 N R X = okS m N R (fun _ _ _ => False) := by cases m <;> rfl
theorem okW_ite {c : Prop} [Decidable c] {a b : Res α} : okW (if c then a else b) Q E = ((c → okW a Q E) ∧ (¬ c → okW b Q E)) := by
  by_cases h : c <;> simp [h]
theorem okS_ite {c : Prop} [Decidable c] {a b : SR} : okS (if c then a else b) N R X = ((c → okS a N R X) ∧ (¬ c → okS b N R X)) := by
  by_cases h : c <;> simp [h]
@[simp] theorem okW_dite_bad {c : Prop} [Decidable c] {a : Res α} : okW (if c then a else .bad) Q E = (c ∧ okW a Q E) := by
  by_cases h : c <;> simp [h]
end
/-- the turns of a for, of a comprehension -/
def forI (I : Itm) (step : W → En → Hh → SR) (e : En) (h : Hh) : SR := forG I step I.num 0 e h
def compI (I : Itm) (step : W → Hh → Res (Option W)) (h : Hh) : Res (List W) := compG I step I.num 0 h []
@[simp] theorem forI_ws (l : List W) (step : W → En → Hh → SR) (e : En) (h : Hh) : forI (.ws l) step e h = forL step l e h := forG_ws l step e h
@[simp] theorem compI_ws (l : List W) (step : W → Hh → Res (Option W)) (h : Hh) : compI (.ws l) step h = compL step l h [] := compG_ws l step h []
/-! ### the language's rules -/
/-- a slot of the names -/
def look : En → Nat → Option (Option W)
  | [], _ => none
  | a :: _, 0 => some a
  | _ :: l, n + 1 => look l n
theorem look_eq : ∀ (e : En) (i : Nat), e[i]? = look e i
  | [], i => by simp [look]
  | a :: l, 0 => rfl
  | a :: l, n + 1 => by rw [List.getElem?_cons_succ]; exact look_eq l n
/-- a comprehension's own names, emptied -/
def wipeS : En → List (Str × Nat) → En
  | e, [] => e
  | e, (_, v) :: r => (wipeS e r).set v none
theorem wipeS_eq (e : En) : ∀ own : List (Str × Nat), wipeS e own = wipe e (own.map (·.2))
  | [] => rfl
  | (_, v) :: r => by
    show (wipeS e r).set v none = (wipe e (r.map (·.2))).set v none
    rw [wipeS_eq e r]
@[simp] theorem wipeS_nil (e : En) : wipeS e [] = e := (rfl)
@[simp] theorem wipeS_cons (e : En) (s : Str) (v : Nat) (r : List (Str × Nat)) : wipeS e ((s, v) :: r) = (wipeS e r).set v none := (rfl)
@[simp] theorem look_0 (a : Option W) (l : En) : look (a :: l) 0 = some a := (rfl)
@[simp] theorem look_s (a : Option W) (l : En) (n : Nat) : look (a :: l) (n + 1) = look l n := (rfl)
section
variable {C : Cc} {e : En} {h : Hh}
@[simp] theorem ev_var (i : Nat) : ev C (.var i) e h = (match look e i with
    | some (some w) => .ok w h
    | _ => .bad) := by rw [← look_eq]; rfl
@[simp] theorem ev_glb (k : Nat) : ev C (.glb k) e h = (match C.glb k with
    | some d => .ok (.dat d) h
    | none => .bad) := (rfl)
@[simp] theorem ev_cst (d : D) : ev C (.cst d) e h = .ok (.dat d) h := (rfl)
@[simp] theorem ev_tup (es : CEs) : ev C (.tup es) e h = (evs C es e h).bind fun l h => if l.length ≤ 1000 then mkTup l h else .bad := (rfl)
@[simp] theorem ev_lst (m : Bool) (es : CEs) : ev C (.lst m es) e h = (evs C es e h).bind fun l h => if l.length ≤ 1000 then mkLst m l h else .bad := (rfl)
@[simp] theorem ev_bin (o : BOp) (m : Bool) (a b : CE) : ev C (.bin o m a b) e h = (ev C a e h).bind fun x h => (ev C b e h).bind fun y h => binop o m x y h := (rfl)
@[simp] theorem ev_neg (a : CE) : ev C (.neg a) e h = (ev C a e h).bind fun x h => (match x with
    | .dat (.int i) => .ok (.dat (.int (-i))) h
    | _ => .bad) := (rfl)
@[simp] theorem ev_not (a : CE) : ev C (.not a) e h = (ev C a e h).bind fun x h => (match truth x with
    | some b => .ok (.dat (.bool (!b))) h
    | none => .bad) := (rfl)
@[simp] theorem ev_bop (con : Bool) (es : CEs) : ev C (.bop con es) e h = ofB (evb C con es e h) := (rfl)
@[simp] theorem ev_cmp (o : COp) (a b : CE) : ev C (.cmp o a b) e h = (ev C a e h).bind fun x h => (ev C b e h).bind fun y h => rb h (cmpW o x y h) := (rfl)
@[simp] theorem ev_chn (o p : COp) (a b c : CE) : ev C (.chn o p a b c) e h = (ev C a e h).bind fun x h => (ev C b e h).bind fun y h => (match cmpW o x y h with
    | some true => (ev C c e h).bind fun z h => rb h (cmpW p y z h)
    | some false => .ok (.dat (.bool false)) h
    | none => .bad) := (rfl)
@[simp] theorem ev_ite (c a b : CE) : ev C (.ite c a b) e h = (toB (ev C c e h)).bind fun k h => if k = true then ev C a e h else ev C b e h := (rfl)
@[simp] theorem ev_idx (a i : CE) : ev C (.idx a i) e h = (ev C a e h).bind fun x h => (ev C i e h).bind fun y h => index x y h := (rfl)
@[simp] theorem ev_slc (a : CE) (lo hi : CO) : ev C (.slc a lo hi) e h = (ev C a e h).bind fun x h => (evo C lo e h).bind fun l h => (evo C hi e h).bind fun u h => slice x l u h := (rfl)
@[simp] theorem ev_call (f : Nat) (es : CEs) : ev C (.call f es) e h = (evs C es e h).bind fun ws h => C.call f ws h := (rfl)
@[simp] theorem ev_isi (a : CE) (t : Ty) : ev C (.isi a t) e h = (ev C a e h).bind fun x h => rb h (tyIs t x) := (rfl)
@[simp] theorem ev_rev (a : CE) : ev C (.rev a) e h = (ev C a e h).bind fun x h => revW x h := (rfl)
@[simp] theorem revW_tup (l : List D) : revW (.dat (.tuple l)) h = .ok (.dat (.tuple l.reverse)) h := (rfl)
@[simp] theorem revW_lst (l : List D) : revW (.dat (.list l)) h = .ok (.dat (.list l.reverse)) h := (rfl)
@[simp] theorem ev_bmt (f : Mb) (m : Bool) (a : CE) (es : CEs) : ev C (.bmt f m a es) e h = (ev C a e h).bind fun x h => if bmIs f x h = true then (evs C es e h).bind fun ws h => bmeth f x ws h else .bad := (rfl)
@[simp] theorem ev_dct0 (m : Bool) : ev C (.dct m .nil .nil) e h = .ok (.dat (.dict [])) h := (rfl)
@[simp] theorem ev_blt (f : Fb) (m : Bool) (es : CEs) : ev C (.blt f m es) e h = (evs C es e h).bind fun ws h => builtin f m ws h := (rfl)
@[simp] theorem ev_comp (m : Bool) (own : List (Str × Nat)) (tg : CT) (it : CI) (ifs : CEs) (elt : CE) : ev C (.comp m own tg it ifs elt) e h = (evi C it e h).bind fun l h =>
      (compI l (fun w h => match bindT tg w (wipeS e own) with
        | some e2 => noexc ((evb C true ifs e2 h).bind fun k h => if k = true then (ev C elt e2 h).bind fun v h => .ok (some v) h else .ok none h)
        | none => .bad) h).bind fun r h => mkLst m r h := by rw [wipeS_eq]; rfl
@[simp] theorem evb_nil (con : Bool) : evb C con .nil e h = .ok con h := (rfl)
@[simp] theorem evb_cons (con : Bool) (a : CE) (es : CEs) : evb C con (.cons a es) e h = (toB (ev C a e h)).bind fun b h => if b = con then evb C con es e h else .ok (!con) h := (rfl)
@[simp] theorem evs_nil : evs C .nil e h = .ok [] h := (rfl)
@[simp] theorem evs_cons (a : CE) (es : CEs) : evs C (.cons a es) e h = (ev C a e h).bind fun x h => (evs C es e h).bind fun xs h => .ok (x :: xs) h := (rfl)
@[simp] theorem evo_non : evo C .non e h = .ok none h := (rfl)
@[simp] theorem evo_som (a : CE) : evo C (.som a) e h = (ev C a e h).bind fun x h => (match x with
    | .dat (.int i) => .ok (some i) h
    | _ => .bad) := (rfl)
@[simp] theorem evi_ex (a : CE) : evi C (.ex a) e h = (ev C a e h).bind fun x h => optR h (itemsOf x h) := (rfl)
@[simp] theorem evi_rng1 (b : CE) : evi C (.rng1 b) e h = (ev C b e h).bind fun x h => (match x with
    | .dat (.int j) => if okR j then .ok (.ws (rngL 0 j)) h else .bad
    | _ => .bad) := (rfl)
@[simp] theorem evi_rng2 (a b : CE) : evi C (.rng2 a b) e h = (ev C a e h).bind fun x h => (ev C b e h).bind fun y h => (match x, y with
    | .dat (.int i), .dat (.int j) => if okR i && okR j then .ok (.ws (rngL i j)) h else .bad
    | _, _ => .bad) := (rfl)
@[simp] theorem exs_nil : exs C .nil e h = .nxt e h := (rfl)
@[simp] theorem exs_cons (s : CS) (ss : CSs) : exs C (.cons s ss) e h = (ex C s e h).bind fun e h => exs C ss e h := (rfl)
@[simp] theorem ex_pass : ex C .pass e h = .nxt e h := (rfl)
@[simp] theorem ex_expr (a : CE) : ex C (.expr a) e h = (ev C a e h).then e fun _ h => .nxt e h := (rfl)
@[simp] theorem ex_ret (a : CE) : ex C (.ret a) e h = (ev C a e h).then e fun w h => .ret w h := (rfl)
@[simp] theorem ex_retN : ex C .retN e h = .ret (.dat .none) h := (rfl)
@[simp] theorem ex_asg (g : CG) (a : CE) : ex C (.asg g a) e h = (ev C a e h).then e fun w h => stor C g w e h := (rfl)
@[simp] theorem ex_par (i j : Nat) (a b : CE) : ex C (.par i j a b) e h = (ev C a e h).then e fun v h => (ev C b e h).then e fun w h => .nxt ((e.set i (some v)).set j (some w)) h := (rfl)
@[simp] theorem ex_setc (i : Nat) (a : CE) : ex C (.setc i a) e h = (ev C a e h).then e fun w h => .nxt (e.set i (some w)) h := (rfl)
@[simp] theorem ex_ifs (c : CE) (a b : CSs) : ex C (.ifs c a b) e h = (toB (ev C c e h)).then e fun k h => if k = true then exs C a e h else exs C b e h := (rfl)
@[simp] theorem ex_whil (c : CE) (b : CSs) : ex C (.whil c b) e h = C.wh (fun e h => toB (ev C c e h)) (fun e h => exs C b e h) e h := (rfl)
@[simp] theorem ex_for (tg : CT) (it : CI) (b : CSs) : ex C (.for_ tg it b) e h = (evi C it e h).then e fun l h => forI l (fun w e h => match bindT tg w e with
      | some e => exs C b e h
      | none => .bad) e h := (rfl)
@[simp] theorem ex_rais (c : Nat) : ex C (.rais c) e h = .exc c e h := (rfl)
@[simp] theorem ex_tryas (c i : Nat) (b s : CSs) : ex C (.tryas c i b s) e h = (exs C b e h).catch fun k e h => if subX k c = true then (exs C s (e.set i (some (.exc k))) h).suite i else .exc k e h := (rfl)
@[simp] theorem ex_try (c : Nat) (b s : CSs) : ex C (.try_ c b s) e h = (exs C b e h).catch fun k e h => if subX k c = true then (exs C s e h).suite0 else .exc k e h := (rfl)
@[simp] theorem stor_nam (i : Nat) (w : W) : stor C (.nam i) w e h = .nxt (e.set i (some w)) h := (rfl)
@[simp] theorem stor_sub (o i : CE) (w : W) : stor C (.sub o i) w e h = (ev C o e h).then e fun x h => (ev C i e h).then e fun y h => (match setAt x y w h with
    | some h => .nxt e h
    | none => .bad) := (rfl)
@[simp] theorem stor_tup (l : List Nat) (w : W) : stor C (.tup l) w e h = (match seqOf h w with
    | some ws => (match setAll e l ws with
      | some e => .nxt e h
      | none => .bad)
    | none => .bad) := (rfl)
@[simp] theorem stor_subnam (o i : CE) (j : Nat) (a b : D) : stor C (.subnam o i j) (.dat (.tuple [a, b])) e h = (ev C o e h).then e fun x h => (ev C i e h).then e fun y h => (match setAt x y (.dat a) h with
      | some h => .nxt (e.set j (some (.dat b))) h
      | none => .bad) := (rfl)
/-! values -/
section
variable {Q : Bool → Hh → Prop} {Q' : W → Hh → Prop} {E : Nat → Hh → Prop}
@[simp] theorem okW_toB {r : Res W} : okW (toB r) Q E = okW r (fun w h => ∃ b, w = .dat (.bool b) ∧ Q b h) E := by
  cases r with
  | ok w h =>
    show okW (optR h (truth w)) Q E = _
    cases w with
    | dat d =>
      cases d with
      | bool b => cases b <;> simp [truth, optR]
      | _ => simp [truth, optR]
    | _ => simp [truth, optR]
  | _ => rfl
@[simp] theorem okW_ofB {r : Res Bool} : okW (ofB r) Q' E = okW r (fun b h => Q' (.dat (.bool b)) h) E := by cases r <;> rfl
@[simp] theorem okW_noexc {α : Type} {r : Res α} {Q : α → Hh → Prop} : okW (noexc r) Q E = okW r Q noE := by cases r <;> rfl
@[simp] theorem rb_some (b : Bool) : rb h (some b) = .ok (.dat (.bool b)) h := (rfl)
@[simp] theorem rb_none : rb h none = .bad := (rfl)
@[simp] theorem optR_some {α : Type} (a : α) : optR h (some a) = .ok a h := (rfl)
@[simp] theorem optR_none {α : Type} : optR h (none : Option α) = .bad := (rfl)
@[simp] theorem truth_bool (b : Bool) : truth (.dat (.bool b)) = some b := (rfl)
@[simp] theorem dsOf_nil : dsOf [] = some [] := (rfl)
@[simp] theorem dsOf_cons (d : D) (ws : List W) : dsOf (.dat d :: ws) = (dsOf ws).map (d :: ·) := by
  simp only [dsOf]
  cases dsOf ws <;> rfl
@[simp] theorem dsOf_map (l : List D) : dsOf (l.map .dat) = some l := by
  induction l with
  | nil => rfl
  | cons d l ih => rw [List.map_cons, dsOf_cons, ih]; rfl
theorem mkLst_dat {l : List W} {ds : List D} (q : dsOf l = some ds) : mkLst false l h = .ok (.dat (.list ds)) h := by
  unfold mkLst
  rw [q]
theorem mkTup_dat {l : List W} {ds : List D} (q : dsOf l = some ds) : mkTup l h = .ok (.dat (.tuple ds)) h := by
  unfold mkTup
  rw [q]
theorem mkLst_map (l : List D) : mkLst false (l.map .dat) h = .ok (.dat (.list l)) h := mkLst_dat (dsOf_map l)
/-- a list of the small heap that bears data -/
abbrev lst (l : List D) : Ob := .lst (l.map .dat)
theorem dsOf_inv : ∀ {l : List W} {ds : List D}, dsOf l = some ds → l = ds.map .dat
  | [], ds, e => by cases e; rfl
  | w :: ws, ds, e => by
    cases w with
    | dat d =>
      rw [dsOf_cons] at e
      obtain ⟨ds', e', rfl⟩ := Option.map_eq_some_iff.mp e
      rw [dsOf_inv e']
      rfl
    | _ => simp [dsOf] at e
@[simp] theorem mkLst_f (l : List W) : mkLst false l h = (match dsOf l with
    | some ds => .ok (.dat (.list ds)) h
    | none => .ok (.ref h.length) (h ++ [.lst l])) := by
  unfold mkLst
  cases dsOf l <;> rfl
@[simp] theorem mkLst_t (l : List W) : mkLst true l h = .ok (.ref h.length) (h ++ [match dsOf l with
    | some ds => lst ds
    | none => .lst l]) := by
  show Res.ok (W.ref h.length) (h ++ [.lst l]) = _
  cases e : dsOf l with
  | none => rfl
  | some ds => rw [dsOf_inv e]
@[simp] theorem mkTup_d (l : List W) : mkTup l h = (match dsOf l with
    | some ds => .ok (.dat (.tuple ds)) h
    | none => .ok (.ref h.length) (h ++ [.tpl l])) := by
  unfold mkTup
  cases dsOf l <;> rfl
@[simp] theorem bin_add (m : Bool) (i j : Int) : binop .add m (.dat (.int i)) (.dat (.int j)) h = .ok (.dat (.int (i + j))) h := (rfl)
@[simp] theorem bin_sub (m : Bool) (i j : Int) : binop .sub m (.dat (.int i)) (.dat (.int j)) h = .ok (.dat (.int (i - j))) h := (rfl)
@[simp] theorem bin_mul (m : Bool) (i j : Int) : binop .mul m (.dat (.int i)) (.dat (.int j)) h = if bigMul i j = true then .ok (.dat (.int (i * j))) h else .bad := (rfl)
@[simp] theorem bin_fdiv (m : Bool) (i j : Int) : binop .fdiv m (.dat (.int i)) (.dat (.int j)) h = if okDiv j = true then .ok (.dat (.int (i / j))) h else .bad := (rfl)
@[simp] theorem bin_mod (m : Bool) (i j : Int) : binop .mod m (.dat (.int i)) (.dat (.int j)) h = if 0 < j then .ok (.dat (.int (i % j))) h else .bad := by
  show (if decide (0 < j) = true then _ else _) = _
  simp
@[simp] theorem bin_pow (m : Bool) (i j : Int) : binop .pow m (.dat (.int i)) (.dat (.int j)) h = if okPow i j = true then .ok (.dat (.int (i ^ j.toNat))) h else .bad := (rfl)
@[simp] theorem bin_addL (x y : List D) : binop .add false (.dat (.list x)) (.dat (.list y)) h = if x.length + y.length ≤ sizeL then .ok (.dat (.list (x ++ y))) h else .bad := by
  show (if (x.map W.dat).length + (y.map W.dat).length ≤ sizeL then mkLst false (x.map W.dat ++ y.map W.dat) h else .bad) = _
  rw [List.length_map, List.length_map, ← List.map_append, mkLst_map]
@[simp] theorem bin_addT (m : Bool) (x y : List D) : binop .add m (.dat (.tuple x)) (.dat (.tuple y)) h = if x.length + y.length ≤ sizeL then .ok (.dat (.tuple (x ++ y))) h else .bad := (rfl)
@[simp] theorem bin_addS (m : Bool) (x y : Str) : binop .add m (.dat (.str x)) (.dat (.str y)) h = if x.length + y.length ≤ sizeL then .ok (.dat (.str (x ++ y))) h else .bad := (rfl)
@[simp] theorem cmp_lt (i j : Int) : cmpW .lt (.dat (.int i)) (.dat (.int j)) h = some (decide (i < j)) := (rfl)
@[simp] theorem cmp_le (i j : Int) : cmpW .le (.dat (.int i)) (.dat (.int j)) h = some (decide (i ≤ j)) := (rfl)
@[simp] theorem cmp_gt (i j : Int) : cmpW .gt (.dat (.int i)) (.dat (.int j)) h = some (decide (j < i)) := (rfl)
@[simp] theorem cmp_ge (i j : Int) : cmpW .ge (.dat (.int i)) (.dat (.int j)) h = some (decide (j ≤ i)) := (rfl)
@[simp] theorem cmp_eq (i j : Int) : cmpW .eq (.dat (.int i)) (.dat (.int j)) h = some (decide (i = j)) := (rfl)
@[simp] theorem cmp_ne (i j : Int) : cmpW .ne (.dat (.int i)) (.dat (.int j)) h = some (!decide (i = j)) := (rfl)
@[simp] theorem cmp_eqS (i j : Str) : cmpW .eq (.dat (.str i)) (.dat (.str j)) h = some (decide (i = j)) := (rfl)
@[simp] theorem cmp_neS (i j : Str) : cmpW .ne (.dat (.str i)) (.dat (.str j)) h = some (!decide (i = j)) := (rfl)
@[simp] theorem cmp_eqB (i j : Bool) : cmpW .eq (.dat (.bool i)) (.dat (.bool j)) h = some (decide (i = j)) := (rfl)
@[simp] theorem cmp_isT (b k : Bool) : cmpW .is (.dat (.bool b)) (.dat (.bool k)) h = some (decide (b = k)) := (rfl)
@[simp] theorem cmp_isntT (b k : Bool) : cmpW .isnt (.dat (.bool b)) (.dat (.bool k)) h = some (!decide (b = k)) := (rfl)
@[simp] theorem cmp_isnX (c : Nat) : cmpW .is (.exc c) (.dat .none) h = some false := (rfl)
@[simp] theorem cmp_isntnX (c : Nat) : cmpW .isnt (.exc c) (.dat .none) h = some true := (rfl)
@[simp] theorem cmp_isnN : cmpW .is (.dat .none) (.dat .none) h = some true := (rfl)
@[simp] theorem cmp_isntnN : cmpW .isnt (.dat .none) (.dat .none) h = some false := (rfl)
@[simp] theorem cmp_in (a b : W) : cmpW .isin a b h = inW h a b := (rfl)
@[simp] theorem cmp_notin (a b : W) : cmpW .notin a b h = (inW h a b).map not := (rfl)
@[simp] theorem inW_str (x y : Str) : inW h (.dat (.str x)) (.dat (.str y)) = some (inStr x y) := (rfl)
@[simp] theorem inW_tup (d : D) (l : List D) : inW h (.dat d) (.dat (.tuple l)) = inSeq d l := by cases d <;> rfl
@[simp] theorem inW_lst (d : D) (l : List D) : inW h (.dat d) (.dat (.list l)) = inSeq d l := by cases d <;> rfl
@[simp] theorem tyIs_exc (c d : Nat) : tyIs (.exc d) (.exc c) = some (subX c d) := (rfl)
@[simp] theorem tyIs_verr (c : Nat) : tyIs .verr (.exc c) = some true := (rfl)
@[simp] theorem bi_abs (m : Bool) (i : Int) : builtin .abs m [.dat (.int i)] h = .ok (.dat (.int i.natAbs)) h := by
  show Res.ok (W.dat (.int (if i < 0 then -i else i))) h = _
  congr 3
  omega
@[simp] theorem bi_intB (m : Bool) (b : Bool) : builtin .int m [.dat (.bool b)] h = .ok (.dat (.int (if b then 1 else 0))) h := (rfl)
@[simp] theorem bi_intI (m : Bool) (i : Int) : builtin .int m [.dat (.int i)] h = .ok (.dat (.int i)) h := (rfl)
@[simp] theorem bi_min (m : Bool) (i j : Int) : builtin .min2 m [.dat (.int i), .dat (.int j)] h = .ok (.dat (.int (if j < i then j else i))) h := (rfl)
@[simp] theorem bi_max (m : Bool) (i j : Int) : builtin .max2 m [.dat (.int i), .dat (.int j)] h = .ok (.dat (.int (if j > i then j else i))) h := (rfl)
@[simp] theorem bi_divmod (m : Bool) (i j : Int) : builtin .divmod m [.dat (.int i), .dat (.int j)] h = if okDiv j = true then .ok (.dat (.tuple [.int (i / j), .int (i % j)])) h else .bad := (rfl)
@[simp] theorem bi_str (m : Bool) (i : Int) : builtin .str m [.dat (.int i)] h = if i.natAbs.log2 < 1920 then .ok (.dat (.str (toString i))) h else .bad := by
  show (if decide (i.natAbs.log2 < 1920) = true then _ else _) = _
  simp
@[simp] theorem bi_listL (l : List D) : builtin .list false [.dat (.list l)] h = .ok (.dat (.list l)) h := by
  show mkLst false (l.map W.dat) h = _
  rw [mkLst_map]
@[simp] theorem bi_listT (l : List D) : builtin .list false [.dat (.tuple l)] h = .ok (.dat (.list l)) h := by
  show mkLst false (l.map W.dat) h = _
  rw [mkLst_map]
@[simp] theorem bi_tupT (m : Bool) (l : List D) : builtin .tuple m [.dat (.tuple l)] h = .ok (.dat (.tuple l)) h := (rfl)
theorem mkTup_map (l : List D) : mkTup (l.map .dat) h = .ok (.dat (.tuple l)) h := mkTup_dat (dsOf_map l)
@[simp] theorem bi_tupL (m : Bool) (l : List D) : builtin .tuple m [.dat (.list l)] h = .ok (.dat (.tuple l)) h := by
  show mkTup (l.map W.dat) h = _
  rw [mkTup_map]
@[simp] theorem bi_lenS (m : Bool) (x : Str) : builtin .len m [.dat (.str x)] h = if x.length ≤ sizeL then .ok (.dat (.int x.length)) h else .bad := by
  show ri h (((if x.length ≤ sizeL then some x.length else none)).map Int.ofNat) = _
  by_cases q : x.length ≤ sizeL
  · rw [if_pos q, if_pos q]; rfl
  · rw [if_neg q, if_neg q]; rfl
@[simp] theorem bm_upper (x : Str) : bmeth .upper (.dat (.str x)) [] h = if x.length ≤ 5592405 then .ok (.dat (.str (Txt.upper x))) h else .bad := by
  show (if decide (x.length ≤ 5592405) = true then _ else _) = _
  simp
@[simp] theorem bm_isS1 (x : Str) : bmIs .upper (.dat (.str x)) h = true := (rfl)
@[simp] theorem bm_isS2 (x : Str) : bmIs .join (.dat (.str x)) h = true := (rfl)
@[simp] theorem bm_joinL (x : Str) (l : List D) : bmeth .join (.dat (.str x)) [.dat (.list l)] h = joinW x (l.map .dat) h := (rfl)
@[simp] theorem bm_joinT (x : Str) (l : List D) : bmeth .join (.dat (.str x)) [.dat (.tuple l)] h = joinW x (l.map .dat) h := (rfl)
@[simp] theorem bi_lenL (m : Bool) (l : List D) : builtin .len m [.dat (.list l)] h = .ok (.dat (.int l.length)) h := by
  show Res.ok (W.dat (.int (Int.ofNat (l.map W.dat).length))) h = _
  rw [List.length_map]; rfl
@[simp] theorem bi_lenT (m : Bool) (l : List D) : builtin .len m [.dat (.tuple l)] h = .ok (.dat (.int l.length)) h := by
  show Res.ok (W.dat (.int (Int.ofNat (l.map W.dat).length))) h = _
  rw [List.length_map]; rfl
@[simp] theorem bi_lenX (m : Bool) (l : List Int) : builtin .len m [.scr l] h = .ok (.dat (.int l.length)) h := by
  show Res.ok (W.dat (.int (Int.ofNat (l.map fun i => W.dat (.int i)).length))) h = _
  rw [List.length_map]; rfl
end
end
/-! ### defs -/
section
variable {G : Nat → Option D} {T : List Df}
theorem run_at {n f : Nat} {d : Df} {ws : List W} {h : Hh} (e : T[f]? = some d) (l : ws.length = d.pars) : run G T (n + 1) f ws h = finish d.keep h.length (exs ⟨G, run G T n, whM⟩ d.body (start d ws) h) := by
  show (match T[f]? with
    | some d => if ws.length = d.pars then finish d.keep h.length (exs ⟨G, runBy whM G T n, whM⟩ d.body (start d ws) h) else .bad
    | none => .bad) = _
  rw [e]
  show (if _ then _ else _) = _
  rw [if_pos l]
  rfl
/-- the heap's first n objects name none beyond -/
def Cl (n : Nat) (h : Hh) : Prop := closedB (h.take n) = true
theorem okW_keep {n : Nat} {r : SR} {Q : W → Hh → Prop} {E : Nat → Hh → Prop} (o : okS r (fun _ h => Q (.dat .none) h) Q (fun c _ h => E c h)) : okW (finish true n r) Q E := by
  cases r <;> exact o
/-- no object of the heap names another -/
def Flat (h : Hh) : Prop := h.all (obB 0) = true
theorem refB_mono {m n : Nat} (l : m ≤ n) {w : W} (q : refB m w = true) : refB n w = true := by
  cases w with
  | ref k => exact decide_eq_true (Nat.lt_of_lt_of_le (of_decide_eq_true q) l)
  | _ => rfl
theorem obB_mono {m n : Nat} (l : m ≤ n) {o : Ob} (q : obB m o = true) : obB n o = true := by
  cases o with
  | lst x => exact List.all_eq_true.mpr fun y hy => refB_mono l (List.all_eq_true.mp q y hy)
  | dct x => exact List.all_eq_true.mpr fun y hy => refB_mono l (List.all_eq_true.mp q y hy)
  | lck x => exact List.all_eq_true.mpr fun y hy => refB_mono l (List.all_eq_true.mp q y hy)
  | ins c x => exact List.all_eq_true.mpr fun y hy => refB_mono l (List.all_eq_true.mp q y hy)
  | tpl x => exact List.all_eq_true.mpr fun y hy => refB_mono l (List.all_eq_true.mp q y hy)
  | gone => rfl
theorem Flat.cl {h : Hh} (f : Flat h) (n : Nat) : Cl n h := by
  unfold Cl closedB
  refine List.all_eq_true.mpr fun o ho => obB_mono (Nat.zero_le _) (List.all_eq_true.mp f o (List.mem_of_mem_take ho))
theorem Flat.take {h : Hh} (f : Flat h) (n : Nat) : Flat (h.take n) := List.all_eq_true.mpr fun o ho => List.all_eq_true.mp f o (List.mem_of_mem_take ho)
theorem Flat.set {h : Hh} (f : Flat h) (n : Nat) {o : Ob} (q : obB 0 o = true) : Flat (h.set n o) := List.all_eq_true.mpr fun x hx => by
  rcases List.mem_or_eq_of_mem_set hx with z | z
  · exact List.all_eq_true.mp f x z
  · rw [z]; exact q
theorem Flat.push {h : Hh} (f : Flat h) {o : Ob} (q : obB 0 o = true) : Flat (h ++ [o]) := List.all_eq_true.mpr fun x hx => by
  rcases List.mem_append.mp hx with z | z
  · exact List.all_eq_true.mp f x z
  · rw [List.mem_singleton.mp z]; exact q
theorem flat_dat (l : List D) : obB 0 (.lst (l.map .dat)) = true := List.all_eq_true.mpr fun x hx => by
  obtain ⟨d, _, rfl⟩ := List.mem_map.mp hx
  rfl
/-- a list that was made here is handed out as data -/
theorem okW_frz {n : Nat} {r : SR} {Q : W → Hh → Prop} {E : Nat → Hh → Prop} (o : okS r (fun _ _ => False) (fun w h => ∃ k l, w = .ref k ∧ n ≤ k ∧ h[k]? = some (.lst (l.map .dat)) ∧ Cl n h ∧ Q (.dat (.list l)) (h.take n)) (fun c _ h => Cl n h ∧ E c (h.take n))) : okW (finish false n r) Q E := by
  cases r with
  | nxt e h => exact o.elim
  | ret w h =>
    obtain ⟨k, l, rfl, hk, e, a, b⟩ := o
    show okW (match h[k]? with
      | some (.lst l) => (match dsOf l with
        | some ds => if (decide (n ≤ k) && closedB (h.take n)) = true then .ok (.dat (.list ds)) (h.take n) else .bad
        | none => .bad)
      | _ => .bad) Q E
    rw [e]
    simp only [dsOf_map]
    rw [if_pos (by rw [decide_eq_true hk, show closedB (h.take n) = true from a]; rfl)]
    exact b
  | exc c e h =>
    obtain ⟨a, b⟩ := o
    show okW (if closedB (h.take n) = true then .exc c (h.take n) else .bad : Res W) Q E
    rw [if_pos (show closedB (h.take n) = true from a)]
    exact b
  | bad => exact o
theorem okW_fin {n : Nat} {r : SR} {Q : W → Hh → Prop} {E : Nat → Hh → Prop} (o : okS r (fun _ h => Cl n h ∧ Q (.dat .none) (h.take n)) (fun w h => ∃ d, w = .dat d ∧ Cl n h ∧ Q (.dat d) (h.take n)) (fun c _ h => Cl n h ∧ E c (h.take n))) : okW (finish false n r) Q E := by
  cases r with
  | nxt e h =>
    obtain ⟨a, b⟩ := o
    show okW (if closedB (h.take n) = true then .ok (.dat .none) (h.take n) else .bad) Q E
    rw [if_pos (show closedB (h.take n) = true from a)]
    exact b
  | ret w h =>
    obtain ⟨d, rfl, a, b⟩ := o
    show okW (if closedB (h.take n) = true then .ok (.dat d) (h.take n) else .bad) Q E
    rw [if_pos (show closedB (h.take n) = true from a)]
    exact b
  | exc c e h =>
    obtain ⟨a, b⟩ := o
    show okW (if closedB (h.take n) = true then .exc c (h.take n) else .bad : Res W) Q E
    rw [if_pos (show closedB (h.take n) = true from a)]
    exact b
  | bad => exact o
end
/-! ### loops -/
section
variable {N : En → Hh → Prop} {R : W → Hh → Prop} {X : Nat → En → Hh → Prop}
/-- a while, by a measure and a law of its turns -/
theorem okS_while {c : En → Hh → Res Bool} {b : En → Hh → SR} (I : Nat → En → Hh → Prop)
    (turn : ∀ n e h, I n e h → okW (c e h) (fun k h => (k = true → okS (b e h) (fun e h => ∃ m, m < n ∧ I m e h) R X) ∧ (k = false → N e h)) (fun c h => X c e h)) :
    ∀ (n : Nat) (e : En) (h : Hh), I n e h → okS (whM c b e h) N R X := by
  intro n
  induction n using Nat.strongRecOn with
  | ind n ih =>
    intro e h i
    rw [whM_eq, okS_then]
    refine (turn n e h i).imp (fun k h q => ?_) fun _ _ x => x
    cases k with
    | false =>
      rw [if_neg Bool.false_ne_true]
      exact q.2 rfl
    | true =>
      rw [if_pos rfl, okS_bind]
      exact (q.1 rfl).imp (fun e h ⟨m, l, i⟩ => ih m l e h i) (fun _ _ x => x) fun _ _ _ x => x
/-- a for, by a law of its turns -/
theorem okS_for {step : W → En → Hh → SR} (I : En → Hh → Prop) : ∀ (ws : List W) (e : En) (h : Hh), I e h → (∀ w ∈ ws, ∀ e h, I e h → okS (step w e h) I R X) → (∀ e h, I e h → N e h) → okS (forL step ws e h) N R X
  | [], e, h, i, _, n => n e h i
  | w :: ws, e, h, i, t, n => by
    show okS ((step w e h).bind fun e h => forL step ws e h) N R X
    rw [okS_bind]
    exact (t w List.mem_cons_self e h i).imp (fun e h i => okS_for I ws e h i (fun w z => t w (List.mem_cons_of_mem _ z)) n) (fun _ _ x => x) fun _ _ _ x => x
end
/-! ### more rules -/
section
variable {h : Hh} {e : En}
@[simp] theorem bind_ok {α β : Type} (a : α) (f : α → Hh → Res β) : (Res.ok a h).bind f = f a h := (rfl)
@[simp] theorem bind_exc {α β : Type} (c : Nat) (f : α → Hh → Res β) : (Res.exc (α := α) c h).bind f = .exc c h := (rfl)
@[simp] theorem then_ok {α : Type} (a : α) (f : α → Hh → SR) : (Res.ok a h).then e f = f a h := (rfl)
@[simp] theorem then_exc {α : Type} (c : Nat) (f : α → Hh → SR) : (Res.exc (α := α) c h).then e f = .exc c e h := (rfl)
@[simp] theorem bindS_nxt (f : En → Hh → SR) : (SR.nxt e h).bind f = f e h := (rfl)
@[simp] theorem bindS_ret (w : W) (f : En → Hh → SR) : (SR.ret w h).bind f = .ret w h := (rfl)
@[simp] theorem bindS_exc (c : Nat) (f : En → Hh → SR) : (SR.exc c e h).bind f = .exc c e h := (rfl)
@[simp] theorem catch_nxt (f : Nat → En → Hh → SR) : (SR.nxt e h).catch f = .nxt e h := (rfl)
@[simp] theorem catch_ret (w : W) (f : Nat → En → Hh → SR) : (SR.ret w h).catch f = .ret w h := (rfl)
@[simp] theorem catch_exc (c : Nat) (f : Nat → En → Hh → SR) : (SR.exc c e h).catch f = f c e h := (rfl)
@[simp] theorem toB_bool (b : Bool) : toB (.ok (.dat (.bool b)) h) = .ok b h := (rfl)
@[simp] theorem ofB_ok (b : Bool) : ofB (.ok b h) = .ok (.dat (.bool b)) h := (rfl)
@[simp] theorem isI_int (i : Int) : tyIs .int (.dat (.int i)) = some true := (rfl)
@[simp] theorem isI_bool (i : Int) : tyIs .bool (.dat (.int i)) = some false := (rfl)
@[simp] theorem isB_bool (i : Bool) : tyIs .bool (.dat (.bool i)) = some true := (rfl)
@[simp] theorem isB_int (i : Bool) : tyIs .int (.dat (.bool i)) = some true := (rfl)
@[simp] theorem isT_tuple (l : List D) : tyIs .tuple (.dat (.tuple l)) = some true := (rfl)
@[simp] theorem fin_keep (n : Nat) (w : W) : finish true n (.ret w h) = .ok w h := (rfl)
/-! subscripts -/
theorem ixM_nat (n i : Nat) (q : i < n) : ixM n (i : Int) = some i := by
  unfold ixM
  rw [if_pos (by omega), if_pos (by omega)]
  simp
theorem atI_nat {α : Type} (l : List α) (i : Nat) : atI l (i : Int) = l[i]? := by
  unfold atI
  by_cases q : i < l.length
  · rw [ixM_nat _ _ q]; rfl
  · rw [List.getElem?_eq_none (by omega)]
    unfold ixM
    rw [if_pos (by omega), if_neg (by omega)]
    rfl
@[simp] theorem atI_0 {α : Type} (a : α) (l : List α) : atI (a :: l) 0 = some a := atI_nat (a :: l) 0
@[simp] theorem atI_1 {α : Type} (a b : α) (l : List α) : atI (a :: b :: l) 1 = some b := atI_nat (a :: b :: l) 1
@[simp] theorem atI_2 {α : Type} (a b c : α) (l : List α) : atI (a :: b :: c :: l) 2 = some c := atI_nat (a :: b :: c :: l) 2
@[simp] theorem atI_3 {α : Type} (a b c d : α) (l : List α) : atI (a :: b :: c :: d :: l) 3 = some d := atI_nat (a :: b :: c :: d :: l) 3
@[simp] theorem atI_4 {α : Type} (a b c d f : α) (l : List α) : atI (a :: b :: c :: d :: f :: l) 4 = some f := atI_nat (a :: b :: c :: d :: f :: l) 4
@[simp] theorem atI_5 {α : Type} (a b c d f g : α) (l : List α) : atI (a :: b :: c :: d :: f :: g :: l) 5 = some g := atI_nat (a :: b :: c :: d :: f :: g :: l) 5
@[simp] theorem atI_6 {α : Type} (a b c d f g k : α) (l : List α) : atI (a :: b :: c :: d :: f :: g :: k :: l) 6 = some k := atI_nat (a :: b :: c :: d :: f :: g :: k :: l) 6
theorem atI_map {α β : Type} (f : α → β) (l : List α) (i : Int) : atI (l.map f) i = (atI l i).map f := by
  unfold atI
  rw [List.length_map]
  cases ixM l.length i with
  | none => rfl
  | some j => exact List.getElem?_map ..
@[simp] theorem index_tup (l : List D) (i : Int) : index (.dat (.tuple l)) (.dat (.int i)) h = optR h ((atI l i).map .dat) := by
  show optR h (atI (l.map W.dat) i) = _
  rw [atI_map]
@[simp] theorem index_lst (l : List D) (i : Int) : index (.dat (.list l)) (.dat (.int i)) h = optR h ((atI l i).map .dat) := by
  show optR h (atI (l.map W.dat) i) = _
  rw [atI_map]
@[simp] theorem index_scr (l : List Int) (i : Int) : index (.scr l) (.dat (.int i)) h = optR h ((atI l i).map fun i => .dat (.int i)) := by
  show optR h (atI (l.map fun i => W.dat (.int i)) i) = _
  rw [atI_map]
theorem index_ref {p : Nat} {l : List W} (q : h[p]? = some (.lst l)) (i : Int) : index (.ref p) (.dat (.int i)) h = optR h (atI l i) := by
  unfold index seqOf
  simp only [q]
theorem setAt_ref {p : Nat} {l : List W} (q : h[p]? = some (.lst l)) (i : Nat) (v : W) (g : i < l.length) : setAt (.ref p) (.dat (.int i)) v h = some (h.set p (.lst (l.set i v))) := by
  unfold setAt
  simp only [q]
  rw [if_pos (by omega)]
  simp
end
theorem setAt_ref0 {h : Hh} {p : Nat} {a : W} {l : List W} (q : h[p]? = some (.lst (a :: l))) (v : W) : setAt (.ref p) (.dat (.int 0)) v h = some (h.set p (.lst (v :: l))) := setAt_ref q 0 v (by simp)
theorem setAt_ref1 {h : Hh} {p : Nat} {a b : W} {l : List W} (q : h[p]? = some (.lst (a :: b :: l))) (v : W) : setAt (.ref p) (.dat (.int 1)) v h = some (h.set p (.lst (a :: v :: l))) := setAt_ref q 1 v (by simp)
theorem setAt_ref2 {h : Hh} {p : Nat} {a b c : W} {l : List W} (q : h[p]? = some (.lst (a :: b :: c :: l))) (v : W) : setAt (.ref p) (.dat (.int 2)) v h = some (h.set p (.lst (a :: b :: v :: l))) := setAt_ref q 2 v (by simp)
theorem get_set {h : Hh} {p : Nat} (hl : p < h.length) (o : Ob) : (h.set p o)[p]? = some o := by
  rw [List.getElem?_set_self hl]
theorem index_set {h : Hh} {p : Nat} (hl : p < h.length) (l : List W) (i : Int) : index (.ref p) (.dat (.int i)) (h.set p (.lst l)) = optR (h.set p (.lst l)) (atI l i) := index_ref (get_set hl _) i
theorem setAt_set0 {h : Hh} {p : Nat} (hl : p < h.length) (a : W) (l : List W) (v : W) : setAt (.ref p) (.dat (.int 0)) v (h.set p (.lst (a :: l))) = some (h.set p (.lst (v :: l))) := by rw [setAt_ref0 (get_set hl _), List.set_set]
theorem setAt_set1 {h : Hh} {p : Nat} (hl : p < h.length) (a b : W) (l : List W) (v : W) : setAt (.ref p) (.dat (.int 1)) v (h.set p (.lst (a :: b :: l))) = some (h.set p (.lst (a :: v :: l))) := by rw [setAt_ref1 (get_set hl _), List.set_set]
theorem setAt_set2 {h : Hh} {p : Nat} (hl : p < h.length) (a b c : W) (l : List W) (v : W) : setAt (.ref p) (.dat (.int 2)) v (h.set p (.lst (a :: b :: c :: l))) = some (h.set p (.lst (a :: b :: v :: l))) := by rw [setAt_ref2 (get_set hl _), List.set_set]
/-! equality of data -/
theorem shp_pair (a b : Int) : shp (.tuple [.int a, .int b]) = true := rfl
@[simp] theorem eqv_int (a b : Int) : PyData.eqv (.int a) (.int b) = decide (a = b) := by
  simp [PyData.eqv, BEq.beq]
theorem eqD_pair (a b c d : Int) : eqD (.tuple [.int a, .int b]) (.tuple [.int c, .int d]) = some (decide (a = c) && decide (b = d)) := by
  show (if (shp (.tuple [.int a, .int b]) && shp (.tuple [.int c, .int d])) = true then some (PyData.eqv (.tuple [.int a, .int b]) (.tuple [.int c, .int d])) else none) = _
  rw [shp_pair, shp_pair]
  simp only [PyData.eqv, PyData.eqvAll, Bool.and_true, Bool.and_self, if_true]
  congr 1
@[simp] theorem cmp_eqP {h : Hh} (a b c d : Int) : cmpW .eq (.dat (.tuple [.int a, .int b])) (.dat (.tuple [.int c, .int d])) h = some (decide (a = c) && decide (b = d)) := eqD_pair a b c d
@[simp] theorem cmp_neP {h : Hh} (a b c d : Int) : cmpW .ne (.dat (.tuple [.int a, .int b])) (.dat (.tuple [.int c, .int d])) h = some (!(decide (a = c) && decide (b = d))) := by
  show (eqD (.tuple [.int a, .int b]) (.tuple [.int c, .int d])).map not = _
  rw [eqD_pair]
  rfl
@[simp] theorem bi_any {h : Hh} (m : Bool) (l : List D) : builtin .any m [.dat (.list l)] h = rb h ((boolsOf (l.map .dat)).map fun l => l.any id) := (rfl)
@[simp] theorem bi_all {h : Hh} (m : Bool) (l : List D) : builtin .all m [.dat (.list l)] h = rb h ((boolsOf (l.map .dat)).map fun l => l.all id) := (rfl)
@[simp] theorem items_tup {h : Hh} (l : List D) : itemsOf (.dat (.tuple l)) h = some (.ws (l.map .dat)) := (rfl)
@[simp] theorem items_lst {h : Hh} (l : List D) : itemsOf (.dat (.list l)) h = some (.ws (l.map .dat)) := (rfl)
@[simp] theorem compL_nil {h : Hh} (step : W → Hh → Res (Option W)) (acc : List W) : compL step [] h acc = .ok acc h := (rfl)
@[simp] theorem compL_cons {h : Hh} (step : W → Hh → Res (Option W)) (w : W) (ws : List W) (acc : List W) : compL step (w :: ws) h acc = (step w h).bind fun o h => match o with
    | some v => if acc.length < sizeL then compL step ws h (acc ++ [v]) else .bad
    | none => compL step ws h acc := (rfl)
@[simp] theorem bindT_nam (i : Nat) (w : W) (e : En) : bindT (.nam i) w e = some (e.set i (some w)) := (rfl)
@[simp] theorem seqOf_tup (h : Hh) (l : List D) : seqOf h (.dat (.tuple l)) = some (l.map .dat) := (rfl)
@[simp] theorem seqOf_lst (h : Hh) (l : List D) : seqOf h (.dat (.list l)) = some (l.map .dat) := (rfl)
@[simp] theorem setAll_nil (e : En) : setAll e [] [] = some e := (rfl)
@[simp] theorem setAll_cons (e : En) (i : Nat) (is : List Nat) (w : W) (ws : List W) : setAll e (i :: is) (w :: ws) = setAll (e.set i (some w)) is ws := (rfl)
@[simp] theorem wipe_nil (e : En) : wipe e [] = e := (rfl)
@[simp] theorem wipe_cons (e : En) (v : Nat) (vs : List Nat) : wipe e (v :: vs) = (wipe e vs).set v none := (rfl)
@[simp] theorem noexc_ok {α : Type} (a : α) (h : Hh) : noexc (.ok a h) = .ok a h := (rfl)
@[simp] theorem items_str {h : Hh} (x : Str) : itemsOf (.dat (.str x)) h = some (.ws (x.cps.toList.map fun c => .dat (.str ⟨#[c]⟩))) := (rfl)
theorem bools_map (l : List Bool) : boolsOf ((l.map PyData.bool).map .dat) = some l := by
  induction l with
  | nil => rfl
  | cons b l ih =>
    show (match truth (.dat (.bool b)), boolsOf ((l.map PyData.bool).map .dat) with
      | some b, some bs => some (b :: bs)
      | _, _ => none) = _
    rw [ih]
    rfl
@[simp] theorem boolsOf_nil : boolsOf [] = some [] := (rfl)
@[simp] theorem boolsOf_cons (b : Bool) (ws : List W) : boolsOf (.dat (.bool b) :: ws) = (boolsOf ws).map (b :: ·) := by
  simp only [boolsOf, truth_bool]
  cases boolsOf ws <;> rfl
@[simp] theorem slice_tup {h : Hh} (l : List D) (lo hi : Option Int) : slice (.dat (.tuple l)) lo hi h = .ok (.dat (.tuple (cutL l lo hi))) h := (rfl)
@[simp] theorem slice_lst {h : Hh} (l : List D) (lo hi : Option Int) : slice (.dat (.list l)) lo hi h = .ok (.dat (.list (cutL l lo hi))) h := (rfl)
/-! ### sizes -/
/-- of less than k bits -/
def sm (k : Nat) (x : Int) : Prop := x.natAbs < 2 ^ k
theorem sm.mono {j k : Nat} {x : Int} (h : sm j x) (l : j ≤ k) : sm k x := Nat.lt_of_lt_of_le h (Nat.pow_le_pow_right (by decide) l)
theorem sm.mul {j k : Nat} {x y : Int} (h : sm j x) (g : sm k y) : sm (j + k) (x * y) := by
  unfold sm at *
  rw [Int.natAbs_mul, Nat.pow_add]
  exact Nat.mul_lt_mul'' h g
theorem sm.add {k : Nat} {x y : Int} (h : sm k x) (g : sm k y) : sm (k + 1) (x + y) := by
  unfold sm at *
  rw [Nat.pow_succ]
  omega
theorem sm.sub {k : Nat} {x y : Int} (h : sm k x) (g : sm k y) : sm (k + 1) (x - y) := by
  unfold sm at *
  rw [Nat.pow_succ]
  omega
theorem sm.neg {k : Nat} {x : Int} (h : sm k x) : sm k (-x) := by
  unfold sm at *
  rw [Int.natAbs_neg]
  exact h
theorem sm.log {k : Nat} {x : Int} (h : sm (k + 1) x) : x.natAbs.log2 ≤ k := by
  unfold sm at h
  by_cases z : x.natAbs = 0
  · rw [z]; simp
  · exact Nat.le_of_lt_succ ((Nat.log2_lt z).mpr h)
theorem sm.big {j k : Nat} {x y : Int} (h : sm (j + 1) x) (g : sm (k + 1) y) (l : j + k < 100000000) : bigMul x y = true := by
  unfold bigMul
  have := h.log
  have := g.log
  exact decide_eq_true (by omega)
theorem sm.div {k : Nat} {x : Int} (h : sm (k + 1) x) (p : 0 < x) (l : k < 9000) : okDiv x = true := by
  unfold okDiv
  have := h.log
  simp [p]
  omega
theorem sm_of {k : Nat} {x : Int} (h0 : 0 ≤ x) (h1 : x < ((2 ^ k : Nat) : Int)) : sm k x := by
  unfold sm
  omega
theorem sm_le {k : Nat} {x y : Int} (h : sm k y) (l : x.natAbs ≤ y.natAbs) : sm k x := Nat.lt_of_le_of_lt l h
/-- a for, by a law of its turns that counts them -/
theorem okS_forN {step : W → En → Hh → SR} {N : En → Hh → Prop} {R : W → Hh → Prop} {X : Nat → En → Hh → Prop} (I : Nat → En → Hh → Prop) : ∀ (ws : List W) (i : Nat) (e : En) (h : Hh), I i e h → (∀ j w, ws[j]? = some w → ∀ e h, I (i + j) e h → okS (step w e h) (I (i + j + 1)) R X) → (∀ e h, I (i + ws.length) e h → N e h) → okS (forL step ws e h) N R X
  | [], i, e, h, a, _, n => n e h a
  | w :: ws, i, e, h, a, t, n => by
    show okS ((step w e h).bind fun e h => forL step ws e h) N R X
    rw [okS_bind]
    refine (t 0 w rfl e h a).imp (fun e h a => okS_forN I ws (i + 1) e h a (fun j w z e h b => ?_) fun e h b => n e h ?_) (fun _ _ x => x) fun _ _ _ x => x
    · have := t (j + 1) w (by simpa using z) e h (by rw [show i + (j + 1) = i + 1 + j by omega]; exact b)
      rw [show i + 1 + j + 1 = i + (j + 1) + 1 by omega]
      exact this
    · rw [List.length_cons, show i + (ws.length + 1) = i + 1 + ws.length by omega]
      exact b
@[simp] theorem rngL_length (a b : Int) : (rngL a b).length = (b - a).toNat := by unfold rngL; simp
theorem rngL_get {a b : Int} {j : Nat} {w : W} (z : (rngL a b)[j]? = some w) : w = .dat (.int (a + j)) ∧ a + j < b := by
  unfold rngL at z
  rw [List.getElem?_map] at z
  obtain ⟨k, e, rfl⟩ := Option.map_eq_some_iff.mp z
  obtain ⟨l, e⟩ := List.getElem?_eq_some_iff.mp e
  simp at l e
  subst e
  exact ⟨rfl, by omega⟩
/-! comprehensions -/
theorem compL_pure {h : Hh} {step : W → Hh → Res (Option W)} (g : W → W) : ∀ (ws acc : List W), (∀ w ∈ ws, step w h = .ok (some (g w)) h) → acc.length + ws.length ≤ sizeL → compL step ws h acc = .ok (acc ++ ws.map g) h
  | [], acc, _, _ => by rw [compL_nil, List.map_nil, List.append_nil]
  | w :: ws, acc, hs, l => by
    rw [List.length_cons] at l
    rw [compL_cons, hs w List.mem_cons_self]
    show (if acc.length < sizeL then compL step ws h (acc ++ [g w]) else .bad) = _
    rw [if_pos (by omega), compL_pure g ws _ (fun w z => hs w (List.mem_cons_of_mem _ z)) (by rw [List.length_append, List.length_singleton]; omega)]
    rw [List.map_cons, List.append_assoc]
    rfl
/-- over a list of things, each to data -/
theorem compL_map {α : Type} {h : Hh} {step : W → Hh → Res (Option W)} (f : α → W) (g : α → D) (l : List α) (hs : ∀ x ∈ l, step (f x) h = .ok (some (.dat (g x))) h) (hl : l.length ≤ sizeL) : compL step (l.map f) h [] = .ok ((l.map g).map .dat) h := by
  have key : ∀ (l : List α) (acc : List W), (∀ x ∈ l, step (f x) h = .ok (some (.dat (g x))) h) → acc.length + l.length ≤ sizeL → compL step (l.map f) h acc = .ok (acc ++ (l.map g).map .dat) h := by
    intro l
    induction l with
    | nil => intro acc _ _; rw [List.map_nil, compL_nil, List.map_nil, List.map_nil, List.append_nil]
    | cons x l ih =>
      intro acc hs le
      rw [List.length_cons] at le
      rw [List.map_cons, compL_cons, hs x List.mem_cons_self]
      show (if acc.length < sizeL then compL step (l.map f) h (acc ++ [.dat (g x)]) else .bad) = _
      rw [if_pos (by omega), ih _ (fun y z => hs y (List.mem_cons_of_mem _ z)) (by rw [List.length_append, List.length_singleton]; omega)]
      rw [List.map_cons, List.map_cons, List.append_assoc]
      rfl
  have z := key l [] hs (by simpa using hl)
  rw [z, List.nil_append]
/-- a comprehension, by a law of its turns -/
theorem okW_compL {step : W → Hh → Res (Option W)} {Q : List W → Hh → Prop} {E : Nat → Hh → Prop} (I : Nat → List W → Hh → Prop) : ∀ (ws : List W) (i : Nat) (acc : List W) (h : Hh), I i acc h → acc.length + ws.length ≤ sizeL →
    (∀ j w, ws[j]? = some w → ∀ acc h, I (i + j) acc h → okW (step w h) (fun o h => match o with
      | some v => I (i + j + 1) (acc ++ [v]) h
      | none => I (i + j + 1) acc h) E) → (∀ acc h, I (i + ws.length) acc h → Q acc h) → okW (compL step ws h acc) Q E
  | [], i, acc, h, a, _, _, n => n acc h a
  | w :: ws, i, acc, h, a, l, t, n => by
    rw [List.length_cons] at l
    rw [compL_cons, okW_bind]
    have t2 : ∀ j w2, ws[j]? = some w2 → ∀ acc h, I (i + 1 + j) acc h → okW (step w2 h) (fun o h => match o with
      | some v => I (i + 1 + j + 1) (acc ++ [v]) h
      | none => I (i + 1 + j + 1) acc h) E := fun j w2 z acc h b => by
      have := t (j + 1) w2 (by simpa using z) acc h (by rw [show i + (j + 1) = i + 1 + j by omega]; exact b)
      rw [show i + 1 + j + 1 = i + (j + 1) + 1 by omega]
      exact this
    have n2 : ∀ acc h, I (i + 1 + ws.length) acc h → Q acc h := fun acc h b => n acc h (by rw [List.length_cons, show i + (ws.length + 1) = i + 1 + ws.length by omega]; exact b)
    refine (t 0 w rfl acc h a).imp (fun o h b => ?_) fun _ _ x => x
    cases o with
    | some v =>
      show okW (if acc.length < sizeL then compL step ws h (acc ++ [v]) else .bad) Q E
      rw [if_pos (by omega)]
      exact okW_compL I ws (i + 1) _ h b (by rw [List.length_append, List.length_singleton]; omega) t2 n2
    | none => exact okW_compL I ws (i + 1) acc h b (by omega) t2 n2
end M
namespace K03
open PySem M
def top (i : Nat) : Stmt := PySem.Challenge.pw_markhabits_k03_entries_of_any_things.main.body.getD i (.Pass ⟨0, 0, 0, 0⟩)
abbrev f_is_whole : Nat := 0
abbrev f_shared : Nat := 1
abbrev f_is_fraction : Nat := 2
abbrev f_is_name : Nat := 3
abbrev f_is_night : Nat := 4
abbrev f_is_told : Nat := 5
abbrev f_are_ends : Nat := 6
abbrev f_is_entry : Nat := 7
abbrev f_law_cell : Nat := 8
abbrev f_law_pool : Nat := 9
abbrev f_law_take : Nat := 10
abbrev f_law_low : Nat := 11
abbrev f_law_size : Nat := 12
abbrev f_law_names : Nat := 13
abbrev f_law_ends : Nat := 14
abbrev f_law_sorts : Nat := 15
abbrev f_law_is : Nat := 16
abbrev f_law_no_names : Nat := 17
abbrev f_law_no_fractions : Nat := 18
abbrev f_law_good : Nat := 19
abbrev f_law_ways : Nat := 20
abbrev f_law_no_entries : Nat := 21
abbrev f_law : Nat := 22
def b_is_whole : CSs := (.cons (.ret (.bop true (.cons (.isi (.var 0) .int) (.cons (.not (.isi (.var 0) .bool)) .nil)))) .nil)
def d_is_whole : Df := ⟨"is_whole", none, 1, 1, true, b_is_whole⟩
def c_shared_0 : CE := (.cmp .gt (.var 1) (.cst (.int 0)))
def l_shared_1 : CSs := (.cons (.par 0 1 (.var 1) (.bin .mod false (.var 0) (.var 1))) .nil)
def b_shared : CSs := (.cons (.whil c_shared_0 l_shared_1) (.cons (.ret (.var 0)) .nil))
def d_shared : Df := ⟨"shared", none, 2, 2, true, b_shared⟩
def b_is_fraction : CSs := (.cons (.ifs (.bop false (.cons (.not (.isi (.var 0) .tuple)) (.cons (.cmp .ne (.blt .len false (.cons (.var 0) .nil)) (.cst (.int 2))) (.cons (.not (.call f_is_whole (.cons (.idx (.var 0) (.cst (.int 0))) .nil))) (.cons (.not (.call f_is_whole (.cons (.idx (.var 0) (.cst (.int 1))) .nil))) .nil))))) (.cons (.ret (.cst (.bool false))) .nil) .nil) (.cons (.ret (.bop true (.cons (.cmp .gt (.idx (.var 0) (.cst (.int 1))) (.cst (.int 0))) (.cons (.cmp .eq (.call f_shared (.cons (.blt .abs false (.cons (.idx (.var 0) (.cst (.int 0))) .nil)) (.cons (.idx (.var 0) (.cst (.int 1))) .nil))) (.cst (.int 1))) .nil)))) .nil))
def d_is_fraction : Df := ⟨"is_fraction", none, 1, 1, true, b_is_fraction⟩
def e_is_name_0 : CE := (.cmp .isin (.var 1) (.glb 0))
def b_is_name : CSs := (.cons (.ifs (.bop false (.cons (.not (.isi (.var 0) .str)) (.cons (.not (.chn .le .le (.cst (.int 1)) (.blt .len false (.cons (.var 0) .nil)) (.glb 1))) .nil))) (.cons (.ret (.cst (.bool false))) .nil) .nil) (.cons (.ret (.blt .all false (.cons (.comp false [("sign", 1)] (.nam 1) (.ex (.var 0)) .nil e_is_name_0) .nil))) .nil))
def d_is_name : Df := ⟨"is_name", none, 1, 2, true, b_is_name⟩
def b_is_night : CSs := (.cons (.ret (.bop true (.cons (.call f_is_whole (.cons (.var 0) .nil)) (.cons (.chn .le .le (.cst (.int 0)) (.var 0) (.glb 2)) .nil)))) .nil)
def d_is_night : Df := ⟨"is_night", none, 1, 1, true, b_is_night⟩
def b_is_told : CSs := (.cons (.ifs (.bop false (.cons (.not (.call f_is_fraction (.cons (.var 0) .nil))) (.cons (.cmp .gt (.idx (.var 0) (.cst (.int 1))) (.glb 3)) .nil))) (.cons (.ret (.cst (.bool false))) .nil) .nil) (.cons (.ret (.chn .le .le (.bin .mul false (.var 1) (.idx (.var 0) (.cst (.int 1)))) (.idx (.var 0) (.cst (.int 0))) (.bin .mul false (.var 2) (.idx (.var 0) (.cst (.int 1)))))) .nil))
def d_is_told : Df := ⟨"is_told", none, 3, 3, true, b_is_told⟩
def b_are_ends : CSs := (.cons (.ret (.bop true (.cons (.call f_is_told (.cons (.var 0) (.cons (.neg (.glb 5)) (.cons (.glb 5) .nil)))) (.cons (.call f_is_told (.cons (.var 1) (.cons (.cst (.int 0)) (.cons (.glb 4) .nil)))) .nil)))) .nil)
def d_are_ends : Df := ⟨"are_ends", none, 2, 2, true, b_are_ends⟩
def e_is_entry_0 : CE := (.call f_is_name (.cons (.var 1) .nil))
def b_is_entry : CSs := (.cons (.ifs (.bop false (.cons (.not (.isi (.var 0) .tuple)) (.cons (.cmp .notin (.blt .len false (.cons (.var 0) .nil)) (.tup (.cons (.cst (.int 4)) (.cons (.cst (.int 7)) .nil)))) (.cons (.not (.isi (.idx (.var 0) (.cst (.int 0))) .str)) .nil)))) (.cons (.ret (.cst (.bool false))) .nil) .nil) (.cons (.ifs (.cmp .eq (.blt .len false (.cons (.var 0) .nil)) (.cst (.int 4))) (.cons (.ret (.bop true (.cons (.cmp .isin (.idx (.var 0) (.cst (.int 0))) (.tup (.cons (.cst (.str "habit")) (.cons (.cst (.str "gain")) .nil)))) (.cons (.call f_is_name (.cons (.idx (.var 0) (.cst (.int 1))) .nil)) (.cons (.call f_are_ends (.cons (.idx (.var 0) (.cst (.int 2))) (.cons (.idx (.var 0) (.cst (.int 3))) .nil))) .nil))))) .nil) .nil) (.cons (.ifs (.bop false (.cons (.cmp .ne (.idx (.var 0) (.cst (.int 0))) (.cst (.str "mark"))) (.cons (.not (.blt .all false (.cons (.comp false [("name", 1)] (.nam 1) (.ex (.slc (.var 0) (.som (.cst (.int 1))) (.som (.cst (.int 4))))) .nil e_is_entry_0) .nil))) .nil))) (.cons (.ret (.cst (.bool false))) .nil) .nil) (.cons (.ret (.bop true (.cons (.call f_is_night (.cons (.idx (.var 0) (.cst (.int 4))) .nil)) (.cons (.call f_are_ends (.cons (.idx (.var 0) (.cst (.int 5))) (.cons (.idx (.var 0) (.cst (.int 6))) .nil))) .nil)))) .nil))))
def d_is_entry : Df := ⟨"is_entry", none, 1, 2, true, b_is_entry⟩
def l_law_cell_0 : CSs := (.cons (.asg (.nam 2) (.bin .mod false (.bin .add false (.bin .mul false (.var 2) (.cst (.int 43013))) (.var 3)) (.cst (.int 2147483549)))) .nil)
def b_law_cell : CSs := (.cons (.ifs (.cmp .lt (.var 1) (.blt .len false (.cons (.var 0) .nil))) (.cons (.ret (.idx (.var 0) (.var 1))) .nil) .nil) (.cons (.asg (.nam 2) (.bin .mod false (.bin .mul false (.bin .mul false (.cst (.int 50021)) (.bin .add false (.var 1) (.cst (.int 2)))) (.bin .add false (.var 1) (.cst (.int 9)))) (.cst (.int 2147483549)))) (.cons (.for_ (.nam 3) (.ex (.slc (.var 0) .non (.som (.cst (.int 3))))) l_law_cell_0) (.cons (.ret (.var 2)) .nil))))
def d_law_cell : Df := ⟨"_law_cell", none, 2, 4, true, b_law_cell⟩
def b_law_pool : CSs := (.cons (.asg (.nam 1) (.cst (.int 0))) (.cons (.ifs (.bop false (.cons (.cmp .lt (.var 0) (.cst (.int 0))) (.cons (.cmp .ge (.var 0) (.bin .pow false (.cst (.int 10)) (.cst (.int 18)))) .nil))) (.cons (.asg (.nam 1) (.blt .abs true (.cons (.var 0) .nil))) .nil) .nil) (.cons (.ret (.lst true (.cons (.bin .mod false (.var 0) (.cst (.int 2147483549))) (.cons (.var 1) (.cons (.cst (.int 0)) .nil))))) .nil)))
def d_law_pool : Df := ⟨"_law_pool", none, 1, 2, true, b_law_pool⟩
def b_law_take : CSs := (.cons (.asg (.sub (.var 0) (.cst (.int 2))) (.bin .add false (.idx (.var 0) (.cst (.int 2))) (.cst (.int 1)))) (.cons (.asg (.nam 2) (.idx (.var 0) (.cst (.int 0)))) (.cons (.asg (.sub (.var 0) (.cst (.int 0))) (.bin .mod false (.bin .add false (.bin .mul false (.var 2) (.bin .add false (.bin .mod false (.var 2) (.cst (.int 47017))) (.cst (.int 31013)))) (.bin .mul false (.cst (.int 90001)) (.idx (.var 0) (.cst (.int 2))))) (.cst (.int 2147483549)))) (.cons (.ifs (.cmp .gt (.idx (.var 0) (.cst (.int 1))) (.cst (.int 0))) (.cons (.asg (.subnam (.var 0) (.cst (.int 1)) 3) (.blt .divmod false (.cons (.idx (.var 0) (.cst (.int 1))) (.cons (.var 1) .nil)))) (.cons (.ret (.var 3)) .nil)) .nil) (.cons (.ret (.bin .mod false (.bin .fdiv false (.idx (.var 0) (.cst (.int 0))) (.cst (.int 64))) (.var 1))) .nil)))))
def d_law_take : Df := ⟨"_law_take", none, 2, 4, true, b_law_take⟩
def c_law_low_0 : CE := (.cmp .gt (.var 3) (.cst (.int 0)))
def l_law_low_1 : CSs := (.cons (.par 2 3 (.var 3) (.bin .mod false (.var 2) (.var 3))) .nil)
def b_law_low : CSs := (.cons (.par 2 3 (.blt .abs false (.cons (.var 0) .nil)) (.var 1)) (.cons (.whil c_law_low_0 l_law_low_1) (.cons (.ret (.tup (.cons (.bin .fdiv false (.var 0) (.var 2)) (.cons (.bin .fdiv false (.var 1) (.var 2)) .nil)))) .nil)))
def d_law_low : Df := ⟨"_law_low", none, 2, 4, true, b_law_low⟩
def b_law_size : CSs := (.cons (.ret (.tup (.cons (.blt .abs false (.cons (.idx (.var 0) (.cst (.int 0))) .nil)) (.cons (.idx (.var 0) (.cst (.int 1))) .nil)))) .nil)
def d_law_size : Df := ⟨"_law_size", none, 1, 1, true, b_law_size⟩
def e_law_names_0 : CE := (.bin .add false (.bin .add false (.slc (.var 7) .non (.som (.var 8))) (.idx (.var 6) (.bin .mod false (.bin .add false (.var 9) (.bin .mul false (.var 4) (.var 5))) (.cst (.int 26))))) (.slc (.var 7) (.som (.var 8)) .non))
def t_law_names_1 : CSs := (.cons (.ret (.comp false [("_law_k", 5)] (.nam 5) (.rng1 (.var 1)) .nil e_law_names_0)) .nil)
def t_law_names_2 : CSs := (.cons (.asg (.tup [8, 9]) (.tup (.cons (.call f_law_take (.cons (.var 0) (.cons (.bin .add false (.blt .len false (.cons (.var 7) .nil)) (.cst (.int 1))) .nil))) (.cons (.call f_law_take (.cons (.var 0) (.cons (.cst (.int 26)) .nil))) .nil)))) t_law_names_1)
def e_law_names_3 : CE := (.idx (.var 6) (.call f_law_take (.cons (.var 0) (.cons (.cst (.int 26)) .nil))))
def t_law_names_4 : CSs := (.cons (.asg (.nam 7) (.bmt .join false (.cst (.str "")) (.cons (.comp false [("_law_k", 5)] (.nam 5) (.rng1 (.call f_law_take (.cons (.var 0) (.cons (.cst (.int 8)) .nil)))) .nil e_law_names_3) .nil))) t_law_names_2)
def t_law_names_5 : CSs := (.cons (.asg (.nam 6) (.cst (.str "abcdefghijklmnopqrstuvwxyz"))) t_law_names_4)
def e_law_names_6 : CE := (.idx (.var 2) (.bin .mod false (.bin .add false (.var 3) (.bin .mul false (.var 4) (.var 5))) (.cst (.int 12))))
def t_law_names_7 : CSs := (.cons (.ifs (.cmp .eq (.call f_law_take (.cons (.var 0) (.cons (.cst (.int 4)) .nil))) (.cst (.int 1))) (.cons (.ret (.comp false [("_law_k", 5)] (.nam 5) (.rng1 (.var 1)) .nil e_law_names_6)) .nil) .nil) t_law_names_5)
def t_law_names_8 : CSs := (.cons (.asg (.tup [3, 4]) (.tup (.cons (.call f_law_take (.cons (.var 0) (.cons (.cst (.int 12)) .nil))) (.cons (.idx (.lst false (.cons (.cst (.int 1)) (.cons (.cst (.int 5)) (.cons (.cst (.int 7)) (.cons (.cst (.int 11)) .nil))))) (.call f_law_take (.cons (.var 0) (.cons (.cst (.int 4)) .nil)))) .nil)))) t_law_names_7)
def b_law_names : CSs := (.cons (.asg (.nam 2) (.lst false (.cons (.cst (.str "mark")) (.cons (.cst (.str "habit")) (.cons (.cst (.str "gain")) (.cons (.cst (.str "cloud")) (.cons (.cst (.str "fits")) (.cons (.cst (.str "open")) (.cons (.cst (.str "strike")) (.cons (.cst (.str "back")) (.cons (.cst (.str "book")) (.cons (.cst (.str "none")) (.cons (.cst (.str "clash")) (.cons (.cst (.str "to")) .nil)))))))))))))) t_law_names_8)
def d_law_names : Df := ⟨"_law_names", none, 2, 10, true, b_law_names⟩
def t_law_ends_0 : CSs := (.cons (.ret (.call f_law_low (.cons (.bin .mul false (.var 3) (.idx (.lst false (.cons (.cst (.int 1)) (.cons (.neg (.cst (.int 1))) .nil))) (.call f_law_take (.cons (.var 0) (.cons (.cst (.int 2)) .nil))))) (.cons (.var 2) .nil)))) .nil)
def t_law_ends_1 : CSs := (.cons (.ifs (.cmp .eq (.var 4) (.cst (.int 2))) (.cons (.asg (.nam 3) (.bin .mod false (.var 3) (.cst (.int 50)))) .nil) .nil) t_law_ends_0)
def t_law_ends_2 : CSs := (.cons (.ifs (.cmp .lt (.var 4) (.cst (.int 2))) (.cons (.asg (.nam 3) (.idx (.lst false (.cons (.cst (.int 0)) (.cons (.bin .mul false (.var 1) (.var 2)) .nil))) (.var 4))) .nil) .nil) t_law_ends_1)
def t_law_ends_3 : CSs := (.cons (.asg (.nam 4) (.call f_law_take (.cons (.var 0) (.cons (.cst (.int 5)) .nil)))) t_law_ends_2)
def t_law_ends_4 : CSs := (.cons (.asg (.nam 3) (.bin .mod false (.bin .add false (.bin .mul false (.call f_law_take (.cons (.var 0) (.cons (.cst (.int 1000)) .nil))) (.cst (.int 1000003))) (.call f_law_take (.cons (.var 0) (.cons (.cst (.int 1000003)) .nil)))) (.bin .add false (.bin .mul false (.var 1) (.var 2)) (.cst (.int 1))))) t_law_ends_3)
def b_law_ends : CSs := (.cons (.asg (.nam 2) (.idx (.lst false (.cons (.cst (.int 1)) (.cons (.cst (.int 1)) (.cons (.cst (.int 2)) (.cons (.cst (.int 1000)) (.cons (.bin .add false (.cst (.int 1)) (.call f_law_take (.cons (.var 0) (.cons (.cst (.int 1000)) .nil)))) .nil)))))) (.call f_law_take (.cons (.var 0) (.cons (.cst (.int 5)) .nil))))) t_law_ends_4)
def d_law_ends : Df := ⟨"_law_ends", none, 2, 5, true, b_law_ends⟩
def t_law_sorts_0 : CSs := (.cons (.ret (.lst false (.cons (.slc (.var 1) .non (.som (.cst (.int 5)))) (.cons (.slc (.var 1) (.som (.cst (.int 5))) (.som (.cst (.int 9)))) (.cons (.slc (.var 1) (.som (.cst (.int 9))) .non) .nil))))) .nil)
def t_law_sorts_1 : CSs := (.cons (.ifs (.cmp .eq (.call f_law_take (.cons (.var 0) (.cons (.cst (.int 3)) .nil))) (.cst (.int 0))) (.cons (.ret (.lst false (.cons (.slc (.var 1) .non (.som (.cst (.int 5)))) (.cons (.slc (.var 1) .non (.som (.cst (.int 4)))) (.cons (.slc (.var 1) (.som (.cst (.int 2))) (.som (.cst (.int 5)))) .nil))))) .nil) .nil) t_law_sorts_0)
def b_law_sorts : CSs := (.cons (.asg (.nam 1) (.call f_law_names (.cons (.var 0) (.cons (.cst (.int 12)) .nil)))) t_law_sorts_1)
def d_law_sorts : Df := ⟨"_law_sorts", none, 1, 2, true, b_law_sorts⟩
def b_law_is : CSs := (.cons (.ret (.bop true (.cons (.isi (.var 0) .bool) (.cons (.cmp .eq (.var 0) (.var 1)) .nil)))) .nil)
def d_law_is : Df := ⟨"_law_is", none, 2, 2, true, b_law_is⟩
def t_law_no_names_0 : CSs := (.cons (.ret (.bin .add false (.var 1) (.lst false (.cons (.bin .add false (.bin .add false (.slc (.var 0) .non (.som (.cst (.int 1)))) (.cst (.str "A"))) (.slc (.var 0) (.som (.cst (.int 2))) (.som (.cst (.int 7))))) (.cons (.bin .add false (.cst (.str ":")) (.slc (.var 0) .non (.som (.cst (.int 7))))) .nil))))) .nil)
def t_law_no_names_1 : CSs := (.cons (.asg (.nam 1) (.bin .add false (.var 1) (.lst false (.cons (.cst .none) (.cons (.cst (.int 7)) (.cons (.cst (.bool true)) (.cons (.lst false .nil) (.cons (.lst false (.cons (.var 0) .nil)) (.cons (.tup (.cons (.var 0) .nil)) (.cons (.dct false .nil .nil) (.cons (.tup (.cons (.lst false .nil) .nil)) (.cons (.tup (.cons (.tup .nil) .nil)) (.cons (.tup (.cons (.dct false .nil .nil) .nil)) .nil))))))))))))) t_law_no_names_0)
def b_law_no_names : CSs := (.cons (.asg (.nam 1) (.lst false (.cons (.cst (.str "")) (.cons (.bin .add false (.var 0) (.cst (.str "abcdefgh"))) (.cons (.bmt .upper false (.var 0) .nil) (.cons (.bin .add false (.slc (.var 0) .non (.som (.cst (.int 7)))) (.cst (.str "1"))) (.cons (.bin .add false (.slc (.var 0) .non (.som (.cst (.int 6)))) (.cst (.str " a"))) (.cons (.cst (.str " ")) (.cons (.bin .add false (.slc (.var 0) .non (.som (.cst (.int 7)))) (.cst (.str "-"))) (.cons (.cst (.str "a\n")) .nil)))))))))) t_law_no_names_1)
def d_law_no_names : Df := ⟨"_law_no_names", none, 1, 2, true, b_law_no_names⟩
def t_law_no_fractions_0 : CSs := (.cons (.ret (.bin .add false (.var 1) (.lst false (.cons (.tup (.cons (.bin .pow false (.cst (.int 10)) (.cst (.int 40))) (.cons (.cst (.int 1)) .nil))) (.cons (.tup (.cons (.cst (.int 1)) (.cons (.bin .pow false (.cst (.int 10)) (.cst (.int 40))) .nil))) (.cons (.tup (.cons (.dct false .nil .nil) (.cons (.cst (.int 1)) .nil))) (.cons (.tup (.cons (.tup (.cons (.cst (.int 1)) (.cons (.cst (.int 2)) .nil))) (.cons (.cst (.int 1)) .nil))) (.cons (.tup (.cons (.lst false (.cons (.cst (.int 1)) (.cons (.cst (.int 2)) .nil))) .nil)) .nil)))))))) .nil)
def t_law_no_fractions_1 : CSs := (.cons (.expr (.bmt .append false (.var 1) (.cons (.tup (.cons (.bin .sub false (.bin .sub false (.cst (.int 0)) (.bin .mul false (.var 0) (.cst (.int 1000)))) (.cst (.int 1))) (.cons (.cst (.int 1000)) .nil))) .nil))) t_law_no_fractions_0)
def t_law_no_fractions_2 : CSs := (.cons (.asg (.nam 1) (.bin .add true (.var 1) (.lst false (.cons (.tup (.cons (.tup (.cons (.cst (.int 1)) (.cons (.cst (.int 2)) .nil))) .nil)) (.cons (.tup (.cons (.bin .add false (.var 0) (.cst (.int 1))) (.cons (.cst (.int 1)) .nil))) (.cons (.tup (.cons (.bin .add false (.bin .mul false (.var 0) (.cst (.int 1000))) (.cst (.int 1))) (.cons (.cst (.int 1000)) .nil))) (.cons (.tup (.cons (.cst (.int 1)) (.cons (.cst (.int 1001)) .nil))) (.cons (.tup (.cons (.bin .sub false (.bin .sub false (.cst (.int 0)) (.var 0)) (.cst (.int 1))) (.cons (.cst (.int 1)) .nil))) .nil)))))))) t_law_no_fractions_1)
def t_law_no_fractions_3 : CSs := (.cons (.asg (.nam 1) (.bin .add true (.var 1) (.lst false (.cons (.tup (.cons (.cst (.bool true)) (.cons (.cst (.int 1)) .nil))) (.cons (.tup (.cons (.cst (.int 1)) (.cons (.cst (.bool true)) .nil))) (.cons (.tup (.cons (.cst (.bool false)) (.cons (.cst (.int 1)) .nil))) (.cons (.tup (.cons (.cst (.str "1")) (.cons (.cst (.int 1)) .nil))) (.cons (.tup (.cons (.cst (.int 1)) (.cons (.cst (.str "1")) .nil))) (.cons (.tup (.cons (.cst .none) (.cons (.cst (.int 1)) .nil))) (.cons (.tup (.cons (.cst (.int 1)) (.cons (.cst .none) .nil))) (.cons (.tup (.cons (.lst false .nil) (.cons (.cst (.int 1)) .nil))) (.cons (.tup (.cons (.cst (.int 1)) (.cons (.lst false .nil) .nil))) .nil)))))))))))) t_law_no_fractions_2)
def b_law_no_fractions : CSs := (.cons (.asg (.nam 1) (.lst true (.cons (.cst .none) (.cons (.cst (.int 0)) (.cons (.cst (.int 1)) (.cons (.cst (.bool true)) (.cons (.cst (.str "1")) (.cons (.cst (.str "1/2")) (.cons (.lst false (.cons (.cst (.int 1)) (.cons (.cst (.int 2)) .nil))) (.cons (.tup .nil) (.cons (.tup (.cons (.cst (.int 1)) .nil)) (.cons (.tup (.cons (.cst (.int 1)) (.cons (.cst (.int 2)) (.cons (.cst (.int 3)) .nil)))) (.cons (.tup (.cons (.cst (.int 2)) (.cons (.cst (.int 4)) .nil))) (.cons (.tup (.cons (.cst (.int 0)) (.cons (.cst (.int 2)) .nil))) (.cons (.tup (.cons (.cst (.int 1)) (.cons (.cst (.int 0)) .nil))) (.cons (.tup (.cons (.cst (.int 1)) (.cons (.neg (.cst (.int 2))) .nil))) (.cons (.tup (.cons (.neg (.cst (.int 3))) (.cons (.cst (.int 3)) .nil))) (.cons (.dct false .nil .nil) .nil)))))))))))))))))) t_law_no_fractions_3)
def d_law_no_fractions : Df := ⟨"_law_no_fractions", none, 1, 2, false, b_law_no_fractions⟩
def t_law_good_0 : CSs := (.cons (.ret (.var 2)) .nil)
def t_law_good_1 : CSs := (.cons (.expr (.bmt .append false (.var 2) (.cons (.bin .add false (.tup (.cons (.cst (.str "mark")) (.cons (.idx (.idx (.var 1) (.cst (.int 0))) (.var 3)) (.cons (.idx (.idx (.var 1) (.cst (.int 1))) (.cst (.int 2))) (.cons (.idx (.idx (.var 1) (.cst (.int 2))) (.var 3)) (.cons (.var 5) .nil)))))) (.var 4)) .nil))) .nil)
def t_law_good_2 : CSs := (.cons (.asg (.nam 2) (.bin .add true (.var 2) (.lst false (.cons (.bin .add false (.tup (.cons (.cst (.str "habit")) (.cons (.idx (.idx (.var 1) (.cst (.int 0))) (.cst (.int 0))) .nil))) (.var 4)) (.cons (.bin .add false (.tup (.cons (.cst (.str "gain")) (.cons (.idx (.idx (.var 1) (.cst (.int 2))) (.cst (.int 1))) .nil))) (.var 4)) .nil))))) t_law_good_1)
def t_law_good_3 : CSs := (.cons (.asg (.nam 5) (.idx (.lst false (.cons (.cst (.int 0)) (.cons (.cst (.int 999)) (.cons (.call f_law_take (.cons (.var 0) (.cons (.cst (.int 1000)) .nil))) .nil)))) (.call f_law_take (.cons (.var 0) (.cons (.cst (.int 3)) .nil))))) t_law_good_2)
def l_law_good_4 : CSs := (.cons (.asg (.nam 4) (.tup (.cons (.call f_law_ends (.cons (.var 0) (.cons (.bin .pow false (.cst (.int 10)) (.cst (.int 6))) .nil))) (.cons (.call f_law_size (.cons (.call f_law_ends (.cons (.var 0) (.cons (.cst (.int 1000)) .nil))) .nil)) .nil)))) t_law_good_3)
def t_law_good_5 : CSs := (.cons (.for_ (.nam 3) (.rng1 (.cst (.int 2))) l_law_good_4) t_law_good_0)
def b_law_good : CSs := (.cons (.asg (.nam 2) (.lst true .nil)) t_law_good_5)
def d_law_good : Df := ⟨"_law_good", none, 2, 6, false, b_law_good⟩
def e_law_ways_0 : CE := (.bin .add false (.slc (.var 0) .non (.som (.neg (.cst (.int 1))))) (.tup (.cons (.var 5) .nil)))
def t_law_ways_1 : CSs := (.cons (.ret (.bin .add false (.var 2) (.comp false [("_law_odd", 5)] (.nam 5) (.ex (.bin .add false (.call f_law_no_fractions (.cons (.cst (.int 1000)) .nil)) (.lst false (.cons (.tup (.cons (.neg (.cst (.int 1))) (.cons (.cst (.int 1)) .nil))) (.cons (.tup (.cons (.neg (.cst (.int 1))) (.cons (.cst (.int 1000)) .nil))) .nil))))) .nil e_law_ways_0))) .nil)
def e_law_ways_2 : CE := (.bin .add false (.bin .add false (.slc (.var 0) .non (.som (.neg (.cst (.int 2))))) (.tup (.cons (.var 5) .nil))) (.slc (.var 0) (.som (.neg (.cst (.int 1)))) .non))
def t_law_ways_3 : CSs := (.cons (.asg (.nam 2) (.bin .add true (.var 2) (.comp false [("_law_odd", 5)] (.nam 5) (.ex (.call f_law_no_fractions (.cons (.bin .pow false (.cst (.int 10)) (.cst (.int 6))) .nil))) .nil e_law_ways_2))) t_law_ways_1)
def l_law_ways_4 : CSs := (.cons (.expr (.bmt .append false (.var 2) (.cons (.bin .add false (.bin .add false (.slc (.var 0) .non (.som (.cst (.int 4)))) (.tup (.cons (.var 6) .nil))) (.slc (.var 0) (.som (.cst (.int 5))) .non)) .nil))) .nil)
def t_law_ways_5 : CSs := (.cons (.ifs (.cmp .eq (.blt .len false (.cons (.var 0) .nil)) (.cst (.int 7))) (.cons (.for_ (.nam 6) (.ex (.lst false (.cons (.neg (.cst (.int 1))) (.cons (.cst (.int 1000)) (.cons (.bin .pow false (.cst (.int 10)) (.cst (.int 20))) (.cons (.cst (.bool true)) (.cons (.cst (.bool false)) (.cons (.cst .none) (.cons (.cst (.str "3")) (.cons (.cst (.str "")) (.cons (.lst false (.cons (.cst (.int 3)) .nil)) (.cons (.tup (.cons (.cst (.int 3)) .nil)) (.cons (.dct false .nil .nil) (.cons (.tup (.cons (.cst (.int 0)) (.cons (.cst (.int 1)) .nil))) .nil)))))))))))))) l_law_ways_4) .nil) .nil) t_law_ways_3)
def e_law_ways_6 : CE := (.bin .add false (.bin .add false (.slc (.var 0) .non (.som (.var 4))) (.tup (.cons (.var 5) .nil))) (.slc (.var 0) (.som (.bin .add false (.var 4) (.cst (.int 1)))) .non))
def l_law_ways_7 : CSs := (.cons (.asg (.nam 2) (.bin .add true (.var 2) (.comp false [("_law_odd", 5)] (.nam 5) (.ex (.call f_law_no_names (.cons (.idx (.var 0) (.var 4)) .nil))) .nil e_law_ways_6))) .nil)
def t_law_ways_8 : CSs := (.cons (.for_ (.nam 4) (.rng2 (.cst (.int 1)) (.bin .sub false (.bin .sub false (.blt .len false (.cons (.var 0) .nil)) (.cst (.int 2))) (.blt .int false (.cons (.cmp .eq (.blt .len false (.cons (.var 0) .nil)) (.cst (.int 7))) .nil)))) l_law_ways_7) t_law_ways_5)
def e_law_ways_9 : CE := (.bin .add false (.tup (.cons (.var 3) .nil)) (.slc (.var 0) (.som (.cst (.int 1))) .non))
def t_law_ways_10 : CSs := (.cons (.setc 2 (.comp true [("_law_word", 3)] (.nam 3) (.ex (.var 1)) .nil e_law_ways_9)) t_law_ways_8)
def b_law_ways : CSs := (.cons (.asg (.nam 1) (.lst false (.cons (.cst (.str "")) (.cons (.bin .add false (.idx (.var 0) (.cst (.int 0))) (.cst (.str "s"))) (.cons (.bmt .upper false (.idx (.var 0) (.cst (.int 0))) .nil) (.cons (.cst (.str "cloud")) (.cons (.cst (.str "moment")) (.cons (.cst .none) (.cons (.cst (.int 7)) (.cons (.cst (.bool true)) (.cons (.lst false .nil) (.cons (.lst false (.cons (.idx (.var 0) (.cst (.int 0))) .nil)) (.cons (.tup (.cons (.idx (.var 0) (.cst (.int 0))) .nil)) (.cons (.dct false .nil .nil) .nil)))))))))))))) t_law_ways_10)
def d_law_ways : Df := ⟨"_law_ways", none, 1, 7, false, b_law_ways⟩
def t_law_no_entries_0 : CSs := (.cons (.ret (.bin .add false (.var 1) (.call f_law_ways (.cons (.var 0) .nil)))) .nil)
def t_law_no_entries_1 : CSs := (.cons (.ifs (.cmp .eq (.blt .len false (.cons (.var 0) .nil)) (.cst (.int 7))) (.cons (.asg (.nam 1) (.bin .add true (.var 1) (.lst false (.cons (.bin .add false (.tup (.cons (.cst (.str "habit")) .nil)) (.slc (.var 0) (.som (.cst (.int 1))) .non)) (.cons (.bin .add false (.bin .add false (.tup (.cons (.cst (.str "gain")) .nil)) (.slc (.var 0) (.som (.cst (.int 1))) (.som (.cst (.int 2))))) (.slc (.var 0) (.som (.cst (.int 4))) .non)) .nil))))) .nil) (.cons (.expr (.bmt .append false (.var 1) (.cons (.bin .add false (.tup (.cons (.cst (.str "mark")) .nil)) (.slc (.var 0) (.som (.cst (.int 1))) .non)) .nil))) .nil)) t_law_no_entries_0)
def t_law_no_entries_2 : CSs := (.cons (.asg (.nam 1) (.bin .add true (.var 1) (.lst false (.cons (.idx (.var 0) (.cst (.int 0))) (.cons (.cst .none) (.cons (.cst (.int 7)) (.cons (.cst (.bool true)) (.cons (.dct false .nil .nil) (.cons (.slc (.var 0) .non (.som (.cst (.int 1)))) (.cons (.rev (.var 0)) (.cons (.bin .add false (.slc (.var 0) .non (.som (.cst (.int 2)))) (.slc (.var 0) (.som (.cst (.int 3))) .non)) .nil))))))))))) t_law_no_entries_1)
def b_law_no_entries : CSs := (.cons (.asg (.nam 1) (.lst true (.cons (.slc (.var 0) .non (.som (.neg (.cst (.int 1))))) (.cons (.bin .add false (.var 0) (.tup (.cons (.idx (.var 0) (.neg (.cst (.int 1)))) .nil))) (.cons (.bin .add false (.var 0) (.tup (.cons (.cst .none) .nil))) (.cons (.blt .list false (.cons (.var 0) .nil)) (.cons (.tup (.cons (.var 0) .nil)) (.cons (.lst false (.cons (.var 0) .nil)) (.cons (.slc (.var 0) (.som (.cst (.int 1))) .non) (.cons (.tup .nil) .nil)))))))))) t_law_no_entries_2)
def d_law_no_entries : Df := ⟨"_law_no_entries", none, 1, 2, false, b_law_no_entries⟩
def e_law_0 : CE := (.call f_law_is (.cons (.call f_is_entry (.cons (.var 6) .nil)) (.cons (.cst (.bool false)) .nil)))
def l_law_1 : CSs := (.cons (.ifs (.not (.blt .all false (.cons (.comp false [("_law_thing", 6)] (.nam 6) (.ex (.call f_law_no_entries (.cons (.var 5) .nil))) .nil e_law_0) .nil))) (.cons (.ret (.cst (.bool false))) .nil) .nil) .nil)
def e_law_2 : CE := (.call f_law_is (.cons (.call f_is_entry (.cons (.var 5) .nil)) (.cons (.cst (.bool true)) .nil)))
def l_law_3 : CSs := (.cons (.asg (.nam 2) (.call f_law_pool (.cons (.call f_law_cell (.cons (.var 0) (.cons (.var 1) .nil))) .nil))) (.cons (.asg (.nam 3) (.call f_law_sorts (.cons (.var 2) .nil))) (.cons (.asg (.nam 4) (.call f_law_good (.cons (.var 2) (.cons (.var 3) .nil)))) (.cons (.ifs (.not (.blt .all false (.cons (.comp false [("_law_entry", 5)] (.nam 5) (.ex (.var 4)) .nil e_law_2) .nil))) (.cons (.ret (.cst (.bool false))) .nil) .nil) (.cons (.for_ (.nam 5) (.ex (.slc (.slc (.var 4) (.som (.call f_law_take (.cons (.var 2) (.cons (.cst (.int 4)) .nil)))) .non) .non (.som (.cst (.int 3))))) l_law_1) .nil)))))
def b_law : CSs := (.cons (.for_ (.nam 1) (.rng1 (.blt .max2 false (.cons (.cst (.int 1)) (.cons (.blt .min2 false (.cons (.blt .len false (.cons (.var 0) .nil)) (.cons (.cst (.int 10)) .nil))) .nil)))) l_law_3) (.cons (.ret (.cst (.bool true))) .nil))
def d_law : Df := ⟨"law", none, 1, 7, true, b_law⟩
def m_law : DefM := ⟨d_law, ("law", none), "law", ["_law_script", "_law_k", "_law_pool_here", "_law_names_here", "_law_entries", "_law_entry", "_law_thing"], top 32⟩
def L : List DefM := [⟨d_is_whole, ("is_whole", none), "is_whole", ["thing"], top 1⟩,
  ⟨d_shared, ("shared", none), "shared", ["one", "other"], top 2⟩,
  ⟨d_is_fraction, ("is_fraction", none), "is_fraction", ["thing"], top 3⟩,
  ⟨d_is_name, ("is_name", none), "is_name", ["thing", "sign"], top 7⟩,
  ⟨d_is_night, ("is_night", none), "is_night", ["thing"], top 13⟩,
  ⟨d_is_told, ("is_told", none), "is_told", ["thing", "least", "most"], top 14⟩,
  ⟨d_are_ends, ("are_ends", none), "are_ends", ["amount", "good"], top 15⟩,
  ⟨d_is_entry, ("is_entry", none), "is_entry", ["thing", "name"], top 16⟩,
  ⟨d_law_cell, ("_law_cell", none), "_law_cell", ["_law_script", "_law_k", "_law_state", "_law_cell_here"], top 18⟩,
  ⟨d_law_pool, ("_law_pool", none), "_law_pool", ["_law_cell_here", "_law_digits"], top 19⟩,
  ⟨d_law_take, ("_law_take", none), "_law_take", ["_law_pool_here", "_law_many", "_law_state", "_law_digit"], top 20⟩,
  ⟨d_law_low, ("_law_low", none), "_law_low", ["_law_top", "_law_bottom", "_law_a", "_law_b"], top 21⟩,
  ⟨d_law_size, ("_law_size", none), "_law_size", ["_law_one"], top 22⟩,
  ⟨d_law_names, ("_law_names", none), "_law_names", ["_law_pool_here", "_law_many", "_law_words", "_law_at", "_law_step", "_law_k", "_law_letters", "_law_stem", "_law_put", "_law_first"], top 23⟩,
  ⟨d_law_ends, ("_law_ends", none), "_law_ends", ["_law_pool_here", "_law_most", "_law_bottom", "_law_size_here", "_law_way"], top 24⟩,
  ⟨d_law_sorts, ("_law_sorts", none), "_law_sorts", ["_law_pool_here", "_law_names_here"], top 25⟩,
  ⟨d_law_is, ("_law_is", none), "_law_is", ["_law_found", "_law_due"], top 26⟩,
  ⟨d_law_no_names, ("_law_no_names", none), "_law_no_names", ["_law_name", "_law_found"], top 27⟩,
  ⟨d_law_no_fractions, ("_law_no_fractions", none), "_law_no_fractions", ["_law_most", "_law_found"], top 28⟩,
  ⟨d_law_good, ("_law_good", none), "_law_good", ["_law_pool_here", "_law_names_here", "_law_found", "_law_turn", "_law_ends_here", "_law_night"], top 29⟩,
  ⟨d_law_ways, ("_law_ways", none), "_law_ways", ["_law_entry", "_law_words", "_law_found", "_law_word", "_law_k", "_law_odd", "_law_night"], top 30⟩,
  ⟨d_law_no_entries, ("_law_no_entries", none), "_law_no_entries", ["_law_entry", "_law_found"], top 31⟩,
  ⟨d_law, ("law", none), "law", ["_law_script", "_law_k", "_law_pool_here", "_law_names_here", "_law_entries", "_law_entry", "_law_thing"], top 32⟩]
def S : Sg := { T := [d_is_whole, d_shared, d_is_fraction, d_is_name, d_is_night, d_is_told, d_are_ends, d_is_entry, d_law_cell, d_law_pool, d_law_take, d_law_low, d_law_size, d_law_names, d_law_ends, d_law_sorts, d_law_is, d_law_no_names, d_law_no_fractions, d_law_good, d_law_ways, d_law_no_entries, d_law], glbs := [("LETTERS", (.str "abcdefghijklmnopqrstuvwxyz")), ("MOST_LETTERS", (.int 8)), ("LAST_NIGHT", (.int 999)), ("MOST_BOTTOM", (.int 1000)), ("MOST_GOOD", (.int 1000)), ("MOST_MOMENT", (.int 1000000))], frees := ["abs", "all", "bool", "divmod", "int", "isinstance", "len", "list", "max", "min", "range", "str", "tuple"], excs := [], plain := [] }
/-- where a body runs -/
noncomputable def cc (n : Nat) : Cc := ⟨S.glb, M.run S.glb S.T n, whM⟩
@[simp] theorem cc_call (n : Nat) : (cc n).call = M.run S.glb S.T n := rfl
@[simp] theorem cc_wh (n : Nat) : (cc n).wh = whM := rfl
@[simp] theorem cc_glb (n : Nat) : (cc n).glb = S.glb := rfl
@[simp] theorem glb_0 : S.glb 0 = some (.str "abcdefghijklmnopqrstuvwxyz") := rfl
@[simp] theorem glb_1 : S.glb 1 = some (.int 8) := rfl
@[simp] theorem glb_2 : S.glb 2 = some (.int 999) := rfl
@[simp] theorem glb_3 : S.glb 3 = some (.int 1000) := rfl
@[simp] theorem glb_4 : S.glb 4 = some (.int 1000) := rfl
@[simp] theorem glb_5 : S.glb 5 = some (.int 1000000) := rfl
theorem run_is_whole (n : Nat) (w0 : W) (h : Hh) : M.run S.glb S.T (n + 1) f_is_whole [w0] h = finish true h.length (exs (cc n) b_is_whole [some w0] h) := run_at (d := d_is_whole) rfl rfl
theorem run_shared (n : Nat) (w0 w1 : W) (h : Hh) : M.run S.glb S.T (n + 1) f_shared [w0, w1] h = finish true h.length (exs (cc n) b_shared [some w0, some w1] h) := run_at (d := d_shared) rfl rfl
theorem run_is_fraction (n : Nat) (w0 : W) (h : Hh) : M.run S.glb S.T (n + 1) f_is_fraction [w0] h = finish true h.length (exs (cc n) b_is_fraction [some w0] h) := run_at (d := d_is_fraction) rfl rfl
theorem run_is_name (n : Nat) (w0 : W) (h : Hh) : M.run S.glb S.T (n + 1) f_is_name [w0] h = finish true h.length (exs (cc n) b_is_name [some w0, none] h) := run_at (d := d_is_name) rfl rfl
theorem run_is_night (n : Nat) (w0 : W) (h : Hh) : M.run S.glb S.T (n + 1) f_is_night [w0] h = finish true h.length (exs (cc n) b_is_night [some w0] h) := run_at (d := d_is_night) rfl rfl
theorem run_is_told (n : Nat) (w0 w1 w2 : W) (h : Hh) : M.run S.glb S.T (n + 1) f_is_told [w0, w1, w2] h = finish true h.length (exs (cc n) b_is_told [some w0, some w1, some w2] h) := run_at (d := d_is_told) rfl rfl
theorem run_are_ends (n : Nat) (w0 w1 : W) (h : Hh) : M.run S.glb S.T (n + 1) f_are_ends [w0, w1] h = finish true h.length (exs (cc n) b_are_ends [some w0, some w1] h) := run_at (d := d_are_ends) rfl rfl
theorem run_is_entry (n : Nat) (w0 : W) (h : Hh) : M.run S.glb S.T (n + 1) f_is_entry [w0] h = finish true h.length (exs (cc n) b_is_entry [some w0, none] h) := run_at (d := d_is_entry) rfl rfl
theorem run_law_cell (n : Nat) (w0 w1 : W) (h : Hh) : M.run S.glb S.T (n + 1) f_law_cell [w0, w1] h = finish true h.length (exs (cc n) b_law_cell [some w0, some w1, none, none] h) := run_at (d := d_law_cell) rfl rfl
theorem run_law_pool (n : Nat) (w0 : W) (h : Hh) : M.run S.glb S.T (n + 1) f_law_pool [w0] h = finish true h.length (exs (cc n) b_law_pool [some w0, none] h) := run_at (d := d_law_pool) rfl rfl
theorem run_law_take (n : Nat) (w0 w1 : W) (h : Hh) : M.run S.glb S.T (n + 1) f_law_take [w0, w1] h = finish true h.length (exs (cc n) b_law_take [some w0, some w1, none, none] h) := run_at (d := d_law_take) rfl rfl
theorem run_law_low (n : Nat) (w0 w1 : W) (h : Hh) : M.run S.glb S.T (n + 1) f_law_low [w0, w1] h = finish true h.length (exs (cc n) b_law_low [some w0, some w1, none, none] h) := run_at (d := d_law_low) rfl rfl
theorem run_law_size (n : Nat) (w0 : W) (h : Hh) : M.run S.glb S.T (n + 1) f_law_size [w0] h = finish true h.length (exs (cc n) b_law_size [some w0] h) := run_at (d := d_law_size) rfl rfl
theorem run_law_names (n : Nat) (w0 w1 : W) (h : Hh) : M.run S.glb S.T (n + 1) f_law_names [w0, w1] h = finish true h.length (exs (cc n) b_law_names [some w0, some w1, none, none, none, none, none, none, none, none] h) := run_at (d := d_law_names) rfl rfl
theorem run_law_ends (n : Nat) (w0 w1 : W) (h : Hh) : M.run S.glb S.T (n + 1) f_law_ends [w0, w1] h = finish true h.length (exs (cc n) b_law_ends [some w0, some w1, none, none, none] h) := run_at (d := d_law_ends) rfl rfl
theorem run_law_sorts (n : Nat) (w0 : W) (h : Hh) : M.run S.glb S.T (n + 1) f_law_sorts [w0] h = finish true h.length (exs (cc n) b_law_sorts [some w0, none] h) := run_at (d := d_law_sorts) rfl rfl
theorem run_law_is (n : Nat) (w0 w1 : W) (h : Hh) : M.run S.glb S.T (n + 1) f_law_is [w0, w1] h = finish true h.length (exs (cc n) b_law_is [some w0, some w1] h) := run_at (d := d_law_is) rfl rfl
theorem run_law_no_names (n : Nat) (w0 : W) (h : Hh) : M.run S.glb S.T (n + 1) f_law_no_names [w0] h = finish true h.length (exs (cc n) b_law_no_names [some w0, none] h) := run_at (d := d_law_no_names) rfl rfl
theorem run_law_no_fractions (n : Nat) (w0 : W) (h : Hh) : M.run S.glb S.T (n + 1) f_law_no_fractions [w0] h = finish false h.length (exs (cc n) b_law_no_fractions [some w0, none] h) := run_at (d := d_law_no_fractions) rfl rfl
theorem run_law_good (n : Nat) (w0 w1 : W) (h : Hh) : M.run S.glb S.T (n + 1) f_law_good [w0, w1] h = finish false h.length (exs (cc n) b_law_good [some w0, some w1, none, none, none, none] h) := run_at (d := d_law_good) rfl rfl
theorem run_law_ways (n : Nat) (w0 : W) (h : Hh) : M.run S.glb S.T (n + 1) f_law_ways [w0] h = finish false h.length (exs (cc n) b_law_ways [some w0, none, none, none, none, none, none] h) := run_at (d := d_law_ways) rfl rfl
theorem run_law_no_entries (n : Nat) (w0 : W) (h : Hh) : M.run S.glb S.T (n + 1) f_law_no_entries [w0] h = finish false h.length (exs (cc n) b_law_no_entries [some w0, none] h) := run_at (d := d_law_no_entries) rfl rfl
theorem run_law (n : Nat) (w0 : W) (h : Hh) : M.run S.glb S.T (n + 1) f_law [w0] h = finish true h.length (exs (cc n) b_law [some w0, none, none, none, none, none, none] h) := run_at (d := d_law) rfl rfl
theorem okL : (L.all fun m => m.okB S && m.atB) = true := by kernel_rfl
def names0 : List PySem.Str := ["__name__", "is_whole", "shared", "is_fraction", "LETTERS", "MOST_LETTERS", "is_name", "LAST_NIGHT", "MOST_BOTTOM", "MOST_MOMENT", "MOST_GOOD", "is_night", "is_told", "are_ends", "is_entry", "_law_cell", "_law_pool", "_law_take", "_law_low", "_law_size", "_law_names", "_law_ends", "_law_sorts", "_law_is", "_law_no_names", "_law_no_fractions", "_law_good", "_law_ways", "_law_no_entries"]
def names : List PySem.Str := names0
abbrev R : PySem.W.OpenRow := PySem.W.OpenLaw.row PySem.Challenge.rw_markhabits_k03_entries_of_any_things
abbrev hk : PySem.W.Hook := hookM S L 5
def ob (s : PySem.W.SharedT) : AlM := obM S L 5 (HandSHeadRun.getT s)
theorem ob_eq (s : PySem.W.SharedT) : ob s = hk.obs s.abs := obM_eq (HandSHeadRun.getT_eq s)
end K03
namespace K03
open PySem M
/-! ### what the program tells of any thing -/
def wholeD : D → Bool
  | .int _ => true
  | _ => false
def fracD : D → Bool
  | .tuple [.int a, .int b] => decide (0 < b) && decide (Int.gcd a b = 1)
  | _ => false
theorem gcd_step (x y : Int) : Int.gcd y (x % y) = Int.gcd x y := by
  rw [Int.emod_def, Int.gcd_sub_mul_left_right, Int.gcd_comm]
theorem gcd_abs (a b : Int) : Int.gcd (a.natAbs : Int) b = Int.gcd a b := by
  simp [Int.gcd]
section
variable {n : Nat} {h : Hh} {Q : W → Hh → Prop} {E : Nat → Hh → Prop}
theorem r_is_whole (d : D) : M.run S.glb S.T (n + 1) f_is_whole [.dat d] h = .ok (.dat (.bool (wholeD d))) h := by
  rw [run_is_whole]
  cases d <;> rfl
theorem s_shared (a b : Int) (ha : 0 ≤ a) (hb : 0 ≤ b) (q : Q (.dat (.int (Int.gcd a b))) h) : okW (M.run S.glb S.T (n + 1) f_shared [.dat (.int a), .dat (.int b)] h) Q E := by
  rw [run_shared]
  apply okW_keep
  unfold b_shared
  rw [exs_cons, okS_bind, ex_whil]
  refine okS_while (fun m e h' => ∃ x y : Int, e = [some (.dat (.int x)), some (.dat (.int y))] ∧ 0 ≤ x ∧ 0 ≤ y ∧ Int.gcd x y = Int.gcd a b ∧ m = y.toNat ∧ h' = h) ?_ b.toNat _ _ ⟨a, b, rfl, ha, hb, rfl, rfl, rfl⟩
  rintro m e h' ⟨x, y, rfl, hx, hy, g, rfl, rfl⟩
  simp [c_shared_0, l_shared_1]
  refine ⟨fun l => ⟨l, (x % y).toNat, ?_, y, x % y, ⟨rfl, rfl⟩, hy, Int.emod_nonneg _ (by omega), by rw [gcd_step, g], rfl⟩, fun l => ?_⟩
  · have := Int.emod_lt_of_pos x l
    have := Int.emod_nonneg x (show y ≠ 0 by omega)
    omega
  · have : y = 0 := by omega
    subst this
    rw [Int.gcd_zero_right] at g
    rw [show x = ((Int.gcd a b : Nat) : Int) by omega]
    exact q
theorem tyTup (d : D) : tyIs .tuple (.dat d) = some (match d with | .tuple _ => true | _ => false) := by cases d <;> rfl
theorem s_is_fraction (d : D) (q : Q (.dat (.bool (fracD d))) h) : okW (M.run S.glb S.T (n + 2) f_is_fraction [.dat d] h) Q E := by
  rw [run_is_fraction]
  apply okW_keep
  cases d with
  | tuple l =>
    match l, q with
    | [], q => simpa [b_is_fraction, okS_ite, okW_ite, fracD] using q
    | [a], q => simpa [b_is_fraction, okS_ite, okW_ite, fracD] using q
    | a :: b :: c :: l, q =>
      have e : fracD (.tuple (a :: b :: c :: l)) = false := by cases a <;> cases b <;> rfl
      rw [e] at q
      simp [b_is_fraction, okS_ite, okW_ite]
      have : ¬ ((l.length : Int) + 1 + 1 + 1 = 2) := by omega
      simp [this]
      exact q
    | [a, b], q =>
      simp [b_is_fraction, okS_ite, okW_ite, r_is_whole]
      cases a with
      | int a =>
        cases b with
        | int b =>
          simp [wholeD]
          by_cases z : 0 < b
          · right
            refine ⟨z, s_shared _ _ (by omega) (by omega) ?_⟩
            simp [gcd_abs]
            by_cases g : Int.gcd a b = 1
            · right
              simpa [fracD, z, g] using q
            · left
              refine ⟨by omega, ?_⟩
              simpa [fracD, z, g] using q
          · left
            refine ⟨by omega, ?_⟩
            simpa [fracD, z] using q
        | _ => simpa [wholeD, fracD] using q
      | _ => simpa [wholeD, fracD] using q
  | _ => simpa [b_is_fraction, okS_ite, okW_ite, fracD, tyTup] using q
end
end K03
namespace K03
open PySem M
/-! ### names -/
section
variable {n : Nat} {h : Hh} {Q : W → Hh → Prop} {E : Nat → Hh → Prop}
abbrev letters : Str := "abcdefghijklmnopqrstuvwxyz"
def letB (c : Nat) : Bool := decide (c ∈ letters.cps.toList)
def nameD : D → Bool
  | .str x => decide (1 ≤ x.length) && (decide (x.length ≤ 8) && x.cps.toList.all letB)
  | _ => false
/-- a text is no longer than the line -/
def shortD : D → Prop
  | .str x => x.length ≤ sizeL
  | _ => True
theorem in_let (c : Nat) : inStr ⟨#[c]⟩ letters = letB c := PySem.StrLaws.found_one letters c
theorem tyStr (d : D) : tyIs .str (.dat d) = some (match d with | .str _ => true | _ => false) := by cases d <;> rfl
theorem s_is_name (d : D) (sh : shortD d) (q : Q (.dat (.bool (nameD d))) h) : okW (M.run S.glb S.T (n + 1) f_is_name [.dat d] h) Q E := by
  rw [run_is_name]
  apply okW_keep
  cases d with
  | str x =>
    have sh : x.length ≤ sizeL := sh
    by_cases l1 : 1 ≤ x.length
    · by_cases l2 : x.length ≤ 8
      · have i1 : (1 : Int) ≤ x.length := by omega
        have i2 : (x.length : Int) ≤ 8 := by omega
        simp [b_is_name, okS_ite, okW_ite, tyStr, sh, i1, i2, itemsOf, strL]
        rw [compL_map (g := fun c => .bool (letB c))]
        · rw [show x.cps.toList.map (fun c => PyData.bool (letB c)) = (x.cps.toList.map letB).map PyData.bool by rw [List.map_map]; rfl]
          simp only [okW_ok, mkLst_map, dsOf_map, bi_all, bools_map]
          have e : nameD (.str x) = (x.cps.toList.map letB).all id := by
            simp [nameD, l1, l2, List.all_map]
          rw [e] at q
          exact q
        · intro c _
          simp [e_is_name_0, in_let]
        · simpa [Str.length] using sh
      · have i2 : ¬ (x.length : Int) ≤ 8 := by omega
        have e : nameD (.str x) = false := by simp [nameD, l2]
        rw [e] at q
        have i1 : (1 : Int) ≤ x.length := by omega
        simp [b_is_name, okS_ite, okW_ite, tyStr, sh, i1, i2]
        exact q
    · have i1 : ¬ (1 : Int) ≤ x.length := by omega
      have e : nameD (.str x) = false := by simp [nameD, l1]
      rw [e] at q
      simp [b_is_name, okS_ite, okW_ite, tyStr, sh, i1]
      exact q
  | _ => simpa [b_is_name, okS_ite, okW_ite, nameD, tyStr] using q
theorem r_is_name (d : D) (sh : shortD d) : M.run S.glb S.T (n + 1) f_is_name [.dat d] h = .ok (.dat (.bool (nameD d))) h := by
  obtain ⟨a, h', e, rfl, rfl⟩ := (s_is_name (n := n) (h := h) (E := noE) (Q := fun w h' => w = .dat (.bool (nameD d)) ∧ h' = h) d sh ⟨rfl, rfl⟩).get
  exact e
end
end K03
namespace K03
open PySem M
/-! ### entries -/
section
variable {n : Nat} {h : Hh} {Q : W → Hh → Prop} {E : Nat → Hh → Prop}
def nightD : D → Bool
  | .int i => decide (0 ≤ i) && decide (i ≤ 999)
  | _ => false
theorem s_is_night (d : D) (q : Q (.dat (.bool (nightD d))) h) : okW (M.run S.glb S.T (n + 2) f_is_night [.dat d] h) Q E := by
  rw [run_is_night]
  apply okW_keep
  simp [b_is_night, okS_ite, okW_ite, r_is_whole]
  cases d with
  | int i =>
    simp [wholeD]
    by_cases a : 0 ≤ i
    · by_cases b : i ≤ 999
      · simpa [nightD, a, b] using q
      · simpa [nightD, a, b] using q
    · simpa [nightD, a] using q
  | _ => simpa [wholeD, nightD] using q
/-- a fraction from least to most, its bottom to 1000 -/
def toldD (lo hi : Int) : D → Bool
  | .tuple [.int a, .int b] => decide (0 < b) && (decide (Int.gcd a b = 1) && (decide (b ≤ 1000) && (decide (lo * b ≤ a) && decide (a ≤ hi * b))))
  | _ => false
theorem fracD_inv {d : D} (e : fracD d = true) : ∃ a b : Int, d = .tuple [.int a, .int b] ∧ 0 < b ∧ Int.gcd a b = 1 := by
  unfold fracD at e
  split at e
  · rename_i a b
    have := and2 e
    exact ⟨a, b, rfl, of_decide_eq_true this.1, of_decide_eq_true this.2⟩
  · cases e
theorem toldD_no {d : D} (lo hi : Int) (e : fracD d = false) : toldD lo hi d = false := by
  unfold toldD
  split
  · rename_i a b
    have e : (decide (0 < b) && decide (Int.gcd a b = 1)) = false := e
    cases h1 : decide (0 < b) with
    | false => rfl
    | true =>
      rw [h1] at e
      have e : decide (Int.gcd a b = 1) = false := e
      rw [e]; rfl
  · rfl
theorem s_is_told (d : D) (lo hi : Int) (hl : sm 30 lo) (hh : sm 30 hi) (q : Q (.dat (.bool (toldD lo hi d))) h) : okW (M.run S.glb S.T (n + 3) f_is_told [.dat d, .dat (.int lo), .dat (.int hi)] h) Q E := by
  rw [run_is_told]
  apply okW_keep
  simp [b_is_told, okS_ite, okW_ite]
  refine s_is_fraction d ?_
  cases e : fracD d with
  | false =>
    rw [toldD_no lo hi e] at q
    simpa using q
  | true =>
    obtain ⟨a, b, rfl, hb, g⟩ := fracD_inv e
    simp
    by_cases l : b ≤ 1000
    · have nl : ¬ 1000 < b := by omega
      have m1 : bigMul lo b = true := sm.big (j := 30) (k := 30) (hl.mono (by decide)) (sm_of (by omega) (by simp; omega)) (by decide)
      have m2 : bigMul hi b = true := sm.big (j := 30) (k := 30) (hh.mono (by decide)) (sm_of (by omega) (by simp; omega)) (by decide)
      by_cases c1 : lo * b ≤ a
      · by_cases c2 : a ≤ hi * b
        · simpa [toldD, hb, g, l, nl, m1, m2, c1, c2] using q
        · simpa [toldD, hb, g, l, nl, m1, m2, c1, c2] using q
      · simpa [toldD, hb, g, l, nl, m1, m2, c1] using q
    · have nl : 1000 < b := by omega
      simpa [toldD, hb, g, l, nl] using q
def endsD (a g : D) : Bool := toldD (-1000000) 1000000 a && toldD 0 1000 g
theorem s_are_ends (a g : D) (q : Q (.dat (.bool (endsD a g))) h) : okW (M.run S.glb S.T (n + 4) f_are_ends [.dat a, .dat g] h) Q E := by
  rw [run_are_ends]
  apply okW_keep
  simp [b_are_ends, okS_ite, okW_ite]
  refine s_is_told a _ _ (by unfold sm; decide) (by unfold sm; decide) ?_
  cases e : toldD (-1000000) 1000000 a with
  | false => simpa [endsD, e] using q
  | true =>
    simp
    refine s_is_told g _ _ (by unfold sm; decide) (by unfold sm; decide) ?_
    cases e2 : toldD 0 1000 g with
    | false => simpa [endsD, e, e2] using q
    | true => simpa [endsD, e, e2] using q
def entryD : D → Bool
  | .tuple [.str w, x, a, g] => decide (w = "habit" ∨ w = "gain") && (nameD x && endsD a g)
  | .tuple [.str w, x, y, z, t, a, g] => decide (w = "mark") && (nameD x && (nameD y && (nameD z && (nightD t && endsD a g))))
  | _ => false
theorem in_words (w : Str) (s : shp (.str w) = true) : inSeq (.str w) [.str "habit", .str "gain"] = some (decide (w = "habit" ∨ w = "gain")) := by
  show (if (shp (.str w) && shp (.list [.str "habit", .str "gain"])) = true then some _ else none) = _
  rw [s, show shp (.list [.str "habit", .str "gain"]) = true by decide +kernel]
  show some ((("habit" : Str) == w) || ((("gain" : Str) == w) || false)) = some _
  rw [Bool.or_false]
  congr 1
  rw [Bool.eq_iff_iff, Bool.or_eq_true, beq_iff_eq, beq_iff_eq, decide_eq_true_eq]
  exact ⟨fun z => z.elim (fun e => .inl e.symm) fun e => .inr e.symm, fun z => z.elim (fun e => .inl e.symm) fun e => .inr e.symm⟩
theorem in_47 (k : Int) : inSeq (.int k) [.int 4, .int 7] = some (decide (k = 4 ∨ k = 7)) := by
  show some (((4 : Int) == k) || (((7 : Int) == k) || false)) = some _
  rw [Bool.or_false]
  congr 1
  rw [Bool.eq_iff_iff, Bool.or_eq_true, beq_iff_eq, beq_iff_eq, decide_eq_true_eq]
  exact ⟨fun z => z.elim (fun e => .inl e.symm) fun e => .inr e.symm, fun z => z.elim (fun e => .inl e.symm) fun e => .inr e.symm⟩
/-- the texts of an entry's parts are such that they may be compared -/
def okPart : D → Prop
  | .str x => x.length ≤ sizeL ∧ shp (.str x) = true
  | _ => True
theorem okPart.short {d : D} (o : okPart d) : shortD d := by
  cases d <;> first | exact o.1 | trivial
theorem s_entry4 (w : D) (x a g : D) (ow : okPart w) (ox : okPart x) (q : Q (.dat (.bool (entryD (.tuple [w, x, a, g])))) h) : okW (M.run S.glb S.T (n + 5) f_is_entry [.dat (.tuple [w, x, a, g])] h) Q E := by
  rw [run_is_entry]
  apply okW_keep
  cases w with
  | str w =>
    have q : Q (.dat (.bool (decide (w = "habit" ∨ w = "gain") && (nameD x && endsD a g)))) h := q
    simp [b_is_entry, okS_ite, okW_ite, in_47, tyStr, in_words w ow.2]
    refine ⟨fun hw => ?_, fun h1 h2 => ?_⟩
    · rw [decide_eq_true hw] at q
      refine s_is_name x ox.short ?_
      cases e : nameD x with
      | false => simpa [e] using q
      | true =>
        simp
        refine s_are_ends a g ?_
        cases e2 : endsD a g with
        | false => simpa [e, e2] using q
        | true => simpa [e, e2] using q
    · have hw : ¬ (w = "habit" ∨ w = "gain") := fun z => z.elim h1 h2
      rw [decide_eq_false hw] at q
      exact q
  | _ => simpa [b_is_entry, okS_ite, okW_ite, in_47, tyStr, entryD] using q
theorem r_is_night (d : D) : M.run S.glb S.T (n + 2) f_is_night [.dat d] h = .ok (.dat (.bool (nightD d))) h := by
  obtain ⟨a, h', e, rfl, rfl⟩ := (s_is_night (n := n) (h := h) (E := noE) (Q := fun w h' => w = .dat (.bool (nightD d)) ∧ h' = h) d ⟨rfl, rfl⟩).get
  exact e
theorem r_are_ends (a g : D) : M.run S.glb S.T (n + 4) f_are_ends [.dat a, .dat g] h = .ok (.dat (.bool (endsD a g))) h := by
  obtain ⟨a, h', e, rfl, rfl⟩ := (s_are_ends (n := n) (h := h) (E := noE) (Q := fun w h' => w = .dat (.bool (endsD a g)) ∧ h' = h) a g ⟨rfl, rfl⟩).get
  exact e
theorem s_entry7 (w x y z t a g : D) (ow : okPart w) (ox : okPart x) (oy : okPart y) (oz : okPart z) (q : Q (.dat (.bool (entryD (.tuple [w, x, y, z, t, a, g])))) h) : okW (M.run S.glb S.T (n + 5) f_is_entry [.dat (.tuple [w, x, y, z, t, a, g])] h) Q E := by
  rw [run_is_entry]
  apply okW_keep
  cases w with
  | str w =>
    have q : Q (.dat (.bool (decide (w = "mark") && (nameD x && (nameD y && (nameD z && (nightD t && endsD a g))))))) h := q
    have sl : cutL [.str w, x, y, z, t, a, g] (some 1) (some 4) = [x, y, z] := rfl
    simp [b_is_entry, okS_ite, okW_ite, in_47, tyStr, sl, e_is_entry_0, r_is_name _ ox.short, r_is_name _ oy.short, r_is_name _ oz.short, r_is_night, r_are_ends, sizeL]
    by_cases hw : w = "mark"
    · rw [decide_eq_true hw] at q
      refine ⟨fun _ => ?_, fun z => absurd hw z⟩
      cases e1 : nameD x <;> cases e2 : nameD y <;> cases e3 : nameD z <;> cases e4 : nightD t <;> cases e5 : endsD a g <;> simp [e1, e2, e3, e4, e5] at q ⊢ <;> exact q
    · rw [decide_eq_false hw] at q
      exact ⟨fun z => absurd z hw, fun _ => q⟩
  | _ => simpa [b_is_entry, okS_ite, okW_ite, in_47, tyStr, entryD] using q
def okAll : D → Prop
  | .tuple l => ∀ x ∈ l, okPart x
  | _ => True
theorem entry_len {l : List D} (n4 : l.length ≠ 4) (n7 : l.length ≠ 7) : entryD (.tuple l) = false := by
  unfold entryD
  split
  · rename_i e; cases e; exact absurd rfl n4
  · rename_i e; cases e; exact absurd rfl n7
  · rfl
theorem s_is_entry (d : D) (ok : okAll d) (q : Q (.dat (.bool (entryD d))) h) : okW (M.run S.glb S.T (n + 5) f_is_entry [.dat d] h) Q E := by
  cases d with
  | tuple l =>
    have ok : ∀ x ∈ l, okPart x := ok
    by_cases n4 : l.length = 4
    · match l, n4, ok, q with
      | [w, x, a, g], _, ok, q => exact s_entry4 w x a g (ok _ (by simp)) (ok _ (by simp)) q
    · by_cases n7 : l.length = 7
      · match l, n7, ok, q with
        | [w, x, y, z, t, a, g], _, ok, q => exact s_entry7 w x y z t a g (ok _ (by simp)) (ok _ (by simp)) (ok _ (by simp)) (ok _ (by simp)) q
      · rw [entry_len n4 n7] at q
        rw [run_is_entry]
        apply okW_keep
        have h4 : ¬ (l.length : Int) = 4 := by omega
        have h7 : ¬ (l.length : Int) = 7 := by omega
        simp [b_is_entry, okS_ite, okW_ite, in_47, h4, h7]
        exact q
  | _ =>
    rw [run_is_entry]
    apply okW_keep
    simpa [b_is_entry, okS_ite, okW_ite, tyTup, entryD] using q
end
end K03
namespace K03
open PySem M
/-! what is drawn: _law_cell, _law_pool, _law_take (with a counter) -/
/-- a pool stands at p; fewer than c were drawn; no object names another; but for the pool the heap is b -/
def At (p c : Nat) (g h : Hh) : Prop := (Flat h ∧ h.length = g.length ∧ ∀ k, k ≠ p → h[k]? = g[k]?) ∧ ∃ a b d : Int, h[p]? = some (.lst [.dat (.int a), .dat (.int b), .dat (.int d)]) ∧ 0 ≤ a ∧ a < 2147483549 ∧ 0 ≤ b ∧ 0 ≤ d ∧ d ≤ c
section
variable {n : Nat} {g h : Hh} {Q : W → Hh → Prop} {E : Nat → Hh → Prop}
theorem At.more {p c c' : Nat} (x : At p c g h) (l : c ≤ c') : At p c' g h := by
  obtain ⟨f, a, b, d, e, h1, h2, h3, h4, h5⟩ := x
  exact ⟨f, a, b, d, e, h1, h2, h3, h4, by omega⟩
theorem At.fl {p c : Nat} (x : At p c g h) : Flat h := x.1.1
theorem At.len {p c : Nat} (x : At p c g h) : h.length = g.length := x.1.2.1
theorem At.out {p c k : Nat} (x : At p c g h) (ne : k ≠ p) : h[k]? = g[k]? := x.1.2.2 k ne
theorem At.reb {p c : Nat} (x : At p c g h) : At p c h h := ⟨⟨x.1.1, rfl, fun _ _ => rfl⟩, x.2⟩
theorem At.lt {p c : Nat} (x : At p c g h) : p < h.length := by
  obtain ⟨_, a, b, d, e, _⟩ := x
  exact (List.getElem?_eq_some_iff.mp e).1
theorem s_take {p c : Nat} (m : Int) (x : At p c g h) (m0 : 0 < m) (m1 : m < 1073741824) (hc : c < 1000000) (q : ∀ v h', 0 ≤ v → v < m → At p (c + 1) g h' → Q (.dat (.int v)) h') : okW (M.run S.glb S.T (n + 1) f_law_take [.ref p, .dat (.int m)] h) Q E := by
  obtain ⟨⟨fl, len, out⟩, a, b, d, e, h1, h2, h3, h4, h5⟩ := x
  rw [run_law_take]
  apply okW_keep
  have hl : p < h.length := (List.getElem?_eq_some_iff.mp e).1
  have m2 : bigMul a (a % 47017 + 31013) = true := sm.big (j := 31) (k := 31) (sm_of h1 (by omega)) (sm_of (by omega) (by omega)) (by omega)
  have m3 : bigMul 90001 (d + 1) = true := sm.big (j := 31) (k := 31) (sm_of (by omega) (by omega)) (sm_of (by omega) (by omega)) (by omega)
  have m4 : okDiv 64 = true := by decide
  have m5 : okDiv m = true := sm.div (k := 30) (sm_of (by omega) (by simp; omega)) m0 (by decide)
  have fs : ∀ x y z : Int, Flat (h.set p (.lst [.dat (.int x), .dat (.int y), .dat (.int z)])) ∧ (h.set p (.lst [.dat (.int x), .dat (.int y), .dat (.int z)])).length = g.length ∧ ∀ k, k ≠ p → (h.set p (.lst [.dat (.int x), .dat (.int y), .dat (.int z)]))[k]? = g[k]? := fun x y z => ⟨fl.set p rfl, by rw [List.length_set]; exact len, fun k ne => by rw [List.getElem?_set_ne (Ne.symm ne)]; exact out k ne⟩
  simp [b_law_take, okS_ite, okW_ite, index_ref e, setAt_ref2 e, index_set hl, setAt_set0 hl, setAt_set1 hl, m2, m3, m4, m5, m0, m1]
  refine ⟨fun l => ?_, fun l => ?_⟩
  · exact q _ _ (Int.emod_nonneg _ (by omega)) (Int.emod_lt_of_pos _ m0) ⟨fs _ _ _, _, _, _, get_set hl _, by omega, by omega, Int.ediv_nonneg h3 (by omega), by omega, by omega⟩
  · exact q _ _ (Int.emod_nonneg _ (by omega)) (Int.emod_lt_of_pos _ m0) ⟨fs _ _ _, _, _, _, get_set hl _, by omega, by omega, h3, by omega, by omega⟩
theorem atI_lt {α : Type} (l : List α) (k : Int) (h0 : 0 ≤ k) (h1 : k < l.length) : ∃ v, atI l k = some v := by
  rw [show k = ((k.toNat : Nat) : Int) by omega, atI_nat]
  exact ⟨_, List.getElem?_eq_getElem (by omega)⟩
theorem s_cell (ns : List Int) (k : Int) (k0 : 0 ≤ k) (k1 : k < 1000000) (q : ∀ v, Q (.dat (.int v)) h) : okW (M.run S.glb S.T (n + 1) f_law_cell [.scr ns, .dat (.int k)] h) Q E := by
  rw [run_law_cell]
  apply okW_keep
  simp [b_law_cell, okS_ite, okW_ite]
  refine ⟨fun l => ?_, fun l => ?_⟩
  · obtain ⟨v, e⟩ := atI_lt ns k k0 l
    simp [e]
    exact q v
  · have m1 : bigMul 50021 (k + 2) = true := sm.big (j := 31) (k := 31) (sm_of (by decide) (by decide)) (sm_of (by omega) (by simp; omega)) (by decide)
    have m2 : bigMul (50021 * (k + 2)) (k + 9) = true := sm.big (j := 70) (k := 31) (sm_of (by omega) (by simp; omega)) (sm_of (by omega) (by simp; omega)) (by decide)
    simp [m1, m2, slice]
    refine okS_for (fun e h' => ∃ st t, e = [some (.scr ns), some (.dat (.int k)), some (.dat (.int st)), t] ∧ 0 ≤ st ∧ st < 2147483549 ∧ h' = h) _ _ _ ⟨_, _, rfl, by omega, by omega, rfl⟩ ?_ ?_
    · rintro w hw e h' ⟨st, t, rfl, s0, s1, rfl⟩
      obtain ⟨v, rfl⟩ : ∃ v : Int, w = .dat (.int v) := by
        simp at hw
        obtain ⟨v, _, rfl⟩ := hw
        exact ⟨v, rfl⟩
      have m3 : bigMul st 43013 = true := sm.big (j := 31) (k := 31) (sm_of s0 (by simp; omega)) (sm_of (by decide) (by decide)) (by decide)
      simp [l_law_cell_0, m3]
      omega
    · rintro e h' ⟨st, t, rfl, s0, s1, rfl⟩
      simp
      exact q _
theorem s_pool (i : Int) (fl : Flat h) (q : ∀ h', At h.length 0 h' h' → h'.length = h.length + 1 → (∀ k, k < h.length → h'[k]? = h[k]?) → Q (.ref h.length) h') : okW (M.run S.glb S.T (n + 1) f_law_pool [.dat (.int i)] h) Q E := by
  rw [run_law_pool]
  apply okW_keep
  have p1 : okPow 10 18 = true := by decide
  have a0 : ∀ d : Int, 0 ≤ d → At h.length 0 (h ++ [.lst [.dat (.int (i % 2147483549)), .dat (.int d), .dat (.int 0)]]) (h ++ [.lst [.dat (.int (i % 2147483549)), .dat (.int d), .dat (.int 0)]]) := fun d hd => ⟨⟨fl.push rfl, rfl, fun _ _ => rfl⟩, _, _, _, List.getElem?_concat_length, by omega, by omega, hd, by omega, by omega⟩
  simp [b_law_pool, okS_ite, okW_ite, p1]
  have b0 : ∀ d : Int, 0 ≤ d → Q (.ref h.length) (h ++ [.lst [.dat (.int (i % 2147483549)), .dat (.int d), .dat (.int 0)]]) := fun d hd => q _ (a0 d hd) (by simp) fun k lt => List.getElem?_append_left lt
  exact ⟨fun _ => ⟨fun _ => b0 _ (by omega), fun _ => b0 _ (by omega)⟩, fun _ => b0 _ (by omega)⟩
end
end K03
namespace K03
open PySem M
/-! ### lists of the small heap that bear data -/
section
variable {h : Hh} {p : Nat} {l : List D}
theorem bm_isA {l : List W} (e : h[p]? = some (.lst l)) : bmIs .append (.ref p) h = true := by
  unfold bmIs
  simp only [e]
theorem bm_app (e : h[p]? = some (lst l)) (z : l.length < sizeL) (d : D) : bmeth .append (.ref p) [.dat d] h = .ok (.dat .none) (h.set p (lst (l ++ [d]))) := by
  show (match h[p]? with
      | some (.lst l) => if decide (l.length < sizeL) then Res.ok (W.dat .none) (h.set p (.lst (l ++ [W.dat d]))) else .bad
      | _ => .bad) = _
  rw [e]
  simp [z, lst]
theorem add_ref (e : h[p]? = some (lst l)) (y : List D) (z : l.length + y.length ≤ sizeL) : binop .add true (.ref p) (.dat (.list y)) h = .ok (.ref h.length) (h ++ [lst (l ++ y)]) := by
  show (match h[p]? with
    | some (.lst l) => catL true h (some l) (some (y.map W.dat))
    | _ => .bad) = _
  rw [e]
  simp [catL, lst, z, ← List.map_append]
theorem add_refD (e : h[p]? = some (lst l)) (y : List D) (z : l.length + y.length ≤ sizeL) : binop .add false (.ref p) (.dat (.list y)) h = .ok (.dat (.list (l ++ y))) h := by
  show (match h[p]? with
    | some (.lst l) => catL false h (some l) (some (y.map W.dat))
    | _ => .bad) = _
  rw [e]
  simp [catL, lst, z, ← List.map_append]
theorem get_new (o : Ob) : (h ++ [o])[h.length]? = some o := List.getElem?_concat_length
theorem get_old {o : Ob} {x : Ob} (e : h[p]? = some x) : (h ++ [o])[p]? = some x := by
  rw [List.getElem?_append_left (List.getElem?_eq_some_iff.mp e).1]
  exact e
/-- a new list, a list that changes, a cut: the heap is a new one -/
theorem At.push {c : Nat} {g : Hh} (x : At p c g h) (l : List D) : At p c (h ++ [lst l]) (h ++ [lst l]) := by
  obtain ⟨f, a, b, d, e, r⟩ := x
  exact ⟨⟨f.1.push (flat_dat l), rfl, fun _ _ => rfl⟩, a, b, d, get_old e, r⟩
theorem At.put {c k : Nat} {g : Hh} (x : At p c g h) (l : List D) (ne : k ≠ p) : At p c (h.set k (lst l)) (h.set k (lst l)) := by
  obtain ⟨f, a, b, d, e, r⟩ := x
  exact ⟨⟨f.1.set k (flat_dat l), rfl, fun _ _ => rfl⟩, a, b, d, by rw [List.getElem?_set_ne ne]; exact e, r⟩
theorem At.take {c n : Nat} {g g0 : Hh} (x : At p c g h) (lt : p < n) (len : g0.length = n) (le : n ≤ h.length) (eq : ∀ k, k ≠ p → k < n → h[k]? = g0[k]?) : At p c g0 (h.take n) := by
  obtain ⟨f, a, b, d, e, r⟩ := x
  refine ⟨⟨f.1.take n, by rw [List.length_take, len]; omega, fun k ne => ?_⟩, a, b, d, by rw [List.getElem?_take_of_lt lt]; exact e, r⟩
  by_cases lk : k < n
  · rw [List.getElem?_take_of_lt lk]
    exact eq k ne lk
  · rw [List.getElem?_eq_none (by rw [List.length_take]; omega), List.getElem?_eq_none (by omega)]
end
/-! slices -/
section
variable {h : Hh}
theorem cut_to {α : Type} (l : List α) (k : Nat) : cutL l none (some (k : Int)) = l.take k := by
  have e : cutM l.length l.length (some (k : Int)) = min k l.length := by
    show (if (k : Int) < 0 then ((k : Int) + l.length).toNat else min (k : Int).toNat l.length) = _
    rw [if_neg (by omega)]
    simp
  unfold cutL
  rw [e]
  simp [cutM, List.take_eq_take_iff]
theorem cut_from {α : Type} (l : List α) (k : Nat) : cutL l (some (k : Int)) none = l.drop k := by
  have e : cutM l.length 0 (some (k : Int)) = min k l.length := by
    show (if (k : Int) < 0 then ((k : Int) + l.length).toNat else min (k : Int).toNat l.length) = _
    rw [if_neg (by omega)]
    simp
  unfold cutL
  rw [e]
  show List.take (l.length - min k l.length) _ = _
  rw [show min k l.length = if k ≤ l.length then k else l.length by split <;> omega]
  split
  · rw [List.take_of_length_le (by simp)]
  · rw [List.drop_of_length_le (Nat.le_refl _), List.drop_of_length_le (by omega)]
    simp
theorem cut_ij {α : Type} (l : List α) (i j : Nat) : cutL l (some (i : Int)) (some (j : Int)) = (l.drop i).take (j - i) := by
  have e : ∀ (d k : Nat), cutM l.length d (some (k : Int)) = min k l.length := fun d k => by
    show (if (k : Int) < 0 then ((k : Int) + l.length).toNat else min (k : Int).toNat l.length) = _
    rw [if_neg (by omega)]
    simp
  unfold cutL
  rw [e, e]
  by_cases h : i ≤ l.length
  · rw [show min i l.length = i by omega, List.take_eq_take_iff, List.length_drop]
    omega
  · rw [show min i l.length = l.length by omega, List.drop_of_length_le (Nat.le_refl _), List.drop_of_length_le (by omega)]
    simp
theorem str_len (x y : Str) : (x ++ y).length = x.length + y.length := by
  show (Str.append x y).length = _
  simp [Str.append, Str.length]
theorem str_take (x : Str) (i j : Nat) : (⟨((x.cps.toList.drop i).take j).toArray⟩ : Str).length ≤ x.length := by
  have : x.cps.toList.length = x.length := rfl
  simp [Str.length] at *
  omega
theorem cut_mem {α : Type} {l : List α} {a b : Option Int} {d : α} (h : d ∈ cutL l a b) : d ∈ l := List.mem_of_mem_drop (List.mem_of_mem_take h)
end
end K03
namespace K03
open PySem M
/-! ### a list that a def makes for itself, ahead of which nothing changes -/
structure Own (g h : Hh) (k : Nat) (l : List D) : Prop where
  le : g.length ≤ k
  at_ : h[k]? = some (lst l)
  fl : Flat h
  eq : h.take g.length = g
section
variable {g h : Hh} {k : Nat} {l : List D} {Q : W → Hh → Prop} {E : Nat → Hh → Prop}
theorem Own.lt (o : Own g h k l) : k < h.length := (List.getElem?_eq_some_iff.mp o.at_).1
theorem own_new (fl : Flat g) (l : List D) : Own g (g ++ [lst l]) g.length l := ⟨Nat.le_refl _, get_new _, fl.push (flat_dat l), by simp⟩
theorem own_add (o : Own g h k l) (y : List D) (z : l.length + y.length ≤ sizeL) (q : ∀ k' h', Own g h' k' (l ++ y) → Q (.ref k') h') : okW (binop .add true (.ref k) (.dat (.list y)) h) Q E := by
  rw [add_ref o.at_ y z]
  have := o.lt
  have := o.le
  exact q _ _ ⟨by omega, get_new _, o.fl.push (flat_dat _), by rw [List.take_append_of_le_length (by omega)]; exact o.eq⟩
theorem own_addD (o : Own g h k l) (y : List D) (z : l.length + y.length ≤ sizeL) (q : Q (.dat (.list (l ++ y))) h) : okW (binop .add false (.ref k) (.dat (.list y)) h) Q E := by
  rw [add_refD o.at_ y z]
  exact q
theorem own_is (o : Own g h k l) : bmIs .append (.ref k) h = true := bm_isA o.at_
theorem own_app (o : Own g h k l) (d : D) (z : l.length < sizeL) (q : ∀ h', Own g h' k (l ++ [d]) → Q (.dat .none) h') : okW (bmeth .append (.ref k) [.dat d] h) Q E := by
  rw [bm_app o.at_ z d]
  exact q _ ⟨o.le, get_set o.lt _, o.fl.set k (flat_dat _), by rw [List.take_set_of_le o.le]; exact o.eq⟩
theorem own_len (o : Own g h k l) (m : Bool) : builtin .len m [.ref k] h = .ok (.dat (.int l.length)) h := by
  show ri h (((match h[k]? with
    | some (.lst l) => some l
    | some (.tpl l) => some l
    | _ => none).map List.length).map Int.ofNat) = _
  rw [o.at_]
  show Res.ok (W.dat (.int (Int.ofNat (l.map W.dat).length))) h = _
  rw [List.length_map]
  rfl
/-- what a def hands out that made a list for itself -/
theorem own_frz {r : SR} (o : okS r (fun _ _ => False) (fun w h => ∃ k l, w = .ref k ∧ Own g h k l ∧ Q (.dat (.list l)) g) (fun _ _ _ => False)) : okW (finish false g.length r) Q E := by
  apply okW_frz
  refine o.imp (fun _ _ z => z) (fun w h z => ?_) fun _ _ _ z => z.elim
  obtain ⟨k, l, rfl, o, q⟩ := z
  exact ⟨k, l, rfl, o.le, o.at_, o.fl.cl _, by rw [o.eq]; exact q⟩
/-- or data -/
theorem own_fin {r : SR} (o : okS r (fun _ _ => False) (fun w h => ∃ d, w = .dat d ∧ (∃ k l, Own g h k l) ∧ Q (.dat d) g) (fun _ _ _ => False)) : okW (finish false g.length r) Q E := by
  apply okW_fin
  refine o.imp (fun _ _ z => z.elim) (fun w h z => ?_) fun _ _ _ z => z.elim
  obtain ⟨d, rfl, ⟨k, l, o⟩, q⟩ := z
  exact ⟨d, rfl, o.fl.cl _, by rw [o.eq]; exact q⟩
/-- a for over data that appends to it each time -/
theorem own_for {step : W → En → Hh → SR} {N : En → Hh → Prop} {R : W → Hh → Prop} {X : Nat → En → Hh → Prop} (f : D → D) (I : En → Prop) (L : List D) (z : l.length + L.length ≤ sizeL) {e : En} (o : Own g h k l) (i : I e)
    (turn : ∀ d e h l, I e → Own g h k l → l.length < sizeL → okS (step (.dat d) e h) (fun e h => I e ∧ Own g h k (l ++ [f d])) R X) (n : ∀ e h, I e → Own g h k (l ++ L.map f) → N e h) : okS (forL step (L.map .dat) e h) N R X := by
  induction L generalizing e h l with
  | nil => exact n e h i (by simpa using o)
  | cons d L ih =>
    rw [List.length_cons] at z
    show okS ((step (.dat d) e h).bind fun e h => forL step (L.map .dat) e h) N R X
    rw [okS_bind]
    refine (turn d e h l i o (by omega)).imp (fun e h ⟨i, o⟩ => ih (by rw [List.length_append, List.length_singleton]; omega) o i fun e h i o => n e h i ?_) (fun _ _ x => x) fun _ _ _ x => x
    rw [List.map_cons]
    rw [List.append_assoc] at o
    exact o
end
end K03
namespace K03
open PySem M
/-! the law's fractions -/
def low (a b : Int) : Int × Int := (a / Int.gcd a b, b / Int.gcd a b)
abbrev fr (p : Int × Int) : D := .tuple [.int p.1, .int p.2]
theorem gcd_div {a b : Int} (hb : 0 < b) (hk : sm 9000 b) : okDiv (Int.gcd a b) = true := by
  have pos : (0 : Int) < Int.gcd a b := by
    have := Int.gcd_pos_of_ne_zero_right a (show b ≠ 0 by omega)
    omega
  refine sm.div (k := 8999) (sm_le hk ?_) pos (by decide)
  exact Nat.le_of_dvd (by omega) (Int.gcd_dvd_natAbs_right ..)
/-- a fraction in lowest terms, its size to m, its bottom to 1000 -/
structure Fm (m : Int) (p : Int × Int) : Prop where
  pos : 0 < p.2
  low : Int.gcd p.1 p.2 = 1
  bot : p.2 ≤ 1000
  lo : -m * p.2 ≤ p.1
  hi : p.1 ≤ m * p.2
theorem low_fm {m a b : Int} (hb : 0 < b) (h1 : b ≤ 1000) (hl : -m * b ≤ a) (hh : a ≤ m * b) : Fm m (low a b) := by
  have g0 : 0 < Int.gcd a b := Int.gcd_pos_of_ne_zero_right a (by omega)
  obtain ⟨a', ea⟩ := Int.gcd_dvd_left (a := a) (b := b)
  obtain ⟨b', eb⟩ := Int.gcd_dvd_right (a := a) (b := b)
  have g1 : (0 : Int) < (Int.gcd a b : Int) := by omega
  have e1 : a / (Int.gcd a b : Int) = a' := by
    conv => lhs; lhs; rw [ea]
    exact Int.mul_ediv_cancel_left _ (by omega)
  have e2 : b / (Int.gcd a b : Int) = b' := by
    conv => lhs; lhs; rw [eb]
    exact Int.mul_ediv_cancel_left _ (by omega)
  have hg := Int.gcd_ediv_gcd_ediv_gcd g0
  unfold low
  rw [e1, e2] at hg ⊢
  generalize (Int.gcd a b : Int) = g at *
  have pb : 0 < b' := by
    by_cases z : 0 < b'
    · exact z
    · have := Int.mul_le_mul_of_nonneg_left (show b' ≤ 0 by omega) (show 0 ≤ g by omega)
      rw [Int.mul_zero, ← eb] at this
      omega
  refine ⟨pb, hg, ?_, ?_, ?_⟩
  · have : b' ≤ g * b' := by
      have := Int.mul_le_mul_of_nonneg_right (show (1 : Int) ≤ g by omega) (show 0 ≤ b' by omega)
      rwa [Int.one_mul] at this
    show b' ≤ 1000
    omega
  · show -m * b' ≤ a'
    have z : g * (-m * b') ≤ g * a' := by
      rw [← ea, show g * (-m * b') = -m * (g * b') by rw [Int.mul_left_comm], ← eb]
      exact hl
    exact Int.le_of_mul_le_mul_left z g1
  · show a' ≤ m * b'
    have z : g * a' ≤ g * (m * b') := by
      rw [← ea, show g * (m * b') = m * (g * b') by rw [Int.mul_left_comm], ← eb]
      exact hh
    exact Int.le_of_mul_le_mul_left z g1
end K03
namespace K03
open PySem M
/-! ### what is drawn: ends -/
section
variable {n : Nat} {g h : Hh} {Q : W → Hh → Prop} {E : Nat → Hh → Prop}
theorem atI_mem {α : Type} {l : List α} {v : Int} {d : α} (h0 : 0 ≤ v) (e : atI l v = some d) : d ∈ l := by
  rw [show v = ((v.toNat : Nat) : Int) by omega, atI_nat] at e
  exact List.mem_of_getElem? e
/-- one of a list's things -/
theorem idx_any {l : List D} {v : Int} (P : D → Prop) (h0 : 0 ≤ v) (h1 : v < l.length) (all : ∀ d ∈ l, P d) (q : ∀ d, P d → Q (.dat d) h) : okW (index (.dat (.list l)) (.dat (.int v)) h) Q E := by
  obtain ⟨d, e⟩ := atI_lt l v h0 h1
  rw [index_lst, e]
  exact q d (all d (atI_mem h0 e))
theorem at_any {l : List D} {v : Int} (P : D → Prop) (h0 : 0 ≤ v) (h1 : v < l.length) (all : ∀ d ∈ l, P d) (q : ∀ d, P d → Q (.dat d) h) : okW (optR h ((atI l v).map W.dat)) Q E := by
  obtain ⟨d, e⟩ := atI_lt l v h0 h1
  rw [e]
  exact q d (all d (atI_mem h0 e))
theorem s_low (a b : Int) (hb : 0 < b) (hk : sm 9000 b) (q : Q (.dat (fr (low a b))) h) : okW (M.run S.glb S.T (n + 1) f_law_low [.dat (.int a), .dat (.int b)] h) Q E := by
  rw [run_law_low]
  apply okW_keep
  unfold b_law_low
  rw [exs_cons, okS_bind]
  simp
  refine okS_while (fun m e h' => ∃ x y : Int, e = [some (.dat (.int a)), some (.dat (.int b)), some (.dat (.int x)), some (.dat (.int y))] ∧ 0 ≤ x ∧ 0 ≤ y ∧ Int.gcd x y = Int.gcd a b ∧ m = y.toNat ∧ h' = h) ?_ b.toNat _ _ ⟨a.natAbs, b, rfl, by omega, by omega, gcd_abs a b, rfl, rfl⟩
  rintro m e h' ⟨x, y, rfl, hx, hy, g, rfl, rfl⟩
  simp [c_law_low_0, l_law_low_1]
  refine ⟨fun l => ⟨l, (x % y).toNat, ?_, y, x % y, ⟨rfl, rfl⟩, hy, Int.emod_nonneg _ (by omega), by rw [gcd_step, g], rfl⟩, fun l => ?_⟩
  · have := Int.emod_lt_of_pos x l
    have := Int.emod_nonneg x (show y ≠ 0 by omega)
    omega
  · have : y = 0 := by omega
    subst this
    rw [Int.gcd_zero_right] at g
    rw [show x = ((Int.gcd a b : Nat) : Int) by omega]
    have dv := gcd_div (a := a) hb hk
    simp [dv]
    exact q
theorem s_ends {p c : Nat} (m : Int) (m0 : 0 < m) (m1 : m ≤ 1000000) (x : At p c g h) (hc : c < 900000) (q : ∀ r h', Fm m r → At p (c + 6) g h' → Q (.dat (fr r)) h') : okW (M.run S.glb S.T (n + 2) f_law_ends [.ref p, .dat (.int m)] h) Q E := by
  rw [run_law_ends]
  apply okW_keep
  simp [b_law_ends]
  refine s_take 1000 x (by decide) (by decide) (by omega) fun v h1 v0 v1 x1 => ?_
  try simp
  refine s_take 5 x1 (by decide) (by decide) (by omega) fun w h2 w0 w1 x2 => ?_
  refine idx_any (fun d => ∃ b : Int, d = .int b ∧ 1 ≤ b ∧ b ≤ 1000) w0 (by simp; omega) ?_ ?_
  · simp
    omega
  rintro d ⟨b, rfl, b0, b1⟩
  simp [t_law_ends_4]
  refine s_take 1000 x2 (by decide) (by decide) (by omega) fun s h3 s0 s1 x3 => ?_
  have e1 : bigMul s 1000003 = true := sm.big (j := 31) (k := 31) (sm_of s0 (by simp; omega)) (sm_of (by decide) (by decide)) (by decide)
  simp [e1]
  refine s_take 1000003 x3 (by decide) (by decide) (by omega) fun t h4 t0 t1 x4 => ?_
  have M0 : 0 < m * b := Int.mul_pos m0 (by omega)
  have M1 : m * b ≤ 1000000000 := by
    have := Int.mul_le_mul m1 b1 (by omega) (by omega)
    omega
  have e2 : bigMul m b = true := sm.big (j := 31) (k := 31) (sm_of (by omega) (by simp; omega)) (sm_of (by omega) (by simp; omega)) (by decide)
  have e3 : 0 < m * b + 1 := by omega
  simp [e2, e3]
  have z0 := Int.emod_nonneg (s * 1000003 + t) (show m * b + 1 ≠ 0 by omega)
  have z1 := Int.emod_lt_of_pos (s * 1000003 + t) e3
  generalize (s * 1000003 + t) % (m * b + 1) = z at z0 z1
  simp [t_law_ends_3]
  refine s_take 5 x4 (by decide) (by decide) (by omega) fun w h5 w0 w1 x5 => ?_
  have key : ∀ (z w : Int), 0 ≤ z → z ≤ m * b → okS (exs (cc (n + 1)) t_law_ends_0 [some (.ref p), some (.dat (.int m)), some (.dat (.int b)), some (.dat (.int z)), some (.dat (.int w))] h5) (fun _ h => Q (.dat .none) h) Q (fun c _ h => E c h) := fun z w z0 z1 => by
    simp [t_law_ends_0]
    refine s_take 2 x5 (by decide) (by decide) (by omega) fun w h6 w0 w1 x6 => ?_
    refine idx_any (fun d => d = .int 1 ∨ d = .int (-1)) w0 (by simp; omega) (by simp) ?_
    have sz : sm 31 z := sm_of z0 (by simp; omega)
    have sb : sm 9000 b := (sm_of (k := 31) (by omega) (by simp; omega)).mono (by decide)
    rintro d (rfl | rfl)
    · have e4 : bigMul z 1 = true := sm.big (j := 30) (k := 1) sz (sm_of (by decide) (by decide)) (by decide)
      simp [e4]
      refine s_low z b (by omega) sb (q _ _ (low_fm (by omega) b1 ?_ z1) x6)
      rw [Int.neg_mul]
      omega
    · have e4 : bigMul z (-1) = true := sm.big (j := 30) (k := 1) sz (by unfold sm; decide) (by decide)
      simp [e4]
      refine s_low _ b (by omega) sb (q _ _ (low_fm (by omega) b1 ?_ ?_) x6)
      · rw [Int.neg_mul]
        omega
      · omega
  have key2 : ∀ (z w : Int), 0 ≤ z → z ≤ m * b → okS (exs (cc (n + 1)) t_law_ends_1 [some (.ref p), some (.dat (.int m)), some (.dat (.int b)), some (.dat (.int z)), some (.dat (.int w))] h5) (fun _ h => Q (.dat .none) h) Q (fun c _ h => E c h) := fun z w z0 z1 => by
    simp [t_law_ends_1, okS_ite]
    refine ⟨fun _ => key _ _ (by omega) (by omega), fun _ => key _ _ z0 z1⟩
  simp [t_law_ends_2, okS_ite]
  refine ⟨fun l => ?_, fun _ => key2 _ _ z0 (by omega)⟩
  simp [e2]
  refine at_any (fun d => ∃ b' : Int, d = .int b' ∧ 0 ≤ b' ∧ b' ≤ m * b) w0 (by show _ < ((2 : Nat) : Int); omega) ?_ ?_
  · simp
    omega
  rintro d ⟨b', rfl, b0', b1'⟩
  exact key2 _ _ b0' b1'
theorem s_size (r : Int × Int) (q : Q (.dat (fr (r.1.natAbs, r.2))) h) : okW (M.run S.glb S.T (n + 1) f_law_size [.dat (fr r)] h) Q E := by
  rw [run_law_size]
  apply okW_keep
  simp [b_law_size]
  have e : (if r.1 < 0 then -r.1 else r.1) = (r.1.natAbs : Int) := by split <;> omega
  simpa [e] using q
theorem Fm.abs {m : Int} {r : Int × Int} (h : Fm m r) : Fm m (r.1.natAbs, r.2) := by
  have := h.pos
  have := h.lo
  have := h.hi
  refine ⟨h.pos, by rw [gcd_abs]; exact h.low, h.bot, ?_, ?_⟩
  · show -m * r.2 ≤ (r.1.natAbs : Int)
    rw [Int.neg_mul] at *
    omega
  · show (r.1.natAbs : Int) ≤ m * r.2
    rw [Int.neg_mul] at *
    omega
end
end K03
namespace K03
open PySem M
/-! ### what is drawn: names -/
theorem join_one (cs : List Nat) : Txt.join "" (cs.map fun c => (⟨#[c]⟩ : Str)) = ⟨cs.toArray⟩ := by
  have key : ∀ (cs : List Nat) (acc : Array Nat), (cs.map fun c => (⟨#[c]⟩ : Str)).foldl (fun acc p => acc ++ ("" : Str).cps ++ p.cps) acc = acc ++ cs.toArray := by
    intro cs
    induction cs with
    | nil => intro acc; simp
    | cons c cs ih =>
      intro acc
      rw [List.map_cons, List.foldl_cons, ih]
      have : ("" : Str).cps = #[] := by decide
      rw [this]
      simp
  cases cs with
  | nil => rfl
  | cons c cs =>
    show (⟨((cs.map fun c => (⟨#[c]⟩ : Str)).foldl (fun acc p => acc ++ ("" : Str).cps ++ p.cps) #[c])⟩ : Str) = _
    rw [key]
    simp
abbrev wordsL : List D := [.str "mark", .str "habit", .str "gain", .str "cloud", .str "fits", .str "open", .str "strike", .str "back", .str "book", .str "none", .str "clash", .str "to"]
theorem words_nam : ∀ d ∈ wordsL, nameD d = true := by decide +kernel
theorem nd_str {l : List Str} (h : l.Nodup) : (l.map PyData.str).Nodup := by
  unfold List.Nodup
  rw [List.pairwise_map]
  exact h.imp fun ne e => ne (PyData.str.inj e)
theorem words_nd : wordsL.Nodup := nd_str (l := ["mark", "habit", "gain", "cloud", "fits", "open", "strike", "back", "book", "none", "clash", "to"]) (by decide +kernel)
abbrev letL : List Nat := letters.cps.toList
theorem let_len : letL.length = 26 := by decide +kernel
theorem let_nd : letL.Nodup := by decide +kernel
def letAt (v : Int) : Nat := (atI letL v).getD 0
theorem atI_let {v : Int} (v0 : 0 ≤ v) (v1 : v < 26) : atI letL v = some (letAt v) := by
  obtain ⟨c, e⟩ := atI_lt letL v v0 (by rw [let_len]; omega)
  unfold letAt
  rw [e]
  rfl
theorem letB_at {v : Int} (v0 : 0 ≤ v) (v1 : v < 26) : letB (letAt v) = true := decide_eq_true (atI_mem v0 (atI_let v0 v1))
theorem atI_inj {α : Type} {l : List α} (nd : l.Nodup) {v w : Int} {a : α} (v0 : 0 ≤ v) (w0 : 0 ≤ w) (e1 : atI l v = some a) (e2 : atI l w = some a) : v = w := by
  rw [show v = ((v.toNat : Nat) : Int) by omega, atI_nat] at e1
  rw [show w = ((w.toNat : Nat) : Int) by omega, atI_nat] at e2
  have := nodup_get nd e1 e2
  omega
theorem letAt_inj {v w : Int} (v0 : 0 ≤ v) (v1 : v < 26) (w0 : 0 ≤ w) (w1 : w < 26) (e : letAt v = letAt w) : v = w := by
  have a := atI_let v0 v1
  have b := atI_let w0 w1
  rw [← e] at b
  exact atI_inj let_nd v0 w0 a b
theorem strAt_let {v : Int} (v0 : 0 ≤ v) (v1 : v < 26) : strAt letters v = some ⟨#[letAt v]⟩ := by
  unfold strAt
  rw [if_pos (by decide +kernel), atI_let v0 v1]
  rfl
/-- a row of unlike names -/
structure Nm (l : List D) : Prop where
  nam : ∀ d ∈ l, nameD d = true
  nd : l.Nodup
theorem nd_range {f : Nat → D} {k : Nat} (inj : ∀ i j, i < j → j < k → f i ≠ f j) : ((List.range k).map f).Nodup := by
  unfold List.Nodup
  rw [List.pairwise_map]
  exact List.pairwise_lt_range.imp_of_mem fun _ hb lt => inj _ _ lt (List.mem_range.mp hb)
theorem rngL_nat (k : Nat) : rngL 0 (k : Int) = (List.range k).map fun i : Nat => W.dat (.int (i : Int)) := by
  unfold rngL
  simp
theorem nameD_mk {l : List Nat} (a : 1 ≤ l.length) (b : l.length ≤ 8) (c : ∀ x ∈ l, letB x = true) : nameD (.str ⟨l.toArray⟩) = true := by
  have e : (⟨l.toArray⟩ : Str).length = l.length := by simp [Str.length]
  simp [nameD, e, a, b]
  exact c
theorem str_app (a b : List Nat) : (⟨a.toArray⟩ : Str) ++ (⟨b.toArray⟩ : Str) = ⟨(a ++ b).toArray⟩ := by
  show Str.append _ _ = _
  simp [Str.append]
theorem str_app1 (a : List Nat) (c : Nat) : (⟨a.toArray⟩ : Str) ++ (⟨#[c]⟩ : Str) = ⟨(a ++ [c]).toArray⟩ := str_app a [c]
theorem okR_nat {k : Nat} (hk : k ≤ 1000000) : okR (k : Int) = true := by
  unfold okR
  rw [decide_eq_true (by omega), decide_eq_true (by omega)]
  rfl
section
variable {n : Nat} {g h : Hh} {Q : W → Hh → Prop} {E : Nat → Hh → Prop}
theorem slice_str (x : Str) (lo hi : Option Int) (l : x.length ≤ sizeL) : slice (.dat (.str x)) lo hi h = .ok (.dat (.str ⟨(cutL x.cps.toList lo hi).toArray⟩)) h := by
  show (if x.length ≤ sizeL then _ else _) = _
  rw [if_pos l]
theorem strs_map (cs : List Nat) : strsOf (cs.map fun c => W.dat (.str ⟨#[c]⟩)) = some (cs.map fun c => (⟨#[c]⟩ : Str)) := by
  induction cs with
  | nil => rfl
  | cons c cs ih =>
    show (match W.dat (.str ⟨#[c]⟩), strsOf (cs.map fun c => W.dat (.str ⟨#[c]⟩)) with
      | .dat (.str x), some xs => some (x :: xs)
      | _, _ => none) = _
    rw [ih]
    rfl
theorem join_w (cs : List Nat) (l : cs.length ≤ 1000) : bmeth .join (.dat (.str "")) [.dat (.list (cs.map fun c => .str ⟨#[c]⟩))] h = .ok (.dat (.str ⟨cs.toArray⟩)) h := by
  show joinW "" (List.map .dat (cs.map fun c => .str ⟨#[c]⟩)) h = _
  rw [List.map_map, show (W.dat ∘ fun c : Nat => PyData.str ⟨#[c]⟩) = (fun c => W.dat (.str ⟨#[c]⟩)) from rfl]
  unfold joinW
  rw [strs_map]
  show (if decide (((cs.map fun c => (⟨#[c]⟩ : Str)).map (·.length)).sum + (cs.map fun c => (⟨#[c]⟩ : Str)).length * ("" : Str).length ≤ 16777216) = true then Res.ok (W.dat (.str (Txt.join "" (cs.map fun c => (⟨#[c]⟩ : Str))))) h else Res.bad) = _
  rw [join_one]
  have e : ((cs.map fun c => (⟨#[c]⟩ : Str)).map (·.length)).sum = cs.length := by
    rw [List.map_map]
    induction cs with
    | nil => rfl
    | cons c cs ih =>
      rw [List.map_cons, List.sum_cons, ih (by rw [List.length_cons] at l; omega), List.length_cons]
      show 1 + _ = _
      omega
  have z : ("" : Str).length = 0 := by decide
  simp only [e, z]
  rw [if_pos]
  exact decide_eq_true (by omega)
theorem idx_let {v : Int} (v0 : 0 ≤ v) (v1 : v < 26) : index (.dat (.str letters)) (.dat (.int v)) h = .ok (.dat (.str ⟨#[letAt v]⟩)) h := by
  show (match strAt letters v with
      | some y => Res.ok (W.dat (.str y)) h
      | none => .bad) = _
  rw [strAt_let v0 v1]
/-- the elements of both ways -/
theorem words_elt {a s : Int} {i : Nat} (z1 z2 z5 z6 z7 z8 z9 : Option W) (big : bigMul s i = true) : ev (cc n) e_law_names_6 [z1, z2, some (.dat (.list wordsL)), some (.dat (.int a)), some (.dat (.int s)), some (.dat (.int (i : Int))), z6, z7, z8, z9] h = .ok (.dat ((atI wordsL ((a + s * i) % 12)).getD .none)) h := by
  obtain ⟨d, e⟩ := atI_lt wordsL ((a + s * i) % 12) (by omega) (by show _ < ((12 : Nat) : Int); omega)
  rw [e]
  simp [e_law_names_6, big, e]
theorem letters_elt {f s : Int} {i u : Nat} {cs : List Nat} (z1 z2 z3 z4 : Option W) (big : bigMul s i = true) (lc : cs.length ≤ 7) : ev (cc n) e_law_names_0 [z1, z2, z3, z4, some (.dat (.int s)), some (.dat (.int (i : Int))), some (.dat (.str letters)), some (.dat (.str ⟨cs.toArray⟩)), some (.dat (.int u)), some (.dat (.int f))] h = .ok (.dat (.str ⟨(cs.take u ++ [letAt ((f + s * i) % 26)] ++ cs.drop u).toArray⟩)) h := by
  have rng : 0 ≤ (f + s * i) % 26 ∧ (f + s * i) % 26 < 26 := ⟨by omega, by omega⟩
  have sl : (⟨cs.toArray⟩ : Str).length ≤ sizeL := by simp [Str.length, sizeL]; omega
  have l1 : (⟨(cs.take u).toArray⟩ : Str).length ≤ 8 := by simp [Str.length]; omega
  have l2 : (⟨(cs.drop u).toArray⟩ : Str).length ≤ 8 := by simp [Str.length]; omega
  have l3 : ∀ c : Nat, (⟨#[c]⟩ : Str).length = 1 := fun c => rfl
  have l4 : ∀ c : Nat, (⟨(cs.take u ++ [c]).toArray⟩ : Str).length ≤ 9 := fun c => by simp [Str.length]; omega
  have ix := idx_let (h := h) rng.1 rng.2
  generalize W.dat (.str letters) = lt at ix ⊢
  have a1 : ∀ c : Nat, (⟨(cs.take u).toArray⟩ : Str).length + (⟨#[c]⟩ : Str).length ≤ sizeL := fun c => by rw [l3]; simp only [sizeL]; omega
  have a2 : ∀ c : Nat, (⟨(cs.take u ++ [c]).toArray⟩ : Str).length + (⟨(cs.drop u).toArray⟩ : Str).length ≤ sizeL := fun c => by have := l4 c; simp only [sizeL]; omega
  simp [e_law_names_0, big, slice_str _ _ _ sl, cut_to, cut_from, ix]
  rw [if_pos (a1 _), str_app1, bind_ok, bin_addS, if_pos (a2 _), str_app]
  simp
section
variable {p c : Nat} {k : Nat} (hk : k ≤ 12) (hc : c < 900000) {a s : Int} (hs : s = 1 ∨ s = 5 ∨ s = 7 ∨ s = 11) (x : At p c g h)
include hk hc hs x
theorem names_letters4 (z3 z4 z5 z7 z8 z9 : Option W) {lt : W} (hlt : lt = .dat (.str letters)) {N : En → Hh → Prop} {X : Nat → En → Hh → Prop} (q : ∀ l h', l.length = k → Nm l → At p (c + 10) g h' → Q (.dat (.list l)) h') : okS (exs (cc (n + 1)) t_law_names_4 [some (.ref p), some (.dat (.int k)), z3, z4, some (.dat (.int s)), z5, some lt, z7, z8, z9] h) N Q X := by
  have big : ∀ i : Nat, i < k → bigMul s i = true := fun i hi => sm.big (j := 30) (k := 30) (sm_of (by omega) (by simp; omega)) (sm_of (by omega) (by simp; omega)) (by decide)
  simp [t_law_names_4]
  refine s_take 8 x (by decide) (by decide) (by omega) fun r h4 r0 r1 x4 => ?_
  obtain ⟨r, rfl⟩ : ∃ m : Nat, r = m := ⟨r.toNat, by omega⟩
  simp [okR_nat (show r ≤ 1000000 by omega)]
  refine okW_compL (fun i acc h' => ∃ cs : List Nat, acc = cs.map (fun c => W.dat (.str ⟨#[c]⟩)) ∧ cs.length = i ∧ (∀ c ∈ cs, letB c = true) ∧ At p (c + 1 + i) g h') _ 0 _ _ ⟨[], rfl, rfl, by simp, x4⟩ ?_ ?_ ?_
  · simp [sizeL]; omega
  · rintro j w0 z acc h5 ⟨cs, rfl, lc, hcs, x5⟩
    have lj := (List.getElem?_eq_some_iff.mp z).1
    rw [rngL_length] at lj
    simp [e_law_names_3]
    refine s_take 26 x5 (by decide) (by decide) (by omega) fun v h6 v0 v1 x6 => ?_
    have ix : index lt (.dat (.int v)) h6 = .ok (.dat (.str ⟨#[letAt v]⟩)) h6 := by
      rw [hlt]
      exact idx_let v0 v1
    simp [ix]
    refine ⟨cs ++ [letAt v], by simp, by simp; omega, ?_, x6.more (by omega)⟩
    intro c hc
    rcases List.mem_append.mp hc with hc | hc
    · exact hcs c hc
    · rw [List.mem_singleton.mp hc]; exact letB_at v0 v1
  · rintro acc h5 ⟨cs, rfl, lc, hcs, x5⟩
    simp at lc
    have e0 : cs.map (fun c => W.dat (.str ⟨#[c]⟩)) = (cs.map fun c => PyData.str ⟨#[c]⟩).map .dat := by rw [List.map_map]; rfl
    rw [e0]
    simp only [okW_ok, mkLst_map, dsOf_map, okS_bind, okS_then, bm_isS2, if_true, okW_bind, evs_nil]
    rw [join_w cs (by omega)]
    rw [rngL_length] at x5
    have ln : (⟨cs.toArray⟩ : Str).length = cs.length := by simp [Str.length]
    have sl : (⟨cs.toArray⟩ : Str).length ≤ sizeL := by rw [ln]; simp [sizeL]; omega
    simp [t_law_names_2, sl]
    refine s_take _ x5 (by omega) (by omega) (by omega) fun u h6 u0 u1 x6 => ?_
    try simp
    refine s_take 26 x6 (by decide) (by decide) (by omega) fun f h7 f0 f1 x7 => ?_
    rw [ln] at u1
    clear sl ln
    have lu : u.toNat ≤ cs.length := by omega
    rw [show u = ((u.toNat : Nat) : Int) by omega]
    generalize u.toNat = u at lu ⊢
    simp [t_law_names_1, okR_nat (show k ≤ 1000000 by omega)]
    rw [rngL_nat, compL_map (g := fun i : Nat => .str ⟨(cs.take u ++ [letAt ((f + s * i) % 26)] ++ cs.drop u).toArray⟩)]
    · simp only [okW_ok, mkLst_map, dsOf_map]
      have rng : ∀ i : Nat, 0 ≤ (f + s * i) % 26 ∧ (f + s * i) % 26 < 26 := fun i => ⟨by omega, by omega⟩
      refine q _ _ (by simp) ⟨fun d hd => ?_, nd_range fun i j lt lj => ?_⟩ (x7.more (by omega))
      · obtain ⟨i, _, rfl⟩ := List.mem_map.mp hd
        refine nameD_mk ?_ ?_ ?_
        · simp; omega
        · simp; omega
        · intro y hy
          rcases List.mem_append.mp hy with hy | hy
          · rcases List.mem_append.mp hy with hy | hy
            · exact hcs y (List.mem_of_mem_take hy)
            · rw [List.mem_singleton.mp hy]; exact letB_at (rng i).1 (rng i).2
          · exact hcs y (List.mem_of_mem_drop hy)
      · intro e
        have e := congrArg (fun d => match d with | PyData.str x => x.cps.toList | _ => []) e
        simp at e
        have := letAt_inj (rng i).1 (rng i).2 (rng j).1 (rng j).2 e
        rcases hs with rfl | rfl | rfl | rfl <;> omega
    · intro i hi
      have z := letters_elt (n := n + 1) (h := h7) (f := f) (u := u) (some (.ref p)) (some (.dat (.int k))) z3 z4 (big i (List.mem_range.mp hi)) (show cs.length ≤ 7 by omega)
      rw [← hlt] at z
      simp only [z, bind_ok, noexc_ok]
    · simp [sizeL]; omega
theorem names_letters (z3 z4 z5 z6 z7 z8 z9 : Option W) {N : En → Hh → Prop} {X : Nat → En → Hh → Prop} (q : ∀ l h', l.length = k → Nm l → At p (c + 10) g h' → Q (.dat (.list l)) h') : okS (exs (cc (n + 1)) t_law_names_5 [some (.ref p), some (.dat (.int k)), z3, z4, some (.dat (.int s)), z5, z6, z7, z8, z9] h) N Q X := by
  unfold t_law_names_5
  rw [exs_cons, ex_asg, ev_cst, then_ok, stor_nam, bindS_nxt]
  exact names_letters4 hk hc hs x z3 z4 z5 z7 z8 z9 rfl q
end
theorem names8 {p c : Nat} (k : Nat) (hk : k ≤ 12) {wl : W} (hwl : wl = .dat (.list wordsL)) (x : At p c g h) (hc : c < 890000) {N : En → Hh → Prop} {X : Nat → En → Hh → Prop} (q : ∀ l h', l.length = k → Nm l → At p (c + 20) g h' → Q (.dat (.list l)) h') : okS (exs (cc (n + 1)) t_law_names_8 [some (.ref p), some (.dat (.int k)), some wl, none, none, none, none, none, none, none] h) N Q X := by
  simp [t_law_names_8]
  refine s_take 12 x (by decide) (by decide) (by omega) fun a h1 a0 a1 x1 => ?_
  refine s_take 4 x1 (by decide) (by decide) (by omega) fun v h2 v0 v1 x2 => ?_
  refine idx_any (fun d => ∃ s : Int, d = .int s ∧ (s = 1 ∨ s = 5 ∨ s = 7 ∨ s = 11)) v0 (by show _ < ((4 : Nat) : Int); omega) (by simp) ?_
  rintro d ⟨s, rfl, hs⟩
  simp [t_law_names_7]
  refine s_take 4 x2 (by decide) (by decide) (by omega) fun w h3 w0 w1 x3 => ?_
  by_cases hw : w = 1
  · have big : ∀ i : Nat, i < k → bigMul s i = true := fun i hi => sm.big (j := 30) (k := 30) (sm_of (by omega) (by simp; omega)) (sm_of (by omega) (by simp; omega)) (by decide)
    simp [okS_ite, okR_nat (show k ≤ 1000000 by omega), hw]
    have at_ : ∀ i : Nat, ∃ d, atI wordsL ((a + s * i) % 12) = some d := fun i => atI_lt wordsL _ (by omega) (by show _ < ((12 : Nat) : Int); omega)
    rw [rngL_nat, compL_map (g := fun i : Nat => (atI wordsL ((a + s * i) % 12)).getD .none)]
    · simp only [okW_ok, mkLst_map, dsOf_map]
      refine q _ _ (by simp) ⟨fun d hd => ?_, nd_range fun i j lt lj => ?_⟩ (x3.more (by omega))
      · obtain ⟨i, _, rfl⟩ := List.mem_map.mp hd
        obtain ⟨d, e⟩ := at_ i
        simp only [e, Option.getD_some]
        exact words_nam d (atI_mem (by omega) e)
      · obtain ⟨d, e⟩ := at_ i
        obtain ⟨d', e'⟩ := at_ j
        simp only [e, e', Option.getD_some]
        rintro rfl
        have := atI_inj words_nd (by omega) (by omega) e e'
        rcases hs with rfl | rfl | rfl | rfl <;> omega
    · intro i hi
      have z := words_elt (n := n + 1) (h := h3) (a := a) (some (.ref p)) (some (.dat (.int k))) none none none none none (big i (List.mem_range.mp hi))
      rw [← hwl] at z
      simp only [z, bind_ok, noexc_ok]
    · simp [sizeL]; omega
  · simp [okS_ite, hw]
    exact names_letters hk (show c + 1 + 1 + 1 < 900000 by omega) hs x3 (some wl) (some (.dat (.int a))) none none none none none fun l h' a b c => q l h' a b (c.more (by omega))
theorem okS_of_mk {r : Res W} {w : W} (e : r = .ok w h) {en : En} {i : Nat} {C : Cc} {N : En → Hh → Prop} {X : Nat → En → Hh → Prop} (q : N (en.set i (some w)) h) : okS (r.then en fun w h => stor C (.nam i) w en h) N Q X := by
  rw [e]
  exact q
theorem s_names {p c : Nat} (k : Nat) (hk : k ≤ 12) (x : At p c g h) (hc : c < 890000) (q : ∀ l h', l.length = k → Nm l → At p (c + 20) g h' → Q (.dat (.list l)) h') : okW (M.run S.glb S.T (n + 2) f_law_names [.ref p, .dat (.int k)] h) Q E := by
  rw [run_law_names]
  apply okW_keep
  unfold b_law_names
  rw [exs_cons, okS_bind]
  simp only [ex_asg, ev_lst, evs_cons, evs_nil, ev_cst, bind_ok]
  have e : ∀ l : List W, l = wordsL.map .dat → mkLst false l h = .ok (.dat (.list wordsL)) h := fun l z => by rw [z, mkLst_map]
  rw [if_pos (by decide)]
  refine okS_of_mk (e _ rfl) ?_
  exact names8 k hk rfl x hc q
end
end K03
namespace K03
open PySem M
/-! ### what is drawn: names of three sorts -/
theorem Nm.sub {l l' : List D} (nm : Nm l) (s : l'.Sublist l) : Nm l' := ⟨fun d hd => nm.nam d (s.subset hd), nm.nd.sublist s⟩
section
variable {n : Nat} {g h : Hh} {Q : W → Hh → Prop} {E : Nat → Hh → Prop}
theorem s_sorts {p c : Nat} (x : At p c g h) (hc : c < 890000) (q : ∀ a b d h', a.length = 5 → b.length = 4 → d.length = 3 → Nm a → Nm b → Nm d → At p (c + 21) g h' → Q (.dat (.list [.list a, .list b, .list d])) h') : okW (M.run S.glb S.T (n + 3) f_law_sorts [.ref p] h) Q E := by
  rw [run_law_sorts]
  apply okW_keep
  simp [b_law_sorts]
  refine s_names 12 (by decide) x (by omega) fun l h1 ln nm x1 => ?_
  simp [t_law_sorts_1]
  refine s_take 3 x1 (by decide) (by decide) (by omega) fun v h2 v0 v1 x2 => ?_
  match l, ln, nm with
  | [a0, a1, a2, a3, a4, a5, a6, a7, a8, a9, a10, a11], _, nm =>
    have t : ∀ i k, Nm (([a0, a1, a2, a3, a4, a5, a6, a7, a8, a9, a10, a11].drop i).take k) := fun i k => nm.sub ((List.take_sublist k _).trans (List.drop_sublist i _))
    by_cases hv : v = 0
    · simp [okS_ite, t_law_sorts_0, cutL, cutM, hv]
      exact q _ _ _ _ rfl rfl rfl (t 0 5) (t 0 4) (t 2 3) x2
    · simp [okS_ite, t_law_sorts_0, cutL, cutM, hv]
      exact q _ _ _ _ rfl rfl rfl (t 0 5) (t 5 4) (t 9 3) x2
end
end K03
namespace K03
open PySem M
/-! ### good entries -/
theorem nameD_inv {d : D} (e : nameD d = true) : ∃ x, d = .str x := by
  cases d with
  | str x => exact ⟨x, rfl⟩
  | _ => cases e
inductive GoodE : D → Prop
  | two (w x : Str) (u v : Int × Int) : (w = "habit" ∨ w = "gain") → nameD (.str x) = true → Fm 1000000 u → Fm 1000 v → 0 ≤ v.1 → GoodE (.tuple [.str w, .str x, fr u, fr v])
  | mark (x y z : Str) (t : Int) (u v : Int × Int) : nameD (.str x) = true → nameD (.str y) = true → nameD (.str z) = true → 0 ≤ t → t ≤ 999 → Fm 1000000 u → Fm 1000 v → 0 ≤ v.1 → GoodE (.tuple [.str "mark", .str x, .str y, .str z, .int t, fr u, fr v])
theorem Fm.told {m : Int} {r : Int × Int} (f : Fm m r) : toldD (-m) m (fr r) = true := by
  simp [toldD, f.pos, f.low, f.bot, f.hi]
  have := f.lo
  rwa [Int.neg_mul] at this ⊢
theorem Fm.told0 {m : Int} {r : Int × Int} (f : Fm m r) (z : 0 ≤ r.1) : toldD 0 m (fr r) = true := by
  simp [toldD, f.pos, f.low, f.bot, f.hi, z]
theorem let_cp : ∀ c ∈ letL, c < 1114112 := by decide +kernel
theorem nameD_len {x : Str} (e : nameD (.str x) = true) : 1 ≤ x.length ∧ x.length ≤ 8 ∧ ∀ c ∈ x.cps.toList, letB c = true := by
  have e : (decide (1 ≤ x.length) && (decide (x.length ≤ 8) && x.cps.toList.all letB)) = true := e
  have a := and2 e
  have b := and2 a.2
  exact ⟨of_decide_eq_true a.1, of_decide_eq_true b.1, fun c hc => List.all_eq_true.mp b.2 c hc⟩
theorem ok_str {x : Str} (l : x.length ≤ 1000) (c : ∀ c ∈ x.cps.toList, c < 1114112) : okPart (.str x) := by
  refine ⟨by simp [sizeL]; omega, ?_⟩
  show (PyData.strOk x && decide (PyData.depth (.str x) ≤ 64)) = true
  rw [Bool.and_eq_true]
  refine ⟨?_, decide_eq_true (Nat.zero_le _)⟩
  unfold PyData.strOk
  rw [← Array.all_toList, List.all_eq_true]
  intro y hy
  exact decide_eq_true (c y hy)
theorem ok_name {x : Str} (e : nameD (.str x) = true) : okPart (.str x) := by
  obtain ⟨_, b, c⟩ := nameD_len e
  exact ok_str (by omega) fun y hy => let_cp y (of_decide_eq_true (c y hy))
theorem GoodE.is {d : D} (g : GoodE d) : entryD d = true ∧ okAll d := by
  cases g with
  | two w x u v hw hx hu hv hz =>
    refine ⟨?_, ?_⟩
    · simp only [entryD, endsD, decide_eq_true hw, hx, hu.told, hv.told0 hz, Bool.and_self]
    · intro y hy
      simp at hy
      rcases hy with rfl | rfl | rfl | rfl
      · rcases hw with rfl | rfl <;> exact ⟨by decide, by decide +kernel⟩
      · exact ok_name hx
      · trivial
      · trivial
  | mark x y z t u v hx hy hz t0 t1 hu hv h0 =>
    refine ⟨?_, ?_⟩
    · simp [entryD, endsD, hx, hy, hz, hu.told, hv.told0 h0, nightD, t0, t1]
    · intro d hd
      simp at hd
      rcases hd with rfl | rfl | rfl | rfl | rfl | rfl | rfl
      · exact ⟨by decide, by decide +kernel⟩
      · exact ok_name hx
      · exact ok_name hy
      · exact ok_name hz
      · trivial
      · trivial
      · trivial
end K03
namespace K03
open PySem M
/-! ### the law's good entries -/
section
variable {n : Nat} {g h : Hh} {Q : W → Hh → Prop} {E : Nat → Hh → Prop}
theorem cat3 (l : List D) (a b c : D) : l.map W.dat ++ [.dat a, .dat b, .dat c] = (l ++ [a, b, c]).map .dat := by simp
theorem s_good {p c : Nat} {a b d : List D} (la : a.length = 5) (lb : b.length = 4) (ld : d.length = 3) (na : Nm a) (nb : Nm b) (nd : Nm d) (x : At p c g h) (hc : c < 800000) (q : ∀ l h', l.length = 6 → (∀ e ∈ l, GoodE e) → At p (c + 40) h h' → Q (.dat (.list l)) h') : okW (M.run S.glb S.T (n + 3) f_law_good [.ref p, .dat (.list [.list a, .list b, .list d])] h) Q E := by
  rw [run_law_good]
  apply okW_frz
  have pl := x.lt
  have p6 : okPow 10 6 = true := by decide
  simp [b_law_good, t_law_good_5, okR]
  refine okS_forN (fun i e h' => ∃ k l t3 t4 t5, e = [some (.ref p), some (.dat (.list [.list a, .list b, .list d])), some (.ref k), t3, t4, t5] ∧ h.length ≤ k ∧ h'[k]? = some (lst l) ∧ l.length = 3 * i ∧ (∀ e ∈ l, GoodE e) ∧ (∀ j, j ≠ p → j < h.length → h'[j]? = h[j]?) ∧ At p (c + 14 * i) h' h') _ 0 _ _ ⟨h.length, [], none, none, none, rfl, Nat.le_refl _, get_new _, rfl, by simp, fun j _ lj => List.getElem?_append_left lj, x.push []⟩ ?_ ?_
  · rintro j w z e h1 ⟨k, l, t3, t4, t5, rfl, hk, e0, ll, gl, ou, x1⟩
    obtain ⟨rfl, lj⟩ := rngL_get z
    simp [l_law_good_4, p6]
    refine s_ends 1000000 (by decide) (by decide) x1 (by omega) fun u h2 fu x2 => ?_
    try simp
    refine s_ends 1000 (by decide) (by decide) x2 (by omega) fun v h3 fv x3 => ?_
    refine s_size v ?_
    simp [t_law_good_3]
    refine s_take 1000 x3 (by decide) (by decide) (by omega) fun t h4 t0 t1 x4 => ?_
    try simp
    refine s_take 3 x4 (by decide) (by decide) (by omega) fun w h5 w0 w1 x5 => ?_
    refine idx_any (fun d => ∃ t : Int, d = .int t ∧ 0 ≤ t ∧ t ≤ 999) w0 (by simp; omega) (by simp; omega) ?_
    rintro _ ⟨t, rfl, t0, t1⟩
    have e5 : h5[k]? = some (lst l) := by rw [x5.out (by omega)]; exact e0
    simp [t_law_good_2]
    refine at_any (fun d => nameD d = true) (by decide) (by omega) na.nam fun d1 n1 => ?_
    obtain ⟨s1, rfl⟩ := nameD_inv n1
    simp [sizeL]
    refine at_any (fun d => nameD d = true) (by decide) (by omega) nd.nam fun d2 n2 => ?_
    obtain ⟨s2, rfl⟩ := nameD_inv n2
    simp [sizeL]
    rw [add_ref e5 _ (by simp [sizeL]; omega)]
    simp [t_law_good_1]
    rw [bm_isA (get_new _)]
    try simp
    refine at_any (fun d => nameD d = true) (by omega) (by omega) na.nam fun d3 n3 => ?_
    obtain ⟨s3, rfl⟩ := nameD_inv n3
    try simp
    refine at_any (fun d => nameD d = true) (by decide) (by omega) nb.nam fun d4 n4 => ?_
    obtain ⟨s4, rfl⟩ := nameD_inv n4
    try simp
    refine at_any (fun d => nameD d = true) (by omega) (by omega) nd.nam fun d5 n5 => ?_
    obtain ⟨s5, rfl⟩ := nameD_inv n5
    simp [sizeL]
    rw [bm_app (get_new _) (by simp [sizeL]; omega)]
    try simp
    have lh := x5.len
    have le : h.length ≤ h1.length := by
      have := (List.getElem?_eq_some_iff.mp e0).1
      omega
    refine ⟨by omega, l ++ [_, _, _], cat3 .., by simp; omega, ?_, ?_, (x5.more (by omega)).push _⟩
    · intro e he
      rcases List.mem_append.mp he with he | he
      · exact gl e he
      · have fa := fv.abs
        have z0 : (0 : Int) ≤ v.1.natAbs := by omega
        simp at he
        rcases he with rfl | rfl | rfl
        · exact .two _ _ u (v.1.natAbs, v.2) (.inl rfl) n1 fu fa z0
        · exact .two _ _ u (v.1.natAbs, v.2) (.inr rfl) n2 fu fa z0
        · exact .mark _ _ _ _ u (v.1.natAbs, v.2) n3 n4 n5 t0 t1 fu fa z0
    · intro i ni li
      rw [List.getElem?_append_left (by omega), x5.out ni]
      exact ou i ni li
  · rintro e h1 ⟨k, l, t3, t4, t5, rfl, hk, e0, ll, gl, ou, x1⟩
    have e2 : (rngL 0 2).length = 2 := rfl
    rw [e2] at ll x1
    have le := (List.getElem?_eq_some_iff.mp e0).1
    simp [t_law_good_0]
    exact ⟨hk, l, e0, x1.fl.cl _, q l _ (by omega) gl ((x1.more (by omega)).take pl rfl (by omega) ou)⟩
end
end K03
namespace K03
open PySem M
/-! ### what is no entry -/
def noNames (x : Str) : List D := [.str "", .str (x ++ "abcdefgh"), .str (Txt.upper x), .str (⟨(x.cps.toList.take 7).toArray⟩ ++ "1"), .str (⟨(x.cps.toList.take 6).toArray⟩ ++ " a"), .str " ", .str (⟨(x.cps.toList.take 7).toArray⟩ ++ "-"), .str "a\n",
  .none, .int 7, .bool true, .list [], .list [.str x], .tuple [.str x], .dict [], .tuple [.list []], .tuple [.tuple []], .tuple [.dict []],
  .str (⟨(x.cps.toList.take 1).toArray⟩ ++ "A" ++ ⟨((x.cps.toList.drop 2).take 5).toArray⟩), .str (":" ++ ⟨(x.cps.toList.take 7).toArray⟩)]
def nf0 : List D := [.none, .int 0, .int 1, .bool true, .str "1", .str "1/2", .list [.int 1, .int 2], .tuple [], .tuple [.int 1], .tuple [.int 1, .int 2, .int 3], .tuple [.int 2, .int 4], .tuple [.int 0, .int 2], .tuple [.int 1, .int 0], .tuple [.int 1, .int (-2)], .tuple [.int (-3), .int 3], .dict []]
def nf1 : List D := [.tuple [.bool true, .int 1], .tuple [.int 1, .bool true], .tuple [.bool false, .int 1], .tuple [.str "1", .int 1], .tuple [.int 1, .str "1"], .tuple [.none, .int 1], .tuple [.int 1, .none], .tuple [.list [], .int 1], .tuple [.int 1, .list []]]
def nf2 (m : Int) : List D := [.tuple [.tuple [.int 1, .int 2]], .tuple [.int (m + 1), .int 1], .tuple [.int (m * 1000 + 1), .int 1000], .tuple [.int 1, .int 1001], .tuple [.int (-m - 1), .int 1]]
def nf3 (m : Int) : List D := [.tuple [.int (-(m * 1000) - 1), .int 1000]]
def nf4 : List D := [.tuple [.int (10 ^ 40), .int 1], .tuple [.int 1, .int (10 ^ 40)], .tuple [.dict [], .int 1], .tuple [.tuple [.int 1, .int 2], .int 1], .tuple [.list [.int 1, .int 2]]]
def noFr (m : Int) : List D := nf0 ++ nf1 ++ nf2 m ++ nf3 m ++ nf4
section
variable {n : Nat} {g h : Hh} {Q : W → Hh → Prop} {E : Nat → Hh → Prop}
theorem r_noFr (m : Int) (m0 : 0 ≤ m) (m1 : m ≤ 1000000) (fl : Flat h) : M.run S.glb S.T (n + 1) f_law_no_fractions [.dat (.int m)] h = .ok (.dat (.list (noFr m))) h := by
  have key : okW (M.run S.glb S.T (n + 1) f_law_no_fractions [.dat (.int m)] h) (fun w h' => w = .dat (.list (noFr m)) ∧ h' = h) noE := by
    rw [run_law_no_fractions]
    apply own_fin
    have big : bigMul m 1000 = true := sm.big (j := 30) (k := 30) (sm_of m0 (by simp; omega)) (sm_of (by decide) (by decide)) (by decide)
    have p4 : okPow 10 40 = true := by decide
    simp [b_law_no_fractions]
    rw [← nf0]
    simp [t_law_no_fractions_3]
    refine own_add (own_new fl nf0) nf1 (by decide) fun k h o => ?_
    simp [t_law_no_fractions_2, big]
    refine own_add o (nf2 m) (by show 16 + 9 + 5 ≤ 1000000; decide) fun k h o => ?_
    simp [t_law_no_fractions_1, big, own_is o]
    refine own_app o _ (by show 16 + 9 + 5 < 1000000; decide) fun h o => ?_
    simp [t_law_no_fractions_0, p4]
    refine own_addD o nf4 (by show 16 + 9 + 5 + 1 + 5 ≤ 1000000; decide) ?_
    exact ⟨rfl, _, _, o⟩
  obtain ⟨a, h', e, rfl, rfl⟩ := key.get
  exact e
end
section
variable {n : Nat} {g h : Hh} {Q : W → Hh → Prop} {E : Nat → Hh → Prop}
theorem r_noNames (x : Str) (l : x.length ≤ 8) : M.run S.glb S.T (n + 1) f_law_no_names [.dat (.str x)] h = .ok (.dat (.list (noNames x))) h := by
  have key : okW (M.run S.glb S.T (n + 1) f_law_no_names [.dat (.str x)] h) (fun w h' => w = .dat (.list (noNames x)) ∧ h' = h) noE := by
    rw [run_law_no_names]
    apply okW_keep
    have sx : x.length ≤ sizeL := by simp [sizeL]; omega
    have c1 : ∀ k : Nat, slice (.dat (.str x)) none (some (k : Int)) h = .ok (.dat (.str ⟨(x.cps.toList.take k).toArray⟩)) h := fun k => by rw [slice_str _ _ _ sx, cut_to]
    have c2 : slice (.dat (.str x)) (some 2) (some 7) h = .ok (.dat (.str ⟨((x.cps.toList.drop 2).take 5).toArray⟩)) h := by
      rw [slice_str _ _ _ sx]
      exact congrArg (fun l : List Nat => Res.ok (W.dat (.str ⟨l.toArray⟩)) h) (cut_ij x.cps.toList 2 7)
    have k1 : slice (.dat (.str x)) none (some 1) h = .ok (.dat (.str ⟨(x.cps.toList.take 1).toArray⟩)) h := c1 1
    have k6 : slice (.dat (.str x)) none (some 6) h = .ok (.dat (.str ⟨(x.cps.toList.take 6).toArray⟩)) h := c1 6
    have k7 : slice (.dat (.str x)) none (some 7) h = .ok (.dat (.str ⟨(x.cps.toList.take 7).toArray⟩)) h := c1 7
    have ta : ∀ k, (⟨(x.cps.toList.take k).toArray⟩ : Str).length ≤ 8 := fun k => Nat.le_trans (str_take x 0 k) l
    have tb : (⟨((x.cps.toList.drop 2).take 5).toArray⟩ : Str).length ≤ 8 := Nat.le_trans (str_take x 2 5) l
    have s1 : ∀ (a b : Str), a.length ≤ 20 → b.length ≤ 20 → a.length + b.length ≤ sizeL := fun a b p q => by simp [sizeL]; omega
    have s2 : x.length ≤ 5592405 := by omega
    have a1 : x.length + ("abcdefgh" : Str).length ≤ sizeL := s1 _ _ (by omega) (by decide +kernel)
    have a2 : ∀ k, (⟨(x.cps.toList.take k).toArray⟩ : Str).length + ("1" : Str).length ≤ sizeL := fun k => s1 _ _ (Nat.le_trans (ta k) (by decide)) (by decide +kernel)
    have a3 : ∀ k, (⟨(x.cps.toList.take k).toArray⟩ : Str).length + (" a" : Str).length ≤ sizeL := fun k => s1 _ _ (Nat.le_trans (ta k) (by decide)) (by decide +kernel)
    have a4 : ∀ k, (⟨(x.cps.toList.take k).toArray⟩ : Str).length + ("-" : Str).length ≤ sizeL := fun k => s1 _ _ (Nat.le_trans (ta k) (by decide)) (by decide +kernel)
    have a5 : ∀ k, (⟨(x.cps.toList.take k).toArray⟩ : Str).length + ("A" : Str).length ≤ sizeL := fun k => s1 _ _ (Nat.le_trans (ta k) (by decide)) (by decide +kernel)
    have a6 : ∀ k, ((⟨(x.cps.toList.take k).toArray⟩ : Str) ++ "A").length + (⟨((x.cps.toList.drop 2).take 5).toArray⟩ : Str).length ≤ sizeL := fun k => s1 _ _ (by rw [str_len, show ("A" : Str).length = 1 by decide +kernel]; have := ta k; omega) (Nat.le_trans tb (by decide))
    have a7 : ∀ k, (":" : Str).length + (⟨(x.cps.toList.take k).toArray⟩ : Str).length ≤ sizeL := fun k => s1 _ _ (by decide +kernel) (Nat.le_trans (ta k) (by decide))
    simp [b_law_no_names, k1, k6, k7, c2, a1, a2, a3, a4, a5, a6, a7, s2, t_law_no_names_1, t_law_no_names_0]
    exact ⟨by decide, by decide, rfl⟩
  obtain ⟨a, h', e, rfl, rfl⟩ := key.get
  exact e
end
end K03
namespace K03
open PySem M
def wordsOf (w : Str) : List D := [.str "", .str (w ++ "s"), .str (Txt.upper w), .str "cloud", .str "moment", .none, .int 7, .bool true, .list [], .list [.str w], .tuple [.str w], .dict []]
def noFr2 : List D := noFr 1000 ++ [.tuple [.int (-1), .int 1], .tuple [.int (-1), .int 1000]]
def ways2 (w x : Str) (u v : D) : List D := (wordsOf w).map (fun d => .tuple [d, .str x, u, v]) ++ (noNames x).map (fun d => .tuple [.str w, d, u, v]) ++ (noFr 1000000).map (fun d => .tuple [.str w, .str x, d, v]) ++ noFr2.map (fun d => .tuple [.str w, .str x, u, d])
theorem comp_dat {h : Hh} {step : W → Hh → Res (Option W)} (g : D → D) (l : List D) (hs : ∀ d, step (.dat d) h = .ok (some (.dat (g d))) h) (hl : l.length ≤ sizeL) : compL step (l.map .dat) h [] = .ok ((l.map g).map .dat) h := compL_map .dat g l (fun d _ => hs d) hl
section
variable {n : Nat} {g h : Hh} {Q : W → Hh → Prop} {E : Nat → Hh → Prop}
theorem s_ways2 (w x : Str) (u v : D) (lw : w.length ≤ 8) (lx : x.length ≤ 8) (fl : Flat h) (q : Q (.dat (.list (ways2 w x u v))) h) : okW (M.run S.glb S.T (n + 2) f_law_ways [.dat (.tuple [.str w, .str x, u, v])] h) Q E := by
  rw [run_law_ways]
  apply own_fin
  have a1 : w.length + ("s" : Str).length ≤ sizeL := by rw [show ("s" : Str).length = 1 by decide +kernel]; simp [sizeL]; omega
  have a2 : w.length ≤ 5592405 := by omega
  simp [b_law_ways, a1, a2]
  rw [← wordsOf]
  simp [t_law_ways_10]
  rw [comp_dat (g := fun d => .tuple [d, .str x, u, v])]
  rotate_left
  · intro d
    simp [e_law_ways_9, cutL, cutM, sizeL]
  · show 12 ≤ 1000000; decide
  simp only [okW_ok, dsOf_map]
  have o := own_new fl ((wordsOf w).map fun d => .tuple [d, .str x, u, v])
  generalize h ++ [lst ((wordsOf w).map fun d => .tuple [d, .str x, u, v])] = h1 at o ⊢
  generalize h.length = k1 at o ⊢
  simp [t_law_ways_8]
  refine ⟨⟨rfl, rfl⟩, ?_⟩
  rw [show rngL 1 2 = [.dat (.int 1)] from rfl]
  simp [forL, l_law_ways_7, r_noNames x lx]
  rw [comp_dat (g := fun d => .tuple [.str w, d, u, v])]
  rotate_left
  · intro d
    simp [e_law_ways_6, cutL, cutM, sizeL]
  · show 20 ≤ 1000000; decide
  simp only [okW_ok, dsOf_map]
  refine own_add o _ (by simp [wordsOf, noNames, sizeL]) fun k h2 o => ?_
  simp [t_law_ways_5, t_law_ways_3]
  have p6 : okPow 10 6 = true := by decide
  simp [p6, r_noFr 1000000 (by decide) (by decide) o.fl]
  rw [comp_dat (g := fun d => .tuple [.str w, .str x, d, v])]
  rotate_left
  · intro d
    simp [e_law_ways_2, cutL, cutM, sizeL]
  · show 36 ≤ 1000000; decide
  simp only [okW_ok, dsOf_map]
  refine own_add o _ (by simp [wordsOf, noNames, sizeL, noFr, nf0, nf1, nf2, nf3, nf4]) fun k h3 o => ?_
  simp [t_law_ways_1, r_noFr 1000 (by decide) (by decide) o.fl]
  refine ⟨by show 36 + 2 ≤ 1000000; decide, ?_⟩
  rw [show List.map W.dat (noFr 1000) ++ [W.dat (.tuple [.int (-1), .int 1]), W.dat (.tuple [.int (-1), .int 1000])] = noFr2.map .dat by simp [noFr2]]
  rw [comp_dat (g := fun d => .tuple [.str w, .str x, u, d])]
  rotate_left
  · intro d
    simp [e_law_ways_0, cutL, cutM, sizeL]
  · show 38 ≤ 1000000; decide
  simp only [okW_ok, dsOf_map]
  refine own_addD o _ (by simp [wordsOf, noNames, sizeL, noFr, nf0, nf1, nf2, nf3, nf4, noFr2]) ?_
  exact ⟨_, rfl, ⟨_, _, o⟩, q⟩
end
end K03
namespace K03
open PySem M
def nightsN : List D := [.int (-1), .int 1000, .int (10 ^ 20), .bool true, .bool false, .none, .str "3", .str "", .list [.int 3], .tuple [.int 3], .dict [], .tuple [.int 0, .int 1]]
def ways7 (w x y z : Str) (t u v : D) : List D := (wordsOf w).map (fun d => .tuple [d, .str x, .str y, .str z, t, u, v]) ++ (noNames x).map (fun d => .tuple [.str w, d, .str y, .str z, t, u, v]) ++ (noNames y).map (fun d => .tuple [.str w, .str x, d, .str z, t, u, v]) ++ (noNames z).map (fun d => .tuple [.str w, .str x, .str y, d, t, u, v])
  ++ nightsN.map (fun d => .tuple [.str w, .str x, .str y, .str z, d, u, v]) ++ (noFr 1000000).map (fun d => .tuple [.str w, .str x, .str y, .str z, t, d, v]) ++ noFr2.map (fun d => .tuple [.str w, .str x, .str y, .str z, t, u, d])
section
variable {n : Nat} {g h : Hh} {Q : W → Hh → Prop} {E : Nat → Hh → Prop}
theorem s_ways7 (w x y z : Str) (t u v : D) (lw : w.length ≤ 8) (lx : x.length ≤ 8) (ly : y.length ≤ 8) (lz : z.length ≤ 8) (fl : Flat h) (q : Q (.dat (.list (ways7 w x y z t u v))) h) : okW (M.run S.glb S.T (n + 2) f_law_ways [.dat (.tuple [.str w, .str x, .str y, .str z, t, u, v])] h) Q E := by
  rw [run_law_ways]
  apply own_fin
  have a1 : w.length + ("s" : Str).length ≤ sizeL := by rw [show ("s" : Str).length = 1 by decide +kernel]; simp [sizeL]; omega
  have a2 : w.length ≤ 5592405 := by omega
  simp [b_law_ways, a1, a2]
  rw [← wordsOf]
  simp [t_law_ways_10]
  rw [comp_dat (g := fun d => .tuple [d, .str x, .str y, .str z, t, u, v])]
  rotate_left
  · intro d
    simp [e_law_ways_9, cutL, cutM, sizeL]
  · show 12 ≤ 1000000; decide
  simp only [okW_ok, dsOf_map]
  have o := own_new fl ((wordsOf w).map fun d => .tuple [d, .str x, .str y, .str z, t, u, v])
  generalize h ++ [lst ((wordsOf w).map fun d => .tuple [d, .str x, .str y, .str z, t, u, v])] = h1 at o ⊢
  generalize h.length = k1 at o ⊢
  simp [t_law_ways_8]
  refine ⟨⟨rfl, rfl⟩, ?_⟩
  rw [show rngL 1 4 = [.dat (.int 1), .dat (.int 2), .dat (.int 3)] from rfl]
  simp [forL, l_law_ways_7, r_noNames x lx]
  rw [comp_dat (g := fun d => .tuple [.str w, d, .str y, .str z, t, u, v])]
  rotate_left
  · intro d
    simp [e_law_ways_6, cutL, cutM, sizeL]
  · show 20 ≤ 1000000; decide
  simp only [okW_ok, dsOf_map]
  refine own_add o _ (by simp [wordsOf, noNames, sizeL]) fun k h2 o => ?_
  simp [r_noNames y ly]
  rw [comp_dat (g := fun d => .tuple [.str w, .str x, d, .str z, t, u, v])]
  rotate_left
  · intro d
    simp [e_law_ways_6, cutL, cutM, sizeL]
  · show 20 ≤ 1000000; decide
  simp only [okW_ok, dsOf_map]
  refine own_add o _ (by simp [wordsOf, noNames, sizeL]) fun k h2 o => ?_
  simp [r_noNames z lz]
  rw [comp_dat (g := fun d => .tuple [.str w, .str x, .str y, d, t, u, v])]
  rotate_left
  · intro d
    simp [e_law_ways_6, cutL, cutM, sizeL]
  · show 20 ≤ 1000000; decide
  simp only [okW_ok, dsOf_map]
  refine own_add o _ (by simp [wordsOf, noNames, sizeL]) fun k h2 o => ?_
  have p20 : okPow 10 20 = true := by decide
  simp [t_law_ways_5, p20]
  refine own_for (fun d => .tuple [.str w, .str x, .str y, .str z, d, u, v]) (fun e => ∃ s, e = [some (.dat (.tuple [.str w, .str x, .str y, .str z, t, u, v])), some (.dat (.list (wordsOf w))), some (.ref k), none, some (.dat (.int 3)), none, s]) nightsN (by simp [wordsOf, noNames, nightsN, sizeL]) o ⟨_, rfl⟩ ?_ ?_
  · rintro d e h3 l ⟨s, rfl⟩ o lt
    simp [l_law_ways_4, own_is o, cutL, cutM, sizeL]
    exact own_app o _ lt fun h4 o => by simpa using o
  rintro e h3 ⟨s, rfl⟩ o
  have p6 : okPow 10 6 = true := by decide
  simp [t_law_ways_3, p6, r_noFr 1000000 (by decide) (by decide) o.fl]
  rw [comp_dat (g := fun d => .tuple [.str w, .str x, .str y, .str z, t, d, v])]
  rotate_left
  · intro d
    simp [e_law_ways_2, cutL, cutM, sizeL]
  · show 36 ≤ 1000000; decide
  simp only [okW_ok, dsOf_map]
  refine own_add o _ (by simp [wordsOf, noNames, nightsN, sizeL, noFr, nf0, nf1, nf2, nf3, nf4]) fun k h3 o => ?_
  simp [t_law_ways_1, r_noFr 1000 (by decide) (by decide) o.fl]
  refine ⟨by show 36 + 2 ≤ 1000000; decide, ?_⟩
  rw [show List.map W.dat (noFr 1000) ++ [W.dat (.tuple [.int (-1), .int 1]), W.dat (.tuple [.int (-1), .int 1000])] = noFr2.map .dat by simp [noFr2]]
  rw [comp_dat (g := fun d => .tuple [.str w, .str x, .str y, .str z, t, u, d])]
  rotate_left
  · intro d
    simp [e_law_ways_0, cutL, cutM, sizeL]
  · show 38 ≤ 1000000; decide
  simp only [okW_ok, dsOf_map]
  refine own_addD o _ (by simp [wordsOf, noNames, nightsN, sizeL, noFr, nf0, nf1, nf2, nf3, nf4, noFr2]) ?_
  exact ⟨_, rfl, ⟨_, _, o⟩, q⟩
end
end K03
namespace K03
open PySem M
/-! ### they are none -/
theorem nameD_bad {x : Str} {c : Nat} (hc : c ∈ x.cps.toList) (nb : letB c = false) : nameD (.str x) = false := by
  have e : x.cps.toList.all letB = false := by
    rw [List.all_eq_false]
    exact ⟨c, hc, by simp [nb]⟩
  show (decide (1 ≤ x.length) && (decide (x.length ≤ 8) && x.cps.toList.all letB)) = false
  rw [e]
  simp
theorem nameD_long {x : Str} (l : 8 < x.length) : nameD (.str x) = false := by
  have e : decide (x.length ≤ 8) = false := decide_eq_false (by omega)
  show (decide (1 ≤ x.length) && (decide (x.length ≤ 8) && x.cps.toList.all letB)) = false
  rw [e]
  simp
theorem app_cps (x y : Str) : (x ++ y).cps.toList = x.cps.toList ++ y.cps.toList := by
  show (Str.append x y).cps.toList = _
  simp [Str.append]
theorem okPart_app {x y : Str} (hx : ∀ c ∈ x.cps.toList, c < 1114112) (hy : ∀ c ∈ y.cps.toList, c < 1114112) (l : x.length + y.length ≤ 1000) : okPart (.str (x ++ y)) := by
  refine ok_str (by rw [str_len]; omega) fun c hc => ?_
  rw [app_cps] at hc
  rcases List.mem_append.mp hc with z | z
  · exact hx c z
  · exact hy c z
theorem cps_mk (l : List Nat) : (⟨l.toArray⟩ : Str).cps.toList = l := by simp
theorem okPart_c (x : Str) (a : (decide (x.length ≤ 1000) && x.cps.toList.all fun c => decide (c < 1114112)) = true) : okPart (.str x) := by
  have a := and2 a
  exact ok_str (of_decide_eq_true a.1) fun c hc => of_decide_eq_true (List.all_eq_true.mp a.2 c hc)
def noneN (d : D) : Prop := nameD d = false ∧ okPart d
theorem noneN_app {x y : Str} {c : Nat} (hx : ∀ c ∈ x.cps.toList, c < 1114112) (hy : ∀ c ∈ y.cps.toList, c < 1114112) (l : x.length + y.length ≤ 1000) (hc : c ∈ x.cps.toList ++ y.cps.toList) (nb : letB c = false) : noneN (.str (x ++ y)) :=
  ⟨nameD_bad (by rw [app_cps]; exact hc) nb, okPart_app hx hy l⟩
theorem up1_no : ∀ c ∈ letL, letB (PyProof.Rows.up1 c) = false ∧ PyProof.Rows.up1 c < 1114112 ∧ c < 128 := by decide +kernel
theorem noNames_none {x : Str} (e : nameD (.str x) = true) : ∀ d ∈ noNames x, noneN d := by
  obtain ⟨l1, l8, lt⟩ := nameD_len e
  have cx : ∀ c ∈ x.cps.toList, c < 1114112 := fun c hc => let_cp c (of_decide_eq_true (lt c hc))
  have ct : ∀ i j, ∀ c ∈ (⟨((x.cps.toList.drop i).take j).toArray⟩ : Str).cps.toList, c < 1114112 := fun i j c hc => by
    rw [cps_mk] at hc
    exact cx c (List.mem_of_mem_drop (List.mem_of_mem_take hc))
  have tl : ∀ i j, (⟨((x.cps.toList.drop i).take j).toArray⟩ : Str).length ≤ 8 := fun i j => Nat.le_trans (str_take x i j) l8
  have up : Txt.upper x = ⟨x.cps.map PyProof.Rows.up1⟩ := PyProof.Rows.upper_ascii fun c hc => (up1_no c (of_decide_eq_true (lt c hc))).2.2
  have lu : (Txt.upper x).length = x.length := by rw [up]; simp [Str.length]
  have mu : ∀ c ∈ (Txt.upper x).cps.toList, letB c = false ∧ c < 1114112 := fun c hc => by
    rw [up] at hc
    simp at hc
    obtain ⟨a, ha, rfl⟩ := hc
    have z := up1_no a (of_decide_eq_true (lt a (by simpa using ha)))
    exact ⟨z.1, z.2.1⟩
  intro d hd
  unfold noNames at hd
  simp only [List.mem_cons, List.not_mem_nil, or_false] at hd
  rcases hd with rfl | rfl | rfl | rfl | rfl | rfl | rfl | rfl | rfl | rfl | rfl | rfl | rfl | rfl | rfl | rfl | rfl | rfl | rfl | rfl
  · exact ⟨by decide +kernel, okPart_c _ (by decide +kernel)⟩
  · have l8' : ("abcdefgh" : Str).length = 8 := by decide +kernel
    exact ⟨nameD_long (by rw [str_len]; omega), okPart_app cx (by decide +kernel) (by omega)⟩
  · refine ⟨?_, ok_str (by omega) fun c hc => (mu c hc).2⟩
    have p : 0 < (Txt.upper x).cps.toList.length := by
      show 0 < (Txt.upper x).length
      omega
    exact nameD_bad (List.getElem_mem p) (mu _ (List.getElem_mem p)).1
  · exact noneN_app (y := "1") (c := 49) (ct 0 7) (by decide +kernel) (Nat.le_trans (Nat.add_le_add (tl 0 7) (show ("1" : Str).length ≤ 2 by decide +kernel)) (by decide)) (List.mem_append_right _ (by decide +kernel)) (by decide +kernel)
  · exact noneN_app (y := " a") (c := 32) (ct 0 6) (by decide +kernel) (Nat.le_trans (Nat.add_le_add (tl 0 6) (show (" a" : Str).length ≤ 2 by decide +kernel)) (by decide)) (List.mem_append_right _ (by decide +kernel)) (by decide +kernel)
  · exact ⟨by decide +kernel, okPart_c _ (by decide +kernel)⟩
  · exact noneN_app (y := "-") (c := 45) (ct 0 7) (by decide +kernel) (Nat.le_trans (Nat.add_le_add (tl 0 7) (show ("-" : Str).length ≤ 2 by decide +kernel)) (by decide)) (List.mem_append_right _ (by decide +kernel)) (by decide +kernel)
  · exact ⟨by decide +kernel, okPart_c _ (by decide +kernel)⟩
  · exact ⟨rfl, trivial⟩
  · exact ⟨rfl, trivial⟩
  · exact ⟨rfl, trivial⟩
  · exact ⟨rfl, trivial⟩
  · exact ⟨rfl, trivial⟩
  · exact ⟨rfl, trivial⟩
  · exact ⟨rfl, trivial⟩
  · exact ⟨rfl, trivial⟩
  · exact ⟨rfl, trivial⟩
  · exact ⟨rfl, trivial⟩
  · refine noneN_app (c := 65) (fun c hc => ?_) (ct 2 5) (Nat.le_trans (Nat.add_le_add (show _ ≤ 9 from ?_) (tl 2 5)) (by decide)) (List.mem_append_left _ ?_) (by decide +kernel)
    · rw [app_cps] at hc
      rcases List.mem_append.mp hc with z | z
      · exact ct 0 1 c z
      · exact (show ∀ c ∈ ("A" : Str).cps.toList, c < 1114112 by decide +kernel) c z
    · rw [str_len]
      exact Nat.add_le_add (tl 0 1) (show ("A" : Str).length ≤ 1 by decide +kernel)
    · rw [app_cps]
      exact List.mem_append_right _ (by decide +kernel)
  · exact noneN_app (x := ":") (c := 58) (by decide +kernel) (ct 0 7) (Nat.le_trans (Nat.add_le_add (show (":" : Str).length ≤ 1 by decide +kernel) (tl 0 7)) (by decide)) (List.mem_append_left _ (by decide +kernel)) (by decide +kernel)
end K03
namespace K03
open PySem M
def okPartB : D → Bool
  | .str x => decide (x.length ≤ 1000) && x.cps.toList.all fun c => decide (c < 1114112)
  | _ => true
theorem okPart_of {d : D} (e : okPartB d = true) : okPart d := by
  cases d with
  | str x => exact okPart_c x e
  | _ => trivial
def badW : D → Bool
  | .str w => !(decide (w = "habit" ∨ w = "gain") || decide (w = "mark"))
  | _ => true
theorem words_none : ∀ w ∈ (["habit", "gain", "mark"] : List Str), ∀ d ∈ wordsOf w, badW d = true ∧ okPartB d = true := by decide +kernel
theorem fr6_none : ∀ d ∈ noFr 1000000, toldD (-1000000) 1000000 d = false ∧ okPartB d = true := by decide +kernel
theorem fr3_none : ∀ d ∈ noFr2, toldD 0 1000 d = false ∧ okPartB d = true := by decide +kernel
theorem nights_none : ∀ d ∈ nightsN, nightD d = false ∧ okPartB d = true := by decide +kernel
theorem bad4 {d x u v : D} (e : badW d = true) : entryD (.tuple [d, x, u, v]) = false := by
  cases d with
  | str w =>
    have e : (!(decide (w = "habit" ∨ w = "gain") || decide (w = "mark"))) = true := e
    rw [Bool.not_eq_true', Bool.or_eq_false_iff] at e
    show (decide (w = "habit" ∨ w = "gain") && _) = false
    rw [e.1]
    rfl
  | _ => rfl
theorem bad7 {d x y z t u v : D} (e : badW d = true) : entryD (.tuple [d, x, y, z, t, u, v]) = false := by
  cases d with
  | str w =>
    have e : (!(decide (w = "habit" ∨ w = "gain") || decide (w = "mark"))) = true := e
    rw [Bool.not_eq_true', Bool.or_eq_false_iff] at e
    show (decide (w = "mark") && _) = false
    rw [e.2]
    rfl
  | _ => rfl
def noneE (d : D) : Prop := entryD d = false ∧ okAll d
theorem ok4 {a b c d : D} (ha : okPart a) (hb : okPart b) (hc : okPart c) (hd : okPart d) : okAll (.tuple [a, b, c, d]) := by
  intro x hx
  simp at hx
  rcases hx with rfl | rfl | rfl | rfl <;> assumption
theorem ok7 {a b c d e f g : D} (ha : okPart a) (hb : okPart b) (hc : okPart c) (hd : okPart d) (he : okPart e) (hf : okPart f) (hg : okPart g) : okAll (.tuple [a, b, c, d, e, f, g]) := by
  intro x hx
  simp at hx
  rcases hx with rfl | rfl | rfl | rfl | rfl | rfl | rfl <;> assumption
theorem ways2_none {w x : Str} {u v : Int × Int} (hw : w = "habit" ∨ w = "gain") (hx : nameD (.str x) = true) : ∀ d ∈ ways2 w x (fr u) (fr v), noneE d := by
  have ow : okPart (.str w) := by rcases hw with rfl | rfl <;> exact okPart_c _ (by decide +kernel)
  have ox := ok_name hx
  have mw : w ∈ (["habit", "gain", "mark"] : List Str) := by rcases hw with rfl | rfl <;> simp
  intro d hd
  unfold ways2 at hd
  rcases List.mem_append.mp hd with hd | hd
  · rcases List.mem_append.mp hd with hd | hd
    · rcases List.mem_append.mp hd with hd | hd
      · obtain ⟨a, ha, rfl⟩ := List.mem_map.mp hd
        have z := words_none w mw a ha
        exact ⟨bad4 z.1, ok4 (okPart_of z.2) ox trivial trivial⟩
      · obtain ⟨a, ha, rfl⟩ := List.mem_map.mp hd
        have z := noNames_none hx a ha
        exact ⟨by simp [entryD, z.1], ok4 ow z.2 trivial trivial⟩
    · obtain ⟨a, ha, rfl⟩ := List.mem_map.mp hd
      have z := fr6_none a ha
      exact ⟨by simp [entryD, endsD, z.1], ok4 ow ox (okPart_of z.2) trivial⟩
  · obtain ⟨a, ha, rfl⟩ := List.mem_map.mp hd
    have z := fr3_none a ha
    exact ⟨by simp [entryD, endsD, z.1], ok4 ow ox trivial (okPart_of z.2)⟩
theorem ways7_none {x y z : Str} {t : Int} {u v : Int × Int} (hx : nameD (.str x) = true) (hy : nameD (.str y) = true) (hz : nameD (.str z) = true) : ∀ d ∈ ways7 "mark" x y z (.int t) (fr u) (fr v), noneE d := by
  have ow : okPart (.str "mark") := okPart_c _ (by decide +kernel)
  have ox := ok_name hx
  have oy := ok_name hy
  have oz := ok_name hz
  intro d hd
  unfold ways7 at hd
  rcases List.mem_append.mp hd with hd | hd
  · rcases List.mem_append.mp hd with hd | hd
    · rcases List.mem_append.mp hd with hd | hd
      · rcases List.mem_append.mp hd with hd | hd
        · rcases List.mem_append.mp hd with hd | hd
          · rcases List.mem_append.mp hd with hd | hd
            · obtain ⟨a, ha, rfl⟩ := List.mem_map.mp hd
              have z := words_none "mark" (by simp) a ha
              exact ⟨bad7 z.1, ok7 (okPart_of z.2) ox oy oz trivial trivial trivial⟩
            · obtain ⟨a, ha, rfl⟩ := List.mem_map.mp hd
              have z := noNames_none hx a ha
              exact ⟨by simp [entryD, z.1], ok7 ow z.2 oy oz trivial trivial trivial⟩
          · obtain ⟨a, ha, rfl⟩ := List.mem_map.mp hd
            have z := noNames_none hy a ha
            exact ⟨by simp [entryD, z.1], ok7 ow ox z.2 oz trivial trivial trivial⟩
        · obtain ⟨a, ha, rfl⟩ := List.mem_map.mp hd
          have z := noNames_none hz a ha
          exact ⟨by simp [entryD, z.1], ok7 ow ox oy z.2 trivial trivial trivial⟩
      · obtain ⟨a, ha, rfl⟩ := List.mem_map.mp hd
        have z := nights_none a ha
        exact ⟨by simp [entryD, z.1], ok7 ow ox oy oz (okPart_of z.2) trivial trivial⟩
    · obtain ⟨a, ha, rfl⟩ := List.mem_map.mp hd
      have z := fr6_none a ha
      exact ⟨by simp [entryD, endsD, z.1], ok7 ow ox oy oz trivial (okPart_of z.2) trivial⟩
  · obtain ⟨a, ha, rfl⟩ := List.mem_map.mp hd
    have z := fr3_none a ha
    exact ⟨by simp [entryD, endsD, z.1], ok7 ow ox oy oz trivial trivial (okPart_of z.2)⟩
end K03
namespace K03
open PySem M
section
variable {n : Nat} {g h : Hh} {Q : W → Hh → Prop} {E : Nat → Hh → Prop}
def first2 (w x : Str) (u v : D) : List D := [.tuple [.str w, .str x, u], .tuple [.str w, .str x, u, v, v], .tuple [.str w, .str x, u, v, .none], .list [.str w, .str x, u, v], .tuple [.tuple [.str w, .str x, u, v]], .list [.tuple [.str w, .str x, u, v]], .tuple [.str x, u, v], .tuple []]
def second2 (w x : Str) (u v : D) : List D := [.str w, .none, .int 7, .bool true, .dict [], .tuple [.str w], .tuple [v, u, .str x, .str w], .tuple [.str w, .str x, v]]
theorem mark4 {x u v : D} : entryD (.tuple [.str "mark", x, u, v]) = false := by
  have e : decide (("mark" : Str) = "habit" ∨ ("mark" : Str) = "gain") = false := by decide +kernel
  simp only [entryD, e, Bool.false_and]
theorem habit7 {x y z t u v : D} : entryD (.tuple [.str "habit", x, y, z, t, u, v]) = false := by
  have e : decide (("habit" : Str) = "mark") = false := by decide +kernel
  simp only [entryD, e, Bool.false_and]
theorem s_none2 (w x : Str) (u v : Int × Int) (hw : w = "habit" ∨ w = "gain") (hx : nameD (.str x) = true) (fl : Flat h) (q : ∀ l, l.length ≤ 1000 → (∀ d ∈ l, noneE d) → Q (.dat (.list l)) h) : okW (M.run S.glb S.T (n + 3) f_law_no_entries [.dat (.tuple [.str w, .str x, fr u, fr v])] h) Q E := by
  rw [run_law_no_entries]
  apply own_fin
  have m1 : atI [PyData.str w, .str x, fr u, fr v] (-1) = some (fr v) := rfl
  simp [b_law_no_entries, cutL, cutM, sizeL, m1]
  rw [← first2]
  have o := own_new fl (first2 w x (fr u) (fr v))
  generalize h ++ [lst (first2 w x (fr u) (fr v))] = h1 at o ⊢
  generalize h.length = k1 at o ⊢
  simp [t_law_no_entries_2, cutL, cutM, sizeL]
  rw [← second2]
  refine own_add o (second2 w x (fr u) (fr v)) (by simp [first2, second2, sizeL]) fun k h2 o => ?_
  simp [t_law_no_entries_1, cutL, cutM, sizeL, own_is o]
  refine own_app o _ (by simp [first2, second2, sizeL]) fun h3 o => ?_
  have lw : w.length ≤ 8 := by rcases hw with rfl | rfl <;> decide +kernel
  simp [t_law_no_entries_0]
  refine s_ways2 w x _ _ lw (nameD_len hx).2.1 o.fl ?_
  refine own_addD o _ (by simp [first2, second2, ways2, wordsOf, noNames, sizeL, noFr, nf0, nf1, nf2, nf3, nf4, noFr2]) ?_
  refine ⟨_, rfl, ⟨_, _, o⟩, q _ (by simp [first2, second2, ways2, wordsOf, noNames, noFr, nf0, nf1, nf2, nf3, nf4, noFr2]) ?_⟩
  have ow : okPart (.str w) := by rcases hw with rfl | rfl <;> exact okPart_c _ (by decide +kernel)
  have ox := ok_name hx
  intro d hd
  rcases List.mem_append.mp hd with hd | hd
  · rcases List.mem_append.mp hd with hd | hd
    · rcases List.mem_append.mp hd with hd | hd
      · simp only [first2, List.mem_cons, List.not_mem_nil, or_false] at hd
        rcases hd with rfl | rfl | rfl | rfl | rfl | rfl | rfl | rfl
        · exact ⟨rfl, by intro y hy; simp at hy; rcases hy with rfl | rfl | rfl <;> first | assumption | trivial⟩
        · exact ⟨rfl, by intro y hy; simp at hy; rcases hy with rfl | rfl | rfl | rfl | rfl <;> first | assumption | trivial⟩
        · exact ⟨rfl, by intro y hy; simp at hy; rcases hy with rfl | rfl | rfl | rfl | rfl <;> first | assumption | trivial⟩
        · exact ⟨rfl, trivial⟩
        · exact ⟨rfl, by intro y hy; simp at hy; subst hy; trivial⟩
        · exact ⟨rfl, trivial⟩
        · exact ⟨rfl, by intro y hy; simp at hy; rcases hy with rfl | rfl | rfl <;> first | assumption | trivial⟩
        · exact ⟨rfl, by intro y hy; simp at hy⟩
      · simp only [second2, List.mem_cons, List.not_mem_nil, or_false] at hd
        rcases hd with rfl | rfl | rfl | rfl | rfl | rfl | rfl | rfl
        · exact ⟨rfl, trivial⟩
        · exact ⟨rfl, trivial⟩
        · exact ⟨rfl, trivial⟩
        · exact ⟨rfl, trivial⟩
        · exact ⟨rfl, trivial⟩
        · exact ⟨rfl, by intro y hy; simp at hy; subst hy; assumption⟩
        · exact ⟨rfl, ok4 trivial trivial ox ow⟩
        · exact ⟨rfl, by intro y hy; simp at hy; rcases hy with rfl | rfl | rfl <;> first | assumption | trivial⟩
    · rw [List.mem_singleton.mp hd]
      exact ⟨mark4, ok4 (okPart_c _ (by decide +kernel)) ox trivial trivial⟩
  · exact ways2_none hw hx d hd
end
end K03
namespace K03
open PySem M
section
variable {n : Nat} {g h : Hh} {Q : W → Hh → Prop} {E : Nat → Hh → Prop}
def first7 (m x y z : Str) (t u v : D) : List D := [.tuple [.str m, .str x, .str y, .str z, t, u], .tuple [.str m, .str x, .str y, .str z, t, u, v, v], .tuple [.str m, .str x, .str y, .str z, t, u, v, .none], .list [.str m, .str x, .str y, .str z, t, u, v], .tuple [.tuple [.str m, .str x, .str y, .str z, t, u, v]], .list [.tuple [.str m, .str x, .str y, .str z, t, u, v]], .tuple [.str x, .str y, .str z, t, u, v], .tuple []]
def second7 (m x y z : Str) (t u v : D) : List D := [.str m, .none, .int 7, .bool true, .dict [], .tuple [.str m], .tuple [v, u, t, .str z, .str y, .str x, .str m], .tuple [.str m, .str x, .str z, t, u, v]]
def third7 (x y z : Str) (t u v : D) : List D := [.tuple [.str "habit", .str x, .str y, .str z, t, u, v], .tuple [.str "gain", .str x, t, u, v]]
theorem ok_list {l : List D} (a : ∀ d ∈ l, okPart d) : okAll (.tuple l) := a
theorem s_none7 (m x y z : Str) (hm : m = "mark") (t : Int) (u v : Int × Int) (hx : nameD (.str x) = true) (hy : nameD (.str y) = true) (hz : nameD (.str z) = true) (fl : Flat h) (q : ∀ l, l.length ≤ 1000 → (∀ d ∈ l, noneE d) → Q (.dat (.list l)) h) : okW (M.run S.glb S.T (n + 3) f_law_no_entries [.dat (.tuple [.str m, .str x, .str y, .str z, .int t, fr u, fr v])] h) Q E := by
  rw [run_law_no_entries]
  apply own_fin
  have m1 : atI [PyData.str m, .str x, .str y, .str z, .int t, fr u, fr v] (-1) = some (fr v) := rfl
  simp [b_law_no_entries, cutL, cutM, sizeL, m1]
  rw [← first7]
  have o := own_new fl (first7 m x y z (.int t) (fr u) (fr v))
  generalize h ++ [lst (first7 m x y z (.int t) (fr u) (fr v))] = h1 at o ⊢
  generalize h.length = k1 at o ⊢
  simp [t_law_no_entries_2, cutL, cutM, sizeL]
  rw [← second7]
  refine own_add o (second7 m x y z (.int t) (fr u) (fr v)) (by simp [first7, second7, sizeL]) fun k h2 o => ?_
  simp [t_law_no_entries_1, cutL, cutM, sizeL]
  rw [← third7]
  refine own_add o (third7 x y z (.int t) (fr u) (fr v)) (by simp [first7, second7, third7, sizeL]) fun k h3 o => ?_
  simp [t_law_no_entries_0]
  refine s_ways7 m x y z _ _ _ (by rw [hm]; decide +kernel) (nameD_len hx).2.1 (nameD_len hy).2.1 (nameD_len hz).2.1 o.fl ?_
  refine own_addD o _ (by simp [first7, second7, third7, ways7, wordsOf, noNames, nightsN, sizeL, noFr, nf0, nf1, nf2, nf3, nf4, noFr2]) ?_
  refine ⟨_, rfl, ⟨_, _, o⟩, q _ (by simp [first7, second7, third7, ways7, wordsOf, noNames, nightsN, noFr, nf0, nf1, nf2, nf3, nf4, noFr2]) ?_⟩
  have ow : ∀ w ∈ (["habit", "gain", "mark"] : List Str), okPart (.str w) := fun w hw => by
    have z : ∀ w ∈ (["habit", "gain", "mark"] : List Str), okPartB (.str w) = true := by decide +kernel
    exact okPart_of (z w hw)
  have om : okPart (.str m) := ow _ (by simp [hm])
  have ox := ok_name hx
  have oy := ok_name hy
  have oz := ok_name hz
  intro d hd
  rcases List.mem_append.mp hd with hd | hd
  · rcases List.mem_append.mp hd with hd | hd
    · rcases List.mem_append.mp hd with hd | hd
      · simp only [first7, List.mem_cons, List.not_mem_nil, or_false] at hd
        rcases hd with rfl | rfl | rfl | rfl | rfl | rfl | rfl | rfl
        · exact ⟨rfl, by intro y hy; simp at hy; rcases hy with rfl | rfl | rfl | rfl | rfl | rfl <;> first | assumption | trivial⟩
        · exact ⟨rfl, by intro y hy; simp at hy; rcases hy with rfl | rfl | rfl | rfl | rfl | rfl | rfl | rfl <;> first | assumption | trivial⟩
        · exact ⟨rfl, by intro y hy; simp at hy; rcases hy with rfl | rfl | rfl | rfl | rfl | rfl | rfl | rfl <;> first | assumption | trivial⟩
        · exact ⟨rfl, trivial⟩
        · exact ⟨rfl, by intro y hy; simp at hy; subst hy; trivial⟩
        · exact ⟨rfl, trivial⟩
        · exact ⟨rfl, by intro y hy; simp at hy; rcases hy with rfl | rfl | rfl | rfl | rfl | rfl <;> first | assumption | trivial⟩
        · exact ⟨rfl, by intro y hy; simp at hy⟩
      · simp only [second7, List.mem_cons, List.not_mem_nil, or_false] at hd
        rcases hd with rfl | rfl | rfl | rfl | rfl | rfl | rfl | rfl
        · exact ⟨rfl, trivial⟩
        · exact ⟨rfl, trivial⟩
        · exact ⟨rfl, trivial⟩
        · exact ⟨rfl, trivial⟩
        · exact ⟨rfl, trivial⟩
        · exact ⟨rfl, by intro y hy; simp at hy; subst hy; assumption⟩
        · exact ⟨rfl, ok7 trivial trivial trivial oz oy ox om⟩
        · exact ⟨rfl, by intro y hy; simp at hy; rcases hy with rfl | rfl | rfl | rfl | rfl | rfl <;> first | assumption | trivial⟩
    · simp only [third7, List.mem_cons, List.not_mem_nil, or_false] at hd
      rcases hd with rfl | rfl
      · exact ⟨habit7, ok7 (ow _ (by simp)) ox oy oz trivial trivial trivial⟩
      · exact ⟨rfl, by intro y hy; simp at hy; rcases hy with rfl | rfl | rfl | rfl | rfl <;> first | assumption | trivial | exact ow _ (by simp)⟩
  · subst hm
    exact ways7_none hx hy hz d hd
theorem s_none (d : D) (gd : GoodE d) (fl : Flat h) (q : ∀ l, l.length ≤ 1000 → (∀ d ∈ l, noneE d) → Q (.dat (.list l)) h) : okW (M.run S.glb S.T (n + 3) f_law_no_entries [.dat d] h) Q E := by
  cases gd with
  | two w x u v hw hx _ _ _ => exact s_none2 w x u v hw hx fl q
  | mark x y z t u v hx hy hz _ _ _ _ _ => exact s_none7 "mark" x y z rfl t u v hx hy hz fl q
theorem r_is_entry (d : D) (ok : okAll d) : M.run S.glb S.T (n + 5) f_is_entry [.dat d] h = .ok (.dat (.bool (entryD d))) h := by
  obtain ⟨a, h', e, rfl, rfl⟩ := (s_is_entry (n := n) (h := h) (E := noE) (Q := fun w h' => w = .dat (.bool (entryD d)) ∧ h' = h) d ok ⟨rfl, rfl⟩).get
  exact e
theorem r_is (a b : Bool) : M.run S.glb S.T (n + 1) f_law_is [.dat (.bool a), .dat (.bool b)] h = .ok (.dat (.bool (decide (a = b)))) h := by
  rw [run_law_is]
  cases a <;> cases b <;> rfl
theorem all_same (b : Bool) (l : List D) (f : D → Bool) (e : ∀ d ∈ l, f d = b) : (l.map fun d => PyData.bool (decide (f d = b))) = (l.map fun _ => true).map PyData.bool := by
  rw [List.map_map]
  apply List.map_congr_left
  intro d hd
  rw [e d hd]
  simp
theorem all_true (l : List D) : (l.map fun _ => true).all id = true := by
  rw [List.all_map, List.all_eq_true]
  intros
  rfl
theorem s_law (ns : List Int) (fl : Flat h) (q : ∀ h', Q (.dat (.bool true)) h') : okW (M.run S.glb S.T (n + 7) f_law [.scr ns] h) Q E := by
  rw [run_law]
  apply okW_keep
  simp [b_law]
  generalize ej : (if (1 : Int) < if (10 : Int) < ns.length then 10 else ns.length then if (10 : Int) < ns.length then 10 else ns.length else 1) = j
  have j1 : 0 ≤ j ∧ j ≤ 10 := by rw [← ej]; split <;> split <;> omega
  refine ⟨by unfold okR; rw [decide_eq_true (by omega), decide_eq_true (by omega)]; rfl, ?_⟩
  clear ej
  refine okS_for (fun e h' => Flat h' ∧ ∃ t1 t2 t3 t4 t5 t6, e = [some (.scr ns), t1, t2, t3, t4, t5, t6]) _ _ _ ⟨fl, _, _, _, _, _, _, rfl⟩ ?_ ?_
  · rintro w hw e h0 ⟨fl, t1, t2, t3, t4, t5, t6, rfl⟩
    obtain ⟨i, hi⟩ := List.getElem?_of_mem hw
    obtain ⟨rfl, li⟩ := rngL_get hi
    simp [l_law_3]
    refine s_cell ns _ (by omega) (by omega) fun v => ?_
    refine s_pool v fl fun h1 x1 l1 o1 => ?_
    try simp
    refine s_sorts x1 (by omega) fun a b d h2 la lb ld na nb nd x2 => ?_
    try simp
    refine s_good la lb ld na nb nd x2 (by omega) fun l h3 ll gl x3 => ?_
    simp
    rw [compL_map (g := fun d => PyData.bool (decide (entryD d = true)))]
    rotate_left
    · intro d hd
      simp [e_law_2, r_is_entry d (gl d hd).is.2, r_is]
    · simp [sizeL]; omega
    simp only [okW_ok, dsOf_map, bi_all]
    rw [all_same true l entryD fun d hd => (gl d hd).is.1]
    simp only [bools_map, Option.map_some, all_true, rb_some, okW_ok]
    try simp
    refine s_take 4 x3 (by decide) (by decide) (by omega) fun v h4 v0 v1 x4 => ?_
    try simp
    refine okS_for (fun e h' => Flat h' ∧ ∃ t1 t2 t3 t4 t5 t6, e = [some (.scr ns), t1, t2, t3, t4, t5, t6]) _ _ _ ⟨x4.fl, _, _, _, _, _, _, rfl⟩ ?_ ?_
    · rintro w hw e h5 ⟨fl, t1, t2, t3, t4, t5, t6, rfl⟩
      obtain ⟨d, hd, rfl⟩ := List.mem_map.mp hw
      have gd := gl d (cut_mem (cut_mem hd))
      simp [l_law_1]
      refine s_none d gd fl fun l2 ll2 no => ?_
      try simp
      rw [compL_map (g := fun d => PyData.bool (decide (entryD d = false)))]
      rotate_left
      · intro d hd
        simp [e_law_0, r_is_entry d (no d hd).2, r_is]
      · simp [sizeL]; omega
      simp only [okW_ok, dsOf_map, bi_all]
      rw [all_same false l2 entryD fun d hd => (no d hd).1]
      simp only [bools_map, Option.map_some, all_true, rb_some, okW_ok]
      try simp
      exact fl
    · rintro e h' ⟨fl, t1, t2, t3, t4, t5, t6, rfl⟩
      exact ⟨fl, _, _, _, _, _, _, rfl⟩
  · rintro e h' ⟨_, t1, t2, t3, t4, t5, t6, rfl⟩
    exact q _
end
theorem holds (ns : List Int) (_h : ns.length ≤ 63) : ∃ h', M.run S.glb S.T 20 f_law [.scr ns] [] = .ok (.dat (.bool true)) h' := by
  obtain ⟨a, h', e, rfl⟩ := (s_law (n := 13) (h := []) (Q := fun w _ => w = .dat (.bool true)) (E := noE) ns rfl fun _ => rfl).get
  exact ⟨h', e⟩

end K03
namespace K03
open PySem PySem.Spec PyProof.Rows L2 M
theorem run_ok (w : World) : HandSHeadRun.RunEq R (PySem.W.view R.prog [32]) hk ob 6000 names w := by
  intro os
  kernel_rfl
end K03
open PySem PySem.W PySem.Calls PyProof.Rows
theorem PySem.Challenge.cw_markhabits_k03_entries_of_any_things_holds : PySem.Challenge.rw_markhabits_k03_entries_of_any_things.Holds := by
  w_on; o_law
  refine HandSHeadRun.head_any (r := OpenLaw.row PySem.Challenge.rw_markhabits_k03_entries_of_any_things) (q := view (OpenLaw.row PySem.Challenge.rw_markhabits_k03_entries_of_any_things).prog [32]) (H := K03.hk) (ob := K03.ob) (M := 6000) (loose := K03.names) (d := HandSHeadRun.topDef (OpenLaw.row PySem.Challenge.rw_markhabits_k03_entries_of_any_things).prog 32) (kwd := []) K03.ob_eq
    (by kernel_rfl) (fun s => by kernel_rfl) K03.run_ok (by kernel_rfl) (by kernel_rfl) (by kernel_rfl) (by rfl) (by first | assumption | decide +kernel) (by decide +kernel) ⟨rfl, rfl, rfl, rfl, rfl, by decide +kernel⟩ ?hw ?hc
  case hw => w_witness2
  case hc =>
    exact M.law_walk (l := PySem.Challenge.rw_markhabits_k03_entries_of_any_things) (S := K03.S) (L := K03.L) (n := 63) (k := 20) (f := 22) (j := 5) (x := "_law_script") rfl (by decide) (by kernel_rfl) ⟨rfl, by decide, by decide⟩ rfl
      (fun m hm => (M.and2 (List.all_eq_true.mp K03.okL m hm)).2) (fun m hm => (M.and2 (List.all_eq_true.mp K03.okL m hm)).1) (m := K03.m_law) rfl rfl rfl rfl (by kernel_rfl) K03.holds
