import PyProof.Rows.All
import Wide.All
import OpenK.AllK
import Wide.FinOn
import KE.KStateDown
import HandS.Set
import HandS.SetFor
import HandS.SetKeys
import HandS.SortRule
import PyProof.Rows.SetFrom
import PyProof.TupleIter
import PyProof.WalksMore
import PyProof.FactsAll.subtypes_4
import PyProof.EqLayable
import PyProof.ReprReads
import PyProof.StrBlockL
import KE.KeyNested
import HandS.ForMost
import HandS.Exc
import HandS.ExcOwn
import HandS.ExcIs
import HandS.ExcValue
import HandS.WordsExc
import HandS.TryOnly
import HandS.IsInst
import HandS.Wide
import HandS.Deep
import HandS.TupAny
import HandS.TupLe
import HandS.Zip
import HandS.Ends
import HandS.HeadEnd
import HandS.EndBits
import HandS.Defaults
import PyProof.Rows.SortShellAny
import HandS.SortOrd
import KE.KSortTupAny
import PyProof.TupleOfSeq
import PyProof.P3In
import HandS.TupSets
import PyProof.ListMulAny
import PyProof.Rows.ListMulArg
import HandS.Dict
import HandS.WideBits
import HandS.Text
import PyProof.ReprRoads
import KE.DataFind
import HandS.Style
import HandS.HeadHook3
import KE.GoesMore
import HandS.ForDict
import HandS.Small
import HandS.Head0
import HandS.Head1
import HandS.Head2
import HandS.HeadHook1
import HandS.HeadHook2
import Open.Row
import HandS.Codes
import PyProof.P3Eq
import PySem.Challenge.RW_markhabits_k37_keeper_by_an_own_set
set_option Elab.async false
set_option linter.all false
set_option maxRecDepth 100000
set_option maxHeartbeats 0
/-! MSetC: set(x) of a list or a tuple, but for the loop. -/
namespace M
open PySem PySem.Spec PyProof.Rows L2
/-- a new set -/
abbrev noSet (wd : World) : Obj := { cls := .type "set", dict := none, data := .set #[] 0 (.fresh 0 0 (!wd.params.followText "set-order")) }
section
variable {pg : Program} {wd : World} {ar : Around} {Er : Value → Shared → Prop} {st : Shared}
theorem set_call {l : Addr} {T : String} {ob : Obj} {its : Array Value} {nl : Nat} (Fi : Heap → Prop) {Q : Value → Shared → Prop} (nh : ar.handled = none) (hT : T = "list" ∨ T = "tuple") (e0 : st.heap.get? l = some ob) (c0 : ob.cls = .type T) (d0 : ob.data = .seq its nl)
    (loop : ∀ (hp3 : Heap) (Sv : Nat → Shared → Prop), WalksS pg wd ar.in1.in1.in1 (st.heap.push (noSet wd)).objs.size [(st.heap.push (noSet wd)).objs.size, l] [(st.heap.push (noSet wd)).objs.size] (fun a b => b = a) its.size (fun i v => its[i]? = some v) Sv →
      Sv 0 { st with heap := hp3 } → (∀ b o, st.heap.get? b = some o → hp3.get? b = some o) → hp3.get? st.heap.objs.size = some (noSet wd) → ∀ {R : Result → Shared → Prop},
      (∀ s1, Moved (st.heap.objs.size :: [(st.heap.push (noSet wd)).objs.size]) (fun a b => b = a) { st with heap := hp3 } s1 → Fi s1.heap → (∀ b o, st.heap.get? b = some o → s1.heap.get? b = some o) → R (.ok (.ret .none)) s1) →
      codeAny (model pg wd) ar.in1.in1 (.builtin "set.update.loop" ⟨[.ref st.heap.objs.size, .ref (st.heap.push (noSet wd)).objs.size], []⟩) R { st with heap := hp3 })
    (fin : ∀ (h2 : Heap) (tk : Nat), Fi h2 → (∀ b o, st.heap.get? b = some o → h2.get? b = some o) → Q (.ref st.heap.objs.size) { st with heap := h2, toks := tk }) :
    wpAny (model pg wd) ar (call (.type "set") [.ref l]) Q Er st := by
  obtain ⟨c, tl, hmro⟩ := F.called_set.mro
  have m1 := F.called_set.made
  have m2 := F.called_set.sub
  have m3 := F.called_set.notType
  have m4 := F.called_set.canCreate
  have m5 := F.typeCall_set_1 (.ref l)
  refine wpAny_call (codeAny_of_tree ?_)
  show wpAny _ _ (callAny (.type "set") _) _ _ _
  refine wpAny_pure ⟨Code.quiet_builtin _ (by decide +kernel), codeAny_builtin F.entry_type_call ?_⟩
  rw [Around.under_plain (weight_type_call_type "set" [.ref l] []) rfl]
  repeat (any_goals (first | assumption | wp_step))
  refine codeAny_mono (code_set_led1 (.ref l) (E := Er) (Q₁ := fun v s1 => v = .ref st.heap.objs.size ∧ s1 = { st with heap := st.heap.push (noSet wd) }) ⟨rfl, rfl⟩) fun r s1 hr => ?_
  cases r with
  | error _ => exact hr
  | ok fl =>
    cases fl with
    | ret v =>
      obtain ⟨rfl, rfl⟩ := hr
      have here : (st.heap.push (noSet wd)).get? st.heap.objs.size = some (noSet wd) := Heap.get?_push_size _ rfl
      have ty : Shared.TypeIs { st with heap := st.heap.push (noSet wd) } (.ref st.heap.objs.size) "set" := ⟨_, here, rfl⟩
      have i1 := F.called_set.init.lookup
      have i2 := F.called_set.init.bind (.ref st.heap.objs.size)
      repeat (any_goals (first | assumption | wp_step))
      refine codeAny_mono (codeAny_call_builtin (R := wants (fun v s2 => v = .none ∧ ∃ h2 tk, s2 = { st with heap := h2, toks := tk } ∧ Fi h2 ∧ ∀ b o, st.heap.get? b = some o → h2.get? b = some o) Er)
        F.called_set.init.plain F.entry_set_init (check_set_init_1 ty ?_)) fun r2 s2 hr2 => ?_
      · obtain ⟨cl, dc, da, sl⟩ := ob
        simp only at c0 d0
        subst c0; subst d0
        have e1 : (st.heap.push (noSet wd)).get? l = some { cls := .type T, dict := dc, data := .seq its nl, slots := sl } := Heap.get?_push_of_some _ e0
        have lt : l < st.heap.objs.size := Heap.lt_size e0
        have nh3 : ar.in1.in1.in1.handled = none := by simp [nh]
        have ne : l ≠ (st.heap.push (noSet wd)).objs.size := by
          rw [Heap.size_push]
          exact fun z => Nat.lt_irrefl _ (Nat.lt_trans (z ▸ lt) (Nat.lt_succ_self _))
        rcases hT with rfl | rfl
        · have k1 := F.sub_list_set
          have k2 := F.sub_list_frozenset
          have k3 : (Value.type "list" == Value.type "dict") = false := by decide
          have il : (st.heap.push (noSet wd)).IsList l its := ⟨_, e1, rfl, nl, rfl⟩
          unfold Builtin.«set.__init__» noKeywords Builtin.Frozenset.updateFrom
          generalize names : pyIter = PI
          wp_walk
          subst names
          refine wpAny_pyIter_list il (wpAny_bind (wpAny_runValue ?_))
          refine loop _ _ ((Walks.list nh3 _ l ne its).toS) ⟨⟨_, Heap.get?_push_size _ rfl, rfl, rfl⟩, (il.push _)⟩ (fun b o e => Heap.get?_push_of_some _ (Heap.get?_push_of_some _ e)) (Heap.get?_push_of_some _ here) ?finlist
          case finlist =>
            intro s3 mv fi k3
            obtain ⟨h3, g3, d3, t3, o3⟩ := s3
            have q1 : g3 = st.gens := mv.gens
            have q2 : d3 = st.drawn := mv.drawn
            have q3 : o3 = st.os := mv.os
            subst q1; subst q2; subst q3
            show wpAny _ _ _ _ _ _
            refine wpAny_pure ?_
            show wpAny _ _ (ret Value.none) _ _ _
            exact wpAny_pure ⟨rfl, h3, t3, rfl, fi, k3⟩
        · have k1 := F.sub_tuple_set
          have k2 := F.sub_tuple_frozenset
          have k3 : (Value.type "tuple" == Value.type "dict") = false := by decide
          have il : (st.heap.push (noSet wd)).IsTuple l its := ⟨_, e1, rfl, nl, rfl⟩
          unfold Builtin.«set.__init__» noKeywords Builtin.Frozenset.updateFrom
          generalize names : pyIter = PI
          wp_walk
          subst names
          refine wpAny_pyIter_tuple il (wpAny_bind (wpAny_runValue ?_))
          refine loop _ _ ((Walks.tuple nh3 _ l ne its).toS) ⟨⟨_, Heap.get?_push_size _ rfl, rfl, rfl⟩, (il.push _)⟩ (fun b o e => Heap.get?_push_of_some _ (Heap.get?_push_of_some _ e)) (Heap.get?_push_of_some _ here) ?fintuple
          case fintuple =>
            intro s3 mv fi k3
            obtain ⟨h3, g3, d3, t3, o3⟩ := s3
            have q1 : g3 = st.gens := mv.gens
            have q2 : d3 = st.drawn := mv.drawn
            have q3 : o3 = st.os := mv.os
            subst q1; subst q2; subst q3
            show wpAny _ _ _ _ _ _
            refine wpAny_pure ?_
            show wpAny _ _ (ret Value.none) _ _ _
            exact wpAny_pure ⟨rfl, h3, t3, rfl, fi, k3⟩
      · cases r2 with
        | error _ => exact hr2
        | ok fl2 =>
          cases fl2 with
          | ret v =>
            obtain ⟨rfl, h2, tk, rfl, fi, kp⟩ := hr2
            repeat (any_goals (first | assumption | wp_step))
            exact fin _ _ fi kp
          | _ => exact hr2.elim
    | _ => exact hr.elim
end
end M
/-! MSem: a mini language of expressions and statements over data, and what it comes to. -/
namespace M
open PySem

abbrev D := PyData
/-- a value: data that never changes, an object of the small heap, a caught error -/
inductive W where
  | dat (d : D)
  | ref (n : Nat)
  | exc (c : Nat)
  | scr (l : List Int)

/-- a dict's key: a number or a text -/
abbrev Ky := Sum Int Str
/-- an object of the small heap -/
inductive Ob where
  | lst (l : List W)
  | dct (l : List (Ky × W))
  | lck (l : List (List Ky × W))
  | ins (c : Nat) (fs : List (Str × W))
  | tpl (l : List W)
  | gone

abbrev Hh := List Ob
abbrev En := List (Option W)

inductive Res (α : Type) where
  | ok (a : α) (h : Hh)
  | exc (c : Nat) (h : Hh)
  | bad

inductive SR where
  | nxt (e : En) (h : Hh)
  | ret (w : W) (h : Hh)
  | exc (c : Nat) (e : En) (h : Hh)
  | bad

def Res.bind {α β : Type} (m : Res α) (f : α → Hh → Res β) : Res β := match m with
  | .ok a h => f a h
  | .exc c h => .exc c h
  | .bad => .bad
theorem Res.bind_ok {α β : Type} (a : α) (h : Hh) (f : α → Hh → Res β) : (Res.ok a h).bind f = f a h := rfl
theorem Res.bind_exc {α β : Type} (c : Nat) (h : Hh) (f : α → Hh → Res β) : (Res.exc (α := α) c h).bind f = .exc c h := rfl
theorem Res.bind_bad {α β : Type} (f : α → Hh → Res β) : (Res.bad (α := α)).bind f = .bad := rfl

/-- built-in types that isinstance asks -/
inductive Ty where
  | int | bool | str | tuple | list | dict | exc (c : Nat) | verr
  deriving DecidableEq

inductive BOp where
  | add | sub | mul | fdiv | mod | pow
  deriving DecidableEq
inductive COp where
  | eq | ne | lt | le | gt | ge | is | isnt | isin | notin
  deriving DecidableEq
/-- built-in functions -/
inductive Fb where
  | abs | len | all | any | int | bool | str | min2 | max2 | min1 | max1 | divmod | tuple | list | sorted | sortset | lenset | sum | dict | repr
  deriving DecidableEq
/-- methods of built-in types -/
inductive Mb where
  | append | extend | pop0 | pop1 | pop2 | get1 | get2 | update | index | count | insert | remove | clear | join | split | partition | replace | upper | keys | values | items
  deriving DecidableEq

mutual
inductive CE where
  | var (i : Nat)
  | glb (k : Nat)
  | cst (d : D)
  | tup (es : CEs)
  | lst (m : Bool) (es : CEs)
  | dct (m : Bool) (ks vs : CEs)
  | bin (o : BOp) (m : Bool) (a b : CE)
  | neg (a : CE)
  | not (a : CE)
  | bop (con : Bool) (es : CEs)
  | cmp (o : COp) (a b : CE)
  | chn (o p : COp) (a b c : CE)
  | ite (c a b : CE)
  | idx (a i : CE)
  | slc (a : CE) (lo hi : CO)
  | rev (a : CE)
  | fld (a : CE) (f : Str)
  | call (f : Nat) (es : CEs)
  | meth (a : CE) (c : Nat) (m : Str) (f : Nat) (es : CEs)
  | mk (c f : Nat) (es : CEs)
  | isi (a : CE) (t : Ty)
  | blt (f : Fb) (m : Bool) (es : CEs)
  | bmt (f : Mb) (m : Bool) (a : CE) (es : CEs)
  | comp (m : Bool) (own : List (Str × Nat)) (tg : CT) (it : CI) (ifs : CEs) (elt : CE)
  | frz (a : CE)
  | sset (m : Bool) (a : CE)
  | lset (a : CE)
  | isis (a : CE) (cs : List Nat)
  | dtab (op : Nat) (k : Nat) (a : CE)
  | dsp (t : Bool) (es : CEs)
inductive CEs where
  | nil
  | cons (e : CE) (es : CEs)
inductive CO where
  | non
  | som (e : CE)
inductive CI where
  | ex (e : CE)
  | rng1 (b : CE)
  | rng2 (a b : CE)
  | enm (e : CE)
  | zip2 (a b : CE)
inductive CT where
  | nam (i : Nat)
  | tup (l : List Nat)
end

/-- targets of an assignment -/
inductive CG where
  | nam (i : Nat)
  | tup (l : List Nat)
  | sub (o i : CE)
  | fld (o : CE) (f : Str)
  | subnam (o i : CE) (j : Nat)
  | subsub (o i o2 i2 : CE)

mutual
inductive CS where
  | pass
  | expr (e : CE)
  | ret (e : CE)
  | retN
  | asg (g : CG) (e : CE)
  | par (i j : Nat) (a b : CE)
  | par3 (i j l : Nat) (a b c : CE)
  | setc (i : Nat) (e : CE)
  | setf (o : CE) (f : Str) (e : CE)
  | ifs (c : CE) (a b : CSs)
  | whil (c : CE) (b : CSs)
  | for_ (tg : CT) (it : CI) (b : CSs)
  | rais (c : Nat)
  | tryas (c : Nat) (i : Nat) (b : CSs) (s : CSs)
  | try_ (c : Nat) (b : CSs) (s : CSs)
inductive CSs where
  | nil
  | cons (s : CS) (ss : CSs)
end

/-! ### values -/
def dOf : W → Option D
  | .dat d => some d
  | _ => none
def dsOf : List W → Option (List D)
  | [] => some []
  | w :: ws => match w, dsOf ws with
    | .dat d, some ds => some (d :: ds)
    | _, _ => none
/-- the items of a list or tuple -/
def seqOf (h : Hh) : W → Option (List W)
  | .dat (.list l) => some (l.map .dat)
  | .dat (.tuple l) => some (l.map .dat)
  | .ref n => match h[n]? with
    | some (.lst l) => some l
    | some (.tpl l) => some l
    | _ => none
  | .scr l => some (l.map fun i => .dat (.int i))
  | _ => none
/-! ### dicts -/
def kyOf : W → Option Ky
  | .dat (.int i) => some (.inl i)
  | .dat (.str x) => some (.inr x)
  | _ => none
def kysL : List D → Option (List Ky)
  | [] => some []
  | d :: ds => match kyOf (.dat d), kysL ds with
    | some k, some ks => some (k :: ks)
    | _, _ => none
def kysOf : W → Option (List Ky)
  | .dat (.tuple l) => kysL l
  | _ => none
section
variable {κ α : Type} [DecidableEq κ]
def valA (l : List (κ × α)) (k : κ) : Option α := (l.find? fun p => decide (p.1 = k)).map (·.2)
def putA (l : List (κ × α)) (k : κ) (v : α) : List (κ × α) :=
  if (l.any fun p => decide (p.1 = k)) = true then l.map (fun p => if p.1 = k then (p.1, v) else p) else l ++ [(k, v)]
def dropA (l : List (κ × α)) (k : κ) : List (κ × α) := l.filter fun p => decide (p.1 ≠ k)
end
/-- what a dict holds at a key; none where there is no dict, or the key is no key of such -/
def dctGet (h : Hh) (n : Nat) (y : W) : Option (Option W) := match h[n]? with
  | some (.dct l) => (kyOf y).map (valA l)
  | some (.lck l) => (kysOf y).map (valA l)
  | _ => none
def dctPut (h : Hh) (n : Nat) (y v : W) : Option Hh := match h[n]? with
  | some (.dct l) => (kyOf y).bind fun k => if l.length < 1000000 then some (h.set n (.dct (putA l k v))) else none
  | some (.lck l) => (kysOf y).bind fun k => if l.length < 1000000 then some (h.set n (.lck (putA l k v))) else none
  | _ => none
def dctIdx (a y : W) (h : Hh) : Res W := match a with
  | .ref n => (match dctGet h n y with
    | some (some v) => .ok v h
    | _ => .bad)
  | _ => .bad
/-- a new list: data where it isn't to be changed and bears no objects -/
def mkLst (m : Bool) (l : List W) (h : Hh) : Res W := match m, dsOf l with
  | false, some ds => .ok (.dat (.list ds)) h
  | _, _ => .ok (.ref h.length) (h ++ [.lst l])
def mkTup (l : List W) (h : Hh) : Res W := match dsOf l with
  | some ds => .ok (.dat (.tuple ds)) h
  | none => .ok (.ref h.length) (h ++ [.tpl l])
def truth (w : W) : Option Bool := match w with
  | .dat (.bool b) => some b
  | _ => none

/-! ### the order of data -/
mutual
/-- < of data -/
def ltD : D → D → Bool
  | .int i, .int j => decide (i < j)
  | .str x, .str y => decide (x.cps.toList < y.cps.toList)
  | .tuple xs, .tuple ys => ltDs xs ys
  | _, _ => false
def ltDs : List D → List D → Bool
  | [], ys => !ys.isEmpty
  | _ :: _, [] => false
  | x :: xs, y :: ys => if PyData.eqv x y then ltDs xs ys else ltD x y
end
mutual
/-- whether < says anything -/
def cmpD : D → D → Bool
  | .int _, .int _ => true
  | .str _, .str _ => true
  | .tuple xs, .tuple ys => cmpDs xs ys
  | _, _ => false
def cmpDs : List D → List D → Bool
  | [], _ => true
  | _ :: _, [] => true
  | x :: xs, y :: ys => if PyData.eqv x y then cmpDs xs ys else cmpD x y
end
abbrev upL (l : List Nat) : List Int := (l.map fun (c : Nat) => ((c : Int) + 1)) ++ [0]
mutual
/-- data as a row of numbers -/
def enc : D → List Int
  | .int i => [1, i]
  | .bool b => [1, if b then 1 else 0]
  | .str x => 2 :: upL x.cps.toList
  | .tuple xs => 3 :: encs xs
  | .none => [4]
  | .list _ => [5]
  | .dict _ => [6]
def encs : List D → List Int
  | [] => [0]
  | x :: xs => enc x ++ encs xs
end
/-- the order of data, of any two -/
def ltE (x y : D) : Bool := decide (enc x < enc y)
/-- a thing put into a sorted row, behind those that are no more -/
def insD (x : D) : List D → List D
  | [] => [x]
  | y :: ys => if ltE x y then x :: y :: ys else y :: insD x ys
def sortD (l : List D) : List D := l.foldl (fun acc x => insD x acc) []
/-- a member, put -/
def putT (T : List Str) (x : Str) : List Str := if x ∈ T then T else T ++ [x]
/-- the members that texts make, one by one -/
def gather (T : List Str) : List Str → List Str
  | [] => T
  | x :: xs => gather (putT T x) xs
/-! ### operators -/
def bigMul (i j : Int) : Bool := decide (i.natAbs.log2 + j.natAbs.log2 < 100000000)
def okDiv (j : Int) : Bool := decide (0 < j) && decide (j.natAbs.log2 < 9000)
def okPow (i j : Int) : Bool := decide (0 ≤ j) && (decide (j ≤ 1000000) && decide (i.natAbs < 2 ^ 64))
def sizeL : Nat := 1000000
def catL (m : Bool) (h : Hh) : Option (List W) → Option (List W) → Res W
  | some x, some y => if x.length + y.length ≤ sizeL then mkLst m (x ++ y) h else .bad
  | _, _ => .bad
/-- the items of a list, for + -/
def lstOf (h : Hh) : W → Option (List W)
  | .dat (.list l) => some (l.map .dat)
  | .ref n => match h[n]? with
    | some (.lst l) => some l
    | _ => none
  | _ => none
def addW (m : Bool) (a b : W) (h : Hh) : Res W := match a with
  | .dat (.int i) => (match b with
    | .dat (.int j) => .ok (.dat (.int (i + j))) h
    | _ => .bad)
  | .dat (.str x) => (match b with
    | .dat (.str y) => if x.length + y.length ≤ sizeL then .ok (.dat (.str (x ++ y))) h else .bad
    | _ => .bad)
  | .dat (.tuple x) => (match b with
    | .dat (.tuple y) => if x.length + y.length ≤ sizeL then .ok (.dat (.tuple (x ++ y))) h else .bad
    | _ => .bad)
  | .dat (.list x) => catL m h (some (x.map .dat)) (lstOf h b)
  | .ref n => (match h[n]? with
    | some (.lst l) => catL m h (some l) (lstOf h b)
    | _ => .bad)
  | _ => .bad
def intop (o : BOp) (i j : Int) (h : Hh) : Res W := match o with
  | .add => .ok (.dat (.int (i + j))) h
  | .sub => .ok (.dat (.int (i - j))) h
  | .mul => if bigMul i j then .ok (.dat (.int (i * j))) h else .bad
  | .fdiv => if okDiv j then .ok (.dat (.int (i / j))) h else .bad
  | .mod => if decide (0 < j) then .ok (.dat (.int (i % j))) h else .bad
  | .pow => if okPow i j then .ok (.dat (.int (i ^ j.toNat))) h else .bad
/-- products: of ints, of a list and an int -/
def mulW (m : Bool) (a b : W) (h : Hh) : Res W := match a with
  | .dat (.int i) => (match b with
    | .dat (.int j) => intop .mul i j h
    | _ => .bad)
  | .dat (.list x) => (match b with
    | .dat (.int j) => if (decide (0 ≤ j) && (decide (j ≤ 1000000) && decide (j.toNat * x.length ≤ sizeL))) = true then mkLst m (List.replicate j.toNat (x.map W.dat)).flatten h else .bad
    | _ => .bad)
  | _ => .bad
def binop (o : BOp) (m : Bool) (a b : W) (h : Hh) : Res W := match o with
  | .add => addW m a b h
  | .mul => mulW m a b h
  | o => match a, b with
    | .dat (.int i), .dat (.int j) => intop o i j h
    | _, _ => .bad

def shp (d : D) : Bool := SeqAt.shaped d
/-- a tuple of whatever things, compared with the empty one -/
def eq0 (a b : D) : Option Bool := match a, b with
  | .tuple l, .tuple [] => some l.isEmpty
  | _, _ => none
def eqD (a b : D) : Option Bool := match a, b with
  | .int i, .int j => some (decide (i = j))
  | .str x, .str y => some (decide (x = y))
  | .bool x, .bool y => some (decide (x = y))
  | a, b => if shp a && shp b then some (PyData.eqv a b) else eq0 a b
/-- x is c, c a constant -/
def isC (a : W) : W → Option Bool
  | .dat .none => (match a with
    | .dat d => some (match d with
      | .none => true
      | _ => false)
    | .ref _ => some false
    | .exc _ => some false
    | .scr _ => some false)
  | .dat (.bool k) => (match a with
    | .dat (.bool b) => some (decide (b = k))
    | _ => none)
  | _ => none
def intcmp (o : COp) (i j : Int) : Option Bool := match o with
  | .eq => some (decide (i = j))
  | .ne => some (!decide (i = j))
  | .lt => some (decide (i < j))
  | .le => some (decide (i ≤ j))
  | .gt => some (decide (j < i))
  | .ge => some (decide (j ≤ i))
  | _ => none
def inSeq (d : D) (l : List D) : Option Bool := if shp d && shp (.list l) then some (l.any fun e => PyData.eqv e d) else none
def inStr (x y : Str) : Bool := !(Builtin.Str.occurrences y x 0 y.length 1).isEmpty
def inW (h : Hh) (a b : W) : Option Bool := match a with
  | .dat d => (match b with
    | .dat (.str y) => (match d with
      | .str x => some (inStr x y)
      | _ => none)
    | .dat (.list l) => inSeq d l
    | .dat (.tuple l) => inSeq d l
    | .ref n => (match h[n]? with
      | some (.lst l) => (match dsOf l with
        | some ds => inSeq d ds
        | none => none)
      | _ => (dctGet h n (.dat d)).map Option.isSome)
    | _ => none)
  | _ => none
def ltW (a b : D) : Option Bool := if shp a && (shp b && cmpD a b) then some (ltD a b) else none
/-- whether the thing is a list of the small heap, and is empty -/
def nilW (h : Hh) : W → Option Bool
  | .ref n => (match h[n]? with
    | some (.lst l) => some l.isEmpty
    | _ => none)
  | _ => none
def isNilD : D → Bool
  | .list [] => true
  | _ => false
def eqW (h : Hh) (a b : W) : Option Bool := match a, b with
  | .dat x, .dat y => eqD x y
  | a, .dat y => if isNilD y = true then nilW h a else none
  | _, _ => none
def cmpW (o : COp) (a b : W) (h : Hh) : Option Bool := match o with
  | .lt => (match a, b with
    | .dat (.int i), .dat (.int j) => some (decide (i < j))
    | .dat x, .dat y => ltW x y
    | _, _ => none)
  | .is => isC a b
  | .isnt => (isC a b).map not
  | .isin => inW h a b
  | .notin => (inW h a b).map not
  | .eq => eqW h a b
  | .ne => (eqW h a b).map not
  | o => match a, b with
    | .dat (.int i), .dat (.int j) => intcmp o i j
    | _, _ => none
/-- the error of number c is one of number d; number 0 is the base of all -/
def subX (c d : Nat) : Bool := decide (d = 0) || decide (c = d)
def tyIs (t : Ty) : W → Option Bool
  | .dat d => (match t with
    | .exc _ => none
    | .verr => none
    | t => some (match t, d with
    | .int, .int _ => true
    | .int, .bool _ => true
    | .bool, .bool _ => true
    | .str, .str _ => true
    | .tuple, .tuple _ => true
    | .list, .list _ => true
    | .dict, .dict _ => true
    | _, _ => false))
  | .exc c => (match t with
    | .exc d => some (subX c d)
    | .verr => some true
    | _ => none)
  | _ => none

/-- of one of some errors -/
def tysIs (cs : List Nat) : W → Option Bool
  | .exc c => some (cs.any fun d => subX c d)
  | _ => none
/-- {x: y}, as data -/
def dct1 (x y : W) (h : Hh) : Res W := match x with
  | .dat (.int i) => (match y with
    | .dat d => .ok (.dat (.dict [(.int i, d)])) h
    | _ => .bad)
  | .dat (.str s) => (match y with
    | .dat d => .ok (.dat (.dict [(.str s, d)])) h
    | _ => .bad)
  | _ => .bad
/-- a new dict of the small heap; t: its keys are tuples -/
def dspK : List W → Option (List (Ky × W))
  | [] => some []
  | [_] => none
  | k :: v :: ws => match kyOf k, dspK ws with
    | some k, some l => some ((k, v) :: l)
    | _, _ => none
def dspW (t : Bool) (ws : List W) (h : Hh) : Res W := if t = true then .bad else match dspK ws with
    | some l => if l.length ≤ 15 then .ok (.ref h.length) (h ++ [.dct (l.foldl (fun a p => putA a p.1 p.2) [])]) else .bad
    | none => .bad
/-- a constant dict of texts, asked -/
def tabD (l : List (D × D)) (z : Str) : Option D := (l.find? fun p => match p.1 with
  | .str x => decide (x = z)
  | _ => false).map (·.2)
def tabW (op : Nat) (g : Option D) (x : W) (h : Hh) : Res W := match g with
  | some (.dict l) => (match x with
    | .dat (.str z) => (match op with
      | 0 => .ok (.dat (.bool (tabD l z).isSome)) h
      | 1 => .ok (.dat (.bool (!(tabD l z).isSome))) h
      | 2 => (match tabD l z with
        | some d => .ok (.dat d) h
        | none => .bad)
      | _ => .ok (.dat ((tabD l z).getD .none)) h)
    | _ => .bad)
  | _ => .bad
/-! ### built-ins -/
def boolsOf : List W → Option (List Bool)
  | [] => some []
  | w :: ws => match truth w, boolsOf ws with
    | some b, some bs => some (b :: bs)
    | _, _ => none
def lenOf (h : Hh) (w : W) : Option Nat := match w with
  | .dat (.str x) => if x.length ≤ sizeL then some x.length else none
  | w => (seqOf h w).map List.length
def optR {α : Type} (h : Hh) : Option α → Res α
  | some a => .ok a h
  | none => .bad
def rb (h : Hh) (o : Option Bool) : Res W := match o with
  | some b => .ok (.dat (.bool b)) h
  | none => .bad
def ri (h : Hh) (o : Option Int) : Res W := match o with
  | some i => .ok (.dat (.int i)) h
  | none => .bad
def tupleOf (w : W) (h : Hh) : Res W := match w with
  | .dat (.tuple l) => .ok (.dat (.tuple l)) h
  | w => (match lstOf h w with
      | some l => mkTup l h
      | none => .bad)
/-- data of a list or tuple -/
def srcD (h : Hh) : W → Option (List D)
  | .dat (.list l) => some l
  | .dat (.tuple l) => some l
  | .ref n => match h[n]? with
    | some (.lst l) => dsOf l
    | _ => none
  | _ => none
def isStrD : D → Bool
  | .str _ => true
  | _ => false
def isIntD : D → Bool
  | .int _ => true
  | _ => false
def hdStrD : D → Bool
  | .tuple (.str _ :: _) => true
  | _ => false
def hdIntD : D → Bool
  | .tuple (.int _ :: _) => true
  | _ => false
def kdB (ds : List D) : Bool := ds.all isStrD || (ds.all isIntD || (ds.all hdStrD || ds.all hdIntD))
def sortB (ds : List D) : Bool := kdB ds && (PyData.canLayAll0 ds && (decide (PyData.depthAll ds ≤ 60) && ds.all fun x => ds.all fun y => cmpD x y))
def sortW (m : Bool) (w : W) (h : Hh) : Res W := match srcD h w with
  | some ds => if sortB ds = true then mkLst m ((sortD ds).map .dat) h else .bad
  | none => .bad
def textsOf : List W → Option (List Str)
  | [] => some []
  | w :: ws => match w, textsOf ws with
    | .dat (.str x), some xs => some (x :: xs)
    | _, _ => none
/-- keys: ints, texts, tuples of such -/
abbrev NK := NestedKey
mutual
def keyB : D → Bool
  | .int _ => true
  | .str _ => true
  | .tuple l => keysB l
  | _ => false
def keysB : List D → Bool
  | [] => true
  | d :: l => keyB d && keysB l
end
mutual
def nkOf : D → NK
  | .int i => .num i
  | .str x => .text x
  | .tuple l => .tup (nksOf l)
  | _ => .none
def nksOf : List D → List NK
  | [] => []
  | d :: l => nkOf d :: nksOf l
end
/-- each key once, as it comes first -/
def putK (T : List D) (x : D) : List D := if T.any (fun y => decide (nkOf y = nkOf x)) then T else T ++ [x]
def uniqK (T : List D) : List D → List D
  | [] => T
  | x :: xs => uniqK (putK T x) xs
def keyRowsB (ds : List D) : Bool := keysB ds && (decide (ds.length < 64) && (PyData.canLayAll0 ds && (decide (PyData.depthAll ds ≤ 7) && ((ds.all hdStrD || ds.all hdIntD) && ds.all fun x => ds.all fun y => cmpD x y))))
/-- sorted(set(w)), of rows that are keys -/
def sortKeys (m : Bool) (w : W) (h : Hh) : Res W := match srcD h w with
  | some ds => if keyRowsB ds = true then mkLst m ((sortD (uniqK [] ds)).map .dat) h else .bad
  | none => .bad
/-- sorted(set(w)) -/
def sortSet (m : Bool) (w : W) (h : Hh) : Res W := match lstOf h w with
  | some l => (match textsOf l with
    | some xs => if decide (xs.length < 1000) = true then mkLst m ((sortD ((gather [] xs).map .str)).map .dat) h else .bad
    | none => sortKeys m w h)
  | none => sortKeys m w h
/-- len(set(w)), of texts -/
def lenSet (w : W) (h : Hh) : Res W := match lstOf h w with
  | some l => (match textsOf l with
    | some xs => if decide (xs.length < 1000) = true then .ok (.dat (.int (gather [] xs).length)) h else .bad
    | none => .bad)
  | none => .bad
def isTup : W → Bool
  | .dat (.tuple _) => true
  | _ => false
/-- the text of data, of a list or a tuple -/
def seqText (tup : Bool) (ds : List D) : Str := if tup then tupleText (PyData.shownAll ds) else listText (PyData.shownAll ds)
def reprW (w : W) (h : Hh) : Res W := match srcD h w with
  | some ds => if (PyData.showableAll ds && (decide (PyData.depthAll ds ≤ 60) && decide ((seqText (isTup w) ds).length ≤ 16777216))) = true then .ok (.dat (.str (seqText (isTup w) ds))) h else .bad
  | none => .bad
def builtin (f : Fb) (m : Bool) (ws : List W) (h : Hh) : Res W := match f with
  | .repr => (match ws with
    | [w] => reprW w h
    | _ => .bad)
  | .abs => (match ws with
    | [.dat (.int i)] => .ok (.dat (.int (if i < 0 then -i else i))) h
    | _ => .bad)
  | .len => (match ws with
    | [w] => ri h ((lenOf h w).map Int.ofNat)
    | _ => .bad)
  | .all => (match ws with
    | [w] => rb h (((lstOf h w).bind boolsOf).map fun l => l.all id)
    | _ => .bad)
  | .any => (match ws with
    | [w] => rb h (((lstOf h w).bind boolsOf).map fun l => l.any id)
    | _ => .bad)
  | .int => (match ws with
    | [.dat (.int i)] => .ok (.dat (.int i)) h
    | [.dat (.bool k)] => .ok (.dat (.int (if k then 1 else 0))) h
    | _ => .bad)
  | .min2 => (match ws with
    | [.dat (.int i), .dat (.int j)] => .ok (.dat (.int (if j < i then j else i))) h
    | _ => .bad)
  | .max2 => (match ws with
    | [.dat (.int i), .dat (.int j)] => .ok (.dat (.int (if j > i then j else i))) h
    | _ => .bad)
  | .divmod => (match ws with
    | [.dat (.int i), .dat (.int j)] => if okDiv j then .ok (.dat (.tuple [.int (i / j), .int (i % j)])) h else .bad
    | _ => .bad)
  | .tuple => (match ws with
    | [w] => tupleOf w h
    | _ => .bad)
  | .sorted => (match ws with
    | [w] => sortW m w h
    | _ => .bad)
  | .list => (match ws with
    | [w] => (match seqOf h w with
      | some l => mkLst m l h
      | none => .bad)
    | _ => .bad)
  | .str => (match ws with
    | [.dat (.int i)] => if decide (i.natAbs.log2 < 1920) then .ok (.dat (.str (toString i))) h else .bad
    | _ => .bad)
  | _ => .bad
/-- what a method of a built-in type is asked of -/
def isLst (h : Hh) : W → Bool
  | .ref n => (match h[n]? with
    | some (.lst _) => true
    | _ => false)
  | _ => false
def bmIs (f : Mb) (x : W) (h : Hh) : Bool := match f with
  | .append => isLst h x
  | .pop0 => isLst h x
  | .remove => isLst h x
  | .join => (match x with
    | .dat (.str _) => true
    | _ => false)
  | .upper => (match x with
    | .dat (.str _) => true
    | _ => false)
  | _ => false
def strsOf : List W → Option (List Str)
  | [] => some []
  | w :: ws => match w, strsOf ws with
    | .dat (.str x), some xs => some (x :: xs)
    | _, _ => none
def joinW (a : Str) (l : List W) (h : Hh) : Res W := match strsOf l with
  | some ys => if decide ((ys.map (·.length)).sum + ys.length * a.length ≤ 16777216) then .ok (.dat (.str (Txt.join a ys))) h else .bad
  | none => .bad
/-- where the first one stands that is equal to it -/
def placeD (ds : List D) (d : D) : Option Nat := if (shp d && shp (.list ds)) = true then ds.findIdx? fun y => PyData.eqv y d else none
def bmeth (f : Mb) (x : W) (ws : List W) (h : Hh) : Res W := match f with
  | .append => (match x, ws with
    | .ref n, [w] => (match h[n]? with
      | some (.lst l) => if decide (l.length < sizeL) then .ok (.dat .none) (h.set n (.lst (l ++ [w]))) else .bad
      | _ => .bad)
    | _, _ => .bad)
  | .pop0 => (match x, ws with
    | .ref n, [] => (match h[n]? with
      | some (.lst l) => (match l.getLast? with
        | some w => .ok w (h.set n (.lst l.dropLast))
        | none => .bad)
      | _ => .bad)
    | _, _ => .bad)
  | .remove => (match x, ws with
    | .ref n, [.dat d] => (match h[n]? with
      | some (.lst l) => (match dsOf l with
        | some ds => (match placeD ds d with
          | some j => .ok (.dat .none) (h.set n (.lst (l.eraseIdx j)))
          | none => .bad)
        | none => .bad)
      | _ => .bad)
    | _, _ => .bad)
  | .join => (match x, ws with
    | .dat (.str a), [w] => (match seqOf h w with
      | some l => joinW a l h
      | none => .bad)
    | _, _ => .bad)
  | .upper => (match x, ws with
    | .dat (.str a), [] => if decide (a.length ≤ 5592405) then .ok (.dat (.str (Txt.upper a))) h else .bad
    | _, _ => .bad)
  | _ => .bad

/-! ### subscripts -/
def ixM (n : Nat) (i : Int) : Option Nat :=
  if 0 ≤ i then (if i < n then some i.toNat else none)
  else if -(n : Int) ≤ i then some (i + n).toNat else none
def atI {α : Type} (l : List α) (i : Int) : Option α := (ixM l.length i).bind fun j => l[j]?
def strAt (x : Str) (i : Int) : Option Str := if x.length ≤ sizeL then (atI x.cps.toList i).map fun c => ⟨#[c]⟩ else none
def index (a i : W) (h : Hh) : Res W := match i with
  | .dat (.int i) => (match a with
    | .dat (.str x) => (match strAt x i with
      | some y => .ok (.dat (.str y)) h
      | none => .bad)
    | w => (match seqOf h w with
      | some l => optR h (atI l i)
      | none => dctIdx a (.dat (.int i)) h))
  | y => dctIdx a y h
/-- the place that a slice's end names, in a row of n -/
def cutM (n d : Nat) (o : Option Int) : Nat := match o with
  | none => d
  | some v => if v < 0 then (v + (n : Int)).toNat else min v.toNat n
def cutL {α : Type} (l : List α) (lo hi : Option Int) : List α :=
  (l.drop (cutM l.length 0 lo)).take (cutM l.length l.length hi - cutM l.length 0 lo)
def slice (a : W) (lo hi : Option Int) (h : Hh) : Res W := match a with
  | .dat (.tuple l) => .ok (.dat (.tuple (cutL l lo hi))) h
  | .dat (.list l) => .ok (.dat (.list (cutL l lo hi))) h
  | .dat (.str x) => if x.length ≤ sizeL then .ok (.dat (.str ⟨(cutL x.cps.toList lo hi).toArray⟩)) h else .bad
  | .ref n => (match h[n]? with
    | some (.lst l) => mkLst false (cutL l lo hi) h
    | _ => .bad)
  | .scr l => .ok (.dat (.list ((cutL l lo hi).map .int))) h
  | _ => .bad
def revW (a : W) (h : Hh) : Res W := match a with
  | .dat (.tuple l) => .ok (.dat (.tuple l.reverse)) h
  | .dat (.list l) => .ok (.dat (.list l.reverse)) h
  | .ref n => (match h[n]? with
    | some (.lst l) => mkLst false l.reverse h
    | _ => .bad)
  | _ => .bad
def getF (f : Str) (fs : List (Str × W)) : Option W := fs.lookup f
/-- a field of an object -/
def fldW (f : Str) (x : W) (h : Hh) : Res W := match x with
  | .ref n => (match h[n]? with
    | some (.ins _ fs) => (match getF f fs with
      | some w => .ok w h
      | none => .bad)
    | _ => .bad)
  | _ => .bad
/-- an object of the class, none of whose fields hides the method -/
def insB (c : Nat) (m : Str) (x : W) (h : Hh) : Bool := match x with
  | .ref n => (match h[n]? with
    | some (.ins c' fs) => decide (c' = c) && (getF m fs).isNone
    | _ => false)
  | _ => false
/-- a new object, behind its __init__ -/
def mkR (n : Nat) (v : W) (h : Hh) : Res W := match v with
  | .dat .none => .ok (.ref n) h
  | _ => .bad
def setF (f : Str) (w : W) : List (Str × W) → List (Str × W)
  | [] => [(f, w)]
  | (g, v) :: r => if g = f then (g, w) :: r else (g, v) :: setF f w r
/-- a field is stored -/
def setFld (f : Str) (x w : W) (h : Hh) : Option Hh := match x with
  | .ref n => (match h[n]? with
    | some (.ins c fs) => if fs.length < 1000 then some (h.set n (.ins c (setF f w fs))) else none
    | _ => none)
  | _ => none
def setAt (o i v : W) (h : Hh) : Option Hh := match o with
  | .ref n => (match h[n]? with
    | some (.lst l) => (match i with
      | .dat (.int i) => if 0 ≤ i ∧ i < l.length then some (h.set n (.lst (l.set i.toNat v))) else none
      | _ => none)
    | _ => dctPut h n i v)
  | _ => none

/-! ### the language -/
structure Cc where
  glb : Nat → Option D
  call : Nat → List W → Hh → Res W
  wh : (En → Hh → Res Bool) → (En → Hh → SR) → En → Hh → SR

def toB (r : Res W) : Res Bool := r.bind fun w h => optR h (truth w)
def ofB (r : Res Bool) : Res W := r.bind fun b h => .ok (.dat (.bool b)) h
def rngL (lo hi : Int) : List W := (List.range (hi - lo).toNat).map fun (k : Nat) => W.dat (.int (lo + (k : Int)))
def okR (i : Int) : Bool := Nat.blt i.natAbs.log2 62
def strL (x : Str) : List W := x.cps.toList.map fun c => .dat (.str ⟨#[c]⟩)
/-- what is walked: items that stand, or a list of the small heap as it stands at each turn -/
inductive Itm where
  | ws (l : List W)
  | cell (n k : Nat)
def Itm.num : Itm → Nat
  | .ws l => l.length
  | .cell _ k => k
def Itm.get (I : Itm) (i : Nat) (h : Hh) : Option W := match I with
  | .ws l => l[i]?
  | .cell n _ => match h[n]? with
    | some (.lst l) => l[i]?
    | _ => none
def Itm.fin (I : Itm) (i : Nat) (h : Hh) : Bool := match I with
  | .ws l => decide (l.length ≤ i)
  | .cell n _ => match h[n]? with
    | some (.lst l) => decide (l.length ≤ i)
    | _ => false
/-- what a for walks over a value -/
def itemsOf (w : W) (h : Hh) : Option Itm := match w with
  | .dat (.list l) => some (.ws (l.map .dat))
  | .dat (.tuple l) => some (.ws (l.map .dat))
  | .dat (.str x) => some (.ws (strL x))
  | .ref n => (match h[n]? with
    | some (.lst l) => some (.cell n l.length)
    | _ => none)
  | _ => none
/-- what is zipped: rows of data that don't change -/
def zsrc : W → Option (List D)
  | .dat (.list l) => some l
  | .dat (.tuple l) => some l
  | .dat (.str x) => some (x.cps.toList.map fun c => PyData.str ⟨#[c]⟩)
  | _ => none
def zipW (xs ys : List D) : List W := (xs.zip ys).map fun p => .dat (.tuple [p.1, p.2])
def zipI (x y : W) : Option Itm := match zsrc x, zsrc y with
  | some xs, some ys => some (.ws (zipW xs ys))
  | _, _ => none
def setAll (e : En) : List Nat → List W → Option En
  | [], [] => some e
  | i :: is, w :: ws => setAll (e.set i (some w)) is ws
  | _, _ => none
def bindT (t : CT) (w : W) (e : En) : Option En := match t with
  | .nam i => some (e.set i (some w))
  | .tup l => match w with
    | .dat (.tuple ds) => setAll e l (ds.map .dat)
    | _ => none
def slotsT : CT → List Nat
  | .nam i => [i]
  | .tup l => l
def wipe (e : En) : List Nat → En
  | [] => e
  | v :: vs => (wipe e vs).set v none
/-- a comprehension's turns -/
def compG (I : Itm) (step : W → Hh → Res (Option W)) : Nat → Nat → Hh → List W → Res (List W)
  | 0, i, h, acc => if I.fin i h then .ok acc h else .bad
  | k + 1, i, h, acc => match I.get i h with
    | some w => (step w h).bind fun o h => match o with
      | some v => if acc.length < sizeL then compG I step k (i + 1) h (acc ++ [v]) else .bad
      | none => compG I step k (i + 1) h acc
    | none => .bad
/-- inside a comprehension nothing is raised -/
def noexc {α : Type} (r : Res α) : Res α := match r with
  | .ok a h => .ok a h
  | _ => .bad

def CEs.len : CEs → Nat
  | .nil => 0
  | .cons _ es => es.len + 1
section
variable (C : Cc)
mutual
def ev : CE → En → Hh → Res W
  | .var i, e, h => (match e[i]? with
    | some (some w) => .ok w h
    | _ => .bad)
  | .glb k, _, h => (match C.glb k with
    | some d => .ok (.dat d) h
    | none => .bad)
  | .cst d, _, h => .ok (.dat d) h
  | .tup es, e, h => (evs es e h).bind fun l h => if l.length ≤ 1000 then mkTup l h else .bad
  | .lst m es, e, h => (evs es e h).bind fun l h => if l.length ≤ 1000 then mkLst m l h else .bad
  | .dct _ .nil .nil, _, h => .ok (.dat (.dict [])) h
  | .dct _ (.cons a .nil) (.cons b .nil), e, h => (ev a e h).bind fun x h => (ev b e h).bind fun y h => dct1 x y h
  | .dct _ _ _, _, _ => .bad
  | .bin o m a b, e, h => (ev a e h).bind fun x h => (ev b e h).bind fun y h => binop o m x y h
  | .neg a, e, h => (ev a e h).bind fun x h => (match x with
    | .dat (.int i) => .ok (.dat (.int (-i))) h
    | _ => .bad)
  | .not a, e, h => (ev a e h).bind fun x h => (match truth x with
    | some b => .ok (.dat (.bool (!b))) h
    | none => .bad)
  | .bop con es, e, h => ofB (evb con es e h)
  | .cmp o a b, e, h => (ev a e h).bind fun x h => (ev b e h).bind fun y h => rb h (cmpW o x y h)
  | .chn o p a b c, e, h => (ev a e h).bind fun x h => (ev b e h).bind fun y h => (match cmpW o x y h with
    | some true => (ev c e h).bind fun z h => rb h (cmpW p y z h)
    | some false => .ok (.dat (.bool false)) h
    | none => .bad)
  | .ite c a b, e, h => (toB (ev c e h)).bind fun k h => if k = true then ev a e h else ev b e h
  | .idx a i, e, h => (ev a e h).bind fun x h => (ev i e h).bind fun y h => index x y h
  | .slc a lo hi, e, h => (ev a e h).bind fun x h => (evo lo e h).bind fun l h => (evo hi e h).bind fun u h => slice x l u h
  | .rev a, e, h => (ev a e h).bind fun x h => revW x h
  | .fld a f, e, h => (ev a e h).bind fun x h => fldW f x h
  | .call f es, e, h => (evs es e h).bind fun ws h => C.call f ws h
  | .meth a c m f es, e, h => (ev a e h).bind fun x h => if insB c m x h = true then (evs es e h).bind fun ws h => C.call f (x :: ws) h else .bad
  | .mk c f es, e, h => (evs es e h).bind fun ws h => (C.call f (.ref h.length :: ws) (h ++ [.ins c []])).bind fun v h2 => mkR h.length v h2
  | .isi a t, e, h => (ev a e h).bind fun x h => rb h (tyIs t x)
  | .blt f m es, e, h => (evs es e h).bind fun ws h => builtin f m ws h
  | .bmt f _ a es, e, h => (ev a e h).bind fun x h => if bmIs f x h = true then (evs es e h).bind fun ws h => bmeth f x ws h else .bad
  | .comp m own tg it ifs elt, e, h => (evi it e h).bind fun l h =>
      (compG l (fun w h => match bindT tg w (wipe e (own.map (·.2))) with
        | some e2 => noexc ((evb true ifs e2 h).bind fun k h => if k = true then (ev elt e2 h).bind fun v h => .ok (some v) h else .ok none h)
        | none => .bad) l.num 0 h []).bind fun r h => mkLst m r h
  | .frz _, _, _ => .bad
  | .sset m a, e, h => (ev a e h).bind fun x h => sortSet m x h
  | .lset a, e, h => (ev a e h).bind fun x h => lenSet x h
  | .isis a cs, e, h => (ev a e h).bind fun x h => rb h (tysIs cs x)
  | .dtab op k a, e, h => (ev a e h).bind fun x h => tabW op (C.glb k) x h
  | .dsp t es, e, h => (evs es e h).bind fun ws h => dspW t ws h
/-- all of them, or one of them -/
def evb (con : Bool) : CEs → En → Hh → Res Bool
  | .nil, _, h => .ok con h
  | .cons a es, e, h => (toB (ev a e h)).bind fun b h => if b = con then evb con es e h else .ok (!con) h
def evs : CEs → En → Hh → Res (List W)
  | .nil, _, h => .ok [] h
  | .cons a es, e, h => (ev a e h).bind fun x h => (evs es e h).bind fun xs h => .ok (x :: xs) h
def evo : CO → En → Hh → Res (Option Int)
  | .non, _, h => .ok none h
  | .som a, e, h => (ev a e h).bind fun x h => (match x with
    | .dat (.int i) => .ok (some i) h
    | _ => .bad)
def evi : CI → En → Hh → Res Itm
  | .ex a, e, h => (ev a e h).bind fun x h => optR h (itemsOf x h)
  | .rng1 b, e, h => (ev b e h).bind fun x h => (match x with
    | .dat (.int j) => if okR j then .ok (.ws (rngL 0 j)) h else .bad
    | _ => .bad)
  | .rng2 a b, e, h => (ev a e h).bind fun x h => (ev b e h).bind fun y h => (match x, y with
    | .dat (.int i), .dat (.int j) => if okR i && okR j then .ok (.ws (rngL i j)) h else .bad
    | _, _ => .bad)
  | .enm _, _, _ => .bad
  | .zip2 a b, e, h => (ev a e h).bind fun x h => (ev b e h).bind fun y h => optR h (zipI x y)
end
end

/-! ### statements -/
def SR.bind (m : SR) (f : En → Hh → SR) : SR := match m with
  | .nxt e h => f e h
  | .ret w h => .ret w h
  | .exc c e h => .exc c e h
  | .bad => .bad
/-- a caught error -/
def SR.catch (m : SR) (f : Nat → En → Hh → SR) : SR := match m with
  | .nxt e h => .nxt e h
  | .ret w h => .ret w h
  | .exc c e h => f c e h
  | .bad => .bad
/-- behind an except suite: its name goes -/
def SR.suite (i : Nat) (m : SR) : SR := match m with
  | .nxt e h => .nxt (e.set i none) h
  | .ret w h => .ret w h
  | .exc _ _ _ => .bad
  | .bad => .bad
def SR.suite0 (m : SR) : SR := match m with
  | .exc _ _ _ => .bad
  | r => r
def Res.then {α : Type} (m : Res α) (e : En) (f : α → Hh → SR) : SR := match m with
  | .ok a h => f a h
  | .exc c h => .exc c e h
  | .bad => .bad
/-- a for's turns -/
def forG (I : Itm) (step : W → En → Hh → SR) : Nat → Nat → En → Hh → SR
  | 0, i, e, h => if I.fin i h then .nxt e h else .bad
  | k + 1, i, e, h => match I.get i h with
    | some w => (step w e h).bind fun e h => forG I step k (i + 1) e h
    | none => .bad
def forL (step : W → En → Hh → SR) : List W → En → Hh → SR
  | [], e, h => .nxt e h
  | w :: ws, e, h => (step w e h).bind fun e h => forL step ws e h
theorem forG_drop (l : List W) (step : W → En → Hh → SR) : ∀ (k i : Nat) (e : En) (h : Hh), k + i = l.length → forG (.ws l) step k i e h = forL step (l.drop i) e h
  | 0, i, e, h, q => by
    have : i = l.length := by omega
    subst this
    simp [forG, forL, Itm.fin]
  | k + 1, i, e, h, q => by
    have hi : i < l.length := by omega
    rw [List.drop_eq_getElem_cons hi]
    simp only [forG, Itm.get, forL, List.getElem?_eq_getElem hi]
    congr 1
    funext e h
    exact forG_drop l step k (i + 1) e h (by omega)
theorem forG_ws (l : List W) (step : W → En → Hh → SR) (e : En) (h : Hh) : forG (.ws l) step (Itm.ws l).num 0 e h = forL step l e h := by
  have q := forG_drop l step l.length 0 e h (by omega)
  rw [List.drop_zero] at q
  exact q
def compL (step : W → Hh → Res (Option W)) : List W → Hh → List W → Res (List W)
  | [], h, acc => .ok acc h
  | w :: ws, h, acc => (step w h).bind fun o h => match o with
    | some v => if acc.length < sizeL then compL step ws h (acc ++ [v]) else .bad
    | none => compL step ws h acc
theorem compG_drop (l : List W) (step : W → Hh → Res (Option W)) : ∀ (k i : Nat) (h : Hh) (acc : List W), k + i = l.length → compG (.ws l) step k i h acc = compL step (l.drop i) h acc
  | 0, i, h, acc, q => by
    have : i = l.length := by omega
    subst this
    simp [compG, compL, Itm.fin]
  | k + 1, i, h, acc, q => by
    have hi : i < l.length := by omega
    rw [List.drop_eq_getElem_cons hi]
    simp only [compG, Itm.get, compL, List.getElem?_eq_getElem hi]
    congr 1
    funext o h
    cases o with
    | none => exact compG_drop l step k (i + 1) h acc (by omega)
    | some v => simp only [compG_drop l step k (i + 1) h (acc ++ [v]) (by omega)]
theorem compG_ws (l : List W) (step : W → Hh → Res (Option W)) (h : Hh) (acc : List W) : compG (.ws l) step (Itm.ws l).num 0 h acc = compL step l h acc := by
  have q := compG_drop l step l.length 0 h acc (by omega)
  rw [List.drop_zero] at q
  exact q
section
variable (C : Cc)
/-- a value is stored to a target -/
def stor (g : CG) (w : W) (e : En) (h : Hh) : SR := match g with
  | .nam i => .nxt (e.set i (some w)) h
  | .tup l => (match seqOf h w with
    | some ws => (match setAll e l ws with
      | some e => .nxt e h
      | none => .bad)
    | none => .bad)
  | .sub o i => (ev C o e h).then e fun x h => (ev C i e h).then e fun y h => (match setAt x y w h with
    | some h => .nxt e h
    | none => .bad)
  | .fld _ _ => .bad
  | .subnam o i j => (match w with
    | .dat (.tuple [a, b]) => (ev C o e h).then e fun x h => (ev C i e h).then e fun y h => (match setAt x y (.dat a) h with
      | some h => .nxt (e.set j (some (.dat b))) h
      | none => .bad)
    | _ => .bad)
  | .subsub o i o2 i2 => (match w with
    | .dat (.tuple [a, b]) => (ev C o e h).then e fun x h => (ev C i e h).then e fun y h => (match setAt x y (.dat a) h with
      | some h => (ev C o2 e h).then e fun x h => (ev C i2 e h).then e fun y h => (match setAt x y (.dat b) h with
        | some h => .nxt e h
        | none => .bad)
      | none => .bad)
    | _ => .bad)
mutual
def ex : CS → En → Hh → SR
  | .pass, e, h => .nxt e h
  | .expr a, e, h => (ev C a e h).then e fun _ h => .nxt e h
  | .ret a, e, h => (ev C a e h).then e fun w h => .ret w h
  | .retN, _, h => .ret (.dat .none) h
  | .asg g a, e, h => (ev C a e h).then e fun w h => stor C g w e h
  | .par i j a b, e, h => (ev C a e h).then e fun v h => (ev C b e h).then e fun w h => .nxt ((e.set i (some v)).set j (some w)) h
  | .par3 i j l a b c, e, h => (ev C a e h).then e fun v h => (ev C b e h).then e fun w h => (ev C c e h).then e fun u h => .nxt (((e.set i (some v)).set j (some w)).set l (some u)) h
  | .setc i a, e, h => (ev C a e h).then e fun w h => .nxt (e.set i (some w)) h
  | .setf o f a, e, h => (ev C a e h).then e fun w h => (ev C o e h).then e fun x h => (match setFld f x w h with
    | some h => .nxt e h
    | none => .bad)
  | .ifs c a b, e, h => (toB (ev C c e h)).then e fun k h => if k = true then exs a e h else exs b e h
  | .whil c b, e, h => C.wh (fun e h => toB (ev C c e h)) (fun e h => exs b e h) e h
  | .for_ tg it b, e, h => (evi C it e h).then e fun l h => forG l (fun w e h => match bindT tg w e with
      | some e => exs b e h
      | none => .bad) l.num 0 e h
  | .rais c, e, h => .exc c e h
  | .tryas c i b s, e, h => (exs b e h).catch fun k e h => if subX k c = true then (exs s (e.set i (some (.exc k))) h).suite i else .exc k e h
  | .try_ c b s, e, h => (exs b e h).catch fun k e h => if subX k c = true then (exs s e h).suite0 else .exc k e h
def exs : CSs → En → Hh → SR
  | .nil, e, h => .nxt e h
  | .cons s ss, e, h => (ex s e h).bind fun e h => exs ss e h
end
end

/-! ### whiles -/
def whN (c : En → Hh → Res Bool) (b : En → Hh → SR) : Nat → En → Hh → SR
  | 0, _, _ => .bad
  | n + 1, e, h => (c e h).then e fun k h => if k = true then (b e h).bind fun e h => whN c b n e h else .nxt e h
theorem whN_mono (c : En → Hh → Res Bool) (b : En → Hh → SR) : ∀ (n : Nat) (e : En) (h : Hh), whN c b n e h ≠ .bad → whN c b (n + 1) e h = whN c b n e h
  | 0, e, h, q => absurd rfl q
  | n + 1, e, h, q => by
    unfold whN at q ⊢
    cases hc : c e h with
    | bad => rfl
    | exc k h' => rfl
    | ok k h' =>
      rw [hc] at q
      cases k with
      | false => rfl
      | true =>
        have q1 : (b e h').bind (fun e h => whN c b n e h) ≠ .bad := q
        show (b e h').bind (fun e h => whN c b (n + 1) e h) = (b e h').bind (fun e h => whN c b n e h)
        cases hb : b e h' with
        | bad => rfl
        | exc _ _ _ => rfl
        | ret _ _ => rfl
        | nxt e2 h2 =>
          rw [hb] at q1
          exact whN_mono c b n e2 h2 q1
theorem whN_le (c : En → Hh → Res Bool) (b : En → Hh → SR) {n m : Nat} (l : n ≤ m) {e : En} {h : Hh} (q : whN c b n e h ≠ .bad) : whN c b m e h = whN c b n e h := by
  induction l with
  | refl => rfl
  | step _ ih => rw [whN_mono c b _ e h (by rw [ih]; exact q), ih]
open Classical in
noncomputable def whM (c : En → Hh → Res Bool) (b : En → Hh → SR) (e : En) (h : Hh) : SR :=
  if q : ∃ n, whN c b n e h ≠ .bad then whN c b (Classical.choose q) e h else .bad
theorem whM_of {c : En → Hh → Res Bool} {b : En → Hh → SR} {n : Nat} {e : En} {h : Hh} (q : whN c b n e h ≠ .bad) : whM c b e h = whN c b n e h := by
  have z : ∃ n, whN c b n e h ≠ .bad := ⟨n, q⟩
  unfold whM
  rw [dif_pos z]
  have q2 := Classical.choose_spec z
  rcases Nat.le_total n (Classical.choose z) with l | l
  · exact whN_le c b l q
  · exact (whN_le c b l q2).symm
theorem whM_get {c : En → Hh → Res Bool} {b : En → Hh → SR} {e : En} {h : Hh} (q : whM c b e h ≠ .bad) : ∃ n, whN c b n e h = whM c b e h := by
  unfold whM at q ⊢
  by_cases z : ∃ n, whN c b n e h ≠ .bad
  · rw [dif_pos z] at q ⊢
    exact ⟨_, rfl⟩
  · rw [dif_neg z] at q
    exact absurd rfl q
theorem whM_eq (c : En → Hh → Res Bool) (b : En → Hh → SR) (e : En) (h : Hh) : whM c b e h = (c e h).then e fun k h => if k = true then (b e h).bind fun e h => whM c b e h else .nxt e h := by
  by_cases z : ∃ n, whN c b n e h ≠ .bad
  · obtain ⟨n, q⟩ := z
    rw [whM_of q]
    cases n with
    | zero => exact absurd rfl q
    | succ n =>
      unfold whN at q ⊢
      cases hc : c e h with
      | bad => rfl
      | exc k h' => rfl
      | ok k h' =>
        rw [hc] at q
        cases k with
        | false => rfl
        | true =>
          have q1 : (b e h').bind (fun e h => whN c b n e h) ≠ .bad := q
          show (b e h').bind (fun e h => whN c b n e h) = (b e h').bind (fun e h => whM c b e h)
          cases hb : b e h' with
          | bad => rfl
          | exc _ _ _ => rfl
          | ret _ _ => rfl
          | nxt e2 h2 =>
            rw [hb] at q1
            exact (whM_of q1).symm
  · have e0 : whM c b e h = .bad := by
      unfold whM
      rw [dif_neg z]
    rw [e0]
    cases hc : c e h with
    | bad => rfl
    | exc k h' => exact absurd ⟨1, by unfold whN; rw [hc]; exact fun q => nomatch q⟩ z
    | ok k h' =>
      cases k with
      | false => exact absurd ⟨1, by unfold whN; rw [hc]; exact fun q => nomatch q⟩ z
      | true =>
        show SR.bad = (b e h').bind (fun e h => whM c b e h)
        cases hb : b e h' with
        | bad => rfl
        | exc _ _ _ => exact absurd ⟨1, by unfold whN; rw [hc]; show (b e h').bind _ ≠ _; rw [hb]; exact fun q => nomatch q⟩ z
        | ret _ _ => exact absurd ⟨1, by unfold whN; rw [hc]; show (b e h').bind _ ≠ _; rw [hb]; exact fun q => nomatch q⟩ z
        | nxt e2 h2 =>
          show SR.bad = whM c b e2 h2
          by_cases q : whM c b e2 h2 = .bad
          · exact q.symm
          · obtain ⟨n, hn⟩ := whM_get q
            exact absurd ⟨n + 1, by unfold whN; rw [hc]; show (b e h').bind _ ≠ _; rw [hb]; show whN c b n e2 h2 ≠ _; rw [hn]; exact q⟩ z

/-! ### defs -/
structure Df where
  name : Str
  cls : Option Nat
  pars : Nat
  many : Nat
  keep : Bool
  body : CSs
def refB (n : Nat) : W → Bool
  | .ref k => decide (k < n)
  | _ => true
def obB (n : Nat) : Ob → Bool
  | .lst l => l.all (refB n)
  | .dct l => l.all fun p => refB n p.2
  | .lck l => l.all fun p => refB n p.2
  | .ins _ fs => fs.all fun p => refB n p.2
  | .tpl l => l.all (refB n)
  | .gone => true
/-- no object names one that isn't there -/
def closedB (h : Hh) : Bool := h.all (obB h.length)
/-- lists that were made here, as data -/
def frzW (h : Hh) (n : Nat) : W → Option D
  | .dat d => some d
  | .ref k => (match h[k]? with
    | some (.lst l) => if n ≤ k then (dsOf l).map PyData.list else none
    | _ => none)
  | _ => none
def frzL (h : Hh) (n : Nat) : List W → Option (List D)
  | [] => some []
  | w :: ws => match frzW h n w, frzL h n ws with
    | some d, some ds => some (d :: ds)
    | _, _ => none
def finish (keep : Bool) (n : Nat) : SR → Res W
  | .ret w h => if keep then .ok w h else match w with
    | .dat d => if closedB (h.take n) then .ok (.dat d) (h.take n) else .bad
    | .ref k => (match h[k]? with
      | some (.lst l) => (match dsOf l with
        | some ds => if decide (n ≤ k) && closedB (h.take n) then .ok (.dat (.list ds)) (h.take n) else .bad
        | none => (match frzL h n l with
          | some ds => if decide (n ≤ k) && closedB (h.take n) then .ok (.dat (.list ds)) (h.take n) else .bad
          | none => .bad))
      | _ => .bad)
    | _ => .bad
  | .nxt _ h => if keep then .ok (.dat .none) h else if closedB (h.take n) then .ok (.dat .none) (h.take n) else .bad
  | .exc c _ h => if keep then .exc c h else if closedB (h.take n) then .exc c (h.take n) else .bad
  | .bad => .bad
def start (d : Df) (ws : List W) : En := ws.map some ++ List.replicate (d.many - ws.length) none
def runBy (wh : (En → Hh → Res Bool) → (En → Hh → SR) → En → Hh → SR) (G : Nat → Option D) (T : List Df) : Nat → Nat → List W → Hh → Res W
  | 0, _, _, _ => .bad
  | n + 1, f, ws, h => match T[f]? with
    | some d => if ws.length = d.pars then finish d.keep h.length (exs ⟨G, runBy wh G T n, wh⟩ d.body (start d ws) h) else .bad
    | none => .bad
noncomputable def run (G : Nat → Option D) (T : List Df) (n f : Nat) (ws : List W) (h : Hh) : Res W := runBy whM G T n f ws h
end M
/-! MRel: how the mini language's data and small heap stand in the layer's abstract heap. -/
namespace M
open PySem PySem.Spec PyProof.Rows L2

/-! ### data -/
/-- where the small heap's objects stand; what is being made, which no value names yet -/
structure Mu where
  m : List Addr
  x : List Addr
/-- a tuple of the written part -/
def KT (K : PySem.W.Frag) (a : Addr) (xs : List V) : Prop :=
  ∃ (o : Obj) (its : Array Value) (n : Nat), K.lookup a = some o ∧ o.cls = .type "tuple" ∧ o.data = .seq its n ∧ its.size ≤ sizeLine ∧ Vals xs its.toList
def LstAt (K : PySem.W.Frag) (μ : Mu) (H : Hp) (a : Addr) (xs : List V) : Prop := (a ∉ μ.m ∧ a ∉ μ.x) ∧ Rd H a (.lst xs)
def TupAt (K : PySem.W.Frag) (μ : Mu) (H : Hp) (a : Addr) (xs : List V) : Prop := ((a ∉ μ.m ∧ a ∉ μ.x) ∧ Rd H a (.tup xs)) ∨ KT K a xs
theorem LstAt.sq {K : PySem.W.Frag} {μ : Mu} {H : Hp} {a : Addr} {xs : List V} (h : LstAt K μ H a xs) : SqL K H a xs := .inl h.2
theorem TupAt.sq {K : PySem.W.Frag} {μ : Mu} {H : Hp} {a : Addr} {xs : List V} (h : TupAt K μ H a xs) : SqT K H a xs := h.elim (fun z => .inl z.2) fun z => .inr z

/-- a dict's key -/
def keyD : Key → D
  | .inl i => .int i
  | .inr x => .str x
def DctAt (μ : Mu) (H : Hp) (a : Addr) (kvs : List (Key × V)) : Prop := (a ∉ μ.m ∧ a ∉ μ.x) ∧ Rd H a (.dK kvs)
mutual
inductive VR (K : PySem.W.Frag) (μ : Mu) (H : Hp) : D → V → Prop
  | non : VR K μ H .none .non
  | bl (b : Bool) : VR K μ H (.bool b) (.bl b)
  | int (i : Int) : VR K μ H (.int i) (.int i)
  | str (x : Str) : VR K μ H (.str x) (.str x)
  | lst {a : Addr} {xs : List V} {ds : List D} : LstAt K μ H a xs → VRs K μ H ds xs → VR K μ H (.list ds) (.ref a)
  | tup {a : Addr} {xs : List V} {ds : List D} : TupAt K μ H a xs → VRs K μ H ds xs → VR K μ H (.tuple ds) (.ref a)
  | dct {a : Addr} {kvs : List (Key × V)} {ds : List (D × D)} : DctAt μ H a kvs → VDs K μ H ds kvs → VR K μ H (.dict ds) (.ref a)
inductive VDs (K : PySem.W.Frag) (μ : Mu) (H : Hp) : List (D × D) → List (Key × V) → Prop
  | nil : VDs K μ H [] []
  | cons {d : D} {ds : List (D × D)} {k : Key} {v : V} {vs : List (Key × V)} : VR K μ H d v → VDs K μ H ds vs → VDs K μ H ((keyD k, d) :: ds) ((k, v) :: vs)
inductive VRs (K : PySem.W.Frag) (μ : Mu) (H : Hp) : List D → List V → Prop
  | nil : VRs K μ H [] []
  | cons {d : D} {ds : List D} {v : V} {vs : List V} : VR K μ H d v → VRs K μ H ds vs → VRs K μ H (d :: ds) (v :: vs)
end

/-- what is no lock -/
def Pl : HO → Prop
  | .frz _ _ => False
  | _ => True
/-- from a state on: the small heap may have grown, what is not of it stands -/
structure Stp (μ : Mu) (H : Hp) (μ' : Mu) (H' : Hp) : Prop where
  pre : ∃ t, μ'.m = μ.m ++ t ∧ ∀ a ∈ t, H a = none
  inx : ∀ a ∈ μ.x, a ∈ μ'.x
  oux : ∀ a ∈ μ'.x, a ∈ μ.x ∨ H a = none
  fix : ∀ a ∈ μ.x, H' a = H a
  keep : ∀ a u, a ∉ μ.m → Pl u → Rd H a u → Rd H' a u
  live : ∀ a, H' a = none → H a = none
theorem Rd.some {H : Hp} {a : Addr} {u : HO} (h : Rd H a u) : H a ≠ none := fun e => by
  rcases h with h | ⟨o, h⟩ <;> (rw [e] at h; cases h)
theorem Stp.refl {μ : Mu} {H : Hp} : Stp μ H μ H := ⟨⟨[], by simp, fun _ z => nomatch z⟩, fun _ h => h, fun _ h => .inl h, fun _ _ => rfl, fun _ _ _ _ h => h, fun _ h => h⟩
theorem Stp.out {μ μ' : Mu} {H H' : Hp} (s : Stp μ H μ' H') {a : Addr} (n : a ∉ μ.m) (h : H a ≠ none) : a ∉ μ'.m := by
  obtain ⟨t, e, ht⟩ := s.pre
  intro z
  rw [e] at z
  rcases List.mem_append.mp z with z | z
  · exact n z
  · exact h (ht a z)
theorem Stp.out2 {μ μ' : Mu} {H H' : Hp} (s : Stp μ H μ' H') {a : Addr} (n : a ∉ μ.m ∧ a ∉ μ.x) (h : H a ≠ none) : a ∉ μ'.m ∧ a ∉ μ'.x := ⟨s.out n.1 h, fun z => (s.oux a z).elim n.2 h⟩
theorem Stp.trans {μ μ1 μ2 : Mu} {H H1 H2 : Hp} (s : Stp μ H μ1 H1) (r : Stp μ1 H1 μ2 H2) : Stp μ H μ2 H2 := by
  refine ⟨?_, fun a h => r.inx a (s.inx a h), fun a h => (r.oux a h).elim (s.oux a) fun z => .inr (s.live a z), fun a h => (r.fix a (s.inx a h)).trans (s.fix a h), fun a u n p h => r.keep a u (s.out n (Rd.some h)) p (s.keep a u n p h), fun a h => s.live a (r.live a h)⟩
  obtain ⟨t, e, ht⟩ := s.pre
  obtain ⟨t', e', ht'⟩ := r.pre
  refine ⟨t ++ t', by rw [e', e, List.append_assoc], fun a z => ?_⟩
  rcases List.mem_append.mp z with z | z
  · exact ht a z
  · exact s.live a (ht' a z)
theorem Stp.get {μ μ' : Mu} {H H' : Hp} (s : Stp μ H μ' H') {n : Nat} {a : Addr} (h : μ.m[n]? = some a) : μ'.m[n]? = some a := by
  obtain ⟨t, e, _⟩ := s.pre
  rw [e, List.getElem?_append_left (List.getElem?_eq_some_iff.mp h).1]
  exact h
theorem LstAt.mono {K : PySem.W.Frag} {μ μ' : Mu} {H H' : Hp} {a : Addr} {xs : List V} (h : LstAt K μ H a xs) (s : Stp μ H μ' H') : LstAt K μ' H' a xs :=
  ⟨s.out2 h.1 (Rd.some h.2), s.keep a _ h.1.1 trivial h.2⟩
theorem TupAt.mono {K : PySem.W.Frag} {μ μ' : Mu} {H H' : Hp} {a : Addr} {xs : List V} (h : TupAt K μ H a xs) (s : Stp μ H μ' H') : TupAt K μ' H' a xs := by
  rcases h with ⟨n, h⟩ | h
  · exact .inl ⟨s.out2 n (Rd.some h), s.keep a _ n.1 trivial h⟩
  · exact .inr h
theorem DctAt.mono {μ μ' : Mu} {H H' : Hp} {a : Addr} {kvs : List (Key × V)} (h : DctAt μ H a kvs) (s : Stp μ H μ' H') : DctAt μ' H' a kvs :=
  ⟨s.out2 h.1 (Rd.some h.2), s.keep a _ h.1.1 trivial h.2⟩
mutual
theorem VR.mono {K : PySem.W.Frag} {μ μ' : Mu} {H H' : Hp} (s : Stp μ H μ' H') : ∀ {d : D} {v : V}, VR K μ H d v → VR K μ' H' d v
  | _, _, .non => .non
  | _, _, .bl b => .bl b
  | _, _, .int i => .int i
  | _, _, .str x => .str x
  | _, _, .lst h hs => .lst (h.mono s) (VRs.mono s hs)
  | _, _, .tup h hs => .tup (h.mono s) (VRs.mono s hs)
  | _, _, .dct h hs => .dct (h.mono s) (VDs.mono s hs)
theorem VDs.mono {K : PySem.W.Frag} {μ μ' : Mu} {H H' : Hp} (s : Stp μ H μ' H') : ∀ {ds : List (D × D)} {vs : List (Key × V)}, VDs K μ H ds vs → VDs K μ' H' ds vs
  | _, _, .nil => .nil
  | _, _, .cons h hs => .cons (VR.mono s h) (VDs.mono s hs)
theorem VRs.mono {K : PySem.W.Frag} {μ μ' : Mu} {H H' : Hp} (s : Stp μ H μ' H') : ∀ {ds : List D} {vs : List V}, VRs K μ H ds vs → VRs K μ' H' ds vs
  | _, _, .nil => .nil
  | _, _, .cons h hs => .cons (VR.mono s h) (VRs.mono s hs)
end
/-! data as HandS has it -/
mutual
theorem VR.dp {K : PySem.W.Frag} {μ : Mu} {H : Hp} : ∀ {d : D} {v : V}, VR K μ H d v → d.canLay0 = true → Dp K H v d
  | _, _, .non, _ => .non
  | _, _, .bl b, _ => .bl b
  | _, _, .int i, _ => .int i
  | _, _, .str x, _ => .str x
  | _, _, .lst h hs, c => .lst h.sq (VRs.dp hs (by simpa [PyData.canLay0] using c))
  | _, _, .tup h hs, c => .tup h.sq (VRs.dp hs (by simpa [PyData.canLay0] using c))
  | _, _, .dct h hs, c => by simp [PyData.canLay0] at c
theorem VRs.dp {K : PySem.W.Frag} {μ : Mu} {H : Hp} : ∀ {ds : List D} {vs : List V}, VRs K μ H ds vs → PyData.canLayAll0 ds = true → DpAll K H vs ds
  | _, _, .nil, _ => .nil
  | _, _, .cons h hs, c => by
    have c2 := Bool.and_eq_true_iff.mp (show (PyData.canLay0 _ && PyData.canLayAll0 _) = true from by rw [PyData.canLayAll0] at c; exact c)
    exact .cons (VR.dp h c2.1) (VRs.dp hs c2.2)
end
theorem VRs.len {K : PySem.W.Frag} {μ : Mu} {H : Hp} : ∀ {ds : List D} {vs : List V}, VRs K μ H ds vs → ds.length = vs.length
  | _, _, .nil => rfl
  | _, _, .cons _ hs => by simp [VRs.len hs]

/-! ### values, objects -/
/-- a caught error of the class at C -/
def ExV (C : Addr) (a : Addr) : HO := .ext fun h => ∃ (oe : Obj), h.get? a = some oe ∧ Zc (.ref C) none oe ∧ ∃ vs, oe.data = .fields vs
inductive WR (K : PySem.W.Frag) (ca : Nat → Addr) (μ : Mu) (H : Hp) : W → V → Prop
  | dat {d : D} {v : V} : VR K μ H d v → WR K ca μ H (.dat d) v
  | ref {n : Nat} {a : Addr} : μ.m[n]? = some a → WR K ca μ H (.ref n) (.ref a)
  | exc {c : Nat} {a : Addr} : (a ∉ μ.m ∧ a ∉ μ.x) → Rd H a (ExV (ca (2 * c)) a) → WR K ca μ H (.exc c) (.ref a)
  | scr {l : List Int} {a : Addr} : (∃ xs, xs = l.map V.int ∧ (((a ∉ μ.m ∧ a ∉ μ.x) ∧ Rd H a (.lst xs)) ∨ ∀ H', SqL K H' a xs)) → WR K ca μ H (.scr l) (.ref a)
abbrev WRs (K : PySem.W.Frag) (ca : Nat → Addr) (μ : Mu) (H : Hp) : List W → List V → Prop := Paired (WR K ca μ H)
section
variable {K : PySem.W.Frag} {ca : Nat → Addr} {μ μ' : Mu} {H H' : Hp}
theorem WR.mono (s : Stp μ H μ' H') {w : W} {v : V} (r : WR K ca μ H w v) : WR K ca μ' H' w v := by
  cases r with
  | dat h => exact .dat (h.mono s)
  | ref h => exact .ref (s.get h)
  | exc n h => exact .exc (s.out2 n (Rd.some h)) (s.keep _ _ n.1 trivial h)
  | scr h =>
    obtain ⟨xs, e, h⟩ := h
    exact .scr ⟨xs, e, h.elim (fun z => .inl ⟨s.out2 z.1 (Rd.some z.2), s.keep _ _ z.1.1 trivial z.2⟩) .inr⟩
theorem WRs.mono (s : Stp μ H μ' H') {ws : List W} {vs : List V} (r : WRs K ca μ H ws vs) : WRs K ca μ' H' ws vs := Paired.mapP r fun _ _ h => WR.mono s h
theorem WRs.of {ds : List D} {vs : List V} (h : VRs K μ H ds vs) : WRs K ca μ H (ds.map .dat) vs := by
  induction ds generalizing vs with
  | nil =>
    cases h
    exact .nil
  | cons d ds ih =>
    cases h with
    | cons h hs => exact .cons (.dat h) (ih hs)
theorem WRs.data : ∀ {ws : List W} {vs : List V} {ds : List D}, WRs K ca μ H ws vs → dsOf ws = some ds → VRs K μ H ds vs
  | [], _, ds, h, e => by
    cases h
    cases e
    exact .nil
  | w :: ws, _, ds, h, e => by
    cases h with
    | cons r rr =>
      cases w with
      | dat d =>
        cases q : dsOf ws with
        | none => simp [dsOf, q] at e
        | some ds' =>
          simp only [dsOf, q, Option.some.injEq] at e
          subst e
          cases r with
          | dat h => exact .cons h (WRs.data rr q)
      | ref n => simp [dsOf] at e
      | exc n => simp [dsOf] at e
      | scr n => simp [dsOf] at e
end
/-- one object of the small heap, at a -/
def ObR (K : PySem.W.Frag) (ca : Nat → Addr) (μ : Mu) (H : Hp) (a : Addr) : Ob → Prop
  | .lst l => ∃ xs, H a = some (.lst xs) ∧ WRs K ca μ H l xs
  | .tpl l => ∃ xs, H a = some (.tup xs) ∧ WRs K ca μ H l xs
  | .ins c fs => ∃ dx fv, H a = some (.ins (ca (2 * c + 1)) dx fv) ∧ Paired (fun (p : Str × W) (q : Str × V) => p.1 = q.1 ∧ WR K ca μ H p.2 q.2) fs fv
  | .dct l => ∃ kvs : List (Key × V), H a = some (.dK kvs) ∧ Paired (fun (p : Ky × W) (q : Key × V) => p.1 = q.1 ∧ WR K ca μ H p.2 q.2) l kvs
  | .lck _ => False
  | .gone => True
structure HR (K : PySem.W.Frag) (ca : Nat → Addr) (μ : Mu) (H : Hp) (h : Hh) : Prop where
  len : μ.m.length = h.length
  nd : μ.m.Nodup
  live : ∀ a ∈ μ.m, H a ≠ none
  livx : ∀ a ∈ μ.x, H a ≠ none
  dis : ∀ a ∈ μ.m, a ∉ μ.x
  ob : ∀ (n : Nat) (o : Ob) (a : Addr), h[n]? = some o → μ.m[n]? = some a → ObR K ca μ H a o
section
variable {K : PySem.W.Frag} {ca : Nat → Addr} {μ μ' : Mu} {H H' : Hp} {h : Hh}
theorem nodup_get {α : Type} : ∀ {l : List α} {i j : Nat} {a : α}, l.Nodup → l[i]? = some a → l[j]? = some a → i = j
  | [], i, _, _, _, h, _ => by simp at h
  | x :: l, 0, 0, _, _, _, _ => rfl
  | x :: l, 0, j + 1, a, n, h, g => by
    simp at h g
    subst h
    exact absurd (List.mem_of_getElem? g) (List.nodup_cons.mp n).1
  | x :: l, i + 1, 0, a, n, h, g => by
    simp at h g
    subst g
    exact absurd (List.mem_of_getElem? h) (List.nodup_cons.mp n).1
  | x :: l, i + 1, j + 1, a, n, h, g => by
    simp at h g
    rw [nodup_get (List.nodup_cons.mp n).2 h g]
/-- the object at a changes, a's place n -/
theorem HR.set (r : HR K ca μ H h) {n : Nat} {a : Addr} {o : Ob} {u : HO} (ha : μ.m[n]? = some a) (ho : ∀ s : Stp μ H μ (upd H a u), ObR K ca μ (upd H a u) a o) : Stp μ H μ (upd H a u) ∧ HR K ca μ (upd H a u) (h.set n o) := by
  have st : Stp μ H μ (upd H a u) := by
    refine ⟨⟨[], by simp, fun _ z => nomatch z⟩, fun _ h => h, fun _ h => .inl h, fun b hb => upd_ne fun e => r.dis a (List.mem_of_getElem? ha) (e ▸ hb), fun b v nb _ q => ?_, fun b e => ?_⟩
    · have ne : b ≠ a := fun e => nb (e ▸ List.mem_of_getElem? ha)
      rcases q with q | ⟨x, q⟩
      · exact .inl (by rw [upd_ne ne]; exact q)
      · exact .inr ⟨x, by rw [upd_ne ne]; exact q⟩
    · by_cases eb : b = a
      · subst eb; rw [upd_same] at e; cases e
      · rw [upd_ne eb] at e; exact e
  refine ⟨st, by rw [List.length_set]; exact r.len, r.nd, fun b hb e => ?_, fun b hb e => ?_, r.dis, fun m o' b e1 e2 => ?_⟩
  · exact r.live b hb (st.live b e)
  · exact r.livx b hb (st.live b e)
  · by_cases q : n = m
    · subst q
      rw [ha] at e2
      cases e2
      have hl : n < h.length := by rw [← r.len]; exact (List.getElem?_eq_some_iff.mp ha).1
      rw [List.getElem?_set_self hl] at e1
      cases e1
      exact ho st
    · rw [List.getElem?_set_ne q] at e1
      have ne : b ≠ a := fun e => q (nodup_get r.nd ha (e ▸ e2))
      have z := r.ob m o' b e1 e2
      cases o' with
      | lst l => obtain ⟨xs, y, w⟩ := z; exact ⟨xs, by rw [upd_ne ne]; exact y, WRs.mono st w⟩
      | tpl l => obtain ⟨xs, y, w⟩ := z; exact ⟨xs, by rw [upd_ne ne]; exact y, WRs.mono st w⟩
      | ins c fs => obtain ⟨dx, fv, y, w⟩ := z; exact ⟨dx, fv, by rw [upd_ne ne]; exact y, Paired.mapP w fun _ _ q => ⟨q.1, WR.mono st q.2⟩⟩
      | dct l => obtain ⟨kvs, y, w⟩ := z; exact ⟨kvs, by rw [upd_ne ne]; exact y, Paired.mapP w fun _ _ q => ⟨q.1, WR.mono st q.2⟩⟩
      | lck l => exact z.elim
      | gone => trivial
/-- something new that is not of the small heap -/
theorem Stp.new {p : Addr} {u : HO} (hx : p ∉ μ.x) (hp : H p = none) : Stp μ H μ (upd H p u) := by
  refine ⟨⟨[], by simp, fun _ z => nomatch z⟩, fun _ h => h, fun _ h => .inl h, fun b hb => upd_ne fun e => hx (e ▸ hb), fun b v nb _ q => ?_, fun b e => ?_⟩
  · have ne : b ≠ p := fun e => Rd.some q (e ▸ hp)
    rcases q with q | ⟨x, q⟩
    · exact .inl (by rw [upd_ne ne]; exact q)
    · exact .inr ⟨x, by rw [upd_ne ne]; exact q⟩
  · by_cases eb : b = p
    · subst eb; rw [upd_same] at e; cases e
    · rw [upd_ne eb] at e; exact e
theorem ObR.grow {μ' : Mu} {a : Addr} {o : Ob} (st : Stp μ H μ' H') (ne : H' a = H a) (z : ObR K ca μ H a o) : ObR K ca μ' H' a o := by
  cases o with
  | lst l => obtain ⟨xs, y, w⟩ := z; exact ⟨xs, by rw [ne]; exact y, WRs.mono st w⟩
  | tpl l => obtain ⟨xs, y, w⟩ := z; exact ⟨xs, by rw [ne]; exact y, WRs.mono st w⟩
  | ins c fs => obtain ⟨dx, fv, y, w⟩ := z; exact ⟨dx, fv, by rw [ne]; exact y, Paired.mapP w fun _ _ q => ⟨q.1, WR.mono st q.2⟩⟩
  | dct l => obtain ⟨kvs, y, w⟩ := z; exact ⟨kvs, by rw [ne]; exact y, Paired.mapP w fun _ _ q => ⟨q.1, WR.mono st q.2⟩⟩
  | lck l => exact z.elim
  | gone => trivial
theorem HR.nox (r : HR K ca μ H h) {p : Addr} (hp : H p = none) : p ∉ μ.x := fun z => r.livx p z hp
theorem HR.stp (r : HR K ca μ H h) {p : Addr} {u : HO} (hp : H p = none) : Stp μ H μ (upd H p u) := Stp.new (r.nox hp) hp
theorem HR.new (r : HR K ca μ H h) {p : Addr} {u : HO} (hp : H p = none) : HR K ca μ (upd H p u) h :=
  ⟨r.len, r.nd, fun a ha e => r.live a ha ((r.stp (u := u) hp).live a e), fun a ha e => r.livx a ha ((r.stp (u := u) hp).live a e), r.dis, fun n o a e1 e2 =>
    (r.ob n o a e1 e2).grow (r.stp hp) (upd_ne fun e => r.live a (List.mem_of_getElem? e2) (e ▸ hp))⟩
def Mu.add (μ : Mu) (p : Addr) : Mu := ⟨μ.m ++ [p], μ.x⟩
/-- a new object of the small heap -/
theorem HR.push (r : HR K ca μ H h) {p : Addr} {u : HO} {o : Ob} (hp : H p = none) (ho : ∀ s : Stp μ H (μ.add p) (upd H p u), ObR K ca (μ.add p) (upd H p u) p o) : Stp μ H (μ.add p) (upd H p u) ∧ HR K ca (μ.add p) (upd H p u) (h ++ [o]) := by
  have s0 : Stp μ H μ (upd H p u) := r.stp hp
  have st : Stp μ H (μ.add p) (upd H p u) := ⟨⟨[p], rfl, fun a z => by rw [List.mem_singleton.mp z]; exact hp⟩, s0.inx, s0.oux, s0.fix, s0.keep, s0.live⟩
  have np : p ∉ μ.m := fun z => r.live p z hp
  refine ⟨st, by show (μ.m ++ [p]).length = _; rw [List.length_append, List.length_append, r.len]; rfl, ?_, fun a ha e => ?_, fun a ha e => r.livx a ha (st.live a e), fun a ha z => ?_, fun n o' a e1 e2 => ?_⟩
  · show (μ.m ++ [p]).Nodup
    rw [List.nodup_append]
    exact ⟨r.nd, by simp, fun a ha b hb e => by rw [List.mem_singleton.mp hb] at e; exact np (e ▸ ha)⟩
  · rcases List.mem_append.mp ha with ha | ha
    · exact r.live a ha (st.live a e)
    · rw [List.mem_singleton.mp ha, upd_same] at e
      cases e
  · rcases List.mem_append.mp ha with ha | ha
    · exact r.dis a ha z
    · rw [List.mem_singleton.mp ha] at z
      exact r.nox hp z
  · have e2 : (μ.m ++ [p])[n]? = some a := e2
    by_cases q : n < h.length
    · rw [List.getElem?_append_left q] at e1
      rw [List.getElem?_append_left (by rw [r.len]; exact q)] at e2
      exact (r.ob n o' a e1 e2).grow st (upd_ne fun e => np (e ▸ List.mem_of_getElem? e2))
    · have q2 : n = h.length := by
        have := (List.getElem?_eq_some_iff.mp e1).1
        rw [List.length_append] at this
        simp at this
        omega
      subst q2
      rw [List.getElem?_append_right (Nat.le_refl _), Nat.sub_self] at e1
      rw [List.getElem?_append_right (by rw [r.len]; exact Nat.le_refl _), r.len, Nat.sub_self] at e2
      simp at e1 e2
      subst e1 e2
      exact ho st
theorem HR.last (r : HR K ca μ H h) (p : Addr) : (μ.add p).m[h.length]? = some p := by
  show (μ.m ++ [p])[h.length]? = _
  rw [List.getElem?_append_right (by rw [r.len]; exact Nat.le_refl _), r.len, Nat.sub_self]
  rfl
end

/-! ### what is being made -/
/-- one address more that no value names -/
def Mu.hide (μ : Mu) (p : Addr) : Mu := ⟨μ.m, p :: μ.x⟩
section
variable {K : PySem.W.Frag} {ca : Nat → Addr} {μ μ' : Mu} {H H' : Hp} {h : Hh}
/-! what was related ahead of a new address names it not -/
mutual
theorem VR.hide {Y : Addr} (s : ∀ a u, a ≠ Y → Rd H a u → Rd H' a u) (n : ∀ a u, a ∉ μ.m ∧ a ∉ μ.x → Rd H a u → a ≠ Y) (em : μ'.m = μ.m) (ex : ∀ a, a ≠ Y → a ∉ μ.x → a ∉ μ'.x) : ∀ {d : M.D} {v : V}, VR K μ H d v → VR K μ' H' d v
  | _, _, .non => .non
  | _, _, .bl b => .bl b
  | _, _, .int i => .int i
  | _, _, .str x => .str x
  | _, _, .lst h hs => .lst ⟨⟨by rw [em]; exact h.1.1, ex _ (n _ _ h.1 h.2) h.1.2⟩, s _ _ (n _ _ h.1 h.2) h.2⟩ (VRs.hide s n em ex hs)
  | _, _, .tup h hs => .tup (h.elim (fun h => .inl ⟨⟨by rw [em]; exact h.1.1, ex _ (n _ _ h.1 h.2) h.1.2⟩, s _ _ (n _ _ h.1 h.2) h.2⟩) .inr) (VRs.hide s n em ex hs)
  | _, _, .dct h hs => .dct ⟨⟨by rw [em]; exact h.1.1, ex _ (n _ _ h.1 h.2) h.1.2⟩, s _ _ (n _ _ h.1 h.2) h.2⟩ (VDs.hide s n em ex hs)
theorem VDs.hide {Y : Addr} (s : ∀ a u, a ≠ Y → Rd H a u → Rd H' a u) (n : ∀ a u, a ∉ μ.m ∧ a ∉ μ.x → Rd H a u → a ≠ Y) (em : μ'.m = μ.m) (ex : ∀ a, a ≠ Y → a ∉ μ.x → a ∉ μ'.x) : ∀ {ds : List (M.D × M.D)} {vs : List (Key × V)}, VDs K μ H ds vs → VDs K μ' H' ds vs
  | _, _, .nil => .nil
  | _, _, .cons h hs => .cons (VR.hide s n em ex h) (VDs.hide s n em ex hs)
theorem VRs.hide {Y : Addr} (s : ∀ a u, a ≠ Y → Rd H a u → Rd H' a u) (n : ∀ a u, a ∉ μ.m ∧ a ∉ μ.x → Rd H a u → a ≠ Y) (em : μ'.m = μ.m) (ex : ∀ a, a ≠ Y → a ∉ μ.x → a ∉ μ'.x) : ∀ {ds : List M.D} {vs : List V}, VRs K μ H ds vs → VRs K μ' H' ds vs
  | _, _, .nil => .nil
  | _, _, .cons h hs => .cons (VR.hide s n em ex h) (VRs.hide s n em ex hs)
end
theorem WR.hide {D : Addr} (s : ∀ a u, a ≠ D → Rd H a u → Rd H' a u) (n : ∀ a u, a ∉ μ.m ∧ a ∉ μ.x → Rd H a u → a ≠ D) (em : μ'.m = μ.m) (ex : ∀ a, a ≠ D → a ∉ μ.x → a ∉ μ'.x) {w : W} {v : V} (r : WR K ca μ H w v) : WR K ca μ' H' w v := by
  cases r with
  | dat h => exact .dat (h.hide s n em ex)
  | ref h => exact .ref (by rw [em]; exact h)
  | exc m h => exact .exc ⟨by rw [em]; exact m.1, ex _ (n _ _ m h) m.2⟩ (s _ _ (n _ _ m h) h)
  | scr h =>
    obtain ⟨xs, e, h⟩ := h
    exact .scr ⟨xs, e, h.elim (fun z => .inl ⟨⟨by rw [em]; exact z.1.1, ex _ (n _ _ z.1 z.2) z.1.2⟩, s _ _ (n _ _ z.1 z.2) z.2⟩) .inr⟩
/-- the whole heap's relation carried over a change at D alone -/
theorem HR.hide {D : Addr} (r : HR K ca μ H h) (eH : ∀ a, a ≠ D → H' a = H a) (nD : D ∉ μ.m) (lD : D ∈ μ'.x → H' D ≠ none) (n : ∀ a u, a ∉ μ.m ∧ a ∉ μ.x → Rd H a u → a ≠ D) (em : μ'.m = μ.m) (ex : ∀ a, a ≠ D → a ∉ μ.x → a ∉ μ'.x) (ey : ∀ a, a ≠ D → a ∈ μ'.x → a ∈ μ.x) : HR K ca μ' H' h := by
  have dis' : ∀ a ∈ μ'.m, a ∉ μ'.x := fun a ha z => by
    rw [em] at ha
    exact r.dis a ha (ey a (fun e => nD (e ▸ ha)) z)
  have s : ∀ a u, a ≠ D → Rd H a u → Rd H' a u := fun a u ne q => by
    unfold Rd
    rw [eH a ne]
    exact q
  have nm : ∀ a ∈ μ.m, a ≠ D := fun a ha e => nD (e ▸ ha)
  refine ⟨by rw [em]; exact r.len, by rw [em]; exact r.nd, fun a ha => ?_, fun a ha => ?_, dis', fun m o a e1 e2 => ?_⟩
  · rw [em] at ha
    rw [eH a (nm a ha)]
    exact r.live a ha
  · by_cases e : a = D
    · subst e; exact lD ha
    · rw [eH a e]; exact r.livx a (ey a e ha)
  · rw [em] at e2
    have z := r.ob m o a e1 e2
    have ea := eH a (nm a (List.mem_of_getElem? e2))
    cases o with
    | lst l => obtain ⟨xs, y, w⟩ := z; exact ⟨xs, by rw [ea]; exact y, Paired.mapP w fun _ _ q => q.hide s n em ex⟩
    | tpl l => obtain ⟨xs, y, w⟩ := z; exact ⟨xs, by rw [ea]; exact y, Paired.mapP w fun _ _ q => q.hide s n em ex⟩
    | ins c fs => obtain ⟨dx, fv, y, w⟩ := z; exact ⟨dx, fv, by rw [ea]; exact y, Paired.mapP w fun _ _ q => ⟨q.1, q.2.hide s n em ex⟩⟩
    | dct l => obtain ⟨kvs, y, w⟩ := z; exact ⟨kvs, by rw [ea]; exact y, Paired.mapP w fun _ _ q => ⟨q.1, q.2.hide s n em ex⟩⟩
    | lck l => exact z.elim
    | gone => trivial
end

/-! ### the slots -/
structure ER (K : PySem.W.Frag) (ca : Nat → Addr) (μ : Mu) (H : Hp) (e : En) (σ : L2.St) : Prop where
  len : e.length = σ.length
  at_ : ∀ (i : Nat) (w : W), e[i]? = some (some w) → ∃ v, σ[i]? = some (some v) ∧ WR K ca μ H w v
section
variable {K : PySem.W.Frag} {ca : Nat → Addr} {μ μ' : Mu} {H H' : Hp} {e : En} {σ : L2.St}
theorem ER.mono (s : Stp μ H μ' H') (r : ER K ca μ H e σ) : ER K ca μ' H' e σ := ⟨r.len, fun i w h => let ⟨v, a, b⟩ := r.at_ i w h; ⟨v, a, b.mono s⟩⟩
theorem ER.set (r : ER K ca μ H e σ) {i : Nat} {w : W} {v : V} (h : WR K ca μ H w v) : ER K ca μ H (e.set i (some w)) (σ.set i (some v)) := by
  refine ⟨by rw [List.length_set, List.length_set]; exact r.len, fun j x q => ?_⟩
  by_cases z : i = j
  · subst z
    have hl : i < e.length := by
      have := (List.getElem?_eq_some_iff.mp q).1
      rw [List.length_set] at this
      exact this
    rw [List.getElem?_set_self hl] at q
    cases q
    exact ⟨v, List.getElem?_set_self (by rw [← r.len]; exact hl), h⟩
  · rw [List.getElem?_set_ne z] at q
    rw [List.getElem?_set_ne z]
    exact r.at_ j x q
theorem ER.unset (r : ER K ca μ H e σ) (i : Nat) : ER K ca μ H (e.set i none) (σ.set i none) := by
  refine ⟨by rw [List.length_set, List.length_set]; exact r.len, fun j x q => ?_⟩
  by_cases z : i = j
  · subst z
    have hl : i < e.length := by
      have := (List.getElem?_eq_some_iff.mp q).1
      rw [List.length_set] at this
      exact this
    rw [List.getElem?_set_self hl] at q
    cases q
  · rw [List.getElem?_set_ne z] at q
    rw [List.getElem?_set_ne z]
    exact r.at_ j x q
theorem ER.wipe (r : ER K ca μ H e σ) : ∀ vs : List Nat, ER K ca μ H (M.wipe e vs) (L2.wipe σ vs)
  | [] => r
  | v :: vs => (ER.wipe r vs).unset v
end
end M
/-! MGuard: promises of defs that run where nothing is being shown (no repr runs ahead of them). -/
namespace M
open PySem PySem.Spec PyProof.Rows L2
/-- a def's promise, wherever nothing is being shown -/
structure GOk (pg : Program) (wd : World) (K : PySem.W.Frag) (mg : Str → Option Value) (bs : Heap) (cx : CXT) (n : Nat) (fa : Addr) (fd : FuncData) (ps : List Str) (sp : Sp) : Prop where
  len : ∀ xs H Q E, sp xs H Q E → xs.length = ps.length
  run : ∀ (ar : Around) (ou : List Env) (st : Shared) (H : Hp) (ag : Args) (us : List Value) (xs : List V) (Q : VK) (E : XK), ar.guards = some [] → Room n ar → Env0 pg wd K mg bs ar ou st H →
    BindsTo st fd ag (ps.zip us) → Vals xs us → sp xs H Q E → codeAny (model pg wd) ar (.call (.ref fa) ag) (CR cx ou pg wd H st Q E) st
section
variable {cx : CXT} {pg : Program} {wd : World} {K : PySem.W.Frag} {mg : Str → Option Value} {bs : Heap} {n : Nat} {fa : Addr} {fd : FuncData} {x qual : Str} {params : Arguments} {body : List Stmt} {scope : Scope} {ps N : List Str} {sp : Sp}
/-- from the body -/
theorem gok_of {dvs : List V} {kws : List (Str × V)} (F : FunD K x qual params body scope dvs kws fa fd) (S : FnScope N ps scope) (len : ∀ xs H Q E, sp xs H Q E → xs.length = ps.length)
    (each : ∀ (cdv : Value) (ar : Around) (ou : List Env) (st : Shared) (H : Hp) (xs : List V) (Q : VK) (E : XK), ar.guards = some [] → Room n (ar.deeper (envOfC qual scope st.heap.objs.size fa cdv)) → sp xs H Q E →
      ∃ t, PSs (cxOf cx pg wd K mg bs N qual scope fa cdv ar ou st H E) body t ∧ t { nx := fun _ G => Q .non G, rt := Q } (L2.start N xs) H) : GOk pg wd K mg bs cx (n + 1) fa fd ps sp := by
  obtain ⟨oc, od, dV, kV, doc, pm, an, cdv, ct, osl, rfl, lk, hcd, _, _⟩ := F.ex
  refine ⟨len, fun ar ou st H ag us xs Q E gd ro e0 bi vr says => ?_⟩
  have ll := len _ _ _ _ says
  have inK : K.In st.heap := e0.mod.kin.keeps fun b o e => (e0.bs b o e).1
  have nl : st.heap.NoLimit := e0.mod.nolimit.keeps fun b o e => (e0.bs b o e).1
  have kinds : ∀ y ∈ ps.zip us, scope.names.lookup y.1 = some .local ∨ (scope.names.lookup y.1 = some .cell ∧ ((cellsFrom (st.heap.objs.size + 1) scope.names []).lookup y.1).isSome = true) := fun ⟨a, v⟩ hy =>
    (S.par a (List.of_mem_zip hy).1).imp id fun q => ⟨q, PySem.W.cellsFrom_some _ _ _ (.inl q)⟩
  refine codeAny_call_function ro.depth (inK _ _ lk) rfl S.co S.gen rfl (PySem.W.codeRec_of inK hcd) (bi _ _ _ _ (wpAny_newFunctionEnv_cells S.kind kinds fun env he s1 z => ?_))
  subst he
  refine ⟨nl.keeps z.toInCall.keep, codeAny_func ?_⟩
  obtain ⟨t, ht, hq⟩ := each cdv ar ou st H xs Q E gd (ro.deeper _) says
  have J : Inv (cxOf cx pg wd K mg bs N qual scope fa cdv ar ou st H E) [] (L2.start N xs) H s1 := inv_start S ro.hd e0 ll vr z
  refine wpAny_mono (ht.run [] s1 (L2.start N xs) H _ J hq) (fun fl s2 hs => ?_) fun e s2 hs => hs
  cases fl with
  | ret u =>
    obtain ⟨v, σ2, H2, J2, rv, q⟩ := hs
    exact ⟨v, H2, J2.os, J2.bare, J2.base, J2.hok, rv, q⟩
  | next =>
    obtain ⟨σ2, H2, J2, q⟩ := hs
    exact ⟨V.non, H2, J2.os, J2.bare, J2.base, J2.hok, (rfl : Value.none = Value.none), q⟩
  | brk => obtain ⟨_, _, _, q⟩ := hs; exact False.elim q
  | cont => obtain ⟨_, _, _, q⟩ := hs; exact False.elim q
end
section
variable {X : Cx} {cx : CXT} {n : Nat} {fa : Addr} {fd : FuncData} {ps : List Str} {sp : Sp} {E : L2.St → XK} {x : Str} {p pos : Pos} {e : Expr} {es : List Expr} {ta : TA}
/-- f(e, ..) by f's promise -/
theorem pe_callG (F : GOk X.prog X.w X.K X.mg X.base cx n fa fd ps sp) (gd : X.A.guards = some []) (ro : Room n X.A) (gl : Gl X x) (hm : X.mg x = some (.ref fa)) (kp : PySem.W.keepIn X.K (.ref fa) = true) (hb : Binds X.K fd ps [])
    (out : ∀ σ, PassesAt cx X σ (E σ)) (ha : PA X (e :: es) ta) (nd : (x == ("__debug__" : Str)) = false) (se : starEach (e :: es) X.env = (false, eval e X.env) :: starEach es X.env) (sn : (backTo pos (starEach es X.env)).any (·.1) = false) :
    PE X (.Call (.Name x p) (e :: es) [] pos) (tCallS sp E ta) := ⟨fun pins st σ H Q I says => by
  refine wpAny_Call_Name_kw (ld_glob I gl hm (PySem.W.callWith_K (h₀ := X.base) I.ok.mod.kin kp (thn (ha.run pos pins st σ H _ I says) fun us s1 ⟨xs, H1, I1, r, q⟩ => ⟨I1.kIn, ?_⟩) se sn) nd)
  have ll : us.length = ps.length := by rw [← r.length]; exact F.len _ _ _ _ q
  have bi := hb s1 us I1.kIn (by rw [List.append_nil]; exact ll)
  rw [List.append_nil] at bi
  refine wpAny_call (codeAny_mono (F.run X.A X.stack s1 H1 ⟨us, []⟩ us xs Q (E σ) gd ro I1.env0 bi r q) fun r2 s2 hq => ?_)
  match r2, hq with
  | .error e, hq => exact out σ pins H1 s1 e s2 I1 hq
  | .ok (.ret u), hq => exact I1.after hq⟩
end
/-- the law's call -/
theorem law_callG {pg : Program} {wd : World} {K : PySem.W.Frag} {mg mb : Str → Option Value} {cx : CXT} {n : Nat} {fa a : Addr} {fd : FuncData} {x : Str} {sp : Sp} {st : Shared} {us : List Value} {ns : List Int}
    (inK : K.In st.heap) (nsM : st.heap.Ns mainGlobals mg) (nsB : st.heap.Ns builtinsNs mb) (isB : ∀ y : Str, y ≠ "__name__" → mb y = bootBuiltins y) (nl : st.heap.NoLimit) (ng : st.gens = #[])
    (ob : st.heap.get? a = some { cls := .type "list", data := .seq us.toArray }) (are : IntsAre us ns) (sz : ns.length ≤ sizeLine) (ro : Room n callerA)
    (F : ∀ bs : Heap, K.In bs → bs.Ns mainGlobals mg → GOk pg wd K mg bs cx n fa fd [x] sp) (bi : ∀ (s : Shared) (u : Value), BindsTo s fd ⟨[u], []⟩ [(x, u)])
    (says : ∀ H : Hp, Only H → SqL K H a (ns.map V.int) → sp [.ref a] H (fun v _ => v = .bl true) fun _ _ _ => False) (no : ∀ H e s', cx [] H st (fun _ _ _ => False) e s' → False) :
    codeAny (model pg wd) callerA (.call (.ref fa) ⟨[.ref a], []⟩) (fun r s' => r = .ok (.ret (.bool true)) ∧ OldK st.heap s'.heap ∧ s'.os = st.os ∧ AllBare s'.gens) st := by
  have vr := vals_ints are
  have lv := are.length
  have go : ∀ H : Hp, Only H → SqL K H a (ns.map V.int) → HOk pg wd H st.heap → (∀ b, H b ≠ none → b = a) → (H a ≠ none → K.lookup a = none) →
      codeAny (model pg wd) callerA (.call (.ref fa) ⟨[.ref a], []⟩) (fun r s' => r = .ok (.ret (.bool true)) ∧ OldK st.heap s'.heap ∧ s'.os = st.os ∧ AllBare s'.gens) st := by
    intro H only sq hok alone unk
    have off : ∀ {b : Addr}, b ≠ a → H b = none := fun {b} ne => by
      cases q : H b with
      | none => rfl
      | some u => exact absurd (alone b (by rw [q]; simp)) ne
    have dic : ∀ {b : Addr} {o : Obj} {es : Array DictEntry} {ep : Nat}, st.heap.get? b = some o → o.data = .dict es ep → H b = none := fun {b o es ep} e d => off fun z => by
      subst z
      rw [ob] at e
      cases e
      exact nomatch (show Data.seq us.toArray _ = Data.dict es ep from d)
    have nsH : ∀ {b : Addr} {m : Str → Option Value}, st.heap.Ns b m → (hidT st.heap H).Ns b m := fun {b m} ⟨o, es, ep, e, d, r⟩ => ⟨o, es, ep, hidT_get e (dic e d), d, r⟩
    have kH : K.In (hidT st.heap H) := fun b o e => hidT_get (inK b o e) (by
      by_cases z : b = a
      · subst z
        cases q : H b with
        | none => rfl
        | some u =>
          rw [unk (by rw [q]; simp)] at e
          cases e
      · exact off z)
    have md : Mod K mg (hidT st.heap H) := ⟨kH, nsH nsM, ⟨mb, nsH nsB, isB⟩, let ⟨mc, h1, h2⟩ := nl; ⟨mc, nsH h1, h2⟩⟩
    have en : Env0 pg wd K mg (hidT st.heap H) callerA [] st H := ⟨rfl, md, fun b o e => of_hidT e, Nat.le_of_eq (hidT_size _ _), trivial, fun b z => (nomatch z), hok, .of_eq ng⟩
    refine codeAny_mono ((F _ kH (nsH nsM)).run callerA [] st H ⟨[.ref a], []⟩ [.ref a] [.ref a] _ _ rfl ro en (bi st (.ref a)) (.cons rfl .nil) (says H only sq)) fun r s2 z => ?_
    match r, z with
    | .error e, z => exact (no H e s2 z).elim
    | .ok (.ret u), z =>
      obtain ⟨v, H2, os, bare, un, hok2, rv, q⟩ := z
      obtain rfl : v = .bl true := q
      obtain rfl : u = Value.bool true := rv
      refine ⟨rfl, OldK.of_keep fun b o e => ?_, os, bare⟩
      rcases only b with q | ⟨ob2, xs, q⟩
      · exact un.keep b o e q (fun z => nomatch z) (fun z => nomatch z)
      · obtain ⟨e1, _⟩ := hok b _ q
        obtain ⟨e2, _⟩ := hok2 b _ (un.frzs b ob2 _ q)
        rw [e] at e1
        cases e1
        exact e2
  cases lk : K.lookup a with
  | some o =>
    have e := inK a o lk
    rw [ob] at e
    cases e
    exact go (fun _ => none) (fun _ => .inl rfl) (.inr ⟨_, us.toArray, _, lk, rfl, rfl, rfl, by rw [List.size_toArray, lv]; exact sz, by simpa using vr⟩) (fun b u z => nomatch z) (fun b z => absurd rfl z) fun z => absurd rfl z
  | none =>
    have at_ : ∀ {b : Addr} {u : HO}, (if b = a then some (HO.frz { cls := .type "list", data := .seq us.toArray } (.lst (ns.map V.int))) else none) = some u → b = a ∧ u = HO.frz { cls := .type "list", data := .seq us.toArray } (.lst (ns.map V.int)) := fun {b u} z => by
      split at z
      · rename_i q
        exact ⟨q, (Option.some.inj z).symm⟩
      · cases z
    refine go (fun b => if b = a then some (.frz { cls := .type "list", data := .seq us.toArray } (.lst (ns.map V.int))) else none) (fun b => ?_) (.inl (.inr ⟨{ cls := .type "list", data := .seq us.toArray }, if_pos rfl⟩)) (fun b u z => ?_) (fun b z => ?_) fun _ => lk
    · cases q : (if b = a then some (HO.frz { cls := .type "list", data := .seq us.toArray } (.lst (ns.map V.int))) else none) with
      | none => exact .inl q
      | some u => obtain ⟨_, rfl⟩ := at_ q; exact .inr ⟨_, _, q⟩
    · obtain ⟨rfl, rfl⟩ := at_ z
      exact ⟨ob, by rw [List.length_map]; exact sz, us, _, vr, ob⟩
    · cases q : (if b = a then some (HO.frz { cls := .type "list", data := .seq us.toArray } (.lst (ns.map V.int))) else none) with
      | none => exact absurd q z
      | some u => exact (at_ q).1
/-- the law's walk -/
theorem walk_ofG {l : PySem.W.OpenLaw} {m n : Nat} {pq : Program} {loose : List Str} {XP : (Str → Option Value) → Heap → Prop} {YP : World → Heap → Prop} {d : DefRec} {cx : CXT} {x : Str}
    (hm : l.most = some m) (hm2 : m ≤ sizeLine) (nd : d.params.defaults = []) (ro : Room n callerA)
    (F : ∀ (wd : World) (mg : Str → Option Value) (fa : Addr) (h : Heap), YP wd h → h.Ns mainGlobals mg → mg d.name = some (.ref fa) →
      ∃ (K : PySem.W.Frag) (fd : FuncData) (sp : Sp), K.In h ∧ (∀ (s : Shared) (u : Value), BindsTo s fd ⟨[u], []⟩ [(x, u)]) ∧
        (∀ (H : Hp) (a : Addr) (ns : List Int), ns.length ≤ m → (∀ z ∈ ns, Builtin.Int.intBits z ≤ 1048576) → Only H → SqL K H a (ns.map V.int) → sp [.ref a] H (fun v _ => v = .bl true) fun _ _ _ => False) ∧
        ∀ bs : Heap, K.In bs → bs.Ns mainGlobals mg → GOk l.prog wd K mg bs cx n fa fd [x] sp)
    (no : ∀ (H : Hp) (s : Shared) (e : Value) (s' : Shared), cx [] H s (fun _ _ _ => False) e s' → False) : PySem.W.WalkO pq loose XP YP l.row.toRowW d [] (fun f vs => PySem.call f vs) :=
  Att.attach_callB hm nd fun wd s₀ s₁ mg mb fa o pm cd doc a vs ns G Y _ _ _ gm hob are few bits ng => by
    obtain ⟨K, fd, sp, inK, bi, says, f⟩ := F wd mg fa _ Y G.T.g gm
    exact law_callG inK G.T.g G.T.b G.T.builtins G.T.nolimit ng hob are (Nat.le_trans few hm2) ro f bi (fun H only sq => says H a ns few bits only sq) fun H e s' => no H s₁ e s'
end M
/-! MOrd: the order of data as an order of rows of numbers; sorted rows. -/
namespace M
open PySem
theorem lt_pre (l r s : List Int) : l ++ r < l ++ s ↔ r < s := by
  induction l with
  | nil => rfl
  | cons a l ih =>
    rw [List.cons_append, List.cons_append, List.cons_lt_cons_iff]
    constructor
    · rintro (h | ⟨_, h⟩)
      · exact absurd h (Int.lt_irrefl a)
      · exact ih.mp h
    · exact fun h => .inr ⟨rfl, ih.mpr h⟩
theorem lt_up : ∀ (l m : List Nat) (r s : List Int), l ≠ m → (upL l ++ r < upL m ++ s ↔ l < m)
  | [], [], r, s, h => absurd rfl h
  | [], b :: m, r, s, _ => by
    show (0 :: r < ((b : Int) + 1) :: (upL m ++ s)) ↔ _
    rw [List.cons_lt_cons_iff]
    exact ⟨fun _ => List.nil_lt_cons b m, fun _ => .inl (by omega)⟩
  | a :: l, [], r, s, _ => by
    show (((a : Int) + 1) :: (upL l ++ r) < 0 :: s) ↔ _
    rw [List.cons_lt_cons_iff]
    constructor
    · rintro (h | ⟨h, _⟩) <;> omega
    · exact fun h => absurd h (List.not_lt_nil _)
  | a :: l, b :: m, r, s, h => by
    show (((a : Int) + 1) :: (upL l ++ r) < ((b : Int) + 1) :: (upL m ++ s)) ↔ _
    rw [List.cons_lt_cons_iff, List.cons_lt_cons_iff]
    by_cases e : a = b
    · subst e
      have ne : l ≠ m := fun z => h (by rw [z])
      have z := lt_up l m r s ne
      constructor
      · rintro (q | ⟨_, q⟩)
        · omega
        · exact .inr ⟨rfl, z.mp q⟩
      · rintro (q | ⟨_, q⟩)
        · omega
        · exact .inr ⟨rfl, z.mpr q⟩
    · constructor
      · rintro (q | ⟨q, _⟩)
        · exact .inl (by omega)
        · omega
      · rintro (q | ⟨q, _⟩)
        · exact .inl (by omega)
        · exact absurd q e
theorem enc_pos : ∀ (x : D), ∃ a l, enc x = a :: l ∧ 0 < a
  | .int i => ⟨1, [i], by simp only [enc], by decide⟩
  | .bool b => ⟨1, [if b then 1 else 0], by simp only [enc], by decide⟩
  | .str x => ⟨2, upL x.cps.toList, by simp only [enc], by decide⟩
  | .tuple xs => ⟨3, encs xs, by simp only [enc], by decide⟩
  | .none => ⟨4, [], by simp only [enc], by decide⟩
  | .list _ => ⟨5, [], by simp only [enc], by decide⟩
  | .dict _ => ⟨6, [], by simp only [enc], by decide⟩
mutual
theorem enc_eq : ∀ (x y : D), PyData.eqv x y = true → enc x = enc y
  | .int i, y, h => by cases y <;> simp_all [PyData.eqv, enc] <;> (try split) <;> simp_all
  | .bool b, y, h => by cases y <;> simp_all [PyData.eqv, enc] <;> (try split) <;> simp_all
  | .str x, y, h => by cases y <;> simp_all [PyData.eqv, enc]
  | .none, y, h => by cases y <;> simp_all [PyData.eqv, enc]
  | .list xs, y, h => by cases y <;> simp_all [PyData.eqv, enc]
  | .dict xs, y, h => by cases y <;> simp_all [PyData.eqv, enc]
  | .tuple xs, y, h => by
    cases y with
    | tuple ys =>
      have z := encs_eq xs ys (by simpa [PyData.eqv] using h)
      simp only [enc, z]
    | _ => simp_all [PyData.eqv]
theorem encs_eq : ∀ (xs ys : List D), PyData.eqvAll xs ys = true → encs xs = encs ys
  | [], [], _ => rfl
  | [], _ :: _, h => by simp [PyData.eqvAll] at h
  | _ :: _, [], h => by simp [PyData.eqvAll] at h
  | x :: xs, y :: ys, h => by
    have h : PyData.eqv x y = true ∧ PyData.eqvAll xs ys = true := by simpa [PyData.eqvAll] using h
    simp only [encs, enc_eq x y h.1, encs_eq xs ys h.2]
end
mutual
theorem enc_lt : ∀ (x y : D), cmpD x y = true → PyData.eqv x y = false → ∀ r s : List Int, (enc x ++ r < enc y ++ s ↔ ltD x y = true)
  | .int i, y, c, ne, r, s => by
    cases y with
    | int j =>
      have ne : i ≠ j := by simpa [PyData.eqv] using ne
      show (1 :: i :: r < 1 :: j :: s) ↔ decide (i < j) = true
      rw [List.cons_lt_cons_iff, List.cons_lt_cons_iff, decide_eq_true_eq]
      constructor
      · rintro (h | ⟨_, h | ⟨h, _⟩⟩)
        · omega
        · exact h
        · exact absurd h ne
      · exact fun h => .inr ⟨rfl, .inl h⟩
    | _ => cases c
  | .str x, y, c, ne, r, s => by
    cases y with
    | str y =>
      have ne : x.cps.toList ≠ y.cps.toList := fun e => by
        have : x = y := by
          cases x; cases y
          simpa using e
        subst this
        simp [PyData.eqv] at ne
      show (2 :: (upL x.cps.toList ++ r) < 2 :: (upL y.cps.toList ++ s)) ↔ decide (x.cps.toList < y.cps.toList) = true
      rw [List.cons_lt_cons_iff, decide_eq_true_eq, lt_up _ _ r s ne]
      constructor
      · rintro (h | ⟨_, h⟩)
        · omega
        · exact h
      · exact fun h => .inr ⟨rfl, h⟩
    | _ => cases c
  | .tuple xs, y, c, ne, r, s => by
    cases y with
    | tuple ys =>
      have z := encs_lt xs ys c (by simpa [PyData.eqv] using ne) r s
      show (3 :: (encs xs ++ r) < 3 :: (encs ys ++ s)) ↔ ltDs xs ys = true
      rw [List.cons_lt_cons_iff, ← z]
      constructor
      · rintro (h | ⟨_, h⟩)
        · omega
        · exact h
      · exact fun h => .inr ⟨rfl, h⟩
    | _ => cases c
  | .none, y, c, _, _, _ => nomatch c
  | .bool _, y, c, _, _, _ => nomatch c
  | .list _, y, c, _, _, _ => nomatch c
  | .dict _, y, c, _, _, _ => nomatch c
theorem encs_lt : ∀ (xs ys : List D), cmpDs xs ys = true → PyData.eqvAll xs ys = false → ∀ r s : List Int, (encs xs ++ r < encs ys ++ s ↔ ltDs xs ys = true)
  | [], [], _, ne, _, _ => by simp [PyData.eqvAll] at ne
  | [], y :: ys, _, _, r, s => by
    obtain ⟨a, l, e, p⟩ := enc_pos y
    show (0 :: r < (enc y ++ encs ys) ++ s) ↔ true = true
    rw [e]
    simp only [List.cons_append, List.cons_lt_cons_iff]
    refine ⟨fun _ => ?_, fun _ => .inl p⟩
    first | rfl | trivial
  | x :: xs, [], _, _, r, s => by
    obtain ⟨a, l, e, p⟩ := enc_pos x
    show ((enc x ++ encs xs) ++ r < 0 :: s) ↔ false = true
    rw [e]
    simp only [List.cons_append, List.cons_lt_cons_iff]
    constructor
    · rintro (h | ⟨h, _⟩) <;> omega
    · exact fun h => by cases h
  | x :: xs, y :: ys, c, ne, r, s => by
    have c : (if PyData.eqv x y = true then cmpDs xs ys else cmpD x y) = true := c
    show ((enc x ++ encs xs) ++ r < (enc y ++ encs ys) ++ s) ↔ (if PyData.eqv x y = true then ltDs xs ys else ltD x y) = true
    rw [List.append_assoc, List.append_assoc]
    cases e : PyData.eqv x y with
    | true =>
      rw [e, if_pos rfl] at c
      rw [if_pos rfl, enc_eq x y e, lt_pre]
      exact encs_lt xs ys c (by simpa [PyData.eqvAll, e] using ne) r s
    | false =>
      rw [e, if_neg Bool.false_ne_true] at c
      rw [if_neg Bool.false_ne_true]
      exact enc_lt x y c e _ _
end
mutual
theorem lt_irr : ∀ (x y : D), PyData.eqv x y = true → ltD x y = false
  | .int i, y, h => by cases y <;> simp_all [PyData.eqv, ltD]
  | .str x, y, h => by
    cases y with
    | str y =>
      have : x = y := by simpa [PyData.eqv] using h
      subst this
      show decide (x.cps.toList < x.cps.toList) = false
      exact decide_eq_false (List.lt_irrefl _)
    | _ => rfl
  | .tuple xs, y, h => by
    cases y with
    | tuple ys => exact lts_irr xs ys (by simpa [PyData.eqv] using h)
    | _ => rfl
  | .none, y, _ => by cases y <;> rfl
  | .bool _, y, _ => by cases y <;> rfl
  | .list _, y, _ => by cases y <;> rfl
  | .dict _, y, _ => by cases y <;> rfl
theorem lts_irr : ∀ (xs ys : List D), PyData.eqvAll xs ys = true → ltDs xs ys = false
  | [], [], _ => rfl
  | [], _ :: _, h => by simp [PyData.eqvAll] at h
  | _ :: _, [], h => by simp [PyData.eqvAll] at h
  | x :: xs, y :: ys, h => by
    have h : PyData.eqv x y = true ∧ PyData.eqvAll xs ys = true := by simpa [PyData.eqvAll] using h
    show (if PyData.eqv x y = true then ltDs xs ys else ltD x y) = false
    rw [if_pos h.1]
    exact lts_irr xs ys h.2
end
theorem ltE_eq {x y : D} (c : cmpD x y = true) : ltD x y = ltE x y := by
  unfold ltE
  cases e : PyData.eqv x y with
  | true =>
    rw [lt_irr x y e, enc_eq x y e]
    exact (decide_eq_false (List.lt_irrefl _)).symm
  | false =>
    have z := enc_lt x y c e [] []
    rw [List.append_nil, List.append_nil] at z
    rw [Bool.eq_iff_iff, decide_eq_true_eq]
    exact z.symm
theorem ltE_asym {x y : D} (h : ltE x y = true) : ltE y x = false := decide_eq_false (List.lt_asymm (of_decide_eq_true h))
theorem ltE_tr {x y z : D} (h1 : ltE x y = false) (h2 : ltE y z = false) : ltE x z = false := by
  refine decide_eq_false fun h => ?_
  have a := of_decide_eq_false h1
  have b := of_decide_eq_false h2
  exact List.le_trans (List.not_lt.mp b) (List.not_lt.mp a) h
theorem insD_perm (x : D) : ∀ l : List D, (insD x l).Perm (x :: l)
  | [] => List.Perm.refl _
  | y :: l => by
    unfold insD
    split
    · exact List.Perm.refl _
    · exact ((insD_perm x l).cons y).trans (List.Perm.swap x y l)
theorem sortD_perm (l : List D) : (sortD l).Perm l := by
  have key : ∀ (l acc : List D), (l.foldl (fun acc x => insD x acc) acc).Perm (acc ++ l) := by
    intro l
    induction l with
    | nil => intro acc; simp
    | cons x l ih =>
      intro acc
      refine (ih _).trans (((insD_perm x acc).append_right l).trans ?_)
      rw [List.cons_append]
      exact List.perm_middle.symm
  simpa [sortD] using key l []
/-- no thing is less than one ahead of it -/
abbrev Rise (l : List D) : Prop := l.Pairwise fun x y => ltE y x = false
theorem insD_rise (x : D) : ∀ {l : List D}, Rise l → Rise (insD x l)
  | [], _ => List.pairwise_singleton _ _
  | y :: l, h => by
    obtain ⟨h1, h2⟩ := List.pairwise_cons.mp h
    unfold insD
    split
    · rename_i c
      refine List.pairwise_cons.mpr ⟨fun z hz => ?_, h⟩
      rcases List.mem_cons.mp hz with e | hz
      · rw [e]; exact ltE_asym c
      · exact ltE_tr (h1 z hz) (ltE_asym c)
    · rename_i c
      refine List.pairwise_cons.mpr ⟨fun z hz => ?_, insD_rise x h2⟩
      rcases List.mem_cons.mp ((insD_perm x l).mem_iff.mp hz) with e | hz
      · rw [e]; simpa using c
      · exact h1 z hz
theorem sortD_rise (l : List D) : Rise (sortD l) := by
  have key : ∀ (l acc : List D), Rise acc → Rise (l.foldl (fun acc x => insD x acc) acc) := by
    intro l
    induction l with
    | nil => intro acc h; exact h
    | cons x l ih => intro acc h; exact ih _ (insD_rise x h)
  exact key l [] List.Pairwise.nil
end M
/-! MTup: < of tuples of data, by the first place at which they differ. -/
namespace M
open PySem PySem.Spec PyProof.Rows L2 _root_.Ob
open PySem.SeqAt PySem.MeetsSeq PySem.MeetsSeq2 PySem.MeetsSeq3
open PySem.AutoSeq1 (wpAny_loadPart')
/-- < of two tuples: only the first unlike items need an order -/
theorem tup_meets (p q : Addr) (xs ys : Array Value) (nx ny : Nat) (dx dy : Option Addr) (lx ly : Array (Option Value)) (e r : Nat → Bool) :
    Meets (Builtin.«tuple.__lt__» ⟨[.ref p, .ref q], []⟩)
      (fun ar R st => st.heap.get? p = some { cls := .type "tuple", dict := dx, data := .seq xs nx, slots := lx } ∧ st.heap.get? q = some { cls := .type "tuple", dict := dy, data := .seq ys ny, slots := ly } ∧
        (∀ j (a : j < xs.size) (b : j < ys.size), (∀ i, i < j → e i = true) → EqAt ar.in1 st xs[j] ys[j] (e j)) ∧
        (∀ j (a : j < xs.size) (b : j < ys.size), (∀ i, i < j → e i = true) → e j = false → RcOp .Lt ar.in1 st xs[j] ys[j] (r j)) ∧
        R (.ok (.ret (.bool (lexAt e r (decide (xs.size < ys.size)) 0 (min xs.size ys.size))))) st) :=
  .of_wp fun pg wd ar R st hyp => by
    obtain ⟨hp, gs, dr, tk, osq⟩ := st
    obtain ⟨ep, eq_, he, hr, goal⟩ := hyp
    have subt := AutoSeq1.sub_tuple_tuple
    have zl : (xs.toList.zip ys.toList).length = min xs.size ys.size := by simp
    wp_walk using wpAny_loadPart' ep, wpAny_loadPart' eq_, wpAny_forIn_list _ (fun left acc s1 => acc.1 = none ∧ s1 = ⟨hp, gs, dr, tk, osq⟩ ∧ ∃ i, left = (xs.toList.zip ys.toList).drop i ∧ (∀ k, k < i → e k = true) ∧
      R (.ok (.ret (.bool (lexAt e r (decide (xs.size < ys.size)) i (min xs.size ys.size - i))))) ⟨hp, gs, dr, tk, osq⟩) _
    case h => exact ⟨rfl, rfl, 0, rfl, fun k z => absurd z (Nat.not_lt_zero k), by simpa using goal⟩
    case turn =>
      rintro ⟨u, v⟩ left acc s1 ⟨accN, rfl, i, el, pre, now⟩
      have lt : i < (xs.toList.zip ys.toList).length := by
        refine Nat.lt_of_not_le fun z => ?_
        rw [List.drop_of_length_le z] at el
        cases el
      have both : i < xs.size ∧ i < ys.size := by
        rw [zl] at lt
        omega
      rw [List.drop_eq_getElem_cons lt] at el
      injection el with e1 e2
      obtain rfl : u = xs[i] := by simpa using congrArg Prod.fst e1
      obtain rfl : v = ys[i] := by simpa using congrArg Prod.snd e1
      rw [show min xs.size ys.size - i = (min xs.size ys.size - (i + 1)) + 1 by rw [zl] at lt; omega, lexAt_succ] at now
      refine wpAny_bind (he i both.1 both.2 pre pg wd _ _ ?_)
      cases ei : e i with
      | true =>
        rw [ei, if_pos rfl] at now
        wp_walk
        refine ⟨rfl, rfl, i + 1, e2, fun k z => ?_, now⟩
        rcases Nat.lt_succ_iff_lt_or_eq.mp z with z | z
        · exact pre k z
        · rw [z]; exact ei
      | false =>
        rw [ei, if_neg Bool.false_ne_true] at now
        have ord := hr i both.1 both.2 pre ei pg wd
        wp_walk using ord
        exact ⟨_, rfl, by simpa using now⟩
    case fin =>
      rintro ⟨acc1, acc2⟩ s1 ⟨accN, rfl, i, el, pre, now⟩
      simp only at accN
      subst accN
      have ge : min xs.size ys.size ≤ i := by
        refine Nat.le_of_not_lt fun z => ?_
        rw [← zl] at z
        rw [List.drop_eq_getElem_cons z] at el
        cases el
      rw [Nat.sub_eq_zero_of_le ge, lexAt_zero] at now
      wp_walk
      exact ⟨_, rfl, by simpa [Builtin.Tuple.tupleCompareSizes] using now⟩
theorem tups_lt {ar : Around} {st : Shared} {p q : Addr} {xs ys : Array Value} {e r : Nat → Bool} (hx : st.heap.IsTuple p xs) (hy : st.heap.IsTuple q ys) (room : ar.units < cLine)
    (he : ∀ j (a : j < xs.size) (b : j < ys.size), (∀ i, i < j → e i = true) → EqAt ar.in1 st xs[j] ys[j] (e j))
    (hr : ∀ j (a : j < xs.size) (b : j < ys.size), (∀ i, i < j → e i = true) → e j = false → RcOp .Lt ar.in1 st xs[j] ys[j] (r j)) :
    RcOp .Lt ar st (.ref p) (.ref q) (lexAt e r (decide (xs.size < ys.size)) 0 (min xs.size ys.size)) := fun pg wd Er Q fin => by
  obtain ⟨⟨c1, d1, da1, s1⟩, o1, k1, n1, t1⟩ := id hx
  obtain ⟨⟨c2, d2, da2, s2⟩, o2, k2, n2, t2⟩ := id hy
  simp only at k1 t1 k2 t2
  subst k1 t1 k2 t2
  exact richCompare_meets_room (op := .Lt) ⟨_, o1, rfl⟩ ⟨_, o2, rfl⟩ F.slot_tuple_lt F.entry_tuple_lt (F.args_tuple_lt_2 _ _) (tup_meets p q xs ys n1 n2 d1 d2 s1 s2 e r) ⟨o1, o2, he, hr, ⟨(fun z => nomatch z), fin⟩⟩ room
/-! ### < of data -/
open PySem.SeqAt (pairEq eqAt_readsAll)
def pairLt (xs ys : List D) (j : Nat) : Bool := ltD (xs.getD j .none) (ys.getD j .none)
theorem lex_shift (e r : Nat → Bool) (z : Bool) : ∀ (k i : Nat), lexAt (fun j => e (j + 1)) (fun j => r (j + 1)) z i k = lexAt e r z (i + 1) k
  | 0, i => rfl
  | k + 1, i => by rw [lexAt_succ, lexAt_succ, lex_shift e r z k (i + 1)]
theorem lex_data : ∀ (xs ys : List D), lexAt (pairEq xs ys) (pairLt xs ys) (decide (xs.length < ys.length)) 0 (min xs.length ys.length) = ltDs xs ys
  | [], [] => rfl
  | [], y :: ys => by simp [lexAt, ltDs]
  | x :: xs, [] => by simp [lexAt, ltDs]
  | x :: xs, y :: ys => by
    have a := lex_data xs ys
    rw [show min (x :: xs).length (y :: ys).length = min xs.length ys.length + 1 by simp only [List.length_cons]; omega, lexAt_succ]
    rw [show decide ((x :: xs).length < (y :: ys).length) = decide (xs.length < ys.length) by simp]
    rw [show pairEq (x :: xs) (y :: ys) 0 = PyData.eqv x y from rfl, show pairLt (x :: xs) (y :: ys) 0 = ltD x y from rfl]
    rw [← lex_shift (pairEq (x :: xs) (y :: ys)) (pairLt (x :: xs) (y :: ys)) _ _ 0]
    rw [show (fun j => pairEq (x :: xs) (y :: ys) (j + 1)) = pairEq xs ys from rfl, show (fun j => pairLt (x :: xs) (y :: ys) (j + 1)) = pairLt xs ys from rfl, a]
    show _ = (if PyData.eqv x y = true then ltDs xs ys else ltD x y)
    rfl
theorem cmp_at : ∀ {xs ys : List D}, cmpDs xs ys = true → ∀ j, j < xs.length → j < ys.length → (∀ i, i < j → pairEq xs ys i = true) → pairEq xs ys j = false → cmpD (xs.getD j .none) (ys.getD j .none) = true
  | [], _, _, j, h, _, _, _ => absurd h (Nat.not_lt_zero _)
  | _ :: _, [], _, j, _, h, _, _ => absurd h (Nat.not_lt_zero _)
  | x :: xs, y :: ys, c, j, h1, h2, pre, no => by
    have c : (if PyData.eqv x y = true then cmpDs xs ys else cmpD x y) = true := c
    cases j with
    | zero =>
      have no : PyData.eqv x y = false := no
      rw [no, if_neg Bool.false_ne_true] at c
      exact c
    | succ j =>
      have e : PyData.eqv x y = true := pre 0 (Nat.succ_pos j)
      rw [if_pos e] at c
      exact cmp_at c j (Nat.lt_of_succ_lt_succ h1) (Nat.lt_of_succ_lt_succ h2) (fun i z => pre (i + 1) (Nat.succ_lt_succ z)) no
mutual
theorem lt_reads : ∀ (da db : D) (ar : Around) (st : Shared) (a b : Value) (as bs : List Addr), Reads st.heap a da as → Reads st.heap b db bs → da.canLay0 = true → db.canLay0 = true →
    ar.units + min da.depth db.depth < cLine → cmpD da db = true → RcOp .Lt ar st a b (ltD da db)
  | .int i, db, ar, st, a, b, as, bs, ra, rb, _, _, _, c => by
    cases ra
    cases db <;> first | (cases c; done) | skip
    cases rb
    exact RcOp.lt_int _ _ _ _
  | .str x, db, ar, st, a, b, as, bs, ra, rb, _, _, _, c => by
    cases ra
    cases db <;> first | (cases c; done) | skip
    cases rb
    exact fun pg wd Er Q fin => PyProof.Rows.lt_str fin
  | .tuple xs, db, ar, st, a, b, as, bs, ra, rb, la, lb, room, c => by
    cases db with
    | tuple ys =>
      cases ra with
      | @tuple p o vs n _ _ g1 g2 g3 g4 =>
        cases rb with
        | @tuple q o' ws n' _ _ k1 k2 k3 k4 =>
          have c : cmpDs xs ys = true := c
          have la : PyData.canLayAll0 xs = true := by simpa [PyData.canLay0] using la
          have lb : PyData.canLayAll0 ys = true := by simpa [PyData.canLay0] using lb
          have n1 : vs.size = xs.length := by simpa using PySem.SeqAt.ReadsAll.length _ _ _ g4
          have n2 : ws.size = ys.length := by simpa using PySem.SeqAt.ReadsAll.length _ _ _ k4
          have deep : ar.units + min (PyData.depthAll xs + 1) (PyData.depthAll ys + 1) < cLine := by simpa [PyData.depth] using room
          have in1 := PySem.SeqAt.room_in deep
          have eqs := eqAt_readsAll xs ys ar.in1 st vs.toList ws.toList _ _ g4 k4 la lb in1
          have lts := lt_readsAll xs ys ar.in1 st vs.toList ws.toList _ _ g4 k4 la lb in1
          show RcOp .Lt ar st (.ref p) (.ref q) (ltDs xs ys)
          rw [← lex_data xs ys, ← n1, ← n2]
          refine tups_lt ⟨_, g1, g2, _, g3⟩ ⟨_, k1, k2, _, k3⟩ (PySem.SeqAt.room_here deep) (fun j j1 j2 _ => ?_) fun j j1 j2 pre no => ?_
          · have z := eqs j (by simpa using j1) (by simpa using j2)
            simpa using z
          · have z := lts j (by simpa using j1) (by simpa using j2) (cmp_at c j (by omega) (by omega) pre no)
            simpa using z
    | _ => cases c
  | .none, _, _, _, _, _, _, _, _, _, _, _, _, c => nomatch c
  | .bool _, _, _, _, _, _, _, _, _, _, _, _, _, c => nomatch c
  | .list _, _, _, _, _, _, _, _, _, _, _, _, _, c => nomatch c
  | .dict _, _, _, _, _, _, _, _, _, _, _, _, _, c => nomatch c
theorem lt_readsAll : ∀ (xs ys : List D) (ar : Around) (st : Shared) (vs ws : List Value) (as bs : List Addr), ReadsAll st.heap vs xs as → ReadsAll st.heap ws ys bs → PyData.canLayAll0 xs = true → PyData.canLayAll0 ys = true →
    ar.units + min (PyData.depthAll xs) (PyData.depthAll ys) < cLine → ∀ j (h1 : j < vs.length) (h2 : j < ws.length), cmpD (xs.getD j .none) (ys.getD j .none) = true → RcOp .Lt ar st vs[j] ws[j] (pairLt xs ys j)
  | [], _, _, _, _, _, _, _, ra, _, _, _, _, j, h1, _, _ => by cases ra; exact absurd h1 (Nat.not_lt_zero _)
  | _ :: _, [], _, _, _, _, _, _, _, rb, _, _, _, j, _, h2, _ => by cases rb; exact absurd h2 (Nat.not_lt_zero _)
  | x :: xs, y :: ys, ar, st, _, _, _, _, ra, rb, la, lb, room, j, h1, h2, c => by
    have la : x.canLay0 = true ∧ PyData.canLayAll0 xs = true := by simpa [PyData.canLayAll0] using la
    have lb : y.canLay0 = true ∧ PyData.canLayAll0 ys = true := by simpa [PyData.canLayAll0] using lb
    cases ra with
    | cons r1 r2 =>
      cases rb with
      | cons s1 s2 =>
        match j, h1, h2, c with
        | 0, _, _, c => exact lt_reads x y ar st _ _ _ _ r1 s1 la.1 lb.1 (PySem.SeqAt.room_head room) c
        | j + 1, h1, h2, c => exact lt_readsAll xs ys ar st _ _ _ _ r2 s2 la.2 lb.2 (PySem.SeqAt.room_tail room) j (Nat.lt_of_succ_lt_succ h1) (Nat.lt_of_succ_lt_succ h2) c
end
/-- < of data, as a rule -/
def rLtDat (K : PySem.W.Frag) : V → V → Hp → VK → Prop := fun x y H Q => ∃ d e, Dp K H x d ∧ Dp K H y e ∧ shp d = true ∧ shp e = true ∧ cmpD d e = true ∧ Q (.bl (ltD d e)) H
theorem op_ltDat {X : Cx} (hu : X.A.units + 65 < cLine) : OpR X (compareOp .Lt) (rLtDat X.K) := by
  intro pins s σ H x y v u Q I rx ry h
  obtain ⟨d, e, hd, he, sd, se, c, q⟩ := h
  obtain ⟨as, r1⟩ := Dp.reads I d x v hd rx
  obtain ⟨bs, r2⟩ := Dp.reads I e y u he ry
  have deep := PySem.SeqAt.depth_of_shaped sd
  exact lt_reads d e X.A s v u as bs r1 r2 (PySem.SeqAt.canLay_of_shaped sd) (PySem.SeqAt.canLay_of_shaped se) (by have := Nat.min_le_left d.depth e.depth; omega) c X.prog X.w _ _ ⟨.bl _, H, I, rfl, q⟩
end M
/-! MSet: sorted(set(texts)) -/
namespace M
open PySem PySem.Spec PyProof.Rows L2
/-! ### a set of texts -/
def txOf (e : Int × Value) : Str := match e.2 with
  | .str x _ => x
  | _ => Str.empty
def IsTx (wd : World) (e : Int × Value) : Prop := ∃ x tk, e.2 = Value.str x tk ∧ e.1 = hashStr wd x
/-- the texts T, each once, are the members of the set at ad; it may be walked -/
def TxS (wd : World) (hp : Heap) (ad : Addr) (T : List Str) : Prop :=
  ∃ ob es ep tb, hp.get? ad = some ob ∧ ob.ExactSet ∧ ob.data = .set es ep tb ∧ (∀ e ∈ es.toList, IsTx wd e) ∧ (es.toList.map txOf).Perm T ∧ T.Nodup ∧
    es.size < scanBound ∧ tb.fits es.size = true ∧ Ris tb.place.toList ∧ (wd.params.followText "set-order" = true ∨ tb.led = true)
section
variable {pg : Program} {wd : World} {hp hp' : Heap} {ad : Addr} {T : List Str}
theorem TxS.at (R : TxS wd hp ad T) (k : ∀ o, hp.get? ad = some o → hp'.get? ad = some o) : TxS wd hp' ad T := by
  obtain ⟨ob, es, ep, tb, e, rest⟩ := R
  exact ⟨ob, es, ep, tb, k ob e, rest⟩
theorem tx_elems {l : List (Int × Value)} (al : ∀ e ∈ l, IsTx wd e) : ElemsOf (strKind pg wd) l := fun e m => by
  obtain ⟨x, tk, q1, q2⟩ := al e m
  refine ⟨⟨x, ?_, q2⟩, ?_⟩
  · rw [q1]
    exact strKind_is pg wd x tk
  · rw [q1]
    rfl
theorem tx_is {e : Int × Value} (ok : IsTx wd e) (x : Str) : (strKind pg wd).is x e.2 = true ↔ txOf e = x := by
  obtain ⟨y, tk, q, _⟩ := ok
  unfold txOf
  rw [q]
  constructor
  · intro z
    obtain ⟨u, hu⟩ := Value.isStrOf_shape (show Value.isStrOf x (Value.str y tk) = true from z)
    injection hu
  · intro z
    rw [← z]
    exact strKind_is pg wd y tk
theorem tx_mem {l : List (Int × Value)} (al : ∀ e ∈ l, IsTx wd e) (x : Str) : x ∈ l.map txOf ↔ ∃ e ∈ l, (strKind pg wd).is x e.2 = true := by
  constructor
  · intro z
    obtain ⟨e, m, q⟩ := List.mem_map.mp z
    exact ⟨e, m, (tx_is (al e m) x).mpr q⟩
  · rintro ⟨e, m, q⟩
    exact List.mem_map.mpr ⟨e, m, (tx_is (al e m) x).mp q⟩
end
section
variable {pg : Program} {wd : World} {ar : Around} {Er : Value → Shared → Prop} {st : Shared} {ad : Addr} {T : List Str}
/-- the elements are laid anew: behind a member more -/
theorem tx_tail {gv : Bool → Sem Unit} (still : ∀ (b : Bool) (s1 : Shared) (Q1 : Unit → Shared → Prop), Q1 () s1 → wpAny (model pg wd) ar (gv b) Q1 Er s1)
    {ob : Obj} {es : Array (Int × Value)} {ep : Nat} {tb : SetTable} (e0 : st.heap.get? ad = some ob) (ex : ob.ExactSet) (dt : ob.data = .set es ep tb)
    {fs : Array (Int × Value)} {tc : SetTable} {T' : List Str} (al : ∀ e ∈ fs.toList, IsTx wd e) (pm : (fs.toList.map txOf).Perm T') (nd : T'.Nodup)
    (bd : fs.size < scanBound) (ft : tc.fits fs.size = true) (rs : Ris tc.place.toList) (ld : wd.params.followText "set-order" = true ∨ tc.led = true) {dm : Bool} {R : Option Bool → Shared → Prop}
    (fin : ∀ h2, Heap.SameBut ad st.heap h2 → TxS wd h2 ad T' → R (some true) { st with heap := h2 }) :
    wpAny (model pg wd) ar (do
        storeSet ad fs tc
        if (!dm && tc.tooFull) = true then do
            gv (relayAll tc fs (SetTable.grown fs.size)).2.2
            storeSet ad (relayAll tc fs (SetTable.grown fs.size)).1 (relayAll tc fs (SetTable.grown fs.size)).2.1
            pure (some true)
          else pure (some true)) R Er st := by
  have a1 := store_at (es' := fs) (t' := tc) e0 dt
  have b1 := Heap.SameBut.update st.heap ad (Obj.putSet fs tc)
  refine wpAny_bind (wpAny_storeSet_of e0 dt ?_ (fits_of_scanBound bd))
  split
  · have p1 := relayAll_perm tc fs (SetTable.grown fs.size)
    have p2 := relayAll_fits tc fs (SetTable.grown fs.size)
    have p3 := relayAll_ris tc fs (SetTable.grown fs.size)
    have p4 := relayAll_led tc fs (SetTable.grown fs.size)
    generalize relayAll tc fs (SetTable.grown fs.size) = all at p1 p2 p3 p4 ⊢
    obtain ⟨gs, td, gave⟩ := all
    simp only at p1 p2 p3 p4 ⊢
    have sz : gs.size = fs.size := by
      have := p1.length_eq
      rwa [Array.length_toList, Array.length_toList] at this
    have bd2 : gs.size < scanBound := sz ▸ bd
    refine wpAny_bind (still _ _ _ (wpAny_bind (wpAny_storeSet_of a1 rfl ?_ (fits_of_scanBound bd2))))
    have a2 := store_at (es' := gs) (t' := td) a1 rfl
    refine wpAny_pure (fin _ (b1.trans (Heap.SameBut.update _ ad _)) ⟨_, gs, _, td, a2, ex, rfl, ?_, ?_, nd, bd2, p2, p3, ?_⟩)
    · exact fun e m => al e (p1.mem_iff.mp m)
    · exact (p1.map txOf).trans pm
    · exact ld.imp (fun z => z) fun z => p4.trans z
  · exact wpAny_pure (fin _ b1 ⟨_, fs, _, tc, a1, ex, rfl, al, pm, nd, bd, ft, rs, ld⟩)
theorem tx_add {x : Str} {tk : Tok} {Q : Bool → Shared → Prop} (R : TxS wd st.heap ad T) (room : T.length + 1 < scanBound)
    (done : ∀ b h2, Heap.SameBut ad st.heap h2 → TxS wd h2 ad (putT T x) → Q b { st with heap := h2 }) :
    wpAny (model pg wd) ar (setAddHashed ad (.str x tk) ((strKind pg wd).hash x)) Q Er st := by
  obtain ⟨ob, es, ep, tb, e0, ex, dt, al, pm, nd, bd, ft, rs, ld⟩ := R
  have ik : (strKind pg wd).is x (.str x tk) = true := strKind_is pg wd x tk
  have sc : (Value.str x tk).scannable = true := rfl
  have els : ElemsOf (strKind pg wd) es.toList := tx_elems al
  have len : es.size = T.length := by
    have := pm.length_eq
    rwa [List.length_map, Array.length_toList] at this
  have memT : x ∈ T ↔ ∃ e ∈ es.toList, (strKind pg wd).is x e.2 = true := pm.mem_iff.symm.trans (tx_mem al x)
  unfold setAddHashed setAddHashedIn
  refine wpAny_holding (wpAny_bind (wpAny_setState_of e0 dt ft ?_))
  simp only
  rw [byScan_of sc bd els]
  simp only [↓reduceIte]
  unfold setAddByScan
  refine wpAny_bind (wpAny_bind (wpAny_rule (wpAny_bind (wpAny_setScan_of ik e0 dt ft els ?_))))
  cases found : List.findIdx? (fun e => (strKind pg wd).is x e.2) es.toList with
  | some j =>
    simp only
    obtain ⟨lj, pj, _⟩ := List.findIdx?_eq_some_iff_getElem.mp found
    have inT : x ∈ T := memT.mpr ⟨es.toList[j], List.getElem_mem lj, pj⟩
    refine wpAny_pure (wpAny_pure (done _ st.heap (Heap.SameBut.refl ad st.heap) ?_))
    unfold putT
    rw [if_pos inT]
    exact ⟨ob, es, ep, tb, e0, ex, dt, al, pm, nd, bd, ft, rs, ld⟩
  | none =>
    simp only
    have outT : x ∉ T := fun z => by
      obtain ⟨e, m, q⟩ := memT.mp z
      have c := List.findIdx?_eq_none_iff.mp found e m
      rw [q] at c
      cases c
    have still : ∀ (b : Bool) {s1 : Shared} {Q1 : Unit → Shared → Prop}, Q1 () s1 → wpAny (model pg wd) ar (match b with | true => rule "set.scan.the-table-gave-way" | false => pure ()) Q1 Er s1 := by
      intro b s1 Q1 q
      cases b
      · exact wpAny_pure q
      · exact wpAny_rule q
    have p1 := layNew_perm tb es ((strKind pg wd).hash x) (.str x tk)
    have p2 := layNew_fits tb es ((strKind pg wd).hash x) (.str x tk)
    have p3 := layNew_ris tb es ((strKind pg wd).hash x) (.str x tk) rs
    have p4 := layNew_led tb es ((strKind pg wd).hash x) (.str x tk)
    generalize layNew tb es ((strKind pg wd).hash x) (.str x tk) = all at p1 p2 p3 p4 ⊢
    obtain ⟨fs, tc, dm, gave⟩ := all
    simp only at p1 p2 p3 p4 ⊢
    rw [Array.toList_push] at p1
    have al2 : ∀ e ∈ fs.toList, IsTx wd e := fun e m => by
      rcases List.mem_append.mp (p1.mem_iff.mp m) with z | z
      · exact al e z
      · rw [List.mem_singleton.mp z]
        exact ⟨x, tk, rfl, rfl⟩
    have pm2 : (fs.toList.map txOf).Perm (T ++ [x]) := by
      refine (p1.map txOf).trans ?_
      rw [List.map_append]
      exact pm.append_right _
    have nd2 : (T ++ [x]).Nodup := by
      rw [List.nodup_append]
      refine ⟨nd, by simp, fun a ha b hb => ?_⟩
      rw [List.mem_singleton.mp hb]
      exact fun z => outT (z ▸ ha)
    have sz : fs.size = T.length + 1 := by
      have := pm2.length_eq
      rwa [List.length_map, Array.length_toList, List.length_append, List.length_singleton] at this
    have bd2 : fs.size < scanBound := by omega
    have ld2 : wd.params.followText "set-order" = true ∨ tc.led = true := ld.imp (fun z => z) fun z => p4.trans z
    have fin : ∀ h2, Heap.SameBut ad st.heap h2 → TxS wd h2 ad (T ++ [x]) → Q true { st with heap := h2 } := fun h2 sb r => done true h2 sb (by unfold putT; rw [if_neg outT]; exact r)
    refine wpAny_bind (still _ ?_)
    split
    · refine wpAny_bind ?_
      rw [hashByValue_scannable 8 sc]
      refine wpAny_pure (tx_tail (fun b s1 Q1 q => ?_) e0 ex dt al2 pm2 nd2 bd2 ?_ ?_ ?_ fun h2 sb r => ?_)
      · cases b
        · exact wpAny_pure q
        · exact wpAny_rule q
      · first | (split <;> first | exact p2 | exact SetTable.fits_plain_off p2) | exact p2
      · first | (split <;> exact p3) | exact p3
      · first | (split <;> exact ld2) | exact ld2
      · simp only
        exact wpAny_pure (fin h2 sb r)
    · refine wpAny_bind (wpAny_pure ?_)
      simp only [↓reduceIte]
      refine tx_tail (fun b s1 Q1 q => ?_) e0 ex dt al2 pm2 nd2 bd2 p2 p3 ld2 fun h2 sb r => ?_
      · cases b
        · exact wpAny_pure q
        · exact wpAny_rule q
      · simp only
        exact wpAny_pure (fin h2 sb r)
end
/-! ### set(list of texts) -/
theorem noSet_is {wd : World} {hp : Heap} {ad : Addr} (e : hp.get? ad = some (noSet wd)) : TxS wd hp ad [] := by
  refine ⟨_, #[], 0, _, e, ⟨rfl, rfl, rfl⟩, rfl, fun e m => by simp at m, by simp, by simp, by decide, by rfl, ?_, ?_⟩
  · show Ris (SetTable.fresh 0 0 _).place.toList
    exact List.Pairwise.nil
  · cases z : wd.params.followText "set-order" with
    | true => exact .inl rfl
    | false => exact .inr rfl
theorem gather_snoc : ∀ (xs T : List Str) (x : Str), gather T (xs ++ [x]) = putT (gather T xs) x
  | [], T, x => rfl
  | y :: xs, T, x => gather_snoc xs (putT T y) x
theorem putT_len (T : List Str) (x : Str) : (putT T x).length ≤ T.length + 1 := by
  unfold putT
  split <;> simp
theorem gather_len : ∀ (xs T : List Str), (gather T xs).length ≤ T.length + xs.length
  | [], T => Nat.le_refl _
  | y :: xs, T => by
    have := gather_len xs (putT T y)
    have := putT_len T y
    show (gather (putT T y) xs).length ≤ _
    rw [List.length_cons]
    omega
theorem putT_mem {T : List Str} {x y : Str} : y ∈ putT T x ↔ y ∈ T ∨ y = x := by
  unfold putT
  split
  · rename_i h
    exact ⟨.inl, fun z => z.elim id fun e => e ▸ h⟩
  · simp
theorem gather_mem : ∀ {xs T : List Str} {y : Str}, y ∈ gather T xs ↔ y ∈ T ∨ y ∈ xs
  | [], T, y => by simp [gather]
  | x :: xs, T, y => by
    show y ∈ gather (putT T x) xs ↔ _
    rw [gather_mem, putT_mem, List.mem_cons, or_assoc]
section
variable {pg : Program} {wd : World} {ar : Around} {Er : Value → Shared → Prop} {st : Shared}
theorem tx_loop {it : Addr} {fp wr : List Addr} {G : Array GenState → Array GenState → Prop} {n : Nat} {Pv : Nat → Value → Prop} {Sv : Nat → Shared → Prop} {R : Result → Shared → Prop}
    (walk : WalksS pg wd ar.in1 it fp wr G n Pv Sv) (ad : Addr) (out : ad ∉ fp) (xs : List Str) (len : n = xs.length) (room : xs.length + 1 < scanBound) (val : ∀ i v, Pv i v → ∃ x t, xs[i]? = some x ∧ v = .str x t) :
    ∀ (left i : Nat) (s0 : Shared), n - i = left → i ≤ n → Sv i s0 → TxS wd s0.heap ad (gather [] (xs.take i)) →
      (∀ s1, Moved (ad :: wr) G s0 s1 → TxS wd s1.heap ad (gather [] xs) → R (.ok (.ret .none)) s1) →
      codeAny (model pg wd) ar (.builtin "set.update.loop" ⟨[.ref ad, .ref it], []⟩) R s0 := by
  have outw : ad ∉ wr := fun z => out (walk.sub _ z)
  have more : ∀ b ∈ wr, b ∈ ad :: wr := fun b m => List.mem_cons_of_mem _ m
  intro left
  induction left with
  | zero =>
    intro i s0 e le sv tx fin
    obtain rfl : i = n := by omega
    refine codeAny_builtin PyProof.Rows.F.entry_set_update_loop ?_
    rw [Around.under_plainId PyProof.Rows.F.plain_set_update_loop _]
    show wpAny _ ar.in1 (pyNext (.ref it) >>= _) _ _ s0
    refine wpAny_bind (walk.done s0 _ _ sv fun s1 mv => ?_)
    rw [List.take_of_length_le (Nat.le_of_eq len.symm)] at tx
    exact wpAny_pure (fin s1 (mv.mono more) (tx.at fun o q => mv.heap ad o outw q))
  | succ left ih =>
    intro i s0 e le sv tx fin
    have lt : i < n := by omega
    refine codeAny_builtin PyProof.Rows.F.entry_set_update_loop ?_
    rw [Around.under_plainId PyProof.Rows.F.plain_set_update_loop _]
    show wpAny _ ar.in1 (pyNext (.ref it) >>= _) _ _ s0
    refine wpAny_bind (walk.item i s0 _ _ lt sv fun v s1 pv sv1 mv => ?_)
    obtain ⟨x, t, ex, rfl⟩ := val i v pv
    have tx1 : TxS wd s1.heap ad (gather [] (xs.take i)) := tx.at fun o q => mv.heap ad o outw q
    show wpAny _ ar.in1 (holding [Value.str x t] (setAdd ad (.str x t)) >>= _) _ _ s1
    refine wpAny_bind (wpAny_holding ?_)
    unfold setAdd
    refine wpAny_holding (wpAny_bind ((PySem.strKind pg wd).pyHash (k := x) (strKind_is pg wd x t) ?_))
    have small : (gather [] (xs.take i)).length + 1 < scanBound := by
      have := gather_len (xs.take i) []
      rw [List.length_take] at this
      simp at this
      omega
    refine tx_add (st := { s1 with toks := s1.toks + 1 }) tx1 small fun b h2 sb tx2 => ?_
    have tx3 : TxS wd h2 ad (gather [] (xs.take (i + 1))) := by
      rw [List.take_add_one, ex]
      show TxS wd h2 ad (gather [] (xs.take i ++ [x]))
      rw [gather_snoc]
      exact tx2
    refine wpAny_pure ⟨plainId_quiet PyProof.Rows.F.plain_set_update_loop _, ih (i + 1) _ (by omega) lt (walk.frame _ s1 _ _ sv1 (Nat.le_succ _) fun b m o q => ?_) tx3 fun s2 mv2 tx4 => ?_⟩
    · rw [sb.2 b (fun z : b = ad => out (z ▸ m))]
      exact q
    · refine fin s2 (Moved.trans walk.gtrans ((mv.mono more).then_heap (Nat.le_succ _) fun b o m q => ?_) mv2) tx4
      rw [sb.2 b (fun z : b = ad => m (by rw [z]; exact List.mem_cons_self))]
      exact q
theorem set_texts {l : Addr} {its : Array Value} {xs : List Str} {Q : Value → Shared → Prop} (nh : ar.handled = none) (hl : st.heap.IsList l its) (are : StrsAre its.toList xs) (room : xs.length + 1 < scanBound)
    (fin : ∀ (h2 : Heap) (tk : Nat), TxS wd h2 st.heap.objs.size (gather [] xs) → (∀ b o, st.heap.get? b = some o → h2.get? b = some o) → Q (.ref st.heap.objs.size) { st with heap := h2, toks := tk }) :
    wpAny (model pg wd) ar (call (.type "set") [.ref l]) Q Er st := by
  have sz : its.size = xs.length := by
    have : ∀ {vs : List Value} {ys : List Str}, StrsAre vs ys → vs.length = ys.length := by
      intro vs ys h
      induction h with
      | nil => rfl
      | cons _ _ _ ih => rw [List.length_cons, List.length_cons, ih]
    have q := this are
    rwa [Array.length_toList] at q
  have at_ : ∀ {vs : List Value} {ys : List Str}, StrsAre vs ys → ∀ (i : Nat) (v : Value), vs[i]? = some v → ∃ x t, ys[i]? = some x ∧ v = .str x t := by
    intro vs ys h
    induction h with
    | nil => intro i v e; simp at e
    | cons y t _ ih =>
      intro i v e
      cases i with
      | zero =>
        simp at e
        exact ⟨y, t, rfl, e.symm⟩
      | succ i => exact ih i v (by simpa using e)
  obtain ⟨ob, e0, c0, nl, d0⟩ := hl
  have lt : l < st.heap.objs.size := Heap.lt_size e0
  have out : st.heap.objs.size ∉ [(st.heap.push (noSet wd)).objs.size, l] := by
    rw [Heap.size_push]
    simp only [List.mem_cons, List.not_mem_nil, or_false, not_or]
    exact ⟨fun z => Nat.lt_irrefl _ (Nat.lt_of_lt_of_eq (Nat.lt_succ_self _) z.symm), fun z => Nat.lt_irrefl l (z ▸ lt)⟩
  refine set_call (fun h2 => TxS wd h2 st.heap.objs.size (gather [] xs)) nh (.inl rfl) e0 c0 d0 (fun hp3 Sv walk sv kp here R q => ?_) fin
  refine tx_loop walk st.heap.objs.size out xs sz room (fun i v e => at_ are i v (by rw [Array.getElem?_toList]; exact e)) (its.size - 0) 0 _ (by omega) (Nat.zero_le _) sv (noSet_is here) fun s3 mv tx => q s3 mv tx fun b o e => ?_
  have lb := Heap.lt_size e
  refine mv.heap b o ?_ (kp b o e)
  rw [Heap.size_push]
  simp only [List.mem_cons, List.not_mem_nil, or_false, not_or]
  exact ⟨Nat.ne_of_lt lb, Nat.ne_of_lt (Nat.lt_succ_of_lt lb)⟩
end
end M
/-! MSort: sorted of a set of texts, of a list of data. -/
namespace M
open PySem PySem.Spec PyProof.Rows L2
theorem tx_strs : ∀ {vs : List Value}, (∀ v ∈ vs, ∃ x tk, v = Value.str x tk) → StrsAre vs (vs.map strOf)
  | [], _ => .nil
  | v :: vs, h => by
    obtain ⟨x, tk, rfl⟩ := h v List.mem_cons_self
    exact .cons x tk (tx_strs fun u m => h u (List.mem_cons_of_mem _ m))
section
variable {pg : Program} {wd : World} {ar : Around} {Er : Value → Shared → Prop} {st : Shared} {ad : Addr} {T : List Str}
/-- sorted of a set of texts -/
theorem sorted_texts {Q : Value → Shared → Prop} (R : TxS wd st.heap ad T) (nh : ar.handled = none)
    (fin : ∀ s2 p (out : Array Value) (c : Nat) (ys : List Str), (∀ b o, st.heap.get? b = some o → s2.heap.get? b = some o) → s2.gens = st.gens → s2.os = st.os → st.heap.objs.size ≤ p →
      s2.heap.get? p = some (seqObj "list" out c) → StrsAre out.toList ys → ys.Perm T → sortedS ys = true → Q (.ref p) s2) :
    wpAny (model pg wd) ar (call (.builtin "sorted") [.ref ad]) Q Er st := by
  obtain ⟨ob, es, ep, tb, e0, ex, dt, al, pm, nd, bd, ft, rs, ld⟩ := R
  refine Calls.call_function_entry kind_sorted plain_sorted entry_sorted (args_sorted1 _) ?_
  unfold Builtin.«sorted»
  refine wpAny_bind (m := checkCount "sorted" 1 1 _) (wpAny_pure (wpAny_bind (collect_set (A := ar.in1) nh ⟨ob, e0, ex.1, dt⟩ ft bd rs ld fun s1 vs k1 z1 g1 o1 pv => ?_)))
  have sz : vs.length = es.size := by
    have := pv.length_eq
    rwa [List.length_map, Array.length_toList] at this
  have are : StrsAre vs (vs.map strOf) := tx_strs fun v m => by
    obtain ⟨e, me, rfl⟩ := List.mem_map.mp (pv.mem_iff.mp m)
    obtain ⟨x, tk, q, _⟩ := al e me
    exact ⟨x, tk, q⟩
  have pT : (vs.map strOf).Perm T := by
    refine (pv.map strOf).trans ?_
    rw [List.map_map, show es.toList.map (strOf ∘ fun e : Int × Value => e.2) = es.toList.map txOf from List.map_congr_left fun e me => by
      obtain ⟨x, tk, q, _⟩ := al e me
      show strOf e.2 = txOf e
      unfold txOf
      rw [q]
      rfl]
    exact pm
  have small : vs.length ≤ sizeLine := by
    rw [sz]
    exact fits_of_scanBound bd
  refine wpAny_bind (wpAny_newList ?_ small)
  have here : (s1.heap.push (seqObj "list" vs.toArray 0)).get? s1.heap.objs.size = some (seqObj "list" vs.toArray 0) := Heap.get?_push_size _ rfl
  refine wpAny_bind (wpAny_holding (wpAny_call_entry slot_list_sort ⟨_, here, rfl⟩ entry_list_sort (list_sort_treeKAny strKind_oneLt here are.keysOf (fun v1 v2 rest e => keyKind_strs (by rw [← e]; exact are)) small fun ss ps so => ⟨_, rfl, ?_⟩) (args_list_sort _)))
  obtain ⟨ys, a1, a2, a3⟩ := sorted_out_str are ps so
  obtain ⟨c, hc⟩ := sortedHeap_at (vs := vs) (out := (arrOf ss).map (·.2)) here
  refine wpAny_pure ⟨_, rfl, fin _ s1.heap.objs.size _ c ys (fun b o e => ?_) g1 o1 z1 hc a1 (a2.trans pT) a3⟩
  have q := k1 b o e
  have lt := Heap.lt_size q
  show (sortedHeap (s1.heap.push (seqObj "list" vs.toArray 0)) s1.heap.objs.size vs ((arrOf ss).map (·.2))).get? b = some o
  rw [sortedHeap_old (Nat.ne_of_lt lt) (by rw [size_push']; exact Nat.lt_succ_of_lt lt)]
  exact Heap.get?_push_of_some _ q
end
/-- sorted(set(a)), a a list of texts -/
def tSortSet (K : PySem.W.Frag) (ta : TE) : TE := fun σ H Q => ta σ H fun x H1 => ∃ (l : Addr) (xs : List Str), x = .ref l ∧ SqL K H1 l (xs.map V.str) ∧ xs.length < 1000 ∧
  ∀ (ys : List Str) (p : Addr), ys.Perm (gather [] xs) → sortedS ys = true → H1 p = none → Q (.ref p) (upd H1 p (.lst (ys.map V.str)))
theorem pe_sortSet {X : Cx} {a : Expr} {ta : TE} {p p2 q pos : Pos} (hg : Gl X "sorted") (hm : X.mg "sorted" = none) (hg2 : Gl X "set") (hm2 : X.mg "set" = none) (ha : PE X a ta) (hc : X.calm = true)
    (na : starEach [a] X.env = [(false, eval a X.env)]) : PE X (.Call (.Name "sorted" p) [.Call (.Name "set" p2) [a] [] q] [] pos) (tSortSet X.K ta) := by
  refine ⟨fun pins s σ H Q I h => ?_⟩
  refine Call_ (ld_blt I hg hm boot_sorted ?_)
  refine PyProof.Rows.callWith_builtin1 (PyProof.Rows.args_cons ?_ rfl) rfl rfl
  refine Call_ (ld_blt I hg2 hm2 boot_set ?_)
  refine PyProof.Rows.callWith_type1 (PyProof.Rows.args_cons (thn (ha.run pins s σ H _ I h) fun v s1 ⟨x, H1, I1, r1, q1⟩ => PyProof.Rows.args_nil ?_) na) na rfl
  obtain ⟨l, xs, rfl, hq, hl, q1⟩ := q1
  cases r1
  obtain ⟨its, r, pl, hz⟩ := I1.list hq
  refine set_texts (I1.ok.hd hc) pl.isList r.strs (by unfold scanBound; omega) fun h2 tk tx kp => PyProof.Rows.args_nil ?_
  have I2 : Inv X pins σ H1 { s1 with heap := h2, toks := tk } := I1.kept kp
  refine sorted_texts (st := { s1 with heap := h2, toks := tk }) tx (I2.ok.hd hc) fun s2 p out c ys k2 g2 o2 le at_ are pm so => ?_
  have new : H1 p = none := I2.hok.fresh le
  have few : (ys.map V.str).length ≤ sizeLine := by
    have := gather_len xs []
    rw [List.length_map, pm.length_eq, sizeLine_eq]
    simp at this
    omega
  have J : Inv X pins σ (upd H1 p (.lst (ys.map V.str))) { s1 with heap := s2.heap, gens := s2.gens, drawn := s2.drawn, toks := s2.toks } :=
    Inv.call (s := { s1 with heap := h2, toks := tk }) (ch := []) I2 (Un.laid k2 le new) (I2.hok.laid k2 le ⟨few, out.toList, c, vals_of_strs are, at_⟩) (g2 ▸ I2.bare) (fun _ z => nomatch z)
  have same : s2 = { s1 with heap := s2.heap, gens := s2.gens, drawn := s2.drawn, toks := s2.toks } := by
    obtain ⟨_, _, _, _, _⟩ := s2
    obtain ⟨_, _, _, _, _⟩ := s1
    cases o2
    rfl
  rw [same]
  exact ⟨.ref p, _, J, rfl, q1 ys p pm so new⟩
/-- len(set(a)), a a list of texts -/
def tLenSet (K : PySem.W.Frag) (ta : TE) : TE := fun σ H Q => ta σ H fun x H1 => ∃ (l : Addr) (xs : List Str), x = .ref l ∧ SqL K H1 l (xs.map V.str) ∧ xs.length < 1000 ∧ Q (.int ((gather [] xs).length : Nat)) H1
theorem pe_lenSet {X : Cx} {a : Expr} {ta : TE} {p p2 q pos : Pos} (hg : Gl X "len") (hm : X.mg "len" = none) (hg2 : Gl X "set") (hm2 : X.mg "set" = none) (ha : PE X a ta) (hc : X.calm = true)
    (na : starEach [a] X.env = [(false, eval a X.env)]) : PE X (.Call (.Name "len" p) [.Call (.Name "set" p2) [a] [] q] [] pos) (tLenSet X.K ta) := by
  refine ⟨fun pins s σ H Q I h => ?_⟩
  refine Call_ (ld_blt I hg hm PySem.boot_len ?_)
  refine PyProof.Rows.callWith_builtin1 (PyProof.Rows.args_cons ?_ rfl) rfl rfl
  refine Call_ (ld_blt I hg2 hm2 boot_set ?_)
  refine PyProof.Rows.callWith_type1 (PyProof.Rows.args_cons (thn (ha.run pins s σ H _ I h) fun v s1 ⟨x, H1, I1, r1, q1⟩ => PyProof.Rows.args_nil ?_) na) na rfl
  obtain ⟨l, xs, rfl, hq, hl, q1⟩ := q1
  cases r1
  obtain ⟨its, r, pl, hz⟩ := I1.list hq
  refine set_texts (I1.ok.hd hc) pl.isList r.strs (by unfold scanBound; omega) fun h2 tk tx kp => PyProof.Rows.args_nil ?_
  obtain ⟨ob, es, ep, tb, e0, ex, dt, al, pm, nd, bd, ft, rs, ld⟩ := tx
  have sz : es.size = (gather [] xs).length := by
    have q := pm.length_eq
    rwa [List.length_map, Array.length_toList] at q
  have fit : (es.size : Int) < 2 ^ 63 := by
    have := fits_of_scanBound bd
    rw [sizeLine_eq] at this
    omega
  refine call_len_set e0 ex dt ft fit ?_
  rw [sz]
  exact ⟨.int ((gather [] xs).length : Nat), H1, (I1.kept kp).tok _, ⟨_, rfl⟩, q1⟩
/-! ### sorted rows of data -/
open SrtO
theorem ltE_swo : Swo ltE := ⟨fun _ _ h => ltE_asym h, fun x y z h1 h2 => ltE_tr h2 h1⟩
/-- of one kind, so that the sort finds it -/
inductive Kd (ds : List D) : Prop
  | str : (∀ d ∈ ds, ∃ x, d = .str x) → Kd ds
  | int : (∀ d ∈ ds, ∃ x, d = .int x) → Kd ds
  | tstr : (∀ d ∈ ds, ∃ x xs, d = .tuple (.str x :: xs)) → Kd ds
  | tint : (∀ d ∈ ds, ∃ x xs, d = .tuple (.int x :: xs)) → Kd ds
theorem insD_srtd_stb (x : D) {l o : List D} (h : Srtd ltE l) (s : Stb ltE l o) : Stb ltE (insD x l) (o ++ [x]) := by
  have key : ∀ (l pre : List D), Srtd ltE (pre ++ l) → (∀ y ∈ pre, ltE x y = false) → ∃ m k, insD x l = m ++ x :: k ∧ l = m ++ k ∧ ∀ y ∈ k, ltE x y = true := by
    intro l
    induction l with
    | nil => intro pre _ _; exact ⟨[], [], rfl, rfl, fun y z => by simp at z⟩
    | cons y l ih =>
      intro pre hs hp
      by_cases c : ltE x y = true
      · refine ⟨[], y :: l, by unfold insD; rw [if_pos c]; rfl, rfl, fun z hz => ?_⟩
        rcases List.mem_cons.mp hz with e | hz
        · rw [e]; exact c
        · have q : ltE z y = false := (List.pairwise_cons.mp (srtd_app.mp hs).2.1).1 z hz
          exact ltE_swo.ltle c q
      · have c : ltE x y = false := by simpa using c
        obtain ⟨m, k, e1, e2, e3⟩ := ih (pre ++ [y]) (by simpa using hs) (fun z hz => by
          rcases List.mem_append.mp hz with hz | hz
          · exact hp z hz
          · rw [List.mem_singleton.mp hz]; exact c)
        refine ⟨y :: m, k, ?_, by rw [e2]; rfl, e3⟩
        unfold insD
        rw [if_neg (by rw [c]; decide), e1]
        rfl
  obtain ⟨m, k, e1, e2, e3⟩ := key l [] h (fun y z => by simp at z)
  rw [e1]
  exact ins_stb ltE_swo e3 (e2 ▸ s)
theorem sortD_stb (l : List D) : Stb ltE (sortD l) l := by
  have key : ∀ (l acc o : List D), Rise acc → Stb ltE acc o → Stb ltE (l.foldl (fun acc x => insD x acc) acc) (o ++ l) := by
    intro l
    induction l with
    | nil => intro acc o _ s; simpa using s
    | cons x l ih =>
      intro acc o h s
      have z := ih (insD x acc) (o ++ [x]) (insD_rise x h) (insD_srtd_stb x h s)
      simpa using z
  simpa [sortD] using key l [] [] List.Pairwise.nil (Stb.refl [])
section
variable {pg : Program} {wd : World} {ar : Around} {Er : Value → Shared → Prop} {st : Shared}
theorem kat_data {b fin : Bool} {Q : Bool → Shared → Prop} : ∀ (xs ys : List D) (i : Nat) (vs ws : List Value) (as bs : List Addr), ReadsAll st.heap vs xs as → ReadsAll st.heap ws ys bs → PyData.canLayAll0 xs = true → PyData.canLayAll0 ys = true →
    ar.units + min (PyData.depthAll xs) (PyData.depthAll ys) < cLine → cmpDs xs ys = true → (b = true → i = 0 → ∀ x r t, xs = x :: r → x ≠ .tuple t) → fin = decide (xs.length < ys.length) → Q (ltDs xs ys) st → PySem.W.KatLex pg wd ar b fin Q (vs.zip ws) i st
  | [], [], i, vs, ws, as, bs, ra, rb, la, lb, room, c, nt, hf, q => by
    cases ra; cases rb
    subst hf
    exact PySem.W.kat_nil q
  | [], y :: ys, i, vs, ws, as, bs, ra, rb, la, lb, room, c, nt, hf, q => by
    cases ra
    subst hf
    rw [List.zip_nil_left]
    exact PySem.W.kat_nil (by simpa [ltDs] using q)
  | x :: xs, [], i, vs, ws, as, bs, ra, rb, la, lb, room, c, nt, hf, q => by
    cases rb
    subst hf
    rw [List.zip_nil_right]
    exact PySem.W.kat_nil (by simpa [ltDs] using q)
  | x :: xs, y :: ys, i, vs, ws, as, bs, ra, rb, la, lb, room, c, nt, hf, q => by
    have la : x.canLay0 = true ∧ PyData.canLayAll0 xs = true := by simpa [PyData.canLayAll0] using la
    have lb : y.canLay0 = true ∧ PyData.canLayAll0 ys = true := by simpa [PyData.canLayAll0] using lb
    cases ra with
    | cons r1 r2 =>
      cases rb with
      | cons s1 s2 =>
        have c : (if PyData.eqv x y = true then cmpDs xs ys else cmpD x y) = true := c
        have q : Q (if PyData.eqv x y = true then ltDs xs ys else ltD x y) st := q
        rw [List.zip_cons_cons]
        refine PySem.W.kat_cons (PySem.SeqAt.eqAt_reads x y ar st _ _ _ _ r1 s1 la.1 lb.1 (PySem.SeqAt.room_head room) pg wd _ _ ?_)
        refine PySem.W.kat_go (fun e => ?_) fun e => ?_
        · rw [if_pos e] at c q
          exact PySem.W.kat_yes (kat_data xs ys (i + 1) _ _ _ _ r2 s2 la.2 lb.2 (PySem.SeqAt.room_tail room) c (fun _ z => absurd z (Nat.succ_ne_zero i)) (by rw [hf]; simp) q)
        · rw [e, if_neg Bool.false_ne_true] at c q
          refine PySem.W.kat_no ?_
          have tl := lt_reads x y ar st _ _ _ _ r1 s1 la.1 lb.1 (PySem.SeqAt.room_head room) c
          cases x with
          | int u =>
            cases y with
            | int v =>
              cases r1; cases s1
              exact PyProof.Rows.oneLt_any_int q
            | _ => cases c
          | str u =>
            cases y with
            | str v =>
              cases r1; cases s1
              exact PyProof.Rows.oneLt_any_str q
            | _ => cases c
          | tuple u =>
            have fl : (b && i == 0) = false := by
              cases b with
              | false => rfl
              | true =>
                cases i with
                | zero => exact absurd rfl (nt rfl rfl _ _ u rfl)
                | succ i => rfl
            rw [fl]
            exact PySem.W.kat_one _ _ (tl pg wd _ _ q)
          | _ => cases c
theorem rd_of {hp : Heap} : ∀ {vs : List Value} {ds : List D} {as : List Addr}, ReadsAll hp vs ds as → ∀ v ∈ vs, ∃ d as, d ∈ ds ∧ Reads hp v d as
  | _, _, _, .nil, v, m => by simp at m
  | _, _, _, .cons r rs, v, m => by
    rcases List.mem_cons.mp m with e | m
    · rw [e]
      exact ⟨_, _, List.mem_cons_self, r⟩
    · obtain ⟨d, as, h1, h2⟩ := rd_of rs v m
      exact ⟨d, as, List.mem_cons_of_mem _ h1, h2⟩
theorem lay_of : ∀ {ds : List D}, PyData.canLayAll0 ds = true → ∀ d ∈ ds, d.canLay0 = true
  | x :: xs, h, d, m => by
    have h : x.canLay0 = true ∧ PyData.canLayAll0 xs = true := by simpa [PyData.canLayAll0] using h
    rcases List.mem_cons.mp m with e | m
    · rw [e]; exact h.1
    · exact lay_of h.2 d m
theorem dep_of : ∀ {ds : List D} {k : Nat}, PyData.depthAll ds ≤ k → ∀ d ∈ ds, d.depth ≤ k
  | x :: xs, k, h, d, m => by
    have h : max x.depth (PyData.depthAll xs) ≤ k := by simpa [PyData.depthAll] using h
    rcases List.mem_cons.mp m with e | m
    · rw [e]; omega
    · exact dep_of (by omega) d m
noncomputable abbrev ltv (hp : Heap) (v u : Value) : Bool := ltE (SeqAt.readOf hp v) (SeqAt.readOf hp u)
/-- tuples, by their first items' type -/
theorem firsts_tup {hp : Heap} {T : String} (F : D → Prop) (hF : ∀ d v as, F d → Reads hp v d as → ∀ M : Model, PySem.W.Looks M hp (typeOf v) (.type T)) : ∀ (ds : List D) (vs : List Value) (as : List Addr), ReadsAll hp vs ds as → (∀ d ∈ ds, ∃ x xs, d = .tuple (x :: xs) ∧ F x) → ∃ fs, PySem.W.KatTups hp vs fs ∧ fs.length = vs.length ∧ ∀ f ∈ fs, ∀ M : Model, PySem.W.Looks M hp (typeOf f) (.type T)
  | [], _, _, r, _ => by
    cases r
    exact ⟨[], PySem.W.KatTups.nil, rfl, fun _ m => by simp at m⟩
  | d :: ds, _, _, r, h => by
    cases r with
    | cons r1 r2 =>
      obtain ⟨fs, k1, k2, k3⟩ := firsts_tup F hF ds _ _ r2 fun d m => h d (List.mem_cons_of_mem _ m)
      obtain ⟨x, xs, rfl, fx⟩ := h d List.mem_cons_self
      cases r1 with
      | @tuple p o vs n _ _ g1 g2 g3 g4 =>
        obtain ⟨v0, vr, ev, r0⟩ : ∃ v0 vr, vs.toList = v0 :: vr ∧ ∃ as, Reads hp v0 x as := by
          generalize vs.toList = l at g4
          cases g4 with
          | cons r _ => exact ⟨_, _, rfl, _, r⟩
        obtain ⟨as0, r0⟩ := r0
        refine ⟨v0 :: fs, PySem.W.KatTups.cons g1 g2 g3 ?_ k1, by rw [List.length_cons, List.length_cons, k2], fun f m => ?_⟩
        · rw [← Array.getElem?_toList, ev]
          rfl
        · rcases List.mem_cons.mp m with e | m
          · rw [e]; exact hF x v0 as0 fx r0
          · exact k3 f m
theorem str_looks {hp : Heap} {d : D} {v : Value} {as : List Addr} (h : ∃ x, d = .str x) (r : Reads hp v d as) (M : Model) : PySem.W.Looks M hp (typeOf v) (.type "str") := by
  obtain ⟨x, rfl⟩ := h
  cases r
  exact PySem.W.Looks.now
theorem int_looks {hp : Heap} {d : D} {v : Value} {as : List Addr} (h : ∃ x, d = .int x) (r : Reads hp v d as) (M : Model) : PySem.W.Looks M hp (typeOf v) (.type "int") := by
  obtain ⟨x, rfl⟩ := h
  cases r
  exact PySem.W.Looks.now
theorem data_sortable {a : Addr} {vs : List Value} {ds : List D} {as : List Addr} (two : 2 ≤ vs.length) (rd : ReadsAll st.heap vs ds as) (lay : PyData.canLayAll0 ds = true) (dep : PyData.depthAll ds ≤ 60)
    (kd : Kd ds) (cmp : ∀ x ∈ ds, ∀ y ∈ ds, cmpD x y = true) (room : ar.units + 62 < cLine) {h1 : Heap} (kk : ∀ b o, st.heap.get? b = some o → b ≠ a ∧ h1.get? b = some o) :
    SortableO pg wd ar { st with heap := h1 } a vs (ltv st.heap) := by
  intro h' keep
  have kp : ∀ b o, st.heap.get? b = some o → h'.get? b = some o := fun b o e => keep b o (kk b o e).1 (kk b o e).2
  have rd' : ReadsAll h' vs ds as := ReadsAll.keeps kp rd
  have each : ∀ v ∈ vs, ∃ d as, d ∈ ds ∧ Reads h' v d as ∧ SeqAt.readOf st.heap v = d := fun v m => by
    obtain ⟨d, as, md, r⟩ := rd_of rd v m
    exact ⟨d, as, md, Reads.keeps kp r, SeqAt.readOf_eq (lay_of lay d md) r⟩
  have tups : ∀ b, (b = true → ∀ d ∈ ds, ∀ x xs, d = .tuple (x :: xs) → ∀ t, x ≠ .tuple t) → (∀ d ∈ ds, ∃ xs, d = .tuple xs) → Cmp pg wd ar { st with heap := h' } (tuples' b) (fun p => p.1 ∈ vs) (lt2 (ltv st.heap)) := by
    intro b nt al p q mp mq
    obtain ⟨d, as1, md, r1, e1⟩ := each _ mp
    obtain ⟨e, as2, me, r2, e2⟩ := each _ mq
    obtain ⟨xs, rfl⟩ := al d md
    obtain ⟨ys, rfl⟩ := al e me
    have c := cmp _ md _ me
    have goal : lt2 (ltv st.heap) p q = ltDs xs ys := by
      show ltE (SeqAt.readOf st.heap p.1) (SeqAt.readOf st.heap q.1) = _
      rw [e1, e2, ← ltE_eq c]
      rfl
    rw [goal]
    have l1 := lay_of lay _ md
    have l2 := lay_of lay _ me
    have d1 := dep_of dep _ md
    have d2 := dep_of dep _ me
    obtain ⟨v1, w1⟩ := p
    obtain ⟨v2, w2⟩ := q
    simp only at r1 r2
    cases r1 with
    | tuple g1 g2 g3 g4 =>
      cases r2 with
      | tuple k1 k2 k3 k4 =>
        simp only [PyData.depth] at d1 d2
        have n1 := SeqAt.ReadsAll.length _ _ _ g4
        have n2 := SeqAt.ReadsAll.length _ _ _ k4
        refine PySem.W.kat_lt g1 g3 k1 k3 (kat_data (st := { st with heap := h' }) xs ys 0 _ _ _ _ g4 k4 (by simpa [PyData.canLay0] using l1) (by simpa [PyData.canLay0] using l2) (by omega) c (fun hb _ x r t e => ?_) ?_ ⟨rfl, rfl⟩)
        · exact nt hb _ md x r (by rw [e]) t
        · rw [Array.length_toList] at n1 n2
          rw [n1, n2]
  cases kd with
  | tstr al =>
    obtain ⟨fs, f1, f2, f3⟩ := firsts_tup (hp := h') (T := "str") (fun x => ∃ u, x = .str u) (fun d v as h r => str_looks h r) ds vs as rd' fun d m => by
      obtain ⟨x, xs, e⟩ := al d m
      exact ⟨_, xs, e, x, rfl⟩
    refine ⟨tuples' true, fun Q E q => PySem.W.kat_kind (T := .type "str") f1 (by omega) (fun f m => f3 f m _) (by rfl) q, tups true (fun _ d m x xs e t z => ?_) fun d m => ?_⟩
    · obtain ⟨y, ys, e2⟩ := al d m
      rw [e2] at e
      injection e with e
      injection e with e _
      rw [z] at e
      cases e
    · obtain ⟨y, ys, e2⟩ := al d m
      exact ⟨_, e2⟩
  | tint al =>
    obtain ⟨fs, f1, f2, f3⟩ := firsts_tup (hp := h') (T := "int") (fun x => ∃ u, x = .int u) (fun d v as h r => int_looks h r) ds vs as rd' fun d m => by
      obtain ⟨x, xs, e⟩ := al d m
      exact ⟨_, xs, e, x, rfl⟩
    refine ⟨tuples' true, fun Q E q => PySem.W.kat_kind (T := .type "int") f1 (by omega) (fun f m => f3 f m _) (by rfl) q, tups true (fun _ d m x xs e t z => ?_) fun d m => ?_⟩
    · obtain ⟨y, ys, e2⟩ := al d m
      rw [e2] at e
      injection e with e
      injection e with e _
      rw [z] at e
      cases e
    · obtain ⟨y, ys, e2⟩ := al d m
      exact ⟨_, e2⟩
  | str al =>
    have are : StrsAre vs (vs.map strOf) := tx_strs fun v m => by
      obtain ⟨d, _, md, r, _⟩ := each v m
      obtain ⟨x, rfl⟩ := al d md
      cases r
      exact ⟨_, _, rfl⟩
    obtain ⟨v1, v2, rest, e⟩ : ∃ v1 v2 rest, vs = v1 :: v2 :: rest := by
      match vs, two with
      | v1 :: v2 :: rest, _ => exact ⟨v1, v2, rest, rfl⟩
    refine ⟨oneType', fun Q E q => ?_, fun p q mp mq => ?_⟩
    · rw [e, keyKind_strs (by rw [← e]; exact are)]
      exact wpAny_pure q
    · obtain ⟨d, _, md, r1, e1⟩ := each _ mp
      obtain ⟨d2, _, me, r2, e2⟩ := each _ mq
      obtain ⟨x, rfl⟩ := al d md
      obtain ⟨y, rfl⟩ := al d2 me
      have goal : lt2 (ltv st.heap) p q = ltD (.str x) (.str y) := by
        show ltE (SeqAt.readOf st.heap p.1) (SeqAt.readOf st.heap q.1) = _
        rw [e1, e2, ← ltE_eq (cmp _ md _ me)]
      rw [goal]
      obtain ⟨v1, w1⟩ := p
      obtain ⟨v2, w2⟩ := q
      simp only at r1 r2
      cases r1; cases r2
      rw [keyLt'_oneType]
      exact oneLt_str ⟨rfl, rfl⟩
  | int al =>
    have are : IntsAre vs (vs.map Builtin.Re.reRawOf) := ints_of vs fun v m => by
      obtain ⟨d, _, md, r, _⟩ := each v m
      obtain ⟨x, rfl⟩ := al d md
      cases r
      exact ⟨_, _, rfl⟩
    obtain ⟨v1, v2, rest, e⟩ : ∃ v1 v2 rest, vs = v1 :: v2 :: rest := by
      match vs, two with
      | v1 :: v2 :: rest, _ => exact ⟨v1, v2, rest, rfl⟩
    refine ⟨oneType', fun Q E q => ?_, fun p q mp mq => ?_⟩
    · rw [e, keyKind_ints (by rw [← e]; exact are)]
      exact wpAny_pure q
    · obtain ⟨d, _, md, r1, e1⟩ := each _ mp
      obtain ⟨d2, _, me, r2, e2⟩ := each _ mq
      obtain ⟨x, rfl⟩ := al d md
      obtain ⟨y, rfl⟩ := al d2 me
      have goal : lt2 (ltv st.heap) p q = ltD (.int x) (.int y) := by
        show ltE (SeqAt.readOf st.heap p.1) (SeqAt.readOf st.heap q.1) = _
        rw [e1, e2, ← ltE_eq (cmp _ md _ me)]
      rw [goal]
      obtain ⟨v1, w1⟩ := p
      obtain ⟨v2, w2⟩ := q
      simp only at r1 r2
      cases r1; cases r2
      exact PySem.W.kat_lt_int ⟨rfl, rfl⟩
/-- sorted of a list, or tuple, of data -/
theorem sorted_dat {l : Addr} {T : String} {ob : Obj} {its : Array Value} {n : Nat} {ds : List D} {as : List Addr} {Q : Value → Shared → Prop} (hT : T = "list" ∨ T = "tuple") (e0 : st.heap.get? l = some ob) (c0 : ob.cls = .type T) (d0 : ob.data = .seq its n)
    (rd : ReadsAll st.heap its.toList ds as) (lay : PyData.canLayAll0 ds = true) (dep : PyData.depthAll ds ≤ 60) (kd : Kd ds) (cmp : ∀ x ∈ ds, ∀ y ∈ ds, cmpD x y = true) (room : ar.units + 64 < cLine) (small : its.size ≤ sizeLine)
    (fin : ∀ h2 p (out : List Value), (∀ b o, st.heap.get? b = some o → h2.get? b = some o) → st.heap.get? p = none → (∃ k, h2.get? p = some (seqObj "list" out.toArray k)) → out.Perm its.toList → out.map (SeqAt.readOf st.heap) = sortD ds → Q (.ref p) { st with heap := h2 }) :
    wpAny (model pg wd) ar (call (.builtin "sorted") [.ref l]) Q Er st := by
  have swo : Swo (ltv st.heap) := ⟨fun x y h => ltE_asym h, fun x y z h1 h2 => ltE_tr h2 h1⟩
  refine Calls.call_function_entry kind_sorted plain_sorted entry_sorted (args_sorted1 _) ?_
  unfold Builtin.«sorted»
  refine wpAny_bind (m := checkCount "sorted" 1 1 _) (wpAny_pure (wpAny_bind (wpAny_collect_seq l hT e0 c0 d0 (fun h1 k1 => ?_) small)))
  refine wpAny_bind (wpAny_newList ?_ (by simpa using small))
  have here : (h1.push (seqObj "list" its.toList.toArray 0)).get? h1.objs.size = some (seqObj "list" its.toList.toArray 0) := Heap.get?_push_size _ rfl
  have kk : ∀ b o, st.heap.get? b = some o → b ≠ h1.objs.size ∧ (h1.push (seqObj "list" its.toList.toArray 0)).get? b = some o := fun b o e => by
    have q := k1 b o e
    exact ⟨Nat.ne_of_lt (Heap.lt_size q), Heap.get?_push_of_some _ q⟩
  have units : ar.in1.in1.units + 62 < cLine := by
    show ar.units + 1 + 1 + 62 < cLine
    omega
  refine wpAny_bind (wpAny_holding (wpAny_call_entry slot_list_sort ⟨_, here, rfl⟩ entry_list_sort (list_sort_ord swo here (by simpa using small) (fun two => data_sortable two rd lay dep kd cmp units kk) fun out so sb => ⟨_, rfl, ?_⟩) (args_list_sort _)))
  obtain ⟨c, hc⟩ := sortedHeap_at (vs := its.toList) (out := out.toArray) here
  have old : ∀ b o, st.heap.get? b = some o → (sortedHeap (h1.push (seqObj "list" its.toList.toArray 0)) h1.objs.size its.toList out.toArray).get? b = some o := fun b o e => by
    have q := k1 b o e
    have lt := Heap.lt_size q
    rw [sortedHeap_old (Nat.ne_of_lt lt) (by rw [size_push']; exact Nat.lt_succ_of_lt lt)]
    exact Heap.get?_push_of_some _ q
  have le : st.heap.get? h1.objs.size = none := by
    cases e : st.heap.get? h1.objs.size with
    | none => rfl
    | some o => exact absurd (Heap.lt_size (k1 _ o e)) (Nat.lt_irrefl _)
  refine wpAny_pure ⟨_, rfl, fin _ h1.objs.size out old le ⟨c, hc⟩ sb.perm ?_⟩
  have m1 : its.toList.map (SeqAt.readOf st.heap) = ds := SeqAt.readsAll_map ds _ _ lay rd
  have s1 : Stb ltE (out.map (SeqAt.readOf st.heap)) ds := by
    have z := Stb.map ltE_swo (SeqAt.readOf st.heap) sb
    rwa [m1] at z
  have s2 := sortD_stb ds
  refine stb_uniq ltE_swo (srtd_map so) (sortD_rise ds) ⟨s1.perm.trans s2.perm.symm, fun x => (s1.cls x).trans (s2.cls x).symm⟩
end
/-! ### as rules -/
theorem vals_perm : ∀ {its out : List Value}, out.Perm its → ∀ {xs : List V}, Vals xs its → ∃ ys, ys.Perm xs ∧ Vals ys out := by
  intro its out h
  induction h with
  | nil => intro xs v; exact ⟨xs, List.Perm.refl _, v⟩
  | @cons u l1 l2 _ ih =>
    intro xs v
    cases v with
    | cons r rs =>
      obtain ⟨ys, p, w⟩ := ih rs
      exact ⟨_ :: ys, p.cons _, .cons r w⟩
  | swap u v l =>
    intro xs w
    cases w with
    | cons r1 rs =>
      cases rs with
      | cons r2 rs => exact ⟨_, List.Perm.swap _ _ _, .cons r2 (.cons r1 rs)⟩
  | trans _ _ ih1 ih2 =>
    intro xs v
    obtain ⟨ys, p, w⟩ := ih2 v
    obtain ⟨zs, q, u⟩ := ih1 w
    exact ⟨zs, q.trans p, u⟩
/-- each thing of the row is data of xs, ds -/
abbrev Of (xs : List V) (ds : List D) (d : D) (y : V) : Prop := ∃ i : Nat, xs[i]? = some y ∧ ds[i]? = some d
/-- sorted(x), x a list or tuple of data -/
def rSortDat (K : PySem.W.Frag) : List V → Hp → VK → Prop := fun vs H Q => ∃ (a : Addr) (xs : List V) (ds : List D), vs = [.ref a] ∧ (SqL K H a xs ∨ SqT K H a xs) ∧ DpAll K H xs ds ∧
  PyData.canLayAll0 ds = true ∧ PyData.depthAll ds ≤ 60 ∧ Kd ds ∧ (∀ x ∈ ds, ∀ y ∈ ds, cmpD x y = true) ∧ ∀ (ys : List V) (p : Addr), Paired (Of xs ds) (sortD ds) ys → H p = none → Q (.ref p) (upd H p (.lst ys))
section
variable {X : Cx}
theorem vals_get {us : List Value} {xs : List V} (h : Vals xs us) : ∀ {i : Nat} {u : Value}, us[i]? = some u → ∃ x, xs[i]? = some x ∧ RelV x u := by
  induction h with
  | nil => intro i u e; simp at e
  | cons r _ ih =>
    intro i u e
    cases i with
    | zero =>
      simp at e
      subst e
      exact ⟨_, rfl, r⟩
    | succ i => exact ih (by simpa using e)
theorem dps_get {K : PySem.W.Frag} {H : Hp} : ∀ (xs : List V) (ds : List D), DpAll K H xs ds → ∀ {i : Nat} {x : V}, xs[i]? = some x → ∃ d, ds[i]? = some d ∧ Dp K H x d
  | [], _, _, i, x, e => by simp at e
  | y :: xs, ds, h, i, x, e => by
    cases h with
    | cons r rs =>
      cases i with
      | zero =>
        simp at e
        subst e
        exact ⟨_, rfl, r⟩
      | succ i => exact dps_get xs _ rs (by simpa using e)
theorem cr_sortDat (hu : X.A.units + 65 < cLine) : CallR X (.builtin "sorted") (rSortDat X.K) := by
  intro pins s σ H vs us Q I r h
  obtain ⟨a, xs, ds, rfl, hs, hd, lay, dep, kd, cmp, q⟩ := h
  rw [Vals.ref1 r]
  have src : ∃ (T : String) (ob : Obj) (its : List Value) (n : Nat), (T = "list" ∨ T = "tuple") ∧ s.heap.get? a = some ob ∧ ob.cls = .type T ∧ ob.data = .seq its.toArray n ∧ Vals xs its ∧ xs.length ≤ sizeLine := by
    rcases hs with hs | hs
    · obtain ⟨its, rv, ⟨ob, n, e0, c0, _, d0⟩, sz⟩ := I.list hs
      exact ⟨"list", ob, its, n, .inl rfl, e0, c0, d0, rv, sz⟩
    · obtain ⟨its, rv, tp, sz⟩ := I.tuple hs
      obtain ⟨ob, e0, c0, n, d0⟩ := tp
      exact ⟨"tuple", ob, its, n, .inr rfl, e0, c0, d0, rv, sz⟩
  obtain ⟨T, ob, its, n, hT, e0, c0, d0, rv, sz⟩ := src
  obtain ⟨as, rd⟩ := Dp.readsAll I ds xs its hd rv
  refine sorted_dat hT e0 c0 d0 (by simpa using rd) lay dep kd cmp (by omega) (by have := rv.length; simpa using (this ▸ sz)) fun h2 p out kp new at_ pm eo => ?_
  obtain ⟨ys, py, vy⟩ := vals_perm (show out.Perm its by simpa using pm) rv
  have hn : H p = none := I.hok.gone new
  obtain ⟨c, hc⟩ := at_
  refine ⟨.ref p, upd H p (.lst ys), I.laidN (t' := s.toks) kp new hn ⟨by rw [py.length_eq]; exact sz, out, c, vy, hc⟩, rfl, q ys p ?_ hn⟩
  rw [← eo]
  have mem : ∀ y ∈ ys, y ∈ xs := fun y m => py.mem_iff.mp m
  clear eo hc py pm
  induction vy with
  | nil => exact .nil
  | @cons y u ys out ry _ ih =>
    refine .cons ?_ (ih fun y m => mem y (List.mem_cons_of_mem _ m))
    obtain ⟨i, hi⟩ := List.getElem?_of_mem (mem y List.mem_cons_self)
    obtain ⟨d, hd1, dp⟩ := dps_get xs ds hd hi
    obtain ⟨as2, rd2⟩ := Dp.reads I d y u dp ry
    refine ⟨i, hi, ?_⟩
    rw [SeqAt.readOf_eq (lay_of lay d (List.mem_of_getElem? hd1)) rd2]
    exact hd1
end
/-! ### texts: there is one sorted row -/
theorem rise_uniq : ∀ {l m : List D}, (∀ x ∈ l, ∀ y ∈ l, ltE x y = false → ltE y x = false → x = y) → Rise l → Rise m → l.Perm m → l = m
  | [], m, _, _, _, p => (List.Perm.eq_nil p.symm).symm
  | x :: l, [], _, _, _, p => absurd p.length_eq (by simp)
  | x :: l, y :: m, an, hl, hm, p => by
    obtain ⟨l1, l2⟩ := List.pairwise_cons.mp hl
    obtain ⟨m1, m2⟩ := List.pairwise_cons.mp hm
    have yl : y ∈ x :: l := p.mem_iff.mpr List.mem_cons_self
    have xm : x ∈ y :: m := p.mem_iff.mp List.mem_cons_self
    have e : x = y := by
      refine an x List.mem_cons_self y yl ?_ ?_
      · rcases List.mem_cons.mp xm with z | z
        · rw [z]; exact decide_eq_false (List.lt_irrefl _)
        · exact m1 x z
      · rcases List.mem_cons.mp yl with z | z
        · rw [z]; exact decide_eq_false (List.lt_irrefl _)
        · exact l1 y z
    subst e
    rw [rise_uniq (fun a ha b hb => an a (List.mem_cons_of_mem _ ha) b (List.mem_cons_of_mem _ hb)) l2 m2 p.cons_inv]
theorem rising_all : ∀ {l : List Str} {p : Str}, risingS p l = true → ∀ x ∈ l, ¬ (x.cps.toList < p.cps.toList)
  | [], p, _, x, m => by simp at m
  | y :: l, p, h, x, m => by
    have h2 := Bool.and_eq_true_iff.mp (show (!ltCps y.cps.toList p.cps.toList && risingS y l) = true from h)
    have a : ¬ (y.cps.toList < p.cps.toList) := by
      have z := h2.1
      rw [ltCps_eq] at z
      simpa using z
    rcases List.mem_cons.mp m with e | m
    · rw [e]; exact a
    · have b := rising_all h2.2 x m
      exact List.not_lt.mpr (List.le_trans (List.not_lt.mp a) (List.not_lt.mp b))
theorem rising_tail : ∀ {l : List Str} {p : Str}, risingS p l = true → sortedS l = true
  | [], _, _ => rfl
  | y :: l, p, h => (Bool.and_eq_true_iff.mp (show (!ltCps y.cps.toList p.cps.toList && risingS y l) = true from h)).2
theorem sorted_rise : ∀ {l : List Str}, sortedS l = true → Rise (l.map PyData.str)
  | [], _ => List.Pairwise.nil
  | p :: l, h => by
    have h : risingS p l = true := h
    refine List.pairwise_cons.mpr ⟨fun d m => ?_, sorted_rise (rising_tail h)⟩
    obtain ⟨x, mx, rfl⟩ := List.mem_map.mp m
    rw [← ltE_eq (show cmpD (.str x) (.str p) = true from rfl)]
    exact decide_eq_false (rising_all h x mx)
theorem sort_texts {ys T : List Str} (pm : ys.Perm T) (so : sortedS ys = true) : sortD (T.map PyData.str) = ys.map PyData.str := by
  refine rise_uniq (fun x mx y my h1 h2 => ?_) (sortD_rise _) (sorted_rise so) ((sortD_perm _).trans (pm.symm.map _))
  obtain ⟨u, _, rfl⟩ := List.mem_map.mp ((sortD_perm _).mem_iff.mp mx)
  obtain ⟨v, _, rfl⟩ := List.mem_map.mp ((sortD_perm _).mem_iff.mp my)
  rw [← ltE_eq (show cmpD (.str u) (.str v) = true from rfl)] at h1
  rw [← ltE_eq (show cmpD (.str v) (.str u) = true from rfl)] at h2
  have a : ¬ (u.cps.toList < v.cps.toList) := of_decide_eq_false h1
  have b : ¬ (v.cps.toList < u.cps.toList) := of_decide_eq_false h2
  have e : u.cps.toList = v.cps.toList := List.le_antisymm (List.not_lt.mp b) (List.not_lt.mp a)
  cases u; cases v
  simp only at e
  rw [Array.toList_inj.mp e]
end M
/-! MSetN: a set of nested tuples, out of a list or a tuple. -/
namespace M
open PySem PySem.Spec PyProof.Rows L2
/-- the tuple at b is the key k -/
def IsK (hp : Heap) (k : NK) (b : Addr) : Prop := NestedIs hp k (.ref b) ∧ k.depth ≤ 7
theorem IsK.keep {hp hp' : Heap} {k : NK} {b : Addr} (x : IsK hp k b) (kp : ∀ c o, hp.get? c = some o → hp'.get? c = some o) : IsK hp' k b :=
  ⟨NestedIs.at (fun c o _ _ e _ => kp c o e) k _ x.1, x.2⟩
theorem IsK.same {hp hp' : Heap} {k : NK} {a b : Addr} {ob : Obj} {es : Array (Int × Value)} {ep : Nat} {tb : SetTable} (x : IsK hp k b) (e0 : hp.get? a = some ob) (d0 : ob.data = .set es ep tb) (sb : Heap.SameBut a hp hp') : IsK hp' k b := by
  refine ⟨NestedIs.at (fun c o vs n e d => ?_) k _ x.1, x.2⟩
  refine (sb.2 c fun z => ?_).trans e
  subst z
  rw [e0] at e
  cases e
  rw [d0] at d
  cases d
section
variable {pg : Program} {wd : World} {ar : Around} {Er : Value → Shared → Prop} {st : Shared}
/-! ### what is asked of keys -/
mutual
theorem cls_key : ∀ (k : NK) (v : Value) (n : Nat) (s : Shared), NestedIs s.heap k v → k.depth ≤ n → ∀ (A : Around) (E : Value → Shared → Prop) (Q : Bool → Shared → Prop), Q false s → wpAny (model pg wd) A (ofAClassStatement n v) Q E s
  | .none, _, n, s, x, _, A, E, Q, q => by cases x; cases n <;> exact wpAny_pure q
  | .num i, _, n, s, x, _, A, E, Q, q => by cases x <;> cases n <;> exact wpAny_pure q
  | .text y, _, n, s, x, _, A, E, Q, q => by cases x; cases n <;> exact wpAny_pure q
  | .tup ks, _, 0, s, x, d, A, E, Q, q => by simp only [NestedKey.depth] at d; omega
  | .tup ks, _, n + 1, s, x, d, A, E, Q, q => by
    cases x with
    | @tup b o vs m _ hg hc hd hk =>
      simp only [NestedKey.depth] at d
      have ty : s.TypeIs (.ref b) "tuple" := ⟨o, hg, hc⟩
      unfold ofAClassStatement
      refine wpAny_bind (wpAny_typeOf ty ?_)
      dsimp only
      simp only [show (("tuple" : String) == "tuple") = true by decide, if_true]
      refine wpAny_bind (wpAny_pure ?_)
      simp only [Bool.not_true, Bool.false_eq_true, if_false]
      show wpAny _ _ (seqItems? (.ref b) >>= _) _ _ s
      refine wpAny_bind (wpAny_seqItems hg hd ?_)
      dsimp only
      refine wpAny_bind ?_
      show wpAny _ _ (forIn vs _ _) _ _ s
      rw [← Array.forIn_toList]
      refine wpAny_forIn_list _ (fun rest r s1 => r.1 = none ∧ s1 = s ∧ ∃ l, NestedAll s.heap l rest ∧ NestedKey.depthAll l ≤ n ∧ ∀ k ∈ l, k ∈ ks) _ ?_ ?_ _ _ ⟨rfl, rfl, ks, hk, by omega, fun _ m => m⟩
      · rintro v rest r s1 ⟨e1, rfl, l, al, dl, sub⟩
        cases al with
        | @cons k0 _ l0 _ a1 a2 =>
          simp only [NestedKey.depthAll] at dl
          refine wpAny_bind (cls_keys ks n s1 k0 (sub k0 List.mem_cons_self) v a1 (by omega) A _ _ ?_)
          simp only [Bool.false_eq_true, if_false]
          exact wpAny_pure ⟨rfl, rfl, l0, a2, by omega, fun k m => sub k (List.mem_cons_of_mem _ m)⟩
      · rintro ⟨r1, r2⟩ s1 ⟨e1, rfl, _⟩
        simp only at e1
        subst e1
        exact wpAny_pure q
theorem cls_keys : ∀ (ks : List NK) (n : Nat) (s : Shared) (k : NK), k ∈ ks → ∀ (v : Value), NestedIs s.heap k v → k.depth ≤ n → ∀ (A : Around) (E : Value → Shared → Prop) (Q : Bool → Shared → Prop), Q false s → wpAny (model pg wd) A (ofAClassStatement n v) Q E s
  | [], _, _, _, m, _, _, _, _, _, _, _ => by simp at m
  | k0 :: ks, n, s, k, m, v, x, d, A, E, Q, q => by
    rcases List.mem_cons.mp m with e | m
    · exact cls_key k0 v n s (e ▸ x) (e ▸ d) A E Q q
    · exact cls_keys ks n s k m v x d A E Q q
end
mutual
/-- whether the hash hangs on no text -/
def noText : NK → Bool
  | .text _ => false
  | .tup ks => noTexts ks
  | _ => true
def noTexts : List NK → Bool
  | [] => true
  | k :: ks => noText k && noTexts ks
end
mutual
theorem byv_key : ∀ (k : NK) (v : Value) (n : Nat) (s : Shared), NestedIs s.heap k v → k.depth ≤ n → ∀ (A : Around) (E : Value → Shared → Prop) (Q : Bool → Shared → Prop), Q (noText k) s → wpAny (model pg wd) A (hashByValue n v) Q E s
  | .none, _, n, s, x, _, A, E, Q, q => by cases x; cases n <;> exact wpAny_pure q
  | .num i, _, n, s, x, _, A, E, Q, q => by cases x <;> cases n <;> exact wpAny_pure q
  | .text y, _, n, s, x, _, A, E, Q, q => by cases x; cases n <;> exact wpAny_pure q
  | .tup ks, _, 0, s, x, d, A, E, Q, q => by simp only [NestedKey.depth] at d; omega
  | .tup ks, _, n + 1, s, x, d, A, E, Q, q => by
    cases x with
    | @tup b o vs m _ hg hc hd hk =>
      simp only [NestedKey.depth] at d
      unfold hashByValue
      refine wpAny_bind (wpAny_specialOf (T := "tuple") ⟨o, hg, hc⟩ F.slot_tuple_hash.lookup ?_)
      show wpAny _ _ (seqItems? (.ref b) >>= _) _ _ s
      refine wpAny_bind (wpAny_seqItems hg hd ?_)
      refine wpAny_bind ?_
      show wpAny _ _ (forIn vs _ _) _ _ s
      rw [← Array.forIn_toList]
      refine byv_keys ks vs.toList n s hk (by omega) A E _ ?_
      unfold noText at q
      cases e : noTexts ks with
      | false => rw [e] at q; exact wpAny_pure q
      | true => rw [e] at q; exact wpAny_pure q
theorem byv_keys : ∀ (ks : List NK) (vs : List Value) (n : Nat) (s : Shared), NestedAll s.heap ks vs → NestedKey.depthAll ks ≤ n → ∀ (A : Around) (E : Value → Shared → Prop) (Q : Option Bool × Unit → Shared → Prop), Q (if noTexts ks = true then (none, ()) else (some false, ())) s →
    wpAny (model pg wd) A (forIn vs ((none, ()) : Option Bool × Unit) fun x _ => do
      let y ← hashByValue n x
      if (!y) = true then pure (ForInStep.done ((some false, ()) : Option Bool × Unit)) else pure (ForInStep.yield ((none, ()) : Option Bool × Unit))) Q E s
  | [], _, n, s, x, _, A, E, Q, q => by
    cases x
    exact wpAny_pure q
  | k :: ks, _, n, s, x, d, A, E, Q, q => by
    cases x with
    | @cons _ v _ vs a1 a2 =>
      simp only [NestedKey.depthAll] at d
      rw [List.forIn_cons]
      refine wpAny_bind (wpAny_bind (byv_key k v n s a1 (by omega) A _ _ ?_))
      unfold noTexts at q
      cases e : noText k with
      | false =>
        rw [e] at q
        exact wpAny_pure (wpAny_pure q)
      | true =>
        rw [e] at q
        exact wpAny_pure (byv_keys ks vs n s a2 (by omega) A E Q q)
end
/-- a search of keys by keys tells nothing -/
theorem seen_key {k : NK} {b : Addr} {Q : Bool → Shared → Prop} (x : IsK st.heap k b) {ys : List Value} (al : ∀ y ∈ ys, ∃ k2 c, y = Value.ref c ∧ IsK st.heap k2 c) (q : Q false st) :
    wpAny (model pg wd) ar (searchCouldBeSeen (.ref b) ys) Q Er st := by
  unfold searchCouldBeSeen
  refine wpAny_bind (wpAny_forIn_list _ (fun left r s1 => r.1 = none ∧ s1 = st ∧ ∀ y ∈ left, y ∈ ys) _ (fun y left r s1 z => ?_) (fun r s1 z => ?_) _ _ ⟨rfl, rfl, fun _ m => m⟩)
  · obtain ⟨e1, rfl, sub⟩ := z
    obtain ⟨k2, c, rfl, x2⟩ := al y (sub _ List.mem_cons_self)
    have go : ∀ u ∈ left, u ∈ ys := fun u m => sub u (List.mem_cons_of_mem _ m)
    dsimp only
    by_cases same : (b == c || (carriedByValue (.ref b) && carriedByValue (.ref c))) = true
    · exact wp_if_pos same (wpAny_pure ⟨rfl, rfl, go⟩)
    · refine wp_if_neg same (wpAny_bind (quiet_key k _ 8 s1 x.1 (by have := x.2; omega) ar _ _ ?_))
      simp only [Bool.not_true, Bool.false_eq_true, if_false]
      refine wpAny_bind (quiet_key k2 _ 8 s1 x2.1 (by have := x2.2; omega) ar _ _ ?_)
      simp only [Bool.not_true, Bool.false_eq_true, if_false]
      refine wpAny_bind (cls_key k _ 8 s1 x.1 (by have := x.2; omega) ar _ _ ?_)
      simp only [Bool.false_eq_true, if_false]
      refine wpAny_bind (cls_key k2 _ 8 s1 x2.1 (by have := x2.2; omega) ar _ _ ?_)
      simp only [Bool.false_eq_true, if_false]
      exact wpAny_pure ⟨rfl, rfl, go⟩
  · obtain ⟨r1, r2⟩ := r
    obtain ⟨e1, rfl, _⟩ := z
    cases (show r1 = none from e1)
    exact wpAny_pure q
/-! ### the set -/
abbrev hrow (wd : World) (p : Addr × NK) : Int × Value := (p.2.hash wd, .ref p.1)
/-- the rows L, of unlike keys, are the set at ad -/
structure KyT (wd : World) (hp : Heap) (ad : Addr) (L : List (Addr × NK)) (es : Array (Int × Value)) (ep : Nat) (tb : SetTable) : Prop where
  ob : ∃ o, hp.get? ad = some o ∧ o.ExactSet ∧ o.data = .set es ep tb
  rows : es.toList = L.map (hrow wd)
  tab : TabOk tb (L.map fun p => p.2.hash wd)
  nd : (L.map (·.2)).Nodup
  tup : ∀ p ∈ L, IsK hp p.2 p.1
  led : wd.params.followText "set-order" = true ∨ tb.led = true
  room : L.length * 5 < tb.mask * 3
  few : L.length < 64
variable {ad : Addr} {L : List (Addr × NK)} {es : Array (Int × Value)} {ep : Nat} {tb : SetTable}
theorem rows_size {L : List (Addr × NK)} {es : Array (Int × Value)} (e : es.toList = L.map (hrow wd)) : es.size = L.length := by
  rw [← Array.length_toList, e, List.length_map]
theorem rows_get {L : List (Addr × NK)} {es : Array (Int × Value)} (e : es.toList = L.map (hrow wd)) {i : Nat} {p : Addr × NK} (z : L[i]? = some p) : es[i]? = some (hrow wd p) := by
  rw [← Array.getElem?_toList, e, List.getElem?_map, z]
  rfl
theorem KyT.size (R : KyT wd st.heap ad L es ep tb) : es.size = L.length := rows_size R.rows
theorem KyT.plc (R : KyT wd st.heap ad L es ep tb) : tb.place.toList.length = L.length := by
  rw [Array.length_toList, R.tab.sz, List.length_map]
theorem fits_of {es : Array (Int × Value)} {tb : SetTable} (a : tb.place.size = es.size) (b : tb.dummies = #[]) (c : es.size ≤ tb.mask) : tb.fits es.size = true := by
  unfold SetTable.fits SetTable.fill
  rw [b, Bool.and_eq_true, beq_iff_eq, decide_eq_true_eq]
  refine ⟨a, ?_⟩
  show tb.place.size + 0 ≤ tb.mask
  omega
theorem KyT.fits (R : KyT wd st.heap ad L es ep tb) : tb.fits es.size = true := by
  have a := R.plc
  rw [Array.length_toList] at a
  have b := R.size
  have c := R.room
  exact fits_of (a.trans b.symm) R.tab.dm (by omega)
/-- the c-th step of the way of a hash -/
abbrev stp (t : SetTable) (h : Int) (c : Nat) : SetTable.Probe := nth t.mask (runAt t.mask (SetTable.bits h % (t.mask + 1)) (SetTable.bits h)) c
theorem nth_dm (m : Nat) : ∀ (n : Nat) (p : SetTable.Probe), p.dummy = none → (nth m p n).dummy = none
  | 0, _, z => z
  | n + 1, p, z => nth_dm m n (adv m p) (by unfold adv; split <;> exact z)
theorem stp_j (t : SetTable) (h : Int) (c q : Nat) : (nth t.mask (stp t h c) q).j = way t.mask h (c + q) := congrArg SetTable.Probe.j (nth_add t.mask c _ q).symm
/-- at a candidate: it is looked at -/
theorem look_at (R : KyT wd st.heap ad L es ep tb) {x : Addr} {k : NK} (hx : IsK st.heap k x) (hu : ar.units + 8 < cLine) {i j fuel : Nat} {p : Addr × NK} {next : SetTable.Probe} {Q : SetFound → Shared → Prop} (hp : L[i]? = some p) (hj : tb.place.toList[i]? = some j)
    (yes : p.2 = k → Q (.there none) st) (no : p.2 ≠ k → wpAny (model pg wd) ar (setSearchFrom ad (.ref x) (k.hash wd) true fuel (some next)) Q Er st) :
    wpAny (model pg wd) ar (searchRest ad (.ref x) (k.hash wd) true fuel es tb j i next) Q Er st := by
  obtain ⟨ob, e0, ex, d0⟩ := R.ob
  have xp := R.tup p (List.mem_of_getElem? hp)
  unfold searchRest
  rw [rows_get R.rows hp]
  dsimp only
  refine wpAny_bind (wpAny_holding (eqAt_key p.2 k ar st _ _ xp.1 hx.1 (by have := xp.2; omega) _ _ _ _ ?_))
  refine wpAny_bind (wpAny_setState_of e0 d0 R.fits ?_)
  dsimp only
  by_cases same : p.2 = k
  · rw [same, NestedKey.beq_self]
    simp only [Bool.and_self, if_true]
    exact wpAny_pure (yes same)
  · have nb : NestedKey.beq p.2 k = false := by rw [← NestedKey.decide_eq]; exact decide_eq_false same
    rw [nb]
    simp only [Bool.and_false, Bool.false_eq_true, if_false]
    rw [sameMem]
    dsimp only
    have live : tb.slot j = .live i := slot_live R.tab.ris hj
    simp only [if_true, live, rows_get R.rows hp]
    refine wpAny_bind (wpAny_isSame_ref_self (wpAny_bind (wpAny_pure ?_)))
    simp only [if_true]
    exact no same
/-- the search, from the c-th step on -/
theorem find_from (R : KyT wd st.heap ad L es ep tb) {x : Addr} {k : NK} (hx : IsK st.heap k x) (hu : ar.units + 8 < cLine) {K : Nat} (hKf : K < 10 * SetTable.turns tb.mask)
    (hK : way tb.mask (k.hash wd) K ∉ tb.place.toList) (hKb : ∀ c, c < K → way tb.mask (k.hash wd) c ∈ tb.place.toList) {Q : SetFound → Shared → Prop}
    (yes : k ∈ L.map (·.2) → Q (.there none) st) (no : k ∉ L.map (·.2) → Q (.free (way tb.mask (k.hash wd) K) false) st) :
    ∀ (f c : Nat) (stand : Option SetTable.Probe), stand.getD (tb.probeStart (k.hash wd)) = stp tb (k.hash wd) c → c ≤ K → K < f + c →
      (∀ (i : Nat) p, L[i]? = some p → p.2 = k → ∃ c2, c ≤ c2 ∧ c2 < K ∧ tb.place.toList[i]? = some (way tb.mask (k.hash wd) c2)) →
      wpAny (model pg wd) ar (setSearchFrom ad (.ref x) (k.hash wd) true f stand) Q Er st
  | 0, c, _, _, a, b, _ => absurd b (by omega)
  | f + 1, c, stand, es1, le, lt, ahead => by
    obtain ⟨ob, e0, ex, d0⟩ := R.ob
    have hash_of : ∀ (i : Nat) p, L[i]? = some p → (fun i => (es[i]?.map (·.1)).getD 0) i = p.2.hash wd := fun i p z => by
      show (es[i]?.map (·.1)).getD 0 = _
      rw [rows_get R.rows z]
      rfl
    have sp := go_spec tb R.tab.ris R.tab.dm (fun i => (es[i]?.map (·.1)).getD 0) (k.hash wd) (10 * SetTable.turns tb.mask) (K - c) (stp tb (k.hash wd) c) (nth_dm _ _ _ rfl) (by omega)
      (fun q z => by rw [stp_j]; exact hKb _ (by omega)) (by rw [stp_j, show c + (K - c) = K by omega]; exact hK)
    rw [setSearchFrom_succ]
    refine wpAny_bind (wpAny_setState_of e0 d0 R.fits ?_)
    dsimp only
    refine wp_if_neg (by unfold SetTable.gaveWay; rw [mask_odd R.tab.mok]; decide) ?_
    try refine wpAny_bind (wpAny_pure ?_)
    rcases sp with ⟨q, i, lq, hi, hh, none_, pr⟩ | ⟨none_, pr⟩
    · have pr2 : tb.probe (fun i => (es[i]?.map (·.1)).getD 0) (k.hash wd) (stand.getD (tb.probeStart (k.hash wd))) = some (.candidate (way tb.mask (k.hash wd) (c + q)) i (stp tb (k.hash wd) (c + (q + 1)))) := by
        rw [es1, ← stp_j, show stp tb (k.hash wd) (c + (q + 1)) = nth tb.mask (stp tb (k.hash wd) c) (q + 1) from nth_add tb.mask c _ _]
        exact pr
      rw [pr2]
      dsimp only
      rw [stp_j] at hi
      have il : i < L.length := by
        rw [← R.plc]
        exact (List.getElem?_eq_some_iff.mp hi).1
      obtain ⟨p, hp⟩ : ∃ p, L[i]? = some p := ⟨_, List.getElem?_eq_getElem il⟩
      have live : tb.slot (way tb.mask (k.hash wd) (c + q)) = .live i := slot_live R.tab.ris hi
      have goon : wpAny (model pg wd) ar (searchRest ad (.ref x) (k.hash wd) true f es tb (way tb.mask (k.hash wd) (c + q)) i (stp tb (k.hash wd) (c + (q + 1)))) Q Er st := by
        refine look_at R hx hu hp hi (fun e => yes (List.mem_map.mpr ⟨p, List.mem_of_getElem? hp, e⟩)) fun ne => ?_
        refine find_from R hx hu hKf hK hKb yes no f (c + (q + 1)) _ rfl (by omega) (by omega) fun i0 p0 h0 k0 => ?_
        obtain ⟨c2, l1, l2, a2⟩ := ahead i0 p0 h0 k0
        refine ⟨c2, ?_, l2, a2⟩
        rcases Nat.lt_trichotomy c2 (c + q) with z | z | z
        · exact absurd ((hash_of i0 p0 h0).trans (congrArg (NestedKey.hash wd) k0)) (none_ (c2 - c) i0 (by omega) (by rw [stp_j, show c + (c2 - c) = c2 by omega]; exact a2))
        · rw [z] at a2
          have s0 := slot_live R.tab.ris a2
          rw [live] at s0
          injection s0 with s0
          rw [← s0, hp] at h0
          exact absurd ((congrArg Prod.snd (Option.some.inj h0)).trans k0) ne
        · omega
      by_cases hl : tb.led = true
      · refine wp_if_neg (by simp [hl]) ?_
        try refine wpAny_bind (wpAny_pure ?_)
        exact goon
      · refine wp_if_pos (by simp [hl]) (wpAny_bind (seen_key hx (fun y hy => ?_) ?_))
        · obtain ⟨e, he, rfl⟩ := List.mem_map.mp hy
          have h2 : e ∈ es := (Array.mem_filter.mp (Array.mem_def.mpr he)).1
          have h3 : e ∈ L.map (hrow wd) := R.rows ▸ Array.mem_def.mp h2
          obtain ⟨p2, m2, rfl⟩ := List.mem_map.mp h3
          exact ⟨p2.2, p2.1, rfl, R.tup p2 m2⟩
        · refine wp_if_neg (by decide) ?_
          try refine wpAny_bind (wpAny_pure ?_)
          exact goon
    · have pr2 : tb.probe (fun i => (es[i]?.map (·.1)).getD 0) (k.hash wd) (stand.getD (tb.probeStart (k.hash wd))) = some (.empty (way tb.mask (k.hash wd) K) none) := by
        have e : way tb.mask (k.hash wd) K = (nth tb.mask (stp tb (k.hash wd) c) (K - c)).j := by rw [stp_j, show c + (K - c) = K by omega]
        rw [es1, e]
        exact pr
      rw [pr2]
      dsimp only
      refine wpAny_pure (no fun m => ?_)
      obtain ⟨p0, m0, k0⟩ := List.mem_map.mp m
      obtain ⟨i0, h0⟩ := List.getElem?_of_mem m0
      obtain ⟨c2, l1, l2, a2⟩ := ahead i0 p0 h0 k0
      exact none_ (c2 - c) i0 (by omega) (by rw [stp_j, show c + (c2 - c) = c2 by omega]; exact a2) ((hash_of i0 p0 h0).trans (congrArg (NestedKey.hash wd) k0))
theorem find_at (R : KyT wd st.heap ad L es ep tb) {x : Addr} {k : NK} (hx : IsK st.heap k x) (hu : ar.units + 8 < cLine) {Q : SetFound → Shared → Prop} (yes : k ∈ L.map (·.2) → Q (.there none) st)
    (no : ∀ K, k ∉ L.map (·.2) → way tb.mask (k.hash wd) K ∉ tb.place.toList → (∀ c, c < K → way tb.mask (k.hash wd) c ∈ tb.place.toList) → Q (.free (way tb.mask (k.hash wd) K) false) st) :
    wpAny (model pg wd) ar (setSearch ad (.ref x) (k.hash wd) true) Q Er st := by
  have room := R.room
  obtain ⟨K, l, hK, hKb⟩ := R.tab.first (by rw [List.length_map]; omega) (k.hash wd)
  have big : K < 100000 := by
    have : 10 * SetTable.turns tb.mask ≤ 1420 := by
      unfold SetTable.turns
      rcases R.tab.mok with e | e | e <;> omega
    omega
  unfold setSearch
  refine find_from R hx hu l hK hKb yes (fun z => no K z hK hKb) 100000 0 none rfl (Nat.zero_le _) (by omega) fun i p hp e => ?_
  have hi : (L.map fun p => p.2.hash wd)[i]? = some (k.hash wd) := by rw [List.getElem?_map, hp, ← e]; rfl
  have il : i < tb.place.toList.length := by
    rw [R.plc]
    exact (List.getElem?_eq_some_iff.mp hp).1
  have hj := List.getElem?_eq_getElem il
  obtain ⟨c, lc, z⟩ := R.tab.before hK hi hj
  exact ⟨c, Nat.zero_le _, lc, by rw [hj, z]⟩
/-! ### one more -/
theorem range_rows {α : Type} (L : List α) : (List.range L.length).filterMap (fun i => L[i]?) = L := by
  have key : ∀ n, n ≤ L.length → (List.range n).filterMap (fun i => L[i]?) = L.take n := by
    intro n
    induction n with
    | zero => intro _; rfl
    | succ n ih =>
      intro l
      rw [List.range_succ, List.filterMap_append, ih (by omega), List.take_add_one, List.getElem?_eq_getElem l, List.filterMap_cons_some (List.getElem?_eq_getElem l)]
      rfl
  rw [key _ (Nat.le_refl _), List.take_length]
theorem rows_order {order : Array Nat} (e : es.toList = L.map (hrow wd)) (pm : order.toList.Perm (List.range L.length)) :
    ∃ L2 : List (Addr × NK), (order.filterMap (es[·]?)).toList = L2.map (hrow wd) ∧ L2.Perm L ∧ (L2.map fun p => p.2.hash wd) = order.toList.map fun i => (es.map (·.1)).getD i 0 := by
  have each : ∀ i, es[i]? = (L[i]?).map (hrow wd) := fun i => by rw [← Array.getElem?_toList, e, List.getElem?_map]
  refine ⟨order.toList.filterMap (fun i => L[i]?), ?_, ?_, ?_⟩
  · rw [Array.toList_filterMap, List.map_filterMap]
    congr 1
    funext i
    exact each i
  · have z := pm.filterMap (fun i => L[i]?)
    rwa [range_rows] at z
  · have key : ∀ l : List Nat, (∀ i ∈ l, i < L.length) → ((l.filterMap fun i => L[i]?).map fun p => p.2.hash wd) = l.map fun i => (es.map (·.1)).getD i 0 := by
      intro l
      induction l with
      | nil => intro _; rfl
      | cons i l ih =>
        intro h
        have li := h i List.mem_cons_self
        have z : (es.map (·.1))[i]? = some ((L[i]).2.hash wd) := by
          rw [Array.getElem?_map, each, List.getElem?_eq_getElem li]
          rfl
        rw [List.filterMap_cons_some (List.getElem?_eq_getElem li), List.map_cons, List.map_cons, ih fun j m => h j (List.mem_cons_of_mem _ m)]
        congr 1
        rw [Array.getD_eq_getD_getElem?, z]
        rfl
    exact key _ fun i m => List.mem_range.mp (pm.mem_iff.mp m)
/-- the table laid anew -/
theorem lay_anew {ob : Obj} (e0 : st.heap.get? ad = some ob) (ex : ob.ExactSet) (d0 : ob.data = .set es ep tb) (rows : es.toList = L.map (hrow wd)) (sz : tb.place.size = es.size) (dm : tb.dummies = #[]) (fl : es.size ≤ tb.mask)
    (nd : (L.map (·.2)).Nodup) (tup : ∀ p ∈ L, IsK st.heap p.2 p.1) (ld : wd.params.followText "set-order" = true ∨ tb.led = true) (few : L.length < 64) {want M : Nat}
    (w1 : SetTable.sizeAbove want - 1 = M) (w2 : MaskOk M) (w3 : SetTable.sizeAbove want ≤ 128) (w4 : L.length * 5 < M * 3) {Q : Unit → Shared → Prop}
    (q : ∀ h2 L2 es2 ep2 tb2, Heap.SameBut ad st.heap h2 → KyT wd h2 ad L2 es2 ep2 tb2 → L2.Perm L → Q () { st with heap := h2 }) : wpAny (model pg wd) ar (setRelay ad want) Q Er st := by
  have sL : es.size = L.length := rows_size rows
  obtain ⟨tb2, order, er, pm, T, em, el, epl, edm⟩ := relaid_ok tb (hs := es.map (·.1)) (wanted := want) w1 w2 (by rw [Array.size_map]; omega)
  rw [Array.size_map, sL] at pm
  obtain ⟨L2, r1, r2, r3⟩ := rows_order rows pm
  rw [← r3] at T
  have s2 : (order.filterMap (es[·]?)).size = L.length := by rw [rows_size r1, r2.length_eq]
  rw [setRelay_eq]
  refine wpAny_bind (wpAny_setState_of e0 d0 (fits_of sz dm fl) ?_)
  dsimp only
  refine wp_if_neg (by rw [sizeLine_eq]; omega) ?_
  try refine wpAny_bind (wpAny_pure ?_)
  rw [er]
  dsimp only
  refine wpAny_bind (wp_if_neg (by rw [s2, sL]; simp) ?_)
  try refine wpAny_bind (wpAny_pure ?_)
  refine wpAny_pure ?_
  dsimp only
  have sb : Heap.SameBut ad st.heap (st.heap.update ad (Obj.putSet (order.filterMap (es[·]?)) tb2)) := Heap.SameBut.update ..
  refine wpAny_storeSet_of e0 d0 (q _ L2 _ (ep + 1) tb2 sb ⟨⟨_, store_at e0 d0, ⟨ex.1, ex.2.1, ex.2.2⟩, rfl⟩, r1, T, (r2.map (·.2)).nodup_iff.mpr nd, fun p m => (tup p (r2.mem_iff.mp m)).same e0 d0 sb, by rw [el]; exact ld, by rw [r2.length_eq, em]; exact w4, by rw [r2.length_eq]; exact few⟩ r2) (by rw [s2, sizeLine_eq]; omega)
theorem ins_perm {α : Type} (l : List α) (p : Nat) (x : α) : (l.take p ++ x :: l.drop p).Perm (x :: l) := by
  refine List.perm_middle.trans ?_
  rw [List.take_append_drop]
/-- a key is put -/
theorem ky_add (R : KyT wd st.heap ad L es ep tb) {x : Addr} {k : NK} (hx : IsK st.heap k x) (hu : ar.units + 8 < cLine) (few : L.length + 1 < 64) {Q : Bool → Shared → Prop}
    (q : ∀ b h2 L2 es2 ep2 tb2, Heap.SameBut ad st.heap h2 → KyT wd h2 ad L2 es2 ep2 tb2 → (k ∈ L.map (·.2) → L2 = L) → (k ∉ L.map (·.2) → L2.Perm ((x, k) :: L)) → Q b { st with heap := h2 }) :
    wpAny (model pg wd) ar (setAddHashed ad (.ref x) (k.hash wd)) Q Er st := by
  obtain ⟨ob, e0, ex, d0⟩ := R.ob
  have sL := R.size
  have room := R.room
  unfold setAddHashed
  refine wpAny_holding ?_
  rw [show (100000 : Nat) = 99999 + 1 from rfl, setAddHashedIn_succ]
  refine wpAny_bind (wpAny_setState_of e0 d0 R.fits ?_)
  dsimp only
  refine wp_if_neg (by simp [byScan, Value.scannable]) ?_
  try refine wpAny_bind (wpAny_pure ?_)
  refine wpAny_bind (find_at R hx hu (fun m => ?_) fun K out hK hKb => ?_)
  · exact wpAny_pure (q false st.heap L es ep tb (Heap.SameBut.refl ad st.heap) R (fun _ => rfl) fun z => absurd m z)
  dsimp only
  refine wpAny_bind (wpAny_setState_of e0 d0 R.fits ?_)
  dsimp only
  obtain ⟨p1, p2, p3, p4, p5, _, _, _, p9⟩ := R.tab.put hK hKb
  generalize tb.put (way tb.mask (k.hash wd) K) = pt at p1 p3 p4 p5 p9 ⊢
  obtain ⟨t1, pl⟩ := pt
  dsimp only at p1 p3 p4 p5 p9 ⊢
  subst p1
  generalize SetTable.below tb.place (way tb.mask (k.hash wd) K) = c at p2 p3 ⊢
  have rest : ∀ b : Bool, wpAny (model pg wd) ar (do
      storeSet ad (SetTable.insertAt es c (k.hash wd, Value.ref x)) (if b = true then t1 else { t1 with plain := false })
      if (!false && (if b = true then t1 else { t1 with plain := false }).tooFull) = true then
        setRelay ad (SetTable.grown (es.size + 1))
        pure true
      else pure true) Q Er st := by
    intro b
    have same : ∃ t2 : SetTable, (if b = true then t1 else { t1 with plain := false }) = t2 ∧ t2.mask = t1.mask ∧ t2.led = t1.led ∧ t2.fill = t1.fill ∧ t2.place = t1.place ∧ t2.dummies = t1.dummies ∧ t2.tooFull = t1.tooFull := by
      cases b
      · exact ⟨_, rfl, rfl, rfl, rfl, rfl, rfl, rfl⟩
      · exact ⟨_, rfl, rfl, rfl, rfl, rfl, rfl, rfl⟩
    obtain ⟨t2, et, m1, m2, m3, m4, m5, m6⟩ := same
    rw [et]
    have tab : TabOk t2 ((L.map fun p => p.2.hash wd).take c ++ k.hash wd :: (L.map fun p => p.2.hash wd).drop c) :=
      ⟨by rw [m4]; exact p3.ris, by rw [m5]; exact p3.dm, by rw [m4]; exact p3.sz, by rw [m1]; exact p3.mok, by rw [m4, m1]; exact p3.bd, by rw [m4, m1]; exact p3.reach⟩
    have rows : (SetTable.insertAt es c (k.hash wd, Value.ref x)).toList = (L.take c ++ (x, k) :: L.drop c).map (hrow wd) := by
      rw [SetTable.toList_insertAt, R.rows, List.map_append, List.map_cons, List.map_take, List.map_drop]
    have pm := ins_perm L c (x, k)
    have len := pm.length_eq
    rw [List.length_cons] at len
    rw [show (L.map fun p => p.2.hash wd).take c ++ k.hash wd :: (L.map fun p => p.2.hash wd).drop c = (L.take c ++ (x, k) :: L.drop c).map fun p => p.2.hash wd by rw [List.map_append, List.map_cons, List.map_take, List.map_drop]] at tab
    have nd1 : ((L.take c ++ (x, k) :: L.drop c).map (·.2)).Nodup := (pm.map (·.2)).nodup_iff.mpr (List.nodup_cons.mpr ⟨out, R.nd⟩)
    have sz1 := rows_size rows
    rw [len] at sz1
    generalize SetTable.insertAt es c (k.hash wd, Value.ref x) = es1 at rows sz1 ⊢
    generalize L.take c ++ (x, k) :: L.drop c = L1 at pm len tab nd1 rows
    refine wpAny_bind (wpAny_storeSet_of e0 d0 ?_ (by rw [sz1, sizeLine_eq]; omega))
    have sb : Heap.SameBut ad st.heap (st.heap.update ad (Obj.putSet es1 t2)) := Heap.SameBut.update ..
    have e1 := store_at (es' := es1) (t' := t2) e0 d0
    generalize st.heap.update ad (Obj.putSet es1 t2) = h1 at sb e1 ⊢
    have tup1 : ∀ p ∈ L1, IsK h1 p.2 p.1 := fun p m => by
      rcases List.mem_cons.mp (pm.mem_iff.mp m) with z | z
      · rw [z]; exact hx.same e0 d0 sb
      · exact (R.tup p z).same e0 d0 sb
    have ld1 : wd.params.followText "set-order" = true ∨ t2.led = true := by rw [m2, p5]; exact R.led
    have full : t2.tooFull = decide ((L.length + 1) * 5 ≥ tb.mask * 3) := by
      rw [m6]
      unfold SetTable.tooFull
      rw [p9, List.length_map, p4]
    by_cases f : (L.length + 1) * 5 ≥ tb.mask * 3
    · refine wp_if_pos (by rw [full]; simp [f]) ?_
      have which : (tb.mask = 7 ∧ L.length = 4) ∨ (tb.mask = 31 ∧ L.length = 18) := by
        rcases R.tab.mok with e | e | e
        · left; rw [e] at f room; exact ⟨e, by omega⟩
        · right; rw [e] at f room; exact ⟨e, by omega⟩
        · exfalso; rw [e] at f; omega
      have sz2 : t2.place.size = es1.size := by
        have z := tab.sz
        rw [List.length_map, len] at z
        rw [z, sz1]
      have go : ∀ M, SetTable.sizeAbove (SetTable.grown (L.length + 1)) - 1 = M → MaskOk M → SetTable.sizeAbove (SetTable.grown (L.length + 1)) ≤ 128 → (L.length + 1) * 5 < M * 3 →
          wpAny (model pg wd) ar (setRelay ad (SetTable.grown (L.length + 1))) (fun _ s2 => wpAny (model pg wd) ar (pure true) Q Er s2) Er { st with heap := h1 } := fun M a1 a2 a3 a4 =>
        lay_anew (st := { st with heap := h1 }) e1 ⟨ex.1, ex.2.1, ex.2.2⟩ rfl rows sz2 tab.dm (by rw [sz1, m1, p4]; rcases which with ⟨e, e2⟩ | ⟨e, e2⟩ <;> omega) nd1 tup1 ld1 (by rw [len]; exact few) a1 a2 a3 (by rw [len]; exact a4)
          fun h2 L2 es2 ep2 tb2 sb2 R2 pm2 => wpAny_pure (q true h2 L2 es2 ep2 tb2 (sb.trans sb2) R2 (fun z => absurd z out) fun _ => pm2.trans pm)
      rw [sL]
      refine wpAny_bind ?_
      rcases which with ⟨_, e⟩ | ⟨_, e⟩
      · exact go 31 (by rw [e, size_20]) (.inr (.inl rfl)) (by rw [e, size_20]; decide) (by omega)
      · exact go 127 (by rw [e, size_76]) (.inr (.inr rfl)) (by rw [e, size_76]; decide) (by omega)
    · refine wp_if_neg (by rw [full]; simp [f]) ?_
      exact wpAny_pure (q true h1 L1 es1 (ep + 1) t2 sb ⟨⟨_, e1, ⟨ex.1, ex.2.1, ex.2.2⟩, rfl⟩, rows, tab, nd1, tup1, ld1, by rw [len, m1, p4]; omega, by rw [len]; exact few⟩ (fun z => absurd z out) fun _ => pm)
  by_cases pln : t1.plain = true
  · first
      | (refine wpAny_bind (wp_if_pos pln (byv_key k _ 8 st hx.1 (by have := hx.2; omega) ar _ _ ?_)); exact rest _)
      | (refine wp_if_pos pln (wpAny_bind (byv_key k _ 8 st hx.1 (by have := hx.2; omega) ar _ _ ?_)); exact rest _)
  · first
      | (refine wpAny_bind (wp_if_neg pln (wpAny_pure ?_)); exact rest true)
      | (refine wp_if_neg pln (wpAny_bind (wpAny_pure ?_)); exact rest true)
end
end M
/-! MSortN: sorted(set(rows of tuples)). -/
namespace M
open PySem PySem.Spec PyProof.Rows L2
/-! ### keys as data -/
mutual
theorem nk_data : ∀ (d : D), keyB d = true → (nkOf d).data = d
  | .int _, _ => rfl
  | .str _, _ => rfl
  | .tuple l, h => by
    show PyData.tuple (NestedKey.datas (nksOf l)) = _
    rw [nks_data l h]
  | .none, h => nomatch h
  | .bool _, h => nomatch h
  | .list _, h => nomatch h
  | .dict _, h => nomatch h
theorem nks_data : ∀ (l : List D), keysB l = true → NestedKey.datas (nksOf l) = l
  | [], _ => rfl
  | d :: l, h => by
    have h := Bool.and_eq_true_iff.mp (show (keyB d && keysB l) = true from h)
    show (nkOf d).data :: NestedKey.datas (nksOf l) = _
    rw [nk_data d h.1, nks_data l h.2]
end
mutual
theorem nk_is {hp : Heap} : ∀ (d : D) (v : Value) (as : List Addr), keyB d = true → Reads hp v d as → NestedIs hp (nkOf d) v
  | .int i, _, _, _, r => by cases r; exact .int _ _
  | .str x, _, _, _, r => by cases r; exact .text _ _
  | .tuple l, _, _, h, r => by
    cases r with
    | tuple e0 c0 d0 rs => exact .tup e0 c0 d0 (nks_is l _ _ h rs)
  | .none, _, _, h, _ => nomatch h
  | .bool _, _, _, h, _ => nomatch h
  | .list _, _, _, h, _ => nomatch h
  | .dict _, _, _, h, _ => nomatch h
theorem nks_is {hp : Heap} : ∀ (l : List D) (vs : List Value) (as : List Addr), keysB l = true → ReadsAll hp vs l as → NestedAll hp (nksOf l) vs
  | [], _, _, _, r => by cases r; exact .nil
  | d :: l, _, _, h, r => by
    have h := Bool.and_eq_true_iff.mp (show (keyB d && keysB l) = true from h)
    cases r with
    | cons a b => exact .cons (nk_is d _ _ h.1 a) (nks_is l _ _ h.2 b)
end
theorem nk_inj {d e : D} (hd : keyB d = true) (he : keyB e = true) (z : nkOf d = nkOf e) : d = e := by rw [← nk_data d hd, z, nk_data e he]
theorem keys_mem : ∀ {l : List D}, keysB l = true → ∀ d ∈ l, keyB d = true
  | [], _, d, m => by simp at m
  | e :: l, h, d, m => by
    have h := Bool.and_eq_true_iff.mp (show (keyB e && keysB l) = true from h)
    rcases List.mem_cons.mp m with z | m
    · rw [z]; exact h.1
    · exact keys_mem h.2 d m
theorem putK_mem {T : List D} {x y : D} (h : keysB T = true) (hx : keyB x = true) : y ∈ putK T x ↔ y ∈ T ∨ y = x := by
  unfold putK
  by_cases z : (T.any fun y => decide (nkOf y = nkOf x)) = true
  · rw [if_pos z]
    obtain ⟨u, mu, e⟩ := List.any_eq_true.mp z
    have e2 := nk_inj (keys_mem h u mu) hx (of_decide_eq_true e)
    exact ⟨.inl, fun q => q.elim id fun q => by rw [q, ← e2]; exact mu⟩
  · rw [if_neg z, List.mem_append, List.mem_singleton]
theorem keysB_of {l : List D} (h : ∀ d ∈ l, keyB d = true) : keysB l = true := by
  induction l with
  | nil => rfl
  | cons d l ih => exact Bool.and_eq_true_iff.mpr ⟨h d List.mem_cons_self, ih fun e m => h e (List.mem_cons_of_mem _ m)⟩
theorem putK_keys {T : List D} {x : D} (h : keysB T = true) (hx : keyB x = true) : keysB (putK T x) = true :=
  keysB_of fun d m => ((putK_mem h hx).mp m).elim (keys_mem h d) fun e => e ▸ hx
theorem putK_nodup {T : List D} {x : D} (n : (T.map nkOf).Nodup) : ((putK T x).map nkOf).Nodup := by
  unfold putK
  by_cases z : (T.any fun y => decide (nkOf y = nkOf x)) = true
  · rw [if_pos z]; exact n
  · rw [if_neg z, List.map_append]
    refine List.nodup_append.mpr ⟨n, by simp, fun a ma b mb e => z ?_⟩
    rw [List.map_singleton, List.mem_singleton] at mb
    obtain ⟨u, mu, rfl⟩ := List.mem_map.mp ma
    exact List.any_eq_true.mpr ⟨u, mu, decide_eq_true (e.trans mb)⟩
theorem uniqK_all : ∀ (l T : List D), keysB T = true → keysB l = true → (T.map nkOf).Nodup → (∀ y, y ∈ uniqK T l ↔ y ∈ T ∨ y ∈ l) ∧ ((uniqK T l).map nkOf).Nodup
  | [], T, _, _, n => ⟨fun y => by simp [uniqK], n⟩
  | x :: l, T, h, g, n => by
    have g2 := Bool.and_eq_true_iff.mp (show (keyB x && keysB l) = true from g)
    obtain ⟨a, b⟩ := uniqK_all l (putK T x) (putK_keys h g2.1) g2.2 (putK_nodup n)
    refine ⟨fun y => ?_, b⟩
    show y ∈ uniqK (putK T x) l ↔ _
    rw [a, putK_mem h g2.1, List.mem_cons, or_assoc]
theorem uniqK_mem {l : List D} (h : keysB l = true) {y : D} : y ∈ uniqK [] l ↔ y ∈ l := by
  rw [(uniqK_all l [] rfl h (by simp)).1]
  simp
theorem uniqK_nodup {l : List D} (h : keysB l = true) : (uniqK [] l).Nodup := List.Pairwise.of_map nkOf (fun _ _ ne e => ne (congrArg _ e)) (uniqK_all l [] rfl h (by simp)).2
/-! ### the order tells keys apart -/
mutual
theorem eqv_key : ∀ (x y : D), keyB x = true → keyB y = true → PyData.eqv x y = true → x = y
  | .int i, .int j, _, _, h => by simp [PyData.eqv] at h; rw [h]
  | .str i, .str j, _, _, h => by simp [PyData.eqv] at h; rw [h]
  | .tuple l, .tuple m, a, b, h => by rw [eqv_keys l m a b (by simpa [PyData.eqv] using h)]
  | .int _, .str _, _, _, h => by simp [PyData.eqv] at h
  | .int _, .tuple _, _, _, h => by simp [PyData.eqv] at h
  | .str _, .int _, _, _, h => by simp [PyData.eqv] at h
  | .str _, .tuple _, _, _, h => by simp [PyData.eqv] at h
  | .tuple _, .int _, _, _, h => by simp [PyData.eqv] at h
  | .tuple _, .str _, _, _, h => by simp [PyData.eqv] at h
  | .none, _, h, _, _ => nomatch h
  | .bool _, _, h, _, _ => nomatch h
  | .list _, _, h, _, _ => nomatch h
  | .dict _, _, h, _, _ => nomatch h
  | _, .none, _, h, _ => nomatch h
  | _, .bool _, _, h, _ => nomatch h
  | _, .list _, _, h, _ => nomatch h
  | _, .dict _, _, h, _ => nomatch h
theorem eqv_keys : ∀ (x y : List D), keysB x = true → keysB y = true → PyData.eqvAll x y = true → x = y
  | [], [], _, _, _ => rfl
  | [], _ :: _, _, _, h => by simp [PyData.eqvAll] at h
  | _ :: _, [], _, _, h => by simp [PyData.eqvAll] at h
  | d :: l, e :: m, a, b, h => by
    have a := Bool.and_eq_true_iff.mp (show (keyB d && keysB l) = true from a)
    have b := Bool.and_eq_true_iff.mp (show (keyB e && keysB m) = true from b)
    have h := Bool.and_eq_true_iff.mp (show (PyData.eqv d e && PyData.eqvAll l m) = true from by simpa [PyData.eqvAll] using h)
    rw [eqv_key d e a.1 b.1 h.1, eqv_keys l m a.2 b.2 h.2]
end
theorem enc_eqv {x y : D} (c : cmpD x y = true) (e : enc x = enc y) : PyData.eqv x y = true := by
  cases z : PyData.eqv x y with
  | true => rfl
  | false =>
    exfalso
    have a := (enc_lt x y c z [0] [1]).mp (by rw [e]; exact (lt_pre _ _ _).mpr (by decide))
    have b := (enc_lt x y c z [] []).mpr a
    rw [e] at b
    exact List.lt_irrefl _ b
theorem ltE_tot {x y : D} (kx : keyB x = true) (ky : keyB y = true) (c : cmpD x y = true) (h1 : ltE x y = false) (h2 : ltE y x = false) : x = y := by
  have a : ¬ enc x < enc y := of_decide_eq_false h1
  have b : ¬ enc y < enc x := of_decide_eq_false h2
  exact eqv_key x y kx ky (enc_eqv c (List.le_antisymm (List.not_lt.mp b) (List.not_lt.mp a)))
/-- of unlike keys there is one sorted row -/
theorem sortD_keys {l m : List D} (k : keysB l = true) (c : ∀ x ∈ l, ∀ y ∈ l, cmpD x y = true) (p : l.Perm m) : sortD l = sortD m := by
  refine rise_uniq (fun x mx y my h1 h2 => ?_) (sortD_rise l) (sortD_rise m) ((sortD_perm l).trans (p.trans (sortD_perm m).symm))
  have mx := (sortD_perm l).mem_iff.mp mx
  have my := (sortD_perm l).mem_iff.mp my
  exact ltE_tot (keys_mem k x mx) (keys_mem k y my) (c x mx y my) h1 h2
/-! ### the set, walked into -/
section
variable {pg : Program} {wd : World} {ar : Around} {Er : Value → Shared → Prop} {st : Shared}
/-- what stands of the first i rows -/
structure GotN (ks : List (Addr × NK)) (i : Nat) (L : List (Addr × NK)) : Prop where
  sub : ∀ p ∈ L, p ∈ ks.take i
  all : ∀ p ∈ ks.take i, p.2 ∈ L.map (·.2)
  len : L.length ≤ i
theorem GotN.next {ks L L2 : List (Addr × NK)} {i : Nat} {x : Addr} {k : NK} (g : GotN ks i L) (e : ks[i]? = some (x, k)) (a : k ∈ L.map (·.2) → L2 = L) (b : k ∉ L.map (·.2) → L2.Perm ((x, k) :: L)) : GotN ks (i + 1) L2 := by
  have tk : ks.take (i + 1) = ks.take i ++ [(x, k)] := by rw [List.take_add_one, e]; rfl
  by_cases m : k ∈ L.map (·.2)
  · rw [a m]
    refine ⟨fun p q => by rw [tk]; exact List.mem_append_left _ (g.sub p q), fun p q => ?_, Nat.le_succ_of_le g.len⟩
    rw [tk] at q
    rcases List.mem_append.mp q with q | q
    · exact g.all p q
    · rw [List.mem_singleton.mp q]; exact m
  · have pm := b m
    refine ⟨fun p q => ?_, fun p q => ?_, by rw [pm.length_eq]; exact Nat.succ_le_succ g.len⟩
    · rw [tk]
      rcases List.mem_cons.mp (pm.mem_iff.mp q) with q | q
      · rw [q]; exact List.mem_append_right _ (List.mem_singleton.mpr rfl)
      · exact List.mem_append_left _ (g.sub p q)
    · rw [tk] at q
      refine (pm.map (·.2)).mem_iff.mpr ?_
      rcases List.mem_append.mp q with q | q
      · exact List.mem_cons_of_mem _ (g.all p q)
      · rw [List.mem_singleton.mp q]; exact List.mem_cons_self
theorem KyT.keep {hp hp' : Heap} {ad : Addr} {L : List (Addr × NK)} {es : Array (Int × Value)} {ep : Nat} {tb : SetTable} (R : KyT wd hp ad L es ep tb) (a : ∀ o, hp.get? ad = some o → hp'.get? ad = some o) (t : ∀ p ∈ L, IsK hp' p.2 p.1) : KyT wd hp' ad L es ep tb := by
  obtain ⟨ob, e0, r⟩ := R.ob
  exact ⟨⟨ob, a ob e0, r⟩, R.rows, R.tab, R.nd, t, R.led, R.room, R.few⟩
theorem ky_none {hp : Heap} {ad : Addr} (e : hp.get? ad = some (noSet wd)) : ∃ tb, KyT wd hp ad [] #[] 0 tb := by
  refine ⟨_, ⟨_, e, ⟨rfl, rfl, rfl⟩, rfl⟩, rfl, ⟨List.Pairwise.nil, rfl, rfl, .inl rfl, fun x m => (by cases m), fun i h j z => (by simp at z)⟩, List.nodup_nil, fun p m => (by cases m), ?_, ?_, ?_⟩
  · show _ ∨ (!wd.params.followText "set-order") = true
    cases wd.params.followText "set-order"
    · exact .inr rfl
    · exact .inl rfl
  · show 0 * 5 < 7 * 3
    decide
  · show 0 < 64
    decide
theorem ky_loop {it : Addr} {fp wr : List Addr} {G : Array GenState → Array GenState → Prop} {n : Nat} {Pv : Nat → Value → Prop} {Sv : Nat → Shared → Prop} {R : Result → Shared → Prop}
    (walk : WalksS pg wd ar.in1 it fp wr G n Pv Sv) (ad : Addr) (out : ad ∉ fp) (ks : List (Addr × NK)) (len : n = ks.length) (few : ks.length < 64) (val : ∀ i v, Pv i v → ∃ p, ks[i]? = some p ∧ v = .ref p.1)
    (h0 : Heap) (isk : ∀ p ∈ ks, IsK h0 p.2 p.1) (ad0 : h0.get? ad = none) (wr0 : ∀ b ∈ wr, h0.get? b = none) (hu : ar.units + 9 < cLine) :
    ∀ (left i : Nat) (s0 : Shared), n - i = left → i ≤ n → Sv i s0 → (∀ b o, h0.get? b = some o → s0.heap.get? b = some o) → (∃ L es ep tb, KyT wd s0.heap ad L es ep tb ∧ GotN ks i L) →
      (∀ s1 L es ep tb, Moved (ad :: wr) G s0 s1 → KyT wd s1.heap ad L es ep tb → GotN ks n L → (∀ b o, h0.get? b = some o → s1.heap.get? b = some o) → R (.ok (.ret .none)) s1) →
      codeAny (model pg wd) ar (.builtin "set.update.loop" ⟨[.ref ad, .ref it], []⟩) R s0 := by
  have outw : ad ∉ wr := fun z => out (walk.sub _ z)
  have more : ∀ b ∈ wr, b ∈ ad :: wr := fun b m => List.mem_cons_of_mem _ m
  have units : ar.in1.units + 8 < cLine := by show ar.units + 1 + 8 < cLine; omega
  intro left
  induction left with
  | zero =>
    intro i s0 e le sv k0 ⟨L, es, ep, tb, ky, g⟩ fin
    obtain rfl : i = n := by omega
    refine codeAny_builtin PyProof.Rows.F.entry_set_update_loop ?_
    rw [Around.under_plainId PyProof.Rows.F.plain_set_update_loop _]
    show wpAny _ ar.in1 (pyNext (.ref it) >>= _) _ _ s0
    refine wpAny_bind (walk.done s0 _ _ sv fun s1 mv => ?_)
    have k1 : ∀ b o, h0.get? b = some o → s1.heap.get? b = some o := fun b o q => mv.heap b o (fun z => by rw [wr0 b z] at q; cases q) (k0 b o q)
    exact wpAny_pure (fin s1 L es ep tb (mv.mono more) (ky.keep (fun o q => mv.heap ad o outw q) fun p m => (isk p (List.mem_of_mem_take (g.sub p m))).keep k1) g k1)
  | succ left ih =>
    intro i s0 e le sv k0 ⟨L, es, ep, tb, ky, g⟩ fin
    have lt : i < n := by omega
    refine codeAny_builtin PyProof.Rows.F.entry_set_update_loop ?_
    rw [Around.under_plainId PyProof.Rows.F.plain_set_update_loop _]
    show wpAny _ ar.in1 (pyNext (.ref it) >>= _) _ _ s0
    refine wpAny_bind (walk.item i s0 _ _ lt sv fun v s1 pv sv1 mv => ?_)
    obtain ⟨⟨x, k⟩, ex, rfl⟩ := val i v pv
    have k1 : ∀ b o, h0.get? b = some o → s1.heap.get? b = some o := fun b o q => mv.heap b o (fun z => by rw [wr0 b z] at q; cases q) (k0 b o q)
    have ky1 : KyT wd s1.heap ad L es ep tb := ky.keep (fun o q => mv.heap ad o outw q) fun p m => (isk p (List.mem_of_mem_take (g.sub p m))).keep k1
    have xk : IsK s1.heap k x := (isk _ (List.mem_of_getElem? ex)).keep k1
    show wpAny _ ar.in1 (holding [Value.ref x] (setAdd ad (.ref x)) >>= _) _ _ s1
    refine wpAny_bind (wpAny_holding ?_)
    unfold setAdd
    refine wpAny_holding (wpAny_bind (pyHash_key k _ ar.in1 s1 _ xk.1 (by have := xk.2; omega) ?_))
    refine ky_add (st := { s1 with toks := s1.toks + k.draws }) ky1 xk units (by have := g.len; omega) fun b h2 L2 es2 ep2 tb2 sb ky2 a2 b2 => ?_
    have k2 : ∀ b o, h0.get? b = some o → h2.get? b = some o := fun b o q => (sb.2 b fun z => by rw [z, ad0] at q; cases q).trans (k1 b o q)
    refine wpAny_pure ⟨plainId_quiet PyProof.Rows.F.plain_set_update_loop _, ih (i + 1) _ (by omega) lt (walk.frame _ s1 _ _ sv1 (Nat.le_add_right _ _) fun b m o q => ?_) k2 ⟨L2, es2, ep2, tb2, ky2, g.next ex a2 b2⟩ fun s2 L3 es3 ep3 tb3 mv2 ky3 g3 k3 => ?_⟩
    · rw [sb.2 b (fun z : b = ad => out (z ▸ m))]
      exact q
    · refine fin s2 L3 es3 ep3 tb3 (Moved.trans walk.gtrans ((mv.mono more).then_heap (Nat.le_add_right _ _) fun b o m q => ?_) mv2) ky3 g3 k3
      rw [sb.2 b (fun z : b = ad => m (by rw [z]; exact List.mem_cons_self))]
      exact q
/-- set(x), x a list or a tuple of keys -/
theorem set_keys {l : Addr} {T : String} {ob : Obj} {its : Array Value} {nl : Nat} (ks : List (Addr × NK)) {Q : Value → Shared → Prop} (nh : ar.handled = none) (hT : T = "list" ∨ T = "tuple") (e0 : st.heap.get? l = some ob) (c0 : ob.cls = .type T) (d0 : ob.data = .seq its nl)
    (are : its.toList = ks.map fun p => Value.ref p.1) (isk : ∀ p ∈ ks, IsK st.heap p.2 p.1) (few : ks.length < 64) (hu : ar.units + 12 < cLine)
    (fin : ∀ (h2 : Heap) (tk : Nat) L es ep tb, KyT wd h2 st.heap.objs.size L es ep tb → GotN ks ks.length L → (∀ b o, st.heap.get? b = some o → h2.get? b = some o) → Q (.ref st.heap.objs.size) { st with heap := h2, toks := tk }) :
    wpAny (model pg wd) ar (call (.type "set") [.ref l]) Q Er st := by
  have sz : its.size = ks.length := by rw [← Array.length_toList, are, List.length_map]
  have val : ∀ (i : Nat) (v : Value), its[i]? = some v → ∃ p, ks[i]? = some p ∧ v = .ref p.1 := fun i v q => by
    rw [← Array.getElem?_toList, are, List.getElem?_map] at q
    obtain ⟨p, e, rfl⟩ := Option.map_eq_some_iff.mp q
    exact ⟨p, e, rfl⟩
  have gone : ∀ b, st.heap.objs.size ≤ b → st.heap.get? b = none := fun b le => by
    cases q : st.heap.get? b with
    | none => rfl
    | some o => exact absurd (Nat.lt_of_lt_of_le (Heap.lt_size q) le) (Nat.lt_irrefl _)
  have wr0 : ∀ b ∈ [(st.heap.push (noSet wd)).objs.size], st.heap.get? b = none := fun b m => gone b (by rw [List.mem_singleton.mp m, Heap.size_push]; exact Nat.le_succ _)
  have lt : l < st.heap.objs.size := Heap.lt_size e0
  have out : st.heap.objs.size ∉ [(st.heap.push (noSet wd)).objs.size, l] := by
    rw [Heap.size_push]
    simp only [List.mem_cons, List.not_mem_nil, or_false, not_or]
    exact ⟨fun z => Nat.lt_irrefl _ (Nat.lt_of_lt_of_eq (Nat.lt_succ_self _) z.symm), fun z => Nat.lt_irrefl l (z ▸ lt)⟩
  refine set_call (fun h2 => ∃ L es ep tb, KyT wd h2 st.heap.objs.size L es ep tb ∧ GotN ks ks.length L) nh hT e0 c0 d0 (fun hp3 Sv walk sv kp here R q => ?_) fun h2 tk ⟨L, es, ep, tb, ky, g⟩ kp => fin h2 tk L es ep tb ky g kp
  obtain ⟨tb0, ky0⟩ := ky_none here
  refine ky_loop walk st.heap.objs.size out ks sz few val st.heap isk (gone _ (Nat.le_refl _)) wr0 (by show ar.units + 1 + 1 + 9 < cLine; omega) (its.size - 0) 0 _ (by omega) (Nat.zero_le _) sv kp ⟨[], _, _, tb0, ky0, ⟨fun p m => (by cases m), fun p m => (by simp at m), Nat.le_refl _⟩⟩ fun s3 L es ep tb mv ky g k3 => ?_
  rw [sz] at g
  exact q s3 mv ⟨L, es, ep, tb, ky, g⟩ k3
end
end M
/-! MSortK: sorted of a set of keys; as a rule. -/
namespace M
open PySem PySem.Spec PyProof.Rows L2
open SrtO
section
variable {pg : Program} {wd : World} {ar : Around} {Er : Value → Shared → Prop} {st : Shared} {ad : Addr} {L : List (Addr × NK)} {es : Array (Int × Value)} {ep : Nat} {tb : SetTable}
theorem reads_back {hp : Heap} : ∀ (vs : List Value), (∀ v ∈ vs, ∃ d as, d.canLay0 = true ∧ Reads hp v d as) → ∃ as, ReadsAll hp vs (vs.map (SeqAt.readOf hp)) as
  | [], _ => ⟨_, .nil⟩
  | v :: vs, h => by
    obtain ⟨d, as, c, r⟩ := h v List.mem_cons_self
    obtain ⟨bs, rs⟩ := reads_back vs fun u m => h u (List.mem_cons_of_mem _ m)
    refine ⟨as ++ bs, ?_⟩
    rw [List.map_cons, SeqAt.readOf_eq c r]
    exact .cons r rs
theorem lays_of : ∀ {l : List D}, (∀ d ∈ l, d.canLay0 = true) → PyData.canLayAll0 l = true
  | [], _ => rfl
  | d :: l, h => by
    have := lays_of (l := l) fun e m => h e (List.mem_cons_of_mem _ m)
    simp [PyData.canLayAll0, h d List.mem_cons_self, this]
theorem deps_of {n : Nat} : ∀ {l : List D}, (∀ d ∈ l, d.depth ≤ n) → PyData.depthAll l ≤ n
  | [], _ => Nat.zero_le _
  | d :: l, h => by
    have := deps_of (l := l) fun e m => h e (List.mem_cons_of_mem _ m)
    have := h d List.mem_cons_self
    simp only [PyData.depthAll]
    omega
theorem deps_at {n : Nat} : ∀ {l : List D}, PyData.depthAll l ≤ n → ∀ d ∈ l, d.depth ≤ n
  | [], _, d, m => by simp at m
  | e :: l, h, d, m => by
    simp only [PyData.depthAll] at h
    rcases List.mem_cons.mp m with z | m
    · rw [z]; omega
    · exact deps_at (l := l) (by omega) d m
/-- data of the rows, each a tuple that bears a text or a number first -/
structure RowsD (ds : List D) : Prop where
  lay : ∀ d ∈ ds, d.canLay0 = true
  dep : ∀ d ∈ ds, d.depth ≤ 7
  cmp : ∀ x ∈ ds, ∀ y ∈ ds, cmpD x y = true
  kd : (∀ d ∈ ds, ∃ x xs, d = .tuple (.str x :: xs)) ∨ (∀ d ∈ ds, ∃ x xs, d = .tuple (.int x :: xs))
theorem RowsD.sub {ds es : List D} (h : RowsD ds) (s : ∀ d ∈ es, d ∈ ds) : RowsD es :=
  ⟨fun d m => h.lay d (s d m), fun d m => h.dep d (s d m), fun x mx y my => h.cmp x (s x mx) y (s y my), h.kd.imp (fun z d m => z d (s d m)) fun z d m => z d (s d m)⟩
theorem RowsD.Kd {ds : List D} (h : RowsD ds) : Kd ds := h.kd.elim .tstr .tint
/-- sorted of the set -/
theorem sorted_keys {ds : List D} {Q : Value → Shared → Prop} (R : KyT wd st.heap ad L es ep tb) (nh : ar.handled = none) (room : ar.units + 64 < cLine)
    (rd : ∀ p ∈ L, ∃ d as, d ∈ ds ∧ nkOf d = p.2 ∧ Reads st.heap (.ref p.1) d as) (ok : RowsD ds)
    (fin : ∀ s2 p (out : List Value), (∀ b o, st.heap.get? b = some o → s2.heap.get? b = some o) → s2.gens = st.gens → s2.os = st.os → st.heap.objs.size ≤ p → (∃ k, s2.heap.get? p = some (seqObj "list" out.toArray k)) →
      out.Perm (L.map fun p => Value.ref p.1) → (∃ vs : List Value, vs.Perm (L.map fun p => Value.ref p.1) ∧ out.map (SeqAt.readOf st.heap) = sortD (vs.map (SeqAt.readOf st.heap))) → Q (.ref p) s2) :
    wpAny (model pg wd) ar (call (.builtin "sorted") [.ref ad]) Q Er st := by
  obtain ⟨ob, e0, ex, d0⟩ := R.ob
  have few := R.few
  have sL := R.size
  refine Calls.call_function_entry kind_sorted plain_sorted entry_sorted (args_sorted1 _) ?_
  unfold Builtin.«sorted»
  refine wpAny_bind (m := checkCount "sorted" 1 1 _) (wpAny_pure (wpAny_bind (collect_set (A := ar.in1) nh ⟨ob, e0, ex.1, d0⟩ R.fits (by unfold scanBound; omega) R.tab.ris R.led fun s1 vs k1 z1 g1 o1 pv => ?_)))
  have ev : es.toList.map (·.2) = L.map fun p => Value.ref p.1 := by
    rw [R.rows, List.map_map]
    rfl
  rw [ev] at pv
  have lv : vs.length = L.length := by rw [pv.length_eq, List.length_map]
  have small : vs.length ≤ sizeLine := by rw [sizeLine_eq]; omega
  have each : ∀ v ∈ vs, ∃ d as, d ∈ ds ∧ Reads st.heap v d as := fun v m => by
    obtain ⟨p, mp, rfl⟩ := List.mem_map.mp (pv.mem_iff.mp m)
    obtain ⟨d, as, md, _, r⟩ := rd p mp
    exact ⟨d, as, md, r⟩
  obtain ⟨as, rda⟩ := reads_back vs fun v m => by
    obtain ⟨d, as, md, r⟩ := each v m
    exact ⟨d, as, ok.lay d md, r⟩
  have sub : ∀ d ∈ vs.map (SeqAt.readOf st.heap), d ∈ ds := fun d m => by
    obtain ⟨v, mv, rfl⟩ := List.mem_map.mp m
    obtain ⟨d, as, md, r⟩ := each v mv
    rw [SeqAt.readOf_eq (ok.lay d md) r]
    exact md
  have ok2 := ok.sub sub
  refine wpAny_bind (wpAny_newList ?_ small)
  have here : (s1.heap.push (seqObj "list" vs.toArray 0)).get? s1.heap.objs.size = some (seqObj "list" vs.toArray 0) := Heap.get?_push_size _ rfl
  have kk : ∀ b o, st.heap.get? b = some o → b ≠ s1.heap.objs.size ∧ (s1.heap.push (seqObj "list" vs.toArray 0)).get? b = some o := fun b o e => by
    have q := k1 b o e
    exact ⟨Nat.ne_of_lt (Heap.lt_size q), Heap.get?_push_of_some _ q⟩
  have units : ar.in1.in1.units + 62 < cLine := by
    show ar.units + 1 + 1 + 62 < cLine
    omega
  have swo : Swo (ltv st.heap) := ⟨fun x y h => ltE_asym h, fun x y z h1 h2 => ltE_tr h2 h1⟩
  have dep60 : PyData.depthAll (vs.map (SeqAt.readOf st.heap)) ≤ 60 := deps_of fun d m => Nat.le_trans (ok2.dep d m) (by decide)
  refine wpAny_bind (wpAny_holding (wpAny_call_entry slot_list_sort ⟨_, here, rfl⟩ entry_list_sort (list_sort_ord swo here small (fun two => data_sortable (st := { s1 with heap := st.heap }) two rda (lays_of ok2.lay) dep60 ok2.Kd ok2.cmp units kk) fun out so sb => ⟨_, rfl, ?_⟩) (args_list_sort _)))
  obtain ⟨c, hc⟩ := sortedHeap_at (vs := vs) (out := out.toArray) here
  have s1' : Stb ltE (out.map (SeqAt.readOf st.heap)) (vs.map (SeqAt.readOf st.heap)) := Stb.map ltE_swo (SeqAt.readOf st.heap) sb
  have s2' := sortD_stb (vs.map (SeqAt.readOf st.heap))
  refine wpAny_pure ⟨_, rfl, fin _ s1.heap.objs.size out (fun b o e => ?_) g1 o1 z1 ⟨c, hc⟩ (sb.perm.trans pv) ⟨vs, pv, ?_⟩⟩
  · have q := k1 b o e
    have lt := Heap.lt_size q
    show (sortedHeap (s1.heap.push (seqObj "list" vs.toArray 0)) s1.heap.objs.size vs out.toArray).get? b = some o
    rw [sortedHeap_old (Nat.ne_of_lt lt) (by rw [size_push']; exact Nat.lt_succ_of_lt lt)]
    exact Heap.get?_push_of_some _ q
  · exact stb_uniq ltE_swo (srtd_map so) (sortD_rise _) ⟨s1'.perm.trans s2'.perm.symm, fun x => (s1'.cls x).trans (s2'.cls x).symm⟩
end
/-- sorted(set(a)), a a list of texts, or a list or tuple of rows -/
def tSortSet2 (K : PySem.W.Frag) (ta : TE) : TE := fun σ H Q => ta σ H fun x H1 =>
  (∃ (l : Addr) (xs : List Str), x = .ref l ∧ SqL K H1 l (xs.map V.str) ∧ xs.length < 1000 ∧ ∀ (ys : List Str) (p : Addr), ys.Perm (gather [] xs) → sortedS ys = true → H1 p = none → Q (.ref p) (upd H1 p (.lst (ys.map V.str)))) ∨
  (∃ (a : Addr) (xs : List V) (ds : List D), x = .ref a ∧ (SqL K H1 a xs ∨ SqT K H1 a xs) ∧ DpAll K H1 xs ds ∧ keysB ds = true ∧ ds.length < 64 ∧ RowsD ds ∧
    ∀ (ys : List V) (p : Addr), Paired (Of xs ds) (sortD (uniqK [] ds)) ys → H1 p = none → Q (.ref p) (upd H1 p (.lst ys)))
mutual
theorem nk_deep : ∀ d : D, (nkOf d).depth ≤ d.depth
  | .int _ => Nat.zero_le _
  | .str _ => Nat.zero_le _
  | .tuple l => by
    show NestedKey.depthAll (nksOf l) + 1 ≤ PyData.depthAll l + 1
    exact Nat.succ_le_succ (nks_deep l)
  | .none => Nat.zero_le _
  | .bool _ => Nat.zero_le _
  | .list _ => Nat.zero_le _
  | .dict _ => Nat.zero_le _
theorem nks_deep : ∀ l : List D, NestedKey.depthAll (nksOf l) ≤ PyData.depthAll l
  | [] => Nat.le_refl _
  | d :: l => by
    have a := nk_deep d
    have b := nks_deep l
    show max (nkOf d).depth (NestedKey.depthAll (nksOf l)) ≤ max d.depth (PyData.depthAll l)
    omega
end
theorem reads_get {hp : Heap} : ∀ {vs : List Value} {ds : List D} {as : List Addr}, ReadsAll hp vs ds as → ∀ {i : Nat} {d : D}, ds[i]? = some d → ∃ v as, vs[i]? = some v ∧ Reads hp v d as
  | _, _, _, .nil, i, d, e => by simp at e
  | _, _, _, .cons r rs, 0, d, e => by simp at e; subst e; exact ⟨_, _, rfl, r⟩
  | _, _, _, .cons r rs, i + 1, d, e => by
    obtain ⟨v, as, a, b⟩ := reads_get rs (i := i) (by simpa using e)
    exact ⟨v, as, by simpa using a, b⟩
theorem reads_len {hp : Heap} : ∀ {vs : List Value} {ds : List D} {as : List Addr}, ReadsAll hp vs ds as → vs.length = ds.length
  | _, _, _, .nil => rfl
  | _, _, _, .cons _ rs => by rw [List.length_cons, List.length_cons, reads_len rs]
/-- rows as addresses with their keys -/
theorem key_rows {hp : Heap} : ∀ {vs : List Value} {ds : List D} {as : List Addr}, ReadsAll hp vs ds as → (∀ d ∈ ds, ∃ xs, d = .tuple xs) → ∃ ks : List (Addr × NK), vs = ks.map (fun p => Value.ref p.1) ∧ ks.map (·.2) = ds.map nkOf ∧ ∀ p ∈ ks, ∃ d as, d ∈ ds ∧ nkOf d = p.2 ∧ Reads hp (.ref p.1) d as
  | _, _, _, .nil, _ => ⟨[], rfl, rfl, fun p m => by cases m⟩
  | _, _, _, @ReadsAll.cons _ v vs d ds as bs r rs, h => by
    obtain ⟨ks, e1, e2, e3⟩ := key_rows rs fun e m => h e (List.mem_cons_of_mem _ m)
    obtain ⟨xs, rfl⟩ := h d List.mem_cons_self
    cases r with
    | @tuple a o us n _ _ g1 g2 g3 g4 =>
      refine ⟨(a, nkOf (.tuple xs)) :: ks, by rw [List.map_cons, ← e1], by rw [List.map_cons, List.map_cons, e2], fun p m => ?_⟩
      rcases List.mem_cons.mp m with z | m
      · subst z; exact ⟨_, _, List.mem_cons_self, rfl, .tuple g1 g2 g3 g4⟩
      · obtain ⟨e, as, m1, m2, m3⟩ := e3 p m
        exact ⟨e, as, List.mem_cons_of_mem _ m1, m2, m3⟩
theorem RowsD.tups {ds : List D} (h : RowsD ds) : ∀ d ∈ ds, ∃ xs, d = .tuple xs := fun d m => by
  rcases h.kd with k | k
  · obtain ⟨x, xs, e⟩ := k d m
    exact ⟨_, e⟩
  · obtain ⟨x, xs, e⟩ := k d m
    exact ⟨_, e⟩
theorem pe_sortSet2 {X : Cx} {a : Expr} {ta : TE} {p p2 q pos : Pos} (hg : Gl X "sorted") (hm : X.mg "sorted" = none) (hg2 : Gl X "set") (hm2 : X.mg "set" = none) (ha : PE X a ta) (hc : X.calm = true) (hu : X.A.units + 65 < cLine)
    (na : starEach [a] X.env = [(false, eval a X.env)]) : PE X (.Call (.Name "sorted" p) [.Call (.Name "set" p2) [a] [] q] [] pos) (tSortSet2 X.K ta) := by
  refine ⟨fun pins s σ H Q I h => ?_⟩
  refine Call_ (ld_blt I hg hm boot_sorted ?_)
  refine PyProof.Rows.callWith_builtin1 (PyProof.Rows.args_cons ?_ rfl) rfl rfl
  refine Call_ (ld_blt I hg2 hm2 boot_set ?_)
  refine PyProof.Rows.callWith_type1 (PyProof.Rows.args_cons (thn (ha.run pins s σ H _ I h) fun v s1 ⟨x, H1, I1, r1, q1⟩ => PyProof.Rows.args_nil ?_) na) na rfl
  have fresh : ∀ {s2 : Shared} {tk : Nat} {h2 : Heap} {p : Addr} (I2 : Inv X pins σ H1 { s1 with heap := h2, toks := tk }) (k2 : ∀ b o, h2.get? b = some o → s2.heap.get? b = some o) (g2 : s2.gens = s1.gens) (o2 : s2.os = s1.os) (le : h2.objs.size ≤ p)
      (ys : List V) (few : ys.length ≤ sizeLine) (out : List Value) (c : Nat) (vy : Vals ys out) (at_ : s2.heap.get? p = some (seqObj "list" out.toArray c)) (fin : H1 p = none → Q (.ref p) (upd H1 p (.lst ys))), ∃ x H', Inv X pins σ H' s2 ∧ RelV x (.ref p) ∧ Q x H' := by
    intro s2 tk h2 p I2 k2 g2 o2 le ys few out c vy at_ fin
    have new : H1 p = none := I2.hok.fresh le
    have J : Inv X pins σ (upd H1 p (.lst ys)) { s1 with heap := s2.heap, gens := s2.gens, drawn := s2.drawn, toks := s2.toks } :=
      Inv.call (s := { s1 with heap := h2, toks := tk }) (ch := []) I2 (Un.laid k2 le new) (I2.hok.laid k2 le ⟨few, out, c, vy, at_⟩) (g2 ▸ I2.bare) (fun _ z => nomatch z)
    have same : s2 = { s1 with heap := s2.heap, gens := s2.gens, drawn := s2.drawn, toks := s2.toks } := by
      obtain ⟨_, _, _, _, _⟩ := s2
      obtain ⟨_, _, _, _, _⟩ := s1
      cases o2
      rfl
    rw [same]
    exact ⟨.ref p, _, J, rfl, fin new⟩
  rcases q1 with ⟨l, xs, rfl, hq, hl, q1⟩ | ⟨l, xs, ds, rfl, hs, hd, kb, few, ok, q1⟩
  · cases r1
    obtain ⟨its, r, pl, hz⟩ := I1.list hq
    refine set_texts (I1.ok.hd hc) pl.isList r.strs (by unfold scanBound; omega) fun h2 tk tx kp => PyProof.Rows.args_nil ?_
    have I2 : Inv X pins σ H1 { s1 with heap := h2, toks := tk } := I1.kept kp
    refine sorted_texts (st := { s1 with heap := h2, toks := tk }) tx (I2.ok.hd hc) fun s2 p out c ys k2 g2 o2 le at_ are pm so => ?_
    refine fresh I2 k2 g2 o2 le _ ?_ out.toList c (vals_of_strs are) (by simpa using at_) (q1 ys p pm so)
    have := gather_len xs []
    rw [List.length_map, pm.length_eq, sizeLine_eq]
    simp at this
    omega
  · cases r1
    have src : ∃ (T : String) (ob : Obj) (its : List Value) (n : Nat), (T = "list" ∨ T = "tuple") ∧ s1.heap.get? l = some ob ∧ ob.cls = .type T ∧ ob.data = .seq its.toArray n ∧ Vals xs its ∧ xs.length ≤ sizeLine := by
      rcases hs with hs | hs
      · obtain ⟨its, rv, ⟨ob, n, e0, c0, _, d0⟩, sz⟩ := I1.list hs
        exact ⟨"list", ob, its, n, .inl rfl, e0, c0, d0, rv, sz⟩
      · obtain ⟨its, rv, tp, sz⟩ := I1.tuple hs
        obtain ⟨ob, e0, c0, n, d0⟩ := tp
        exact ⟨"tuple", ob, its, n, .inr rfl, e0, c0, d0, rv, sz⟩
    obtain ⟨T, ob, its, n, hT, e0, c0, d0, rv, sz⟩ := src
    obtain ⟨as, rd⟩ := Dp.readsAll I1 ds xs its hd rv
    obtain ⟨ks, ek, en, er⟩ := key_rows rd ok.tups
    have lk : ks.length = ds.length := by
      have := congrArg List.length en
      simpa using this
    have keyd : ∀ d ∈ ds, keyB d = true := keys_mem kb
    refine set_keys ks (I1.ok.hd hc) hT e0 c0 d0 (by simpa using ek) (fun p m => ?_) (by omega) (by omega) fun h2 tk L es ep tb ky g kp => PyProof.Rows.args_nil ?_
    · obtain ⟨d, as, md, e, r⟩ := er p m
      rw [← e]
      exact ⟨nk_is d _ _ (keyd d md) r, Nat.le_trans (nk_deep d) (ok.dep d md)⟩
    have I2 : Inv X pins σ H1 { s1 with heap := h2, toks := tk } := I1.kept kp
    have sub : ∀ p ∈ L, p ∈ ks := fun p m => List.mem_of_mem_take (g.sub p m)
    refine sorted_keys (st := { s1 with heap := h2, toks := tk }) (ds := ds) ky (I2.ok.hd hc) (by omega) (fun p m => ?_) ok fun s2 p out k2 g2 o2 le at_ pm ev => ?_
    · obtain ⟨d, as, md, e, r⟩ := er p (sub p m)
      exact ⟨d, as, md, e, Reads.keeps kp r⟩
    obtain ⟨c, at_⟩ := at_
    obtain ⟨vs, pv, ev⟩ := ev
    -- the rows as values
    have mem : ∀ u ∈ out, u ∈ its := fun u m => by
      obtain ⟨p, mp, rfl⟩ := List.mem_map.mp (pm.mem_iff.mp m)
      rw [ek]
      exact List.mem_map.mpr ⟨p, sub p mp, rfl⟩
    have vals : ∀ out : List Value, (∀ u ∈ out, u ∈ its) → ∃ ys, Vals ys out ∧ Paired (Of xs ds) (out.map (SeqAt.readOf h2)) ys := by
      intro out
      induction out with
      | nil => intro _; exact ⟨[], .nil, .nil⟩
      | cons u out ih =>
        intro h
        obtain ⟨ys, a, b⟩ := ih fun v m => h v (List.mem_cons_of_mem _ m)
        obtain ⟨i, hi⟩ := List.getElem?_of_mem (h u List.mem_cons_self)
        obtain ⟨x, hx, rx⟩ := vals_get rv hi
        obtain ⟨d, hd1, dp⟩ := dps_get xs ds hd hx
        obtain ⟨v, as2, hv, r⟩ := reads_get rd hd1
        rw [hi] at hv
        cases hv
        refine ⟨x :: ys, .cons rx a, .cons ⟨i, hx, ?_⟩ b⟩
        rw [SeqAt.readOf_eq (ok.lay d (List.mem_of_getElem? hd1)) (Reads.keeps kp r)]
        exact hd1
    obtain ⟨ys, vy, pr⟩ := vals out mem
    have small : ys.length ≤ sizeLine := by
      have a1 := vy.length
      have a2 := pm.length_eq
      have a3 := ky.few
      rw [List.length_map] at a2
      rw [sizeLine_eq]
      omega
    refine fresh I2 k2 g2 o2 le ys small out c vy at_ fun hp => q1 ys p ?_ hp
    rw [show sortD (uniqK [] ds) = out.map (SeqAt.readOf h2) from ?_]
    · exact pr
    rw [show out.map (SeqAt.readOf h2) = sortD (vs.map (SeqAt.readOf h2)) from ev]
    have ku : keysB (uniqK [] ds) = true := keysB_of fun d m => keyd d ((uniqK_mem kb).mp m)
    refine sortD_keys ku (fun x mx y my => ok.cmp x ((uniqK_mem kb).mp mx) y ((uniqK_mem kb).mp my)) ?_
    -- both are the keys, each once
    have each : ∀ p ∈ L, keyB (SeqAt.readOf h2 (.ref p.1)) = true ∧ nkOf (SeqAt.readOf h2 (.ref p.1)) = p.2 ∧ SeqAt.readOf h2 (.ref p.1) ∈ ds := fun p m => by
      obtain ⟨d, as, md, e, r⟩ := er p (sub p m)
      rw [SeqAt.readOf_eq (ok.lay d md) (Reads.keeps kp r)]
      exact ⟨keyd d md, e, md⟩
    have pm2 : (vs.map (SeqAt.readOf h2)).Perm (L.map fun p => SeqAt.readOf h2 (.ref p.1)) := by
      have z := pv.map (SeqAt.readOf h2)
      rwa [List.map_map] at z
    refine List.Perm.trans ?_ pm2.symm
    have nd : (L.map fun p => SeqAt.readOf h2 (.ref p.1)).Nodup := by
      refine List.pairwise_map.mpr (List.Pairwise.imp_of_mem (fun {p r} mp mr ne e => ne ?_) (List.pairwise_map.mp ky.nd))
      rw [← (each p mp).2.1, ← (each r mr).2.1, e]
    refine (List.perm_ext_iff_of_nodup (uniqK_nodup kb) nd).mpr fun d => ?_
    rw [uniqK_mem kb]
    constructor
    · intro md
      have mk : nkOf d ∈ ks.map (·.2) := by rw [en]; exact List.mem_map.mpr ⟨d, md, rfl⟩
      obtain ⟨p, mp, e⟩ := List.mem_map.mp mk
      have mL := g.all p (by rw [List.take_length]; exact mp)
      obtain ⟨r, mr, e2⟩ := List.mem_map.mp mL
      obtain ⟨a1, a2, a3⟩ := each r mr
      refine List.mem_map.mpr ⟨r, mr, ?_⟩
      exact nk_inj a1 (keyd d md) (by rw [a2, e2]; exact e)
    · intro m
      obtain ⟨p, mp, rfl⟩ := List.mem_map.mp m
      exact (each p mp).2.2
end M
/-! MRead: readings of the layer made of runs of the mini language. -/
namespace M
open PySem PySem.Spec L2

/-- what must hold of a run's end, so that Q follows, or (an error) E -/
def Out {α β : Type} (K : PySem.W.Frag) (ca : Nat → Addr) (μ : Mu) (H : Hp) (rel : Mu → Hp → α → β → Prop) (Q : β → Hp → Prop) (E : Nat → Hp → Prop) : Res α → Prop
  | .ok a h => ∀ μ' H' b, Stp μ H μ' H' → HR K ca μ' H' h → rel μ' H' a b → Q b H'
  | .exc c h => ∀ μ' H', Stp μ H μ' H' → HR K ca μ' H' h → E c H'
  | .bad => False
section
variable {α β γ δ : Type} {K : PySem.W.Frag} {ca : Nat → Addr} {μ μ' : Mu} {H H' : Hp} {h : Hh} {rel : Mu → Hp → α → β → Prop} {Q Q' : β → Hp → Prop} {E E' : Nat → Hp → Prop}
theorem Out.shift {r : Res α} (o : Out K ca μ H rel Q E r) (s : Stp μ H μ' H') : Out K ca μ' H' rel Q E r := by
  cases r with
  | ok a h => exact fun μ2 H2 b s2 => o μ2 H2 b (s.trans s2)
  | exc c h => exact fun μ2 H2 s2 => o μ2 H2 (s.trans s2)
  | bad => exact o
theorem Out.mono {r : Res α} (o : Out K ca μ H rel Q E r) (hQ : ∀ b H', Q b H' → Q' b H') (hE : ∀ c H', E c H' → E' c H') : Out K ca μ H rel Q' E' r := by
  cases r with
  | ok a h => exact fun μ2 H2 b s2 r2 z => hQ _ _ (o μ2 H2 b s2 r2 z)
  | exc c h => exact fun μ2 H2 s2 r2 => hE _ _ (o μ2 H2 s2 r2)
  | bad => exact o
theorem Out.now {a : α} {b : β} (o : Out K ca μ H rel Q E (.ok a h)) (hr : HR K ca μ H h) (z : rel μ H a b) : Q b H := o μ H b .refl hr z
/-- the first part of a run, the rest kept for behind it -/
theorem Out.bind {relc : Mu → Hp → γ → δ → Prop} {R : δ → Hp → Prop} {m : Res α} {f : α → Hh → Res γ} (o : Out K ca μ H relc R E (m.bind f)) (rel : Mu → Hp → α → β → Prop) :
    Out K ca μ H rel (fun b H1 => ∃ μ1 h1 a, Stp μ H μ1 H1 ∧ HR K ca μ1 H1 h1 ∧ rel μ1 H1 a b ∧ Out K ca μ1 H1 relc R E (f a h1)) E m := by
  cases m with
  | ok a h => exact fun μ2 H2 b s2 r2 z => ⟨μ2, h, a, s2, r2, z, o.shift s2⟩
  | exc c h => exact o
  | bad => exact o
end
/-- a reading: the mini run m from related slots and heap -/
def tI {α β : Type} (K : PySem.W.Frag) (ca : Nat → Addr) (W' : Nat → L2.St → Hp → Prop) (rel : Mu → Hp → α → β → Prop) (m : En → Hh → Res α) : L2.St → Hp → (β → Hp → Prop) → Prop :=
  fun σ H Q => ∃ μ e h, ER K ca μ H e σ ∧ HR K ca μ H h ∧ Out K ca μ H rel Q (fun c H' => W' c σ H') (m e h)
section
variable {α β γ δ : Type} {K : PySem.W.Frag} {ca : Nat → Addr} {μ μ' : Mu} {H H' : Hp} {h : Hh} {e : En} {σ : L2.St} {W' : Nat → L2.St → Hp → Prop} {relc : Mu → Hp → γ → δ → Prop} {R : δ → Hp → Prop} {Q2 : β → Hp → Prop}
theorem tI_mono {K : PySem.W.Frag} {ca : Nat → Addr} {W' : Nat → L2.St → Hp → Prop} {rel : Mu → Hp → α → β → Prop} {m : En → Hh → Res α} {σ : L2.St} {H : Hp} {Q Q' : β → Hp → Prop} (h : tI K ca W' rel m σ H Q) (k : ∀ b H', Q b H' → Q' b H') : tI K ca W' rel m σ H Q' :=
  let ⟨μ, e, hh, er, hr, o⟩ := h
  ⟨μ, e, hh, er, hr, o.mono k fun _ _ z => z⟩
/-- one run, then what hangs on it -/
theorem seqI {m : En → Hh → Res α} {f : α → Hh → Res γ} (rel : Mu → Hp → α → β → Prop) (er : ER K ca μ H e σ) (hr : HR K ca μ H h) (o : Out K ca μ H relc R (fun c H' => W' c σ H') ((m e h).bind f))
    (k : ∀ (μ1 : Mu) (H1 : Hp) (h1 : Hh) (a : α) (b : β), Stp μ H μ1 H1 → ER K ca μ1 H1 e σ → HR K ca μ1 H1 h1 → rel μ1 H1 a b → Out K ca μ1 H1 relc R (fun c H' => W' c σ H') (f a h1) → Q2 b H1) : tI K ca W' rel m σ H Q2 :=
  ⟨μ, e, h, er, hr, (o.bind rel).mono (fun b H1 ⟨μ1, h1, a, s, r1, z, o1⟩ => k μ1 H1 h1 a b s (er.mono s) r1 z o1) fun _ _ z => z⟩
end
abbrev rW (K : PySem.W.Frag) (ca : Nat → Addr) : Mu → Hp → W → V → Prop := WR K ca
abbrev rB : Mu → Hp → Bool → Bool → Prop := fun _ _ a b => a = b
abbrev rWs (K : PySem.W.Frag) (ca : Nat → Addr) : Mu → Hp → List W → List V → Prop := WRs K ca

/-! ### operators by values -/
/-- a two-place operation of the mini language, read on values -/
def rOp (K : PySem.W.Frag) (ca : Nat → Addr) (f : W → W → Hh → Res W) : R2 := fun x y H Q => ∃ μ h a b, HR K ca μ H h ∧ WR K ca μ H a x ∧ WR K ca μ H b y ∧ Out K ca μ H (rW K ca) Q (fun _ _ => False) (f a b h)
section
variable {X : Cx} {ca : Nat → Addr} {μ : Mu} {H : Hp}
theorem WR.of_int {K : PySem.W.Frag} {i : Int} {x : V} (r : WR K ca μ H (.dat (.int i)) x) : x = .int i := by
  cases r with
  | dat h => cases h; rfl
theorem WR.of_str {K : PySem.W.Frag} {z : Str} {x : V} (r : WR K ca μ H (.dat (.str z)) x) : x = .str z := by
  cases r with
  | dat h => cases h; rfl
theorem WR.of_bool {K : PySem.W.Frag} {b : Bool} {x : V} (r : WR K ca μ H (.dat (.bool b)) x) : x = .bl b := by
  cases r with
  | dat h => cases h; rfl
theorem WR.of_none {K : PySem.W.Frag} {x : V} (r : WR K ca μ H (.dat .none) x) : x = .non := by
  cases r with
  | dat h => cases h; rfl
theorem WR.of_list {K : PySem.W.Frag} {ds : List D} {x : V} (r : WR K ca μ H (.dat (.list ds)) x) : ∃ a xs, x = .ref a ∧ LstAt K μ H a xs ∧ VRs K μ H ds xs := by
  cases r with
  | dat h => cases h with
    | lst h hs => exact ⟨_, _, rfl, h, hs⟩
theorem WR.of_tup {K : PySem.W.Frag} {ds : List D} {x : V} (r : WR K ca μ H (.dat (.tuple ds)) x) : ∃ a xs, x = .ref a ∧ TupAt K μ H a xs ∧ VRs K μ H ds xs := by
  cases r with
  | dat h => cases h with
    | tup h hs => exact ⟨_, _, rfl, h, hs⟩
theorem WR.int {K : PySem.W.Frag} {i : Int} : WR K ca μ H (.dat (.int i)) (.int i) := .dat (.int i)
theorem WR.bl {K : PySem.W.Frag} {i : Bool} : WR K ca μ H (.dat (.bool i)) (.bl i) := .dat (.bl i)
theorem WR.str {K : PySem.W.Frag} {i : Str} : WR K ca μ H (.dat (.str i)) (.str i) := .dat (.str i)

theorem sizeL_le {n : Nat} (h : n ≤ sizeL) : n ≤ sizeLine := Nat.le_trans h (by decide)

/-- a fresh tuple of data -/
theorem VR.newTup {K : PySem.W.Frag} {ds : List D} {xs : List V} {p : Addr} (hr : ∃ h, HR K ca μ H h) (hp : H p = none) (h : VRs K μ H ds xs) : VR K μ (upd H p (.tup xs)) (.tuple ds) (.ref p) := by
  obtain ⟨h0, hr⟩ := hr
  exact .tup (.inl ⟨⟨fun z => hr.live p z hp, fun z => hr.livx p z hp⟩, .inl upd_same⟩) (h.mono (hr.stp hp))
theorem VR.newLst {K : PySem.W.Frag} {ds : List D} {xs : List V} {p : Addr} (hr : ∃ h, HR K ca μ H h) (hp : H p = none) (h : VRs K μ H ds xs) : VR K μ (upd H p (.lst xs)) (.list ds) (.ref p) := by
  obtain ⟨h0, hr⟩ := hr
  exact .lst ⟨⟨fun z => hr.live p z hp, fun z => hr.livx p z hp⟩, .inl upd_same⟩ (h.mono (hr.stp hp))
/-- what a display of a tuple hands on -/
theorem out_mkTup {K : PySem.W.Frag} {l : List W} {xs : List V} {h : Hh} {Q : VK} {E : Nat → Hp → Prop} (hr : HR K ca μ H h) (z : WRs K ca μ H l xs) (o : Out K ca μ H (rW K ca) Q E (mkTup l h)) {p : Addr} (hp : H p = none) : Q (.ref p) (upd H p (.tup xs)) := by
  unfold mkTup at o
  cases e : dsOf l with
  | some ds =>
    rw [e] at o
    exact o μ _ _ (hr.stp hp) (hr.new hp) (.dat (VR.newTup ⟨h, hr⟩ hp (z.data e)))
  | none =>
    rw [e] at o
    obtain ⟨s, r⟩ := hr.push (u := .tup xs) (o := .tpl l) hp fun s => ⟨xs, upd_same, z.mono s⟩
    exact o _ _ _ s r (.ref (hr.last p))
theorem out_mkLst {K : PySem.W.Frag} {m : Bool} {l : List W} {xs : List V} {h : Hh} {Q : VK} {E : Nat → Hp → Prop} (hr : HR K ca μ H h) (z : WRs K ca μ H l xs) (o : Out K ca μ H (rW K ca) Q E (mkLst m l h)) {p : Addr} (hp : H p = none) : Q (.ref p) (upd H p (.lst xs)) := by
  have obj : Out K ca μ H (rW K ca) Q E (.ok (.ref h.length) (h ++ [.lst l])) → Q (.ref p) (upd H p (.lst xs)) := fun o => by
    obtain ⟨s, r⟩ := hr.push (u := .lst xs) (o := .lst l) hp fun s => ⟨xs, upd_same, z.mono s⟩
    exact o _ _ _ s r (.ref (hr.last p))
  unfold mkLst at o
  cases m with
  | true => exact obj o
  | false =>
    cases e : dsOf l with
    | some ds =>
      rw [e] at o
      exact o μ _ _ (hr.stp hp) (hr.new hp) (.dat (VR.newLst ⟨h, hr⟩ hp (z.data e)))
    | none =>
      rw [e] at o
      exact obj o
/-- a list or tuple that a value stands for -/
theorem seqOf_ok {K : PySem.W.Frag} {h : Hh} {w : W} {x : V} {l : List W} (hr : HR K ca μ H h) (r : WR K ca μ H w x) (e : seqOf h w = some l) : ∃ a xs, x = .ref a ∧ WRs K ca μ H l xs ∧ (SqL K H a xs ∨ SqT K H a xs) := by
  cases w with
  | dat d =>
    cases d with
    | list ds =>
      obtain ⟨a, xs, rfl, h1, h2⟩ := r.of_list
      cases e
      exact ⟨a, xs, rfl, WRs.of h2, .inl h1.sq⟩
    | tuple ds =>
      obtain ⟨a, xs, rfl, h1, h2⟩ := r.of_tup
      cases e
      exact ⟨a, xs, rfl, WRs.of h2, .inr h1.sq⟩
    | _ => cases e
  | ref n =>
    cases r with
    | ref hn =>
      rename_i a
      cases q : h[n]? with
      | none => simp [seqOf, q] at e
      | some o =>
        have z := hr.ob n o a q hn
        cases o with
        | lst l' =>
          simp only [seqOf, q, Option.some.injEq] at e
          subst e
          obtain ⟨xs, y, w⟩ := z
          exact ⟨a, xs, rfl, w, .inl (SqL.of y)⟩
        | tpl l' =>
          simp only [seqOf, q, Option.some.injEq] at e
          subst e
          obtain ⟨xs, y, w⟩ := z
          exact ⟨a, xs, rfl, w, .inr (SqT.of y)⟩
        | _ => simp [seqOf, q] at e
  | exc c => cases e
  | scr l' =>
    cases r with
    | scr z =>
      obtain ⟨xs, rfl, z⟩ := z
      cases e
      refine ⟨_, _, rfl, ?_, .inl (z.elim (fun q => .inl q.2) fun q => q H)⟩
      clear z hr
      induction l' with
      | nil => exact .nil
      | cons i l ih => exact .cons .int ih
end
end M
/-! MOps: the mini language's operators are the model's. -/
namespace M
open PySem PySem.Spec L2
section
variable {X : Cx} {ca : Nat → Addr}
/-- the goal of an operator: some rule of the layer, and its reading -/
theorem opr_of {f : Value → Value → Sem Value} {r : R2} {g : W → W → Hh → Res W} (h : OpR X f r)
    (k : ∀ (μ : Mu) (hh : Hh) (a b : W) (x y : V) (H : Hp) (Q : VK), HR X.K ca μ H hh → WR X.K ca μ H a x → WR X.K ca μ H b y → Out X.K ca μ H (rW X.K ca) Q (fun _ _ => False) (g a b hh) → r x y H Q) : OpR X f (rOp X.K ca g) :=
  fun pins s σ H x y v u Q I rx ry ⟨μ, hh, a, b, hr, ra, rb, o⟩ => h pins s σ H x y v u Q I rx ry (k μ hh a b x y H Q hr ra rb o)
/-- two frozen or tracked lists added -/
def rCatR : R2 := fun x y H Q => ∃ l b xs zs, x = .ref l ∧ y = .ref b ∧ Rd H l (.lst xs) ∧ Rd H b (.lst zs) ∧ xs.length + zs.length ≤ sizeLine ∧ ∀ p, H p = none → Q (.ref p) (upd H p (.lst (xs ++ zs)))
theorem op_catR : OpR X (binaryOp .Add) rCatR := by
  intro pins s σ H x y v u Q I rx ry ⟨l, b, xs, zs, ex, ey, hl, hb, hz, q⟩
  subst ex
  subst ey
  cases rx
  cases ry
  obtain ⟨_, its, n, r, e⟩ := hl.ok I.hok
  obtain ⟨_, its2, n2, r2, e2⟩ := hb.ok I.hok
  have l1 := r.length
  have l2 := r2.length
  refine PySem.P.add_list e e2 ?_ (by simp only [List.size_toArray]; omega)
  rw [show its.toArray ++ its2.toArray = (its ++ its2).toArray by simp]
  exact ⟨.ref _, _, I.lnew (t' := s.toks) (r.append r2) (by rw [List.length_append]; exact hz), rfl, q _ I.fresh⟩
/-- what + is read as -/
def rAddAll (K : PySem.W.Frag) : R2 := fun x y H Q => rI0 (fun i j => .int (i + j)) x y H Q ∨
  (∃ i j, x = .str i ∧ y = .str j ∧ i.length + j.length ≤ sizeLine ∧ Q (.str (i ++ j)) H) ∨ rCatA K x y H Q ∨ rCatR x y H Q
theorem op_addAll : OpR X (binaryOp .Add) (rAddAll X.K) := op_add.or (op_add_str.or (op_catA.or op_catR))

theorem WRs.app {K : PySem.W.Frag} {μ : Mu} {H : Hp} : ∀ {a b : List W} {xs ys : List V}, WRs K ca μ H a xs → WRs K ca μ H b ys → WRs K ca μ H (a ++ b) (xs ++ ys)
  | _, _, _, _, .nil, h => h
  | _, _, _, _, .cons r t, h => .cons r (WRs.app t h)
theorem VRs.app {K : PySem.W.Frag} {μ : Mu} {H : Hp} : ∀ {a b : List D} {xs ys : List V}, VRs K μ H a xs → VRs K μ H b ys → VRs K μ H (a ++ b) (xs ++ ys)
  | _, _, _, _, .nil, h => h
  | _, _, _, _, .cons r t, h => .cons r (VRs.app t h)
theorem WRs.len {K : PySem.W.Frag} {μ : Mu} {H : Hp} {a : List W} {xs : List V} (h : WRs K ca μ H a xs) : a.length = xs.length := Paired.length h
/-- a list that + takes -/
theorem lst_ok {K : PySem.W.Frag} {μ : Mu} {H : Hp} {h : Hh} {w : W} {x : V} {l : List W} (hr : HR K ca μ H h) (r : WR K ca μ H w x) (nt : ∀ t, w ≠ .dat (.tuple t)) (ns : ∀ t, w ≠ .scr t) (nq : ∀ n t, w = .ref n → h[n]? ≠ some (.tpl t)) (e : seqOf h w = some l) :
    ∃ a xs, x = .ref a ∧ WRs K ca μ H l xs ∧ Rd H a (.lst xs) := by
  cases w with
  | dat d =>
    cases d with
    | list ds =>
      obtain ⟨a, xs, rfl, h1, h2⟩ := r.of_list
      cases e
      exact ⟨a, xs, rfl, WRs.of h2, h1.2⟩
    | tuple ds => exact absurd rfl (nt ds)
    | _ => cases e
  | ref n =>
    cases r with
    | ref hn =>
      rename_i a
      cases q : h[n]? with
      | none => simp [seqOf, q] at e
      | some o =>
        have z := hr.ob n o a q hn
        cases o with
        | lst l' =>
          simp only [seqOf, q, Option.some.injEq] at e
          subst e
          obtain ⟨xs, y, w⟩ := z
          exact ⟨a, xs, rfl, w, .inl y⟩
        | tpl l' => exact absurd q (nq n l' rfl)
        | _ => simp [seqOf, q] at e
  | exc c => cases e
  | scr c => exact absurd rfl (ns c)
theorem lstOf_seq {h : Hh} {w : W} {l : List W} (e : lstOf h w = some l) : seqOf h w = some l ∧ (∀ t, w ≠ .dat (.tuple t)) ∧ (∀ t, w ≠ .scr t) ∧ ∀ n t, w = .ref n → h[n]? ≠ some (.tpl t) := by
  cases w with
  | dat d =>
    cases d with
    | list ds => exact ⟨e, fun _ z => (nomatch z), fun _ z => (nomatch z), fun _ _ z => (nomatch z)⟩
    | _ => cases e
  | ref n =>
    cases q : h[n]? with
    | none => simp [lstOf, q] at e
    | some o =>
      cases o with
      | lst l' => exact ⟨by simpa [lstOf, seqOf, q] using e, fun _ z => (nomatch z), fun _ z => (nomatch z), fun k t z w => by cases z; rw [q] at w; cases w⟩
      | _ => simp [lstOf, q] at e
  | exc c => cases e
  | scr c => cases e
/-- two lists come together -/
theorem cat_ok {K : PySem.W.Frag} {μ : Mu} {H : Hp} {hh : Hh} {Q : VK} {m : Bool} {a b : W} {x y : V} {l : List W} (hr : HR K ca μ H hh) (ra : WR K ca μ H a x) (rb : WR K ca μ H b y)
    (ea : seqOf hh a = some l) (n1 : ∀ t, a ≠ .dat (.tuple t)) (n2 : ∀ t, a ≠ .scr t) (n3 : ∀ n t, a = .ref n → hh[n]? ≠ some (.tpl t)) (o : Out K ca μ H (rW K ca) Q (fun _ _ => False) (catL m hh (some l) (lstOf hh b))) : rCatR x y H Q := by
  cases eb : lstOf hh b with
  | none => rw [eb] at o; exact o.elim
  | some z =>
    rw [eb] at o
    have o1 : Out K ca μ H (rW K ca) Q (fun _ _ => False) (if l.length + z.length ≤ sizeL then mkLst m (l ++ z) hh else .bad) := o
    by_cases hz : l.length + z.length ≤ sizeL
    · rw [if_pos hz] at o1
      obtain ⟨p, xs, rfl, w1, d1⟩ := lst_ok hr ra n1 n2 n3 ea
      obtain ⟨eb', m1, m2, m3⟩ := lstOf_seq eb
      obtain ⟨q, ys, rfl, w2, d2⟩ := lst_ok hr rb m1 m2 m3 eb'
      refine ⟨p, q, xs, ys, rfl, rfl, d1, d2, by rw [← w1.len, ← w2.len]; exact sizeL_le hz, fun a ha => out_mkLst hr (w1.app w2) o1 ha⟩
    · rw [if_neg hz] at o1
      exact o1.elim
theorem ok_add {m : Bool} : OpR X (binaryOp .Add) (rOp X.K ca (addW m)) := by
  refine opr_of op_addAll fun μ hh a b x y H Q hr ra rb o => ?_
  cases a with
  | dat d =>
    cases d with
    | int i =>
      cases b with
      | dat e =>
        cases e with
        | int j => exact .inl ⟨i, j, ra.of_int, rb.of_int, o.now hr .int⟩
        | _ => exact o.elim
      | _ => exact o.elim
    | str i =>
      cases b with
      | dat e =>
        cases e with
        | str j =>
          have o1 : Out X.K ca μ H (rW X.K ca) Q (fun _ _ => False) (if i.length + j.length ≤ sizeL then .ok (.dat (.str (i ++ j))) hh else .bad) := o
          by_cases hz : i.length + j.length ≤ sizeL
          · rw [if_pos hz] at o1
            exact .inr (.inl ⟨i, j, ra.of_str, rb.of_str, sizeL_le hz, o1.now hr .str⟩)
          · rw [if_neg hz] at o1
            exact o1.elim
        | _ => exact o.elim
      | _ => exact o.elim
    | tuple i =>
      cases b with
      | dat e =>
        cases e with
        | tuple j =>
          have o1 : Out X.K ca μ H (rW X.K ca) Q (fun _ _ => False) (if i.length + j.length ≤ sizeL then .ok (.dat (.tuple (i ++ j))) hh else .bad) := o
          by_cases hz : i.length + j.length ≤ sizeL
          · rw [if_pos hz] at o1
            obtain ⟨p, xs, rfl, h1, w1⟩ := ra.of_tup
            obtain ⟨q, ys, rfl, h2, w2⟩ := rb.of_tup
            refine .inr (.inr (.inl ⟨p, q, xs, ys, rfl, rfl, h1.sq, h2.sq, by rw [← w1.len, ← w2.len]; exact sizeL_le hz, fun e => ?_, fun _ e => ?_, fun _ _ t ht => ?_⟩))
            · subst e
              cases w1
              exact o1.now hr rb
            · subst e
              cases w2
              rw [List.append_nil] at o1
              exact o1.now hr ra
            · exact o1 μ _ _ (hr.stp ht) (hr.new ht) (.dat (VR.newTup ⟨hh, hr⟩ ht (w1.app w2)))
          · rw [if_neg hz] at o1
            exact o1.elim
        | _ => exact o.elim
      | _ => exact o.elim
    | list i => exact .inr (.inr (.inr (cat_ok (l := i.map .dat) hr ra rb rfl (fun _ z => nomatch z) (fun _ z => nomatch z) (fun _ _ z => nomatch z) o)))
    | _ => exact o.elim
  | ref n =>
    cases q : hh[n]? with
    | none => simp only [addW, q] at o; exact o.elim
    | some ob =>
      cases ob with
      | lst l =>
        simp only [addW, q] at o
        exact .inr (.inr (.inr (cat_ok (l := l) hr ra rb (by simp [seqOf, q]) (fun _ z => nomatch z) (fun _ z => nomatch z) (fun k t z w => by cases z; rw [q] at w; cases w) o)))
      | _ => simp only [addW, q] at o; exact o.elim
  | _ => exact o.elim
/-- ints alone -/
theorem out_if {α β : Type} {K : PySem.W.Frag} {μ : Mu} {H : Hp} {rel : Mu → Hp → α → β → Prop} {Q : β → Hp → Prop} {E : Nat → Hp → Prop} {c : Bool} {r : Res α} (o : Out K ca μ H rel Q E (if c then r else .bad)) : c = true ∧ Out K ca μ H rel Q E r := by
  cases c with
  | true => exact ⟨rfl, o⟩
  | false => exact o.elim
theorem ints_of {K : PySem.W.Frag} {μ : Mu} {H : Hp} {hh : Hh} {Q : VK} {E : Nat → Hp → Prop} {op : BOp} {m : Bool} (na : op ≠ .add) (nm : op ≠ .mul) {a b : W} (o : Out K ca μ H (rW K ca) Q E (binop op m a b hh)) : ∃ i j, a = .dat (.int i) ∧ b = .dat (.int j) ∧ Out K ca μ H (rW K ca) Q E (intop op i j hh) := by
  cases a with
  | dat d =>
    cases d with
    | int i =>
      cases b with
      | dat e =>
        cases e with
        | int j => exact ⟨i, j, rfl, rfl, by cases op <;> first | exact absurd rfl na | exact absurd rfl nm | exact o⟩
        | _ => cases op <;> first | exact absurd rfl na | exact absurd rfl nm | exact o.elim
      | _ => cases op <;> first | exact absurd rfl na | exact absurd rfl nm | exact o.elim
    | _ => cases op <;> first | exact absurd rfl na | exact absurd rfl nm | exact o.elim
  | _ => cases op <;> first | exact absurd rfl na | exact absurd rfl nm | exact o.elim
def opA : BOp → Operator
  | .add => .Add
  | .sub => .Sub
  | .mul => .Mult
  | .fdiv => .FloorDiv
  | .mod => .Mod
  | .pow => .Pow
/-- two factors of together less than a hundred million bits -/
def MulV (i j : Int) : Prop := i.natAbs.log2 + j.natAbs.log2 < 100000000
theorem MulV.fine {i j : Int} (c : MulV i j) : IntMulOk i j := by
  have le : ∀ z : Int, Builtin.Int.intBits z ≤ z.natAbs.log2 + 1 := by
    intro z
    unfold Builtin.Int.intBits
    split <;> omega
  have a := le i
  have b := le j
  have c : i.natAbs.log2 + j.natAbs.log2 < 100000000 := c
  have line : bitsLine = 134217728 := by decide
  intro h
  have big := of_decide_eq_true (show decide _ = true from (Bool.and_eq_true_iff.mp h).2)
  rw [line] at big
  omega
theorem op_mulV {X : Cx} : OpR X (binaryOp .Mult) (rI MulV fun i j => .int (i * j)) := opI fun _ _ _ _ _ _ _ c q => PyProof.Rows.mul_int q c.fine
section
open PyProof PyProof.Rows
/-- a list times an int -/
theorem mul_lst {prog : Program} {w : World} {A : Around} {E : Value → Shared → Prop} {s : Shared} {l : Addr} {items : Array Value} {k : Nat} {d : Option Addr} {sl : Array (Option Value)} {x : Int} {u : Tok} {Q : Value → Shared → Prop}
    (hl : s.heap.get? l = some { cls := .type "list", dict := d, data := .seq items k, slots := sl })
    (hlo : -(2 ^ 63 : Int) ≤ x) (hhi : x < 2 ^ 63) (hsz : items.size * x.toNat ≤ 2 ^ 24)
    (h : Q (.ref s.heap.objs.size) { s with heap := s.heap.push { cls := .type "list", data := .seq (List.replicate x.toNat items.toList).flatten.toArray } }) :
    wpAny (model prog w) A (binaryOp .Mult (.ref l) (.int x u)) Q E s := by
  rw [← listMul_foldl_if] at h
  exact wpAny_binaryOp_repeat_ref (T := "list") (U := "int") (by decide) ⟨_, hl, rfl⟩ (fun s' => typeIs_int s' x u) noFill_list_mul F.fills_int_mul F.slot_int_rmul repeat_list F.slot_int_index.lookup
    (call_meets F.slot_int_rmul (typeIs_int s x u) F.entry_int_rmul (F.args_int_rmul_2 _ _) (lm_int_rmul_list_any x u l items k d sl)
      ⟨hl, rfl, ⟨_, hl, rfl⟩, call_meets F.slot_list_mul ⟨_, hl, rfl⟩ F.entry_list_mul (F.args_list_mul_2 _ _)
        (lm_list_mul_any l items k d sl x u (by simp [Builtin.List.listFitsIndex]; omega) (by omega) (by simp [Builtin.List.listTooLong, sizeLine]; omega))
        ⟨hl, h⟩⟩)
end
theorem vals_rep : ∀ (k : Nat) {xs : List V} {its : List Value}, Vals xs its → Vals (List.replicate k xs).flatten (List.replicate k its).flatten
  | 0, _, _, _ => .nil
  | k + 1, xs, its, h => by
    rw [List.replicate_succ, List.flatten_cons, List.replicate_succ, List.flatten_cons]
    exact h.append (vals_rep k h)
theorem wrs_rep {K : PySem.W.Frag} {μ : Mu} {H : Hp} : ∀ (k : Nat) {a : List W} {xs : List V}, WRs K ca μ H a xs → WRs K ca μ H (List.replicate k a).flatten (List.replicate k xs).flatten
  | 0, _, _, _ => .nil
  | k + 1, xs, its, h => by
    rw [List.replicate_succ, List.flatten_cons, List.replicate_succ, List.flatten_cons]
    exact h.app (wrs_rep k h)
theorem rep_len {α : Type} (k : Nat) (l : List α) : (List.replicate k l).flatten.length = k * l.length := by
  induction k with
  | zero => simp
  | succ k ih => rw [List.replicate_succ, List.flatten_cons, List.length_append, ih, Nat.succ_mul]; omega
def rRep : R2 := fun x y H Q => ∃ l xs j, x = .ref l ∧ y = .int j ∧ Rd H l (.lst xs) ∧ 0 ≤ j ∧ j ≤ 1000000 ∧ j.toNat * xs.length ≤ sizeL ∧ ∀ p, H p = none → Q (.ref p) (upd H p (.lst (List.replicate j.toNat xs).flatten))
theorem op_rep : OpR X (binaryOp .Mult) rRep := by
  intro pins s σ H x y v u Q I rx ry ⟨l, xs, j, ex, ey, hl, j0, j1, hz, q⟩
  subst ex
  subst ey
  cases rx
  obtain ⟨tk, rfl⟩ := ry
  obtain ⟨_, its, n, r, e⟩ := hl.ok I.hok
  have l1 := r.length
  refine mul_lst (x := j) e (by omega) (by omega) ?_ ?_
  · simp only [List.size_toArray]
    rw [← l1, Nat.mul_comm]
    exact Nat.le_trans hz (by decide)
  · exact ⟨.ref _, _, I.lnew (t' := s.toks) (vals_rep j.toNat r) (by rw [rep_len]; exact sizeL_le hz), rfl, q _ I.fresh⟩
theorem ok_bin {op : BOp} {m : Bool} : OpR X (binaryOp (opA op)) (rOp X.K ca (binop op m)) := by
  cases op with
  | add => exact ok_add
  | sub =>
    refine opr_of op_sub fun μ hh a b x y H Q hr ra rb o => ?_
    obtain ⟨i, j, rfl, rfl, o⟩ := ints_of (by decide) (by decide) o
    exact ⟨i, j, ra.of_int, rb.of_int, o.now hr .int⟩
  | mul =>
    refine opr_of (op_mulV.or op_rep) fun μ hh a b x y H Q hr ra rb o => ?_
    cases a with
    | dat d =>
      cases d with
      | int i =>
        cases b with
        | dat e =>
          cases e with
          | int j =>
            have o : Out X.K ca μ H (rW X.K ca) Q (fun _ _ => False) (intop .mul i j hh) := o
            obtain ⟨c, o⟩ := out_if o
            exact .inl ⟨i, j, ra.of_int, rb.of_int, (show i.natAbs.log2 + j.natAbs.log2 < 100000000 from of_decide_eq_true c), o.now hr .int⟩
          | _ => exact o.elim
        | _ => exact o.elim
      | list l =>
        cases b with
        | dat e =>
          cases e with
          | int j =>
            have o : Out X.K ca μ H (rW X.K ca) Q (fun _ _ => False) (if (decide (0 ≤ j) && (decide (j ≤ 1000000) && decide (j.toNat * l.length ≤ sizeL))) = true then mkLst m (List.replicate j.toNat (l.map W.dat)).flatten hh else .bad) := o
            obtain ⟨c, o⟩ := out_if o
            have c1 := Bool.and_eq_true_iff.mp c
            have c2 := Bool.and_eq_true_iff.mp c1.2
            obtain ⟨p, xs, rfl, w1, d1⟩ := lst_ok (l := l.map W.dat) hr ra (fun _ z => nomatch z) (fun _ z => nomatch z) (fun _ _ z => nomatch z) rfl
            refine .inr ⟨p, xs, j, rfl, rb.of_int, d1, of_decide_eq_true c1.1, of_decide_eq_true c2.1, ?_, fun a ha => out_mkLst hr (wrs_rep j.toNat w1) o ha⟩
            have ln := w1.len
            rw [List.length_map] at ln
            rw [← ln]
            exact of_decide_eq_true c2.2
          | _ => exact o.elim
        | _ => exact o.elim
      | _ => exact o.elim
    | _ => exact o.elim
  | fdiv =>
    refine opr_of op_fdivW fun μ hh a b x y H Q hr ra rb o => ?_
    obtain ⟨i, j, rfl, rfl, o⟩ := ints_of (by decide) (by decide) o
    obtain ⟨c, o⟩ := out_if o
    have c2 := Bool.and_eq_true_iff.mp c
    exact ⟨i, j, ra.of_int, rb.of_int, ⟨of_decide_eq_true c2.1, of_decide_eq_true c2.2⟩, o.now hr .int⟩
  | mod =>
    refine opr_of op_mod fun μ hh a b x y H Q hr ra rb o => ?_
    obtain ⟨i, j, rfl, rfl, o⟩ := ints_of (by decide) (by decide) o
    obtain ⟨c, o⟩ := out_if o
    exact ⟨i, j, ra.of_int, rb.of_int, of_decide_eq_true c, o.now hr .int⟩
  | pow =>
    refine opr_of op_pow fun μ hh a b x y H Q hr ra rb o => ?_
    obtain ⟨i, j, rfl, rfl, o⟩ := ints_of (by decide) (by decide) o
    obtain ⟨c, o⟩ := out_if o
    have c2 := Bool.and_eq_true_iff.mp c
    have c3 := Bool.and_eq_true_iff.mp c2.2
    exact ⟨i, j, ra.of_int, rb.of_int, ⟨of_decide_eq_true c2.1, of_decide_eq_true c3.1, of_decide_eq_true c3.2⟩, o.now hr .int⟩
end
end M
/-! MCmp: the mini language's comparisons are the model's. -/
namespace M
open PySem PySem.Spec L2
def opC : COp → CmpOp
  | .eq => .Eq
  | .ne => .NotEq
  | .lt => .Lt
  | .le => .LtE
  | .gt => .Gt
  | .ge => .GtE
  | .is => .Is
  | .isnt => .IsNot
  | .isin => .In
  | .notin => .NotIn
section
variable {X : Cx} {ca : Nat → Addr}
theorem WR.dp {K : PySem.W.Frag} {μ : Mu} {H : Hp} {d : D} {x : V} (r : WR K ca μ H (.dat d) x) (c : SeqAt.shaped d = true) : Dp K H x d := by
  cases r with
  | dat h => exact h.dp (SeqAt.canLay_of_shaped c)
/-- the answer of a comparison -/
theorem out_rb {K : PySem.W.Frag} {μ : Mu} {H : Hp} {hh : Hh} {Q : VK} {E : Nat → Hp → Prop} {o : Option Bool} (hr : HR K ca μ H hh) (z : Out K ca μ H (rW K ca) Q E (rb hh o)) : ∃ k, o = some k ∧ Q (.bl k) H := by
  cases o with
  | none => exact z.elim
  | some k => exact ⟨k, rfl, z.now hr .bl⟩
theorem eqD_ok {K : PySem.W.Frag} {μ : Mu} {H : Hp} {d e : D} {x y : V} {k : Bool} (rx : WR K ca μ H (.dat d) x) (ry : WR K ca μ H (.dat e) y) (h : eqD d e = some k) :
    (scal x y = true ∧ k = decide (x = y)) ∨ (SeqAt.shaped d = true ∧ SeqAt.shaped e = true ∧ k = PyData.eqv d e) ∨ ∃ l, d = .tuple l ∧ e = .tuple [] ∧ k = l.isEmpty := by
  have gen : (if shp d && shp e then some (PyData.eqv d e) else eq0 d e) = some k → ((SeqAt.shaped d = true ∧ SeqAt.shaped e = true ∧ k = PyData.eqv d e) ∨ ∃ l, d = .tuple l ∧ e = .tuple [] ∧ k = l.isEmpty) := fun q => by
    by_cases z : (shp d && shp e) = true
    · rw [if_pos z] at q
      have z2 := Bool.and_eq_true_iff.mp z
      exact .inl ⟨z2.1, z2.2, (Option.some.inj q).symm⟩
    · rw [if_neg z] at q
      unfold eq0 at q
      split at q
      · exact .inr ⟨_, rfl, rfl, (Option.some.inj q).symm⟩
      · cases q
  cases d with
  | int i =>
    cases e with
    | int j =>
      obtain rfl := rx.of_int
      obtain rfl := ry.of_int
      exact .inl ⟨rfl, by rw [← Option.some.inj h]; simp⟩
    | _ => exact .inr (gen h)
  | str i =>
    cases e with
    | str j =>
      obtain rfl := rx.of_str
      obtain rfl := ry.of_str
      exact .inl ⟨rfl, by rw [← Option.some.inj h]; simp⟩
    | _ => exact .inr (gen h)
  | bool i =>
    cases e with
    | bool j =>
      obtain rfl := rx.of_bool
      obtain rfl := ry.of_bool
      exact .inl ⟨rfl, by rw [← Option.some.inj h]; simp⟩
    | _ => exact .inr (gen h)
  | _ => exact .inr (gen (by cases e <;> exact h))
/-- a tuple against the empty one, by values -/
def rEq0 (K : PySem.W.Frag) (neg : Bool) : R2 := fun x y H Q => ∃ a b xs, x = .ref a ∧ y = .ref b ∧ SqT K H a xs ∧ SqT K H b [] ∧ Q (.bl (if neg then !xs.isEmpty else xs.isEmpty)) H
theorem op_eq0 (hu : X.A.units + 65 < cLine) : OpR X (compareOp .Eq) (rEq0 X.K false) := by
  intro pins s σ H x y v u Q I rx ry h
  obtain ⟨a, b, xs, rfl, rfl, ha, hb, q⟩ := h
  obtain rfl : v = Value.ref a := rx
  obtain rfl : u = Value.ref b := ry
  obtain ⟨its, r1, p1, _⟩ := I.tuple ha
  obtain ⟨ets, r2, p2, _⟩ := I.tuple hb
  cases r2
  have z := SeqAt.RcAt.tuples (e := fun _ => true) p1 p2 (by omega) (A := X.A) (s := s) (fun j _ h2 => absurd h2 (Nat.not_lt_zero _))
  refine z X.prog X.w _ _ ⟨.bl xs.isEmpty, H, I, ?_, q⟩
  have hl := r1.length
  cases xs <;> cases its <;> simp_all [RelV]
theorem op_ne0 (hu : X.A.units + 65 < cLine) : OpR X (compareOp .NotEq) (rEq0 X.K true) := by
  intro pins s σ H x y v u Q I rx ry h
  obtain ⟨a, b, xs, rfl, rfl, ha, hb, q⟩ := h
  obtain rfl : v = Value.ref a := rx
  obtain rfl : u = Value.ref b := ry
  obtain ⟨its, r1, p1, _⟩ := I.tuple ha
  obtain ⟨ets, r2, p2, _⟩ := I.tuple hb
  cases r2
  have z := SeqAt.RcNeAt.tuples (e := fun _ => true) p1 p2 (by omega) (A := X.A) (s := s) (fun j _ h2 => absurd h2 (Nat.not_lt_zero _))
  refine z X.prog X.w _ _ ⟨.bl (!xs.isEmpty), H, I, ?_, q⟩
  have hl := r1.length
  cases xs <;> cases its <;> simp_all [RelV]
theorem eq0_at {K : PySem.W.Frag} {μ : Mu} {H : Hp} {l : List D} {x y : V} (rx : WR K ca μ H (.dat (.tuple l)) x) (ry : WR K ca μ H (.dat (.tuple [])) y) : ∃ a b xs, x = .ref a ∧ y = .ref b ∧ SqT K H a xs ∧ SqT K H b [] ∧ xs.isEmpty = l.isEmpty := by
  obtain ⟨a, xs, rfl, z1, z2⟩ := rx.of_tup
  obtain ⟨b, ys, rfl, z3, z4⟩ := ry.of_tup
  cases z4
  exact ⟨a, b, xs, rfl, rfl, z1.sq, z3.sq, by cases z2 <;> rfl⟩
/-- a list of the small heap against the empty one -/
def rEqL (K : PySem.W.Frag) (neg : Bool) : R2 := fun x y H Q => ∃ a b xs, x = .ref a ∧ y = .ref b ∧ SqL K H a xs ∧ SqL K H b [] ∧ Q (.bl (if neg then !xs.isEmpty else xs.isEmpty)) H
theorem op_eqL (hu : X.A.units + 65 < cLine) : OpR X (compareOp .Eq) (rEqL X.K false) := by
  intro pins s σ H x y v u Q I rx ry h
  obtain ⟨a, b, xs, rfl, rfl, ha, hb, q⟩ := h
  obtain rfl : v = Value.ref a := rx
  obtain rfl : u = Value.ref b := ry
  obtain ⟨its, r1, p1, _⟩ := I.list ha
  obtain ⟨ets, r2, p2, _⟩ := I.list hb
  cases r2
  have l1 : s.heap.IsList a its.toArray := let ⟨o, n, h1, h2, _, h3⟩ := p1; ⟨o, h1, h2, n, h3⟩
  have l2 : s.heap.IsList b ([] : List Value).toArray := let ⟨o, n, h1, h2, _, h3⟩ := p2; ⟨o, h1, h2, n, h3⟩
  have hl := r1.length
  cases r1 with
  | nil => exact SeqAt.RcAt.lists (e := fun _ => true) l1 l2 rfl (by omega) (A := X.A) (s := s) (fun j h1 _ => absurd h1 (Nat.not_lt_zero _)) X.prog X.w _ _ ⟨.bl true, H, I, by simp [RelV], q⟩
  | cons r t => exact SeqAt.RcAt.lists_lengths l1 l2 (by simp) (by omega) (A := X.A) (s := s) X.prog X.w _ _ ⟨.bl false, H, I, rfl, q⟩
theorem op_neL (hu : X.A.units + 65 < cLine) : OpR X (compareOp .NotEq) (rEqL X.K true) := by
  intro pins s σ H x y v u Q I rx ry h
  obtain ⟨a, b, xs, rfl, rfl, ha, hb, q⟩ := h
  obtain rfl : v = Value.ref a := rx
  obtain rfl : u = Value.ref b := ry
  obtain ⟨its, r1, p1, _⟩ := I.list ha
  obtain ⟨ets, r2, p2, _⟩ := I.list hb
  cases r2
  have l1 : s.heap.IsList a its.toArray := let ⟨o, n, h1, h2, _, h3⟩ := p1; ⟨o, h1, h2, n, h3⟩
  have l2 : s.heap.IsList b ([] : List Value).toArray := let ⟨o, n, h1, h2, _, h3⟩ := p2; ⟨o, h1, h2, n, h3⟩
  have hl := r1.length
  cases r1 with
  | nil => exact SeqAt.RcNeAt.lists (e := fun _ => true) l1 l2 rfl (by omega) (A := X.A) (s := s) (fun j h1 _ => absurd h1 (Nat.not_lt_zero _)) X.prog X.w _ _ ⟨.bl false, H, I, by simp [RelV], q⟩
  | cons r t => exact SeqAt.RcNeAt.lists_lengths l1 l2 (by simp) (by omega) (A := X.A) (s := s) X.prog X.w _ _ ⟨.bl true, H, I, rfl, q⟩
theorem eqW_inv {h : Hh} {a b : W} {k : Bool} (e : eqW h a b = some k) : (∃ x y, a = .dat x ∧ b = .dat y ∧ eqD x y = some k) ∨ ∃ n l, a = .ref n ∧ b = .dat (.list []) ∧ h[n]? = some (.lst l) ∧ k = l.isEmpty := by
  have nil : ∀ {y : D} {a : W}, (if isNilD y = true then nilW h a else none) = some k → ∃ n l, a = .ref n ∧ W.dat y = .dat (.list []) ∧ h[n]? = some (.lst l) ∧ k = l.isEmpty := fun {y a} q => by
    by_cases c : isNilD y = true
    · rw [if_pos c] at q
      have ey : y = .list [] := by
        unfold isNilD at c
        split at c
        · rfl
        · cases c
      subst ey
      cases a with
      | ref n =>
        have q : (match h[n]? with
          | some (.lst l) => some l.isEmpty
          | _ => none) = some k := q
        cases z : h[n]? with
        | none => rw [z] at q; cases q
        | some o =>
          cases o with
          | lst l => rw [z] at q; exact ⟨n, l, rfl, rfl, z, (Option.some.inj q).symm⟩
          | _ => rw [z] at q; cases q
      | _ => cases q
    · rw [if_neg c] at q
      cases q
  cases b with
  | dat y =>
    cases a with
    | dat x => exact .inl ⟨x, y, rfl, rfl, e⟩
    | ref n => exact .inr (nil e)
    | exc c => exact .inr (nil e)
    | scr l => exact .inr (nil e)
  | _ => cases a <;> cases e
theorem eqL_at {K : PySem.W.Frag} {μ : Mu} {H : Hp} {h : Hh} {n : Nat} {l : List W} {x y : V} (hr : HR K ca μ H h) (rx : WR K ca μ H (.ref n) x) (ry : WR K ca μ H (.dat (.list [])) y) (q : h[n]? = some (.lst l)) : ∃ a b xs, x = .ref a ∧ y = .ref b ∧ SqL K H a xs ∧ SqL K H b [] ∧ xs.isEmpty = l.isEmpty := by
  cases rx with
  | ref hn =>
    obtain ⟨xs, y1, y2⟩ := hr.ob n _ _ q hn
    obtain ⟨b, ys, rfl, z3, z4⟩ := ry.of_list
    cases z4
    exact ⟨_, b, xs, rfl, rfl, .inl (.inl y1), z3.sq, by cases y2 <;> rfl⟩
theorem isN_ok {K : PySem.W.Frag} {μ : Mu} {H : Hp} {a : W} {x : V} {k : Bool} (r : WR K ca μ H a x) (h : isC a (.dat .none) = some k) : k = decide (x = .non) := by
  cases r with
  | dat q => cases q <;> (cases h; simp)
  | ref q => cases h; simp
  | exc n q => cases h; simp
  | scr q => cases h; simp
/-- in, over data -/
def rInA (K : PySem.W.Frag) (neg : Bool) : R2 := fun x y H Q => ∃ d ds, Dp K H x d ∧ (Dp K H y (.list ds) ∨ Dp K H y (.tuple ds)) ∧ SeqAt.shaped d = true ∧ SeqAt.shaped (.list ds) = true ∧ Q (.bl (if neg then !(ds.any fun z => PyData.eqv z d) else ds.any fun z => PyData.eqv z d)) H
theorem op_inA (hu : X.A.units + 65 < cLine) : OpR X (compareOp .In) (rInA X.K false) := by
  intro pins s σ H x y v u Q I rx ry h
  obtain ⟨d, ds, hd, he, sd, se, q⟩ := h
  obtain ⟨as, r1⟩ := Dp.reads I d x v hd rx
  rcases he with he | he
  · obtain ⟨bs, r2⟩ := Dp.reads I (.list ds) y u he ry
    exact SeqAt.in_list_reads r2 r1 (SeqAt.canLay_of_shaped se) (SeqAt.canLay_of_shaped sd) (PyProof.Rows.room_in_shaped sd hu) ⟨.bl _, H, I, rfl, q⟩
  · obtain ⟨bs, r2⟩ := Dp.reads I (.tuple ds) y u he ry
    exact SeqAt.in_tuple_reads r2 r1 (SeqAt.canLay_of_shaped se) (SeqAt.canLay_of_shaped sd) (PyProof.Rows.room_in_shaped sd hu) ⟨.bl _, H, I, rfl, q⟩
theorem op_notInA (hu : X.A.units + 65 < cLine) : OpR X (compareOp .NotIn) (rInA X.K true) := by
  intro pins s σ H x y v u Q I rx ry h
  obtain ⟨d, ds, hd, he, sd, se, q⟩ := h
  obtain ⟨as, r1⟩ := Dp.reads I d x v hd rx
  rcases he with he | he
  · obtain ⟨bs, r2⟩ := Dp.reads I (.list ds) y u he ry
    exact SeqAt.notIn_list_reads r2 r1 (SeqAt.canLay_of_shaped se) (SeqAt.canLay_of_shaped sd) (PyProof.Rows.room_in_shaped sd hu) ⟨.bl _, H, I, rfl, q⟩
  · obtain ⟨bs, r2⟩ := Dp.reads I (.tuple ds) y u he ry
    exact SeqAt.notIn_tuple_reads r2 r1 (SeqAt.canLay_of_shaped se) (SeqAt.canLay_of_shaped sd) (PyProof.Rows.room_in_shaped sd hu) ⟨.bl _, H, I, rfl, q⟩
theorem inSeq_ok {d : D} {l : List D} {k : Bool} (h : inSeq d l = some k) : SeqAt.shaped d = true ∧ SeqAt.shaped (.list l) = true ∧ k = l.any fun e => PyData.eqv e d := by
  unfold inSeq at h
  by_cases z : (shp d && shp (.list l)) = true
  · rw [if_pos z] at h
    have z2 := Bool.and_eq_true_iff.mp z
    exact ⟨z2.1, z2.2, (Option.some.inj h).symm⟩
  · rw [if_neg z] at h
    cases h
/-- a dict of the small heap, asked -/
theorem KW.val {K : PySem.W.Frag} {μ : Mu} {H : Hp} {k : Key} {l : List (Ky × W)} {kvs : List (Key × V)} (w : Paired (fun (p : Ky × W) (q : Key × V) => p.1 = q.1 ∧ WR K ca μ H p.2 q.2) l kvs) : (valA l k = none ∧ valV kvs k = none) ∨ ∃ x v, valA l k = some x ∧ valV kvs k = some v ∧ WR K ca μ H x v := by
  induction w with
  | nil => exact .inl ⟨rfl, rfl⟩
  | @cons p q ps qs h t ih =>
    unfold valA
    by_cases e : p.1 = k
    · exact .inr ⟨p.2, q.2, by simp [List.find?_cons, e], valV_pos (h.1.symm.trans e), h.2⟩
    · rw [List.find?_cons, decide_eq_false e, valV_neg (fun z => e (h.1.trans z))]
      exact ih
theorem KW.put {K : PySem.W.Frag} {μ : Mu} {H : Hp} {k : Key} {c : W} {v : V} (r : WR K ca μ H c v) {l : List (Ky × W)} {kvs : List (Key × V)} (w : Paired (fun (p : Ky × W) (q : Key × V) => p.1 = q.1 ∧ WR K ca μ H p.2 q.2) l kvs) : Paired (fun (p : Ky × W) (q : Key × V) => p.1 = q.1 ∧ WR K ca μ H p.2 q.2) (putA l k c) (L2.putK kvs k v) := by
  have ea : (l.any fun p => decide (p.1 = k)) = (kvs.any fun kv => decide (kv.1 = k)) := by
    induction w with
    | nil => rfl
    | cons h t ih => rw [List.any_cons, List.any_cons, ih, h.1]
  unfold putA L2.putK
  rw [ea]
  by_cases e : (kvs.any fun kv => decide (kv.1 = k)) = true
  · rw [if_pos e, if_pos e]
    clear e ea
    induction w with
    | nil => exact .nil
    | @cons p q ps qs h t ih =>
      rw [List.map_cons, List.map_cons]
      refine .cons ?_ ih
      by_cases e : p.1 = k
      · rw [if_pos e, if_pos (h.1.symm.trans e)]; exact ⟨h.1, r⟩
      · rw [if_neg e, if_neg (fun z => e (h.1.trans z))]; exact h
  · rw [if_neg e, if_neg e]
    exact Paired.snoc w ⟨rfl, r⟩
theorem ky_ok {K : PySem.W.Frag} {μ : Mu} {H : Hp} {y : W} {v : V} {k : Ky} (r : WR K ca μ H y v) (e : kyOf y = some k) : v = kV k := by
  cases y with
  | dat d =>
    cases d with
    | int i => cases e; exact r.of_int
    | str x => cases e; exact r.of_str
    | _ => cases e
  | _ => cases e
theorem get_ok {K : PySem.W.Frag} {μ : Mu} {H : Hp} {h : Hh} {n : Nat} {p : Addr} {y : W} {v : V} {o : Option W} (hr : HR K ca μ H h) (hn : μ.m[n]? = some p) (r : WR K ca μ H y v) (e : dctGet h n y = some o) :
    ∃ o', DGet H p v o' ∧ o.isSome = o'.isSome ∧ ∀ w, o = some w → ∃ v', o' = some v' ∧ WR K ca μ H w v' := by
  unfold dctGet at e
  cases q : h[n]? with
  | none => rw [q] at e; cases e
  | some ob =>
    rw [q] at e
    have z := hr.ob n ob p q hn
    cases ob with
    | dct l =>
      obtain ⟨kvs, y1, w⟩ := z
      obtain ⟨k, e1, rfl⟩ := Option.map_eq_some_iff.mp e
      have ev := ky_ok r e1
      subst ev
      rcases KW.val (k := k) w with ⟨a, b⟩ | ⟨x, v', a, b, c⟩
      · exact ⟨none, b ▸ DGet.k y1, by rw [a]; rfl, fun w z => by rw [a] at z; cases z⟩
      · exact ⟨some v', b ▸ DGet.k y1, by rw [a]; rfl, fun w z => by rw [a] at z; cases z; exact ⟨v', rfl, c⟩⟩
    | lck l => exact z.elim
    | _ => cases e
/-- y in d, by values -/
def rInD (neg : Bool) : V → V → Hp → VK → Prop := fun x y H Q => ∃ a o, y = .ref a ∧ DGet H a x o ∧ Q (.bl (if neg = true then !o.isSome else o.isSome)) H
theorem op_inD (hu : X.A.units + 65 < cLine) : OpR X (compareOp .In) (rInD false) := by
  intro pins s σ H x y v u Q I rx ry h
  obtain ⟨a, o, rfl, g, q⟩ := h
  obtain rfl : u = Value.ref a := ry
  exact d_in (by omega) I g rx fun s3 I3 => ⟨.bl _, H, I3, rfl, q⟩
theorem op_notInD (hu : X.A.units + 65 < cLine) : OpR X (compareOp .NotIn) (rInD true) := by
  intro pins s σ H x y v u Q I rx ry h
  obtain ⟨a, o, rfl, g, q⟩ := h
  obtain rfl : u = Value.ref a := ry
  exact d_notIn (by omega) I g rx fun s3 I3 => ⟨.bl _, H, I3, rfl, q⟩
/-- what in comes to -/
theorem inW_ok {K : PySem.W.Frag} {μ : Mu} {H : Hp} {hh : Hh} {a b : W} {x y : V} {k : Bool} (hr : HR K ca μ H hh) (rx : WR K ca μ H a x) (ry : WR K ca μ H b y) (h : inW hh a b = some k) :
    (∃ i j, x = .str i ∧ y = .str j ∧ k = inStr i j) ∨ (∃ d ds, Dp K H x d ∧ (Dp K H y (.list ds) ∨ Dp K H y (.tuple ds)) ∧ (SeqAt.shaped d = true ∧ SeqAt.shaped (.list ds) = true ∧ k = ds.any fun z => PyData.eqv z d)) ∨ ∃ p o, y = .ref p ∧ DGet H p x o ∧ k = o.isSome := by
  cases a with
  | dat d =>
    cases b with
    | dat e =>
      cases e with
      | str j =>
        cases d with
        | str i => exact .inl ⟨i, j, rx.of_str, ry.of_str, (Option.some.inj h).symm⟩
        | _ => cases h
      | list l =>
        obtain ⟨h1, h2, h3⟩ := inSeq_ok h
        exact .inr (.inl ⟨d, l, rx.dp h1, .inl (ry.dp h2), h1, h2, h3⟩)
      | tuple l =>
        obtain ⟨h1, h2, h3⟩ := inSeq_ok h
        exact .inr (.inl ⟨d, l, rx.dp h1, .inr (ry.dp h2), h1, h2, h3⟩)
      | _ => cases h
    | ref n =>
      cases ry with
      | ref hn =>
        rename_i p
        cases q : hh[n]? with
        | none => simp [inW, dctGet, q] at h
        | some o =>
          have z := hr.ob n o p q hn
          cases o with
          | lst l =>
            cases w : dsOf l with
            | none => simp [inW, q, w] at h
            | some ds =>
              simp only [inW, q, w] at h
              obtain ⟨xs, y1, y2⟩ := z
              obtain ⟨h1, h2, h3⟩ := inSeq_ok h
              exact .inr (.inl ⟨d, ds, rx.dp h1, .inl (.lst (SqL.of y1) ((WRs.data y2 w).dp (by have := SeqAt.canLay_of_shaped h2; simpa [PyData.canLay0] using this))), h1, h2, h3⟩)
          | _ =>
            simp only [inW, q] at h
            obtain ⟨o', e1, e2⟩ := Option.map_eq_some_iff.mp h
            obtain ⟨o2, g, es, _⟩ := get_ok hr hn rx e1
            exact .inr (.inr ⟨p, o2, rfl, g, by rw [← e2, es]⟩)
    | _ => cases h
  | _ => cases h
theorem ord_of {K : PySem.W.Frag} {μ : Mu} {H : Hp} {hh : Hh} {Q : VK} {E : Nat → Hp → Prop} {op : COp} (hop : op = .le ∨ op = .gt ∨ op = .ge) {a b : W} (hr : HR K ca μ H hh) (o : Out K ca μ H (rW K ca) Q E (rb hh (cmpW op a b hh))) :
    ∃ i j k, a = .dat (.int i) ∧ b = .dat (.int j) ∧ intcmp op i j = some k ∧ Q (.bl k) H := by
  obtain ⟨k, e, q⟩ := out_rb hr o
  cases a with
  | dat d =>
    cases d with
    | int i =>
      cases b with
      | dat d2 =>
        cases d2 with
        | int j => exact ⟨i, j, k, rfl, rfl, by rcases hop with rfl | rfl | rfl <;> exact e, q⟩
        | _ => rcases hop with rfl | rfl | rfl <;> cases e
      | _ => rcases hop with rfl | rfl | rfl <;> cases e
    | _ => rcases hop with rfl | rfl | rfl <;> cases e
  | _ => rcases hop with rfl | rfl | rfl <;> cases e
theorem map_not {o : Option Bool} {k : Bool} (h : o.map not = some k) : o = some (!k) := by
  cases o with
  | none => cases h
  | some b => cases b <;> cases k <;> first | rfl | cases h
theorem ok_cmp (hu : X.A.units + 65 < cLine) {op : COp} : OpR X (compareOp (opC op)) (rOp X.K ca fun a b h => rb h (cmpW op a b h)) := by
  cases op with
  | eq =>
    refine opr_of (((op_eq.or (op_eqD (by omega))).or (op_eq0 hu)).or (op_eqL hu)) fun μ hh a b x y H Q hr ra rb' o => ?_
    obtain ⟨k, e, q⟩ := out_rb hr o
    rcases eqW_inv e with ⟨d, d2, rfl, rfl, e⟩ | ⟨n, l, rfl, rfl, en, rfl⟩
    · rcases eqD_ok ra rb' e with ⟨h1, rfl⟩ | ⟨h1, h2, rfl⟩ | ⟨l, rfl, rfl, rfl⟩
      · exact .inl (.inl (.inl ⟨h1, q⟩))
      · exact .inl (.inl (.inr ⟨d, d2, ra.dp h1, rb'.dp h2, h1, h2, q⟩))
      · obtain ⟨a, b, xs, g1, g2, g3, g4, g5⟩ := eq0_at ra rb'
        exact .inl (.inr ⟨a, b, xs, g1, g2, g3, g4, by rw [g5]; exact q⟩)
    · obtain ⟨a, b, xs, g1, g2, g3, g4, g5⟩ := eqL_at hr ra rb' en
      exact .inr ⟨a, b, xs, g1, g2, g3, g4, by rw [g5]; exact q⟩
  | ne =>
    refine opr_of (((op_ne.or (op_neD (by omega))).or (op_ne0 hu)).or (op_neL hu)) fun μ hh a b x y H Q hr ra rb' o => ?_
    obtain ⟨k, e, q⟩ := out_rb hr o
    have e2 := map_not (show (eqW hh a b).map not = some k from e)
    rcases eqW_inv e2 with ⟨d, d2, rfl, rfl, e2⟩ | ⟨n, l, rfl, rfl, en, h3⟩
    · rcases eqD_ok ra rb' e2 with ⟨h1, h3⟩ | ⟨h1, h2, h3⟩ | ⟨l, rfl, rfl, h3⟩
      · exact .inl (.inl (.inl ⟨h1, by rw [← h3, Bool.not_not]; exact q⟩))
      · exact .inl (.inl (.inr ⟨d, d2, ra.dp h1, rb'.dp h2, h1, h2, by rw [← h3, Bool.not_not]; exact q⟩))
      · obtain ⟨a, b, xs, g1, g2, g3, g4, g5⟩ := eq0_at ra rb'
        exact .inl (.inr ⟨a, b, xs, g1, g2, g3, g4, by rw [if_pos rfl, g5, ← h3, Bool.not_not]; exact q⟩)
    · obtain ⟨a, b, xs, g1, g2, g3, g4, g5⟩ := eqL_at hr ra rb' en
      exact .inr ⟨a, b, xs, g1, g2, g3, g4, by rw [if_pos rfl, g5, ← h3, Bool.not_not]; exact q⟩
  | lt =>
    refine opr_of (op_lt.or (op_ltDat hu)) fun μ hh a b x y H Q hr ra rb' o => ?_
    obtain ⟨k, e, q⟩ := out_rb hr o
    cases a with
    | dat d =>
      cases b with
      | dat d2 =>
        have both : (∃ i j, d = .int i ∧ d2 = .int j ∧ k = decide (i < j)) ∨ ltW d d2 = some k := by
          cases d with
          | int i =>
            cases d2 with
            | int j => exact .inl ⟨i, j, rfl, rfl, (Option.some.inj e).symm⟩
            | _ => exact .inr e
          | _ => exact .inr e
        rcases both with ⟨i, j, rfl, rfl, rfl⟩ | e
        · exact .inl ⟨i, j, ra.of_int, rb'.of_int, q⟩
        · unfold ltW at e
          split at e
          · rename_i c
            have c1 := Bool.and_eq_true_iff.mp c
            have c2 := Bool.and_eq_true_iff.mp c1.2
            cases e
            exact .inr ⟨d, d2, ra.dp c1.1, rb'.dp c2.1, c1.1, c2.1, c2.2, q⟩
          · cases e
      | _ => cases d <;> cases e
    | _ => cases e
  | le =>
    refine opr_of op_le fun μ hh a b x y H Q hr ra rb' o => ?_
    obtain ⟨i, j, k, rfl, rfl, e, q⟩ := ord_of (.inl rfl) hr o
    exact ⟨i, j, ra.of_int, rb'.of_int, by cases e; exact q⟩
  | gt =>
    refine opr_of op_gt fun μ hh a b x y H Q hr ra rb' o => ?_
    obtain ⟨i, j, k, rfl, rfl, e, q⟩ := ord_of (.inr (.inl rfl)) hr o
    exact ⟨i, j, ra.of_int, rb'.of_int, by cases e; exact q⟩
  | ge =>
    refine opr_of op_ge fun μ hh a b x y H Q hr ra rb' o => ?_
    obtain ⟨i, j, k, rfl, rfl, e, q⟩ := ord_of (.inr (.inr rfl)) hr o
    exact ⟨i, j, ra.of_int, rb'.of_int, by cases e; exact q⟩
  | is =>
    refine opr_of (op_isN.or op_is_bl) fun μ hh a b x y H Q hr ra rb' o => ?_
    obtain ⟨k, e, q⟩ := out_rb hr o
    cases b with
    | dat d =>
      cases d with
      | none => exact .inl ⟨rb'.of_none, by rw [← isN_ok ra e]; exact q⟩
      | bool j =>
        cases a with
        | dat d2 =>
          cases d2 with
          | bool i => exact .inr ⟨i, j, ra.of_bool, rb'.of_bool, by rw [Option.some.inj (show some (decide (i = j)) = some k from e)]; exact q⟩
          | _ => cases e
        | _ => cases e
      | _ => cases e
    | _ => cases e
  | isnt =>
    refine opr_of (op_notN.or op_isnot_bl) fun μ hh a b x y H Q hr ra rb' o => ?_
    obtain ⟨k, e0, q⟩ := out_rb hr o
    have e := map_not (show (isC a b).map not = some k from e0)
    cases b with
    | dat d =>
      cases d with
      | none => exact .inl ⟨rb'.of_none, by rw [← isN_ok ra e, Bool.not_not]; exact q⟩
      | bool j =>
        cases a with
        | dat d2 =>
          cases d2 with
          | bool i => exact .inr ⟨i, j, ra.of_bool, rb'.of_bool, by rw [Option.some.inj (show some (decide (i = j)) = some (!k) from e), Bool.not_not]; exact q⟩
          | _ => cases e
        | _ => cases e
      | _ => cases e
    | _ => cases e
  | isin =>
    refine opr_of (op_in_str.or ((op_inA hu).or (op_inD hu))) fun μ hh a b x y H Q hr ra rb' o => ?_
    obtain ⟨k, e, q⟩ := out_rb hr o
    rcases inW_ok hr ra rb' e with ⟨i, j, h1, h2, rfl⟩ | ⟨d, ds, h1, h2, h3, h4, rfl⟩ | ⟨p, o, h1, h2, rfl⟩
    · exact .inl ⟨i, j, h1, h2, q⟩
    · exact .inr (.inl ⟨d, ds, h1, h2, h3, h4, q⟩)
    · exact .inr (.inr ⟨p, o, h1, h2, q⟩)
  | notin =>
    refine opr_of (op_notin_str.or ((op_notInA hu).or (op_notInD hu))) fun μ hh a b x y H Q hr ra rb' o => ?_
    obtain ⟨k, e0, q⟩ := out_rb hr o
    have e := map_not (show (inW hh a b).map not = some k from e0)
    rcases inW_ok hr ra rb' e with ⟨i, j, h1, h2, h3⟩ | ⟨d, ds, h1, h2, h3, h4, h5⟩ | ⟨p, o, h1, h2, h3⟩
    · exact .inl ⟨i, j, h1, h2, by rw [show (!(!(Builtin.Str.occurrences j i 0 j.length 1).isEmpty)) = k by rw [show (!(Builtin.Str.occurrences j i 0 j.length 1).isEmpty) = !k from h3.symm, Bool.not_not]]; exact q⟩
    · exact .inr (.inl ⟨d, ds, h1, h2, h3, h4, by rw [if_pos rfl, ← h5, Bool.not_not]; exact q⟩)
    · exact .inr (.inr ⟨p, o, h1, h2, by rw [if_pos rfl, ← h3, Bool.not_not]; exact q⟩)
end
end M
/-! MBlt: built-in functions, subscripts, slices. -/
namespace M
open PySem PySem.Spec L2
/-- a call by values, read by the mini language -/
def rC (K : PySem.W.Frag) (ca : Nat → Addr) (f : List W → Hh → Res W) : List V → Hp → VK → Prop := fun xs H Q => ∃ μ h ws, HR K ca μ H h ∧ WRs K ca μ H ws xs ∧ Out K ca μ H (rW K ca) Q (fun _ _ => False) (f ws h)
section
variable {X : Cx} {ca : Nat → Addr}
theorem cr_of {f : Value} {r : List V → Hp → VK → Prop} {g : List W → Hh → Res W} (h : CallR X f r)
    (k : ∀ (μ : Mu) (hh : Hh) (ws : List W) (xs : List V) (H : Hp) (Q : VK), HR X.K ca μ H hh → WRs X.K ca μ H ws xs → Out X.K ca μ H (rW X.K ca) Q (fun _ _ => False) (g ws hh) → r xs H Q) : CallR X f (rC X.K ca g) :=
  fun pins s σ H xs us Q I r ⟨μ, hh, ws, hr, z, o⟩ => h pins s σ H xs us Q I r (k μ hh ws xs H Q hr z o)
theorem ws1 {K : PySem.W.Frag} {μ : Mu} {H : Hp} {w : W} {xs : List V} (h : WRs K ca μ H [w] xs) : ∃ x, xs = [x] ∧ WR K ca μ H w x := by
  cases h with
  | cons r t => cases t; exact ⟨_, rfl, r⟩
theorem ws2 {K : PySem.W.Frag} {μ : Mu} {H : Hp} {w v : W} {xs : List V} (h : WRs K ca μ H [w, v] xs) : ∃ x y, xs = [x, y] ∧ WR K ca μ H w x ∧ WR K ca μ H v y := by
  cases h with
  | cons r t =>
    obtain ⟨y, rfl, q⟩ := ws1 t
    exact ⟨_, y, rfl, r, q⟩
theorem bools_ok {K : PySem.W.Frag} {μ : Mu} {H : Hp} : ∀ {l : List W} {xs : List V} {bs : List Bool}, WRs K ca μ H l xs → boolsOf l = some bs → xs = bs.map V.bl
  | [], _, _, .nil, e => by cases e; rfl
  | w :: l, _, bs, .cons r t, e => by
    cases q : truth w with
    | none => simp [boolsOf, q] at e
    | some b =>
      cases q2 : boolsOf l with
      | none => simp [boolsOf, q, q2] at e
      | some bs' =>
        simp only [boolsOf, q, q2, Option.some.injEq] at e
        subst e
        rw [List.map_cons, ← bools_ok t q2]
        have z : w = .dat (.bool b) := by
          cases w with
          | dat d => cases d <;> first | (cases q; rfl) | cases q
          | _ => cases q
        subst z
        rw [r.of_bool]
theorem lst_ok2 {K : PySem.W.Frag} {μ : Mu} {H : Hp} {h : Hh} {w : W} {x : V} {l : List W} (hr : HR K ca μ H h) (r : WR K ca μ H w x) (e : lstOf h w = some l) : ∃ a xs, x = .ref a ∧ WRs K ca μ H l xs ∧ SqL K H a xs := by
  obtain ⟨e1, e2, e3, e4⟩ := lstOf_seq e
  obtain ⟨a, xs, h1, h2, h3⟩ := lst_ok hr r e2 e3 e4 e1
  exact ⟨a, xs, h1, h2, .inl h3⟩
theorem ok_abs : CallR X (.builtin "abs") (rC X.K ca (builtin .abs m)) := by
  refine cr_of call_abs fun μ hh ws xs H Q hr z o => ?_
  match ws, z, o with
  | [.dat (.int i)], z, o =>
    obtain ⟨x, rfl, r⟩ := ws1 z
    exact ⟨i, by rw [r.of_int], o.now hr .int⟩
theorem ok_len : CallR X (.builtin "len") (rC X.K ca (builtin .len m)) := by
  refine cr_of call_len fun μ hh ws xs H Q hr z o => ?_
  match ws, z, o with
  | [w], z, o =>
    obtain ⟨x, rfl, r⟩ := ws1 z
    have o1 : Out X.K ca μ H (rW X.K ca) Q (fun _ _ => False) (ri hh ((lenOf hh w).map Int.ofNat)) := o
    cases e : lenOf hh w with
    | none => rw [e] at o1; exact o1.elim
    | some n =>
      rw [e] at o1
      refine ⟨x, n, rfl, ?_, o1.now hr .int⟩
      have sq : (seqOf hh w).map List.length = some n → LenV X.K x H n := fun q => by
        cases q2 : seqOf hh w with
        | none => rw [q2] at q; cases q
        | some l =>
          rw [q2] at q
          obtain ⟨a, ys, rfl, w2, s⟩ := seqOf_ok hr r q2
          have : n = ys.length := by rw [← w2.len]; exact (Option.some.inj q).symm
          exact s.elim (fun s => .inl ⟨ys, s, this⟩) fun s => .inr ⟨ys, s, this⟩
      cases w with
      | dat d =>
        cases d with
        | str y =>
          have e1 : (if y.length ≤ sizeL then some y.length else none) = some n := e
          by_cases hz : y.length ≤ sizeL
          · rw [if_pos hz] at e1
            rw [r.of_str]
            exact ⟨sizeL_le hz, (Option.some.inj e1).symm⟩
          · rw [if_neg hz] at e1
            cases e1
        | _ => exact sq e
      | _ => exact sq e
theorem ok_all (hc : X.calm = true) : CallR X (.builtin "all") (rC X.K ca (builtin .all m)) := by
  refine cr_of (cr_all hc) fun μ hh ws xs H Q hr z o => ?_
  match ws, z, o with
  | [w], z, o =>
    obtain ⟨x, rfl, r⟩ := ws1 z
    obtain ⟨k, e, q⟩ := out_rb hr (show Out X.K ca μ H (rW X.K ca) Q (fun _ _ => False) (rb hh (((lstOf hh w).bind boolsOf).map fun l => l.all id)) from o)
    obtain ⟨bs, e1, e2⟩ := Option.map_eq_some_iff.mp e
    obtain ⟨l, e3, e4⟩ := Option.bind_eq_some_iff.mp e1
    obtain ⟨a, ys, rfl, w2, s⟩ := lst_ok2 hr r e3
    refine ⟨a, bs, rfl, ?_, by rw [e2]; exact q⟩
    rw [← bools_ok w2 e4]
    exact s
theorem ok_any (hc : X.calm = true) : CallR X (.builtin "any") (rC X.K ca (builtin .any m)) := by
  refine cr_of (cr_any hc) fun μ hh ws xs H Q hr z o => ?_
  match ws, z, o with
  | [w], z, o =>
    obtain ⟨x, rfl, r⟩ := ws1 z
    obtain ⟨k, e, q⟩ := out_rb hr (show Out X.K ca μ H (rW X.K ca) Q (fun _ _ => False) (rb hh (((lstOf hh w).bind boolsOf).map fun l => l.any id)) from o)
    obtain ⟨bs, e1, e2⟩ := Option.map_eq_some_iff.mp e
    obtain ⟨l, e3, e4⟩ := Option.bind_eq_some_iff.mp e1
    obtain ⟨a, ys, rfl, w2, s⟩ := lst_ok2 hr r e3
    refine ⟨a, bs, rfl, ?_, by rw [e2]; exact q⟩
    rw [← bools_ok w2 e4]
    exact s
theorem ok_int : CallR X (.type "int") (rC X.K ca (builtin .int m)) := by
  refine cr_of call_int1 fun μ hh ws xs H Q hr z o => ?_
  match ws, z, o with
  | [.dat (.int i)], z, o =>
    obtain ⟨x, rfl, r⟩ := ws1 z
    exact .inl ⟨i, by rw [r.of_int], o.now hr .int⟩
  | [.dat (.bool i)], z, o =>
    obtain ⟨x, rfl, r⟩ := ws1 z
    exact .inr ⟨i, by rw [r.of_bool], o.now hr .int⟩
theorem ok_min2 (hc : X.calm = true) : CallR X (.builtin "min") (rC X.K ca (builtin .min2 m)) := by
  refine cr_of (call_min2 hc) fun μ hh ws xs H Q hr z o => ?_
  match ws, z, o with
  | [.dat (.int i), .dat (.int j)], z, o =>
    obtain ⟨x, y, rfl, r, r2⟩ := ws2 z
    exact ⟨i, j, by rw [r.of_int, r2.of_int], o.now hr .int⟩
theorem ok_max2 (hc : X.calm = true) : CallR X (.builtin "max") (rC X.K ca (builtin .max2 m)) := by
  refine cr_of (call_max2 hc) fun μ hh ws xs H Q hr z o => ?_
  match ws, z, o with
  | [.dat (.int i), .dat (.int j)], z, o =>
    obtain ⟨x, y, rfl, r, r2⟩ := ws2 z
    exact ⟨i, j, by rw [r.of_int, r2.of_int], o.now hr .int⟩
theorem ok_divmod : CallR X (.builtin "divmod") (rC X.K ca (builtin .divmod m)) := by
  refine cr_of call_divmodW fun μ hh ws xs H Q hr z o => ?_
  match ws, z, o with
  | [.dat (.int i), .dat (.int j)], z, o =>
    obtain ⟨x, y, rfl, r, r2⟩ := ws2 z
    obtain ⟨c, o⟩ := out_if o
    have c2 := Bool.and_eq_true_iff.mp c
    refine ⟨i, j, by rw [r.of_int, r2.of_int], ⟨of_decide_eq_true c2.1, PyProof.noPylong_of_log2 (of_decide_eq_true c2.2)⟩, fun p hp => ?_⟩
    exact o μ _ _ (hr.stp hp) (hr.new hp) (.dat (VR.newTup ⟨hh, hr⟩ hp (.cons (.int _) (.cons (.int _) .nil))))
theorem ok_str : CallR X (.type "str") (rC X.K ca (builtin .str m)) := by
  refine cr_of call_str_int fun μ hh ws xs H Q hr z o => ?_
  match ws, z, o with
  | [.dat (.int i)], z, o =>
    obtain ⟨x, rfl, r⟩ := ws1 z
    obtain ⟨c, o⟩ := out_if o
    exact ⟨i, by rw [r.of_int], of_decide_eq_true c, o.now hr (.dat (.str _))⟩
theorem ok_tuple : CallR X (.type "tuple") (rC X.K ca (builtin .tuple m)) := by
  refine cr_of call_tuple_of fun μ hh ws xs H Q hr z o => ?_
  match ws, z, o with
  | [w], z, o =>
    obtain ⟨x, rfl, r⟩ := ws1 z
    have gen : Out X.K ca μ H (rW X.K ca) Q (fun _ _ => False) (match lstOf hh w with
      | some l => mkTup l hh
      | none => .bad) → ∃ p ys, [x] = [V.ref p] ∧ ((SqL X.K H p ys ∧ ∀ l, H l = none → Q (.ref l) (upd H l (.tup ys))) ∨ (SqT X.K H p ys ∧ Q (.ref p) H)) := fun o => by
      cases e : lstOf hh w with
      | none => rw [e] at o; exact o.elim
      | some l =>
        rw [e] at o
        obtain ⟨a, ys, rfl, w2, s⟩ := lst_ok2 hr r e
        exact ⟨a, ys, rfl, .inl ⟨s, fun p hp => out_mkTup hr w2 o hp⟩⟩
    cases w with
    | dat d =>
      cases d with
      | tuple ds =>
        obtain ⟨a, ys, rfl, h1, h2⟩ := r.of_tup
        exact ⟨a, ys, rfl, .inr ⟨h1.sq, o.now hr r⟩⟩
      | _ => exact gen o
    | _ => exact gen o
theorem ok_list : CallR X (.type "list") (rC X.K ca (builtin .list m)) := by
  refine cr_of call_list_of fun μ hh ws xs H Q hr z o => ?_
  match ws, z, o with
  | [w], z, o =>
    obtain ⟨x, rfl, r⟩ := ws1 z
    cases e : seqOf hh w with
    | none => simp only [builtin, e] at o; exact o.elim
    | some l =>
      simp only [builtin, e] at o
      obtain ⟨a, ys, rfl, w2, s⟩ := seqOf_ok hr r e
      exact ⟨a, ys, rfl, s, fun p hp => out_mkLst hr w2 o hp⟩

/-! ### sorted -/
theorem srcD_ok {K : PySem.W.Frag} {μ : Mu} {H : Hp} {h : Hh} {w : W} {x : V} {ds : List D} (hr : HR K ca μ H h) (r : WR K ca μ H w x) (e : srcD h w = some ds) : ∃ a xs, x = .ref a ∧ VRs K μ H ds xs ∧ (SqL K H a xs ∨ SqT K H a xs) := by
  cases w with
  | dat d =>
    cases d with
    | list l =>
      obtain ⟨a, xs, rfl, h1, h2⟩ := r.of_list
      cases e
      exact ⟨a, xs, rfl, h2, .inl h1.sq⟩
    | tuple l =>
      obtain ⟨a, xs, rfl, h1, h2⟩ := r.of_tup
      cases e
      exact ⟨a, xs, rfl, h2, .inr h1.sq⟩
    | _ => cases e
  | ref n =>
    cases r with
    | ref hn =>
      rename_i p
      cases q : h[n]? with
      | none => simp [srcD, q] at e
      | some o =>
        have z := hr.ob n o p q hn
        cases o with
        | lst l =>
          simp only [srcD, q] at e
          obtain ⟨xs, y1, y2⟩ := z
          exact ⟨p, xs, rfl, y2.data e, .inl (SqL.of y1)⟩
        | _ => simp [srcD, q] at e
  | _ => cases e
theorem vrs_get {K : PySem.W.Frag} {μ : Mu} {H : Hp} : ∀ {ds : List D} {xs : List V} {i : Nat} {d : D} {x : V}, VRs K μ H ds xs → ds[i]? = some d → xs[i]? = some x → VR K μ H d x
  | [], _, i, d, x, h, e, _ => by simp at e
  | e :: ds, _, i, d, x, h, e1, e2 => by
    cases h with
    | cons r rs =>
      cases i with
      | zero =>
        simp at e1 e2
        subst e1; subst e2
        exact r
      | succ i => exact vrs_get rs (by simpa using e1) (by simpa using e2)
theorem kd_of {ds : List D} (h : kdB ds = true) : Kd ds := by
  have al : ∀ {f : D → Bool} {P : D → Prop}, (∀ d, f d = true → P d) → ds.all f = true → ∀ d ∈ ds, P d := fun k h d m => k d (List.all_eq_true.mp h d m)
  unfold kdB at h
  rcases Bool.or_eq_true_iff.mp h with h | h
  · exact .str (al (fun d q => by cases d <;> first | exact ⟨_, rfl⟩ | cases q) h)
  rcases Bool.or_eq_true_iff.mp h with h | h
  · exact .int (al (fun d q => by cases d <;> first | exact ⟨_, rfl⟩ | cases q) h)
  rcases Bool.or_eq_true_iff.mp h with h | h
  · refine .tstr (al (fun d q => ?_) h)
    unfold hdStrD at q
    split at q
    · exact ⟨_, _, rfl⟩
    · cases q
  · refine .tint (al (fun d q => ?_) h)
    unfold hdIntD at q
    split at q
    · exact ⟨_, _, rfl⟩
    · cases q
theorem ok_sorted (hu : X.A.units + 65 < cLine) : CallR X (.builtin "sorted") (rC X.K ca (builtin .sorted m)) := by
  refine cr_of (cr_sortDat hu) fun μ hh ws xs H Q hr z o => ?_
  match ws, z, o with
  | [w], z, o =>
    obtain ⟨x, rfl, r⟩ := ws1 z
    cases e : srcD hh w with
    | none => simp only [builtin, sortW, e] at o; exact o.elim
    | some ds =>
      simp only [builtin, sortW, e] at o
      obtain ⟨c, o⟩ := out_if o
      obtain ⟨a, ys, rfl, h1, h2⟩ := srcD_ok hr r e
      have c1 := Bool.and_eq_true_iff.mp c
      have c2 := Bool.and_eq_true_iff.mp c1.2
      have c3 := Bool.and_eq_true_iff.mp c2.2
      refine ⟨a, ys, ds, rfl, h2, h1.dp c2.1, c2.1, of_decide_eq_true c3.1, kd_of c1.1, fun x mx y my => List.all_eq_true.mp (List.all_eq_true.mp c3.2 x mx) y my, fun zs p pr hp => out_mkLst hr ?_ o hp⟩
      clear o
      generalize sortD ds = ss at pr
      induction pr with
      | nil => exact .nil
      | cons q _ ih =>
        obtain ⟨i, q1, q2⟩ := q
        exact .cons (.dat (vrs_get h1 q2 q1)) ih

/-! ### subscripts -/
theorem atI_eq {α : Type} (l : List α) (i : Int) : M.atI l i = L2.atI l i := rfl
theorem WRs.at_ {K : PySem.W.Frag} {μ : Mu} {H : Hp} {l : List W} {xs : List V} {i : Int} {w : W} (z : WRs K ca μ H l xs) (e : M.atI l i = some w) : ∃ v, L2.atI xs i = some v ∧ WR K ca μ H w v := by
  have go : ∀ {l : List W} {xs : List V} {j : Nat}, WRs K ca μ H l xs → l[j]? = some w → ∃ v, xs[j]? = some v ∧ WR K ca μ H w v := by
    intro l xs j z
    induction z generalizing j with
    | nil => intro e; simp at e
    | cons r t ih =>
      intro e
      cases j with
      | zero => simp at e; subst e; exact ⟨_, rfl, r⟩
      | succ j => simpa using ih (by simpa using e)
  obtain ⟨j, e1, e2⟩ := Option.bind_eq_some_iff.mp e
  obtain ⟨v, h1, h2⟩ := go z e2
  refine ⟨v, ?_, h2⟩
  show (ixN xs.length i).bind _ = _
  rw [← z.len]
  rw [show ixN l.length i = some j from e1]
  exact h1
/-- d[y], by values -/
def rIxDct : R2 := fun x y H Q => ∃ a v, x = .ref a ∧ DGet H a y (some v) ∧ Q v H
open PyProof.Rows in
theorem ix_dct (hu : X.A.units + 1 < cLine) : IxR X rIxDct := by
  intro value slice pins s σ H x y v u Q I rx ry h hs
  obtain ⟨a, w, rfl, g, q⟩ := h
  obtain rfl : v = Value.ref a := rx
  have hT := dict_typeIs I g
  unfold subscriptTail
  refine wpAny_bind ?_
  rw [getitemInPython_of_ne hT.not_modules]
  refine wpAny_bind (wpAny_specialOf hT PySem.F.slot_dict_getitem.lookup ?_)
  have fin : wpAny (model X.prog X.w) X.A (subscripted slice false (.ref a) u) (fun r s₃ => wpAny (model X.prog X.w) X.A (letTemporaryGo value (.ref a) r >>= fun _ => pure r) (EP X pins σ Q) X.xe s₃) X.xe s := by
    rw [hs]
    exact wpAny_operating (d_getItem hu I g ry fun w' s3 I3 rw' => wpAny_bind (wpAny_letTemporaryGo (wpAny_pure ⟨w, H, I3, rw', q⟩)))
  first
    | exact wpAny_pure (wpAny_bind fin)
    | exact wpAny_bind (wpAny_pure (wpAny_bind fin))
    | exact wpAny_bind fin
def ixOf (a : W) (i : Int) (hh : Hh) : Option W := match a with
  | .dat (.str x) => (strAt x i).map fun y => .dat (.str y)
  | w => (seqOf hh w).bind fun l => M.atI l i
theorem ok_index (hu : X.A.units + 1 < cLine) : IxR X (rOp X.K ca index) := by
  intro value sl pins s σ H x y v u Q I rx ry h hs
  obtain ⟨μ, hh, a, b, hr, ra, rb', o⟩ := h
  refine (ix_seq.or (ix_dct hu)) value sl pins s σ H x y v u Q I rx ry ?_ hs
  have dc : Out X.K ca μ H (rW X.K ca) Q (fun _ _ => False) (dctIdx a b hh) → rIxDct x y H Q := fun o => by
    cases a with
    | ref n =>
      cases ra with
      | ref hn =>
        cases e : dctGet hh n b with
        | none => simp only [dctIdx, e] at o; exact o.elim
        | some oo =>
          cases oo with
          | none => simp only [dctIdx, e] at o; exact o.elim
          | some w =>
            simp only [dctIdx, e] at o
            obtain ⟨o', g, _, f⟩ := get_ok hr hn rb' e
            obtain ⟨v', rfl, z⟩ := f w rfl
            exact ⟨_, v', rfl, g, o.now hr z⟩
    | _ => exact o.elim
  cases b with
  | dat d =>
    cases d with
    | int i =>
      obtain rfl := rb'.of_int
      have sq : Out X.K ca μ H (rW X.K ca) Q (fun _ _ => False) (match seqOf hh a with
        | some l => optR hh (M.atI l i)
        | none => dctIdx a (.dat (.int i)) hh) → (rIxL X.K x (.int i) H Q ∨ rIxT X.K x (.int i) H Q) ∨ rIxDct x (.int i) H Q := fun o => by
        cases e : seqOf hh a with
        | none => rw [e] at o; exact .inr (dc o)
        | some l =>
          rw [e] at o
          cases e2 : M.atI l i with
          | none => simp only [e2, optR] at o; exact o.elim
          | some w =>
            simp only [e2, optR] at o
            obtain ⟨p, ys, rfl, w2, s⟩ := seqOf_ok hr ra e
            obtain ⟨z, h1, h2⟩ := w2.at_ e2
            have q := o.now hr h2
            exact .inl (s.elim (fun s => .inl ⟨p, ys, i, z, rfl, rfl, s, h1, q⟩) fun s => .inr ⟨p, ys, i, z, rfl, rfl, s, h1, q⟩)
      have sq2 : (rIxL X.K x (.int i) H Q ∨ rIxT X.K x (.int i) H Q) ∨ rIxDct x (.int i) H Q → (rIxL X.K x (.int i) H Q ∨ rIxT X.K x (.int i) H Q ∨ rIxS x (.int i) H Q) ∨ rIxDct x (.int i) H Q := fun z => z.elim (fun z => .inl (z.elim .inl fun z => .inr (.inl z))) .inr
      cases a with
      | dat d =>
        cases d with
        | str z =>
          obtain rfl := ra.of_str
          cases e : strAt z i with
          | none => simp only [index, e] at o; exact o.elim
          | some y =>
            simp only [index, e] at o
            unfold strAt at e
            by_cases hz : z.length ≤ sizeL
            · rw [if_pos hz] at e
              obtain ⟨c, e1, e2⟩ := Option.map_eq_some_iff.mp e
              subst e2
              exact .inl (.inr (.inr ⟨z, i, c, rfl, rfl, sizeL_le hz, e1, o.now hr .str⟩))
            · rw [if_neg hz] at e
              cases e
        | _ => exact sq2 (sq o)
      | _ => exact sq2 (sq o)
    | _ => exact .inr (dc o)
  | _ => exact .inr (dc o)

/-! ### slices -/
theorem cutM_eq (n d : Nat) (o : Option Int) : cutM n d o = HT.sIx n d o := by cases o <;> rfl
theorem WRs.drop {K : PySem.W.Frag} {μ : Mu} {H : Hp} : ∀ (n : Nat) {l : List W} {xs : List V}, WRs K ca μ H l xs → WRs K ca μ H (l.drop n) (xs.drop n)
  | 0, _, _, z => z
  | _ + 1, _, _, .nil => .nil
  | n + 1, _, _, .cons _ t => WRs.drop n t
theorem WRs.take {K : PySem.W.Frag} {μ : Mu} {H : Hp} : ∀ (n : Nat) {l : List W} {xs : List V}, WRs K ca μ H l xs → WRs K ca μ H (l.take n) (xs.take n)
  | 0, _, _, _ => .nil
  | _ + 1, _, _, .nil => .nil
  | n + 1, _, _, .cons r t => .cons r (WRs.take n t)
theorem WRs.cut {K : PySem.W.Frag} {μ : Mu} {H : Hp} {l : List W} {xs : List V} (lo hi : Option Int) (z : WRs K ca μ H l xs) : WRs K ca μ H (cutL l lo hi) (cutV xs lo hi) := by
  unfold cutL cutV
  rw [cutM_eq, cutM_eq, z.len]
  exact WRs.take _ (WRs.drop _ z)
theorem VRs.drop {K : PySem.W.Frag} {μ : Mu} {H : Hp} : ∀ (n : Nat) {l : List D} {xs : List V}, VRs K μ H l xs → VRs K μ H (l.drop n) (xs.drop n)
  | 0, _, _, z => z
  | _ + 1, _, _, .nil => .nil
  | n + 1, _, _, .cons _ t => VRs.drop n t
theorem VRs.take {K : PySem.W.Frag} {μ : Mu} {H : Hp} : ∀ (n : Nat) {l : List D} {xs : List V}, VRs K μ H l xs → VRs K μ H (l.take n) (xs.take n)
  | 0, _, _, _ => .nil
  | _ + 1, _, _, .nil => .nil
  | n + 1, _, _, .cons r t => .cons r (VRs.take n t)
theorem VRs.cut {K : PySem.W.Frag} {μ : Mu} {H : Hp} {l : List D} {xs : List V} (lo hi : Option Int) (z : VRs K μ H l xs) : VRs K μ H (cutL l lo hi) (cutV xs lo hi) := by
  unfold cutL cutV
  rw [cutM_eq, cutM_eq, z.len]
  exact VRs.take _ (VRs.drop _ z)
def rSlAll (K : PySem.W.Frag) : V → Option Int → Option Int → Hp → VK → Prop := fun x lo hi H Q => rSlL K x lo hi H Q ∨ rSlA K x lo hi H Q ∨ rSlS x lo hi H Q
theorem sl_all : SlR X (rSlAll X.K) := sl_list.or (sl_tupA.or sl_str)
def rSlM (K : PySem.W.Frag) (ca : Nat → Addr) : V → Option Int → Option Int → Hp → VK → Prop := fun x lo hi H Q => ∃ μ hh a, HR K ca μ H hh ∧ WR K ca μ H a x ∧ Out K ca μ H (rW K ca) Q (fun _ _ => False) (slice a lo hi hh)
theorem ok_slice : SlR X (rSlM X.K ca) := by
  intro pins s σ H x v vl vu lo hi sl Q I rx hs pl pu h
  obtain ⟨μ, hh, a, hr, ra, o⟩ := h
  refine sl_all pins s σ H x v vl vu lo hi sl Q I rx hs pl pu ?_
  cases a with
  | dat d =>
    cases d with
    | tuple l =>
      obtain ⟨p, xs, rfl, h1, h2⟩ := ra.of_tup
      refine .inr (.inl ⟨p, xs, rfl, h1.sq, fun e => ?_, fun _ q hq => ?_⟩)
      · have e2 : cutL l lo hi = l := by
          unfold cutL
          rw [cutM_eq, cutM_eq, h2.len, e.1, e.2, List.drop_zero, Nat.sub_zero, ← h2.len, List.take_length]
        have o1 : Out X.K ca μ H (rW X.K ca) Q (fun _ _ => False) (.ok (.dat (.tuple (cutL l lo hi))) hh) := o
        rw [e2] at o1
        exact o1.now hr ra
      · exact (show Out X.K ca μ H (rW X.K ca) Q (fun _ _ => False) (.ok (.dat (.tuple (cutL l lo hi))) hh) from o) μ _ _ (hr.stp hq) (hr.new hq) (.dat (VR.newTup ⟨hh, hr⟩ hq (h2.cut lo hi)))
    | list l =>
      obtain ⟨p, xs, rfl, h1, h2⟩ := ra.of_list
      exact .inl ⟨p, xs, rfl, h1.sq, fun q hq => (show Out X.K ca μ H (rW X.K ca) Q (fun _ _ => False) (.ok (.dat (.list (cutL l lo hi))) hh) from o) μ _ _ (hr.stp hq) (hr.new hq) (.dat (VR.newLst ⟨hh, hr⟩ hq (h2.cut lo hi)))⟩
    | str z =>
      obtain rfl := ra.of_str
      have o1 : Out X.K ca μ H (rW X.K ca) Q (fun _ _ => False) (if z.length ≤ sizeL then .ok (.dat (.str ⟨(cutL z.cps.toList lo hi).toArray⟩)) hh else .bad) := o
      by_cases hz : z.length ≤ sizeL
      · rw [if_pos hz] at o1
        refine .inr (.inr ⟨z, rfl, sizeL_le hz, ?_⟩)
        have q := o1.now hr .str
        rw [show cutS z lo hi = ⟨(cutL z.cps.toList lo hi).toArray⟩ by unfold cutS cutL; rw [cutM_eq, cutM_eq]; rfl]
        exact q
      · rw [if_neg hz] at o1
        exact o1.elim
    | _ => exact o.elim
  | ref n =>
    cases ra with
    | ref hn =>
      rename_i p
      cases q : hh[n]? with
      | none => simp only [slice, q] at o; exact o.elim
      | some ob =>
        have z := hr.ob n ob p q hn
        cases ob with
        | lst l =>
          simp only [slice, q] at o
          obtain ⟨xs, y1, y2⟩ := z
          exact .inl ⟨p, xs, rfl, SqL.of y1, fun t ht => out_mkLst hr (y2.cut lo hi) o ht⟩
        | _ => simp only [slice, q] at o; exact o.elim
  | scr l =>
    cases ra with
    | scr z =>
      rename_i p
      obtain ⟨xs, rfl, z⟩ := z
      have sq : SqL X.K H p (l.map V.int) := z.elim (fun q => .inl q.2) fun q => q H
      refine .inl ⟨p, _, rfl, sq, fun t ht => ?_⟩
      have vr : ∀ l : List Int, VRs X.K μ H (l.map PyData.int) (l.map V.int) := fun l => by
        induction l with
        | nil => exact .nil
        | cons i l ih => exact .cons (.int i) ih
      have e : cutV (l.map V.int) lo hi = (cutL l lo hi).map V.int := by
        unfold cutL cutV
        rw [cutM_eq, cutM_eq, List.length_map, ← List.map_drop, ← List.map_take]
      rw [e]
      exact (show Out X.K ca μ H (rW X.K ca) Q (fun _ _ => False) (.ok (.dat (.list ((cutL l lo hi).map .int))) hh) from o) μ _ _ (hr.stp ht) (hr.new ht) (.dat (VR.newLst ⟨hh, hr⟩ ht (vr _)))
  | exc c => exact o.elim
end
end M
/-! MRepr: repr of data. -/
namespace M
open PySem PySem.Spec PyProof.Rows L2
/-- data that stands in a heap may be shown -/
def Sh (P : Program) (w : World) (h : Heap) (d : D) (u : Value) : Prop := ∃ as bs, Reads h u d as ∧ ReadAtMost h d.depth bs ∧ ReprK P w bs h d.depth u d.shown
def Shs (P : Program) (w : World) (h : Heap) (ds : List D) (us : List Value) : Prop := ∃ as bs, ReadsAll h us ds as ∧ ReadAtMost h (PyData.depthAll ds) bs ∧ ReprAllK P w bs h (PyData.depthAll ds) us (PyData.shownAll ds)
section
variable {P : Program} {w : World} {h : Heap}
theorem shs_nil : Shs P w h [] [] := ⟨[], [], .nil, (fun _ z => nomatch z), by simp only [PyData.shownAll]; exact .nil⟩
theorem shs_cons {d : D} {ds : List D} {u : Value} {us : List Value} (a : Sh P w h d u) (b : Shs P w h ds us) : Shs P w h (d :: ds) (u :: us) := by
  obtain ⟨as, b1, r, hb1, k1⟩ := a
  obtain ⟨bs, b2, rs, hb2, k2⟩ := b
  refine ⟨_, b1 ++ b2, .cons r rs, ?_, ?_⟩
  · simp only [PyData.depthAll]
    exact (hb1.mono (Nat.le_max_left _ _)).append (hb2.mono (Nat.le_max_right _ _))
  · simp only [PyData.depthAll, PyData.shownAll]
    exact .cons ((k1.more fun b hb => List.mem_append_left _ hb).level_le (Nat.le_max_left _ _)) (k2.more_le (fun b hb => List.mem_append_right _ hb) (Nat.le_max_right _ _))
theorem sh_lst {a : Addr} {o : Obj} {its : List Value} {n : Nat} {ds : List D} (h1 : h.get? a = some o) (h2 : o.cls = .type "list") (h3 : o.data = .seq its.toArray n) (z : Shs P w h ds its) : Sh P w h (.list ds) (.ref a) := by
  obtain ⟨as, bs, rs, hb, hk⟩ := z
  have r : Reads h (.ref a) (.list ds) _ := .list h1 h2 h3 (by simpa using rs)
  have hna : a ∉ bs := not_mem_of_deeper r (by simp only [PyData.depth]; omega) hb
  refine ⟨_, a :: bs, r, ReadAtMost.cons r (by simp only [PyData.depth]; omega) hb, ?_⟩
  simp only [PyData.depth, PyData.shown]
  cases its with
  | nil =>
    cases rs
    simp only [PyData.shownAll, listText_nil]
    exact ReprK.listEmpty h1 h2 h3
  | cons x l => exact ReprK.list h1 h2 h3 hna (by simpa using hk.length_eq) (fun i y e => hk.item i y (by simpa using e))
theorem sh_tup {a : Addr} {o : Obj} {its : List Value} {n : Nat} {ds : List D} (h1 : h.get? a = some o) (h2 : o.cls = .type "tuple") (h3 : o.data = .seq its.toArray n) (z : Shs P w h ds its) : Sh P w h (.tuple ds) (.ref a) := by
  obtain ⟨as, bs, rs, hb, hk⟩ := z
  have r : Reads h (.ref a) (.tuple ds) _ := .tuple h1 h2 h3 (by simpa using rs)
  have hna : a ∉ bs := not_mem_of_deeper r (by simp only [PyData.depth]; omega) hb
  refine ⟨_, a :: bs, r, ReadAtMost.cons r (by simp only [PyData.depth]; omega) hb, ?_⟩
  simp only [PyData.depth, PyData.shown]
  exact ReprK.tuple h1 h2 h3 hna (by simpa using hk)
theorem sh_dct {a : Addr} {o : Obj} {es : Array DictEntry} {n : Nat} {ds : List (D × D)} (h1 : h.get? a = some o) (h2 : o.cls = .type "dict") (h3 : o.data = .dict es n) (hsys : (a == sysModules) = false)
    (z1 : Shs P w h (ds.map (·.1)) (es.toList.map (·.key))) (z2 : Shs P w h (ds.map (·.2)) (es.toList.map (·.val))) : Sh P w h (.dict ds) (.ref a) := by
  obtain ⟨as1, b1, r1, hb1, k1⟩ := z1
  obtain ⟨as2, b2, r2, hb2, k2⟩ := z2
  have r : Reads h (.ref a) (.dict ds) _ := .dict h1 h2 h3 r1 r2
  have hb : ReadAtMost h (PyData.depthKv ds) (b1 ++ b2) := (hb1.mono (PyData.depthAll_keys_le ds)).append (hb2.mono (PyData.depthAll_vals_le ds))
  have hna : a ∉ b1 ++ b2 := not_mem_of_deeper r (by simp only [PyData.depth]; omega) hb
  refine ⟨_, a :: (b1 ++ b2), r, ReadAtMost.cons r (by simp only [PyData.depth]; omega) hb, ?_⟩
  simp only [PyData.depth, PyData.shown, PyData.shownKv_eq]
  exact ReprK.dict h1 h2 h3 hsys hna (ReprEntriesK.of_two es.toList _ _
    (k1.more_le (fun b hb => List.mem_append_left _ hb) (PyData.depthAll_keys_le ds)) (k2.more_le (fun b hb => List.mem_append_right _ hb) (PyData.depthAll_vals_le ds)))
theorem sh_key {k : Key} {u : Value} (e : keyIs k u = true) (hs : (keyD k).showable = true) (hz : (keyD k).shown.length ≤ sizeLine) : Sh P w h (keyD k) u := by
  rcases keyIs_shape e with ⟨i, t, rfl, rfl⟩ | ⟨x, t, rfl, rfl⟩
  · exact ⟨[], [], .int i t, (fun _ z => nomatch z), by simp only [keyD, PyData.shown]; exact .of_is (ReprIs.int t (by simpa [keyD, PyData.showable] using hs)) _ _ _⟩
  · exact ⟨[], [], .str x t, (fun _ z => nomatch z), by simp only [keyD, PyData.shown]; exact .of_is (ReprIs.str x t (by simpa only [keyD, PyData.shown] using hz)) _ _ _⟩
end
theorem shownAll_mem_len {ds : List D} {n : Nat} (h : ∀ t ∈ PyData.shownAll ds, t.length ≤ n) {d : D} (m : d ∈ ds) : d.shown.length ≤ n := by
  induction ds with
  | nil => simp at m
  | cons e ds ih =>
    simp only [PyData.shownAll] at h
    rcases List.mem_cons.mp m with rfl | m
    · exact h _ List.mem_cons_self
    · exact ih (fun t ht => h t (List.mem_cons_of_mem _ ht)) m
section
variable {X : Cx} {pins : List (Addr × Obj)} {σ : L2.St} {H : Hp} {s : Shared} {μ : Mu}
mutual
theorem VR.sh (I : Inv X pins σ H s) : ∀ {d : D} {v : V}, VR X.K μ H d v → ∀ {u : Value}, RelV v u → d.showable = true → d.shown.length ≤ sizeLine → Sh X.prog X.w s.heap d u
  | _, _, .non, u, r, _, _ => by
    cases r
    exact ⟨[], [], .none, (fun _ z => nomatch z), by simp only [PyData.shown]; exact .of_is ReprIs.none _ _ _⟩
  | _, _, .bl b, u, r, _, _ => by
    cases r
    exact ⟨[], [], .bool b, (fun _ z => nomatch z), by simp only [PyData.shown]; exact .of_is (ReprIs.bool b) _ _ _⟩
  | _, _, .int i, u, r, hs, hz => by
    obtain ⟨t, rfl⟩ := r
    exact sh_key (k := .inl i) (keyIs_int i t) hs hz
  | _, _, .str x, u, r, hs, hz => by
    obtain ⟨t, rfl⟩ := r
    exact sh_key (k := .inr x) (keyIs_str x t) hs hz
  | _, _, .lst h1 h2, u, r, hs, hz => by
    cases r
    obtain ⟨its, rv, ⟨o, n, ho, hc, _, hd⟩, _⟩ := I.list h1.sq
    rw [PyData.shown] at hz
    exact sh_lst ho hc hd (VRs.shs I h2 rv (by simpa [PyData.showable] using hs) (fun t ht => Nat.le_trans (listText_mem_le ht) hz))
  | _, _, .tup h1 h2, u, r, hs, hz => by
    cases r
    obtain ⟨its, rv, ⟨o, ho, hc, n, hd⟩, _⟩ := I.tuple h1.sq
    rw [PyData.shown] at hz
    exact sh_tup ho hc hd (VRs.shs I h2 rv (by simpa [PyData.showable] using hs) (fun t ht => Nat.le_trans (tupleText_mem_le ht) hz))
  | _, _, .dct (ds := ds) h1 h2, u, r, hs, hz => by
    cases r
    obtain ⟨z, hsys, vs, rel, ob, es, ep, ho, hc, hd, _, pr, _⟩ := dk_rd I.hok h1.2
    rw [PyData.shown] at hz
    have q := VDs.shs I h2 rel pr (by simpa [PyData.showable] using hs) (fun t ht => Nat.le_trans (dictText_mem_le ht) hz)
    exact sh_dct ho hc.1 hd hsys q.1 q.2
theorem VRs.shs (I : Inv X pins σ H s) : ∀ {ds : List D} {vs : List V}, VRs X.K μ H ds vs → ∀ {us : List Value}, Vals vs us → PyData.showableAll ds = true → (∀ t ∈ PyData.shownAll ds, t.length ≤ sizeLine) → Shs X.prog X.w s.heap ds us
  | _, _, .nil, us, r, _, _ => by
    cases r
    exact shs_nil
  | _, _, .cons h1 h2, us, r, hs, hz => by
    cases r with
    | cons r1 r2 =>
      have hs' := Bool.and_eq_true_iff.mp (show (_ && _) = true by simpa only [PyData.showableAll] using hs)
      simp only [PyData.shownAll] at hz
      exact shs_cons (VR.sh I h1 r1 hs'.1 (hz _ List.mem_cons_self)) (VRs.shs I h2 r2 hs'.2 fun t ht => hz t (List.mem_cons_of_mem _ ht))
theorem VDs.shs (I : Inv X pins σ H s) : ∀ {ds : List (D × D)} {kvs : List (Key × V)}, VDs X.K μ H ds kvs → ∀ {vs : List (Key × Value)} {es : List DictEntry}, KV kvs vs → Pairs (mixKind X.prog X.w) es vs → PyData.showableKv ds = true → (∀ t ∈ PyData.shownKv ds, t.length ≤ sizeLine) →
    Shs X.prog X.w s.heap (ds.map (·.1)) (es.map (·.key)) ∧ Shs X.prog X.w s.heap (ds.map (·.2)) (es.map (·.val))
  | _, _, .nil, vs, es, r, p, _, _ => by
    cases r
    cases p
    exact ⟨shs_nil, shs_nil⟩
  | _, _, .cons h1 h2, vs, es, r, p, hs, hz => by
    cases r with
    | cons r1 r2 =>
      cases p with
      | cons p1 p2 p3 =>
        have hs' := Bool.and_eq_true_iff.mp (show (_ && _) = true by simpa only [PyData.showableKv] using hs)
        have hs2 := Bool.and_eq_true_iff.mp hs'.1
        simp only [PyData.shownKv] at hz
        have z1 := hz _ List.mem_cons_self
        rw [strLen_append, strLen_append] at z1
        have q := VDs.shs I h2 r2 p3 hs'.2 fun t ht => hz t (List.mem_cons_of_mem _ ht)
        rw [← r1.1] at p1
        refine ⟨shs_cons (sh_key p1 hs2.1 (by omega)) q.1, shs_cons (VR.sh I h1 ?_ hs2.2 (by omega)) q.2⟩
        have p2 := p2
        show RelV _ (DictEntry.val _)
        rw [p2]
        exact r1.2
end
/-- repr of a list or tuple of data -/
theorem repr_seq {A : Around} {E : Value → Shared → Prop} {Q : Value → Shared → Prop} {K : PySem.W.Frag} {a : Addr} {o : Obj} {its : List Value} {n : Nat} {ds : List D} {tup : Bool} (h1 : s.heap.get? a = some o) (h2 : o.cls = .type (if tup then "tuple" else "list")) (h3 : o.data = .seq its.toArray n)
    (z : Shs X.prog X.w s.heap ds its) (hg : A.guards = some []) (hu : A.units + (PyData.depthAll ds + 2) < cLine) (hz : (if tup then tupleText (PyData.shownAll ds) else listText (PyData.shownAll ds)).length ≤ sizeLine)
    (hQ : ∀ h' t tk, (∀ b o, s.heap.get? b = some o → h'.get? b = some o) → Q (.str (if tup then tupleText (PyData.shownAll ds) else listText (PyData.shownAll ds)) t) { s with heap := h', toks := tk }) : wpAny (model X.prog X.w) A (call (.builtin "repr") [.ref a]) Q E s := by
  obtain ⟨as, bs, rs, hb, hk⟩ := z
  have g1 : A.in1.guards = some [] := hg
  have u1 : A.in1.units + (PyData.depthAll ds + 1) < cLine := by show A.units + 1 + _ < _; omega
  cases tup with
  | true =>
    have hna : a ∉ bs := not_mem_of_deeper (.tuple h1 h2 h3 (by simpa using rs)) (by simp only [PyData.depth]; omega) hb
    refine call_repr_slot (T := "tuple") (by omega) ⟨o, h1, h2⟩ F.slot_tuple_repr ?_
    exact call_tuple_reprK h1 h2 h3 hna (by simpa using hk) g1 (fun b _ => Clear.nil b) u1 (fun _ _ e => e) (fun h' t tk k => ⟨_, _, rfl, hQ h' t tk k⟩) hz
  | false =>
    have hna : a ∉ bs := not_mem_of_deeper (.list h1 h2 h3 (by simpa using rs)) (by simp only [PyData.depth]; omega) hb
    refine call_repr_slot (T := "list") (by omega) ⟨o, h1, h2⟩ F.slot_list_repr.toG ?_
    cases its with
    | nil =>
      cases rs
      simp only [PyData.shownAll, listText_nil] at hQ
      exact call_list_repr_empty ⟨o, h1, h2⟩ h1 h3 ⟨_, _, rfl, hQ s.heap _ _ fun _ _ e => e⟩
    | cons x l =>
      exact call_list_reprK h1 h2 h3 hna (by simpa using hk.length_eq) (fun i y e => hk.item i y (by simpa using e)) g1 (fun b _ => Clear.nil b) u1 (fun _ _ e => e) (fun h' t tk k => ⟨_, _, rfl, hQ h' t tk k⟩) hz
end
/-- the text of a list's data, of a tuple's -/
def rRepr (K : PySem.W.Frag) (μ : Mu) : List V → Hp → VK → Prop := fun vs H Q => ∃ (a : Addr) (xs : List V) (ds : List D) (tup : Bool), vs = [.ref a] ∧ (if tup then SqT K H a xs else SqL K H a xs) ∧ VRs K μ H ds xs ∧
  PyData.showableAll ds = true ∧ PyData.depthAll ds ≤ 60 ∧ (if tup then tupleText (PyData.shownAll ds) else listText (PyData.shownAll ds)).length ≤ sizeLine ∧ Q (.str (if tup then tupleText (PyData.shownAll ds) else listText (PyData.shownAll ds))) H
theorem cr_repr {X : Cx} (hg : X.A.guards = some []) (hu : X.A.units + 65 < cLine) : CallR X (.builtin "repr") (fun vs H Q => ∃ μ, rRepr X.K μ vs H Q) := by
  intro pins s σ H vs us Q I r h
  obtain ⟨μ, a, xs, ds, tup, rfl, hs, hd, sh, dp, sz, q⟩ := h
  rw [Vals.ref1 r]
  have le : ∀ t ∈ PyData.shownAll ds, t.length ≤ sizeLine := fun t ht => by
    cases tup with
    | true => exact Nat.le_trans (tupleText_mem_le ht) sz
    | false => exact Nat.le_trans (listText_mem_le ht) sz
  have fin : ∀ h' t tk, (∀ b o, s.heap.get? b = some o → h'.get? b = some o) → ∃ v H', Inv X pins σ H' { s with heap := h', toks := tk } ∧ RelV v (.str (if tup then tupleText (PyData.shownAll ds) else listText (PyData.shownAll ds)) t) ∧ Q v H' := fun h' t tk k => ⟨.str _, H, I.kept (t' := tk) k, ⟨t, rfl⟩, q⟩
  cases tup with
  | true =>
    obtain ⟨its, rv, ⟨o, ho, hc, n, hd2⟩, _⟩ := I.tuple hs
    exact repr_seq (X := X) (K := X.K) (tup := true) ho hc hd2 (VRs.shs I hd rv sh le) hg (by omega) sz fin
  | false =>
    obtain ⟨its, rv, ⟨o, n, ho, hc, _, hd2⟩, _⟩ := I.list hs
    exact repr_seq (X := X) (K := X.K) (tup := false) ho hc hd2 (VRs.shs I hd rv sh le) hg (by omega) sz fin
theorem ok_repr {X : Cx} {ca : Nat → Addr} {m : Bool} (hg : X.A.guards = some []) (hu : X.A.units + 65 < cLine) : CallR X (.builtin "repr") (rC X.K ca (builtin .repr m)) := by
  refine cr_of (cr_repr hg hu) fun μ hh ws xs H Q hr z o => ?_
  match ws, z, o with
  | [w], z, o =>
    obtain ⟨x, rfl, r⟩ := ws1 z
    cases e : srcD hh w with
    | none => simp only [builtin, reprW, e] at o; exact o.elim
    | some ds =>
      simp only [builtin, reprW, e] at o
      obtain ⟨c, o⟩ := out_if o
      have c2 := Bool.and_eq_true_iff.mp c
      have c3 := Bool.and_eq_true_iff.mp c2.2
      have sz : (seqText (isTup w) ds).length ≤ sizeLine := by rw [sizeLine_eq]; exact of_decide_eq_true c3.2
      have q := o.now hr (.dat (.str _))
      cases w with
      | dat d =>
        cases d with
        | list l =>
          obtain ⟨a, ys, rfl, h1, h2⟩ := r.of_list
          cases e
          exact ⟨μ, a, ys, _, false, rfl, h1.sq, h2, c2.1, of_decide_eq_true c3.1, sz, q⟩
        | tuple l =>
          obtain ⟨a, ys, rfl, h1, h2⟩ := r.of_tup
          cases e
          exact ⟨μ, a, ys, _, true, rfl, h1.sq, h2, c2.1, of_decide_eq_true c3.1, sz, q⟩
        | _ => cases e
      | ref n =>
        cases r with
        | @ref _ p hn =>
          cases q2 : hh[n]? with
          | none => simp [srcD, q2] at e
          | some ob =>
            have z2 := hr.ob n ob p q2 hn
            cases ob with
            | lst l =>
              simp only [srcD, q2] at e
              obtain ⟨xs, y1, y2⟩ := z2
              exact ⟨μ, p, xs, ds, false, rfl, SqL.of y1, y2.data e, c2.1, of_decide_eq_true c3.1, sz, q⟩
            | _ => simp [srcD, q2] at e
      | _ => cases e
end M
/-! MBmt: methods of built-in types. -/
namespace M
open PySem PySem.Spec L2
/-- a method's name, its type, the built-in's id, how many arguments -/
def bmName : Mb → Str
  | .append => "append"
  | .pop0 => "pop"
  | .remove => "remove"
  | .join => "join"
  | .upper => "upper"
  | _ => "?"
def bmType : Mb → String
  | .append => "list"
  | .pop0 => "list"
  | .remove => "list"
  | .join => "str"
  | .upper => "str"
  | _ => "?"
def bmId : Mb → String
  | .append => "list.append"
  | .pop0 => "list.pop"
  | .remove => "list.remove"
  | .join => "str.join"
  | .upper => "str.upper"
  | _ => "?"
def bmMany : Mb → Nat
  | .append => 1
  | .remove => 1
  | .join => 1
  | _ => 0
def rM (K : PySem.W.Frag) (ca : Nat → Addr) (f : W → List W → Hh → Res W) : V → List V → Hp → VK → Prop := fun x xs H Q => ∃ μ h w ws, HR K ca μ H h ∧ WR K ca μ H w x ∧ WRs K ca μ H ws xs ∧ Out K ca μ H (rW K ca) Q (fun _ _ => False) (f w ws h)
section
variable {X : Cx} {ca : Nat → Addr}
theorem mr_of {id : String} {r : V → List V → Hp → VK → Prop} {g : W → List W → Hh → Res W} (h : MtR X id r)
    (k : ∀ (μ : Mu) (hh : Hh) (w : W) (ws : List W) (x : V) (xs : List V) (H : Hp) (Q : VK), HR X.K ca μ H hh → WR X.K ca μ H w x → WRs X.K ca μ H ws xs → Out X.K ca μ H (rW X.K ca) Q (fun _ _ => False) (g w ws hh) → r x xs H Q) : MtR X id (rM X.K ca g) :=
  fun pins s σ H x xs v us Q I r1 r2 ⟨μ, hh, w, ws, hr, z, zs, o⟩ => h pins s σ H x xs v us Q I r1 r2 (k μ hh w ws x xs H Q hr z zs o)
theorem ok_append : MtR X "list.append" (rM X.K ca (bmeth .append)) := by
  refine mr_of mt_append fun μ hh w ws x xs H Q hr z zs o => ?_
  cases w with
  | ref n =>
    cases z with
    | ref hn =>
      rename_i p
      match ws, zs, o with
      | [], _, o => exact o.elim
      | _ :: _ :: _, _, o => exact o.elim
      | [w], zs, o =>
        obtain ⟨y, rfl, r⟩ := ws1 zs
        cases q : hh[n]? with
        | none => simp only [bmeth, q] at o; exact o.elim
        | some ob =>
          cases ob with
          | lst l =>
            simp only [bmeth, q] at o
            obtain ⟨c, o⟩ := out_if o
            obtain ⟨ys, y1, y2⟩ := hr.ob n _ p q hn
            have hl := y2.len
            refine ⟨p, ys, y, rfl, rfl, y1, ?_, ?_⟩
            · have := of_decide_eq_true c
              unfold sizeL at this
              rw [sizeLine_eq]
              omega
            · obtain ⟨st, hr2⟩ := hr.set (o := .lst (l ++ [w])) (u := .lst (ys ++ [y])) hn fun s => ⟨_, upd_same, WRs.app (WRs.mono s y2) (.cons (r.mono s) .nil)⟩
              exact o _ _ _ st hr2 (.dat .non)
          | _ => simp only [bmeth, q] at o; exact o.elim
  | dat d => exact o.elim
  | exc c => exact o.elim
  | scr l => exact o.elim
theorem wrs_nth {K : PySem.W.Frag} {μ : Mu} {H : Hp} {w : W} : ∀ {l : List W} {xs : List V} {i : Nat}, WRs K ca μ H l xs → l[i]? = some w → ∃ y, xs[i]? = some y ∧ WR K ca μ H w y := by
  intro l xs i z
  induction z generalizing i with
  | nil => intro e; simp at e
  | cons r t ih =>
    intro e
    cases i with
    | zero => simp at e; subst e; exact ⟨_, rfl, r⟩
    | succ i => exact ih e
theorem wrs_last {K : PySem.W.Frag} {μ : Mu} {H : Hp} {l : List W} {xs : List V} {w : W} (z : WRs K ca μ H l xs) (e : l.getLast? = some w) : ∃ y, xs[xs.length - 1]? = some y ∧ WR K ca μ H w y := by
  rw [List.getLast?_eq_getElem?] at e
  rw [← z.len]
  exact wrs_nth z e
theorem wrs_dropLast {K : PySem.W.Frag} {μ : Mu} {H : Hp} {l : List W} {xs : List V} (z : WRs K ca μ H l xs) : WRs K ca μ H l.dropLast xs.dropLast := by
  rw [List.dropLast_eq_take, List.dropLast_eq_take, ← z.len]
  exact z.take _
theorem wrs_erase {K : PySem.W.Frag} {μ : Mu} {H : Hp} : ∀ {l : List W} {xs : List V} (j : Nat), WRs K ca μ H l xs → WRs K ca μ H (l.eraseIdx j) (xs.eraseIdx j)
  | [], _, j, .nil => by cases j <;> exact .nil
  | a :: l, _, 0, .cons r t => t
  | a :: l, _, j + 1, .cons r t => .cons r (wrs_erase j t)
theorem ok_pop0 : MtR X "list.pop" (rM X.K ca (bmeth .pop0)) := by
  refine mr_of mt_pop fun μ hh w ws x xs H Q hr z zs o => ?_
  cases w with
  | ref n =>
    cases z with
    | ref hn =>
      rename_i p
      match ws, zs, o with
      | _ :: _, _, o => exact o.elim
      | [], zs, o =>
        cases zs
        cases q : hh[n]? with
        | none => simp only [bmeth, q] at o; exact o.elim
        | some ob =>
          cases ob with
          | lst l =>
            cases q2 : l.getLast? with
            | none => simp only [bmeth, q, q2] at o; exact o.elim
            | some w =>
              simp only [bmeth, q, q2] at o
              obtain ⟨ys, y1, y2⟩ := hr.ob n _ p q hn
              obtain ⟨y, e1, e2⟩ := wrs_last y2 q2
              refine ⟨p, ys, y, rfl, rfl, y1, e1, ?_⟩
              obtain ⟨st, hr2⟩ := hr.set (o := .lst l.dropLast) (u := .lst ys.dropLast) hn fun s => ⟨_, upd_same, wrs_dropLast (WRs.mono s y2)⟩
              exact o _ _ _ st hr2 (e2.mono st)
          | _ => simp only [bmeth, q] at o; exact o.elim
  | dat d => exact o.elim
  | exc c => exact o.elim
  | scr l => exact o.elim
/-- l.remove(x), of data -/
def rRemD (K : PySem.W.Frag) : V → List V → Hp → VK → Prop := fun x xs H Q => ∃ (l : Addr) (ys : List V) (y : V) (d : D) (ds : List D) (j : Nat), x = .ref l ∧ xs = [y] ∧ H l = some (.lst ys) ∧ DpAll K H ys ds ∧ Dp K H y d ∧
  SeqAt.shaped (.list ds) = true ∧ SeqAt.shaped d = true ∧ ds.findIdx? (fun z => PyData.eqv z d) = some j ∧ Q .non (upd H l (.lst (ys.eraseIdx j)))
theorem mt_remD (hu : X.A.units + 65 < cLine) : MtM X "list.remove" (rRemD X.K) := by
  intro pins s σ H x xs v us Q I rx rxs h
  obtain ⟨l, ys, y, d, ds, j, rfl, rfl, hH, hl, hy, sl, sd, hp, q⟩ := h
  cases rx
  obtain ⟨u, rfl, ru⟩ := rxs.one
  obtain ⟨bs, r1⟩ := Dp.reads I d y u hy ru
  have hxs : PyData.canLayAll0 ds = true := SeqAt.canLay_of_shaped sl
  have hroom : X.A.units + 1 + min (PyData.depthAll ds) d.depth < cLine := PyProof.Rows.room_in_shaped sd hu
  obtain ⟨z, its, n, r, hlen, e⟩ := I.lstM hH
  obtain ⟨as, h4⟩ := Dp.readsAll I ds _ its hl r
  have hn : its.length = ds.length := SeqAt.ReadsAll.length ds its as h4
  have hmap : its.map (SeqAt.readOf s.heap) = ds := SeqAt.readsAll_map ds its as hxs h4
  obtain ⟨hjd, hit, hno⟩ := List.findIdx?_eq_some_iff_getElem.mp hp
  have hjl : j < its.toArray.size := by rw [List.size_toArray]; omega
  have at_ : ∀ (m : Nat) (hm : m < its.toArray.size) (hm2 : m < ds.length), SeqAt.readOf s.heap its.toArray[m] = ds[m] := by
    intro m hm hm2
    have e2 : (its.map (SeqAt.readOf s.heap))[m]? = ds[m]? := by rw [hmap]
    have hml : m < its.length := by simpa using hm
    rw [List.getElem?_map, List.getElem?_eq_getElem hml, List.getElem?_eq_getElem hm2] at e2
    have e1 : SeqAt.readOf s.heap its[m] = ds[m] := Option.some.inj e2
    simpa using e1
  refine call_meets PySem.F.slot_list_remove ⟨_, e, rfl⟩ PySem.F.entry_list_remove (PySem.F.args_list_remove_2 _ _)
    (SeqAt.list_removeAt l its.toArray n none #[] u (fun v => PyData.eqv (SeqAt.readOf s.heap v) d) j hjl ?_ ?_ (by rw [List.size_toArray]; omega)) ⟨e, SeqAt.items_eqAt (vs := its.toArray) (show ReadsAll s.heap its.toArray.toList ds as from h4) r1 hxs (SeqAt.canLay_of_shaped sd) hroom, ?_⟩
  · show PyData.eqv (SeqAt.readOf s.heap its.toArray[j]) d = true
    rw [at_ j hjl hjd]
    exact hit
  · intro m hm hmj
    have hmd : m < ds.length := by omega
    show PyData.eqv (SeqAt.readOf s.heap its.toArray[m]) d = false
    rw [at_ m hm hmd]
    simpa using hno m hmj
  · refine ⟨.non, _, I.lset (its' := its.eraseIdx j) (t' := s.toks) hH e ?_ (r.eraseIdx j) ?_, rfl, q⟩
    · show its.toArray.eraseIdxIfInBounds j = (its.eraseIdx j).toArray
      rw [List.eraseIdxIfInBounds_toArray]
    · have := len_erase ys j
      omega
theorem ok_remove (hu : X.A.units + 65 < cLine) : MtR X "list.remove" (rM X.K ca (bmeth .remove)) := by
  refine mr_of (mt_remD hu) fun μ hh w ws x xs H Q hr z zs o => ?_
  cases w with
  | ref n =>
    cases z with
    | ref hn =>
      rename_i p
      match ws, zs, o with
      | [], _, o => exact o.elim
      | _ :: _ :: _, _, o => rename_i a b c d; cases a <;> exact o.elim
      | [w], zs, o =>
        obtain ⟨y, rfl, r⟩ := ws1 zs
        cases w with
        | dat d =>
          cases q : hh[n]? with
          | none => simp only [bmeth, q] at o; exact o.elim
          | some ob =>
            cases ob with
            | lst l =>
              cases q2 : dsOf l with
              | none => simp only [bmeth, q, q2] at o; exact o.elim
              | some ds =>
                cases q3 : placeD ds d with
                | none => simp only [bmeth, q, q2, q3] at o; exact o.elim
                | some j =>
                  simp only [bmeth, q, q2, q3] at o
                  unfold placeD at q3
                  split at q3
                  · rename_i c
                    have c2 := Bool.and_eq_true_iff.mp c
                    obtain ⟨ys, y1, y2⟩ := hr.ob n _ p q hn
                    have lay : PyData.canLayAll0 ds = true := by have := SeqAt.canLay_of_shaped c2.2; simpa [PyData.canLay0] using this
                    refine ⟨p, ys, y, d, ds, j, rfl, rfl, y1, (WRs.data y2 q2).dp lay, r.dp c2.1, c2.2, c2.1, q3, ?_⟩
                    obtain ⟨st, hr2⟩ := hr.set (o := .lst (l.eraseIdx j)) (u := .lst (ys.eraseIdx j)) hn fun s => ⟨_, upd_same, wrs_erase j (WRs.mono s y2)⟩
                    exact o _ _ _ st hr2 (.dat .non)
                  · cases q3
            | _ => simp only [bmeth, q] at o; exact o.elim
        | _ => exact o.elim
  | dat d => exact o.elim
  | exc c => exact o.elim
  | scr l => exact o.elim
theorem strs_ok {K : PySem.W.Frag} {μ : Mu} {H : Hp} : ∀ {l : List W} {xs : List V} {ys : List Str}, WRs K ca μ H l xs → strsOf l = some ys → xs = ys.map V.str
  | [], _, _, .nil, e => by cases e; rfl
  | w :: l, _, ys, .cons r t, e => by
    cases w with
    | dat d =>
      cases d with
      | str x =>
        cases q : strsOf l with
        | none => simp [strsOf, q] at e
        | some zs =>
          simp only [strsOf, q, Option.some.injEq] at e
          subst e
          rw [List.map_cons, ← strs_ok t q, r.of_str]
      | _ => simp [strsOf] at e
    | _ => simp [strsOf] at e
theorem ok_join : MtR X "str.join" (rM X.K ca (bmeth .join)) := by
  refine mr_of mt_join fun μ hh w ws x xs H Q hr z zs o => ?_
  cases w with
  | dat d =>
    cases d with
    | str a =>
      obtain rfl := z.of_str
      match ws, zs, o with
      | [], _, o => exact o.elim
      | _ :: _ :: _, _, o => exact o.elim
      | [w], zs, o =>
        obtain ⟨y, rfl, r⟩ := ws1 zs
        cases q : seqOf hh w with
        | none => simp only [bmeth, q] at o; exact o.elim
        | some l =>
          simp only [bmeth, q] at o
          cases q2 : strsOf l with
          | none => simp only [joinW, q2] at o; exact o.elim
          | some ys =>
            simp only [joinW, q2] at o
            obtain ⟨c, o⟩ := out_if o
            obtain ⟨p, vs, rfl, wr, s1⟩ := seqOf_ok hr r q
            have e := strs_ok wr q2
            subst e
            exact ⟨a, p, ys, rfl, rfl, s1, of_decide_eq_true c, o.now hr (.dat (.str _))⟩
    | _ => exact o.elim
  | _ => exact o.elim
theorem ok_upper : MtR X "str.upper" (rM X.K ca (bmeth .upper)) := by
  refine mr_of mt_upper fun μ hh w ws x xs H Q hr z zs o => ?_
  cases w with
  | dat d =>
    cases d with
    | str a =>
      obtain rfl := z.of_str
      match ws, zs, o with
      | _ :: _, _, o => exact o.elim
      | [], zs, o =>
        cases zs
        have o : Out X.K ca μ H (rW X.K ca) Q (fun _ _ => False) (if decide (a.length ≤ 5592405) = true then .ok (.dat (.str (Txt.upper a))) hh else .bad) := o
        obtain ⟨c, o⟩ := out_if o
        exact ⟨a, rfl, rfl, of_decide_eq_true c, o.now hr (.dat (.str _))⟩
    | _ => exact o.elim
  | _ => exact o.elim
/-- what a method of a built-in type must show -/
structure BmOk (X : Cx) (ca : Nat → Addr) (f : Mb) : Prop where
  pa : PlainAttrs (bmType f)
  slot : Slot (bmType f) (bmName f) (bmId f)
  ty : typeOf (.builtin (bmId f)) = pure (.type "method_descriptor")
  run : MtR X (bmId f) (rM X.K ca (bmeth f))
theorem bm_ok {f : Mb} (hu : X.A.units + 65 < cLine) (h : bmName f ≠ "?") : BmOk X ca f := by
  cases f with
  | pop0 => exact ⟨F.plainAttrs_list, F.slot_list_pop, F.type_list_pop, ok_pop0⟩
  | remove => exact ⟨F.plainAttrs_list, F.slot_list_remove, F.type_list_remove, ok_remove hu⟩
  | append => exact ⟨F.plainAttrs_list, F.slot_list_append, F.type_list_append, ok_append⟩
  | join => exact ⟨F.plainAttrs_str, F.slot_str_join, F.type_str_join, ok_join⟩
  | upper => exact ⟨F.plainAttrs_str, F.slot_str_upper, F.type_str_upper, ok_upper⟩
  | _ => exact absurd rfl h
/-- its object's type -/
theorem bm_list {K : PySem.W.Frag} {μ : Mu} {H : Hp} {hh : Hh} {w : W} {x : V} (hr : HR K ca μ H hh) (r : WR K ca μ H w x) (h : isLst hh w = true) : tyV K "list" x H := by
  cases w with
  | ref n =>
    cases r with
    | ref hn =>
      simp only [isLst] at h
      cases q : hh[n]? with
      | none => simp [q] at h
      | some ob =>
        cases ob with
        | lst l =>
          obtain ⟨xs, y, _⟩ := hr.ob n _ _ q hn
          exact .inl ⟨rfl, xs, .inl (.inl y)⟩
        | _ => simp [q] at h
  | _ => simp [isLst] at h
theorem bm_ty {K : PySem.W.Frag} {μ : Mu} {H : Hp} {hh : Hh} {f : Mb} {w : W} {x : V} (hr : HR K ca μ H hh) (r : WR K ca μ H w x) (h : bmIs f w hh = true) : tyV K (bmType f) x H := by
  cases f with
  | append => exact bm_list hr r h
  | pop0 => exact bm_list hr r h
  | remove => exact bm_list hr r h
  | join =>
    cases w with
    | dat d =>
      cases d with
      | str a => obtain rfl := r.of_str; rfl
      | _ => simp [bmIs] at h
    | _ => simp [bmIs] at h
  | upper =>
    cases w with
    | dat d =>
      cases d with
      | str a => obtain rfl := r.of_str; rfl
      | _ => simp [bmIs] at h
    | _ => simp [bmIs] at h
  | _ => simp [bmIs] at h
end
end M
/-! MRev: a[::-1] of a list, of a tuple. -/
namespace M
open PySem PySem.Spec PyProof.Rows L2
theorem rev_places (n : Nat) : Builtin.Slice.slicePlaces ((n : Int) - 1) (-1) (-1) = n := by
  unfold Builtin.Slice.slicePlaces
  rw [if_neg (show ¬ ((-1 : Int) > 0) by decide)]
  by_cases z : n = 0
  · subst z; rfl
  · rw [if_pos (show (n : Int) - 1 > -1 by omega), show -(-1 : Int) = 1 from rfl, Int.ediv_one]
    omega
theorem rev_pick (xs : Array Value) : ((List.range xs.size).filterMap fun (m : Nat) => xs[((xs.size : Int) - 1 + (m : Int) * (-1)).toNat]?).toArray = xs.toList.reverse.toArray := by
  congr 1
  have e : ∀ m ∈ List.range xs.size, xs[((xs.size : Int) - 1 + (m : Int) * (-1)).toNat]? = some (xs.toList.reverse.getD m .none) := fun m hm => by
    have hm := List.mem_range.mp hm
    have a : ((xs.size : Int) - 1 + (m : Int) * (-1)).toNat = xs.size - 1 - m := by omega
    have hl : m < xs.toList.reverse.length := by simpa using hm
    rw [a, List.getD_eq_getElem?_getD, List.getElem?_eq_getElem hl, Option.getD_some, List.getElem_reverse, Array.getElem?_eq_getElem (by omega)]
    simp
  have f : ∀ (l : List Nat) (g : Nat → Option Value) (k : Nat → Value), (∀ m ∈ l, g m = some (k m)) → l.filterMap g = l.map k := by
    intro l g k h
    induction l with
    | nil => rfl
    | cons x l ih => rw [List.filterMap_cons, h x List.mem_cons_self, List.map_cons, ih fun y hy => h y (List.mem_cons_of_mem _ hy)]
  rw [f _ _ _ e]
  apply List.ext_getElem
  · simp
  · intro i h1 h2
    simp at h1
    rw [List.getElem_map, List.getElem_range, List.getD_eq_getElem?_getD, List.getElem?_eq_getElem h2, Option.getD_some]
section
variable {prog : Program} {w : World} {A : Around} {E : Value → Shared → Prop} {s : Shared}
theorem applied_rev {sl : Addr} {t : Tok} {n : Nat} {Q : Int × Int × Nat → Shared → Prop} (hs : s.heap.IsSliceOf sl .none .none (.int (-1) t)) (h : Q ((n : Int) - 1, -1, n) s) : wpAny (model prog w) A (Builtin.Slice.sliceApplied (.ref sl) (pure (n : Int))) Q E s := by
  obtain ⟨o, ho, _, hd⟩ := id hs
  unfold Builtin.Slice.sliceApplied Builtin.Slice.sliceFields
  refine wpAny_bind (wpAny_bind (wpAny_field ho hd (x := .none) rfl (wpAny_bind (wpAny_field ho hd (x := .none) rfl (wpAny_bind (wpAny_field ho hd (x := .int (-1) t) rfl (wpAny_pure ?_)))))))
  refine wpAny_bind (HT.slicePart_ (.int (-1) t) ?_)
  show wpAny _ _ (if ((-1 : Int) == 0) = true then _ else _) _ _ s
  rw [if_neg (by decide)]
  refine wpAny_bind (HT.slicePart_ .none (wpAny_bind (HT.slicePart_ .none (wpAny_bind (wpAny_pure ?_)))))
  show wpAny _ _ (match Builtin.Slice.sliceAdjust none none (-1) (n : Int) with | (lo, hi) => pure (lo, (-1 : Int), Builtin.Slice.slicePlaces lo hi (-1))) _ _ s
  have e : Builtin.Slice.sliceAdjust none none (-1) (n : Int) = ((n : Int) - 1, -1) := rfl
  rw [e]
  show wpAny _ _ (pure ((n : Int) - 1, (-1 : Int), Builtin.Slice.slicePlaces ((n : Int) - 1) (-1) (-1))) _ _ s
  rw [rev_places]
  exact wpAny_pure h
theorem tuple_rev {t sl : Addr} {items : Array Value} {k : Tok} {Q : Value → Shared → Prop} (ht : IsTup s.heap t items) (hs : s.heap.IsSliceOf sl .none .none (.int (-1) k))
    (h : Q (.ref s.heap.objs.size) { s with heap := s.heap.push { cls := .type "tuple", data := .seq items.toList.reverse.toArray } }) (hsz : items.size ≤ sizeLine) : wpAny (model prog w) A (getItem (.ref t) (.ref sl)) Q E s := by
  have fits : sizeOk (.seq items.toList.reverse.toArray) := by
    show items.toList.reverse.toArray.size ≤ sizeLine
    rw [List.size_toArray, List.length_reverse, Array.length_toList]
    exact hsz
  obtain ⟨o, ho, hc, _⟩ := id hs
  have isSl : s.TypeIs (.ref sl) "slice" := ⟨o, ho, hc⟩
  unfold getItem
  try with_reducible refine wpAny_holding ?_
  first | refine wpAny_bind (wpAny_pure ?_) | skip
  refine wpAny_bind (wpAny_sequenceKey ht.typeIs (by decide) ?_)
  refine wpAny_bind (wpAny_callSpecial?_slot (name := Str.ofString "__getitem__") ht.typeIs PyProof.Rows.slot_tuple_getitem
    (wpAny_call_entry PyProof.Rows.slot_tuple_getitem ht.typeIs entry_tuple_getitem ?_ (args_tuple_getitem _ _)))
  show wpAny _ _ (Builtin.Tuple.tupleItemsOf (.ref t) >>= _) _ _ s
  refine wpAny_bind (tupleItemsOf_ ht (wpAny_bind (wpAny_typeOf isSl ?_)))
  rw [if_pos (by decide)]
  refine wpAny_bind (applied_rev hs ?_)
  show wpAny _ _ (if (((items.size : Int) - 1 == 0) && ((-1 : Int) == 1) && (items.size == items.size)) = true then _ else _) _ _ s
  rw [if_neg (by simp), rev_pick]
  first
    | exact wpAny_bind (m := Builtin.Tuple.tupleExact _) (wpAny_newObj_type (wpAny_pure ⟨_, rfl, wpAny_pure h⟩) fits)
    | exact wpAny_bind (m := Builtin.Tuple.tupleExact _) (wpAny_newObj_type (wpAny_bind (wpAny_pure (wpAny_pure ⟨_, rfl, wpAny_pure h⟩))) fits)
    | exact wpAny_bind (wpAny_bind (m := Builtin.Tuple.tupleExact _) (wpAny_newObj_type (wpAny_pure (wpAny_pure ⟨_, rfl, wpAny_pure h⟩)) fits))
    | exact wpAny_bind (wpAny_bind (m := Builtin.Tuple.tupleExact _) (wpAny_newObj_type (wpAny_pure ⟨_, rfl, wpAny_pure h⟩) fits))
end
/-- a list's, a tuple's reading -/
def tRev (K : PySem.W.Frag) (te : TE) : TE := fun σ H Q => te σ H fun x H1 => (∃ a xs, x = .ref a ∧ SqL K H1 a xs ∧ ∀ p, H1 p = none → Q (.ref p) (upd H1 p (.lst xs.reverse))) ∨ (∃ a xs, x = .ref a ∧ SqT K H1 a xs ∧ ∀ p, H1 p = none → Q (.ref p) (upd H1 p (.tup xs.reverse)))
section
variable {X : Cx}
theorem pe_rev {e : Expr} {te : TE} {k : Nat} {p1 p2 p3 pos : Pos} (he : PE X e te) : PE X (.Subscript e (.Slice none none (some (.UnaryOp .USub (.Constant (.int 1) k p1) p2)) p3) pos) (tRev X.K te) := by
  constructor
  intro pins s σ H Q I wish
  refine Subscript_ (thn (he.run pins s σ H _ I wish) fun v s1 got => ?_)
  obtain ⟨x, H1, I1, r1, q1⟩ := got
  have step : PO X (some (.UnaryOp .USub (.Constant (.int 1) k p1) p2)) (tPart (tUn (rU fun i => .int (-i)) (tC (.int 1)))) := po_some (pe_un un_neg pe_int)
  refine wpAny_Slice (thn (po_none.run pins s1 σ H1 (fun o G => o = none ∧ G = H1) I1 ⟨rfl, rfl⟩) fun v1 s2 g1 => ?_)
  obtain ⟨_, G, I2, pa1, rfl, rfl⟩ := g1
  refine thn (po_none.run pins s2 σ G (fun o F => o = none ∧ F = G) I2 ⟨rfl, rfl⟩) fun v2 s3 g2 => ?_
  obtain ⟨_, F, I3, pa2, rfl, rfl⟩ := g2
  refine thn (step.run pins s3 σ F (fun o T => o = some (-1) ∧ T = F) I3 ⟨1, rfl, -1, rfl, rfl, rfl⟩) fun v3 s4 g3 => ?_
  obtain ⟨_, T, I4, pa3, rfl, rfl⟩ := g3
  cases pa1
  cases pa2
  cases pa3 with
  | int i tk =>
  have I5 : Inv X pins σ T { s4 with heap := s4.heap.push { cls := .type "slice", data := .fields #[.none, .none, .int (-1) tk] } } := I4.kept (t' := s4.toks) fun b ob q => Heap.get?_push_of_some _ q
  rcases q1 with ⟨a, xs, rfl, hx, go⟩ | ⟨a, xs, rfl, hx, go⟩
  · cases r1
    obtain ⟨its, r, isl, small⟩ := I5.list hx
    have ln := r.length
    show wpAny (model X.prog X.w) X.A (subscriptTail e (.Slice none none (some (.UnaryOp .USub (.Constant (.int 1) k p1) p2)) p3) (.ref a) (.ref s4.heap.objs.size)) (EP X pins σ Q) X.xe _
    refine tail_any (ops := [.ref a, .ref s4.heap.objs.size]) isl.isList.typeIs (PySem.slot_list_getitem.lookup) ?_ (by with_unfolding_all rfl)
    refine wpAny_getItem_list_slice isl.isList (Heap.IsSliceOf.new _ .none .none (.int (-1) tk)) .none .none (.int (-1) tk) (by decide) ?_ (by rw [List.size_toArray]; omega)
    rw [PySem.W.krv_pick]
    exact ⟨.ref _, _, I5.laid (t' := s4.toks) (o := .lst xs.reverse) (fun b ob q => Heap.get?_push_of_some _ q) (Nat.le_refl _) ⟨by rw [List.length_reverse]; exact small, _, 0, r.reverse, Heap.get?_push_size _ rfl⟩, rfl, go _ (I5.hok.fresh (Nat.le_refl _))⟩
  · cases r1
    obtain ⟨its, r, ist, small⟩ := I5.tuple hx
    have ln := r.length
    show wpAny (model X.prog X.w) X.A (subscriptTail e (.Slice none none (some (.UnaryOp .USub (.Constant (.int 1) k p1) p2)) p3) (.ref a) (.ref s4.heap.objs.size)) (EP X pins σ Q) X.xe _
    refine tail_any (ops := [.ref a, .ref s4.heap.objs.size]) ist.typeIs (PyProof.Rows.slot_tuple_getitem.lookup) ?_ (by with_unfolding_all rfl)
    refine tuple_rev ist (Heap.IsSliceOf.new _ .none .none (.int (-1) tk)) ?_ (by rw [List.size_toArray]; omega)
    exact ⟨.ref _, _, I5.laid (t' := s4.toks) (o := .tup xs.reverse) (fun b ob q => Heap.get?_push_of_some _ q) (Nat.le_refl _) ⟨by rw [List.length_reverse]; exact small, _, r.reverse, _, Heap.get?_push_size _ rfl, rfl, 0, rfl⟩, rfl, go _ (I5.hok.fresh (Nat.le_refl _))⟩
end
end M
/-! MChk: whether an expression of the text is one of the mini language. -/
namespace M
open PySem PySem.Spec L2
/-- what is written at the top: defs, constants, the built-in names that stay, the errors' classes -/
structure Sg where
  T : List Df
  glbs : List (Str × D)
  frees : List Str
  excs : List Str
  plain : List Str
  /-- classes: the name, the fields -/
  clss : List (Str × List Str) := []
  calm : Bool := true
def Sg.at (S : Sg) (b : Bool) : Sg := { S with calm := b }
def Sg.glb (S : Sg) (k : Nat) : Option D := (S.glbs[k]?).map (·.2)

/-- a field's name -/
def fldB (S : Sg) (f : Str) : Bool := S.clss.any fun c => decide (f ∈ c.2)
/-- a method of a class -/
def methB (S : Sg) (c : Nat) (m : Str) (f n : Nat) : Bool := match S.T[f]? with
  | some d => decide (d.cls = some c) && (decide (d.name = m) && (decide (n + 1 = d.pars) && decide (c < S.clss.length)))
  | none => false
/-- a class, made -/
def mkB (S : Sg) (c : Nat) (x : Str) (f n : Nat) : Bool := methB S c "__init__" f n && decide ((S.clss[c]?).map (·.1) = some x)
def visB (sc : Scope) (x : Str) : Bool := match sc.names.lookup x with
  | some .local => true
  | some .cell => true
  | some .free => true
  | _ => false
def locB (sc : Scope) (x : Str) : Bool := decide (sc.names.lookup x = some .local)
def gloB (sc : Scope) (x : Str) : Bool := decide (sc.names.lookup x = some .globalImplicit)
def plainB (x : Str) : Bool := !(x == ("__debug__" : Str)) && (!(x == ("__classdict__" : Str)) && decide (x ≠ ("__name__" : Str)))
def cstB : D → Const → Bool
  | .none, .none => true
  | .bool a, .bool b => decide (a = b)
  | .int a, .int b => decide (a = b)
  | .str a, .str b => decide (a = b)
  | _, _ => false
/-- a built-in by its name; how many arguments -/
def fbName : Fb → Str
  | .abs => "abs"
  | .len => "len"
  | .all => "all"
  | .any => "any"
  | .int => "int"
  | .min2 => "min"
  | .max2 => "max"
  | .divmod => "divmod"
  | .tuple => "tuple"
  | .list => "list"
  | .str => "str"
  | .sorted => "sorted"
  | .repr => "repr"
  | _ => "?"
def fbMany : Fb → Nat
  | .min2 => 2
  | .max2 => 2
  | .divmod => 2
  | _ => 1
def tyName : Ty → Str
  | .int => "int"
  | .bool => "bool"
  | .str => "str"
  | .tuple => "tuple"
  | .list => "list"
  | .dict => "dict"
  | _ => "?"
def freeB (S : Sg) (x : Str) : Bool := decide (x ∈ S.frees)
/-- a class that isinstance asks -/
def tyB (S : Sg) (t : Ty) (y : Str) : Bool := match t with
  | .exc c => decide (S.excs[c]? = some y)
  | .verr => decide (y = "ValueError") && (freeB S y && !S.excs.isEmpty)
  | t => decide (tyName t = y) && (decide (y ≠ "?") && freeB S y)
/-- no super() -/
def baseB : Expr → Bool
  | .Call (.Name _ _) [] [] _ => false
  | _ => true
def excsB (S : Sg) (sc : Scope) : List Nat → List Expr → Bool
  | [], [] => true
  | c :: cs, .Name y _ :: es => decide (S.excs[c]? = some y) && (gloB sc y && (plainB y && excsB S sc cs es))
  | _, _ => false
def lineB (pos epos : Pos) : Bool := true
section
variable (S : Sg) (N : List Str)
/-- keys and values by turns -/
def mixL : List (Option Expr) → List Expr → List Expr
  | some k :: ks, v :: vs => k :: v :: mixL ks vs
  | _, _ => []
/-- what is zipped or numbered is taken apart at once -/
def tupE : CI → Expr → Bool
  | .zip2 _ _, .Tuple _ _ _ => true
  | .zip2 _ _, _ => false
  | .enm _, .Tuple _ _ _ => true
  | .enm _, _ => false
  | _, _ => true
/-- a target of a loop or a comprehension -/
def celB (sc : Scope) (x : Str) : Bool := decide (sc.names.lookup x = some .cell)
def namB (cl : Bool) (sc : Scope) (i : Nat) (x : Str) : Bool := decide (N[i]? = some x) && (locB sc x || (cl && celB sc x))
def namsB (cl : Bool) (sc : Scope) : List Nat → List Expr → Bool
  | [], [] => true
  | i :: is, .Name x _ :: es => namB N cl sc i x && namsB cl sc is es
  | _, _ => false
def chkT (cl : Bool) (sc : Scope) : CT → Expr → Bool
  | .nam i, .Name x _ => namB N cl sc i x
  | .tup l, .Tuple es _ _ => namsB N cl sc l es
  | _, _ => false
/-- a name of the module that is a dict; one that is none -/
def noDic (k : Nat) : Bool := match S.glbs[k]? with
  | some (_, .dict _) => false
  | _ => true
def isDic (k : Nat) (x : Str) : Bool := match S.glbs[k]? with
  | some (y, .dict _) => decide (y = x)
  | _ => false
mutual
def chkE : Scope → CE → Expr → Bool
  | sc, .var i, .Name x _ => decide (N[i]? = some x) && (visB sc x && plainB x)
  | sc, .glb k, .Name x _ => decide ((S.glbs[k]?).map (·.1) = some x) && (noDic S k && (gloB sc x && plainB x))
  | _, .cst d, .Constant c _ _ => cstB d c
  | sc, .tup es, .Tuple l _ _ => chkEs sc es l
  | sc, .lst _ es, .List l _ => chkEs sc es l
  | sc, .bin o _ a b, .BinOp l op r _ => decide (op = opA o) && (chkE sc a l && chkE sc b r)
  | sc, .neg a, .UnaryOp op e _ => decide (op = .USub) && chkE sc a e
  | sc, .not a, .UnaryOp op e _ => decide (op = .Not) && chkE sc a e
  | sc, .bop con es, .BoolOp op l _ => decide (op = if con then .And else .Or) && (!l.isEmpty && chkEs sc es l)
  | sc, .cmp o a b, .Compare l [op] [r] _ => decide (op = opC o) && (!behindInMarks op r && (chkE sc a l && chkE sc b r))
  | sc, .chn o p a b c, .Compare l [op, op'] [r, r'] _ => decide (op = opC o) && (decide (op' = opC p) && (!lastMarks [op, op'] [r, r'] && (chkE sc a l && (chkE sc b r && chkE sc c r'))))
  | sc, .ite c a b, .IfExp t x y _ => chkE sc c t && (chkE sc a x && chkE sc b y)
  | sc, .idx a i, .Subscript e s _ => chkE sc a e && chkE sc i s
  | sc, .slc a lo hi, .Subscript e (.Slice l u none _) _ => chkE sc a e && (chkO sc lo l && chkO sc hi u)
  | sc, .rev a, .Subscript e (.Slice none none (some (.UnaryOp op (.Constant (.int i) _ _) _)) _) _ => decide (op = .USub) && (decide (i = 1) && chkE sc a e)
  | sc, .call f es, .Call (.Name x _) l [] _ => (match S.T[f]? with
    | some d => decide (d.cls = none) && (decide (d.name = x) && decide (es.len = d.pars))
    | none => false) && (gloB sc x && (plainB x && (!l.isEmpty && (S.calm && chkEs sc es l))))
  | sc, .blt fb _ es, .Call (.Name x _) l [] _ => decide (fbName fb = x) && (decide (x ≠ "?") && (decide (es.len = fbMany fb) && (freeB S x && (gloB sc x && (!l.isEmpty && ((S.calm || decide (fb = .int)) && chkEs sc es l))))))
  | _, .dct _ .nil .nil, .Dict [] [] _ => true
  | sc, .dct _ (.cons a .nil) (.cons b .nil), .Dict [some x] [y] _ => chkE sc a x && chkE sc b y
  | sc, .isis a cs, .Call (.Name f _) [e, .Tuple ys _ _] [] _ => decide (f = "isinstance") && (freeB S f && (gloB sc f && (decide (cs.length ≤ 1000) && (!S.excs.isEmpty && (excsB S sc cs ys && chkE sc a e)))))
  | sc, .sset _ a, .Call (.Name x _) [.Call (.Name y _) [e] [] _] [] _ => decide (x = "sorted") && (decide (y = "set") && (freeB S x && (freeB S y && (gloB sc x && (gloB sc y && (S.calm && chkE sc a e))))))
  | sc, .lset a, .Call (.Name x _) [.Call (.Name y _) [e] [] _] [] _ => decide (x = "len") && (decide (y = "set") && (freeB S x && (freeB S y && (gloB sc x && (gloB sc y && (S.calm && chkE sc a e))))))
  | sc, .bmt f _ a es, .Call (.Attribute o x apos) l [] cpos => decide (bmName f = x) && (decide (x ≠ "?") && (decide (apos.endLine = cpos.line) && (baseB o && (decide (l.length < 30) && (decide (es.len = bmMany f) && (decide (l.length = bmMany f) && (chkE sc a o && chkEs sc es l)))))))
  | sc, .isi a t, .Call (.Name f _) [e, .Name y _] [] _ => decide (f = "isinstance") && (freeB S f && (gloB sc f && (tyB S t y && (gloB sc y && (plainB y && chkE sc a e)))))
  | sc, .comp _ own tg it ifs elt, .ListComp e [⟨t, i, l, asy⟩] scope _ => decide (asy = 0) && (blkC N sc scope own && ((slotsT tg).all (fun j => decide (j ∈ own.map (·.2))) && ((tupE it t && chkI sc it i) && (chkT N false (relS scope sc) tg t && (chkEs (relS scope sc) ifs l && (decide (ifs.len ≤ 1) && (S.calm && chkE (relS scope sc) elt e)))))))
  | sc, .fld a f, .Attribute o g _ => decide (f = g) && (fldB S f && (baseB o && chkE sc a o))
  | sc, .meth a c m f es, .Call (.Attribute o g apos) l [] cpos => decide (m = g) && (methB S c m f es.len && (decide (apos.endLine = cpos.line) && (baseB o && (decide (l.length < 30) && (S.calm && (chkE sc a o && chkEs sc es l))))))
  | sc, .mk c f es, .Call (.Name x _) l [] _ => mkB S c x f es.len && (gloB sc x && (plainB x && (S.calm && chkEs sc es l)))
  | sc, .dsp t es, .Dict ks vs _ => (!t) && (ks.all (·.isSome) && (decide (ks.length = vs.length) && (!ks.isEmpty && (decide (ks.length ≤ 15) && chkEs sc es (mixL ks vs)))))
  | sc, .dtab op k a, .Compare l [o] [.Name x p] _ => ((decide (op = 0) && decide (o = .In)) || (decide (op = 1) && decide (o = .NotIn))) && (isDic S k x && (gloB sc x && (plainB x && (!behindInMarks o (.Name x p) && chkE sc a l))))
  | sc, .dtab op k a, .Subscript (.Name x _) s _ => decide (op = 2) && (isDic S k x && (gloB sc x && (plainB x && chkE sc a s)))
  | sc, .dtab op k a, .Call (.Attribute (.Name x _) g apos) [e] [] cpos => decide (op = 3) && (decide (g = "get") && (decide (apos.endLine = cpos.line) && (isDic S k x && (gloB sc x && (plainB x && chkE sc a e)))))
  | _, _, _ => false
def chkEs : Scope → CEs → List Expr → Bool
  | _, .nil, [] => true
  | sc, .cons a es, e :: l => chkE sc a e && chkEs sc es l
  | _, _, _ => false
def chkO : Scope → CO → Option Expr → Bool
  | _, .non, none => true
  | sc, .som a, some e => chkE sc a e
  | _, _, _ => false
def chkI : Scope → CI → Expr → Bool
  | sc, .ex a, e => chkE sc a e
  | sc, .rng1 b, .Call (.Name f _) [e] [] _ => decide (f = "range") && (freeB S f && (gloB sc f && chkE sc b e))
  | sc, .zip2 a b, .Call (.Name f _) [d, e] [] _ => decide (f = "zip") && (freeB S f && (gloB sc f && (chkE sc a d && chkE sc b e)))
  | sc, .rng2 a b, .Call (.Name f _) [d, e] [] _ => decide (f = "range") && (freeB S f && (gloB sc f && (chkE sc a d && chkE sc b e)))
  | _, _, _ => false
end
end
/-- an expression of the mini language is no star, no slice -/
def plainE : Expr → Bool
  | .Starred _ _ => false
  | .Slice _ _ _ _ => false
  | .Set _ _ _ => false
  | _ => true
section
variable {S : Sg} {N : List Str}
theorem chkE_plain {sc : Scope} {c : CE} {e : Expr} (h : chkE S N sc c e = true) : plainE e = true := by
  cases e with
  | Starred a b => unfold chkE at h; cases c <;> simp at h
  | Slice a b c d => unfold chkE at h; rename_i c0; cases c0 <;> simp at h
  | Set a b c => unfold chkE at h; rename_i c0; cases c0 <;> simp at h
  | _ => rfl
theorem star_of {e : Expr} {es : List Expr} {env : Env} (h : plainE e = true) : starEach (e :: es) env = (false, eval e env) :: starEach es env := by
  cases e <;> first | rfl | cases h
theorem plainIx_of {e : Expr} (h : plainE e = true) : PlainIx e := by
  intro o i
  cases e <;> first | rfl | cases h
theorem chkEs_plain {sc : Scope} : ∀ {es : CEs} {l : List Expr}, chkEs S N sc es l = true → ∀ e ∈ l, plainE e = true
  | .nil, [], _ => fun e z => nomatch z
  | .cons a es, e :: l, h => fun x z => by
    unfold chkEs at h
    have h2 := Bool.and_eq_true_iff.mp h
    rcases List.mem_cons.mp z with z | z
    · subst z; exact chkE_plain h2.1
    · exact chkEs_plain h2.2 x z
  | .nil, _ :: _, h => by simp [chkEs] at h
  | .cons _ _, [], h => by simp [chkEs] at h
theorem base_of {o : Expr} {x : Str} {env : Env} (h : baseB o = true) : attributeBase o x env (eval o env) = eval o env := by
  unfold attributeBase
  split
  · cases h
  · rfl
theorem star_none {pos : Pos} {env : Env} : ∀ {l : List Expr}, (∀ e ∈ l, plainE e = true) → (backTo pos (starEach l env)).any (·.1) = false := by
  intro l
  induction l with
  | nil => intro _; rfl
  | cons e l ih =>
    intro h
    have h1 := h e List.mem_cons_self
    have h2 := ih fun x z => h x (List.mem_cons_of_mem _ z)
    rw [star_of h1]
    exact h2
end
end M
/-! MSound: an expression of the mini language does in the model what it says. -/
namespace M
open PySem PySem.Spec L2
/-- the written dict at a: l -/
def KDD (K : PySem.W.Frag) (w : World) (a : Addr) (l : List (D × D)) : Prop :=
  ∃ es n, KDict K w a es n ∧ ∀ z : Str, (tabD l z = none → PySem.W.nsIn K a z = some none) ∧ (∀ d, tabD l z = some d → ∃ y t, d = .str y ∧ PySem.W.nsIn K a z = some (some (.str y t)))
/-- a name of the module, as the mini text knows it -/
def GlbR (K : PySem.W.Frag) (w : World) (mg : Str → Option Value) (x : Str) (d : D) : Prop := match d with
  | .dict l => ∃ a, mg x = some (.ref a) ∧ KDD K w a l
  | d => ∃ u v, mg x = some u ∧ RelV v u ∧ ∀ μ H, VR K μ H d v
/-- what a def does by values -/
def spC (K : PySem.W.Frag) (ca : Nat → Addr) (n : Nat) (f : List W → Hh → Res W) : Sp := fun vs H Q E => vs.length = n ∧ ∃ μ h ws, HR K ca μ H h ∧ WRs K ca μ H ws vs ∧ Out K ca μ H (rW K ca) Q (fun c H' => E (.ref (ca (2 * c))) none H') (f ws h)
/-- what the errors' classes say -/
structure ExS (S : Sg) (K : PySem.W.Frag) (mg : Str → Option Value) (ca : Nat → Addr) : Prop where
  gl : ∀ (c : Nat) (x : Str), S.excs[c]? = some x → mg x = some (.ref (ca (2 * c))) ∧ PySem.W.keepIn K (.ref (ca (2 * c))) = true ∧ PySem.W.subIn K (.ref (ca (2 * c))) (.type "BaseException") = some true ∧ PySem.W.typeIn K (.ref (ca (2 * c))) = some (.type "type")
  pl : ∀ (c : Nat) (x : Str), S.excs[c]? = some x → x ∈ S.plain → PySem.W.excIn K (ca (2 * c)) [.type "ValueError", .type "Exception", .type "BaseException", .type "object"] "ValueError.__new__" = true
  ic : ∀ c : Nat, S.excs ≠ [] → ExcC K (ca (2 * c)) ∧ PySem.W.kitOne K (.ref (ca (2 * c))) (.type "ValueError") = some true
  kk : ∀ (c d : Nat) (y : Str), S.excs[d]? = some y → PySem.W.kitOne K (.ref (ca (2 * c))) (.ref (ca (2 * d))) = some (subX c d) ∧ PySem.W.exmOne K (.ref (ca (2 * c))) (.ref (ca (2 * d))) = some (subX c d)
/-- what the classes say -/
structure ClS (S : Sg) (K : PySem.W.Frag) (mg : Str → Option Value) (ca : Nat → Addr) : Prop where
  gl : ∀ (c : Nat) (x : Str), (S.clss[c]?).map (·.1) = some x → mg x = some (.ref (ca (2 * c + 1))) ∧ PySem.W.makesIn K (ca (2 * c + 1)) = true ∧ PySem.W.keepIn K (.ref (ca (2 * c + 1))) = true
  cl : ∀ c : Nat, S.clss ≠ [] → Cls K (ca (2 * c + 1))
  na : ∀ (c : Nat) (f : Str), fldB S f = true → NoAttr K (ca (2 * c + 1)) f
/-- where an expression stands -/
structure Cok (S : Sg) (ca : Nat → Addr) (call : Nat → List W → Hh → Res W) (lv : Nat) (N : List Str) (sc : Scope) (X : Cx) (Wx : WX) : Prop where
  eN : X.N = N
  nd : N.Nodup
  esc : X.env.scope = sc
  calm : S.calm = true → X.calm = true
  un : X.A.units + 65 < cLine
  gd : X.A.guards = some []
  room : S.calm = true → Room (lv + 1) X.A
  free : ∀ x, x ∈ S.frees → X.mg x = none
  glb : ∀ (k : Nat) (x : Str) (d : D), S.glbs[k]? = some (x, d) → GlbR X.K X.w X.mg x d
  fns : ∀ (f : Nat) (d : Df), S.T[f]? = some d → d.cls = none → ∃ a fd ps, X.mg d.name = some (.ref a) ∧ PySem.W.keepIn X.K (.ref a) = true ∧ Binds X.K fd ps [] ∧
    GOk X.prog X.w X.K X.mg X.base (L2.CX X.prog X.w) lv a fd ps (spC X.K ca d.pars (call f))
  mts : ∀ (f : Nat) (d : Df) (c : Nat), S.T[f]? = some d → d.cls = some c → c < S.clss.length → ∃ a fd ps, Meth X.K (ca (2 * c + 1)) d.name a ∧ Binds X.K fd ps [] ∧
    GOk X.prog X.w X.K X.mg X.base (L2.CX X.prog X.w) lv a fd ps (spC X.K ca d.pars (call f))
  exS : ExS S X.K X.mg ca
  clS : ClS S X.K X.mg ca
  tk : Takes X Wx
abbrev wI (ca : Nat → Addr) (Wx : WX) : Nat → L2.St → Hp → Prop := fun c σ H => Wx (.ref (ca (2 * c))) none σ H
section
variable {S : Sg} {ca : Nat → Addr} {call : Nat → List W → Hh → Res W} {lv : Nat} {N : List Str} {sc : Scope} {X : Cx} {Wx : WX}
abbrev Sg.cc (S : Sg) (call : Nat → List W → Hh → Res W) (wh : (En → Hh → Res Bool) → (En → Hh → SR) → En → Hh → SR) : Cc := ⟨S.glb, call, wh⟩
theorem _root_.L2.PE.imp {e : Expr} {t t' : TE} (h : PE X e t) (k : ∀ σ H Q, t' σ H Q → t σ H Q) : PE X e t' := ⟨fun pins s σ H Q I q => h.run pins s σ H Q I (k σ H Q q)⟩
theorem _root_.L2.PT.imp {e : Expr} {t t' : TT} (h : PT X e t) (k : ∀ σ H Q, t' σ H Q → t σ H Q) : PT X e t' := ⟨fun pins s σ H Q I q => h.run pins s σ H Q I (k σ H Q q)⟩
theorem _root_.L2.PW.imp {e : Expr} {t t' : TT} (h : PW X e t) (k : ∀ σ H Q, t' σ H Q → t σ H Q) : PW X e t' := ⟨fun wh pins s σ H Q I q => h.run wh pins s σ H Q I (k σ H Q q)⟩
theorem _root_.L2.PA.imp {es : List Expr} {t t' : TA} (h : PA X es t) (k : ∀ σ H Q, t' σ H Q → t σ H Q) : PA X es t' := ⟨fun p pins s σ H Q I q => h.run p pins s σ H Q I (k σ H Q q)⟩
theorem _root_.L2.PI.imp {tg e : Expr} {t t' : TI} (h : PI X tg e t) (k : ∀ σ H Q, t' σ H Q → t σ H Q) : PI X tg e t' := ⟨fun pins s σ H Q I q => h.run pins s σ H Q I (k σ H Q q)⟩
/-- a value's run as a test -/
theorem toB_seq {K : PySem.W.Frag} {W' : Nat → L2.St → Hp → Prop} {σ : L2.St} {H : Hp} {m : En → Hh → Res W} {Q : Bool → Hp → Prop} (h : tI K ca W' rB (fun e h => toB (m e h)) σ H Q) : tI K ca W' (rW K ca) m σ H fun x H' => ∃ k, x = .bl k ∧ Q k H' := by
  obtain ⟨μ, e, h, er, hr, o⟩ := h
  refine seqI (rW K ca) er hr o fun μ1 H1 h1 w v s1 er1 hr1 z o1 => ?_
  cases q : truth w with
  | none => rw [q] at o1; exact o1.elim
  | some b =>
    rw [q] at o1
    have e2 : w = .dat (.bool b) := by
      cases w with
      | dat d => cases d <;> first | (cases q; rfl) | cases q
      | _ => cases q
    subst e2
    exact ⟨b, z.of_bool, o1.now hr1 rfl⟩
/-- by a rule for the operator -/
theorem tI_op {K : PySem.W.Frag} {W' : Nat → L2.St → Hp → Prop} {σ : L2.St} {H : Hp} {Q : VK} {m1 m2 : En → Hh → Res W} {f : W → W → Hh → Res W} (hf : ∀ a b h c h', f a b h ≠ .exc c h')
    (h : tI K ca W' (rW K ca) (fun e h => (m1 e h).bind fun x h => (m2 e h).bind fun y h => f x y h) σ H Q) : tOp (rOp K ca f) (tI K ca W' (rW K ca) m1) (tI K ca W' (rW K ca) m2) σ H Q := by
  obtain ⟨μ, e, h, er, hr, o⟩ := h
  refine seqI (rW K ca) er hr o fun μ1 H1 h1 w v s1 er1 hr1 z o1 => ?_
  refine seqI (rW K ca) er1 hr1 o1 fun μ2 H2 h2 w2 v2 s2 er2 hr2 z2 o2 => ?_
  refine ⟨μ2, h2, w, w2, hr2, z.mono s2, z2, ?_⟩
  cases q : f w w2 h2 with
  | ok a h' => rw [q] at o2; exact o2
  | exc c h' => exact absurd q (hf _ _ _ _ _)
  | bad => rw [q] at o2; exact o2
/-- no operator raises -/
theorem ok_ne {α : Type} {a : α} {h : Hh} {c : Nat} {h' : Hh} : Res.ok a h ≠ .exc c h' := fun z => nomatch z
theorem bad_ne {α : Type} {c : Nat} {h' : Hh} : (Res.bad : Res α) ≠ .exc c h' := fun z => nomatch z
theorem optR_ne {α : Type} {h : Hh} {o : Option α} {c : Nat} {h' : Hh} : optR h o ≠ .exc c h' := by cases o <;> exact fun z => nomatch z
theorem rb_ne {h : Hh} {o : Option Bool} {c : Nat} {h' : Hh} : rb h o ≠ .exc c h' := by cases o <;> exact fun z => nomatch z
theorem mkLst_ne {m : Bool} {l : List W} {h : Hh} {c : Nat} {h' : Hh} : mkLst m l h ≠ .exc c h' := by
  unfold mkLst
  split <;> exact fun z => nomatch z
theorem mkTup_ne {l : List W} {h : Hh} {c : Nat} {h' : Hh} : mkTup l h ≠ .exc c h' := by
  unfold mkTup
  split <;> exact fun z => nomatch z
theorem ite_ne {α : Type} {k : Bool} {r : Res α} {c : Nat} {h' : Hh} (h : r ≠ .exc c h') : (if k then r else .bad) ≠ .exc c h' := by
  cases k with
  | true => exact h
  | false => exact fun z => nomatch z
theorem itp_ne {α : Type} {p : Prop} [Decidable p] {r : Res α} {c : Nat} {h' : Hh} (h : r ≠ .exc c h') : (if p then r else .bad) ≠ .exc c h' := by
  by_cases z : p
  · rw [if_pos z]; exact h
  · rw [if_neg z]; exact fun z => nomatch z
theorem catL_ne {m : Bool} {h : Hh} {a b : Option (List W)} {c : Nat} {h' : Hh} : catL m h a b ≠ .exc c h' := by
  unfold catL
  split
  · exact itp_ne mkLst_ne
  · exact fun z => nomatch z
theorem addW_ne {m : Bool} {a b : W} {h : Hh} {c : Nat} {h' : Hh} : addW m a b h ≠ .exc c h' := by
  unfold addW
  repeat' split
  all_goals first | exact ok_ne | exact bad_ne | exact itp_ne ok_ne | exact catL_ne
theorem intop_ne {op : BOp} {i j : Int} {h : Hh} {c : Nat} {h' : Hh} : intop op i j h ≠ .exc c h' := by
  cases op <;> first | exact ok_ne | exact bad_ne | exact itp_ne ok_ne
theorem mulW_ne {m : Bool} {a b : W} {h : Hh} {c : Nat} {h' : Hh} : mulW m a b h ≠ .exc c h' := by
  unfold mulW
  repeat' split
  all_goals first | exact intop_ne | exact itp_ne mkLst_ne | exact ok_ne | exact bad_ne | exact mkLst_ne
theorem binop_ne {op : BOp} {m : Bool} {a b : W} {h : Hh} {c : Nat} {h' : Hh} : binop op m a b h ≠ .exc c h' := by
  unfold binop
  repeat' split
  all_goals first | exact addW_ne | exact mulW_ne | exact intop_ne | exact ok_ne | exact bad_ne
theorem dctIdx_ne {a b : W} {h : Hh} {c : Nat} {h' : Hh} : dctIdx a b h ≠ .exc c h' := by
  unfold dctIdx
  repeat' split
  all_goals first | exact ok_ne | exact bad_ne
theorem index_ne {a b : W} {h : Hh} {c : Nat} {h' : Hh} : index a b h ≠ .exc c h' := by
  unfold index
  repeat' split
  all_goals first | exact optR_ne | exact ok_ne | exact bad_ne | exact dctIdx_ne
theorem slice_ne {a : W} {lo hi : Option Int} {h : Hh} {c : Nat} {h' : Hh} : slice a lo hi h ≠ .exc c h' := by
  unfold slice
  repeat' split
  all_goals first | exact mkLst_ne | exact ok_ne | exact bad_ne | exact itp_ne ok_ne
theorem tupleOf_ne {w : W} {h : Hh} {c : Nat} {h' : Hh} : tupleOf w h ≠ .exc c h' := by
  unfold tupleOf
  repeat' split
  all_goals first | exact mkTup_ne | exact ok_ne | exact bad_ne
theorem ri_ne {h : Hh} {o : Option Int} {c : Nat} {h' : Hh} : ri h o ≠ .exc c h' := by cases o <;> exact fun z => nomatch z
theorem revW_ne {a : W} {h : Hh} {c : Nat} {h' : Hh} : revW a h ≠ .exc c h' := by
  unfold revW
  split
  · exact ok_ne
  · exact ok_ne
  · split
    · exact mkLst_ne
    · exact bad_ne
  · exact bad_ne
theorem joinW_ne {a : Str} {l : List W} {h : Hh} {c : Nat} {h' : Hh} : joinW a l h ≠ .exc c h' := by
  unfold joinW
  split
  · exact ite_ne ok_ne
  · exact bad_ne
theorem bmeth_ne {f : Mb} {x : W} {ws : List W} {h : Hh} {c : Nat} {h' : Hh} : bmeth f x ws h ≠ .exc c h' := by
  unfold bmeth
  all_goals (repeat' split)
  all_goals first | exact ok_ne | exact bad_ne | exact joinW_ne
theorem lenSet_ne {w : W} {h : Hh} {c : Nat} {h' : Hh} : lenSet w h ≠ .exc c h' := by
  unfold lenSet
  repeat' split
  all_goals first | exact ok_ne | exact bad_ne
theorem sortW_ne {m : Bool} {w : W} {h : Hh} {c : Nat} {h' : Hh} : sortW m w h ≠ .exc c h' := by
  unfold sortW
  split
  · split
    · exact mkLst_ne
    · exact bad_ne
  · exact bad_ne
theorem reprW_ne {w : W} {h : Hh} {c : Nat} {h' : Hh} : reprW w h ≠ .exc c h' := by
  unfold reprW
  split
  · exact itp_ne ok_ne
  · exact bad_ne
theorem builtin_ne {f : Fb} {m : Bool} {ws : List W} {h : Hh} {c : Nat} {h' : Hh} : builtin f m ws h ≠ .exc c h' := by
  unfold builtin
  repeat' split
  all_goals first | exact sortW_ne | exact reprW_ne | exact rb_ne | exact ri_ne | exact mkLst_ne | exact tupleOf_ne | exact ok_ne | exact bad_ne | exact itp_ne ok_ne | exact ite_ne ok_ne
end
end M
/-! MWalk: what loops and comprehensions walk over; comprehensions. -/
namespace M
open PySem PySem.Spec L2
/-- the iterator J hands out what I says, from (μ0, H0) on -/
structure Walk (K : PySem.W.Frag) (ca : Nat → Addr) (J : It) (I : Itm) (μ0 : Mu) (H0 : Hp) : Prop where
  go : ∀ (i : Nat) (μ : Mu) (H : Hp) (h : Hh) (w : W), Stp μ0 H0 μ H → HR K ca μ H h → I.get i h = some w → J.go i H
  yld : ∀ (i : Nat) (μ : Mu) (H : Hp) (h : Hh) (w : W) (x : V) (H' : Hp), Stp μ0 H0 μ H → HR K ca μ H h → I.get i h = some w → J.yld i H x H' → Stp μ H μ H' ∧ HR K ca μ H' h ∧ WR K ca μ H' w x
  stop : ∀ (i : Nat) (μ : Mu) (H : Hp) (h : Hh), Stp μ0 H0 μ H → HR K ca μ H h → I.fin i h = true → J.stop i H
abbrev rIt (K : PySem.W.Frag) (ca : Nat → Addr) : Mu → Hp → Itm → It → Prop := fun μ H l J => Walk K ca J l μ H
section
variable {K : PySem.W.Frag} {ca : Nat → Addr} {μ μ' : Mu} {H H' : Hp} {h : Hh}
theorem Walk.later {J : It} {I : Itm} (w : Walk K ca J I μ H) (s : Stp μ H μ' H') : Walk K ca J I μ' H' :=
  ⟨fun i m g a b t => w.go i m g a b (s.trans t), fun i m g a b c d t => w.yld i m g a b c d (s.trans t), fun i m g a t => w.stop i m g a (s.trans t)⟩
theorem VRs.get {ds : List D} {xs : List V} {i : Nat} {x : V} (r : VRs K μ H ds xs) (e : xs[i]? = some x) : ∃ d, ds[i]? = some d ∧ VR K μ H d x := by
  induction ds generalizing xs i with
  | nil => cases r; simp at e
  | cons d ds ih =>
    cases r with
    | cons r t =>
      cases i with
      | zero => simp at e; subst e; exact ⟨d, rfl, r⟩
      | succ i => simpa using ih t (by simpa using e)
theorem WRs.get {ws : List W} {xs : List V} {i : Nat} {x : V} (r : WRs K ca μ H ws xs) (e : xs[i]? = some x) : ∃ w, ws[i]? = some w ∧ WR K ca μ H w x := by
  induction r generalizing i with
  | nil => simp at e
  | cons r t ih =>
    cases i with
    | zero => simp at e; subst e; exact ⟨_, rfl, r⟩
    | succ i => simpa using ih (by simpa using e)
theorem get_map {ds : List D} {i : Nat} {w : W} (e : (Itm.ws (ds.map W.dat)).get i h = some w) : ∃ d, ds[i]? = some d ∧ w = .dat d := by
  have e : (ds.map W.dat)[i]? = some w := e
  rw [List.getElem?_map] at e
  obtain ⟨d, e1, e2⟩ := Option.map_eq_some_iff.mp e
  exact ⟨d, e1, e2.symm⟩
theorem walk_list {a : Addr} {xs : List V} {ds : List D} (q : LstAt K μ H a xs) (r : VRs K μ H ds xs) : Walk K ca (Itl K a) (.ws (ds.map .dat)) μ H := by
  have hl := r.len
  refine ⟨fun i m g hh w s hr e => ?_, fun i m g hh w x g' s hr e y => ?_, fun i m g hh s hr e => ?_⟩
  · obtain ⟨d, e1, _⟩ := get_map e
    have hi := (List.getElem?_eq_some_iff.mp e1).1
    exact ⟨xs, xs[i]'(by omega), (q.mono s).sq, List.getElem?_eq_getElem _⟩
  · obtain ⟨rfl, y⟩ := y
    obtain ⟨d, e1, rfl⟩ := get_map e
    obtain ⟨d', e2, v⟩ := (r.mono s).get (y xs (q.mono s).sq)
    rw [e1] at e2
    cases e2
    exact ⟨.refl, hr, .dat v⟩
  · have e1 : decide ((ds.map W.dat).length ≤ i) = true := e
    have e2 := of_decide_eq_true e1
    rw [List.length_map] at e2
    exact ⟨xs, (q.mono s).sq, by omega⟩
theorem walk_tup {a : Addr} {xs : List V} {ds : List D} (q : TupAt K μ H a xs) (r : VRs K μ H ds xs) : Walk K ca (Itt K a) (.ws (ds.map .dat)) μ H := by
  have hl := r.len
  refine ⟨fun i m g hh w s hr e => ?_, fun i m g hh w x g' s hr e y => ?_, fun i m g hh s hr e => ?_⟩
  · obtain ⟨d, e1, _⟩ := get_map e
    have hi := (List.getElem?_eq_some_iff.mp e1).1
    exact ⟨xs, xs[i]'(by omega), (q.mono s).sq, List.getElem?_eq_getElem _⟩
  · obtain ⟨rfl, y⟩ := y
    obtain ⟨d, e1, rfl⟩ := get_map e
    obtain ⟨d', e2, v⟩ := (r.mono s).get (y xs (q.mono s).sq)
    rw [e1] at e2
    cases e2
    exact ⟨.refl, hr, .dat v⟩
  · have e1 : decide ((ds.map W.dat).length ≤ i) = true := e
    have e2 := of_decide_eq_true e1
    rw [List.length_map] at e2
    exact ⟨xs, (q.mono s).sq, by omega⟩
theorem walk_rng {lo hi : Int} : Walk K ca (Itr lo (hi - lo).toNat) (.ws (rngL lo hi)) μ H := by
  have hl : (rngL lo hi).length = (hi - lo).toNat := by simp [rngL]
  have at_ : ∀ {i : Nat} {w : W}, (rngL lo hi)[i]? = some w → i < (hi - lo).toNat ∧ w = .dat (.int (lo + (i : Int))) := fun {i w} e => by
    have hi := (List.getElem?_eq_some_iff.mp e).1
    rw [hl] at hi
    refine ⟨hi, ?_⟩
    unfold rngL at e
    rw [List.getElem?_map, List.getElem?_range hi] at e
    exact (Option.some.inj e).symm
  refine ⟨fun i m g hh w s hr e => (at_ e).1, fun i m g hh w x g' s hr e y => ?_, fun i m g hh s hr e => ?_⟩
  · obtain ⟨rfl, rfl⟩ := y
    rw [(at_ e).2]
    exact ⟨.refl, hr, .int⟩
  · have e1 : decide ((rngL lo hi).length ≤ i) = true := e
    have e2 := of_decide_eq_true e1
    rw [hl] at e2
    exact e2
theorem walk_str {x : Str} : Walk K ca (Its x) (.ws (strL x)) μ H := by
  have hl : (strL x).length = x.cps.size := by simp [strL]
  have at_ : ∀ {i : Nat} {w : W}, (strL x)[i]? = some w → ∃ c, x.cps[i]? = some c ∧ w = .dat (.str ⟨#[c]⟩) := fun {i w} e => by
    unfold strL at e
    rw [List.getElem?_map] at e
    obtain ⟨c, e1, e2⟩ := Option.map_eq_some_iff.mp e
    exact ⟨c, by simpa using e1, e2.symm⟩
  refine ⟨fun i m g hh w s hr e => ?_, fun i m g hh w v g' s hr e y => ?_, fun i m g hh s hr e => ?_⟩
  · have hi := (List.getElem?_eq_some_iff.mp e).1
    rw [hl] at hi
    exact hi
  · obtain ⟨rfl, c, e1, rfl⟩ := y
    obtain ⟨c', e2, rfl⟩ := at_ e
    rw [e1] at e2
    cases e2
    exact ⟨.refl, hr, .str⟩
  · have e1 : decide ((strL x).length ≤ i) = true := e
    have e2 := of_decide_eq_true e1
    rw [hl] at e2
    exact e2
theorem walk_cell {n k : Nat} {a : Addr} (ha : μ.m[n]? = some a) : Walk K ca (Itl K a) (.cell n k) μ H := by
  have cell : ∀ {m : Mu} {g : Hp} {hh : Hh} {l : List W}, Stp μ H m g → HR K ca m g hh → hh[n]? = some (.lst l) → ∃ xs, SqL K g a xs ∧ WRs K ca m g l xs := fun {m g hh l} s hr e => by
    obtain ⟨xs, y, z⟩ := hr.ob n _ a e (s.get ha)
    exact ⟨xs, SqL.of y, z⟩
  refine ⟨fun i m g hh w s hr e => ?_, fun i m g hh w v g' s hr e y => ?_, fun i m g hh s hr e => ?_⟩
  · cases q : hh[n]? with
    | none => simp [Itm.get, q] at e
    | some o =>
      cases o with
      | lst l =>
        simp only [Itm.get, q] at e
        obtain ⟨xs, s1, z⟩ := cell s hr q
        have hi := (List.getElem?_eq_some_iff.mp e).1
        have hl := z.len
        exact ⟨xs, xs[i]'(by omega), s1, List.getElem?_eq_getElem _⟩
      | _ => simp [Itm.get, q] at e
  · obtain ⟨rfl, y⟩ := y
    cases q : hh[n]? with
    | none => simp [Itm.get, q] at e
    | some o =>
      cases o with
      | lst l =>
        simp only [Itm.get, q] at e
        obtain ⟨xs, s1, z⟩ := cell s hr q
        obtain ⟨w', e2, v⟩ := z.get (y xs s1)
        rw [e] at e2
        cases e2
        exact ⟨.refl, hr, v⟩
      | _ => simp [Itm.get, q] at e
  · cases q : hh[n]? with
    | none => simp [Itm.fin, q] at e
    | some o =>
      cases o with
      | lst l =>
        simp only [Itm.fin, q, decide_eq_true_eq] at e
        obtain ⟨xs, s1, z⟩ := cell s hr q
        exact ⟨xs, s1, by rw [← z.len]; exact e⟩
      | _ => simp [Itm.fin, q] at e
end
section
variable {X : Cx} {ca : Nat → Addr} {W' : Nat → L2.St → Hp → Prop} {tg e : Expr}
/-- a walk over a value: which iterator it is, the mini run tells ahead -/
theorem pi_ex {m : En → Hh → Res W} (he : PE X e (tI X.K ca W' (rW X.K ca) m)) : PI X tg e (tI X.K ca W' (rIt X.K ca) fun e h => (m e h).bind fun x h => optR h (itemsOf x h)) := by
  refine ⟨fun pins s σ H R I q => ?_⟩
  obtain ⟨μ, en, hh, er, hr, o⟩ := q
  have o : Out X.K ca μ H (rIt X.K ca) R (fun c H' => W' c σ H') ((m en hh).bind fun x h => optR h (itemsOf x h)) := o
  cases eq : m en hh with
  | bad => rw [eq] at o; exact o.elim
  | exc c h1 =>
    rw [eq] at o
    exact (pi_list he).run pins s σ H R I ⟨μ, en, hh, er, hr, by rw [eq]; exact o⟩
  | ok w h1 =>
    rw [eq] at o
    have o : Out X.K ca μ H (rIt X.K ca) R (fun c H' => W' c σ H') (optR h1 (itemsOf w h1)) := o
    cases e2 : itemsOf w h1 with
    | none => rw [e2] at o; exact o.elim
    | some it =>
      rw [e2] at o
      have o : ∀ μ' H' J, Stp μ H μ' H' → HR X.K ca μ' H' h1 → Walk X.K ca J it μ' H' → R J H' := o
      cases w with
      | dat d =>
        cases d with
        | list ds =>
          cases e2
          refine (pi_list he).run pins s σ H R I ⟨μ, en, hh, er, hr, ?_⟩
          rw [eq]
          intro μ' H' v st hr' wr
          obtain ⟨a, xs, rfl, z1, z2⟩ := wr.of_list
          exact ⟨a, rfl, ⟨xs, z1.sq⟩, o _ _ _ st hr' (walk_list z1 z2)⟩
        | tuple ds =>
          cases e2
          refine (pi_tup he).run pins s σ H R I ⟨μ, en, hh, er, hr, ?_⟩
          rw [eq]
          intro μ' H' v st hr' wr
          obtain ⟨a, xs, rfl, z1, z2⟩ := wr.of_tup
          exact ⟨a, rfl, ⟨xs, z1.sq⟩, o _ _ _ st hr' (walk_tup z1 z2)⟩
        | str x =>
          cases e2
          refine (pi_str he).run pins s σ H R I ⟨μ, en, hh, er, hr, ?_⟩
          rw [eq]
          intro μ' H' v st hr' wr
          exact ⟨x, wr.of_str, o _ _ _ st hr' walk_str⟩
        | _ => cases e2
      | ref n =>
        cases q : h1[n]? with
        | none => simp [itemsOf, q] at e2
        | some ob =>
          cases ob with
          | lst l =>
            simp only [itemsOf, q, Option.some.injEq] at e2
            subst e2
            refine (pi_list he).run pins s σ H R I ⟨μ, en, hh, er, hr, ?_⟩
            rw [eq]
            intro μ' H' v st hr' wr
            cases wr with
            | ref hn =>
              obtain ⟨xs, y, _⟩ := hr'.ob n _ _ q hn
              exact ⟨_, rfl, ⟨xs, SqL.of y⟩, o _ _ _ st hr' (walk_cell hn)⟩
          | _ => simp [itemsOf, q] at e2
      | _ => cases e2
theorem okR_of {i : Int} (h : okR i = true) : -(2 ^ 62) ≤ i ∧ i < 2 ^ 62 := by
  have h : i.natAbs.log2 < 62 := Nat.blt_eq.mp h
  by_cases z : i.natAbs = 0
  · omega
  · have := (Nat.log2_lt z).mp h
    omega
theorem pi_rng1M {b : Expr} {p pos : Pos} {m : En → Hh → Res W} (hg : Gl X "range") (hm : X.mg "range" = none) (pb : plainE b = true) (hb : PE X b (tI X.K ca W' (rW X.K ca) m)) :
    PI X tg (.Call (.Name "range" p) [b] [] pos) (tI X.K ca W' (rIt X.K ca) fun e h => (m e h).bind fun x h => (match x with
      | .dat (.int j) => if okR j then .ok (.ws (rngL 0 j)) h else .bad
      | _ => .bad)) := by
  refine (pi_range1 hg hm (pa_cons hb pa_nil (star_of pb)) (star_of pb)).imp fun σ H R q => ?_
  obtain ⟨μ, en, hh, er, hr, o⟩ := q
  refine seqI (rW X.K ca) er hr o fun μ1 H1 h1 w v s1 er1 hr1 z o1 => ?_
  cases w with
  | dat d =>
    cases d with
    | int j =>
      obtain ⟨c, o1⟩ := out_if o1
      obtain rfl := z.of_int
      refine ⟨j, rfl, (okR_of c).1, (okR_of c).2, ?_⟩
      have w := walk_rng (K := X.K) (ca := ca) (lo := 0) (hi := j) (μ := μ1) (H := H1)
      rw [Int.sub_zero] at w
      exact o1.now hr1 w
    | _ => exact o1.elim
  | _ => exact o1.elim
theorem pi_rng2M {a b : Expr} {p pos : Pos} {m n : En → Hh → Res W} (hg : Gl X "range") (hm : X.mg "range" = none) (pa : plainE a = true) (pb : plainE b = true) (ha : PE X a (tI X.K ca W' (rW X.K ca) m)) (hb : PE X b (tI X.K ca W' (rW X.K ca) n)) :
    PI X tg (.Call (.Name "range" p) [a, b] [] pos) (tI X.K ca W' (rIt X.K ca) fun e h => (m e h).bind fun x h => (n e h).bind fun y h => (match x, y with
      | .dat (.int i), .dat (.int j) => if okR i && okR j then .ok (.ws (rngL i j)) h else .bad
      | _, _ => .bad)) := by
  refine (pi_range2 hg hm (pa_cons ha (pa_cons hb pa_nil (star_of pb)) (star_of pa)) (by rw [star_of pa, star_of pb]; rfl) (star_of pb)).imp fun σ H R q => ?_
  obtain ⟨μ, en, hh, er, hr, o⟩ := q
  refine seqI (rW X.K ca) er hr o fun μ1 H1 h1 w v s1 er1 hr1 z o1 => ?_
  refine seqI (rW X.K ca) er1 hr1 o1 fun μ2 H2 h2 w2 v2 s2 er2 hr2 z2 o2 => ?_
  cases w with
  | dat d =>
    cases d with
    | int i =>
      cases w2 with
      | dat d2 =>
        cases d2 with
        | int j =>
          obtain ⟨c, o2⟩ := out_if o2
          obtain rfl := z.of_int
          obtain rfl := z2.of_int
          have c2 := Bool.and_eq_true_iff.mp c
          exact ⟨i, j, rfl, ⟨(okR_of c2.1).1, (okR_of c2.1).2, (okR_of c2.2).1, (okR_of c2.2).2⟩, o2.now hr2 walk_rng⟩
        | _ => exact o2.elim
      | _ => exact o2.elim
    | _ => exact o2.elim
  | _ => exact o2.elim
end

/-! ### targets -/
abbrev rE (K : PySem.W.Frag) (ca : Nat → Addr) : Mu → Hp → En → L2.St → Prop := ER K ca
/-- the slots differ at these places alone -/
def SameBut (l : List Nat) (σ σ' : L2.St) : Prop := σ'.length = σ.length ∧ ∀ j, j ∉ l → σ'[j]? = σ[j]?
/-- a walk's target takes a value -/
def tgI (K : PySem.W.Frag) (ca : Nat → Addr) (t : CT) : TG := fun v σ H Q => ∃ μ e h w e2, ER K ca μ H e σ ∧ HR K ca μ H h ∧ WR K ca μ H w v ∧ bindT t w e = some e2 ∧ ∀ σ2, SameBut (slotsT t) σ σ2 → ER K ca μ H e2 σ2 → Q σ2 H
theorem SameBut.set (σ : L2.St) (i : Nat) (v : Option V) : SameBut [i] σ (σ.set i v) := ⟨by rw [List.length_set], fun j hj => List.getElem?_set_ne (fun e => hj (by rw [e]; exact List.mem_singleton.mpr rfl))⟩
theorem SameBut.cons {l : List Nat} {i : Nat} {σ σ' σ2 : L2.St} (a : SameBut [i] σ σ') (b : SameBut l σ' σ2) : SameBut (i :: l) σ σ2 := ⟨b.1.trans a.1, fun j hj => (b.2 j fun z => hj (List.mem_cons_of_mem _ z)).trans (a.2 j fun z => hj (by rw [List.mem_singleton.mp z]; exact List.mem_cons_self))⟩
theorem wipe_get (σ : L2.St) : ∀ (vs : List Nat) (j : Nat), (L2.wipe σ vs)[j]? = if j ∈ vs then (if j < σ.length then some none else none) else σ[j]?
  | [], j => by simp [L2.wipe]
  | v :: vs, j => by
    show ((L2.wipe σ vs).set v none)[j]? = _
    by_cases e : v = j
    · subst e
      rw [if_pos List.mem_cons_self]
      by_cases hl : v < σ.length
      · rw [if_pos hl, List.getElem?_set_self (by rw [wipe_length]; exact hl)]
      · rw [if_neg hl, List.getElem?_eq_none (by rw [List.length_set, wipe_length]; omega)]
    · rw [List.getElem?_set_ne e, wipe_get σ vs j]
      have : (j ∈ v :: vs) ↔ j ∈ vs := by
        simp only [List.mem_cons]
        exact ⟨fun z => z.elim (fun z => absurd z.symm e) id, .inr⟩
      simp only [this]
theorem wipe_same {σ σ2 : L2.St} {l vs : List Nat} (s : SameBut l (L2.wipe σ vs) σ2) (h : ∀ j ∈ l, j ∈ vs) : L2.wipe σ2 vs = L2.wipe σ vs := by
  refine List.ext_getElem? fun j => ?_
  rw [wipe_get, wipe_get]
  have hl : σ2.length = σ.length := by rw [s.1, wipe_length]
  by_cases e : j ∈ vs
  · rw [if_pos e, if_pos e, hl]
  · rw [if_neg e, if_neg e, s.2 j (fun z => e (h j z)), wipe_get, if_neg e]
section
variable {X : Cx} {ca : Nat → Addr} {S : Sg} {N : List Str} {sc : Scope}
theorem _root_.L2.PG.imp {e : Expr} {t t' : TG} (h : PG X e t) (k : ∀ v σ H Q, t' v σ H Q → t v σ H Q) : PG X e t' := ⟨fun pins s σ H v u Q I r q => h.run pins s σ H v u Q I r (k v σ H Q q)⟩
theorem nam_loc {cl : Bool} {i : Nat} {x : Str} (es : X.env.scope = sc) (hf : cl = true → ∀ x, X.fn x = true) (h : namB N cl sc i x = true) : N[i]? = some x ∧ Loc X.env.scope x ∧ (X.fn x = true ∨ X.env.scope.names.lookup x = some .local) := by
  have h2 := Bool.and_eq_true_iff.mp h
  refine ⟨of_decide_eq_true h2.1, ?_⟩
  rcases Bool.or_eq_true_iff.mp h2.2 with q | q
  · have hl : X.env.scope.names.lookup x = some .local := by rw [es]; exact of_decide_eq_true q
    exact ⟨.inl hl, .inr hl⟩
  · have q2 := Bool.and_eq_true_iff.mp q
    exact ⟨.inr (by rw [es]; exact of_decide_eq_true q2.2), .inl (hf q2.1 x)⟩
theorem nam_ok {cl : Bool} {i : Nat} {x : Str} {pos : Pos} (eN : X.N = N) (nd : N.Nodup) (es : X.env.scope = sc) (hf : cl = true → ∀ x, X.fn x = true) (h : namB N cl sc i x = true) : PG X (.Name x pos) (gName i) := by
  obtain ⟨h1, h2, h3⟩ := nam_loc es hf h
  exact pg_name (by rw [eN]; exact nd) (by rw [eN]; exact h1) h2 h3
/-- several names, each a value -/
def gsI (K : PySem.W.Frag) (ca : Nat → Addr) (l : List Nat) : TGs := fun vs σ H Q => ∃ μ e h ws e2, ER K ca μ H e σ ∧ HR K ca μ H h ∧ WRs K ca μ H ws vs ∧ setAll e l ws = some e2 ∧ ∀ σ2, SameBut l σ σ2 → ER K ca μ H e2 σ2 → Q σ2 H
theorem nams_ok {c0 : Bool} (eN : X.N = N) (nd : N.Nodup) (es : X.env.scope = sc) (hf : c0 = true → ∀ x, X.fn x = true) : ∀ {l : List Nat} {ts : List Expr}, namsB N c0 sc l ts = true → PGs X ts (gsI X.K ca l) ∧ (assignEach ts X.env).length = l.length ∧ (assignEach ts X.env).findIdx? (·.1) = none
  | [], [], _ => by
    refine ⟨⟨fun pins s σ H vs us Q I r q => pgs_nil.run pins s σ H vs us Q I r ?_⟩, rfl, rfl⟩
    obtain ⟨μ, e, h, ws, e2, er, hr, z, eq, k⟩ := q
    cases z with
    | nil =>
      cases eq
      exact ⟨rfl, k _ ⟨rfl, fun _ _ => rfl⟩ er⟩
    | cons r t => cases eq
  | i :: l, e0 :: ts, h => by
    cases e0 with
    | Name x p =>
      have h2 := Bool.and_eq_true_iff.mp (show (namB N c0 sc i x && namsB N c0 sc l ts) = true from h)
      obtain ⟨q1, q2, q3⟩ := nams_ok eN nd es hf h2.2
      refine ⟨⟨fun pins s σ H vs us Q I r q => (pgs_cons (nam_ok eN nd es hf h2.1) q1).run pins s σ H vs us Q I r ?_⟩, ?_, ?_⟩
      · obtain ⟨μ, e, h, ws, e2, er, hr, z, eq, k⟩ := q
        cases z with
        | nil => cases eq
        | cons w1 t => exact ⟨_, _, rfl, μ, _, h, _, e2, er.set w1, hr, t, eq, fun σ2 sb er2 => k σ2 ((SameBut.set _ _ _).cons sb) er2⟩
      · show (assignEach ts X.env).length + 1 = _
        rw [q2]
        rfl
      · show (((false, assign (.Name x p) X.env) :: assignEach ts X.env).findIdx? (·.1)) = none
        rw [List.findIdx?_cons, if_neg Bool.false_ne_true, q3]
        rfl
    | _ => cases h
  | [], _ :: _, h => by cases h
  | _ :: _, [], h => by cases h
theorem setAll_len : ∀ {l : List Nat} {ws : List W} {e e2 : En}, setAll e l ws = some e2 → l.length = ws.length
  | [], [], _, _, _ => rfl
  | _ :: _, _ :: _, _, _, h => congrArg (· + 1) (setAll_len h)
  | [], _ :: _, _, _, h => by cases h
  | _ :: _, [], _, _, h => by cases h
theorem tg_ok {c0 : Bool} (eN : X.N = N) (nd : N.Nodup) (es : X.env.scope = sc) (hf : c0 = true → ∀ x, X.fn x = true) (hc : X.calm = true) {t : CT} {e : Expr} (h : chkT N c0 sc t e = true) : PG X e (tgI X.K ca t) := by
  cases t with
  | nam i =>
    cases e with
    | Name x p =>
      refine (nam_ok eN nd es hf h).imp fun v σ H Q q => ?_
      obtain ⟨μ, en, hh, w, e2, er, hr, wr, eq, k⟩ := q
      cases eq
      exact k _ (SameBut.set _ _ _) (er.set wr)
    | _ => cases h
  | tup l =>
    cases e with
    | Tuple ts k p =>
      obtain ⟨q1, q2, q3⟩ := nams_ok (ca := ca) eN nd es hf (show namsB N c0 sc l ts = true from h)
      refine (pg_tup hc q1 q2 q3).imp fun v σ H Q q => ?_
      obtain ⟨μ, en, hh, w, e2, er, hr, wr, eq, k⟩ := q
      cases w with
      | dat d =>
        cases d with
        | tuple ds =>
          obtain ⟨a, xs, rfl, z1, z2⟩ := wr.of_tup
          have hl := z2.len
          have hs : setAll en l (ds.map .dat) = some e2 := eq
          exact ⟨a, xs, rfl, z1.sq, by rw [← hl, setAll_len hs, List.length_map], μ, en, hh, _, e2, er, hr, WRs.of z2, hs, k⟩
        | _ => cases eq
      | _ => cases eq
    | _ => cases h
end

/-! ### comprehensions -/
/-- one step of a comprehension -/
def stepC (t : CT) (vs : List Nat) (mt : En → Hh → Res Bool) (me : En → Hh → Res W) (e : En) (w : W) (h : Hh) : Res (Option W) := match bindT t w (wipe e vs) with
  | some e2 => noexc ((mt e2 h).bind fun k h => if k = true then (me e2 h).bind fun v h => .ok (some v) h else .ok none h)
  | none => .bad
theorem Stp.atNew {μ μ' : Mu} {H H' : Hp} {Y : Addr} {o : HO} (s : Stp μ H μ' H') (n : H Y = none) (nx : Y ∉ μ.x) : Stp μ H μ' (upd H' Y o) := by
  refine ⟨s.pre, s.inx, s.oux, fun a ha => ?_, fun a u na p q => ?_, fun a e => ?_⟩
  · rw [upd_ne fun (e : a = Y) => nx (e ▸ ha)]
    exact s.fix a ha
  · have ne : a ≠ Y := fun e => Rd.some q (e ▸ n)
    have z := s.keep a u na p q
    unfold Rd
    rw [upd_ne ne]
    exact z
  · by_cases e2 : a = Y
    · rw [e2]; exact n
    · rw [upd_ne e2] at e
      exact s.live a e
theorem Res.bind_assoc {α β γ : Type} (m : Res α) (f : α → Hh → Res β) (g : β → Hh → Res γ) : (m.bind f).bind g = m.bind fun a h => (f a h).bind g := by cases m <;> rfl
/-- the abstract heap without Y -/
def cutH (H : Hp) (Y : Addr) : Hp := fun b => if b = Y then none else H b
theorem cutH_ne {H : Hp} {Y b : Addr} (h : b ≠ Y) : cutH H Y b = H b := by unfold cutH; rw [if_neg h]
theorem cutH_same {H : Hp} {Y : Addr} : cutH H Y Y = none := by unfold cutH; rw [if_pos rfl]
theorem cutH_upd {H : Hp} {Y : Addr} {o : HO} (h : H Y = some o) : upd (cutH H Y) Y o = H := by
  funext b
  by_cases e : b = Y
  · rw [e, upd_same, h]
  · rw [upd_ne e, cutH_ne e]
def Mu.cut (μ : Mu) (Y : Addr) : Mu := ⟨μ.m, μ.x.filter fun a => decide (a ≠ Y)⟩
theorem Mu.cut_mem {μ : Mu} {Y a : Addr} : a ∈ (μ.cut Y).x ↔ a ∈ μ.x ∧ a ≠ Y := by
  show a ∈ μ.x.filter _ ↔ _
  rw [List.mem_filter, decide_eq_true_eq]
section
variable {X : Cx} {ca : Nat → Addr} {W' : Nat → L2.St → Hp → Prop} {elt tg iter : Expr} {ifs : List Expr} {scope : Scope} {own : List (Str × Nat)} {pos : Pos} {mi : En → Hh → Res Itm} {mt : En → Hh → Res Bool} {me : En → Hh → Res W} {t : CT} {m : Bool}
theorem comp_ok (hc : X.calm = true) (hN : X.N.Nodup) (hi : PI X tg iter (tI X.K ca W' (rIt X.K ca) mi)) (ok : BlkOk X.N X.env.scope scope own) (hsl : ∀ j ∈ slotsT t, j ∈ own.map (·.2))
    (hg : ∀ (s : Shared) (H : Hp) (C : Addr) (cl : List (Str × Addr)) (fp : List Addr), PG (X.blk s H scope (compEnvC scope cl C X.env) fp) tg (tgI X.K ca t))
    (ht : ∀ (s : Shared) (H : Hp) (C : Addr) (cl : List (Str × Addr)) (fp : List Addr), PTs (X.blk s H scope (compEnvC scope cl C X.env) fp) ifs (tI X.K ca (fun _ _ _ => False) rB mt))
    (he : ∀ (s : Shared) (H : Hp) (C : Addr) (cl : List (Str × Addr)) (fp : List Addr), PE (X.blk s H scope (compEnvC scope cl C X.env) fp) elt (tI X.K ca (fun _ _ _ => False) (rW X.K ca) me))
    (hs : ∀ x, foldedSetIterable iter X.env x = pure x) (σ : L2.St) (H : Hp) (Q : VK)
    (q : tI X.K ca W' (rW X.K ca) (fun e h => (mi e h).bind fun l h => (compG l (stepC t (own.map (·.2)) mt me e) l.num 0 h []).bind fun r h => mkLst m r h) σ H Q) :
    tLc (tI X.K ca W' (rIt X.K ca) mi) (tgI X.K ca t) (tI X.K ca (fun _ _ _ => False) rB mt) (tI X.K ca (fun _ _ _ => False) (rW X.K ca) me) (own.map (·.2)) σ H Q := by
  obtain ⟨μ, en, hh, er, hr, o⟩ := q
  refine seqI (rIt X.K ca) er hr o fun μ1 H1 h1 it J s1 er1 hr1 wk o1 => ?_
  intro Y hY
  have nx : Y ∉ μ1.x := hr1.nox hY
  have nm : Y ∉ μ1.m := fun z => hr1.live Y z hY
  generalize hstep : stepC t (own.map (·.2)) mt me en = step at o1
  refine ⟨fun i k H2 => ∃ μ2 h2 accW accV, Stp μ1 H1 μ2 H2 ∧ Y ∈ μ2.x ∧ HR X.K ca μ2 H2 h2 ∧ H2 Y = some (.lst accV) ∧ WRs X.K ca μ2 H2 accW accV ∧
    Out X.K ca μ1 H1 (rW X.K ca) Q (fun c H' => W' c σ H') ((compG it step k i h2 accW).bind fun r h => mkLst m r h), ⟨it.num, μ1.hide Y, h1, [], [], ?_, List.mem_cons_self, ?_, upd_same, .nil, o1⟩, ?_⟩
  · exact ⟨⟨[], by simp [Mu.hide], fun _ z => nomatch z⟩, fun a h => List.mem_cons_of_mem _ h, fun a h => (List.mem_cons.mp h).elim (fun e => .inr (by rw [e]; exact hY)) .inl, fun a ha => upd_ne fun e => nx (e ▸ ha), (hr1.stp hY).keep, (hr1.stp hY).live⟩
  · exact hr1.hide (D := Y) (fun a ne => upd_ne ne) nm (fun _ z => by rw [upd_same] at z; cases z) (fun a u _ q e => Rd.some q (e ▸ hY)) rfl (fun a ne h z => (List.mem_cons.mp z).elim ne h) fun a ne z => (List.mem_cons.mp z).elim (fun e => absurd e ne) id
  · rintro i k H2 ⟨μ2, h2, accW, accV, st, hx, hr2, hl, wr, o2⟩
    have Ym : Y ∉ μ2.m := fun z => hr2.dis Y z hx
    have nn : ∀ a u, a ∉ μ2.m ∧ a ∉ μ2.x → Rd H2 a u → a ≠ Y := fun a u z _ e => z.2 (e ▸ hx)
    cases k with
    | zero =>
      by_cases hf : it.fin i h2 = true
      · refine .inl ⟨wk.stop i μ2 H2 h2 st hr2 hf, ?_⟩
        have o3 : Out X.K ca μ1 H1 (rW X.K ca) Q (fun c H' => W' c σ H') (mkLst m accW h2) := by
          have z : compG it step 0 i h2 accW = .ok accW h2 := by unfold compG; rw [if_pos hf]
          rw [z] at o2
          exact o2
        have hrc : HR X.K ca (μ2.cut Y) (cutH H2 Y) h2 := hr2.hide (D := Y) (fun a ne => cutH_ne ne) Ym (fun z => absurd rfl (Mu.cut_mem.mp z).2) nn rfl (fun a ne h z => h (Mu.cut_mem.mp z).1) fun a ne z => (Mu.cut_mem.mp z).1
        have wrc : WRs X.K ca (μ2.cut Y) (cutH H2 Y) accW accV := Paired.mapP wr fun _ _ z => WR.hide (μ' := μ2.cut Y) (H' := cutH H2 Y) (D := Y) (fun a u ne q => by unfold Rd; rw [cutH_ne ne]; exact q) nn rfl (fun a ne h z => h (Mu.cut_mem.mp z).1) z
        have stc : Stp μ1 H1 (μ2.cut Y) (cutH H2 Y) := by
          refine ⟨st.pre, fun a ha => Mu.cut_mem.mpr ⟨st.inx a ha, fun e => nx (e ▸ ha)⟩, fun a ha => st.oux a (Mu.cut_mem.mp ha).1, fun a ha => ?_, fun a u na p z => ?_, fun a e => ?_⟩
          · rw [cutH_ne fun (e : a = Y) => nx (e ▸ ha)]
            exact st.fix a ha
          · have ne : a ≠ Y := fun e => Rd.some z (e ▸ hY)
            have z2 := st.keep a u na p z
            unfold Rd
            rw [cutH_ne ne]
            exact z2
          · by_cases e2 : a = Y
            · rw [e2]; exact hY
            · rw [cutH_ne e2] at e
              exact st.live a e
        have z := out_mkLst hrc wrc (o3.shift stc) (p := Y) cutH_same
        rw [cutH_upd hl] at z
        exact z
      · have z : compG it step 0 i h2 accW = .bad := by unfold compG; rw [if_neg hf]
        rw [z] at o2
        exact o2.elim
    | succ k =>
      cases eg : it.get i h2 with
      | none =>
        have z : compG it step (k + 1) i h2 accW = .bad := by unfold compG; rw [eg]
        rw [z] at o2
        exact o2.elim
      | some w =>
        have z : compG it step (k + 1) i h2 accW = (step w h2).bind fun o h => match o with
          | some v => if accW.length < sizeL then compG it step k (i + 1) h (accW ++ [v]) else .bad
          | none => compG it step k (i + 1) h accW := by rw [compG, eg] <;> rfl
        rw [z, Res.bind_assoc] at o2
        refine .inr ⟨wk.go i μ2 H2 h2 w st hr2 eg, _, fun H' z => ⟨k, Nat.lt_succ_self k, z⟩, fun x H3 y => ?_⟩
        obtain ⟨s3, hr3, w3⟩ := wk.yld i μ2 H2 h2 w x H3 st hr2 eg y
        subst hstep
        unfold stepC at o2
        cases eb : bindT t w (M.wipe en (own.map (·.2))) with
        | none => rw [eb] at o2; exact o2.elim
        | some e2 =>
          rw [eb] at o2
          refine ⟨μ2, _, h2, w, e2, (er1.mono (st.trans s3)).wipe _, hr3, w3, eb, fun σ2 sb er2 => ⟨wipe_same sb hsl, ?_⟩⟩
          have stt := st.trans s3
          cases hmt : mt e2 h2 with
          | bad => simp only [hmt] at o2; exact o2.elim
          | exc c h' => simp only [hmt] at o2; exact o2.elim
          | ok b h4 =>
            simp only [hmt] at o2
            refine ⟨μ2, e2, h2, er2, hr3, ?_⟩
            rw [hmt]
            intro μ4 H4 b' s4 hr4 e4
            have e4 : b = b' := e4
            subst e4
            have hx4 : Y ∈ μ4.x := s4.inx Y hx
            have hl4 : H4 Y = some (.lst accV) := by rw [s4.fix Y hx, s3.fix Y hx]; exact hl
            cases b with
            | false =>
              rw [if_neg Bool.false_ne_true]
              exact ⟨μ4, h4, accW, accV, stt.trans s4, hx4, hr4, hl4, wr.mono (s3.trans s4), o2⟩
            | true =>
              rw [if_pos rfl]
              cases hme : me e2 h4 with
              | bad =>
                have o2 : Out X.K ca μ1 H1 (rW X.K ca) Q (fun c H' => W' c σ H') ((noexc ((me e2 h4).bind fun v h => .ok (some v) h)).bind _) := o2
                rw [hme] at o2
                exact o2.elim
              | exc c h' =>
                have o2 : Out X.K ca μ1 H1 (rW X.K ca) Q (fun c H' => W' c σ H') ((noexc ((me e2 h4).bind fun v h => .ok (some v) h)).bind _) := o2
                rw [hme] at o2
                exact o2.elim
              | ok v h5 =>
                have o2 : Out X.K ca μ1 H1 (rW X.K ca) Q (fun c H' => W' c σ H') ((noexc ((me e2 h4).bind fun v h => .ok (some v) h)).bind _) := o2
                rw [hme] at o2
                refine ⟨μ4, e2, h4, er2.mono s4, hr4, ?_⟩
                rw [hme]
                intro μ5 H5 y5 s5 hr5 wy
                have hx5 : Y ∈ μ5.x := s5.inx Y hx4
                have hl5 : H5 Y = some (.lst accV) := by rw [s5.fix Y hx4]; exact hl4
                have o3 : Out X.K ca μ1 H1 (rW X.K ca) Q (fun c H' => W' c σ H') ((if accW.length < sizeL then compG it (stepC t (own.map (·.2)) mt me en) k (i + 1) h5 (accW ++ [v]) else .bad).bind fun r h => mkLst m r h) := o2
                by_cases hz : accW.length < sizeL
                · rw [if_pos hz] at o3
                  have wr5 : WRs X.K ca μ5 H5 (accW ++ [v]) (accV ++ [y5]) := (wr.mono ((s3.trans s4).trans s5)).app (.cons wy .nil)
                  have n5 : ∀ a u, a ∉ μ5.m ∧ a ∉ μ5.x → Rd H5 a u → a ≠ Y := fun a u z _ e => z.2 (e ▸ hx5)
                  refine ⟨accV, hl5, Nat.lt_of_lt_of_le (by rw [← wr.len]; exact hz) (by decide), μ5, h5, accW ++ [v], accV ++ [y5], ((stt.trans s4).trans s5).atNew hY nx, hx5, ?_, upd_same, ?_, o3⟩
                  · exact hr5.hide (D := Y) (fun a ne => upd_ne ne) (fun z => hr5.dis Y z hx5) (fun _ z => by rw [upd_same] at z; cases z) n5 rfl (fun a ne h => h) fun a ne z => z
                  · exact Paired.mapP wr5 fun _ _ z => WR.hide (D := Y) (fun a u ne q => by unfold Rd; rw [upd_ne ne]; exact q) n5 rfl (fun a ne h => h) z
                · rw [if_neg hz] at o3
                  exact o3.elim
end
end M
/-! MExpr: every expression of the mini language. -/
namespace M
open PySem PySem.Spec L2
section
variable {X : Cx} {ca : Nat → Addr} {W' : Nat → L2.St → Hp → Prop}
theorem vis_of {sc : Scope} {x : Str} (h : visB sc x = true) : Vis sc x := by
  unfold visB at h
  unfold Vis
  cases q : sc.names.lookup x with
  | none => rw [q] at h; cases h
  | some k => cases k <;> first | exact .inl rfl | exact .inr (.inl rfl) | exact .inr (.inr rfl) | (rw [q] at h; cases h)
theorem plain_of {x : Str} (h : plainB x = true) : (x == ("__debug__" : Str)) = false ∧ (x == ("__classdict__" : Str)) = false ∧ x ≠ ("__name__" : Str) := by
  have h2 := Bool.and_eq_true_iff.mp h
  have h3 := Bool.and_eq_true_iff.mp h2.2
  refine ⟨?_, ?_, of_decide_eq_true h3.2⟩
  · cases q : (x == ("__debug__" : Str)) with
    | false => rfl
    | true => rw [q] at h2; cases h2.1
  · cases q : (x == ("__classdict__" : Str)) with
    | false => rfl
    | true => rw [q] at h3; cases h3.1
/-- a test of a value -/
theorem pt_of {e : Expr} {m : En → Hh → Res W} (h : PE X e (tI X.K ca W' (rW X.K ca) m)) (he : ∀ whole, isTrue e X.env whole = (do let v ← whole; standAt e.pos; holding [v] (truthy v)) := by intro _; rfl) : PT X e (tI X.K ca W' rB fun e h => toB (m e h)) :=
  (pt_val h he).imp fun _ _ _ q => toB_seq q
theorem e_var {i : Nat} {x : Str} {pos : Pos} (hN : X.N[i]? = some x) (hv : Vis X.env.scope x) (hp : plainB x = true) : PE X (.Name x pos) (tI X.K ca W' (rW X.K ca) fun e h => (match e[i]? with
    | some (some w) => .ok w h
    | _ => .bad)) := by
  refine (pe_var hN hv (plain_of hp).1 (plain_of hp).2.1).imp fun σ H Q q => ?_
  obtain ⟨μ, en, hh, er, hr, o⟩ := q
  cases e : en[i]? with
  | none => simp only [e] at o; exact o.elim
  | some o1 =>
    cases o1 with
    | none => simp only [e] at o; exact o.elim
    | some w =>
      simp only [e] at o
      obtain ⟨v, h1, h2⟩ := er.at_ i w e
      exact ⟨v, h1, o.now hr h2⟩
theorem e_cst {d : D} {c : Const} {k : Nat} {pos : Pos} (h : cstB d c = true) : PE X (.Constant c k pos) (tI X.K ca W' (rW X.K ca) fun _ h => .ok (.dat d) h) := by
  cases d with
  | none => cases c with
    | none => exact pe_non.imp fun σ H Q ⟨μ, en, hh, er, hr, o⟩ => o.now hr (.dat .non)
    | _ => cases h
  | bool b => cases c with
    | bool b' =>
      have e : b = b' := of_decide_eq_true h
      subst e
      exact pe_bl.imp fun σ H Q ⟨μ, en, hh, er, hr, o⟩ => o.now hr .bl
    | _ => cases h
  | int b => cases c with
    | int b' =>
      have e : b = b' := of_decide_eq_true h
      subst e
      exact pe_int.imp fun σ H Q ⟨μ, en, hh, er, hr, o⟩ => o.now hr .int
    | _ => cases h
  | str b => cases c with
    | str b' =>
      have e : b = b' := of_decide_eq_true h
      subst e
      exact pe_str.imp fun σ H Q ⟨μ, en, hh, er, hr, o⟩ => o.now hr .str
    | _ => cases h
  | _ => cases h
theorem e_tup {l : List Expr} {k : Nat} {pos : Pos} {m : En → Hh → Res (List W)} (h : PA X l (tI X.K ca W' (rWs X.K ca) m)) : PE X (.Tuple l k pos) (tI X.K ca W' (rW X.K ca) fun e h => (m e h).bind fun l h => if l.length ≤ 1000 then mkTup l h else .bad) := by
  refine (pe_tup h).imp fun σ H Q q => ?_
  obtain ⟨μ, en, hh, er, hr, o⟩ := q
  refine seqI (rWs X.K ca) er hr o fun μ1 H1 h1 l xs s1 er1 hr1 z o1 => ?_
  by_cases hl : l.length ≤ 1000
  · rw [if_pos hl] at o1
    exact ⟨by rw [← z.len]; exact Nat.le_trans hl (by decide), fun p hp => out_mkTup hr1 z o1 hp⟩
  · rw [if_neg hl] at o1
    exact o1.elim
theorem e_lst {l : List Expr} {pos : Pos} {b : Bool} {m : En → Hh → Res (List W)} (h : PA X l (tI X.K ca W' (rWs X.K ca) m)) : PE X (.List l pos) (tI X.K ca W' (rW X.K ca) fun e h => (m e h).bind fun l h => if l.length ≤ 1000 then mkLst b l h else .bad) := by
  refine (pe_lst h).imp fun σ H Q q => ?_
  obtain ⟨μ, en, hh, er, hr, o⟩ := q
  refine seqI (rWs X.K ca) er hr o fun μ1 H1 h1 l xs s1 er1 hr1 z o1 => ?_
  by_cases hl : l.length ≤ 1000
  · rw [if_pos hl] at o1
    exact ⟨by rw [← z.len]; exact Nat.le_trans hl (by decide), fun p hp => out_mkLst hr1 z o1 hp⟩
  · rw [if_neg hl] at o1
    exact o1.elim
theorem e_neg {e : Expr} {pos : Pos} {m : En → Hh → Res W} (h : PE X e (tI X.K ca W' (rW X.K ca) m)) : PE X (.UnaryOp .USub e pos) (tI X.K ca W' (rW X.K ca) fun e h => (m e h).bind fun x h => (match x with
    | .dat (.int i) => .ok (.dat (.int (-i))) h
    | _ => .bad)) := by
  refine (pe_un un_neg h).imp fun σ H Q q => ?_
  obtain ⟨μ, en, hh, er, hr, o⟩ := q
  refine seqI (rW X.K ca) er hr o fun μ1 H1 h1 w v s1 er1 hr1 z o1 => ?_
  cases w with
  | dat d =>
    cases d with
    | int i => exact ⟨i, z.of_int, o1.now hr1 .int⟩
    | _ => exact o1.elim
  | _ => exact o1.elim
theorem truth_ok {w : W} {b : Bool} (h : truth w = some b) : w = .dat (.bool b) := by
  cases w with
  | dat d => cases d <;> first | (cases h; rfl) | cases h
  | _ => cases h
theorem e_not {e : Expr} {pos : Pos} {m : En → Hh → Res W} (h : PE X e (tI X.K ca W' (rW X.K ca) m)) : PE X (.UnaryOp .Not e pos) (tI X.K ca W' (rW X.K ca) fun e h => (m e h).bind fun x h => (match truth x with
    | some b => .ok (.dat (.bool (!b))) h
    | none => .bad)) := by
  refine (pe_not h).imp fun σ H Q q => ?_
  obtain ⟨μ, en, hh, er, hr, o⟩ := q
  refine seqI (rW X.K ca) er hr o fun μ1 H1 h1 w v s1 er1 hr1 z o1 => ?_
  cases e : truth w with
  | none => simp only [e] at o1; exact o1.elim
  | some b =>
    simp only [e] at o1
    obtain rfl := truth_ok e
    exact ⟨b, z.of_bool, o1.now hr1 .bl⟩
theorem t_not {e : Expr} {pos : Pos} {m : En → Hh → Res W} (h : PT X e (tI X.K ca W' rB fun e h => toB (m e h))) : PT X (.UnaryOp .Not e pos) (tI X.K ca W' rB fun e h => toB ((m e h).bind fun x h => (match truth x with
    | some b => .ok (.dat (.bool (!b))) h
    | none => .bad))) := by
  refine (pt_not h).imp fun σ H Q q => ?_
  obtain ⟨μ, en, hh, er, hr, o⟩ := q
  have o : Out X.K ca μ H rB Q (fun c H' => W' c σ H') ((toB (m en hh)).bind fun b h => .ok (!b) h) := by
    cases e : m en hh with
    | bad => simp only [e] at o; exact o.elim
    | exc c h' => simp only [e] at o; exact o
    | ok w h' =>
      simp only [e] at o
      cases e2 : truth w with
      | none => simp only [Res.bind, e2, toB] at o; exact o.elim
      | some b =>
        simp only [Res.bind, e2, toB] at o
        simp only [toB, Res.bind, e2, optR]
        exact o
  refine seqI rB er hr (f := fun b h => .ok (!b) h) (m := fun e h => toB (m e h)) o fun μ1 H1 h1 b b' s1 er1 hr1 z o1 => ?_
  have z : b = b' := z
  subst z
  exact o1.now hr1 rfl
theorem t_cmp (hu : X.A.units + 65 < cLine) {o : COp} {a b : Expr} {pos : Pos} {m n : En → Hh → Res W} (ha : PE X a (tI X.K ca W' (rW X.K ca) m)) (hb : PE X b (tI X.K ca W' (rW X.K ca) n)) (hm : behindInMarks (opC o) b = false) :
    PE X (.Compare a [opC o] [b] pos) (tI X.K ca W' (rW X.K ca) fun e h => (m e h).bind fun x h => (n e h).bind fun y h => rb h (cmpW o x y h)) ∧
    PT X (.Compare a [opC o] [b] pos) (tI X.K ca W' rB fun e h => toB ((m e h).bind fun x h => (n e h).bind fun y h => rb h (cmpW o x y h))) :=
  ⟨(pe_cmpR (ok_cmp hu) ha hb hm).imp fun σ H Q q => tI_op (f := fun a b h => rb h (cmpW o a b h)) (fun _ _ _ _ _ => rb_ne) q,
   (pt_cmpR (ok_cmp hu) ha hb hm).imp fun σ H Q q => tI_op (f := fun a b h => rb h (cmpW o a b h)) (fun _ _ _ _ _ => rb_ne) (toB_seq q)⟩
theorem chn_ok {K : PySem.W.Frag} {o p : COp} {m n l : En → Hh → Res W} {σ : L2.St} {H : Hp} {Q : VK} (q : tI K ca W' (rW K ca) (fun e h => (m e h).bind fun x h => (n e h).bind fun y h => (match cmpW o x y h with
    | some true => (l e h).bind fun z h => rb h (cmpW p y z h)
    | some false => .ok (.dat (.bool false)) h
    | none => .bad)) σ H Q) : tChain (rOp K ca fun a b h => rb h (cmpW o a b h)) (rOp K ca fun a b h => rb h (cmpW p a b h)) (tI K ca W' (rW K ca) m) (tI K ca W' (rW K ca) n) (tI K ca W' (rW K ca) l) σ H Q := by
  obtain ⟨μ, en, hh, er, hr, o1⟩ := q
  refine seqI (rW K ca) er hr o1 fun μ1 H1 h1 w v s1 er1 hr1 z o2 => ?_
  refine seqI (rW K ca) er1 hr1 o2 fun μ2 H2 h2 w2 v2 s2 er2 hr2 z2 o3 => ?_
  refine ⟨μ2, h2, w, w2, hr2, z.mono s2, z2, ?_⟩
  cases e : cmpW o w w2 h2 with
  | none => simp only [e] at o3; exact o3.elim
  | some k =>
    show Out K ca μ2 H2 (rW K ca) _ _ (rb h2 (cmpW o w w2 h2))
    rw [e]
    intro μ3 H3 b s3 hr3 zb
    refine ⟨k, zb.of_bool, ?_⟩
    cases k with
    | false =>
      rw [if_neg Bool.false_ne_true]
      simp only [e] at o3
      have := o3 μ3 H3 b s3 hr3 zb
      rw [zb.of_bool] at this
      exact this
    | true =>
      rw [if_pos rfl]
      simp only [e] at o3
      refine seqI (rW K ca) (er2.mono s3) hr3 (o3.shift s3) fun μ4 H4 h4 w4 v4 s4 er4 hr4 z4 o5 => ?_
      refine ⟨μ4, h4, w2, w4, hr4, (z2.mono s3).mono s4, z4, ?_⟩
      show Out K ca μ4 H4 (rW K ca) _ _ (rb h4 (cmpW p w2 w4 h4))
      cases q : rb h4 (cmpW p w2 w4 h4) with
      | ok a h' => rw [q] at o5; exact o5
      | exc c h' => exact absurd q rb_ne
      | bad => rw [q] at o5; exact o5
theorem e_ite {c a b : Expr} {pos : Pos} {k m n : En → Hh → Res W} (hc : PT X c (tI X.K ca W' rB fun e h => toB (k e h))) (ha : PE X a (tI X.K ca W' (rW X.K ca) m)) (hb : PE X b (tI X.K ca W' (rW X.K ca) n)) :
    PE X (.IfExp c a b pos) (tI X.K ca W' (rW X.K ca) fun e h => (toB (k e h)).bind fun q h => if q = true then m e h else n e h) := by
  refine (pe_ifExp hc ha hb).imp fun σ H Q q => ?_
  obtain ⟨μ, en, hh, er, hr, o⟩ := q
  refine seqI (m := fun e h => toB (k e h)) rB er hr o fun μ1 H1 h1 w v s1 er1 hr1 z o1 => ?_
  have z : w = v := z
  subst z
  cases w with
  | true => exact ⟨μ1, en, h1, er1, hr1, o1⟩
  | false => exact ⟨μ1, en, h1, er1, hr1, o1⟩
theorem t_ite {c a b : Expr} {pos : Pos} {k m n : En → Hh → Res W} (hc : PT X c (tI X.K ca W' rB fun e h => toB (k e h))) (ha : PT X a (tI X.K ca W' rB fun e h => toB (m e h))) (hb : PT X b (tI X.K ca W' rB fun e h => toB (n e h))) :
    PT X (.IfExp c a b pos) (tI X.K ca W' rB fun e h => toB ((toB (k e h)).bind fun q h => if q = true then m e h else n e h)) := by
  refine ⟨fun pins s σ H Q I q => ?_⟩
  obtain ⟨μ, en, hh, er, hr, o⟩ := q
  have o : Out X.K ca μ H rB Q (fun c H' => W' c σ H') ((toB (k en hh)).bind fun q h => if q = true then toB (m en h) else toB (n en h)) := by
    cases e : toB (k en hh) with
    | bad => simp only [e] at o; exact o.elim
    | exc c h' => simp only [e] at o; exact o
    | ok w h' =>
      simp only [e] at o
      cases w with
      | true => exact o
      | false => exact o
  have hw := seqI (m := fun e h => toB (k e h)) (Q2 := fun b H1 => if b = true then tI X.K ca W' rB (fun e h => toB (m e h)) σ H1 Q else tI X.K ca W' rB (fun e h => toB (n e h)) σ H1 Q) rB er hr o fun μ1 H1 h1 w v s1 er1 hr1 z o1 => by
    have z : w = v := z
    subst z
    cases w with
    | true => exact ⟨μ1, en, h1, er1, hr1, o1⟩
    | false => exact ⟨μ1, en, h1, er1, hr1, o1⟩
  show wpAny _ _ (do if ← isTrue c X.env (eval c X.env) then isTrue a X.env (eval a X.env) else isTrue b X.env (eval b X.env)) _ _ _
  refine wpAny_bind (thn (hc.run pins s σ H _ I hw) fun d s1 ⟨H1, I1, q1⟩ => ?_)
  cases d with
  | true => exact ha.run pins s1 σ H1 Q I1 q1
  | false => exact hb.run pins s1 σ H1 Q I1 q1
theorem e_slc {a : Expr} {lo hi : Option Expr} {p pos : Pos} {m : En → Hh → Res W} {l u : En → Hh → Res (Option Int)} (ha : PE X a (tI X.K ca W' (rW X.K ca) m)) (hl : PO X lo (tI X.K ca W' (fun _ _ a b => a = b) l)) (hu : PO X hi (tI X.K ca W' (fun _ _ a b => a = b) u)) :
    PE X (.Subscript a (.Slice lo hi none p) pos) (tI X.K ca W' (rW X.K ca) fun e h => (m e h).bind fun x h => (l e h).bind fun y h => (u e h).bind fun z h => slice x y z h) := by
  refine (pe_slice (ok_slice (ca := ca)) ha hl hu).imp fun σ H Q q => ?_
  obtain ⟨μ, en, hh, er, hr, o⟩ := q
  refine seqI (rW X.K ca) er hr o fun μ1 H1 h1 w v s1 er1 hr1 z o1 => ?_
  refine seqI (fun _ _ a b => a = b) er1 hr1 o1 fun μ2 H2 h2 w2 v2 s2 er2 hr2 z2 o2 => ?_
  refine seqI (fun _ _ a b => a = b) er2 hr2 o2 fun μ3 H3 h3 w3 v3 s3 er3 hr3 z3 o3 => ?_
  subst z2
  subst z3
  refine ⟨μ3, h3, w, hr3, (z.mono s2).mono s3, ?_⟩
  cases q : slice w w2 w3 h3 with
  | ok a h' => rw [q] at o3; exact o3
  | exc c h' => exact absurd q slice_ne
  | bad => rw [q] at o3; exact o3
theorem o_non : PO X none (tI X.K ca W' (fun _ _ a b => a = b) fun _ h => .ok none h) := ⟨fun pins s σ H Q I ⟨μ, en, hh, er, hr, o⟩ => po_none.run pins s σ H Q I (o.now hr rfl)⟩
theorem o_som {e : Expr} {m : En → Hh → Res W} (h : PE X e (tI X.K ca W' (rW X.K ca) m)) : PO X (some e) (tI X.K ca W' (fun _ _ a b => a = b) fun e h => (m e h).bind fun x h => (match x with
    | .dat (.int i) => .ok (some i) h
    | _ => .bad)) := by
  refine ⟨fun pins s σ H Q I q => (po_some h).run pins s σ H Q I ?_⟩
  obtain ⟨μ, en, hh, er, hr, o⟩ := q
  refine seqI (rW X.K ca) er hr o fun μ1 H1 h1 w v s1 er1 hr1 z o1 => ?_
  cases w with
  | dat d =>
    cases d with
    | int i => exact ⟨i, z.of_int, o1.now hr1 rfl⟩
    | _ => exact o1.elim
  | _ => exact o1.elim
/-- arguments -/
theorem a_nil : PA X [] (tI X.K ca W' (rWs X.K ca) fun _ h => .ok [] h) := pa_nil.imp fun σ H Q ⟨μ, en, hh, er, hr, o⟩ => o.now hr .nil
theorem a_cons {e : Expr} {l : List Expr} {m : En → Hh → Res W} {n : En → Hh → Res (List W)} (pe : plainE e = true) (he : PE X e (tI X.K ca W' (rW X.K ca) m)) (hl : PA X l (tI X.K ca W' (rWs X.K ca) n)) :
    PA X (e :: l) (tI X.K ca W' (rWs X.K ca) fun e h => (m e h).bind fun x h => (n e h).bind fun xs h => .ok (x :: xs) h) := by
  refine (pa_cons he hl (star_of pe)).imp fun σ H Q q => ?_
  obtain ⟨μ, en, hh, er, hr, o⟩ := q
  refine seqI (rW X.K ca) er hr o fun μ1 H1 h1 w v s1 er1 hr1 z o1 => ?_
  refine seqI (rWs X.K ca) er1 hr1 o1 fun μ2 H2 h2 w2 v2 s2 er2 hr2 z2 o2 => ?_
  exact o2.now hr2 (.cons (z.mono s2) z2)
/-- a call by values of a built-in -/
theorem tI_cb {f : List W → Hh → Res W} {n : En → Hh → Res (List W)} (hf : ∀ a h c h', f a h ≠ .exc c h') {σ : L2.St} {H : Hp} {Q : VK} (q : tI X.K ca W' (rW X.K ca) (fun e h => (n e h).bind fun ws h => f ws h) σ H Q) : tCB (rC X.K ca f) (tI X.K ca W' (rWs X.K ca) n) σ H Q := by
  obtain ⟨μ, en, hh, er, hr, o⟩ := q
  refine seqI (rWs X.K ca) er hr o fun μ1 H1 h1 w v s1 er1 hr1 z o1 => ?_
  refine ⟨μ1, h1, w, hr1, z, ?_⟩
  cases q : f w h1 with
  | ok a h' => rw [q] at o1; exact o1
  | exc c h' => exact absurd q (hf _ _ _ _)
  | bad => rw [q] at o1; exact o1
/-- and, or -/
def opB (con : Bool) : BoolOp := if con then .And else .Or
theorem evb_bool {con b : Bool} {e : En} {h : Hh} {m : Res Bool} {f : Hh → Res Bool} : True := trivial
theorem b_one {con : Bool} {e : Expr} {pos : Pos} {m : En → Hh → Res W} (he : PE X e (tI X.K ca W' (rW X.K ca) m)) (ht : PT X e (tI X.K ca W' rB fun e h => toB (m e h))) :
    PE X (.BoolOp (opB con) [e] pos) (tI X.K ca W' (rW X.K ca) fun e h => ofB ((toB (m e h)).bind fun b h => if b = con then .ok con h else .ok (!con) h)) ∧
    PW X (.BoolOp (opB con) [e] pos) (tI X.K ca W' rB fun e h => (toB (m e h)).bind fun b h => if b = con then .ok con h else .ok (!con) h) := by
  have same : ∀ (b : Bool) (h : Hh), (if b = con then Res.ok con h else .ok (!con) h) = .ok b h := fun b h => by
    by_cases q : b = con
    · rw [if_pos q, q]
    · rw [if_neg q]
      cases b <;> cases con <;> first | rfl | exact absurd rfl q
  have eta : ∀ r : Res Bool, r.bind (fun b h => if b = con then Res.ok con h else .ok (!con) h) = r := fun r => by
    cases r with
    | ok b h => exact same b h
    | exc c h => rfl
    | bad => rfl
  refine ⟨(pe_one he).imp fun σ H Q q => ?_, ?_⟩
  · obtain ⟨μ, en, hh, er, hr, o⟩ := q
    have o : Out X.K ca μ H (rW X.K ca) Q (fun c H' => W' c σ H') (ofB ((toB (m en hh)).bind fun b h => if b = con then .ok con h else .ok (!con) h)) := o
    rw [eta] at o
    refine ⟨μ, en, hh, er, hr, ?_⟩
    cases e : m en hh with
    | bad => rw [e] at o; exact o.elim
    | exc c h' => rw [e] at o; exact o
    | ok w h' =>
      rw [e] at o
      have o : Out X.K ca μ H (rW X.K ca) Q (fun c H' => W' c σ H') (ofB (optR h' (truth w))) := o
      cases e2 : truth w with
      | none => rw [e2] at o; exact o.elim
      | some b =>
        rw [e2] at o
        obtain rfl := truth_ok e2
        exact o
  · have z : PW X (.BoolOp (opB con) [e] pos) (tI X.K ca W' rB fun e h => toB (m e h)) := by
      cases con with
      | true => exact pw_and1 ht
      | false => exact pw_or1 ht
    refine z.imp fun σ H Q q => ?_
    obtain ⟨μ, en, hh, er, hr, o⟩ := q
    have o : Out X.K ca μ H rB Q (fun c H' => W' c σ H') ((toB (m en hh)).bind fun b h => if b = con then Res.ok con h else Res.ok (!con) h) := o
    rw [eta] at o
    exact ⟨μ, en, hh, er, hr, o⟩
theorem b_cons {con : Bool} {e e1 : Expr} {l : List Expr} {pos : Pos} {m : En → Hh → Res W} {n : En → Hh → Res Bool} (he : PE X e (tI X.K ca W' (rW X.K ca) m)) (ht : PT X e (tI X.K ca W' rB fun e h => toB (m e h)))
    (h1 : PE X (.BoolOp (opB con) (e1 :: l) pos) (tI X.K ca W' (rW X.K ca) fun e h => ofB (n e h))) (h2 : PW X (.BoolOp (opB con) (e1 :: l) pos) (tI X.K ca W' rB n)) :
    PE X (.BoolOp (opB con) (e :: e1 :: l) pos) (tI X.K ca W' (rW X.K ca) fun e h => ofB ((toB (m e h)).bind fun b h => if b = con then n e h else .ok (!con) h)) ∧
    PW X (.BoolOp (opB con) (e :: e1 :: l) pos) (tI X.K ca W' rB fun e h => (toB (m e h)).bind fun b h => if b = con then n e h else .ok (!con) h) := by
  have vals : ∀ (σ : L2.St) (H : Hp) (Q : VK), tI X.K ca W' (rW X.K ca) (fun e h => ofB ((toB (m e h)).bind fun b h => if b = con then n e h else .ok (!con) h)) σ H Q →
      tI X.K ca W' (rW X.K ca) m σ H fun x H1 => ∃ c, x = .bl c ∧ if c = con then tI X.K ca W' (rW X.K ca) (fun e h => ofB (n e h)) σ H1 Q else Q (.bl (!con)) H1 := fun σ H Q q => by
    obtain ⟨μ, en, hh, er, hr, o⟩ := q
    have o : Out X.K ca μ H (rW X.K ca) Q (fun c H' => W' c σ H') ((toB (m en hh)).bind fun b h => ofB (if b = con then n en h else .ok (!con) h)) := by
      cases e : toB (m en hh) with
      | bad => simp only [e] at o; exact o.elim
      | exc c h' => simp only [e] at o; exact o
      | ok w h' => simp only [e] at o; exact o
    refine toB_seq ⟨μ, en, hh, er, hr, (o.bind rB).mono (fun b H1 ⟨μ1, h1, a, s, r1, z, o1⟩ => ?_) fun _ _ z => z⟩
    have z : a = b := z
    subst z
    by_cases q : a = con
    · rw [if_pos q] at o1 ⊢
      exact ⟨μ1, en, h1, er.mono s, r1, o1⟩
    · rw [if_neg q] at o1 ⊢
      exact o1.now r1 .bl
  have tests : ∀ (σ : L2.St) (H : Hp) (Q : Bool → Hp → Prop), tI X.K ca W' rB (fun e h => (toB (m e h)).bind fun b h => if b = con then n e h else .ok (!con) h) σ H Q →
      tI X.K ca W' rB (fun e h => toB (m e h)) σ H fun c H1 => if c = con then tI X.K ca W' rB n σ H1 Q else Q (!con) H1 := fun σ H Q q => by
    obtain ⟨μ, en, hh, er, hr, o⟩ := q
    refine seqI (m := fun e h => toB (m e h)) rB er hr o fun μ1 H1 h1 a b s er1 r1 z o1 => ?_
    have z : a = b := z
    subst z
    by_cases q : a = con
    · rw [if_pos q] at o1 ⊢
      exact ⟨μ1, en, h1, er1, r1, o1⟩
    · rw [if_neg q] at o1 ⊢
      exact o1.now r1 rfl
  cases con with
  | true =>
    exact ⟨(pe_and he h1).imp fun σ H Q q => vals σ H Q q, (pw_and ht h2).imp fun σ H Q q => tests σ H Q q⟩
  | false =>
    refine ⟨(pe_or he h1).imp fun σ H Q q => ?_, (pw_or ht h2).imp fun σ H Q q => ?_⟩
    · refine tI_mono (vals σ H Q q) fun x H1 ⟨c, e, z⟩ => ⟨c, e, ?_⟩
      cases c with
      | true => exact z
      | false => exact z
    · refine tI_mono (tests σ H Q q) fun c H1 z => ?_
      cases c with
      | true => exact z
      | false => exact z
end
end M
/-! MZip: zip of two rows of data, each a list, a tuple or a text. -/
namespace M
open PySem PySem.Spec PyProof.Rows L2
/-- what is zipped -/
inductive ZS where
  | lst (a : Addr)
  | tup (a : Addr)
  | str (x : Str) (t : Tok)
def ZS.val : ZS → Value
  | .lst a => .ref a
  | .tup a => .ref a
  | .str x t => .str x t
def ZS.ty : ZS → String
  | .lst _ => "list_iterator"
  | .tup _ => "tuple_iterator"
  | .str x _ => strIterType x
def ZS.adr : ZS → Option Addr
  | .lst a => some a
  | .tup a => some a
  | .str _ _ => none
abbrev ZS.ob (z : ZS) : Obj := { cls := .type z.ty, data := .fields #[z.val, .int 0 0] }
def IsIt (h : Heap) (it : Addr) (z : ZS) (i : Nat) : Prop := ∃ o, h.get? it = some o ∧ o.cls = .type z.ty ∧ o.data = .fields #[z.val, .int i 0]
abbrev chV (x : Str) : List V := x.cps.toList.map fun c => V.str ⟨#[c]⟩
/-- of what kind it is -/
inductive ZK where
  | lst (a : Addr)
  | tup (a : Addr)
  | str (x : Str)
def ZK.v : ZK → V
  | .lst a => .ref a
  | .tup a => .ref a
  | .str x => .str x
def ZK.has (K : PySem.W.Frag) (z : ZK) (H : Hp) (xs : List V) : Prop := match z with
  | .lst a => SqL K H a xs
  | .tup a => SqT K H a xs
  | .str x => xs = chV x
def ZS.kind : ZS → ZK
  | .lst a => .lst a
  | .tup a => .tup a
  | .str x _ => .str x
abbrev ZS.has (K : PySem.W.Frag) (z : ZS) (H : Hp) (xs : List V) : Prop := z.kind.has K H xs
section
variable {X : Cx} {pins : List (Addr × Obj)} {s : Shared} {σ : L2.St} {H : Hp} {xs : List V}
theorem zs_draws (I : Inv X pins σ H s) (z : ZS) (h : z.has X.K H xs) {A : Around} (hh : A.handled = none) {it : Addr} (ne : z.adr ≠ some it) :
    ∃ fp P St, Draws X.prog X.w A it fp xs.length P St ∧ it ∈ fp ∧ (∀ b ∈ fp, b = it ∨ z.adr = some b) ∧ (∀ j, IsIt s.heap it z j → St j s.heap) ∧ (∀ j h, St j h → IsIt h it z j) ∧ (∀ j v, P j v → ∃ x, xs[j]? = some x ∧ RelV x v) := by
  cases z with
  | lst a =>
    obtain ⟨its, rv, p, _⟩ := I.list h
    have D := Draws.list (prog := X.prog) (w := X.w) hh it a (fun e => ne (congrArg some e)) its.toArray
    rw [show its.toArray.size = xs.length by rw [rv.length]; simp] at D
    exact ⟨_, _, _, D, by simp, fun b m => (by simp at m; exact m.imp id fun e => congrArg some e.symm), fun j q => ⟨q, p.isList⟩, fun j h q => q.1, fun j v q => vals_get rv (by simpa using q)⟩
  | tup a =>
    obtain ⟨its, rv, p, _⟩ := I.tuple h
    have D := Draws.tuple (prog := X.prog) (w := X.w) hh it a (fun e => ne (congrArg some e)) its.toArray
    rw [show its.toArray.size = xs.length by rw [rv.length]; simp] at D
    exact ⟨_, _, _, D, by simp, fun b m => (by simp at m; exact m.imp id fun e => congrArg some e.symm), fun j q => ⟨q, p⟩, fun j h q => q.1, fun j v q => vals_get rv (by simpa using q)⟩
  | str x t =>
    have h : xs = chV x := h
    subst h
    have D := Draws.text (prog := X.prog) (w := X.w) hh it x t
    rw [show x.cps.size = (chV x).length by simp [chV]] at D
    refine ⟨_, _, _, D, by simp, fun b m => .inl (by simpa using m), fun j q => q, fun j h q => q, fun j v ⟨c, u, e, q⟩ => ?_⟩
    subst q
    refine ⟨.str ⟨#[c]⟩, ?_, ⟨u, rfl⟩⟩
    rw [List.getElem?_map, show x.cps.toList[j]? = some c by simpa using e]
    rfl
theorem zs_begins (I : Inv X pins σ H s) (z : ZS) (h : z.has X.K H xs) : ∃ B, Begins z.val z.ob B ∧ B s.heap := by
  cases z with
  | lst a =>
    obtain ⟨its, rv, p, _⟩ := I.list h
    exact ⟨_, begins_list a its.toArray, p.isList⟩
  | tup a =>
    obtain ⟨its, rv, p, _⟩ := I.tuple h
    exact ⟨_, begins_tuple a its.toArray, p⟩
  | str x t => exact ⟨_, begins_text x t, trivial⟩
theorem zs_uniq (I : Inv X pins σ H s) (z : ZS) {ys : List V} (h : z.has X.K H xs) (g : z.has X.K H ys) : xs = ys := by
  cases z with
  | lst a => exact I.list_inj h g
  | tup a => exact I.tuple_inj h g
  | str x t =>
    have h : xs = chV x := h
    have g : ys = chV x := g
    rw [h, g]
theorem zs_lt (I : Inv X pins σ H s) (z : ZS) (h : z.has X.K H xs) {b : Addr} (e : z.adr = some b) : b < s.heap.objs.size := by
  cases z with
  | lst a =>
    cases e
    obtain ⟨its, rv, p, _⟩ := I.list h
    exact p.lt
  | tup a =>
    cases e
    obtain ⟨its, rv, p, _⟩ := I.tuple h
    obtain ⟨o, ho, _⟩ := p
    exact Heap.lt_size ho
  | str x t => cases e
end
/-- both, in new pairs -/
def Itg (K : PySem.W.Frag) (s1 s2 : ZK) (n1 n2 : Nat) : It :=
  ⟨fun i H => ∃ (xs ys : List V) (x y : V), s1.has K H xs ∧ s2.has K H ys ∧ (xs.length = n1 ∧ ys.length = n2) ∧ xs[i]? = some x ∧ ys[i]? = some y,
    fun i H v H' => ∃ T x y, v = .ref T ∧ H T = none ∧ H' = upd H T (.tup [x, y]) ∧ (∀ xs, s1.has K H xs → xs[i]? = some x) ∧ ∀ ys, s2.has K H ys → ys[i]? = some y,
    fun i H => ∃ xs ys : List V, s1.has K H xs ∧ s2.has K H ys ∧ (xs.length = n1 ∧ ys.length = n2) ∧ (n1 ≤ i ∨ n2 ≤ i)⟩
/-- the zip's own objects lie apart, and none is what is zipped -/
structure ZA (z TI TO i1 i2 : Addr) (s1 s2 : ZS) : Prop where
  nd : [z, TI, TO, i1, i2].Nodup
  a1 : ∀ b ∈ [z, TI, TO, i1, i2], s1.adr ≠ some b
  a2 : ∀ b ∈ [z, TI, TO, i1, i2], s2.adr ≠ some b
theorem ZA.sep {z TI TO i1 i2 : Addr} {s1 s2 : ZS} (D : ZA z TI TO i1 i2 s1 s2) {fp1 fp2 : List Addr} (m1 : i1 ∈ fp1) (m2 : i2 ∈ fp2) (f1 : ∀ b ∈ fp1, b = i1 ∨ s1.adr = some b) (f2 : ∀ b ∈ fp2, b = i2 ∨ s2.adr = some b) : ZipSep2 z TI TO i1 i2 fp1 fp2 := by
  have nd := D.nd
  simp only [List.nodup_cons, List.mem_cons, List.not_mem_nil, or_false, not_or, List.nodup_nil, and_true, not_false_eq_true] at nd
  obtain ⟨⟨a, b, c, d⟩, ⟨e, f, g⟩, ⟨h, i⟩, j⟩ := nd
  have x1 : ∀ b ∈ [z, TI, TO, i1, i2], b ≠ i1 → b ∉ fp1 := fun b m ne q => (f1 b q).elim ne (D.a1 b m)
  have x2 : ∀ b ∈ [z, TI, TO, i1, i2], b ≠ i2 → b ∉ fp2 := fun b m ne q => (f2 b q).elim ne (D.a2 b m)
  exact ⟨fun q => a q.symm, fun q => b q.symm, e, f, m1, x1 z (by simp) c, x1 TO (by simp) h, g, m2, x2 z (by simp) d, x2 TO (by simp) i, x2 i1 (by simp) j, x1 i2 (by simp) fun q => j q.symm⟩
theorem isIt_at {h h' : Heap} {it : Addr} {z : ZS} {i : Nat} (x : IsIt h it z i) (k : ∀ o, h.get? it = some o → h'.get? it = some o) : IsIt h' it z i := by
  obtain ⟨o, e, r⟩ := x
  exact ⟨o, k o e, r⟩
theorem turn_zipG {P : Program} {w : World} {K : PySem.W.Frag} {elts : List Expr} {kk : Nat} {tpos : Pos} {z TI TO i1 i2 : Addr} {s1 s2 : ZS} {n1 n2 : Nat} (D : ZA z TI TO i1 i2 s1 s2) :
    Turn P w K (.Tuple elts kk tpos) (Itg K s1.kind s2.kind n1 n2) [z, TI, TO, i1, i2] z (fun i h => (IsZip h z TI TO .none ∧ IsTupOf2 h TI (.ref i1) (.ref i2) ∧ (∃ x y, IsTupOf2 h TO x y) ∧ IsIt h i1 s1 i ∧ IsIt h i2 s2 i) ∧ i ≤ n1 ∧ i ≤ n2) where
  mem := by simp
  obj := fun i h st c hc => by
    obtain ⟨⟨hz, hTI, ⟨x, y, hTO⟩, ⟨o1, e1, _, d1⟩, ⟨o2, e2, _, d2⟩⟩, _⟩ := st
    have e' : c = z ∨ c = TI ∨ c = TO ∨ c = i1 ∨ c = i2 := by simpa using hc
    rcases e' with q | q | q | q | q
    · rw [q]; exact ⟨_, hz, fun v q => nomatch q⟩
    · rw [q]; exact ⟨_, hTI, fun v q => nomatch q⟩
    · rw [q]; exact ⟨_, hTO, fun v q => nomatch q⟩
    · rw [q]; exact ⟨o1, e1, fun v q => by rw [d1] at q; cases q⟩
    · rw [q]; exact ⟨o2, e2, fun v q => by rw [d2] at q; cases q⟩
  keep := fun i h h' st k => by
    obtain ⟨⟨hz, hTI, ⟨x, y, hTO⟩, h1, h2⟩, r⟩ := st
    exact ⟨⟨k z (by simp) _ hz, k TI (by simp) _ hTI, ⟨x, y, k TO (by simp) _ hTO⟩, isIt_at h1 fun o q => k i1 (by simp) o q, isIt_at h2 fun o q => k i2 (by simp) o q⟩, r⟩
  item := by
    intro X hP hw hK hc i pins s σ H E I hf st hg
    subst hP hw hK
    obtain ⟨⟨hz, hTI, ⟨x0, y0, hTO⟩, h1, h2⟩, l1, l2⟩ := st
    obtain ⟨xs, ys, x, y, q1, q2, ⟨rfl, rfl⟩, hx, hy⟩ := hg
    have hh : X.A.in1.handled = none := by have := I.ok.hd hc; simp [this]
    obtain ⟨fp1, P1, St1, D1, m1, f1, b1, c1, d1⟩ := zs_draws I s1 q1 hh (it := i1) (D.a1 i1 (by simp))
    obtain ⟨fp2, P2, St2, D2, m2, f2, b2, c2, d2⟩ := zs_draws I s2 q2 hh (it := i2) (D.a2 i2 (by simp))
    have S := D.sep m1 m2 f1 f2
    have hzl : z < s.heap.objs.size := Heap.lt_size hz
    refine wpAny_pyNext_zipD2_item S D1 D2 hz hTI hTO (b1 i h1) (b2 i h2) (List.getElem?_eq_some_iff.mp hx).1 (List.getElem?_eq_some_iff.mp hy).1 fun u1 u2 h' tk p1 p2 z' TO' t1 t2 hT hsz hk => ?_
    obtain ⟨x', ex, rx⟩ := d1 i u1 p1
    obtain ⟨y', ey, ry⟩ := d2 i u2 p2
    rw [hx] at ex
    rw [hy] at ey
    cases ex; cases ey
    refine ⟨_, rfl, wpAny_letOwnedTupleGo_zip (s := { s with heap := h', toks := tk }) z' fun h'' z'' sb => ?_⟩
    have hT2 : h''.get? s.heap.objs.size = some { cls := .type "tuple", data := .seq #[u1, u2] } := (sb.2 _ (Nat.ne_of_gt hzl)).trans hT
    have new : ObjOk X.prog X.w (upd H s.heap.objs.size (.tup [x, y])) h'' s.heap.objs.size (.tup [x, y]) :=
      ⟨by show 2 ≤ sizeLine; decide, [u1, u2], .cons rx (.cons ry .nil), ⟨_, hT2, rfl, _, rfl⟩⟩
    have I1 : Inv X pins σ (upd H s.heap.objs.size (.tup [x, y])) { s with heap := h'', toks := tk } :=
      I.turnedNew (t' := tk) (ch := [z, TI, TO, i1, i2]) (fun c o hb q => (sb.2 c (fun q' => hb (by simp [q']))).trans (hk c o (fun q' => hb (by simp [q'])) (fun q' => hb (by simp [q'])) (fun q' => hb (by simp [q'])) (fun q' => hb (by simp [q'])) q)) hf (Nat.le_refl _) new
    refine ⟨.ref s.heap.objs.size, _, I1, rfl, ⟨_, x, y, rfl, I.hok.fresh (Nat.le_refl _), rfl, fun l hl => by rw [zs_uniq I s1 hl q1]; exact hx, fun l hl => by rw [zs_uniq I s2 hl q2]; exact hy⟩, ⟨⟨z'', ?_, ⟨u1, u2, ?_⟩, ?_, ?_⟩, ?_, ?_⟩, fun c hcm => ?_⟩
    · exact (sb.2 _ S.TIz).trans (hk _ _ S.TIz S.TITO S.TIi1 S.TIi2 hTI)
    · exact (sb.2 _ S.TOz).trans TO'
    · exact isIt_at (c1 _ _ t1) fun o q => (sb.2 _ fun e => S.zi1 e.symm).trans q
    · exact isIt_at (c2 _ _ t2) fun o q => (sb.2 _ fun e => S.zi2 e.symm).trans q
    · exact (List.getElem?_eq_some_iff.mp hx).1
    · exact (List.getElem?_eq_some_iff.mp hy).1
    · have hlt : c < s.heap.objs.size := by
        have e' : c = z ∨ c = TI ∨ c = TO ∨ c = i1 ∨ c = i2 := by simpa using hcm
        rcases e' with q | q | q | q | q
        · rw [q]; exact hzl
        · rw [q]; exact Heap.lt_size hTI
        · rw [q]; exact Heap.lt_size hTO
        · rw [q]; obtain ⟨_, e1, _⟩ := h1; exact Heap.lt_size e1
        · rw [q]; obtain ⟨_, e2, _⟩ := h2; exact Heap.lt_size e2
      rw [upd_ne (Nat.ne_of_lt hlt)]
      exact (hf c hcm).1
  done := by
    intro X hP hw hK hc i pins s σ H E I hf st hg
    subst hP hw hK
    obtain ⟨⟨hz, hTI, ⟨x0, y0, hTO⟩, h1, h2⟩, l1, l2⟩ := st
    obtain ⟨xs, ys, q1, q2, ⟨rfl, rfl⟩, hend⟩ := hg
    have hh : X.A.in1.handled = none := by have := I.ok.hd hc; simp [this]
    obtain ⟨fp1, P1, St1, D1, m1, f1, b1, c1, d1⟩ := zs_draws I s1 q1 hh (it := i1) (D.a1 i1 (by simp))
    obtain ⟨fp2, P2, St2, D2, m2, f2, b2, c2, d2⟩ := zs_draws I s2 q2 hh (it := i2) (D.a2 i2 (by simp))
    exact wpAny_pyNext_zipD2_end (D.sep m1 m2 f1 f2) D1 D2 hz hTI hTO (b1 i h1) (b2 i h2) l1 l2 (by omega) fun h' tk hk => ⟨rfl, I.turnedL (t' := tk) (ch := [z, TI, TO, i1, i2]) (fun c o hb q =>
      hk c o (fun q' => hb (by simp [q'])) (fun q' => hb (by simp [q'])) (fun q' => hb (by simp [q'])) (fun q' => hb (by simp [q'])) q) hf⟩
  self := fun A i s Q E st h => wpAny_pyIter_zip st.1.1 h
theorem zk_src {k : ZK} {u : Value} (r : RelV k.v u) : ∃ z : ZS, z.val = u ∧ z.kind = k := by
  cases k with
  | lst a => cases (show u = Value.ref a from r); exact ⟨.lst a, rfl, rfl⟩
  | tup a => cases (show u = Value.ref a from r); exact ⟨.tup a, rfl, rfl⟩
  | str x => obtain ⟨t, rfl⟩ := r; exact ⟨.str x t, rfl, rfl⟩
def iZipG (K : PySem.W.Frag) (ta : TA) : TI := fun σ H R => ta σ H fun vs H1 => ∃ (k1 k2 : ZK) (xs ys : List V), vs = [k1.v, k2.v] ∧ k1.has K H1 xs ∧ k2.has K H1 ys ∧ R (Itg K k1 k2 xs.length ys.length) H1
theorem pi_zipG {X : Cx} {e e2 : Expr} {ta : TA} {p pos tpos : Pos} {elts : List Expr} {kk : Nat} (hg : Gl X "zip") (hm : X.mg "zip" = none) (ha : PA X [e, e2] ta)
    (hs : starEach [e, e2] X.env = (false, eval e X.env) :: starEach [e2] X.env) (hpl : (backTo pos (starEach [e2] X.env)).any (·.1) = false) :
    PI X (.Tuple elts kk tpos) (.Call (.Name "zip" p) [e, e2] [] pos) (iZipG X.K ta) := by
  refine ⟨fun pins s σ H R I h => ?_⟩
  refine Call_ (ld_blt I hg hm PyProof.Rows.boot_zip (PyProof.Rows.callWith_type1 (thn (ha.run pos pins s σ H _ I h) fun us s1 ⟨vs, H1, I1, r1, q1⟩ => ?_) hs hpl))
  obtain ⟨v1, v2, xs, ys, rfl, k1, k2, q⟩ := q1
  cases r1 with
  | @cons _ u1 _ _ r1 rr =>
    cases rr with
    | @cons _ u2 _ _ r2 rr =>
      cases rr
      obtain ⟨z1, e1, f1⟩ := zk_src r1
      obtain ⟨z2, e2, f2⟩ := zk_src r2
      subst e1; subst e2; subst f1; subst f2
      obtain ⟨B1, b1, c1⟩ := zs_begins I1 z1 k1
      obtain ⟨B2, b2, c2⟩ := zs_begins I1 z2 k2
      refine zip_begins2 b1 b2 c1 c2 fun h' hz hTI hTO h1 h2 hsz hk => wpAny_pyIter_zip hz ?_
      have I2 : Inv X pins σ H1 { s1 with heap := h' } := I1.kept (t' := s1.toks) hk
      have ge : ∀ c, c ∈ [s1.heap.objs.size + 4, s1.heap.objs.size + 2, s1.heap.objs.size + 3, s1.heap.objs.size, s1.heap.objs.size + 1] → s1.heap.objs.size ≤ c := fun c m => by
        have e' : c = s1.heap.objs.size + 4 ∨ c = s1.heap.objs.size + 2 ∨ c = s1.heap.objs.size + 3 ∨ c = s1.heap.objs.size ∨ c = s1.heap.objs.size + 1 := by simpa using m
        omega
      have D : ZA (s1.heap.objs.size + 4) (s1.heap.objs.size + 2) (s1.heap.objs.size + 3) s1.heap.objs.size (s1.heap.objs.size + 1) z1 z2 := by
        refine ⟨by simp, fun b m e => ?_, fun b m e => ?_⟩
        · exact absurd (zs_lt I1 z1 k1 e) (Nat.not_lt_of_le (ge b m))
        · exact absurd (zs_lt I1 z2 k2 e) (Nat.not_lt_of_le (ge b m))
      exact ⟨s1.heap.objs.size + 4, [s1.heap.objs.size + 4, s1.heap.objs.size + 2, s1.heap.objs.size + 3, s1.heap.objs.size, s1.heap.objs.size + 1], _, _, H1, rfl, I2, turn_zipG D, ⟨⟨hz, hTI, ⟨_, _, hTO⟩, ⟨_, h1, rfl, rfl⟩, ⟨_, h2, rfl, rfl⟩⟩, Nat.zero_le _, Nat.zero_le _⟩, fun c m => I1.fpOk (ge c m) (I1.hok.fresh (ge c m)), q⟩
/-! ### as the mini language zips -/
section
variable {K : PySem.W.Frag} {ca : Nat → Addr} {μ μ' : Mu} {H H' : Hp} {h : Hh}
/-- a row of data that stays -/
def ZR (K : PySem.W.Frag) (μ : Mu) (H : Hp) (k : ZK) (xs : List V) (ds : List D) : Prop := ∀ μ' H', Stp μ H μ' H' → k.has K H' xs ∧ VRs K μ' H' ds xs
theorem chr_vrs {x : Str} {μ : Mu} {H : Hp} : VRs K μ H (x.cps.toList.map fun c => PyData.str ⟨#[c]⟩) (chV x) := by
  unfold chV
  generalize x.cps.toList = l
  induction l with
  | nil => exact .nil
  | cons c l ih => exact .cons (.str _) ih
theorem zsrc_ok {w : W} {v : V} {ds : List D} (r : WR K ca μ H w v) (e : zsrc w = some ds) : ∃ k xs, v = ZK.v k ∧ ZR K μ H k xs ds := by
  cases w with
  | dat d =>
    cases d with
    | list l =>
      cases e
      obtain ⟨a, xs, rfl, z1, z2⟩ := r.of_list
      exact ⟨.lst a, xs, rfl, fun μ' H' s => ⟨(z1.mono s).sq, z2.mono s⟩⟩
    | tuple l =>
      cases e
      obtain ⟨a, xs, rfl, z1, z2⟩ := r.of_tup
      exact ⟨.tup a, xs, rfl, fun μ' H' s => ⟨(z1.mono s).sq, z2.mono s⟩⟩
    | str x =>
      cases e
      refine ⟨.str x, chV x, r.of_str, fun μ' H' s => ⟨rfl, chr_vrs⟩⟩
    | _ => cases e
  | _ => cases e
theorem zip_get {ds es : List D} {i : Nat} {w : W} (e : (zipW ds es)[i]? = some w) : ∃ d f, ds[i]? = some d ∧ es[i]? = some f ∧ w = .dat (.tuple [d, f]) := by
  unfold zipW at e
  rw [List.getElem?_map] at e
  obtain ⟨⟨d, f⟩, e1, rfl⟩ := Option.map_eq_some_iff.mp e
  obtain ⟨a, b⟩ := List.getElem?_zip_eq_some.mp e1
  exact ⟨d, f, a, b, rfl⟩
theorem walk_zip {k1 k2 : ZK} {xs ys : List V} {ds es : List D} (z1 : ZR K μ H k1 xs ds) (z2 : ZR K μ H k2 ys es) : Walk K ca (Itg K k1 k2 xs.length ys.length) (.ws (zipW ds es)) μ H := by
  have l1 := (z1 μ H .refl).2.len
  have l2 := (z2 μ H .refl).2.len
  refine ⟨fun i m g hh w s hr e => ?_, fun i m g hh w x g' s hr e y => ?_, fun i m g hh s hr e => ?_⟩
  · obtain ⟨d, f, e1, e2, _⟩ := zip_get e
    have h1 := (List.getElem?_eq_some_iff.mp e1).1
    have h2 := (List.getElem?_eq_some_iff.mp e2).1
    exact ⟨xs, ys, xs[i]'(by omega), ys[i]'(by omega), (z1 _ _ s).1, (z2 _ _ s).1, ⟨rfl, rfl⟩, List.getElem?_eq_getElem _, List.getElem?_eq_getElem _⟩
  · obtain ⟨T, v1, v2, rfl, hT, rfl, y1, y2⟩ := y
    obtain ⟨d, f, e1, e2, rfl⟩ := zip_get e
    obtain ⟨d', a1, r1⟩ := (z1 _ _ s).2.get (y1 xs (z1 _ _ s).1)
    obtain ⟨f', a2, r2⟩ := (z2 _ _ s).2.get (y2 ys (z2 _ _ s).1)
    rw [e1] at a1
    rw [e2] at a2
    cases a1; cases a2
    have st := hr.stp (u := .tup [v1, v2]) hT
    refine ⟨st, hr.new hT, .dat (.tup (.inl ⟨⟨fun q => hr.live T q hT, fun q => hr.livx T q hT⟩, .inl upd_same⟩) (.cons (r1.mono st) (.cons (r2.mono st) .nil)))⟩
  · have e1 : decide ((zipW ds es).length ≤ i) = true := e
    have e2 := of_decide_eq_true e1
    unfold zipW at e2
    rw [List.length_map, List.length_zip] at e2
    exact ⟨xs, ys, (z1 _ _ s).1, (z2 _ _ s).1, ⟨rfl, rfl⟩, by omega⟩
variable {X : Cx} {W' : Nat → L2.St → Hp → Prop}
theorem pi_zipM {a b : Expr} {p pos tpos : Pos} {elts : List Expr} {kk : Nat} {m n : En → Hh → Res W} (hg : Gl X "zip") (hm : X.mg "zip" = none) (pa : plainE a = true) (pb : plainE b = true) (ha : PE X a (tI X.K ca W' (rW X.K ca) m)) (hb : PE X b (tI X.K ca W' (rW X.K ca) n)) :
    PI X (.Tuple elts kk tpos) (.Call (.Name "zip" p) [a, b] [] pos) (tI X.K ca W' (rIt X.K ca) fun e h => (m e h).bind fun x h => (n e h).bind fun y h => optR h (zipI x y)) := by
  refine (pi_zipG hg hm (pa_cons ha (pa_cons hb pa_nil (star_of pb)) (star_of pa)) (by rw [star_of pa, star_of pb]) (by rw [star_of pb]; rfl)).imp fun σ H R q => ?_
  obtain ⟨μ, en, hh, er, hr, o⟩ := q
  refine seqI (rW X.K ca) er hr o fun μ1 H1 h1 w v s1 er1 hr1 z o1 => ?_
  refine seqI (rW X.K ca) er1 hr1 o1 fun μ2 H2 h2 w2 v2 s2 er2 hr2 z2 o2 => ?_
  cases e1 : zsrc w with
  | none => simp only [zipI, e1] at o2; exact o2.elim
  | some ds =>
    cases e2 : zsrc w2 with
    | none => simp only [zipI, e1, e2] at o2; exact o2.elim
    | some es =>
      simp only [zipI, e1, e2] at o2
      obtain ⟨k1, xs, rfl, g1⟩ := zsrc_ok (z.mono s2) e1
      obtain ⟨k2, ys, rfl, g2⟩ := zsrc_ok z2 e2
      exact ⟨k1, k2, xs, ys, rfl, (g1 _ _ .refl).1, (g2 _ _ .refl).1, Out.now (a := Itm.ws (zipW ds es)) o2 hr2 (walk_zip g1 g2)⟩
end
end M
/-! MCls: objects of the text's own classes: fields, methods, new ones. -/
namespace M
open PySem PySem.Spec PyProof.Rows L2
theorem GOk.mono {pg : Program} {wd : World} {K : PySem.W.Frag} {mg : Str → Option Value} {bs : Heap} {cx : CXT} {j k : Nat} {fa : Addr} {fd : FuncData} {ps : List Str} {sp : Sp} (F : GOk pg wd K mg bs cx j fa fd ps sp) (h : j ≤ k) : GOk pg wd K mg bs cx k fa fd ps sp :=
  ⟨F.len, fun ar ou st H ag us xs Q E g r => F.run ar ou st H ag us xs Q E g (r.mono h)⟩
theorem make_guards {A : Around} {C : Addr} {us : List Value} {kw : List (Str × Value)} : (A.under (.builtin "type.__call__" ⟨.ref C :: us, kw⟩)).guards = A.guards := by
  first | rfl | simp [Around.under, Code.weight, Code.isCreation, Code.isGuard, Code.isCaller, Code.frames, Code.isFrame, guardIds]
section
variable {X : Cx} {cx : CXT} {n : Nat} {fa C : Addr} {fd : FuncData} {ps : List Str} {sp : Sp} {E : L2.St → XK} {x m : Str} {p pos apos : Pos} {e o : Expr} {es : List Expr} {ta : TA} {to : TE}
/-- o.m(..) of an object of the class at C -/
def tMethG (C : Addr) (m : Str) (sp : Sp) (E : L2.St → XK) (to : TE) (ta : TA) : TE := fun σ H Q => to σ H fun x H1 => ∃ a dx fs, x = .ref a ∧ H1 a = some (.ins C dx fs) ∧ fs.lookup m = none ∧
  ta σ H1 fun vs H2 => sp (x :: vs) H2 Q (E σ)
theorem run_fnG {pins : List (Addr × Obj)} {σ : L2.St} {H : Hp} {s : Shared} {Q : VK} {us : List Value} {vs : List V} (F : GOk X.prog X.w X.K X.mg X.base cx n fa fd ps sp) (gd : X.A.guards = some []) (ro : Room n X.A) (hb : Binds X.K fd ps []) (out : PassesAt cx X σ (E σ))
    (I : Inv X pins σ H s) (r : Vals vs us) (h : sp vs H Q (E σ)) : wpAny (model X.prog X.w) X.A (call (.ref fa) us) (EP X pins σ Q) X.xe s := by
  have ll : us.length = ps.length := by rw [← r.length]; exact F.len _ _ _ _ h
  have bi := hb s us I.kIn (by rw [List.append_nil]; exact ll)
  rw [List.append_nil] at bi
  refine wpAny_call (codeAny_mono (F.run X.A X.stack s H ⟨us, []⟩ us vs Q (E σ) gd ro I.env0 bi r h) fun r2 s2 hq => ?_)
  match r2, hq with
  | .error e, hq => exact out pins H s e s2 I hq
  | .ok (.ret u), hq => exact I.after hq
theorem call_meth {prog : Program} {w : World} {A : Around} {env : Env} {o : Expr} {name : Str} {args : List Expr} {s : Shared} {Q : Value → Shared → Prop} {Er : Value → Shared → Prop}
    (hbase : attributeBase o name env (eval o env) = eval o env)
    (hfew : ((backTo pos (starEach args env)).all (fun x => !x.1) && (backToKw pos (keywordEach [] env)).all (fun x => x.1.isSome)
      && decide (args.length + ([] : List Keyword).length + (if ([] : List Keyword).isEmpty then 0 else 1) < 30)) = true)
    (hline : (apos.endLine == pos.line) = true)
    (h : wpAny (model prog w) A (eval o env) (fun ov s₁ => ∀ pl : Sem Bool, wpAny (model prog w) A (getMethod ov name pl) (fun fx s₂ => wpAny (model prog w) A (callWith pos fx.1 fx.2 (backTo pos (starEach args env)) (backToKw pos (keywordEach [] env))) Q Er s₂) Er s₁) Er s) :
    wpAny (model prog w) A (eval (.Call (.Attribute o name apos) args [] pos) env) Q Er s := by
  rw [arm_eval_Call, hbase]
  refine wpAny_bind (wpAny_mono h (fun ov s₁ h₁ => ?_) fun _ _ e => e)
  refine wpAny_bind (wpAny_standAt ?_)
  have hform : methodCallForm (args.length + ([] : List Keyword).length) (backTo pos (starEach args env)) (backToKw pos (keywordEach [] env)) = true := hfew
  have hpos : methodCallPos true o env apos pos = pure pos := by unfold methodCallPos; simp [hline]
  unfold methodCall
  rw [hform]
  refine wpAny_bind (wpAny_holding (wpAny_mono (h₁ _) (fun fx s₂ h₂ => ?_) fun _ _ e => e))
  exact wpAny_bind (wpAny_of_eq hpos h₂)
theorem pe_methG (F : GOk X.prog X.w X.K X.mg X.base cx n fa fd ps sp) (gd : X.A.guards = some []) (ro : Room n X.A) (c : Cls X.K C) (hm : Meth X.K C m fa) (hb : Binds X.K fd ps []) (out : ∀ σ, PassesAt cx X σ (E σ)) (ho : PE X o to) (ha : PA X (e :: es) ta)
    (hbase : attributeBase o m X.env (eval o X.env) = eval o X.env)
    (hfew : ((backTo pos (starEach (e :: es) X.env)).all (fun x => !x.1) && (backToKw pos (keywordEach [] X.env)).all (fun x => x.1.isSome)
      && decide ((e :: es).length + ([] : List Keyword).length + (if ([] : List Keyword).isEmpty then 0 else 1) < 30)) = true)
    (hline : (apos.endLine == pos.line) = true) (se : starEach (e :: es) X.env = (false, eval e X.env) :: starEach es X.env) (sn : (backTo pos (starEach es X.env)).any (·.1) = false) :
    PE X (.Call (.Attribute o m apos) (e :: es) [] pos) (tMethG C m sp E to ta) := ⟨fun pins s σ H Q I h => by
  refine call_meth hbase hfew hline (thn (ho.run pins s σ H _ I h) fun u s1 ⟨x, H1, I1, rx, a, dx, fs, ex, ea, l, q⟩ pl => ?_)
  subst ex
  obtain rfl : u = Value.ref a := rx
  refine getmeth_ok I1 ea c hm l ?_
  refine PySem.W.callWith_K (first := [.ref a]) (h₀ := X.base) I.ok.mod.kin hm.kp (thn (ha.run pos pins s1 σ H1 _ I1 q) fun us s2 ⟨vs, H2, I2, r, q2⟩ => ⟨I2.kIn, ?_⟩) se sn
  exact run_fnG (us := .ref a :: us) (vs := .ref a :: vs) F gd ro hb (out σ) I2 (.cons rfl r) q2⟩
theorem pe_methG0 (F : GOk X.prog X.w X.K X.mg X.base cx n fa fd ps sp) (gd : X.A.guards = some []) (ro : Room n X.A) (c : Cls X.K C) (hm : Meth X.K C m fa) (hb : Binds X.K fd ps []) (out : ∀ σ, PassesAt cx X σ (E σ)) (ho : PE X o to)
    (hbase : attributeBase o m X.env (eval o X.env) = eval o X.env) (hline : (apos.endLine == pos.line) = true) :
    PE X (.Call (.Attribute o m apos) [] [] pos) (tMethG C m sp E to tNil) := ⟨fun pins s σ H Q I h => by
  refine call_meth hbase rfl hline (thn (ho.run pins s σ H _ I h) fun u s1 ⟨x, H1, I1, rx, a, dx, fs, ex, ea, l, q⟩ pl => ?_)
  subst ex
  obtain rfl : u = Value.ref a := rx
  refine getmeth_ok I1 ea c hm l ?_
  exact PySem.W.callWith_K0 (first := [.ref a]) I1.kIn hm.kp (run_fnG (us := [.ref a]) (vs := [.ref a]) F gd ro hb (out σ) I1 (.cons rfl .nil) q)⟩
/-- C(..) -/
def tMakeG (C : Addr) (sp : Sp) (E : L2.St → XK) (ta : TA) : TE := fun σ H Q => ta σ H fun vs H1 => ∀ x dx, H1 x = none → H1 dx = none → dx ≠ x →
  sp (.ref x :: vs) (upd (upd H1 dx (.own x)) x (.ins C dx [])) (fun v H2 => v = .non ∧ Q (.ref x) H2) (E σ)
theorem run_makeG {pins : List (Addr × Obj)} {σ : L2.St} {H : Hp} {s : Shared} {Q : VK} {us : List Value} {vs : List V} (M : Mk X.K C fa) (F : GOk X.prog X.w X.K X.mg X.base cx n fa fd ps sp) (gd : X.A.guards = some []) (hr : Room (n + 1) X.A) (hb : Binds X.K fd ps [])
    (out : PassesAt cx X σ (E σ)) (I : Inv X pins σ H s) (r : Vals vs us)
    (h : ∀ x dx, H x = none → H dx = none → dx ≠ x → sp (.ref x :: vs) (upd (upd H dx (.own x)) x (.ins C dx [])) (fun v H2 => v = .non ∧ Q (.ref x) H2) (E σ)) :
    wpAny (model X.prog X.w) X.A (call (.ref C) us) (EP X pins σ Q) X.xe s := by
  have hq := h (s.heap.objs.size + 1) s.heap.objs.size (I.hok.fresh (Nat.le_succ _)) (I.hok.fresh (Nat.le_refl _)) (Nat.ne_of_lt (Nat.lt_succ_self _))
  have I2 := Inv.made (C := C) I
  have r2 : Vals (V.ref (s.heap.objs.size + 1) :: vs) (Value.ref (s.heap.objs.size + 1) :: us) := .cons rfl r
  have hl : (Value.ref (s.heap.objs.size + 1) :: us).length = ps.length := by
    have e := r2.length
    rw [F.len _ _ _ _ hq] at e
    exact e.symm
  have bi := hb _ (Value.ref (s.heap.objs.size + 1) :: us) I2.kIn (by rw [List.append_nil]; exact hl)
  rw [List.append_nil] at bi
  refine wpAny_call (make_map (f := fa) I.kIn M.makes M.init (beq_iff_eq.mp M.fn) (codeAny_mono (F.run _ X.stack _ _ ⟨Value.ref (s.heap.objs.size + 1) :: us, []⟩ (Value.ref (s.heap.objs.size + 1) :: us) _ _ (E σ) (by rw [make_guards]; exact gd) (hr.make C us [])
    (I2.env0.make C us []) bi r2 hq) fun r s' hq' => ?_))
  cases r with
  | error e => exact out pins _ _ e s' I2 hq'
  | ok fl =>
    cases fl with
    | ret u =>
      obtain ⟨v, H', I3, rv, ev, q3⟩ := I2.after hq'
      subst ev
      exact ⟨rv, ⟨V.ref (s.heap.objs.size + 1), H', I3, rfl, q3⟩⟩
    | next => exact False.elim hq'
    | brk => exact False.elim hq'
    | cont => exact False.elim hq'
theorem pe_makeG (M : Mk X.K C fa) (F : GOk X.prog X.w X.K X.mg X.base cx n fa fd ps sp) (gd : X.A.guards = some []) (hr : Room (n + 1) X.A) (hg : Gl X x) (hm : X.mg x = some (.ref C)) (hb : Binds X.K fd ps []) (out : ∀ σ, PassesAt cx X σ (E σ))
    (ha : PA X (e :: es) ta) (hdb : (x == ("__debug__" : Str)) = false) (he : starEach (e :: es) X.env = (false, eval e X.env) :: starEach es X.env) (hpl : (backTo pos (starEach es X.env)).any (·.1) = false) :
    PE X (.Call (.Name x p) (e :: es) [] pos) (tMakeG C sp E ta) := ⟨fun pins s σ H Q I h => by
  refine wpAny_Call_Name_kw (ld_glob I hg hm ?_ hdb)
  refine PySem.W.callWith_K (h₀ := X.base) I.ok.mod.kin M.kp (thn (ha.run pos pins s σ H _ I h) fun us s1 ⟨vs, H1, I1, r, q⟩ => ⟨I1.kIn, ?_⟩) he hpl
  exact run_makeG M F gd hr hb (out σ) I1 r q⟩
theorem pe_makeG0 (M : Mk X.K C fa) (F : GOk X.prog X.w X.K X.mg X.base cx n fa fd ps sp) (gd : X.A.guards = some []) (hr : Room (n + 1) X.A) (hg : Gl X x) (hm : X.mg x = some (.ref C)) (hb : Binds X.K fd ps []) (out : ∀ σ, PassesAt cx X σ (E σ))
    (hdb : (x == ("__debug__" : Str)) = false) : PE X (.Call (.Name x p) [] [] pos) (tMakeG C sp E tNil) := ⟨fun pins s σ H Q I h => by
  refine wpAny_Call_Name_kw (ld_glob I hg hm ?_ hdb)
  exact PySem.W.callWith_K0 I.kIn M.kp (run_makeG (us := []) M F gd hr hb (out σ) I .nil h)⟩
end
/-! ### the mini language's -/
section
variable {K : PySem.W.Frag} {ca : Nat → Addr} {μ : Mu} {H : Hp} {h : Hh}
abbrev FsR (K : PySem.W.Frag) (ca : Nat → Addr) (μ : Mu) (H : Hp) : List (Str × W) → List (Str × V) → Prop := Paired fun p q => p.1 = q.1 ∧ WR K ca μ H p.2 q.2
theorem FsR.look {fs : List (Str × W)} {fv : List (Str × V)} (r : FsR K ca μ H fs fv) (f : Str) : (getF f fs = none ∧ fv.lookup f = none) ∨ ∃ w v, getF f fs = some w ∧ fv.lookup f = some v ∧ WR K ca μ H w v := by
  induction r with
  | nil => exact .inl ⟨rfl, rfl⟩
  | @cons p q ps qs h t ih =>
    obtain ⟨k, w⟩ := p
    obtain ⟨k', v⟩ := q
    obtain ⟨e, r⟩ := h
    simp only at e r
    subst e
    unfold getF at ih ⊢
    rw [List.lookup_cons, List.lookup_cons]
    cases f == k with
    | true => exact .inr ⟨w, v, rfl, rfl, r⟩
    | false => exact ih
theorem FsR.put {fs : List (Str × W)} {fv : List (Str × V)} (r : FsR K ca μ H fs fv) (f : Str) {w : W} {v : V} (z : WR K ca μ H w v) : FsR K ca μ H (setF f w fs) (putF f v fv) := by
  induction r with
  | nil => exact .cons ⟨rfl, z⟩ .nil
  | @cons p q ps qs h t ih =>
    obtain ⟨k, w2⟩ := p
    obtain ⟨k', v2⟩ := q
    obtain ⟨e, r⟩ := h
    simp only at e r
    subst e
    unfold setF putF
    by_cases c : k = f
    · rw [if_pos c, if_pos c]; exact .cons ⟨rfl, z⟩ t
    · rw [if_neg c, if_neg c]; exact .cons ⟨rfl, r⟩ ih
theorem FsR.len {fs : List (Str × W)} {fv : List (Str × V)} (r : FsR K ca μ H fs fv) : fs.length = fv.length := Paired.length r
/-- an object of the small heap, at its place -/
theorem ins_at {n c : Nat} {fs : List (Str × W)} {x : V} (hr : HR K ca μ H h) (r : WR K ca μ H (.ref n) x) (q : h[n]? = some (.ins c fs)) : ∃ a dx fv, x = .ref a ∧ μ.m[n]? = some a ∧ H a = some (.ins (ca (2 * c + 1)) dx fv) ∧ FsR K ca μ H fs fv := by
  cases r with
  | ref hn =>
    rename_i a
    obtain ⟨dx, fv, y, z⟩ := hr.ob n _ a q hn
    exact ⟨a, dx, fv, rfl, hn, y, z⟩
theorem fldW_inv {f : Str} {x : W} {Q : VK} {E : Nat → Hp → Prop} (o : Out K ca μ H (rW K ca) Q E (fldW f x h)) : ∃ n c fs w, x = .ref n ∧ h[n]? = some (.ins c fs) ∧ getF f fs = some w ∧ Out K ca μ H (rW K ca) Q E (.ok w h) := by
  cases x with
  | ref n =>
    have o : Out K ca μ H (rW K ca) Q E (match h[n]? with
      | some (.ins _ fs) => (match getF f fs with
        | some w => .ok w h
        | none => .bad)
      | _ => .bad) := o
    cases q : h[n]? with
    | none => rw [q] at o; exact o.elim
    | some ob =>
      cases ob with
      | ins c fs =>
        rw [q] at o
        cases q2 : getF f fs with
        | none => simp only [q2] at o; exact o.elim
        | some w => simp only [q2] at o; exact ⟨n, c, fs, w, rfl, q, q2, o⟩
      | _ => rw [q] at o; exact o.elim
  | _ => exact o.elim
theorem insB_inv {c : Nat} {m : Str} {x : W} (e : insB c m x h = true) : ∃ n fs, x = .ref n ∧ h[n]? = some (.ins c fs) ∧ getF m fs = none := by
  cases x with
  | ref n =>
    have e : (match h[n]? with
      | some (.ins c' fs) => decide (c' = c) && (getF m fs).isNone
      | _ => false) = true := e
    cases q : h[n]? with
    | none => rw [q] at e; cases e
    | some ob =>
      cases ob with
      | ins c' fs =>
        rw [q] at e
        have z := Bool.and_eq_true_iff.mp e
        have ec := of_decide_eq_true z.1
        subst ec
        exact ⟨n, fs, rfl, q, Option.isNone_iff_eq_none.mp z.2⟩
      | _ => rw [q] at e; cases e
  | _ => cases e
end
section
variable {X : Cx} {ca : Nat → Addr} {W' : Nat → L2.St → Hp → Prop}
theorem e_fld {o : Expr} {f : Str} {pos : Pos} {m : En → Hh → Res W} (cl : ∀ c, Cls X.K (ca (2 * c + 1))) (na : ∀ c, NoAttr X.K (ca (2 * c + 1)) f) (hb : attributeBase o f X.env (eval o X.env) = eval o X.env) (ho : PE X o (tI X.K ca W' (rW X.K ca) m)) :
    PE X (.Attribute o f pos) (tI X.K ca W' (rW X.K ca) fun e h => (m e h).bind fun x h => fldW f x h) := by
  refine (pe_fld ho hb).imp fun σ H Q q => ?_
  obtain ⟨μ, en, hh, er, hr, o⟩ := q
  refine seqI (rW X.K ca) er hr o fun μ1 H1 h1 w x s1 er1 hr1 z o1 => ?_
  obtain ⟨n, c, fs, v, rfl, q1, q2, o2⟩ := fldW_inv o1
  obtain ⟨a, dx, fv, rfl, _, g2, g3⟩ := ins_at hr1 z q1
  rcases g3.look f with ⟨e, _⟩ | ⟨w', v', e1, e2, r⟩
  · rw [e] at q2; cases q2
  · rw [e1] at q2
    cases q2
    exact ⟨a, _, dx, fv, v', rfl, g2, cl c, na c, e2, o2.now hr1 r⟩
theorem swaps_at {e o : Expr} {f : Str} {p : Pos} {l : Nat} {env : Env} : swapsWith e (some (.Attribute o f p)) l env = pure false := by
  cases e <;> first | rfl | (unfold swapsWith; first | rfl | simp)
end
end M
/-! MTab: a dict of the module, of texts by texts, that never changes. -/
namespace M
open PySem PySem.Spec PyProof.Rows L2
section
variable {X : Cx} {ca : Nat → Addr} {W' : Nat → L2.St → Hp → Prop} {a : Addr} {l : List (D × D)} {x : Str} {e : Expr} {p pos : Pos} {m : En → Hh → Res W}
theorem KDD.opt {K : PySem.W.Frag} {w : World} (D : KDD K w a l) (z : Str) : ∃ es n r, KDict K w a es n ∧ PySem.W.nsIn K a z = some r ∧ r.isSome = (tabD l z).isSome := by
  obtain ⟨es, n, k, f⟩ := D
  cases q : tabD l z with
  | none => exact ⟨es, n, _, k, (f z).1 q, rfl⟩
  | some d =>
    obtain ⟨y, t, _, h⟩ := (f z).2 d q
    exact ⟨es, n, _, k, h, rfl⟩
theorem str_of {K : PySem.W.Frag} {μ : Mu} {H : Hp} {z : Str} {v : V} (r : WR K ca μ H (.dat (.str z)) v) : v = .str z := by
  cases r with
  | dat r => cases r; rfl
theorem e_tin (D : KDD X.K X.w a l) (hg : Gl X x) (hm : X.mg x = some (.ref a)) (px : (x == ("__debug__" : Str)) = false) (hb : behindInMarks .In (.Name x p) = false) (ha : PE X e (tI X.K ca W' (rW X.K ca) m)) :
    PE X (.Compare e [.In] [.Name x p] pos) (tI X.K ca W' (rW X.K ca) fun e h => (m e h).bind fun w h => tabW 0 (some (.dict l)) w h) := by
  refine (pe_cmpR (r := fun v y H Q => ∃ z : Str, v = .str z ∧ y = .ref a ∧ Q (.bl (tabD l z).isSome) H) (fun pins s σ H v y u1 u2 Q I r1 r2 h => ?_) ha (pe_glob (v := .ref a) hg hm rfl px) hb).imp fun σ H Q q => ?_
  · obtain ⟨z, e1, e2, q⟩ := h
    obtain ⟨es, n, r, k, k2, k3⟩ := D.opt z
    exact op_in_kd k pins s σ H v y u1 u2 Q I r1 r2 ⟨z, r, e1, e2, k2, k3 ▸ q⟩
  · obtain ⟨μ, en, hh, er, hr, o⟩ := q
    refine seqI (rW X.K ca) er hr o fun μ1 H1 h1 w v s1 er1 hr1 z o1 => ?_
    cases w with
    | dat d =>
      cases d with
      | str y =>
        cases str_of z
        exact ⟨y, rfl, rfl, Out.now (a := W.dat (.bool (tabD l y).isSome)) o1 hr1 (.dat (.bl _))⟩
      | _ => exact o1.elim
    | _ => exact o1.elim
theorem e_tnin (D : KDD X.K X.w a l) (hg : Gl X x) (hm : X.mg x = some (.ref a)) (px : (x == ("__debug__" : Str)) = false) (hb : behindInMarks .NotIn (.Name x p) = false) (ha : PE X e (tI X.K ca W' (rW X.K ca) m)) :
    PE X (.Compare e [.NotIn] [.Name x p] pos) (tI X.K ca W' (rW X.K ca) fun e h => (m e h).bind fun w h => tabW 1 (some (.dict l)) w h) := by
  refine (pe_cmpR (r := fun v y H Q => ∃ z : Str, v = .str z ∧ y = .ref a ∧ Q (.bl (!(tabD l z).isSome)) H) (fun pins s σ H v y u1 u2 Q I r1 r2 h => ?_) ha (pe_glob (v := .ref a) hg hm rfl px) hb).imp fun σ H Q q => ?_
  · obtain ⟨z, e1, e2, q⟩ := h
    obtain ⟨es, n, r, k, k2, k3⟩ := D.opt z
    exact op_notIn_kd k pins s σ H v y u1 u2 Q I r1 r2 ⟨z, r, e1, e2, k2, k3 ▸ q⟩
  · obtain ⟨μ, en, hh, er, hr, o⟩ := q
    refine seqI (rW X.K ca) er hr o fun μ1 H1 h1 w v s1 er1 hr1 z o1 => ?_
    cases w with
    | dat d =>
      cases d with
      | str y =>
        cases str_of z
        exact ⟨y, rfl, rfl, Out.now (a := W.dat (.bool (!(tabD l y).isSome))) o1 hr1 (.dat (.bl _))⟩
      | _ => exact o1.elim
    | _ => exact o1.elim
theorem e_tix (D : KDD X.K X.w a l) (hg : Gl X x) (hm : X.mg x = some (.ref a)) (px : (x == ("__debug__" : Str)) = false) (hi : PlainIx e) (ha : PE X e (tI X.K ca W' (rW X.K ca) m)) :
    PE X (.Subscript (.Name x p) e pos) (tI X.K ca W' (rW X.K ca) fun e h => (m e h).bind fun w h => tabW 2 (some (.dict l)) w h) := by
  refine (pe_ix ix_kdict (pe_glob (v := .ref a) hg hm rfl px) ha hi).imp fun σ H Q q => ?_
  obtain ⟨μ, en, hh, er, hr, o⟩ := q
  refine seqI (rW X.K ca) er hr o fun μ1 H1 h1 w v s1 er1 hr1 z o1 => ?_
  cases w with
  | dat d =>
    cases d with
    | str y =>
      cases str_of z
      cases q : tabD l y with
      | none => simp only [tabW, q] at o1; exact o1.elim
      | some d =>
        simp only [tabW, q] at o1
        obtain ⟨es, n, k, f⟩ := D
        obtain ⟨t, tk, rfl, g⟩ := (f y).2 d q
        exact ⟨a, y, .str t, rfl, rfl, ⟨es, n, _, k.at_, k.lit, g, ⟨tk, rfl⟩⟩, o1.now hr1 (.dat (.str t))⟩
    | _ => exact o1.elim
  | _ => exact o1.elim
/-- x.get(e) -/
theorem e_tget {apos cpos : Pos} (D : KDD X.K X.w a l) (hg : Gl X x) (hm : X.mg x = some (.ref a)) (px : (x == ("__debug__" : Str)) = false) (mt : M1 X (.Name x p) "get" apos e cpos) (ha : PE X e (tI X.K ca W' (rW X.K ca) m)) :
    PE X (.Call (.Attribute (.Name x p) "get" apos) [e] [] cpos) (tI X.K ca W' (rW X.K ca) fun e h => (m e h).bind fun w h => tabW 3 (some (.dict l)) w h) := by
  refine ⟨fun pins s σ H Q I q => ?_⟩
  obtain ⟨es, n, k, f⟩ := D
  have z : PE X (.Name x p) (tC (.ref a)) := pe_glob hg hm rfl px
  refine wpAny_Call_method mt.base mt.few mt.line PySem.F.plainAttrs_dict PySem.F.slot_dict_get PySem.F.type_dict_get (thn (z.run pins s σ H (fun v H1 => v = .ref a ∧ H1 = H) I ⟨rfl, rfl⟩) fun u s1 ⟨v, H1, I1, rv, e1, e2⟩ => ?_)
  subst e1; subst e2
  cases rv
  refine ⟨kd_type k I1, fun b e => ?_, ?_⟩
  · cases e
    exact ⟨_, I1.kIn _ _ k.at_, rfl⟩
  rw [mt.trees]
  refine Calls.callWith_builtin rfl (Calls.evalArgs_plain (Calls.spliced_cons (thn (ha.run pins s1 σ _ (fun y H2 => ∃ z : Str, y = .str z ∧ ∀ v : V, (tabD l z = none → v = .non) → (∀ t, tabD l z = some (.str t) → v = .str t) → Q v H2) I1 ?_) fun iv s2 ⟨y, H2, I2, ry, zt, ey, qv⟩ => Calls.spliced_nil ?_)))
  · obtain ⟨μ, en, hh, er, hr, o⟩ := q
    refine seqI (rW X.K ca) er hr o fun μ1 H1 h1 w v s1 er1 hr1 z o1 => ?_
    cases w with
    | dat d =>
      cases d with
      | str y =>
        cases str_of z
        refine ⟨y, rfl, fun v n1 n2 => ?_⟩
        cases q : tabD l y with
        | none =>
          simp only [tabW, q] at o1
          rw [n1 q]
          exact o1.now hr1 (.dat .non)
        | some d =>
          simp only [tabW, q] at o1
          obtain ⟨t, tk, rfl, g⟩ := (f y).2 d q
          rw [n2 t q]
          exact o1.now hr1 (.dat (.str t))
      | _ => exact o1.elim
    | _ => exact o1.elim
  · subst ey
    obtain ⟨tk, rfl⟩ := ry
    have mp := PySem.W.mapOf_K (prog := X.prog) (w := X.w) I2.kIn k.at_ k.lit
    refine call_meetsIn PySem.F.slot_dict_get (kd_type k I2) PySem.F.entry_dict_get (PySem.F.args_dict_get_2 _ _) (meets_dict_get (strKind X.prog X.w) a (strKind_is X.prog X.w zt tk) k.low) ⟨_, mp, ?_⟩
    cases q : tabD l zt with
    | none =>
      rw [PySem.W.find_K k.at_ ((f zt).1 q)]
      exact ⟨.non, H2, I2.tok _, rfl, qv _ (fun _ => rfl) fun t e => by rw [q] at e; cases e⟩
    | some d =>
      obtain ⟨t, tk, rfl, g⟩ := (f zt).2 d q
      rw [PySem.W.find_K k.at_ g]
      exact ⟨.str t, H2, I2.tok _, ⟨tk, rfl⟩, qv _ (fun e => by rw [q] at e; cases e) fun t2 e => by rw [q] at e; cases e; rfl⟩
theorem t_tin (D : KDD X.K X.w a l) (hg : Gl X x) (hm : X.mg x = some (.ref a)) (px : (x == ("__debug__" : Str)) = false) (hb : behindInMarks .In (.Name x p) = false) (ha : PE X e (tI X.K ca W' (rW X.K ca) m)) :
    PT X (.Compare e [.In] [.Name x p] pos) (tI X.K ca W' rB fun e h => toB ((m e h).bind fun w h => tabW 0 (some (.dict l)) w h)) := by
  refine (pt_cmpR (r := fun v y H Q => ∃ z : Str, v = .str z ∧ y = .ref a ∧ Q (.bl (tabD l z).isSome) H) (fun pins s σ H v y u1 u2 Q I r1 r2 h => ?_) ha (pe_glob (v := .ref a) hg hm rfl px) hb).imp fun σ H Q q => ?_
  · obtain ⟨z, e1, e2, q⟩ := h
    obtain ⟨es, n, r, k, k2, k3⟩ := D.opt z
    exact op_in_kd k pins s σ H v y u1 u2 Q I r1 r2 ⟨z, r, e1, e2, k2, k3 ▸ q⟩
  · have q := toB_seq q
    obtain ⟨μ, en, hh, er, hr, o⟩ := q
    refine seqI (rW X.K ca) er hr o fun μ1 H1 h1 w v s1 er1 hr1 z o1 => ?_
    cases w with
    | dat d =>
      cases d with
      | str y =>
        cases str_of z
        exact ⟨y, rfl, rfl, Out.now (a := W.dat (.bool (tabD l y).isSome)) o1 hr1 (.dat (.bl _))⟩
      | _ => exact o1.elim
    | _ => exact o1.elim
theorem t_tnin (D : KDD X.K X.w a l) (hg : Gl X x) (hm : X.mg x = some (.ref a)) (px : (x == ("__debug__" : Str)) = false) (hb : behindInMarks .NotIn (.Name x p) = false) (ha : PE X e (tI X.K ca W' (rW X.K ca) m)) :
    PT X (.Compare e [.NotIn] [.Name x p] pos) (tI X.K ca W' rB fun e h => toB ((m e h).bind fun w h => tabW 1 (some (.dict l)) w h)) := by
  refine (pt_cmpR (r := fun v y H Q => ∃ z : Str, v = .str z ∧ y = .ref a ∧ Q (.bl (!(tabD l z).isSome)) H) (fun pins s σ H v y u1 u2 Q I r1 r2 h => ?_) ha (pe_glob (v := .ref a) hg hm rfl px) hb).imp fun σ H Q q => ?_
  · obtain ⟨z, e1, e2, q⟩ := h
    obtain ⟨es, n, r, k, k2, k3⟩ := D.opt z
    exact op_notIn_kd k pins s σ H v y u1 u2 Q I r1 r2 ⟨z, r, e1, e2, k2, k3 ▸ q⟩
  · have q := toB_seq q
    obtain ⟨μ, en, hh, er, hr, o⟩ := q
    refine seqI (rW X.K ca) er hr o fun μ1 H1 h1 w v s1 er1 hr1 z o1 => ?_
    cases w with
    | dat d =>
      cases d with
      | str y =>
        cases str_of z
        exact ⟨y, rfl, rfl, Out.now (a := W.dat (.bool (!(tabD l y).isSome))) o1 hr1 (.dat (.bl _))⟩
      | _ => exact o1.elim
    | _ => exact o1.elim
end
end M
/-! MDict: a dict of one pair, as data; isinstance of a caught error, many classes. -/
namespace M
open PySem PySem.Spec L2
section
variable {X : Cx} {ca : Nat → Addr} {W' : Nat → L2.St → Hp → Prop}
theorem stp_hide {μ : Mu} {H : Hp} {p : Addr} {u : HO} (nx : p ∉ μ.x) (hp : H p = none) : Stp μ H (μ.hide p) (upd H p u) := by
  have s : Stp μ H μ (upd H p u) := Stp.new nx hp
  exact ⟨⟨[], by simp [Mu.hide], fun _ z => nomatch z⟩, fun a h => List.mem_cons_of_mem _ h, fun a h => (List.mem_cons.mp h).elim (fun e => .inr (by rw [e]; exact hp)) .inl, s.fix, s.keep, s.live⟩
theorem hr_hide {K : PySem.W.Frag} {μ : Mu} {H : Hp} {h : Hh} {p : Addr} {u : HO} (hr : HR K ca μ H h) (hp : H p = none) : HR K ca (μ.hide p) (upd H p u) h :=
  hr.hide (D := p) (fun a ne => upd_ne ne) (fun z => hr.live p z hp) (fun _ z => by rw [upd_same] at z; cases z) (fun a u _ q e => Rd.some q (e ▸ hp)) rfl (fun a ne h z => (List.mem_cons.mp z).elim ne h) fun a ne z => (List.mem_cons.mp z).elim (fun e => absurd e ne) id
theorem hr_cut {K : PySem.W.Frag} {μ : Mu} {H : Hp} {h : Hh} {p : Addr} (hr : HR K ca μ H h) (hx : p ∈ μ.x) : HR K ca (μ.cut p) (cutH H p) h :=
  have nn : ∀ a u, a ∉ μ.m ∧ a ∉ μ.x → Rd H a u → a ≠ p := fun a u z _ e => z.2 (e ▸ hx)
  hr.hide (D := p) (fun a ne => cutH_ne ne) (fun z => hr.dis p z hx) (fun z => absurd rfl (Mu.cut_mem.mp z).2) nn rfl (fun a ne h z => h (Mu.cut_mem.mp z).1) fun a ne z => (Mu.cut_mem.mp z).1
theorem vr_cut {K : PySem.W.Frag} {μ : Mu} {H : Hp} {p : Addr} (hx : p ∈ μ.x) {d : D} {v : V} (z : VR K μ H d v) : VR K (μ.cut p) (cutH H p) d v :=
  have nn : ∀ a u, a ∉ μ.m ∧ a ∉ μ.x → Rd H a u → a ≠ p := fun a u z _ e => z.2 (e ▸ hx)
  z.hide (μ' := μ.cut p) (H' := cutH H p) (Y := p) (fun a u ne q => by unfold Rd; rw [cutH_ne ne]; exact q) nn rfl (fun a ne h z => h (Mu.cut_mem.mp z).1)
theorem stp_cut {μ μ2 : Mu} {H H2 : Hp} {p : Addr} (hp : H p = none) (nx : p ∉ μ.x) (s : Stp μ H μ2 H2) : Stp μ H (μ2.cut p) (cutH H2 p) := by
  refine ⟨s.pre, fun a ha => Mu.cut_mem.mpr ⟨s.inx a ha, fun e => nx (e ▸ ha)⟩, fun a ha => s.oux a (Mu.cut_mem.mp ha).1, fun a ha => ?_, fun a u na q z => ?_, fun a e => ?_⟩
  · rw [cutH_ne fun (e : a = p) => nx (e ▸ ha)]
    exact s.fix a ha
  · have ne : a ≠ p := fun e => Rd.some z (e ▸ hp)
    have z2 := s.keep a u na q z
    unfold Rd
    rw [cutH_ne ne]
    exact z2
  · by_cases e2 : a = p
    · rw [e2]; exact hp
    · rw [cutH_ne e2] at e
      exact s.live a e
theorem cut_upd {H : Hp} {p : Addr} {u : HO} : upd (cutH H p) p u = upd H p u := by
  funext b
  by_cases e : b = p
  · rw [e, upd_same, upd_same]
  · rw [upd_ne e, upd_ne e, cutH_ne e]
theorem dct1_inv {x y : W} {h : Hh} {Q : VK} {μ : Mu} {H : Hp} {E : Nat → Hp → Prop} (o : Out X.K ca μ H (rW X.K ca) Q E (dct1 x y h)) : ∃ (k : Key) (d : D), x = .dat (keyD k) ∧ y = .dat d ∧ Out X.K ca μ H (rW X.K ca) Q E (.ok (.dat (.dict [(keyD k, d)])) h) := by
  cases x with
  | dat a =>
    cases a with
    | int i =>
      cases y with
      | dat d => exact ⟨.inl i, d, rfl, rfl, o⟩
      | _ => exact o.elim
    | str s =>
      cases y with
      | dat d => exact ⟨.inr s, d, rfl, rfl, o⟩
      | _ => exact o.elim
    | _ => exact o.elim
  | _ => exact o.elim
theorem e_dct1 {kx vx : Expr} {pos : Pos} {m1 m2 : En → Hh → Res W} (hk : PE X kx (tI X.K ca W' (rW X.K ca) m1)) (hv : PE X vx (tI X.K ca W' (rW X.K ca) m2)) :
    PE X (.Dict [some kx] [vx] pos) (tI X.K ca W' (rW X.K ca) fun e h => (m1 e h).bind fun x h => (m2 e h).bind fun y h => dct1 x y h) := by
  refine (pe_disp (pps_cons hk hv pps_nil) rfl rfl (by simp) (by simp)).imp fun σ H Q q => ?_
  obtain ⟨μ, en, hh, er, hr, o⟩ := q
  intro p hp
  have nx := hr.nox hp
  have st := stp_hide (μ := μ) (u := .dK []) nx hp
  have hr1 := hr_hide (u := .dK []) hr hp
  refine ⟨μ.hide p, en, hh, er.mono st, hr1, ?_⟩
  have o : Out X.K ca μ H (rW X.K ca) Q (fun c H' => W' c σ H') ((m1 en hh).bind fun x h => (m2 en h).bind fun y h => dct1 x y h) := o
  cases q1 : m1 en hh with
  | bad => rw [q1] at o; exact o.elim
  | exc c h1 => rw [q1] at o; exact fun μ1 H1 s1 r1 => o μ1 H1 (st.trans s1) r1
  | ok x h1 =>
    rw [q1] at o
    have o : Out X.K ca μ H (rW X.K ca) Q (fun c H' => W' c σ H') ((m2 en h1).bind fun y h => dct1 x y h) := o
    intro μ1 H1 v1 s1 r1 z1
    refine ⟨μ1, en, h1, (er.mono st).mono s1, r1, ?_⟩
    cases q2 : m2 en h1 with
    | bad => rw [q2] at o; exact o.elim
    | exc c h2 => rw [q2] at o; exact fun μ2 H2 s2 r2 => o μ2 H2 ((st.trans s1).trans s2) r2
    | ok y h2 =>
      rw [q2] at o
      have o : Out X.K ca μ H (rW X.K ca) Q (fun c H' => W' c σ H') (dct1 x y h2) := o
      intro μ2 H2 v2 s2 r2 z2
      obtain ⟨k, d, rfl, rfl, o9⟩ := dct1_inv o
      have p0 : p ∈ (μ.hide p).x := List.mem_cons_self
      have px : p ∈ μ2.x := s2.inx p (s1.inx p p0)
      have e2 : H2 p = some (.dK []) := by rw [s2.fix p (s1.inx p p0), s1.fix p p0, upd_same]
      have ek : v1 = kV k := by
        cases k with
        | inl i => exact z1.of_int
        | inr s => exact z1.of_str
      refine ⟨e2, [(k, v2)], by rw [ek]; rfl, by simp, ?_⟩
      have st2 := stp_cut hp nx ((st.trans s1).trans s2)
      have hc := hr_cut r2 px
      have vd : VR X.K μ2 H2 d v2 := by
        cases z2 with
        | dat z => exact z
      show Q (.ref p) (upd H2 p (.dK [(k, v2)]))
      rw [← cut_upd]
      exact o9 (μ2.cut p) _ _ (st2.trans (hc.stp cutH_same)) (hc.new cutH_same) (.dat (.dct ⟨⟨fun z => r2.dis p z px, fun z => (Mu.cut_mem.mp z).2 rfl⟩, .inl upd_same⟩ (.cons ((vr_cut px vd).mono (hc.stp cutH_same)) .nil)))
/-! ### a dict of the small heap, new -/
theorem wr_cut {K : PySem.W.Frag} {μ : Mu} {H : Hp} {p : Addr} (hx : p ∈ μ.x) {w : W} {v : V} (z : WR K ca μ H w v) : WR K ca (μ.cut p) (cutH H p) w v :=
  have nn : ∀ a u, a ∉ μ.m ∧ a ∉ μ.x → Rd H a u → a ≠ p := fun a u z _ e => z.2 (e ▸ hx)
  z.hide (μ' := μ.cut p) (H' := cutH H p) (D := p) (fun a u ne q => by unfold Rd; rw [cutH_ne ne]; exact q) nn rfl (fun a ne h z => h (Mu.cut_mem.mp z).1)
def flatP : List (V × V) → List V
  | [] => []
  | p :: ps => p.1 :: p.2 :: flatP ps
/-- a display's keys and values, by turns -/
def PPD (X : Cx) (ca : Nat → Addr) (W' : Nat → L2.St → Hp → Prop) (pos : Pos) (ks : List (Option Expr)) (vs : List Expr) (m : En → Hh → Res (List W)) : Prop :=
  ∃ trs, PPs X pos ks vs trs ∧ ∀ σ H (Q : List (V × V) → Hp → Prop), tI X.K ca W' (rWs X.K ca) m σ H (fun us H' => ∃ ps, us = flatP ps ∧ Q ps H') → tPairs trs σ H Q
theorem ppd_nil {pos : Pos} : PPD X ca W' pos [] [] fun _ h => .ok [] h := by
  refine ⟨[], pps_nil, fun σ H Q q => ?_⟩
  obtain ⟨μ, en, hh, er, hr, o⟩ := q
  obtain ⟨ps, e, q⟩ := Out.now (rel := rWs X.K ca) (b := []) o hr .nil
  cases ps with
  | nil => exact q
  | cons _ _ => cases e
theorem ppd_cons {pos : Pos} {k v : Expr} {ks : List (Option Expr)} {vs : List Expr} {m n : En → Hh → Res W} {r : En → Hh → Res (List W)} (hk : PE X k (tI X.K ca W' (rW X.K ca) m)) (hv : PE X v (tI X.K ca W' (rW X.K ca) n)) (hr : PPD X ca W' pos ks vs r) :
    PPD X ca W' pos (some k :: ks) (v :: vs) fun e h => (m e h).bind fun x h => (n e h).bind fun y h => (r e h).bind fun ws h => .ok (x :: y :: ws) h := by
  obtain ⟨trs, p1, p2⟩ := hr
  refine ⟨_, pps_cons hk hv p1, fun σ H Q q => ?_⟩
  obtain ⟨μ, en, hh, er, hr, o⟩ := q
  refine seqI (rW X.K ca) er hr o fun μ1 H1 h1 w1 v1 s1 er1 hr1 z1 o1 => ?_
  refine seqI (rW X.K ca) er1 hr1 o1 fun μ2 H2 h2 w2 v2 s2 er2 hr2 z2 o2 => ?_
  refine p2 σ H2 _ (seqI (rWs X.K ca) er2 hr2 o2 fun μ3 H3 h3 w3 v3 s3 er3 hr3 z3 o3 => ?_)
  obtain ⟨ps, e, q⟩ := Out.now (rel := rWs X.K ca) (b := v1 :: v2 :: v3) o3 hr3 (.cons ((z1.mono s2).mono s3) (.cons (z2.mono s3) z3))
  cases ps with
  | nil => cases e
  | cons p ps =>
    obtain ⟨e1, e2⟩ := List.cons.inj e
    obtain ⟨e3, e4⟩ := List.cons.inj e2
    subst e1 e3
    exact ⟨ps, e4, q⟩
theorem dspK_ok {K : PySem.W.Frag} {μ : Mu} {H : Hp} : ∀ {ws : List W} {us : List V} {l : List (Ky × W)}, WRs K ca μ H ws us → dspK ws = some l → ∃ kvs : List (Key × V), us = flatP (kvs.map fun kv => (kV kv.1, kv.2)) ∧ Paired (fun (p : Ky × W) (q : Key × V) => p.1 = q.1 ∧ WR K ca μ H p.2 q.2) l kvs
  | [], _, l, r, e => by
    cases r
    cases e
    exact ⟨[], rfl, .nil⟩
  | [_], _, l, r, e => by cases e
  | k :: v :: ws, _, l, r, e => by
    cases r with
    | cons r1 r =>
      cases r with
      | cons r2 r =>
        cases e1 : kyOf k with
        | none => simp [dspK, e1] at e
        | some ky =>
          cases e2 : dspK ws with
          | none => simp [dspK, e1, e2] at e
          | some l2 =>
            simp only [dspK, e1, e2, Option.some.injEq] at e
            subst e
            obtain ⟨kvs, rfl, z⟩ := dspK_ok r e2
            exact ⟨(ky, _) :: kvs, by rw [ky_ok r1 e1]; rfl, .cons ⟨rfl, r2⟩ z⟩
theorem KW.merge {K : PySem.W.Frag} {μ : Mu} {H : Hp} : ∀ {l : List (Ky × W)} {kvs : List (Key × V)} {l0 : List (Ky × W)} {k0 : List (Key × V)}, Paired (fun (p : Ky × W) (q : Key × V) => p.1 = q.1 ∧ WR K ca μ H p.2 q.2) l kvs → Paired (fun (p : Ky × W) (q : Key × V) => p.1 = q.1 ∧ WR K ca μ H p.2 q.2) l0 k0 →
    Paired (fun (p : Ky × W) (q : Key × V) => p.1 = q.1 ∧ WR K ca μ H p.2 q.2) (l.foldl (fun a p => putA a p.1 p.2) l0) (mergeK k0 kvs)
  | _, _, _, _, .nil, z => z
  | _, _, _, _, .cons (a := p) (b := q) h t, z => by
    have ih := KW.merge t (KW.put (k := q.1) h.2 z)
    rw [List.foldl_cons, h.1]
    exact ih
theorem e_dsp {ks : List (Option Expr)} {vs : List Expr} {pos : Pos} {m : En → Hh → Res (List W)} (h : PPD X ca W' pos ks vs m) (hall : ks.all (·.isSome) = true) (hl : ks.length = vs.length) (h0 : ks ≠ []) (h15 : ks.length ≤ 15) :
    PE X (.Dict ks vs pos) (tI X.K ca W' (rW X.K ca) fun e h => (m e h).bind fun ws h => dspW false ws h) := by
  obtain ⟨trs, h1, h2⟩ := h
  refine (pe_disp h1 hall hl h0 h15).imp fun σ H Q q => ?_
  obtain ⟨μ, en, hh, er, hr, o⟩ := q
  intro p hp
  have nx := hr.nox hp
  have st := stp_hide (μ := μ) (u := .dK []) nx hp
  have hr1 := hr_hide (u := .dK []) hr hp
  refine h2 _ _ _ ⟨μ.hide p, en, hh, er.mono st, hr1, ?_⟩
  have o : Out X.K ca μ H (rW X.K ca) Q (fun c H' => W' c σ H') ((m en hh).bind fun ws h => dspW false ws h) := o
  cases q1 : m en hh with
  | bad => rw [q1] at o; exact o.elim
  | exc c h1 => rw [q1] at o; exact fun μ1 H1 s1 r1 => o μ1 H1 (st.trans s1) r1
  | ok ws h1 =>
    rw [q1] at o
    have o : Out X.K ca μ H (rW X.K ca) Q (fun c H' => W' c σ H') (dspW false ws h1) := o
    intro μ1 H1 us s1 r1 z1
    cases q2 : dspK ws with
    | none => simp [dspW, q2] at o; exact o.elim
    | some l =>
      by_cases hl : l.length ≤ 15
      · have e9 : dspW false ws h1 = .ok (.ref h1.length) (h1 ++ [.dct (l.foldl (fun a p => putA a p.1 p.2) [])]) := by simp [dspW, q2, hl]
        rw [e9] at o
        obtain ⟨kvs, rfl, zk⟩ := dspK_ok z1 q2
        have p0 : p ∈ (μ.hide p).x := List.mem_cons_self
        have px : p ∈ μ1.x := s1.inx p p0
        have e2 : H1 p = some (.dK []) := by rw [s1.fix p p0, upd_same]
        refine ⟨_, rfl, e2, kvs, rfl, by rw [← Paired.length zk]; exact hl, ?_⟩
        have st2 := stp_cut hp nx (st.trans s1)
        have hc := hr_cut r1 px
        rw [← cut_upd]
        obtain ⟨st3, hr3⟩ := hc.push (u := .dK (mergeK [] kvs)) (o := .dct (l.foldl (fun a p => putA a p.1 p.2) [])) (cutH_same (H := H1) (Y := p)) fun s => ⟨_, upd_same, KW.merge (Paired.mapP zk fun _ _ q => ⟨q.1, (wr_cut px q.2).mono s⟩) .nil⟩
        refine o _ _ _ (st2.trans st3) hr3 (.ref ?_)
        show ((μ1.cut p).m ++ [p])[h1.length]? = some p
        rw [show h1.length = (μ1.cut p).m.length from hc.len.symm]
        simp
      · simp [dspW, q2, hl] at o; exact o.elim
/-! ### isinstance of a caught error, many classes -/
/-- isinstance(e, (c1, c2, ..)) -/
def rIsXT (K : PySem.W.Frag) (ca : Nat → Addr) : List V → Hp → VK → Prop := fun xs H Q => ∃ (a tp : Addr) (c : Nat) (cs : List Nat) (b : Bool), xs = [.ref a, .ref tp] ∧ Rd H a (ExV (ca (2 * c)) a) ∧ ExcC K (ca (2 * c)) ∧ H tp = some (.tup (cs.map fun d => V.ref (ca (2 * d)))) ∧ PySem.W.kitAny K (.ref (ca (2 * c))) (cs.map fun d => Value.ref (ca (2 * d))) = some b ∧ Q (.bl b) H
theorem cls_vals : ∀ {cs : List Nat} {us : List Value}, Vals (cs.map fun d => V.ref (ca (2 * d))) us → us = cs.map fun d => Value.ref (ca (2 * d))
  | [], _, h => by cases h; rfl
  | c :: cs, _, h => by
    cases h with
    | cons r t => rw [cls_vals t, show _ = Value.ref (ca (2 * c)) from r]; rfl
theorem call_isXT : CallR X (.builtin "isinstance") (rIsXT X.K ca) := by
  intro pins s σ H xs us Q I r h
  obtain ⟨a, tp, c, cs, b, rfl, hR, C, hT, e, q⟩ := h
  obtain ⟨u1, u2, rfl, r1, r2⟩ := vals2 r
  cases (show u1 = Value.ref a from r1)
  cases (show u2 = Value.ref tp from r2)
  obtain ⟨⟨oe, hget, hz, vs, hv⟩, _, _⟩ := (show ObjOk X.prog X.w H s.heap a (ExV (ca (2 * c)) a) from hR.ok I.hok)
  have J : PySem.W.InstAt s.heap a oe (ca (2 * c)) none := by
    obtain ⟨oc, od, oda, osl⟩ := oe
    obtain ⟨h1, h2⟩ := hz
    dsimp only at h1 h2 hv
    subst h1 h2 hv
    exact ⟨hget, rfl, rfl, trivial⟩
  obtain ⟨_, its, rv, o, h1, h2, n, h3⟩ := (show ObjOk X.prog X.w H s.heap tp (.tup _) from I.hok tp _ hT)
  have e3 := cls_vals rv
  subst e3
  obtain ⟨oc, od, dt, sl⟩ := o
  simp only at h2 h3
  subst h2 h3
  exact PySem.W.kia_tup (PySem.W.handS_kitx_exc C.hg C.hk C.hs C.hd C.ha C.hn C.ht C.hm) I.kIn J h1 e (fun z => nomatch z) fun tk => ⟨.bl b, H, I.tok tk, rfl, q⟩
theorem kit_any {K : PySem.W.Frag} {c : Nat} : ∀ {cs : List Nat}, (∀ d ∈ cs, PySem.W.kitOne K (.ref (ca (2 * c))) (.ref (ca (2 * d))) = some (subX c d)) → PySem.W.kitAny K (.ref (ca (2 * c))) (cs.map fun d => Value.ref (ca (2 * d))) = some (cs.any fun d => subX c d)
  | [], _ => rfl
  | d :: cs, h => by
    have z := kit_any (c := c) (cs := cs) fun x hx => h x (List.mem_cons_of_mem _ hx)
    rw [List.map_cons]
    refine kitAny_cons (h d List.mem_cons_self) (fun e => ?_) fun e => ?_
    · rw [z, List.any_cons, e, Bool.false_or]
    · rw [List.any_cons, e, Bool.true_or]
theorem excs_pa {S : Sg} {sc : Scope} (ex : ExS S X.K X.mg ca) (esc : X.env.scope = sc) : ∀ {cs : List Nat} {ys : List Expr}, excsB S sc cs ys = true → PA X ys (fun _ H Q => Q (cs.map fun d => V.ref (ca (2 * d))) H) ∧ ∀ d ∈ cs, ∃ y, S.excs[d]? = some y
  | [], [], _ => ⟨pa_nil, fun d hd => (nomatch hd)⟩
  | c :: cs, y :: ys, h => by
    cases y with
    | Name y p =>
      have h1 := Bool.and_eq_true_iff.mp (show (decide (S.excs[c]? = some y) && (gloB sc y && (plainB y && excsB S sc cs ys))) = true from h)
      have h2 := Bool.and_eq_true_iff.mp h1.2
      have h3 := Bool.and_eq_true_iff.mp h2.2
      obtain ⟨t, m⟩ := excs_pa ex esc h3.2
      have e := of_decide_eq_true h1.1
      have pn := plain_of h3.1
      have z : PE X (.Name y p) (tC (.ref (ca (2 * c)))) := pe_glob (by rw [Gl, Env.kindOf, esc]; exact of_decide_eq_true h2.1) (ex.gl c y e).1 rfl pn.1
      exact ⟨pa_cons z t rfl, fun d hd => (List.mem_cons.mp hd).elim (fun q => ⟨y, q ▸ e⟩) (m d)⟩
    | _ => exact absurd h (by simp [excsB])
  | [], _ :: _, h => by simp [excsB] at h
  | _ :: _, [], h => by simp [excsB] at h
theorem e_isis {S : Sg} {sc : Scope} {a : Expr} {cs : List Nat} {ys : List Expr} {k : Nat} {p p2 pos : Pos} {m : En → Hh → Res W} (hg : Gl X "isinstance") (hm : X.mg "isinstance" = none) (ex : ExS S X.K X.mg ca) (esc : X.env.scope = sc) (ln : cs.length ≤ 1000) (ne : S.excs ≠ []) (hys : excsB S sc cs ys = true)
    (pa : plainE a = true) (ha : PE X a (tI X.K ca W' (rW X.K ca) m)) :
    PE X (.Call (.Name "isinstance" p) [a, .Tuple ys k p2] [] pos) (tI X.K ca W' (rW X.K ca) fun e h => (m e h).bind fun x h => rb h (tysIs cs x)) := by
  obtain ⟨pas, mem⟩ := excs_pa (X := X) ex esc hys
  have pt : PE X (.Tuple ys k p2) _ := pe_tup pas
  refine (pe_callB (call_isXT (ca := ca)) hg hm PyProof.Rows.boot_isinstance (pa_cons ha (pa_cons pt pa_nil rfl) (star_of pa)) (by decide) (by decide) (star_of pa) rfl).imp fun σ H Q q => ?_
  obtain ⟨μ, en, hh, er, hr, o⟩ := q
  refine seqI (rW X.K ca) er hr o fun μ1 H1 h1 w v s1 er1 hr1 z o1 => ?_
  refine ⟨by rw [List.length_map, sizeLine_eq]; omega, fun tp hp => ?_⟩
  cases w with
  | exc c =>
    cases z with
    | exc n hR =>
      rename_i b
      have o2 : Out X.K ca μ1 H1 (rW X.K ca) Q (fun c H' => W' c σ H') (.ok (.dat (.bool (cs.any fun d => subX c d))) h1) := o1
      have st := hr1.stp (u := .tup (cs.map fun d => V.ref (ca (2 * d)))) hp
      refine ⟨b, tp, c, cs, _, rfl, st.keep b _ n.1 trivial hR, (ex.ic c ne).1, upd_same, kit_any fun d hd => ?_, o2 μ1 _ _ st (hr1.new hp) (.dat (.bl _))⟩
      obtain ⟨y, e⟩ := mem d hd
      exact (ex.kk c d y e).1
  | _ => exact o1.elim
end
end M
/-! MMain: every expression of the mini language does what it says. -/
namespace M
open PySem PySem.Spec L2
section
variable {S : Sg} {ca : Nat → Addr} {call : Nat → List W → Hh → Res W} {lv : Nat} {N : List Str} {wh : (En → Hh → Res Bool) → (En → Hh → SR) → En → Hh → SR}
theorem and2 {a b : Bool} (h : (a && b) = true) : a = true ∧ b = true := Bool.and_eq_true_iff.mp h
theorem boot_min : bootBuiltins "min" = some (.builtin "min") := by decide +kernel
theorem boot_max : bootBuiltins "max" = some (.builtin "max") := by decide +kernel
theorem boot_all : bootBuiltins "all" = some (.builtin "all") := by decide +kernel
theorem boot_sorted0 : bootBuiltins "sorted" = some (.builtin "sorted") := by decide +kernel
theorem boot_repr : bootBuiltins "repr" = some (.builtin "repr") := by decide +kernel
theorem boot_any : bootBuiltins "any" = some (.builtin "any") := by decide +kernel
theorem hu65 {k : Nat} {A : Around} (hr : Room k A) : A.units + 65 < cLine := by
  have h1 := hr.un
  omega
/-- a built-in function's rule -/
theorem fb_ok {X : Cx} {f : Fb} {m : Bool} (hg : X.A.guards = some []) (hu : X.A.units + 65 < cLine) (hc : (S.calm || decide (f = .int)) = true) (hc2 : S.calm = true → X.calm = true) (h : fbName f ≠ "?") : (∃ id, bootBuiltins (fbName f) = some (.builtin id) ∧ CallR X (.builtin id) (rC X.K ca (builtin f m))) ∨ ∃ T, bootBuiltins (fbName f) = some (.type T) ∧ CallR X (.type T) (rC X.K ca (builtin f m)) := by
  have hc : f ≠ .int → X.calm = true := fun n => hc2 (by cases q : S.calm with
    | true => rfl
    | false => rw [q] at hc; exact absurd (of_decide_eq_true (show decide (f = .int) = true from hc)) n)
  cases f with
  | abs => exact .inl ⟨_, PyProof.Rows.boot_abs, ok_abs⟩
  | len => exact .inl ⟨_, PySem.boot_len, ok_len⟩
  | all => exact .inl ⟨_, boot_all, ok_all (hc (by decide))⟩
  | any => exact .inl ⟨_, boot_any, ok_any (hc (by decide))⟩
  | int => exact .inr ⟨_, PyProof.Rows.boot_int, ok_int⟩
  | min2 => exact .inl ⟨_, boot_min, ok_min2 (hc (by decide))⟩
  | max2 => exact .inl ⟨_, boot_max, ok_max2 (hc (by decide))⟩
  | divmod => exact .inl ⟨_, PyProof.Rows.boot_divmod, ok_divmod⟩
  | tuple => exact .inr ⟨_, PyProof.Rows.boot_tuple, ok_tuple⟩
  | list => exact .inr ⟨_, PyProof.Rows.boot_list, ok_list⟩
  | str => exact .inr ⟨_, PyProof.Rows.boot_str, ok_str⟩
  | sorted => exact .inl ⟨_, boot_sorted0, ok_sorted hu⟩
  | repr => exact .inl ⟨_, boot_repr, ok_repr hg hu⟩
  | _ => exact absurd rfl h
/-- the built-in type of data -/
def tyOf : D → String
  | .none => "NoneType"
  | .bool _ => "bool"
  | .int _ => "int"
  | .str _ => "str"
  | .list _ => "list"
  | .tuple _ => "tuple"
  | .dict _ => "dict"
theorem tyx_ok {X : Cx} {μ : Mu} {H : Hp} {d : D} {x : V} (r : VR X.K μ H d x) : TyX X.K H x (.type (tyOf d)) := by
  cases r with
  | non => exact .base .non
  | bl b => exact .base (.bl b)
  | int i => exact .base (.int i)
  | str z => exact .base (.str z)
  | lst h hs =>
    rcases h.2 with q | ⟨o, q⟩
    · exact .base (.lst q)
    · exact .base (.frz q)
  | tup h hs =>
    rcases h with ⟨_, q | ⟨o, q⟩⟩ | ⟨o, its, n, q, hc, _⟩
    · exact .base (.tup q)
    · exact .fTuple q
    · exact .kTuple q hc
  | dct h hs =>
    rcases h.2 with q | ⟨o, q⟩
    · exact .base (.dK q)
    · exact .fDict q
def tyStr : Ty → String
  | .int => "int"
  | .bool => "bool"
  | .str => "str"
  | .tuple => "tuple"
  | .list => "list"
  | .dict => "dict"
  | _ => "?"
theorem kit_all (t : Ty) (ht : tyStr t ≠ "?") (d : D) : ∃ b, tyIs t (.dat d) = some b ∧ kitB (tyOf d) (tyStr t) = some b := by
  cases t <;> first | exact absurd rfl ht | skip
  all_goals cases d
  all_goals refine ⟨_, rfl, ?_⟩
  all_goals simp only [tyOf, tyStr]
  all_goals decide +kernel
theorem boot_ty (t : Ty) (ht : tyStr t ≠ "?") : bootBuiltins (tyName t) = some (.type (tyStr t)) := by
  cases t <;> first | exact absurd rfl ht | (show bootBuiltins _ = _; decide +kernel)
/-- isinstance of a caught error -/
def rIsX (K : PySem.W.Frag) (ca : Nat → Addr) : List V → Hp → VK → Prop := fun xs H Q => ∃ (a : Addr) (c : Nat) (y : V) (cv : Value) (b : Bool), xs = [.ref a, y] ∧ Rd H a (ExV (ca (2 * c)) a) ∧ ExcC K (ca (2 * c)) ∧ (∀ u, RelV y u → u = cv) ∧ PySem.W.kitOne K (.ref (ca (2 * c))) cv = some b ∧ Q (.bl b) H
theorem call_isX {X : Cx} : CallR X (.builtin "isinstance") (rIsX X.K ca) := by
  intro pins s σ H xs us Q I r h
  obtain ⟨a, c, y, cv, b, rfl, hR, C, hcv, e, q⟩ := h
  obtain ⟨u1, u2, rfl, r1, r2⟩ := vals2 r
  cases (show u1 = Value.ref a from r1)
  have ec := hcv _ r2
  subst ec
  obtain ⟨⟨oe, hget, hz, vs, hv⟩, _, _⟩ := (show ObjOk X.prog X.w H s.heap a (ExV (ca (2 * c)) a) from hR.ok I.hok)
  have J : PySem.W.InstAt s.heap a oe (ca (2 * c)) none := by
    obtain ⟨oc, od, oda, osl⟩ := oe
    obtain ⟨h1, h2⟩ := hz
    dsimp only at h1 h2 hv
    subst h1 h2 hv
    exact ⟨hget, rfl, rfl, trivial⟩
  exact PySem.W.kia_one (PySem.W.handS_kitx_exc C.hg C.hk C.hs C.hd C.ha C.hn C.ht C.hm) I.kIn J e (fun z => nomatch z) fun tk => ⟨.bl b, H, I.tok tk, rfl, q⟩
/-- isinstance, of either -/
theorem callR_or {X : Cx} {u : Value} {r r' : List V → Hp → VK → Prop} (h : CallR X u r) (h' : CallR X u r') : CallR X u (fun xs H Q => r xs H Q ∨ r' xs H Q) := fun pins s σ H xs us Q I rv z => z.elim (h pins s σ H xs us Q I rv) (h' pins s σ H xs us Q I rv)
theorem e_isi {X : Cx} {W' : Nat → L2.St → Hp → Prop} {a : Expr} {t : Ty} {y : Str} {p p2 pos : Pos} {m : En → Hh → Res W} (hg : Gl X "isinstance") (hm : X.mg "isinstance" = none) (hg2 : Gl X y) (hm2 : ∀ x, freeB S x = true → X.mg x = none) (ht : tyB S t y = true) (pa : plainE a = true)
    (ex : ExS S X.K X.mg ca) (hp : plainB y = true) (ha : PE X a (tI X.K ca W' (rW X.K ca) m)) :
    PE X (.Call (.Name "isinstance" p) [a, .Name y p2] [] pos) (tI X.K ca W' (rW X.K ca) fun e h => (m e h).bind fun x h => rb h (tyIs t x)) := by
  have key : ∃ (v : V) (cv : Value), PE X (.Name y p2) (tC v) ∧ (∀ u, RelV v u → u = cv) ∧ ((tyStr t ≠ "?" ∧ v = .ty (tyStr t) ∧ cv = .type (tyStr t)) ∨ (t = .verr ∧ v = .ty "ValueError" ∧ cv = .type "ValueError" ∧ S.excs ≠ []) ∨ ∃ d z, t = .exc d ∧ S.excs[d]? = some z ∧ cv = .ref (ca (2 * d))) := by
    have pn0 := plain_of hp
    have pn : (y == ("__debug__" : Str)) = false ∧ y ≠ ("__name__" : Str) := ⟨pn0.1, pn0.2.2⟩
    by_cases hs : tyStr t = "?"
    · cases t with
      | exc c =>
        have e := of_decide_eq_true (show decide (S.excs[c]? = some y) = true from ht)
        exact ⟨.ref (ca (2 * c)), .ref (ca (2 * c)), pe_glob hg2 (ex.gl c y e).1 rfl pn.1, fun u r => r, .inr (.inr ⟨c, y, rfl, e, rfl⟩)⟩
      | verr =>
        have h2 := and2 (show (decide (y = "ValueError") && (freeB S y && !S.excs.isEmpty)) = true from ht)
        have h3 := and2 h2.2
        have ne : S.excs ≠ [] := fun z => by have := h3.2; rw [z] at this; cases this
        have e := of_decide_eq_true h2.1
        subst e
        exact ⟨.ty "ValueError", .type "ValueError", pe_bltn hg2 (hm2 _ h3.1) (by decide +kernel) rfl pn.2 pn.1, fun u r => r, .inr (.inl ⟨rfl, rfl, rfl, ne⟩)⟩
      | _ => exact absurd hs (by decide)
    · have z : y = tyName t ∧ freeB S y = true := by
        cases t <;> first | exact absurd rfl hs | (have h2 := and2 (show (decide (_ = y) && (decide (y ≠ "?") && freeB S y)) = true from ht); exact ⟨(of_decide_eq_true h2.1).symm, (and2 h2.2).2⟩)
      obtain ⟨e, f⟩ := z
      subst e
      exact ⟨.ty (tyStr t), .type (tyStr t), pe_bltn hg2 (hm2 _ f) (boot_ty t hs) rfl pn.2 pn.1, fun u r => r, .inl ⟨hs, rfl, rfl⟩⟩
  obtain ⟨cv0, cv, h2, hcv, cases_⟩ := key
  refine (pe_callB (callR_or call_isi (call_isX (ca := ca))) hg hm PyProof.Rows.boot_isinstance (pa_cons ha (pa_cons h2 pa_nil rfl) (star_of pa)) (by decide) (by decide) (star_of pa) rfl).imp fun σ H Q q => ?_
  obtain ⟨μ, en, hh, er, hr, o⟩ := q
  refine seqI (rW X.K ca) er hr o fun μ1 H1 h1 w v s1 er1 hr1 z o1 => ?_
  obtain ⟨k, e, q⟩ := out_rb hr1 o1
  cases w with
  | dat d =>
    rcases cases_ with ⟨ht, rfl, rfl⟩ | ⟨rfl, _, _⟩ | ⟨d', _, rfl, _, _⟩
    · obtain ⟨b, e1, e2⟩ := kit_all t ht d
      rw [e1] at e
      cases e
      cases z with
      | dat z => exact .inl ⟨v, .ty (tyStr t), _, _, _, rfl, .ty _, tyx_ok z, kit_ty e2, q⟩
    · cases e
    · cases e
  | exc c =>
    cases z with
    | exc n hR =>
      rcases cases_ with ⟨ht, rfl, rfl⟩ | ⟨rfl, rfl, rfl, ne⟩ | ⟨d', z', rfl, hz, rfl⟩
      · cases t <;> first | exact absurd rfl ht | cases e
      · cases e
        exact .inr ⟨_, c, _, _, _, rfl, hR, (ex.ic c ne).1, hcv, (ex.ic c ne).2, q⟩
      · cases e
        have ne : S.excs ≠ [] := fun z => by rw [z] at hz; simp at hz
        exact .inr ⟨_, c, _, _, _, rfl, hR, (ex.ic c ne).1, hcv, (ex.kk c d' z' hz).1, q⟩
  | _ => cases e
/-- sorted(set(a)) -/
theorem texts_ok {K : PySem.W.Frag} {μ : Mu} {H : Hp} : ∀ {l : List W} {xs : List V} {ys : List Str}, WRs K ca μ H l xs → textsOf l = some ys → xs = ys.map V.str
  | [], _, _, .nil, e => by cases e; rfl
  | w :: l, _, ys, .cons r t, e => by
    cases w with
    | dat d =>
      cases d with
      | str x =>
        cases q : textsOf l with
        | none => simp [textsOf, q] at e
        | some zs =>
          simp only [textsOf, q, Option.some.injEq] at e
          subst e
          rw [List.map_cons, ← texts_ok t q, r.of_str]
      | _ => simp [textsOf] at e
    | _ => simp [textsOf] at e
theorem wrs_texts {K : PySem.W.Frag} {μ : Mu} {H : Hp} : ∀ (ys : List Str), WRs K ca μ H ((ys.map PyData.str).map .dat) (ys.map V.str)
  | [] => .nil
  | y :: ys => .cons (.dat (.str y)) (wrs_texts ys)
theorem keyRows_ok {ds : List D} (h : keyRowsB ds = true) : keysB ds = true ∧ ds.length < 64 ∧ RowsD ds := by
  have h1 := Bool.and_eq_true_iff.mp h
  have h2 := Bool.and_eq_true_iff.mp h1.2
  have h3 := Bool.and_eq_true_iff.mp h2.2
  have h4 := Bool.and_eq_true_iff.mp h3.2
  have h5 := Bool.and_eq_true_iff.mp h4.2
  have dep := of_decide_eq_true h4.1
  refine ⟨h1.1, of_decide_eq_true h2.1, fun d m => lay_of h3.1 d m, fun d m => dep_of dep d m, fun x mx y my => List.all_eq_true.mp (List.all_eq_true.mp h5.2 x mx) y my, ?_⟩
  rcases Bool.or_eq_true_iff.mp h5.1 with h | h
  · refine .inl fun d m => ?_
    have q := List.all_eq_true.mp h d m
    unfold hdStrD at q
    split at q
    · exact ⟨_, _, rfl⟩
    · cases q
  · refine .inr fun d m => ?_
    have q := List.all_eq_true.mp h d m
    unfold hdIntD at q
    split at q
    · exact ⟨_, _, rfl⟩
    · cases q
theorem sset_case {K : PySem.W.Frag} {μ : Mu} {H1 : Hp} {h1 : Hh} {w : W} {v : V} {b : Bool} {Q : VK} {E : Nat → Hp → Prop} (hr1 : HR K ca μ H1 h1) (z : WR K ca μ H1 w v) (o1 : Out K ca μ H1 (rW K ca) Q E (sortSet b w h1)) :
    (∃ (l : Addr) (xs : List Str), v = .ref l ∧ SqL K H1 l (xs.map V.str) ∧ xs.length < 1000 ∧ ∀ (ys : List Str) (p : Addr), ys.Perm (gather [] xs) → PyProof.Rows.sortedS ys = true → H1 p = none → Q (.ref p) (upd H1 p (.lst (ys.map V.str)))) ∨
    (∃ (a : Addr) (xs : List V) (ds : List D), v = .ref a ∧ (SqL K H1 a xs ∨ SqT K H1 a xs) ∧ DpAll K H1 xs ds ∧ keysB ds = true ∧ ds.length < 64 ∧ RowsD ds ∧
      ∀ (ys : List V) (p : Addr), Paired (Of xs ds) (sortD (uniqK [] ds)) ys → H1 p = none → Q (.ref p) (upd H1 p (.lst ys))) := by
  have keys : Out K ca μ H1 (rW K ca) Q E (sortKeys b w h1) → (∃ (a : Addr) (xs : List V) (ds : List D), v = .ref a ∧ (SqL K H1 a xs ∨ SqT K H1 a xs) ∧ DpAll K H1 xs ds ∧ keysB ds = true ∧ ds.length < 64 ∧ RowsD ds ∧
      ∀ (ys : List V) (p : Addr), Paired (Of xs ds) (sortD (uniqK [] ds)) ys → H1 p = none → Q (.ref p) (upd H1 p (.lst ys))) := fun o => by
    cases e : srcD h1 w with
    | none => simp only [sortKeys, e] at o; exact o.elim
    | some ds =>
      simp only [sortKeys, e] at o
      obtain ⟨c, o⟩ := out_if o
      obtain ⟨a, ys, rfl, r1, r2⟩ := srcD_ok hr1 z e
      obtain ⟨c1, c2, c3⟩ := keyRows_ok c
      refine ⟨a, ys, ds, rfl, r2, r1.dp (lays_of c3.lay), c1, c2, c3, fun zs p pr hp => out_mkLst hr1 ?_ o hp⟩
      clear o
      generalize sortD (uniqK [] ds) = ss at pr
      induction pr with
      | nil => exact .nil
      | cons q _ ih =>
        obtain ⟨i, q1, q2⟩ := q
        exact .cons (.dat (vrs_get r1 q2 q1)) ih
  cases e : lstOf h1 w with
  | none => simp only [sortSet, e] at o1; exact .inr (keys o1)
  | some l =>
    cases e2 : textsOf l with
    | none => simp only [sortSet, e, e2] at o1; exact .inr (keys o1)
    | some xs =>
      simp only [sortSet, e, e2] at o1
      obtain ⟨c, o1⟩ := out_if o1
      obtain ⟨p, ys, rfl, w2, s⟩ := lst_ok2 hr1 z e
      have ex := texts_ok w2 e2
      subst ex
      refine .inl ⟨p, xs, rfl, s, of_decide_eq_true c, fun ys t pm so ht => ?_⟩
      have eq : sortD ((gather [] xs).map PyData.str) = ys.map PyData.str := sort_texts pm so
      rw [eq] at o1
      exact out_mkLst hr1 (wrs_texts ys) o1 ht
theorem e_sset {X : Cx} {W' : Nat → L2.St → Hp → Prop} {a : Expr} {b : Bool} {p1 p2 p3 p4 : Pos} {m : En → Hh → Res W} (hg : Gl X "sorted") (hm : X.mg "sorted" = none) (hg2 : Gl X "set") (hm2 : X.mg "set" = none) (hc : X.calm = true) (hu : X.A.units + 65 < cLine) (pa : plainE a = true)
    (ha : PE X a (tI X.K ca W' (rW X.K ca) m)) :
    PE X (.Call (.Name "sorted" p1) [.Call (.Name "set" p2) [a] [] p3] [] p4) (tI X.K ca W' (rW X.K ca) fun e h => (m e h).bind fun x h => sortSet b x h) := by
  refine (pe_sortSet2 hg hm hg2 hm2 ha hc hu (star_of pa)).imp fun σ H Q q => ?_
  obtain ⟨μ, en, hh, er, hr, o⟩ := q
  refine seqI (rW X.K ca) er hr o fun μ1 H1 h1 w v s1 er1 hr1 z o1 => ?_
  exact sset_case hr1 z o1
theorem e_lset {X : Cx} {W' : Nat → L2.St → Hp → Prop} {a : Expr} {p1 p2 p3 p4 : Pos} {m : En → Hh → Res W} (hg : Gl X "len") (hm : X.mg "len" = none) (hg2 : Gl X "set") (hm2 : X.mg "set" = none) (hc : X.calm = true) (pa : plainE a = true)
    (ha : PE X a (tI X.K ca W' (rW X.K ca) m)) :
    PE X (.Call (.Name "len" p1) [.Call (.Name "set" p2) [a] [] p3] [] p4) (tI X.K ca W' (rW X.K ca) fun e h => (m e h).bind fun x h => lenSet x h) := by
  refine (pe_lenSet hg hm hg2 hm2 ha hc (star_of pa)).imp fun σ H Q q => ?_
  obtain ⟨μ, en, hh, er, hr, o⟩ := q
  refine seqI (rW X.K ca) er hr o fun μ1 H1 h1 w v s1 er1 hr1 z o1 => ?_
  cases e : lstOf h1 w with
  | none => simp only [lenSet, e] at o1; exact o1.elim
  | some l =>
    cases e2 : textsOf l with
    | none => simp only [lenSet, e, e2] at o1; exact o1.elim
    | some xs =>
      simp only [lenSet, e, e2] at o1
      obtain ⟨c, o1⟩ := out_if o1
      obtain ⟨p, ys, rfl, w2, s⟩ := lst_ok2 hr1 z e
      have ex := texts_ok w2 e2
      subst ex
      exact ⟨p, xs, rfl, s, of_decide_eq_true c, o1.now hr1 .int⟩
theorem few_of {cpos : Pos} {env : Env} {l : List Expr} (h : ∀ e ∈ l, plainE e = true) (hl : l.length < 30) : ((backTo cpos (starEach l env)).all (fun x => !x.1) && (backToKw cpos (keywordEach [] env)).all (fun x => x.1.isSome)
    && decide (l.length + ([] : List Keyword).length + (if ([] : List Keyword).isEmpty then 0 else 1) < 30)) = true := by
  have z := star_none (pos := cpos) (env := env) h
  have a : (backTo cpos (starEach l env)).all (fun x => !x.1) = true := by
    rw [List.all_eq_true]
    intro x hx
    rw [List.any_eq_false] at z
    have := z x hx
    cases q : x.1 with
    | false => rfl
    | true => exact absurd q this
  have b : decide (l.length + ([] : List Keyword).length + (if ([] : List Keyword).isEmpty then 0 else 1) < 30) = true := decide_eq_true (by simpa using hl)
  rw [a, b]
  rfl
theorem e_bmt {X : Cx} {W' : Nat → L2.St → Hp → Prop} {o e0 : Expr} {l : List Expr} {apos cpos : Pos} {f : Mb} {m : En → Hh → Res W} {n : En → Hh → Res (List W)} (hu : X.A.units + 65 < cLine) (hf : bmName f ≠ "?") (hb : baseB o = true) (hl : (e0 :: l).length < 30) (pl : ∀ e ∈ e0 :: l, plainE e = true) (li : apos.endLine = cpos.line)
    (ho : PE X o (tI X.K ca W' (rW X.K ca) m)) (ha : PA X (e0 :: l) (tI X.K ca W' (rWs X.K ca) n)) :
    PE X (.Call (.Attribute o (bmName f) apos) (e0 :: l) [] cpos) (tI X.K ca W' (rW X.K ca) fun e h => (m e h).bind fun x h => if bmIs f x h = true then (n e h).bind fun ws h => bmeth f x ws h else .bad) := by
  have B := bm_ok (X := X) (ca := ca) hu hf
  refine (pe_bm B.pa B.slot B.ty B.run ho ha (base_of hb) (few_of pl hl) (by rw [li]; exact beq_self_eq_true _) (star_of (pl e0 List.mem_cons_self)) (star_none fun x z => pl x (List.mem_cons_of_mem _ z))).imp fun σ H Q q => ?_
  obtain ⟨μ, en, hh, er, hr, o⟩ := q
  refine seqI (rW X.K ca) er hr o fun μ1 H1 h1 w x s1 er1 hr1 z o1 => ?_
  obtain ⟨c, o1⟩ := out_if o1
  refine ⟨bm_ty hr1 z c, ?_⟩
  refine seqI (rWs X.K ca) er1 hr1 o1 fun μ2 H2 h2 ws xs s2 er2 hr2 zs o2 => ?_
  refine ⟨μ2, h2, w, ws, hr2, z.mono s2, zs, ?_⟩
  cases q : bmeth f w ws h2 with
  | ok a h' => rw [q] at o2; exact o2
  | exc c h' => exact absurd q bmeth_ne
  | bad => rw [q] at o2; exact o2
theorem e_bmt0 {X : Cx} {W' : Nat → L2.St → Hp → Prop} {o : Expr} {apos cpos : Pos} {f : Mb} {m : En → Hh → Res W} (hu : X.A.units + 65 < cLine) (hf : bmName f ≠ "?") (hb : baseB o = true) (li : apos.endLine = cpos.line) (ho : PE X o (tI X.K ca W' (rW X.K ca) m)) :
    PE X (.Call (.Attribute o (bmName f) apos) [] [] cpos) (tI X.K ca W' (rW X.K ca) fun e h => (m e h).bind fun x h => if bmIs f x h = true then bmeth f x [] h else .bad) := by
  have B := bm_ok (X := X) (ca := ca) hu hf
  refine (pe_bm0 B.pa B.slot B.ty B.run ho (base_of hb) (by rw [li]; exact beq_self_eq_true _)).imp fun σ H Q q => ?_
  obtain ⟨μ, en, hh, er, hr, o⟩ := q
  refine seqI (rW X.K ca) er hr o fun μ1 H1 h1 w x s1 er1 hr1 z o1 => ?_
  obtain ⟨c, o1⟩ := out_if o1
  refine ⟨bm_ty hr1 z c, μ1, h1, w, [], hr1, z, .nil, ?_⟩
  cases q : bmeth f w [] h1 with
  | ok a h' => rw [q] at o1; exact o1
  | exc c h' => exact absurd q bmeth_ne
  | bad => rw [q] at o1; exact o1
/-- {} -/
theorem e_dict {X : Cx} {W' : Nat → L2.St → Hp → Prop} {pos : Pos} : PE X (.Dict [] [] pos) (tI X.K ca W' (rW X.K ca) fun _ h => .ok (.dat (.dict [])) h) :=
  pe_dnewK.imp fun σ H Q ⟨μ, en, hh, er, hr, o⟩ => fun p hp => by
    have st : Stp μ H μ (upd H p (.dK [])) := hr.stp hp
    exact o μ _ _ st (hr.new hp) (.dat (.dct ⟨⟨fun z => hr.live p z hp, fun z => hr.livx p z hp⟩, .inl upd_same⟩ .nil))
theorem VRs.rev {K : PySem.W.Frag} {μ : Mu} {H : Hp} {ds : List D} {xs : List V} (z : VRs K μ H ds xs) : VRs K μ H ds.reverse xs.reverse := by
  have key : ∀ {a b : List D} {xs ys : List V}, VRs K μ H a xs → VRs K μ H b ys → VRs K μ H (a.reverseAux b) (xs.reverseAux ys) := by
    intro a
    induction a with
    | nil => intro b xs ys h1 h2; cases h1; exact h2
    | cons d a ih => intro b xs ys h1 h2; cases h1 with | cons r t => have z := ih t (.cons r h2); exact z
  exact key z .nil
theorem WRs.rev {K : PySem.W.Frag} {μ : Mu} {H : Hp} {ws : List W} {xs : List V} (z : WRs K ca μ H ws xs) : WRs K ca μ H ws.reverse xs.reverse := by
  have key : ∀ {a b : List W} {xs ys : List V}, WRs K ca μ H a xs → WRs K ca μ H b ys → WRs K ca μ H (a.reverseAux b) (xs.reverseAux ys) := by
    intro a
    induction a with
    | nil => intro b xs ys h1 h2; cases h1; exact h2
    | cons d a ih => intro b xs ys h1 h2; cases h1 with | cons r t => have z := ih t (.cons r h2); exact z
  exact key z .nil
/-- a[::-1] -/
theorem e_rev {X : Cx} {W' : Nat → L2.St → Hp → Prop} {e : Expr} {m : En → Hh → Res W} {k : Nat} {p1 p2 p3 pos : Pos} (he : PE X e (tI X.K ca W' (rW X.K ca) m)) :
    PE X (.Subscript e (.Slice none none (some (.UnaryOp .USub (.Constant (.int 1) k p1) p2)) p3) pos) (tI X.K ca W' (rW X.K ca) fun e h => (m e h).bind fun x h => revW x h) := by
  refine (pe_rev he).imp fun σ H Q q => ?_
  obtain ⟨μ, en, hh, er, hr, o⟩ := q
  refine seqI (rW X.K ca) er hr o fun μ1 H1 h1 w x s1 er1 hr1 z o1 => ?_
  cases w with
  | dat d =>
    cases d with
    | tuple l =>
      obtain ⟨a, xs, rfl, t1, t2⟩ := z.of_tup
      exact .inr ⟨a, xs, rfl, t1.sq, fun p hp => o1 μ1 _ _ (hr1.stp hp) (hr1.new hp) (.dat (VR.newTup ⟨_, hr1⟩ hp t2.rev))⟩
    | list l =>
      obtain ⟨a, xs, rfl, t1, t2⟩ := z.of_list
      exact .inl ⟨a, xs, rfl, t1.sq, fun p hp => o1 μ1 _ _ (hr1.stp hp) (hr1.new hp) (.dat (VR.newLst ⟨_, hr1⟩ hp t2.rev))⟩
    | _ => exact (show False from o1).elim
  | ref n =>
    cases z with
    | ref hn =>
      rename_i a
      cases q : h1[n]? with
      | none => simp only [revW, q] at o1; exact o1.elim
      | some ob =>
        cases ob with
        | lst l =>
          simp only [revW, q] at o1
          obtain ⟨xs, y1, y2⟩ := hr1.ob n _ a q hn
          exact .inl ⟨a, xs, rfl, SqL.of y1, fun p hp => out_mkLst hr1 (WRs.rev y2) o1 hp⟩
        | _ => simp only [revW, q] at o1; exact o1.elim
  | _ => exact (show False from o1).elim
theorem rev_inv {sc : Scope} {a : CE} {v s : Expr} {p : Pos} (h : chkE S N sc (.rev a) (.Subscript v s p) = true) : ∃ j p1 p2 p3, s = .Slice none none (some (.UnaryOp .USub (.Constant (.int 1) j p1) p2)) p3 ∧ chkE S N sc a v = true := by
  cases s with
  | Slice l u st p3 =>
    cases l with
    | some _ => unfold chkE at h; simp at h
    | none =>
      cases u with
      | some _ => unfold chkE at h; simp at h
      | none =>
        cases st with
        | none => unfold chkE at h; simp at h
        | some e =>
          cases e with
          | UnaryOp op e1 p2 =>
            cases e1 with
            | Constant c j p1 =>
              cases c with
              | int i =>
                unfold chkE at h
                have h2 := and2 h
                have h3 := and2 h2.2
                obtain rfl := of_decide_eq_true h2.1
                obtain rfl := of_decide_eq_true h3.1
                exact ⟨j, p1, p2, p3, rfl, h3.2⟩
              | _ => unfold chkE at h; simp at h
            | _ => unfold chkE at h; simp at h
          | _ => unfold chkE at h; simp at h
  | _ => unfold chkE at h; simp at h
theorem bmt_inv {sc : Scope} {f : Mb} {b : Bool} {a : CE} {es : CEs} {fn : Expr} {l : List Expr} {kw : List Keyword} {p : Pos} (h : chkE S N sc (.bmt f b a es) (.Call fn l kw p) = true) : ∃ o x apos, fn = .Attribute o x apos ∧ kw = [] ∧
    (decide (bmName f = x) && (decide (x ≠ "?") && (decide (apos.endLine = p.line) && (baseB o && (decide (l.length < 30) && (decide (es.len = bmMany f) && (decide (l.length = bmMany f) && (chkE S N sc a o && chkEs S N sc es l)))))))) = true := by
  cases fn with
  | Attribute o x apos =>
    cases kw with
    | nil => exact ⟨o, x, apos, rfl, rfl, by unfold chkE at h; exact h⟩
    | cons _ _ => unfold chkE at h; simp at h
  | _ => unfold chkE at h; simp at h
theorem opB_eq {con : Bool} {op : BoolOp} (h : decide (op = if con then .And else .Or) = true) : op = opB con := of_decide_eq_true h
theorem chkEs_len {sc : Scope} : ∀ {es : CEs} {l : List Expr}, chkEs S N sc es l = true → es.len = l.length
  | .nil, [], _ => rfl
  | .cons a es, e :: l, h => by
    unfold chkEs at h
    show es.len + 1 = l.length + 1
    rw [chkEs_len (and2 h).2]
  | .nil, _ :: _, h => by simp [chkEs] at h
  | .cons _ _, [], h => by simp [chkEs] at h
theorem evs_len {C : Cc} : ∀ {es : CEs} {e : En} {h : Hh} {ws : List W} {h' : Hh}, evs C es e h = .ok ws h' → ws.length = es.len
  | .nil, e, h, ws, h', q => by
    unfold evs at q
    cases q
    rfl
  | .cons a es, e, h, ws, h', q => by
    unfold evs at q
    cases q1 : ev C a e h with
    | ok x h1 =>
      rw [q1, Res.bind_ok] at q
      cases q2 : evs C es e h1 with
      | ok xs h2 =>
        rw [q2, Res.bind_ok] at q
        cases q
        show xs.length + 1 = es.len + 1
        rw [evs_len q2]
      | exc c h2 => rw [q2] at q; cases q
      | bad => rw [q2] at q; cases q
    | exc c h1 => rw [q1] at q; cases q
    | bad => rw [q1] at q; cases q
theorem methB_inv {c : Nat} {m : Str} {f n : Nat} (h : methB S c m f n = true) : ∃ d, S.T[f]? = some d ∧ d.cls = some c ∧ d.name = m ∧ n + 1 = d.pars ∧ c < S.clss.length := by
  unfold methB at h
  cases e : S.T[f]? with
  | none => rw [e] at h; cases h
  | some d =>
    rw [e] at h
    have h2 := and2 h
    have h3 := and2 h2.2
    have h4 := and2 h3.2
    exact ⟨d, rfl, of_decide_eq_true h2.1, of_decide_eq_true h3.1, of_decide_eq_true h4.1, of_decide_eq_true h4.2⟩
theorem meth_inv {sc : Scope} {a : CE} {c f : Nat} {m : Str} {es : CEs} {fn : Expr} {l : List Expr} {kw : List Keyword} {p : Pos} (h : chkE S N sc (.meth a c m f es) (.Call fn l kw p) = true) : ∃ o apos, fn = .Attribute o m apos ∧ kw = [] ∧
    (methB S c m f es.len && (decide (apos.endLine = p.line) && (baseB o && (decide (l.length < 30) && (S.calm && (chkE S N sc a o && chkEs S N sc es l)))))) = true := by
  cases fn with
  | Attribute o g apos =>
    cases kw with
    | nil =>
      unfold chkE at h
      have h2 := and2 h
      have e : m = g := of_decide_eq_true h2.1
      subst e
      exact ⟨o, apos, rfl, rfl, h2.2⟩
    | cons _ _ => unfold chkE at h; simp at h
  | _ => unfold chkE at h; simp at h
theorem mk_inv {sc : Scope} {c f : Nat} {es : CEs} {fn : Expr} {l : List Expr} {kw : List Keyword} {p : Pos} (h : chkE S N sc (.mk c f es) (.Call fn l kw p) = true) : ∃ x p1, fn = .Name x p1 ∧ kw = [] ∧
    (mkB S c x f es.len && (gloB sc x && (plainB x && (S.calm && chkEs S N sc es l)))) = true := by
  cases fn with
  | Name x p1 =>
    cases kw with
    | nil =>
      unfold chkE at h
      exact ⟨x, p1, rfl, rfl, h⟩
    | cons _ _ => unfold chkE at h; simp at h
  | _ => unfold chkE at h; simp at h
theorem Cok.blk {sc : Scope} {X : Cx} {Wx : WX} (k : Cok S ca call lv N sc X Wx) (s : Shared) (H : Hp) (scope : Scope) (cl : List (Str × Addr)) (C : Addr) (fp : List Addr) :
    Cok S ca call lv N (relS scope sc) (X.blk s H scope (compEnvC scope cl C X.env) fp) (fun _ _ _ _ => False) :=
  ⟨k.eN, k.nd, by rw [← k.esc]; rfl, k.calm, k.un, k.gd, k.room, k.free, k.glb, k.fns, k.mts, k.exS, k.clS, takes0⟩
theorem fold_of {e : Expr} {env : Env} (h : plainE e = true) : ∀ x, foldedSetIterable e env x = pure x := by
  intro x
  cases e <;> first | rfl | cases h
theorem chkI_plain {sc : Scope} {c : CI} {e : Expr} (h : chkI S N sc c e = true) : plainE e = true := by
  cases c with
  | ex a => exact chkE_plain (show chkE S N sc a e = true from by unfold chkI at h; exact h)
  | rng1 b => unfold chkI at h; cases e <;> first | rfl | simp at h
  | rng2 a b => unfold chkI at h; cases e <;> first | rfl | simp at h
  | enm a => unfold chkI at h; cases e <;> first | rfl | simp at h
  | zip2 a b => unfold chkI at h; cases e <;> first | rfl | simp at h
theorem isis_inv {sc : Scope} {a : CE} {cs : List Nat} {fn : Expr} {l : List Expr} {kw : List Keyword} {p : Pos} (h : chkE S N sc (.isis a cs) (.Call fn l kw p) = true) : ∃ f p1 e0 ys k2 p2, fn = .Name f p1 ∧ l = [e0, .Tuple ys k2 p2] ∧ kw = [] ∧
    (decide (f = "isinstance") && (freeB S f && (gloB sc f && (decide (cs.length ≤ 1000) && (!S.excs.isEmpty && (excsB S sc cs ys && chkE S N sc a e0)))))) = true := by
  cases fn with
  | Name f p1 =>
    cases kw with
    | nil =>
      match l, h with
      | [e0, e1], h =>
        cases e1 with
        | Tuple ys k2 p2 => exact ⟨f, p1, e0, ys, k2, p2, rfl, rfl, rfl, by unfold chkE at h; exact h⟩
        | _ => unfold chkE at h; simp at h
      | [], h => unfold chkE at h; simp at h
      | [_], h => unfold chkE at h; simp at h
      | _ :: _ :: _ :: _, h => unfold chkE at h; simp at h
    | cons _ _ => unfold chkE at h; simp at h
  | _ => unfold chkE at h; simp at h
theorem evs_two {C : Cc} {a b : CE} {es : CEs} {e : En} {h : Hh} : evs C (.cons a (.cons b es)) e h = (ev C a e h).bind fun x h => (ev C b e h).bind fun y h => (evs C es e h).bind fun ws h => .ok (x :: y :: ws) h := by
  show ((ev C a e h).bind fun x h => ((ev C b e h).bind fun y h => (evs C es e h).bind fun ws h => .ok (y :: ws) h).bind fun xs h => .ok (x :: xs) h) = _
  cases ev C a e h with
  | ok x h1 =>
    show ((ev C b e h1).bind fun y h => (evs C es e h).bind fun ws h => .ok (y :: ws) h).bind (fun xs h => .ok (x :: xs) h) = (ev C b e h1).bind fun y h => (evs C es e h).bind fun ws h => .ok (x :: y :: ws) h
    cases ev C b e h1 with
    | ok y h2 =>
      show ((evs C es e h2).bind fun ws h => .ok (y :: ws) h).bind (fun xs h => .ok (x :: xs) h) = (evs C es e h2).bind fun ws h => .ok (x :: y :: ws) h
      cases evs C es e h2 <;> rfl
    | _ => rfl
  | _ => rfl
theorem dtab_eq {op i : Nat} {a : CE} {l : List (D × D)} (g : (S.cc call wh).glb i = some (.dict l)) : ev (S.cc call wh) (.dtab op i a) = fun e h => (ev (S.cc call wh) a e h).bind fun w h => tabW op (some (.dict l)) w h := by
  funext e h
  rw [← g]
  rfl
theorem tabC_inv {sc : Scope} {op i : Nat} {a : CE} {l : Expr} {os : List CmpOp} {rs : List Expr} {p : Pos} (h : chkE S N sc (.dtab op i a) (.Compare l os rs p) = true) : ∃ o x p1, os = [o] ∧ rs = [.Name x p1] ∧
    (((decide (op = 0) && decide (o = .In)) || (decide (op = 1) && decide (o = .NotIn))) && (isDic S i x && (gloB sc x && (plainB x && (!behindInMarks o (.Name x p1) && chkE S N sc a l))))) = true := by
  match os, rs, h with
  | [o], [r], h =>
    cases r with
    | Name x p1 => exact ⟨o, x, p1, rfl, rfl, by unfold chkE at h; exact h⟩
    | _ => unfold chkE at h; simp at h
  | [], _, h => unfold chkE at h; simp at h
  | _ :: _ :: _, _, h => unfold chkE at h; simp at h
  | [_], [], h => unfold chkE at h; simp at h
  | [_], _ :: _ :: _, h => unfold chkE at h; simp at h
theorem tabS_inv {sc : Scope} {op i : Nat} {a : CE} {v s : Expr} {p : Pos} (h : chkE S N sc (.dtab op i a) (.Subscript v s p) = true) : ∃ x p1, v = .Name x p1 ∧ (decide (op = 2) && (isDic S i x && (gloB sc x && (plainB x && chkE S N sc a s)))) = true := by
  cases v with
  | Name x p1 => exact ⟨x, p1, rfl, by unfold chkE at h; exact h⟩
  | _ => unfold chkE at h; simp at h
theorem tabG_inv {sc : Scope} {op i : Nat} {a : CE} {fn : Expr} {l : List Expr} {kw : List Keyword} {p : Pos} (h : chkE S N sc (.dtab op i a) (.Call fn l kw p) = true) : ∃ x p1 ap e0, fn = .Attribute (.Name x p1) "get" ap ∧ l = [e0] ∧ kw = [] ∧
    (decide (op = 3) && (decide (ap.endLine = p.line) && (isDic S i x && (gloB sc x && (plainB x && chkE S N sc a e0))))) = true := by
  cases fn with
  | Attribute o g ap =>
    cases o with
    | Name x p1 =>
      cases kw with
      | nil =>
        match l, h with
        | [e0], h =>
          unfold chkE at h
          have h2 := and2 h
          have h3 := and2 h2.2
          cases of_decide_eq_true h3.1
          exact ⟨x, p1, ap, e0, rfl, rfl, rfl, Bool.and_eq_true_iff.mpr ⟨h2.1, h3.2⟩⟩
        | [], h => unfold chkE at h; simp at h
        | _ :: _ :: _, h => unfold chkE at h; simp at h
      | cons _ _ => unfold chkE at h; simp at h
    | _ => unfold chkE at h; simp at h
  | _ => unfold chkE at h; simp at h
theorem isi_inv {sc : Scope} {a : CE} {t : Ty} {fn : Expr} {l : List Expr} {kw : List Keyword} {p : Pos} (h : chkE S N sc (.isi a t) (.Call fn l kw p) = true) : ∃ f p1 e0 y p2, fn = .Name f p1 ∧ l = [e0, .Name y p2] ∧ kw = [] ∧
    (decide (f = "isinstance") && (freeB S f && (gloB sc f && (tyB S t y && (gloB sc y && (plainB y && chkE S N sc a e0)))))) = true := by
  cases fn with
  | Name f p1 =>
    cases kw with
    | nil =>
      match l, h with
      | [e0, e1], h =>
        cases e1 with
        | Name y p2 => exact ⟨f, p1, e0, y, p2, rfl, rfl, rfl, by unfold chkE at h; exact h⟩
        | _ => unfold chkE at h; simp at h
      | [], h => unfold chkE at h; simp at h
      | [_], h => unfold chkE at h; simp at h
      | _ :: _ :: _ :: _, h => unfold chkE at h; simp at h
    | cons _ _ => unfold chkE at h; simp at h
  | _ => unfold chkE at h; simp at h
theorem rng1_inv {sc : Scope} {b : CE} {fn : Expr} {l : List Expr} {kw : List Keyword} {p : Pos} (h : chkI S N sc (.rng1 b) (.Call fn l kw p) = true) : ∃ f p1 e0, fn = .Name f p1 ∧ l = [e0] ∧ kw = [] ∧
    (decide (f = "range") && (freeB S f && (gloB sc f && chkE S N sc b e0))) = true := by
  cases fn with
  | Name f p1 =>
    cases kw with
    | nil =>
      match l, h with
      | [e0], h => exact ⟨f, p1, e0, rfl, rfl, rfl, by unfold chkI at h; exact h⟩
      | [], h => unfold chkI at h; simp at h
      | _ :: _ :: _, h => unfold chkI at h; simp at h
    | cons _ _ => unfold chkI at h; simp at h
  | _ => unfold chkI at h; simp at h
theorem rng2_inv {sc : Scope} {a b : CE} {fn : Expr} {l : List Expr} {kw : List Keyword} {p : Pos} (h : chkI S N sc (.rng2 a b) (.Call fn l kw p) = true) : ∃ f p1 e0 e1, fn = .Name f p1 ∧ l = [e0, e1] ∧ kw = [] ∧
    (decide (f = "range") && (freeB S f && (gloB sc f && (chkE S N sc a e0 && chkE S N sc b e1)))) = true := by
  cases fn with
  | Name f p1 =>
    cases kw with
    | nil =>
      match l, h with
      | [e0, e1], h => exact ⟨f, p1, e0, e1, rfl, rfl, rfl, by unfold chkI at h; exact h⟩
      | [], h => unfold chkI at h; simp at h
      | [_], h => unfold chkI at h; simp at h
      | _ :: _ :: _ :: _, h => unfold chkI at h; simp at h
    | cons _ _ => unfold chkI at h; simp at h
  | _ => unfold chkI at h; simp at h
theorem zip2_inv {sc : Scope} {a b : CE} {fn : Expr} {l : List Expr} {kw : List Keyword} {p : Pos} (h : chkI S N sc (.zip2 a b) (.Call fn l kw p) = true) : ∃ f p1 e0 e1, fn = .Name f p1 ∧ l = [e0, e1] ∧ kw = [] ∧
    (decide (f = "zip") && (freeB S f && (gloB sc f && (chkE S N sc a e0 && chkE S N sc b e1)))) = true := by
  cases fn with
  | Name f p1 =>
    cases kw with
    | nil =>
      match l, h with
      | [e0, e1], h => exact ⟨f, p1, e0, e1, rfl, rfl, rfl, by unfold chkI at h; exact h⟩
      | [], h => unfold chkI at h; simp at h
      | [_], h => unfold chkI at h; simp at h
      | _ :: _ :: _ :: _, h => unfold chkI at h; simp at h
    | cons _ _ => unfold chkI at h; simp at h
  | _ => unfold chkI at h; simp at h
theorem sset_inv {b : Bool} {a : CE} {e : Expr} {sc : Scope} (h : chkE S N sc (.sset b a) e = true) : ∃ x y p1 p2 p3 p4 e0, e = .Call (.Name x p1) [.Call (.Name y p2) [e0] [] p3] [] p4 ∧ (decide (x = "sorted") && (decide (y = "set") && (freeB S x && (freeB S y && (gloB sc x && (gloB sc y && (S.calm && chkE S N sc a e0))))))) = true := by
  cases e with
  | Call fn l kw p4 =>
    cases fn with
    | Name x p1 =>
      cases kw with
      | nil =>
        match l, h with
        | [e1], h =>
          cases e1 with
          | Call fn2 l2 kw2 p3 =>
            cases fn2 with
            | Name y p2 =>
              cases kw2 with
              | nil =>
                match l2, h with
                | [e0], h => exact ⟨x, y, p1, p2, p3, p4, e0, rfl, by unfold chkE at h; exact h⟩
                | [], h => unfold chkE at h; simp at h
                | _ :: _ :: _, h => unfold chkE at h; simp at h
              | cons _ _ => unfold chkE at h; simp at h
            | _ => unfold chkE at h; simp at h
          | _ => unfold chkE at h; simp at h
        | [], h => unfold chkE at h; simp at h
        | _ :: _ :: _, h => unfold chkE at h; simp at h
      | cons _ _ => unfold chkE at h; simp at h
    | _ => unfold chkE at h; simp at h
  | _ => unfold chkE at h; simp at h
theorem lset_inv {a : CE} {e : Expr} {sc : Scope} (h : chkE S N sc (.lset a) e = true) : ∃ x y p1 p2 p3 p4 e0, e = .Call (.Name x p1) [.Call (.Name y p2) [e0] [] p3] [] p4 ∧ (decide (x = "len") && (decide (y = "set") && (freeB S x && (freeB S y && (gloB sc x && (gloB sc y && (S.calm && chkE S N sc a e0))))))) = true := by
  cases e with
  | Call fn l kw p4 =>
    cases fn with
    | Name x p1 =>
      cases kw with
      | nil =>
        match l, h with
        | [e1], h =>
          cases e1 with
          | Call fn2 l2 kw2 p3 =>
            cases fn2 with
            | Name y p2 =>
              cases kw2 with
              | nil =>
                match l2, h with
                | [e0], h => exact ⟨x, y, p1, p2, p3, p4, e0, rfl, by unfold chkE at h; exact h⟩
                | [], h => unfold chkE at h; simp at h
                | _ :: _ :: _, h => unfold chkE at h; simp at h
              | cons _ _ => unfold chkE at h; simp at h
            | _ => unfold chkE at h; simp at h
          | _ => unfold chkE at h; simp at h
        | [], h => unfold chkE at h; simp at h
        | _ :: _ :: _, h => unfold chkE at h; simp at h
      | cons _ _ => unfold chkE at h; simp at h
    | _ => unfold chkE at h; simp at h
  | _ => unfold chkE at h; simp at h
mutual
theorem sndE : ∀ (c : CE) {e : Expr} {sc : Scope} {X : Cx} {Wx : WX}, Cok S ca call lv N sc X Wx → chkE S N sc c e = true →
    PE X e (tI X.K ca (wI ca Wx) (rW X.K ca) (ev (S.cc call wh) c)) ∧ PT X e (tI X.K ca (wI ca Wx) rB fun e h => toB (ev (S.cc call wh) c e h))
  | .var i, e, sc, X, Wx, k, h => by
    cases e with
    | Name x p =>
      unfold chkE at h
      have h2 := and2 h
      have z : PE X (.Name x p) (tI X.K ca (wI ca Wx) (rW X.K ca) (ev (S.cc call wh) (.var i))) := e_var (by rw [k.eN]; exact of_decide_eq_true h2.1) (by rw [k.esc]; exact vis_of (and2 h2.2).1) (and2 h2.2).2
      exact ⟨z, pt_of z⟩
    | _ => unfold chkE at h; simp at h
  | .glb i, e, sc, X, Wx, k, h => by
    cases e with
    | Name x p =>
      unfold chkE at h
      have h2 := and2 h
      have h22 := and2 h2.2
      have h3 := and2 h22.2
      have z : PE X (.Name x p) (tI X.K ca (wI ca Wx) (rW X.K ca) (ev (S.cc call wh) (.glb i))) := by
        obtain ⟨⟨y, d⟩, e1, e2⟩ := Option.map_eq_some_iff.mp (of_decide_eq_true h2.1)
        have e2 : y = x := e2
        subst e2
        have nd := h22.1
        unfold noDic at nd
        rw [e1] at nd
        obtain ⟨u, v, m1, r1, r2⟩ : ∃ u v, X.mg y = some u ∧ RelV v u ∧ ∀ μ H, VR X.K μ H d v := by
          have z := k.glb i y d e1
          cases d with
          | dict l => cases nd
          | _ => exact z
        refine (pe_glob (by rw [Gl, Env.kindOf, k.esc]; exact of_decide_eq_true h3.1) m1 r1 (plain_of h3.2).1).imp fun σ H Q q => ?_
        obtain ⟨μ, en, hh, er, hr, o⟩ := q
        have e3 : (S.cc call wh).glb i = some d := by show (S.glbs[i]?).map _ = _; rw [e1]; rfl
        unfold ev at o
        rw [e3] at o
        exact o.now hr (.dat (r2 μ H))
      exact ⟨z, pt_of z⟩
    | _ => unfold chkE at h; simp at h
  | .cst d, e, sc, X, Wx, k, h => by
    cases e with
    | Constant c j p =>
      unfold chkE at h
      have z : PE X (.Constant c j p) (tI X.K ca (wI ca Wx) (rW X.K ca) (ev (S.cc call wh) (.cst d))) := e_cst h
      exact ⟨z, pt_of z⟩
    | _ => unfold chkE at h; simp at h
  | .tup es, e, sc, X, Wx, k, h => by
    cases e with
    | Tuple l j p =>
      unfold chkE at h
      have z : PE X (.Tuple l j p) (tI X.K ca (wI ca Wx) (rW X.K ca) (ev (S.cc call wh) (.tup es))) := e_tup (sndEs es k h).1
      exact ⟨z, pt_of z⟩
    | _ => unfold chkE at h; simp at h
  | .lst b es, e, sc, X, Wx, k, h => by
    cases e with
    | List l p =>
      unfold chkE at h
      have z : PE X (.List l p) (tI X.K ca (wI ca Wx) (rW X.K ca) (ev (S.cc call wh) (.lst b es))) := e_lst (sndEs es k h).1
      exact ⟨z, pt_of z⟩
    | _ => unfold chkE at h; simp at h
  | .bin o b c d, e, sc, X, Wx, k, h => by
    cases e with
    | BinOp l op r p =>
      unfold chkE at h
      have h2 := and2 h
      have h3 := and2 h2.2
      have e0 : op = opA o := of_decide_eq_true h2.1
      subst e0
      have z : PE X (.BinOp l (opA o) r p) (tI X.K ca (wI ca Wx) (rW X.K ca) (ev (S.cc call wh) (.bin o b c d))) :=
        (pe_op (ok_bin (m := b)) (sndE c k h3.1).1 (sndE d k h3.2).1).imp fun σ H Q q => tI_op (fun _ _ _ _ _ => binop_ne) q
      exact ⟨z, pt_of z⟩
    | _ => unfold chkE at h; simp at h
  | .neg a, e, sc, X, Wx, k, h => by
    cases e with
    | UnaryOp op a' p =>
      unfold chkE at h
      have h2 := and2 h
      have e0 := of_decide_eq_true h2.1
      subst e0
      have z : PE X (.UnaryOp .USub a' p) (tI X.K ca (wI ca Wx) (rW X.K ca) (ev (S.cc call wh) (.neg a))) := e_neg (sndE a k h2.2).1
      exact ⟨z, pt_of z⟩
    | _ => unfold chkE at h; simp at h
  | .not a, e, sc, X, Wx, k, h => by
    cases e with
    | UnaryOp op a' p =>
      unfold chkE at h
      have h2 := and2 h
      have e0 := of_decide_eq_true h2.1
      subst e0
      have z := sndE a k h2.2
      exact ⟨e_not z.1, t_not z.2⟩
    | _ => unfold chkE at h; simp at h
  | .bop con es, e, sc, X, Wx, k, h => by
    cases e with
    | BoolOp op l p =>
      unfold chkE at h
      have h2 := and2 h
      have h3 := and2 h2.2
      obtain rfl := opB_eq h2.1
      have hne : l ≠ [] := fun e => by subst e; simp at h3
      have z := (sndEs es k h3.2).2.1 con p hne
      refine ⟨z.1, z.2.pt.imp fun σ H Q q => ?_⟩
      obtain ⟨μ, en, hh, er, hr, o⟩ := q
      refine ⟨μ, en, hh, er, hr, ?_⟩
      have o : Out X.K ca μ H rB Q (fun c H' => wI ca Wx c σ H') (toB (ofB (evb (S.cc call wh) con es en hh))) := o
      cases q : evb (S.cc call wh) con es en hh with
      | ok b h' => rw [q] at o; exact o
      | exc c h' => rw [q] at o; exact o
      | bad => rw [q] at o; exact o
    | _ => unfold chkE at h; simp at h
  | .cmp o a b, e, sc, X, Wx, k, h => by
    cases e with
    | Compare l ops rs p =>
      match ops, rs, h with
      | [op], [r], h =>
        unfold chkE at h
        have h2 := and2 h
        have h3 := and2 h2.2
        have h4 := and2 h3.2
        have e0 : op = opC o := of_decide_eq_true h2.1
        subst e0
        exact t_cmp (k.un) (sndE a k h4.1).1 (sndE b k h4.2).1 (by have := h3.1; cases q : behindInMarks (opC o) r with | false => rfl | true => rw [q] at this; cases this)
      | [], _, h => unfold chkE at h; simp at h
      | _ :: _ :: _, _, h => unfold chkE at h; simp at h
      | [_], [], h => unfold chkE at h; simp at h
      | [_], _ :: _ :: _, h => unfold chkE at h; simp at h
    | _ => unfold chkE at h; simp at h
  | .chn o q a b c, e, sc, X, Wx, k, h => by
    cases e with
    | Compare l ops rs p =>
      match ops, rs, h with
      | [op, op'], [r, r'], h =>
        unfold chkE at h
        have h2 := and2 h
        have h3 := and2 h2.2
        have h4 := and2 h3.2
        have h5 := and2 h4.2
        have h6 := and2 h5.2
        have e0 : op = opC o := of_decide_eq_true h2.1
        have e1 : op' = opC q := of_decide_eq_true h3.1
        subst e0
        subst e1
        have hl : lastMarks [opC o, opC q] [r, r'] = false := by
          have := h4.1
          cases q : lastMarks [opC o, opC q] [r, r'] with
          | false => rfl
          | true => rw [q] at this; cases this
        have u := k.un
        exact ⟨(pe_chain (ok_cmp u) (ok_cmp u) (sndE a k h5.1).1 (sndE b k h6.1).1 (sndE c k h6.2).1 hl).imp fun σ H Q z => chn_ok z,
          (pt_chain (ok_cmp u) (ok_cmp u) (sndE a k h5.1).1 (sndE b k h6.1).1 (sndE c k h6.2).1 hl).imp fun σ H Q z => chn_ok (toB_seq z)⟩
      | [], _, h => unfold chkE at h; simp at h
      | [_], _, h => unfold chkE at h; simp at h
      | _ :: _ :: _ :: _, _, h => unfold chkE at h; simp at h
      | [_, _], [], h => unfold chkE at h; simp at h
      | [_, _], [_], h => unfold chkE at h; simp at h
      | [_, _], _ :: _ :: _ :: _, h => unfold chkE at h; simp at h
    | _ => unfold chkE at h; simp at h
  | .ite c a b, e, sc, X, Wx, k, h => by
    cases e with
    | IfExp t x y p =>
      unfold chkE at h
      have h2 := and2 h
      have h3 := and2 h2.2
      have z1 := sndE c k h2.1
      have z2 := sndE a k h3.1
      have z3 := sndE b k h3.2
      exact ⟨e_ite z1.2 z2.1 z3.1, t_ite z1.2 z2.2 z3.2⟩
    | _ => unfold chkE at h; simp at h
  | .idx a i, e, sc, X, Wx, k, h => by
    cases e with
    | Subscript v s p =>
      unfold chkE at h
      have h2 := and2 h
      have z : PE X (.Subscript v s p) (tI X.K ca (wI ca Wx) (rW X.K ca) (ev (S.cc call wh) (.idx a i))) :=
        (pe_ix (ok_index (by have := k.un; omega)) (sndE a k h2.1).1 (sndE i k h2.2).1 (plainIx_of (chkE_plain h2.2))).imp fun σ H Q q => tI_op (fun _ _ _ _ _ => index_ne) q
      exact ⟨z, pt_of z⟩
    | _ => unfold chkE at h; simp at h
  | .slc a lo hi, e, sc, X, Wx, k, h => by
    cases e with
    | Subscript v s p =>
      cases s with
      | Slice l u st p2 =>
        cases st with
        | none =>
          unfold chkE at h
          have h2 := and2 h
          have h3 := and2 h2.2
          have z : PE X (.Subscript v (.Slice l u none p2) p) (tI X.K ca (wI ca Wx) (rW X.K ca) (ev (S.cc call wh) (.slc a lo hi))) := e_slc (sndE a k h2.1).1 (sndO lo k h3.1) (sndO hi k h3.2)
          exact ⟨z, pt_of z⟩
        | some _ => unfold chkE at h; simp at h
      | _ => unfold chkE at h; simp at h
    | _ => unfold chkE at h; simp at h
  | .call f es, e, sc, X, Wx, k, h => by
    cases e with
    | Call fn l kw p =>
      cases fn with
      | Name x p1 =>
        cases kw with
        | nil =>
          unfold chkE at h
          have h2 := and2 h
          have h3 := and2 h2.2
          have h4 := and2 h3.2
          have h5 := and2 h4.2
          cases l with
          | nil => simp at h5
          | cons e0 l =>
            have h6 := and2 h5.2
            cases ef : S.T[f]? with
            | none => rw [ef] at h2; simp at h2
            | some d =>
              rw [ef] at h2
              have g1 := and2 h2.1
              have g2 := and2 g1.2
              have d1 : d.cls = none := of_decide_eq_true g1.1
              have d2 : d.name = x := of_decide_eq_true g2.1
              have d3 : es.len = d.pars := of_decide_eq_true g2.2
              subst d2
              obtain ⟨a, fd, ps, m1, m2, m3, m4⟩ := k.fns f d ef d1
              have pl := chkEs_plain h6.2
              have z : PE X (.Call (.Name d.name p1) (e0 :: l) [] p) (tI X.K ca (wI ca Wx) (rW X.K ca) (ev (S.cc call wh) (.call f es))) := by
                refine (pe_callG (E := WE Wx) m4 k.gd ((k.room h6.1).mono (Nat.le_succ lv)) (by rw [Gl, Env.kindOf, k.esc]; exact of_decide_eq_true h3.1) m1 m2 m3 (fun σ => passAt k.tk σ) (sndEs es k h6.2).1 (plain_of h4.1).1 (star_of (pl e0 List.mem_cons_self)) (star_none fun x z => pl x (List.mem_cons_of_mem _ z))).imp fun σ H Q q => ?_
                obtain ⟨μ, en, hh, er, hr, o⟩ := q
                refine ⟨μ, en, hh, er, hr, ?_⟩
                unfold ev at o
                cases q : evs (S.cc call wh) es en hh with
                | bad => rw [q] at o; exact o.elim
                | exc c h' => rw [q] at o; exact o
                | ok ws h' =>
                  rw [q] at o
                  intro μ1 H1 vs s1 hr1 z
                  exact ⟨by rw [← z.len, evs_len q, d3], μ1, h', ws, hr1, z, o.shift s1⟩
              exact ⟨z, pt_of z⟩
        | cons _ _ => unfold chkE at h; simp at h
      | _ => unfold chkE at h; simp at h
    | _ => unfold chkE at h; simp at h
  | .blt f b es, e, sc, X, Wx, k, h => by
    cases e with
    | Call fn l kw p =>
      cases fn with
      | Name x p1 =>
        cases kw with
        | nil =>
          unfold chkE at h
          have h2 := and2 h
          have h3 := and2 h2.2
          have h4 := and2 h3.2
          have h5 := and2 h4.2
          have h6 := and2 h5.2
          have h7 := and2 h6.2
          cases l with
          | nil => simp at h7
          | cons e0 l =>
            have h8 := and2 h7.2
            have e1 : fbName f = x := of_decide_eq_true h2.1
            subst e1
            have pl := chkEs_plain h8.2
            have gl : Gl X (fbName f) := by rw [Gl, Env.kindOf, k.esc]; exact of_decide_eq_true h6.1
            have fr : X.mg (fbName f) = none := k.free _ (of_decide_eq_true h5.1)
            have ne : fbName f ≠ ("__name__" : Str) ∧ (fbName f == ("__debug__" : Str)) = false := by cases f <;> decide
            have z : PE X (.Call (.Name (fbName f) p1) (e0 :: l) [] p) (tI X.K ca (wI ca Wx) (rW X.K ca) (ev (S.cc call wh) (.blt f b es))) := by
              rcases fb_ok (X := X) (ca := ca) (m := b) k.gd k.un h8.1 k.calm (of_decide_eq_true h3.1) with ⟨id, q1, q2⟩ | ⟨T, q1, q2⟩
              · exact (pe_callB q2 gl fr q1 (sndEs es k h8.2).1 ne.1 ne.2 (star_of (pl e0 List.mem_cons_self)) (star_none fun x z => pl x (List.mem_cons_of_mem _ z))).imp fun σ H Q q => tI_cb (fun _ _ _ _ => builtin_ne) q
              · exact (pe_callTy q2 gl fr q1 (sndEs es k h8.2).1 ne.1 ne.2 (star_of (pl e0 List.mem_cons_self)) (star_none fun x z => pl x (List.mem_cons_of_mem _ z))).imp fun σ H Q q => tI_cb (fun _ _ _ _ => builtin_ne) q
            exact ⟨z, pt_of z⟩
        | cons _ _ => unfold chkE at h; simp at h
      | _ => unfold chkE at h; simp at h
    | _ => unfold chkE at h; simp at h
  | .isi a t, e, sc, X, Wx, k, h => by
    cases e with
    | Call fn l kw p =>
      obtain ⟨f, p1, e0, y, p2, g1, g2, g3, h⟩ := isi_inv h
      subst g1
      subst g2
      subst g3
      have h2 := and2 h
      have h3 := and2 h2.2
      have h4 := and2 h3.2
      have h5 := and2 h4.2
      have h6 := and2 h5.2
      have h7 := and2 h6.2
      have e1 : f = "isinstance" := of_decide_eq_true h2.1
      subst e1
      have z : PE X (.Call (.Name "isinstance" p1) [e0, .Name y p2] [] p) (tI X.K ca (wI ca Wx) (rW X.K ca) (ev (S.cc call wh) (.isi a t))) :=
        e_isi (by rw [Gl, Env.kindOf, k.esc]; exact of_decide_eq_true h4.1) (k.free _ (of_decide_eq_true h3.1)) (by rw [Gl, Env.kindOf, k.esc]; exact of_decide_eq_true h6.1) (fun x q => k.free _ (of_decide_eq_true q)) h5.1 (chkE_plain h7.2) k.exS h7.1 (sndE a k h7.2).1
      exact ⟨z, pt_of z⟩
    | _ => unfold chkE at h; simp at h
  | .comp b own tg it ifs elt, e, sc, X, Wx, k, h => by
    cases e with
    | ListComp e0 gs scope p =>
      match gs, h with
      | [⟨t, i, l, asy⟩], h =>
        unfold chkE at h
        have h2 := and2 h
        have h3 := and2 h2.2
        have h4 := and2 h3.2
        have h5 := and2 h4.2
        have h6 := and2 h5.2
        have h7 := and2 h6.2
        have h8 := and2 h7.2
        have h9 := and2 h8.2
        have cm := k.calm h9.1
        have e1 : asy = 0 := of_decide_eq_true h2.1
        subst e1
        have bo := blkOk_by h3.1
        have nd : X.N.Nodup := by rw [k.eN]; exact k.nd
        have z : PE X (.ListComp e0 [⟨t, i, l, 0⟩] scope p) (tI X.K ca (wI ca Wx) (rW X.K ca) (ev (S.cc call wh) (.comp b own tg it ifs elt))) := by
          have hi := sndI (tg := t) it k (and2 h5.1).1 (and2 h5.1).2
          have hg : ∀ (s : Shared) (H : Hp) (C : Addr) (cl : List (Str × Addr)) (fp : List Addr), PG (X.blk s H scope (compEnvC scope cl C X.env) fp) t (tgI X.K ca tg) :=
            fun s H C cl fp => tg_ok (k.blk s H scope cl C fp).eN k.nd (k.blk s H scope cl C fp).esc (fun (z : false = true) => Bool.noConfusion z) cm h6.1
          have ht : ∀ (s : Shared) (H : Hp) (C : Addr) (cl : List (Str × Addr)) (fp : List Addr), PTs (X.blk s H scope (compEnvC scope cl C X.env) fp) l (tI X.K ca (fun _ _ _ => False) rB (evb (S.cc call wh) true ifs)) :=
            fun s H C cl fp => (sndEs ifs (k.blk s H scope cl C fp) h7.1).2.2 (of_decide_eq_true h8.1)
          have he : ∀ (s : Shared) (H : Hp) (C : Addr) (cl : List (Str × Addr)) (fp : List Addr), PE (X.blk s H scope (compEnvC scope cl C X.env) fp) e0 (tI X.K ca (fun _ _ _ => False) (rW X.K ca) (ev (S.cc call wh) elt)) :=
            fun s H C cl fp => (sndE elt (k.blk s H scope cl C fp) h9.2).1
          have hsl : ∀ j ∈ slotsT tg, j ∈ own.map (·.2) := fun j hj => of_decide_eq_true (List.all_eq_true.mp h4.1 j hj)
          have fo := fold_of (env := X.env) (chkI_plain (and2 h5.1).2)
          exact (pe_lc cm nd hi (by rw [k.eN, k.esc]; exact bo) hg ht he fo).imp fun σ H Q q => comp_ok (m := b) cm nd hi (by rw [k.eN, k.esc]; exact bo) hsl hg ht he fo σ H Q q
        exact ⟨z, pt_of z⟩
      | [], h => unfold chkE at h; simp at h
      | _ :: _ :: _, h => unfold chkE at h; simp at h
    | _ => unfold chkE at h; simp at h
  | .dct b .nil .nil, e, sc, X, Wx, k, h => by
    cases e with
    | Dict ks vs p =>
      match ks, vs, h with
      | [], [], h =>
        have z : PE X (.Dict [] [] p) (tI X.K ca (wI ca Wx) (rW X.K ca) (ev (S.cc call wh) (.dct b .nil .nil))) := e_dict
        exact ⟨z, pt_of z⟩
      | _ :: _, _, h => unfold chkE at h; simp at h
      | [], _ :: _, h => unfold chkE at h; simp at h
    | _ => unfold chkE at h; simp at h
  | .dct m (.cons a .nil) (.cons b .nil), e, sc, X, Wx, k, h => by
    cases e with
    | Dict ks vs p =>
      match ks, vs, h with
      | [some x], [y], h =>
        unfold chkE at h
        have h2 := and2 h
        have z : PE X (.Dict [some x] [y] p) (tI X.K ca (wI ca Wx) (rW X.K ca) (ev (S.cc call wh) (.dct m (.cons a .nil) (.cons b .nil)))) := e_dct1 (sndE a k h2.1).1 (sndE b k h2.2).1
        exact ⟨z, pt_of z⟩
      | [none], _, h => unfold chkE at h; simp at h
      | [], _, h => unfold chkE at h; simp at h
      | _ :: _ :: _, _, h => unfold chkE at h; simp at h
      | [some _], [], h => unfold chkE at h; simp at h
      | [some _], _ :: _ :: _, h => unfold chkE at h; simp at h
    | _ => unfold chkE at h; simp at h
  | .dct _ (.cons _ .nil) .nil, e, sc, X, Wx, k, h => by unfold chkE at h; simp at h
  | .dct _ (.cons _ .nil) (.cons _ (.cons _ _)), e, sc, X, Wx, k, h => by unfold chkE at h; simp at h
  | .dct _ (.cons _ (.cons _ _)) _, e, sc, X, Wx, k, h => by unfold chkE at h; simp at h
  | .dct _ .nil (.cons _ _), e, sc, X, Wx, k, h => by unfold chkE at h; simp at h
  | .dsp t es, e, sc, X, Wx, k, h => by
    cases e with
    | Dict ks vs p =>
      unfold chkE at h
      have h2 := and2 h
      have h3 := and2 h2.2
      have h4 := and2 h3.2
      have h5 := and2 h4.2
      have h6 := and2 h5.2
      have et : t = false := by simpa using h2.1
      subst et
      have z : PE X (.Dict ks vs p) (tI X.K ca (wI ca Wx) (rW X.K ca) (ev (S.cc call wh) (.dsp false es))) := e_dsp (sndPs es k h3.1 (of_decide_eq_true h4.1) h6.2) h3.1 (of_decide_eq_true h4.1) (fun q => by rw [q] at h5; simp at h5) (of_decide_eq_true h6.1)
      exact ⟨z, pt_of z⟩
    | _ => unfold chkE at h; simp at h
  | .dtab op i a, e, sc, X, Wx, k, h => by
    have go : ∀ x : Str, isDic S i x = true → ∃ l c, (S.cc call wh).glb i = some (.dict l) ∧ X.mg x = some (.ref c) ∧ KDD X.K X.w c l := fun x q => by
      unfold isDic at q
      cases e1 : S.glbs[i]? with
      | none => rw [e1] at q; cases q
      | some p =>
        obtain ⟨y, d⟩ := p
        cases d with
        | dict l =>
          rw [e1] at q
          have e2 : y = x := of_decide_eq_true q
          subst e2
          obtain ⟨c, h1, h2⟩ := k.glb i y _ e1
          exact ⟨l, c, by show (S.glbs[i]?).map _ = _; rw [e1]; rfl, h1, h2⟩
        | _ => rw [e1] at q; cases q
    cases e with
    | Compare l os rs p =>
      obtain ⟨o, x, p1, e1, e2, hb⟩ := tabC_inv h
      subst e1; subst e2
      have h2 := and2 hb
      have h3 := and2 h2.2
      have h4 := and2 h3.2
      have h5 := and2 h4.2
      have h6 := and2 h5.2
      obtain ⟨t, c, g1, g2, g3⟩ := go x h3.1
      have px := (plain_of h5.1).1
      have hg : Gl X x := by rw [Gl, Env.kindOf, k.esc]; exact of_decide_eq_true h4.1
      rw [dtab_eq g1]
      have nb : behindInMarks o (.Name x p1) = false := by simpa using h6.1
      rcases Bool.or_eq_true_iff.mp h2.1 with q | q
      · have q := and2 q
        cases of_decide_eq_true q.1
        cases of_decide_eq_true q.2
        exact ⟨e_tin g3 hg g2 px nb (sndE a k h6.2).1, t_tin g3 hg g2 px nb (sndE a k h6.2).1⟩
      · have q := and2 q
        cases of_decide_eq_true q.1
        cases of_decide_eq_true q.2
        exact ⟨e_tnin g3 hg g2 px nb (sndE a k h6.2).1, t_tnin g3 hg g2 px nb (sndE a k h6.2).1⟩
    | Subscript v s p =>
      obtain ⟨x, p1, e1, hb⟩ := tabS_inv h
      subst e1
      have h2 := and2 hb
      have h3 := and2 h2.2
      have h4 := and2 h3.2
      have h5 := and2 h4.2
      obtain ⟨t, c, g1, g2, g3⟩ := go x h3.1
      have z : PE X (.Subscript (.Name x p1) s p) (tI X.K ca (wI ca Wx) (rW X.K ca) (ev (S.cc call wh) (.dtab op i a))) := by
        rw [dtab_eq g1]
        cases of_decide_eq_true h2.1
        exact e_tix g3 (by rw [Gl, Env.kindOf, k.esc]; exact of_decide_eq_true h4.1) g2 (plain_of h5.1).1 (plainIx_of (chkE_plain h5.2)) (sndE a k h5.2).1
      exact ⟨z, pt_of z⟩
    | Call fn l kw p =>
      obtain ⟨x, p1, ap, e0, e1, e2, e3, hb⟩ := tabG_inv h
      subst e1; subst e2; subst e3
      have h2 := and2 hb
      have h3 := and2 h2.2
      have h4 := and2 h3.2
      have h5 := and2 h4.2
      have h6 := and2 h5.2
      obtain ⟨t, c, g1, g2, g3⟩ := go x h4.1
      have pl := chkE_plain h6.2
      have z : PE X (.Call (.Attribute (.Name x p1) "get" ap) [e0] [] p) (tI X.K ca (wI ca Wx) (rW X.K ca) (ev (S.cc call wh) (.dtab op i a))) := by
        rw [dtab_eq g1]
        cases of_decide_eq_true h2.1
        refine e_tget g3 (by rw [Gl, Env.kindOf, k.esc]; exact of_decide_eq_true h5.1) g2 (plain_of h6.1).1 ⟨base_of rfl, few_of (fun y m => ?_) (by simp), ?_, ?_⟩ (sndE a k h6.2).1
        · rw [List.mem_singleton.mp m]; exact pl
        · rw [of_decide_eq_true h3.1]; exact beq_self_eq_true _
        · rw [star_of pl]; rfl
      exact ⟨z, pt_of z⟩
    | _ => unfold chkE at h; simp at h
  | .isis a cs, e, sc, X, Wx, k, h => by
    cases e with
    | Call fn l kw p =>
      obtain ⟨f, p1, e0, ys, k2, p2, g1, g2, g3, h⟩ := isis_inv h
      subst g1
      subst g2
      subst g3
      have h2 := and2 h
      have h3 := and2 h2.2
      have h4 := and2 h3.2
      have h5 := and2 h4.2
      have h6 := and2 h5.2
      have h7 := and2 h6.2
      have e1 : f = "isinstance" := of_decide_eq_true h2.1
      subst e1
      have z : PE X (.Call (.Name "isinstance" p1) [e0, .Tuple ys k2 p2] [] p) (tI X.K ca (wI ca Wx) (rW X.K ca) (ev (S.cc call wh) (.isis a cs))) :=
        e_isis (by rw [Gl, Env.kindOf, k.esc]; exact of_decide_eq_true h4.1) (k.free _ (of_decide_eq_true h3.1)) k.exS k.esc (of_decide_eq_true h5.1) (fun q => by have := h6.1; rw [q] at this; cases this) h7.1 (chkE_plain h7.2) (sndE a k h7.2).1
      exact ⟨z, pt_of z⟩
    | _ => unfold chkE at h; simp at h
  | .rev a, e, sc, X, Wx, k, h => by
    cases e with
    | Subscript v s p =>
      obtain ⟨j, p1, p2, p3, e1, h2⟩ := rev_inv h
      subst e1
      have z : PE X (.Subscript v (.Slice none none (some (.UnaryOp .USub (.Constant (.int 1) j p1) p2)) p3) p) (tI X.K ca (wI ca Wx) (rW X.K ca) (ev (S.cc call wh) (.rev a))) := e_rev (sndE a k h2).1
      exact ⟨z, pt_of z⟩
    | _ => unfold chkE at h; simp at h
  | .fld a f, e, sc, X, Wx, k, h => by
    cases e with
    | Attribute o g p =>
      unfold chkE at h
      have h2 := and2 h
      have h3 := and2 h2.2
      have h4 := and2 h3.2
      have e1 : f = g := of_decide_eq_true h2.1
      subst e1
      have ne : S.clss ≠ [] := fun q => by have := h3.1; unfold fldB at this; rw [q] at this; cases this
      have z : PE X (.Attribute o f p) (tI X.K ca (wI ca Wx) (rW X.K ca) (ev (S.cc call wh) (.fld a f))) := e_fld (fun c => k.clS.cl c ne) (fun c => k.clS.na c f h3.1) (base_of h4.1) (sndE a k h4.2).1
      exact ⟨z, pt_of z⟩
    | _ => unfold chkE at h; simp at h
  | .meth a c m f es, e, sc, X, Wx, k, h => by
    cases e with
    | Call fn l kw p =>
      obtain ⟨o, apos, e1, e2, hb⟩ := meth_inv h
      subst e1
      subst e2
      have h2 := and2 hb
      have h3 := and2 h2.2
      have h4 := and2 h3.2
      have h5 := and2 h4.2
      have h6 := and2 h5.2
      have h7 := and2 h6.2
      obtain ⟨d, d0, d1, d2, d3, d4⟩ := methB_inv h2.1
      obtain ⟨fa, fd, ps, m1, m2, m3⟩ := k.mts f d c d0 d1 d4
      rw [d2] at m1
      have ne : S.clss ≠ [] := fun q => by rw [q] at d4; simp at d4
      have za := (sndE a k h7.1).1
      have li : (apos.endLine == p.line) = true := by rw [of_decide_eq_true h3.1]; exact beq_self_eq_true _
      have ro := (k.room h6.1).mono (Nat.le_succ lv)
      have pl := chkEs_plain h7.2
      have zz : ∀ σ H Q, tI X.K ca (wI ca Wx) (rW X.K ca) (ev (S.cc call wh) (.meth a c m f es)) σ H Q → tMethG (ca (2 * c + 1)) m (spC X.K ca d.pars (call f)) (WE Wx) (tI X.K ca (wI ca Wx) (rW X.K ca) (ev (S.cc call wh) a)) (tI X.K ca (wI ca Wx) (rWs X.K ca) (evs (S.cc call wh) es)) σ H Q := fun σ H Q q => by
        obtain ⟨μ, en, hh, er, hr, o⟩ := q
        unfold ev at o
        refine seqI (rW X.K ca) er hr o fun μ1 H1 h1 w x s1 er1 hr1 z o1 => ?_
        obtain ⟨c1, o1⟩ := out_if o1
        obtain ⟨n, fs, rfl, q1, q2⟩ := insB_inv c1
        obtain ⟨ad, dx, fv, rfl, _, g2, g3⟩ := ins_at hr1 z q1
        refine ⟨ad, dx, fv, rfl, g2, ?_, ?_⟩
        · rcases g3.look m with ⟨_, e⟩ | ⟨_, _, e, _, _⟩
          · exact e
          · rw [e] at q2; cases q2
        · refine ⟨μ1, en, h1, er1, hr1, ?_⟩
          cases q : evs (S.cc call wh) es en h1 with
          | bad => rw [q] at o1; exact o1.elim
          | exc c h' => rw [q] at o1; exact o1
          | ok ws h' =>
            rw [q] at o1
            intro μ2 H2 vs s2 hr2 zs
            exact ⟨by rw [List.length_cons, ← zs.len, evs_len q, d3], μ2, h', .ref n :: ws, hr2, .cons (z.mono s2) zs, o1.shift s2⟩
      cases l with
      | nil =>
        have ees : es = .nil := by
          cases es with
          | nil => rfl
          | cons _ _ => have := h7.2; unfold chkEs at this; simp at this
        subst ees
        have z : PE X (.Call (.Attribute o m apos) [] [] p) (tI X.K ca (wI ca Wx) (rW X.K ca) (ev (S.cc call wh) (.meth a c m f .nil))) := by
          refine (pe_methG0 (E := WE Wx) m3 k.gd ro (k.clS.cl c ne) m1 m2 (fun σ => passAt k.tk σ) za (base_of h4.1) li).imp fun σ H Q q => ?_
          refine tI_mono (zz σ H Q q) fun x H1 ⟨ad, dx, fs, g1, g2, g3, g4⟩ => ⟨ad, dx, fs, g1, g2, g3, ?_⟩
          obtain ⟨μ, en, hh, er, hr, o⟩ := g4
          exact Out.now (a := []) (b := []) o hr .nil
        exact ⟨z, pt_of z⟩
      | cons e0 l =>
        have z : PE X (.Call (.Attribute o m apos) (e0 :: l) [] p) (tI X.K ca (wI ca Wx) (rW X.K ca) (ev (S.cc call wh) (.meth a c m f es))) :=
          (pe_methG (E := WE Wx) m3 k.gd ro (k.clS.cl c ne) m1 m2 (fun σ => passAt k.tk σ) za (sndEs es k h7.2).1 (base_of h4.1) (few_of pl (of_decide_eq_true h5.1)) li (star_of (pl e0 List.mem_cons_self)) (star_none fun x z => pl x (List.mem_cons_of_mem _ z))).imp zz
        exact ⟨z, pt_of z⟩
    | _ => unfold chkE at h; simp at h
  | .mk c f es, e, sc, X, Wx, k, h => by
    cases e with
    | Call fn l kw p =>
      obtain ⟨x, p1, e1, e2, hb⟩ := mk_inv h
      subst e1
      subst e2
      have h2 := and2 hb
      have h3 := and2 h2.2
      have h4 := and2 h3.2
      have h5 := and2 h4.2
      have h6 := and2 h2.1
      obtain ⟨d, d0, d1, d2, d3, d4⟩ := methB_inv h6.1
      obtain ⟨fa, fd, ps, m1, m2, m3⟩ := k.mts f d c d0 d1 d4
      rw [d2] at m1
      obtain ⟨g1, g2, g3⟩ := k.clS.gl c x (of_decide_eq_true h6.2)
      have M : Mk X.K (ca (2 * c + 1)) fa := ⟨g2, m1.at_, m1.fn, g3⟩
      have hg : Gl X x := by rw [Gl, Env.kindOf, k.esc]; exact of_decide_eq_true h3.1
      have pl := chkEs_plain h5.2
      have zz : ∀ σ H Q, tI X.K ca (wI ca Wx) (rW X.K ca) (ev (S.cc call wh) (.mk c f es)) σ H Q → tMakeG (ca (2 * c + 1)) (spC X.K ca d.pars (call f)) (WE Wx) (tI X.K ca (wI ca Wx) (rWs X.K ca) (evs (S.cc call wh) es)) σ H Q := fun σ H Q q => by
        obtain ⟨μ, en, hh, er, hr, o⟩ := q
        refine ⟨μ, en, hh, er, hr, ?_⟩
        unfold ev at o
        cases q : evs (S.cc call wh) es en hh with
        | bad => rw [q] at o; exact o.elim
        | exc c h' => rw [q] at o; exact o
        | ok ws h' =>
          rw [q] at o
          intro μ1 H1 vs s1 hr1 zs x dx hx hdx ne
          have hr2 : HR X.K ca μ1 (upd H1 dx (.own x)) h' := hr1.new hdx
          have st2 := hr1.stp (u := .own x) hdx
          have hx2 : upd H1 dx (.own x) x = none := by rw [upd_ne (Ne.symm ne)]; exact hx
          obtain ⟨s3, hr3⟩ := hr2.push (u := .ins (ca (2 * c + 1)) dx []) (o := .ins c []) hx2 fun s => ⟨dx, [], upd_same, .nil⟩
          have s4 := st2.trans s3
          refine ⟨by rw [List.length_cons, ← zs.len, evs_len q, d3], μ1.add x, h' ++ [.ins c []], .ref h'.length :: ws, hr3, .cons (.ref (hr2.last x)) (zs.mono s4), ?_⟩
          have o : Out X.K ca μ H (rW X.K ca) Q (fun c H' => wI ca Wx c σ H') ((call f (.ref h'.length :: ws) (h' ++ [.ins c []])).bind fun v h2 => mkR h'.length v h2) := o
          cases q2 : call f (.ref h'.length :: ws) (h' ++ [.ins c []]) with
          | bad => rw [q2] at o; exact o.elim
          | exc c h2 => rw [q2] at o; exact (o.shift (s1.trans s4))
          | ok v h2 =>
            rw [q2] at o
            intro μ3 H3 u s5 hr5 zv
            have o : Out X.K ca μ H (rW X.K ca) Q (fun c H' => wI ca Wx c σ H') (mkR h'.length v h2) := o
            unfold mkR at o
            split at o
            · exact ⟨zv.of_none, o μ3 H3 (.ref x) ((s1.trans s4).trans s5) hr5 (.ref (s5.get (hr2.last x)))⟩
            · exact o.elim
      cases l with
      | nil =>
        have ees : es = .nil := by
          cases es with
          | nil => rfl
          | cons _ _ => have := h5.2; unfold chkEs at this; simp at this
        subst ees
        have z : PE X (.Call (.Name x p1) [] [] p) (tI X.K ca (wI ca Wx) (rW X.K ca) (ev (S.cc call wh) (.mk c f .nil))) := by
          refine (pe_makeG0 (E := WE Wx) M m3 k.gd (k.room h5.1) hg g1 m2 (fun σ => passAt k.tk σ) (plain_of h4.1).1).imp fun σ H Q q => ?_
          obtain ⟨μ, en, hh, er, hr, o⟩ := zz σ H Q q
          exact Out.now (a := []) (b := []) o hr .nil
        exact ⟨z, pt_of z⟩
      | cons e0 l =>
        have z : PE X (.Call (.Name x p1) (e0 :: l) [] p) (tI X.K ca (wI ca Wx) (rW X.K ca) (ev (S.cc call wh) (.mk c f es))) :=
          (pe_makeG (E := WE Wx) M m3 k.gd (k.room h5.1) hg g1 m2 (fun σ => passAt k.tk σ) (sndEs es k h5.2).1 (plain_of h4.1).1 (star_of (pl e0 List.mem_cons_self)) (star_none fun x z => pl x (List.mem_cons_of_mem _ z))).imp zz
        exact ⟨z, pt_of z⟩
    | _ => unfold chkE at h; simp at h
  | .bmt f b a es, e, sc, X, Wx, k, h => by
    cases e with
    | Call fn l kw p =>
      obtain ⟨o, x, apos, e1, e2, h⟩ := bmt_inv h
      subst e1
      subst e2
      have h2 := and2 h
      have h3 := and2 h2.2
      have h4 := and2 h3.2
      have h5 := and2 h4.2
      have h6 := and2 h5.2
      have h7 := and2 h6.2
      have h8 := and2 h7.2
      have h9 := and2 h8.2
      have e1 : bmName f = x := of_decide_eq_true h2.1
      subst e1
      have nq := of_decide_eq_true h3.1
      have li := of_decide_eq_true h4.1
      have za := (sndE a k h9.1).1
      cases l with
      | nil =>
        have ees : es = .nil := by
          cases es with
          | nil => rfl
          | cons _ _ => have := h9.2; unfold chkEs at this; simp at this
        subst ees
        have z : PE X (.Call (.Attribute o (bmName f) apos) [] [] p) (tI X.K ca (wI ca Wx) (rW X.K ca) (ev (S.cc call wh) (.bmt f b a .nil))) := e_bmt0 k.un nq h5.1 li za
        exact ⟨z, pt_of z⟩
      | cons e0 l =>
        have z : PE X (.Call (.Attribute o (bmName f) apos) (e0 :: l) [] p) (tI X.K ca (wI ca Wx) (rW X.K ca) (ev (S.cc call wh) (.bmt f b a es))) :=
          e_bmt k.un nq h5.1 (of_decide_eq_true h6.1) (chkEs_plain h9.2) li za (sndEs es k h9.2).1
        exact ⟨z, pt_of z⟩
    | _ => unfold chkE at h; simp at h
  | .frz _, e, sc, X, Wx, k, h => by unfold chkE at h; simp at h
  | .sset b a, e, sc, X, Wx, k, h => by
    obtain ⟨x, y, p1, p2, p3, p4, e0, rfl, h⟩ := sset_inv h
    have h2 := and2 h
    have h3 := and2 h2.2
    have h4 := and2 h3.2
    have h5 := and2 h4.2
    have h6 := and2 h5.2
    have h7 := and2 h6.2
    have h8 := and2 h7.2
    have e1 : x = "sorted" := of_decide_eq_true h2.1
    have e2 : y = "set" := of_decide_eq_true h3.1
    subst e1; subst e2
    have z : PE X (.Call (.Name "sorted" p1) [.Call (.Name "set" p2) [e0] [] p3] [] p4) (tI X.K ca (wI ca Wx) (rW X.K ca) (ev (S.cc call wh) (.sset b a))) :=
      e_sset (by rw [Gl, Env.kindOf, k.esc]; exact of_decide_eq_true h6.1) (k.free _ (of_decide_eq_true h4.1)) (by rw [Gl, Env.kindOf, k.esc]; exact of_decide_eq_true h7.1) (k.free _ (of_decide_eq_true h5.1)) (k.calm h8.1) k.un (chkE_plain h8.2) (sndE a k h8.2).1
    exact ⟨z, pt_of z⟩
  | .lset a, e, sc, X, Wx, k, h => by
    obtain ⟨x, y, p1, p2, p3, p4, e0, rfl, h⟩ := lset_inv h
    have h2 := and2 h
    have h3 := and2 h2.2
    have h4 := and2 h3.2
    have h5 := and2 h4.2
    have h6 := and2 h5.2
    have h7 := and2 h6.2
    have h8 := and2 h7.2
    have e1 : x = "len" := of_decide_eq_true h2.1
    have e2 : y = "set" := of_decide_eq_true h3.1
    subst e1; subst e2
    have z : PE X (.Call (.Name "len" p1) [.Call (.Name "set" p2) [e0] [] p3] [] p4) (tI X.K ca (wI ca Wx) (rW X.K ca) (ev (S.cc call wh) (.lset a))) :=
      e_lset (by rw [Gl, Env.kindOf, k.esc]; exact of_decide_eq_true h6.1) (k.free _ (of_decide_eq_true h4.1)) (by rw [Gl, Env.kindOf, k.esc]; exact of_decide_eq_true h7.1) (k.free _ (of_decide_eq_true h5.1)) (k.calm h8.1) (chkE_plain h8.2) (sndE a k h8.2).1
    exact ⟨z, pt_of z⟩
theorem sndPs : ∀ (c : CEs) {ks : List (Option Expr)} {vs : List Expr} {pos : Pos} {sc : Scope} {X : Cx} {Wx : WX}, Cok S ca call lv N sc X Wx → ks.all (·.isSome) = true → ks.length = vs.length → chkEs S N sc c (mixL ks vs) = true →
    PPD X ca (wI ca Wx) pos ks vs (evs (S.cc call wh) c)
  | .nil, ks, vs, pos, sc, X, Wx, k, ha, hl, h => by
    cases ks with
    | nil =>
      cases vs with
      | nil => exact ppd_nil
      | cons _ _ => cases hl
    | cons q ks =>
      cases vs with
      | nil => cases hl
      | cons v vs =>
        cases q with
        | none => simp at ha
        | some q => unfold mixL chkEs at h; simp at h
  | .cons a .nil, ks, vs, pos, sc, X, Wx, k, ha, hl, h => by
    cases ks with
    | nil => unfold mixL chkEs at h; simp at h
    | cons q ks =>
      cases vs with
      | nil => cases hl
      | cons v vs =>
        cases q with
        | none => simp at ha
        | some q =>
          unfold mixL chkEs at h
          have h2 := and2 h
          have h3 := h2.2
          unfold chkEs at h3
          simp at h3
  | .cons a (.cons b es), ks, vs, pos, sc, X, Wx, k, ha, hl, h => by
    cases ks with
    | nil => unfold mixL chkEs at h; simp at h
    | cons q ks =>
      cases vs with
      | nil => cases hl
      | cons v vs =>
        cases q with
        | none => simp at ha
        | some q =>
          unfold mixL chkEs at h
          have h2 := and2 h
          have h3 := h2.2
          unfold chkEs at h3
          have h4 := and2 h3
          have z := ppd_cons (sndE a k h2.1).1 (sndE b k h4.1).1 (sndPs es (pos := pos) k (by simpa using ha) (by simpa using hl) h4.2)
          refine cast (congrArg _ (funext fun e => funext fun h => ?_)) z
          rw [evs_two]
theorem sndEs : ∀ (c : CEs) {l : List Expr} {sc : Scope} {X : Cx} {Wx : WX}, Cok S ca call lv N sc X Wx → chkEs S N sc c l = true →
    PA X l (tI X.K ca (wI ca Wx) (rWs X.K ca) (evs (S.cc call wh) c)) ∧
    (∀ (con : Bool) (p : Pos), l ≠ [] → PE X (.BoolOp (opB con) l p) (tI X.K ca (wI ca Wx) (rW X.K ca) fun e h => ofB (evb (S.cc call wh) con c e h)) ∧ PW X (.BoolOp (opB con) l p) (tI X.K ca (wI ca Wx) rB (evb (S.cc call wh) con c))) ∧
    (c.len ≤ 1 → PTs X l (tI X.K ca (wI ca Wx) rB (evb (S.cc call wh) true c)))
  | .nil, l, sc, X, Wx, k, h => by
    cases l with
    | nil =>
      refine ⟨a_nil, fun _ _ z => absurd rfl z, fun _ => ⟨fun pins s σ H Q I q => pts_nil.run pins s σ H Q I ?_⟩⟩
      obtain ⟨μ, en, hh, er, hr, o⟩ := q
      exact Out.now (a := true) (rel := rB) o hr rfl
    | cons _ _ => unfold chkEs at h; simp at h
  | .cons a es, l, sc, X, Wx, k, h => by
    cases l with
    | nil => unfold chkEs at h; simp at h
    | cons e l =>
      unfold chkEs at h
      have h2 := and2 h
      have z1 := sndE a k h2.1
      have z2 := sndEs es k h2.2
      refine ⟨a_cons (chkE_plain h2.1) z1.1 z2.1, fun con p _ => ?_, fun hl => ?_⟩
      · cases l with
        | nil =>
          cases es with
          | nil => exact b_one z1.1 z1.2
          | cons _ _ => unfold chkEs at h2; simp at h2
        | cons e1 l =>
          have z3 := z2.2.1 con p (List.cons_ne_nil _ _)
          exact b_cons z1.1 z1.2 z3.1 z3.2
      · cases es with
        | cons _ _ =>
          have : (CEs.cons a (CEs.cons _ _)).len ≤ 1 := hl
          simp [CEs.len] at this
        | nil =>
          cases l with
          | cons _ _ => unfold chkEs at h2; simp at h2
          | nil =>
            refine ⟨fun pins s σ H Q I q => (pts_one z1.2).run pins s σ H Q I ?_⟩
            obtain ⟨μ, en, hh, er, hr, o⟩ := q
            refine ⟨μ, en, hh, er, hr, ?_⟩
            show Out X.K ca μ H rB Q (fun c H' => wI ca Wx c σ H') (toB (ev (S.cc call wh) a en hh))
            have o : Out X.K ca μ H rB Q (fun c H' => wI ca Wx c σ H') ((toB (ev (S.cc call wh) a en hh)).bind fun b h => if b = true then .ok true h else .ok (!true) h) := o
            cases q : toB (ev (S.cc call wh) a en hh) with
            | ok b h' => rw [q] at o; cases b <;> exact o
            | exc c h' => rw [q] at o; exact o
            | bad => rw [q] at o; exact o
theorem sndO : ∀ (c : CO) {e : Option Expr} {sc : Scope} {X : Cx} {Wx : WX}, Cok S ca call lv N sc X Wx → chkO S N sc c e = true →
    PO X e (tI X.K ca (wI ca Wx) (fun _ _ a b => a = b) (evo (S.cc call wh) c))
  | .non, e, sc, X, Wx, k, h => by
    cases e with
    | none => exact o_non
    | some _ => unfold chkO at h; simp at h
  | .som a, e, sc, X, Wx, k, h => by
    cases e with
    | none => unfold chkO at h; simp at h
    | some e =>
      unfold chkO at h
      exact o_som (sndE a k h).1
theorem sndI : ∀ (c : CI) {e tg : Expr} {sc : Scope} {X : Cx} {Wx : WX}, Cok S ca call lv N sc X Wx → tupE c tg = true → chkI S N sc c e = true →
    PI X tg e (tI X.K ca (wI ca Wx) (rIt X.K ca) (evi (S.cc call wh) c))
  | .ex a, e, tg, sc, X, Wx, k, ht, h => by
    unfold chkI at h
    exact pi_ex (sndE a k h).1
  | .rng1 b, e, tg, sc, X, Wx, k, ht, h => by
    cases e with
    | Call fn l kw p =>
      obtain ⟨f, p1, e0, g1, g2, g3, h⟩ := rng1_inv h
      subst g1
      subst g2
      subst g3
      have h2 := and2 h
      have h3 := and2 h2.2
      have h4 := and2 h3.2
      have e1 : f = "range" := of_decide_eq_true h2.1
      subst e1
      exact pi_rng1M (by rw [Gl, Env.kindOf, k.esc]; exact of_decide_eq_true h4.1) (k.free _ (of_decide_eq_true h3.1)) (chkE_plain h4.2) (sndE b k h4.2).1
    | _ => unfold chkI at h; simp at h
  | .rng2 a b, e, tg, sc, X, Wx, k, ht, h => by
    cases e with
    | Call fn l kw p =>
      obtain ⟨f, p1, e0, e1, g1, g2, g3, h⟩ := rng2_inv h
      subst g1
      subst g2
      subst g3
      have h2 := and2 h
      have h3 := and2 h2.2
      have h4 := and2 h3.2
      have h5 := and2 h4.2
      have ef : f = "range" := of_decide_eq_true h2.1
      subst ef
      exact pi_rng2M (by rw [Gl, Env.kindOf, k.esc]; exact of_decide_eq_true h4.1) (k.free _ (of_decide_eq_true h3.1)) (chkE_plain h5.1) (chkE_plain h5.2) (sndE a k h5.1).1 (sndE b k h5.2).1
    | _ => unfold chkI at h; simp at h
  | .enm _, e, tg, sc, X, Wx, k, ht, h => by unfold chkI at h; simp at h
  | .zip2 a b, e, tg, sc, X, Wx, k, ht, h => by
    cases tg with
    | Tuple elts kk tpos =>
      cases e with
      | Call fn l kw p =>
        obtain ⟨f, p1, e0, e1, g1, g2, g3, h⟩ := zip2_inv h
        subst g1
        subst g2
        subst g3
        have h2 := and2 h
        have h3 := and2 h2.2
        have h4 := and2 h3.2
        have h5 := and2 h4.2
        have ef : f = "zip" := of_decide_eq_true h2.1
        subst ef
        exact pi_zipM (by rw [Gl, Env.kindOf, k.esc]; exact of_decide_eq_true h4.1) (k.free _ (of_decide_eq_true h3.1)) (chkE_plain h5.1) (chkE_plain h5.2) (sndE a k h5.1).1 (sndE b k h5.2).1
      | _ => unfold chkI at h; simp at h
    | _ => cases ht
end
end
end M
/-! MStmt: statements of the mini language: their check, their readings. -/
namespace M
open PySem PySem.Spec L2
/-! ### readings -/
def OutS (K : PySem.W.Frag) (ca : Nat → Addr) (μ : Mu) (H : Hp) (W' : Nat → L2.St → Hp → Prop) (D : Ends) : SR → Prop
  | .nxt e h => ∀ μ' H' σ', Stp μ H μ' H' → HR K ca μ' H' h → ER K ca μ' H' e σ' → D.nx σ' H'
  | .ret w h => ∀ μ' H' v, Stp μ H μ' H' → HR K ca μ' H' h → WR K ca μ' H' w v → D.rt v H'
  | .exc c e h => ∀ μ' H' σ', Stp μ H μ' H' → HR K ca μ' H' h → ER K ca μ' H' e σ' → W' c σ' H'
  | .bad => False
def tS (K : PySem.W.Frag) (ca : Nat → Addr) (W' : Nat → L2.St → Hp → Prop) (m : En → Hh → SR) : TS := fun D σ H => ∃ μ e h, ER K ca μ H e σ ∧ HR K ca μ H h ∧ OutS K ca μ H W' D (m e h)
section
variable {K : PySem.W.Frag} {ca : Nat → Addr} {μ μ' : Mu} {H H' : Hp} {h : Hh} {e : En} {σ : L2.St} {W' : Nat → L2.St → Hp → Prop} {D : Ends}
theorem OutS.shift {r : SR} (o : OutS K ca μ H W' D r) (s : Stp μ H μ' H') : OutS K ca μ' H' W' D r := by
  cases r with
  | nxt e h => exact fun μ2 H2 σ2 s2 => o μ2 H2 σ2 (s.trans s2)
  | ret w h => exact fun μ2 H2 σ2 s2 => o μ2 H2 σ2 (s.trans s2)
  | exc c e h => exact fun μ2 H2 σ2 s2 => o μ2 H2 σ2 (s.trans s2)
  | bad => exact o
theorem OutS.now (o : OutS K ca μ H W' D (.nxt e h)) (hr : HR K ca μ H h) (er : ER K ca μ H e σ) : D.nx σ H := o μ H σ .refl hr er
/-- an expression's run, then a statement's -/
theorem seqS {α β : Type} {m : En → Hh → Res α} {f : α → Hh → SR} {Q2 : β → Hp → Prop} (rel : Mu → Hp → α → β → Prop) (er : ER K ca μ H e σ) (hr : HR K ca μ H h) (o : OutS K ca μ H W' D ((m e h).then e f))
    (k : ∀ (μ1 : Mu) (H1 : Hp) (h1 : Hh) (a : α) (b : β), Stp μ H μ1 H1 → ER K ca μ1 H1 e σ → HR K ca μ1 H1 h1 → rel μ1 H1 a b → OutS K ca μ1 H1 W' D (f a h1) → Q2 b H1) : tI K ca W' rel m σ H Q2 := by
  refine ⟨μ, e, h, er, hr, ?_⟩
  cases q : m e h with
  | ok a h1 =>
    rw [q] at o
    exact fun μ1 H1 b s r z => k μ1 H1 h1 a b s (er.mono s) r z (o.shift s)
  | exc c h1 =>
    rw [q] at o
    exact fun μ1 H1 s r => o μ1 H1 σ s r (er.mono s)
  | bad => rw [q] at o; exact o
theorem _root_.L2.PS.imp {X : Cx} {st : Stmt} {t t' : TS} (h : PS X st t) (k : ∀ D σ H, t' D σ H → t D σ H) : PS X st t' := ⟨fun pins s σ H D I q => h.run pins s σ H D I (k D σ H q)⟩
theorem _root_.L2.PSs.imp {X : Cx} {st : List Stmt} {t t' : TS} (h : PSs X st t) (k : ∀ D σ H, t' D σ H → t D σ H) : PSs X st t' := ⟨fun pins s σ H D I q => h.run pins s σ H D I (k D σ H q)⟩
end

/-! ### where a statement stands -/
structure Sok (S : Sg) (ca : Nat → Addr) (call : Nat → List W → Hh → Res W) (lv : Nat) (N : List Str) (sc : Scope) (X : Cx) (Wx : WX) : Prop where
  k : Cok S ca call lv N sc X Wx
  po : PassesOwn (model X.prog X.w) X.A X.env X.xe
  fn : ∀ x, X.fn x = true
  stk : X.stack = X.env :: X.outer
  fr : X.env.frame = some X.env.locals
  ex0 : X.ex = []
  kd : sc.kind = .function

/-! ### the check -/
def noComp : Expr → Bool
  | .ListComp _ _ _ _ => false
  | .SetComp _ _ _ _ => false
  | .DictComp _ _ _ _ _ => false
  | _ => true
def noTup : Expr → Bool
  | .Tuple _ _ _ => false
  | _ => true
def noSq : Expr → Bool
  | .Tuple _ _ _ => false
  | .List _ _ => false
  | _ => true
theorem swaps_no {e : Expr} {t : Option Expr} {l : Nat} {env : Env} (h : noComp e = true) : swapsWith e t l env = pure false := by
  cases e <;> first | rfl | cases h
/-- a comprehension's value isn't stored within it: no comprehension, or a name that others share -/
def ncB (sc : Scope) (tg e : Expr) : Bool := noComp e || (match tg with
  | .Name y _ => celB sc y
  | _ => false)
theorem swaps_nc {tg e : Expr} {l : Nat} {env : Env} (h : ncB env.scope tg e = true) : swapsWithSole [tg] e l env = pure false := by
  show swapsWith e (some tg) l env = pure false
  rcases Bool.or_eq_true_iff.mp h with h | h
  · exact swaps_no h
  · cases tg with
    | Name y p =>
      have ky : env.kindOf y = some .cell := of_decide_eq_true h
      unfold swapsWith
      cases e <;> first | rfl | (simp only [ky]; rw [show ((some NameKind.cell == some NameKind.local) = false) by decide]; simp)
    | _ => cases h
/-- no swap: another value, another target, or a name that is no plain local -/
def swB0 (sc : Scope) (tg e : Expr) : Bool := noTup e || (noSq tg || (match tg with
  | .Tuple ts _ _ => ts.any fun t => match t with
    | .Name x _ => !(locB sc x)
    | _ => true
  | _ => false))
/-- a row of constants -/
def cstT : Expr → Bool
  | .Tuple vs _ _ => vs.all (foldedForSure 8)
  | _ => false
def swB (sc : Scope) (tg e : Expr) : Bool := swB0 sc tg e || cstT e
theorem fm_len {α β : Type} {f : α → Option β} : ∀ {l : List α}, (∃ x ∈ l, f x = none) → (l.filterMap f).length < l.length
  | [], h => by obtain ⟨_, h, _⟩ := h; cases h
  | x :: l, h => by
    have le : (l.filterMap f).length ≤ l.length := List.length_filterMap_le f l
    rw [List.filterMap_cons]
    cases q : f x with
    | none =>
      show (l.filterMap f).length < (x :: l).length
      rw [List.length_cons]
      omega
    | some y =>
      obtain ⟨z, hz, e⟩ := h
      rcases List.mem_cons.mp hz with r | r
      · subst r; rw [q] at e; cases e
      · have := fm_len ⟨z, r, e⟩
        show (y :: l.filterMap f).length < (x :: l).length
        rw [List.length_cons, List.length_cons]
        omega
theorem swap_no0 {tg e : Expr} {env : Env} (h : swB0 env.scope tg e = true) : swappedStores [tg] e env = pure none := by
  have first : noTup e = true ∨ noSq tg = true → swappedStores [tg] e env = pure none := fun h => by
    rcases h with h | h
    · cases e <;> first | (cases tg <;> rfl) | cases h
    · cases tg <;> first | (cases e <;> rfl) | cases h
  unfold swB0 at h
  rcases Bool.or_eq_true_iff.mp h with h | h
  · exact first (.inl h)
  · rcases Bool.or_eq_true_iff.mp h with h | h
    · exact first (.inr h)
    · cases tg with
      | Tuple ts k p =>
        cases e with
        | Tuple vs k2 p2 =>
          obtain ⟨t, ht, q⟩ := List.any_eq_true.mp h
          unfold swappedStores
          dsimp only
          split
          · rfl
          · split
            · rfl
            · rename_i q1 q2
              rw [if_pos]
              rw [Bool.or_eq_true]
              left
              have : (ts.filterMap fun t => match t with
                | .Name id pos => if env.kindOf id == some .local && pos.line == (ts.head?.map (·.pos.line)).getD 0 then some id else none
                | _ => none).length < ts.length := fm_len ⟨t, ht, by
                  cases t with
                  | Name x px =>
                    have q : (!(locB env.scope x)) = true := q
                    have z : (env.kindOf x == some .local) = false := by
                      cases r : (env.kindOf x == some NameKind.local) with
                      | false => rfl
                      | true =>
                        have r := eq_of_beq r
                        unfold locB at q
                        rw [decide_eq_true (show env.scope.names.lookup x = some .local from r)] at q
                        cases q
                    simp [z]
                  | _ => rfl⟩
              exact bne_iff_ne.mpr (Nat.ne_of_lt this)
        | _ => rfl
      | _ => cases h
theorem swap_no {tg e : Expr} {env : Env} (h : swB env.scope tg e = true) : swappedStores [tg] e env = pure none := by
  rcases Bool.or_eq_true_iff.mp h with h | h
  · exact swap_no0 h
  · cases e with
    | Tuple vs k2 p2 =>
      have h : vs.all (foldedForSure 8) = true := h
      unfold swappedStores
      cases tg <;> first
        | rfl
        | (dsimp only
           split
           · rfl
           · split
             · rfl
             · split
               · rfl
               · first | rfl | (rw [if_pos (by assumption)]))
    | _ => cases h
section
variable (S : Sg) (N : List Str)
def chkG (sc : Scope) : CG → Expr → Bool
  | .nam i, .Name x _ => namB N true sc i x
  | .tup l, .Tuple es _ _ => S.calm && namsB N true sc l es
  | .sub o i, .Subscript a b _ => chkE S N sc o a && chkE S N sc i b
  | .subsub o i o2 i2, .Tuple [.Subscript a b _, .Subscript c d _] _ _ => S.calm && ((chkE S N sc o a && chkE S N sc i b) && (chkE S N sc o2 c && chkE S N sc i2 d))
  | .subnam o i j, .Tuple [.Subscript a b _, .Name x _] _ _ => S.calm && (chkE S N sc o a && (chkE S N sc i b && namB N true sc j x))
  | _, _ => false
/-- an except clause: its class, its name, its suite -/
def hdC (sc : Scope) (c : Nat) (i : Option Nat) (x : Str) (n : Option Str) : Bool := decide (S.excs[c]? = some x) && (gloB sc x && (plainB x && (match i, n with
    | some i, some n => decide (N[i]? = some n) && locB sc n
    | none, none => true
    | _, _ => false)))
def hdB (sc : Scope) (c : Nat) (i : Option Nat) : List ExceptHandler → Option (List Stmt)
  | [.ExceptHandler (some (.Name x _)) n (b₀ :: l) _] => (match hdC S N sc c i x n with
    | true => some (b₀ :: l)
    | false => none)
  | _ => none
mutual
def chkS : Bool → Scope → CS → Stmt → Bool
  | _, _, .pass, .Pass _ => true
  | cm, sc, .expr a, .Expr e _ => noComp e && chkE (S.at cm) N sc a e
  | cm, sc, .ret a, .Return (some e) _ => chkE (S.at cm) N sc a e
  | _, _, .retN, .Return none _ => true
  | cm, sc, .asg g a, .Assign [tg] e _ => ncB sc tg e && (swB sc tg e && (chkG (S.at cm) N sc g tg && chkE (S.at cm) N sc a e))
  | cm, sc, .setc i a, .Assign [.Name y py] (.ListComp elt gs scope p) _ => decide (py.line = p.line) && (!(scope.names.any fun (n, k) => n == y && (k == .local || k == .cell)) && (decide (N[i]? = some y) && (locB sc y && chkE (S.at cm) N sc a (.ListComp elt gs scope p))))
  | cm, sc, .setf o f a, .Assign [.Attribute b g _] e _ => decide (f = g) && (fldB S f && (chkE (S.at cm) N sc o b && chkE (S.at cm) N sc a e))
  | cm, sc, .ifs c a b, .If e x y _ => chkE (S.at cm) N sc c e && (chkSs cm sc a x && chkSs cm sc b y)
  | cm, sc, .whil c b, .While e x [] _ => chkE (S.at cm) N sc c e && chkSs cm sc b x
  | cm, sc, .for_ tg it b, .For t i x [] _ => chkT N true sc tg t && ((tupE it t && chkI (S.at cm) N sc it i) && (cm && chkSs cm sc b x))
  | cm, sc, .rais c, .Raise (some (.Call (.Name x _) [.Constant (.str _) _ _] [] _)) none _ => decide (S.excs[c]? = some x) && (decide (x ∈ S.plain) && (gloB sc x && (cm && plainB x)))
  | cm, sc, .par i j a b, .Assign [.Tuple [.Name x px, .Name y py] _ _] (.Tuple [u, v] _ _) _ => decide (N[i]? = some x) && (decide (N[j]? = some y) && (locB sc x && (locB sc y && (decide (i ≠ j) && (decide (px.line = py.line) && (!(foldedForSure 8 u && foldedForSure 8 v) && (!(constantsAlone 8 u && constantsAlone 8 v) && (cm && (chkE (S.at cm) N sc a u && chkE (S.at cm) N sc b v)))))))))
  | cm, sc, .par3 i j l a b c, .Assign [.Tuple [.Name x px, .Name y py, .Name z pz] _ _] (.Tuple [u, v, w] _ _) _ => decide (N[i]? = some x) && (decide (N[j]? = some y) && (decide (N[l]? = some z) && (locB sc x && (locB sc y && (locB sc z && ((decide (i ≠ j) && (decide (i ≠ l) && decide (j ≠ l))) && ((decide (px.line = py.line) && decide (px.line = pz.line)) && (!(foldedForSure 8 u && (foldedForSure 8 v && foldedForSure 8 w)) && (!(constantsAlone 8 u && (constantsAlone 8 v && constantsAlone 8 w)) && (cm && (chkE (S.at cm) N sc a u && (chkE (S.at cm) N sc b v && chkE (S.at cm) N sc c w))))))))))))
  | cm, sc, .tryas c i b s, .Try body hds [] [] _ => cm && (chkSs cm sc b body && (match hdB S N sc c (some i) hds with
    | some l => chkSs false sc s l
    | none => false))
  | cm, sc, .try_ c b s, .Try body hds [] [] _ => cm && (chkSs cm sc b body && (match hdB S N sc c none hds with
    | some l => chkSs false sc s l
    | none => false))
  | _, _, _, _ => false
def chkSs : Bool → Scope → CSs → List Stmt → Bool
  | _, _, .nil, [] => true
  | cm, sc, .cons s ss, st :: l => chkS cm sc s st && chkSs cm sc ss l
  | _, _, _, _ => false
end
end

/-! ### the readings of the simple statements -/
section
variable {X : Cx} {ca : Nat → Addr} {W' : Nat → L2.St → Hp → Prop}
theorem s_expr {e : Expr} {pos : Pos} {m : En → Hh → Res W} (nc : noComp e = true) (he : PE X e (tI X.K ca W' (rW X.K ca) m)) : PS X (.Expr e pos) (tS X.K ca W' fun e h => (m e h).then e fun _ h => .nxt e h) := by
  refine (ps_expr he (swaps_no nc)).imp fun D σ H q => ?_
  obtain ⟨μ, en, hh, er, hr, o⟩ := q
  exact seqS (rW X.K ca) er hr o fun μ1 H1 h1 a b s er1 hr1 z o1 => o1.now hr1 er1
theorem s_ret {e : Expr} {pos : Pos} {m : En → Hh → Res W} (he : PE X e (tI X.K ca W' (rW X.K ca) m)) : PS X (.Return (some e) pos) (tS X.K ca W' fun e h => (m e h).then e fun w h => .ret w h) := by
  refine (ps_ret he).imp fun D σ H q => ?_
  obtain ⟨μ, en, hh, er, hr, o⟩ := q
  exact seqS (rW X.K ca) er hr o fun μ1 H1 h1 a b s er1 hr1 z o1 => o1 _ _ _ .refl hr1 z
theorem s_retN {pos : Pos} : PS X (.Return none pos) (tS X.K ca W' fun _ h => .ret (.dat .none) h) :=
  ps_retN.imp fun D σ H ⟨μ, en, hh, er, hr, o⟩ => o _ _ _ .refl hr (.dat .non)
theorem s_pass {pos : Pos} : PS X (.Pass pos) (tS X.K ca W' fun e h => .nxt e h) :=
  ps_pass.imp fun D σ H ⟨μ, en, hh, er, hr, o⟩ => o.now hr er
/-- a value is stored to a target -/
def gI (K : PySem.W.Frag) (ca : Nat → Addr) (W' : Nat → L2.St → Hp → Prop) (f : W → En → Hh → SR) : TG := fun v σ H Q => ∃ μ e h w D, ER K ca μ H e σ ∧ HR K ca μ H h ∧ WR K ca μ H w v ∧ D.nx = Q ∧ OutS K ca μ H W' D (f w e h)
theorem s_asg {tg e : Expr} {pos : Pos} {m : En → Hh → Res W} {f : W → En → Hh → SR} (nc : ncB X.env.scope tg e = true) (nt : swB X.env.scope tg e = true) (h1 : (assignEach [tg] X.env).map (·.2) = [assign tg X.env]) (hg : PG X tg (gI X.K ca W' f)) (he : PE X e (tI X.K ca W' (rW X.K ca) m)) :
    PS X (.Assign [tg] e pos) (tS X.K ca W' fun e h => (m e h).then e fun w h => f w e h) := by
  refine (ps_asg he hg (swaps_nc nc) (swap_no nt) h1).imp fun D σ H q => ?_
  obtain ⟨μ, en, hh, er, hr, o⟩ := q
  exact seqS (rW X.K ca) er hr o fun μ1 H1 h1 a b s er1 hr1 z o1 => ⟨μ1, en, h1, a, D, er1, hr1, z, rfl, o1⟩
theorem s_setc {i : Nat} {x : Str} {px p pos : Pos} {elt : Expr} {gs : List Comprehension} {scope : Scope} {m : En → Hh → Res W} (hs : PS X (.Assign [.Name x px] (.ListComp elt gs scope p) pos) (tAsg (tI X.K ca W' (rW X.K ca) m) (gName i))) :
    PS X (.Assign [.Name x px] (.ListComp elt gs scope p) pos) (tS X.K ca W' fun e h => (m e h).then e fun w h => .nxt (e.set i (some w)) h) := by
  refine hs.imp fun D σ H q => ?_
  obtain ⟨μ, en, hh, er, hr, o⟩ := q
  exact seqS (rW X.K ca) er hr o fun μ1 H1 h1 a b s er1 hr1 z o1 => o1.now hr1 (er1.set z)
theorem s_setf {o value : Expr} {f : Str} {pos pos' : Pos} {m1 m2 : En → Hh → Res W} (cl : ∀ c, Cls X.K (ca (2 * c + 1))) (na : ∀ c, NoAttr X.K (ca (2 * c + 1)) f) (ho : PE X o (tI X.K ca W' (rW X.K ca) m2)) (hv : PE X value (tI X.K ca W' (rW X.K ca) m1)) :
    PS X (.Assign [.Attribute o f pos'] value pos) (tS X.K ca W' fun e h => (m1 e h).then e fun w h => (m2 e h).then e fun x h => (match setFld f x w h with
      | some h => .nxt e h
      | none => .bad)) := by
  refine (ps_fld ho hv swaps_at).imp fun D σ H q => ?_
  obtain ⟨μ, en, hh, er, hr, o⟩ := q
  refine seqS (rW X.K ca) er hr o fun μ1 H1 h1 w y s1 er1 hr1 z1 o1 => ?_
  refine seqS (rW X.K ca) er1 hr1 o1 fun μ2 H2 h2 w2 x s2 er2 hr2 z2 o2 => ?_
  cases w2 with
  | ref n =>
    cases q : h2[n]? with
    | none => simp only [setFld, q] at o2; exact o2.elim
    | some ob =>
      cases ob with
      | ins c fs =>
        simp only [setFld, q] at o2
        obtain ⟨a, dx, fv, rfl, hn, g2, g3⟩ := ins_at hr2 z2 q
        by_cases l : fs.length < 1000
        · rw [if_pos l] at o2
          refine ⟨a, _, dx, fv, rfl, g2, cl c, na c, by rw [← g3.len]; exact l, ?_⟩
          obtain ⟨st, hr3⟩ := hr2.set (o := .ins c (setF f w fs)) (u := .ins (ca (2 * c + 1)) dx (putF f y fv)) hn fun s => ⟨dx, _, upd_same, FsR.put (Paired.mapP g3 fun _ _ q => ⟨q.1, q.2.mono s⟩) f ((z1.mono s2).mono s)⟩
          exact o2 μ2 _ σ st hr3 (er2.mono st)
        · rw [if_neg l] at o2
          exact o2.elim
      | _ => simp only [setFld, q] at o2; exact o2.elim
  | _ => exact o2.elim
theorem s_if {c : Expr} {a b : List Stmt} {pos : Pos} {k : En → Hh → Res Bool} {m n : En → Hh → SR} (hc : PT X c (tI X.K ca W' rB k)) (ha : PSs X a (tS X.K ca W' m)) (hb : PSs X b (tS X.K ca W' n)) :
    PS X (.If c a b pos) (tS X.K ca W' fun e h => (k e h).then e fun q h => if q = true then m e h else n e h) := by
  refine (ps_if hc ha hb).imp fun D σ H q => ?_
  obtain ⟨μ, en, hh, er, hr, o⟩ := q
  refine seqS rB er hr o fun μ1 H1 h1 a b s er1 hr1 z o1 => ?_
  have z : a = b := z
  subst z
  cases a with
  | true => exact ⟨μ1, en, h1, er1, hr1, o1⟩
  | false => exact ⟨μ1, en, h1, er1, hr1, o1⟩
theorem s_nil : PSs X [] (tS X.K ca W' fun e h => .nxt e h) := pss_nil.imp fun D σ H ⟨μ, en, hh, er, hr, o⟩ => o.now hr er
theorem s_cons {st : Stmt} {l : List Stmt} {m n : En → Hh → SR} (h1 : PS X st (tS X.K ca W' m)) (h2 : PSs X l (tS X.K ca W' n)) : PSs X (st :: l) (tS X.K ca W' fun e h => (m e h).bind fun e h => n e h) := by
  refine (pss_cons h1 h2).imp fun D σ H q => ?_
  obtain ⟨μ, en, hh, er, hr, o⟩ := q
  refine ⟨μ, en, hh, er, hr, ?_⟩
  cases q : m en hh with
  | nxt e2 h2 =>
    simp only [q] at o
    intro μ1 H1 σ1 s1 hr1 er1
    exact ⟨μ1, e2, h2, er1, hr1, o.shift s1⟩
  | ret w h2 => simp only [q] at o; exact o
  | exc c e2 h2 => simp only [q] at o; exact o
  | bad => simp only [q] at o; exact o.elim
theorem s_while {c : Expr} {b : List Stmt} {pos : Pos} {k : En → Hh → Res Bool} {m : En → Hh → SR} (po : PassesOwn (model X.prog X.w) X.A X.env X.xe) (hc : PT X c (tI X.K ca W' rB k)) (hb : PSs X b (tS X.K ca W' m)) :
    PS X (.While c b [] pos) (tS X.K ca W' fun e h => whM k m e h) := by
  refine (ps_while po hc hb).imp fun D σ H q => ?_
  obtain ⟨μ, en, hh, er, hr, o⟩ := q
  have nb : whM k m en hh ≠ .bad := fun z => by rw [show (fun e h => whM k m e h) en hh = .bad from z] at o; exact o
  obtain ⟨n, hn⟩ := whM_get nb
  have o : OutS X.K ca μ H W' D (whN k m n en hh) := by rw [hn]; exact o
  refine ⟨fun n σ H => ∃ μ e h, ER X.K ca μ H e σ ∧ HR X.K ca μ H h ∧ OutS X.K ca μ H W' D (whN k m n e h), ⟨n, μ, en, hh, er, hr, o⟩, ?_⟩
  rintro n σ H ⟨μ, en, hh, er, hr, o⟩
  cases n with
  | zero => exact o.elim
  | succ n =>
    unfold whN at o
    refine seqS rB er hr o fun μ1 H1 h1 a b s er1 hr1 z o1 => ?_
    have z : a = b := z
    subst z
    cases a with
    | false => exact o1.now hr1 er1
    | true =>
      rw [if_pos rfl] at o1 ⊢
      refine ⟨_, fun σ' H' q => ⟨n, Nat.lt_succ_self n, q⟩, μ1, en, h1, er1, hr1, ?_⟩
      cases q : m en h1 with
      | nxt e2 h2 =>
        rw [q] at o1
        intro μ2 H2 σ2 s2 hr2 er2
        exact ⟨μ2, e2, h2, er2, hr2, o1.shift s2⟩
      | ret w h2 => rw [q] at o1; exact o1
      | exc c e2 h2 => rw [q] at o1; exact o1
      | bad => rw [q] at o1; exact o1.elim
theorem s_for {tg it : Expr} {b : List Stmt} {pos : Pos} {t : CT} {mi : En → Hh → Res Itm} {m : En → Hh → SR} (hcalm : X.calm = true) (po : PassesOwn (model X.prog X.w) X.A X.env X.xe) (hi : PI X tg it (tI X.K ca W' (rIt X.K ca) mi)) (hg : PG X tg (tgI X.K ca t)) (hb : PSs X b (tS X.K ca W' m))
    (hs : ∀ x, foldedSetIterable it X.env x = pure x) :
    PS X (.For tg it b [] pos) (tS X.K ca W' fun e h => (mi e h).then e fun l h => forG l (fun w e h => match bindT t w e with
      | some e => m e h
      | none => .bad) l.num 0 e h) := by
  refine (ps_for po hcalm hi hg hb hs).imp fun D σ H q => ?_
  obtain ⟨μ, en, hh, er, hr, o⟩ := q
  refine seqS (rIt X.K ca) er hr o fun μ1 H1 h1 I J s1 er1 hr1 wk o1 => ?_
  refine ⟨fun i k σ H => ∃ μ e h, Stp μ1 H1 μ H ∧ ER X.K ca μ H e σ ∧ HR X.K ca μ H h ∧ OutS X.K ca μ H W' D (forG I (fun w e h => match bindT t w e with
      | some e => m e h
      | none => .bad) k i e h), ⟨I.num, μ1, en, h1, .refl, er1, hr1, o1⟩, ?_⟩
  rintro i k σ H ⟨μ, en, hh, st, er, hr, o⟩
  cases k with
  | zero =>
    unfold forG at o
    by_cases hf : I.fin i hh = true
    · rw [if_pos hf] at o
      exact .inl ⟨wk.stop i μ H hh st hr hf, o.now hr er⟩
    · rw [if_neg hf] at o
      exact o.elim
  | succ k =>
    unfold forG at o
    cases eg : I.get i hh with
    | none => rw [eg] at o; exact o.elim
    | some w =>
      rw [eg] at o
      refine .inr ⟨wk.go i μ H hh w st hr eg, _, fun σ' H' z => ⟨k, Nat.lt_succ_self k, z⟩, fun x H3 y => ?_⟩
      obtain ⟨s3, hr3, w3⟩ := wk.yld i μ H hh w x H3 st hr eg y
      cases eb : bindT t w en with
      | none => simp only [eb] at o; exact o.elim
      | some e2 =>
        simp only [eb] at o
        refine ⟨μ, en, hh, w, e2, er.mono s3, hr3, w3, eb, fun σ2 _ er2 => ⟨μ, e2, hh, er2, hr3, ?_⟩⟩
        have o := o.shift s3
        cases q : m e2 hh with
        | nxt e4 h4 =>
          rw [q] at o
          intro μ4 H4 σ4 s4 hr4 er4
          exact ⟨μ4, e4, h4, (st.trans s3).trans s4, er4, hr4, o.shift s4⟩
        | ret w h2 => rw [q] at o; exact o
        | exc c e4 h2 => rw [q] at o; exact o
        | bad => rw [q] at o; exact o.elim
end
end M
/-! MTry: try .. except: the caught error is told among the objects. -/
namespace M
open PySem PySem.Spec PyProof.Rows L2
section
variable {X : Cx} {pins : List (Addr × Obj)} {σ : L2.St} {H : Hp} {s : Shared} {ca : Nat → Addr}
theorem exv_ok {P : Program} {w : World} {H : Hp} {h : Heap} {a C : Addr} {oe : Obj} (he : h.get? a = some oe) (hz : Zc (.ref C) none oe) (hd : ∃ vs, oe.data = .fields vs) : ObjOk P w H h a (ExV C a) :=
  ⟨⟨oe, he, hz, hd⟩, ⟨oe, he⟩, fun h1 h2 ⟨o, e, z, d⟩ k => ⟨o, k _ e, z, d⟩⟩
/-- the context of an except suite whose error is told of -/
abbrev suiteX (X : Cx) (a : Addr) (pn : List (Addr × Obj)) : Cx := { X with A := X.A.mark (some (.ref a)), calm := false, pn := pn, xe := fun _ _ => False }
theorem suiteX_ok (o : X.Ok) (a : Addr) (pn : List (Addr × Obj)) : (suiteX X a pn).Ok := by
  obtain ⟨q1, q2, q3, q4, q5, q6, q7, q8, q9, q10, q11, q12, q13, q14, q15, q16, q17, q18⟩ := o
  exact ⟨q1, q2, q3, q4, q5, q6, q7, q8, (fun z => Bool.noConfusion (show false = true from z)), q10, q11, q12, q13, q14, q15, q16, q17, q18⟩
theorem track {a C : Addr} {oe : Obj} {o : HO} (eo : o = ExV C a) (I : Inv X pins σ H s) (ex0 : X.ex = []) (ha : s.heap.get? a = some oe) (hz : Zc (.ref C) none oe) (hd : ∃ vs, oe.data = .fields vs) (na : H a = none) (n0 : X.s_0.heap.get? a = none) (nL : a ≠ X.env.locals)
    (np : ∀ p ∈ X.pn ++ pins, p.1 ≠ a) : Inv (suiteX X a (X.pn ++ pins)) [] σ (upd H a o) s := by
  subst eo
  have ne : ∀ b u, H b = some u → b ≠ a := fun b u e z => by rw [z, na] at e; cases e
  refine ⟨suiteX_ok I.ok _ _, I.os, I.bare, ⟨I.base.keep, I.base.slot, fun b o e n hb => ?_, I.base.there, fun b xs q => ?_, fun b o u q => ?_, fun b ps q => ?_⟩, I.loc, I.cell, ?_, fun x c e => ?_, fun p hp => ?_, fun b u e => ?_, I.len⟩
  · have hba : b ≠ a := fun z => by rw [z, n0] at e; cases e
    rw [upd_ne hba]
    exact I.base.free b o e n hb
  · have q2 := I.base.tups b xs q
    rw [upd_ne (ne _ _ q2)]
    exact q2
  · have q2 := I.base.frzs b o u q
    rw [upd_ne (ne _ _ q2)]
    exact q2
  · obtain ⟨m, q2⟩ := I.base.tbls b ps q
    exact ⟨m, by rw [upd_ne (ne _ _ q2)]; exact q2⟩
  · show upd H a _ X.env.locals = none
    rw [upd_ne (Ne.symm nL)]
    exact I.free
  · have hc := I.freeC x c e
    have hca : c ≠ a := fun z => by
      obtain ⟨v, oc, q1, q2⟩ := I.cell x c e
      obtain ⟨vs, hd⟩ := hd
      rw [z, ha] at q1
      have q3 := Option.some.inj q1
      rw [← q3, hd] at q2
      cases q2
    rw [upd_ne hca]
    exact hc
  · have hp' : p ∈ X.pn ++ pins := by rw [List.append_nil] at hp; exact hp
    obtain ⟨e, n, n1, n2, d⟩ := I.pin p hp'
    exact ⟨e, by rw [upd_ne (np p hp')]; exact n, n1, n2, d⟩
  · by_cases hb : b = a
    · subst hb
      rw [upd_same] at e
      cases e
      exact exv_ok ha hz hd
    · rw [upd_ne hb] at e
      exact (I.hok b u e).stay (fun _ _ _ q => q) (fun c q => by rw [upd_ne (ne _ _ q)]; exact q) fun c xs q => by rw [upd_ne (ne _ _ q)]; exact q
/-- what the clause wishes of an exception of the body -/
def wTr (K : PySem.W.Frag) (c : Value) (i : Nat) (ts : TS) (Wout : WX) (D : Ends) : WX := fun cls d σ H =>
  ∃ b, PySem.W.exmOne K cls c = some b ∧ (b = true → ∃ C, cls = .ref C ∧ d = none ∧ ∀ a, H a = none → ts { nx := fun σ' H' => D.nx (σ'.set i none) H', rt := D.rt, bk := fun σ' H' => D.bk (σ'.set i none) H', ct := fun σ' H' => D.ct (σ'.set i none) H' } (σ.set i (some (.ref a))) (upd H a (ExV C a))) ∧
    (b = false → Wout cls d σ H)
end
section
variable {X : Cx} {x n : Str} {c : Value} {i : Nat} {body suite : List Stmt} {b₀ : Stmt} {np pos pos' : Pos} {tb : WX → TS} {ts : TS} {Wout : WX}
/-- what lies on the ground is no frame's dict -/
theorem off_frames {B h : Heap} {l : List Env} {a : Addr} {o : Obj} {vs : Array Value} (ff : h.FunFrames B l) (ho : h.get? a = some o) (rec : o.data = .fields vs) : a ∉ frs l := by
  intro m
  obtain ⟨_, o2, ho2, no⟩ := ff.mem m
  rw [ho] at ho2
  exact no vs (Option.some.inj ho2 ▸ rec)
/-- the error's object is none of those that stood ahead -/
theorem is_new {pins : List (Addr × Obj)} {σ : L2.St} {H : Hp} {sI : Shared} {B : Heap} {a : Addr} (J : Inv X pins σ H sI) (ex0 : X.ex = []) (nb : ∀ b o, sI.heap.get? b = some o → b ∉ frs X.stack → B.get? b = some o) (hB : B.get? a = none) (off : a ∉ frs X.stack) :
    X.s_0.heap.get? a = none ∧ ∀ p ∈ X.pn ++ pins, p.1 ≠ a := by
  have gone : ∀ o, sI.heap.get? a ≠ some o := fun o e => nomatch hB.symm.trans (nb a o e off)
  refine ⟨Option.eq_none_iff_forall_ne_some.mpr fun o e => ?_, fun p hp e => gone p.2 (e ▸ (J.pin p hp).1)⟩
  obtain ⟨o2, e2⟩ := J.base.there a o e (by rw [ex0]; exact List.not_mem_nil)
  exact gone o2 e2
theorem ps_try_tr (ex0 : X.ex = []) (stk : X.stack = X.env :: X.outer) (frm : X.env.frame = some X.env.locals) (nd : X.N.Nodup) (ix : X.N[i]? = some n) (lc : X.env.kindOf n = some .local) (nam : Names X x c) (out : Takes X Wout)
    (body_ok : ∀ (W : WX) (pn : List (Addr × Obj)) (xe : Value → Shared → Prop), Takes (X.tr pn xe) W → PassesOwn (model X.prog X.w) X.A X.env xe → PSs (X.tr pn xe) body (tb W))
    (suite_ok : ∀ (a : Addr) (pn : List (Addr × Obj)), PSs (suiteX X a pn) (b₀ :: suite) ts) :
    PS X (.Try body [.ExceptHandler (some (.Name x np)) (some n) (b₀ :: suite) pos'] [] [] pos) (fun D σ H => tb (wTr X.K c i ts Wout D) D σ H) := by
  constructor
  intro pins s σ H D I wish
  have okX := I.ok
  have all_fr : X.A.frames = some (X.env :: X.outer) := stk ▸ okX.frames
  refine wpAny_Try_except ?_
  have run_body := (body_ok (wTr X.K c i ts Wout D) (X.pn ++ pins) (fun u t₁ => wpAny (model X.prog X.w) X.A (noteFrame u X.env) (fun _ t₂ => wpAny (model X.prog X.w) X.A (setFlight u none) (fun _ t₃ =>
    wpAny (model X.prog X.w) X.A (handleBy u X.env [.ExceptHandler (some (.Name x np)) (some n) (b₀ :: suite) pos']) (SP X pins D) X.xe t₃) X.xe t₂) X.xe t₁) (fun u t raised => ?fell) PassesOwn.looking).run [] s σ H D (I.toTry _) wish
  case fell =>
    obtain ⟨a, B, sI, pins1, σ1, H1, cls, d, rfl, J1, nb, up, sky, na, os, ag, b, e_b, yes, no⟩ := raised
    have J := Inv.ofTry J1 okX
    rw [stk] at sky
    refine Sky.land Zc.steady all_fr frm sky fun hA flA upA => ?_
    have KA := (J.landed (s' := { t with heap := hA }) nb flA.1 (up.trans upA) os ag)
    obtain ⟨oA, vA, getA, zA, recA⟩ := flA.there
    have off := off_frames flA.2.2.1 getA recA
    have offL : a ≠ X.env.locals := fun e => off (List.mem_filterMap.mpr ⟨_, List.mem_cons_self, e ▸ frm⟩)
    have offF : a ∉ X.fs := fun m => off (by
      obtain ⟨v, hv, ev⟩ := List.mem_filterMap.mp m
      exact List.mem_filterMap.mpr ⟨v, List.mem_cons_of_mem _ hv, ev⟩)
    obtain ⟨new0, newP⟩ := is_new J ex0 nb flA.2.1 (stk ▸ off)
    have at_clause := KA.suite getA recA na offL offF
    have its_class : PySem.W.Looks (model X.prog X.w) hA (typeOf (.ref a)) cls := by
      intro A' Q' E' s' stays q
      exact wpAny_typeOf_ref (stays _ _ getA) (zA.1.symm ▸ q)
    refine wpAny_handleBy_cons (codeAny_handlers_test ?_) fun q => nomatch q
    have ask := (PySem.W.exm_one (M := model X.prog X.w) KA.kIn its_class e_b)
    have named : ∀ {R F : Value → Shared → Prop}, R c { t with heap := hA } → wpAny (model X.prog X.w) (X.A.mark (some (.ref a))) (eval (.Name x np) X.env) R F { t with heap := hA } := by
      intro R F r
      rcases nam with ⟨gl, nd2, from_mg | ⟨no_mg, from_b, nn⟩⟩
      · exact ld_glob (X := Cx.suite X a _) at_clause gl from_mg r nd2
      · exact ld_blt (X := Cx.suite X a _) at_clause gl no_mg from_b r nn nd2
    refine named (ask.here ?_)
    cases b
    case true =>
      obtain ⟨C, rfl, rfl, go⟩ := yes rfl
      refine codeAny_handlers_suite_as (HandSPX.lands_againZ flA fun hB flB upB => ?_)
      have KB := (J.landed (s' := { t with heap := hB }) nb flB.1 ((up.trans upA).trans upB) os ag)
      obtain ⟨oB, vB, getB, zB, recB⟩ := flB.there
      refine store_ok (X := suiteX X a (X.pn ++ pins)) (v := .ref a) (track rfl KB ex0 getB zB ⟨_, recB⟩ na new0 offL newP) nd ix (.inl lc) rfl (fun t2 K2 => ?_) (.inr lc)
      have back : ∀ {σ' : L2.St} {H' : Hp} {t' : Shared}, Inv (suiteX X a (X.pn ++ pins)) [] σ' H' t' → Inv X pins σ' H' t' := fun K => ⟨okX, K.os, K.bare, K.base, K.loc, K.cell, K.free, K.freeC, fun p m => K.pin p (List.mem_append_left _ m), K.hok, K.len⟩
      refine wpAny_mono ((suite_ok a (X.pn ++ pins)).run [] t2 _ _ _ K2 (go a na)) (fun f t3 told => ?_) fun _ _ z => z.elim
      match f, told with
      | .next, ⟨_, _, K3, w3⟩ => exact gone_ok (back K3) nd ix lc fun t4 K4 => ⟨_, _, K4, w3⟩
      | .brk, ⟨_, _, K3, w3⟩ => exact gone_ok (back K3) nd ix lc fun t4 K4 => ⟨_, _, K4, w3⟩
      | .cont, ⟨_, _, K3, w3⟩ => exact gone_ok (back K3) nd ix lc fun t4 K4 => ⟨_, _, K4, w3⟩
      | .ret u, ⟨_, _, _, K3, r3, w3⟩ => exact gone_ok (back K3) nd ix lc fun t4 K4 => ⟨_, _, _, K4, r3, w3⟩
    case false =>
      refine wpAny_handleBy_nil ?_
      obtain ⟨_, _, _, o5, v5, T, oT, _, get5, _, rec5, at1, _⟩ := id flA
      unfold PySem.passOn
      refine wpAny_bind (wpAny_field get5 rec5 at1 ?_)
      rw [if_neg (by simp : ¬ ((Value.ref T == Value.none) = true))]
      have leave : wpAny (model X.prog X.w) X.A (setFlight (.ref a) X.env.frame) (fun _ t6 => wpAny (model X.prog X.w) X.A (throw (.ref a) : Sem Flow) (SP X pins D) X.xe t6) X.xe { t with heap := hA } := by
        rw [frm]
        refine HandSPX.setFlight_upZ flA fun hC flC upC => wpAny_throw (out _ _ ⟨a, B, sI, pins, σ1, H1, cls, d, rfl, J, nb, (up.trans upA).trans upC, .inr (.inr (stk ▸ flC)), na, os, ag, no rfl⟩)
      first
        | exact wpAny_bind leave
        | exact wpAny_bind (wpAny_pure (wpAny_bind leave))
  refine wpAny_mono run_body (fun f t told => ?_) fun _ _ z => z
  match f, told with
  | .next, ⟨_, _, K3, w3⟩ => exact wpAny_execs_nil ⟨_, _, Inv.ofTry K3 okX, w3⟩
  | .brk, ⟨_, _, K3, w3⟩ => exact ⟨_, _, Inv.ofTry K3 okX, w3⟩
  | .cont, ⟨_, _, K3, w3⟩ => exact ⟨_, _, Inv.ofTry K3 okX, w3⟩
  | .ret u, ⟨_, _, _, K3, r3, w3⟩ => exact ⟨_, _, _, Inv.ofTry K3 okX, r3, w3⟩
end
section
variable {X : Cx} {x n : Str} {c : Value} {i : Nat} {body suite : List Stmt} {b₀ : Stmt} {np pos pos' : Pos} {tb : WX → TS} {ts : TS} {Wout : WX}
/-- try: .. except c as n: .. -/
theorem s_tryas {ca : Nat → Addr} {x n : Str} {k0 i : Nat} {body suite : List Stmt} {b₀ : Stmt} {np pos pos' : Pos} {Wx : WX} {m ms : En → Hh → SR} (ex0 : X.ex = []) (hs : X.stack = X.env :: X.outer) (hf : X.env.frame = some X.env.locals) (hN : X.N.Nodup) (hi : X.N[i]? = some n) (hln : X.env.kindOf n = some .local)
    (hc : Names X x (.ref (ca (2 * k0)))) (hk : ∀ k, PySem.W.exmOne X.K (.ref (ca (2 * k))) (.ref (ca (2 * k0))) = some (subX k k0)) (tk : Takes X Wx)
    (hb : ∀ (W : WX) (pn : List (Addr × Obj)) (xe : Value → Shared → Prop), Takes (X.tr pn xe) W → PassesOwn (model X.prog X.w) X.A X.env xe → PSs (X.tr pn xe) body (tS X.K ca (wI ca W) m))
    (hsu : ∀ (a : Addr) (pn : List (Addr × Obj)), PSs (suiteX X a pn) (b₀ :: suite) (tS X.K ca (wI ca fun _ _ _ _ => False) ms)) :
    PS X (.Try body [.ExceptHandler (some (.Name x np)) (some n) (b₀ :: suite) pos'] [] [] pos) (tS X.K ca (wI ca Wx) fun e h => (m e h).catch fun k e h => if subX k k0 = true then (ms (e.set i (some (.exc k))) h).suite i else .exc k e h) := by
  refine (ps_try_tr (i := i) (tb := fun W => tS X.K ca (wI ca W) m) ex0 hs hf hN hi hln hc tk hb hsu).imp fun D σ H q => ?_
  obtain ⟨μ, en, hh, er, hr, o⟩ := q
  refine ⟨μ, en, hh, er, hr, ?_⟩
  cases q : m en hh with
  | nxt e h => simp only [q] at o; exact o
  | ret w h => simp only [q] at o; exact o
  | bad => simp only [q] at o; exact o
  | exc k e h =>
    simp only [q] at o
    have o : OutS X.K ca μ H (wI ca Wx) D (if subX k k0 = true then (ms (e.set i (some (.exc k))) h).suite i else .exc k e h) := o
    intro μ1 H1 σ1 s1 hr1 er1
    refine ⟨_, hk k, fun z => ⟨_, rfl, rfl, fun a na => ?_⟩, fun z => ?_⟩
    · rw [if_pos z] at o
      have nm : a ∉ μ1.m ∧ a ∉ μ1.x := ⟨fun z => hr1.live a z na, fun z => hr1.livx a z na⟩
      have st : Stp μ1 H1 μ1 (upd H1 a (ExV (ca (2 * k)) a)) := hr1.stp na
      have hr2 : HR X.K ca μ1 (upd H1 a (ExV (ca (2 * k)) a)) h := hr1.new na
      refine ⟨μ1, e.set i (some (.exc k)), h, (er1.mono st).set (.exc nm (.inl upd_same)), hr2, ?_⟩
      have o2 := o.shift (s1.trans st)
      cases q2 : ms (e.set i (some (.exc k))) h with
      | nxt e2 h2 =>
        rw [q2] at o2
        intro μ2 H2 σ2 s2 hr2 er2
        exact o2 μ2 H2 _ s2 hr2 (er2.unset i)
      | ret w h2 =>
        rw [q2] at o2
        exact o2
      | exc c e2 h2 => rw [q2] at o2; exact o2.elim
      | bad => rw [q2] at o2; exact o2.elim
    · rw [if_neg (by rw [z]; exact Bool.false_ne_true)] at o
      exact o μ1 H1 σ1 s1 hr1 er1
/-- try: .. except c: .. -/
theorem s_try {ca : Nat → Addr} {x : Str} {k0 : Nat} {body suite : List Stmt} {b₀ : Stmt} {np pos pos' : Pos} {Wx : WX} {m ms : En → Hh → SR} (hs : X.stack = X.env :: X.outer) (hf : X.env.frame = some X.env.locals)
    (hc : Names X x (.ref (ca (2 * k0)))) (hk : ∀ k, PySem.W.exmOne X.K (.ref (ca (2 * k))) (.ref (ca (2 * k0))) = some (subX k k0)) (tk : Takes X Wx)
    (hb : ∀ (W : WX) (pn : List (Addr × Obj)) (xe : Value → Shared → Prop), Takes (X.tr pn xe) W → PassesOwn (model X.prog X.w) X.A X.env xe → PSs (X.tr pn xe) body (tS X.K ca (wI ca W) m))
    (hsu : ∀ (a : Addr) (pn : List (Addr × Obj)), PSs (suiteX X a pn) (b₀ :: suite) (tS X.K ca (wI ca fun _ _ _ _ => False) ms)) :
    PS X (.Try body [.ExceptHandler (some (.Name x np)) none (b₀ :: suite) pos'] [] [] pos) (tS X.K ca (wI ca Wx) fun e h => (m e h).catch fun k e h => if subX k k0 = true then (ms e h).suite0 else .exc k e h) := by
  refine (ps_try_only (tb := fun W => tS X.K ca (wI ca W) m) (ts := fun _ _ _ => tS X.K ca (wI ca fun _ _ _ _ => False) ms) hs hf hc tk hb (fun a oe cls d pn _ _ => hsu a ((a, oe) :: pn))).imp fun D σ H q => ?_
  obtain ⟨μ, en, hh, er, hr, o⟩ := q
  refine ⟨μ, en, hh, er, hr, ?_⟩
  cases q : m en hh with
  | nxt e h => simp only [q] at o; exact o
  | ret w h => simp only [q] at o; exact o
  | bad => simp only [q] at o; exact o
  | exc k e h =>
    simp only [q] at o
    have o : OutS X.K ca μ H (wI ca Wx) D (if subX k k0 = true then (ms e h).suite0 else .exc k e h) := o
    intro μ1 H1 σ1 s1 hr1 er1
    refine ⟨_, hk k, fun z a na => ?_, fun z => ?_⟩
    · rw [if_pos z] at o
      refine ⟨μ1, e, h, er1, hr1, ?_⟩
      have o2 := o.shift s1
      cases q2 : ms e h with
      | nxt e2 h2 => rw [q2] at o2; exact o2
      | ret w h2 => rw [q2] at o2; exact o2
      | exc c e2 h2 => rw [q2] at o2; exact o2.elim
      | bad => rw [q2] at o2; exact o2.elim
    · rw [if_neg (by rw [z]; exact Bool.false_ne_true)] at o
      exact o μ1 H1 σ1 s1 hr1 er1
end
end M
/-! MMain2: every statement of the mini language. -/
namespace M
open PySem PySem.Spec L2
/-- o[i] = v -/
def rSetM (K : PySem.W.Frag) (ca : Nat → Addr) : V → V → V → Hp → (Hp → Prop) → Prop := fun o i v H Q => ∃ μ h a b c h', HR K ca μ H h ∧ WR K ca μ H a o ∧ WR K ca μ H b i ∧ WR K ca μ H c v ∧ setAt a b c h = some h' ∧ ∀ μ' H', Stp μ H μ' H' → HR K ca μ' H' h' → Q H'
theorem Paired.set {α β : Type} {F : α → β → Prop} {x : α} {y : β} (r : F x y) : ∀ {l : List α} {m : List β} (i : Nat), Paired F l m → Paired F (l.set i x) (m.set i y)
  | _, _, _, .nil => .nil
  | _, _, 0, .cons _ t => .cons r t
  | _, _, i + 1, .cons q t => .cons q (Paired.set r i t)
section
variable {X : Cx} {ca : Nat → Addr} {W' : Nat → L2.St → Hp → Prop}
theorem line_lt {n : Nat} (h : n < 1000000) : n < sizeLine := by rw [sizeLine_eq]; omega
theorem set_ok (hu : X.A.units + 1 < cLine) : PSet X (rSetM X.K ca) := by
  intro pins s σ H o i v ov iv u Q I ro ri rv q
  obtain ⟨μ, h, a, b, c, h', hr, ra, rb', rc, e, k⟩ := q
  have lst : rSetL o i v H Q → _ := set_list pins s σ H o i v ov iv u Q I ro ri rv
  have dct : rSetD o i v H Q → _ := set_dict hu pins s σ H o i v ov iv u Q I ro ri rv
  cases a with
  | ref n =>
    cases ra with
    | ref hn =>
      rename_i p
      cases q : h[n]? with
      | none => simp [setAt, dctPut, q] at e
      | some ob =>
        cases ob with
        | lst l =>
          refine lst ?_
          cases b with
          | dat d =>
            cases d with
            | int j =>
              simp only [setAt, q] at e
              by_cases hj : 0 ≤ j ∧ j < l.length
              · rw [if_pos hj] at e
                have e : h.set n (.lst (l.set j.toNat c)) = h' := Option.some.inj e
                subst e
                obtain ⟨xs, y, z⟩ := hr.ob n _ p q hn
                have hl := z.len
                refine ⟨p, xs, j, j.toNat, rfl, rb'.of_int, y, ?_, ?_⟩
                · unfold ixN
                  rw [if_pos hj.1, if_pos (by rw [← hl]; exact hj.2)]
                · obtain ⟨st, hr2⟩ := hr.set (o := .lst (l.set j.toNat c)) (u := .lst (xs.set j.toNat v)) hn fun s => ⟨_, upd_same, Paired.set (rc.mono s) _ (z.mono s)⟩
                  exact k _ _ st hr2
              · rw [if_neg hj] at e
                cases e
            | _ => simp [setAt, q] at e
          | _ => simp [setAt, q] at e
        | dct l =>
          refine dct ?_
          simp only [setAt, dctPut, q] at e
          obtain ⟨ky, e1, e2⟩ := Option.bind_eq_some_iff.mp e
          have ei := ky_ok rb' e1
          subst ei
          by_cases hl : l.length < 1000000
          · rw [if_pos hl] at e2
            have e3 : h.set n (.dct (putA l ky c)) = h' := Option.some.inj e2
            subst e3
            obtain ⟨kvs, y, z⟩ := hr.ob n _ p q hn
            refine ⟨p, _, rfl, DPut.k y (by rw [← Paired.length z]; exact line_lt hl), ?_⟩
            obtain ⟨st, hr2⟩ := hr.set (o := .dct (putA l ky c)) (u := .dK (L2.putK kvs ky v)) hn fun s => ⟨_, upd_same, KW.put (rc.mono s) (Paired.mapP z fun _ _ q => ⟨q.1, q.2.mono s⟩)⟩
            exact k _ _ st hr2
          · rw [if_neg hl] at e2
            cases e2
        | lck l => exact (hr.ob n _ p q hn).elim
        | _ => simp [setAt, dctPut, q] at e
  | _ => cases e
variable {S : Sg} {N : List Str} {sc : Scope} {C : Cc}
theorem sub_eq {o i : Expr} {pos : Pos} {env : Env} (h : plainE i = true) (v : Value) : assign (.Subscript o i pos) env v = (do
    let a ← holding [v] (eval o env)
    let b ← holding [v, a] (eval i env)
    standAt pos
    holding [v, a, b] (setItem a b v)
    release [v, a, b] []) := by
  cases i <;> first | rfl | cases h
theorem g_nam {i : Nat} {x : Str} {pos : Pos} (eN : X.N = N) (nd : N.Nodup) (es : X.env.scope = sc) (hf : ∀ x, X.fn x = true) (h : namB N true sc i x = true) : PG X (.Name x pos) (gI X.K ca W' (stor C (.nam i))) := by
  refine (nam_ok eN nd es (fun _ => hf) h).imp fun v σ H Q q => ?_
  obtain ⟨μ, e, hh, w, D, er, hr, z, rfl, o⟩ := q
  exact OutS.now (e := e.set i (some w)) o hr (er.set z)
theorem g_tup {l : List Nat} {ts : List Expr} {k : Nat} {pos : Pos} (eN : X.N = N) (nd : N.Nodup) (es : X.env.scope = sc) (hf : ∀ x, X.fn x = true) (hc : X.calm = true) (h : namsB N true sc l ts = true) : PG X (.Tuple ts k pos) (gI X.K ca W' (stor C (.tup l))) := by
  obtain ⟨q1, q2, q3⟩ := nams_ok (ca := ca) eN nd es (fun _ => hf) h
  refine ⟨fun pins s σ H v u Q I r q => ?_⟩
  obtain ⟨μ, e, hh, w, D, er, hr, z, rfl, o⟩ := q
  cases eq : seqOf hh w with
  | none => simp only [stor, eq] at o; exact o.elim
  | some ws =>
    simp only [stor, eq] at o
    cases e2 : setAll e l ws with
    | none => simp only [e2] at o; exact o.elim
    | some en =>
      simp only [e2] at o
      obtain ⟨a, xs, rfl, wr, s1⟩ := seqOf_ok hr z eq
      have hl : xs.length = l.length := by rw [← wr.len, setAll_len e2]
      have go : gsI X.K ca l xs σ H D.nx := ⟨μ, e, hh, ws, en, er, hr, wr, e2, fun σ2 _ er2 => o.now hr er2⟩
      rcases s1 with s1 | s1
      · exact (pg_lst hc q1 q2 q3).run pins s σ H _ u D.nx I r ⟨a, xs, rfl, s1, hl, go⟩
      · exact (pg_tup hc q1 q2 q3).run pins s σ H _ u D.nx I r ⟨a, xs, rfl, s1, hl, go⟩
theorem g_sub (hu : X.A.units + 1 < cLine) {o i : Expr} {pos : Pos} {co ci : CE} (pi : plainE i = true) (ho : PE X o (tI X.K ca W' (rW X.K ca) (ev C co))) (hi : PE X i (tI X.K ca W' (rW X.K ca) (ev C ci))) : PG X (.Subscript o i pos) (gI X.K ca W' (stor C (.sub co ci))) := by
  refine (pg_sub ho hi (set_ok (ca := ca) hu) (sub_eq pi)).imp fun v σ H Q q => ?_
  obtain ⟨μ, e, hh, w, D, er, hr, z, rfl, o⟩ := q
  refine seqS (rW X.K ca) er hr (show OutS X.K ca μ H W' D ((ev C co e hh).then e _) from o) fun μ1 H1 h1 a b s1 er1 hr1 z1 o1 => ?_
  refine seqS (rW X.K ca) er1 hr1 o1 fun μ2 H2 h2 a2 b2 s2 er2 hr2 z2 o2 => ?_
  cases e3 : setAt a a2 w h2 with
  | none => simp only [e3] at o2; exact o2.elim
  | some h3 =>
    simp only [e3] at o2
    exact ⟨μ2, h2, a, a2, w, h3, hr2, z1.mono s2, z2, (z.mono s1).mono s2, e3, fun μ3 H3 s3 hr3 => o2 μ3 H3 σ s3 hr3 (er2.mono s3)⟩
theorem g_subnam {o i : Expr} {x : Str} {p1 p2 pos : Pos} {k j : Nat} {co ci : CE} (hu : X.A.units + 1 < cLine) (eN : X.N = N) (nd : N.Nodup) (es : X.env.scope = sc) (hf : ∀ x, X.fn x = true) (hc : X.calm = true) (pi : plainE i = true) (ho : PE X o (tI X.K ca W' (rW X.K ca) (ev C co))) (hi : PE X i (tI X.K ca W' (rW X.K ca) (ev C ci)))
    (h : namB N true sc j x = true) : PG X (.Tuple [.Subscript o i p1, .Name x p2] k pos) (gI X.K ca W' (stor C (.subnam co ci j))) := by
  have g2 : PG X (.Name x p2) (gName j) := nam_ok eN nd es (fun _ => hf) h
  refine (pg_tup hc (pgs_cons (pg_sub ho hi (set_ok (ca := ca) hu) (sub_eq pi)) (pgs_cons g2 pgs_nil)) (n := 2)).imp fun v σ H Q q => ?_
  obtain ⟨μ, e, hh, w, D, er, hr, z, rfl, o⟩ := q
  have key : ∃ w1 w2 a, v = .ref a ∧ (∃ v1 v2, SqT X.K H a [v1, v2] ∧ WR X.K ca μ H w1 v1 ∧ WR X.K ca μ H w2 v2) ∧ OutS X.K ca μ H W' D ((ev C co e hh).then e fun x h => (ev C ci e h).then e fun y h => (match setAt x y w1 h with
      | some h => .nxt (e.set j (some w2)) h
      | none => .bad)) := by
    cases w with
    | dat d =>
      cases d with
      | tuple ds =>
        obtain ⟨a, xs, rfl, t1, t2⟩ := z.of_tup
        cases t2 with
        | nil => exact o.elim
        | cons r1 t2 =>
          cases t2 with
          | nil => exact o.elim
          | cons r2 t2 =>
            cases t2 with
            | nil => exact ⟨_, _, a, rfl, ⟨_, _, t1.sq, .dat r1, .dat r2⟩, o⟩
            | cons _ _ => exact o.elim
      | _ => exact (show False from o).elim
    | _ => exact (show False from o).elim
  obtain ⟨w1, w2, a, rfl, ⟨v1, v2, t1, r1, r2⟩, o⟩ := key
  refine ⟨a, [v1, v2], rfl, t1, rfl, v1, [v2], rfl, ?_⟩
  refine seqS (rW X.K ca) er hr o fun μ1 H1 h1 a1 b1 s1 er1 hr1 z1 o1 => ?_
  refine seqS (rW X.K ca) er1 hr1 o1 fun μ2 H2 h2 a2 b2 s2 er2 hr2 z2 o2 => ?_
  cases e3 : setAt a1 a2 w1 h2 with
  | none => simp only [e3] at o2; exact o2.elim
  | some h3 =>
    simp only [e3] at o2
    refine ⟨μ2, h2, a1, a2, w1, h3, hr2, z1.mono s2, z2, (r1.mono s1).mono s2, e3, fun μ3 H3 s3 hr3 => ?_⟩
    refine ⟨v2, [], rfl, ⟨rfl, ?_⟩⟩
    exact o2 μ3 H3 _ s3 hr3 ((er2.mono s3).set (((r2.mono s1).mono s2).mono s3))
theorem g_subsub {o i o2 i2 : Expr} {p1 p2 pos : Pos} {k : Nat} {co ci co2 ci2 : CE} (hu : X.A.units + 1 < cLine) (hc : X.calm = true) (pi : plainE i = true) (pi2 : plainE i2 = true) (ho : PE X o (tI X.K ca W' (rW X.K ca) (ev C co))) (hi : PE X i (tI X.K ca W' (rW X.K ca) (ev C ci)))
    (ho2 : PE X o2 (tI X.K ca W' (rW X.K ca) (ev C co2))) (hi2 : PE X i2 (tI X.K ca W' (rW X.K ca) (ev C ci2))) : PG X (.Tuple [.Subscript o i p1, .Subscript o2 i2 p2] k pos) (gI X.K ca W' (stor C (.subsub co ci co2 ci2))) := by
  refine (pg_tup hc (pgs_cons (pg_sub ho hi (set_ok (ca := ca) hu) (sub_eq pi)) (pgs_cons (pg_sub ho2 hi2 (set_ok (ca := ca) hu) (sub_eq pi2)) pgs_nil)) (n := 2)).imp fun v σ H Q q => ?_
  obtain ⟨μ, e, hh, w, D, er, hr, z, rfl, o⟩ := q
  have key : ∃ w1 w2 a, v = .ref a ∧ (∃ v1 v2, SqT X.K H a [v1, v2] ∧ WR X.K ca μ H w1 v1 ∧ WR X.K ca μ H w2 v2) ∧ OutS X.K ca μ H W' D ((ev C co e hh).then e fun x h => (ev C ci e h).then e fun y h => (match setAt x y w1 h with
      | some h => (ev C co2 e h).then e fun x h => (ev C ci2 e h).then e fun y h => (match setAt x y w2 h with
        | some h => .nxt e h
        | none => .bad)
      | none => .bad)) := by
    cases w with
    | dat d =>
      cases d with
      | tuple ds =>
        obtain ⟨a, xs, rfl, t1, t2⟩ := z.of_tup
        cases t2 with
        | nil => exact o.elim
        | cons r1 t2 =>
          cases t2 with
          | nil => exact o.elim
          | cons r2 t2 =>
            cases t2 with
            | nil => exact ⟨_, _, a, rfl, ⟨_, _, t1.sq, .dat r1, .dat r2⟩, o⟩
            | cons _ _ => exact o.elim
      | _ => exact (show False from o).elim
    | _ => exact (show False from o).elim
  obtain ⟨w1, w2, a, rfl, ⟨v1, v2, t1, r1, r2⟩, o⟩ := key
  refine ⟨a, [v1, v2], rfl, t1, rfl, v1, [v2], rfl, ?_⟩
  refine seqS (rW X.K ca) er hr o fun μ1 H1 h1 a1 b1 s1 er1 hr1 z1 o1 => ?_
  refine seqS (rW X.K ca) er1 hr1 o1 fun μ2 H2 h2 a2 b2 s2 er2 hr2 z2 o2 => ?_
  cases e3 : setAt a1 a2 w1 h2 with
  | none => simp only [e3] at o2; exact o2.elim
  | some h3 =>
    simp only [e3] at o2
    refine ⟨μ2, h2, a1, a2, w1, h3, hr2, z1.mono s2, z2, (r1.mono s1).mono s2, e3, fun μ3 H3 s3 hr3 => ?_⟩
    refine ⟨v2, [], rfl, ?_⟩
    refine seqS (rW X.K ca) (er2.mono s3) hr3 (o2.shift s3) fun μ4 H4 h4 a4 b4 s4 er4 hr4 z4 o4 => ?_
    refine seqS (rW X.K ca) er4 hr4 o4 fun μ5 H5 h5 a5 b5 s5 er5 hr5 z5 o5 => ?_
    cases e6 : setAt a4 a5 w2 h5 with
    | none => simp only [e6] at o5; exact o5.elim
    | some h6 =>
      simp only [e6] at o5
      refine ⟨μ5, h5, a4, a5, w2, h6, hr5, z4.mono s5, z5, ((((r2.mono s1).mono s2).mono s3).mono s4).mono s5, e6, fun μ6 H6 s6 hr6 => ?_⟩
      exact ⟨rfl, o5 μ6 H6 _ s6 hr6 (er5.mono s6)⟩
theorem plainAs {tg : Expr} {env : Env} (h : plainE tg = true) : (assignEach [tg] env).map (·.2) = [assign tg env] := by
  cases tg <;> first | rfl | cases h
/-- a, b = u, v of two local names -/
theorem swap_two {x y : Str} {px py pt pt2 : Pos} {kt k2 : Nat} {u v : Expr} {env : Env} (hk : env.scope.kind = .function) (hx : env.scope.names.lookup x = some .local) (hy : env.scope.names.lookup y = some .local) (hne : x ≠ y) (hl : px.line = py.line)
    (pu : plainE u = true) (pv : plainE v = true) (h1 : (foldedForSure 8 u && foldedForSure 8 v) = false) (h2 : (constantsAlone 8 u && constantsAlone 8 v) = false) :
    swappedStores [.Tuple [.Name x px, .Name y py] kt pt] (.Tuple [u, v] k2 pt2) env = pure (some [x, y]) := by
  have hb : env.blockKind = .function := by unfold Env.blockKind; rw [hk]; rfl
  have kx : env.kindOf x = some .local := hx
  have ky : env.kindOf y = some .local := hy
  have s1 : ∀ e : Expr, plainE e = true → (match e with | .Starred .. => true | _ => false) = false := fun e h => by cases e <;> first | rfl | cases h
  unfold swappedStores
  simp only [hb, List.length_cons, List.length_nil, List.any_cons, List.any_nil, List.all_cons, List.all_nil, Bool.and_true, h1, h2, List.filterMap_cons, List.filterMap_nil, kx, ky, List.head?_cons, Option.map_some, Option.getD_some, Expr.pos, hl]
  have e1 := s1 u pu
  have e2 := s1 v pv
  simp only [e1, e2, Bool.or_false, Bool.false_eq_true, if_false]
  have yx : (y == x) = false := beq_eq_false_iff_ne.mpr (Ne.symm hne)
  have hd : ([x, y] : List Str).eraseDups.length = 2 := by
    rw [List.eraseDups_cons]
    simp [yx, List.eraseDups_cons]
  simp [hd]
  intro z
  rcases z with z | z
  · cases u <;> first | exact (Bool.noConfusion z) | (exact (Bool.noConfusion pu))
  · cases v <;> first | exact (Bool.noConfusion z) | (exact (Bool.noConfusion pv))
theorem s_par {i j : Nat} {x y : Str} {px py pt pt2 pos : Pos} {kt k2 : Nat} {u v : Expr} {m n : En → Hh → Res W} (hc : X.calm = true) (nd : X.N.Nodup) (hi : X.N[i]? = some x) (hj : X.N[j]? = some y) (hij : i ≠ j)
    (hk : X.env.scope.kind = .function) (hx : X.env.scope.names.lookup x = some .local) (hy : X.env.scope.names.lookup y = some .local) (hl : px.line = py.line) (pu : plainE u = true) (pv : plainE v = true)
    (h1 : (foldedForSure 8 u && foldedForSure 8 v) = false) (h2 : (constantsAlone 8 u && constantsAlone 8 v) = false) (hu : PE X u (tI X.K ca W' (rW X.K ca) m)) (hv : PE X v (tI X.K ca W' (rW X.K ca) n)) :
    PS X (.Assign [.Tuple [.Name x px, .Name y py] kt pt] (.Tuple [u, v] k2 pt2) pos) (tS X.K ca W' fun e h => (m e h).then e fun v h => (n e h).then e fun w h => .nxt ((e.set i (some v)).set j (some w)) h) := by
  have hne : x ≠ y := fun e => hij (nodup_get nd hi (e ▸ hj))
  have pa : PA X [u, v] (tCons (tI X.K ca W' (rW X.K ca) m) (tCons (tI X.K ca W' (rW X.K ca) n) tNil)) := pa_cons hu (pa_cons hv pa_nil (star_of pv)) (star_of pu)
  refine (ps_par hc nd hi hj hij hx hy pa (swap_two hk hx hy hne hl pu pv h1 h2) rfl).imp fun D σ H q => ?_
  obtain ⟨μ, en, hh, er, hr, o⟩ := q
  refine seqS (rW X.K ca) er hr o fun μ1 H1 h1 a b s1 er1 hr1 z1 o1 => ?_
  refine seqS (rW X.K ca) er1 hr1 o1 fun μ2 H2 h2 a2 b2 s2 er2 hr2 z2 o2 => ?_
  exact ⟨_, _, rfl, o2.now hr2 ((er2.set (z1.mono s2)).set z2)⟩
/-- a, b, c = u, v, w of three local names -/
theorem swap_three {x y z : Str} {px py pz pt pt2 : Pos} {kt k2 : Nat} {u v w : Expr} {env : Env} (hk : env.scope.kind = .function) (hx : env.scope.names.lookup x = some .local) (hy : env.scope.names.lookup y = some .local) (hz : env.scope.names.lookup z = some .local)
    (xy : x ≠ y) (xz : x ≠ z) (yz : y ≠ z) (hl : px.line = py.line) (hl2 : px.line = pz.line) (pu : plainE u = true) (pv : plainE v = true) (pw : plainE w = true)
    (h1 : (foldedForSure 8 u && (foldedForSure 8 v && foldedForSure 8 w)) = false) (h2 : (constantsAlone 8 u && (constantsAlone 8 v && constantsAlone 8 w)) = false) :
    swappedStores [.Tuple [.Name x px, .Name y py, .Name z pz] kt pt] (.Tuple [u, v, w] k2 pt2) env = pure (some [x, y, z]) := by
  have hb : env.blockKind = .function := by unfold Env.blockKind; rw [hk]; rfl
  have kx : env.kindOf x = some .local := hx
  have ky : env.kindOf y = some .local := hy
  have kz : env.kindOf z = some .local := hz
  have s1 : ∀ e : Expr, plainE e = true → (match e with | .Starred .. => true | _ => false) = false := fun e h => by cases e <;> first | rfl | cases h
  unfold swappedStores
  simp only [hb, List.length_cons, List.length_nil, List.any_cons, List.any_nil, List.all_cons, List.all_nil, Bool.and_true, h1, h2, List.filterMap_cons, List.filterMap_nil, kx, ky, kz, List.head?_cons, Option.map_some, Option.getD_some, Expr.pos, ← hl, ← hl2]
  have e1 := s1 u pu
  have e2 := s1 v pv
  have e3 := s1 w pw
  simp only [e1, e2, e3, Bool.or_false, Bool.false_eq_true, if_false]
  have yx : (y == x) = false := beq_eq_false_iff_ne.mpr (Ne.symm xy)
  have zx : (z == x) = false := beq_eq_false_iff_ne.mpr (Ne.symm xz)
  have zy : (z == y) = false := beq_eq_false_iff_ne.mpr (Ne.symm yz)
  have hd : ([x, y, z] : List Str).eraseDups.length = 3 := by
    rw [List.eraseDups_cons]
    simp [yx, zx, zy, List.eraseDups_cons]
  simp [hd]
  intro q
  rcases q with q | q | q
  · cases u <;> first | exact (Bool.noConfusion q) | (exact (Bool.noConfusion pu))
  · cases v <;> first | exact (Bool.noConfusion q) | (exact (Bool.noConfusion pv))
  · cases w <;> first | exact (Bool.noConfusion q) | (exact (Bool.noConfusion pw))
theorem s_par3 {i j l : Nat} {x y z : Str} {px py pz pt pt2 pos : Pos} {kt k2 : Nat} {u v w : Expr} {m n o : En → Hh → Res W} (hc : X.calm = true) (nd : X.N.Nodup) (hi : X.N[i]? = some x) (hj : X.N[j]? = some y) (hl : X.N[l]? = some z) (hij : i ≠ j) (hil : i ≠ l) (hjl : j ≠ l)
    (hk : X.env.scope.kind = .function) (hx : X.env.scope.names.lookup x = some .local) (hy : X.env.scope.names.lookup y = some .local) (hz : X.env.scope.names.lookup z = some .local) (l1 : px.line = py.line) (l2 : px.line = pz.line) (pu : plainE u = true) (pv : plainE v = true) (pw : plainE w = true)
    (h1 : (foldedForSure 8 u && (foldedForSure 8 v && foldedForSure 8 w)) = false) (h2 : (constantsAlone 8 u && (constantsAlone 8 v && constantsAlone 8 w)) = false) (hu : PE X u (tI X.K ca W' (rW X.K ca) m)) (hv : PE X v (tI X.K ca W' (rW X.K ca) n)) (hw : PE X w (tI X.K ca W' (rW X.K ca) o)) :
    PS X (.Assign [.Tuple [.Name x px, .Name y py, .Name z pz] kt pt] (.Tuple [u, v, w] k2 pt2) pos) (tS X.K ca W' fun e h => (m e h).then e fun v h => (n e h).then e fun w h => (o e h).then e fun u h => .nxt (((e.set i (some v)).set j (some w)).set l (some u)) h) := by
  have xy : x ≠ y := fun e => hij (nodup_get nd hi (e ▸ hj))
  have xz : x ≠ z := fun e => hil (nodup_get nd hi (e ▸ hl))
  have yz : y ≠ z := fun e => hjl (nodup_get nd hj (e ▸ hl))
  have pa : PA X [u, v, w] (tCons (tI X.K ca W' (rW X.K ca) m) (tCons (tI X.K ca W' (rW X.K ca) n) (tCons (tI X.K ca W' (rW X.K ca) o) tNil))) := pa_cons hu (pa_cons hv (pa_cons hw pa_nil (star_of pw)) (star_of pv)) (star_of pu)
  refine (ps_par3 hc nd hi hj hl hij hil hjl hx hy hz pa (swap_three hk hx hy hz xy xz yz l1 l2 pu pv pw h1 h2) rfl).imp fun D σ H q => ?_
  obtain ⟨μ, en, hh, er, hr, q0⟩ := q
  refine seqS (rW X.K ca) er hr q0 fun μ1 H1 h1 a b s1 er1 hr1 z1 o1 => ?_
  refine seqS (rW X.K ca) er1 hr1 o1 fun μ2 H2 h2 a2 b2 s2 er2 hr2 z2 o2 => ?_
  refine seqS (rW X.K ca) er2 hr2 o2 fun μ3 H3 h3 a3 b3 s3 er3 hr3 z3 o3 => ?_
  exact ⟨_, _, _, rfl, o3.now hr3 (((er3.set ((z1.mono s2).mono s3)).set (z2.mono s3)).set z3)⟩
theorem s_raise {c : Nat} {x msg : Str} {j : Nat} {p p2 p3 pos : Pos} {Wx : WX} (hc : X.calm = true) (tk : Takes X Wx) (gC : X.mg x = some (.ref (ca (2 * c)))) (kC : PySem.W.keepIn X.K (.ref (ca (2 * c))) = true) (q : PySem.W.excIn X.K (ca (2 * c)) [.type "ValueError", .type "Exception", .type "BaseException", .type "object"] "ValueError.__new__" = true)
    (r : Raises X (.ref (ca (2 * c)))) (hg : Gl X x) (hd : (x == ("__debug__" : Str)) = false) :
    PS X (.Raise (some (.Call (.Name x p) [.Constant (.str msg) j p2] [] p3)) none pos) (tS X.K ca (wI ca Wx) fun e h => .exc c e h) := by
  refine (ps_raise hc tk (pmk_own PySem.F.excBase_ValueError q gC kC r hg hd)).imp fun D σ H q => ?_
  obtain ⟨μ, en, hh, er, hr, o⟩ := q
  exact o μ H σ .refl hr er
end
/-! ### all statements -/
section
variable {S : Sg} {ca : Nat → Addr} {call : Nat → List W → Hh → Res W} {lv : Nat} {N : List Str}
theorem bnot {b : Bool} (h : (!b) = true) : b = false := by cases b <;> first | rfl | cases h
theorem Sok.gok {sc : Scope} {X : Cx} {Wx : WX} (k : Sok S ca call lv N sc X Wx) {g : CG} {tg : Expr} (h : chkG S N sc g tg = true) : PG X tg (gI X.K ca (wI ca Wx) (stor (S.cc call whM) g)) ∧ plainE tg = true := by
  cases g with
  | nam i =>
    cases tg with
    | Name x p => exact ⟨g_nam k.k.eN k.k.nd k.k.esc k.fn h, rfl⟩
    | _ => cases h
  | tup l =>
    cases tg with
    | Tuple ts j p =>
      have h2 := and2 (show (S.calm && namsB N true sc l ts) = true from h)
      exact ⟨g_tup k.k.eN k.k.nd k.k.esc k.fn (k.k.calm h2.1) h2.2, rfl⟩
    | _ => cases h
  | sub o i =>
    cases tg with
    | Subscript a b p =>
      have h2 := and2 (show (chkE S N sc o a && chkE S N sc i b) = true from h)
      exact ⟨g_sub (by have := k.k.un; omega) (chkE_plain h2.2) (sndE o k.k h2.1).1 (sndE i k.k h2.2).1, rfl⟩
    | _ => cases h
  | fld o f => cases tg <;> cases h
  | subsub o i o2 i2 =>
    cases tg with
    | Tuple ts q p =>
      match ts, h with
      | [], h => cases h
      | [e1], h => cases e1 <;> cases h
      | e1 :: e2 :: e3 :: r, h => cases e1 <;> first | cases h | (cases e2 <;> cases h)
      | [e1, e2], h =>
        cases e1 with
        | Subscript a b p1 =>
          cases e2 with
          | Subscript c d p2 =>
            have h1 := and2 (show (S.calm && ((chkE S N sc o a && chkE S N sc i b) && (chkE S N sc o2 c && chkE S N sc i2 d))) = true from h)
            have h2 := and2 h1.2
            have h3 := and2 h2.1
            have h4 := and2 h2.2
            exact ⟨g_subsub (by have := k.k.un; omega) (k.k.calm h1.1) (chkE_plain h3.2) (chkE_plain h4.2) (sndE o k.k h3.1).1 (sndE i k.k h3.2).1 (sndE o2 k.k h4.1).1 (sndE i2 k.k h4.2).1, rfl⟩
          | _ => cases h
        | _ => cases h
    | _ => cases h
  | subnam o i j =>
    cases tg with
    | Tuple ts q p =>
      match ts, h with
      | [], h => cases h
      | [e1], h => cases e1 <;> cases h
      | e1 :: e2 :: e3 :: r, h => cases e1 <;> first | cases h | (cases e2 <;> cases h)
      | [e1, e2], h =>
        cases e1 with
        | Subscript a b p1 =>
          cases e2 with
          | Name x p2 =>
            have h1 := and2 (show (S.calm && (chkE S N sc o a && (chkE S N sc i b && namB N true sc j x))) = true from h)
            have h2 := and2 h1.2
            have h3 := and2 h2.2
            exact ⟨g_subnam (by have := k.k.un; omega) k.k.eN k.k.nd k.k.esc k.fn (k.k.calm h1.1) (chkE_plain h3.1) (sndE o k.k h2.1).1 (sndE i k.k h3.1).1 h3.2, rfl⟩
          | _ => cases h
        | _ => cases h
    | _ => cases h
theorem rais_inv {cm : Bool} {sc : Scope} {c : Nat} {o1 o2 : Option Expr} {pos : Pos} (h : chkS S N cm sc (.rais c) (.Raise o1 o2 pos) = true) : ∃ x p1 msg j p2 p3, o1 = some (.Call (.Name x p1) [.Constant (.str msg) j p2] [] p3) ∧ o2 = none ∧
    (decide (S.excs[c]? = some x) && (decide (x ∈ S.plain) && (gloB sc x && (cm && plainB x)))) = true := by
  cases o2 with
  | some _ => unfold chkS at h; simp at h
  | none =>
    cases o1 with
    | none => unfold chkS at h; simp at h
    | some e =>
      cases e with
      | Call fn l kw p3 =>
        cases fn with
        | Name x p1 =>
          cases kw with
          | nil =>
            match l, h with
            | [e0], h =>
              cases e0 with
              | Constant k j p2 =>
                cases k with
                | str msg => exact ⟨x, p1, msg, j, p2, p3, rfl, rfl, by unfold chkS at h; exact h⟩
                | _ => unfold chkS at h; simp at h
              | _ => unfold chkS at h; simp at h
            | [], h => unfold chkS at h; simp at h
            | _ :: _ :: _, h => unfold chkS at h; simp at h
          | cons _ _ => unfold chkS at h; simp at h
        | _ => unfold chkS at h; simp at h
      | _ => unfold chkS at h; simp at h
theorem par3_inv {cm : Bool} {sc : Scope} {i j l : Nat} {a b c : CE} {ts : List Expr} {e : Expr} {pos : Pos} (h : chkS S N cm sc (.par3 i j l a b c) (.Assign ts e pos) = true) : ∃ x px y py z pz k1 p1 u v w k2 p2, ts = [.Tuple [.Name x px, .Name y py, .Name z pz] k1 p1] ∧ e = .Tuple [u, v, w] k2 p2 ∧
    (decide (N[i]? = some x) && (decide (N[j]? = some y) && (decide (N[l]? = some z) && (locB sc x && (locB sc y && (locB sc z && ((decide (i ≠ j) && (decide (i ≠ l) && decide (j ≠ l))) && ((decide (px.line = py.line) && decide (px.line = pz.line)) && (!(foldedForSure 8 u && (foldedForSure 8 v && foldedForSure 8 w)) && (!(constantsAlone 8 u && (constantsAlone 8 v && constantsAlone 8 w)) && (cm && (chkE (S.at cm) N sc a u && (chkE (S.at cm) N sc b v && chkE (S.at cm) N sc c w))))))))))))) = true := by
  cases e with
  | Tuple es k2 p2 =>
    match es, h with
    | [u, v, w], h =>
      match ts, h with
      | [tg], h =>
        cases tg with
        | Tuple ns k1 p1 =>
          match ns, h with
          | [n1, n2, n3], h =>
            cases n1 with
            | Name x px =>
              cases n2 with
              | Name y py =>
                cases n3 with
                | Name z pz => exact ⟨x, px, y, py, z, pz, k1, p1, u, v, w, k2, p2, rfl, rfl, by unfold chkS at h; exact h⟩
                | _ => unfold chkS at h; simp at h
              | _ => unfold chkS at h; simp at h
            | _ => unfold chkS at h; simp at h
          | [], h => unfold chkS at h; simp at h
          | [_], h => unfold chkS at h; simp at h
          | [_, _], h => unfold chkS at h; simp at h
          | _ :: _ :: _ :: _ :: _, h => unfold chkS at h; simp at h
        | _ => unfold chkS at h; simp at h
      | [], h => unfold chkS at h; simp at h
      | _ :: _ :: _, h => unfold chkS at h; simp at h
    | [], h => unfold chkS at h; simp at h
    | [_], h => unfold chkS at h; simp at h
    | [_, _], h => unfold chkS at h; simp at h
    | _ :: _ :: _ :: _ :: _, h => unfold chkS at h; simp at h
  | _ => unfold chkS at h; simp at h
theorem par_inv {cm : Bool} {sc : Scope} {i j : Nat} {a b : CE} {ts : List Expr} {e : Expr} {pos : Pos} (h : chkS S N cm sc (.par i j a b) (.Assign ts e pos) = true) : ∃ x px y py k1 p1 u v k2 p2, ts = [.Tuple [.Name x px, .Name y py] k1 p1] ∧ e = .Tuple [u, v] k2 p2 ∧
    (decide (N[i]? = some x) && (decide (N[j]? = some y) && (locB sc x && (locB sc y && (decide (i ≠ j) && (decide (px.line = py.line) && (!(foldedForSure 8 u && foldedForSure 8 v) && (!(constantsAlone 8 u && constantsAlone 8 v) && (cm && (chkE (S.at cm) N sc a u && chkE (S.at cm) N sc b v)))))))))) = true := by
  cases e with
  | Tuple es k2 p2 =>
    match es, h with
    | [u, v], h =>
      match ts, h with
      | [tg], h =>
        cases tg with
        | Tuple ns k1 p1 =>
          match ns, h with
          | [n1, n2], h =>
            cases n1 with
            | Name x px =>
              cases n2 with
              | Name y py => exact ⟨x, px, y, py, k1, p1, u, v, k2, p2, rfl, rfl, by unfold chkS at h; exact h⟩
              | _ => unfold chkS at h; simp at h
            | _ => unfold chkS at h; simp at h
          | [], h => unfold chkS at h; simp at h
          | [_], h => unfold chkS at h; simp at h
          | _ :: _ :: _ :: _, h => unfold chkS at h; simp at h
        | _ => unfold chkS at h; simp at h
      | [], h => unfold chkS at h; simp at h
      | _ :: _ :: _, h => unfold chkS at h; simp at h
    | [], h => unfold chkS at h; simp at h
    | [_], h => unfold chkS at h; simp at h
    | _ :: _ :: _ :: _, h => unfold chkS at h; simp at h
  | _ => unfold chkS at h; simp at h
theorem comp_set {sc : Scope} {X : Cx} {Wx : WX} (k : Sok S ca call lv N sc X Wx) {a : CE} {elt : Expr} {gs : List Comprehension} {scope : Scope} {pc py pos : Pos} {i : Nat} {y : Str} (h : chkE S N sc a (.ListComp elt gs scope pc) = true) (hi : X.N[i]? = some y) (hl : X.env.scope.names.lookup y = some .local)
    (sw : swapsWith (.ListComp elt gs scope pc) (some (.Name y py)) pos.line X.env = pure true) : PS X (.Assign [.Name y py] (.ListComp elt gs scope pc) pos) (tAsg (tI X.K ca (wI ca Wx) (rW X.K ca) (ev (S.cc call whM) a)) (gName i)) := by
  have k := k.k
  cases a with
  | comp b own tg it ifs elt0 =>
    match gs, h, sw with
    | [⟨t, i0, l, asy⟩], h, sw =>
      unfold chkE at h
      have h2 := and2 h
      have h3 := and2 h2.2
      have h4 := and2 h3.2
      have h5 := and2 h4.2
      have h6 := and2 h5.2
      have h7 := and2 h6.2
      have h8 := and2 h7.2
      have h9 := and2 h8.2
      have cm := k.calm h9.1
      have e1 : asy = 0 := of_decide_eq_true h2.1
      subst e1
      have bo := blkOk_by h3.1
      have nd : X.N.Nodup := by rw [k.eN]; exact k.nd
      have hI := sndI (wh := whM) (tg := t) it k (and2 h5.1).1 (and2 h5.1).2
      have hg : ∀ (s : Shared) (H : Hp) (C : Addr) (cl : List (Str × Addr)) (fp : List Addr), PG (X.blk s H scope (compEnvC scope cl C X.env) fp) t (tgI X.K ca tg) :=
        fun s H C cl fp => tg_ok (k.blk s H scope cl C fp).eN k.nd (k.blk s H scope cl C fp).esc (fun (z : false = true) => Bool.noConfusion z) cm h6.1
      have ht : ∀ (s : Shared) (H : Hp) (C : Addr) (cl : List (Str × Addr)) (fp : List Addr), PTs (X.blk s H scope (compEnvC scope cl C X.env) fp) l (tI X.K ca (fun _ _ _ => False) rB (evb (S.cc call whM) true ifs)) :=
        fun s H C cl fp => (sndEs ifs (k.blk s H scope cl C fp) h7.1).2.2 (of_decide_eq_true h8.1)
      have he : ∀ (s : Shared) (H : Hp) (C : Addr) (cl : List (Str × Addr)) (fp : List Addr), PE (X.blk s H scope (compEnvC scope cl C X.env) fp) elt (tI X.K ca (fun _ _ _ => False) (rW X.K ca) (ev (S.cc call whM) elt0)) :=
        fun s H C cl fp => (sndE elt0 (k.blk s H scope cl C fp) h9.2).1
      have hsl : ∀ j ∈ slotsT tg, j ∈ own.map (·.2) := fun j hj => of_decide_eq_true (List.all_eq_true.mp h4.1 j hj)
      have fo := fold_of (env := X.env) (chkI_plain (and2 h5.1).2)
      exact (ps_setLc cm nd hi hl sw hI (by rw [k.eN, k.esc]; exact bo) hg ht he fo).imp fun D σ H q => comp_ok (m := b) cm nd hI (by rw [k.eN, k.esc]; exact bo) hsl hg ht he fo σ H _ q
    | [], h, _ => unfold chkE at h; simp at h
    | _ :: _ :: _, h, _ => unfold chkE at h; simp at h
  | _ => unfold chkE at h; simp at h
theorem try_inv {cm : Bool} {sc : Scope} {c i : Nat} {b s : CSs} {body orelse fin : List Stmt} {hds : List ExceptHandler} {p : Pos} (h : chkS S N cm sc (.tryas c i b s) (.Try body hds orelse fin p) = true) : orelse = [] ∧ fin = [] ∧ (cm && (chkSs S N cm sc b body && (match hdB S N sc c (some i) hds with
    | some l => chkSs S N false sc s l
    | none => false))) = true := by
  cases orelse with
  | nil =>
    cases fin with
    | nil => exact ⟨rfl, rfl, by unfold chkS at h; exact h⟩
    | cons _ _ => unfold chkS at h; simp at h
  | cons _ _ => unfold chkS at h; simp at h
theorem try_inv0 {cm : Bool} {sc : Scope} {c : Nat} {b s : CSs} {body orelse fin : List Stmt} {hds : List ExceptHandler} {p : Pos} (h : chkS S N cm sc (.try_ c b s) (.Try body hds orelse fin p) = true) : orelse = [] ∧ fin = [] ∧ (cm && (chkSs S N cm sc b body && (match hdB S N sc c none hds with
    | some l => chkSs S N false sc s l
    | none => false))) = true := by
  cases orelse with
  | nil =>
    cases fin with
    | nil => exact ⟨rfl, rfl, by unfold chkS at h; exact h⟩
    | cons _ _ => unfold chkS at h; simp at h
  | cons _ _ => unfold chkS at h; simp at h
theorem hd_look {sc : Scope} {c : Nat} {i : Option Nat} {hds : List ExceptHandler} {l0 : List Stmt} (h : hdB S N sc c i hds = some l0) : ∃ x np n b₀ l p', hds = [.ExceptHandler (some (.Name x np)) n (b₀ :: l) p'] ∧ l0 = b₀ :: l ∧ hdC S N sc c i x n = true := by
  unfold hdB at h
  split at h
  · rename_i x np n b₀ l p'
    cases q : hdC S N sc c i x n with
    | true =>
      rw [q] at h
      cases h
      exact ⟨_, _, _, _, _, _, rfl, rfl, q⟩
    | false =>
      rw [q] at h
      cases h
  · cases h
theorem hd_inv {sc : Scope} {c i : Nat} {hds : List ExceptHandler} {s : CSs} (h : (match hdB S N sc c (some i) hds with
    | some l => chkSs S N false sc s l
    | none => false) = true) : ∃ x np n b₀ l p', hds = [.ExceptHandler (some (.Name x np)) (some n) (b₀ :: l) p'] ∧ (decide (S.excs[c]? = some x) && (gloB sc x && (plainB x && (decide (N[i]? = some n) && locB sc n)))) = true ∧ chkSs S N false sc s (b₀ :: l) = true := by
  cases q : hdB S N sc c (some i) hds with
  | none => rw [q] at h; cases h
  | some l0 =>
    rw [q] at h
    obtain ⟨x, np, n, b₀, l, p', rfl, rfl, z⟩ := hd_look q
    unfold hdC at z
    cases n with
    | none => simp at z
    | some n => exact ⟨x, np, n, b₀, l, p', rfl, z, h⟩
theorem hd_inv0 {sc : Scope} {c : Nat} {hds : List ExceptHandler} {s : CSs} (h : (match hdB S N sc c none hds with
    | some l => chkSs S N false sc s l
    | none => false) = true) : ∃ x np b₀ l p', hds = [.ExceptHandler (some (.Name x np)) none (b₀ :: l) p'] ∧ (decide (S.excs[c]? = some x) && (gloB sc x && (plainB x && true))) = true ∧ chkSs S N false sc s (b₀ :: l) = true := by
  cases q : hdB S N sc c none hds with
  | none => rw [q] at h; cases h
  | some l0 =>
    rw [q] at h
    obtain ⟨x, np, n, b₀, l, p', rfl, rfl, z⟩ := hd_look q
    unfold hdC at z
    cases n with
    | none => exact ⟨x, np, b₀, l, p', rfl, z, h⟩
    | some n => simp at z
theorem Sok.tr {cm : Bool} {sc : Scope} {X : Cx} {Wx W : WX} {pn : List (Addr × Obj)} {xe : Value → Shared → Prop} (k : Sok (S.at cm) ca call lv N sc X Wx) (tk : Takes (X.tr pn xe) W) (po : PassesOwn (model X.prog X.w) X.A X.env xe) : Sok (S.at cm) ca call lv N sc (X.tr pn xe) W :=
  ⟨⟨k.k.eN, k.k.nd, k.k.esc, k.k.calm, k.k.un, k.k.gd, k.k.room, k.k.free, k.k.glb, k.k.fns, k.k.mts, k.k.exS, k.k.clS, tk⟩, po, k.fn, k.stk, k.fr, k.ex0, k.kd⟩
theorem Sok.suite {cm : Bool} {sc : Scope} {X : Cx} {Wx : WX} (k : Sok (S.at cm) ca call lv N sc X Wx) (a : Addr) (pn : List (Addr × Obj)) : Sok (S.at false) ca call lv N sc (suiteX X a pn) (fun _ _ _ _ => False) :=
  ⟨⟨k.k.eN, k.k.nd, k.k.esc, fun z => absurd (show false = true from z) Bool.false_ne_true, k.k.un, k.k.gd, fun z => absurd (show false = true from z) Bool.false_ne_true, k.k.free, k.k.glb, k.k.fns, k.k.mts, ⟨k.k.exS.gl, k.k.exS.pl, k.k.exS.ic, k.k.exS.kk⟩, ⟨k.k.clS.gl, k.k.clS.cl, k.k.clS.na⟩, takes0⟩, .never, k.fn, k.stk, k.fr, k.ex0, k.kd⟩
mutual
theorem sndS : ∀ (c : CS) {st : Stmt} {sc : Scope} {X : Cx} {Wx : WX} {cm : Bool}, Sok (S.at cm) ca call lv N sc X Wx → chkS S N cm sc c st = true → PS X st (tS X.K ca (wI ca Wx) (ex ((S.at cm).cc call whM) c))
  | .pass, st, sc, X, Wx, cm, k, h => by
    cases st with
    | Pass p => exact s_pass
    | _ => unfold chkS at h; simp at h
  | .expr a, st, sc, X, Wx, cm, k, h => by
    cases st with
    | Expr e p =>
      unfold chkS at h
      have h2 := and2 h
      exact s_expr h2.1 (sndE a k.k h2.2).1
    | _ => unfold chkS at h; simp at h
  | .ret a, st, sc, X, Wx, cm, k, h => by
    cases st with
    | Return o p =>
      cases o with
      | some e =>
        unfold chkS at h
        exact s_ret (sndE a k.k h).1
      | none => unfold chkS at h; simp at h
    | _ => unfold chkS at h; simp at h
  | .retN, st, sc, X, Wx, cm, k, h => by
    cases st with
    | Return o p =>
      cases o with
      | none => exact s_retN
      | some e => unfold chkS at h; simp at h
    | _ => unfold chkS at h; simp at h
  | .asg g a, st, sc, X, Wx, cm, k, h => by
    cases st with
    | Assign ts e p =>
      match ts, h with
      | [tg], h =>
        unfold chkS at h
        have h2 := and2 h
        have h3 := and2 h2.2
        have h4 := and2 h3.2
        obtain ⟨g1, g2⟩ := k.gok h4.1
        exact s_asg (by rw [k.k.esc]; exact h2.1) (by rw [k.k.esc]; exact h3.1) (plainAs g2) g1 (sndE a k.k h4.2).1
      | [], h => unfold chkS at h; simp at h
      | _ :: _ :: _, h => unfold chkS at h; simp at h
    | _ => unfold chkS at h; simp at h
  | .setc i a, st, sc, X, Wx, cm, k, h => by
    cases st with
    | Assign ts e p =>
      match ts, h with
      | [tg], h =>
        cases tg with
        | Name y py =>
          cases e with
          | ListComp elt gs scope pc =>
            unfold chkS at h
            have h2 := and2 h
            have h3 := and2 h2.2
            have h4 := and2 h3.2
            have h5 := and2 h4.2
            have hl : X.env.scope.names.lookup y = some .local := by rw [k.k.esc]; exact of_decide_eq_true h5.1
            have line : (py.line == pc.line) = true := by rw [of_decide_eq_true h2.1]; exact beq_self_eq_true _
            exact s_setc (comp_set k h5.2 (by rw [k.k.eN]; exact of_decide_eq_true h4.1) hl (sw_true (by rw [k.k.esc]; exact k.kd) hl line (bnot h3.1)))
          | _ => unfold chkS at h; simp at h
        | _ => unfold chkS at h; simp at h
      | [], h => unfold chkS at h; simp at h
      | _ :: _ :: _, h => unfold chkS at h; simp at h
    | _ => unfold chkS at h; simp at h
  | .setf o f a, st, sc, X, Wx, cm, k, h => by
    cases st with
    | Assign ts e p =>
      match ts, h with
      | [tg], h =>
        cases tg with
        | Attribute b g p2 =>
          unfold chkS at h
          have h2 := and2 h
          have h3 := and2 h2.2
          have h4 := and2 h3.2
          have e1 : f = g := of_decide_eq_true h2.1
          subst e1
          have ne : S.clss ≠ [] := fun q => by have := h3.1; unfold fldB at this; rw [q] at this; cases this
          exact s_setf (fun c => k.k.clS.cl c ne) (fun c => k.k.clS.na c f h3.1) (sndE o k.k h4.1).1 (sndE a k.k h4.2).1
        | _ => unfold chkS at h; simp at h
      | [], h => unfold chkS at h; simp at h
      | _ :: _ :: _, h => unfold chkS at h; simp at h
    | _ => unfold chkS at h; simp at h
  | .ifs c a b, st, sc, X, Wx, cm, k, h => by
    cases st with
    | If e x y p =>
      unfold chkS at h
      have h2 := and2 h
      have h3 := and2 h2.2
      exact s_if (sndE c k.k h2.1).2 (sndSs a k h3.1) (sndSs b k h3.2)
    | _ => unfold chkS at h; simp at h
  | .whil c b, st, sc, X, Wx, cm, k, h => by
    cases st with
    | While e x y p =>
      cases y with
      | nil =>
        unfold chkS at h
        have h2 := and2 h
        exact s_while k.po (sndE c k.k h2.1).2 (sndSs b k h2.2)
      | cons _ _ => unfold chkS at h; simp at h
    | _ => unfold chkS at h; simp at h
  | .for_ tg it b, st, sc, X, Wx, cm, k, h => by
    cases st with
    | For t i x y p =>
      cases y with
      | nil =>
        unfold chkS at h
        have h2 := and2 h
        have h3 := and2 h2.2
        have h4 := and2 h3.2
        have cal := k.k.calm h4.1
        exact s_for cal k.po (sndI it k.k (and2 h3.1).1 (and2 h3.1).2) (tg_ok k.k.eN k.k.nd k.k.esc (fun _ => k.fn) cal h2.1) (sndSs b k h4.2) (fold_of (chkI_plain (and2 h3.1).2))
      | cons _ _ => unfold chkS at h; simp at h
    | _ => unfold chkS at h; simp at h
  | .rais c, st, sc, X, Wx, cm, k, h => by
    cases st with
    | Raise o1 o2 p =>
      obtain ⟨x, p1, msg, j, p2, p3, e1, e2, h⟩ := rais_inv h
      subst e1
      subst e2
      have h2 := and2 h
      have h3 := and2 h2.2
      have h4 := and2 h3.2
      have ex := of_decide_eq_true h2.1
      have h5 := and2 h4.2
      obtain ⟨q1, q2, q3, q4⟩ := k.k.exS.gl c x ex
      exact s_raise (k.k.calm h5.1) k.k.tk q1 q2 (k.k.exS.pl c x ex (of_decide_eq_true h3.1)) (raises_own q3 q4) (by rw [Gl, Env.kindOf, k.k.esc]; exact of_decide_eq_true h4.1) (plain_of h5.2).1
    | _ => unfold chkS at h; simp at h
  | .par i j a b, st, sc, X, Wx, cm, k, h => by
    cases st with
    | Assign ts e p =>
      obtain ⟨x, px, y, py, k1, p1, u, v, k2, p2, e1, e2, h⟩ := par_inv h
      subst e1
      subst e2
      have h2 := and2 h
      have h3 := and2 h2.2
      have h4 := and2 h3.2
      have h5 := and2 h4.2
      have h6 := and2 h5.2
      have h7 := and2 h6.2
      have h8 := and2 h7.2
      have h9 := and2 h8.2
      have h10 := and2 h9.2
      have h0 := and2 h10.2
      exact s_par (k.k.calm h10.1) (by rw [k.k.eN]; exact k.k.nd) (by rw [k.k.eN]; exact of_decide_eq_true h2.1) (by rw [k.k.eN]; exact of_decide_eq_true h3.1) (of_decide_eq_true h6.1) (by rw [k.k.esc]; exact k.kd) (by rw [k.k.esc]; exact of_decide_eq_true h4.1) (by rw [k.k.esc]; exact of_decide_eq_true h5.1)
        (of_decide_eq_true h7.1) (chkE_plain h0.1) (chkE_plain h0.2) (bnot h8.1) (bnot h9.1) (sndE a k.k h0.1).1 (sndE b k.k h0.2).1
    | _ => unfold chkS at h; simp at h
  | .par3 i j l a b c, st, sc, X, Wx, cm, k, h => by
    cases st with
    | Assign ts e p =>
      obtain ⟨x, px, y, py, z, pz, k1, p1, u, v, w, k2, p2, e1, e2, h⟩ := par3_inv h
      subst e1
      subst e2
      have h1 := and2 h
      have h2 := and2 h1.2
      have h3 := and2 h2.2
      have h4 := and2 h3.2
      have h5 := and2 h4.2
      have h6 := and2 h5.2
      have h7 := and2 h6.2
      have h8 := and2 h7.2
      have h9 := and2 h8.2
      have h10 := and2 h9.2
      have h11 := and2 h10.2
      have h12 := and2 h11.2
      have h13 := and2 h12.2
      have d1 := and2 h7.1
      have d2 := and2 d1.2
      have l1 := and2 h8.1
      exact s_par3 (k.k.calm h11.1) (by rw [k.k.eN]; exact k.k.nd) (by rw [k.k.eN]; exact of_decide_eq_true h1.1) (by rw [k.k.eN]; exact of_decide_eq_true h2.1) (by rw [k.k.eN]; exact of_decide_eq_true h3.1) (of_decide_eq_true d1.1) (of_decide_eq_true d2.1) (of_decide_eq_true d2.2) (by rw [k.k.esc]; exact k.kd)
        (by rw [k.k.esc]; exact of_decide_eq_true h4.1) (by rw [k.k.esc]; exact of_decide_eq_true h5.1) (by rw [k.k.esc]; exact of_decide_eq_true h6.1) (of_decide_eq_true l1.1) (of_decide_eq_true l1.2) (chkE_plain h12.1) (chkE_plain h13.1) (chkE_plain h13.2) (bnot h9.1) (bnot h10.1)
        (sndE a k.k h12.1).1 (sndE b k.k h13.1).1 (sndE c k.k h13.2).1
    | _ => unfold chkS at h; simp at h
  | .tryas c i b s, st, sc, X, Wx, cm, k, h => by
    cases st with
    | Try body hds orelse fin p =>
      obtain ⟨e1, e2, h⟩ := try_inv h
      subst e1
      subst e2
      have h2 := and2 h
      have h3 := and2 h2.2
      obtain ⟨x, np, n, b₀, l, p', e3, h4, h5⟩ := hd_inv h3.2
      subst e3
      have h6 := and2 h4
      have h7 := and2 h6.2
      have h8 := and2 h7.2
      have h9 := and2 (show (decide (N[i]? = some n) && locB sc n) = true from h8.2)
      have ex := of_decide_eq_true h6.1
      have pl := plain_of h8.1
      exact s_tryas (k0 := c) k.ex0 k.stk k.fr (by rw [k.k.eN]; exact k.k.nd) (by rw [k.k.eN]; exact of_decide_eq_true h9.1) (by rw [Env.kindOf, k.k.esc]; exact of_decide_eq_true h9.2) ⟨by rw [Gl, Env.kindOf, k.k.esc]; exact of_decide_eq_true h7.1, pl.1, .inl (k.k.exS.gl c x ex).1⟩ (fun j => (k.k.exS.kk j c x ex).2) k.k.tk
        (fun W pn xe tk po => sndSs b (k.tr tk po) h3.1) (fun a pn => sndSs s (cm := false) (k.suite a pn) h5)
    | _ => unfold chkS at h; simp at h
  | .try_ c b s, st, sc, X, Wx, cm, k, h => by
    cases st with
    | Try body hds orelse fin p =>
      obtain ⟨e1, e2, h⟩ := try_inv0 h
      subst e1
      subst e2
      have h2 := and2 h
      have h3 := and2 h2.2
      obtain ⟨x, np, b₀, l, p', e3, h4, h5⟩ := hd_inv0 h3.2
      subst e3
      have h6 := and2 h4
      have h7 := and2 h6.2
      have h8 := and2 h7.2
      have ex := of_decide_eq_true h6.1
      have pl := plain_of h8.1
      exact s_try (k0 := c) k.stk k.fr ⟨by rw [Gl, Env.kindOf, k.k.esc]; exact of_decide_eq_true h7.1, pl.1, .inl (k.k.exS.gl c x ex).1⟩ (fun j => (k.k.exS.kk j c x ex).2) k.k.tk
        (fun W pn xe tk po => sndSs b (k.tr tk po) h3.1) (fun a pn => sndSs s (cm := false) (k.suite a pn) h5)
    | _ => unfold chkS at h; simp at h
theorem sndSs : ∀ (c : CSs) {l : List Stmt} {sc : Scope} {X : Cx} {Wx : WX} {cm : Bool}, Sok (S.at cm) ca call lv N sc X Wx → chkSs S N cm sc c l = true → PSs X l (tS X.K ca (wI ca Wx) (exs ((S.at cm).cc call whM) c))
  | .nil, l, sc, X, Wx, cm, k, h => by
    cases l with
    | nil => exact s_nil
    | cons _ _ => unfold chkSs at h; simp at h
  | .cons s ss, l, sc, X, Wx, cm, k, h => by
    cases l with
    | nil => unfold chkSs at h; simp at h
    | cons st l =>
      unfold chkSs at h
      have h2 := and2 h
      exact s_cons (sndS s k h2.1) (sndSs ss k h2.2)
end
end
end M
/-! MDefs: every def of the text keeps the promise of its mini text; the law. -/
namespace M
open PySem PySem.Spec L2
theorem Stp.cutback {μ μ2 : Mu} {H H2 : Hp} (s : Stp μ H μ2 H2) : Stp μ H ⟨μ.m, μ2.x⟩ H2 := ⟨⟨[], by simp, fun _ z => nomatch z⟩, s.inx, s.oux, s.fix, s.keep, s.live⟩
mutual
theorem VR.fewer {K : PySem.W.Frag} {μ μ' : Mu} {H : Hp} (hm : ∀ a ∈ μ'.m, a ∈ μ.m) (hx : ∀ a ∈ μ'.x, a ∈ μ.x) : ∀ {d : D} {v : V}, VR K μ H d v → VR K μ' H d v
  | _, _, .non => .non
  | _, _, .bl b => .bl b
  | _, _, .int i => .int i
  | _, _, .str x => .str x
  | _, _, .lst h hs => .lst ⟨⟨fun z => h.1.1 (hm _ z), fun z => h.1.2 (hx _ z)⟩, h.2⟩ (VRs.fewer hm hx hs)
  | _, _, .tup h hs => .tup (h.elim (fun h => .inl ⟨⟨fun z => h.1.1 (hm _ z), fun z => h.1.2 (hx _ z)⟩, h.2⟩) .inr) (VRs.fewer hm hx hs)
  | _, _, .dct h hs => .dct ⟨⟨fun z => h.1.1 (hm _ z), fun z => h.1.2 (hx _ z)⟩, h.2⟩ (VDs.fewer hm hx hs)
theorem VDs.fewer {K : PySem.W.Frag} {μ μ' : Mu} {H : Hp} (hm : ∀ a ∈ μ'.m, a ∈ μ.m) (hx : ∀ a ∈ μ'.x, a ∈ μ.x) : ∀ {ds : List (D × D)} {vs : List (Key × V)}, VDs K μ H ds vs → VDs K μ' H ds vs
  | _, _, .nil => .nil
  | _, _, .cons h hs => .cons (VR.fewer hm hx h) (VDs.fewer hm hx hs)
theorem VRs.fewer {K : PySem.W.Frag} {μ μ' : Mu} {H : Hp} (hm : ∀ a ∈ μ'.m, a ∈ μ.m) (hx : ∀ a ∈ μ'.x, a ∈ μ.x) : ∀ {ds : List D} {vs : List V}, VRs K μ H ds vs → VRs K μ' H ds vs
  | _, _, .nil => .nil
  | _, _, .cons h hs => .cons (VR.fewer hm hx h) (VRs.fewer hm hx hs)
end
section
variable {K : PySem.W.Frag} {ca : Nat → Addr} {μ μ2 : Mu} {H H2 : Hp} {h h2 : Hh}
theorem WR.fewer {μ' : Mu} (hp : ∃ t, μ2.m = μ'.m ++ t) (hx : ∀ a ∈ μ'.x, a ∈ μ2.x) {w : W} {v : V} (hw : refB μ'.m.length w = true) (r : WR K ca μ2 H w v) : WR K ca μ' H w v := by
  obtain ⟨t, e⟩ := hp
  have hm : ∀ a ∈ μ'.m, a ∈ μ2.m := fun a z => by rw [e]; exact List.mem_append_left _ z
  cases r with
  | dat h => exact .dat (h.fewer hm hx)
  | ref h =>
    have hn := of_decide_eq_true hw
    rw [e, List.getElem?_append_left hn] at h
    exact .ref h
  | exc n h => exact .exc ⟨fun z => n.1 (hm _ z), fun z => n.2 (hx _ z)⟩ h
  | scr h =>
    obtain ⟨xs, e, h⟩ := h
    exact .scr ⟨xs, e, h.elim (fun z => .inl ⟨⟨fun q => z.1.1 (hm _ q), fun q => z.1.2 (hx _ q)⟩, z.2⟩) .inr⟩
theorem WRs.fewer {μ' : Mu} (hp : ∃ t, μ2.m = μ'.m ++ t) (hx : ∀ a ∈ μ'.x, a ∈ μ2.x) : ∀ {ws : List W} {vs : List V}, ws.all (refB μ'.m.length) = true → WRs K ca μ2 H ws vs → WRs K ca μ' H ws vs
  | _, _, _, .nil => .nil
  | _, _, hw, .cons r t => by
    rw [List.all_cons] at hw
    exact .cons (r.fewer hp hx (and2 hw).1) (WRs.fewer hp hx (and2 hw).2 t)
/-- the small heap's tail is forgotten -/
theorem HR.cutback {n : Nat} (s : Stp μ H μ2 H2) (hn : μ.m.length = n) (r : HR K ca μ2 H2 h2) (hc : closedB (h2.take n) = true) (hl : n ≤ h2.length) : HR K ca ⟨μ.m, μ2.x⟩ H2 (h2.take n) := by
  obtain ⟨t, e, _⟩ := s.pre
  have hp : ∃ t, μ2.m = (⟨μ.m, μ2.x⟩ : Mu).m ++ t := ⟨t, e⟩
  have hm : ∀ a ∈ μ.m, a ∈ μ2.m := fun a z => by rw [e]; exact List.mem_append_left _ z
  have hlen : (h2.take n).length = n := by rw [List.length_take]; omega
  refine ⟨by rw [hlen]; exact hn, ?_, fun a z => r.live a (hm a z), r.livx, fun a z => r.dis a (hm a z), fun i o a e1 e2 => ?_⟩
  · have := r.nd
    rw [e, List.nodup_append] at this
    exact this.1
  · have hi : i < n := by
      have := (List.getElem?_eq_some_iff.mp e1).1
      omega
    rw [List.getElem?_take, if_pos hi] at e1
    have e3 : μ2.m[i]? = some a := by
      rw [e, List.getElem?_append_left (by rw [hn]; exact hi)]
      exact e2
    have z := r.ob i o a e1 e3
    have co : obB n o = true := by
      have q := List.all_eq_true.mp hc o (List.mem_of_getElem? (i := i) (by rw [List.getElem?_take, if_pos hi]; exact e1))
      rw [hlen] at q
      exact q
    have hn' : (⟨μ.m, μ2.x⟩ : Mu).m.length = n := hn
    cases o with
    | lst l =>
      obtain ⟨xs, y, w⟩ := z
      exact ⟨xs, y, WRs.fewer hp (fun _ q => q) (by rw [hn']; exact co) w⟩
    | tpl l =>
      obtain ⟨xs, y, w⟩ := z
      exact ⟨xs, y, WRs.fewer hp (fun _ q => q) (by rw [hn']; exact co) w⟩
    | ins c fs =>
      obtain ⟨dx, fv, y, w⟩ := z
      refine ⟨dx, fv, y, ?_⟩
      have co : fs.all (fun p => refB n p.2) = true := co
      clear y e1
      induction w with
      | nil => exact .nil
      | cons q t ih =>
        rw [List.all_cons] at co
        exact .cons ⟨q.1, q.2.fewer hp (fun _ q => q) (by rw [hn']; exact (and2 co).1)⟩ (ih (and2 co).2 (and2 co).2)
    | dct l =>
      obtain ⟨kvs, y, w⟩ := z
      refine ⟨kvs, y, ?_⟩
      have co : l.all (fun p => refB n p.2) = true := co
      clear y e1
      induction w with
      | nil => exact .nil
      | cons q t ih =>
        rw [List.all_cons] at co
        exact .cons ⟨q.1, q.2.fewer hp (fun _ q => q) (by rw [hn']; exact (and2 co).1)⟩ (ih (and2 co).2 (and2 co).2)
    | lck l => exact z.elim
    | gone => trivial
end

/-! ### arguments -/
theorem zip_look : ∀ {ps : List Str} {us : List Value}, us.length = ps.length → ∀ n ∈ ps, ((ps.zip us).lookup n).isNone = false
  | [], _, _, n, h => nomatch h
  | p :: ps, [], hl, _, _ => by cases hl
  | p :: ps, u :: us, hl, n, h => by
    rw [List.zip_cons_cons, List.lookup_cons]
    cases e : n == p with
    | true => rfl
    | false =>
      refine zip_look (by simpa using hl) n ?_
      rcases List.mem_cons.mp h with z | z
      · rw [z] at e
        simp at e
      · exact z
theorem fm_congr {α β : Type} {f g : α → Option β} : ∀ {l : List α}, (∀ x ∈ l, f x = g x) → l.filterMap f = l.filterMap g
  | [], _ => rfl
  | x :: l, h => by
    rw [List.filterMap_cons, List.filterMap_cons, h x List.mem_cons_self, fm_congr fun y hy => h y (List.mem_cons_of_mem _ hy)]
theorem zip_map {ps : List Str} : ∀ {us : List Value}, ps.Nodup → us.length = ps.length → ps.filterMap (fun n => ((ps.zip us).lookup n).map (n, ·)) = ps.zip us := by
  induction ps with
  | nil => intro us _ _; rfl
  | cons p ps ih =>
    intro us nd hl
    cases us with
    | nil => cases hl
    | cons u us =>
      have nd2 := List.nodup_cons.mp nd
      have e2 : ps.filterMap (fun n => ((((p :: ps).zip (u :: us))).lookup n).map (n, ·)) = ps.filterMap (fun n => ((ps.zip us).lookup n).map (n, ·)) := by
        refine fm_congr fun n hn => ?_
        have ne : (n == p) = false := beq_eq_false_iff_ne.mpr fun e => nd2.1 (e ▸ hn)
        rw [List.zip_cons_cons, List.lookup_cons, ne]
      rw [List.filterMap_cons, e2, ih nd2.2 (by simpa using hl)]
      simp
theorem bind_plain {name qual : Str} {args : List Arg} {body : List Stmt} {scope : Scope} {kV doc pm cdv ct : Value} {an : Option Addr} {us : List Value} (nd : (args.map (·.arg)).Nodup) (hl : us.length = (args.map (·.arg)).length) :
    bindArgs (PySem.W.fnOf name qual ⟨[], args, none, [], [], none, []⟩ body scope .none kV doc pm an cdv ct) ⟨us, []⟩ = pure ((args.map (·.arg)).zip us) := by
  have hz := zip_map nd hl
  have hf : (args.map (·.arg)).filter (fun n => (((args.map (·.arg)).zip us).lookup n).isNone) = [] := by
    rw [List.filter_eq_nil_iff]
    intro n hn
    rw [zip_look hl n hn]
    exact Bool.false_ne_true
  have hl2 : ¬ args.length < us.length := by rw [hl, List.length_map]; omega
  rw [List.filterMap_map] at hz
  unfold bindArgs
  simp [PySem.W.fnOf, seqItems?, notAStandIn, hl2, List.take_of_length_le, hf]
  rw [hz]
/-! ### what the top has written -/
/-- one def of the text: its mini text, its qualified name, its names (parameters first), its statement -/
structure DefM where
  d : Df
  at_ : Str × Option Str
  qual : Str
  N : List Str
  st : Stmt
def argsB : Arguments → List Str → Bool
  | ⟨[], as, none, [], [], none, []⟩, ps => decide (as.map (·.arg) = ps)
  | _, _ => false
/-- the text's def is the mini one -/
def DefM.okB (S : Sg) (m : DefM) : Bool :=
  chkSs S m.N S.calm (defScope m.st) m.d.body (defBody m.st) && (decide (m.N.length = m.d.many) && (decide (m.N.Nodup) && (decide (m.d.pars ≤ m.N.length) && (argsB (defArgs m.st) (m.N.take m.d.pars) &&
    ((match (defScope m.st).kind with
      | .function => true
      | _ => false) && (!(defScope m.st).isCoroutine && (!(defScope m.st).isGenerator &&
    (((m.N.take m.d.pars).all fun x => locB (defScope m.st) x || celB (defScope m.st) x) && ((defScope m.st).names.all fun y => decide (y.2 ≠ .free))))))))))
/-- what the head tells: K the written part, mg the module's names -/
structure Facts (S : Sg) (M : List DefM) (K : PySem.W.Frag) (w : World) (mg : Str → Option Value) (ca : Nat → Addr) : Prop where
  tab : M.map (·.d) = S.T
  free : ∀ x, x ∈ S.frees → mg x = none
  glb : ∀ (k : Nat) (x : Str) (d : D), S.glbs[k]? = some (x, d) → GlbR K w mg x d
  fns : ∀ (f : Nat) (m : DefM), M[f]? = some m → ∃ a fd, FunD K m.d.name m.qual (defArgs m.st) (defBody m.st) (defScope m.st) [] [] a fd ∧ (m.d.cls = none → mg m.d.name = some (.ref a)) ∧ (∀ c, m.d.cls = some c → c < S.clss.length → Meth K (ca (2 * c + 1)) m.d.name a)
  exs : ExS S K mg ca
  cls : ClS S K mg ca
theorem args_inv {a : Arguments} {ps : List Str} (h : argsB a ps = true) : ∃ as, a = ⟨[], as, none, [], [], none, []⟩ ∧ as.map (·.arg) = ps := by
  unfold argsB at h
  split at h
  · exact ⟨_, rfl, of_decide_eq_true h⟩
  · cases h
theorem start_er {K : PySem.W.Frag} {ca : Nat → Addr} {μ : Mu} {H : Hp} {N : List Str} {d : Df} {ws : List W} {vs : List V} (hl : N.length = d.many) (z : WRs K ca μ H ws vs) : ER K ca μ H (M.start d ws) (L2.start N vs) := by
  have e := z.len
  refine ⟨?_, fun i w h => ?_⟩
  · unfold M.start L2.start
    simp only [List.length_append, List.length_map, List.length_replicate, e, hl]
  · unfold M.start at h
    unfold L2.start
    have key : ∀ {ws : List W} {vs : List V} (n m : Nat) (i : Nat) (w : W), WRs K ca μ H ws vs → (ws.map some ++ List.replicate n none)[i]? = some (some w) → ∃ v, (vs.map some ++ List.replicate m none)[i]? = some (some v) ∧ WR K ca μ H w v := by
      intro ws vs n m i w z
      induction z generalizing i with
      | nil =>
        intro h
        rw [List.map_nil, List.nil_append] at h
        have := List.mem_of_getElem? h
        rw [List.mem_replicate] at this
        cases this.2
      | cons r t ih =>
        intro h
        cases i with
        | zero => simp at h; subst h; exact ⟨_, rfl, r⟩
        | succ i => simpa using ih i (by simpa using h)
    exact key _ _ i w z h
/-- lists that were made here, as data -/
theorem frzW_ok {K : PySem.W.Frag} {ca : Nat → Addr} {μ0 μ2 : Mu} {H : Hp} {h : Hh} {n : Nat} (fr : ∀ (k : Nat) (a : Addr), n ≤ k → μ2.m[k]? = some a → a ∉ μ0.m ∧ a ∉ μ0.x) (hm : ∀ a ∈ μ0.m, a ∈ μ2.m) (hx : ∀ a ∈ μ0.x, a ∈ μ2.x) (r : HR K ca μ2 H h)
    {w : W} {v : V} {d : D} (z : WR K ca μ2 H w v) (e : frzW h n w = some d) : VR K μ0 H d v := by
  cases w with
  | dat d' =>
    cases e
    cases z with
    | dat q => exact q.fewer hm hx
  | ref k =>
    cases z with
    | ref hn =>
      cases q : h[k]? with
      | none => simp only [frzW, q] at e; cases e
      | some ob =>
        cases ob with
        | lst l =>
          simp only [frzW, q] at e
          split at e
          · rename_i hk
            obtain ⟨ds, e1, rfl⟩ := Option.map_eq_some_iff.mp e
            obtain ⟨xs, y1, y2⟩ := r.ob k _ _ q hn
            exact .lst ⟨fr k _ hk hn, .inl y1⟩ (VRs.fewer hm hx (WRs.data y2 e1))
          · cases e
        | _ => simp only [frzW, q] at e; cases e
  | exc c => cases e
  | scr l => cases e
theorem frzL_ok {K : PySem.W.Frag} {ca : Nat → Addr} {μ0 μ2 : Mu} {H : Hp} {h : Hh} {n : Nat} (fr : ∀ (k : Nat) (a : Addr), n ≤ k → μ2.m[k]? = some a → a ∉ μ0.m ∧ a ∉ μ0.x) (hm : ∀ a ∈ μ0.m, a ∈ μ2.m) (hx : ∀ a ∈ μ0.x, a ∈ μ2.x) (r : HR K ca μ2 H h) :
    ∀ {ws : List W} {vs : List V} {ds : List D}, WRs K ca μ2 H ws vs → frzL h n ws = some ds → VRs K μ0 H ds vs
  | [], _, ds, .nil, e => by cases e; exact .nil
  | w :: ws, _, ds, .cons z zs, e => by
    cases q : frzW h n w with
    | none => simp only [frzL, q] at e; cases e
    | some d =>
      cases q2 : frzL h n ws with
      | none => simp only [frzL, q, q2] at e; cases e
      | some ds' =>
        simp only [frzL, q, q2] at e
        cases e
        exact .cons (frzW_ok fr hm hx r z q) (frzL_ok fr hm hx r zs q2)
/-- a def's end -/
theorem fin_ok {K : PySem.W.Frag} {ca : Nat → Addr} {μ : Mu} {H : Hp} {h : Hh} {keep : Bool} {Q : VK} {E : XK} {r : SR} (hr : HR K ca μ H h) (o : Out K ca μ H (rW K ca) Q (fun c H' => E (.ref (ca (2 * c))) none H') (finish keep h.length r)) :
    OutS K ca μ H (fun c _ H' => E (.ref (ca (2 * c))) none H') { nx := fun _ H' => Q .non H', rt := Q } r := by
  have lens : ∀ {μ' : Mu} {H' : Hp} {h' : Hh}, Stp μ H μ' H' → HR K ca μ' H' h' → h.length ≤ h'.length := fun {μ' H' h'} s r => by
    obtain ⟨t, e, _⟩ := s.pre
    have l1 := r.len
    rw [e, List.length_append, hr.len] at l1
    omega
  cases r with
  | bad => exact o
  | exc c e h' =>
    intro μ' H' σ' s r' _
    cases keep with
    | true =>
      have o : Out K ca μ H (rW K ca) Q (fun c H' => E (.ref (ca (2 * c))) none H') (.exc c h') := o
      exact o _ _ s r'
    | false =>
      have o : Out K ca μ H (rW K ca) Q (fun c H' => E (.ref (ca (2 * c))) none H') (if closedB (h'.take h.length) then .exc c (h'.take h.length) else .bad) := o
      obtain ⟨cl, o⟩ := out_if o
      exact o _ _ s.cutback (r'.cutback s hr.len cl (lens s r'))
  | nxt e h' =>
    intro μ' H' σ' s r' _
    cases keep with
    | true =>
      have o : Out K ca μ H (rW K ca) Q (fun c H' => E (.ref (ca (2 * c))) none H') (.ok (.dat .none) h') := o
      exact o _ _ _ s r' (.dat .non)
    | false =>
      have o : Out K ca μ H (rW K ca) Q (fun c H' => E (.ref (ca (2 * c))) none H') (if closedB (h'.take h.length) then .ok (.dat .none) (h'.take h.length) else .bad) := o
      obtain ⟨cl, o⟩ := out_if o
      exact o _ _ _ s.cutback (r'.cutback s hr.len cl (lens s r')) (.dat .non)
  | ret w h' =>
    intro μ' H' v s r' z
    cases keep with
    | true =>
      have o : Out K ca μ H (rW K ca) Q (fun c H' => E (.ref (ca (2 * c))) none H') (.ok w h') := o
      exact o _ _ _ s r' z
    | false =>
      cases w with
      | dat d =>
        have o : Out K ca μ H (rW K ca) Q (fun c H' => E (.ref (ca (2 * c))) none H') (if closedB (h'.take h.length) then .ok (.dat d) (h'.take h.length) else .bad) := o
        obtain ⟨cl, o⟩ := out_if o
        obtain ⟨t, e, _⟩ := s.pre
        exact o _ _ _ s.cutback (r'.cutback s hr.len cl (lens s r')) (WR.fewer (μ' := ⟨μ.m, μ'.x⟩) ⟨t, e⟩ (fun _ q => q) rfl z)
      | ref k =>
        have o : Out K ca μ H (rW K ca) Q (fun c H' => E (.ref (ca (2 * c))) none H') (match h'[k]? with
          | some (.lst l) => (match dsOf l with
            | some ds => if (decide (h.length ≤ k) && closedB (h'.take h.length)) = true then .ok (.dat (.list ds)) (h'.take h.length) else .bad
            | none => (match frzL h' h.length l with
              | some ds => if (decide (h.length ≤ k) && closedB (h'.take h.length)) = true then .ok (.dat (.list ds)) (h'.take h.length) else .bad
              | none => .bad))
          | _ => .bad) := o
        cases q : h'[k]? with
        | none => rw [q] at o; exact o.elim
        | some ob =>
          cases ob with
          | lst l =>
            rw [q] at o
            obtain ⟨t, e, _⟩ := s.pre
            have sub : ∀ b ∈ (⟨μ.m, μ'.x⟩ : Mu).m, b ∈ μ'.m := fun b m => by rw [e]; exact List.mem_append_left _ m
            have fresh : ∀ (k : Nat) (a : Addr), h.length ≤ k → μ'.m[k]? = some a → a ∉ (⟨μ.m, μ'.x⟩ : Mu).m ∧ a ∉ (⟨μ.m, μ'.x⟩ : Mu).x := fun k a hk hn => by
              refine ⟨fun m => ?_, r'.dis a (List.mem_of_getElem? hn)⟩
              obtain ⟨i, hi⟩ := List.getElem?_of_mem m
              have e2 := s.get hi
              have := nodup_get r'.nd e2 hn
              subst this
              have := (List.getElem?_eq_some_iff.mp hi).1
              have e3 : (⟨μ.m, μ'.x⟩ : Mu).m.length = h.length := hr.len
              omega
            cases q2 : dsOf l with
            | none =>
              simp only [q2] at o
              cases q3 : frzL h' h.length l with
              | none => simp only [q3] at o; exact o.elim
              | some ds =>
              simp only [q3] at o
              obtain ⟨cl, o⟩ := out_if o
              have c2 := and2 cl
              have hk : h.length ≤ k := of_decide_eq_true c2.1
              cases z with
              | ref hn =>
                obtain ⟨xs, y1, y2⟩ := r'.ob k _ _ q hn
                exact o _ _ _ s.cutback (r'.cutback s hr.len c2.2 (lens s r')) (.dat (.lst ⟨fresh k _ hk hn, .inl y1⟩ (frzL_ok fresh sub (fun _ m => m) r' y2 q3)))
            | some ds =>
              simp only [q2] at o
              obtain ⟨cl, o⟩ := out_if o
              have c2 := and2 cl
              have hk : h.length ≤ k := of_decide_eq_true c2.1
              cases z with
              | ref hn =>
                obtain ⟨xs, y1, y2⟩ := r'.ob k _ _ q hn
                exact o _ _ _ s.cutback (r'.cutback s hr.len c2.2 (lens s r')) (.dat (.lst ⟨fresh k _ hk hn, .inl y1⟩ (VRs.fewer sub (fun _ m => m) (WRs.data y2 q2))))
          | _ => rw [q] at o; exact o.elim
      | _ => exact o.elim
section
variable {S : Sg} {L : List DefM} {K : PySem.W.Frag} {mg : Str → Option Value} {ca : Nat → Addr} {P : Program} {w : World} {base : Heap}
theorem Sg.at_ {L : List DefM} (e : L.map (·.d) = S.T) {f : Nat} {d : Df} (h : S.T[f]? = some d) : ∃ m, L[f]? = some m ∧ m.d = d := by
  rw [← e, List.getElem?_map] at h
  exact Option.map_eq_some_iff.mp h
theorem DefM.binds {m : DefM} {a : Addr} {fd : FuncData} (F : FunD K m.d.name m.qual (defArgs m.st) (defBody m.st) (defScope m.st) [] [] a fd) (h : argsB (defArgs m.st) (m.N.take m.d.pars) = true) (nd : m.N.Nodup) : Binds K fd (m.N.take m.d.pars) [] := by
  obtain ⟨as, e1, e2⟩ := args_inv h
  rw [e1] at F
  refine F.bindsN fun kV doc pm an cdv ct us hl => ?_
  have nd2 : (as.map (·.arg)).Nodup := by rw [e2]; exact nd.sublist (List.take_sublist _ _)
  rw [← e2] at hl ⊢
  exact bind_plain nd2 hl
theorem _root_.L2.FunD.look {K : PySem.W.Frag} {x qual : Str} {params : Arguments} {body : List Stmt} {scope : Scope} {dvs : List V} {kws : List (Str × V)} {f : Addr} {fd : FuncData} (F : FunD K x qual params body scope dvs kws f fd) : ∃ oc od osl, K.lookup f = some ⟨oc, od, .func fd, osl⟩ := by
  obtain ⟨oc, od, _, _, _, _, _, _, _, osl, _, lk, _⟩ := F.ex
  exact ⟨oc, od, osl, lk⟩
/-- every def, to every depth -/
theorem def_ok (G : Facts S L K w mg ca) (ok : ∀ m ∈ L, m.okB S = true) : ∀ (n f : Nat) (m : DefM), L[f]? = some m → ∃ a fd, ((m.d.cls = none → mg m.d.name = some (.ref a)) ∧ (∀ c, m.d.cls = some c → c < S.clss.length → Meth K (ca (2 * c + 1)) m.d.name a)) ∧ PySem.W.keepIn K (.ref a) = true ∧ (∃ oc od osl, K.lookup a = some ⟨oc, od, .func fd, osl⟩) ∧ Binds K fd (m.N.take m.d.pars) [] ∧ (∀ (s : Shared) (us : List Value), us.length = (m.N.take m.d.pars).length → BindsTo s fd ⟨us, []⟩ ((m.N.take m.d.pars).zip us)) ∧
    GOk P w K mg base (L2.CX P w) (2 * n) a fd (m.N.take m.d.pars) (spC K ca m.d.pars (run S.glb S.T n f)) := by
  intro n
  induction n with
  | zero =>
    intro f m hm
    obtain ⟨a, fd, F, g⟩ := G.fns f m hm
    have b := and2 (ok m (List.mem_of_getElem? hm))
    have b2 := and2 b.2
    have b3 := and2 b2.2
    have b4 := and2 b3.2
    have b5 := and2 b4.2
    obtain ⟨as, e1, e2⟩ := args_inv b5.1
    refine ⟨a, fd, g, F.kp, F.look, DefM.binds F b5.1 (of_decide_eq_true b3.1), fun s us hl => ?_, ⟨fun vs H Q E q => ?_, fun A outer s H args us vs Q E _ _ _ _ _ q => ?_⟩⟩
    · have nd2 : (as.map (·.arg)).Nodup := by rw [e2]; exact (of_decide_eq_true b3.1).sublist (List.take_sublist _ _)
      rw [e1] at F
      refine F.bindsA (fun kV doc pm an cdv ct us hl => ?_) s us hl
      rw [← e2] at hl ⊢
      exact bind_plain nd2 hl
    · obtain ⟨_, _, _, _, _, _, o⟩ := q
      exact o.elim
    · obtain ⟨_, _, _, _, _, _, o⟩ := q
      exact o.elim
  | succ n ih =>
    intro f m hm
    obtain ⟨a, fd, F, g⟩ := G.fns f m hm
    have b := and2 (ok m (List.mem_of_getElem? hm))
    have b2 := and2 b.2
    have b3 := and2 b2.2
    have b4 := and2 b3.2
    have b5 := and2 b4.2
    have b6 := and2 b5.2
    have b7 := and2 b6.2
    have b8 := and2 b7.2
    have b9 := and2 b8.2
    have nd : m.N.Nodup := of_decide_eq_true b3.1
    have hpl : (m.N.take m.d.pars).length = m.d.pars := by rw [List.length_take]; have := of_decide_eq_true b4.1; omega
    have kd : (defScope m.st).kind = .function := by
      have := b6.1
      cases q : (defScope m.st).kind <;> rw [q] at this <;> first | rfl | cases this
    have SC : FnScope m.N (m.N.take m.d.pars) (defScope m.st) := by
      refine ⟨kd, bnot b7.1, bnot b8.1, nd, by rw [hpl], fun x hx => ?_, fun y hy => of_decide_eq_true (List.all_eq_true.mp b9.2 y hy)⟩
      rcases Bool.or_eq_true_iff.mp (List.all_eq_true.mp b9.1 x hx) with q | q
      · exact .inl (of_decide_eq_true q)
      · exact .inr (of_decide_eq_true q)
    obtain ⟨as, e1, e2⟩ := args_inv b5.1
    refine ⟨a, fd, g, F.kp, F.look, DefM.binds F b5.1 nd, fun s us hl => ?_, ?_⟩
    · have nd2 : (as.map (·.arg)).Nodup := by rw [e2]; exact nd.sublist (List.take_sublist _ _)
      rw [e1] at F
      refine F.bindsA (fun kV doc pm an cdv ct us hl => ?_) s us hl
      rw [← e2] at hl ⊢
      exact bind_plain nd2 hl
    show GOk P w K mg base (L2.CX P w) (2 * n + 1 + 1) a fd _ _
    refine gok_of F SC (fun vs H Q E q => by rw [hpl]; exact q.1) fun cdv A outer s H vs Q E gd hr q => ?_
    obtain ⟨hv, μ, h, ws, hrr, z, o⟩ := q
    refine ⟨tS K ca (fun c σ H' => E (.ref (ca (2 * c))) none H') (exs (S.cc (run S.glb S.T n) whM) m.d.body), ?_, ?_⟩
    · have ck : Cok S ca (run S.glb S.T n) (2 * n) m.N (defScope m.st) (cxOf (L2.CX P w) P w K mg base m.N m.qual (defScope m.st) a cdv A outer s H E) (fun cls d _ H' => E cls d H') :=
        ⟨rfl, nd, rfl, fun _ => rfl, hu65 hr, gd, fun _ => hr, G.free, G.glb, fun f2 d2 hf hc => by
          obtain ⟨m2, h2, rfl⟩ := Sg.at_ G.tab hf
          obtain ⟨a2, fd2, g1, g2, _, g3, _, g4⟩ := ih f2 m2 h2
          exact ⟨a2, fd2, _, g1.1 hc, g2, g3, g4⟩, fun f2 d2 c hf hc hl => by
          obtain ⟨m2, h2, rfl⟩ := Sg.at_ G.tab hf
          obtain ⟨a2, fd2, g1, g2, _, g3, _, g4⟩ := ih f2 m2 h2
          exact ⟨a2, fd2, _, g1.2 c hc hl, g3, g4⟩, G.exs, G.cls, takes_of rfl rfl rfl rfl⟩
      exact sndSs (S := S) (cm := S.calm) m.d.body ⟨ck, passes_of rfl, fun _ => rfl, rfl, rfl, rfl, kd⟩ b.1
    · have hT : S.T[f]? = some m.d := by rw [← G.tab, List.getElem?_map, hm]; rfl
      have hw : ws.length = m.d.pars := by rw [z.len]; exact hv
      have o : Out K ca μ H (rW K ca) Q (fun c H' => E (.ref (ca (2 * c))) none H') (finish m.d.keep h.length (exs ⟨S.glb, run S.glb S.T n, whM⟩ m.d.body (M.start m.d ws) h)) := by
        have e : run S.glb S.T (n + 1) f ws h = finish m.d.keep h.length (exs ⟨S.glb, run S.glb S.T n, whM⟩ m.d.body (M.start m.d ws) h) := by
          show (match S.T[f]? with
            | some d => if ws.length = d.pars then finish d.keep h.length (exs ⟨S.glb, runBy whM S.glb S.T n, whM⟩ d.body (M.start d ws) h) else .bad
            | none => .bad) = _
          rw [hT]
          show (if ws.length = m.d.pars then _ else _) = _
          rw [if_pos hw]
          rfl
        rw [← e]
        exact o
      exact ⟨μ, _, h, start_er (of_decide_eq_true b2.1) z, hrr, fin_ok hrr o⟩
end
end M
/-! MLaw: from what the head tells to the law. -/
namespace M
open PySem PySem.Spec PyProof.Rows L2
/-! ### constants of the top -/
mutual
def relD (K : PySem.W.Frag) : D → Value → Option V
  | .none, .none => some .non
  | .bool b, .bool c => if b = c then some (.bl b) else none
  | .int i, .int j _ => if i = j then some (.int i) else none
  | .str x, .str y _ => if x = y then some (.str x) else none
  | .tuple ds, .ref a => (match K.lookup a with
    | some ⟨.type c, _, .seq its _, _⟩ => if c = "tuple" ∧ its.size ≤ sizeLine then (relDs K ds its.toList).map fun _ => .ref a else none
    | _ => none)
  | _, _ => none
def relDs (K : PySem.W.Frag) : List D → List Value → Option (List V)
  | [], [] => some []
  | d :: ds, u :: us => (match relD K d u, relDs K ds us with
    | some v, some vs => some (v :: vs)
    | _, _ => none)
  | _, _ => none
end
mutual
theorem relD_ok {K : PySem.W.Frag} : ∀ {d : D} {u : Value} {v : V}, relD K d u = some v → RelV v u ∧ ∀ μ H, VR K μ H d v
  | .none, u, v, h => by
    cases u <;> simp [relD] at h
    subst h
    exact ⟨rfl, fun _ _ => .non⟩
  | .bool b, u, v, h => by
    cases u <;> simp [relD] at h
    obtain ⟨rfl, rfl⟩ := h
    exact ⟨rfl, fun _ _ => .bl _⟩
  | .int b, u, v, h => by
    cases u <;> simp [relD] at h
    obtain ⟨rfl, rfl⟩ := h
    exact ⟨⟨_, rfl⟩, fun _ _ => .int _⟩
  | .str b, u, v, h => by
    cases u <;> simp [relD] at h
    obtain ⟨rfl, rfl⟩ := h
    exact ⟨⟨_, rfl⟩, fun _ _ => .str _⟩
  | .list _, u, v, h => by simp [relD] at h
  | .dict _, u, v, h => by simp [relD] at h
  | .tuple ds, u, v, h => by
    cases u with
    | ref a =>
      unfold relD at h
      split at h
      · rename_i c od its n sl e
        split at h
        · rename_i q
          cases r : relDs K ds its.toList with
          | none => rw [r] at h; cases h
          | some vs =>
            rw [r] at h
            cases h
            obtain ⟨h1, h2⟩ := relDs_ok r
            exact ⟨rfl, fun μ H => .tup (.inr ⟨_, its, n, e, congrArg Value.type q.1, rfl, q.2, h1⟩) (h2 μ H)⟩
        · cases h
      · cases h
    | _ => simp [relD] at h
theorem relDs_ok {K : PySem.W.Frag} : ∀ {ds : List D} {us : List Value} {vs : List V}, relDs K ds us = some vs → Vals vs us ∧ ∀ μ H, VRs K μ H ds vs
  | [], us, vs, h => by
    cases us <;> simp [relDs] at h
    subst h
    exact ⟨.nil, fun _ _ => .nil⟩
  | d :: ds, us, vs, h => by
    cases us with
    | nil => simp [relDs] at h
    | cons u us =>
      unfold relDs at h
      cases h1 : relD K d u with
      | none => rw [h1] at h; cases h
      | some v =>
        cases h2 : relDs K ds us with
        | none => rw [h1, h2] at h; cases h
        | some vs2 =>
          rw [h1, h2] at h
          cases h
          obtain ⟨a1, a2⟩ := relD_ok h1
          obtain ⟨b1, b2⟩ := relDs_ok h2
          exact ⟨.cons a1 b1, fun μ H => .cons (a2 μ H) (b2 μ H)⟩
end
/-! ### the errors' classes -/
def Sg.cn (S : Sg) (c : Nat) : Str := match S.excs[c]? with
  | some x => x
  | none => "MarkError"
def Sg.xa (S : Sg) (K : PySem.W.Frag) (c : Nat) : Addr := He.ga K (S.cn c)
/-- the classes' names -/
def Sg.cln (S : Sg) (c : Nat) : Str := match S.clss[c]? with
  | some p => p.1
  | none => (match S.clss with
    | p :: _ => p.1
    | [] => "")
/-- errors' classes by even numbers, the text's own by odd ones -/
def Sg.ca (S : Sg) (K : PySem.W.Frag) (n : Nat) : Addr := if n % 2 = 0 then S.xa K (n / 2) else He.ga K (S.cln (n / 2))
theorem ca_ex {S : Sg} {K : PySem.W.Frag} (c : Nat) : S.ca K (2 * c) = S.xa K c := by
  unfold Sg.ca
  rw [if_pos (by omega), show 2 * c / 2 = c by omega]
theorem ca_cl {S : Sg} {K : PySem.W.Frag} (c : Nat) : S.ca K (2 * c + 1) = He.ga K (S.cln c) := by
  unfold Sg.ca
  rw [if_neg (by omega), show (2 * c + 1) / 2 = c by omega]
def icB (K : PySem.W.Frag) (D : Addr) : Bool :=
  He.eqO (PySem.W.findIn K (.ref D) "__getattribute__") (some (some (.builtin "BaseException.__getattribute__"))) && (He.eqO (PySem.W.findIn K (.ref D) "__getattr__") (some none) && (decide (PySem.W.subIn K (.ref D) (.type "BaseException") = some true) && (PySem.W.hasDictIn K D &&
    (He.eqO (PySem.W.findIn K (.ref D) "__class__") (some (some (.builtin "object.__class__"))) && (He.eqO (PySem.W.specialIn K (.builtin "object.__class__") "__get__") (some (some (.builtin "getset_descriptor.__get__"))) && (decide (PySem.W.takesIn K (.builtin "object.__class__") = some true) &&
      (decide (PySem.W.mroIn K D (.type "object") = some true) && decide (PySem.W.kitOne K (.ref D) (.type "ValueError") = some true))))))))
theorem icB_ok {K : PySem.W.Frag} {D : Addr} (h : icB K D = true) : ExcC K D ∧ PySem.W.kitOne K (.ref D) (.type "ValueError") = some true := by
  have h1 := and2 h
  have h2 := and2 h1.2
  have h3 := and2 h2.2
  have h4 := and2 h3.2
  have h5 := and2 h4.2
  have h6 := and2 h5.2
  have h7 := and2 h6.2
  have h8 := and2 h7.2
  exact ⟨⟨He.eqO_ok h1.1, He.eqO_ok h2.1, of_decide_eq_true h3.1, h4.1, He.eqO_ok h5.1, He.eqO_ok h6.1, of_decide_eq_true h7.1, of_decide_eq_true h8.1⟩, of_decide_eq_true h8.2⟩
def exB1 (K : PySem.W.Frag) (S : Sg) : Bool :=
  decide (S.excs[0]? = some ("MarkError" : Str)) && ((S.excs.all fun x => (He.Fa.glo x).ok K && (PySem.W.keepIn K (.ref (He.ga K x)) && (decide (PySem.W.typeIn K (.ref (He.ga K x)) = some (.type "type")) && icB K (He.ga K x)))) &&
    ((S.plain.all fun x => PySem.W.excIn K (He.ga K x) He.veBase "ValueError.__new__") &&
      ((List.range S.excs.length).all fun c => (List.range S.excs.length).all fun d => decide (PySem.W.kitOne K (.ref (S.xa K c)) (.ref (S.xa K d)) = some (subX c d)) && decide (PySem.W.exmOne K (.ref (S.xa K c)) (.ref (S.xa K d)) = some (subX c d)))))
def exB (K : PySem.W.Frag) (S : Sg) : Bool := S.excs.isEmpty || exB1 K S
section
variable {K : PySem.W.Frag} {S : Sg} {mg : Str → Option Value} {h : Heap}
theorem cn_of {c : Nat} {x : Str} (e : S.excs[c]? = some x) : S.cn c = x := by unfold Sg.cn; rw [e]
theorem exB1_ok (X : K.In h) (G : h.Ns mainGlobals mg) (q : exB1 K S = true) : ExS S K mg (S.ca K) := by
  have h1 := and2 q
  have h2 := and2 h1.2
  have h3 := and2 h2.2
  have e0 : S.excs[0]? = some ("MarkError" : Str) := of_decide_eq_true h1.1
  have each : ∀ x, x ∈ S.excs → mg x = some (.ref (He.ga K x)) ∧ PySem.W.keepIn K (.ref (He.ga K x)) = true ∧ PySem.W.typeIn K (.ref (He.ga K x)) = some (.type "type") ∧ ExcC K (He.ga K x) ∧ PySem.W.kitOne K (.ref (He.ga K x)) (.type "ValueError") = some true := fun x hx => by
    have z := and2 (List.all_eq_true.mp h2.1 x hx)
    have z2 := and2 z.2
    have z3 := and2 z2.2
    exact ⟨He.glo_ok X G z.1, z2.1, of_decide_eq_true z3.1, icB_ok z3.2⟩
  have mem : ∀ c, S.cn c ∈ S.excs := fun c => by
    unfold Sg.cn
    cases e : S.excs[c]? with
    | some x => exact List.mem_of_getElem? e
    | none => exact List.mem_of_getElem? e0
  have kk : ∀ c d, c < S.excs.length → d < S.excs.length → PySem.W.kitOne K (.ref (S.xa K c)) (.ref (S.xa K d)) = some (subX c d) ∧ PySem.W.exmOne K (.ref (S.xa K c)) (.ref (S.xa K d)) = some (subX c d) := fun c d hc hd => by
    have z := and2 (List.all_eq_true.mp (List.all_eq_true.mp h3.2 c (List.mem_range.mpr hc)) d (List.mem_range.mpr hd))
    exact ⟨of_decide_eq_true z.1, of_decide_eq_true z.2⟩
  refine ⟨fun c x e => ?_, fun c x e hp => ?_, fun c _ => ?_, fun c d y e => ?_⟩
  · have z := each x (List.mem_of_getElem? e)
    rw [ca_ex]
    unfold Sg.xa
    rw [cn_of e]
    exact ⟨z.1, z.2.1, z.2.2.2.1.hs, z.2.2.1⟩
  · rw [ca_ex]
    unfold Sg.xa
    rw [cn_of e]
    exact List.all_eq_true.mp h3.1 x hp
  · rw [ca_ex]
    exact (each _ (mem c)).2.2.2
  · rw [ca_ex, ca_ex]
    have hd := (List.getElem?_eq_some_iff.mp e).1
    by_cases hc : c < S.excs.length
    · exact kk c d hc hd
    · have z := kk 0 d (by omega) hd
      have e1 : S.xa K c = S.xa K 0 := by
        unfold Sg.xa
        rw [cn_of e0]
        unfold Sg.cn
        rw [List.getElem?_eq_none (by omega)]
      have e2 : subX c d = subX 0 d := by
        unfold subX
        by_cases hd0 : d = 0
        · subst hd0; rfl
        · have : ¬ c = d := by omega
          have : ¬ 0 = d := by omega
          simp [*]
      rw [e1, e2]
      exact z
theorem exB_ok (X : K.In h) (G : h.Ns mainGlobals mg) (q : exB K S = true) : ExS S K mg (S.ca K) := by
  rcases Bool.or_eq_true_iff.mp q with q | q
  · have e : S.excs = [] := List.isEmpty_iff.mp q
    exact ⟨fun c x z => by rw [e] at z; simp at z, fun c x z => by rw [e] at z; simp at z, fun c z => absurd e z, fun c d y z => by rw [e] at z; simp at z⟩
  · exact exB1_ok X G q
end
/-! ### the Hook -/
/-- a dict of the top, of texts by texts -/
def dk1 (e : DictEntry) : Option (Str × Int × Str) := match e.key, e.val with
  | .str x _, .str y _ => some (x, e.hash, y)
  | _, _ => none
def dkW (K : PySem.W.Frag) (a : Addr) : Option (List (Option (Str × Int × Str))) := match K.lookup a with
  | some ⟨.type c, none, .dict es _, sl⟩ => (match decide (c = "dict") && (sl.isEmpty && !(a == sysModules)) with
    | true => some (es.toList.map dk1)
    | false => none)
  | _ => none
def strD : D → Str
  | .str x => x
  | _ => ""
def dkV (P : Params) (l : List (D × D)) : List (Option (Str × Int × Str)) := l.map fun p => some (strD p.1, PyData.keyHash P (strD p.1), strD p.2)
def strs2 (l : List (D × D)) : Bool := l.all fun p => isStrD p.1 && isStrD p.2
theorem isStr_of {d : D} (h : isStrD d = true) : d = .str (strD d) := by
  cases d <;> first | rfl | cases h
theorem dk_lit {P : Params} : ∀ {es : List DictEntry} {l : List (D × D)}, es.map dk1 = dkV P l → PySem.W.KeysLit P es
  | [], _, _ => trivial
  | e :: r, [], h => by cases h
  | e :: r, p :: l, h => by
    have h1 : dk1 e :: r.map dk1 = some (strD p.1, PyData.keyHash P (strD p.1), strD p.2) :: dkV P l := h
    injection h1 with h2 h3
    refine ⟨?_, dk_lit h3⟩
    unfold dk1 at h2
    split at h2
    · rename_i x t y t2 q q2
      have h4 := Option.some.inj h2
      obtain ⟨h5, h6⟩ := Prod.mk.inj h4
      obtain ⟨h6, _⟩ := Prod.mk.inj h6
      exact ⟨x, t, q, by rw [h6, h5]⟩
    · cases h2
theorem dk_find {P : Params} (z : Str) : ∀ {es : List DictEntry} {l : List (D × D)}, es.map dk1 = dkV P l → strs2 l = true →
    (tabD l z = none → es.find? (·.key.isStr z) = none ∧ es.any (·.refKey) = false) ∧ (∀ d, tabD l z = some d → ∃ e y t, es.find? (·.key.isStr z) = some e ∧ d = .str y ∧ e.val = .str y t)
  | [], [], _, _ => ⟨fun _ => ⟨rfl, rfl⟩, fun d q => by cases q⟩
  | [], _ :: _, h, _ => by cases h
  | _ :: _, [], h, _ => by cases h
  | e :: r, p :: l, h, s => by
    have h1 : dk1 e :: r.map dk1 = some (strD p.1, PyData.keyHash P (strD p.1), strD p.2) :: dkV P l := h
    injection h1 with h2 h3
    have s2 := and2 (show ((isStrD p.1 && isStrD p.2) && strs2 l) = true from s)
    have s3 := and2 s2.1
    obtain ⟨i1, i2⟩ := dk_find (P := P) z h3 s2.2
    obtain ⟨k, v⟩ := p
    have ek := isStr_of s3.1
    have ev := isStr_of s3.2
    simp only at ek ev h2
    unfold dk1 at h2
    split at h2
    · rename_i x t y t2 q q2
      have h4 := Option.some.inj h2
      obtain ⟨h5, h6⟩ := Prod.mk.inj h4
      obtain ⟨_, h7⟩ := Prod.mk.inj h6
      have ks : e.key.isStr z = decide (x = z) := by rw [q]; first | rfl | simp [Value.isStr, Value.isStrOf]
      have kr : e.refKey = false := by unfold DictEntry.refKey; rw [q]
      by_cases c : x = z
      · have ft : tabD ((k, v) :: l) z = some v := by
          rw [ek, ← h5]
          simp [tabD, c]
        have fe : (e :: r).find? (·.key.isStr z) = some e := by rw [List.find?_cons, ks, decide_eq_true c]
        refine ⟨fun q => (by rw [ft] at q; cases q), fun d q => ⟨e, y, t2, fe, ?_, q2⟩⟩
        rw [ft] at q
        cases q
        rw [ev, ← h7]
      · have ft : tabD ((k, v) :: l) z = tabD l z := by
          rw [ek, ← h5]
          simp [tabD, c]
        have fe : (e :: r).find? (·.key.isStr z) = r.find? (·.key.isStr z) := by rw [List.find?_cons, ks, decide_eq_false c]
        rw [ft, fe, List.any_cons, kr, Bool.false_or]
        exact ⟨i1, i2⟩
    · cases h2
theorem dkW_ok {K : PySem.W.Frag} {w : World} {a : Addr} {l : List (D × D)} (s : strs2 l = true) (h : dkW K a = some (dkV w.params l)) : KDD K w a l := by
  unfold dkW at h
  split at h
  · rename_i c es n sl q
    split at h
    · rename_i z
      obtain ⟨z1, z2⟩ := and2 z
      obtain ⟨z3, z4⟩ := and2 z2
      have e1 : c = "dict" := of_decide_eq_true z1
      have e2 : sl = #[] := Array.isEmpty_iff.mp z3
      subst e1; subst e2
      have hh := Option.some.inj h
      refine ⟨es, n, ⟨q, dk_lit hh, by simpa using z4⟩, fun z => ?_⟩
      obtain ⟨i1, i2⟩ := dk_find (P := w.params) z hh s
      refine ⟨fun t => ?_, fun d t => ?_⟩
      · obtain ⟨a1, a2⟩ := i1 t
        unfold PySem.W.nsIn
        rw [q]
        simp only [a1, a2]
        rfl
      · obtain ⟨e, y, tk, a1, a2, a3⟩ := i2 d t
        refine ⟨y, tk, a2, ?_⟩
        unfold PySem.W.nsIn
        rw [q]
        simp only [a1, a3]
    · cases h
  · cases h
def glB0 (K : PySem.W.Frag) (p : Str × D) : Bool := match PySem.W.nsIn K mainGlobals p.1 with
  | some (some u) => (relD K p.2 u).isSome
  | _ => false
def refB1 (K : PySem.W.Frag) (x : Str) : Option Addr := match PySem.W.nsIn K mainGlobals x with
  | some (some (.ref a)) => some a
  | _ => none
def glB (K : PySem.W.Frag) (p : Str × D) : Bool := match p.2 with
  | .dict l => strs2 l && (refB1 K p.1).isSome
  | _ => glB0 K p
/-- the dicts among the names of the top -/
def dcs (S : Sg) : List (Str × List (D × D)) := S.glbs.filterMap fun p => match p.2 with
  | .dict l => some (p.1, l)
  | _ => none
def obD (S : Sg) (K : PySem.W.Frag) : List (Option (List (Option (Str × Int × Str)))) := (dcs S).map fun p => (refB1 K p.1).bind fun a => dkW K a
def vaD (S : Sg) (P : Params) : List (Option (List (Option (Str × Int × Str)))) := (dcs S).map fun p => some (dkV P p.2)
theorem map_at {α β : Type} {f g : α → β} : ∀ {l : List α}, l.map f = l.map g → ∀ x ∈ l, f x = g x
  | [], _, x, m => by cases m
  | y :: l, h, x, m => by
    injection h with h1 h2
    rcases List.mem_cons.mp m with e | m
    · rw [e]; exact h1
    · exact map_at h2 x m
theorem glB_ok {S : Sg} {K : PySem.W.Frag} {w : World} {h : Heap} {mg : Str → Option Value} (X : K.In h) (G : h.Ns mainGlobals mg) {p : Str × D} (q : glB K p = true) (m : p ∈ S.glbs) (v : obD S K = vaD S w.params) : GlbR K w mg p.1 p.2 := by
  obtain ⟨x, d⟩ := p
  cases d with
  | dict l =>
    have q2 := and2 (show (strs2 l && (refB1 K x).isSome) = true from q)
    obtain ⟨a, ea⟩ := Option.isSome_iff_exists.mp q2.2
    have mg1 : mg x = some (.ref a) := by
      unfold refB1 at ea
      split at ea
      · rename_i c e
        cases ea
        exact PySem.W.mg_of X G e
      · cases ea
    have md : (x, l) ∈ dcs S := List.mem_filterMap.mpr ⟨_, m, rfl⟩
    have z := map_at v _ md
    have z2 : dkW K a = some (dkV w.params l) := by
      rw [← z]
      show _ = (refB1 K x).bind fun a => dkW K a
      rw [ea]
      rfl
    exact ⟨a, mg1, dkW_ok q2.1 z2⟩
  | _ =>
    have q : glB0 K (x, _) = true := q
    unfold glB0 at q
    split at q
    · rename_i u e
      obtain ⟨v, hv⟩ := Option.isSome_iff_exists.mp q
      obtain ⟨a, b⟩ := relD_ok hv
      exact ⟨u, v, PySem.W.mg_of X G e, a, b⟩
    · cases q
def DefM.dd (m : DefM) : He.DefD := ⟨m.at_, m.d.name, m.qual, defArgs m.st, defBody m.st, defScope m.st, [], []⟩
/-- what the head tells of the classes, of their methods -/
def clF (S : Sg) : List He.Fa := S.clss.flatMap fun p => .glo p.1 :: .cls p.1 :: .mkr p.1 :: (S.clss.flatMap (·.2)).map (.noat p.1)
def mtF (S : Sg) (L : List DefM) : List He.Fa := L.filterMap fun m => match m.d.cls with
  | some c => some (.meth (S.cln c) m.d.name)
  | none => none
def faOf (S : Sg) (L : List DefM) : List He.Fa := S.frees.map .free ++ ((L.filterMap fun m => if m.d.cls = none then some (.glo m.d.name) else none) ++ (clF S ++ mtF S L))
def fnOf (L : List DefM) : List He.DefD := L.map DefM.dd
/-- the further looks -/
def xtB (S : Sg) (K : PySem.W.Frag) : Bool := (S.glbs.all fun p => glB K p) && exB K S
abbrev AlM : Type := He.AlD × Bool × List (Option (List (Option (Str × Int × Str))))
def obM (S : Sg) (L : List DefM) (n : Nat) (g : Addr → Option Obj) : AlM := (He.obsD (faOf S L) (fnOf L) (He.frG g (He.asD g n)), xtB S (He.frG g (He.asD g n)), obD S (He.frG g (He.asD g n)))
def SaysM (S : Sg) (L : List DefM) (w : World) (K : PySem.W.Frag) : Prop := He.SaysD (faOf S L) (fnOf L) K ∧ xtB S K = true ∧ obD S K = vaD S w.params
def hookM (S : Sg) (L : List DefM) (n : Nat) : PySem.W.Hook where
  α := AlM
  obs := fun s => obM S L n s.heap.get?
  val := fun w => (He.valD (fnOf L), true, vaD S w.params)
  says := fun w h => ∃ K : PySem.W.Frag, K.In h ∧ SaysM S L w K
  of := fun _ _ e => ⟨_, He.frG_in, congrArg Prod.fst e, congrArg (fun z => z.2.1) e, congrArg (fun z => z.2.2) e⟩
  keeps := fun _ _ _ ⟨K, hK, c⟩ k => ⟨K, PySem.W.Frag.In.keeps hK k, c⟩
theorem obM_eq {S : Sg} {L : List DefM} {n : Nat} {g : Addr → Option Obj} {s : Shared} (h : ∀ a, g a = s.heap.get? a) : obM S L n g = (hookM S L n).obs s := by
  have e : g = s.heap.get? := funext h
  rw [e] <;> rfl
theorem says_fact {fa : List He.Fa} {fn : List He.DefD} {K : PySem.W.Frag} (c : He.SaysD fa fn K) {f : He.Fa} (h : f ∈ fa) : f.ok K = true := by
  have c1 := (He.ba (show ((fa.all fun f => f.ok K) && fn.all fun d => d.ok K) = true from congrArg (fun z : He.AlD => z.1) c)).1
  exact List.all_eq_true.mp c1 f h
/-- a def of the module stands under its name -/
def DefM.atB (S : Sg) (m : DefM) : Bool := match m.d.cls with
  | none => decide (m.at_ = (m.d.name, none))
  | some c => decide (m.at_ = (S.cln c, some m.d.name))
theorem cls_of {S : Sg} {L : List DefM} {K : PySem.W.Frag} {h : Heap} {mg : Str → Option Value} (X : K.In h) (G : h.Ns mainGlobals mg) (c : He.SaysD (faOf S L) (fnOf L) K) : ClS S K mg (S.ca K) := by
  have fa : ∀ f ∈ clF S, f.ok K = true := fun f hf => says_fact c (List.mem_append_right _ (List.mem_append_right _ (List.mem_append_left _ hf)))
  have of : ∀ p ∈ S.clss, ∀ f, f ∈ (He.Fa.glo p.1 :: .cls p.1 :: .mkr p.1 :: (S.clss.flatMap (·.2)).map (.noat p.1) : List He.Fa) → f.ok K = true := fun p hp f hf => fa f (List.mem_flatMap.mpr ⟨p, hp, hf⟩)
  have cl : S.clss ≠ [] → ∀ n, ∃ p ∈ S.clss, S.cln n = p.1 := fun ne n => by
    unfold Sg.cln
    cases e : S.clss[n]? with
    | some p => exact ⟨p, List.mem_of_getElem? e, rfl⟩
    | none =>
      cases e2 : S.clss with
      | nil => exact absurd e2 ne
      | cons p r => exact ⟨p, List.mem_cons_self, rfl⟩
  refine ⟨fun n x e => ?_, fun n ne => ?_, fun n f hf => ?_⟩
  · obtain ⟨p, e1, e2⟩ := Option.map_eq_some_iff.mp e
    have hp := List.mem_of_getElem? e1
    have en : S.cln n = x := by unfold Sg.cln; rw [e1]; exact e2
    rw [ca_cl, en, ← e2]
    have M := He.mkr_ok (of p hp (.mkr p.1) (by simp))
    exact ⟨He.glo_ok X G (of p hp (.glo p.1) (by simp)), M.makes, M.kp⟩
  · obtain ⟨p, hp, e⟩ := cl ne n
    rw [ca_cl, e]
    exact He.cls_ok (of p hp (.cls p.1) (by simp))
  · have ne : S.clss ≠ [] := fun q => by unfold fldB at hf; rw [q] at hf; cases hf
    obtain ⟨p, hp, e⟩ := cl ne n
    rw [ca_cl, e]
    obtain ⟨r, hr, hf⟩ := List.any_eq_true.mp hf
    exact He.noat_ok (of p hp (.noat p.1 f) (by
      simp only [List.mem_cons, List.mem_map]
      exact .inr (.inr (.inr ⟨f, List.mem_flatMap.mpr ⟨r, hr, of_decide_eq_true hf⟩, rfl⟩))))
theorem facts_of {S : Sg} {L : List DefM} {K : PySem.W.Frag} {h : Heap} {mg : Str → Option Value} (X : K.In h) (G : h.Ns mainGlobals mg) (tab : L.map (·.d) = S.T) (hat : ∀ m ∈ L, m.atB S = true) {w : World} (c : SaysM S L w K) : Facts S L K w mg (S.ca K) where
  tab := tab
  free := fun x hx => He.free_ok X G (says_fact c.1 (List.mem_append_left _ (List.mem_map.mpr ⟨x, hx, rfl⟩)))
  glb := fun k x d e => glB_ok X G (p := (x, d)) (List.all_eq_true.mp (and2 c.2.1).1 _ (List.mem_of_getElem? e)) (List.mem_of_getElem? e) c.2.2
  fns := fun f m e => by
    obtain ⟨fd, F⟩ := c.1.def_ f (d := m.dd) (by unfold fnOf; rw [List.getElem?_map, e]; rfl)
    refine ⟨_, fd, F, fun hc => ?_, fun cn hc hl => ?_⟩
    · have z := hat m (List.mem_of_getElem? e)
      unfold DefM.atB at z
      rw [hc] at z
      have z := of_decide_eq_true z
      show mg m.d.name = some (.ref (He.fAd K m.at_))
      rw [z]
      exact He.glo_ok X G (says_fact c.1 (List.mem_append_right _ (List.mem_append_left _ (List.mem_filterMap.mpr ⟨m, List.mem_of_getElem? e, by rw [if_pos hc]⟩))))
    · have z := hat m (List.mem_of_getElem? e)
      unfold DefM.atB at z
      rw [hc] at z
      have z := of_decide_eq_true z
      show Meth K (S.ca K (2 * cn + 1)) m.d.name (He.fAd K m.at_)
      rw [z, ca_cl]
      exact He.meth_ok (says_fact c.1 (List.mem_append_right _ (List.mem_append_right _ (List.mem_append_right _ (List.mem_filterMap.mpr ⟨m, List.mem_of_getElem? e, by rw [hc]⟩)))))
  exs := exB_ok X G (and2 c.2.1).2
  cls := cls_of X G c.1
/-- what a def may let out, in any world -/
def CXa : CXT := fun outer H s E u s' => ∃ P w, L2.CX P w outer H s E u s'
/-- the law -/
theorem law_walk {l : PySem.W.OpenLaw} {S : Sg} {L : List DefM} {k f n j : Nat} {m : DefM} {q : Program} {loose : List Str} {XP : (Str → Option Value) → Heap → Prop} {d : DefRec} {x : Str}
    (hn : l.most = some n) (hn2 : n ≤ sizeLine) (hdf : d.params.defaults = []) (hr : Room (2 * k) callerA) (tab : L.map (·.d) = S.T) (hat : ∀ m ∈ L, m.atB S = true) (ok : ∀ m ∈ L, m.okB S = true)
    (hm : L[f]? = some m) (hc : m.d.cls = none) (hp : m.d.pars = 1) (hN : m.N.take 1 = [x]) (hd : d.name = m.d.name)
    (hrun : ∀ ns : List Int, ns.length ≤ n → (∀ z ∈ ns, Builtin.Int.intBits z ≤ 1048576) → ∃ h', run S.glb S.T k f [.scr ns] [] = .ok (.dat (.bool true)) h') :
    PySem.W.WalkO q loose XP (hookM S L j).says l.row.toRowW d [] (fun f vs => PySem.call f vs) := by
  refine walk_ofG (l := l) (m := n) (n := 2 * k) (x := x) (cx := CXa) hn hn2 hdf hr (fun w mg fa h Y G hmg => ?_) (fun H s e s' z => ?_)
  · obtain ⟨K, KX, c⟩ := Y
    have F : ∀ (mg : Str → Option Value) (h : Heap), K.In h → h.Ns mainGlobals mg → Facts S L K w mg (S.ca K) := fun mg h X G => facts_of X G tab hat c
    obtain ⟨a, fd, g1, g2, ⟨o1, o2, o3, g0⟩, g3, g4, _⟩ := def_ok (P := l.prog) (w := w) (base := h) (F mg h KX G) ok k f m hm
    have ea : a = fa := by
      have z := g1.1 hc
      rw [← hd, hmg] at z
      cases z
      rfl
    subst ea
    rw [hp, hN] at g4
    refine ⟨K, fd, spC K (S.ca K) 1 (run S.glb S.T k f), KX, fun s u => g4 s [u] rfl, fun H a ns hl hb _ hS => ?_, fun base kb Gb => ?_⟩
    · obtain ⟨h', e⟩ := hrun ns hl hb
      refine ⟨rfl, ⟨[], []⟩, [], [.scr ns], ⟨rfl, List.nodup_nil, fun a z => (nomatch z), fun a z => (nomatch z), fun a z => (nomatch z), fun n o a z => by simp at z⟩, .cons (.scr ⟨_, rfl, ?_⟩) .nil, ?_⟩
      · rcases hS with q | q
        · exact .inl ⟨⟨fun z => (nomatch z), fun z => (nomatch z)⟩, q⟩
        · exact .inr fun H' => .inr q
      · rw [e]
        intro μ' H' v _ _ z
        cases z with
        | dat z => cases z; rfl
    · obtain ⟨a', fd', g1', g2', ⟨o1', o2', o3', g0'⟩, g3', g4', g5'⟩ := def_ok (P := l.prog) (w := w) (base := base) (F mg base kb Gb) ok k f m hm
      have e1 : a' = a := by
        have z := (g1'.1 hc).symm.trans (g1.1 hc)
        exact Value.ref.inj (Option.some.inj z)
      subst e1
      have e2 : fd' = fd := by
        rw [g0] at g0'
        cases g0'
        rfl
      subst e2
      rw [hp, hN] at g5'
      exact ⟨g5'.len, fun A outer s H args us vs Q E r0 r1 r2 r3 r4 r5 => codeAny_mono (g5'.run A outer s H args us vs Q E r0 r1 r2 r3 r4 r5) fun r s' z => by
        unfold CR at z ⊢
        cases r with
        | ok c => cases c <;> exact z
        | error e => exact ⟨_, _, z⟩⟩
  · obtain ⟨P, w, a, B, H', cls, d, _, _, _, _, _, _, _, q⟩ := z
    exact q
end M
/-! MEval: what a run of the mini language comes to, by rules. -/
namespace M
open PySem
/-- ends well with Q, or raises with E -/
def okW {α : Type} (r : Res α) (Q : α → Hh → Prop) (E : Nat → Hh → Prop) : Prop := match r with
  | .ok a h => Q a h
  | .exc c h => E c h
  | .bad => False
def okS (r : SR) (N : En → Hh → Prop) (R : W → Hh → Prop) (X : Nat → En → Hh → Prop) : Prop := match r with
  | .nxt e h => N e h
  | .ret w h => R w h
  | .exc c e h => X c e h
  | .bad => False
abbrev noE : Nat → Hh → Prop := fun _ _ => False
section
variable {α β : Type} {Q : α → Hh → Prop} {E : Nat → Hh → Prop} {N : En → Hh → Prop} {R : W → Hh → Prop} {X : Nat → En → Hh → Prop}
theorem okW.imp {r : Res α} {Q' : α → Hh → Prop} {E' : Nat → Hh → Prop} (h : okW r Q E) (q : ∀ a h, Q a h → Q' a h) (e : ∀ c h, E c h → E' c h) : okW r Q' E' := by
  cases r <;> first | exact q _ _ h | exact e _ _ h | exact h
theorem okS.imp {r : SR} {N' : En → Hh → Prop} {R' : W → Hh → Prop} {X' : Nat → En → Hh → Prop} (h : okS r N R X) (n : ∀ e h, N e h → N' e h) (q : ∀ a h, R a h → R' a h) (x : ∀ c e h, X c e h → X' c e h) : okS r N' R' X' := by
  cases r <;> first | exact n _ _ h | exact q _ _ h | exact x _ _ _ h | exact h
theorem okW.get {r : Res α} (h : okW r Q noE) : ∃ a h', r = .ok a h' ∧ Q a h' := by
  cases r with
  | ok a h' => exact ⟨a, h', rfl, h⟩
  | exc _ _ => exact h.elim
  | bad => exact h.elim
theorem okW.of {r : Res α} {a : α} {h : Hh} (e : r = .ok a h) (q : Q a h) : okW r Q E := by rw [e]; exact q
@[simp] theorem okW_ok (a : α) (h : Hh) : okW (.ok a h) Q E = Q a h := (rfl)
@[simp] theorem okW_exc (c : Nat) (h : Hh) : okW (.exc c h : Res α) Q E = E c h := (rfl)
@[simp] theorem okW_bad : okW (.bad : Res α) Q E = False := (rfl)
@[simp] theorem okW_bind {m : Res β} {f : β → Hh → Res α} : okW (m.bind f) Q E = okW m (fun a h => okW (f a h) Q E) E := by cases m <;> rfl
@[simp] theorem okS_nxt (e : En) (h : Hh) : okS (.nxt e h) N R X = N e h := (rfl)
@[simp] theorem okS_ret (w : W) (h : Hh) : okS (.ret w h) N R X = R w h := (rfl)
@[simp] theorem okS_exc (c : Nat) (e : En) (h : Hh) : okS (.exc c e h) N R X = X c e h := (rfl)
@[simp] theorem okS_bad : okS .bad N R X = False := (rfl)
@[simp] theorem okS_bind {m : SR} {f : En → Hh → SR} : okS (m.bind f) N R X = okS m (fun e h => okS (f e h) N R X) R X := by cases m <;> rfl
@[simp] theorem okS_then {m : Res β} {e : En} {f : β → Hh → SR} : okS (m.then e f) N R X = okW m (fun a h => okS (f a h) N R X) (fun c h => X c e h) := by cases m <;> rfl
@[simp] theorem okS_catch {m : SR} {f : Nat → En → Hh → SR} : okS (m.catch f) N R X = okS m N R (fun c e h => okS (f c e h) N R X) := by cases m <;> rfl
@[simp] theorem okS_suite {m : SR} {i : Nat} : okS (m.suite i) N R X = okS m (fun e h => N (e.set i none) h) R (fun _ _ _ => False) := by cases m <;> rfl
@[simp] theorem okS_suite0 {m : SR} : okS m.suite0 N R X = okS m N R (fun _ _ _ => False) := by cases m <;> rfl
theorem okW_ite {c : Prop} [Decidable c] {a b : Res α} : okW (if c then a else b) Q E = ((c → okW a Q E) ∧ (¬ c → okW b Q E)) := by
  by_cases h : c <;> simp [h]
theorem okS_ite {c : Prop} [Decidable c] {a b : SR} : okS (if c then a else b) N R X = ((c → okS a N R X) ∧ (¬ c → okS b N R X)) := by
  by_cases h : c <;> simp [h]
@[simp] theorem okW_dite_bad {c : Prop} [Decidable c] {a : Res α} : okW (if c then a else .bad) Q E = (c ∧ okW a Q E) := by
  by_cases h : c <;> simp [h]
end
/-- the turns of a for, of a comprehension -/
def forI (I : Itm) (step : W → En → Hh → SR) (e : En) (h : Hh) : SR := forG I step I.num 0 e h
def compI (I : Itm) (step : W → Hh → Res (Option W)) (h : Hh) : Res (List W) := compG I step I.num 0 h []
@[simp] theorem forI_ws (l : List W) (step : W → En → Hh → SR) (e : En) (h : Hh) : forI (.ws l) step e h = forL step l e h := forG_ws l step e h
@[simp] theorem compI_ws (l : List W) (step : W → Hh → Res (Option W)) (h : Hh) : compI (.ws l) step h = compL step l h [] := compG_ws l step h []
/-! ### the language's rules -/
/-- a slot of the names -/
def look : En → Nat → Option (Option W)
  | [], _ => none
  | a :: _, 0 => some a
  | _ :: l, n + 1 => look l n
theorem look_eq : ∀ (e : En) (i : Nat), e[i]? = look e i
  | [], i => by simp [look]
  | a :: l, 0 => rfl
  | a :: l, n + 1 => by rw [List.getElem?_cons_succ]; exact look_eq l n
/-- a comprehension's own names, emptied -/
def wipeS : En → List (Str × Nat) → En
  | e, [] => e
  | e, (_, v) :: r => (wipeS e r).set v none
theorem wipeS_eq (e : En) : ∀ own : List (Str × Nat), wipeS e own = wipe e (own.map (·.2))
  | [] => rfl
  | (_, v) :: r => by
    show (wipeS e r).set v none = (wipe e (r.map (·.2))).set v none
    rw [wipeS_eq e r]
@[simp] theorem wipeS_nil (e : En) : wipeS e [] = e := (rfl)
@[simp] theorem wipeS_cons (e : En) (s : Str) (v : Nat) (r : List (Str × Nat)) : wipeS e ((s, v) :: r) = (wipeS e r).set v none := (rfl)
@[simp] theorem look_0 (a : Option W) (l : En) : look (a :: l) 0 = some a := (rfl)
@[simp] theorem look_s (a : Option W) (l : En) (n : Nat) : look (a :: l) (n + 1) = look l n := (rfl)
section
variable {C : Cc} {e : En} {h : Hh}
@[simp] theorem ev_var (i : Nat) : ev C (.var i) e h = (match look e i with
    | some (some w) => .ok w h
    | _ => .bad) := by rw [← look_eq]; rfl
@[simp] theorem ev_glb (k : Nat) : ev C (.glb k) e h = (match C.glb k with
    | some d => .ok (.dat d) h
    | none => .bad) := (rfl)
@[simp] theorem ev_cst (d : D) : ev C (.cst d) e h = .ok (.dat d) h := (rfl)
@[simp] theorem ev_tup (es : CEs) : ev C (.tup es) e h = (evs C es e h).bind fun l h => if l.length ≤ 1000 then mkTup l h else .bad := (rfl)
@[simp] theorem ev_lst (m : Bool) (es : CEs) : ev C (.lst m es) e h = (evs C es e h).bind fun l h => if l.length ≤ 1000 then mkLst m l h else .bad := (rfl)
@[simp] theorem ev_bin (o : BOp) (m : Bool) (a b : CE) : ev C (.bin o m a b) e h = (ev C a e h).bind fun x h => (ev C b e h).bind fun y h => binop o m x y h := (rfl)
@[simp] theorem ev_neg (a : CE) : ev C (.neg a) e h = (ev C a e h).bind fun x h => (match x with
    | .dat (.int i) => .ok (.dat (.int (-i))) h
    | _ => .bad) := (rfl)
@[simp] theorem ev_not (a : CE) : ev C (.not a) e h = (ev C a e h).bind fun x h => (match truth x with
    | some b => .ok (.dat (.bool (!b))) h
    | none => .bad) := (rfl)
@[simp] theorem ev_bop (con : Bool) (es : CEs) : ev C (.bop con es) e h = ofB (evb C con es e h) := (rfl)
@[simp] theorem ev_cmp (o : COp) (a b : CE) : ev C (.cmp o a b) e h = (ev C a e h).bind fun x h => (ev C b e h).bind fun y h => rb h (cmpW o x y h) := (rfl)
@[simp] theorem ev_chn (o p : COp) (a b c : CE) : ev C (.chn o p a b c) e h = (ev C a e h).bind fun x h => (ev C b e h).bind fun y h => (match cmpW o x y h with
    | some true => (ev C c e h).bind fun z h => rb h (cmpW p y z h)
    | some false => .ok (.dat (.bool false)) h
    | none => .bad) := (rfl)
@[simp] theorem ev_ite (c a b : CE) : ev C (.ite c a b) e h = (toB (ev C c e h)).bind fun k h => if k = true then ev C a e h else ev C b e h := (rfl)
@[simp] theorem ev_idx (a i : CE) : ev C (.idx a i) e h = (ev C a e h).bind fun x h => (ev C i e h).bind fun y h => index x y h := (rfl)
@[simp] theorem ev_slc (a : CE) (lo hi : CO) : ev C (.slc a lo hi) e h = (ev C a e h).bind fun x h => (evo C lo e h).bind fun l h => (evo C hi e h).bind fun u h => slice x l u h := (rfl)
@[simp] theorem ev_call (f : Nat) (es : CEs) : ev C (.call f es) e h = (evs C es e h).bind fun ws h => C.call f ws h := (rfl)
@[simp] theorem ev_fld (a : CE) (f : Str) : ev C (.fld a f) e h = (ev C a e h).bind fun x h => fldW f x h := (rfl)
@[simp] theorem ev_meth (a : CE) (c : Nat) (m : Str) (f : Nat) (es : CEs) : ev C (.meth a c m f es) e h = (ev C a e h).bind fun x h => if insB c m x h = true then (evs C es e h).bind fun ws h => C.call f (x :: ws) h else .bad := (rfl)
@[simp] theorem ev_mk (c f : Nat) (es : CEs) : ev C (.mk c f es) e h = (evs C es e h).bind fun ws h => (C.call f (.ref h.length :: ws) (h ++ [.ins c []])).bind fun v h2 => mkR h.length v h2 := (rfl)
@[simp] theorem mkR_none (n : Nat) : mkR n (.dat .none) h = .ok (.ref n) h := (rfl)
@[simp] theorem ex_setf (o : CE) (f : Str) (a : CE) : ex C (.setf o f a) e h = (ev C a e h).then e fun w h => (ev C o e h).then e fun x h => (match setFld f x w h with
    | some h => .nxt e h
    | none => .bad) := (rfl)
@[simp] theorem ev_isi (a : CE) (t : Ty) : ev C (.isi a t) e h = (ev C a e h).bind fun x h => rb h (tyIs t x) := (rfl)
@[simp] theorem ev_lset (a : CE) : ev C (.lset a) e h = (ev C a e h).bind fun x h => lenSet x h := (rfl)
@[simp] theorem ev_sset (m : Bool) (a : CE) : ev C (.sset m a) e h = (ev C a e h).bind fun x h => sortSet m x h := (rfl)
@[simp] theorem bi_sortedL (m : Bool) (l : List D) : builtin .sorted m [.dat (.list l)] h = if sortB l = true then mkLst m ((sortD l).map .dat) h else .bad := (rfl)
@[simp] theorem bi_sortedT (m : Bool) (l : List D) : builtin .sorted m [.dat (.tuple l)] h = if sortB l = true then mkLst m ((sortD l).map .dat) h else .bad := (rfl)
@[simp] theorem ev_rev (a : CE) : ev C (.rev a) e h = (ev C a e h).bind fun x h => revW x h := (rfl)
@[simp] theorem revW_tup (l : List D) : revW (.dat (.tuple l)) h = .ok (.dat (.tuple l.reverse)) h := (rfl)
@[simp] theorem revW_lst (l : List D) : revW (.dat (.list l)) h = .ok (.dat (.list l.reverse)) h := (rfl)
@[simp] theorem ev_bmt (f : Mb) (m : Bool) (a : CE) (es : CEs) : ev C (.bmt f m a es) e h = (ev C a e h).bind fun x h => if bmIs f x h = true then (evs C es e h).bind fun ws h => bmeth f x ws h else .bad := (rfl)
@[simp] theorem ev_dct0 (m : Bool) : ev C (.dct m .nil .nil) e h = .ok (.dat (.dict [])) h := (rfl)
@[simp] theorem ev_blt (f : Fb) (m : Bool) (es : CEs) : ev C (.blt f m es) e h = (evs C es e h).bind fun ws h => builtin f m ws h := (rfl)
@[simp] theorem ev_comp (m : Bool) (own : List (Str × Nat)) (tg : CT) (it : CI) (ifs : CEs) (elt : CE) : ev C (.comp m own tg it ifs elt) e h = (evi C it e h).bind fun l h =>
      (compI l (fun w h => match bindT tg w (wipeS e own) with
        | some e2 => noexc ((evb C true ifs e2 h).bind fun k h => if k = true then (ev C elt e2 h).bind fun v h => .ok (some v) h else .ok none h)
        | none => .bad) h).bind fun r h => mkLst m r h := by rw [wipeS_eq]; rfl
@[simp] theorem evb_nil (con : Bool) : evb C con .nil e h = .ok con h := (rfl)
@[simp] theorem evb_cons (con : Bool) (a : CE) (es : CEs) : evb C con (.cons a es) e h = (toB (ev C a e h)).bind fun b h => if b = con then evb C con es e h else .ok (!con) h := (rfl)
@[simp] theorem evs_nil : evs C .nil e h = .ok [] h := (rfl)
@[simp] theorem evs_cons (a : CE) (es : CEs) : evs C (.cons a es) e h = (ev C a e h).bind fun x h => (evs C es e h).bind fun xs h => .ok (x :: xs) h := (rfl)
@[simp] theorem evo_non : evo C .non e h = .ok none h := (rfl)
@[simp] theorem evo_som (a : CE) : evo C (.som a) e h = (ev C a e h).bind fun x h => (match x with
    | .dat (.int i) => .ok (some i) h
    | _ => .bad) := (rfl)
@[simp] theorem evi_ex (a : CE) : evi C (.ex a) e h = (ev C a e h).bind fun x h => optR h (itemsOf x h) := (rfl)
@[simp] theorem evi_rng1 (b : CE) : evi C (.rng1 b) e h = (ev C b e h).bind fun x h => (match x with
    | .dat (.int j) => if okR j then .ok (.ws (rngL 0 j)) h else .bad
    | _ => .bad) := (rfl)
@[simp] theorem evi_zip2 (a b : CE) : evi C (.zip2 a b) e h = (ev C a e h).bind fun x h => (ev C b e h).bind fun y h => optR h (zipI x y) := rfl
@[simp] theorem evi_rng2 (a b : CE) : evi C (.rng2 a b) e h = (ev C a e h).bind fun x h => (ev C b e h).bind fun y h => (match x, y with
    | .dat (.int i), .dat (.int j) => if okR i && okR j then .ok (.ws (rngL i j)) h else .bad
    | _, _ => .bad) := (rfl)
@[simp] theorem exs_nil : exs C .nil e h = .nxt e h := (rfl)
@[simp] theorem exs_cons (s : CS) (ss : CSs) : exs C (.cons s ss) e h = (ex C s e h).bind fun e h => exs C ss e h := (rfl)
@[simp] theorem ex_pass : ex C .pass e h = .nxt e h := (rfl)
@[simp] theorem ex_expr (a : CE) : ex C (.expr a) e h = (ev C a e h).then e fun _ h => .nxt e h := (rfl)
@[simp] theorem ex_ret (a : CE) : ex C (.ret a) e h = (ev C a e h).then e fun w h => .ret w h := (rfl)
@[simp] theorem ex_retN : ex C .retN e h = .ret (.dat .none) h := (rfl)
@[simp] theorem ex_asg (g : CG) (a : CE) : ex C (.asg g a) e h = (ev C a e h).then e fun w h => stor C g w e h := (rfl)
@[simp] theorem ex_par (i j : Nat) (a b : CE) : ex C (.par i j a b) e h = (ev C a e h).then e fun v h => (ev C b e h).then e fun w h => .nxt ((e.set i (some v)).set j (some w)) h := (rfl)
@[simp] theorem ex_par3 (i j l : Nat) (a b c : CE) : ex C (.par3 i j l a b c) e h = (ev C a e h).then e fun v h => (ev C b e h).then e fun w h => (ev C c e h).then e fun u h => .nxt (((e.set i (some v)).set j (some w)).set l (some u)) h := (rfl)
@[simp] theorem ev_isis (a : CE) (cs : List Nat) : ev C (.isis a cs) e h = (ev C a e h).bind fun x h => rb h (tysIs cs x) := (rfl)
@[simp] theorem ev_dsp (t : Bool) (es : CEs) : ev C (.dsp t es) e h = (evs C es e h).bind fun ws h => dspW t ws h := (rfl)
@[simp] theorem ev_dtab (op k : Nat) (a : CE) : ev C (.dtab op k a) e h = (ev C a e h).bind fun x h => tabW op (C.glb k) x h := (rfl)
@[simp] theorem tabW_in (l : List (D × D)) (z : Str) : tabW 0 (some (.dict l)) (.dat (.str z)) h = .ok (.dat (.bool (tabD l z).isSome)) h := (rfl)
@[simp] theorem tabW_nin (l : List (D × D)) (z : Str) : tabW 1 (some (.dict l)) (.dat (.str z)) h = .ok (.dat (.bool (!(tabD l z).isSome))) h := (rfl)
@[simp] theorem tabW_ix (l : List (D × D)) (z : Str) : tabW 2 (some (.dict l)) (.dat (.str z)) h = (match tabD l z with
    | some d => .ok (.dat d) h
    | none => .bad) := (rfl)
@[simp] theorem tabW_get (l : List (D × D)) (z : Str) : tabW 3 (some (.dict l)) (.dat (.str z)) h = .ok (.dat ((tabD l z).getD .none)) h := (rfl)
@[simp] theorem tysIs_exc (cs : List Nat) (c : Nat) : tysIs cs (.exc c) = some (cs.any fun d => subX c d) := (rfl)
@[simp] theorem ev_dct1 (m : Bool) (a b : CE) : ev C (.dct m (.cons a .nil) (.cons b .nil)) e h = (ev C a e h).bind fun x h => (ev C b e h).bind fun y h => dct1 x y h := (rfl)
@[simp] theorem dct1_int (i : Int) (d : D) : dct1 (.dat (.int i)) (.dat d) h = .ok (.dat (.dict [(.int i, d)])) h := (rfl)
@[simp] theorem dct1_str (s : Str) (d : D) : dct1 (.dat (.str s)) (.dat d) h = .ok (.dat (.dict [(.str s, d)])) h := (rfl)
@[simp] theorem ex_setc (i : Nat) (a : CE) : ex C (.setc i a) e h = (ev C a e h).then e fun w h => .nxt (e.set i (some w)) h := (rfl)
@[simp] theorem ex_ifs (c : CE) (a b : CSs) : ex C (.ifs c a b) e h = (toB (ev C c e h)).then e fun k h => if k = true then exs C a e h else exs C b e h := (rfl)
@[simp] theorem ex_whil (c : CE) (b : CSs) : ex C (.whil c b) e h = C.wh (fun e h => toB (ev C c e h)) (fun e h => exs C b e h) e h := (rfl)
@[simp] theorem ex_for (tg : CT) (it : CI) (b : CSs) : ex C (.for_ tg it b) e h = (evi C it e h).then e fun l h => forI l (fun w e h => match bindT tg w e with
      | some e => exs C b e h
      | none => .bad) e h := (rfl)
@[simp] theorem ex_rais (c : Nat) : ex C (.rais c) e h = .exc c e h := (rfl)
@[simp] theorem ex_tryas (c i : Nat) (b s : CSs) : ex C (.tryas c i b s) e h = (exs C b e h).catch fun k e h => if subX k c = true then (exs C s (e.set i (some (.exc k))) h).suite i else .exc k e h := (rfl)
@[simp] theorem ex_try (c : Nat) (b s : CSs) : ex C (.try_ c b s) e h = (exs C b e h).catch fun k e h => if subX k c = true then (exs C s e h).suite0 else .exc k e h := (rfl)
@[simp] theorem stor_nam (i : Nat) (w : W) : stor C (.nam i) w e h = .nxt (e.set i (some w)) h := (rfl)
@[simp] theorem stor_sub (o i : CE) (w : W) : stor C (.sub o i) w e h = (ev C o e h).then e fun x h => (ev C i e h).then e fun y h => (match setAt x y w h with
    | some h => .nxt e h
    | none => .bad) := (rfl)
@[simp] theorem stor_tup (l : List Nat) (w : W) : stor C (.tup l) w e h = (match seqOf h w with
    | some ws => (match setAll e l ws with
      | some e => .nxt e h
      | none => .bad)
    | none => .bad) := (rfl)
@[simp] theorem stor_subsub (o i o2 i2 : CE) (a b : D) : stor C (.subsub o i o2 i2) (.dat (.tuple [a, b])) e h = (ev C o e h).then e fun x h => (ev C i e h).then e fun y h => (match setAt x y (.dat a) h with
      | some h => (ev C o2 e h).then e fun x h => (ev C i2 e h).then e fun y h => (match setAt x y (.dat b) h with
        | some h => .nxt e h
        | none => .bad)
      | none => .bad) := (rfl)
@[simp] theorem stor_subnam (o i : CE) (j : Nat) (a b : D) : stor C (.subnam o i j) (.dat (.tuple [a, b])) e h = (ev C o e h).then e fun x h => (ev C i e h).then e fun y h => (match setAt x y (.dat a) h with
      | some h => .nxt (e.set j (some (.dat b))) h
      | none => .bad) := (rfl)
/-! values -/
section
variable {Q : Bool → Hh → Prop} {Q' : W → Hh → Prop} {E : Nat → Hh → Prop}
@[simp] theorem okW_toB {r : Res W} : okW (toB r) Q E = okW r (fun w h => ∃ b, w = .dat (.bool b) ∧ Q b h) E := by
  cases r with
  | ok w h =>
    show okW (optR h (truth w)) Q E = _
    cases w with
    | dat d =>
      cases d with
      | bool b => cases b <;> simp [truth, optR]
      | _ => simp [truth, optR]
    | _ => simp [truth, optR]
  | _ => rfl
@[simp] theorem okW_ofB {r : Res Bool} : okW (ofB r) Q' E = okW r (fun b h => Q' (.dat (.bool b)) h) E := by cases r <;> rfl
@[simp] theorem okW_noexc {α : Type} {r : Res α} {Q : α → Hh → Prop} : okW (noexc r) Q E = okW r Q noE := by cases r <;> rfl
@[simp] theorem rb_some (b : Bool) : rb h (some b) = .ok (.dat (.bool b)) h := (rfl)
@[simp] theorem rb_none : rb h none = .bad := (rfl)
@[simp] theorem optR_some {α : Type} (a : α) : optR h (some a) = .ok a h := (rfl)
@[simp] theorem optR_none {α : Type} : optR h (none : Option α) = .bad := (rfl)
@[simp] theorem truth_bool (b : Bool) : truth (.dat (.bool b)) = some b := (rfl)
@[simp] theorem dsOf_nil : dsOf [] = some [] := (rfl)
@[simp] theorem dsOf_cons (d : D) (ws : List W) : dsOf (.dat d :: ws) = (dsOf ws).map (d :: ·) := by
  simp only [dsOf]
  cases dsOf ws <;> rfl
@[simp] theorem dsOf_map (l : List D) : dsOf (l.map .dat) = some l := by
  induction l with
  | nil => rfl
  | cons d l ih => rw [List.map_cons, dsOf_cons, ih]; rfl
theorem mkLst_dat {l : List W} {ds : List D} (q : dsOf l = some ds) : mkLst false l h = .ok (.dat (.list ds)) h := by
  unfold mkLst
  rw [q]
theorem mkTup_dat {l : List W} {ds : List D} (q : dsOf l = some ds) : mkTup l h = .ok (.dat (.tuple ds)) h := by
  unfold mkTup
  rw [q]
theorem mkLst_map (l : List D) : mkLst false (l.map .dat) h = .ok (.dat (.list l)) h := mkLst_dat (dsOf_map l)
/-- a list of the small heap that bears data -/
abbrev lst (l : List D) : Ob := .lst (l.map .dat)
theorem dsOf_inv : ∀ {l : List W} {ds : List D}, dsOf l = some ds → l = ds.map .dat
  | [], ds, e => by cases e; rfl
  | w :: ws, ds, e => by
    cases w with
    | dat d =>
      rw [dsOf_cons] at e
      obtain ⟨ds', e', rfl⟩ := Option.map_eq_some_iff.mp e
      rw [dsOf_inv e']
      rfl
    | _ => simp [dsOf] at e
@[simp] theorem mkLst_f (l : List W) : mkLst false l h = (match dsOf l with
    | some ds => .ok (.dat (.list ds)) h
    | none => .ok (.ref h.length) (h ++ [.lst l])) := by
  unfold mkLst
  cases dsOf l <;> rfl
@[simp] theorem mkLst_t (l : List W) : mkLst true l h = .ok (.ref h.length) (h ++ [match dsOf l with
    | some ds => lst ds
    | none => .lst l]) := by
  show Res.ok (W.ref h.length) (h ++ [.lst l]) = _
  cases e : dsOf l with
  | none => rfl
  | some ds => rw [dsOf_inv e]
@[simp] theorem mkTup_d (l : List W) : mkTup l h = (match dsOf l with
    | some ds => .ok (.dat (.tuple ds)) h
    | none => .ok (.ref h.length) (h ++ [.tpl l])) := by
  unfold mkTup
  cases dsOf l <;> rfl
@[simp] theorem bin_add (m : Bool) (i j : Int) : binop .add m (.dat (.int i)) (.dat (.int j)) h = .ok (.dat (.int (i + j))) h := (rfl)
@[simp] theorem bin_sub (m : Bool) (i j : Int) : binop .sub m (.dat (.int i)) (.dat (.int j)) h = .ok (.dat (.int (i - j))) h := (rfl)
@[simp] theorem bin_mul (m : Bool) (i j : Int) : binop .mul m (.dat (.int i)) (.dat (.int j)) h = if bigMul i j = true then .ok (.dat (.int (i * j))) h else .bad := (rfl)
@[simp] theorem bin_mulL0 (x : List D) : binop .mul false (.dat (.list x)) (.dat (.int 0)) h = .ok (.dat (.list [])) h := by
  show (if (decide ((0 : Int) ≤ 0) && (decide ((0 : Int) ≤ 1000000) && decide ((0 : Int).toNat * x.length ≤ sizeL))) = true then mkLst false (List.replicate (0 : Int).toNat (x.map W.dat)).flatten h else .bad) = _
  rw [if_pos (by simp)]
  rfl
theorem bin_mulL1 (x : List D) (z : x.length ≤ sizeL) : binop .mul false (.dat (.list x)) (.dat (.int 1)) h = mkLst false (x.map W.dat) h := by
  show (if (decide ((0 : Int) ≤ 1) && (decide ((1 : Int) ≤ 1000000) && decide ((1 : Int).toNat * x.length ≤ sizeL))) = true then mkLst false (List.replicate (1 : Int).toNat (x.map W.dat)).flatten h else .bad) = _
  rw [if_pos (by simp [z])]
  rw [show (List.replicate (1 : Int).toNat (x.map W.dat)).flatten = x.map W.dat by simp]
@[simp] theorem bin_fdiv (m : Bool) (i j : Int) : binop .fdiv m (.dat (.int i)) (.dat (.int j)) h = if okDiv j = true then .ok (.dat (.int (i / j))) h else .bad := (rfl)
@[simp] theorem bin_mod (m : Bool) (i j : Int) : binop .mod m (.dat (.int i)) (.dat (.int j)) h = if 0 < j then .ok (.dat (.int (i % j))) h else .bad := by
  show (if decide (0 < j) = true then _ else _) = _
  simp
@[simp] theorem bin_pow (m : Bool) (i j : Int) : binop .pow m (.dat (.int i)) (.dat (.int j)) h = if okPow i j = true then .ok (.dat (.int (i ^ j.toNat))) h else .bad := (rfl)
@[simp] theorem bin_addL (x y : List D) : binop .add false (.dat (.list x)) (.dat (.list y)) h = if x.length + y.length ≤ sizeL then .ok (.dat (.list (x ++ y))) h else .bad := by
  show (if (x.map W.dat).length + (y.map W.dat).length ≤ sizeL then mkLst false (x.map W.dat ++ y.map W.dat) h else .bad) = _
  rw [List.length_map, List.length_map, ← List.map_append, mkLst_map]
@[simp] theorem bin_addT (m : Bool) (x y : List D) : binop .add m (.dat (.tuple x)) (.dat (.tuple y)) h = if x.length + y.length ≤ sizeL then .ok (.dat (.tuple (x ++ y))) h else .bad := (rfl)
@[simp] theorem bin_addS (m : Bool) (x y : Str) : binop .add m (.dat (.str x)) (.dat (.str y)) h = if x.length + y.length ≤ sizeL then .ok (.dat (.str (x ++ y))) h else .bad := (rfl)
@[simp] theorem cmp_lt (i j : Int) : cmpW .lt (.dat (.int i)) (.dat (.int j)) h = some (decide (i < j)) := (rfl)
@[simp] theorem cmp_le (i j : Int) : cmpW .le (.dat (.int i)) (.dat (.int j)) h = some (decide (i ≤ j)) := (rfl)
@[simp] theorem cmp_gt (i j : Int) : cmpW .gt (.dat (.int i)) (.dat (.int j)) h = some (decide (j < i)) := (rfl)
@[simp] theorem cmp_ge (i j : Int) : cmpW .ge (.dat (.int i)) (.dat (.int j)) h = some (decide (j ≤ i)) := (rfl)
@[simp] theorem cmp_eq (i j : Int) : cmpW .eq (.dat (.int i)) (.dat (.int j)) h = some (decide (i = j)) := (rfl)
@[simp] theorem cmp_ne (i j : Int) : cmpW .ne (.dat (.int i)) (.dat (.int j)) h = some (!decide (i = j)) := (rfl)
@[simp] theorem cmp_eqS (i j : Str) : cmpW .eq (.dat (.str i)) (.dat (.str j)) h = some (decide (i = j)) := (rfl)
@[simp] theorem cmp_neS (i j : Str) : cmpW .ne (.dat (.str i)) (.dat (.str j)) h = some (!decide (i = j)) := (rfl)
@[simp] theorem cmp_eqB (i j : Bool) : cmpW .eq (.dat (.bool i)) (.dat (.bool j)) h = some (decide (i = j)) := (rfl)
@[simp] theorem cmp_isT (b k : Bool) : cmpW .is (.dat (.bool b)) (.dat (.bool k)) h = some (decide (b = k)) := (rfl)
@[simp] theorem cmp_isntT (b k : Bool) : cmpW .isnt (.dat (.bool b)) (.dat (.bool k)) h = some (!decide (b = k)) := (rfl)
@[simp] theorem cmp_isnX (c : Nat) : cmpW .is (.exc c) (.dat .none) h = some false := (rfl)
@[simp] theorem cmp_isntnX (c : Nat) : cmpW .isnt (.exc c) (.dat .none) h = some true := (rfl)
@[simp] theorem cmp_isnN : cmpW .is (.dat .none) (.dat .none) h = some true := (rfl)
@[simp] theorem cmp_isntnN : cmpW .isnt (.dat .none) (.dat .none) h = some false := (rfl)
@[simp] theorem cmp_in (a b : W) : cmpW .isin a b h = inW h a b := (rfl)
@[simp] theorem cmp_notin (a b : W) : cmpW .notin a b h = (inW h a b).map not := (rfl)
@[simp] theorem inW_str (x y : Str) : inW h (.dat (.str x)) (.dat (.str y)) = some (inStr x y) := (rfl)
@[simp] theorem inW_tup (d : D) (l : List D) : inW h (.dat d) (.dat (.tuple l)) = inSeq d l := by cases d <;> rfl
@[simp] theorem inW_lst (d : D) (l : List D) : inW h (.dat d) (.dat (.list l)) = inSeq d l := by cases d <;> rfl
@[simp] theorem tyIs_exc (c d : Nat) : tyIs (.exc d) (.exc c) = some (subX c d) := (rfl)
@[simp] theorem tyIs_verr (c : Nat) : tyIs .verr (.exc c) = some true := (rfl)
@[simp] theorem bi_abs (m : Bool) (i : Int) : builtin .abs m [.dat (.int i)] h = .ok (.dat (.int i.natAbs)) h := by
  show Res.ok (W.dat (.int (if i < 0 then -i else i))) h = _
  congr 3
  omega
@[simp] theorem bi_intB (m : Bool) (b : Bool) : builtin .int m [.dat (.bool b)] h = .ok (.dat (.int (if b then 1 else 0))) h := (rfl)
@[simp] theorem bi_intI (m : Bool) (i : Int) : builtin .int m [.dat (.int i)] h = .ok (.dat (.int i)) h := (rfl)
@[simp] theorem bi_min (m : Bool) (i j : Int) : builtin .min2 m [.dat (.int i), .dat (.int j)] h = .ok (.dat (.int (if j < i then j else i))) h := (rfl)
@[simp] theorem bi_max (m : Bool) (i j : Int) : builtin .max2 m [.dat (.int i), .dat (.int j)] h = .ok (.dat (.int (if j > i then j else i))) h := (rfl)
@[simp] theorem bi_divmod (m : Bool) (i j : Int) : builtin .divmod m [.dat (.int i), .dat (.int j)] h = if okDiv j = true then .ok (.dat (.tuple [.int (i / j), .int (i % j)])) h else .bad := (rfl)
@[simp] theorem bi_str (m : Bool) (i : Int) : builtin .str m [.dat (.int i)] h = if i.natAbs.log2 < 1920 then .ok (.dat (.str (toString i))) h else .bad := by
  show (if decide (i.natAbs.log2 < 1920) = true then _ else _) = _
  simp
@[simp] theorem bi_listL (l : List D) : builtin .list false [.dat (.list l)] h = .ok (.dat (.list l)) h := by
  show mkLst false (l.map W.dat) h = _
  rw [mkLst_map]
@[simp] theorem bi_listT (l : List D) : builtin .list false [.dat (.tuple l)] h = .ok (.dat (.list l)) h := by
  show mkLst false (l.map W.dat) h = _
  rw [mkLst_map]
@[simp] theorem bi_tupT (m : Bool) (l : List D) : builtin .tuple m [.dat (.tuple l)] h = .ok (.dat (.tuple l)) h := (rfl)
theorem mkTup_map (l : List D) : mkTup (l.map .dat) h = .ok (.dat (.tuple l)) h := mkTup_dat (dsOf_map l)
@[simp] theorem bi_tupL (m : Bool) (l : List D) : builtin .tuple m [.dat (.list l)] h = .ok (.dat (.tuple l)) h := by
  show mkTup (l.map W.dat) h = _
  rw [mkTup_map]
@[simp] theorem bi_lenS (m : Bool) (x : Str) : builtin .len m [.dat (.str x)] h = if x.length ≤ sizeL then .ok (.dat (.int x.length)) h else .bad := by
  show ri h (((if x.length ≤ sizeL then some x.length else none)).map Int.ofNat) = _
  by_cases q : x.length ≤ sizeL
  · rw [if_pos q, if_pos q]; rfl
  · rw [if_neg q, if_neg q]; rfl
@[simp] theorem bm_upper (x : Str) : bmeth .upper (.dat (.str x)) [] h = if x.length ≤ 5592405 then .ok (.dat (.str (Txt.upper x))) h else .bad := by
  show (if decide (x.length ≤ 5592405) = true then _ else _) = _
  simp
@[simp] theorem bm_isS1 (x : Str) : bmIs .upper (.dat (.str x)) h = true := (rfl)
@[simp] theorem bm_isS2 (x : Str) : bmIs .join (.dat (.str x)) h = true := (rfl)
@[simp] theorem bm_joinL (x : Str) (l : List D) : bmeth .join (.dat (.str x)) [.dat (.list l)] h = joinW x (l.map .dat) h := (rfl)
@[simp] theorem bm_joinT (x : Str) (l : List D) : bmeth .join (.dat (.str x)) [.dat (.tuple l)] h = joinW x (l.map .dat) h := (rfl)
@[simp] theorem bi_lenL (m : Bool) (l : List D) : builtin .len m [.dat (.list l)] h = .ok (.dat (.int l.length)) h := by
  show Res.ok (W.dat (.int (Int.ofNat (l.map W.dat).length))) h = _
  rw [List.length_map]; rfl
@[simp] theorem bi_lenT (m : Bool) (l : List D) : builtin .len m [.dat (.tuple l)] h = .ok (.dat (.int l.length)) h := by
  show Res.ok (W.dat (.int (Int.ofNat (l.map W.dat).length))) h = _
  rw [List.length_map]; rfl
@[simp] theorem bi_lenX (m : Bool) (l : List Int) : builtin .len m [.scr l] h = .ok (.dat (.int l.length)) h := by
  show Res.ok (W.dat (.int (Int.ofNat (l.map fun i => W.dat (.int i)).length))) h = _
  rw [List.length_map]; rfl
end
end
/-! ### defs -/
section
variable {G : Nat → Option D} {T : List Df}
theorem run_at {n f : Nat} {d : Df} {ws : List W} {h : Hh} (e : T[f]? = some d) (l : ws.length = d.pars) : run G T (n + 1) f ws h = finish d.keep h.length (exs ⟨G, run G T n, whM⟩ d.body (start d ws) h) := by
  show (match T[f]? with
    | some d => if ws.length = d.pars then finish d.keep h.length (exs ⟨G, runBy whM G T n, whM⟩ d.body (start d ws) h) else .bad
    | none => .bad) = _
  rw [e]
  show (if _ then _ else _) = _
  rw [if_pos l]
  rfl
/-- the heap's first n objects name none beyond -/
def Cl (n : Nat) (h : Hh) : Prop := closedB (h.take n) = true
theorem okW_keep {n : Nat} {r : SR} {Q : W → Hh → Prop} {E : Nat → Hh → Prop} (o : okS r (fun _ h => Q (.dat .none) h) Q (fun c _ h => E c h)) : okW (finish true n r) Q E := by
  cases r <;> exact o
/-- each object of the heap names but older ones -/
def flatG : Nat → Hh → Bool
  | _, [] => true
  | n, o :: h => obB n o && flatG (n + 1) h
def Flat (h : Hh) : Prop := flatG 0 h = true
theorem refB_mono {m n : Nat} (l : m ≤ n) {w : W} (q : refB m w = true) : refB n w = true := by
  cases w with
  | ref k => exact decide_eq_true (Nat.lt_of_lt_of_le (of_decide_eq_true q) l)
  | _ => rfl
theorem obB_mono {m n : Nat} (l : m ≤ n) {o : Ob} (q : obB m o = true) : obB n o = true := by
  cases o with
  | lst x => exact List.all_eq_true.mpr fun y hy => refB_mono l (List.all_eq_true.mp q y hy)
  | dct x => exact List.all_eq_true.mpr fun y hy => refB_mono l (List.all_eq_true.mp q y hy)
  | lck x => exact List.all_eq_true.mpr fun y hy => refB_mono l (List.all_eq_true.mp q y hy)
  | ins c x => exact List.all_eq_true.mpr fun y hy => refB_mono l (List.all_eq_true.mp q y hy)
  | tpl x => exact List.all_eq_true.mpr fun y hy => refB_mono l (List.all_eq_true.mp q y hy)
  | gone => rfl
theorem flatG_iff : ∀ (h : Hh) (n : Nat), flatG n h = true ↔ ∀ k o, h[k]? = some o → obB (n + k) o = true
  | [], n => ⟨fun _ k o z => by simp at z, fun _ => rfl⟩
  | o :: h, n => by
    rw [show flatG n (o :: h) = (obB n o && flatG (n + 1) h) from rfl, Bool.and_eq_true, flatG_iff h (n + 1)]
    constructor
    · rintro ⟨a, b⟩ k o2 z
      cases k with
      | zero => simp at z; subst z; exact a
      | succ k =>
        have q := b k o2 (by simpa using z)
        rwa [show n + 1 + k = n + (k + 1) by omega] at q
    · intro a
      refine ⟨a 0 o rfl, fun k o2 z => ?_⟩
      have q := a (k + 1) o2 (by simpa using z)
      rwa [show n + (k + 1) = n + 1 + k by omega] at q
theorem flat_iff {h : Hh} : Flat h ↔ ∀ k o, h[k]? = some o → obB k o = true := by
  unfold Flat
  rw [flatG_iff]
  simp
theorem Flat.cl {h : Hh} (f : Flat h) (n : Nat) : Cl n h := by
  unfold Cl closedB
  refine List.all_eq_true.mpr fun o ho => ?_
  obtain ⟨k, hk⟩ := List.getElem?_of_mem ho
  have lk := (List.getElem?_eq_some_iff.mp hk).1
  rw [List.length_take] at lk
  rw [List.getElem?_take_of_lt (by omega)] at hk
  exact obB_mono (by rw [List.length_take]; omega) (flat_iff.mp f k o hk)
theorem Flat.take {h : Hh} (f : Flat h) (n : Nat) : Flat (h.take n) := flat_iff.mpr fun k o z => by
  have lk := (List.getElem?_eq_some_iff.mp z).1
  rw [List.length_take] at lk
  rw [List.getElem?_take_of_lt (by omega)] at z
  exact flat_iff.mp f k o z
theorem Flat.setR {h : Hh} (f : Flat h) (n : Nat) {o : Ob} (q : obB n o = true) : Flat (h.set n o) := flat_iff.mpr fun k o2 z => by
  rw [List.getElem?_set] at z
  split at z
  · rename_i e
    subst e
    split at z
    · cases z; exact q
    · cases z
  · exact flat_iff.mp f k o2 z
theorem Flat.set {h : Hh} (f : Flat h) (n : Nat) {o : Ob} (q : obB 0 o = true) : Flat (h.set n o) := f.setR n (obB_mono (Nat.zero_le _) q)
theorem Flat.pushR {h : Hh} (f : Flat h) {o : Ob} (q : obB h.length o = true) : Flat (h ++ [o]) := flat_iff.mpr fun k o2 z => by
  by_cases lk : k < h.length
  · rw [List.getElem?_append_left lk] at z
    exact flat_iff.mp f k o2 z
  · rw [List.getElem?_append_right (by omega)] at z
    by_cases e : k = h.length
    · subst e
      simp at z
      subst z
      exact q
    · rw [List.getElem?_eq_none (by simp; omega)] at z
      cases z
theorem Flat.push {h : Hh} (f : Flat h) {o : Ob} (q : obB 0 o = true) : Flat (h ++ [o]) := f.pushR (obB_mono (Nat.zero_le _) q)
theorem flat_dat (l : List D) : obB 0 (.lst (l.map .dat)) = true := List.all_eq_true.mpr fun x hx => by
  obtain ⟨d, _, rfl⟩ := List.mem_map.mp hx
  rfl
/-- a list that was made here is handed out as data -/
theorem okW_frz {n : Nat} {r : SR} {Q : W → Hh → Prop} {E : Nat → Hh → Prop} (o : okS r (fun _ _ => False) (fun w h => ∃ k l, w = .ref k ∧ n ≤ k ∧ h[k]? = some (.lst (l.map .dat)) ∧ Cl n h ∧ Q (.dat (.list l)) (h.take n)) (fun c _ h => Cl n h ∧ E c (h.take n))) : okW (finish false n r) Q E := by
  cases r with
  | nxt e h => exact o.elim
  | ret w h =>
    obtain ⟨k, l, rfl, hk, e, a, b⟩ := o
    show okW (match h[k]? with
      | some (.lst l) => (match dsOf l with
        | some ds => if (decide (n ≤ k) && closedB (h.take n)) = true then .ok (.dat (.list ds)) (h.take n) else .bad
        | none => (match frzL h n l with
          | some ds => if (decide (n ≤ k) && closedB (h.take n)) = true then .ok (.dat (.list ds)) (h.take n) else .bad
          | none => .bad))
      | _ => .bad) Q E
    rw [e]
    simp only [dsOf_map]
    rw [if_pos (by rw [decide_eq_true hk, show closedB (h.take n) = true from a]; rfl)]
    exact b
  | exc c e h =>
    obtain ⟨a, b⟩ := o
    show okW (if closedB (h.take n) = true then .exc c (h.take n) else .bad : Res W) Q E
    rw [if_pos (show closedB (h.take n) = true from a)]
    exact b
  | bad => exact o
theorem okW_fin {n : Nat} {r : SR} {Q : W → Hh → Prop} {E : Nat → Hh → Prop} (o : okS r (fun _ h => Cl n h ∧ Q (.dat .none) (h.take n)) (fun w h => ∃ d, w = .dat d ∧ Cl n h ∧ Q (.dat d) (h.take n)) (fun c _ h => Cl n h ∧ E c (h.take n))) : okW (finish false n r) Q E := by
  cases r with
  | nxt e h =>
    obtain ⟨a, b⟩ := o
    show okW (if closedB (h.take n) = true then .ok (.dat .none) (h.take n) else .bad) Q E
    rw [if_pos (show closedB (h.take n) = true from a)]
    exact b
  | ret w h =>
    obtain ⟨d, rfl, a, b⟩ := o
    show okW (if closedB (h.take n) = true then .ok (.dat d) (h.take n) else .bad) Q E
    rw [if_pos (show closedB (h.take n) = true from a)]
    exact b
  | exc c e h =>
    obtain ⟨a, b⟩ := o
    show okW (if closedB (h.take n) = true then .exc c (h.take n) else .bad : Res W) Q E
    rw [if_pos (show closedB (h.take n) = true from a)]
    exact b
  | bad => exact o
end
/-! ### loops -/
section
variable {N : En → Hh → Prop} {R : W → Hh → Prop} {X : Nat → En → Hh → Prop}
/-- a while, by a measure and a law of its turns -/
theorem okS_while {c : En → Hh → Res Bool} {b : En → Hh → SR} (I : Nat → En → Hh → Prop)
    (turn : ∀ n e h, I n e h → okW (c e h) (fun k h => (k = true → okS (b e h) (fun e h => ∃ m, m < n ∧ I m e h) R X) ∧ (k = false → N e h)) (fun c h => X c e h)) :
    ∀ (n : Nat) (e : En) (h : Hh), I n e h → okS (whM c b e h) N R X := by
  intro n
  induction n using Nat.strongRecOn with
  | ind n ih =>
    intro e h i
    rw [whM_eq, okS_then]
    refine (turn n e h i).imp (fun k h q => ?_) fun _ _ x => x
    cases k with
    | false =>
      rw [if_neg Bool.false_ne_true]
      exact q.2 rfl
    | true =>
      rw [if_pos rfl, okS_bind]
      exact (q.1 rfl).imp (fun e h ⟨m, l, i⟩ => ih m l e h i) (fun _ _ x => x) fun _ _ _ x => x
/-- a for, by a law of its turns -/
theorem okS_for {step : W → En → Hh → SR} (I : En → Hh → Prop) : ∀ (ws : List W) (e : En) (h : Hh), I e h → (∀ w ∈ ws, ∀ e h, I e h → okS (step w e h) I R X) → (∀ e h, I e h → N e h) → okS (forL step ws e h) N R X
  | [], e, h, i, _, n => n e h i
  | w :: ws, e, h, i, t, n => by
    show okS ((step w e h).bind fun e h => forL step ws e h) N R X
    rw [okS_bind]
    exact (t w List.mem_cons_self e h i).imp (fun e h i => okS_for I ws e h i (fun w z => t w (List.mem_cons_of_mem _ z)) n) (fun _ _ x => x) fun _ _ _ x => x
end
/-! ### more rules -/
section
variable {h : Hh} {e : En}
@[simp] theorem bind_ok {α β : Type} (a : α) (f : α → Hh → Res β) : (Res.ok a h).bind f = f a h := (rfl)
@[simp] theorem bind_exc {α β : Type} (c : Nat) (f : α → Hh → Res β) : (Res.exc (α := α) c h).bind f = .exc c h := (rfl)
@[simp] theorem then_ok {α : Type} (a : α) (f : α → Hh → SR) : (Res.ok a h).then e f = f a h := (rfl)
@[simp] theorem then_exc {α : Type} (c : Nat) (f : α → Hh → SR) : (Res.exc (α := α) c h).then e f = .exc c e h := (rfl)
@[simp] theorem bindS_nxt (f : En → Hh → SR) : (SR.nxt e h).bind f = f e h := (rfl)
@[simp] theorem bindS_ret (w : W) (f : En → Hh → SR) : (SR.ret w h).bind f = .ret w h := (rfl)
@[simp] theorem bindS_exc (c : Nat) (f : En → Hh → SR) : (SR.exc c e h).bind f = .exc c e h := (rfl)
@[simp] theorem catch_nxt (f : Nat → En → Hh → SR) : (SR.nxt e h).catch f = .nxt e h := (rfl)
@[simp] theorem catch_ret (w : W) (f : Nat → En → Hh → SR) : (SR.ret w h).catch f = .ret w h := (rfl)
@[simp] theorem catch_exc (c : Nat) (f : Nat → En → Hh → SR) : (SR.exc c e h).catch f = f c e h := (rfl)
@[simp] theorem toB_bool (b : Bool) : toB (.ok (.dat (.bool b)) h) = .ok b h := (rfl)
@[simp] theorem ofB_ok (b : Bool) : ofB (.ok b h) = .ok (.dat (.bool b)) h := (rfl)
@[simp] theorem isI_int (i : Int) : tyIs .int (.dat (.int i)) = some true := (rfl)
@[simp] theorem isI_bool (i : Int) : tyIs .bool (.dat (.int i)) = some false := (rfl)
@[simp] theorem isB_bool (i : Bool) : tyIs .bool (.dat (.bool i)) = some true := (rfl)
@[simp] theorem isB_int (i : Bool) : tyIs .int (.dat (.bool i)) = some true := (rfl)
@[simp] theorem isT_tuple (l : List D) : tyIs .tuple (.dat (.tuple l)) = some true := (rfl)
@[simp] theorem fin_keep (n : Nat) (w : W) : finish true n (.ret w h) = .ok w h := (rfl)
/-! subscripts -/
theorem ixM_nat (n i : Nat) (q : i < n) : ixM n (i : Int) = some i := by
  unfold ixM
  rw [if_pos (by omega), if_pos (by omega)]
  simp
theorem atI_nat {α : Type} (l : List α) (i : Nat) : atI l (i : Int) = l[i]? := by
  unfold atI
  by_cases q : i < l.length
  · rw [ixM_nat _ _ q]; rfl
  · rw [List.getElem?_eq_none (by omega)]
    unfold ixM
    rw [if_pos (by omega), if_neg (by omega)]
    rfl
@[simp] theorem atI_0 {α : Type} (a : α) (l : List α) : atI (a :: l) 0 = some a := atI_nat (a :: l) 0
@[simp] theorem atI_1 {α : Type} (a b : α) (l : List α) : atI (a :: b :: l) 1 = some b := atI_nat (a :: b :: l) 1
@[simp] theorem atI_2 {α : Type} (a b c : α) (l : List α) : atI (a :: b :: c :: l) 2 = some c := atI_nat (a :: b :: c :: l) 2
@[simp] theorem atI_3 {α : Type} (a b c d : α) (l : List α) : atI (a :: b :: c :: d :: l) 3 = some d := atI_nat (a :: b :: c :: d :: l) 3
@[simp] theorem atI_4 {α : Type} (a b c d f : α) (l : List α) : atI (a :: b :: c :: d :: f :: l) 4 = some f := atI_nat (a :: b :: c :: d :: f :: l) 4
@[simp] theorem atI_5 {α : Type} (a b c d f g : α) (l : List α) : atI (a :: b :: c :: d :: f :: g :: l) 5 = some g := atI_nat (a :: b :: c :: d :: f :: g :: l) 5
@[simp] theorem atI_6 {α : Type} (a b c d f g k : α) (l : List α) : atI (a :: b :: c :: d :: f :: g :: k :: l) 6 = some k := atI_nat (a :: b :: c :: d :: f :: g :: k :: l) 6
theorem atI_map {α β : Type} (f : α → β) (l : List α) (i : Int) : atI (l.map f) i = (atI l i).map f := by
  unfold atI
  rw [List.length_map]
  cases ixM l.length i with
  | none => rfl
  | some j => exact List.getElem?_map ..
@[simp] theorem index_tup (l : List D) (i : Int) : index (.dat (.tuple l)) (.dat (.int i)) h = optR h ((atI l i).map .dat) := by
  show optR h (atI (l.map W.dat) i) = _
  rw [atI_map]
@[simp] theorem index_lst (l : List D) (i : Int) : index (.dat (.list l)) (.dat (.int i)) h = optR h ((atI l i).map .dat) := by
  show optR h (atI (l.map W.dat) i) = _
  rw [atI_map]
@[simp] theorem index_scr (l : List Int) (i : Int) : index (.scr l) (.dat (.int i)) h = optR h ((atI l i).map fun i => .dat (.int i)) := by
  show optR h (atI (l.map fun i => W.dat (.int i)) i) = _
  rw [atI_map]
theorem index_ref {p : Nat} {l : List W} (q : h[p]? = some (.lst l)) (i : Int) : index (.ref p) (.dat (.int i)) h = optR h (atI l i) := by
  unfold index seqOf
  simp only [q]
theorem setAt_ref {p : Nat} {l : List W} (q : h[p]? = some (.lst l)) (i : Nat) (v : W) (g : i < l.length) : setAt (.ref p) (.dat (.int i)) v h = some (h.set p (.lst (l.set i v))) := by
  unfold setAt
  simp only [q]
  rw [if_pos (by omega)]
  simp
end
theorem setAt_ref0 {h : Hh} {p : Nat} {a : W} {l : List W} (q : h[p]? = some (.lst (a :: l))) (v : W) : setAt (.ref p) (.dat (.int 0)) v h = some (h.set p (.lst (v :: l))) := setAt_ref q 0 v (by simp)
theorem setAt_ref1 {h : Hh} {p : Nat} {a b : W} {l : List W} (q : h[p]? = some (.lst (a :: b :: l))) (v : W) : setAt (.ref p) (.dat (.int 1)) v h = some (h.set p (.lst (a :: v :: l))) := setAt_ref q 1 v (by simp)
theorem setAt_ref2 {h : Hh} {p : Nat} {a b c : W} {l : List W} (q : h[p]? = some (.lst (a :: b :: c :: l))) (v : W) : setAt (.ref p) (.dat (.int 2)) v h = some (h.set p (.lst (a :: b :: v :: l))) := setAt_ref q 2 v (by simp)
theorem get_set {h : Hh} {p : Nat} (hl : p < h.length) (o : Ob) : (h.set p o)[p]? = some o := by
  rw [List.getElem?_set_self hl]
theorem index_set {h : Hh} {p : Nat} (hl : p < h.length) (l : List W) (i : Int) : index (.ref p) (.dat (.int i)) (h.set p (.lst l)) = optR (h.set p (.lst l)) (atI l i) := index_ref (get_set hl _) i
theorem setAt_set0 {h : Hh} {p : Nat} (hl : p < h.length) (a : W) (l : List W) (v : W) : setAt (.ref p) (.dat (.int 0)) v (h.set p (.lst (a :: l))) = some (h.set p (.lst (v :: l))) := by rw [setAt_ref0 (get_set hl _), List.set_set]
theorem setAt_set1 {h : Hh} {p : Nat} (hl : p < h.length) (a b : W) (l : List W) (v : W) : setAt (.ref p) (.dat (.int 1)) v (h.set p (.lst (a :: b :: l))) = some (h.set p (.lst (a :: v :: l))) := by rw [setAt_ref1 (get_set hl _), List.set_set]
theorem setAt_set2 {h : Hh} {p : Nat} (hl : p < h.length) (a b c : W) (l : List W) (v : W) : setAt (.ref p) (.dat (.int 2)) v (h.set p (.lst (a :: b :: c :: l))) = some (h.set p (.lst (a :: b :: v :: l))) := by rw [setAt_ref2 (get_set hl _), List.set_set]
/-! equality of data -/
theorem shp_pair (a b : Int) : shp (.tuple [.int a, .int b]) = true := rfl
@[simp] theorem eqv_int (a b : Int) : PyData.eqv (.int a) (.int b) = decide (a = b) := by
  simp [PyData.eqv, BEq.beq]
theorem eqD_nil (l : List D) : eqD (.tuple l) (.tuple []) = some l.isEmpty := by
  show (if shp (.tuple l) && shp (.tuple []) then some (PyData.eqv (.tuple l) (.tuple [])) else eq0 (.tuple l) (.tuple [])) = _
  by_cases z : (shp (.tuple l) && shp (.tuple [])) = true
  · rw [if_pos z]
    cases l <;> rfl
  · rw [if_neg z]
    rfl
@[simp] theorem cmp_eq0 {h : Hh} (l : List D) : cmpW .eq (.dat (.tuple l)) (.dat (.tuple [])) h = some l.isEmpty := eqD_nil l
@[simp] theorem cmp_ne0 {h : Hh} (l : List D) : cmpW .ne (.dat (.tuple l)) (.dat (.tuple [])) h = some (!l.isEmpty) := by
  show (eqD (.tuple l) (.tuple [])).map not = _
  rw [eqD_nil]
  rfl
theorem eqD_pair (a b c d : Int) : eqD (.tuple [.int a, .int b]) (.tuple [.int c, .int d]) = some (decide (a = c) && decide (b = d)) := by
  show (if (shp (.tuple [.int a, .int b]) && shp (.tuple [.int c, .int d])) = true then some (PyData.eqv (.tuple [.int a, .int b]) (.tuple [.int c, .int d])) else none) = _
  rw [shp_pair, shp_pair]
  simp only [PyData.eqv, PyData.eqvAll, Bool.and_true, Bool.and_self, if_true]
  congr 1
@[simp] theorem cmp_eqP {h : Hh} (a b c d : Int) : cmpW .eq (.dat (.tuple [.int a, .int b])) (.dat (.tuple [.int c, .int d])) h = some (decide (a = c) && decide (b = d)) := eqD_pair a b c d
@[simp] theorem cmp_neP {h : Hh} (a b c d : Int) : cmpW .ne (.dat (.tuple [.int a, .int b])) (.dat (.tuple [.int c, .int d])) h = some (!(decide (a = c) && decide (b = d))) := by
  show (eqD (.tuple [.int a, .int b]) (.tuple [.int c, .int d])).map not = _
  rw [eqD_pair]
  rfl
@[simp] theorem bi_any {h : Hh} (m : Bool) (l : List D) : builtin .any m [.dat (.list l)] h = rb h ((boolsOf (l.map .dat)).map fun l => l.any id) := (rfl)
@[simp] theorem bi_all {h : Hh} (m : Bool) (l : List D) : builtin .all m [.dat (.list l)] h = rb h ((boolsOf (l.map .dat)).map fun l => l.all id) := (rfl)
@[simp] theorem items_tup {h : Hh} (l : List D) : itemsOf (.dat (.tuple l)) h = some (.ws (l.map .dat)) := (rfl)
@[simp] theorem items_lst {h : Hh} (l : List D) : itemsOf (.dat (.list l)) h = some (.ws (l.map .dat)) := (rfl)
@[simp] theorem compL_nil {h : Hh} (step : W → Hh → Res (Option W)) (acc : List W) : compL step [] h acc = .ok acc h := (rfl)
@[simp] theorem compL_cons {h : Hh} (step : W → Hh → Res (Option W)) (w : W) (ws : List W) (acc : List W) : compL step (w :: ws) h acc = (step w h).bind fun o h => match o with
    | some v => if acc.length < sizeL then compL step ws h (acc ++ [v]) else .bad
    | none => compL step ws h acc := (rfl)
@[simp] theorem bindT_nam (i : Nat) (w : W) (e : En) : bindT (.nam i) w e = some (e.set i (some w)) := (rfl)
@[simp] theorem seqOf_tup (h : Hh) (l : List D) : seqOf h (.dat (.tuple l)) = some (l.map .dat) := (rfl)
@[simp] theorem seqOf_lst (h : Hh) (l : List D) : seqOf h (.dat (.list l)) = some (l.map .dat) := (rfl)
@[simp] theorem setAll_nil (e : En) : setAll e [] [] = some e := (rfl)
@[simp] theorem setAll_cons (e : En) (i : Nat) (is : List Nat) (w : W) (ws : List W) : setAll e (i :: is) (w :: ws) = setAll (e.set i (some w)) is ws := (rfl)
@[simp] theorem wipe_nil (e : En) : wipe e [] = e := (rfl)
@[simp] theorem wipe_cons (e : En) (v : Nat) (vs : List Nat) : wipe e (v :: vs) = (wipe e vs).set v none := (rfl)
@[simp] theorem noexc_ok {α : Type} (a : α) (h : Hh) : noexc (.ok a h) = .ok a h := (rfl)
@[simp] theorem items_str {h : Hh} (x : Str) : itemsOf (.dat (.str x)) h = some (.ws (x.cps.toList.map fun c => .dat (.str ⟨#[c]⟩))) := (rfl)
theorem bools_map (l : List Bool) : boolsOf ((l.map PyData.bool).map .dat) = some l := by
  induction l with
  | nil => rfl
  | cons b l ih =>
    show (match truth (.dat (.bool b)), boolsOf ((l.map PyData.bool).map .dat) with
      | some b, some bs => some (b :: bs)
      | _, _ => none) = _
    rw [ih]
    rfl
@[simp] theorem boolsOf_nil : boolsOf [] = some [] := (rfl)
@[simp] theorem boolsOf_cons (b : Bool) (ws : List W) : boolsOf (.dat (.bool b) :: ws) = (boolsOf ws).map (b :: ·) := by
  simp only [boolsOf, truth_bool]
  cases boolsOf ws <;> rfl
@[simp] theorem slice_tup {h : Hh} (l : List D) (lo hi : Option Int) : slice (.dat (.tuple l)) lo hi h = .ok (.dat (.tuple (cutL l lo hi))) h := (rfl)
@[simp] theorem slice_lst {h : Hh} (l : List D) (lo hi : Option Int) : slice (.dat (.list l)) lo hi h = .ok (.dat (.list (cutL l lo hi))) h := (rfl)
/-! ### sizes -/
/-- of less than k bits -/
def sm (k : Nat) (x : Int) : Prop := x.natAbs < 2 ^ k
theorem sm.mono {j k : Nat} {x : Int} (h : sm j x) (l : j ≤ k) : sm k x := Nat.lt_of_lt_of_le h (Nat.pow_le_pow_right (by decide) l)
theorem sm.mul {j k : Nat} {x y : Int} (h : sm j x) (g : sm k y) : sm (j + k) (x * y) := by
  unfold sm at *
  rw [Int.natAbs_mul, Nat.pow_add]
  exact Nat.mul_lt_mul'' h g
theorem sm.add {k : Nat} {x y : Int} (h : sm k x) (g : sm k y) : sm (k + 1) (x + y) := by
  unfold sm at *
  rw [Nat.pow_succ]
  omega
theorem sm.sub {k : Nat} {x y : Int} (h : sm k x) (g : sm k y) : sm (k + 1) (x - y) := by
  unfold sm at *
  rw [Nat.pow_succ]
  omega
theorem sm.neg {k : Nat} {x : Int} (h : sm k x) : sm k (-x) := by
  unfold sm at *
  rw [Int.natAbs_neg]
  exact h
theorem sm.log {k : Nat} {x : Int} (h : sm (k + 1) x) : x.natAbs.log2 ≤ k := by
  unfold sm at h
  by_cases z : x.natAbs = 0
  · rw [z]; simp
  · exact Nat.le_of_lt_succ ((Nat.log2_lt z).mpr h)
theorem sm.big {j k : Nat} {x y : Int} (h : sm (j + 1) x) (g : sm (k + 1) y) (l : j + k < 100000000) : bigMul x y = true := by
  unfold bigMul
  have := h.log
  have := g.log
  exact decide_eq_true (by omega)
theorem sm.div {k : Nat} {x : Int} (h : sm (k + 1) x) (p : 0 < x) (l : k < 9000) : okDiv x = true := by
  unfold okDiv
  have := h.log
  simp [p]
  omega
theorem sm_of {k : Nat} {x : Int} (h0 : 0 ≤ x) (h1 : x < ((2 ^ k : Nat) : Int)) : sm k x := by
  unfold sm
  omega
theorem sm_le {k : Nat} {x y : Int} (h : sm k y) (l : x.natAbs ≤ y.natAbs) : sm k x := Nat.lt_of_le_of_lt l h
/-- a for, by a law of its turns that counts them -/
theorem okS_forN {step : W → En → Hh → SR} {N : En → Hh → Prop} {R : W → Hh → Prop} {X : Nat → En → Hh → Prop} (I : Nat → En → Hh → Prop) : ∀ (ws : List W) (i : Nat) (e : En) (h : Hh), I i e h → (∀ j w, ws[j]? = some w → ∀ e h, I (i + j) e h → okS (step w e h) (I (i + j + 1)) R X) → (∀ e h, I (i + ws.length) e h → N e h) → okS (forL step ws e h) N R X
  | [], i, e, h, a, _, n => n e h a
  | w :: ws, i, e, h, a, t, n => by
    show okS ((step w e h).bind fun e h => forL step ws e h) N R X
    rw [okS_bind]
    refine (t 0 w rfl e h a).imp (fun e h a => okS_forN I ws (i + 1) e h a (fun j w z e h b => ?_) fun e h b => n e h ?_) (fun _ _ x => x) fun _ _ _ x => x
    · have := t (j + 1) w (by simpa using z) e h (by rw [show i + (j + 1) = i + 1 + j by omega]; exact b)
      rw [show i + 1 + j + 1 = i + (j + 1) + 1 by omega]
      exact this
    · rw [List.length_cons, show i + (ws.length + 1) = i + 1 + ws.length by omega]
      exact b
@[simp] theorem rngL_length (a b : Int) : (rngL a b).length = (b - a).toNat := by unfold rngL; simp
theorem rngL_get {a b : Int} {j : Nat} {w : W} (z : (rngL a b)[j]? = some w) : w = .dat (.int (a + j)) ∧ a + j < b := by
  unfold rngL at z
  rw [List.getElem?_map] at z
  obtain ⟨k, e, rfl⟩ := Option.map_eq_some_iff.mp z
  obtain ⟨l, e⟩ := List.getElem?_eq_some_iff.mp e
  simp at l e
  subst e
  exact ⟨rfl, by omega⟩
/-- ends of a range -/
theorem okR_i {i : Int} (a : -1 ≤ i) (b : i ≤ 1000000) : okR i = true := by
  refine Nat.blt_eq.mpr ?_
  by_cases z : i.natAbs = 0
  · rw [z]; decide
  · exact (Nat.log2_lt z).mpr (Nat.lt_of_le_of_lt (show i.natAbs ≤ 1000000 by omega) (by decide))
theorem okR_nat {k : Nat} (hk : k ≤ 1000000) : okR (k : Int) = true := okR_i (by omega) (by omega)
/-! comprehensions -/
theorem compL_pure {h : Hh} {step : W → Hh → Res (Option W)} (g : W → W) : ∀ (ws acc : List W), (∀ w ∈ ws, step w h = .ok (some (g w)) h) → acc.length + ws.length ≤ sizeL → compL step ws h acc = .ok (acc ++ ws.map g) h
  | [], acc, _, _ => by rw [compL_nil, List.map_nil, List.append_nil]
  | w :: ws, acc, hs, l => by
    rw [List.length_cons] at l
    rw [compL_cons, hs w List.mem_cons_self]
    show (if acc.length < sizeL then compL step ws h (acc ++ [g w]) else .bad) = _
    rw [if_pos (by omega), compL_pure g ws _ (fun w z => hs w (List.mem_cons_of_mem _ z)) (by rw [List.length_append, List.length_singleton]; omega)]
    rw [List.map_cons, List.append_assoc]
    rfl
/-- over a list of things, each to data -/
theorem compL_map {α : Type} {h : Hh} {step : W → Hh → Res (Option W)} (f : α → W) (g : α → D) (l : List α) (hs : ∀ x ∈ l, step (f x) h = .ok (some (.dat (g x))) h) (hl : l.length ≤ sizeL) : compL step (l.map f) h [] = .ok ((l.map g).map .dat) h := by
  have key : ∀ (l : List α) (acc : List W), (∀ x ∈ l, step (f x) h = .ok (some (.dat (g x))) h) → acc.length + l.length ≤ sizeL → compL step (l.map f) h acc = .ok (acc ++ (l.map g).map .dat) h := by
    intro l
    induction l with
    | nil => intro acc _ _; rw [List.map_nil, compL_nil, List.map_nil, List.map_nil, List.append_nil]
    | cons x l ih =>
      intro acc hs le
      rw [List.length_cons] at le
      rw [List.map_cons, compL_cons, hs x List.mem_cons_self]
      show (if acc.length < sizeL then compL step (l.map f) h (acc ++ [.dat (g x)]) else .bad) = _
      rw [if_pos (by omega), ih _ (fun y z => hs y (List.mem_cons_of_mem _ z)) (by rw [List.length_append, List.length_singleton]; omega)]
      rw [List.map_cons, List.map_cons, List.append_assoc]
      rfl
  have z := key l [] hs (by simpa using hl)
  rw [z, List.nil_append]
/-- a comprehension, by a law of its turns -/
theorem okW_compL {step : W → Hh → Res (Option W)} {Q : List W → Hh → Prop} {E : Nat → Hh → Prop} (I : Nat → List W → Hh → Prop) : ∀ (ws : List W) (i : Nat) (acc : List W) (h : Hh), I i acc h → acc.length + ws.length ≤ sizeL →
    (∀ j w, ws[j]? = some w → ∀ acc h, I (i + j) acc h → okW (step w h) (fun o h => match o with
      | some v => I (i + j + 1) (acc ++ [v]) h
      | none => I (i + j + 1) acc h) E) → (∀ acc h, I (i + ws.length) acc h → Q acc h) → okW (compL step ws h acc) Q E
  | [], i, acc, h, a, _, _, n => n acc h a
  | w :: ws, i, acc, h, a, l, t, n => by
    rw [List.length_cons] at l
    rw [compL_cons, okW_bind]
    have t2 : ∀ j w2, ws[j]? = some w2 → ∀ acc h, I (i + 1 + j) acc h → okW (step w2 h) (fun o h => match o with
      | some v => I (i + 1 + j + 1) (acc ++ [v]) h
      | none => I (i + 1 + j + 1) acc h) E := fun j w2 z acc h b => by
      have := t (j + 1) w2 (by simpa using z) acc h (by rw [show i + (j + 1) = i + 1 + j by omega]; exact b)
      rw [show i + 1 + j + 1 = i + (j + 1) + 1 by omega]
      exact this
    have n2 : ∀ acc h, I (i + 1 + ws.length) acc h → Q acc h := fun acc h b => n acc h (by rw [List.length_cons, show i + (ws.length + 1) = i + 1 + ws.length by omega]; exact b)
    refine (t 0 w rfl acc h a).imp (fun o h b => ?_) fun _ _ x => x
    cases o with
    | some v =>
      show okW (if acc.length < sizeL then compL step ws h (acc ++ [v]) else .bad) Q E
      rw [if_pos (by omega)]
      exact okW_compL I ws (i + 1) _ h b (by rw [List.length_append, List.length_singleton]; omega) t2 n2
    | none => exact okW_compL I ws (i + 1) acc h b (by omega) t2 n2
end M
namespace K37
open PySem M
def top (i : Nat) : Stmt := PySem.Challenge.pw_markhabits_k37_keeper_by_an_own_set.main.body.getD i (.Pass ⟨0, 0, 0, 0⟩)
def bod (s : Stmt) (j : Nat) : Stmt := match s with
  | .ClassDef _ _ _ b .. => b.getD j s
  | s => s
abbrev f_wall : Nat := 0
abbrev f_is_whole : Nat := 1
abbrev f_shared : Nat := 2
abbrev f_is_fraction : Nat := 3
abbrev f_is_name : Nat := 4
abbrev f_is_night : Nat := 5
abbrev f_is_told : Nat := 6
abbrev f_are_ends : Nat := 7
abbrev f_is_entry : Nat := 8
abbrev f_is_cloud : Nat := 9
abbrev f_quarrel : Nat := 10
abbrev f_are_rising : Nat := 11
abbrev f_watchers_in : Nat := 12
abbrev f_stars_in : Nat := 13
abbrev f_places_in : Nat := 14
abbrev f_are_few : Nat := 15
abbrev f_are_at_peace : Nat := 16
abbrev f_are_clouds : Nat := 17
abbrev f_is_book : Nat := 18
abbrev f_with_one : Nat := 19
abbrev f_without_one : Nat := 20
abbrev f_check_cloud : Nat := 21
abbrev f_Keeper_init : Nat := 22
abbrev f_Keeper_take : Nat := 23
abbrev f_Keeper_enter : Nat := 24
abbrev f_Keeper_strike : Nat := 25
abbrev f_Keeper_cloud : Nat := 26
abbrev f_Keeper_uncloud : Nat := 27
abbrev f_Keeper_back : Nat := 28
abbrev f_Keeper_book : Nat := 29
abbrev f_law_cell : Nat := 30
abbrev f_law_pool : Nat := 31
abbrev f_law_take : Nat := 32
abbrev f_law_low : Nat := 33
abbrev f_law_size : Nat := 34
abbrev f_law_names : Nat := 35
abbrev f_law_quarrel : Nat := 36
abbrev f_law_ends : Nat := 37
abbrev f_law_raw : Nat := 38
abbrev f_law_wide_sorts : Nat := 39
abbrev f_law_only : Nat := 40
abbrev f_law_joins : Nat := 41
abbrev f_law_asked : Nat := 42
abbrev f_law_due : Nat := 43
abbrev f_law_does : Nat := 44
abbrev f_law_deed : Nat := 45
abbrev f_law_stands : Nat := 46
abbrev f_law : Nat := 47
abbrev x_MarkError : Nat := 0
abbrev x_NoNumber : Nat := 1
abbrev x_NoBook : Nat := 2
abbrev x_NoText : Nat := 3
abbrev x_NoQuantity : Nat := 4
abbrev x_NoTelling : Nat := 5
abbrev x_NoMark : Nat := 6
abbrev x_NoPlace : Nat := 7
abbrev x_NoNight : Nat := 8
abbrev x_NoWatch : Nat := 9
abbrev x_NoWatcher : Nat := 10
abbrev x_NoJoin : Nat := 11
abbrev x_NoEntry : Nat := 12
abbrev x_NoCloud : Nat := 13
abbrev x_NoBack : Nat := 14
abbrev x_NoRow : Nat := 15
def c_wall_0 : CE := (.cst (.bool true))
def l_wall_1 : CSs := (.cons .pass .nil)
def b_wall : CSs := (.cons (.whil c_wall_0 l_wall_1) .nil)
def d_wall : Df := ⟨"_wall", none, 1, 1, true, b_wall⟩
def b_is_whole : CSs := (.cons (.ret (.bop true (.cons (.isi (.var 0) .int) (.cons (.not (.isi (.var 0) .bool)) .nil)))) .nil)
def d_is_whole : Df := ⟨"is_whole", none, 1, 1, true, b_is_whole⟩
def c_shared_0 : CE := (.cmp .gt (.var 1) (.cst (.int 0)))
def l_shared_1 : CSs := (.cons (.par 0 1 (.var 1) (.bin .mod false (.var 0) (.var 1))) .nil)
def b_shared : CSs := (.cons (.whil c_shared_0 l_shared_1) (.cons (.ret (.var 0)) .nil))
def d_shared : Df := ⟨"shared", none, 2, 2, true, b_shared⟩
def b_is_fraction : CSs := (.cons (.ifs (.bop false (.cons (.not (.isi (.var 0) .tuple)) (.cons (.cmp .ne (.blt .len false (.cons (.var 0) .nil)) (.cst (.int 2))) (.cons (.not (.call f_is_whole (.cons (.idx (.var 0) (.cst (.int 0))) .nil))) (.cons (.not (.call f_is_whole (.cons (.idx (.var 0) (.cst (.int 1))) .nil))) .nil))))) (.cons (.ret (.cst (.bool false))) .nil) .nil) (.cons (.ret (.bop true (.cons (.cmp .gt (.idx (.var 0) (.cst (.int 1))) (.cst (.int 0))) (.cons (.cmp .eq (.call f_shared (.cons (.blt .abs false (.cons (.idx (.var 0) (.cst (.int 0))) .nil)) (.cons (.idx (.var 0) (.cst (.int 1))) .nil))) (.cst (.int 1))) .nil)))) .nil))
def d_is_fraction : Df := ⟨"is_fraction", none, 1, 1, true, b_is_fraction⟩
def e_is_name_0 : CE := (.cmp .isin (.var 1) (.glb 0))
def b_is_name : CSs := (.cons (.ifs (.bop false (.cons (.not (.isi (.var 0) .str)) (.cons (.not (.chn .le .le (.cst (.int 1)) (.blt .len false (.cons (.var 0) .nil)) (.glb 1))) .nil))) (.cons (.ret (.cst (.bool false))) .nil) .nil) (.cons (.ret (.blt .all false (.cons (.comp false [("sign", 1)] (.nam 1) (.ex (.var 0)) .nil e_is_name_0) .nil))) .nil))
def d_is_name : Df := ⟨"is_name", none, 1, 2, true, b_is_name⟩
def b_is_night : CSs := (.cons (.ret (.bop true (.cons (.call f_is_whole (.cons (.var 0) .nil)) (.cons (.chn .le .le (.cst (.int 0)) (.var 0) (.glb 2)) .nil)))) .nil)
def d_is_night : Df := ⟨"is_night", none, 1, 1, true, b_is_night⟩
def b_is_told : CSs := (.cons (.ifs (.bop false (.cons (.not (.call f_is_fraction (.cons (.var 0) .nil))) (.cons (.cmp .gt (.idx (.var 0) (.cst (.int 1))) (.glb 3)) .nil))) (.cons (.ret (.cst (.bool false))) .nil) .nil) (.cons (.ret (.chn .le .le (.bin .mul false (.var 1) (.idx (.var 0) (.cst (.int 1)))) (.idx (.var 0) (.cst (.int 0))) (.bin .mul false (.var 2) (.idx (.var 0) (.cst (.int 1)))))) .nil))
def d_is_told : Df := ⟨"is_told", none, 3, 3, true, b_is_told⟩
def b_are_ends : CSs := (.cons (.ret (.bop true (.cons (.call f_is_told (.cons (.var 0) (.cons (.neg (.glb 5)) (.cons (.glb 5) .nil)))) (.cons (.call f_is_told (.cons (.var 1) (.cons (.cst (.int 0)) (.cons (.glb 4) .nil)))) .nil)))) .nil)
def d_are_ends : Df := ⟨"are_ends", none, 2, 2, true, b_are_ends⟩
def e_is_entry_0 : CE := (.call f_is_name (.cons (.var 1) .nil))
def b_is_entry : CSs := (.cons (.ifs (.bop false (.cons (.not (.isi (.var 0) .tuple)) (.cons (.cmp .notin (.blt .len false (.cons (.var 0) .nil)) (.tup (.cons (.cst (.int 4)) (.cons (.cst (.int 7)) .nil)))) (.cons (.not (.isi (.idx (.var 0) (.cst (.int 0))) .str)) .nil)))) (.cons (.ret (.cst (.bool false))) .nil) .nil) (.cons (.ifs (.cmp .eq (.blt .len false (.cons (.var 0) .nil)) (.cst (.int 4))) (.cons (.ret (.bop true (.cons (.cmp .isin (.idx (.var 0) (.cst (.int 0))) (.tup (.cons (.cst (.str "habit")) (.cons (.cst (.str "gain")) .nil)))) (.cons (.call f_is_name (.cons (.idx (.var 0) (.cst (.int 1))) .nil)) (.cons (.call f_are_ends (.cons (.idx (.var 0) (.cst (.int 2))) (.cons (.idx (.var 0) (.cst (.int 3))) .nil))) .nil))))) .nil) .nil) (.cons (.ifs (.bop false (.cons (.cmp .ne (.idx (.var 0) (.cst (.int 0))) (.cst (.str "mark"))) (.cons (.not (.blt .all false (.cons (.comp false [("name", 1)] (.nam 1) (.ex (.slc (.var 0) (.som (.cst (.int 1))) (.som (.cst (.int 4))))) .nil e_is_entry_0) .nil))) .nil))) (.cons (.ret (.cst (.bool false))) .nil) .nil) (.cons (.ret (.bop true (.cons (.call f_is_night (.cons (.idx (.var 0) (.cst (.int 4))) .nil)) (.cons (.call f_are_ends (.cons (.idx (.var 0) (.cst (.int 5))) (.cons (.idx (.var 0) (.cst (.int 6))) .nil))) .nil)))) .nil))))
def d_is_entry : Df := ⟨"is_entry", none, 1, 2, true, b_is_entry⟩
def b_is_cloud : CSs := (.cons (.ret (.bop true (.cons (.isi (.var 0) .tuple) (.cons (.cmp .eq (.blt .len false (.cons (.var 0) .nil)) (.cst (.int 2))) (.cons (.call f_is_name (.cons (.idx (.var 0) (.cst (.int 0))) .nil)) (.cons (.call f_is_night (.cons (.idx (.var 0) (.cst (.int 1))) .nil)) .nil)))))) .nil)
def d_is_cloud : Df := ⟨"is_cloud", none, 1, 1, true, b_is_cloud⟩
def b_quarrel : CSs := (.cons (.ifs (.bop false (.cons (.cmp .ne (.idx (.var 0) (.cst (.int 0))) (.cst (.str "mark"))) (.cons (.cmp .ne (.idx (.var 1) (.cst (.int 0))) (.cst (.str "mark"))) (.cons (.cmp .ne (.idx (.var 0) (.cst (.int 1))) (.idx (.var 1) (.cst (.int 1)))) (.cons (.cmp .ne (.idx (.var 0) (.cst (.int 4))) (.idx (.var 1) (.cst (.int 4)))) .nil))))) (.cons (.ret (.cst (.bool false))) .nil) .nil) (.cons (.ret (.bop false (.cons (.cmp .ne (.idx (.var 0) (.cst (.int 3))) (.idx (.var 1) (.cst (.int 3)))) (.cons (.cmp .eq (.idx (.var 0) (.cst (.int 2))) (.idx (.var 1) (.cst (.int 2)))) .nil)))) .nil))
def d_quarrel : Df := ⟨"quarrel", none, 2, 2, true, b_quarrel⟩
def e_are_rising_0 : CE := (.cmp .lt (.idx (.var 0) (.var 1)) (.idx (.var 0) (.bin .add false (.var 1) (.cst (.int 1)))))
def b_are_rising : CSs := (.cons (.ret (.blt .all false (.cons (.comp false [("k", 1)] (.nam 1) (.rng1 (.bin .sub false (.blt .len false (.cons (.var 0) .nil)) (.cst (.int 1)))) .nil e_are_rising_0) .nil))) .nil)
def d_are_rising : Df := ⟨"are_rising", none, 1, 2, true, b_are_rising⟩
def g_watchers_in_0 : CEs := (.cons (.cmp .ne (.idx (.var 1) (.cst (.int 0))) (.cst (.str "gain"))) .nil)
def e_watchers_in_1 : CE := (.idx (.var 1) (.cst (.int 1)))
def b_watchers_in : CSs := (.cons (.ret (.blt .tuple false (.cons (.sset false (.comp false [("entry", 1)] (.nam 1) (.ex (.var 0)) g_watchers_in_0 e_watchers_in_1)) .nil))) .nil)
def d_watchers_in : Df := ⟨"watchers_in", none, 1, 2, true, b_watchers_in⟩
def g_stars_in_0 : CEs := (.cons (.cmp .eq (.idx (.var 1) (.cst (.int 0))) (.cst (.str "mark"))) .nil)
def e_stars_in_1 : CE := (.idx (.var 1) (.cst (.int 2)))
def b_stars_in : CSs := (.cons (.ret (.blt .tuple false (.cons (.sset false (.comp false [("entry", 1)] (.nam 1) (.ex (.var 0)) g_stars_in_0 e_stars_in_1)) .nil))) .nil)
def d_stars_in : Df := ⟨"stars_in", none, 1, 2, true, b_stars_in⟩
def g_places_in_0 : CEs := (.cons (.cmp .eq (.idx (.var 2) (.cst (.int 0))) (.cst (.str "gain"))) .nil)
def e_places_in_1 : CE := (.idx (.var 2) (.cst (.int 1)))
def g_places_in_2 : CEs := (.cons (.cmp .eq (.idx (.var 2) (.cst (.int 0))) (.cst (.str "mark"))) .nil)
def e_places_in_3 : CE := (.idx (.var 2) (.cst (.int 3)))
def b_places_in : CSs := (.cons (.setc 1 (.comp false [("entry", 2)] (.nam 2) (.ex (.var 0)) g_places_in_2 e_places_in_3)) (.cons (.ret (.blt .tuple false (.cons (.sset false (.bin .add false (.var 1) (.comp false [("entry", 2)] (.nam 2) (.ex (.var 0)) g_places_in_0 e_places_in_1))) .nil))) .nil))
def d_places_in : Df := ⟨"places_in", none, 1, 3, true, b_places_in⟩
def b_are_few : CSs := (.cons (.ifs (.bop false (.cons (.cmp .gt (.blt .len false (.cons (.var 0) .nil)) (.glb 9)) (.cons (.cmp .gt (.blt .len false (.cons (.call f_watchers_in (.cons (.var 0) .nil)) .nil)) (.glb 8)) .nil))) (.cons (.ret (.cst (.bool false))) .nil) .nil) (.cons (.ret (.bop true (.cons (.cmp .le (.blt .len false (.cons (.call f_stars_in (.cons (.var 0) .nil)) .nil)) (.glb 7)) (.cons (.cmp .le (.blt .len false (.cons (.call f_places_in (.cons (.var 0) .nil)) .nil)) (.glb 6)) .nil)))) .nil))
def d_are_few : Df := ⟨"are_few", none, 1, 1, true, b_are_few⟩
def e_are_at_peace_0 : CE := (.call f_quarrel (.cons (.idx (.var 0) (.var 1)) (.cons (.idx (.var 0) (.var 2)) .nil)))
def l_are_at_peace_1 : CSs := (.cons (.ifs (.blt .any false (.cons (.comp false [("other", 2)] (.nam 2) (.rng1 (.var 1)) .nil e_are_at_peace_0) .nil)) (.cons (.ret (.cst (.bool false))) .nil) .nil) .nil)
def b_are_at_peace : CSs := (.cons (.for_ (.nam 1) (.rng1 (.blt .len false (.cons (.var 0) .nil))) l_are_at_peace_1) (.cons (.ret (.cst (.bool true))) .nil))
def d_are_at_peace : Df := ⟨"are_at_peace", none, 1, 3, true, b_are_at_peace⟩
def e_are_clouds_0 : CE := (.call f_is_cloud (.cons (.var 1) .nil))
def b_are_clouds : CSs := (.cons (.ifs (.bop false (.cons (.not (.isi (.var 0) .tuple)) (.cons (.cmp .gt (.blt .len false (.cons (.var 0) .nil)) (.glb 10)) (.cons (.not (.blt .all false (.cons (.comp false [("one", 1)] (.nam 1) (.ex (.var 0)) .nil e_are_clouds_0) .nil))) .nil)))) (.cons (.ret (.cst (.bool false))) .nil) .nil) (.cons (.ret (.call f_are_rising (.cons (.var 0) .nil))) .nil))
def d_are_clouds : Df := ⟨"are_clouds", none, 1, 2, true, b_are_clouds⟩
def e_is_book_0 : CE := (.bop true (.cons (.cmp .eq (.idx (.var 3) (.cst (.int 0))) (.cst (.str "mark"))) (.cons (.cmp .isin (.slc (.var 3) (.som (.cst (.int 3))) (.som (.cst (.int 5)))) (.var 2)) .nil)))
def e_is_book_1 : CE := (.call f_is_entry (.cons (.var 3) .nil))
def b_is_book : CSs := (.cons (.ifs (.bop false (.cons (.not (.isi (.var 0) .tuple)) (.cons (.cmp .ne (.blt .len false (.cons (.var 0) .nil)) (.cst (.int 2))) (.cons (.not (.isi (.idx (.var 0) (.cst (.int 0))) .tuple)) (.cons (.not (.call f_are_clouds (.cons (.idx (.var 0) (.cst (.int 1))) .nil))) .nil))))) (.cons (.ret (.cst (.bool false))) .nil) .nil) (.cons (.asg (.tup [1, 2]) (.var 0)) (.cons (.ifs (.bop false (.cons (.not (.blt .all false (.cons (.comp false [("entry", 3)] (.nam 3) (.ex (.var 1)) .nil e_is_book_1) .nil))) (.cons (.not (.call f_are_rising (.cons (.var 1) .nil))) (.cons (.not (.call f_are_few (.cons (.var 1) .nil))) .nil)))) (.cons (.ret (.cst (.bool false))) .nil) .nil) (.cons (.ret (.bop true (.cons (.call f_are_at_peace (.cons (.var 1) .nil)) (.cons (.not (.blt .any false (.cons (.comp false [("entry", 3)] (.nam 3) (.ex (.var 1)) .nil e_is_book_0) .nil))) .nil)))) .nil))))
def d_is_book : Df := ⟨"is_book", none, 1, 4, true, b_is_book⟩
def b_with_one : CSs := (.cons (.ret (.blt .tuple false (.cons (.blt .sorted false (.cons (.bin .add false (.var 0) (.tup (.cons (.var 1) .nil))) .nil)) .nil))) .nil)
def d_with_one : Df := ⟨"with_one", none, 2, 2, true, b_with_one⟩
def g_without_one_0 : CEs := (.cons (.cmp .ne (.var 2) (.var 1)) .nil)
def e_without_one_1 : CE := (.var 2)
def b_without_one : CSs := (.cons (.ret (.blt .tuple false (.cons (.comp false [("one", 2)] (.nam 2) (.ex (.var 0)) g_without_one_0 e_without_one_1) .nil))) .nil)
def d_without_one : Df := ⟨"without_one", none, 2, 3, true, b_without_one⟩
def b_check_cloud : CSs := (.cons (.ifs (.not (.call f_is_name (.cons (.var 0) .nil))) (.cons (.rais 7) .nil) .nil) (.cons (.ifs (.not (.call f_is_night (.cons (.var 1) .nil))) (.cons (.rais 8) .nil) .nil) .nil))
def d_check_cloud : Df := ⟨"check_cloud", none, 2, 2, true, b_check_cloud⟩
def b_Keeper_init : CSs := (.cons (.setf (.var 0) "now" (.tup (.cons (.tup .nil) (.cons (.tup .nil) .nil)))) (.cons (.setf (.var 0) "before" (.lst true .nil)) .nil))
def d_Keeper_init : Df := ⟨"__init__", some 0, 1, 1, true, b_Keeper_init⟩
def b_Keeper_take : CSs := (.cons (.ifs (.not (.call f_is_book (.cons (.var 1) .nil))) (.cons (.rais 11) .nil) .nil) (.cons (.expr (.bmt .append false (.fld (.var 0) "before") (.cons (.fld (.var 0) "now") .nil))) (.cons (.setf (.var 0) "now" (.var 1)) .nil)))
def d_Keeper_take : Df := ⟨"take", some 0, 2, 2, true, b_Keeper_take⟩
def b_Keeper_enter : CSs := (.cons (.asg (.tup [2, 3]) (.fld (.var 0) "now")) (.cons (.ifs (.bop false (.cons (.not (.call f_is_entry (.cons (.var 1) .nil))) (.cons (.cmp .isin (.var 1) (.var 2)) .nil))) (.cons (.rais 12) .nil) .nil) (.cons (.expr (.meth (.var 0) 0 "take" f_Keeper_take (.cons (.tup (.cons (.call f_with_one (.cons (.var 2) (.cons (.var 1) .nil))) (.cons (.var 3) .nil))) .nil))) .nil)))
def d_Keeper_enter : Df := ⟨"enter", some 0, 2, 4, true, b_Keeper_enter⟩
def b_Keeper_strike : CSs := (.cons (.asg (.tup [2, 3]) (.fld (.var 0) "now")) (.cons (.ifs (.bop false (.cons (.not (.call f_is_entry (.cons (.var 1) .nil))) (.cons (.cmp .notin (.var 1) (.var 2)) .nil))) (.cons (.rais 12) .nil) .nil) (.cons (.expr (.meth (.var 0) 0 "take" f_Keeper_take (.cons (.tup (.cons (.call f_without_one (.cons (.var 2) (.cons (.var 1) .nil))) (.cons (.var 3) .nil))) .nil))) .nil)))
def d_Keeper_strike : Df := ⟨"strike", some 0, 2, 4, true, b_Keeper_strike⟩
def b_Keeper_cloud : CSs := (.cons (.expr (.call f_check_cloud (.cons (.var 1) (.cons (.var 2) .nil)))) (.cons (.asg (.tup [3, 4]) (.fld (.var 0) "now")) (.cons (.ifs (.cmp .isin (.tup (.cons (.var 1) (.cons (.var 2) .nil))) (.var 4)) (.cons (.rais 13) .nil) .nil) (.cons (.expr (.meth (.var 0) 0 "take" f_Keeper_take (.cons (.tup (.cons (.var 3) (.cons (.call f_with_one (.cons (.var 4) (.cons (.tup (.cons (.var 1) (.cons (.var 2) .nil))) .nil))) .nil))) .nil))) .nil))))
def d_Keeper_cloud : Df := ⟨"cloud", some 0, 3, 5, true, b_Keeper_cloud⟩
def b_Keeper_uncloud : CSs := (.cons (.expr (.call f_check_cloud (.cons (.var 1) (.cons (.var 2) .nil)))) (.cons (.asg (.tup [3, 4]) (.fld (.var 0) "now")) (.cons (.ifs (.cmp .notin (.tup (.cons (.var 1) (.cons (.var 2) .nil))) (.var 4)) (.cons (.rais 13) .nil) .nil) (.cons (.expr (.meth (.var 0) 0 "take" f_Keeper_take (.cons (.tup (.cons (.var 3) (.cons (.call f_without_one (.cons (.var 4) (.cons (.tup (.cons (.var 1) (.cons (.var 2) .nil))) .nil))) .nil))) .nil))) .nil))))
def d_Keeper_uncloud : Df := ⟨"uncloud", some 0, 3, 5, true, b_Keeper_uncloud⟩
def b_Keeper_back : CSs := (.cons (.ifs (.cmp .eq (.fld (.var 0) "before") (.lst false .nil)) (.cons (.rais 14) .nil) .nil) (.cons (.setf (.var 0) "now" (.bmt .pop0 false (.fld (.var 0) "before") .nil)) .nil))
def d_Keeper_back : Df := ⟨"back", some 0, 1, 1, true, b_Keeper_back⟩
def b_Keeper_book : CSs := (.cons (.ret (.fld (.var 0) "now")) .nil)
def d_Keeper_book : Df := ⟨"book", some 0, 1, 1, true, b_Keeper_book⟩
def l_law_cell_0 : CSs := (.cons (.asg (.nam 2) (.bin .mod false (.bin .add false (.bin .mul false (.var 2) (.cst (.int 43013))) (.var 3)) (.cst (.int 2147483549)))) .nil)
def b_law_cell : CSs := (.cons (.ifs (.cmp .lt (.var 1) (.blt .len false (.cons (.var 0) .nil))) (.cons (.ret (.idx (.var 0) (.var 1))) .nil) .nil) (.cons (.asg (.nam 2) (.bin .mod false (.bin .mul false (.bin .mul false (.cst (.int 50021)) (.bin .add false (.var 1) (.cst (.int 2)))) (.bin .add false (.var 1) (.cst (.int 9)))) (.cst (.int 2147483549)))) (.cons (.for_ (.nam 3) (.ex (.slc (.var 0) .non (.som (.cst (.int 3))))) l_law_cell_0) (.cons (.ret (.var 2)) .nil))))
def d_law_cell : Df := ⟨"_law_cell", none, 2, 4, true, b_law_cell⟩
def b_law_pool : CSs := (.cons (.asg (.nam 1) (.cst (.int 0))) (.cons (.ifs (.bop false (.cons (.cmp .lt (.var 0) (.cst (.int 0))) (.cons (.cmp .ge (.var 0) (.bin .pow false (.cst (.int 10)) (.cst (.int 18)))) .nil))) (.cons (.asg (.nam 1) (.blt .abs true (.cons (.var 0) .nil))) .nil) .nil) (.cons (.ret (.lst true (.cons (.bin .mod false (.var 0) (.cst (.int 2147483549))) (.cons (.var 1) (.cons (.cst (.int 0)) .nil))))) .nil)))
def d_law_pool : Df := ⟨"_law_pool", none, 1, 2, true, b_law_pool⟩
def b_law_take : CSs := (.cons (.asg (.sub (.var 0) (.cst (.int 2))) (.bin .add false (.idx (.var 0) (.cst (.int 2))) (.cst (.int 1)))) (.cons (.asg (.nam 2) (.idx (.var 0) (.cst (.int 0)))) (.cons (.asg (.sub (.var 0) (.cst (.int 0))) (.bin .mod false (.bin .add false (.bin .mul false (.var 2) (.bin .add false (.bin .mod false (.var 2) (.cst (.int 47017))) (.cst (.int 31013)))) (.bin .mul false (.cst (.int 90001)) (.idx (.var 0) (.cst (.int 2))))) (.cst (.int 2147483549)))) (.cons (.ifs (.cmp .gt (.idx (.var 0) (.cst (.int 1))) (.cst (.int 0))) (.cons (.asg (.subnam (.var 0) (.cst (.int 1)) 3) (.blt .divmod false (.cons (.idx (.var 0) (.cst (.int 1))) (.cons (.var 1) .nil)))) (.cons (.ret (.var 3)) .nil)) .nil) (.cons (.ret (.bin .mod false (.bin .fdiv false (.idx (.var 0) (.cst (.int 0))) (.cst (.int 64))) (.var 1))) .nil)))))
def d_law_take : Df := ⟨"_law_take", none, 2, 4, true, b_law_take⟩
def c_law_low_0 : CE := (.cmp .gt (.var 3) (.cst (.int 0)))
def l_law_low_1 : CSs := (.cons (.par 2 3 (.var 3) (.bin .mod false (.var 2) (.var 3))) .nil)
def b_law_low : CSs := (.cons (.par 2 3 (.blt .abs false (.cons (.var 0) .nil)) (.var 1)) (.cons (.whil c_law_low_0 l_law_low_1) (.cons (.ret (.tup (.cons (.bin .fdiv false (.var 0) (.var 2)) (.cons (.bin .fdiv false (.var 1) (.var 2)) .nil)))) .nil)))
def d_law_low : Df := ⟨"_law_low", none, 2, 4, true, b_law_low⟩
def b_law_size : CSs := (.cons (.ret (.tup (.cons (.blt .abs false (.cons (.idx (.var 0) (.cst (.int 0))) .nil)) (.cons (.idx (.var 0) (.cst (.int 1))) .nil)))) .nil)
def d_law_size : Df := ⟨"_law_size", none, 1, 1, true, b_law_size⟩
def e_law_names_0 : CE := (.bin .add false (.bin .add false (.slc (.var 7) .non (.som (.var 8))) (.idx (.var 6) (.bin .mod false (.bin .add false (.var 9) (.bin .mul false (.var 4) (.var 5))) (.cst (.int 26))))) (.slc (.var 7) (.som (.var 8)) .non))
def t_law_names_1 : CSs := (.cons (.ret (.comp false [("_law_k", 5)] (.nam 5) (.rng1 (.var 1)) .nil e_law_names_0)) .nil)
def t_law_names_2 : CSs := (.cons (.asg (.tup [8, 9]) (.tup (.cons (.call f_law_take (.cons (.var 0) (.cons (.bin .add false (.blt .len false (.cons (.var 7) .nil)) (.cst (.int 1))) .nil))) (.cons (.call f_law_take (.cons (.var 0) (.cons (.cst (.int 26)) .nil))) .nil)))) t_law_names_1)
def e_law_names_3 : CE := (.idx (.var 6) (.call f_law_take (.cons (.var 0) (.cons (.cst (.int 26)) .nil))))
def t_law_names_4 : CSs := (.cons (.asg (.nam 7) (.bmt .join false (.cst (.str "")) (.cons (.comp false [("_law_k", 5)] (.nam 5) (.rng1 (.call f_law_take (.cons (.var 0) (.cons (.cst (.int 8)) .nil)))) .nil e_law_names_3) .nil))) t_law_names_2)
def t_law_names_5 : CSs := (.cons (.asg (.nam 6) (.cst (.str "abcdefghijklmnopqrstuvwxyz"))) t_law_names_4)
def e_law_names_6 : CE := (.idx (.var 2) (.bin .mod false (.bin .add false (.var 3) (.bin .mul false (.var 4) (.var 5))) (.cst (.int 12))))
def t_law_names_7 : CSs := (.cons (.ifs (.cmp .eq (.call f_law_take (.cons (.var 0) (.cons (.cst (.int 4)) .nil))) (.cst (.int 1))) (.cons (.ret (.comp false [("_law_k", 5)] (.nam 5) (.rng1 (.var 1)) .nil e_law_names_6)) .nil) .nil) t_law_names_5)
def t_law_names_8 : CSs := (.cons (.asg (.tup [3, 4]) (.tup (.cons (.call f_law_take (.cons (.var 0) (.cons (.cst (.int 12)) .nil))) (.cons (.idx (.lst false (.cons (.cst (.int 1)) (.cons (.cst (.int 5)) (.cons (.cst (.int 7)) (.cons (.cst (.int 11)) .nil))))) (.call f_law_take (.cons (.var 0) (.cons (.cst (.int 4)) .nil)))) .nil)))) t_law_names_7)
def b_law_names : CSs := (.cons (.asg (.nam 2) (.lst false (.cons (.cst (.str "mark")) (.cons (.cst (.str "habit")) (.cons (.cst (.str "gain")) (.cons (.cst (.str "cloud")) (.cons (.cst (.str "fits")) (.cons (.cst (.str "open")) (.cons (.cst (.str "strike")) (.cons (.cst (.str "back")) (.cons (.cst (.str "book")) (.cons (.cst (.str "none")) (.cons (.cst (.str "clash")) (.cons (.cst (.str "to")) .nil)))))))))))))) t_law_names_8)
def d_law_names : Df := ⟨"_law_names", none, 2, 10, true, b_law_names⟩
def b_law_quarrel : CSs := (.cons (.ifs (.bop false (.cons (.cmp .ne (.idx (.var 0) (.cst (.int 0))) (.cst (.str "mark"))) (.cons (.cmp .ne (.idx (.var 1) (.cst (.int 0))) (.cst (.str "mark"))) (.cons (.cmp .ne (.idx (.var 0) (.cst (.int 1))) (.idx (.var 1) (.cst (.int 1)))) (.cons (.cmp .ne (.idx (.var 0) (.cst (.int 4))) (.idx (.var 1) (.cst (.int 4)))) .nil))))) (.cons (.ret (.cst (.bool false))) .nil) .nil) (.cons (.ret (.bop false (.cons (.cmp .ne (.idx (.var 0) (.cst (.int 3))) (.idx (.var 1) (.cst (.int 3)))) (.cons (.cmp .eq (.idx (.var 0) (.cst (.int 2))) (.idx (.var 1) (.cst (.int 2)))) .nil)))) .nil))
def d_law_quarrel : Df := ⟨"_law_quarrel", none, 2, 2, true, b_law_quarrel⟩
def t_law_ends_0 : CSs := (.cons (.ret (.call f_law_low (.cons (.bin .mul false (.var 3) (.idx (.lst false (.cons (.cst (.int 1)) (.cons (.neg (.cst (.int 1))) .nil))) (.call f_law_take (.cons (.var 0) (.cons (.cst (.int 2)) .nil))))) (.cons (.var 2) .nil)))) .nil)
def t_law_ends_1 : CSs := (.cons (.ifs (.cmp .eq (.var 4) (.cst (.int 2))) (.cons (.asg (.nam 3) (.bin .mod false (.var 3) (.cst (.int 50)))) .nil) .nil) t_law_ends_0)
def t_law_ends_2 : CSs := (.cons (.ifs (.cmp .lt (.var 4) (.cst (.int 2))) (.cons (.asg (.nam 3) (.idx (.lst false (.cons (.cst (.int 0)) (.cons (.bin .mul false (.var 1) (.var 2)) .nil))) (.var 4))) .nil) .nil) t_law_ends_1)
def t_law_ends_3 : CSs := (.cons (.asg (.nam 4) (.call f_law_take (.cons (.var 0) (.cons (.cst (.int 5)) .nil)))) t_law_ends_2)
def t_law_ends_4 : CSs := (.cons (.asg (.nam 3) (.bin .mod false (.bin .add false (.bin .mul false (.call f_law_take (.cons (.var 0) (.cons (.cst (.int 1000)) .nil))) (.cst (.int 1000003))) (.call f_law_take (.cons (.var 0) (.cons (.cst (.int 1000003)) .nil)))) (.bin .add false (.bin .mul false (.var 1) (.var 2)) (.cst (.int 1))))) t_law_ends_3)
def b_law_ends : CSs := (.cons (.asg (.nam 2) (.idx (.lst false (.cons (.cst (.int 1)) (.cons (.cst (.int 1)) (.cons (.cst (.int 2)) (.cons (.cst (.int 1000)) (.cons (.bin .add false (.cst (.int 1)) (.call f_law_take (.cons (.var 0) (.cons (.cst (.int 1000)) .nil)))) .nil)))))) (.call f_law_take (.cons (.var 0) (.cons (.cst (.int 5)) .nil))))) t_law_ends_4)
def d_law_ends : Df := ⟨"_law_ends", none, 2, 5, true, b_law_ends⟩
def t_law_raw_0 : CSs := (.cons (.ret (.bin .add false (.bin .add false (.var 8) (.tup (.cons (.idx (.var 4) (.call f_law_take (.cons (.var 0) (.cons (.blt .len false (.cons (.var 4) .nil)) .nil)))) (.cons (.var 7) .nil)))) (.var 5))) .nil)
def t_law_raw_1 : CSs := (.cons (.asg (.nam 8) (.tup (.cons (.cst (.str "mark")) (.cons (.idx (.var 2) (.call f_law_take (.cons (.var 0) (.cons (.blt .len false (.cons (.var 2) .nil)) .nil)))) (.cons (.idx (.var 3) (.call f_law_take (.cons (.var 0) (.cons (.blt .len false (.cons (.var 3) .nil)) .nil)))) .nil))))) t_law_raw_0)
def t_law_raw_2 : CSs := (.cons (.asg (.nam 7) (.idx (.lst false (.cons (.cst (.int 0)) (.cons (.cst (.int 999)) (.cons (.call f_law_take (.cons (.var 0) (.cons (.cst (.int 1000)) .nil))) (.cons (.call f_law_take (.cons (.var 0) (.cons (.cst (.int 4)) .nil))) .nil))))) (.call f_law_take (.cons (.var 0) (.cons (.cst (.int 4)) .nil))))) t_law_raw_1)
def t_law_raw_3 : CSs := (.cons (.ifs (.cmp .eq (.var 6) (.cst (.int 1))) (.cons (.ret (.bin .add false (.tup (.cons (.cst (.str "gain")) (.cons (.idx (.var 4) (.call f_law_take (.cons (.var 0) (.cons (.blt .len false (.cons (.var 4) .nil)) .nil)))) .nil))) (.var 5))) .nil) .nil) t_law_raw_2)
def t_law_raw_4 : CSs := (.cons (.ifs (.cmp .eq (.var 6) (.cst (.int 0))) (.cons (.ret (.bin .add false (.tup (.cons (.cst (.str "habit")) (.cons (.idx (.var 2) (.call f_law_take (.cons (.var 0) (.cons (.blt .len false (.cons (.var 2) .nil)) .nil)))) .nil))) (.var 5))) .nil) .nil) t_law_raw_3)
def t_law_raw_5 : CSs := (.cons (.asg (.nam 6) (.call f_law_take (.cons (.var 0) (.cons (.cst (.int 7)) .nil)))) t_law_raw_4)
def t_law_raw_6 : CSs := (.cons (.asg (.nam 5) (.tup (.cons (.call f_law_ends (.cons (.var 0) (.cons (.bin .pow false (.cst (.int 10)) (.cst (.int 6))) .nil))) (.cons (.call f_law_size (.cons (.call f_law_ends (.cons (.var 0) (.cons (.cst (.int 1000)) .nil))) .nil)) .nil)))) t_law_raw_5)
def b_law_raw : CSs := (.cons (.asg (.tup [2, 3, 4]) (.var 1)) t_law_raw_6)
def d_law_raw : Df := ⟨"_law_raw", none, 2, 9, true, b_law_raw⟩
def b_law_wide_sorts : CSs := (.cons (.asg (.nam 1) (.call f_law_names (.cons (.var 0) (.cons (.cst (.int 12)) .nil)))) (.cons (.ret (.lst false (.cons (.slc (.var 1) .non (.som (.cst (.int 6)))) (.cons (.slc (.var 1) (.som (.cst (.int 5))) (.som (.cst (.int 10)))) (.cons (.slc (.var 1) (.som (.cst (.int 8))) .non) .nil))))) .nil))
def d_law_wide_sorts : Df := ⟨"_law_wide_sorts", none, 1, 2, true, b_law_wide_sorts⟩
def e_law_only_0 : CE := (.cmp .eq (.var 3) (.var 1))
def t_law_only_1 : CSs := (.cons (.ret (.bop true (.cons (.isi (.var 0) (.exc 0)) (.cons (.isi (.var 0) .verr) (.cons (.cmp .eq (.var 2) (.comp false [("_law_k", 3)] (.nam 3) (.rng1 (.cst (.int 15))) .nil e_law_only_0)) .nil))))) .nil)
def t_law_only_2 : CSs := (.cons (.asg (.nam 2) (.bin .add false (.var 2) (.lst false (.cons (.isi (.var 0) (.exc 6)) (.cons (.isi (.var 0) (.exc 9)) (.cons (.isi (.var 0) (.exc 10)) (.cons (.isi (.var 0) (.exc 15)) .nil))))))) t_law_only_1)
def t_law_only_3 : CSs := (.cons (.asg (.nam 2) (.bin .add false (.var 2) (.lst false (.cons (.isi (.var 0) (.exc 4)) (.cons (.isi (.var 0) (.exc 1)) (.cons (.isi (.var 0) (.exc 5)) .nil)))))) t_law_only_2)
def t_law_only_4 : CSs := (.cons (.asg (.nam 2) (.bin .add false (.var 2) (.lst false (.cons (.isi (.var 0) (.exc 7)) (.cons (.isi (.var 0) (.exc 8)) (.cons (.isi (.var 0) (.exc 13)) (.cons (.isi (.var 0) (.exc 14)) .nil))))))) t_law_only_3)
def b_law_only : CSs := (.cons (.asg (.nam 2) (.lst false (.cons (.isi (.var 0) (.exc 2)) (.cons (.isi (.var 0) (.exc 3)) (.cons (.isi (.var 0) (.exc 12)) (.cons (.isi (.var 0) (.exc 11)) .nil)))))) t_law_only_4)
def d_law_only : Df := ⟨"_law_only", none, 2, 4, true, b_law_only⟩
def t_law_joins_0 : CSs := (.cons (.ret (.cst (.bool true))) .nil)
def e_law_joins_1 : CE := (.call f_law_quarrel (.cons (.idx (.var 0) (.var 4)) (.cons (.var 5) .nil)))
def l_law_joins_2 : CSs := (.cons (.ifs (.bop true (.cons (.cmp .eq (.idx (.idx (.var 0) (.var 4)) (.cst (.int 0))) (.cst (.str "mark"))) (.cons (.cmp .isin (.slc (.idx (.var 0) (.var 4)) (.som (.cst (.int 3))) (.som (.cst (.int 5)))) (.var 1)) .nil))) (.cons (.ret (.cst (.bool false))) .nil) .nil) (.cons (.ifs (.blt .any false (.cons (.comp false [("_law_ahead", 5)] (.nam 5) (.ex (.slc (.var 0) .non (.som (.var 4)))) .nil e_law_joins_1) .nil)) (.cons (.ret (.cst (.bool false))) .nil) .nil) .nil))
def t_law_joins_3 : CSs := (.cons (.for_ (.nam 4) (.rng1 (.blt .len false (.cons (.var 0) .nil))) l_law_joins_2) t_law_joins_0)
def g_law_joins_4 : CEs := (.cons (.cmp .eq (.idx (.var 3) (.cst (.int 0))) (.cst (.str "mark"))) .nil)
def e_law_joins_5 : CE := (.idx (.var 3) (.cst (.int 2)))
def t_law_joins_6 : CSs := (.cons (.ifs (.cmp .gt (.lset (.comp false [("_law_entry", 3)] (.nam 3) (.ex (.var 0)) g_law_joins_4 e_law_joins_5)) (.cst (.int 4))) (.cons (.ret (.cst (.bool false))) .nil) .nil) t_law_joins_3)
def g_law_joins_7 : CEs := (.cons (.cmp .ne (.idx (.var 3) (.cst (.int 0))) (.cst (.str "gain"))) .nil)
def e_law_joins_8 : CE := (.idx (.var 3) (.cst (.int 1)))
def t_law_joins_9 : CSs := (.cons (.ifs (.cmp .gt (.lset (.comp false [("_law_entry", 3)] (.nam 3) (.ex (.var 0)) g_law_joins_7 e_law_joins_8)) (.cst (.int 5))) (.cons (.ret (.cst (.bool false))) .nil) .nil) t_law_joins_6)
def t_law_joins_10 : CSs := (.cons (.ifs (.bop false (.cons (.cmp .gt (.blt .len false (.cons (.var 0) .nil)) (.cst (.int 16))) (.cons (.cmp .gt (.blt .len false (.cons (.var 1) .nil)) (.cst (.int 8))) (.cons (.cmp .gt (.lset (.var 2)) (.cst (.int 3))) .nil)))) (.cons (.ret (.cst (.bool false))) .nil) .nil) t_law_joins_9)
def g_law_joins_11 : CEs := (.cons (.cmp .eq (.idx (.var 3) (.cst (.int 0))) (.cst (.str "gain"))) .nil)
def e_law_joins_12 : CE := (.idx (.var 3) (.cst (.int 1)))
def t_law_joins_13 : CSs := (.cons (.asg (.nam 2) (.bin .add false (.var 2) (.comp false [("_law_entry", 3)] (.nam 3) (.ex (.var 0)) g_law_joins_11 e_law_joins_12))) t_law_joins_10)
def g_law_joins_14 : CEs := (.cons (.cmp .eq (.idx (.var 3) (.cst (.int 0))) (.cst (.str "mark"))) .nil)
def e_law_joins_15 : CE := (.idx (.var 3) (.cst (.int 3)))
def b_law_joins : CSs := (.cons (.setc 2 (.comp false [("_law_entry", 3)] (.nam 3) (.ex (.var 0)) g_law_joins_14 e_law_joins_15)) t_law_joins_13)
def d_law_joins : Df := ⟨"_law_joins", none, 2, 6, true, b_law_joins⟩
def g_law_asked_0 : CEs := (.cons (.call f_law_only (.cons (.var 2) (.cons (.var 4) .nil))) .nil)
def e_law_asked_1 : CE := (.var 4)
def t_law_asked_2 : CSs := (.cons (.ret (.slc (.comp false [("_law_k", 4)] (.nam 4) (.rng1 (.cst (.int 15))) g_law_asked_0 e_law_asked_1) .non (.som (.cst (.int 1))))) .nil)
def t_law_asked_3 : CSs := (.cons (.ifs (.cmp .is (.var 2) (.cst .none)) (.cons (.ret (.cst .none)) .nil) .nil) t_law_asked_2)
def t_law_asked_4 : CSs := (.cons (.tryas 0 3 (.cons (.ifs (.cmp .eq (.idx (.var 1) (.cst (.int 0))) (.cst (.str "enter"))) (.cons (.expr (.meth (.var 0) 0 "enter" f_Keeper_enter (.cons (.idx (.var 1) (.cst (.int 1))) .nil))) .nil) (.cons (.ifs (.cmp .eq (.idx (.var 1) (.cst (.int 0))) (.cst (.str "strike"))) (.cons (.expr (.meth (.var 0) 0 "strike" f_Keeper_strike (.cons (.idx (.var 1) (.cst (.int 1))) .nil))) .nil) (.cons (.ifs (.cmp .eq (.idx (.var 1) (.cst (.int 0))) (.cst (.str "cloud"))) (.cons (.expr (.meth (.var 0) 0 "cloud" f_Keeper_cloud (.cons (.idx (.var 1) (.cst (.int 1))) (.cons (.idx (.var 1) (.cst (.int 2))) .nil)))) .nil) (.cons (.ifs (.cmp .eq (.idx (.var 1) (.cst (.int 0))) (.cst (.str "uncloud"))) (.cons (.expr (.meth (.var 0) 0 "uncloud" f_Keeper_uncloud (.cons (.idx (.var 1) (.cst (.int 1))) (.cons (.idx (.var 1) (.cst (.int 2))) .nil)))) .nil) (.cons (.expr (.meth (.var 0) 0 "back" f_Keeper_back .nil)) .nil)) .nil)) .nil)) .nil)) .nil) (.cons (.asg (.nam 2) (.var 3)) .nil)) t_law_asked_3)
def b_law_asked : CSs := (.cons (.asg (.nam 2) (.cst .none)) t_law_asked_4)
def d_law_asked : Df := ⟨"_law_asked", none, 2, 5, true, b_law_asked⟩
def t_law_due_0 : CSs := (.cons (.ret (.cst .none)) .nil)
def t_law_due_1 : CSs := (.cons (.ifs (.bop true (.cons (.cmp .eq (.idx (.var 2) (.cst (.int 0))) (.cst (.str "cloud"))) (.cons (.not (.call f_law_joins (.cons (.var 3) (.cons (.bin .add false (.var 4) (.lst false (.cons (.slc (.var 2) (.som (.cst (.int 1))) .non) .nil))) .nil)))) .nil))) (.cons (.ret (.lst false (.cons (.cst (.int 3)) .nil))) .nil) .nil) t_law_due_0)
def t_law_due_2 : CSs := (.cons (.ifs (.cmp .eq (.cmp .isin (.slc (.var 2) (.som (.cst (.int 1))) .non) (.var 4)) (.cmp .eq (.idx (.var 2) (.cst (.int 0))) (.cst (.str "cloud")))) (.cons (.ret (.lst false (.cons (.cst (.int 6)) .nil))) .nil) .nil) t_law_due_1)
def t_law_due_3 : CSs := (.cons (.ifs (.cmp .eq (.idx (.var 2) (.cst (.int 0))) (.cst (.str "strike"))) (.cons (.ret (.ite (.cmp .isin (.idx (.var 2) (.cst (.int 1))) (.var 3)) (.cst .none) (.lst false (.cons (.cst (.int 2)) .nil)))) .nil) .nil) t_law_due_2)
def t_law_due_4 : CSs := (.cons (.ifs (.cmp .eq (.idx (.var 2) (.cst (.int 0))) (.cst (.str "enter"))) (.cons (.ifs (.cmp .isin (.idx (.var 2) (.cst (.int 1))) (.var 3)) (.cons (.ret (.lst false (.cons (.cst (.int 2)) .nil))) .nil) .nil) (.cons (.ret (.ite (.call f_law_joins (.cons (.bin .add false (.var 3) (.lst false (.cons (.idx (.var 2) (.cst (.int 1))) .nil))) (.cons (.var 4) .nil))) (.cst .none) (.lst false (.cons (.cst (.int 3)) .nil)))) .nil)) .nil) t_law_due_3)
def t_law_due_5 : CSs := (.cons (.ifs (.cmp .eq (.idx (.var 2) (.cst (.int 0))) (.cst (.str "back"))) (.cons (.ret (.ite (.cmp .eq (.var 1) (.lst false .nil)) (.lst false (.cons (.cst (.int 7)) .nil)) (.cst .none))) .nil) .nil) t_law_due_4)
def b_law_due : CSs := (.cons (.asg (.tup [3, 4]) (.var 0)) t_law_due_5)
def d_law_due : Df := ⟨"_law_due", none, 3, 5, true, b_law_due⟩
def t_law_does_0 : CSs := (.cons (.ret (.lst false (.cons (.var 3) (.cons (.var 4) .nil)))) .nil)
def t_law_does_1 : CSs := (.cons (.ifs (.cmp .eq (.idx (.var 2) (.cst (.int 0))) (.cst (.str "enter"))) (.cons (.expr (.bmt .append false (.var 3) (.cons (.idx (.var 2) (.cst (.int 1))) .nil))) .nil) (.cons (.ifs (.cmp .eq (.idx (.var 2) (.cst (.int 0))) (.cst (.str "strike"))) (.cons (.expr (.bmt .remove false (.var 3) (.cons (.idx (.var 2) (.cst (.int 1))) .nil))) .nil) (.cons (.ifs (.cmp .eq (.idx (.var 2) (.cst (.int 0))) (.cst (.str "cloud"))) (.cons (.expr (.bmt .append false (.var 4) (.cons (.slc (.var 2) (.som (.cst (.int 1))) .non) .nil))) .nil) (.cons (.expr (.bmt .remove false (.var 4) (.cons (.slc (.var 2) (.som (.cst (.int 1))) .non) .nil))) .nil)) .nil)) .nil)) t_law_does_0)
def t_law_does_2 : CSs := (.cons (.asg (.tup [3, 4]) (.lst false (.cons (.blt .list true (.cons (.idx (.var 0) (.cst (.int 0))) .nil)) (.cons (.blt .list true (.cons (.idx (.var 0) (.cst (.int 1))) .nil)) .nil)))) t_law_does_1)
def t_law_does_3 : CSs := (.cons (.expr (.bmt .append false (.var 1) (.cons (.lst false (.cons (.blt .list false (.cons (.idx (.var 0) (.cst (.int 0))) .nil)) (.cons (.blt .list false (.cons (.idx (.var 0) (.cst (.int 1))) .nil)) .nil))) .nil))) t_law_does_2)
def b_law_does : CSs := (.cons (.ifs (.cmp .eq (.idx (.var 2) (.cst (.int 0))) (.cst (.str "back"))) (.cons (.ret (.bmt .pop0 false (.var 1) .nil)) .nil) .nil) t_law_does_3)
def d_law_does : Df := ⟨"_law_does", none, 3, 5, false, b_law_does⟩
def t_law_deed_0 : CSs := (.cons (.ret (.tup (.cons (.cst (.str "enter")) (.cons (.call f_law_raw (.cons (.var 0) (.cons (.var 1) .nil))) .nil)))) .nil)
def t_law_deed_1 : CSs := (.cons (.ret (.tup (.cons (.idx (.lst false (.cons (.cst (.str "cloud")) (.cons (.cst (.str "cloud")) (.cons (.cst (.str "uncloud")) .nil)))) (.call f_law_take (.cons (.var 0) (.cons (.cst (.int 3)) .nil)))) (.cons (.var 6) (.cons (.var 7) .nil))))) .nil)
def t_law_deed_2 : CSs := (.cons (.asg (.nam 7) (.call f_law_take (.cons (.var 0) (.cons (.idx (.lst false (.cons (.cst (.int 4)) (.cons (.cst (.int 1000)) .nil))) (.call f_law_take (.cons (.var 0) (.cons (.cst (.int 2)) .nil)))) .nil)))) t_law_deed_1)
def t_law_deed_3 : CSs := (.cons (.ifs (.cmp .lt (.var 5) (.cst (.int 8))) (.cons (.asg (.nam 6) (.idx (.idx (.var 1) (.cst (.int 2))) (.call f_law_take (.cons (.var 0) (.cons (.blt .len false (.cons (.idx (.var 1) (.cst (.int 2))) .nil)) .nil))))) t_law_deed_2) .nil) t_law_deed_0)
def t_law_deed_4 : CSs := (.cons (.ifs (.bop true (.cons (.cmp .eq (.var 5) (.cst (.int 4))) (.cons (.cmp .ne (.var 3) (.lst false .nil)) .nil))) (.cons (.ret (.tup (.cons (.cst (.str "enter")) (.cons (.idx (.var 3) (.call f_law_take (.cons (.var 0) (.cons (.blt .len false (.cons (.var 3) .nil)) .nil)))) .nil)))) .nil) .nil) t_law_deed_3)
def t_law_deed_5 : CSs := (.cons (.ifs (.bop true (.cons (.cmp .eq (.var 5) (.cst (.int 3))) (.cons (.cmp .ne (.var 4) (.lst false .nil)) .nil))) (.cons (.ret (.bin .add false (.tup (.cons (.cst (.str "uncloud")) .nil)) (.idx (.var 4) (.call f_law_take (.cons (.var 0) (.cons (.blt .len false (.cons (.var 4) .nil)) .nil)))))) .nil) .nil) t_law_deed_4)
def t_law_deed_6 : CSs := (.cons (.ifs (.cmp .eq (.var 5) (.cst (.int 2))) (.cons (.ret (.tup (.cons (.cst (.str "strike")) (.cons (.call f_law_raw (.cons (.var 0) (.cons (.var 1) .nil))) .nil)))) .nil) .nil) t_law_deed_5)
def t_law_deed_7 : CSs := (.cons (.ifs (.bop true (.cons (.cmp .eq (.var 5) (.cst (.int 1))) (.cons (.cmp .ne (.var 3) (.lst false .nil)) .nil))) (.cons (.ret (.tup (.cons (.cst (.str "strike")) (.cons (.idx (.var 3) (.call f_law_take (.cons (.var 0) (.cons (.blt .len false (.cons (.var 3) .nil)) .nil)))) .nil)))) .nil) .nil) t_law_deed_6)
def t_law_deed_8 : CSs := (.cons (.ifs (.cmp .eq (.var 5) (.cst (.int 0))) (.cons (.ret (.tup (.cons (.cst (.str "back")) .nil))) .nil) .nil) t_law_deed_7)
def t_law_deed_9 : CSs := (.cons (.asg (.nam 5) (.call f_law_take (.cons (.var 0) (.cons (.cst (.int 16)) .nil)))) t_law_deed_8)
def b_law_deed : CSs := (.cons (.asg (.tup [3, 4]) (.var 2)) t_law_deed_9)
def d_law_deed : Df := ⟨"_law_deed", none, 3, 8, true, b_law_deed⟩
def b_law_stands : CSs := (.cons (.asg (.nam 2) (.meth (.var 0) 0 "book" f_Keeper_book .nil)) (.cons (.ret (.bop true (.cons (.isi (.var 2) .tuple) (.cons (.cmp .eq (.var 2) (.tup (.cons (.blt .tuple false (.cons (.blt .sorted false (.cons (.idx (.var 1) (.cst (.int 0))) .nil)) .nil)) (.cons (.blt .tuple false (.cons (.blt .sorted false (.cons (.idx (.var 1) (.cst (.int 1))) .nil)) .nil)) .nil)))) .nil)))) .nil))
def d_law_stands : Df := ⟨"_law_stands", none, 2, 3, true, b_law_stands⟩
def l_law_0 : CSs := (.cons (.asg (.nam 6) (.call f_law_pool (.cons (.call f_law_cell (.cons (.var 0) (.cons (.var 5) .nil))) .nil))) (.cons (.asg (.nam 7) (.call f_law_deed (.cons (.var 6) (.cons (.var 1) (.cons (.var 3) .nil))))) (.cons (.asg (.nam 8) (.call f_law_due (.cons (.var 3) (.cons (.var 4) (.cons (.var 7) .nil))))) (.cons (.ifs (.cmp .ne (.call f_law_asked (.cons (.var 2) (.cons (.var 7) .nil))) (.var 8)) (.cons (.ret (.cst (.bool false))) .nil) .nil) (.cons (.ifs (.cmp .is (.var 8) (.cst .none)) (.cons (.asg (.nam 3) (.call f_law_does (.cons (.var 3) (.cons (.var 4) (.cons (.var 7) .nil))))) .nil) .nil) (.cons (.ifs (.bop true (.cons (.cmp .gt (.call f_law_take (.cons (.var 6) (.cons (.cst (.int 3)) .nil))) (.cst (.int 0))) (.cons (.not (.call f_law_stands (.cons (.var 2) (.cons (.var 3) .nil)))) .nil))) (.cons (.ret (.cst (.bool false))) .nil) .nil) .nil))))))
def b_law : CSs := (.cons (.asg (.nam 1) (.call f_law_wide_sorts (.cons (.call f_law_pool (.cons (.call f_law_cell (.cons (.var 0) (.cons (.cst (.int 0)) .nil))) .nil)) .nil))) (.cons (.asg (.nam 2) (.mk 0 f_Keeper_init .nil)) (.cons (.par 3 4 (.lst false (.cons (.lst false .nil) (.cons (.lst false .nil) .nil))) (.lst true .nil)) (.cons (.ifs (.cmp .ne (.meth (.var 2) 0 "book" f_Keeper_book .nil) (.tup (.cons (.tup .nil) (.cons (.tup .nil) .nil)))) (.cons (.ret (.cst (.bool false))) .nil) .nil) (.cons (.for_ (.nam 5) (.rng2 (.cst (.int 1)) (.blt .max2 false (.cons (.cst (.int 11)) (.cons (.blt .min2 false (.cons (.blt .len false (.cons (.var 0) .nil)) (.cons (.cst (.int 61)) .nil))) .nil)))) l_law_0) (.cons (.ret (.call f_law_stands (.cons (.var 2) (.cons (.var 3) .nil)))) .nil))))))
def d_law : Df := ⟨"law", none, 1, 9, true, b_law⟩
def m_law : DefM := ⟨d_law, ("law", none), "law", ["_law_script", "_law_names_here", "_law_keeper", "_law_state", "_law_ahead", "_law_k", "_law_pool_here", "_law_deed_here", "_law_due_here"], top 73⟩
def L : List DefM := [⟨d_wall, ("_wall", none), "_wall", ["k"], top 0⟩,
  ⟨d_is_whole, ("is_whole", none), "is_whole", ["thing"], top 19⟩,
  ⟨d_shared, ("shared", none), "shared", ["one", "other"], top 20⟩,
  ⟨d_is_fraction, ("is_fraction", none), "is_fraction", ["thing"], top 21⟩,
  ⟨d_is_name, ("is_name", none), "is_name", ["thing", "sign"], top 25⟩,
  ⟨d_is_night, ("is_night", none), "is_night", ["thing"], top 36⟩,
  ⟨d_is_told, ("is_told", none), "is_told", ["thing", "least", "most"], top 37⟩,
  ⟨d_are_ends, ("are_ends", none), "are_ends", ["amount", "good"], top 38⟩,
  ⟨d_is_entry, ("is_entry", none), "is_entry", ["thing", "name"], top 39⟩,
  ⟨d_is_cloud, ("is_cloud", none), "is_cloud", ["thing"], top 40⟩,
  ⟨d_quarrel, ("quarrel", none), "quarrel", ["one", "other"], top 41⟩,
  ⟨d_are_rising, ("are_rising", none), "are_rising", ["row", "k"], top 42⟩,
  ⟨d_watchers_in, ("watchers_in", none), "watchers_in", ["entries", "entry"], top 43⟩,
  ⟨d_stars_in, ("stars_in", none), "stars_in", ["entries", "entry"], top 44⟩,
  ⟨d_places_in, ("places_in", none), "places_in", ["entries", "found", "entry"], top 45⟩,
  ⟨d_are_few, ("are_few", none), "are_few", ["entries"], top 46⟩,
  ⟨d_are_at_peace, ("are_at_peace", none), "are_at_peace", ["entries", "k", "other"], top 47⟩,
  ⟨d_are_clouds, ("are_clouds", none), "are_clouds", ["thing", "one"], top 48⟩,
  ⟨d_is_book, ("is_book", none), "is_book", ["thing", "entries", "clouds", "entry"], top 49⟩,
  ⟨d_with_one, ("with_one", none), "with_one", ["row", "thing"], top 51⟩,
  ⟨d_without_one, ("without_one", none), "without_one", ["row", "thing", "one"], top 52⟩,
  ⟨d_check_cloud, ("check_cloud", none), "check_cloud", ["place", "night"], top 53⟩,
  ⟨d_Keeper_init, ("Keeper", some "__init__"), "Keeper.__init__", ["self"], bod (top 54) 0⟩,
  ⟨d_Keeper_take, ("Keeper", some "take"), "Keeper.take", ["self", "book"], bod (top 54) 1⟩,
  ⟨d_Keeper_enter, ("Keeper", some "enter"), "Keeper.enter", ["self", "entry", "entries", "clouds"], bod (top 54) 2⟩,
  ⟨d_Keeper_strike, ("Keeper", some "strike"), "Keeper.strike", ["self", "entry", "entries", "clouds"], bod (top 54) 3⟩,
  ⟨d_Keeper_cloud, ("Keeper", some "cloud"), "Keeper.cloud", ["self", "place", "night", "entries", "clouds"], bod (top 54) 4⟩,
  ⟨d_Keeper_uncloud, ("Keeper", some "uncloud"), "Keeper.uncloud", ["self", "place", "night", "entries", "clouds"], bod (top 54) 5⟩,
  ⟨d_Keeper_back, ("Keeper", some "back"), "Keeper.back", ["self"], bod (top 54) 6⟩,
  ⟨d_Keeper_book, ("Keeper", some "book"), "Keeper.book", ["self"], bod (top 54) 7⟩,
  ⟨d_law_cell, ("_law_cell", none), "_law_cell", ["_law_script", "_law_k", "_law_state", "_law_cell_here"], top 56⟩,
  ⟨d_law_pool, ("_law_pool", none), "_law_pool", ["_law_cell_here", "_law_digits"], top 57⟩,
  ⟨d_law_take, ("_law_take", none), "_law_take", ["_law_pool_here", "_law_many", "_law_state", "_law_digit"], top 58⟩,
  ⟨d_law_low, ("_law_low", none), "_law_low", ["_law_top", "_law_bottom", "_law_a", "_law_b"], top 59⟩,
  ⟨d_law_size, ("_law_size", none), "_law_size", ["_law_one"], top 60⟩,
  ⟨d_law_names, ("_law_names", none), "_law_names", ["_law_pool_here", "_law_many", "_law_words", "_law_at", "_law_step", "_law_k", "_law_letters", "_law_stem", "_law_put", "_law_first"], top 61⟩,
  ⟨d_law_quarrel, ("_law_quarrel", none), "_law_quarrel", ["_law_one", "_law_other"], top 62⟩,
  ⟨d_law_ends, ("_law_ends", none), "_law_ends", ["_law_pool_here", "_law_most", "_law_bottom", "_law_size_here", "_law_way"], top 63⟩,
  ⟨d_law_raw, ("_law_raw", none), "_law_raw", ["_law_pool_here", "_law_names_here", "_law_who", "_law_what", "_law_where", "_law_ends_here", "_law_way", "_law_night", "_law_head"], top 64⟩,
  ⟨d_law_wide_sorts, ("_law_wide_sorts", none), "_law_wide_sorts", ["_law_pool_here", "_law_names_here"], top 65⟩,
  ⟨d_law_only, ("_law_only", none), "_law_only", ["_law_e", "_law_at", "_law_kinds", "_law_k"], top 66⟩,
  ⟨d_law_joins, ("_law_joins", none), "_law_joins", ["_law_entries", "_law_clouds", "_law_where", "_law_entry", "_law_k", "_law_ahead"], top 67⟩,
  ⟨d_law_asked, ("_law_asked", none), "_law_asked", ["_law_keeper", "_law_deed_here", "_law_caught", "_law_e", "_law_k"], top 68⟩,
  ⟨d_law_due, ("_law_due", none), "_law_due", ["_law_state", "_law_ahead", "_law_deed_here", "_law_entries", "_law_clouds"], top 69⟩,
  ⟨d_law_does, ("_law_does", none), "_law_does", ["_law_state", "_law_ahead", "_law_deed_here", "_law_entries", "_law_clouds"], top 70⟩,
  ⟨d_law_deed, ("_law_deed", none), "_law_deed", ["_law_pool_here", "_law_names_here", "_law_state", "_law_entries", "_law_clouds", "_law_way", "_law_place", "_law_night"], top 71⟩,
  ⟨d_law_stands, ("_law_stands", none), "_law_stands", ["_law_keeper", "_law_state", "_law_told"], top 72⟩,
  ⟨d_law, ("law", none), "law", ["_law_script", "_law_names_here", "_law_keeper", "_law_state", "_law_ahead", "_law_k", "_law_pool_here", "_law_deed_here", "_law_due_here"], top 73⟩]
def S : Sg := { T := [d_wall, d_is_whole, d_shared, d_is_fraction, d_is_name, d_is_night, d_is_told, d_are_ends, d_is_entry, d_is_cloud, d_quarrel, d_are_rising, d_watchers_in, d_stars_in, d_places_in, d_are_few, d_are_at_peace, d_are_clouds, d_is_book, d_with_one, d_without_one, d_check_cloud, d_Keeper_init, d_Keeper_take, d_Keeper_enter, d_Keeper_strike, d_Keeper_cloud, d_Keeper_uncloud, d_Keeper_back, d_Keeper_book, d_law_cell, d_law_pool, d_law_take, d_law_low, d_law_size, d_law_names, d_law_quarrel, d_law_ends, d_law_raw, d_law_wide_sorts, d_law_only, d_law_joins, d_law_asked, d_law_due, d_law_does, d_law_deed, d_law_stands, d_law], glbs := [("LETTERS", (.str "abcdefghijklmnopqrstuvwxyz")), ("MOST_LETTERS", (.int 8)), ("LAST_NIGHT", (.int 999)), ("MOST_BOTTOM", (.int 1000)), ("MOST_GOOD", (.int 1000)), ("MOST_MOMENT", (.int 1000000)), ("MOST_PLACES", (.int 3)), ("MOST_STARS", (.int 4)), ("MOST_WATCHERS", (.int 5)), ("MOST_ENTRIES", (.int 16)), ("MOST_CLOUDS", (.int 8))], frees := ["ValueError", "abs", "all", "any", "bool", "divmod", "int", "isinstance", "len", "list", "max", "min", "range", "set", "sorted", "str", "tuple"], excs := ["MarkError", "NoNumber", "NoBook", "NoText", "NoQuantity", "NoTelling", "NoMark", "NoPlace", "NoNight", "NoWatch", "NoWatcher", "NoJoin", "NoEntry", "NoCloud", "NoBack", "NoRow"], plain := ["MarkError", "NoNumber", "NoBook", "NoQuantity", "NoTelling", "NoMark", "NoPlace", "NoNight", "NoWatch", "NoWatcher", "NoJoin", "NoEntry", "NoCloud", "NoBack", "NoRow"], clss := [("Keeper", ["now", "before"])] }
/-- where a body runs -/
noncomputable def cc (n : Nat) : Cc := ⟨S.glb, M.run S.glb S.T n, whM⟩
@[simp] theorem cc_call (n : Nat) : (cc n).call = M.run S.glb S.T n := rfl
@[simp] theorem cc_wh (n : Nat) : (cc n).wh = whM := rfl
@[simp] theorem cc_glb (n : Nat) : (cc n).glb = S.glb := rfl
@[simp] theorem glb_0 : S.glb 0 = some (.str "abcdefghijklmnopqrstuvwxyz") := rfl
@[simp] theorem glb_1 : S.glb 1 = some (.int 8) := rfl
@[simp] theorem glb_2 : S.glb 2 = some (.int 999) := rfl
@[simp] theorem glb_3 : S.glb 3 = some (.int 1000) := rfl
@[simp] theorem glb_4 : S.glb 4 = some (.int 1000) := rfl
@[simp] theorem glb_5 : S.glb 5 = some (.int 1000000) := rfl
@[simp] theorem glb_6 : S.glb 6 = some (.int 3) := rfl
@[simp] theorem glb_7 : S.glb 7 = some (.int 4) := rfl
@[simp] theorem glb_8 : S.glb 8 = some (.int 5) := rfl
@[simp] theorem glb_9 : S.glb 9 = some (.int 16) := rfl
@[simp] theorem glb_10 : S.glb 10 = some (.int 8) := rfl
theorem run_wall (n : Nat) (w0 : W) (h : Hh) : M.run S.glb S.T (n + 1) f_wall [w0] h = finish true h.length (exs (cc n) b_wall [some w0] h) := run_at (d := d_wall) rfl rfl
theorem run_is_whole (n : Nat) (w0 : W) (h : Hh) : M.run S.glb S.T (n + 1) f_is_whole [w0] h = finish true h.length (exs (cc n) b_is_whole [some w0] h) := run_at (d := d_is_whole) rfl rfl
theorem run_shared (n : Nat) (w0 w1 : W) (h : Hh) : M.run S.glb S.T (n + 1) f_shared [w0, w1] h = finish true h.length (exs (cc n) b_shared [some w0, some w1] h) := run_at (d := d_shared) rfl rfl
theorem run_is_fraction (n : Nat) (w0 : W) (h : Hh) : M.run S.glb S.T (n + 1) f_is_fraction [w0] h = finish true h.length (exs (cc n) b_is_fraction [some w0] h) := run_at (d := d_is_fraction) rfl rfl
theorem run_is_name (n : Nat) (w0 : W) (h : Hh) : M.run S.glb S.T (n + 1) f_is_name [w0] h = finish true h.length (exs (cc n) b_is_name [some w0, none] h) := run_at (d := d_is_name) rfl rfl
theorem run_is_night (n : Nat) (w0 : W) (h : Hh) : M.run S.glb S.T (n + 1) f_is_night [w0] h = finish true h.length (exs (cc n) b_is_night [some w0] h) := run_at (d := d_is_night) rfl rfl
theorem run_is_told (n : Nat) (w0 w1 w2 : W) (h : Hh) : M.run S.glb S.T (n + 1) f_is_told [w0, w1, w2] h = finish true h.length (exs (cc n) b_is_told [some w0, some w1, some w2] h) := run_at (d := d_is_told) rfl rfl
theorem run_are_ends (n : Nat) (w0 w1 : W) (h : Hh) : M.run S.glb S.T (n + 1) f_are_ends [w0, w1] h = finish true h.length (exs (cc n) b_are_ends [some w0, some w1] h) := run_at (d := d_are_ends) rfl rfl
theorem run_is_entry (n : Nat) (w0 : W) (h : Hh) : M.run S.glb S.T (n + 1) f_is_entry [w0] h = finish true h.length (exs (cc n) b_is_entry [some w0, none] h) := run_at (d := d_is_entry) rfl rfl
theorem run_is_cloud (n : Nat) (w0 : W) (h : Hh) : M.run S.glb S.T (n + 1) f_is_cloud [w0] h = finish true h.length (exs (cc n) b_is_cloud [some w0] h) := run_at (d := d_is_cloud) rfl rfl
theorem run_quarrel (n : Nat) (w0 w1 : W) (h : Hh) : M.run S.glb S.T (n + 1) f_quarrel [w0, w1] h = finish true h.length (exs (cc n) b_quarrel [some w0, some w1] h) := run_at (d := d_quarrel) rfl rfl
theorem run_are_rising (n : Nat) (w0 : W) (h : Hh) : M.run S.glb S.T (n + 1) f_are_rising [w0] h = finish true h.length (exs (cc n) b_are_rising [some w0, none] h) := run_at (d := d_are_rising) rfl rfl
theorem run_watchers_in (n : Nat) (w0 : W) (h : Hh) : M.run S.glb S.T (n + 1) f_watchers_in [w0] h = finish true h.length (exs (cc n) b_watchers_in [some w0, none] h) := run_at (d := d_watchers_in) rfl rfl
theorem run_stars_in (n : Nat) (w0 : W) (h : Hh) : M.run S.glb S.T (n + 1) f_stars_in [w0] h = finish true h.length (exs (cc n) b_stars_in [some w0, none] h) := run_at (d := d_stars_in) rfl rfl
theorem run_places_in (n : Nat) (w0 : W) (h : Hh) : M.run S.glb S.T (n + 1) f_places_in [w0] h = finish true h.length (exs (cc n) b_places_in [some w0, none, none] h) := run_at (d := d_places_in) rfl rfl
theorem run_are_few (n : Nat) (w0 : W) (h : Hh) : M.run S.glb S.T (n + 1) f_are_few [w0] h = finish true h.length (exs (cc n) b_are_few [some w0] h) := run_at (d := d_are_few) rfl rfl
theorem run_are_at_peace (n : Nat) (w0 : W) (h : Hh) : M.run S.glb S.T (n + 1) f_are_at_peace [w0] h = finish true h.length (exs (cc n) b_are_at_peace [some w0, none, none] h) := run_at (d := d_are_at_peace) rfl rfl
theorem run_are_clouds (n : Nat) (w0 : W) (h : Hh) : M.run S.glb S.T (n + 1) f_are_clouds [w0] h = finish true h.length (exs (cc n) b_are_clouds [some w0, none] h) := run_at (d := d_are_clouds) rfl rfl
theorem run_is_book (n : Nat) (w0 : W) (h : Hh) : M.run S.glb S.T (n + 1) f_is_book [w0] h = finish true h.length (exs (cc n) b_is_book [some w0, none, none, none] h) := run_at (d := d_is_book) rfl rfl
theorem run_with_one (n : Nat) (w0 w1 : W) (h : Hh) : M.run S.glb S.T (n + 1) f_with_one [w0, w1] h = finish true h.length (exs (cc n) b_with_one [some w0, some w1] h) := run_at (d := d_with_one) rfl rfl
theorem run_without_one (n : Nat) (w0 w1 : W) (h : Hh) : M.run S.glb S.T (n + 1) f_without_one [w0, w1] h = finish true h.length (exs (cc n) b_without_one [some w0, some w1, none] h) := run_at (d := d_without_one) rfl rfl
theorem run_check_cloud (n : Nat) (w0 w1 : W) (h : Hh) : M.run S.glb S.T (n + 1) f_check_cloud [w0, w1] h = finish true h.length (exs (cc n) b_check_cloud [some w0, some w1] h) := run_at (d := d_check_cloud) rfl rfl
theorem run_Keeper_init (n : Nat) (w0 : W) (h : Hh) : M.run S.glb S.T (n + 1) f_Keeper_init [w0] h = finish true h.length (exs (cc n) b_Keeper_init [some w0] h) := run_at (d := d_Keeper_init) rfl rfl
theorem run_Keeper_take (n : Nat) (w0 w1 : W) (h : Hh) : M.run S.glb S.T (n + 1) f_Keeper_take [w0, w1] h = finish true h.length (exs (cc n) b_Keeper_take [some w0, some w1] h) := run_at (d := d_Keeper_take) rfl rfl
theorem run_Keeper_enter (n : Nat) (w0 w1 : W) (h : Hh) : M.run S.glb S.T (n + 1) f_Keeper_enter [w0, w1] h = finish true h.length (exs (cc n) b_Keeper_enter [some w0, some w1, none, none] h) := run_at (d := d_Keeper_enter) rfl rfl
theorem run_Keeper_strike (n : Nat) (w0 w1 : W) (h : Hh) : M.run S.glb S.T (n + 1) f_Keeper_strike [w0, w1] h = finish true h.length (exs (cc n) b_Keeper_strike [some w0, some w1, none, none] h) := run_at (d := d_Keeper_strike) rfl rfl
theorem run_Keeper_cloud (n : Nat) (w0 w1 w2 : W) (h : Hh) : M.run S.glb S.T (n + 1) f_Keeper_cloud [w0, w1, w2] h = finish true h.length (exs (cc n) b_Keeper_cloud [some w0, some w1, some w2, none, none] h) := run_at (d := d_Keeper_cloud) rfl rfl
theorem run_Keeper_uncloud (n : Nat) (w0 w1 w2 : W) (h : Hh) : M.run S.glb S.T (n + 1) f_Keeper_uncloud [w0, w1, w2] h = finish true h.length (exs (cc n) b_Keeper_uncloud [some w0, some w1, some w2, none, none] h) := run_at (d := d_Keeper_uncloud) rfl rfl
theorem run_Keeper_back (n : Nat) (w0 : W) (h : Hh) : M.run S.glb S.T (n + 1) f_Keeper_back [w0] h = finish true h.length (exs (cc n) b_Keeper_back [some w0] h) := run_at (d := d_Keeper_back) rfl rfl
theorem run_Keeper_book (n : Nat) (w0 : W) (h : Hh) : M.run S.glb S.T (n + 1) f_Keeper_book [w0] h = finish true h.length (exs (cc n) b_Keeper_book [some w0] h) := run_at (d := d_Keeper_book) rfl rfl
theorem run_law_cell (n : Nat) (w0 w1 : W) (h : Hh) : M.run S.glb S.T (n + 1) f_law_cell [w0, w1] h = finish true h.length (exs (cc n) b_law_cell [some w0, some w1, none, none] h) := run_at (d := d_law_cell) rfl rfl
theorem run_law_pool (n : Nat) (w0 : W) (h : Hh) : M.run S.glb S.T (n + 1) f_law_pool [w0] h = finish true h.length (exs (cc n) b_law_pool [some w0, none] h) := run_at (d := d_law_pool) rfl rfl
theorem run_law_take (n : Nat) (w0 w1 : W) (h : Hh) : M.run S.glb S.T (n + 1) f_law_take [w0, w1] h = finish true h.length (exs (cc n) b_law_take [some w0, some w1, none, none] h) := run_at (d := d_law_take) rfl rfl
theorem run_law_low (n : Nat) (w0 w1 : W) (h : Hh) : M.run S.glb S.T (n + 1) f_law_low [w0, w1] h = finish true h.length (exs (cc n) b_law_low [some w0, some w1, none, none] h) := run_at (d := d_law_low) rfl rfl
theorem run_law_size (n : Nat) (w0 : W) (h : Hh) : M.run S.glb S.T (n + 1) f_law_size [w0] h = finish true h.length (exs (cc n) b_law_size [some w0] h) := run_at (d := d_law_size) rfl rfl
theorem run_law_names (n : Nat) (w0 w1 : W) (h : Hh) : M.run S.glb S.T (n + 1) f_law_names [w0, w1] h = finish true h.length (exs (cc n) b_law_names [some w0, some w1, none, none, none, none, none, none, none, none] h) := run_at (d := d_law_names) rfl rfl
theorem run_law_quarrel (n : Nat) (w0 w1 : W) (h : Hh) : M.run S.glb S.T (n + 1) f_law_quarrel [w0, w1] h = finish true h.length (exs (cc n) b_law_quarrel [some w0, some w1] h) := run_at (d := d_law_quarrel) rfl rfl
theorem run_law_ends (n : Nat) (w0 w1 : W) (h : Hh) : M.run S.glb S.T (n + 1) f_law_ends [w0, w1] h = finish true h.length (exs (cc n) b_law_ends [some w0, some w1, none, none, none] h) := run_at (d := d_law_ends) rfl rfl
theorem run_law_raw (n : Nat) (w0 w1 : W) (h : Hh) : M.run S.glb S.T (n + 1) f_law_raw [w0, w1] h = finish true h.length (exs (cc n) b_law_raw [some w0, some w1, none, none, none, none, none, none, none] h) := run_at (d := d_law_raw) rfl rfl
theorem run_law_wide_sorts (n : Nat) (w0 : W) (h : Hh) : M.run S.glb S.T (n + 1) f_law_wide_sorts [w0] h = finish true h.length (exs (cc n) b_law_wide_sorts [some w0, none] h) := run_at (d := d_law_wide_sorts) rfl rfl
theorem run_law_only (n : Nat) (w0 w1 : W) (h : Hh) : M.run S.glb S.T (n + 1) f_law_only [w0, w1] h = finish true h.length (exs (cc n) b_law_only [some w0, some w1, none, none] h) := run_at (d := d_law_only) rfl rfl
theorem run_law_joins (n : Nat) (w0 w1 : W) (h : Hh) : M.run S.glb S.T (n + 1) f_law_joins [w0, w1] h = finish true h.length (exs (cc n) b_law_joins [some w0, some w1, none, none, none, none] h) := run_at (d := d_law_joins) rfl rfl
theorem run_law_asked (n : Nat) (w0 w1 : W) (h : Hh) : M.run S.glb S.T (n + 1) f_law_asked [w0, w1] h = finish true h.length (exs (cc n) b_law_asked [some w0, some w1, none, none, none] h) := run_at (d := d_law_asked) rfl rfl
theorem run_law_due (n : Nat) (w0 w1 w2 : W) (h : Hh) : M.run S.glb S.T (n + 1) f_law_due [w0, w1, w2] h = finish true h.length (exs (cc n) b_law_due [some w0, some w1, some w2, none, none] h) := run_at (d := d_law_due) rfl rfl
theorem run_law_does (n : Nat) (w0 w1 w2 : W) (h : Hh) : M.run S.glb S.T (n + 1) f_law_does [w0, w1, w2] h = finish false h.length (exs (cc n) b_law_does [some w0, some w1, some w2, none, none] h) := run_at (d := d_law_does) rfl rfl
theorem run_law_deed (n : Nat) (w0 w1 w2 : W) (h : Hh) : M.run S.glb S.T (n + 1) f_law_deed [w0, w1, w2] h = finish true h.length (exs (cc n) b_law_deed [some w0, some w1, some w2, none, none, none, none, none] h) := run_at (d := d_law_deed) rfl rfl
theorem run_law_stands (n : Nat) (w0 w1 : W) (h : Hh) : M.run S.glb S.T (n + 1) f_law_stands [w0, w1] h = finish true h.length (exs (cc n) b_law_stands [some w0, some w1, none] h) := run_at (d := d_law_stands) rfl rfl
theorem run_law (n : Nat) (w0 : W) (h : Hh) : M.run S.glb S.T (n + 1) f_law [w0] h = finish true h.length (exs (cc n) b_law [some w0, none, none, none, none, none, none, none, none] h) := run_at (d := d_law) rfl rfl
theorem okL : (L.all fun m => m.okB S && m.atB S) = true := by kernel_rfl
def names0 : List PySem.Str := ["_wall", "__name__", "MarkError", "NoNumber", "NoBook", "NoText", "NoQuantity", "NoTelling", "NoMark", "NoPlace", "NoNight", "NoWatch", "NoWatcher", "NoJoin", "NoEntry", "NoCloud", "NoBack", "NoRow", "is_whole", "shared", "is_fraction", "LETTERS", "MOST_LETTERS", "is_name", "LAST_NIGHT", "MOST_BOTTOM", "MOST_MOMENT", "MOST_GOOD", "MOST_ENTRIES", "MOST_WATCHERS"]
def names1 : List PySem.Str := ["MOST_STARS", "MOST_PLACES", "MOST_CLOUDS", "is_night", "is_told", "are_ends", "is_entry", "is_cloud", "quarrel", "are_rising", "watchers_in", "stars_in", "places_in", "are_few", "are_at_peace", "are_clouds", "is_book", "with_one", "without_one", "check_cloud", "Keeper", "_law_cell", "_law_pool", "_law_take", "_law_low", "_law_size", "_law_names", "_law_quarrel", "_law_ends", "_law_raw"]
def names2 : List PySem.Str := ["_law_wide_sorts", "_law_only", "_law_joins", "_law_asked", "_law_due", "_law_does", "_law_deed", "_law_stands"]
def names : List PySem.Str := names0 ++ names1 ++ names2
abbrev R : PySem.W.OpenRow := PySem.W.OpenLaw.row PySem.Challenge.rw_markhabits_k37_keeper_by_an_own_set
abbrev hk : PySem.W.Hook := hookM S L 5
def ob (s : PySem.W.SharedT) : AlM := obM S L 5 (HandSHeadRun.getT s)
theorem ob_eq (s : PySem.W.SharedT) : ob s = hk.obs s.abs := obM_eq (HandSHeadRun.getT_eq s)
end K37
namespace K37
open PySem M
/-! ### what the program tells of any thing -/
def wholeD : D → Bool
  | .int _ => true
  | _ => false
def fracD : D → Bool
  | .tuple [.int a, .int b] => decide (0 < b) && decide (Int.gcd a b = 1)
  | _ => false
theorem gcd_step (x y : Int) : Int.gcd y (x % y) = Int.gcd x y := by
  rw [Int.emod_def, Int.gcd_sub_mul_left_right, Int.gcd_comm]
theorem gcd_abs (a b : Int) : Int.gcd (a.natAbs : Int) b = Int.gcd a b := by
  simp [Int.gcd]
section
variable {n : Nat} {h : Hh} {Q : W → Hh → Prop} {E : Nat → Hh → Prop}
theorem r_is_whole (d : D) : M.run S.glb S.T (n + 1) f_is_whole [.dat d] h = .ok (.dat (.bool (wholeD d))) h := by
  rw [run_is_whole]
  cases d <;> rfl
theorem s_shared (a b : Int) (ha : 0 ≤ a) (hb : 0 ≤ b) (q : Q (.dat (.int (Int.gcd a b))) h) : okW (M.run S.glb S.T (n + 1) f_shared [.dat (.int a), .dat (.int b)] h) Q E := by
  rw [run_shared]
  apply okW_keep
  unfold b_shared
  rw [exs_cons, okS_bind, ex_whil]
  refine okS_while (fun m e h' => ∃ x y : Int, e = [some (.dat (.int x)), some (.dat (.int y))] ∧ 0 ≤ x ∧ 0 ≤ y ∧ Int.gcd x y = Int.gcd a b ∧ m = y.toNat ∧ h' = h) ?_ b.toNat _ _ ⟨a, b, rfl, ha, hb, rfl, rfl, rfl⟩
  rintro m e h' ⟨x, y, rfl, hx, hy, g, rfl, rfl⟩
  simp [c_shared_0, l_shared_1]
  refine ⟨fun l => ⟨l, (x % y).toNat, ?_, y, x % y, ⟨rfl, rfl⟩, hy, Int.emod_nonneg _ (by omega), by rw [gcd_step, g], rfl⟩, fun l => ?_⟩
  · have := Int.emod_lt_of_pos x l
    have := Int.emod_nonneg x (show y ≠ 0 by omega)
    omega
  · have : y = 0 := by omega
    subst this
    rw [Int.gcd_zero_right] at g
    rw [show x = ((Int.gcd a b : Nat) : Int) by omega]
    exact q
theorem tyTup (d : D) : tyIs .tuple (.dat d) = some (match d with | .tuple _ => true | _ => false) := by cases d <;> rfl
theorem s_is_fraction (d : D) (q : Q (.dat (.bool (fracD d))) h) : okW (M.run S.glb S.T (n + 2) f_is_fraction [.dat d] h) Q E := by
  rw [run_is_fraction]
  apply okW_keep
  cases d with
  | tuple l =>
    match l, q with
    | [], q => simpa [b_is_fraction, okS_ite, okW_ite, fracD] using q
    | [a], q => simpa [b_is_fraction, okS_ite, okW_ite, fracD] using q
    | a :: b :: c :: l, q =>
      have e : fracD (.tuple (a :: b :: c :: l)) = false := by cases a <;> cases b <;> rfl
      rw [e] at q
      simp [b_is_fraction, okS_ite, okW_ite]
      have : ¬ ((l.length : Int) + 1 + 1 + 1 = 2) := by omega
      simp [this]
      exact q
    | [a, b], q =>
      simp [b_is_fraction, okS_ite, okW_ite, r_is_whole]
      cases a with
      | int a =>
        cases b with
        | int b =>
          simp [wholeD]
          by_cases z : 0 < b
          · right
            refine ⟨z, s_shared _ _ (by omega) (by omega) ?_⟩
            simp [gcd_abs]
            by_cases g : Int.gcd a b = 1
            · right
              simpa [fracD, z, g] using q
            · left
              refine ⟨by omega, ?_⟩
              simpa [fracD, z, g] using q
          · left
            refine ⟨by omega, ?_⟩
            simpa [fracD, z] using q
        | _ => simpa [wholeD, fracD] using q
      | _ => simpa [wholeD, fracD] using q
  | _ => simpa [b_is_fraction, okS_ite, okW_ite, fracD, tyTup] using q
end
end K37
namespace K37
open PySem M
/-! ### names -/
section
variable {n : Nat} {h : Hh} {Q : W → Hh → Prop} {E : Nat → Hh → Prop}
abbrev letters : Str := "abcdefghijklmnopqrstuvwxyz"
def letB (c : Nat) : Bool := decide (c ∈ letters.cps.toList)
def nameD : D → Bool
  | .str x => decide (1 ≤ x.length) && (decide (x.length ≤ 8) && x.cps.toList.all letB)
  | _ => false
/-- a text is no longer than the line -/
def shortD : D → Prop
  | .str x => x.length ≤ sizeL
  | _ => True
theorem in_let (c : Nat) : inStr ⟨#[c]⟩ letters = letB c := PySem.StrLaws.found_one letters c
theorem tyStr (d : D) : tyIs .str (.dat d) = some (match d with | .str _ => true | _ => false) := by cases d <;> rfl
theorem s_is_name (d : D) (sh : shortD d) (q : Q (.dat (.bool (nameD d))) h) : okW (M.run S.glb S.T (n + 1) f_is_name [.dat d] h) Q E := by
  rw [run_is_name]
  apply okW_keep
  cases d with
  | str x =>
    have sh : x.length ≤ sizeL := sh
    by_cases l1 : 1 ≤ x.length
    · by_cases l2 : x.length ≤ 8
      · have i1 : (1 : Int) ≤ x.length := by omega
        have i2 : (x.length : Int) ≤ 8 := by omega
        simp [b_is_name, okS_ite, okW_ite, tyStr, sh, i1, i2, itemsOf, strL]
        rw [compL_map (g := fun c => .bool (letB c))]
        · rw [show x.cps.toList.map (fun c => PyData.bool (letB c)) = (x.cps.toList.map letB).map PyData.bool by rw [List.map_map]; rfl]
          simp only [okW_ok, mkLst_map, dsOf_map, bi_all, bools_map]
          have e : nameD (.str x) = (x.cps.toList.map letB).all id := by
            simp [nameD, l1, l2, List.all_map]
          rw [e] at q
          exact q
        · intro c _
          simp [e_is_name_0, in_let]
        · simpa [Str.length] using sh
      · have i2 : ¬ (x.length : Int) ≤ 8 := by omega
        have e : nameD (.str x) = false := by simp [nameD, l2]
        rw [e] at q
        have i1 : (1 : Int) ≤ x.length := by omega
        simp [b_is_name, okS_ite, okW_ite, tyStr, sh, i1, i2]
        exact q
    · have i1 : ¬ (1 : Int) ≤ x.length := by omega
      have e : nameD (.str x) = false := by simp [nameD, l1]
      rw [e] at q
      simp [b_is_name, okS_ite, okW_ite, tyStr, sh, i1]
      exact q
  | _ => simpa [b_is_name, okS_ite, okW_ite, nameD, tyStr] using q
theorem r_is_name (d : D) (sh : shortD d) : M.run S.glb S.T (n + 1) f_is_name [.dat d] h = .ok (.dat (.bool (nameD d))) h := by
  obtain ⟨a, h', e, rfl, rfl⟩ := (s_is_name (n := n) (h := h) (E := noE) (Q := fun w h' => w = .dat (.bool (nameD d)) ∧ h' = h) d sh ⟨rfl, rfl⟩).get
  exact e
end
end K37
namespace K37
open PySem M
/-! ### entries -/
section
variable {n : Nat} {h : Hh} {Q : W → Hh → Prop} {E : Nat → Hh → Prop}
def nightD : D → Bool
  | .int i => decide (0 ≤ i) && decide (i ≤ 999)
  | _ => false
theorem s_is_night (d : D) (q : Q (.dat (.bool (nightD d))) h) : okW (M.run S.glb S.T (n + 2) f_is_night [.dat d] h) Q E := by
  rw [run_is_night]
  apply okW_keep
  simp [b_is_night, okS_ite, okW_ite, r_is_whole]
  cases d with
  | int i =>
    simp [wholeD]
    by_cases a : 0 ≤ i
    · by_cases b : i ≤ 999
      · simpa [nightD, a, b] using q
      · simpa [nightD, a, b] using q
    · simpa [nightD, a] using q
  | _ => simpa [wholeD, nightD] using q
/-- a fraction from least to most, its bottom to 1000 -/
def toldD (lo hi : Int) : D → Bool
  | .tuple [.int a, .int b] => decide (0 < b) && (decide (Int.gcd a b = 1) && (decide (b ≤ 1000) && (decide (lo * b ≤ a) && decide (a ≤ hi * b))))
  | _ => false
theorem fracD_inv {d : D} (e : fracD d = true) : ∃ a b : Int, d = .tuple [.int a, .int b] ∧ 0 < b ∧ Int.gcd a b = 1 := by
  unfold fracD at e
  split at e
  · rename_i a b
    have := and2 e
    exact ⟨a, b, rfl, of_decide_eq_true this.1, of_decide_eq_true this.2⟩
  · cases e
theorem toldD_no {d : D} (lo hi : Int) (e : fracD d = false) : toldD lo hi d = false := by
  unfold toldD
  split
  · rename_i a b
    have e : (decide (0 < b) && decide (Int.gcd a b = 1)) = false := e
    cases h1 : decide (0 < b) with
    | false => rfl
    | true =>
      rw [h1] at e
      have e : decide (Int.gcd a b = 1) = false := e
      rw [e]; rfl
  · rfl
theorem s_is_told (d : D) (lo hi : Int) (hl : sm 30 lo) (hh : sm 30 hi) (q : Q (.dat (.bool (toldD lo hi d))) h) : okW (M.run S.glb S.T (n + 3) f_is_told [.dat d, .dat (.int lo), .dat (.int hi)] h) Q E := by
  rw [run_is_told]
  apply okW_keep
  simp [b_is_told, okS_ite, okW_ite]
  refine s_is_fraction d ?_
  cases e : fracD d with
  | false =>
    rw [toldD_no lo hi e] at q
    simpa using q
  | true =>
    obtain ⟨a, b, rfl, hb, g⟩ := fracD_inv e
    simp
    by_cases l : b ≤ 1000
    · have nl : ¬ 1000 < b := by omega
      have m1 : bigMul lo b = true := sm.big (j := 30) (k := 30) (hl.mono (by decide)) (sm_of (by omega) (by simp; omega)) (by decide)
      have m2 : bigMul hi b = true := sm.big (j := 30) (k := 30) (hh.mono (by decide)) (sm_of (by omega) (by simp; omega)) (by decide)
      by_cases c1 : lo * b ≤ a
      · by_cases c2 : a ≤ hi * b
        · simpa [toldD, hb, g, l, nl, m1, m2, c1, c2] using q
        · simpa [toldD, hb, g, l, nl, m1, m2, c1, c2] using q
      · simpa [toldD, hb, g, l, nl, m1, m2, c1] using q
    · have nl : 1000 < b := by omega
      simpa [toldD, hb, g, l, nl] using q
def endsD (a g : D) : Bool := toldD (-1000000) 1000000 a && toldD 0 1000 g
theorem s_are_ends (a g : D) (q : Q (.dat (.bool (endsD a g))) h) : okW (M.run S.glb S.T (n + 4) f_are_ends [.dat a, .dat g] h) Q E := by
  rw [run_are_ends]
  apply okW_keep
  simp [b_are_ends, okS_ite, okW_ite]
  refine s_is_told a _ _ (by unfold sm; decide) (by unfold sm; decide) ?_
  cases e : toldD (-1000000) 1000000 a with
  | false => simpa [endsD, e] using q
  | true =>
    simp
    refine s_is_told g _ _ (by unfold sm; decide) (by unfold sm; decide) ?_
    cases e2 : toldD 0 1000 g with
    | false => simpa [endsD, e, e2] using q
    | true => simpa [endsD, e, e2] using q
def entryD : D → Bool
  | .tuple [.str w, x, a, g] => decide (w = "habit" ∨ w = "gain") && (nameD x && endsD a g)
  | .tuple [.str w, x, y, z, t, a, g] => decide (w = "mark") && (nameD x && (nameD y && (nameD z && (nightD t && endsD a g))))
  | _ => false
theorem in_words (w : Str) (s : shp (.str w) = true) : inSeq (.str w) [.str "habit", .str "gain"] = some (decide (w = "habit" ∨ w = "gain")) := by
  show (if (shp (.str w) && shp (.list [.str "habit", .str "gain"])) = true then some _ else none) = _
  rw [s, show shp (.list [.str "habit", .str "gain"]) = true by decide +kernel]
  show some ((("habit" : Str) == w) || ((("gain" : Str) == w) || false)) = some _
  rw [Bool.or_false]
  congr 1
  rw [Bool.eq_iff_iff, Bool.or_eq_true, beq_iff_eq, beq_iff_eq, decide_eq_true_eq]
  exact ⟨fun z => z.elim (fun e => .inl e.symm) fun e => .inr e.symm, fun z => z.elim (fun e => .inl e.symm) fun e => .inr e.symm⟩
theorem in_47 (k : Int) : inSeq (.int k) [.int 4, .int 7] = some (decide (k = 4 ∨ k = 7)) := by
  show some (((4 : Int) == k) || (((7 : Int) == k) || false)) = some _
  rw [Bool.or_false]
  congr 1
  rw [Bool.eq_iff_iff, Bool.or_eq_true, beq_iff_eq, beq_iff_eq, decide_eq_true_eq]
  exact ⟨fun z => z.elim (fun e => .inl e.symm) fun e => .inr e.symm, fun z => z.elim (fun e => .inl e.symm) fun e => .inr e.symm⟩
/-- the texts of an entry's parts are such that they may be compared -/
def okPart : D → Prop
  | .str x => x.length ≤ sizeL ∧ shp (.str x) = true
  | _ => True
theorem okPart.short {d : D} (o : okPart d) : shortD d := by
  cases d <;> first | exact o.1 | trivial
theorem s_entry4 (w : D) (x a g : D) (ow : okPart w) (ox : okPart x) (q : Q (.dat (.bool (entryD (.tuple [w, x, a, g])))) h) : okW (M.run S.glb S.T (n + 5) f_is_entry [.dat (.tuple [w, x, a, g])] h) Q E := by
  rw [run_is_entry]
  apply okW_keep
  cases w with
  | str w =>
    have q : Q (.dat (.bool (decide (w = "habit" ∨ w = "gain") && (nameD x && endsD a g)))) h := q
    simp [b_is_entry, okS_ite, okW_ite, in_47, tyStr, in_words w ow.2]
    refine ⟨fun hw => ?_, fun h1 h2 => ?_⟩
    · rw [decide_eq_true hw] at q
      refine s_is_name x ox.short ?_
      cases e : nameD x with
      | false => simpa [e] using q
      | true =>
        simp
        refine s_are_ends a g ?_
        cases e2 : endsD a g with
        | false => simpa [e, e2] using q
        | true => simpa [e, e2] using q
    · have hw : ¬ (w = "habit" ∨ w = "gain") := fun z => z.elim h1 h2
      rw [decide_eq_false hw] at q
      exact q
  | _ => simpa [b_is_entry, okS_ite, okW_ite, in_47, tyStr, entryD] using q
theorem r_is_night (d : D) : M.run S.glb S.T (n + 2) f_is_night [.dat d] h = .ok (.dat (.bool (nightD d))) h := by
  obtain ⟨a, h', e, rfl, rfl⟩ := (s_is_night (n := n) (h := h) (E := noE) (Q := fun w h' => w = .dat (.bool (nightD d)) ∧ h' = h) d ⟨rfl, rfl⟩).get
  exact e
theorem r_are_ends (a g : D) : M.run S.glb S.T (n + 4) f_are_ends [.dat a, .dat g] h = .ok (.dat (.bool (endsD a g))) h := by
  obtain ⟨a, h', e, rfl, rfl⟩ := (s_are_ends (n := n) (h := h) (E := noE) (Q := fun w h' => w = .dat (.bool (endsD a g)) ∧ h' = h) a g ⟨rfl, rfl⟩).get
  exact e
theorem s_entry7 (w x y z t a g : D) (ow : okPart w) (ox : okPart x) (oy : okPart y) (oz : okPart z) (q : Q (.dat (.bool (entryD (.tuple [w, x, y, z, t, a, g])))) h) : okW (M.run S.glb S.T (n + 5) f_is_entry [.dat (.tuple [w, x, y, z, t, a, g])] h) Q E := by
  rw [run_is_entry]
  apply okW_keep
  cases w with
  | str w =>
    have q : Q (.dat (.bool (decide (w = "mark") && (nameD x && (nameD y && (nameD z && (nightD t && endsD a g))))))) h := q
    have sl : cutL [.str w, x, y, z, t, a, g] (some 1) (some 4) = [x, y, z] := rfl
    simp [b_is_entry, okS_ite, okW_ite, in_47, tyStr, sl, e_is_entry_0, r_is_name _ ox.short, r_is_name _ oy.short, r_is_name _ oz.short, r_is_night, r_are_ends, sizeL]
    by_cases hw : w = "mark"
    · rw [decide_eq_true hw] at q
      refine ⟨fun _ => ?_, fun z => absurd hw z⟩
      cases e1 : nameD x <;> cases e2 : nameD y <;> cases e3 : nameD z <;> cases e4 : nightD t <;> cases e5 : endsD a g <;> simp [e1, e2, e3, e4, e5] at q ⊢ <;> exact q
    · rw [decide_eq_false hw] at q
      exact ⟨fun z => absurd z hw, fun _ => q⟩
  | _ => simpa [b_is_entry, okS_ite, okW_ite, in_47, tyStr, entryD] using q
def okAll : D → Prop
  | .tuple l => ∀ x ∈ l, okPart x
  | _ => True
theorem entry_len {l : List D} (n4 : l.length ≠ 4) (n7 : l.length ≠ 7) : entryD (.tuple l) = false := by
  unfold entryD
  split
  · rename_i e; cases e; exact absurd rfl n4
  · rename_i e; cases e; exact absurd rfl n7
  · rfl
theorem s_is_entry (d : D) (ok : okAll d) (q : Q (.dat (.bool (entryD d))) h) : okW (M.run S.glb S.T (n + 5) f_is_entry [.dat d] h) Q E := by
  cases d with
  | tuple l =>
    have ok : ∀ x ∈ l, okPart x := ok
    by_cases n4 : l.length = 4
    · match l, n4, ok, q with
      | [w, x, a, g], _, ok, q => exact s_entry4 w x a g (ok _ (by simp)) (ok _ (by simp)) q
    · by_cases n7 : l.length = 7
      · match l, n7, ok, q with
        | [w, x, y, z, t, a, g], _, ok, q => exact s_entry7 w x y z t a g (ok _ (by simp)) (ok _ (by simp)) (ok _ (by simp)) (ok _ (by simp)) q
      · rw [entry_len n4 n7] at q
        rw [run_is_entry]
        apply okW_keep
        have h4 : ¬ (l.length : Int) = 4 := by omega
        have h7 : ¬ (l.length : Int) = 7 := by omega
        simp [b_is_entry, okS_ite, okW_ite, in_47, h4, h7]
        exact q
  | _ =>
    rw [run_is_entry]
    apply okW_keep
    simpa [b_is_entry, okS_ite, okW_ite, tyTup, entryD] using q
end
end K37
namespace K37
open PySem M
/-! ### objects name those ahead, or one of the first five -/
def Flat (h : Hh) : Prop := ∀ (k : Nat) (o : Ob), h[k]? = some o → obB (max k 5) o = true
theorem Flat.cl {h : Hh} (f : Flat h) (n : Nat) (hn : 5 ≤ n) (hl : n ≤ h.length) : Cl n h := by
  unfold Cl closedB
  refine List.all_eq_true.mpr fun o ho => ?_
  obtain ⟨k, hk⟩ := List.getElem?_of_mem ho
  have lk := (List.getElem?_eq_some_iff.mp hk).1
  rw [List.length_take] at lk
  rw [List.getElem?_take_of_lt (by omega)] at hk
  exact obB_mono (by rw [List.length_take]; omega) (f k o hk)
theorem Flat.take {h : Hh} (f : Flat h) (n : Nat) : Flat (h.take n) := fun k o z => by
  have lk := (List.getElem?_eq_some_iff.mp z).1
  rw [List.length_take] at lk
  rw [List.getElem?_take_of_lt (by omega)] at z
  exact f k o z
theorem Flat.setR {h : Hh} (f : Flat h) (n : Nat) {o : Ob} (q : obB (max n 5) o = true) : Flat (h.set n o) := fun k o2 z => by
  rw [List.getElem?_set] at z
  split at z
  · rename_i e
    subst e
    split at z
    · cases z; exact q
    · cases z
  · exact f k o2 z
theorem Flat.set {h : Hh} (f : Flat h) (n : Nat) {o : Ob} (q : obB 0 o = true) : Flat (h.set n o) := f.setR n (obB_mono (Nat.zero_le _) q)
theorem Flat.pushR {h : Hh} (f : Flat h) {o : Ob} (q : obB (max h.length 5) o = true) : Flat (h ++ [o]) := fun k o2 z => by
  by_cases lk : k < h.length
  · rw [List.getElem?_append_left lk] at z
    exact f k o2 z
  · rw [List.getElem?_append_right (by omega)] at z
    by_cases e : k = h.length
    · subst e
      simp at z
      subst z
      exact q
    · rw [List.getElem?_eq_none (by simp; omega)] at z
      cases z
theorem Flat.push {h : Hh} (f : Flat h) {o : Ob} (q : obB 0 o = true) : Flat (h ++ [o]) := f.pushR (obB_mono (Nat.zero_le _) q)
theorem Flat.nil : Flat [] := fun k o z => by simp at z
end K37
namespace K37
open PySem M
/-! what is drawn: _law_cell, _law_pool, _law_take (with a counter) -/
/-- a pool stands at p; fewer than c were drawn; no object names another; but for the pool the heap is b -/
def At (p c : Nat) (g h : Hh) : Prop := (Flat h ∧ h.length = g.length ∧ ∀ k, k ≠ p → h[k]? = g[k]?) ∧ ∃ a b d : Int, h[p]? = some (.lst [.dat (.int a), .dat (.int b), .dat (.int d)]) ∧ 0 ≤ a ∧ a < 2147483549 ∧ 0 ≤ b ∧ 0 ≤ d ∧ d ≤ c
section
variable {n : Nat} {g h : Hh} {Q : W → Hh → Prop} {E : Nat → Hh → Prop}
theorem At.more {p c c' : Nat} (x : At p c g h) (l : c ≤ c') : At p c' g h := by
  obtain ⟨f, a, b, d, e, h1, h2, h3, h4, h5⟩ := x
  exact ⟨f, a, b, d, e, h1, h2, h3, h4, by omega⟩
theorem At.fl {p c : Nat} (x : At p c g h) : Flat h := x.1.1
theorem At.len {p c : Nat} (x : At p c g h) : h.length = g.length := x.1.2.1
theorem At.out {p c k : Nat} (x : At p c g h) (ne : k ≠ p) : h[k]? = g[k]? := x.1.2.2 k ne
theorem At.reb {p c : Nat} (x : At p c g h) : At p c h h := ⟨⟨x.1.1, rfl, fun _ _ => rfl⟩, x.2⟩
theorem At.lt {p c : Nat} (x : At p c g h) : p < h.length := by
  obtain ⟨_, a, b, d, e, _⟩ := x
  exact (List.getElem?_eq_some_iff.mp e).1
theorem s_take {p c : Nat} (m : Int) (x : At p c g h) (m0 : 0 < m) (m1 : m < 1073741824) (hc : c < 1000000) (q : ∀ v h', 0 ≤ v → v < m → At p (c + 1) g h' → Q (.dat (.int v)) h') : okW (M.run S.glb S.T (n + 1) f_law_take [.ref p, .dat (.int m)] h) Q E := by
  obtain ⟨⟨fl, len, out⟩, a, b, d, e, h1, h2, h3, h4, h5⟩ := x
  rw [run_law_take]
  apply okW_keep
  have hl : p < h.length := (List.getElem?_eq_some_iff.mp e).1
  have m2 : bigMul a (a % 47017 + 31013) = true := sm.big (j := 31) (k := 31) (sm_of h1 (by omega)) (sm_of (by omega) (by omega)) (by omega)
  have m3 : bigMul 90001 (d + 1) = true := sm.big (j := 31) (k := 31) (sm_of (by omega) (by omega)) (sm_of (by omega) (by omega)) (by omega)
  have m4 : okDiv 64 = true := by decide
  have m5 : okDiv m = true := sm.div (k := 30) (sm_of (by omega) (by simp; omega)) m0 (by decide)
  have fs : ∀ x y z : Int, Flat (h.set p (.lst [.dat (.int x), .dat (.int y), .dat (.int z)])) ∧ (h.set p (.lst [.dat (.int x), .dat (.int y), .dat (.int z)])).length = g.length ∧ ∀ k, k ≠ p → (h.set p (.lst [.dat (.int x), .dat (.int y), .dat (.int z)]))[k]? = g[k]? := fun x y z => ⟨fl.set p rfl, by rw [List.length_set]; exact len, fun k ne => by rw [List.getElem?_set_ne (Ne.symm ne)]; exact out k ne⟩
  simp [b_law_take, okS_ite, okW_ite, index_ref e, setAt_ref2 e, index_set hl, setAt_set0 hl, setAt_set1 hl, m2, m3, m4, m5, m0, m1]
  refine ⟨fun l => ?_, fun l => ?_⟩
  · exact q _ _ (Int.emod_nonneg _ (by omega)) (Int.emod_lt_of_pos _ m0) ⟨fs _ _ _, _, _, _, get_set hl _, by omega, by omega, Int.ediv_nonneg h3 (by omega), by omega, by omega⟩
  · exact q _ _ (Int.emod_nonneg _ (by omega)) (Int.emod_lt_of_pos _ m0) ⟨fs _ _ _, _, _, _, get_set hl _, by omega, by omega, h3, by omega, by omega⟩
theorem atI_lt {α : Type} (l : List α) (k : Int) (h0 : 0 ≤ k) (h1 : k < l.length) : ∃ v, atI l k = some v := by
  rw [show k = ((k.toNat : Nat) : Int) by omega, atI_nat]
  exact ⟨_, List.getElem?_eq_getElem (by omega)⟩
theorem s_cell (ns : List Int) (k : Int) (k0 : 0 ≤ k) (k1 : k < 1000000) (q : ∀ v, Q (.dat (.int v)) h) : okW (M.run S.glb S.T (n + 1) f_law_cell [.scr ns, .dat (.int k)] h) Q E := by
  rw [run_law_cell]
  apply okW_keep
  simp [b_law_cell, okS_ite, okW_ite]
  refine ⟨fun l => ?_, fun l => ?_⟩
  · obtain ⟨v, e⟩ := atI_lt ns k k0 l
    simp [e]
    exact q v
  · have m1 : bigMul 50021 (k + 2) = true := sm.big (j := 31) (k := 31) (sm_of (by decide) (by decide)) (sm_of (by omega) (by simp; omega)) (by decide)
    have m2 : bigMul (50021 * (k + 2)) (k + 9) = true := sm.big (j := 70) (k := 31) (sm_of (by omega) (by simp; omega)) (sm_of (by omega) (by simp; omega)) (by decide)
    simp [m1, m2, slice]
    refine okS_for (fun e h' => ∃ st t, e = [some (.scr ns), some (.dat (.int k)), some (.dat (.int st)), t] ∧ 0 ≤ st ∧ st < 2147483549 ∧ h' = h) _ _ _ ⟨_, _, rfl, by omega, by omega, rfl⟩ ?_ ?_
    · rintro w hw e h' ⟨st, t, rfl, s0, s1, rfl⟩
      obtain ⟨v, rfl⟩ : ∃ v : Int, w = .dat (.int v) := by
        simp at hw
        obtain ⟨v, _, rfl⟩ := hw
        exact ⟨v, rfl⟩
      have m3 : bigMul st 43013 = true := sm.big (j := 31) (k := 31) (sm_of s0 (by simp; omega)) (sm_of (by decide) (by decide)) (by decide)
      simp [l_law_cell_0, m3]
      omega
    · rintro e h' ⟨st, t, rfl, s0, s1, rfl⟩
      simp
      exact q _
theorem s_pool (i : Int) (fl : Flat h) (q : ∀ h', At h.length 0 h' h' → h'.length = h.length + 1 → (∀ k, k < h.length → h'[k]? = h[k]?) → Q (.ref h.length) h') : okW (M.run S.glb S.T (n + 1) f_law_pool [.dat (.int i)] h) Q E := by
  rw [run_law_pool]
  apply okW_keep
  have p1 : okPow 10 18 = true := by decide
  have a0 : ∀ d : Int, 0 ≤ d → At h.length 0 (h ++ [.lst [.dat (.int (i % 2147483549)), .dat (.int d), .dat (.int 0)]]) (h ++ [.lst [.dat (.int (i % 2147483549)), .dat (.int d), .dat (.int 0)]]) := fun d hd => ⟨⟨fl.push rfl, rfl, fun _ _ => rfl⟩, _, _, _, List.getElem?_concat_length, by omega, by omega, hd, by omega, by omega⟩
  simp [b_law_pool, okS_ite, okW_ite, p1]
  have b0 : ∀ d : Int, 0 ≤ d → Q (.ref h.length) (h ++ [.lst [.dat (.int (i % 2147483549)), .dat (.int d), .dat (.int 0)]]) := fun d hd => q _ (a0 d hd) (by simp) fun k lt => List.getElem?_append_left lt
  exact ⟨fun _ => ⟨fun _ => b0 _ (by omega), fun _ => b0 _ (by omega)⟩, fun _ => b0 _ (by omega)⟩
end
end K37
namespace K37
open PySem M
/-! ### lists of the small heap that bear data -/
section
variable {h : Hh} {p : Nat} {l : List D}
theorem is_lst {l : List W} (e : h[p]? = some (.lst l)) : isLst h (.ref p) = true := by
  show (match h[p]? with
      | some (.lst _) => true
      | _ => false) = true
  rw [e]
theorem bm_isA {l : List W} (e : h[p]? = some (.lst l)) : bmIs .append (.ref p) h = true := is_lst e
theorem bm_app (e : h[p]? = some (lst l)) (z : l.length < sizeL) (d : D) : bmeth .append (.ref p) [.dat d] h = .ok (.dat .none) (h.set p (lst (l ++ [d]))) := by
  show (match h[p]? with
      | some (.lst l) => if decide (l.length < sizeL) then Res.ok (W.dat .none) (h.set p (.lst (l ++ [W.dat d]))) else .bad
      | _ => .bad) = _
  rw [e]
  simp [z, lst]
theorem add_ref (e : h[p]? = some (lst l)) (y : List D) (z : l.length + y.length ≤ sizeL) : binop .add true (.ref p) (.dat (.list y)) h = .ok (.ref h.length) (h ++ [lst (l ++ y)]) := by
  show (match h[p]? with
    | some (.lst l) => catL true h (some l) (some (y.map W.dat))
    | _ => .bad) = _
  rw [e]
  simp [catL, lst, z, ← List.map_append]
theorem add_refD (e : h[p]? = some (lst l)) (y : List D) (z : l.length + y.length ≤ sizeL) : binop .add false (.ref p) (.dat (.list y)) h = .ok (.dat (.list (l ++ y))) h := by
  show (match h[p]? with
    | some (.lst l) => catL false h (some l) (some (y.map W.dat))
    | _ => .bad) = _
  rw [e]
  simp [catL, lst, z, ← List.map_append]
theorem get_new (o : Ob) : (h ++ [o])[h.length]? = some o := List.getElem?_concat_length
theorem get_old {o : Ob} {x : Ob} (e : h[p]? = some x) : (h ++ [o])[p]? = some x := by
  rw [List.getElem?_append_left (List.getElem?_eq_some_iff.mp e).1]
  exact e
/-- a new list, a list that changes, a cut: the heap is a new one -/
theorem At.push {c : Nat} {g : Hh} (x : At p c g h) (l : List D) : At p c (h ++ [lst l]) (h ++ [lst l]) := by
  obtain ⟨f, a, b, d, e, r⟩ := x
  exact ⟨⟨f.1.push (flat_dat l), rfl, fun _ _ => rfl⟩, a, b, d, get_old e, r⟩
theorem At.put {c k : Nat} {g : Hh} (x : At p c g h) (l : List D) (ne : k ≠ p) : At p c (h.set k (lst l)) (h.set k (lst l)) := by
  obtain ⟨f, a, b, d, e, r⟩ := x
  exact ⟨⟨f.1.set k (flat_dat l), rfl, fun _ _ => rfl⟩, a, b, d, by rw [List.getElem?_set_ne ne]; exact e, r⟩
theorem At.take {c n : Nat} {g g0 : Hh} (x : At p c g h) (lt : p < n) (len : g0.length = n) (le : n ≤ h.length) (eq : ∀ k, k ≠ p → k < n → h[k]? = g0[k]?) : At p c g0 (h.take n) := by
  obtain ⟨f, a, b, d, e, r⟩ := x
  refine ⟨⟨f.1.take n, by rw [List.length_take, len]; omega, fun k ne => ?_⟩, a, b, d, by rw [List.getElem?_take_of_lt lt]; exact e, r⟩
  by_cases lk : k < n
  · rw [List.getElem?_take_of_lt lk]
    exact eq k ne lk
  · rw [List.getElem?_eq_none (by rw [List.length_take]; omega), List.getElem?_eq_none (by omega)]
end
/-! slices -/
section
variable {h : Hh}
theorem cut_to {α : Type} (l : List α) (k : Nat) : cutL l none (some (k : Int)) = l.take k := by
  have e : cutM l.length l.length (some (k : Int)) = min k l.length := by
    show (if (k : Int) < 0 then ((k : Int) + l.length).toNat else min (k : Int).toNat l.length) = _
    rw [if_neg (by omega)]
    simp
  unfold cutL
  rw [e]
  simp [cutM, List.take_eq_take_iff]
theorem cut_from {α : Type} (l : List α) (k : Nat) : cutL l (some (k : Int)) none = l.drop k := by
  have e : cutM l.length 0 (some (k : Int)) = min k l.length := by
    show (if (k : Int) < 0 then ((k : Int) + l.length).toNat else min (k : Int).toNat l.length) = _
    rw [if_neg (by omega)]
    simp
  unfold cutL
  rw [e]
  show List.take (l.length - min k l.length) _ = _
  rw [show min k l.length = if k ≤ l.length then k else l.length by split <;> omega]
  split
  · rw [List.take_of_length_le (by simp)]
  · rw [List.drop_of_length_le (Nat.le_refl _), List.drop_of_length_le (by omega)]
    simp
theorem cut_ij {α : Type} (l : List α) (i j : Nat) : cutL l (some (i : Int)) (some (j : Int)) = (l.drop i).take (j - i) := by
  have e : ∀ (d k : Nat), cutM l.length d (some (k : Int)) = min k l.length := fun d k => by
    show (if (k : Int) < 0 then ((k : Int) + l.length).toNat else min (k : Int).toNat l.length) = _
    rw [if_neg (by omega)]
    simp
  unfold cutL
  rw [e, e]
  by_cases h : i ≤ l.length
  · rw [show min i l.length = i by omega, List.take_eq_take_iff, List.length_drop]
    omega
  · rw [show min i l.length = l.length by omega, List.drop_of_length_le (Nat.le_refl _), List.drop_of_length_le (by omega)]
    simp
theorem str_len (x y : Str) : (x ++ y).length = x.length + y.length := by
  show (Str.append x y).length = _
  simp [Str.append, Str.length]
theorem str_take (x : Str) (i j : Nat) : (⟨((x.cps.toList.drop i).take j).toArray⟩ : Str).length ≤ x.length := by
  have : x.cps.toList.length = x.length := rfl
  simp [Str.length] at *
  omega
theorem cut_mem {α : Type} {l : List α} {a b : Option Int} {d : α} (h : d ∈ cutL l a b) : d ∈ l := List.mem_of_mem_drop (List.mem_of_mem_take h)
end
end K37
namespace K37
open PySem M
/-! the law's fractions -/
def low (a b : Int) : Int × Int := (a / Int.gcd a b, b / Int.gcd a b)
abbrev fr (p : Int × Int) : D := .tuple [.int p.1, .int p.2]
theorem gcd_div {a b : Int} (hb : 0 < b) (hk : sm 9000 b) : okDiv (Int.gcd a b) = true := by
  have pos : (0 : Int) < Int.gcd a b := by
    have := Int.gcd_pos_of_ne_zero_right a (show b ≠ 0 by omega)
    omega
  refine sm.div (k := 8999) (sm_le hk ?_) pos (by decide)
  exact Nat.le_of_dvd (by omega) (Int.gcd_dvd_natAbs_right ..)
/-- a fraction in lowest terms, its size to m, its bottom to 1000 -/
structure Fm (m : Int) (p : Int × Int) : Prop where
  pos : 0 < p.2
  low : Int.gcd p.1 p.2 = 1
  bot : p.2 ≤ 1000
  lo : -m * p.2 ≤ p.1
  hi : p.1 ≤ m * p.2
theorem low_fm {m a b : Int} (hb : 0 < b) (h1 : b ≤ 1000) (hl : -m * b ≤ a) (hh : a ≤ m * b) : Fm m (low a b) := by
  have g0 : 0 < Int.gcd a b := Int.gcd_pos_of_ne_zero_right a (by omega)
  obtain ⟨a', ea⟩ := Int.gcd_dvd_left (a := a) (b := b)
  obtain ⟨b', eb⟩ := Int.gcd_dvd_right (a := a) (b := b)
  have g1 : (0 : Int) < (Int.gcd a b : Int) := by omega
  have e1 : a / (Int.gcd a b : Int) = a' := by
    conv => lhs; lhs; rw [ea]
    exact Int.mul_ediv_cancel_left _ (by omega)
  have e2 : b / (Int.gcd a b : Int) = b' := by
    conv => lhs; lhs; rw [eb]
    exact Int.mul_ediv_cancel_left _ (by omega)
  have hg := Int.gcd_ediv_gcd_ediv_gcd g0
  unfold low
  rw [e1, e2] at hg ⊢
  generalize (Int.gcd a b : Int) = g at *
  have pb : 0 < b' := by
    by_cases z : 0 < b'
    · exact z
    · have := Int.mul_le_mul_of_nonneg_left (show b' ≤ 0 by omega) (show 0 ≤ g by omega)
      rw [Int.mul_zero, ← eb] at this
      omega
  refine ⟨pb, hg, ?_, ?_, ?_⟩
  · have : b' ≤ g * b' := by
      have := Int.mul_le_mul_of_nonneg_right (show (1 : Int) ≤ g by omega) (show 0 ≤ b' by omega)
      rwa [Int.one_mul] at this
    show b' ≤ 1000
    omega
  · show -m * b' ≤ a'
    have z : g * (-m * b') ≤ g * a' := by
      rw [← ea, show g * (-m * b') = -m * (g * b') by rw [Int.mul_left_comm], ← eb]
      exact hl
    exact Int.le_of_mul_le_mul_left z g1
  · show a' ≤ m * b'
    have z : g * a' ≤ g * (m * b') := by
      rw [← ea, show g * (m * b') = m * (g * b') by rw [Int.mul_left_comm], ← eb]
      exact hh
    exact Int.le_of_mul_le_mul_left z g1
end K37
namespace K37
open PySem M
/-! ### what is drawn: ends -/
section
variable {n : Nat} {g h : Hh} {Q : W → Hh → Prop} {E : Nat → Hh → Prop}
theorem atI_mem {α : Type} {l : List α} {v : Int} {d : α} (h0 : 0 ≤ v) (e : atI l v = some d) : d ∈ l := by
  rw [show v = ((v.toNat : Nat) : Int) by omega, atI_nat] at e
  exact List.mem_of_getElem? e
/-- one of a list's things -/
theorem idx_any {l : List D} {v : Int} (P : D → Prop) (h0 : 0 ≤ v) (h1 : v < l.length) (all : ∀ d ∈ l, P d) (q : ∀ d, P d → Q (.dat d) h) : okW (index (.dat (.list l)) (.dat (.int v)) h) Q E := by
  obtain ⟨d, e⟩ := atI_lt l v h0 h1
  rw [index_lst, e]
  exact q d (all d (atI_mem h0 e))
theorem at_any {l : List D} {v : Int} (P : D → Prop) (h0 : 0 ≤ v) (h1 : v < l.length) (all : ∀ d ∈ l, P d) (q : ∀ d, P d → Q (.dat d) h) : okW (optR h ((atI l v).map W.dat)) Q E := by
  obtain ⟨d, e⟩ := atI_lt l v h0 h1
  rw [e]
  exact q d (all d (atI_mem h0 e))
theorem s_low (a b : Int) (hb : 0 < b) (hk : sm 9000 b) (q : Q (.dat (fr (low a b))) h) : okW (M.run S.glb S.T (n + 1) f_law_low [.dat (.int a), .dat (.int b)] h) Q E := by
  rw [run_law_low]
  apply okW_keep
  unfold b_law_low
  rw [exs_cons, okS_bind]
  simp
  refine okS_while (fun m e h' => ∃ x y : Int, e = [some (.dat (.int a)), some (.dat (.int b)), some (.dat (.int x)), some (.dat (.int y))] ∧ 0 ≤ x ∧ 0 ≤ y ∧ Int.gcd x y = Int.gcd a b ∧ m = y.toNat ∧ h' = h) ?_ b.toNat _ _ ⟨a.natAbs, b, rfl, by omega, by omega, gcd_abs a b, rfl, rfl⟩
  rintro m e h' ⟨x, y, rfl, hx, hy, g, rfl, rfl⟩
  simp [c_law_low_0, l_law_low_1]
  refine ⟨fun l => ⟨l, (x % y).toNat, ?_, y, x % y, ⟨rfl, rfl⟩, hy, Int.emod_nonneg _ (by omega), by rw [gcd_step, g], rfl⟩, fun l => ?_⟩
  · have := Int.emod_lt_of_pos x l
    have := Int.emod_nonneg x (show y ≠ 0 by omega)
    omega
  · have : y = 0 := by omega
    subst this
    rw [Int.gcd_zero_right] at g
    rw [show x = ((Int.gcd a b : Nat) : Int) by omega]
    have dv := gcd_div (a := a) hb hk
    simp [dv]
    exact q
theorem s_ends {p c : Nat} (m : Int) (m0 : 0 < m) (m1 : m ≤ 1000000) (x : At p c g h) (hc : c < 900000) (q : ∀ r h', Fm m r → At p (c + 6) g h' → Q (.dat (fr r)) h') : okW (M.run S.glb S.T (n + 2) f_law_ends [.ref p, .dat (.int m)] h) Q E := by
  rw [run_law_ends]
  apply okW_keep
  simp [b_law_ends]
  refine s_take 1000 x (by decide) (by decide) (by omega) fun v h1 v0 v1 x1 => ?_
  try simp
  refine s_take 5 x1 (by decide) (by decide) (by omega) fun w h2 w0 w1 x2 => ?_
  refine idx_any (fun d => ∃ b : Int, d = .int b ∧ 1 ≤ b ∧ b ≤ 1000) w0 (by simp; omega) ?_ ?_
  · simp
    omega
  rintro d ⟨b, rfl, b0, b1⟩
  simp [t_law_ends_4]
  refine s_take 1000 x2 (by decide) (by decide) (by omega) fun s h3 s0 s1 x3 => ?_
  have e1 : bigMul s 1000003 = true := sm.big (j := 31) (k := 31) (sm_of s0 (by simp; omega)) (sm_of (by decide) (by decide)) (by decide)
  simp [e1]
  refine s_take 1000003 x3 (by decide) (by decide) (by omega) fun t h4 t0 t1 x4 => ?_
  have M0 : 0 < m * b := Int.mul_pos m0 (by omega)
  have M1 : m * b ≤ 1000000000 := by
    have := Int.mul_le_mul m1 b1 (by omega) (by omega)
    omega
  have e2 : bigMul m b = true := sm.big (j := 31) (k := 31) (sm_of (by omega) (by simp; omega)) (sm_of (by omega) (by simp; omega)) (by decide)
  have e3 : 0 < m * b + 1 := by omega
  simp [e2, e3]
  have z0 := Int.emod_nonneg (s * 1000003 + t) (show m * b + 1 ≠ 0 by omega)
  have z1 := Int.emod_lt_of_pos (s * 1000003 + t) e3
  generalize (s * 1000003 + t) % (m * b + 1) = z at z0 z1
  simp [t_law_ends_3]
  refine s_take 5 x4 (by decide) (by decide) (by omega) fun w h5 w0 w1 x5 => ?_
  have key : ∀ (z w : Int), 0 ≤ z → z ≤ m * b → okS (exs (cc (n + 1)) t_law_ends_0 [some (.ref p), some (.dat (.int m)), some (.dat (.int b)), some (.dat (.int z)), some (.dat (.int w))] h5) (fun _ h => Q (.dat .none) h) Q (fun c _ h => E c h) := fun z w z0 z1 => by
    simp [t_law_ends_0]
    refine s_take 2 x5 (by decide) (by decide) (by omega) fun w h6 w0 w1 x6 => ?_
    refine idx_any (fun d => d = .int 1 ∨ d = .int (-1)) w0 (by simp; omega) (by simp) ?_
    have sz : sm 31 z := sm_of z0 (by simp; omega)
    have sb : sm 9000 b := (sm_of (k := 31) (by omega) (by simp; omega)).mono (by decide)
    rintro d (rfl | rfl)
    · have e4 : bigMul z 1 = true := sm.big (j := 30) (k := 1) sz (sm_of (by decide) (by decide)) (by decide)
      simp [e4]
      refine s_low z b (by omega) sb (q _ _ (low_fm (by omega) b1 ?_ z1) x6)
      rw [Int.neg_mul]
      omega
    · have e4 : bigMul z (-1) = true := sm.big (j := 30) (k := 1) sz (by unfold sm; decide) (by decide)
      simp [e4]
      refine s_low _ b (by omega) sb (q _ _ (low_fm (by omega) b1 ?_ ?_) x6)
      · rw [Int.neg_mul]
        omega
      · omega
  have key2 : ∀ (z w : Int), 0 ≤ z → z ≤ m * b → okS (exs (cc (n + 1)) t_law_ends_1 [some (.ref p), some (.dat (.int m)), some (.dat (.int b)), some (.dat (.int z)), some (.dat (.int w))] h5) (fun _ h => Q (.dat .none) h) Q (fun c _ h => E c h) := fun z w z0 z1 => by
    simp [t_law_ends_1, okS_ite]
    refine ⟨fun _ => key _ _ (by omega) (by omega), fun _ => key _ _ z0 z1⟩
  simp [t_law_ends_2, okS_ite]
  refine ⟨fun l => ?_, fun _ => key2 _ _ z0 (by omega)⟩
  simp [e2]
  refine at_any (fun d => ∃ b' : Int, d = .int b' ∧ 0 ≤ b' ∧ b' ≤ m * b) w0 (by show _ < ((2 : Nat) : Int); omega) ?_ ?_
  · simp
    omega
  rintro d ⟨b', rfl, b0', b1'⟩
  exact key2 _ _ b0' b1'
theorem s_size (r : Int × Int) (q : Q (.dat (fr (r.1.natAbs, r.2))) h) : okW (M.run S.glb S.T (n + 1) f_law_size [.dat (fr r)] h) Q E := by
  rw [run_law_size]
  apply okW_keep
  simp [b_law_size]
  have e : (if r.1 < 0 then -r.1 else r.1) = (r.1.natAbs : Int) := by split <;> omega
  simpa [e] using q
theorem Fm.abs {m : Int} {r : Int × Int} (h : Fm m r) : Fm m (r.1.natAbs, r.2) := by
  have := h.pos
  have := h.lo
  have := h.hi
  refine ⟨h.pos, by rw [gcd_abs]; exact h.low, h.bot, ?_, ?_⟩
  · show -m * r.2 ≤ (r.1.natAbs : Int)
    rw [Int.neg_mul] at *
    omega
  · show (r.1.natAbs : Int) ≤ m * r.2
    rw [Int.neg_mul] at *
    omega
end
end K37
namespace K37
open PySem M
/-! ### what is drawn: names -/
theorem join_one (cs : List Nat) : Txt.join "" (cs.map fun c => (⟨#[c]⟩ : Str)) = ⟨cs.toArray⟩ := by
  have key : ∀ (cs : List Nat) (acc : Array Nat), (cs.map fun c => (⟨#[c]⟩ : Str)).foldl (fun acc p => acc ++ ("" : Str).cps ++ p.cps) acc = acc ++ cs.toArray := by
    intro cs
    induction cs with
    | nil => intro acc; simp
    | cons c cs ih =>
      intro acc
      rw [List.map_cons, List.foldl_cons, ih]
      have : ("" : Str).cps = #[] := by decide
      rw [this]
      simp
  cases cs with
  | nil => rfl
  | cons c cs =>
    show (⟨((cs.map fun c => (⟨#[c]⟩ : Str)).foldl (fun acc p => acc ++ ("" : Str).cps ++ p.cps) #[c])⟩ : Str) = _
    rw [key]
    simp
abbrev wordsL : List D := [.str "mark", .str "habit", .str "gain", .str "cloud", .str "fits", .str "open", .str "strike", .str "back", .str "book", .str "none", .str "clash", .str "to"]
theorem words_nam : ∀ d ∈ wordsL, nameD d = true := by decide +kernel
theorem nd_str {l : List Str} (h : l.Nodup) : (l.map PyData.str).Nodup := by
  unfold List.Nodup
  rw [List.pairwise_map]
  exact h.imp fun ne e => ne (PyData.str.inj e)
theorem words_nd : wordsL.Nodup := nd_str (l := ["mark", "habit", "gain", "cloud", "fits", "open", "strike", "back", "book", "none", "clash", "to"]) (by decide +kernel)
abbrev letL : List Nat := letters.cps.toList
theorem let_len : letL.length = 26 := by decide +kernel
theorem let_nd : letL.Nodup := by decide +kernel
def letAt (v : Int) : Nat := (atI letL v).getD 0
theorem atI_let {v : Int} (v0 : 0 ≤ v) (v1 : v < 26) : atI letL v = some (letAt v) := by
  obtain ⟨c, e⟩ := atI_lt letL v v0 (by rw [let_len]; omega)
  unfold letAt
  rw [e]
  rfl
theorem letB_at {v : Int} (v0 : 0 ≤ v) (v1 : v < 26) : letB (letAt v) = true := decide_eq_true (atI_mem v0 (atI_let v0 v1))
theorem atI_inj {α : Type} {l : List α} (nd : l.Nodup) {v w : Int} {a : α} (v0 : 0 ≤ v) (w0 : 0 ≤ w) (e1 : atI l v = some a) (e2 : atI l w = some a) : v = w := by
  rw [show v = ((v.toNat : Nat) : Int) by omega, atI_nat] at e1
  rw [show w = ((w.toNat : Nat) : Int) by omega, atI_nat] at e2
  have := nodup_get nd e1 e2
  omega
theorem letAt_inj {v w : Int} (v0 : 0 ≤ v) (v1 : v < 26) (w0 : 0 ≤ w) (w1 : w < 26) (e : letAt v = letAt w) : v = w := by
  have a := atI_let v0 v1
  have b := atI_let w0 w1
  rw [← e] at b
  exact atI_inj let_nd v0 w0 a b
theorem strAt_let {v : Int} (v0 : 0 ≤ v) (v1 : v < 26) : strAt letters v = some ⟨#[letAt v]⟩ := by
  unfold strAt
  rw [if_pos (by decide +kernel), atI_let v0 v1]
  rfl
/-- a row of unlike names -/
structure Nm (l : List D) : Prop where
  nam : ∀ d ∈ l, nameD d = true
  nd : l.Nodup
theorem nd_range {f : Nat → D} {k : Nat} (inj : ∀ i j, i < j → j < k → f i ≠ f j) : ((List.range k).map f).Nodup := by
  unfold List.Nodup
  rw [List.pairwise_map]
  exact List.pairwise_lt_range.imp_of_mem fun _ hb lt => inj _ _ lt (List.mem_range.mp hb)
theorem rngL_nat (k : Nat) : rngL 0 (k : Int) = (List.range k).map fun i : Nat => W.dat (.int (i : Int)) := by
  unfold rngL
  simp
theorem nameD_mk {l : List Nat} (a : 1 ≤ l.length) (b : l.length ≤ 8) (c : ∀ x ∈ l, letB x = true) : nameD (.str ⟨l.toArray⟩) = true := by
  have e : (⟨l.toArray⟩ : Str).length = l.length := by simp [Str.length]
  simp [nameD, e, a, b]
  exact c
theorem str_app (a b : List Nat) : (⟨a.toArray⟩ : Str) ++ (⟨b.toArray⟩ : Str) = ⟨(a ++ b).toArray⟩ := by
  show Str.append _ _ = _
  simp [Str.append]
theorem str_app1 (a : List Nat) (c : Nat) : (⟨a.toArray⟩ : Str) ++ (⟨#[c]⟩ : Str) = ⟨(a ++ [c]).toArray⟩ := str_app a [c]
section
variable {n : Nat} {g h : Hh} {Q : W → Hh → Prop} {E : Nat → Hh → Prop}
theorem slice_str (x : Str) (lo hi : Option Int) (l : x.length ≤ sizeL) : slice (.dat (.str x)) lo hi h = .ok (.dat (.str ⟨(cutL x.cps.toList lo hi).toArray⟩)) h := by
  show (if x.length ≤ sizeL then _ else _) = _
  rw [if_pos l]
theorem strs_map (cs : List Nat) : strsOf (cs.map fun c => W.dat (.str ⟨#[c]⟩)) = some (cs.map fun c => (⟨#[c]⟩ : Str)) := by
  induction cs with
  | nil => rfl
  | cons c cs ih =>
    show (match W.dat (.str ⟨#[c]⟩), strsOf (cs.map fun c => W.dat (.str ⟨#[c]⟩)) with
      | .dat (.str x), some xs => some (x :: xs)
      | _, _ => none) = _
    rw [ih]
    rfl
theorem join_w (cs : List Nat) (l : cs.length ≤ 1000) : bmeth .join (.dat (.str "")) [.dat (.list (cs.map fun c => .str ⟨#[c]⟩))] h = .ok (.dat (.str ⟨cs.toArray⟩)) h := by
  show joinW "" (List.map .dat (cs.map fun c => .str ⟨#[c]⟩)) h = _
  rw [List.map_map, show (W.dat ∘ fun c : Nat => PyData.str ⟨#[c]⟩) = (fun c => W.dat (.str ⟨#[c]⟩)) from rfl]
  unfold joinW
  rw [strs_map]
  show (if decide (((cs.map fun c => (⟨#[c]⟩ : Str)).map (·.length)).sum + (cs.map fun c => (⟨#[c]⟩ : Str)).length * ("" : Str).length ≤ 16777216) = true then Res.ok (W.dat (.str (Txt.join "" (cs.map fun c => (⟨#[c]⟩ : Str))))) h else Res.bad) = _
  rw [join_one]
  have e : ((cs.map fun c => (⟨#[c]⟩ : Str)).map (·.length)).sum = cs.length := by
    rw [List.map_map]
    induction cs with
    | nil => rfl
    | cons c cs ih =>
      rw [List.map_cons, List.sum_cons, ih (by rw [List.length_cons] at l; omega), List.length_cons]
      show 1 + _ = _
      omega
  have z : ("" : Str).length = 0 := by decide
  simp only [e, z]
  rw [if_pos]
  exact decide_eq_true (by omega)
theorem idx_let {v : Int} (v0 : 0 ≤ v) (v1 : v < 26) : index (.dat (.str letters)) (.dat (.int v)) h = .ok (.dat (.str ⟨#[letAt v]⟩)) h := by
  show (match strAt letters v with
      | some y => Res.ok (W.dat (.str y)) h
      | none => .bad) = _
  rw [strAt_let v0 v1]
/-- the elements of both ways -/
theorem words_elt {a s : Int} {i : Nat} (z1 z2 z5 z6 z7 z8 z9 : Option W) (big : bigMul s i = true) : ev (cc n) e_law_names_6 [z1, z2, some (.dat (.list wordsL)), some (.dat (.int a)), some (.dat (.int s)), some (.dat (.int (i : Int))), z6, z7, z8, z9] h = .ok (.dat ((atI wordsL ((a + s * i) % 12)).getD .none)) h := by
  obtain ⟨d, e⟩ := atI_lt wordsL ((a + s * i) % 12) (by omega) (by show _ < ((12 : Nat) : Int); omega)
  rw [e]
  simp [e_law_names_6, big, e]
theorem letters_elt {f s : Int} {i u : Nat} {cs : List Nat} (z1 z2 z3 z4 : Option W) (big : bigMul s i = true) (lc : cs.length ≤ 7) : ev (cc n) e_law_names_0 [z1, z2, z3, z4, some (.dat (.int s)), some (.dat (.int (i : Int))), some (.dat (.str letters)), some (.dat (.str ⟨cs.toArray⟩)), some (.dat (.int u)), some (.dat (.int f))] h = .ok (.dat (.str ⟨(cs.take u ++ [letAt ((f + s * i) % 26)] ++ cs.drop u).toArray⟩)) h := by
  have rng : 0 ≤ (f + s * i) % 26 ∧ (f + s * i) % 26 < 26 := ⟨by omega, by omega⟩
  have sl : (⟨cs.toArray⟩ : Str).length ≤ sizeL := by simp [Str.length, sizeL]; omega
  have l1 : (⟨(cs.take u).toArray⟩ : Str).length ≤ 8 := by simp [Str.length]; omega
  have l2 : (⟨(cs.drop u).toArray⟩ : Str).length ≤ 8 := by simp [Str.length]; omega
  have l3 : ∀ c : Nat, (⟨#[c]⟩ : Str).length = 1 := fun c => rfl
  have l4 : ∀ c : Nat, (⟨(cs.take u ++ [c]).toArray⟩ : Str).length ≤ 9 := fun c => by simp [Str.length]; omega
  have ix := idx_let (h := h) rng.1 rng.2
  generalize W.dat (.str letters) = lt at ix ⊢
  have a1 : ∀ c : Nat, (⟨(cs.take u).toArray⟩ : Str).length + (⟨#[c]⟩ : Str).length ≤ sizeL := fun c => by rw [l3]; simp only [sizeL]; omega
  have a2 : ∀ c : Nat, (⟨(cs.take u ++ [c]).toArray⟩ : Str).length + (⟨(cs.drop u).toArray⟩ : Str).length ≤ sizeL := fun c => by have := l4 c; simp only [sizeL]; omega
  simp [e_law_names_0, big, slice_str _ _ _ sl, cut_to, cut_from, ix]
  rw [if_pos (a1 _), str_app1, bind_ok, bin_addS, if_pos (a2 _), str_app]
  simp
section
variable {p c : Nat} {k : Nat} (hk : k ≤ 12) (hc : c < 900000) {a s : Int} (hs : s = 1 ∨ s = 5 ∨ s = 7 ∨ s = 11) (x : At p c g h)
include hk hc hs x
theorem names_letters4 (z3 z4 z5 z7 z8 z9 : Option W) {lt : W} (hlt : lt = .dat (.str letters)) {N : En → Hh → Prop} {X : Nat → En → Hh → Prop} (q : ∀ l h', l.length = k → Nm l → At p (c + 10) g h' → Q (.dat (.list l)) h') : okS (exs (cc (n + 1)) t_law_names_4 [some (.ref p), some (.dat (.int k)), z3, z4, some (.dat (.int s)), z5, some lt, z7, z8, z9] h) N Q X := by
  have big : ∀ i : Nat, i < k → bigMul s i = true := fun i hi => sm.big (j := 30) (k := 30) (sm_of (by omega) (by simp; omega)) (sm_of (by omega) (by simp; omega)) (by decide)
  simp [t_law_names_4]
  refine s_take 8 x (by decide) (by decide) (by omega) fun r h4 r0 r1 x4 => ?_
  obtain ⟨r, rfl⟩ : ∃ m : Nat, r = m := ⟨r.toNat, by omega⟩
  simp [okR_nat (show r ≤ 1000000 by omega)]
  refine okW_compL (fun i acc h' => ∃ cs : List Nat, acc = cs.map (fun c => W.dat (.str ⟨#[c]⟩)) ∧ cs.length = i ∧ (∀ c ∈ cs, letB c = true) ∧ At p (c + 1 + i) g h') _ 0 _ _ ⟨[], rfl, rfl, by simp, x4⟩ ?_ ?_ ?_
  · simp [sizeL]; omega
  · rintro j w0 z acc h5 ⟨cs, rfl, lc, hcs, x5⟩
    have lj := (List.getElem?_eq_some_iff.mp z).1
    rw [rngL_length] at lj
    simp [e_law_names_3]
    refine s_take 26 x5 (by decide) (by decide) (by omega) fun v h6 v0 v1 x6 => ?_
    have ix : index lt (.dat (.int v)) h6 = .ok (.dat (.str ⟨#[letAt v]⟩)) h6 := by
      rw [hlt]
      exact idx_let v0 v1
    simp [ix]
    refine ⟨cs ++ [letAt v], by simp, by simp; omega, ?_, x6.more (by omega)⟩
    intro c hc
    rcases List.mem_append.mp hc with hc | hc
    · exact hcs c hc
    · rw [List.mem_singleton.mp hc]; exact letB_at v0 v1
  · rintro acc h5 ⟨cs, rfl, lc, hcs, x5⟩
    simp at lc
    have e0 : cs.map (fun c => W.dat (.str ⟨#[c]⟩)) = (cs.map fun c => PyData.str ⟨#[c]⟩).map .dat := by rw [List.map_map]; rfl
    rw [e0]
    simp only [okW_ok, mkLst_map, dsOf_map, okS_bind, okS_then, bm_isS2, if_true, okW_bind, evs_nil]
    rw [join_w cs (by omega)]
    rw [rngL_length] at x5
    have ln : (⟨cs.toArray⟩ : Str).length = cs.length := by simp [Str.length]
    have sl : (⟨cs.toArray⟩ : Str).length ≤ sizeL := by rw [ln]; simp [sizeL]; omega
    simp [t_law_names_2, sl]
    refine s_take _ x5 (by omega) (by omega) (by omega) fun u h6 u0 u1 x6 => ?_
    try simp
    refine s_take 26 x6 (by decide) (by decide) (by omega) fun f h7 f0 f1 x7 => ?_
    rw [ln] at u1
    clear sl ln
    have lu : u.toNat ≤ cs.length := by omega
    rw [show u = ((u.toNat : Nat) : Int) by omega]
    generalize u.toNat = u at lu ⊢
    simp [t_law_names_1, okR_nat (show k ≤ 1000000 by omega)]
    rw [rngL_nat, compL_map (g := fun i : Nat => .str ⟨(cs.take u ++ [letAt ((f + s * i) % 26)] ++ cs.drop u).toArray⟩)]
    · simp only [okW_ok, mkLst_map, dsOf_map]
      have rng : ∀ i : Nat, 0 ≤ (f + s * i) % 26 ∧ (f + s * i) % 26 < 26 := fun i => ⟨by omega, by omega⟩
      refine q _ _ (by simp) ⟨fun d hd => ?_, nd_range fun i j lt lj => ?_⟩ (x7.more (by omega))
      · obtain ⟨i, _, rfl⟩ := List.mem_map.mp hd
        refine nameD_mk ?_ ?_ ?_
        · simp; omega
        · simp; omega
        · intro y hy
          rcases List.mem_append.mp hy with hy | hy
          · rcases List.mem_append.mp hy with hy | hy
            · exact hcs y (List.mem_of_mem_take hy)
            · rw [List.mem_singleton.mp hy]; exact letB_at (rng i).1 (rng i).2
          · exact hcs y (List.mem_of_mem_drop hy)
      · intro e
        have e := congrArg (fun d => match d with | PyData.str x => x.cps.toList | _ => []) e
        simp at e
        have := letAt_inj (rng i).1 (rng i).2 (rng j).1 (rng j).2 e
        rcases hs with rfl | rfl | rfl | rfl <;> omega
    · intro i hi
      have z := letters_elt (n := n + 1) (h := h7) (f := f) (u := u) (some (.ref p)) (some (.dat (.int k))) z3 z4 (big i (List.mem_range.mp hi)) (show cs.length ≤ 7 by omega)
      rw [← hlt] at z
      simp only [z, bind_ok, noexc_ok]
    · simp [sizeL]; omega
theorem names_letters (z3 z4 z5 z6 z7 z8 z9 : Option W) {N : En → Hh → Prop} {X : Nat → En → Hh → Prop} (q : ∀ l h', l.length = k → Nm l → At p (c + 10) g h' → Q (.dat (.list l)) h') : okS (exs (cc (n + 1)) t_law_names_5 [some (.ref p), some (.dat (.int k)), z3, z4, some (.dat (.int s)), z5, z6, z7, z8, z9] h) N Q X := by
  unfold t_law_names_5
  rw [exs_cons, ex_asg, ev_cst, then_ok, stor_nam, bindS_nxt]
  exact names_letters4 hk hc hs x z3 z4 z5 z7 z8 z9 rfl q
end
theorem names8 {p c : Nat} (k : Nat) (hk : k ≤ 12) {wl : W} (hwl : wl = .dat (.list wordsL)) (x : At p c g h) (hc : c < 890000) {N : En → Hh → Prop} {X : Nat → En → Hh → Prop} (q : ∀ l h', l.length = k → Nm l → At p (c + 20) g h' → Q (.dat (.list l)) h') : okS (exs (cc (n + 1)) t_law_names_8 [some (.ref p), some (.dat (.int k)), some wl, none, none, none, none, none, none, none] h) N Q X := by
  simp [t_law_names_8]
  refine s_take 12 x (by decide) (by decide) (by omega) fun a h1 a0 a1 x1 => ?_
  refine s_take 4 x1 (by decide) (by decide) (by omega) fun v h2 v0 v1 x2 => ?_
  refine idx_any (fun d => ∃ s : Int, d = .int s ∧ (s = 1 ∨ s = 5 ∨ s = 7 ∨ s = 11)) v0 (by show _ < ((4 : Nat) : Int); omega) (by simp) ?_
  rintro d ⟨s, rfl, hs⟩
  simp [t_law_names_7]
  refine s_take 4 x2 (by decide) (by decide) (by omega) fun w h3 w0 w1 x3 => ?_
  by_cases hw : w = 1
  · have big : ∀ i : Nat, i < k → bigMul s i = true := fun i hi => sm.big (j := 30) (k := 30) (sm_of (by omega) (by simp; omega)) (sm_of (by omega) (by simp; omega)) (by decide)
    simp [okS_ite, okR_nat (show k ≤ 1000000 by omega), hw]
    have at_ : ∀ i : Nat, ∃ d, atI wordsL ((a + s * i) % 12) = some d := fun i => atI_lt wordsL _ (by omega) (by show _ < ((12 : Nat) : Int); omega)
    rw [rngL_nat, compL_map (g := fun i : Nat => (atI wordsL ((a + s * i) % 12)).getD .none)]
    · simp only [okW_ok, mkLst_map, dsOf_map]
      refine q _ _ (by simp) ⟨fun d hd => ?_, nd_range fun i j lt lj => ?_⟩ (x3.more (by omega))
      · obtain ⟨i, _, rfl⟩ := List.mem_map.mp hd
        obtain ⟨d, e⟩ := at_ i
        simp only [e, Option.getD_some]
        exact words_nam d (atI_mem (by omega) e)
      · obtain ⟨d, e⟩ := at_ i
        obtain ⟨d', e'⟩ := at_ j
        simp only [e, e', Option.getD_some]
        rintro rfl
        have := atI_inj words_nd (by omega) (by omega) e e'
        rcases hs with rfl | rfl | rfl | rfl <;> omega
    · intro i hi
      have z := words_elt (n := n + 1) (h := h3) (a := a) (some (.ref p)) (some (.dat (.int k))) none none none none none (big i (List.mem_range.mp hi))
      rw [← hwl] at z
      simp only [z, bind_ok, noexc_ok]
    · simp [sizeL]; omega
  · simp [okS_ite, hw]
    exact names_letters hk (show c + 1 + 1 + 1 < 900000 by omega) hs x3 (some wl) (some (.dat (.int a))) none none none none none fun l h' a b c => q l h' a b (c.more (by omega))
theorem okS_of_mk {r : Res W} {w : W} (e : r = .ok w h) {en : En} {i : Nat} {C : Cc} {N : En → Hh → Prop} {X : Nat → En → Hh → Prop} (q : N (en.set i (some w)) h) : okS (r.then en fun w h => stor C (.nam i) w en h) N Q X := by
  rw [e]
  exact q
theorem s_names {p c : Nat} (k : Nat) (hk : k ≤ 12) (x : At p c g h) (hc : c < 890000) (q : ∀ l h', l.length = k → Nm l → At p (c + 20) g h' → Q (.dat (.list l)) h') : okW (M.run S.glb S.T (n + 2) f_law_names [.ref p, .dat (.int k)] h) Q E := by
  rw [run_law_names]
  apply okW_keep
  unfold b_law_names
  rw [exs_cons, okS_bind]
  simp only [ex_asg, ev_lst, evs_cons, evs_nil, ev_cst, bind_ok]
  have e : ∀ l : List W, l = wordsL.map .dat → mkLst false l h = .ok (.dat (.list wordsL)) h := fun l z => by rw [z, mkLst_map]
  rw [if_pos (by decide)]
  refine okS_of_mk (e _ rfl) ?_
  exact names8 k hk rfl x hc q
end
end K37
namespace K37
open PySem M
/-! ### good entries -/
theorem nameD_inv {d : D} (e : nameD d = true) : ∃ x, d = .str x := by
  cases d with
  | str x => exact ⟨x, rfl⟩
  | _ => cases e
inductive GoodE : D → Prop
  | two (w x : Str) (u v : Int × Int) : (w = "habit" ∨ w = "gain") → nameD (.str x) = true → Fm 1000000 u → Fm 1000 v → 0 ≤ v.1 → GoodE (.tuple [.str w, .str x, fr u, fr v])
  | mark (x y z : Str) (t : Int) (u v : Int × Int) : nameD (.str x) = true → nameD (.str y) = true → nameD (.str z) = true → 0 ≤ t → t ≤ 999 → Fm 1000000 u → Fm 1000 v → 0 ≤ v.1 → GoodE (.tuple [.str "mark", .str x, .str y, .str z, .int t, fr u, fr v])
theorem Fm.told {m : Int} {r : Int × Int} (f : Fm m r) : toldD (-m) m (fr r) = true := by
  simp [toldD, f.pos, f.low, f.bot, f.hi]
  have := f.lo
  rwa [Int.neg_mul] at this ⊢
theorem Fm.told0 {m : Int} {r : Int × Int} (f : Fm m r) (z : 0 ≤ r.1) : toldD 0 m (fr r) = true := by
  simp [toldD, f.pos, f.low, f.bot, f.hi, z]
theorem let_cp : ∀ c ∈ letL, c < 1114112 := by decide +kernel
theorem nameD_len {x : Str} (e : nameD (.str x) = true) : 1 ≤ x.length ∧ x.length ≤ 8 ∧ ∀ c ∈ x.cps.toList, letB c = true := by
  have e : (decide (1 ≤ x.length) && (decide (x.length ≤ 8) && x.cps.toList.all letB)) = true := e
  have a := and2 e
  have b := and2 a.2
  exact ⟨of_decide_eq_true a.1, of_decide_eq_true b.1, fun c hc => List.all_eq_true.mp b.2 c hc⟩
theorem ok_str {x : Str} (l : x.length ≤ 1000) (c : ∀ c ∈ x.cps.toList, c < 1114112) : okPart (.str x) := by
  refine ⟨by simp [sizeL]; omega, ?_⟩
  show (PyData.strOk x && decide (PyData.depth (.str x) ≤ 64)) = true
  rw [Bool.and_eq_true]
  refine ⟨?_, decide_eq_true (Nat.zero_le _)⟩
  unfold PyData.strOk
  rw [← Array.all_toList, List.all_eq_true]
  intro y hy
  exact decide_eq_true (c y hy)
theorem ok_name {x : Str} (e : nameD (.str x) = true) : okPart (.str x) := by
  obtain ⟨_, b, c⟩ := nameD_len e
  exact ok_str (by omega) fun y hy => let_cp y (of_decide_eq_true (c y hy))
theorem GoodE.is {d : D} (g : GoodE d) : entryD d = true ∧ okAll d := by
  cases g with
  | two w x u v hw hx hu hv hz =>
    refine ⟨?_, ?_⟩
    · simp only [entryD, endsD, decide_eq_true hw, hx, hu.told, hv.told0 hz, Bool.and_self]
    · intro y hy
      simp at hy
      rcases hy with rfl | rfl | rfl | rfl
      · rcases hw with rfl | rfl <;> exact ⟨by decide, by decide +kernel⟩
      · exact ok_name hx
      · trivial
      · trivial
  | mark x y z t u v hx hy hz t0 t1 hu hv h0 =>
    refine ⟨?_, ?_⟩
    · simp [entryD, endsD, hx, hy, hz, hu.told, hv.told0 h0, nightD, t0, t1]
    · intro d hd
      simp at hd
      rcases hd with rfl | rfl | rfl | rfl | rfl | rfl | rfl
      · exact ⟨by decide, by decide +kernel⟩
      · exact ok_name hx
      · exact ok_name hy
      · exact ok_name hz
      · trivial
      · trivial
      · trivial
end K37
namespace K37
open PySem M
/-! ### entries as they are -/
inductive En1
  | habit (x : Str) (a g : Int × Int)
  | gain (x : Str) (a g : Int × Int)
  | mark (w s p : Str) (n : Int) (a g : Int × Int)
namespace En1
def d : En1 → D
  | habit x a g => .tuple [.str "habit", .str x, fr a, fr g]
  | gain x a g => .tuple [.str "gain", .str x, fr a, fr g]
  | mark w s p n a g => .tuple [.str "mark", .str w, .str s, .str p, .int n, fr a, fr g]
/-- whether two of them quarrel -/
def quar : En1 → En1 → Bool
  | mark w s p n _ _, mark w' s' p' n' _ _ => decide (w = w') && (decide (n = n') && (!decide (p = p') || decide (s = s')))
  | _, _ => false
def who : En1 → Option Str
  | habit x _ _ => some x
  | gain _ _ _ => none
  | mark w _ _ _ _ _ => some w
def what : En1 → Option Str
  | mark _ s _ _ _ _ => some s
  | _ => none
def here : En1 → Option Str
  | mark _ _ p _ _ _ => some p
  | _ => none
def clock : En1 → Option Str
  | gain x _ _ => some x
  | _ => none
/-- the cloud at which a mark stands -/
def spot : En1 → Option (Str × Int)
  | mark _ _ p n _ _ => some (p, n)
  | _ => none
end En1
theorem toldD_inv {lo hi : Int} {d : D} (e : toldD lo hi d = true) : ∃ p : Int × Int, d = fr p := by
  unfold toldD at e
  split at e
  · rename_i a b
    exact ⟨(a, b), rfl⟩
  · cases e
theorem nightD_inv {d : D} (e : nightD d = true) : ∃ n : Int, d = .int n ∧ 0 ≤ n ∧ n ≤ 999 := by
  unfold nightD at e
  split at e
  · have z := and2 e
    exact ⟨_, rfl, of_decide_eq_true z.1, of_decide_eq_true z.2⟩
  · cases e
theorem entry_inv {d : D} (h : entryD d = true) : ∃ e : En1, d = e.d := by
  unfold entryD at h
  split at h
  · rename_i w x a g
    have h1 := and2 h
    have h2 := and2 h1.2
    have h3 := and2 h2.2
    obtain ⟨p, rfl⟩ := toldD_inv h3.1
    obtain ⟨r, rfl⟩ := toldD_inv h3.2
    obtain ⟨x, rfl⟩ := nameD_inv h2.1
    rcases of_decide_eq_true h1.1 with rfl | rfl
    · exact ⟨.habit x p r, rfl⟩
    · exact ⟨.gain x p r, rfl⟩
  · rename_i w x y z t a g
    have h1 := and2 h
    have h2 := and2 h1.2
    have h3 := and2 h2.2
    have h4 := and2 h3.2
    have h5 := and2 h4.2
    have h6 := and2 h5.2
    obtain ⟨p, rfl⟩ := toldD_inv h6.1
    obtain ⟨r, rfl⟩ := toldD_inv h6.2
    obtain ⟨x, rfl⟩ := nameD_inv h2.1
    obtain ⟨y, rfl⟩ := nameD_inv h3.1
    obtain ⟨z, rfl⟩ := nameD_inv h4.1
    obtain ⟨n, rfl, _, _⟩ := nightD_inv h5.1
    obtain rfl := of_decide_eq_true h1.1
    exact ⟨.mark x y z n p r, rfl⟩
  · cases h
theorem entries_inv : ∀ {l : List D}, l.all entryD = true → ∃ es : List En1, l = es.map En1.d
  | [], _ => ⟨[], rfl⟩
  | d :: l, h => by
    have h := and2 (show (entryD d && l.all entryD) = true from h)
    obtain ⟨e, rfl⟩ := entry_inv h.1
    obtain ⟨es, rfl⟩ := entries_inv h.2
    exact ⟨e :: es, rfl⟩
/-! they may be compared -/
theorem cmp_cons {x y : D} {xs ys : List D} (a : cmpD x y = true) (b : cmpDs xs ys = true) : cmpDs (x :: xs) (y :: ys) = true := by
  show (if PyData.eqv x y = true then cmpDs xs ys else cmpD x y) = true
  split
  · exact b
  · exact a
theorem cmp_head {x y : D} {xs ys : List D} (n : PyData.eqv x y = false) (a : cmpD x y = true) : cmpDs (x :: xs) (y :: ys) = true := by
  show (if PyData.eqv x y = true then cmpDs xs ys else cmpD x y) = true
  rw [n]
  exact a
theorem cmp_fr (p r : Int × Int) : cmpD (fr p) (fr r) = true := cmp_cons rfl (cmp_cons rfl rfl)
theorem words_ne : (("habit" : Str) == "gain") = false ∧ (("habit" : Str) == "mark") = false ∧ (("gain" : Str) == "mark") = false ∧ (("gain" : Str) == "habit") = false ∧ (("mark" : Str) == "habit") = false ∧ (("mark" : Str) == "gain") = false := by decide +kernel
theorem cmp_en (e f : En1) : cmpD e.d f.d = true := by
  have w := words_ne
  cases e <;> cases f
  · exact cmp_cons rfl (cmp_cons rfl (cmp_cons (cmp_fr _ _) (cmp_cons (cmp_fr _ _) rfl)))
  · exact cmp_head (by simpa [PyData.eqv] using w.1) rfl
  · exact cmp_head (by simpa [PyData.eqv] using w.2.1) rfl
  · exact cmp_head (by simpa [PyData.eqv] using w.2.2.2.1) rfl
  · exact cmp_cons rfl (cmp_cons rfl (cmp_cons (cmp_fr _ _) (cmp_cons (cmp_fr _ _) rfl)))
  · exact cmp_head (by simpa [PyData.eqv] using w.2.2.1) rfl
  · exact cmp_head (by simpa [PyData.eqv] using w.2.2.2.2.1) rfl
  · exact cmp_head (by simpa [PyData.eqv] using w.2.2.2.2.2) rfl
  · exact cmp_cons rfl (cmp_cons rfl (cmp_cons rfl (cmp_cons rfl (cmp_cons rfl (cmp_cons (cmp_fr _ _) (cmp_cons (cmp_fr _ _) rfl))))))
theorem shp_parts {l : List D} (h : ∀ d ∈ l, d.canLay0 = true ∧ d.depth ≤ 10) : PyData.canLayAll0 l = true ∧ PyData.depthAll l ≤ 10 := by
  induction l with
  | nil => exact ⟨rfl, Nat.zero_le _⟩
  | cons d l ih =>
    have a := h d List.mem_cons_self
    have b := ih fun x m => h x (List.mem_cons_of_mem _ m)
    refine ⟨?_, ?_⟩
    · show (d.canLay0 && PyData.canLayAll0 l) = true
      rw [a.1, b.1]
      rfl
    · show max d.depth (PyData.depthAll l) ≤ 10
      omega
theorem part_shp {d : D} (o : okPart d) (h : (∃ x, d = .str x) ∨ (∃ i, d = .int i) ∨ ∃ p : Int × Int, d = fr p) : d.canLay0 = true ∧ d.depth ≤ 10 := by
  rcases h with ⟨x, rfl⟩ | ⟨i, rfl⟩ | ⟨p, rfl⟩
  · exact ⟨(Bool.and_eq_true_iff.mp o.2).1, Nat.zero_le _⟩
  · exact ⟨rfl, Nat.zero_le _⟩
  · exact ⟨rfl, by show max 0 (max 0 0) + 1 ≤ 10; decide⟩
theorem en_shp {e : En1} (o : okAll e.d) : e.d.canLay0 = true ∧ e.d.depth ≤ 11 := by
  have key : ∀ l : List D, (∀ d ∈ l, okPart d) → (∀ d ∈ l, (∃ x, d = .str x) ∨ (∃ i, d = .int i) ∨ ∃ p : Int × Int, d = fr p) → (PyData.tuple l).canLay0 = true ∧ (PyData.tuple l).depth ≤ 11 := fun l o k => by
    have z := shp_parts (l := l) fun d m => part_shp (o d m) (k d m)
    exact ⟨z.1, by show PyData.depthAll l + 1 ≤ 11; omega⟩
  cases e with
  | habit x a g =>
    refine key _ o fun d m => ?_
    simp at m
    rcases m with rfl | rfl | rfl | rfl
    · exact .inl ⟨_, rfl⟩
    · exact .inl ⟨_, rfl⟩
    · exact .inr (.inr ⟨a, rfl⟩)
    · exact .inr (.inr ⟨g, rfl⟩)
  | gain x a g =>
    refine key _ o fun d m => ?_
    simp at m
    rcases m with rfl | rfl | rfl | rfl
    · exact .inl ⟨_, rfl⟩
    · exact .inl ⟨_, rfl⟩
    · exact .inr (.inr ⟨a, rfl⟩)
    · exact .inr (.inr ⟨g, rfl⟩)
  | mark w s p n a g =>
    refine key _ o fun d m => ?_
    simp at m
    rcases m with rfl | rfl | rfl | rfl | rfl | rfl | rfl
    · exact .inl ⟨_, rfl⟩
    · exact .inl ⟨_, rfl⟩
    · exact .inl ⟨_, rfl⟩
    · exact .inl ⟨_, rfl⟩
    · exact .inr (.inl ⟨_, rfl⟩)
    · exact .inr (.inr ⟨a, rfl⟩)
    · exact .inr (.inr ⟨g, rfl⟩)
theorem en_shaped {e : En1} (o : okAll e.d) : shp e.d = true := by
  have z := en_shp o
  show (e.d.canLay0 && decide (e.d.depth ≤ 64)) = true
  rw [z.1, decide_eq_true (by omega)]
  rfl
/-- a comprehension with an if, over things -/
theorem compL_opt {α : Type} {h : Hh} {step : W → Hh → Res (Option W)} (f : α → W) (o : α → Option D) (l : List α) (hs : ∀ x ∈ l, step (f x) h = .ok ((o x).map .dat) h) (hl : l.length ≤ sizeL) : compL step (l.map f) h [] = .ok ((l.filterMap o).map .dat) h := by
  have key : ∀ (l : List α) (acc : List W), (∀ x ∈ l, step (f x) h = .ok ((o x).map .dat) h) → acc.length + l.length ≤ sizeL → compL step (l.map f) h acc = .ok (acc ++ (l.filterMap o).map .dat) h := by
    intro l
    induction l with
    | nil => intro acc _ _; simp
    | cons x l ih =>
      intro acc hs le
      rw [List.length_cons] at le
      rw [List.map_cons, compL_cons, hs x List.mem_cons_self]
      cases e : o x with
      | none =>
        show compL step (l.map f) h acc = _
        rw [ih _ (fun y z => hs y (List.mem_cons_of_mem _ z)) (by omega), List.filterMap_cons_none e]
      | some d =>
        show (if acc.length < sizeL then compL step (l.map f) h (acc ++ [.dat d]) else .bad) = _
        rw [if_pos (by omega), ih _ (fun y z => hs y (List.mem_cons_of_mem _ z)) (by rw [List.length_append, List.length_singleton]; omega), List.filterMap_cons_some e, List.map_cons, List.append_assoc]
        rfl
  have z := key l [] hs (by simpa using hl)
  rw [z, List.nil_append]
/-- adjacent things rise -/
def adjB : List D → Bool
  | x :: y :: l => ltD x y && adjB (y :: l)
  | _ => true
theorem adj_at : ∀ (l : List D), adjB l = (List.range (l.length - 1)).all fun k => ltD (l.getD k .none) (l.getD (k + 1) .none)
  | [] => rfl
  | [x] => rfl
  | x :: y :: l => by
    show (ltD x y && adjB (y :: l)) = _
    rw [adj_at (y :: l), show (x :: y :: l).length - 1 = (y :: l).length - 1 + 1 from rfl, List.range_succ_eq_map, List.all_cons, List.all_map]
    rfl
theorem lt_w {h : Hh} {x y : D} (a : shp x = true) (b : shp y = true) (c : cmpD x y = true) : cmpW .lt (.dat x) (.dat y) h = some (ltD x y) := by
  have w : ltW x y = some (ltD x y) := by
    unfold ltW
    rw [a, b, c]
    rfl
  cases x with
  | int i =>
    cases y with
    | int j => rfl
    | _ => exact w
  | _ => exact w
end K37
namespace K37
open PySem M
/-! ### what the program tells of entries -/
section
variable {n : Nat} {h : Hh}
theorem strs_ne : (("habit" : Str) = "mark") = False ∧ (("gain" : Str) = "mark") = False ∧ (("habit" : Str) = "gain") = False ∧ (("mark" : Str) = "gain") = False := by
  refine ⟨?_, ?_, ?_, ?_⟩ <;> exact eq_false (by decide +kernel)
theorem r_quarrel (e f : En1) : M.run S.glb S.T (n + 1) f_quarrel [.dat e.d, .dat f.d] h = .ok (.dat (.bool (e.quar f))) h := by
  have key : okW (M.run S.glb S.T (n + 1) f_quarrel [.dat e.d, .dat f.d] h) (fun w h' => w = .dat (.bool (e.quar f)) ∧ h' = h) noE := by
    rw [run_quarrel]
    apply okW_keep
    obtain ⟨w1, w2, w3, w4⟩ := strs_ne
    cases e with
    | habit x a g => simp [b_quarrel, En1.d, En1.quar, w1]
    | gain x a g => simp [b_quarrel, En1.d, En1.quar, w2]
    | mark w s p t a g =>
      cases f with
      | habit x a g => simp [b_quarrel, En1.d, En1.quar, w1]
      | gain x a g => simp [b_quarrel, En1.d, En1.quar, w2]
      | mark w' s' p' t' a' g' =>
        simp only [b_quarrel, En1.d, En1.quar]
        by_cases c1 : w = w'
        · by_cases c2 : t = t'
          · by_cases c3 : p = p'
            · by_cases c4 : s = s'
              · simp [c1, c2, c3, c4]
              · simp [c1, c2, c3, c4]
            · simp [c1, c2, c3]
          · simp [c1, c2]
        · simp [c1]
  obtain ⟨a, h', e, rfl, rfl⟩ := key.get
  exact e
theorem r_rising (l : List D) (sz : l.length ≤ 1000000) (sh : ∀ d ∈ l, shp d = true) (c : ∀ d ∈ l, ∀ e ∈ l, cmpD d e = true) : M.run S.glb S.T (n + 1) f_are_rising [.dat (.tuple l)] h = .ok (.dat (.bool (adjB l))) h := by
  have key : okW (M.run S.glb S.T (n + 1) f_are_rising [.dat (.tuple l)] h) (fun w h' => w = .dat (.bool (adjB l)) ∧ h' = h) noE := by
    rw [run_are_rising]
    apply okW_keep
    have ok : okR ((l.length : Int) - 1) = true := okR_i (by omega) (by omega)
    have rg : rngL 0 ((l.length : Int) - 1) = (List.range (l.length - 1)).map fun i : Nat => W.dat (.int (i : Int)) := by
      unfold rngL
      rw [show ((l.length : Int) - 1 - 0).toNat = l.length - 1 by omega]
      simp
    simp [b_are_rising, ok]
    rw [rg, compL_map (g := fun k : Nat => PyData.bool (ltD (l.getD k .none) (l.getD (k + 1) .none)))]
    rotate_left
    · intro k hk
      have hk := List.mem_range.mp hk
      have a1 : atI l (k : Int) = some (l.getD k .none) := by
        rw [atI_nat, List.getD_eq_getElem?_getD, List.getElem?_eq_getElem (show k < l.length by omega)]
        rfl
      have a2 : atI l ((k : Int) + 1) = some (l.getD (k + 1) .none) := by
        rw [show (k : Int) + 1 = ((k + 1 : Nat) : Int) by omega, atI_nat, List.getD_eq_getElem?_getD, List.getElem?_eq_getElem (show k + 1 < l.length by omega)]
        rfl
      have m1 : l.getD k .none ∈ l := atI_mem (by omega) a1
      have m2 : l.getD (k + 1) .none ∈ l := atI_mem (by omega) a2
      show _ = Res.ok (some (W.dat (.bool (ltD (l.getD k .none) (l.getD (k + 1) .none))))) h
      generalize l.getD k .none = x at a1 m1 ⊢
      generalize l.getD (k + 1) .none = y at a2 m2 ⊢
      have lt := lt_w (h := h) (sh _ m1) (sh _ m2) (c _ m1 _ m2)
      simp [e_are_rising_0, a1, a2, lt]
    · simp [sizeL]; omega
    simp only [okW_ok, dsOf_map, bi_all]
    rw [show ((List.range (l.length - 1)).map fun k : Nat => PyData.bool (ltD (l.getD k .none) (l.getD (k + 1) .none))) = ((List.range (l.length - 1)).map fun k : Nat => ltD (l.getD k .none) (l.getD (k + 1) .none)).map PyData.bool by rw [List.map_map]; rfl]
    simp only [bools_map, Option.map_some, rb_some, okW_ok, adj_at l, List.all_map]
    exact ⟨rfl, trivial⟩
  obtain ⟨a, h', e, rfl, rfl⟩ := key.get
  exact e
/-- the names of a sort, rising, each once -/
def riseN (xs : List Str) : List D := sortD ((gather [] xs).map .str)
theorem texts_map (xs : List Str) : textsOf ((xs.map PyData.str).map .dat) = some xs := by
  induction xs with
  | nil => rfl
  | cons x xs ih =>
    show (match W.dat (.str x), textsOf ((xs.map PyData.str).map .dat) with
      | .dat (.str x), some xs => some (x :: xs)
      | _, _ => none) = _
    rw [ih]
theorem sortSet_L (xs : List Str) (sz : xs.length < 1000) : sortSet false (.dat (.list (xs.map .str))) h = .ok (.dat (.list (riseN xs))) h := by
  unfold sortSet
  rw [show lstOf h (.dat (.list (xs.map .str))) = some ((xs.map PyData.str).map .dat) from rfl]
  dsimp only
  rw [texts_map]
  dsimp only
  rw [if_pos (decide_eq_true sz)]
  exact mkLst_map _
theorem filterMap_str {α : Type} (f : α → Option Str) (l : List α) : l.filterMap (fun x => (f x).map PyData.str) = (l.filterMap f).map .str := by
  rw [List.map_filterMap]
theorem r_watchers_in (es : List En1) (sz : es.length < 1000) : M.run S.glb S.T (n + 1) f_watchers_in [.dat (.tuple (es.map En1.d))] h = .ok (.dat (.tuple (riseN (es.filterMap En1.who)))) h := by
  have key : okW (M.run S.glb S.T (n + 1) f_watchers_in [.dat (.tuple (es.map En1.d))] h) (fun w h' => w = .dat (.tuple (riseN (es.filterMap En1.who))) ∧ h' = h) noE := by
    rw [run_watchers_in]
    apply okW_keep
    obtain ⟨w1, w2, w3, w4⟩ := strs_ne
    simp [b_watchers_in]
    rw [compL_opt (W.dat ∘ En1.d) (fun e => e.who.map PyData.str)]
    rotate_left
    · intro e _
      cases e <;> simp [g_watchers_in_0, e_watchers_in_1, En1.d, En1.who, w3, w4]
    · simp [sizeL]; omega
    simp only [okW_ok, dsOf_map, filterMap_str]
    rw [sortSet_L _ (by have := List.length_filterMap_le En1.who es; omega)]
    simp
  obtain ⟨a, h', e, rfl, rfl⟩ := key.get
  exact e
theorem r_stars_in (es : List En1) (sz : es.length < 1000) : M.run S.glb S.T (n + 1) f_stars_in [.dat (.tuple (es.map En1.d))] h = .ok (.dat (.tuple (riseN (es.filterMap En1.what)))) h := by
  have key : okW (M.run S.glb S.T (n + 1) f_stars_in [.dat (.tuple (es.map En1.d))] h) (fun w h' => w = .dat (.tuple (riseN (es.filterMap En1.what))) ∧ h' = h) noE := by
    rw [run_stars_in]
    apply okW_keep
    obtain ⟨w1, w2, w3, w4⟩ := strs_ne
    simp [b_stars_in]
    rw [compL_opt (W.dat ∘ En1.d) (fun e => e.what.map PyData.str)]
    rotate_left
    · intro e _
      cases e <;> simp [g_stars_in_0, e_stars_in_1, En1.d, En1.what, w1, w2]
    · simp [sizeL]; omega
    simp only [okW_ok, dsOf_map, filterMap_str]
    rw [sortSet_L _ (by have := List.length_filterMap_le En1.what es; omega)]
    simp
  obtain ⟨a, h', e, rfl, rfl⟩ := key.get
  exact e
theorem r_places_in (es : List En1) (sz : es.length < 400) : M.run S.glb S.T (n + 1) f_places_in [.dat (.tuple (es.map En1.d))] h = .ok (.dat (.tuple (riseN (es.filterMap En1.here ++ es.filterMap En1.clock)))) h := by
  have key : okW (M.run S.glb S.T (n + 1) f_places_in [.dat (.tuple (es.map En1.d))] h) (fun w h' => w = .dat (.tuple (riseN (es.filterMap En1.here ++ es.filterMap En1.clock))) ∧ h' = h) noE := by
    rw [run_places_in]
    apply okW_keep
    obtain ⟨w1, w2, w3, w4⟩ := strs_ne
    have l1 := List.length_filterMap_le En1.here es
    have l2 := List.length_filterMap_le En1.clock es
    simp [b_places_in]
    rw [compL_opt (W.dat ∘ En1.d) (fun e => e.here.map PyData.str)]
    rotate_left
    · intro e _
      cases e <;> simp [g_places_in_2, e_places_in_3, En1.d, En1.here, w1, w2]
    · simp [sizeL]; omega
    simp only [okW_ok, dsOf_map, filterMap_str]
    rw [compL_opt (W.dat ∘ En1.d) (fun e => e.clock.map PyData.str)]
    rotate_left
    · intro e _
      cases e <;> simp [g_places_in_0, e_places_in_1, En1.d, En1.clock, w3, w4]
    · simp [sizeL]; omega
    simp only [okW_ok, dsOf_map, filterMap_str]
    simp only [bin_addL, ← List.map_append]
    rw [if_pos (by simp [sizeL]; omega)]
    simp only [bind_ok, okW_ok]
    rw [sortSet_L _ (by rw [List.length_append]; omega)]
    simp
  obtain ⟨a, h', e, rfl, rfl⟩ := key.get
  exact e
end
end K37
namespace K37
open PySem M
/-! ### what the program tells of books -/
/-- no more than may be -/
def fewE (es : List En1) : Bool := !(decide (16 < es.length) || decide (5 < (riseN (es.filterMap En1.who)).length)) && (decide ((riseN (es.filterMap En1.what)).length ≤ 4) && decide ((riseN (es.filterMap En1.here ++ es.filterMap En1.clock)).length ≤ 3))
/-- no two quarrel -/
def peaceE (es : List En1) : Bool := (List.range es.length).all fun k => (List.range k).all fun j => match es[k]?, es[j]? with
  | some e, some f => !e.quar f
  | _, _ => true
section
variable {n : Nat} {h : Hh} {Q : W → Hh → Prop} {E : Nat → Hh → Prop}
theorem r_are_few (es : List En1) : M.run S.glb S.T (n + 2) f_are_few [.dat (.tuple (es.map En1.d))] h = .ok (.dat (.bool (fewE es))) h := by
  have key : okW (M.run S.glb S.T (n + 2) f_are_few [.dat (.tuple (es.map En1.d))] h) (fun w h' => w = .dat (.bool (fewE es)) ∧ h' = h) noE := by
    rw [run_are_few]
    apply okW_keep
    by_cases l : 16 < es.length
    · have l' : (16 : Int) < es.length := by omega
      simp [b_are_few, fewE, l, l']
    · have l' : ¬ (16 : Int) < es.length := by omega
      have z1 := r_watchers_in (n := n) (h := h) es (by omega)
      have z2 := r_stars_in (n := n) (h := h) es (by omega)
      have z3 := r_places_in (n := n) (h := h) es (by omega)
      simp only [b_are_few, fewE, l]
      by_cases c1 : 5 < (riseN (es.filterMap En1.who)).length
      · have c1' : (5 : Int) < (riseN (es.filterMap En1.who)).length := by omega
        simp [l', z1, c1, c1']
      · have c1' : ¬ (5 : Int) < (riseN (es.filterMap En1.who)).length := by omega
        by_cases c2 : (riseN (es.filterMap En1.what)).length ≤ 4
        · have c2' : ((riseN (es.filterMap En1.what)).length : Int) ≤ 4 := by omega
          by_cases c3 : (riseN (es.filterMap En1.here ++ es.filterMap En1.clock)).length ≤ 3
          · have c3' : ((riseN (es.filterMap En1.here ++ es.filterMap En1.clock)).length : Int) ≤ 3 := by omega
            simp [l', z1, z2, z3, c1, c1', c2, c2', c3, c3']
          · have c3' : ¬ ((riseN (es.filterMap En1.here ++ es.filterMap En1.clock)).length : Int) ≤ 3 := by omega
            simp [l', z1, z2, z3, c1, c1', c2, c2', c3, c3']
        · have c2' : ¬ ((riseN (es.filterMap En1.what)).length : Int) ≤ 4 := by omega
          simp [l', z1, z2, c1, c1', c2, c2']
  obtain ⟨a, h', e, rfl, rfl⟩ := key.get
  exact e
theorem r_at_peace (es : List En1) (sz : es.length ≤ 1000000) : M.run S.glb S.T (n + 2) f_are_at_peace [.dat (.tuple (es.map En1.d))] h = .ok (.dat (.bool (peaceE es))) h := by
  have rq : ∀ e f : En1, M.run S.glb S.T (n + 1) f_quarrel [.dat e.d, .dat f.d] h = .ok (.dat (.bool (e.quar f))) h := fun e f => r_quarrel e f
  rw [run_are_at_peace]
  have key : okS (exs (cc (n + 1)) b_are_at_peace [some (.dat (.tuple (es.map En1.d))), none, none] h) (fun _ _ => False) (fun w h' => w = .dat (.bool (peaceE es)) ∧ h' = h) (fun _ _ _ => False) := by
    have okl : okR (es.length : Int) = true := okR_nat sz
    simp [b_are_at_peace, okl]
    let row : Nat → Bool := fun k => (List.range k).all fun j => match es[k]?, es[j]? with
      | some e, some f => !e.quar f
      | _, _ => true
    have at_ : ∀ j : Nat, j < es.length → ∃ f, es[j]? = some f ∧ atI (es.map En1.d) (j : Int) = some f.d := fun j lj => by
      refine ⟨es[j], List.getElem?_eq_getElem lj, ?_⟩
      rw [atI_nat, List.getElem?_map, List.getElem?_eq_getElem lj]
      rfl
    refine okS_forN (fun i e h' => h' = h ∧ (∃ t1 t2, e = [some (.dat (.tuple (es.map En1.d))), t1, t2]) ∧ ∀ k, k < i → row k = true) _ 0 _ _ ⟨rfl, ⟨_, _, rfl⟩, fun k z => absurd z (Nat.not_lt_zero k)⟩ ?_ ?_
    · rintro j w z e h1 ⟨rfl, ⟨t1, t2, rfl⟩, pre⟩
      obtain ⟨rfl, lj⟩ := rngL_get z
      rw [Nat.zero_add] at pre
      have lj : j < es.length := by omega
      obtain ⟨e, e1, e2⟩ := at_ j lj
      have okj : okR (j : Int) = true := okR_nat (by omega)
      simp [l_are_at_peace_1, okj]
      rw [rngL_nat, compL_map (g := fun i : Nat => PyData.bool (match es[i]? with
        | some f => e.quar f
        | none => false))]
      rotate_left
      · intro i hi
        obtain ⟨f, f1, f2⟩ := at_ i (by have := List.mem_range.mp hi; omega)
        simp [e_are_at_peace_0, e2, f1, f2, rq]
      · simp [sizeL]; omega
      simp only [okW_ok, dsOf_map, bi_any]
      rw [show ((List.range j).map fun i : Nat => PyData.bool (match es[i]? with
        | some f => e.quar f
        | none => false)) = ((List.range j).map fun i : Nat => (match es[i]? with
        | some f => e.quar f
        | none => false)).map PyData.bool by rw [List.map_map]; rfl]
      simp only [bools_map, Option.map_some, rb_some, okW_ok]
      have rj : row j = !(((List.range j).map fun i : Nat => (match es[i]? with
        | some f => e.quar f
        | none => false)).any id) := by
        show ((List.range j).all fun i => match es[j]?, es[i]? with
          | some e, some f => !e.quar f
          | _, _ => true) = _
        rw [List.any_map, List.not_any_eq_all_not]
        rw [e1]
        congr 1
        funext i
        show _ = !(match es[i]? with
          | some f => e.quar f
          | none => false)
        cases es[i]? <;> rfl
      cases c : (((List.range j).map fun i : Nat => (match es[i]? with
        | some f => e.quar f
        | none => false)).any id) with
      | true =>
        rw [c] at rj
        have no : peaceE es = false := by
          unfold peaceE
          rw [List.all_eq_false]
          refine ⟨j, List.mem_range.mpr lj, ?_⟩
          show ¬ (row j = true)
          rw [rj]
          decide
        simp [no]
      | false =>
        rw [c] at rj
        simp
        intro k lk
        rcases Nat.lt_succ_iff_lt_or_eq.mp lk with z | z
        · exact pre k z
        · rw [z]; exact rj
    · rintro e h1 ⟨rfl, ⟨t1, t2, rfl⟩, pre⟩
      rw [Nat.zero_add, rngL_length] at pre
      have yes : peaceE es = true := by
        unfold peaceE
        rw [List.all_eq_true]
        intro k hk
        exact pre k (by have := List.mem_range.mp hk; omega)
      simp [yes]
  generalize exs (cc (n + 1)) b_are_at_peace [some (.dat (.tuple (es.map En1.d))), none, none] h = r at key ⊢
  cases r with
  | ret w h' =>
    obtain ⟨rfl, rfl⟩ := key
    rfl
  | _ => exact key.elim
end
end K37
namespace K37
open PySem M
/-! ### clouds, books -/
def cloudD : D → Bool
  | .tuple [x, y] => nameD x && nightD y
  | _ => false
theorem cloud_inv {d : D} (e : cloudD d = true) : ∃ (x : Str) (t : Int), d = .tuple [.str x, .int t] ∧ nameD (.str x) = true ∧ 0 ≤ t ∧ t ≤ 999 := by
  unfold cloudD at e
  split at e
  · have z := and2 e
    obtain ⟨x, rfl⟩ := nameD_inv z.1
    obtain ⟨t, rfl, a, b⟩ := nightD_inv z.2
    exact ⟨x, t, rfl, z.1, a, b⟩
  · cases e
theorem cloud_cmp {c d : D} (a : cloudD c = true) (b : cloudD d = true) : cmpD c d = true := by
  obtain ⟨x, t, rfl, _⟩ := cloud_inv a
  obtain ⟨y, u, rfl, _⟩ := cloud_inv b
  exact cmp_cons rfl (cmp_cons rfl rfl)
theorem name_lay {x : Str} (e : nameD (.str x) = true) : (PyData.str x).canLay0 = true := (Bool.and_eq_true_iff.mp (ok_name e).2).1
theorem cloud_lay {d : D} (e : cloudD d = true) : d.canLay0 = true ∧ d.depth ≤ 10 := by
  obtain ⟨x, t, rfl, a, _⟩ := cloud_inv e
  refine ⟨?_, by show max 0 (max 0 0) + 1 ≤ 10; decide⟩
  show ((PyData.str x).canLay0 && (true && true)) = true
  rw [name_lay a]
  rfl
theorem cloud_shp {d : D} (e : cloudD d = true) : shp d = true := by
  have z := cloud_lay e
  show (d.canLay0 && decide (d.depth ≤ 64)) = true
  rw [z.1, decide_eq_true (by omega)]
  rfl
def cloudsD : D → Bool
  | .tuple m => decide (m.length ≤ 8) && (m.all cloudD && adjB m)
  | _ => false
def decE : D → Option En1
  | .tuple [.str w, .str x, .tuple [.int a, .int b], .tuple [.int c, .int d]] => some (if w = "habit" then .habit x (a, b) (c, d) else .gain x (a, b) (c, d))
  | .tuple [.str _, .str w, .str s, .str p, .int t, .tuple [.int a, .int b], .tuple [.int c, .int d]] => some (.mark w s p t (a, b) (c, d))
  | _ => none
theorem decE_d (e : En1) : decE e.d = some e := by
  cases e with
  | habit x a g => simp [En1.d, decE]
  | gain x a g =>
    have z : ¬ (("gain" : Str) = "habit") := by decide +kernel
    simp [En1.d, decE, z]
  | mark w s p t a g => rfl
theorem decE_map (es : List En1) : (es.map En1.d).filterMap decE = es := by
  rw [List.filterMap_map]
  have : (decE ∘ En1.d) = some := funext decE_d
  rw [this, List.filterMap_some]
/-- whether a mark stands at a cloud -/
def underE (m : List D) (e : En1) : Bool := match e.spot with
  | some (p, t) => m.any fun z => PyData.eqv z (.tuple [.str p, .int t])
  | none => false
def bookE (es : List En1) (m : List D) : Bool := fewE es && (peaceE es && !(es.any (underE m)))
def bookD : D → Bool
  | .tuple [.tuple l, c] => cloudsD c && (l.all entryD && (adjB l && (match c with
    | .tuple m => bookE (l.filterMap decE) m
    | _ => false)))
  | _ => false
/-- things of which is_book can tell -/
def okCl : D → Prop
  | .tuple m => ∀ x ∈ m, okAll x
  | _ => True
def okBk : D → Prop
  | .tuple [.tuple l, c] => l.length ≤ 400 ∧ (∀ x ∈ l, okAll x) ∧ okCl c
  | _ => True
section
variable {n : Nat} {h : Hh} {Q : W → Hh → Prop} {E : Nat → Hh → Prop}
theorem r_is_cloud (d : D) (ok : okAll d) : M.run S.glb S.T (n + 3) f_is_cloud [.dat d] h = .ok (.dat (.bool (cloudD d))) h := by
  have key : okW (M.run S.glb S.T (n + 3) f_is_cloud [.dat d] h) (fun w h' => w = .dat (.bool (cloudD d)) ∧ h' = h) noE := by
    rw [run_is_cloud]
    apply okW_keep
    cases d with
    | tuple l =>
      match l, ok with
      | [], _ => simp [b_is_cloud, cloudD]
      | [a], _ => simp [b_is_cloud, cloudD]
      | [a, b], ok =>
        have sh : shortD a := (ok a (by simp)).short
        have z1 : M.run S.glb S.T (n + 2) f_is_name [.dat a] h = .ok (.dat (.bool (nameD a))) h := r_is_name a sh
        have z2 := r_is_night (n := n) (h := h) b
        cases e1 : nameD a <;> cases e2 : nightD b <;> simp [b_is_cloud, cloudD, z1, z2, e1, e2]
      | a :: b :: c :: l, _ =>
        have z : ¬ ((l.length : Int) + 1 + 1 + 1 = 2) := by omega
        simp [b_is_cloud, cloudD, z]
    | _ => simp [b_is_cloud, cloudD, tyTup]
  obtain ⟨a, h', e, rfl, rfl⟩ := key.get
  exact e
theorem all_map (l : List D) (f : D → Bool) : ((l.map fun d => PyData.bool (f d)).map W.dat) = ((l.map f).map PyData.bool).map W.dat := by
  rw [List.map_map, List.map_map, List.map_map]
  rfl
theorem r_are_clouds (d : D) (ok : okCl d) : M.run S.glb S.T (n + 4) f_are_clouds [.dat d] h = .ok (.dat (.bool (cloudsD d))) h := by
  have key : okW (M.run S.glb S.T (n + 4) f_are_clouds [.dat d] h) (fun w h' => w = .dat (.bool (cloudsD d)) ∧ h' = h) noE := by
    rw [run_are_clouds]
    apply okW_keep
    cases d with
    | tuple m =>
      have ok : ∀ x ∈ m, okAll x := ok
      by_cases l : m.length ≤ 8
      · have l' : ¬ (8 : Int) < m.length := by omega
        simp [b_are_clouds, l']
        rw [compL_map (g := fun d => PyData.bool (cloudD d))]
        rotate_left
        · intro d hd
          simp [e_are_clouds_0, r_is_cloud d (ok d hd)]
        · simp [sizeL]; omega
        simp only [okW_ok, dsOf_map, bi_all]
        rw [all_map, bools_map]
        simp only [Option.map_some, rb_some, okW_ok, List.all_map]
        cases c : m.all cloudD with
        | false =>
          have c2 : m.all (id ∘ cloudD) = false := c
          simp [c2, cloudsD, c, l]
        | true =>
          have c2 : m.all (id ∘ cloudD) = true := c
          have each : ∀ d ∈ m, cloudD d = true := fun d hd => List.all_eq_true.mp c d hd
          have z := r_rising (n := n + 2) (h := h) m (by omega) (fun d hd => cloud_shp (each d hd)) fun a ha b hb => cloud_cmp (each a ha) (each b hb)
          simp [c2, z, cloudsD, c, l]
      · have l' : (8 : Int) < m.length := by omega
        simp [b_are_clouds, l', cloudsD, l]
    | _ => simp [b_are_clouds, tyTup, cloudsD]
  obtain ⟨a, h', e, rfl, rfl⟩ := key.get
  exact e
end
end K37
namespace K37
open PySem M
section
variable {n : Nat} {h : Hh} {Q : W → Hh → Prop} {E : Nat → Hh → Prop}
theorem r_is_entryD (d : D) (ok : okAll d) : M.run S.glb S.T (n + 5) f_is_entry [.dat d] h = .ok (.dat (.bool (entryD d))) h := by
  obtain ⟨a, h', e, rfl, rfl⟩ := (s_is_entry (n := n) (h := h) (E := noE) (Q := fun w h' => w = .dat (.bool (entryD d)) ∧ h' = h) d ok ⟨rfl, rfl⟩).get
  exact e
theorem spot_w {es : List En1} {m : List D} (each : ∀ d ∈ m, cloudD d = true) (ok : ∀ e ∈ es, entryD e.d = true) (e : En1) (he : e ∈ es) (x : En) :
    ev (cc (n + 5)) e_is_book_0 [some (.dat (.tuple [.tuple (es.map En1.d), .tuple m])), some (.dat (.tuple (es.map En1.d))), some (.dat (.tuple m)), some (.dat e.d)] h = .ok (.dat (.bool (underE m e))) h := by
  obtain ⟨w1, w2, w3, w4⟩ := strs_ne
  cases e with
  | habit x a g => simp [e_is_book_0, En1.d, underE, En1.spot, w1]
  | gain x a g => simp [e_is_book_0, En1.d, underE, En1.spot, w2]
  | mark w s p t a g =>
    have hp : nameD (.str p) = true := by
      have z := ok _ he
      have z1 := and2 (show (decide (("mark" : Str) = "mark") && (nameD (.str w) && (nameD (.str s) && (nameD (.str p) && (nightD (.int t) && endsD (fr a) (fr g)))))) = true from z)
      exact (and2 (and2 (and2 z1.2).2).2).1
    have cu : cutL [PyData.str "mark", .str w, .str s, .str p, .int t, fr a, fr g] (some 3) (some 5) = [.str p, .int t] := rfl
    have c1 : shp (.tuple [.str p, .int t]) = true := by
      show (((PyData.str p).canLay0 && (true && true)) && decide (max 0 (max 0 0) + 1 ≤ 64)) = true
      rw [name_lay hp]
      rfl
    have c2 : shp (.list m) = true := by
      have z := shp_parts (l := m) fun d hd => cloud_lay (each d hd)
      show (PyData.canLayAll0 m && decide (PyData.depthAll m + 1 ≤ 64)) = true
      rw [z.1, decide_eq_true (by omega)]
      rfl
    have inq : inSeq (.tuple [.str p, .int t]) m = some (m.any fun z => PyData.eqv z (.tuple [.str p, .int t])) := by
      unfold inSeq
      rw [c1, c2]
      rfl
    show _ = Res.ok (W.dat (.bool (m.any fun z => PyData.eqv z (.tuple [.str p, .int t])))) h
    generalize (m.any fun z => PyData.eqv z (.tuple [.str p, .int t])) = v at inq ⊢
    cases v <;> simp [e_is_book_0, En1.d, cu, inq]
theorem r_is_book (d : D) (ok : okBk d) : M.run S.glb S.T (n + 6) f_is_book [.dat d] h = .ok (.dat (.bool (bookD d))) h := by
  have key : okW (M.run S.glb S.T (n + 6) f_is_book [.dat d] h) (fun w h' => w = .dat (.bool (bookD d)) ∧ h' = h) noE := by
    rw [run_is_book]
    apply okW_keep
    cases d with
    | tuple l =>
      match l, ok with
      | [], _ => simp [b_is_book, bookD]
      | [a], _ => simp [b_is_book, bookD]
      | a :: b :: c :: l, _ =>
        have z : ¬ ((l.length : Int) + 1 + 1 + 1 = 2) := by omega
        have e : bookD (.tuple (a :: b :: c :: l)) = false := by cases a <;> rfl
        simp [b_is_book, e, z]
      | [a, b], ok =>
        cases a with
        | tuple l =>
          obtain ⟨sz, ol, oc⟩ := ok
          have zc := r_are_clouds (n := n + 1) (h := h) b oc
          cases ec : cloudsD b with
          | false =>
            have e : bookD (.tuple [.tuple l, b]) = false := by simp only [bookD, ec, Bool.false_and]
            simp [b_is_book, zc, ec, e]
          | true =>
            obtain ⟨m, rfl⟩ : ∃ m, b = .tuple m := by
              cases b with
              | tuple m => exact ⟨m, rfl⟩
              | _ => cases ec
            have ec2 := and2 (and2 (show (decide (m.length ≤ 8) && (m.all cloudD && adjB m)) = true from ec)).2
            have each : ∀ d ∈ m, cloudD d = true := fun d hd => List.all_eq_true.mp ec2.1 d hd
            have lm : m.length ≤ 8 := of_decide_eq_true (and2 (show (decide (m.length ≤ 8) && (m.all cloudD && adjB m)) = true from ec)).1
            simp [b_is_book, zc, ec]
            rw [compL_map (g := fun d => PyData.bool (entryD d))]
            rotate_left
            · intro d hd
              simp [e_is_book_1, r_is_entryD d (ol d hd)]
            · simp [sizeL]; omega
            simp only [okW_ok, dsOf_map, bi_all]
            rw [all_map, bools_map]
            simp only [Option.map_some, rb_some, okW_ok, List.all_map]
            cases ce : l.all entryD with
            | false =>
              have c2 : l.all (id ∘ entryD) = false := ce
              have e : bookD (.tuple [.tuple l, .tuple m]) = false := by simp only [bookD, ec, ce, Bool.true_and, Bool.false_and]
              rw [c2, e]
              simp
            | true =>
              have c2 : l.all (id ∘ entryD) = true := ce
              obtain ⟨es, rfl⟩ := entries_inv ce
              have ok1 : ∀ e ∈ es, entryD e.d = true := fun e he => List.all_eq_true.mp ce _ (List.mem_map.mpr ⟨e, he, rfl⟩)
              have rs := r_rising (n := n + 4) (h := h) (es.map En1.d) (by omega) (fun d hd => by
                obtain ⟨e, he, rfl⟩ := List.mem_map.mp hd
                exact en_shaped (ol _ hd)) fun a ha b hb => by
                  obtain ⟨e, _, rfl⟩ := List.mem_map.mp ha
                  obtain ⟨f, _, rfl⟩ := List.mem_map.mp hb
                  exact cmp_en e f
              have rf := r_are_few (n := n + 3) (h := h) es
              rw [List.length_map] at sz
              have rp := r_at_peace (n := n + 3) (h := h) es (by omega)
              have eq : bookD (.tuple [.tuple (es.map En1.d), .tuple m]) = (adjB (es.map En1.d) && bookE es m) := by
                simp only [bookD, ec, ce, Bool.true_and, decE_map]
              rw [eq, c2]
              cases c3 : adjB (es.map En1.d) with
              | false => simp [rs, c3]
              | true =>
                cases c4 : fewE es with
                | false => simp [rs, c3, rf, c4, bookE]
                | true =>
                  cases c5 : peaceE es with
                  | false => simp [rs, c3, rf, c4, rp, c5, bookE]
                  | true =>
                    unfold bookE
                    generalize ev0 : es.any (underE m) = v
                    simp [rs, c3, rf, c4, rp, c5]
                    rw [compL_map (g := fun e => PyData.bool (underE m e)) (f := W.dat ∘ En1.d)]
                    rotate_left
                    · intro e he
                      simp [spot_w each ok1 e he []]
                    · simp [sizeL]; omega
                    simp only [okW_ok, dsOf_map, bi_any]
                    rw [show (es.map fun e => PyData.bool (underE m e)) = (es.map (underE m)).map PyData.bool by rw [List.map_map]; rfl]
                    rw [bools_map]
                    simp only [Option.map_some, rb_some, okW_ok, List.any_map]
                    rw [show es.any (id ∘ underE m) = v from ev0]
                    cases v <;> simp
        | _ => simp [b_is_book, tyTup, bookD]
    | _ => simp [b_is_book, tyTup, bookD]
  obtain ⟨a, h', e, rfl, rfl⟩ := key.get
  exact e
end
end K37
namespace K37
open PySem M
/-! ### plain: rows of unlike things, sorted -/
theorem rise_adj : ∀ {l : List D}, Rise l → l.Pairwise (fun x y => PyData.eqv x y = false) → (∀ x ∈ l, ∀ y ∈ l, cmpD x y = true) → adjB l = true
  | [], _, _, _ => rfl
  | [_], _, _, _ => rfl
  | x :: y :: l, r, n, c => by
    have r1 := List.pairwise_cons.mp r
    have n1 := List.pairwise_cons.mp n
    have cxy := c x (by simp) y (by simp)
    have ne := n1.1 y (by simp)
    have no : ¬ (enc y < enc x) := of_decide_eq_false (r1.1 y (by simp))
    have lt : ltD x y = true := by
      rw [ltE_eq cxy]
      refine decide_eq_true ?_
      rcases Decidable.em (enc x < enc y) with h | h
      · exact h
      · exfalso
        have e : enc x = enc y := List.le_antisymm (List.not_lt.mp no) (List.not_lt.mp h)
        have a := (enc_lt x y cxy ne [0] [1]).mp (by rw [e]; exact (lt_pre _ _ _).mpr (by decide))
        have b := (enc_lt x y cxy ne [] []).mpr a
        rw [e] at b
        exact List.lt_irrefl _ b
    show (ltD x y && adjB (y :: l)) = true
    rw [lt, rise_adj r1.2 n1.2 fun a ha b hb => c a (List.mem_cons_of_mem _ ha) b (List.mem_cons_of_mem _ hb)]
    rfl
theorem nodup_len {α : Type} [DecidableEq α] : ∀ {l m : List α}, l.Nodup → (∀ x ∈ l, x ∈ m) → l.length ≤ m.length
  | [], _, _, _ => Nat.zero_le _
  | x :: l, m, n, s => by
    have n1 := List.nodup_cons.mp n
    have mx := s x (by simp)
    have z := nodup_len (m := m.erase x) n1.2 fun y hy => (List.mem_erase_of_ne (fun e : y = x => n1.1 (e ▸ hy))).mpr (s y (List.mem_cons_of_mem _ hy))
    have lp := List.length_pos_of_mem mx
    rw [List.length_erase_of_mem mx] at z
    rw [List.length_cons]
    omega
theorem gather_nd : ∀ (xs T : List Str), T.Nodup → (gather T xs).Nodup
  | [], T, h => h
  | x :: xs, T, h => by
    refine gather_nd xs (putT T x) ?_
    unfold putT
    split
    · exact h
    · rename_i ne
      refine List.nodup_append.mpr ⟨h, by simp, ?_⟩
      intro a ha b hb e
      rw [List.mem_singleton.mp hb] at e
      exact ne (e ▸ ha)
theorem rise_len {xs : List Str} {m : List D} (s : ∀ x ∈ xs, PyData.str x ∈ m) : (riseN xs).length ≤ m.length := by
  unfold riseN
  rw [(sortD_perm _).length_eq, List.length_map]
  have z := nodup_len (l := gather [] xs) (m := m.filterMap fun d => match d with | .str x => some x | _ => none) (gather_nd xs [] List.nodup_nil) fun x hx => by
    rcases gather_mem.mp hx with h | h
    · cases h
    · exact List.mem_filterMap.mpr ⟨_, s x h, rfl⟩
  exact Nat.le_trans z (List.length_filterMap_le _ _)
/-! ### plain: entries -/
theorem beq_dec {α : Type} [BEq α] [LawfulBEq α] [DecidableEq α] (a b : α) : (a == b) = decide (a = b) := by
  rw [Bool.eq_iff_iff]
  simp
theorem str_eqv (x y : Str) : PyData.eqv (.str x) (.str y) = decide (x = y) := by
  simp [PyData.eqv, beq_dec]
theorem fr_eqv (p r : Int × Int) : PyData.eqv (fr p) (fr r) = decide (p = r) := by
  obtain ⟨a, b⟩ := p
  obtain ⟨c, d⟩ := r
  simp [fr, PyData.eqv, PyData.eqvAll, beq_dec]
theorem en_eqv {e f : En1} (h : PyData.eqv e.d f.d = true) : e = f := by
  obtain ⟨w1, w2, w3, w4⟩ := strs_ne
  have w3' : (("gain" : Str) = "habit") = False := eq_false (by decide +kernel)
  cases e <;> cases f <;> simp [En1.d, PyData.eqv, PyData.eqvAll, fr_eqv, w3, w3'] at h <;> simp [h, Prod.ext_iff]
theorem en_eqv_self (e : En1) : PyData.eqv e.d e.d = true := by
  cases e <;> simp [En1.d, PyData.eqv, PyData.eqvAll, fr_eqv]
theorem quar_comm (e f : En1) : e.quar f = f.quar e := by
  cases e <;> cases f <;> first | rfl | skip
  rename_i w s p n a g w' s' p' n' a' g'
  simp only [En1.quar, eq_comm (a := w), eq_comm (a := n), eq_comm (a := p), eq_comm (a := s)]
theorem map_perm {l : List D} {es : List En1} (p : l.Perm (es.map En1.d)) : ∃ es' : List En1, es'.Perm es ∧ l = es'.map En1.d := by
  have all : ∀ d ∈ l, ∃ e : En1, d = e.d := fun d hd => by
    obtain ⟨e, _, rfl⟩ := List.mem_map.mp (p.mem_iff.mp hd)
    exact ⟨e, rfl⟩
  have key : ∀ l : List D, (∀ d ∈ l, ∃ e : En1, d = e.d) → ∃ es' : List En1, l = es'.map En1.d := by
    intro l
    induction l with
    | nil => intro _; exact ⟨[], rfl⟩
    | cons d l ih =>
      intro a
      obtain ⟨e, rfl⟩ := a d (by simp)
      obtain ⟨es, rfl⟩ := ih fun d hd => a d (List.mem_cons_of_mem _ hd)
      exact ⟨e :: es, rfl⟩
  obtain ⟨es', rfl⟩ := key l all
  have z := p.filterMap decE
  rw [decE_map, decE_map] at z
  exact ⟨es', z, rfl⟩
/-! ### plain: clouds -/
def cd (c : Str × Int) : D := .tuple [.str c.1, .int c.2]
theorem cd_eqv (c e : Str × Int) : PyData.eqv (cd c) (cd e) = decide (c = e) := by
  obtain ⟨a, b⟩ := c
  obtain ⟨c, d⟩ := e
  simp [cd, PyData.eqv, PyData.eqvAll, beq_dec]
def decC : D → Option (Str × Int)
  | .tuple [.str x, .int t] => some (x, t)
  | _ => none
theorem cd_perm {l : List D} {cs : List (Str × Int)} (p : l.Perm (cs.map cd)) : ∃ cs' : List (Str × Int), cs'.Perm cs ∧ l = cs'.map cd := by
  have all : ∀ d ∈ l, ∃ e, d = cd e := fun d hd => by
    obtain ⟨e, _, rfl⟩ := List.mem_map.mp (p.mem_iff.mp hd)
    exact ⟨e, rfl⟩
  have key : ∀ l : List D, (∀ d ∈ l, ∃ e, d = cd e) → ∃ es' : List (Str × Int), l = es'.map cd := by
    intro l
    induction l with
    | nil => intro _; exact ⟨[], rfl⟩
    | cons d l ih =>
      intro a
      obtain ⟨e, rfl⟩ := a d (by simp)
      obtain ⟨es, rfl⟩ := ih fun d hd => a d (List.mem_cons_of_mem _ hd)
      exact ⟨e :: es, rfl⟩
  obtain ⟨es', rfl⟩ := key l all
  have z := p.filterMap decC
  have dm : ∀ l : List (Str × Int), (l.map cd).filterMap decC = l := fun l => by
    rw [List.filterMap_map, show (decC ∘ cd) = some from funext fun c => rfl, List.filterMap_some]
  rw [dm, dm] at z
  exact ⟨es', z, rfl⟩
theorem ens_adj {es : List En1} (nd : es.Nodup) (r : Rise (es.map En1.d)) : adjB (es.map En1.d) = true := by
  refine rise_adj r ?_ ?_
  · rw [List.pairwise_map]
    exact List.Pairwise.imp (fun {e f} ne => by
      cases h : PyData.eqv e.d f.d with
      | false => rfl
      | true => exact absurd (en_eqv h) ne) nd
  · intro x hx y hy
    obtain ⟨e, _, rfl⟩ := List.mem_map.mp hx
    obtain ⟨f, _, rfl⟩ := List.mem_map.mp hy
    exact cmp_en e f
theorem cds_adj {cs : List (Str × Int)} (nd : cs.Nodup) (r : Rise (cs.map cd)) : adjB (cs.map cd) = true := by
  refine rise_adj r ?_ ?_
  · rw [List.pairwise_map]
    exact List.Pairwise.imp (fun {e f} ne => by rw [cd_eqv]; exact decide_eq_false ne) nd
  · intro x hx y hy
    obtain ⟨e, _, rfl⟩ := List.mem_map.mp hx
    obtain ⟨f, _, rfl⟩ := List.mem_map.mp hy
    exact cmp_cons rfl (cmp_cons rfl rfl)
theorem peace_of {es : List En1} (pw : es.Pairwise fun e f => e.quar f = false) : peaceE es = true := by
  unfold peaceE
  rw [List.all_eq_true]
  intro k hk
  rw [List.all_eq_true]
  intro j hj
  have hk := List.mem_range.mp hk
  have hj := List.mem_range.mp hj
  have z := List.pairwise_iff_getElem.mp pw j k (by omega) hk hj
  rw [List.getElem?_eq_getElem hk, List.getElem?_eq_getElem (show j < es.length by omega)]
  show (!(es[k].quar es[j])) = true
  rw [quar_comm, z]
  rfl
theorem cd_ok {c : Str × Int} (n : nameD (.str c.1) = true) : okAll (cd c) := by
  intro d hd
  simp at hd
  rcases hd with rfl | rfl
  · exact ok_name n
  · trivial
end K37
namespace K37
open PySem M
/-! ### books as the laws draw them -/
section
variable {h : Hh} {p : Nat} {l : List D}
theorem items_ref (e : h[p]? = some (lst l)) : itemsOf (.ref p) h = some (.cell p l.length) := by
  show (match h[p]? with
    | some (.lst l) => some (Itm.cell p l.length)
    | _ => none) = _
  rw [e]
  simp [lst]
theorem inW_ref (e : h[p]? = some (lst l)) (d : D) : inW h (.dat d) (.ref p) = inSeq d l := by
  show (match h[p]? with
      | some (.lst l) => (match dsOf l with
        | some ds => inSeq d ds
        | none => none)
      | _ => (dctGet h p (.dat d)).map Option.isSome) = _
  rw [e]
  show (match dsOf (l.map W.dat) with
        | some ds => inSeq d ds
        | none => none) = _
  rw [dsOf_map]
theorem sorted_ref (e : h[p]? = some (lst l)) (s : sortB l = true) : builtin .sorted false [.ref p] h = .ok (.dat (.list (sortD l))) h := by
  show (match (match h[p]? with
    | some (.lst l) => dsOf l
    | _ => none) with
    | some ds => if sortB ds = true then mkLst false ((sortD ds).map .dat) h else .bad
    | none => .bad) = _
  rw [e]
  show (match dsOf (l.map W.dat) with
    | some ds => if sortB ds = true then mkLst false ((sortD ds).map .dat) h else .bad
    | none => .bad) = _
  rw [dsOf_map]
  show (if sortB l = true then mkLst false ((sortD l).map .dat) h else .bad) = _
  rw [if_pos s, mkLst_map]
theorem compI_cell {ws : List W} {step : W → Hh → Res (Option W)} (e : h[p]? = some (.lst ws)) (hs : ∀ w ∈ ws, ∃ o, step w h = .ok o h) : compI (.cell p ws.length) step h = compL step ws h [] := by
  rw [← compI_ws]
  have key : ∀ k i acc, k + i = ws.length → compG (.cell p ws.length) step k i h acc = compG (.ws ws) step k i h acc := by
    intro k
    induction k with
    | zero =>
      intro i acc q
      have f : Itm.fin (.cell p ws.length) i h = decide (ws.length ≤ i) := by
        show (match h[p]? with
          | some (.lst l) => decide (l.length ≤ i)
          | _ => false) = _
        rw [e]
      unfold compG
      rw [f]
      rfl
    | succ k ih =>
      intro i acc q
      have li : i < ws.length := by omega
      have f : Itm.get (.cell p ws.length) i h = some ws[i] := by
        show (match h[p]? with
          | some (.lst l) => l[i]?
          | _ => none) = _
        rw [e]
        exact List.getElem?_eq_getElem li
      have f2 : Itm.get (.ws ws) i h = some ws[i] := List.getElem?_eq_getElem li
      obtain ⟨o, eo⟩ := hs ws[i] (List.getElem_mem li)
      unfold compG
      rw [f, f2]
      simp only [eo, bind_ok]
      cases o with
      | none => exact ih (i + 1) acc (by omega)
      | some v =>
        show (if acc.length < sizeL then _ else _) = (if acc.length < sizeL then _ else _)
        rw [ih (i + 1) (acc ++ [v]) (by omega)]
  exact key ws.length 0 [] (by omega)
theorem compI_map {α : Type} {step : W → Hh → Res (Option W)} (f : α → D) (g : α → D) (l : List α) (e : h[p]? = some (lst (l.map f))) (hs : ∀ x ∈ l, step (.dat (f x)) h = .ok (some (.dat (g x))) h) (hl : l.length ≤ sizeL) : compI (.cell p (l.map f).length) step h = .ok ((l.map g).map .dat) h := by
  have z := compI_cell (step := step) e fun w hw => by
    obtain ⟨_, hd, rfl⟩ := List.mem_map.mp hw
    obtain ⟨x, hx, rfl⟩ := List.mem_map.mp hd
    exact ⟨_, hs x hx⟩
  rw [List.length_map] at z
  rw [z, List.map_map]
  exact compL_map (f := W.dat ∘ f) g l hs hl
theorem compI_opt {α : Type} {step : W → Hh → Res (Option W)} (f : α → D) (o : α → Option D) (l : List α) (e : h[p]? = some (lst (l.map f))) (hs : ∀ x ∈ l, step (.dat (f x)) h = .ok ((o x).map .dat) h) (hl : l.length ≤ sizeL) : compI (.cell p (l.map f).length) step h = .ok ((l.filterMap o).map .dat) h := by
  have z := compI_cell (step := step) e fun w hw => by
    obtain ⟨_, hd, rfl⟩ := List.mem_map.mp hw
    obtain ⟨x, hx, rfl⟩ := List.mem_map.mp hd
    exact ⟨_, hs x hx⟩
  rw [List.length_map] at z
  rw [z, List.map_map]
  exact compL_opt (W.dat ∘ f) o l hs hl
theorem shp_all {k : Nat} {l : List D} (h : ∀ d ∈ l, d.canLay0 = true ∧ d.depth ≤ k) : PyData.canLayAll0 l = true ∧ PyData.depthAll l ≤ k := by
  induction l with
  | nil => exact ⟨rfl, Nat.zero_le _⟩
  | cons d l ih =>
    have a := h d List.mem_cons_self
    have b := ih fun x m => h x (List.mem_cons_of_mem _ m)
    refine ⟨?_, ?_⟩
    · show (d.canLay0 && PyData.canLayAll0 l) = true
      rw [a.1, b.1]
      rfl
    · show max d.depth (PyData.depthAll l) ≤ k
      omega
theorem shp_list {k : Nat} {l : List D} (hk : k < 64) (h : ∀ d ∈ l, d.canLay0 = true ∧ d.depth ≤ k) : shp (.list l) = true := by
  have z := shp_all h
  show (PyData.canLayAll0 l && decide (PyData.depthAll l + 1 ≤ 64)) = true
  rw [z.1, decide_eq_true (by omega)]
  rfl
theorem in_ens {es : List En1} {e : En1} (ok : okAll e.d) (oks : ∀ f ∈ es, okAll f.d) : inSeq e.d (es.map En1.d) = some (es.any fun f => PyData.eqv f.d e.d) := by
  unfold inSeq
  rw [en_shaped ok, shp_list (k := 11) (by decide) fun d hd => by
    obtain ⟨f, hf, rfl⟩ := List.mem_map.mp hd
    exact en_shp (oks f hf), List.any_map]
  rfl
theorem in_cds {cs : List (Str × Int)} {c : Str × Int} (ok : cloudD (cd c) = true) (oks : ∀ f ∈ cs, cloudD (cd f) = true) : inSeq (cd c) (cs.map cd) = some (decide (c ∈ cs)) := by
  unfold inSeq
  rw [cloud_shp ok, shp_list (k := 10) (by decide) fun d hd => by
    obtain ⟨f, hf, rfl⟩ := List.mem_map.mp hd
    exact cloud_lay (oks f hf), List.any_map]
  have : (cs.any ((fun e => PyData.eqv e (cd c)) ∘ cd)) = decide (c ∈ cs) := by
    rw [Bool.eq_iff_iff, List.any_eq_true, decide_eq_true_iff]
    constructor
    · rintro ⟨f, hf, z⟩
      have z : PyData.eqv (cd f) (cd c) = true := z
      rw [cd_eqv] at z
      exact of_decide_eq_true z ▸ hf
    · intro hc
      refine ⟨c, hc, ?_⟩
      show PyData.eqv (cd c) (cd c) = true
      rw [cd_eqv]
      exact decide_eq_true rfl
  rw [this]
  rfl
theorem sort_ens {es : List En1} (oks : ∀ f ∈ es, okAll f.d) : sortB (es.map En1.d) = true := by
  have z := shp_all (k := 11) (l := es.map En1.d) fun d hd => by
    obtain ⟨f, hf, rfl⟩ := List.mem_map.mp hd
    exact en_shp (oks f hf)
  have hd : (es.map En1.d).all hdStrD = true := by
    rw [List.all_eq_true]
    intro d hd
    obtain ⟨f, _, rfl⟩ := List.mem_map.mp hd
    cases f <;> rfl
  have cm : ((es.map En1.d).all fun x => (es.map En1.d).all fun y => cmpD x y) = true := by
    rw [List.all_eq_true]
    intro x hx
    rw [List.all_eq_true]
    intro y hy
    obtain ⟨e, _, rfl⟩ := List.mem_map.mp hx
    obtain ⟨f, _, rfl⟩ := List.mem_map.mp hy
    exact cmp_en e f
  unfold sortB kdB
  rw [hd, z.1, decide_eq_true (show PyData.depthAll (es.map En1.d) ≤ 60 by omega), cm]
  simp
theorem sort_cds {cs : List (Str × Int)} (oks : ∀ f ∈ cs, cloudD (cd f) = true) : sortB (cs.map cd) = true := by
  have z := shp_all (k := 10) (l := cs.map cd) fun d hd => by
    obtain ⟨f, hf, rfl⟩ := List.mem_map.mp hd
    exact cloud_lay (oks f hf)
  have hd : (cs.map cd).all hdStrD = true := by
    rw [List.all_eq_true]
    intro d hd
    obtain ⟨f, _, rfl⟩ := List.mem_map.mp hd
    rfl
  have cm : ((cs.map cd).all fun x => (cs.map cd).all fun y => cmpD x y) = true := by
    rw [List.all_eq_true]
    intro x hx
    rw [List.all_eq_true]
    intro y hy
    obtain ⟨e, _, rfl⟩ := List.mem_map.mp hx
    obtain ⟨f, _, rfl⟩ := List.mem_map.mp hy
    exact cmp_cons rfl (cmp_cons rfl rfl)
  unfold sortB kdB
  rw [hd, z.1, decide_eq_true (show PyData.depthAll (cs.map cd) ≤ 60 by omega), cm]
  simp
theorem cloud_of {c : Str × Int} (n : nameD (.str c.1) = true) (a : 0 ≤ c.2) (b : c.2 ≤ 999) : cloudD (cd c) = true := by
  show (nameD (.str c.1) && (decide (0 ≤ c.2) && decide (c.2 ≤ 999))) = true
  rw [n, decide_eq_true a, decide_eq_true b]
  rfl
end
end K37
namespace K37
open PySem M
/-! ### plain: rows of names, sorted, each once -/
theorem gather_sub : ∀ (ys T : List Str), ∃ S, S.Sublist ys ∧ gather T ys = T ++ S
  | [], T => ⟨[], .slnil, by simp [gather]⟩
  | y :: ys, T => by
    obtain ⟨S, s, e⟩ := gather_sub ys (putT T y)
    show ∃ S, _ ∧ gather (putT T y) ys = _
    rw [e]
    unfold putT
    split
    · exact ⟨S, s.cons y, rfl⟩
    · exact ⟨y :: S, s.cons_cons y, by simp⟩
theorem str_an {u v : Str} (h1 : ltE (.str u) (.str v) = false) (h2 : ltE (.str v) (.str u) = false) : u = v := by
  rw [← ltE_eq (show cmpD (.str u) (.str v) = true from rfl)] at h1
  rw [← ltE_eq (show cmpD (.str v) (.str u) = true from rfl)] at h2
  have a : ¬ (u.cps.toList < v.cps.toList) := of_decide_eq_false h1
  have b : ¬ (v.cps.toList < u.cps.toList) := of_decide_eq_false h2
  have e : u.cps.toList = v.cps.toList := List.le_antisymm (List.not_lt.mp b) (List.not_lt.mp a)
  cases u; cases v
  simp only at e
  rw [Array.toList_inj.mp e]
theorem strs_uniq {l m : List D} (s : ∀ d ∈ l, ∃ x, d = .str x) (rl : Rise l) (rm : Rise m) (p : l.Perm m) : l = m := by
  refine rise_uniq (fun x mx y my h1 h2 => ?_) rl rm p
  obtain ⟨u, rfl⟩ := s x mx
  obtain ⟨v, rfl⟩ := s y my
  rw [str_an h1 h2]
theorem gather_perm {xs ys : List Str} (h : ∀ x, x ∈ xs ↔ x ∈ ys) : (gather [] xs).Perm (gather [] ys) := by
  refine (List.perm_ext_iff_of_nodup (gather_nd xs [] List.nodup_nil) (gather_nd ys [] List.nodup_nil)).mpr fun x => ?_
  rw [gather_mem, gather_mem, h x]
theorem map_str {l : List Str} : ∀ d ∈ l.map PyData.str, ∃ x, d = .str x := fun d hd => by
  obtain ⟨x, _, rfl⟩ := List.mem_map.mp hd
  exact ⟨x, rfl⟩
theorem sort_str {l : List Str} : ∀ d ∈ sortD (l.map PyData.str), ∃ x, d = .str x := fun d hd => map_str d ((sortD_perm _).mem_iff.mp hd)
theorem riseN_ext {xs ys : List Str} (h : ∀ x, x ∈ xs ↔ x ∈ ys) : riseN xs = riseN ys :=
  strs_uniq sort_str (sortD_rise _) (sortD_rise _) ((sortD_perm _).trans (((gather_perm h).map _).trans (sortD_perm _).symm))
def decS : D → Option Str
  | .str x => some x
  | _ => none
theorem texts_of {l : List D} {xs : List Str} (p : l.Perm (xs.map .str)) : ∃ ys : List Str, ys.Perm xs ∧ l = ys.map .str := by
  have key : ∀ l : List D, (∀ d ∈ l, ∃ x, d = .str x) → ∃ ys : List Str, l = ys.map .str := by
    intro l
    induction l with
    | nil => intro _; exact ⟨[], rfl⟩
    | cons d l ih =>
      intro a
      obtain ⟨e, rfl⟩ := a d (by simp)
      obtain ⟨es, rfl⟩ := ih fun d hd => a d (List.mem_cons_of_mem _ hd)
      exact ⟨e :: es, rfl⟩
  obtain ⟨ys, rfl⟩ := key l fun d hd => map_str d (p.mem_iff.mp hd)
  have z := p.filterMap decS
  have dm : ∀ l : List Str, (l.map PyData.str).filterMap decS = l := fun l => by
    rw [List.filterMap_map, show (decS ∘ PyData.str) = some from rfl, List.filterMap_some]
  rw [dm, dm] at z
  exact ⟨ys, z, rfl⟩
theorem rise_once {xs ys : List Str} (p : ys.Perm xs) (r : Rise (ys.map .str)) : (gather [] ys).map PyData.str = riseN xs := by
  obtain ⟨S, s, e⟩ := gather_sub ys []
  rw [List.nil_append] at e
  refine strs_uniq map_str ?_ (sortD_rise _) (((gather_perm fun x => p.mem_iff).map _).trans (sortD_perm _).symm)
  rw [e]
  exact r.sublist (s.map _)
theorem in_strs {T : List Str} {x : Str} (n : nameD (.str x) = true) (ns : ∀ y ∈ T, nameD (.str y) = true) : inSeq (.str x) (T.map .str) = some (decide (x ∈ T)) := by
  unfold inSeq
  have s1 : shp (.str x) = true := by
    show ((PyData.str x).canLay0 && decide (0 ≤ 64)) = true
    rw [name_lay n]
    rfl
  rw [s1, shp_list (k := 10) (by decide) fun d hd => by
    obtain ⟨f, hf, rfl⟩ := List.mem_map.mp hd
    exact ⟨name_lay (ns f hf), Nat.zero_le _⟩, List.any_map]
  have : (T.any ((fun e => PyData.eqv e (.str x)) ∘ PyData.str)) = decide (x ∈ T) := by
    rw [Bool.eq_iff_iff, List.any_eq_true, decide_eq_true_iff]
    constructor
    · rintro ⟨f, hf, z⟩
      have z : PyData.eqv (.str f) (.str x) = true := z
      rw [str_eqv] at z
      exact of_decide_eq_true z ▸ hf
    · intro hc
      refine ⟨x, hc, ?_⟩
      show PyData.eqv (.str x) (.str x) = true
      rw [str_eqv]
      exact decide_eq_true rfl
  rw [this]
  rfl
theorem sort_strs {T : List Str} (ns : ∀ y ∈ T, nameD (.str y) = true) : sortB (T.map .str) = true := by
  have z := shp_all (k := 10) (l := T.map .str) fun d hd => by
    obtain ⟨f, hf, rfl⟩ := List.mem_map.mp hd
    exact ⟨name_lay (ns f hf), Nat.zero_le _⟩
  have hd : (T.map PyData.str).all isStrD = true := by
    rw [List.all_eq_true]
    intro d hd
    obtain ⟨f, _, rfl⟩ := List.mem_map.mp hd
    rfl
  have cm : ((T.map PyData.str).all fun x => (T.map PyData.str).all fun y => cmpD x y) = true := by
    rw [List.all_eq_true]
    intro x hx
    rw [List.all_eq_true]
    intro y hy
    obtain ⟨e, _, rfl⟩ := List.mem_map.mp hx
    obtain ⟨f, _, rfl⟩ := List.mem_map.mp hy
    rfl
  unfold sortB kdB
  rw [hd, z.1, decide_eq_true (show PyData.depthAll (T.map PyData.str) ≤ 60 by omega), cm]
  simp
end K37
namespace K37
open PySem M
/-! ### books of any names, plain -/
/-- good entries and clouds, each once -/
structure Gd (es : List En1) (cs : List (Str × Int)) : Prop where
  en : ∀ e ∈ es, entryD e.d = true ∧ okAll e.d
  nd : es.Nodup
  cl : ∀ c ∈ cs, cloudD (cd c) = true
  cnd : cs.Nodup
/-- whether they make a book -/
def lawB (es : List En1) (cs : List (Str × Int)) : Bool := fewE es && (decide (cs.length ≤ 8) && (peaceE es && !(es.any (underE (cs.map cd)))))
theorem peace_iff {es : List En1} : peaceE es = true ↔ es.Pairwise fun e f => e.quar f = false := by
  refine ⟨fun h => ?_, peace_of⟩
  rw [List.pairwise_iff_getElem]
  intro i j hi hj lt
  have z := List.all_eq_true.mp (List.all_eq_true.mp h j (List.mem_range.mpr hj)) i (List.mem_range.mpr lt)
  rw [List.getElem?_eq_getElem hi, List.getElem?_eq_getElem hj] at z
  have z : (!(es[j].quar es[i])) = true := z
  rw [quar_comm]
  simpa using z
theorem any_perm {α : Type} {l m : List α} (p : l.Perm m) (f : α → Bool) : l.any f = m.any f := by
  rw [Bool.eq_iff_iff, List.any_eq_true, List.any_eq_true]
  exact ⟨fun ⟨x, a, b⟩ => ⟨x, p.mem_iff.mp a, b⟩, fun ⟨x, a, b⟩ => ⟨x, p.mem_iff.mpr a, b⟩⟩
theorem few_perm {es fs : List En1} (p : es.Perm fs) : fewE es = fewE fs := by
  have m : ∀ (f : En1 → Option Str), ∀ x, x ∈ es.filterMap f ↔ x ∈ fs.filterMap f := fun f x => (p.filterMap f).mem_iff
  unfold fewE
  rw [p.length_eq, riseN_ext (m En1.who), riseN_ext (m En1.what), riseN_ext (xs := es.filterMap En1.here ++ es.filterMap En1.clock) (ys := fs.filterMap En1.here ++ fs.filterMap En1.clock) fun x => by rw [List.mem_append, List.mem_append, m En1.here, m En1.clock]]
theorem peace_perm {es fs : List En1} (p : es.Perm fs) : peaceE es = peaceE fs := by
  have key : ∀ {es fs : List En1}, es.Perm fs → peaceE es = true → peaceE fs = true := fun p h => peace_iff.mpr (p.pairwise (peace_iff.mp h) fun {e f} z => by rw [quar_comm]; exact z)
  rw [Bool.eq_iff_iff]
  exact ⟨key p, key p.symm⟩
theorem under_perm {cs ds : List (Str × Int)} (q : cs.Perm ds) (e : En1) : underE (cs.map cd) e = underE (ds.map cd) e := by
  unfold underE
  cases e.spot with
  | none => rfl
  | some z => exact any_perm (q.map cd) _
theorem lawB_perm {es fs : List En1} {cs ds : List (Str × Int)} (p : es.Perm fs) (q : cs.Perm ds) : lawB es cs = lawB fs ds := by
  unfold lawB
  rw [few_perm p, q.length_eq, peace_perm p, any_perm p]
  congr 4
  rw [show underE (cs.map cd) = underE (ds.map cd) from funext (under_perm q)]
theorem Gd.perm {es fs : List En1} {cs ds : List (Str × Int)} (g : Gd es cs) (p : es.Perm fs) (q : cs.Perm ds) : Gd fs ds :=
  ⟨fun e m => g.en e (p.mem_iff.mpr m), p.nodup_iff.mp g.nd, fun c m => g.cl c (q.mem_iff.mpr m), q.nodup_iff.mp g.cnd⟩
theorem Gd.book {es : List En1} {cs : List (Str × Int)} (g : Gd es cs) (r1 : Rise (es.map En1.d)) (r2 : Rise (cs.map cd)) : bookD (.tuple [.tuple (es.map En1.d), .tuple (cs.map cd)]) = lawB es cs := by
  have a1 : (cs.map cd).all cloudD = true := List.all_eq_true.mpr fun x m => by
    obtain ⟨c, hc, rfl⟩ := List.mem_map.mp m
    exact g.cl c hc
  have a2 : (es.map En1.d).all entryD = true := List.all_eq_true.mpr fun x m => by
    obtain ⟨e, he, rfl⟩ := List.mem_map.mp m
    exact (g.en e he).1
  show ((decide ((cs.map cd).length ≤ 8) && ((cs.map cd).all cloudD && adjB (cs.map cd))) && ((es.map En1.d).all entryD && (adjB (es.map En1.d) && (fewE ((es.map En1.d).filterMap decE) && (peaceE ((es.map En1.d).filterMap decE) && !(((es.map En1.d).filterMap decE).any (underE (cs.map cd)))))))) = lawB es cs
  rw [decE_map, a1, a2, ens_adj g.nd r1, cds_adj g.cnd r2, List.length_map]
  unfold lawB
  cases decide (cs.length ≤ 8) <;> cases fewE es <;> simp
theorem cl_ok {c : Str × Int} (h : cloudD (cd c) = true) : okAll (cd c) := cd_ok (Bool.and_eq_true_iff.mp (show (nameD (.str c.1) && nightD (.int c.2)) = true from h)).1
theorem Gd.ok {es : List En1} {cs : List (Str × Int)} (g : Gd es cs) (l : es.length ≤ 400) : okBk (.tuple [.tuple (es.map En1.d), .tuple (cs.map cd)]) := by
  refine ⟨by rw [List.length_map]; exact l, fun x m => ?_, fun x m => ?_⟩
  · obtain ⟨e, he, rfl⟩ := List.mem_map.mp m
    exact (g.en e he).2
  · obtain ⟨c, hc, rfl⟩ := List.mem_map.mp m
    exact cl_ok (g.cl c hc)
theorem lawB_len {es : List En1} {cs : List (Str × Int)} (h : lawB es cs = true) : es.length ≤ 16 ∧ cs.length ≤ 8 := by
  have a := and2 h
  have b := and2 a.2
  have c := (and2 (show (!(decide (16 < es.length) || decide (5 < (riseN (es.filterMap En1.who)).length)) && (decide ((riseN (es.filterMap En1.what)).length ≤ 4) && decide ((riseN (es.filterMap En1.here ++ es.filterMap En1.clock)).length ≤ 3))) = true from a.1)).1
  simp at c
  exact ⟨by omega, of_decide_eq_true b.1⟩
/-- sorted, as a law does it -/
theorem Gd.sorted {es : List En1} {cs : List (Str × Int)} (g : Gd es cs) : ∃ (fs : List En1) (ds : List (Str × Int)), sortD (es.map En1.d) = fs.map En1.d ∧ sortD (cs.map cd) = ds.map cd ∧ es.Perm fs ∧ cs.Perm ds ∧ Gd fs ds ∧ Rise (fs.map En1.d) ∧ Rise (ds.map cd) := by
  obtain ⟨fs, p, e⟩ := map_perm (sortD_perm (es.map En1.d))
  obtain ⟨ds, q, f⟩ := cd_perm (sortD_perm (cs.map cd))
  exact ⟨fs, ds, e, f, p.symm, q.symm, g.perm p.symm q.symm, e ▸ sortD_rise _, f ▸ sortD_rise _⟩
/-! rows that stand sorted -/
theorem str_shp_part {x : Str} : keyB (.str x) = true := rfl
theorem en_key (e : En1) : keyB e.d = true := by cases e <;> rfl
theorem cd_key (c : Str × Int) : keyB (cd c) = true := rfl
theorem en_keys (es : List En1) : keysB (es.map En1.d) = true := by
  induction es with
  | nil => rfl
  | cons e es ih => exact Bool.and_eq_true_iff.mpr ⟨en_key e, ih⟩
theorem cd_keys (cs : List (Str × Int)) : keysB (cs.map cd) = true := by
  induction cs with
  | nil => rfl
  | cons c cs ih => exact Bool.and_eq_true_iff.mpr ⟨cd_key c, ih⟩
theorem cmp_cd (c e : Str × Int) : cmpD (cd c) (cd e) = true := cmp_cons rfl (cmp_cons rfl rfl)
theorem en_inj {e f : En1} (h : e.d = f.d) : e = f := en_eqv (h ▸ en_eqv_self e)
theorem cd_inj {c e : Str × Int} (h : cd c = cd e) : c = e := by
  have z : PyData.eqv (cd c) (cd e) = true := by rw [h, cd_eqv]; exact decide_eq_true rfl
  rw [cd_eqv] at z
  exact of_decide_eq_true z
theorem nd_map {α β : Type} {f : α → β} (inj : ∀ x y, f x = f y → x = y) {l : List α} (n : l.Nodup) : (l.map f).Nodup := List.pairwise_map.mpr (n.imp fun ne e => ne (inj _ _ e))
theorem sort_en {es fs : List En1} (p : es.Perm fs) : sortD (es.map En1.d) = sortD (fs.map En1.d) :=
  sortD_keys (en_keys es) (fun x mx y my => by
    obtain ⟨e, _, rfl⟩ := List.mem_map.mp mx
    obtain ⟨f, _, rfl⟩ := List.mem_map.mp my
    exact cmp_en e f) (p.map _)
theorem sort_cd {cs ds : List (Str × Int)} (p : cs.Perm ds) : sortD (cs.map cd) = sortD (ds.map cd) :=
  sortD_keys (cd_keys cs) (fun x mx y my => by
    obtain ⟨e, _, rfl⟩ := List.mem_map.mp mx
    obtain ⟨f, _, rfl⟩ := List.mem_map.mp my
    exact cmp_cd e f) (p.map _)
theorem sort_rise {l : List D} (k : keysB l = true) (c : ∀ x ∈ l, ∀ y ∈ l, cmpD x y = true) (r : Rise l) : sortD l = l := by
  refine rise_uniq (fun x mx y my h1 h2 => ?_) (sortD_rise l) r (sortD_perm l)
  have mx := (sortD_perm l).mem_iff.mp mx
  have my := (sortD_perm l).mem_iff.mp my
  exact ltE_tot (keys_mem k x mx) (keys_mem k y my) (c x mx y my) h1 h2
theorem sort_enR {es : List En1} (r : Rise (es.map En1.d)) : sortD (es.map En1.d) = es.map En1.d :=
  sort_rise (en_keys es) (fun x mx y my => by
    obtain ⟨e, _, rfl⟩ := List.mem_map.mp mx
    obtain ⟨f, _, rfl⟩ := List.mem_map.mp my
    exact cmp_en e f) r
theorem sort_cdR {cs : List (Str × Int)} (r : Rise (cs.map cd)) : sortD (cs.map cd) = cs.map cd :=
  sort_rise (cd_keys cs) (fun x mx y my => by
    obtain ⟨e, _, rfl⟩ := List.mem_map.mp mx
    obtain ⟨f, _, rfl⟩ := List.mem_map.mp my
    exact cmp_cd e f) r
/-- once each, sorted: of rows of entries, of clouds -/
theorem uniq_en {es fs : List En1} (n : fs.Nodup) (m : ∀ e, e ∈ fs ↔ e ∈ es) : sortD (uniqK [] (es.map En1.d)) = sortD (fs.map En1.d) := by
  have ku := keysB_of fun d md => keys_mem (en_keys es) d ((uniqK_mem (en_keys es)).mp md)
  have ce : ∀ x ∈ es.map En1.d, ∀ y ∈ es.map En1.d, cmpD x y = true := fun x mx y my => by
    obtain ⟨e, _, rfl⟩ := List.mem_map.mp mx
    obtain ⟨f, _, rfl⟩ := List.mem_map.mp my
    exact cmp_en e f
  refine sortD_keys ku (fun x mx y my => ce x ((uniqK_mem (en_keys es)).mp mx) y ((uniqK_mem (en_keys es)).mp my)) ?_
  refine (List.perm_ext_iff_of_nodup (uniqK_nodup (en_keys es)) (nd_map (fun _ _ h => en_inj h) n)).mpr fun d => ?_
  rw [uniqK_mem (en_keys es), List.mem_map, List.mem_map]
  exact ⟨fun ⟨e, a, b⟩ => ⟨e, (m e).mpr a, b⟩, fun ⟨e, a, b⟩ => ⟨e, (m e).mp a, b⟩⟩
theorem uniq_cd {cs ds : List (Str × Int)} (n : ds.Nodup) (m : ∀ e, e ∈ ds ↔ e ∈ cs) : sortD (uniqK [] (cs.map cd)) = sortD (ds.map cd) := by
  have ku := keysB_of fun d md => keys_mem (cd_keys cs) d ((uniqK_mem (cd_keys cs)).mp md)
  have ce : ∀ x ∈ cs.map cd, ∀ y ∈ cs.map cd, cmpD x y = true := fun x mx y my => by
    obtain ⟨e, _, rfl⟩ := List.mem_map.mp mx
    obtain ⟨f, _, rfl⟩ := List.mem_map.mp my
    exact cmp_cd e f
  refine sortD_keys ku (fun x mx y my => ce x ((uniqK_mem (cd_keys cs)).mp mx) y ((uniqK_mem (cd_keys cs)).mp my)) ?_
  refine (List.perm_ext_iff_of_nodup (uniqK_nodup (cd_keys cs)) (nd_map (fun _ _ h => cd_inj h) n)).mpr fun d => ?_
  rw [uniqK_mem (cd_keys cs), List.mem_map, List.mem_map]
  exact ⟨fun ⟨e, a, b⟩ => ⟨e, (m e).mpr a, b⟩, fun ⟨e, a, b⟩ => ⟨e, (m e).mp a, b⟩⟩
theorem keyRows_en {es : List En1} (ok : ∀ e ∈ es, okAll e.d) (l : es.length < 64) : keyRowsB (es.map En1.d) = true := by
  have z := shp_all (k := 7) (l := es.map En1.d) fun d hd => by
    obtain ⟨f, hf, rfl⟩ := List.mem_map.mp hd
    refine ⟨(en_shp (ok f hf)).1, ?_⟩
    cases f <;> exact Nat.le_of_ble_eq_true rfl
  have hd : (es.map En1.d).all hdStrD = true := List.all_eq_true.mpr fun d hd => by
    obtain ⟨f, _, rfl⟩ := List.mem_map.mp hd
    cases f <;> rfl
  have cm : ((es.map En1.d).all fun x => (es.map En1.d).all fun y => cmpD x y) = true := List.all_eq_true.mpr fun x mx => List.all_eq_true.mpr fun y my => by
    obtain ⟨e, _, rfl⟩ := List.mem_map.mp mx
    obtain ⟨f, _, rfl⟩ := List.mem_map.mp my
    exact cmp_en e f
  unfold keyRowsB
  rw [en_keys, List.length_map, decide_eq_true l, z.1, decide_eq_true z.2, hd, cm]
  rfl
theorem keyRows_cd {cs : List (Str × Int)} (ok : ∀ c ∈ cs, cloudD (cd c) = true) (l : cs.length < 64) : keyRowsB (cs.map cd) = true := by
  have z := shp_all (k := 7) (l := cs.map cd) fun d hd => by
    obtain ⟨f, hf, rfl⟩ := List.mem_map.mp hd
    exact ⟨(cloud_lay (ok f hf)).1, Nat.le_of_ble_eq_true rfl⟩
  have hd : (cs.map cd).all hdStrD = true := List.all_eq_true.mpr fun d hd => by
    obtain ⟨f, _, rfl⟩ := List.mem_map.mp hd
    rfl
  have cm : ((cs.map cd).all fun x => (cs.map cd).all fun y => cmpD x y) = true := List.all_eq_true.mpr fun x mx => List.all_eq_true.mpr fun y my => by
    obtain ⟨e, _, rfl⟩ := List.mem_map.mp mx
    obtain ⟨f, _, rfl⟩ := List.mem_map.mp my
    exact cmp_cd e f
  unfold keyRowsB
  rw [cd_keys, List.length_map, decide_eq_true l, z.1, decide_eq_true z.2, hd, cm]
  rfl
end K37
namespace K37
open PySem M
/-! ### quarrels, as the law has them -/
section
variable {n : Nat} {h : Hh}
theorem r_law_quarrel (e f : En1) : M.run S.glb S.T (n + 1) f_law_quarrel [.dat e.d, .dat f.d] h = .ok (.dat (.bool (e.quar f))) h := by
  have key : okW (M.run S.glb S.T (n + 1) f_law_quarrel [.dat e.d, .dat f.d] h) (fun w h' => w = .dat (.bool (e.quar f)) ∧ h' = h) noE := by
    rw [run_law_quarrel]
    apply okW_keep
    obtain ⟨w1, w2, w3, w4⟩ := strs_ne
    cases e with
    | habit x a g => simp [b_law_quarrel, En1.d, En1.quar, w1]
    | gain x a g => simp [b_law_quarrel, En1.d, En1.quar, w2]
    | mark w s p t a g =>
      cases f with
      | habit x a g => simp [b_law_quarrel, En1.d, En1.quar, w1]
      | gain x a g => simp [b_law_quarrel, En1.d, En1.quar, w2]
      | mark w' s' p' t' a' g' =>
        simp only [b_law_quarrel, En1.d, En1.quar]
        by_cases c1 : w = w'
        · by_cases c2 : t = t'
          · by_cases c3 : p = p'
            · by_cases c4 : s = s'
              · simp [c1, c2, c3, c4]
              · simp [c1, c2, c3, c4]
            · simp [c1, c2, c3]
          · simp [c1, c2]
        · simp [c1]
  obtain ⟨a, h', e, rfl, rfl⟩ := key.get
  exact e
end
end K37
namespace K37
open PySem M
/-! ### the draw of a book -/
section
variable {n : Nat} {g h : Hh} {Q : W → Hh → Prop} {E : Nat → Hh → Prop}
theorem At.trans {p c c' : Nat} {g h h' : Hh} (x : At p c g h) (y : At p c' h h') : At p c' g h' := by
  obtain ⟨⟨fl, ln, ou⟩, r⟩ := y
  exact ⟨⟨fl, ln.trans x.len, fun k nk => (ou k nk).trans (x.out nk)⟩, r⟩
/-- what stands ahead stays, but for the pool -/
def Kp (p : Nat) (h h' : Hh) : Prop := h.length ≤ h'.length ∧ ∀ j, j ≠ p → j < h.length → h'[j]? = h[j]?
theorem Kp.refl (p : Nat) (h : Hh) : Kp p h h := ⟨Nat.le_refl _, fun _ _ _ => rfl⟩
theorem Kp.push {p : Nat} {h h' : Hh} (k : Kp p h h') (o : Ob) : Kp p h (h' ++ [o]) := by
  obtain ⟨a, b⟩ := k
  exact ⟨by rw [List.length_append]; omega, fun j nj lj => by rw [List.getElem?_append_left (by omega)]; exact b j nj lj⟩
theorem Kp.at {p c : Nat} {h h' h2 : Hh} (k : Kp p h h') (x : At p c h' h2) : Kp p h h2 := by
  obtain ⟨a, b⟩ := k
  exact ⟨by rw [x.len]; exact a, fun j nj lj => by rw [x.out nj]; exact b j nj lj⟩
theorem Kp.set {p i : Nat} {h h' : Hh} (k : Kp p h h') (l : h.length ≤ i) (o : Ob) : Kp p h (h'.set i o) := by
  obtain ⟨a, b⟩ := k
  exact ⟨by rw [List.length_set]; exact a, fun j nj lj => by rw [List.getElem?_set_ne (by omega)]; exact b j nj lj⟩
theorem Kp.take {p c : Nat} {h h' : Hh} (k : Kp p h h') (x : At p c h' h') (pl : p < h.length) : At p c h (h'.take h.length) := x.take pl rfl k.1 k.2
theorem list_kp {p c k : Nat} {h1 h2 : Hh} {l : List D} (x : At p c h1 h2) (e : h1[k]? = some (lst l)) (ne : k ≠ p) : h2[k]? = some (lst l) := by rw [x.out ne]; exact e
end
end K37
namespace K37
open PySem M
/-! ### clouds, as lists -/
section
variable {n : Nat} {h : Hh} {Q : W → Hh → Prop} {E : Nat → Hh → Prop}
/-- clouds, as a list, or as one of the small heap -/
structure Sky (h : Hh) (w : W) (cs : List (Str × Int)) : Prop where
  len : builtin .len false [w] h = .ok (.dat (.int cs.length)) h
  has : ∀ c : Str × Int, cloudD (cd c) = true → inW h (.dat (cd c)) w = some (decide (c ∈ cs))
theorem sky_L {cs : List (Str × Int)} (ok : ∀ c ∈ cs, cloudD (cd c) = true) : Sky h (.dat (.list (cs.map cd))) cs := by
  refine ⟨?_, fun c oc => ?_⟩
  · show ri h (some (Int.ofNat ((cs.map cd).map W.dat).length)) = _
    rw [List.length_map, List.length_map]
    rfl
  · exact in_cds oc ok
theorem sky_R {p : Nat} {cs : List (Str × Int)} (e : h[p]? = some (lst (cs.map cd))) (ok : ∀ c ∈ cs, cloudD (cd c) = true) : Sky h (.ref p) cs := by
  refine ⟨?_, fun c oc => ?_⟩
  · show ri h (((match h[p]? with
      | some (.lst l) => some l
      | some (.tpl l) => some l
      | _ => none).map List.length).map Int.ofNat) = _
    rw [e]
    show ri h (some (Int.ofNat ((cs.map cd).map W.dat).length)) = _
    rw [List.length_map, List.length_map]
    rfl
  · rw [inW_ref e]
    exact in_cds oc ok
theorem under_iff {cs : List (Str × Int)} (e : En1) : underE (cs.map cd) e = (match e.spot with
    | some c => decide (c ∈ cs)
    | none => false) := by
  unfold underE
  cases e.spot with
  | none => rfl
  | some c =>
    obtain ⟨p, t⟩ := c
    show (cs.map cd).any (fun z => PyData.eqv z (cd (p, t))) = decide ((p, t) ∈ cs)
    rw [List.any_map, Bool.eq_iff_iff, List.any_eq_true, decide_eq_true_iff]
    constructor
    · rintro ⟨c, m, z⟩
      have z : PyData.eqv (cd c) (cd (p, t)) = true := z
      rw [cd_eqv] at z
      exact of_decide_eq_true z ▸ m
    · intro m
      refine ⟨_, m, ?_⟩
      show PyData.eqv (cd (p, t)) (cd (p, t)) = true
      rw [cd_eqv]
      exact decide_eq_true rfl
end
end K37
namespace K37
open PySem M
/-! ### entries as the laws draw them -/
structure Raw (a b d : List D) (e : En1) : Prop where
  good : GoodE e.d
  who : ∀ x, e.who = some x → PyData.str x ∈ a
  what : ∀ x, e.what = some x → PyData.str x ∈ b
  here : ∀ x, e.here = some x → PyData.str x ∈ d
  clock : ∀ x, e.clock = some x → PyData.str x ∈ d
theorem name_in {l : List D} (n : ∀ d ∈ l, nameD d = true) : ∀ d ∈ l, ∃ x, d = .str x ∧ nameD (.str x) = true ∧ .str x ∈ l := by
  intro d hd
  obtain ⟨x, rfl⟩ := nameD_inv (n d hd)
  exact ⟨x, rfl, n _ hd, hd⟩
end K37
namespace K37
open PySem M
/-! ### an entry drawn, of rows of names -/
section
variable {n : Nat} {g h : Hh} {Q : W → Hh → Prop} {E : Nat → Hh → Prop}
theorem s_raw {p c : Nat} {a b d : List D} (la : 0 < a.length ∧ a.length < 1000) (lb : 0 < b.length ∧ b.length < 1000) (ld : 0 < d.length ∧ d.length < 1000) (na : Nm a) (nb : Nm b) (nd : Nm d) (x : At p c g h) (hc : c < 800000) (q : ∀ e h', Raw a b d e → At p (c + 20) g h' → Q (.dat e.d) h') : okW (M.run S.glb S.T (n + 3) f_law_raw [.ref p, .dat (.list [.list a, .list b, .list d])] h) Q E := by
  rw [run_law_raw]
  apply okW_keep
  have p6 : okPow 10 6 = true := by decide
  simp [b_law_raw, t_law_raw_6, p6]
  refine s_ends 1000000 (by decide) (by decide) x (by omega) fun u h2 fu x2 => ?_
  try simp
  refine s_ends 1000 (by decide) (by decide) x2 (by omega) fun v h3 fv x3 => ?_
  refine s_size v ?_
  have fa := fv.abs
  have z0 : (0 : Int) ≤ v.1.natAbs := by omega
  have fz : ∃ r : Int × Int, r = ((v.1.natAbs : Int), v.2) := ⟨_, rfl⟩
  obtain ⟨v2, ev⟩ := fz
  have z0 : 0 ≤ v2.1 := by rw [ev]; exact z0
  rw [← ev] at fa ⊢
  simp [t_law_raw_5]
  refine s_take 7 x3 (by decide) (by decide) (by omega) fun w h4 w0 w1 x4 => ?_
  by_cases e0 : w = 0
  · simp [t_law_raw_4, e0]
    refine s_take _ x4 (by omega) (by omega) (by omega) fun i h5 i0 i1 x5 => ?_
    try simp
    refine at_any _ i0 i1 (name_in na.nam) ?_
    rintro _ ⟨s, rfl, ns, ms⟩
    simp [sizeL]
    exact q (.habit s u v2) _ ⟨.two _ _ _ _ (.inl rfl) ns fu fa z0, fun y e => (by cases e; exact ms), fun y e => (by cases e), fun y e => (by cases e), fun y e => (by cases e)⟩ (x5.more (by omega))
  by_cases e1 : w = 1
  · simp [t_law_raw_4, t_law_raw_3, e1]
    refine s_take _ x4 (by omega) (by omega) (by omega) fun i h5 i0 i1 x5 => ?_
    try simp
    refine at_any _ i0 i1 (name_in nd.nam) ?_
    rintro _ ⟨s, rfl, ns, ms⟩
    simp [sizeL]
    exact q (.gain s u v2) _ ⟨.two _ _ _ _ (.inr rfl) ns fu fa z0, fun y e => (by cases e), fun y e => (by cases e), fun y e => (by cases e), fun y e => (by cases e; exact ms)⟩ (x5.more (by omega))
  simp [t_law_raw_4, t_law_raw_3, e0, e1, t_law_raw_2]
  refine s_take 1000 x4 (by decide) (by decide) (by omega) fun t1 h5 t1l t1h x5 => ?_
  try simp
  refine s_take 4 x5 (by decide) (by decide) (by omega) fun t2 h6 t2l t2h x6 => ?_
  try simp
  refine s_take 4 x6 (by decide) (by decide) (by omega) fun k h7 k0 k1 x7 => ?_
  try simp
  refine at_any (fun d => ∃ t : Int, d = .int t ∧ 0 ≤ t ∧ t ≤ 999) k0 (by simp; omega) (by simp; omega) ?_
  rintro _ ⟨t, rfl, t0, t9⟩
  simp [t_law_raw_1]
  refine s_take _ x7 (by omega) (by omega) (by omega) fun i h8 i0 i1 x8 => ?_
  try simp
  refine at_any _ i0 i1 (name_in na.nam) ?_
  rintro _ ⟨s, rfl, ns, ms⟩
  try simp
  refine s_take _ x8 (by omega) (by omega) (by omega) fun j h9 j0 j1 x9 => ?_
  try simp
  refine at_any _ j0 j1 (name_in nb.nam) ?_
  rintro _ ⟨s2, rfl, ns2, ms2⟩
  simp [t_law_raw_0]
  refine s_take _ x9 (by omega) (by omega) (by omega) fun l h10 l0 l1 x10 => ?_
  try simp
  refine at_any _ l0 l1 (name_in nd.nam) ?_
  rintro _ ⟨s3, rfl, ns3, ms3⟩
  simp [sizeL]
  exact q (.mark s s2 s3 t u v2) _ ⟨.mark _ _ _ _ _ _ ns ns2 ns3 t0 t9 fu fa z0, fun y e => (by cases e; exact ms), fun y e => (by cases e; exact ms2), fun y e => (by cases e; exact ms3), fun y e => (by cases e)⟩ (x10.more (by omega))
end
end K37
namespace K37
open PySem M
/-! ### books that stand sorted -/
/-- a book -/
abbrev bk (es : List En1) (cs : List (Str × Int)) : D := .tuple [.tuple (es.map En1.d), .tuple (cs.map cd)]
/-- a book that stands sorted -/
structure Book (es : List En1) (cs : List (Str × Int)) : Prop where
  gd : Gd es cs
  r1 : Rise (es.map En1.d)
  r2 : Rise (cs.map cd)
  law : lawB es cs = true
theorem Book.len {es : List En1} {cs : List (Str × Int)} (b : Book es cs) : es.length ≤ 16 ∧ cs.length ≤ 8 := lawB_len b.law
theorem Book.ok {es : List En1} {cs : List (Str × Int)} (b : Book es cs) : okBk (bk es cs) := b.gd.ok (by have := b.len; omega)
theorem Book.is {es : List En1} {cs : List (Str × Int)} (b : Book es cs) : bookD (bk es cs) = true := by rw [b.gd.book b.r1 b.r2]; exact b.law
end K37
namespace K37
open PySem M
/-! ### whether entries and clouds make a book, as a law looks at it -/
section
variable {n : Nat} {h : Hh} {Q : W → Hh → Prop} {E : Nat → Hh → Prop}
theorem lset_L (xs : List Str) (sz : xs.length < 1000) : lenSet (.dat (.list (xs.map .str))) h = .ok (.dat (.int ((riseN xs).length : Nat))) h := by
  unfold lenSet
  rw [show lstOf h (.dat (.list (xs.map .str))) = some ((xs.map PyData.str).map .dat) from rfl]
  dsimp only
  rw [texts_map]
  dsimp only
  rw [if_pos (decide_eq_true sz)]
  unfold riseN
  rw [(sortD_perm _).length_eq, List.length_map]
theorem s_joins_loop (es : List En1) (sz : es.length < 400) (en : ∀ e ∈ es, entryD e.d = true) {w : W} {cs : List (Str × Int)} (sk : Sky h w cs) (wh : W) (c1 : fewE es = true) (c2 : cs.length ≤ 8) :
    okS (exs (cc (n + 1)) t_law_joins_3 [some (.dat (.list (es.map En1.d))), some w, some wh, none, none, none] h) (fun _ h' => False) (fun w h' => w = .dat (.bool (lawB es cs)) ∧ h' = h) (fun c _ h => noE c h) := by
    have okl : okR (es.length : Int) = true := okR_nat (by omega)
    simp [t_law_joins_3, okl]
    have at_ : ∀ j : Nat, j < es.length → ∃ f, es[j]? = some f ∧ atI (es.map En1.d) (j : Int) = some f.d := fun j lj => by
      refine ⟨es[j], List.getElem?_eq_getElem lj, ?_⟩
      rw [atI_nat, List.getElem?_map, List.getElem?_eq_getElem lj]
      rfl
    refine okS_forN (fun i e h' => h' = h ∧ (∃ t1 t2, e = [some (.dat (.list (es.map En1.d))), some w, some wh, none, t1, t2]) ∧ (∀ k, k < i → ∀ e, es[k]? = some e → (∀ j, j < k → ∀ f, es[j]? = some f → e.quar f = false) ∧ underE (cs.map cd) e = false)) _ 0 _ _ ⟨rfl, ⟨_, _, rfl⟩, fun k z => absurd z (Nat.not_lt_zero k)⟩ ?_ ?_
    · rintro j w2 z e h1 ⟨rfl, ⟨t1, t2, rfl⟩, pre⟩
      obtain ⟨rfl, lj⟩ := rngL_get z
      rw [Nat.zero_add] at pre
      have lj : j < es.length := by omega
      obtain ⟨e, e1, e2⟩ := at_ j lj
      have me : e ∈ es := List.mem_of_getElem? e1
      have u := under_iff (cs := cs) e
      have done : (∀ i, i < j → ∀ f, es[i]? = some f → e.quar f = false) → underE (cs.map cd) e = false → (∀ k, k < j + 1 → ∀ e, es[k]? = some e → (∀ j, j < k → ∀ f, es[j]? = some f → e.quar f = false) ∧ underE (cs.map cd) e = false) := fun pj ue k lk f hf => by
        rcases Nat.lt_succ_iff_lt_or_eq.mp lk with z | z
        · exact pre k z f hf
        · subst z
          rw [e1] at hf
          cases hf
          exact ⟨pj, ue⟩
      obtain ⟨T, eT⟩ : ∃ T : CSs, T = (.cons (.ifs (.blt .any false (.cons (.comp false [("_law_ahead", 5)] (.nam 5) (.ex (.slc (.var 0) .non (.som (.var 4)))) .nil e_law_joins_1) .nil)) (.cons (.ret (.cst (.bool false))) .nil) .nil) .nil) := ⟨_, rfl⟩
      have eL : l_law_joins_2 = (.cons (.ifs (.bop true (.cons (.cmp .eq (.idx (.idx (.var 0) (.var 4)) (.cst (.int 0))) (.cst (.str "mark"))) (.cons (.cmp .isin (.slc (.idx (.var 0) (.var 4)) (.som (.cst (.int 3))) (.som (.cst (.int 5)))) (.var 1)) .nil))) (.cons (.ret (.cst (.bool false))) .nil) .nil) T) := by rw [eT]; rfl
      have s2 : underE (cs.map cd) e = false → okS (exs (cc (n + 1)) T [some (.dat (.list (es.map En1.d))), some w, some wh, none, some (.dat (.int (j : Nat))), t2] h1)
          (fun e2 h' => h' = h1 ∧ (∃ t1 t2, e2 = [some (.dat (.list (es.map En1.d))), some w, some wh, none, t1, t2]) ∧ (∀ k, k < j + 1 → ∀ e, es[k]? = some e → (∀ j, j < k → ∀ f, es[j]? = some f → e.quar f = false) ∧ underE (cs.map cd) e = false))
          (fun w2 h' => w2 = .dat (.bool (lawB es cs)) ∧ h' = h1) (fun c _ h => noE c h) := by
        intro ue
        rw [eT]
        simp [cut_to]
        rw [← List.map_take, compL_map (f := W.dat ∘ En1.d) (g := fun f => PyData.bool (e.quar f))]
        rotate_left
        · intro f _
          simp [e_law_joins_1, e2, r_law_quarrel]
        · simp [sizeL]; omega
        simp only [okW_ok, dsOf_map, bi_any]
        rw [show ((es.take j).map fun f => PyData.bool (e.quar f)) = ((es.take j).map fun f => e.quar f).map PyData.bool by rw [List.map_map]; rfl]
        simp only [bools_map, Option.map_some, rb_some, okW_ok, List.any_map]
        cases c : (es.take j).any (id ∘ fun f => e.quar f) with
        | true =>
          have no : peaceE es = false := by
            cases z : peaceE es with
            | false => rfl
            | true =>
              obtain ⟨f, mf, ef⟩ := List.any_eq_true.mp c
              obtain ⟨i, hi⟩ := List.getElem?_of_mem mf
              have li : i < j := by
                have := (List.getElem?_eq_some_iff.mp hi).1
                rw [List.length_take] at this
                omega
              rw [List.getElem?_take_of_lt li] at hi
              have pw := List.pairwise_iff_getElem.mp (peace_iff.mp z) i j (by omega) lj li
              rw [List.getElem?_eq_getElem lj] at e1
              rw [List.getElem?_eq_getElem (by omega)] at hi
              cases e1; cases hi
              rw [quar_comm] at pw
              have ef : (es[j].quar es[i]) = true := ef
              rw [ef] at pw
              cases pw
          simp [lawB, no]
        | false =>
          have pj : ∀ i, i < j → ∀ f, es[i]? = some f → e.quar f = false := fun i li f hf => by
            have z := List.any_eq_false.mp c f (List.mem_of_getElem? (by rw [List.getElem?_take_of_lt li]; exact hf))
            simpa using z
          simp
          exact done pj ue
      rw [eL]
      obtain ⟨w1, w2, w3, w4⟩ := strs_ne
      cases e with
      | habit x a g =>
        simp [e2, En1.d, w1]
        exact s2 (by rw [u]; rfl)
      | gain x a g =>
        simp [e2, En1.d, w2]
        exact s2 (by rw [u]; rfl)
      | mark wx sx px tx a g =>
        have cu : cutL [PyData.str "mark", .str wx, .str sx, .str px, .int tx, fr a, fr g] (some 3) (some 5) = [.str px, .int tx] := rfl
        have good : cloudD (cd (px, tx)) = true := by
          have z := and2 (show (decide ((("mark" : Str)) = "mark") && (nameD (.str wx) && (nameD (.str sx) && (nameD (.str px) && (nightD (.int tx) && endsD (fr a) (fr g)))))) = true from by
            have q := en _ me
            first
              | exact q
              | simpa [entryD, En1.d] using q)
          have z2 := and2 (and2 (and2 z.2).2).2
          have z3 := and2 z2.2
          exact Bool.and_eq_true_iff.mpr ⟨z2.1, z3.1⟩
        have hw := sk.has (px, tx) good
        have ec : PyData.tuple [PyData.str px, .int tx] = cd (px, tx) := rfl
        have u : underE (cs.map cd) (.mark wx sx px tx a g) = decide ((px, tx) ∈ cs) := u
        by_cases c3 : (px, tx) ∈ cs
        · rw [decide_eq_true c3] at hw
          have yes : es.any (underE (cs.map cd)) = true := List.any_eq_true.mpr ⟨_, me, by rw [u]; exact decide_eq_true c3⟩
          simp [e2, En1.d, cu, ec, hw, lawB, yes]
        · rw [decide_eq_false c3] at hw
          simp [e2, En1.d, cu, ec, hw]
          exact s2 (by rw [u]; exact decide_eq_false c3)
    · rintro e h1 ⟨rfl, ⟨t1, t2, rfl⟩, pre⟩
      rw [Nat.zero_add, rngL_length] at pre
      have p1 : peaceE es = true := by
        refine peace_iff.mpr (List.pairwise_iff_getElem.mpr fun i j hi hj lt => ?_)
        have z := (pre j (by omega) _ (List.getElem?_eq_getElem hj)).1 i lt _ (List.getElem?_eq_getElem hi)
        rw [quar_comm]
        exact z
      have p2 : es.any (underE (cs.map cd)) = false := List.any_eq_false.mpr fun e m => by
        obtain ⟨i, hi⟩ := List.getElem?_of_mem m
        rw [(pre i (by have := (List.getElem?_eq_some_iff.mp hi).1; omega) e hi).2]
        decide
      simp [t_law_joins_0, lawB, c1, p1, p2, c2]
theorem r_law_joins (es : List En1) (sz : es.length < 400) (en : ∀ e ∈ es, entryD e.d = true) {w : W} {cs : List (Str × Int)} (sk : Sky h w cs) : M.run S.glb S.T (n + 2) f_law_joins [.dat (.list (es.map En1.d)), w] h = .ok (.dat (.bool (lawB es cs))) h := by
  have key : okW (M.run S.glb S.T (n + 2) f_law_joins [.dat (.list (es.map En1.d)), w] h) (fun w h' => w = .dat (.bool (lawB es cs)) ∧ h' = h) noE := by
    rw [run_law_joins]
    apply okW_keep
    obtain ⟨w1, w2, w3, w4⟩ := strs_ne
    have l1 := List.length_filterMap_le En1.who es
    have l2 := List.length_filterMap_le En1.what es
    have l3 := List.length_filterMap_le En1.here es
    have l4 := List.length_filterMap_le En1.clock es
    have ln := sk.len
    simp [b_law_joins]
    rw [compL_opt (W.dat ∘ En1.d) (fun e => e.here.map PyData.str)]
    rotate_left
    · intro e _
      cases e <;> simp [g_law_joins_14, e_law_joins_15, En1.d, En1.here, w1, w2]
    · simp [sizeL]; omega
    simp only [okW_ok, dsOf_map, filterMap_str]
    simp [t_law_joins_13]
    rw [compL_opt (W.dat ∘ En1.d) (fun e => e.clock.map PyData.str)]
    rotate_left
    · intro e _
      cases e <;> simp [g_law_joins_11, e_law_joins_12, En1.d, En1.clock, w3, w4]
    · simp [sizeL]; omega
    simp only [okW_ok, dsOf_map, filterMap_str]
    simp only [bin_addL, ← List.map_append]
    rw [if_pos (by simp [sizeL]; omega)]
    simp only [bind_ok, okW_ok]
    have ls := lset_L (h := h) (es.filterMap En1.here ++ es.filterMap En1.clock) (by rw [List.length_append]; omega)
    have rest : ∀ (wh : W), cs.length ≤ 8 → es.length ≤ 16 → (riseN (es.filterMap En1.here ++ es.filterMap En1.clock)).length ≤ 3 →
        okS (exs (cc (n + 1)) t_law_joins_9 [some (.dat (.list (es.map En1.d))), some w, some wh, none, none, none] h) (fun _ h' => False) (fun w h' => w = .dat (.bool (lawB es cs)) ∧ h' = h) (fun c _ h => noE c h) := by
      intro wh c8 c16 cp
      simp [t_law_joins_9]
      rw [compL_opt (W.dat ∘ En1.d) (fun e => e.who.map PyData.str)]
      rotate_left
      · intro e _
        cases e <;> simp [g_law_joins_7, e_law_joins_8, En1.d, En1.who, w3, w4]
      · simp [sizeL]; omega
      simp only [okW_ok, dsOf_map, filterMap_str]
      rw [lset_L _ (by omega)]
      by_cases c5 : (riseN (es.filterMap En1.who)).length ≤ 5
      · have c5' : ¬ (5 : Int) < ((riseN (es.filterMap En1.who)).length : Nat) := by omega
        simp [c5', t_law_joins_6]
        rw [compL_opt (W.dat ∘ En1.d) (fun e => e.what.map PyData.str)]
        rotate_left
        · intro e _
          cases e <;> simp [g_law_joins_4, e_law_joins_5, En1.d, En1.what, w1, w2]
        · simp [sizeL]; omega
        simp only [okW_ok, dsOf_map, filterMap_str]
        rw [lset_L _ (by omega)]
        by_cases c4 : (riseN (es.filterMap En1.what)).length ≤ 4
        · have c4' : ¬ (4 : Int) < ((riseN (es.filterMap En1.what)).length : Nat) := by omega
          simp [c4']
          refine s_joins_loop es sz en sk wh ?_ c8
          unfold fewE
          simp [c4, cp]
          omega
        · have c4' : (4 : Int) < ((riseN (es.filterMap En1.what)).length : Nat) := by omega
          have no : lawB es cs = false := by unfold lawB fewE; simp [c4]
          simp [c4', no]
      · have c5' : (5 : Int) < ((riseN (es.filterMap En1.who)).length : Nat) := by omega
        have no : lawB es cs = false := by unfold lawB fewE; simp [show 5 < (riseN (es.filterMap En1.who)).length by omega]
        simp [c5', no]
    have rest2 : ∀ (wh : W), lenSet wh h = .ok (.dat (.int ((riseN (es.filterMap En1.here ++ es.filterMap En1.clock)).length : Nat))) h →
        okS (exs (cc (n + 1)) t_law_joins_10 [some (.dat (.list (es.map En1.d))), some w, some wh, none, none, none] h) (fun _ h' => False) (fun w h' => w = .dat (.bool (lawB es cs)) ∧ h' = h) (fun c _ h => noE c h) := by
      intro wh lw
      by_cases c16 : es.length ≤ 16
      · have c16' : ¬ (16 : Int) < es.length := by omega
        by_cases c8 : cs.length ≤ 8
        · have c8' : ¬ (8 : Int) < cs.length := by omega
          by_cases cp : (riseN (es.filterMap En1.here ++ es.filterMap En1.clock)).length ≤ 3
          · have cp' : ¬ (3 : Int) < ((riseN (es.filterMap En1.here ++ es.filterMap En1.clock)).length : Nat) := by omega
            simp [t_law_joins_10, c16', ln, c8', lw, cp']
            exact rest wh c8 c16 cp
          · have cp' : (3 : Int) < ((riseN (es.filterMap En1.here ++ es.filterMap En1.clock)).length : Nat) := by omega
            have no : lawB es cs = false := by unfold lawB fewE; simp [cp]
            simp [t_law_joins_10, c16', ln, c8', lw, cp', no]
        · have c8' : (8 : Int) < cs.length := by omega
          have no : lawB es cs = false := by unfold lawB; simp [c8]
          simp [t_law_joins_10, c16', ln, c8', no]
      · have c16' : (16 : Int) < es.length := by omega
        have no : lawB es cs = false := by unfold lawB fewE; simp [show 16 < es.length by omega]
        simp [t_law_joins_10, c16', no]
    exact (rest2 _ ls).imp (fun _ _ z => z.elim) (fun _ _ z => z) fun _ _ _ z => z
  obtain ⟨a, h', e, rfl, rfl⟩ := key.get
  exact e
end
end K37
namespace K37
open PySem M
/-! ### a thing more in a sorted row, one fewer -/
section
variable {n : Nat} {h : Hh} {Q : W → Hh → Prop} {E : Nat → Hh → Prop}
theorem get_exc {r : Res W} {k : Nat} (z : okW r (fun _ _ => False) (fun c h' => c = k ∧ h' = h)) : r = .exc k h := by
  cases r with
  | ok w h' => exact z.elim
  | exc c h' =>
    obtain ⟨rfl, rfl⟩ := z
    rfl
  | bad => exact z.elim
theorem shp_of {k : Nat} {d : D} (hk : k ≤ 64) (l : d.canLay0 = true ∧ d.depth ≤ k) : shp d = true := by
  have e : PyData.list [d] = .list [d] := rfl
  unfold shp SeqAt.shaped
  simp [l.1]
  omega
theorem ne_tup {a b : List D} (sa : shp (.tuple a) = true) (sb : shp (.tuple b) = true) : cmpW .ne (.dat (.tuple a)) (.dat (.tuple b)) h = some (!PyData.eqv (.tuple a) (.tuple b)) := by
  show (eqD (.tuple a) (.tuple b)).map not = _
  have e : eqD (.tuple a) (.tuple b) = (if shp (.tuple a) && shp (.tuple b) then some (PyData.eqv (.tuple a) (.tuple b)) else eq0 (.tuple a) (.tuple b)) := rfl
  rw [e, sa, sb]
  rfl
theorem r_with {l : List D} {x : D} (so : sortB (l ++ [x]) = true) (sz : l.length < 1000) : M.run S.glb S.T (n + 1) f_with_one [.dat (.tuple l), .dat x] h = .ok (.dat (.tuple (sortD (l ++ [x])))) h := by
  have key : okW (M.run S.glb S.T (n + 1) f_with_one [.dat (.tuple l), .dat x] h) (fun w h' => w = .dat (.tuple (sortD (l ++ [x]))) ∧ h' = h) noE := by
    rw [run_with_one]
    apply okW_keep
    have s1 : l.length + 1 ≤ sizeL := by simp only [sizeL]; omega
    have e1 := mkLst_map (h := h) (sortD (l ++ [x]))
    simp [b_with_one, s1, so, -mkLst_f, e1]
  obtain ⟨a, h', e, rfl, rfl⟩ := key.get
  exact e
theorem r_without {α : Type} (f : α → List D) (l : List α) (x : α) (sh : ∀ y ∈ l, shp (.tuple (f y)) = true) (sx : shp (.tuple (f x)) = true) (p : α → Bool) (hp : ∀ y ∈ l, (!PyData.eqv (.tuple (f y)) (.tuple (f x))) = p y) (sz : l.length < 1000) :
    M.run S.glb S.T (n + 1) f_without_one [.dat (.tuple (l.map fun y => .tuple (f y))), .dat (.tuple (f x))] h = .ok (.dat (.tuple ((l.filter p).map fun y => .tuple (f y)))) h := by
  have key : okW (M.run S.glb S.T (n + 1) f_without_one [.dat (.tuple (l.map fun y => .tuple (f y))), .dat (.tuple (f x))] h) (fun w h' => w = .dat (.tuple ((l.filter p).map fun y => .tuple (f y))) ∧ h' = h) noE := by
    rw [run_without_one]
    apply okW_keep
    simp [b_without_one]
    rw [compL_opt (W.dat ∘ fun y => PyData.tuple (f y)) (fun y => if p y = true then some (PyData.tuple (f y)) else none)]
    rotate_left
    · intro y hy
      have e := ne_tup (h := h) (sh y hy) sx
      rw [hp y hy] at e
      cases c : p y <;> simp [g_without_one_0, e_without_one_1, e, c]
    · simp [sizeL]; omega
    simp only [okW_ok, dsOf_map]
    have e2 : (l.filterMap fun y => if p y = true then some (PyData.tuple (f y)) else none) = (l.filter p).map fun y => PyData.tuple (f y) := by
      induction l with
      | nil => rfl
      | cons y l ih =>
        rw [List.filterMap_cons, List.filter_cons, ih (fun z hz => sh z (List.mem_cons_of_mem _ hz)) (fun z hz => hp z (List.mem_cons_of_mem _ hz)) (by simp at sz; omega)]
        cases p y <;> rfl
    rw [e2]
    simp
  obtain ⟨a, h', e, rfl, rfl⟩ := key.get
  exact e
end
end K37
namespace K37
open PySem M
/-! ### states of a keeper, plain -/
/-- a row without a thing -/
def del {α : Type} [DecidableEq α] (l : List α) (x : α) : List α := l.erase x
theorem del_sub {α : Type} [DecidableEq α] {l : List α} {x : α} : (del l x).Sublist l := List.erase_sublist
theorem del_perm {α : Type} [DecidableEq α] {l m : List α} (p : l.Perm m) (x : α) : (del l x).Perm (del m x) := p.erase x
theorem del_filter {α : Type} [DecidableEq α] {l : List α} (nd : l.Nodup) (x : α) : l.filter (fun y => !decide (y = x)) = del l x := by
  unfold del
  rw [nd.erase_eq_filter]
  congr 1
def En1.tl : En1 → List D := fun e => match e.d with
  | .tuple l => l
  | _ => []
theorem en_tl (e : En1) : e.d = .tuple e.tl := by cases e <;> rfl
instance : DecidableEq En1 := fun e f => if h : PyData.eqv e.d f.d = true then isTrue (en_eqv h) else isFalse fun z => h (z ▸ en_eqv_self e)
/-- entries and clouds, as they came -/
abbrev St := List En1 × List (Str × Int)
structure Ok3 (s : St) : Prop where
  gd : Gd s.1 s.2
  law : lawB s.1 s.2 = true
/-- as a law has it -/
def sd (s : St) : D := .list [.list (s.1.map En1.d), .list (s.2.map cd)]
/-- the book of it -/
def kb (s : St) : D := .tuple [.tuple (sortD (s.1.map En1.d)), .tuple (sortD (s.2.map cd))]
theorem Ok3.len {s : St} (o : Ok3 s) : s.1.length ≤ 16 ∧ s.2.length ≤ 8 := lawB_len o.law
theorem good_en {e : En1} (g : entryD e.d = true ∧ okAll e.d) : shp e.d = true := shp_of (k := 11) (by decide) (en_shp g.2)
theorem good_cd {c : Str × Int} (g : cloudD (cd c) = true) : shp (cd c) = true := shp_of (k := 10) (by decide) (cloud_lay g)
theorem rise_mem {xs : List Str} {x : Str} (m : x ∈ xs) : PyData.str x ∈ riseN xs := by
  unfold riseN
  rw [(sortD_perm _).mem_iff]
  exact List.mem_map.mpr ⟨x, gather_mem.mpr (.inr m), rfl⟩
theorem rise_sub {xs ys : List Str} (s : ∀ x ∈ xs, x ∈ ys) : (riseN xs).length ≤ (riseN ys).length := rise_len fun x m => rise_mem (s x m)
theorem fm_sub {α β : Type} (f : α → Option β) {l m : List α} (s : l.Sublist m) : ∀ x ∈ l.filterMap f, x ∈ m.filterMap f := fun x hx => by
  obtain ⟨y, my, e⟩ := List.mem_filterMap.mp hx
  exact List.mem_filterMap.mpr ⟨y, s.subset my, e⟩
theorem lawB_sub {es fs : List En1} {cs ds : List (Str × Int)} (p : es.Sublist fs) (q : cs.Sublist ds) (h : lawB fs ds = true) : lawB es cs = true := by
  have a := and2 h
  have b := and2 a.2
  have c := and2 b.2
  unfold lawB
  have f1 : fewE es = true := by
    have z := a.1
    unfold fewE at z ⊢
    have l0 := p.length_le
    have l1 := rise_sub (fm_sub En1.who p)
    have l2 := rise_sub (fm_sub En1.what p)
    have l3 : (riseN (es.filterMap En1.here ++ es.filterMap En1.clock)).length ≤ (riseN (fs.filterMap En1.here ++ fs.filterMap En1.clock)).length := rise_sub fun x m => by
      rcases List.mem_append.mp m with m | m
      · exact List.mem_append_left _ (fm_sub En1.here p x m)
      · exact List.mem_append_right _ (fm_sub En1.clock p x m)
    simp at z ⊢
    omega
  have f2 : cs.length ≤ 8 := Nat.le_trans q.length_le (of_decide_eq_true b.1)
  have f3 : peaceE es = true := peace_iff.mpr ((peace_iff.mp c.1).sublist p)
  have f4 : es.any (underE (cs.map cd)) = false := by
    rw [List.any_eq_false]
    intro e he
    have z : ¬ underE (ds.map cd) e = true := List.any_eq_false.mp (by simpa using c.2) e (p.subset he)
    intro y
    apply z
    rw [under_iff] at y ⊢
    cases k : e.spot with
    | none => rw [k] at y; cases y
    | some c =>
      rw [k] at y
      exact decide_eq_true (q.subset (of_decide_eq_true y))
  rw [f1, decide_eq_true f2, f3, f4]
  rfl
theorem Gd.sub {es fs : List En1} {cs ds : List (Str × Int)} (p : es.Sublist fs) (q : cs.Sublist ds) (g : Gd fs ds) : Gd es cs :=
  ⟨fun e m => g.en e (p.subset m), g.nd.sublist p, fun c m => g.cl c (q.subset m), g.cnd.sublist q⟩
theorem Ok3.sub {s t : St} (p : s.1.Sublist t.1) (q : s.2.Sublist t.2) (o : Ok3 t) : Ok3 s := ⟨o.gd.sub p q, lawB_sub p q o.law⟩
theorem Gd.addE {es : List En1} {cs : List (Str × Int)} {e : En1} (g : Gd es cs) (ge : entryD e.d = true ∧ okAll e.d) (ne : e ∉ es) : Gd (es ++ [e]) cs :=
  ⟨fun f m => (List.mem_append.mp m).elim (g.en f) fun m => List.mem_singleton.mp m ▸ ge, List.nodup_append.mpr ⟨g.nd, by simp, fun a ma b mb z => by
    rw [List.mem_singleton.mp mb] at z
    exact ne (z ▸ ma)⟩, g.cl, g.cnd⟩
theorem Gd.addC {es : List En1} {cs : List (Str × Int)} {c : Str × Int} (g : Gd es cs) (gc : cloudD (cd c) = true) (ne : c ∉ cs) : Gd es (cs ++ [c]) :=
  ⟨g.en, g.nd, fun f m => (List.mem_append.mp m).elim (g.cl f) fun m => List.mem_singleton.mp m ▸ gc, List.nodup_append.mpr ⟨g.cnd, by simp, fun a ma b mb z => by
    rw [List.mem_singleton.mp mb] at z
    exact ne (z ▸ ma)⟩⟩
/-- the book of a state, whether it is one -/
theorem kb_is {s : St} (g : Gd s.1 s.2) (l : s.1.length ≤ 400) : okBk (kb s) ∧ bookD (kb s) = lawB s.1 s.2 := by
  obtain ⟨fs, ds, e1, e2, p, q, g2, r1, r2⟩ := g.sorted
  unfold kb
  rw [e1, e2]
  exact ⟨g2.ok (by rw [← p.length_eq]; exact l), by rw [g2.book r1 r2]; exact (lawB_perm p q).symm⟩
theorem in_iff {es : List En1} {e : En1} : (es.any fun f => PyData.eqv f.d e.d) = decide (e ∈ es) := by
  rw [Bool.eq_iff_iff, List.any_eq_true, decide_eq_true_iff]
  exact ⟨fun ⟨f, m, z⟩ => en_eqv z ▸ m, fun m => ⟨e, m, en_eqv_self e⟩⟩
end K37
namespace K37
open PySem M
/-! ### the keeper -/
section
variable {n : Nat} {h : Hh} {Q : W → Hh → Prop} {E : Nat → Hh → Prop}
theorem fld_ins {k c : Nat} {fs : List (Str × W)} {f : Str} (e : h[k]? = some (.ins c fs)) : fldW f (.ref k) h = (match getF f fs with
      | some w => .ok w h
      | none => .bad) := by
  show (match h[k]? with
    | some (.ins _ fs) => (match getF f fs with
      | some w => Res.ok w h
      | none => .bad)
    | _ => .bad) = _
  rw [e]
theorem ins_is {k c : Nat} {fs : List (Str × W)} {m : Str} (e : h[k]? = some (.ins c fs)) (g : getF m fs = none) : insB c m (.ref k) h = true := by
  show (match h[k]? with
    | some (.ins c' fs) => decide (c' = c) && (getF m fs).isNone
    | _ => false) = true
  rw [e]
  simp [g]
theorem set_ins {k c : Nat} {fs : List (Str × W)} {f : Str} {w : W} (e : h[k]? = some (.ins c fs)) (l : fs.length < 1000) : setFld f (.ref k) w h = some (h.set k (.ins c (setF f w fs))) := by
  show (match h[k]? with
    | some (.ins c fs) => if fs.length < 1000 then some (h.set k (.ins c (setF f w fs))) else none
    | _ => none) = _
  rw [e]
  exact if_pos l
/-- a keeper's object: the book, the row of those ahead -/
def kO (d : D) (b : Nat) : Ob := .ins 0 [("now", .dat d), ("before", .ref b)]
theorem kO_now (d : D) (b : Nat) : getF "now" [("now", W.dat d), ("before", .ref b)] = some (.dat d) := rfl
theorem kO_before (d : D) (b : Nat) : getF "before" [("now", W.dat d), ("before", .ref b)] = some (.ref b) := rfl
theorem kO_set (d e : D) (b : Nat) : setF "now" (.dat e) [("now", W.dat d), ("before", .ref b)] = ([("now", W.dat e), ("before", .ref b)] : List (Str × W)) := by
  simp [setF]
structure Kr (k b : Nat) (h : Hh) (d : D) (L : List D) : Prop where
  ko : h[k]? = some (kO d b)
  bo : h[b]? = some (lst L)
  ne : k ≠ b
  few : L.length < 1000
/-- a deed done -/
def kUp (k b : Nat) (h : Hh) (d e : D) (L : List D) : Hh := (h.set b (lst (L ++ [d]))).set k (kO e b)
theorem Kr.up {k b : Nat} {d e : D} {L : List D} (r : Kr k b h d L) (few : L.length + 1 < 1000) : Kr k b (kUp k b h d e L) e (L ++ [d]) := by
  have l1 := (List.getElem?_eq_some_iff.mp r.ko).1
  have l2 := (List.getElem?_eq_some_iff.mp r.bo).1
  refine ⟨?_, ?_, r.ne, by rw [List.length_append]; exact few⟩
  · unfold kUp
    rw [List.getElem?_set_self (by rw [List.length_set]; exact l1)]
  · unfold kUp
    rw [List.getElem?_set_ne r.ne, List.getElem?_set_self l2]
theorem r_take {k b : Nat} {d e : D} {L : List D} (r : Kr k b h d L) (ok : okBk e) : M.run S.glb S.T (n + 7) f_Keeper_take [.ref k, .dat e] h = if bookD e = true then .ok (.dat .none) (kUp k b h d e L) else .exc x_NoJoin h := by
  have ib := r_is_book (n := n) (h := h) e ok
  cases c : bookD e with
  | false =>
    rw [c] at ib
    rw [if_neg (by decide)]
    apply get_exc
    rw [run_Keeper_take]
    apply okW_keep
    simp [b_Keeper_take, ib]
  | true =>
    rw [c] at ib
    rw [if_pos rfl]
    have key : okW (M.run S.glb S.T (n + 7) f_Keeper_take [.ref k, .dat e] h) (fun w h' => w = .dat .none ∧ h' = kUp k b h d e L) noE := by
      rw [run_Keeper_take]
      apply okW_keep
      have f1 := fld_ins (f := "before") (show h[k]? = some (.ins 0 [("now", .dat d), ("before", .ref b)]) from r.ko)
      have f2 := fld_ins (f := "now") (show h[k]? = some (.ins 0 [("now", .dat d), ("before", .ref b)]) from r.ko)
      rw [kO_before] at f1
      rw [kO_now] at f2
      have is1 := bm_isA r.bo
      have ap := bm_app r.bo (by have := r.few; simp only [sizeL]; omega) d
      have st := set_ins (f := "now") (w := .dat e) (h := h.set b (lst (L ++ [d]))) (k := k) (c := 0) (fs := [("now", .dat d), ("before", .ref b)]) (by rw [List.getElem?_set_ne (Ne.symm r.ne)]; exact r.ko) (by simp)
      rw [kO_set] at st
      simp [b_Keeper_take, ib, f1, f2, is1, ap, st]
      rfl
    obtain ⟨a, h', e, rfl, rfl⟩ := key.get
    exact e
end
end K37
namespace K37
open PySem M
/-! ### a keeper's deeds -/
section
variable {n : Nat} {h : Hh} {Q : W → Hh → Prop} {E : Nat → Hh → Prop}
theorem ins_keep {k : Nat} {d : D} {b : Nat} {m : Str} (e : h[k]? = some (kO d b)) (n1 : m ≠ "now") (n2 : m ≠ "before") : insB 0 m (.ref k) h = true := by
  refine ins_is e ?_
  unfold getF
  rw [List.lookup_cons, List.lookup_cons, beq_eq_false_iff_ne.mpr n1, beq_eq_false_iff_ne.mpr n2]
  rfl
theorem fld_now {k b : Nat} {d : D} (e : h[k]? = some (kO d b)) : fldW "now" (.ref k) h = .ok (.dat d) h := by
  rw [fld_ins e]
  rfl
theorem fld_before {k b : Nat} {d : D} (e : h[k]? = some (kO d b)) : fldW "before" (.ref k) h = .ok (.ref b) h := by
  rw [fld_ins e]
  rfl
/-- the outcome of a deed that makes an other state -/
def outK (k b : Nat) (h : Hh) (s t : St) (L : List D) : Res W := if lawB t.1 t.2 = true then .ok (.dat .none) (kUp k b h (kb s) (kb t) L) else .exc x_NoJoin h
theorem take_kb {k b : Nat} {s t : St} {L : List D} (r : Kr k b h (kb s) L) (g : Gd t.1 t.2) (l : t.1.length ≤ 400) : M.run S.glb S.T (n + 7) f_Keeper_take [.ref k, .dat (kb t)] h = outK k b h s t L := by
  obtain ⟨k1, k2⟩ := kb_is g l
  rw [r_take r k1, k2]
  rfl
theorem outK_w {k b : Nat} {s t : St} {L : List D} (q1 : lawB t.1 t.2 = true → Q (.dat .none) (kUp k b h (kb s) (kb t) L)) (q2 : lawB t.1 t.2 = false → E x_NoJoin h) : okW (outK k b h s t L) Q E := by
  unfold outK
  cases c : lawB t.1 t.2 with
  | true => exact q1 c
  | false => exact q2 c
theorem eq_okW {r s : Res W} (ok : okW r (fun w h' => s = .ok w h') (fun c h' => s = .exc c h')) : r = s := by
  cases r with
  | ok w h' => exact ok.symm
  | exc c h' => exact ok.symm
  | bad => exact ok.elim
theorem in_row {fs : List En1} {e : En1} (ge : entryD e.d = true ∧ okAll e.d) (en : ∀ e ∈ fs, entryD e.d = true ∧ okAll e.d) : inSeq e.d (fs.map En1.d) = some (decide (e ∈ fs)) := by
  rw [← in_iff]
  exact in_ens ge.2 fun f m => (en f m).2
theorem in_rowC {ds : List (Str × Int)} {c : Str × Int} (gc : cloudD (cd c) = true) (cl : ∀ c ∈ ds, cloudD (cd c) = true) : inSeq (cd c) (ds.map cd) = some (decide (c ∈ ds)) := in_cds gc cl
/-- rows sorted of more, of fewer -/
theorem sort_addE {es fs : List En1} (p : es.Perm fs) (e : En1) : sortD (fs.map En1.d ++ [e.d]) = sortD ((es ++ [e]).map En1.d) := by
  rw [show fs.map En1.d ++ [e.d] = (fs ++ [e]).map En1.d by simp]
  exact sort_en (p.symm.append_right [e])
theorem sort_addC {cs ds : List (Str × Int)} (p : cs.Perm ds) (c : Str × Int) : sortD (ds.map cd ++ [cd c]) = sortD ((cs ++ [c]).map cd) := by
  rw [show ds.map cd ++ [cd c] = (ds ++ [c]).map cd by simp]
  exact sort_cd (p.symm.append_right [c])
theorem sort_delE {es fs : List En1} (p : es.Perm fs) (r : Rise (fs.map En1.d)) (e : En1) : (del fs e).map En1.d = sortD ((del es e).map En1.d) := by
  rw [← sort_en (del_perm p.symm e), sort_enR]
  exact r.sublist (del_sub.map _)
theorem sort_delC {cs ds : List (Str × Int)} (p : cs.Perm ds) (r : Rise (ds.map cd)) (c : Str × Int) : (del ds c).map cd = sortD ((del cs c).map cd) := by
  rw [← sort_cd (del_perm p.symm c), sort_cdR]
  exact r.sublist (del_sub.map _)
theorem r_withE {fs : List En1} {e : En1} (ge : entryD e.d = true ∧ okAll e.d) (en : ∀ e ∈ fs, entryD e.d = true ∧ okAll e.d) (l : fs.length < 1000) : M.run S.glb S.T (n + 1) f_with_one [.dat (.tuple (fs.map En1.d)), .dat e.d] h = .ok (.dat (.tuple (sortD (fs.map En1.d ++ [e.d])))) h := by
  refine r_with ?_ (by rw [List.length_map]; exact l)
  rw [show fs.map En1.d ++ [e.d] = (fs ++ [e]).map En1.d by simp]
  exact sort_ens fun f m => (List.mem_append.mp m).elim (fun m => (en f m).2) fun m => List.mem_singleton.mp m ▸ ge.2
theorem r_withC {ds : List (Str × Int)} {c : Str × Int} (gc : cloudD (cd c) = true) (cl : ∀ c ∈ ds, cloudD (cd c) = true) (l : ds.length < 1000) : M.run S.glb S.T (n + 1) f_with_one [.dat (.tuple (ds.map cd)), .dat (cd c)] h = .ok (.dat (.tuple (sortD (ds.map cd ++ [cd c])))) h := by
  refine r_with ?_ (by rw [List.length_map]; exact l)
  rw [show ds.map cd ++ [cd c] = (ds ++ [c]).map cd by simp]
  exact sort_cds fun f m => (List.mem_append.mp m).elim (fun m => cl f m) fun m => List.mem_singleton.mp m ▸ gc
theorem r_withoutE {fs : List En1} {e : En1} (ge : entryD e.d = true ∧ okAll e.d) (en : ∀ e ∈ fs, entryD e.d = true ∧ okAll e.d) (nd : fs.Nodup) (l : fs.length < 1000) : M.run S.glb S.T (n + 1) f_without_one [.dat (.tuple (fs.map En1.d)), .dat e.d] h = .ok (.dat (.tuple ((del fs e).map En1.d))) h := by
  have sh : ∀ y : En1, shp y.d = true → shp (.tuple y.tl) = true := fun y z => by rw [← en_tl]; exact z
  have z := r_without (n := n) (h := h) En1.tl fs e (fun y hy => sh y (good_en (en y hy))) (sh e (good_en ge)) (fun y => !decide (y = e)) (fun y hy => by
    rw [← en_tl, ← en_tl]
    congr 1
    rw [Bool.eq_iff_iff, decide_eq_true_iff]
    exact ⟨en_eqv, fun q => q ▸ en_eqv_self y⟩) l
  rw [del_filter nd] at z
  rw [show (fun y : En1 => PyData.tuple y.tl) = En1.d from funext fun y => (en_tl y).symm, ← en_tl] at z
  exact z
theorem r_withoutC {ds : List (Str × Int)} {c : Str × Int} (gc : cloudD (cd c) = true) (cl : ∀ c ∈ ds, cloudD (cd c) = true) (nd : ds.Nodup) (l : ds.length < 1000) : M.run S.glb S.T (n + 1) f_without_one [.dat (.tuple (ds.map cd)), .dat (cd c)] h = .ok (.dat (.tuple ((del ds c).map cd))) h := by
  have z := r_without (n := n) (h := h) (fun y : Str × Int => [PyData.str y.1, .int y.2]) ds c (fun y hy => good_cd (cl y hy)) (good_cd gc) (fun y => !decide (y = c)) (fun y hy => by
    congr 1
    exact cd_eqv y c) l
  rw [del_filter nd] at z
  exact z
/-- what a keeper's deed begins with -/
structure Row (s : St) (fs : List En1) (ds : List (Str × Int)) : Prop where
  e1 : sortD (s.1.map En1.d) = fs.map En1.d
  e2 : sortD (s.2.map cd) = ds.map cd
  p : s.1.Perm fs
  q : s.2.Perm ds
  gd : Gd fs ds
  r1 : Rise (fs.map En1.d)
  r2 : Rise (ds.map cd)
theorem Ok3.row {s : St} (o : Ok3 s) : ∃ fs ds, Row s fs ds := by
  obtain ⟨fs, ds, e1, e2, p, q, g2, r1, r2⟩ := o.gd.sorted
  exact ⟨fs, ds, e1, e2, p, q, g2, r1, r2⟩
theorem Row.kb {s : St} {fs : List En1} {ds : List (Str × Int)} (r : Row s fs ds) : kb s = .tuple [.tuple (fs.map En1.d), .tuple (ds.map cd)] := by show PyData.tuple _ = _; rw [r.e1, r.e2]
theorem Row.memE {s : St} {fs : List En1} {ds : List (Str × Int)} (r : Row s fs ds) (e : En1) : decide (e ∈ fs) = decide (e ∈ s.1) := by rw [Bool.eq_iff_iff, decide_eq_true_iff, decide_eq_true_iff]; exact r.p.mem_iff.symm
theorem Row.memC {s : St} {fs : List En1} {ds : List (Str × Int)} (r : Row s fs ds) (c : Str × Int) : decide (c ∈ ds) = decide (c ∈ s.2) := by rw [Bool.eq_iff_iff, decide_eq_true_iff, decide_eq_true_iff]; exact r.q.mem_iff.symm
theorem outK_eq {k b : Nat} {s t : St} {L : List D} : okW (outK k b h s t L) (fun _ h' => outK k b h s t L = .ok (.dat .none) h') (fun c h' => outK k b h s t L = .exc c h') := by
  unfold outK
  split <;> exact rfl
theorem r_enter {k b : Nat} {s : St} {L : List D} {e : En1} (r : Kr k b h (kb s) L) (o : Ok3 s) (ge : entryD e.d = true ∧ okAll e.d) :
    M.run S.glb S.T (n + 8) f_Keeper_enter [.ref k, .dat e.d] h = if e ∈ s.1 then .exc x_NoEntry h else outK k b h s (s.1 ++ [e], s.2) L := by
  obtain ⟨fs, ds, R⟩ := o.row
  have fl := fld_now r.ko
  have len := o.len
  have pl := R.p.length_eq
  have ie := r_is_entryD (n := n + 2) (h := h) e.d ge.2
  have inr := in_row ge R.gd.en
  rw [R.memE] at inr
  have wi := r_withE (n := n + 6) (h := h) ge R.gd.en (by omega)
  rw [sort_addE R.p] at wi
  rw [R.kb] at fl
  apply eq_okW
  rw [run_Keeper_enter]
  apply okW_keep
  by_cases c : e ∈ s.1
  · rw [if_pos c]
    simp [b_Keeper_enter, fl, ie, ge.1, inr, c]
  · rw [if_neg c]
    have tk := take_kb (n := n) (h := h) r (t := (s.1 ++ [e], s.2)) (o.gd.addE ge c) (by simp; omega)
    have kt : kb (s.1 ++ [e], s.2) = .tuple [.tuple (sortD ((s.1 ++ [e]).map En1.d)), .tuple (ds.map cd)] := by show PyData.tuple _ = _; rw [R.e2]
    rw [kt] at tk
    have im := ins_keep (m := "take") r.ko (by decide +kernel) (by decide +kernel)
    have fin := outK_eq (k := k) (b := b) (h := h) (s := s) (t := (s.1 ++ [e], s.2)) (L := L)
    generalize outK k b h s (s.1 ++ [e], s.2) L = O at tk fin ⊢
    generalize sortD ((s.1 ++ [e]).map En1.d) = A at tk wi
    simp [b_Keeper_enter, fl, ie, ge.1, inr, c, wi, im, tk]
    exact fin
theorem r_strike {k b : Nat} {s : St} {L : List D} {e : En1} (r : Kr k b h (kb s) L) (o : Ok3 s) (ge : entryD e.d = true ∧ okAll e.d) :
    M.run S.glb S.T (n + 8) f_Keeper_strike [.ref k, .dat e.d] h = if e ∈ s.1 then outK k b h s (del s.1 e, s.2) L else .exc x_NoEntry h := by
  obtain ⟨fs, ds, R⟩ := o.row
  have fl := fld_now r.ko
  have len := o.len
  have pl := R.p.length_eq
  have ie := r_is_entryD (n := n + 2) (h := h) e.d ge.2
  have inr := in_row ge R.gd.en
  rw [R.memE] at inr
  have wi := r_withoutE (n := n + 6) (h := h) ge R.gd.en R.gd.nd (by omega)
  rw [sort_delE R.p R.r1] at wi
  rw [R.kb] at fl
  apply eq_okW
  rw [run_Keeper_strike]
  apply okW_keep
  by_cases c : e ∈ s.1
  · rw [if_pos c]
    have o2 : Ok3 (del s.1 e, s.2) := Ok3.sub (t := s) del_sub (List.Sublist.refl _) o
    have tk := take_kb (n := n) (h := h) r (t := (del s.1 e, s.2)) o2.gd (by have := o2.len; simp at this; simp; omega)
    have kt : kb (del s.1 e, s.2) = .tuple [.tuple (sortD ((del s.1 e).map En1.d)), .tuple (ds.map cd)] := by show PyData.tuple _ = _; rw [R.e2]
    rw [kt] at tk
    have im := ins_keep (m := "take") r.ko (by decide +kernel) (by decide +kernel)
    have fin := outK_eq (k := k) (b := b) (h := h) (s := s) (t := (del s.1 e, s.2)) (L := L)
    generalize outK k b h s (del s.1 e, s.2) L = O at tk fin ⊢
    generalize sortD ((del s.1 e).map En1.d) = A at tk wi
    simp [b_Keeper_strike, fl, ie, ge.1, inr, c, wi, im, tk]
    exact fin
  · rw [if_neg c]
    simp [b_Keeper_strike, fl, ie, ge.1, inr, c]
theorem check_yes {x : Str} {t : Int} (nx : nameD (.str x) = true) (nt : nightD (.int t) = true) : M.run S.glb S.T (n + 3) f_check_cloud [.dat (.str x), .dat (.int t)] h = .ok (.dat .none) h := by
  have key : okW (M.run S.glb S.T (n + 3) f_check_cloud [.dat (.str x), .dat (.int t)] h) (fun w h' => w = .dat .none ∧ h' = h) noE := by
    rw [run_check_cloud]
    apply okW_keep
    have a := r_is_name (n := n + 1) (h := h) (.str x) (ok_name nx).short
    have b := r_is_night (n := n) (h := h) (.int t)
    rw [nx] at a
    rw [nt] at b
    simp [b_check_cloud, a, b]
  obtain ⟨a, h', e, rfl, rfl⟩ := key.get
  exact e
theorem cloud_parts {c : Str × Int} (g : cloudD (cd c) = true) : nameD (.str c.1) = true ∧ nightD (.int c.2) = true := Bool.and_eq_true_iff.mp (show (nameD (.str c.1) && nightD (.int c.2)) = true from g)
theorem r_cloud {k b : Nat} {s : St} {L : List D} {c : Str × Int} (r : Kr k b h (kb s) L) (o : Ok3 s) (gc : cloudD (cd c) = true) :
    M.run S.glb S.T (n + 8) f_Keeper_cloud [.ref k, .dat (.str c.1), .dat (.int c.2)] h = if c ∈ s.2 then .exc x_NoCloud h else outK k b h s (s.1, s.2 ++ [c]) L := by
  obtain ⟨fs, ds, R⟩ := o.row
  have fl := fld_now r.ko
  have len := o.len
  have pl := R.q.length_eq
  obtain ⟨g1, g2⟩ := cloud_parts gc
  have ck := check_yes (n := n + 4) (h := h) g1 g2
  have inr := in_rowC gc R.gd.cl
  rw [R.memC] at inr
  have wi := r_withC (n := n + 6) (h := h) gc R.gd.cl (by omega)
  rw [sort_addC R.q] at wi
  rw [R.kb] at fl
  have ec : PyData.tuple [PyData.str c.1, .int c.2] = cd c := rfl
  apply eq_okW
  rw [run_Keeper_cloud]
  apply okW_keep
  by_cases m : c ∈ s.2
  · rw [if_pos m]
    simp [b_Keeper_cloud, fl, ck, ec, inr, m]
  · rw [if_neg m]
    have tk := take_kb (n := n) (h := h) r (t := (s.1, s.2 ++ [c])) (o.gd.addC gc m) (by simp; omega)
    have kt : kb (s.1, s.2 ++ [c]) = .tuple [.tuple (fs.map En1.d), .tuple (sortD ((s.2 ++ [c]).map cd))] := by show PyData.tuple _ = _; rw [R.e1]
    rw [kt] at tk
    have im := ins_keep (m := "take") r.ko (by decide +kernel) (by decide +kernel)
    have fin := outK_eq (k := k) (b := b) (h := h) (s := s) (t := (s.1, s.2 ++ [c])) (L := L)
    generalize outK k b h s (s.1, s.2 ++ [c]) L = O at tk fin ⊢
    generalize sortD ((s.2 ++ [c]).map cd) = A at tk wi
    simp [b_Keeper_cloud, fl, ck, ec, inr, m, wi, im, tk]
    exact fin
theorem r_uncloud {k b : Nat} {s : St} {L : List D} {c : Str × Int} (r : Kr k b h (kb s) L) (o : Ok3 s) (gc : cloudD (cd c) = true) :
    M.run S.glb S.T (n + 8) f_Keeper_uncloud [.ref k, .dat (.str c.1), .dat (.int c.2)] h = if c ∈ s.2 then outK k b h s (s.1, del s.2 c) L else .exc x_NoCloud h := by
  obtain ⟨fs, ds, R⟩ := o.row
  have fl := fld_now r.ko
  have len := o.len
  have pl := R.q.length_eq
  obtain ⟨g1, g2⟩ := cloud_parts gc
  have ck := check_yes (n := n + 4) (h := h) g1 g2
  have inr := in_rowC gc R.gd.cl
  rw [R.memC] at inr
  have wi := r_withoutC (n := n + 6) (h := h) gc R.gd.cl R.gd.cnd (by omega)
  rw [sort_delC R.q R.r2] at wi
  rw [R.kb] at fl
  have ec : PyData.tuple [PyData.str c.1, .int c.2] = cd c := rfl
  apply eq_okW
  rw [run_Keeper_uncloud]
  apply okW_keep
  by_cases m : c ∈ s.2
  · rw [if_pos m]
    have o2 : Ok3 (s.1, del s.2 c) := Ok3.sub (t := s) (List.Sublist.refl _) del_sub o
    have tk := take_kb (n := n) (h := h) r (t := (s.1, del s.2 c)) o2.gd (by have := o2.len; simp at this; simp; omega)
    have kt : kb (s.1, del s.2 c) = .tuple [.tuple (fs.map En1.d), .tuple (sortD ((del s.2 c).map cd))] := by show PyData.tuple _ = _; rw [R.e1]
    rw [kt] at tk
    have im := ins_keep (m := "take") r.ko (by decide +kernel) (by decide +kernel)
    have fin := outK_eq (k := k) (b := b) (h := h) (s := s) (t := (s.1, del s.2 c)) (L := L)
    generalize outK k b h s (s.1, del s.2 c) L = O at tk fin ⊢
    generalize sortD ((del s.2 c).map cd) = A at tk wi
    simp [b_Keeper_uncloud, fl, ck, ec, inr, m, wi, im, tk]
    exact fin
  · rw [if_neg m]
    simp [b_Keeper_uncloud, fl, ck, ec, inr, m]
/-- a deed taken back -/
def kBack (k b : Nat) (h : Hh) (e : D) (L : List D) : Hh := (h.set b (lst L)).set k (kO e b)
theorem Kr.back {k b : Nat} {d e : D} {L : List D} (r : Kr k b h d (L ++ [e])) : Kr k b (kBack k b h e L) e L := by
  have l1 := (List.getElem?_eq_some_iff.mp r.ko).1
  have l2 := (List.getElem?_eq_some_iff.mp r.bo).1
  refine ⟨?_, ?_, r.ne, by have := r.few; rw [List.length_append] at this; omega⟩
  · unfold kBack
    rw [List.getElem?_set_self (by rw [List.length_set]; exact l1)]
  · unfold kBack
    rw [List.getElem?_set_ne r.ne, List.getElem?_set_self l2]
theorem nil_ref {p : Nat} {l : List D} {o : COp} (e : h[p]? = some (lst l)) : eqW h (.ref p) (.dat (.list [])) = some l.isEmpty := by
  show (match h[p]? with
    | some (.lst l) => some l.isEmpty
    | _ => none) = _
  rw [e]
  show some (l.map W.dat).isEmpty = _
  cases l <;> rfl
theorem pop_ref {p : Nat} {l : List D} {d : D} (e : h[p]? = some (lst (l ++ [d]))) : bmeth .pop0 (.ref p) [] h = .ok (.dat d) (h.set p (lst l)) := by
  show (match h[p]? with
      | some (.lst l) => (match l.getLast? with
        | some w => Res.ok w (h.set p (.lst l.dropLast))
        | none => .bad)
      | _ => .bad) = _
  rw [e]
  have e1 : ((l ++ [d]).map W.dat).getLast? = some (.dat d) := by simp
  have e2 : ((l ++ [d]).map W.dat).dropLast = l.map W.dat := by simp
  show (match ((l ++ [d]).map W.dat).getLast? with
        | some w => Res.ok w (h.set p (.lst ((l ++ [d]).map W.dat).dropLast))
        | none => .bad) = _
  rw [e1, e2]
theorem r_back_no {k b : Nat} {d : D} (r : Kr k b h d []) : M.run S.glb S.T (n + 1) f_Keeper_back [.ref k] h = .exc x_NoBack h := by
  have fb := fld_before r.ko
  have nl := nil_ref (o := .eq) r.bo
  have ce : cmpW .eq (.ref b) (.dat (.list [])) h = some true := nl
  apply get_exc
  rw [run_Keeper_back]
  apply okW_keep
  simp [b_Keeper_back, fb, ce]
theorem r_back {k b : Nat} {d e : D} {L : List D} (r : Kr k b h d (L ++ [e])) : M.run S.glb S.T (n + 1) f_Keeper_back [.ref k] h = .ok (.dat .none) (kBack k b h e L) := by
  have key : okW (M.run S.glb S.T (n + 1) f_Keeper_back [.ref k] h) (fun w h' => w = .dat .none ∧ h' = kBack k b h e L) noE := by
    have fb := fld_before r.ko
    have nl := nil_ref (o := .eq) r.bo
    have ce : cmpW .eq (.ref b) (.dat (.list [])) h = some false := by
      show eqW h (.ref b) (.dat (.list [])) = _
      rw [nl]
      simp
    have ip : bmIs .pop0 (.ref b) h = true := is_lst r.bo
    have pp := pop_ref r.bo
    have st := set_ins (f := "now") (w := .dat e) (h := h.set b (lst L)) (k := k) (c := 0) (fs := [("now", .dat d), ("before", .ref b)]) (by rw [List.getElem?_set_ne (Ne.symm r.ne)]; exact r.ko) (by simp)
    rw [kO_set] at st
    rw [run_Keeper_back]
    apply okW_keep
    simp [b_Keeper_back, fb, ce, ip, pp, st]
    rfl
  obtain ⟨a, h', e, rfl, rfl⟩ := key.get
  exact e
theorem r_book {k b : Nat} {d : D} (e : h[k]? = some (kO d b)) : M.run S.glb S.T (n + 1) f_Keeper_book [.ref k] h = .ok (.dat d) h := by
  have key : okW (M.run S.glb S.T (n + 1) f_Keeper_book [.ref k] h) (fun w h' => w = .dat d ∧ h' = h) noE := by
    have fb := fld_now e
    rw [run_Keeper_book]
    apply okW_keep
    simp [b_Keeper_book, fb]
  obtain ⟨a, h', e, rfl, rfl⟩ := key.get
  exact e
theorem r_init : M.run S.glb S.T (n + 1) f_Keeper_init [.ref h.length] (h ++ [.ins 0 []]) = .ok (.dat .none) (h ++ [kO (kb ([], [])) (h.length + 1), lst []]) := by
  have key : okW (M.run S.glb S.T (n + 1) f_Keeper_init [.ref h.length] (h ++ [.ins 0 []])) (fun w h' => w = .dat .none ∧ h' = h ++ [kO (kb ([], [])) (h.length + 1), lst []]) noE := by
    rw [run_Keeper_init]
    apply okW_keep
    have s1 := set_ins (f := "now") (w := .dat (.tuple [.tuple [], .tuple []])) (h := h ++ [.ins 0 []]) (k := h.length) (c := 0) (fs := []) (by simp) (by simp)
    have s2 := set_ins (f := "before") (w := .ref (h.length + 1)) (h := h ++ [.ins 0 [("now", .dat (.tuple [.tuple [], .tuple []]))], lst []]) (k := h.length) (c := 0) (fs := [("now", .dat (.tuple [.tuple [], .tuple []]))]) (by simp) (by simp)
    have e1 : (h ++ [Ob.ins 0 []]).set h.length (.ins 0 (setF "now" (.dat (.tuple [.tuple [], .tuple []])) [])) = h ++ [.ins 0 [("now", .dat (.tuple [.tuple [], .tuple []]))]] := by
      rw [List.set_append_right _ _ (Nat.le_refl _), Nat.sub_self]
      rfl
    have e2 : (h ++ [Ob.ins 0 [("now", W.dat (.tuple [.tuple [], .tuple []]))], lst []]).set h.length (.ins 0 (setF "before" (.ref (h.length + 1)) [("now", W.dat (.tuple [.tuple [], .tuple []]))])) = h ++ [kO (kb ([], [])) (h.length + 1), lst []] := by
      rw [List.set_append_right _ _ (Nat.le_refl _), Nat.sub_self]
      have ne : ¬ (("now" : Str) = "before") := by decide +kernel
      simp [setF, kO, kb, sortD, ne]
    rw [e1] at s1
    rw [e2] at s2
    have m1 : mkLst true [] (h ++ [Ob.ins 0 [("now", W.dat (.tuple [.tuple [], .tuple []]))]]) = .ok (.ref (h.length + 1)) (h ++ [.ins 0 [("now", .dat (.tuple [.tuple [], .tuple []]))], lst []]) := by
      show Res.ok (W.ref _) _ = _
      simp [lst]
    simp [b_Keeper_init, s1, -mkLst_t, m1, s2]
  obtain ⟨a, h', e, rfl, rfl⟩ := key.get
  exact e
end
end K37
namespace K37
open PySem M
/-! ### errors, by their places -/
section
variable {n : Nat} {h : Hh} {Q : W → Hh → Prop} {E : Nat → Hh → Prop}
def kindsL : List Nat := [2, 3, 12, 11, 7, 8, 13, 14, 4, 1, 5, 6, 9, 10, 15]
theorem only_eq : ∀ c : Fin 16, ∀ k : Fin 15, eqD (.list (kindsL.map fun d => .bool (decide ((c : Nat) = d)))) (.list ((List.range 15).map fun j : Nat => .bool (decide ((j : Int) = ((k : Nat) : Int))))) = some (decide (kindsL[(k : Nat)]? = some (c : Nat))) := by decide +kernel
theorem r_law_only (c k : Nat) (hc : c ≤ 15) (hk : k < 15) : M.run S.glb S.T (n + 1) f_law_only [.exc c, .dat (.int (k : Nat))] h = .ok (.dat (.bool (decide (kindsL[k]? = some c)))) h := by
  have key : okW (M.run S.glb S.T (n + 1) f_law_only [.exc c, .dat (.int (k : Nat))] h) (fun w h' => w = .dat (.bool (decide (kindsL[k]? = some c))) ∧ h' = h) noE := by
    rw [run_law_only]
    apply okW_keep
    have oe := only_eq ⟨c, by omega⟩ ⟨k, hk⟩
    have oe2 : cmpW .eq (.dat (.list (kindsL.map fun d => .bool (decide (c = d))))) (.dat (.list ((List.range 15).map fun j : Nat => .bool (decide ((j : Int) = (k : Int)))))) h = some (decide (kindsL[k]? = some c)) := oe
    have t0 : ∀ d : Nat, 0 < d → tyIs (.exc d) (.exc c) = some (decide (c = d)) := fun d hd => by
      show some (decide (d = 0) || decide (c = d)) = _
      rw [decide_eq_false (by omega)]
      rfl
    have t1 : tyIs (.exc 0) (.exc c) = some true := rfl
    have t2 : tyIs .verr (.exc c) = some true := rfl
    have g2 := t0 2 (by decide)
    have g3 := t0 3 (by decide)
    have g12 := t0 12 (by decide)
    have g11 := t0 11 (by decide)
    have g7 := t0 7 (by decide)
    have g8 := t0 8 (by decide)
    have g13 := t0 13 (by decide)
    have g14 := t0 14 (by decide)
    have g4 := t0 4 (by decide)
    have g1 := t0 1 (by decide)
    have g5 := t0 5 (by decide)
    have g6 := t0 6 (by decide)
    have g9 := t0 9 (by decide)
    have g10 := t0 10 (by decide)
    have g15 := t0 15 (by decide)
    have ok15 : okR 15 = true := by decide
    have rl : rngL 0 15 = (List.range 15).map fun j : Nat => W.dat (.int (j : Int)) := rngL_nat 15
    simp [b_law_only, t_law_only_4, t_law_only_3, t_law_only_2, t_law_only_1, g1, g2, g3, g4, g5, g6, g7, g8, g9, g10, g11, g12, g13, g14, g15, t1, t2, sizeL, ok15, rl]
    rw [compL_map (f := fun j : Nat => W.dat (.int (j : Int))) (g := fun j : Nat => PyData.bool (decide ((j : Int) = (k : Int))))]
    rotate_left
    · intro j _
      simp [e_law_only_0]
    · simp [sizeL]
    simp only [okW_ok, dsOf_map]
    have kl : kindsL.map (fun d => PyData.bool (decide (c = d))) = [.bool (decide (c = 2)), .bool (decide (c = 3)), .bool (decide (c = 12)), .bool (decide (c = 11)), .bool (decide (c = 7)), .bool (decide (c = 8)), .bool (decide (c = 13)), .bool (decide (c = 14)), .bool (decide (c = 4)), .bool (decide (c = 1)), .bool (decide (c = 5)), .bool (decide (c = 6)), .bool (decide (c = 9)), .bool (decide (c = 10)), .bool (decide (c = 15))] := rfl
    rw [kl] at oe2
    rw [oe2]
    simp
    exact (Decidable.em _).symm
  obtain ⟨a, h', e, rfl, rfl⟩ := key.get
  exact e
end
end K37
namespace K37
open PySem M
/-! ### deeds, what is due of them -/
inductive Dd
  | back
  | enter (e : En1)
  | strike (e : En1)
  | cloud (c : Str × Int)
  | uncloud (c : Str × Int)
def Dd.d : Dd → D
  | .back => .tuple [.str "back"]
  | .enter e => .tuple [.str "enter", e.d]
  | .strike e => .tuple [.str "strike", e.d]
  | .cloud c => .tuple [.str "cloud", .str c.1, .int c.2]
  | .uncloud c => .tuple [.str "uncloud", .str c.1, .int c.2]
/-- of good entries, good clouds -/
def Dd.Ok : Dd → Prop
  | .back => True
  | .enter e => entryD e.d = true ∧ okAll e.d
  | .strike e => entryD e.d = true ∧ okAll e.d
  | .cloud c => cloudD (cd c) = true
  | .uncloud c => cloudD (cd c) = true
/-- the state that comes of it -/
def Dd.to (s : St) : Dd → St
  | .back => s
  | .enter e => (s.1 ++ [e], s.2)
  | .strike e => (del s.1 e, s.2)
  | .cloud c => (s.1, s.2 ++ [c])
  | .uncloud c => (s.1, del s.2 c)
/-- the error due -/
def Dd.due (s : St) (L : List St) : Dd → Option Nat
  | .back => if L.isEmpty then some x_NoBack else none
  | .enter e => if e ∈ s.1 then some x_NoEntry else if lawB (s.1 ++ [e]) s.2 = true then none else some x_NoJoin
  | .strike e => if e ∈ s.1 then none else some x_NoEntry
  | .cloud c => if c ∈ s.2 then some x_NoCloud else if lawB s.1 (s.2 ++ [c]) = true then none else some x_NoJoin
  | .uncloud c => if c ∈ s.2 then none else some x_NoCloud
def placeX (c : Nat) : Int := ((kindsL.findIdx fun d => decide (d = c) : Nat) : Int)
def dueD : Option Nat → D
  | none => .none
  | some c => .list [.int (placeX c)]
/-- the state and the row of those ahead behind a deed that is let -/
def Dd.nxt (s : St) (L : List St) : Dd → St × List St
  | .back => (L.getLast?.getD s, L.dropLast)
  | d => (d.to s, L ++ [s])
theorem Dd.to_ok {s : St} {L : List St} {d : Dd} (o : Ok3 s) (g : d.Ok) (h : d.due s L = none) : Ok3 (d.to s) := by
  cases d with
  | back => exact o
  | enter e =>
    have h : (if e ∈ s.1 then some x_NoEntry else if lawB (s.1 ++ [e]) s.2 = true then none else some x_NoJoin) = none := h
    by_cases c : e ∈ s.1
    · rw [if_pos c] at h; cases h
    · rw [if_neg c] at h
      by_cases c2 : lawB (s.1 ++ [e]) s.2 = true
      · exact ⟨o.gd.addE g c, c2⟩
      · rw [if_neg c2] at h; cases h
  | strike e => exact Ok3.sub (t := s) del_sub (List.Sublist.refl _) o
  | cloud e =>
    have h : (if e ∈ s.2 then some x_NoCloud else if lawB s.1 (s.2 ++ [e]) = true then none else some x_NoJoin) = none := h
    by_cases c : e ∈ s.2
    · rw [if_pos c] at h; cases h
    · rw [if_neg c] at h
      by_cases c2 : lawB s.1 (s.2 ++ [e]) = true
      · exact ⟨o.gd.addC g c, c2⟩
      · rw [if_neg c2] at h; cases h
  | uncloud e => exact Ok3.sub (t := s) (List.Sublist.refl _) del_sub o
section
variable {n : Nat} {h : Hh} {Q : W → Hh → Prop} {E : Nat → Hh → Prop}
theorem w_back : (("back" : Str) = "enter") = False ∧ (("back" : Str) = "strike") = False ∧ (("back" : Str) = "cloud") = False ∧ (("back" : Str) = "uncloud") = False := by
  refine ⟨?_, ?_, ?_, ?_⟩ <;> exact eq_false (by decide +kernel)
theorem w_enter : (("enter" : Str) = "back") = False ∧ (("enter" : Str) = "strike") = False ∧ (("enter" : Str) = "cloud") = False ∧ (("enter" : Str) = "uncloud") = False := by
  refine ⟨?_, ?_, ?_, ?_⟩ <;> exact eq_false (by decide +kernel)
theorem w_strike : (("strike" : Str) = "enter") = False ∧ (("strike" : Str) = "back") = False ∧ (("strike" : Str) = "cloud") = False ∧ (("strike" : Str) = "uncloud") = False := by
  refine ⟨?_, ?_, ?_, ?_⟩ <;> exact eq_false (by decide +kernel)
theorem w_cloud : (("cloud" : Str) = "enter") = False ∧ (("cloud" : Str) = "strike") = False ∧ (("cloud" : Str) = "back") = False ∧ (("cloud" : Str) = "uncloud") = False := by
  refine ⟨?_, ?_, ?_, ?_⟩ <;> exact eq_false (by decide +kernel)
theorem w_uncloud : (("uncloud" : Str) = "enter") = False ∧ (("uncloud" : Str) = "strike") = False ∧ (("uncloud" : Str) = "cloud") = False ∧ (("uncloud" : Str) = "back") = False := by
  refine ⟨?_, ?_, ?_, ?_⟩ <;> exact eq_false (by decide +kernel)
theorem cut_1 (a : D) (l : List D) : cutL (a :: l) (some 1) none = l := cut_from (a :: l) 1
theorem r_law_due {a : Nat} {s : St} {L : List St} {d : Dd} (o : Ok3 s) (g : d.Ok) (ea : h[a]? = some (lst (L.map sd))) :
    M.run S.glb S.T (n + 3) f_law_due [.dat (sd s), .ref a, .dat d.d] h = .ok (.dat (dueD (d.due s L))) h := by
  have key : okW (M.run S.glb S.T (n + 3) f_law_due [.dat (sd s), .ref a, .dat d.d] h) (fun w h' => w = .dat (dueD (d.due s L)) ∧ h' = h) noE := by
    rw [run_law_due]
    apply okW_keep
    have len := o.len
    have es : sd s = .list [.list (s.1.map En1.d), .list (s.2.map cd)] := rfl
    cases d with
    | back =>
      have ce : cmpW .eq (.ref a) (.dat (.list [])) h = some L.isEmpty := by
        have z : cmpW .eq (.ref a) (.dat (.list [])) h = some (L.map sd).isEmpty := nil_ref (o := .eq) ea
        rw [z]
        cases L <;> rfl
      cases c : L.isEmpty with
      | true =>
        rw [c] at ce
        simp [b_law_due, es, Dd.d, t_law_due_5, ce, Dd.due, c]
        rfl
      | false =>
        rw [c] at ce
        simp [b_law_due, es, Dd.d, t_law_due_5, ce, Dd.due, c]
        rfl
    | enter e =>
      obtain ⟨w1, w2, w3, w4⟩ := w_enter
      have inr := in_row g o.gd.en
      have s1 : s.1.length + 1 ≤ sizeL := by simp only [sizeL]; omega
      by_cases c : e ∈ s.1
      · simp [b_law_due, es, Dd.d, t_law_due_5, t_law_due_4, w1, inr, c, Dd.due]
        rfl
      · have jo := r_law_joins (n := n) (h := h) (s.1 ++ [e]) (by simp; omega) (fun f m => (List.mem_append.mp m).elim (fun m => (o.gd.en f m).1) fun m => List.mem_singleton.mp m ▸ g.1) (sky_L o.gd.cl)
        rw [List.map_append] at jo
        simp at jo
        cases c2 : lawB (s.1 ++ [e]) s.2 with
        | true =>
          rw [c2] at jo
          simp [b_law_due, es, Dd.d, t_law_due_5, t_law_due_4, w1, inr, c, Dd.due, s1, jo, c2]
          rfl
        | false =>
          rw [c2] at jo
          simp [b_law_due, es, Dd.d, t_law_due_5, t_law_due_4, w1, inr, c, Dd.due, s1, jo, c2]
          rfl
    | strike e =>
      obtain ⟨w1, w2, w3, w4⟩ := w_strike
      have inr := in_row g o.gd.en
      by_cases c : e ∈ s.1
      · simp [b_law_due, es, Dd.d, t_law_due_5, t_law_due_4, t_law_due_3, w1, w2, inr, c, Dd.due]
        rfl
      · simp [b_law_due, es, Dd.d, t_law_due_5, t_law_due_4, t_law_due_3, w1, w2, inr, c, Dd.due]
        rfl
    | cloud c =>
      obtain ⟨w1, w2, w3, w4⟩ := w_cloud
      have inr := in_rowC g o.gd.cl
      have s1 : s.2.length + 1 ≤ sizeL := by simp only [sizeL]; omega
      have ec : PyData.tuple [PyData.str c.1, .int c.2] = cd c := rfl
      by_cases m : c ∈ s.2
      · simp [b_law_due, es, Dd.d, t_law_due_5, t_law_due_4, t_law_due_3, t_law_due_2, w1, w2, w3, cut_1, ec, inr, m, Dd.due]
        rfl
      · have jo := r_law_joins (n := n) (h := h) s.1 (by omega) (fun f m => (o.gd.en f m).1) (sky_L (cs := s.2 ++ [c]) fun f m => (List.mem_append.mp m).elim (fun m => o.gd.cl f m) fun m => List.mem_singleton.mp m ▸ g)
        rw [List.map_append] at jo
        simp at jo
        cases c2 : lawB s.1 (s.2 ++ [c]) with
        | true =>
          rw [c2] at jo
          simp [b_law_due, es, Dd.d, t_law_due_5, t_law_due_4, t_law_due_3, t_law_due_2, t_law_due_1, t_law_due_0, w1, w2, w3, cut_1, ec, inr, m, Dd.due, s1, jo, c2]
          rfl
        | false =>
          rw [c2] at jo
          simp [b_law_due, es, Dd.d, t_law_due_5, t_law_due_4, t_law_due_3, t_law_due_2, t_law_due_1, t_law_due_0, w1, w2, w3, cut_1, ec, inr, m, Dd.due, s1, jo, c2]
          rfl
    | uncloud c =>
      obtain ⟨w1, w2, w3, w4⟩ := w_uncloud
      have inr := in_rowC g o.gd.cl
      have ec : PyData.tuple [PyData.str c.1, .int c.2] = cd c := rfl
      by_cases m : c ∈ s.2
      · simp [b_law_due, es, Dd.d, t_law_due_5, t_law_due_4, t_law_due_3, t_law_due_2, t_law_due_1, t_law_due_0, w1, w2, w3, w4, cut_1, ec, inr, m, Dd.due]
        rfl
      · simp [b_law_due, es, Dd.d, t_law_due_5, t_law_due_4, t_law_due_3, t_law_due_2, t_law_due_1, t_law_due_0, w1, w2, w3, w4, cut_1, ec, inr, m, Dd.due]
        rfl
  obtain ⟨a, h', e, rfl, rfl⟩ := key.get
  exact e
end
end K37
namespace K37
open PySem M
/-! ### a keeper asked -/
section
variable {n : Nat} {h : Hh} {Q : W → Hh → Prop} {E : Nat → Hh → Prop}
/-- the heap behind a deed that is let -/
def kNx (k b : Nat) (h : Hh) (s : St) (L : List St) (d : Dd) : Hh := match d with
  | .back => kBack k b h (kb (L.getLast?.getD s)) (L.dropLast.map kb)
  | d => kUp k b h (kb s) (kb (d.to s)) (L.map kb)
def kAf (k b : Nat) (h : Hh) (s : St) (L : List St) (d : Dd) : Hh := match d.due s L with
  | none => kNx k b h s L d
  | some _ => h
theorem due_place (c : Nat) (c1 : 1 ≤ c) (c2 : c ≤ 15) : ((List.range 15).filterMap fun j : Nat => if kindsL[j]? = some c then some (PyData.int (j : Int)) else none) = [.int (placeX c)] := by
  match c, c1, c2 with
  | 0, h, _ => omega
  | 1, _, _ => rfl
  | 2, _, _ => rfl
  | 3, _, _ => rfl
  | 4, _, _ => rfl
  | 5, _, _ => rfl
  | 6, _, _ => rfl
  | 7, _, _ => rfl
  | 8, _, _ => rfl
  | 9, _, _ => rfl
  | 10, _, _ => rfl
  | 11, _, _ => rfl
  | 12, _, _ => rfl
  | 13, _, _ => rfl
  | 14, _, _ => rfl
  | 15, _, _ => rfl
  | c + 16, _, h => omega
theorem asked_exc (c : Nat) (c1 : 1 ≤ c) (c2 : c ≤ 15) (z0 z1 z3 : Option W) {N : En → Hh → Prop} {X : Nat → En → Hh → Prop} (q : Q (.dat (.list [.int (placeX c)])) h) : okS (exs (cc (n + 1)) t_law_asked_3 [z0, z1, some (.exc c), z3, none] h) N Q X := by
  have i0 : cmpW .is (.exc c) (.dat .none) h = some false := rfl
  have ok15 : okR 15 = true := by decide
  have rl : rngL 0 15 = (List.range 15).map fun j : Nat => W.dat (.int (j : Int)) := rngL_nat 15
  simp [t_law_asked_3, i0, t_law_asked_2, ok15, rl]
  rw [compL_opt (fun j : Nat => W.dat (.int (j : Int))) (fun j : Nat => if kindsL[j]? = some c then some (PyData.int (j : Int)) else none)]
  rotate_left
  · intro j hj
    have lj : j < 15 := List.mem_range.mp hj
    have on := r_law_only (n := n) (h := h) c j c2 lj
    by_cases k : kindsL[j]? = some c
    · simp [g_law_asked_0, e_law_asked_1, on, k]
    · simp [g_law_asked_0, e_law_asked_1, on, k]
  · simp [sizeL]
  have dp : ((List.range 15).filterMap fun j : Nat => if kindsL[j]? = some c then some (PyData.int (j : Int)) else none) = [.int (placeX c)] := due_place c c1 c2
  simp only [okW_ok, dsOf_map, dp]
  have cu : cutL [PyData.int (placeX c)] none (some 1) = [.int (placeX c)] := rfl
  simp [cu]
  exact q
theorem asked_none (z0 z1 z3 z4 : Option W) {N : En → Hh → Prop} {X : Nat → En → Hh → Prop} (q : Q (.dat .none) h) : okS (exs (cc n) t_law_asked_3 [z0, z1, some (.dat .none), z3, z4] h) N Q X := by
  have i0 : cmpW .is (.dat .none) (.dat .none) h = some true := rfl
  simp [t_law_asked_3, i0]
  exact q
theorem subX0 (c : Nat) : subX c 0 = true := rfl
theorem r_law_asked {k b : Nat} {s : St} {L : List St} {d : Dd} (r : Kr k b h (kb s) (L.map kb)) (o : Ok3 s) (g : d.Ok) :
    M.run S.glb S.T (n + 9) f_law_asked [.ref k, .dat d.d] h = .ok (.dat (dueD (d.due s L))) (kAf k b h s L d) := by
  have key : okW (M.run S.glb S.T (n + 9) f_law_asked [.ref k, .dat d.d] h) (fun w h' => w = .dat (dueD (d.due s L)) ∧ h' = kAf k b h s L d) noE := by
    rw [run_law_asked]
    apply okW_keep
    have ty := fun (h : Hh) (z : Option W) => asked_none (n := n + 8) (h := h) (Q := fun w h' => w = .dat (dueD none) ∧ h' = h) (N := fun _ _ => False) (X := fun _ _ _ => False) (some (.ref k)) (some (.dat d.d)) none z ⟨rfl, rfl⟩
    have tx := fun (c : Nat) (c1 : 1 ≤ c) (c2 : c ≤ 15) => asked_exc (n := n + 7) (h := h) (Q := fun w h' => w = .dat (dueD (some c)) ∧ h' = h) (N := fun _ _ => False) (X := fun _ _ _ => False) c c1 c2 (some (.ref k)) (some (.dat d.d)) none ⟨rfl, rfl⟩
    cases d with
    | back =>
      obtain ⟨w1, w2, w3, w4⟩ := w_back
      have im := ins_keep (m := "back") r.ko (by decide +kernel) (by decide +kernel)
      rcases List.eq_nil_or_concat L with e | ⟨L', l, e⟩
      · subst e
        have rb := r_back_no (n := n + 7) r
        have af : kAf k b h s [] .back = h := rfl
        rw [af]
        simp [b_law_asked, Dd.d, t_law_asked_4, w1, w2, w3, w4, im, rb, subX0]
        exact (tx x_NoBack (by decide) (by decide)).imp (fun _ _ z => z.elim) (fun _ _ z => z) fun _ _ _ z => z.elim
      · rw [List.concat_eq_append] at e
        subst e
        rw [List.map_append] at r
        have rb := r_back (n := n + 7) (e := kb l) (L := L'.map kb) r
        have du : Dd.due s (L' ++ [l]) .back = none := by
          show (if (L' ++ [l]).isEmpty = true then _ else _) = _
          rw [if_neg (by simp)]
        have af : kAf k b h s (L' ++ [l]) .back = kBack k b h (kb l) (L'.map kb) := by
          unfold kAf
          rw [du]
          show kBack k b h (kb ((L' ++ [l]).getLast?.getD s)) ((L' ++ [l]).dropLast.map kb) = _
          rw [List.getLast?_concat, List.dropLast_concat]
          rfl
        rw [af, du]
        simp [b_law_asked, Dd.d, t_law_asked_4, w1, w2, w3, w4, im, rb, subX0]
        exact (ty _ _).imp (fun _ _ z => z.elim) (fun _ _ z => z) fun _ _ _ z => z.elim
    | enter e =>
      obtain ⟨w1, w2, w3, w4⟩ := w_enter
      have im := ins_keep (m := "enter") r.ko (by decide +kernel) (by decide +kernel)
      have rr := r_enter (n := n) r o g
      have du : Dd.due s L (.enter e) = if e ∈ s.1 then some x_NoEntry else if lawB (s.1 ++ [e]) s.2 = true then none else some x_NoJoin := rfl
      unfold outK at rr
      by_cases c : e ∈ s.1
      · rw [if_pos c] at rr du
        have af : kAf k b h s L (.enter e) = h := by unfold kAf; rw [du]
        rw [af, du]
        simp [b_law_asked, Dd.d, t_law_asked_4, im, rr, subX0]
        exact (tx x_NoEntry (by decide) (by decide)).imp (fun _ _ z => z.elim) (fun _ _ z => z) fun _ _ _ z => z.elim
      · rw [if_neg c] at rr du
        by_cases c2 : lawB (s.1 ++ [e]) s.2 = true
        · rw [if_pos c2] at rr du
          have af : kAf k b h s L (.enter e) = kUp k b h (kb s) (kb (s.1 ++ [e], s.2)) (L.map kb) := by unfold kAf; rw [du]; rfl
          rw [af, du]
          simp [b_law_asked, Dd.d, t_law_asked_4, im, rr, subX0]
          exact (ty _ _).imp (fun _ _ z => z.elim) (fun _ _ z => z) fun _ _ _ z => z.elim
        · rw [if_neg c2] at rr du
          have af : kAf k b h s L (.enter e) = h := by unfold kAf; rw [du]
          rw [af, du]
          simp [b_law_asked, Dd.d, t_law_asked_4, im, rr, subX0]
          exact (tx x_NoJoin (by decide) (by decide)).imp (fun _ _ z => z.elim) (fun _ _ z => z) fun _ _ _ z => z.elim
    | strike e =>
      obtain ⟨w1, w2, w3, w4⟩ := w_strike
      have im := ins_keep (m := "strike") r.ko (by decide +kernel) (by decide +kernel)
      have rr := r_strike (n := n) r o g
      have du : Dd.due s L (.strike e) = if e ∈ s.1 then none else some x_NoEntry := rfl
      have o2 : lawB (del s.1 e) s.2 = true := (Ok3.sub (s := (del s.1 e, s.2)) (t := s) del_sub (List.Sublist.refl _) o).law
      unfold outK at rr
      by_cases c : e ∈ s.1
      · rw [if_pos c, if_pos o2] at rr
        rw [if_pos c] at du
        have af : kAf k b h s L (.strike e) = kUp k b h (kb s) (kb (del s.1 e, s.2)) (L.map kb) := by unfold kAf; rw [du]; rfl
        rw [af, du]
        simp [b_law_asked, Dd.d, t_law_asked_4, w1, im, rr, subX0]
        exact (ty _ _).imp (fun _ _ z => z.elim) (fun _ _ z => z) fun _ _ _ z => z.elim
      · rw [if_neg c] at rr du
        have af : kAf k b h s L (.strike e) = h := by unfold kAf; rw [du]
        rw [af, du]
        simp [b_law_asked, Dd.d, t_law_asked_4, w1, im, rr, subX0]
        exact (tx x_NoEntry (by decide) (by decide)).imp (fun _ _ z => z.elim) (fun _ _ z => z) fun _ _ _ z => z.elim
    | cloud e =>
      obtain ⟨w1, w2, w3, w4⟩ := w_cloud
      have im := ins_keep (m := "cloud") r.ko (by decide +kernel) (by decide +kernel)
      have rr := r_cloud (n := n) r o g
      have du : Dd.due s L (.cloud e) = if e ∈ s.2 then some x_NoCloud else if lawB s.1 (s.2 ++ [e]) = true then none else some x_NoJoin := rfl
      unfold outK at rr
      by_cases c : e ∈ s.2
      · rw [if_pos c] at rr du
        have af : kAf k b h s L (.cloud e) = h := by unfold kAf; rw [du]
        rw [af, du]
        simp [b_law_asked, Dd.d, t_law_asked_4, w1, w2, im, rr, subX0]
        exact (tx x_NoCloud (by decide) (by decide)).imp (fun _ _ z => z.elim) (fun _ _ z => z) fun _ _ _ z => z.elim
      · rw [if_neg c] at rr du
        by_cases c2 : lawB s.1 (s.2 ++ [e]) = true
        · rw [if_pos c2] at rr du
          have af : kAf k b h s L (.cloud e) = kUp k b h (kb s) (kb (s.1, s.2 ++ [e])) (L.map kb) := by unfold kAf; rw [du]; rfl
          rw [af, du]
          simp [b_law_asked, Dd.d, t_law_asked_4, w1, w2, im, rr, subX0]
          exact (ty _ _).imp (fun _ _ z => z.elim) (fun _ _ z => z) fun _ _ _ z => z.elim
        · rw [if_neg c2] at rr du
          have af : kAf k b h s L (.cloud e) = h := by unfold kAf; rw [du]
          rw [af, du]
          simp [b_law_asked, Dd.d, t_law_asked_4, w1, w2, im, rr, subX0]
          exact (tx x_NoJoin (by decide) (by decide)).imp (fun _ _ z => z.elim) (fun _ _ z => z) fun _ _ _ z => z.elim
    | uncloud e =>
      obtain ⟨w1, w2, w3, w4⟩ := w_uncloud
      have im := ins_keep (m := "uncloud") r.ko (by decide +kernel) (by decide +kernel)
      have rr := r_uncloud (n := n) r o g
      have du : Dd.due s L (.uncloud e) = if e ∈ s.2 then none else some x_NoCloud := rfl
      have o2 : lawB s.1 (del s.2 e) = true := (Ok3.sub (s := (s.1, del s.2 e)) (t := s) (List.Sublist.refl _) del_sub o).law
      unfold outK at rr
      by_cases c : e ∈ s.2
      · rw [if_pos c, if_pos o2] at rr
        rw [if_pos c] at du
        have af : kAf k b h s L (.uncloud e) = kUp k b h (kb s) (kb (s.1, del s.2 e)) (L.map kb) := by unfold kAf; rw [du]; rfl
        rw [af, du]
        simp [b_law_asked, Dd.d, t_law_asked_4, w1, w2, w3, im, rr, subX0]
        exact (ty _ _).imp (fun _ _ z => z.elim) (fun _ _ z => z) fun _ _ _ z => z.elim
      · rw [if_neg c] at rr du
        have af : kAf k b h s L (.uncloud e) = h := by unfold kAf; rw [du]
        rw [af, du]
        simp [b_law_asked, Dd.d, t_law_asked_4, w1, w2, w3, im, rr, subX0]
        exact (tx x_NoCloud (by decide) (by decide)).imp (fun _ _ z => z.elim) (fun _ _ z => z) fun _ _ _ z => z.elim
  obtain ⟨a, h', e, rfl, rfl⟩ := key.get
  exact e
end
end K37
namespace K37
open PySem M
/-! ### the law's own deeds -/
section
variable {n : Nat} {g h : Hh} {Q : W → Hh → Prop} {E : Nat → Hh → Prop}
/-- data, or two lists that were made here, handed out -/
theorem okW_frz2 {n : Nat} {r : SR} (o : okS r (fun _ _ => False) (fun w h => closedB (h.take n) = true ∧ ((∃ d, w = .dat d ∧ Q (.dat d) (h.take n)) ∨ ∃ k i j A B, w = .ref k ∧ n ≤ k ∧ h[k]? = some (.lst [.ref i, .ref j]) ∧ n ≤ i ∧ n ≤ j ∧ h[i]? = some (lst A) ∧ h[j]? = some (lst B) ∧ Q (.dat (.list [.list A, .list B])) (h.take n))) (fun _ _ _ => False)) : okW (finish false n r) Q E := by
  cases r with
  | nxt e h => exact o.elim
  | exc c e h => exact o.elim
  | bad => exact o
  | ret w h =>
    obtain ⟨cl, o⟩ := o
    rcases o with ⟨d, rfl, q⟩ | ⟨k, i, j, A, B, rfl, hk, e, hi, hj, ei, ej, q⟩
    · show okW (if closedB (h.take n) = true then .ok (.dat d) (h.take n) else .bad) Q E
      rw [if_pos cl]
      exact q
    · show okW (match h[k]? with
      | some (.lst l) => (match dsOf l with
        | some ds => if (decide (n ≤ k) && closedB (h.take n)) = true then .ok (.dat (.list ds)) (h.take n) else .bad
        | none => (match frzL h n l with
          | some ds => if (decide (n ≤ k) && closedB (h.take n)) = true then .ok (.dat (.list ds)) (h.take n) else .bad
          | none => .bad))
      | _ => .bad) Q E
      rw [e]
      have f : ∀ {i : Nat} {A : List D}, n ≤ i → h[i]? = some (lst A) → frzW h n (.ref i) = some (.list A) := fun {i A} hi ei => by
        show (match h[i]? with
          | some (.lst l) => if n ≤ i then (dsOf l).map PyData.list else none
          | _ => none) = _
        rw [ei]
        show (if n ≤ i then (dsOf (A.map W.dat)).map PyData.list else none) = _
        rw [if_pos hi, dsOf_map]
        rfl
      have fz : frzL h n [.ref i, .ref j] = some [.list A, .list B] := by
        unfold frzL frzL frzL
        rw [f hi ei, f hj ej]
      show okW (match frzL h n [.ref i, .ref j] with
          | some ds => if (decide (n ≤ k) && closedB (h.take n)) = true then .ok (.dat (.list ds)) (h.take n) else .bad
          | none => .bad) Q E
      rw [fz]
      show okW (if (decide (n ≤ k) && closedB (h.take n)) = true then .ok (.dat (.list [.list A, .list B])) (h.take n) else .bad) Q E
      rw [if_pos (by rw [decide_eq_true hk, cl]; rfl)]
      exact q
theorem del_place {α : Type} [DecidableEq α] (f : α → D) (hf : ∀ x y, PyData.eqv (f x) (f y) = decide (x = y)) {l : List α} {x : α} (m : x ∈ l) : ∃ j, (l.map f).findIdx? (fun y => PyData.eqv y (f x)) = some j ∧ (l.map f).eraseIdx j = (del l x).map f := by
  have e1 : (l.map f).eraseP (fun y => PyData.eqv y (f x)) = (del l x).map f := by
    rw [List.eraseP_map]
    unfold del
    rw [List.erase_eq_eraseP]
    congr 2
    funext y
    show PyData.eqv (f y) (f x) = (x == y)
    rw [hf, Bool.eq_iff_iff]
    simp
    exact eq_comm
  have e2 := List.eraseP_eq_eraseIdx (xs := l.map f) (p := fun y => PyData.eqv y (f x))
  cases c : (l.map f).findIdx? (fun y => PyData.eqv y (f x)) with
  | none =>
    have z := List.findIdx?_eq_none_iff.mp c (f x) (List.mem_map.mpr ⟨x, m, rfl⟩)
    rw [hf] at z
    simp at z
  | some j =>
    rw [c] at e2
    exact ⟨j, rfl, e2.symm.trans e1⟩
theorem er_map {α β : Type} (f : α → β) : ∀ (l : List α) (j : Nat), (l.map f).eraseIdx j = (l.eraseIdx j).map f
  | [], j => by cases j <;> rfl
  | a :: l, 0 => rfl
  | a :: l, j + 1 => by
    show f a :: (l.map f).eraseIdx j = f a :: (l.eraseIdx j).map f
    rw [er_map f l j]
theorem rem_ref {p : Nat} {l : List D} {d : D} {j : Nat} (e : h[p]? = some (lst l)) (q : placeD l d = some j) : bmeth .remove (.ref p) [.dat d] h = .ok (.dat .none) (h.set p (lst (l.eraseIdx j))) := by
  show (match h[p]? with
      | some (.lst l) => (match dsOf l with
        | some ds => (match placeD ds d with
          | some j => Res.ok (W.dat .none) (h.set p (.lst (l.eraseIdx j)))
          | none => .bad)
        | none => .bad)
      | _ => .bad) = _
  rw [e]
  show (match dsOf (l.map W.dat) with
        | some ds => (match placeD ds d with
          | some j => Res.ok (W.dat .none) (h.set p (.lst ((l.map W.dat).eraseIdx j)))
          | none => .bad)
        | none => .bad) = _
  rw [dsOf_map]
  dsimp only
  rw [q]
  show Res.ok (W.dat .none) (h.set p (.lst ((l.map W.dat).eraseIdx j))) = .ok (.dat .none) (h.set p (.lst ((l.eraseIdx j).map W.dat)))
  rw [er_map]
theorem en_eqvD (x y : En1) : PyData.eqv x.d y.d = decide (x = y) := by
  rw [Bool.eq_iff_iff, decide_eq_true_iff]
  exact ⟨en_eqv, fun z => z ▸ en_eqv_self x⟩
theorem shp_ens {es : List En1} (ok : ∀ f ∈ es, entryD f.d = true ∧ okAll f.d) : shp (.list (es.map En1.d)) = true := shp_list (k := 11) (by decide) fun d m => by
  obtain ⟨f, hf, rfl⟩ := List.mem_map.mp m
  exact en_shp (ok f hf).2
theorem shp_cds {cs : List (Str × Int)} (ok : ∀ f ∈ cs, cloudD (cd f) = true) : shp (.list (cs.map cd)) = true := shp_list (k := 10) (by decide) fun d m => by
  obtain ⟨f, hf, rfl⟩ := List.mem_map.mp m
  exact cloud_lay (ok f hf)
theorem placeE {es : List En1} {e : En1} (ok : ∀ f ∈ es, entryD f.d = true ∧ okAll f.d) (m : e ∈ es) : ∃ j, placeD (es.map En1.d) e.d = some j ∧ (es.map En1.d).eraseIdx j = (del es e).map En1.d := by
  obtain ⟨j, a, b⟩ := del_place En1.d en_eqvD m
  exact ⟨j, by unfold placeD; rw [good_en (ok e m), shp_ens ok]; exact a, b⟩
theorem placeC {cs : List (Str × Int)} {c : Str × Int} (ok : ∀ f ∈ cs, cloudD (cd f) = true) (m : c ∈ cs) : ∃ j, placeD (cs.map cd) (cd c) = some j ∧ (cs.map cd).eraseIdx j = (del cs c).map cd := by
  obtain ⟨j, a, b⟩ := del_place cd cd_eqv m
  exact ⟨j, by unfold placeD; rw [good_cd (ok c m), shp_cds ok]; exact a, b⟩
/-- the book stands, as it is told -/
theorem kb_shp {s : St} (o : Ok3 s) : (kb s).canLay0 = true ∧ shp (kb s) = true := by
  obtain ⟨fs, ds, R⟩ := o.row
  rw [R.kb]
  have z1 := shp_all (k := 11) (l := fs.map En1.d) fun d m => by
    obtain ⟨f, hf, rfl⟩ := List.mem_map.mp m
    exact en_shp (R.gd.en f hf).2
  have z2 := shp_all (k := 10) (l := ds.map cd) fun d m => by
    obtain ⟨f, hf, rfl⟩ := List.mem_map.mp m
    exact cloud_lay (R.gd.cl f hf)
  have l : (PyData.tuple [.tuple (fs.map En1.d), .tuple (ds.map cd)]).canLay0 = true := by
    simp [PyData.canLay0, PyData.canLayAll0, z1.1, z2.1]
  refine ⟨l, shp_of (k := 13) (by decide) ⟨l, ?_⟩⟩
  simp [PyData.depth, PyData.depthAll]
  omega
theorem r_law_stands {k b : Nat} {s : St} (e : h[k]? = some (kO (kb s) b)) (o : Ok3 s) : M.run S.glb S.T (n + 2) f_law_stands [.ref k, .dat (sd s)] h = .ok (.dat (.bool true)) h := by
  have key : okW (M.run S.glb S.T (n + 2) f_law_stands [.ref k, .dat (sd s)] h) (fun w h' => w = .dat (.bool true) ∧ h' = h) noE := by
    rw [run_law_stands]
    apply okW_keep
    have rb := r_book (n := n) e
    have im := ins_keep (m := "book") e (by decide +kernel) (by decide +kernel)
    have es : sd s = .list [.list (s.1.map En1.d), .list (s.2.map cd)] := rfl
    have s1 := sort_ens fun f m => (o.gd.en f m).2
    have s2 := sort_cds o.gd.cl
    have ek : kb s = .tuple [.tuple (sortD (s.1.map En1.d)), .tuple (sortD (s.2.map cd))] := rfl
    have ce : cmpW .eq (.dat (kb s)) (.dat (kb s)) h = some true := by
      obtain ⟨l, sh⟩ := kb_shp o
      show eqD (kb s) (kb s) = some true
      rw [ek] at sh l ⊢
      show (if shp _ && shp _ then some (PyData.eqv _ _) else eq0 _ _) = _
      rw [sh, PySem.SeqAt.eqv_refl _ l]
      rfl
    have e1 := mkLst_map (h := h) (sortD (s.1.map En1.d))
    have e2 := mkLst_map (h := h) (sortD (s.2.map cd))
    rw [ek] at rb ce
    simp [b_law_stands, im, rb, es, s1, s2, -mkLst_f, e1, e2, ce]
  obtain ⟨a, h', e, rfl, rfl⟩ := key.get
  exact e
end
end K37
namespace K37
open PySem M
/-! ### the law's own deeds, done -/
section
variable {n : Nat} {g h : Hh} {Q : W → Hh → Prop} {E : Nat → Hh → Prop}
/-- four objects made here -/
def four (G : Hh) (A B : List D) (P : List Ob) : Hh := G ++ lst A :: lst B :: P
theorem four_0 {G : Hh} {A B : List D} {P : List Ob} : (four G A B P)[G.length]? = some (lst A) := by simp [four]
theorem four_1 {G : Hh} {A B : List D} {P : List Ob} : (four G A B P)[G.length + 1]? = some (lst B) := by simp [four]
theorem four_s0 {G : Hh} {A A' B : List D} {P : List Ob} : (four G A B P).set G.length (lst A') = four G A' B P := by simp [four]
theorem four_s1 {G : Hh} {A B B' : List D} {P : List Ob} : (four G A B P).set (G.length + 1) (lst B') = four G A B' P := by
  unfold four
  rw [List.set_append_right _ _ (by omega), show G.length + 1 - G.length = 1 by omega]
  rfl
theorem four_t {G : Hh} {A B : List D} {P : List Ob} : (four G A B P).take G.length = G := by simp [four]
theorem four_2 {G : Hh} {A B : List D} {o : Ob} {P : List Ob} : (four G A B (o :: P))[G.length + 2]? = some o := by simp [four]
theorem sd_0 {s : St} : index (.dat (sd s)) (.dat (.int 0)) h = .ok (.dat (.list (s.1.map En1.d))) h := rfl
theorem sd_1 {s : St} : index (.dat (sd s)) (.dat (.int 1)) h = .ok (.dat (.list (s.2.map cd))) h := rfl
theorem bl_f (l : List D) : builtin .list false [.dat (.list l)] h = .ok (.dat (.list l)) h := mkLst_map l
theorem does_2 {G : Hh} {s : St} {z1 z2 z3 z4 : Option W} {N : En → Hh → Prop} {R : W → Hh → Prop} {X : Nat → En → Hh → Prop}
    (q : okS (exs (cc n) t_law_does_1 [some (.dat (sd s)), z1, z2, some (.ref G.length), some (.ref (G.length + 1))] (four G (s.1.map En1.d) (s.2.map cd) [.lst [.ref G.length, .ref (G.length + 1)]])) N R X) :
    okS (exs (cc n) t_law_does_2 [some (.dat (sd s)), z1, z2, z3, z4] G) N R X := by
  have l1 : builtin .list true [.dat (.list (s.1.map En1.d))] G = .ok (.ref G.length) (G ++ [lst (s.1.map En1.d)]) := rfl
  have l2 : builtin .list true [.dat (.list (s.2.map cd))] (G ++ [lst (s.1.map En1.d)]) = .ok (.ref (G.length + 1)) (G ++ [lst (s.1.map En1.d), lst (s.2.map cd)]) := by
    show Res.ok (W.ref (G ++ [lst (s.1.map En1.d)]).length) (G ++ [lst (s.1.map En1.d)] ++ [lst (s.2.map cd)]) = _
    simp
  have m3 : mkLst false [.ref G.length, .ref (G.length + 1)] (G ++ [lst (s.1.map En1.d), lst (s.2.map cd)]) = .ok (.ref (G.length + 2)) (four G (s.1.map En1.d) (s.2.map cd) [.lst [.ref G.length, .ref (G.length + 1)]]) := by
    show Res.ok (W.ref (G ++ [lst (s.1.map En1.d), lst (s.2.map cd)]).length) (G ++ [lst (s.1.map En1.d), lst (s.2.map cd)] ++ [.lst [.ref G.length, .ref (G.length + 1)]]) = _
    simp [four]
  have sq : seqOf (four G (s.1.map En1.d) (s.2.map cd) [.lst [.ref G.length, .ref (G.length + 1)]]) (.ref (G.length + 2)) = some [.ref G.length, .ref (G.length + 1)] := by
    show (match (four G (s.1.map En1.d) (s.2.map cd) [.lst [.ref G.length, .ref (G.length + 1)]])[G.length + 2]? with
      | some (.lst l) => some l
      | some (.tpl l) => some l
      | _ => none) = _
    rw [four_2]
  simp [t_law_does_2, sd_0, sd_1, l1, l2, -mkLst_f, m3, sq]
  exact q
theorem does_0 {G : Hh} {A B : List D} {P : List Ob} {z0 z1 z2 : Option W} {N : En → Hh → Prop} {R : W → Hh → Prop} {X : Nat → En → Hh → Prop}
    (q : R (.ref (four G A B P).length) (four G A B (P ++ [.lst [.ref G.length, .ref (G.length + 1)]]))) : okS (exs (cc n) t_law_does_0 [z0, z1, z2, some (.ref G.length), some (.ref (G.length + 1))] (four G A B P)) N R X := by
  have m3 : ∀ (i j : Nat) (g : Hh), mkLst false [.ref i, .ref j] g = .ok (.ref g.length) (g ++ [.lst [.ref i, .ref j]]) := fun i j g => rfl
  have e : four G A B P ++ [.lst [.ref G.length, .ref (G.length + 1)]] = four G A B (P ++ [.lst [.ref G.length, .ref (G.length + 1)]]) := by simp [four]
  simp [t_law_does_0, -mkLst_f, m3, e]
  exact q
theorem does_fin {G : Hh} {A B : List D} {P : List Ob} {N : Nat} (ln : G.length = N) (cl : closedB G = true) (lp : P.length = 1) (q : Q (.dat (.list [.list A, .list B])) G) :
    closedB ((four G A B (P ++ [.lst [.ref G.length, .ref (G.length + 1)]])).take N) = true ∧ ((∃ d, (W.ref (four G A B P).length) = .dat d ∧ Q (.dat d) ((four G A B (P ++ [.lst [.ref G.length, .ref (G.length + 1)]])).take N)) ∨ ∃ k i j A' B', (W.ref (four G A B P).length) = .ref k ∧ N ≤ k ∧ (four G A B (P ++ [.lst [.ref G.length, .ref (G.length + 1)]]))[k]? = some (.lst [.ref i, .ref j]) ∧ N ≤ i ∧ N ≤ j ∧ (four G A B (P ++ [.lst [.ref G.length, .ref (G.length + 1)]]))[i]? = some (lst A') ∧ (four G A B (P ++ [.lst [.ref G.length, .ref (G.length + 1)]]))[j]? = some (lst B') ∧ Q (.dat (.list [.list A', .list B'])) ((four G A B (P ++ [.lst [.ref G.length, .ref (G.length + 1)]])).take N)) := by
  subst ln
  rw [four_t]
  refine ⟨cl, .inr ⟨_, G.length, G.length + 1, A, B, rfl, ?_, ?_, Nat.le_refl _, Nat.le_succ _, four_0, four_1, q⟩⟩
  · simp [four]
  · have e : four G A B (P ++ [.lst [.ref G.length, .ref (G.length + 1)]]) = four G A B P ++ [.lst [.ref G.length, .ref (G.length + 1)]] := by simp [four]
    rw [e]
    exact List.getElem?_concat_length
theorem s_does {a : Nat} {s : St} {L : List St} {d : Dd} (hd : d ≠ .back) (ea : h[a]? = some (lst (L.map sd))) (o : Ok3 s) (du : d.due s L = none) (few : L.length < 1000) {G : Hh} (hG : h.set a (lst (L.map sd ++ [sd s])) = G) {N : En → Hh → Prop} {R : W → Hh → Prop} {X : Nat → En → Hh → Prop}
    (q : R (.ref (four G ((d.to s).1.map En1.d) ((d.to s).2.map cd) [.lst [.ref G.length, .ref (G.length + 1)]]).length) (four G ((d.to s).1.map En1.d) ((d.to s).2.map cd) ([.lst [.ref G.length, .ref (G.length + 1)]] ++ [.lst [.ref G.length, .ref (G.length + 1)]]))) :
    okS (exs (cc n) b_law_does [some (.dat (sd s)), some (.ref a), some (.dat d.d), none, none] h) N R X := by
  have ip := bm_isA ea
  have pp := bm_app ea (by rw [List.length_map]; simp only [sizeL]; omega) (sd s)
  have len := o.len
  rw [hG] at pp
  cases d with
  | back => exact absurd rfl hd
  | enter e =>
    obtain ⟨w1, w2, w3, w4⟩ := w_enter
    have is2 := bm_isA (four_0 (G := G) (A := s.1.map En1.d) (B := s.2.map cd) (P := [.lst [.ref G.length, .ref (G.length + 1)]]))
    have ap := bm_app (four_0 (G := G) (A := s.1.map En1.d) (B := s.2.map cd) (P := [.lst [.ref G.length, .ref (G.length + 1)]])) (by rw [List.length_map]; simp only [sizeL]; omega) e.d
    rw [four_s0, show s.1.map En1.d ++ [e.d] = (s.1 ++ [e]).map En1.d from by simp] at ap
    have q : R (.ref (four G ((s.1 ++ [e]).map En1.d) (s.2.map cd) [.lst [.ref G.length, .ref (G.length + 1)]]).length) (four G ((s.1 ++ [e]).map En1.d) (s.2.map cd) ([.lst [.ref G.length, .ref (G.length + 1)]] ++ [.lst [.ref G.length, .ref (G.length + 1)]])) := q
    generalize (s.1 ++ [e]).map En1.d = Z at ap q
    simp [b_law_does, Dd.d, t_law_does_3, w1, w2, w3, w4, ip, sd_0, sd_1, bl_f]
    rw [show PyData.list [.list (s.1.map En1.d), .list (s.2.map cd)] = sd s from rfl, pp]
    simp
    refine does_2 ?_
    simp [t_law_does_1, is2, ap, w1, w2, w3, w4]
    exact does_0 q
  | strike e =>
    obtain ⟨w1, w2, w3, w4⟩ := w_strike
    have me : e ∈ s.1 := by
      by_cases c : e ∈ s.1
      · exact c
      · have du : (if e ∈ s.1 then none else some x_NoEntry) = none := du
        rw [if_neg c] at du
        cases du
    obtain ⟨j, p1, p2⟩ := placeE o.gd.en me
    have is2 : bmIs .remove (.ref G.length) (four G (s.1.map En1.d) (s.2.map cd) [.lst [.ref G.length, .ref (G.length + 1)]]) = true := is_lst (four_0 (G := G) (A := s.1.map En1.d) (B := s.2.map cd) (P := [.lst [.ref G.length, .ref (G.length + 1)]]))
    have ap := rem_ref (four_0 (G := G) (A := s.1.map En1.d) (B := s.2.map cd) (P := [.lst [.ref G.length, .ref (G.length + 1)]])) p1
    rw [four_s0, p2] at ap
    simp [b_law_does, Dd.d, t_law_does_3, w1, w2, w3, w4, ip, sd_0, sd_1, bl_f]
    rw [show PyData.list [.list (s.1.map En1.d), .list (s.2.map cd)] = sd s from rfl, pp]
    simp
    refine does_2 ?_
    simp [t_law_does_1, is2, ap, w1, w2, w3, w4]
    exact does_0 q
  | cloud e =>
    obtain ⟨w1, w2, w3, w4⟩ := w_cloud
    have is2 := bm_isA (four_1 (G := G) (A := s.1.map En1.d) (B := s.2.map cd) (P := [.lst [.ref G.length, .ref (G.length + 1)]]))
    have ap := bm_app (four_1 (G := G) (A := s.1.map En1.d) (B := s.2.map cd) (P := [.lst [.ref G.length, .ref (G.length + 1)]])) (by rw [List.length_map]; simp only [sizeL]; omega) (cd e)
    rw [four_s1, show s.2.map cd ++ [cd e] = (s.2 ++ [e]).map cd from by simp] at ap
    have q : R (.ref (four G (s.1.map En1.d) ((s.2 ++ [e]).map cd) [.lst [.ref G.length, .ref (G.length + 1)]]).length) (four G (s.1.map En1.d) ((s.2 ++ [e]).map cd) ([.lst [.ref G.length, .ref (G.length + 1)]] ++ [.lst [.ref G.length, .ref (G.length + 1)]])) := q
    generalize (s.2 ++ [e]).map cd = Z at ap q
    have ec : PyData.tuple [PyData.str e.1, .int e.2] = cd e := rfl
    simp [b_law_does, Dd.d, t_law_does_3, w1, w2, w3, w4, ip, sd_0, sd_1, bl_f]
    rw [show PyData.list [.list (s.1.map En1.d), .list (s.2.map cd)] = sd s from rfl, pp]
    simp
    refine does_2 ?_
    simp [t_law_does_1, cut_1, ec, is2, ap, w1, w2, w3, w4]
    exact does_0 q
  | uncloud e =>
    obtain ⟨w1, w2, w3, w4⟩ := w_uncloud
    have me : e ∈ s.2 := by
      by_cases c : e ∈ s.2
      · exact c
      · have du : (if e ∈ s.2 then none else some x_NoCloud) = none := du
        rw [if_neg c] at du
        cases du
    obtain ⟨j, p1, p2⟩ := placeC o.gd.cl me
    have is2 : bmIs .remove (.ref (G.length + 1)) (four G (s.1.map En1.d) (s.2.map cd) [.lst [.ref G.length, .ref (G.length + 1)]]) = true := is_lst (four_1 (G := G) (A := s.1.map En1.d) (B := s.2.map cd) (P := [.lst [.ref G.length, .ref (G.length + 1)]]))
    have ap := rem_ref (four_1 (G := G) (A := s.1.map En1.d) (B := s.2.map cd) (P := [.lst [.ref G.length, .ref (G.length + 1)]])) p1
    rw [four_s1, p2] at ap
    have ec : PyData.tuple [PyData.str e.1, .int e.2] = cd e := rfl
    simp [b_law_does, Dd.d, t_law_does_3, w1, w2, w3, w4, ip, sd_0, sd_1, bl_f]
    rw [show PyData.list [.list (s.1.map En1.d), .list (s.2.map cd)] = sd s from rfl, pp]
    simp
    refine does_2 ?_
    simp [t_law_does_1, cut_1, ec, is2, ap, w1, w2, w3, w4]
    exact does_0 q
theorem r_law_does {a : Nat} {s : St} {L : List St} {d : Dd} (fl : Flat h) (l5 : 5 ≤ h.length) (ea : h[a]? = some (lst (L.map sd))) (o : Ok3 s) (g : d.Ok) (du : d.due s L = none) (few : L.length < 1000) :
    M.run S.glb S.T (n + 1) f_law_does [.dat (sd s), .ref a, .dat d.d] h = .ok (.dat (sd (d.nxt s L).1)) (h.set a (lst ((d.nxt s L).2.map sd))) := by
  have key : okW (M.run S.glb S.T (n + 1) f_law_does [.dat (sd s), .ref a, .dat d.d] h) (fun w h' => w = .dat (sd (d.nxt s L).1) ∧ h' = h.set a (lst ((d.nxt s L).2.map sd))) noE := by
    rw [run_law_does]
    apply okW_frz2
    have es : sd s = .list [.list (s.1.map En1.d), .list (s.2.map cd)] := rfl
    have la := (List.getElem?_eq_some_iff.mp ea).1
    have cl : ∀ l : List D, closedB (h.set a (lst l)) = true := fun l => by
      have z := (fl.set a (flat_dat l)).cl (h.set a (lst l)).length (by rw [List.length_set]; exact l5) (Nat.le_refl _)
      unfold Cl at z
      rwa [List.take_length] at z
    cases d with
    | back =>
      rcases List.eq_nil_or_concat L with e | ⟨L', l, e⟩
      · subst e
        cases du
      · rw [List.concat_eq_append] at e
        subst e
        have ip : bmIs .pop0 (.ref a) h = true := is_lst ea
        rw [List.map_append] at ea
        have pp := pop_ref (d := sd l) (l := L'.map sd) ea
        have nx : Dd.nxt s (L' ++ [l]) .back = (l, L') := by
          show ((L' ++ [l]).getLast?.getD s, (L' ++ [l]).dropLast) = _
          rw [List.getLast?_concat, List.dropLast_concat]
          rfl
        rw [nx]
        have tk : (h.set a (lst (L'.map sd))).take h.length = h.set a (lst (L'.map sd)) := List.take_of_length_le (by rw [List.length_set]; exact Nat.le_refl _)
        simp [b_law_does, Dd.d, ip, pp, tk]
        exact cl _
    | enter e =>
      have eG : h.set a (lst ((Dd.nxt s L (.enter e)).2.map sd)) = h.set a (lst (L.map sd ++ [sd s])) := by
        show h.set a (lst ((L ++ [s]).map sd)) = _
        rw [List.map_append]
        rfl
      rw [eG]
      exact s_does (by exact fun z => nomatch z) ea o du few rfl (does_fin (Q := fun w h' => w = .dat (sd (Dd.nxt s L (.enter e)).1) ∧ h' = h.set a (lst (L.map sd ++ [sd s]))) List.length_set (cl _) rfl ⟨rfl, rfl⟩)
    | strike e =>
      have eG : h.set a (lst ((Dd.nxt s L (.strike e)).2.map sd)) = h.set a (lst (L.map sd ++ [sd s])) := by
        show h.set a (lst ((L ++ [s]).map sd)) = _
        rw [List.map_append]
        rfl
      rw [eG]
      exact s_does (by exact fun z => nomatch z) ea o du few rfl (does_fin (Q := fun w h' => w = .dat (sd (Dd.nxt s L (.strike e)).1) ∧ h' = h.set a (lst (L.map sd ++ [sd s]))) List.length_set (cl _) rfl ⟨rfl, rfl⟩)
    | cloud e =>
      have eG : h.set a (lst ((Dd.nxt s L (.cloud e)).2.map sd)) = h.set a (lst (L.map sd ++ [sd s])) := by
        show h.set a (lst ((L ++ [s]).map sd)) = _
        rw [List.map_append]
        rfl
      rw [eG]
      exact s_does (by exact fun z => nomatch z) ea o du few rfl (does_fin (Q := fun w h' => w = .dat (sd (Dd.nxt s L (.cloud e)).1) ∧ h' = h.set a (lst (L.map sd ++ [sd s]))) List.length_set (cl _) rfl ⟨rfl, rfl⟩)
    | uncloud e =>
      have eG : h.set a (lst ((Dd.nxt s L (.uncloud e)).2.map sd)) = h.set a (lst (L.map sd ++ [sd s])) := by
        show h.set a (lst ((L ++ [s]).map sd)) = _
        rw [List.map_append]
        rfl
      rw [eG]
      exact s_does (by exact fun z => nomatch z) ea o du few rfl (does_fin (Q := fun w h' => w = .dat (sd (Dd.nxt s L (.uncloud e)).1) ∧ h' = h.set a (lst (L.map sd ++ [sd s]))) List.length_set (cl _) rfl ⟨rfl, rfl⟩)
  obtain ⟨a, h', e, rfl, rfl⟩ := key.get
  exact e
end
end K37
namespace K37
open PySem M
/-! ### deeds drawn -/
theorem Nm.sub {l l' : List D} (nm : Nm l) (s : l'.Sublist l) : Nm l' := ⟨fun d hd => nm.nam d (s.subset hd), nm.nd.sublist s⟩
section
variable {n : Nat} {g h : Hh} {Q : W → Hh → Prop} {E : Nat → Hh → Prop}
theorem s_wide_sorts {p c : Nat} (x : At p c g h) (hc : c < 890000) (q : ∀ a b d h', a.length = 6 → b.length = 5 → d.length = 4 → Nm a → Nm b → Nm d → At p (c + 20) g h' → Q (.dat (.list [.list a, .list b, .list d])) h') : okW (M.run S.glb S.T (n + 3) f_law_wide_sorts [.ref p] h) Q E := by
  rw [run_law_wide_sorts]
  apply okW_keep
  simp [b_law_wide_sorts]
  refine s_names 12 (by decide) x (by omega) fun l h1 ln nm x1 => ?_
  match l, ln, nm with
  | [a0, a1, a2, a3, a4, a5, a6, a7, a8, a9, a10, a11], _, nm =>
    have t : ∀ i k, Nm (([a0, a1, a2, a3, a4, a5, a6, a7, a8, a9, a10, a11].drop i).take k) := fun i k => nm.sub ((List.take_sublist k _).trans (List.drop_sublist i _))
    simp [cutL, cutM]
    exact q _ _ _ _ rfl rfl rfl (t 0 6) (t 5 5) (t 8 4) x1
theorem ne_nil {l : List D} (sh : shp (.list l) = true) : cmpW .ne (.dat (.list l)) (.dat (.list [])) h = some (!l.isEmpty) := by
  show (eqD (.list l) (.list [])).map not = _
  have e : eqD (.list l) (.list []) = (if shp (.list l) && shp (.list []) then some (PyData.eqv (.list l) (.list [])) else eq0 (.list l) (.list [])) := rfl
  have n : shp (.list []) = true := rfl
  rw [e, sh, n]
  cases l <;> rfl
theorem s_deed {p c : Nat} {a b d : List D} {s : St} (o : Ok3 s) (la : 0 < a.length ∧ a.length < 1000) (lb : 0 < b.length ∧ b.length < 1000) (ld : 0 < d.length ∧ d.length < 1000) (na : Nm a) (nb : Nm b) (nd : Nm d) (x : At p c g h) (hc : c < 700000)
    (q : ∀ dd h', Dd.Ok dd → At p (c + 30) g h' → Q (.dat dd.d) h') : okW (M.run S.glb S.T (n + 4) f_law_deed [.ref p, .dat (.list [.list a, .list b, .list d]), .dat (sd s)] h) Q E := by
  rw [run_law_deed]
  apply okW_keep
  have len := o.len
  have es : sd s = .list [.list (s.1.map En1.d), .list (s.2.map cd)] := rfl
  have sq : seqOf h (.dat (sd s)) = some [.dat (.list (s.1.map En1.d)), .dat (.list (s.2.map cd))] := rfl
  simp [b_law_deed, es]
  simp [t_law_deed_9]
  refine s_take 16 x (by decide) (by decide) (by omega) fun w h1 w0 w1 x1 => ?_
  have nE := ne_nil (h := h1) (shp_ens o.gd.en)
  have nC := ne_nil (h := h1) (shp_cds o.gd.cl)
  have eE : (s.1.map En1.d).isEmpty = s.1.isEmpty := by cases s.1 <;> rfl
  have eC : (s.2.map cd).isEmpty = s.2.isEmpty := by cases s.2 <;> rfl
  rw [eE] at nE
  rw [eC] at nC
  have last : okS (exs (cc (n + 3)) t_law_deed_0 [some (.ref p), some (.dat (.list [.list a, .list b, .list d])), some (.dat (.list [.list (s.1.map En1.d), .list (s.2.map cd)])), some (.dat (.list (s.1.map En1.d))), some (.dat (.list (s.2.map cd))), some (.dat (.int w)), none, none] h1) (fun _ h => Q (.dat .none) h) Q (fun c _ h => E c h) := by
    simp [t_law_deed_0]
    refine s_raw la lb ld na nb nd x1 (by omega) fun e h2 r x2 => ?_
    simp
    exact q (.enter e) h2 r.good.is (x2.more (by omega))
  have mid : okS (exs (cc (n + 3)) t_law_deed_3 [some (.ref p), some (.dat (.list [.list a, .list b, .list d])), some (.dat (.list [.list (s.1.map En1.d), .list (s.2.map cd)])), some (.dat (.list (s.1.map En1.d))), some (.dat (.list (s.2.map cd))), some (.dat (.int w)), none, none] h1) (fun _ h => Q (.dat .none) h) Q (fun c _ h => E c h) := by
    by_cases c8 : w < 8
    · simp [t_law_deed_3, c8]
      refine s_take _ x1 (by omega) (by omega) (by omega) fun i h2 i0 i1 x2 => ?_
      try simp
      refine at_any _ i0 i1 (name_in nd.nam) ?_
      rintro _ ⟨pl, rfl, np, mp⟩
      simp [t_law_deed_2]
      refine s_take 2 x2 (by decide) (by decide) (by omega) fun j h3 j0 j1 x3 => ?_
      try simp
      refine at_any (fun d => ∃ t : Int, d = .int t ∧ 1 ≤ t ∧ t ≤ 1000) j0 (by simp; omega) (by simp) ?_
      rintro _ ⟨t, rfl, t0, t9⟩
      try simp
      refine s_take t x3 (by omega) (by omega) (by omega) fun u h4 u0 u1 x4 => ?_
      simp [t_law_deed_1]
      refine s_take 3 x4 (by decide) (by decide) (by omega) fun k h5 k0 k1 x5 => ?_
      try simp
      refine at_any (fun d => d = .str "cloud" ∨ d = .str "uncloud") k0 (by simp; omega) (by simp) ?_
      have gc : cloudD (cd (pl, u)) = true := cloud_of np u0 (by show u ≤ 999; omega)
      rintro _ (rfl | rfl)
      · simp
        exact q (.cloud (pl, u)) h5 gc (x5.more (by omega))
      · simp
        exact q (.uncloud (pl, u)) h5 gc (x5.more (by omega))
    · simp [t_law_deed_3, c8]
      exact last
  by_cases c0 : w = 0
  · subst c0
    simp [t_law_deed_8]
    exact q .back h1 trivial (x1.more (by omega))
  by_cases c1 : w = 1
  · subst c1
    cases ne : s.1.isEmpty with
    | true =>
      rw [ne] at nE
      simp [t_law_deed_8, t_law_deed_7, nE, t_law_deed_6, t_law_deed_5, t_law_deed_4]
      exact mid
    | false =>
      rw [ne] at nE
      have l0 : 0 < s.1.length := by cases h : s.1 with
        | nil => rw [h] at ne; cases ne
        | cons _ _ => simp
      simp [t_law_deed_8, t_law_deed_7, nE]
      refine s_take _ x1 (by omega) (by omega) (by omega) fun i h2 i0 i1 x2 => ?_
      try simp
      refine at_any (fun d => ∃ e ∈ s.1, d = En1.d e) i0 (by simpa using i1) (fun d m => by
        obtain ⟨e, me, rfl⟩ := List.mem_map.mp m
        exact ⟨e, me, rfl⟩) ?_
      rintro _ ⟨e, me, rfl⟩
      simp
      exact q (.strike e) h2 (o.gd.en e me) (x2.more (by omega))
  by_cases c2 : w = 2
  · subst c2
    simp [t_law_deed_8, t_law_deed_7, t_law_deed_6]
    refine s_raw la lb ld na nb nd x1 (by omega) fun e h2 r x2 => ?_
    simp
    exact q (.strike e) h2 r.good.is (x2.more (by omega))
  by_cases c3 : w = 3
  · subst c3
    cases ne : s.2.isEmpty with
    | true =>
      rw [ne] at nC
      simp [t_law_deed_8, t_law_deed_7, t_law_deed_6, t_law_deed_5, nC, t_law_deed_4]
      exact mid
    | false =>
      rw [ne] at nC
      have l0 : 0 < s.2.length := by cases h : s.2 with
        | nil => rw [h] at ne; cases ne
        | cons _ _ => simp
      simp [t_law_deed_8, t_law_deed_7, t_law_deed_6, t_law_deed_5, nC]
      refine s_take _ x1 (by omega) (by omega) (by omega) fun i h2 i0 i1 x2 => ?_
      try simp
      refine at_any (fun d => ∃ e ∈ s.2, d = cd e) i0 (by simpa using i1) (fun d m => by
        obtain ⟨e, me, rfl⟩ := List.mem_map.mp m
        exact ⟨e, me, rfl⟩) ?_
      rintro _ ⟨e, me, rfl⟩
      have s3 : (1 : Nat) + 2 ≤ sizeL := by decide
      simp [cd, sizeL]
      exact q (.uncloud e) h2 (o.gd.cl e me) (x2.more (by omega))
  by_cases c4 : w = 4
  · subst c4
    cases ne : s.1.isEmpty with
    | true =>
      rw [ne] at nE
      simp [t_law_deed_8, t_law_deed_7, t_law_deed_6, t_law_deed_5, t_law_deed_4, nE]
      exact mid
    | false =>
      rw [ne] at nE
      have l0 : 0 < s.1.length := by cases h : s.1 with
        | nil => rw [h] at ne; cases ne
        | cons _ _ => simp
      simp [t_law_deed_8, t_law_deed_7, t_law_deed_6, t_law_deed_5, t_law_deed_4, nE]
      refine s_take _ x1 (by omega) (by omega) (by omega) fun i h2 i0 i1 x2 => ?_
      try simp
      refine at_any (fun d => ∃ e ∈ s.1, d = En1.d e) i0 (by simpa using i1) (fun d m => by
        obtain ⟨e, me, rfl⟩ := List.mem_map.mp m
        exact ⟨e, me, rfl⟩) ?_
      rintro _ ⟨e, me, rfl⟩
      simp
      exact q (.enter e) h2 (o.gd.en e me) (x2.more (by omega))
  simp [t_law_deed_8, t_law_deed_7, t_law_deed_6, t_law_deed_5, t_law_deed_4, c0, c1, c2, c3, c4]
  exact mid
end
end K37
namespace K37
open PySem M
/-! ### the law's heap: a keeper, the row ahead -/
section
variable {n : Nat} {g h : Hh} {Q : W → Hh → Prop} {E : Nat → Hh → Prop}
theorem Dd.nxt_ok {s : St} {L : List St} {d : Dd} (o : Ok3 s) (os : ∀ t ∈ L, Ok3 t) (g : d.Ok) (du : d.due s L = none) : Ok3 (d.nxt s L).1 ∧ (∀ t ∈ (d.nxt s L).2, Ok3 t) ∧ (d.nxt s L).2.length ≤ L.length + 1 := by
  have other : Ok3 (d.to s) ∧ (∀ t ∈ L ++ [s], Ok3 t) ∧ (L ++ [s]).length ≤ L.length + 1 := ⟨Dd.to_ok o g du, fun t m => (List.mem_append.mp m).elim (os t) fun m => List.mem_singleton.mp m ▸ o, by simp⟩
  cases d with
  | back =>
    refine ⟨?_, fun t m => os t (List.dropLast_subset L m), by show L.dropLast.length ≤ _; rw [List.length_dropLast]; omega⟩
    show Ok3 (L.getLast?.getD s)
    cases e : L.getLast? with
    | none => exact o
    | some t => exact os t (List.mem_of_getLast? e)
  | _ => exact other
theorem kNx_get {k b i : Nat} {s : St} {L : List St} {d : Dd} (nk : i ≠ k) (nb : i ≠ b) : (kNx k b h s L d)[i]? = h[i]? := by
  cases d <;> (show (List.set (List.set h b _) k _)[i]? = _; rw [List.getElem?_set_ne (Ne.symm nk), List.getElem?_set_ne (Ne.symm nb)])
theorem kNx_len {k b : Nat} {s : St} {L : List St} {d : Dd} : (kNx k b h s L d).length = h.length := by
  cases d <;> (show (List.set (List.set h b _) k _).length = _; rw [List.length_set, List.length_set])
theorem kO_ob {k b : Nat} (hb : b < 5) (d : D) : obB (max k 5) (kO d b) = true := by
  show (([("now", W.dat d), ("before", .ref b)] : List (Str × W)).all fun p => refB (max k 5) p.2) = true
  simp [refB]
  omega
theorem kNx_flat {k b : Nat} {s : St} {L : List St} {d : Dd} (fl : Flat h) (hb : b < 5) : Flat (kNx k b h s L d) := by
  cases d <;> exact (fl.set b (flat_dat _)).setR k (kO_ob hb _)
theorem Kr.nx {k b : Nat} {s : St} {L : List St} {d : Dd} (r : Kr k b h (kb s) (L.map kb)) (du : d.due s L = none) (few : L.length + 1 < 1000) : Kr k b (kNx k b h s L d) (kb (d.nxt s L).1) ((d.nxt s L).2.map kb) := by
  have other : ∀ t : St, Kr k b (kUp k b h (kb s) (kb t) (L.map kb)) (kb t) ((L ++ [s]).map kb) := fun t => by
    rw [List.map_append]
    exact r.up (by rw [List.length_map]; exact few)
  cases d with
  | back =>
    rcases List.eq_nil_or_concat L with e | ⟨L', l, e⟩
    · subst e
      cases du
    · rw [List.concat_eq_append] at e
      subst e
      have nx : Dd.nxt s (L' ++ [l]) .back = (l, L') := by
        show ((L' ++ [l]).getLast?.getD s, (L' ++ [l]).dropLast) = _
        rw [List.getLast?_concat, List.dropLast_concat]
        rfl
      have af : kNx k b h s (L' ++ [l]) .back = kBack k b h (kb l) (L'.map kb) := by
        show kBack k b h (kb ((L' ++ [l]).getLast?.getD s)) ((L' ++ [l]).dropLast.map kb) = _
        rw [List.getLast?_concat, List.dropLast_concat]
        rfl
      rw [nx, af]
      rw [List.map_append] at r
      exact Kr.back (e := kb l) r
  | enter e => exact other _
  | strike e => exact other _
  | cloud e => exact other _
  | uncloud e => exact other _
structure Lw (k b a : Nat) (h : Hh) (s : St) (L : List St) (i : Nat) : Prop where
  fl : Flat h
  kr : Kr k b h (kb s) (L.map kb)
  ah : h[a]? = some (lst (L.map sd))
  ak : a ≠ k
  ab : a ≠ b
  b5 : b < 5
  ok : Ok3 s
  oks : ∀ t ∈ L, Ok3 t
  few : L.length ≤ i
  i9 : i < 900
/-- elsewhere changed -/
theorem Lw.move {k b a : Nat} {h h' : Hh} {s : St} {L : List St} {i : Nat} (w : Lw k b a h s L i) (fl : Flat h') (e : ∀ j, j < h.length → j = k ∨ j = b ∨ j = a → h'[j]? = h[j]?) : Lw k b a h' s L i := by
  have l1 := (List.getElem?_eq_some_iff.mp w.kr.ko).1
  have l2 := (List.getElem?_eq_some_iff.mp w.kr.bo).1
  have l3 := (List.getElem?_eq_some_iff.mp w.ah).1
  exact ⟨fl, ⟨(e k l1 (.inl rfl)).trans w.kr.ko, (e b l2 (.inr (.inl rfl))).trans w.kr.bo, w.kr.ne, w.kr.few⟩, (e a l3 (.inr (.inr rfl))).trans w.ah, w.ak, w.ab, w.b5, w.ok, w.oks, w.few, w.i9⟩
theorem Lw.more {k b a : Nat} {h : Hh} {s : St} {L : List St} {i j : Nat} (w : Lw k b a h s L i) (l : i ≤ j) (j9 : j < 900) : Lw k b a h s L j := ⟨w.fl, w.kr, w.ah, w.ak, w.ab, w.b5, w.ok, w.oks, Nat.le_trans w.few l, j9⟩
/-- what is told as due, told twice -/
theorem due_ne (x : Option Nat) : cmpW .ne (.dat (dueD x)) (.dat (dueD x)) h = some false := by
  cases x with
  | none => rfl
  | some c =>
    show (eqD (.list [.int (placeX c)]) (.list [.int (placeX c)])).map not = some false
    have sh : shp (.list [.int (placeX c)]) = true := rfl
    have e : eqD (.list [.int (placeX c)]) (.list [.int (placeX c)]) = (if shp (.list [.int (placeX c)]) && shp (.list [.int (placeX c)]) then some (PyData.eqv (.list [.int (placeX c)]) (.list [.int (placeX c)])) else eq0 (.list [.int (placeX c)]) (.list [.int (placeX c)])) := rfl
    rw [e, sh, PySem.SeqAt.eqv_refl _ rfl]
    rfl
theorem At.other {p c k : Nat} {o : Ob} (x : At p c h h) (nk : k ≠ p) (q : obB (max k 5) o = true) : At p c (h.set k o) (h.set k o) := by
  obtain ⟨⟨fl, ln, ou⟩, a, b, d, e, r⟩ := x
  exact ⟨⟨fl.setR k q, rfl, fun _ _ => rfl⟩, a, b, d, by rw [List.getElem?_set_ne nk]; exact e, r⟩
theorem At.nx {p c k b : Nat} {s : St} {L : List St} {d : Dd} (x : At p c h h) (nk : k ≠ p) (nb : b ≠ p) (b5 : b < 5) : At p c (kNx k b h s L d) (kNx k b h s L d) := by
  cases d <;> exact (x.other nb (obB_mono (Nat.zero_le _) (flat_dat _))).other nk (kO_ob b5 _)
end
end K37
namespace K37
open PySem M
/-! ### the law -/
section
variable {n : Nat} {g h : Hh} {Q : W → Hh → Prop} {E : Nat → Hh → Prop}
theorem s_each (ns : List Int) (v : Nat) (hv : v < 100) {A B C : List D} (la : A.length = 6) (lb : B.length = 5) (lc : C.length = 4) (na : Nm A) (nb : Nm B) (nc : Nm C) {k b a : Nat} {s : St} {L : List St} {i : Nat} (w : Lw k b a h s L i) (i8 : i < 800) (h4 : 4 ≤ h.length) (z6 z7 z8 : Option W) {N : En → Hh → Prop} {R : W → Hh → Prop} {X : Nat → En → Hh → Prop}
    (q : ∀ s L z6 z7 z8 h', Lw k b a h' s L (i + 1) → 4 ≤ h'.length → N [some (.scr ns), some (.dat (.list [.list A, .list B, .list C])), some (.ref k), some (.dat (sd s)), some (.ref a), some (.dat (.int (v : Nat))), z6, z7, z8] h') :
    okS (exs (cc (n + 9)) l_law_0 [some (.scr ns), some (.dat (.list [.list A, .list B, .list C])), some (.ref k), some (.dat (sd s)), some (.ref a), some (.dat (.int (v : Nat))), z6, z7, z8] h) N R X := by
  have lk := (List.getElem?_eq_some_iff.mp w.kr.ko).1
  have lb' := (List.getElem?_eq_some_iff.mp w.kr.bo).1
  have la' := (List.getElem?_eq_some_iff.mp w.ah).1
  have fw := w.few
  simp [l_law_0]
  refine s_cell ns (v : Int) (by omega) (by omega) fun x => ?_
  try simp
  refine s_pool x w.fl fun h1 x1 l1 o1 => ?_
  have w1 : Lw k b a h1 s L i := w.move x1.fl fun j lj _ => o1 j lj
  generalize hp : h.length = p at x1 l1 o1 lk lb' la'
  try simp
  refine s_deed w1.ok (by omega) (by omega) (by omega) na nb nc x1 (by omega) fun dd h2 gd x2 => ?_
  have w2 : Lw k b a h2 s L i := w1.move x2.fl fun j lj o => x2.out (by omega)
  have l2 := x2.len
  try simp
  have du := r_law_due (n := n + 6) (a := a) w2.ok gd w2.ah
  simp [du]
  have as := r_law_asked (n := n) (d := dd) w2.kr w2.ok gd
  have x2r := x2.reb
  -- behind the deed
  have tail : ∀ (s' : St) (L' : List St) (h4' : Hh), Lw k b a h4' s' L' (i + 1) → At p 30 h4' h4' → 4 ≤ h4'.length →
      okS (exs (cc (n + 9)) (.cons (.ifs (.bop true (.cons (.cmp .gt (.call f_law_take (.cons (.var 6) (.cons (.cst (.int 3)) .nil))) (.cst (.int 0))) (.cons (.not (.call f_law_stands (.cons (.var 2) (.cons (.var 3) .nil)))) .nil))) (.cons (.ret (.cst (.bool false))) .nil) .nil) .nil) [some (.scr ns), some (.dat (.list [.list A, .list B, .list C])), some (.ref k), some (.dat (sd s')), some (.ref a), some (.dat (.int (v : Nat))), some (.ref p), some (.dat dd.d), some (.dat (dueD (dd.due s L)))] h4') N R X := by
    intro s' L' h4' w4 x4 l4
    simp
    refine s_take 3 x4 (by decide) (by decide) (by omega) fun u h5 u0 u1 x5 => ?_
    have w5 : Lw k b a h5 s' L' (i + 1) := w4.move x5.fl fun j lj o => x5.out (by omega)
    have l5 := x5.len
    have st := r_law_stands (n := n + 7) w5.kr.ko w5.ok
    by_cases u3 : 0 < u
    · simp [u3, st]
      exact q _ _ _ _ _ _ w5 (by omega)
    · simp [u3]
      exact q _ _ _ _ _ _ w5 (by omega)
  cases e : dd.due s L with
  | some c =>
    rw [e] at as tail
    have af : kAf k b h2 s L dd = h2 := by unfold kAf; rw [e]
    rw [af] at as
    have ne := due_ne (h := h2) (some c)
    have ni : cmpW .is (.dat (dueD (some c))) (.dat .none) h2 = some false := rfl
    have t := tail s L h2 (w2.more (by omega) (by omega)) (x2r.more (by omega)) (by omega)
    simp only [exs_cons, exs_nil] at t
    simp [as, ne, ni]
    simp at t
    exact t
  | none =>
    rw [e] at as tail
    have af : kAf k b h2 s L dd = kNx k b h2 s L dd := by unfold kAf; rw [e]
    rw [af] at as
    have ne := due_ne (h := kNx k b h2 s L dd) none
    have ni : cmpW .is (.dat (dueD none)) (.dat .none) (kNx k b h2 s L dd) = some true := rfl
    have f3 := kNx_flat (k := k) (b := b) (s := s) (L := L) (d := dd) w2.fl w2.b5
    have l3 := kNx_len (h := h2) (k := k) (b := b) (s := s) (L := L) (d := dd)
    have a3 : (kNx k b h2 s L dd)[a]? = some (lst (L.map sd)) := (kNx_get w2.ak w2.ab).trans w2.ah
    have do_ := r_law_does (n := n + 8) (d := dd) f3 (by omega) a3 w2.ok gd e (by omega)
    have k3 := w2.kr.nx e (by omega)
    have x3 : At p 30 (kNx k b h2 s L dd) (kNx k b h2 s L dd) := At.nx (x2r.more (by omega)) (by omega) (by omega) w2.b5
    have x4 : At p 30 ((kNx k b h2 s L dd).set a (lst ((dd.nxt s L).2.map sd))) ((kNx k b h2 s L dd).set a (lst ((dd.nxt s L).2.map sd))) := x3.other (by omega) (obB_mono (Nat.zero_le _) (flat_dat _))
    obtain ⟨n1, n2, n3⟩ := Dd.nxt_ok w2.ok w2.oks gd e
    have w4 : Lw k b a ((kNx k b h2 s L dd).set a (lst ((dd.nxt s L).2.map sd))) (dd.nxt s L).1 (dd.nxt s L).2 (i + 1) := by
      refine ⟨x4.fl, ⟨?_, ?_, k3.ne, k3.few⟩, List.getElem?_set_self (by omega), w2.ak, w2.ab, w2.b5, n1, n2, by omega, by omega⟩
      · rw [List.getElem?_set_ne w2.ak]
        exact k3.ko
      · rw [List.getElem?_set_ne w2.ab]
        exact k3.bo
    have t := tail _ _ _ w4 x4 (by rw [List.length_set]; omega)
    generalize (kNx k b h2 s L dd).set a (lst ((dd.nxt s L).2.map sd)) = H4 at *
    generalize kNx k b h2 s L dd = H3 at *
    simp [as, ne, ni, do_]
    simp at t
    exact t
end
section
variable {n : Nat} {g h : Hh} {Q : W → Hh → Prop} {E : Nat → Hh → Prop}
theorem nil_ok : Ok3 ([], []) := ⟨⟨fun _ m => (by cases m), List.nodup_nil, fun _ m => (by cases m), List.nodup_nil⟩, by decide +kernel⟩
theorem start37 {h : Hh} (fl : Flat h) (l1 : h.length = 1) : Lw 1 2 3 (h ++ [kO (kb ([], [])) 2, lst []] ++ [lst []]) ([], []) [] 0 := by
  refine ⟨?_, ⟨?_, ?_, by decide, by decide⟩, ?_, by decide, by decide, by decide, nil_ok, fun t m => (by cases m), Nat.le_refl _, by decide⟩
  · have e : h ++ [kO (kb ([], [])) 2, lst []] ++ [lst []] = ((h ++ [kO (kb ([], [])) 2]) ++ [lst []]) ++ [lst []] := by simp
    rw [e]
    exact ((fl.pushR (kO_ob (by decide) _)).push (flat_dat [])).push (flat_dat [])
  · rw [List.append_assoc, List.getElem?_append_right (by omega), l1]
    rfl
  · rw [List.append_assoc, List.getElem?_append_right (by omega), l1]
    rfl
  · rw [List.append_assoc, List.getElem?_append_right (by omega), l1]
    rfl
theorem s_law (ns : List Int) (ln : ns.length ≤ 63) (q : ∀ h', Q (.dat (.bool true)) h') : okW (M.run S.glb S.T (n + 10) f_law [.scr ns] []) Q E := by
  rw [run_law]
  apply okW_keep
  simp [b_law]
  refine s_cell ns 0 (by decide) (by decide) fun x => ?_
  try simp
  refine s_pool x Flat.nil fun h1 x1 l1 o1 => ?_
  try simp
  refine s_wide_sorts x1 (by decide) fun A B C h2 la lb lc na nb nc x2 => ?_
  have l2 : h2.length = 1 := by rw [x2.len, l1]; rfl
  have ini := r_init (n := n + 8) (h := h2)
  rw [l2] at ini
  have m3 : mkLst true [] (h2 ++ [kO (kb ([], [])) 2, lst []]) = .ok (.ref 3) (h2 ++ [kO (kb ([], [])) 2, lst []] ++ [lst []]) := by
    show Res.ok (W.ref (h2 ++ [kO (kb ([], [])) 2, lst []]).length) (h2 ++ [kO (kb ([], [])) 2, lst []] ++ [lst []]) = _
    simp [l2]
  have w0 := start37 x2.fl l2
  have lH : 4 ≤ (h2 ++ [kO (kb ([], [])) 2, lst []] ++ [lst []]).length := by simp [l2]
  simp [l2, ini, -mkLst_t, m3]
  rw [show h2 ++ [kO (kb ([], [])) 2, lst [], lst []] = h2 ++ [kO (kb ([], [])) 2, lst []] ++ [lst []] by simp]
  generalize h2 ++ [kO (kb ([], [])) 2, lst []] ++ [lst []] = H at w0 lH
  have bo := r_book (n := n + 8) w0.kr.ko
  have im := ins_keep (m := "book") w0.kr.ko (by decide +kernel) (by decide +kernel)
  have ne : cmpW .ne (.dat (kb ([], []))) (.dat (.tuple [.tuple [], .tuple []])) H = some false := rfl
  simp [im, bo, ne]
  have bd : ∀ l : Int, ∃ M : Nat, 11 ≤ M ∧ M ≤ 61 ∧ (if 11 < (if 61 < l then 61 else l) then (if 61 < l then 61 else l) else 11) = (M : Int) := fun l => by
    by_cases c : 61 < l
    · rw [if_pos c]
      exact ⟨61, by decide, by decide, rfl⟩
    · rw [if_neg c]
      by_cases c2 : 11 < l
      · rw [if_pos c2]
        exact ⟨l.toNat, by omega, by omega, by omega⟩
      · rw [if_neg c2]
        exact ⟨11, by decide, by decide, rfl⟩
  obtain ⟨M, M0, M1, eM⟩ := bd (ns.length : Int)
  rw [eM]
  refine ⟨⟨by decide, okR_nat (by omega)⟩, ?_⟩
  have rl : rngL 1 (M : Int) = (List.range (M - 1)).map fun i : Nat => W.dat (.int ((1 + i : Nat) : Int)) := by
    unfold rngL
    rw [show ((M : Int) - 1).toNat = M - 1 by omega]
    refine List.map_congr_left fun i _ => ?_
    congr 3
  rw [rl]
  refine okS_forN (fun i e h' => ∃ s L z5 z6 z7 z8, Lw 1 2 3 h' s L i ∧ 4 ≤ h'.length ∧ e = [some (.scr ns), some (.dat (.list [.list A, .list B, .list C])), some (.ref 1), some (.dat (sd s)), some (.ref 3), z5, z6, z7, z8]) _ 0 _ _ ⟨([], []), [], none, none, none, none, w0, lH, rfl⟩ ?_ ?_
  · rintro m w z e h' ⟨s, L, z5, z6, z7, z8, wl, l4, rfl⟩
    have z2 := z
    rw [List.getElem?_map] at z
    have lm : m < M - 1 := by
      have := (List.getElem?_eq_some_iff.mp z2).1
      simpa using this
    rw [List.getElem?_range lm] at z
    simp only [Option.map_some, Option.some.injEq] at z
    subst z
    rw [Nat.zero_add] at wl ⊢
    refine s_each ns (1 + m) (by omega) la lb lc na nb nc wl (by omega) l4 z6 z7 z8 fun s L z6 z7 z8 h' wl l4 => ⟨s, L, _, z6, z7, z8, wl, l4, rfl⟩
  · rintro e h' ⟨s, L, z5, z6, z7, z8, wl, l4, rfl⟩
    have st := r_law_stands (n := n + 7) wl.kr.ko wl.ok
    simp [st]
    exact q _
end
theorem holds (ns : List Int) (ln : ns.length ≤ 63) : ∃ h', M.run S.glb S.T 20 f_law [.scr ns] [] = .ok (.dat (.bool true)) h' := by
  have key : okW (M.run S.glb S.T 20 f_law [.scr ns] []) (fun w _ => w = .dat (.bool true)) noE := s_law (n := 10) ns ln fun _ => rfl
  obtain ⟨a, h', e, rfl⟩ := key.get
  exact ⟨h', e⟩
end K37
namespace K37
open PySem PySem.Spec PyProof.Rows L2 M
theorem run_ok (w : World) : HandSHeadRun.RunEq R (PySem.W.view R.prog [73]) hk ob 6000 names w := by
  intro os
  kernel_rfl
end K37
open PySem PySem.W PySem.Calls PyProof.Rows
theorem PySem.Challenge.cw_markhabits_k37_keeper_by_an_own_set_holds : PySem.Challenge.rw_markhabits_k37_keeper_by_an_own_set.Holds := by
  w_on; o_law
  refine HandSHeadRun.head_any (r := OpenLaw.row PySem.Challenge.rw_markhabits_k37_keeper_by_an_own_set) (q := view (OpenLaw.row PySem.Challenge.rw_markhabits_k37_keeper_by_an_own_set).prog [73]) (H := K37.hk) (ob := K37.ob) (M := 6000) (loose := K37.names) (d := HandSHeadRun.topDef (OpenLaw.row PySem.Challenge.rw_markhabits_k37_keeper_by_an_own_set).prog 73) (kwd := []) K37.ob_eq
    (by kernel_rfl) (fun s => by kernel_rfl) K37.run_ok (by kernel_rfl) (by kernel_rfl) (by kernel_rfl) (by rfl) (by first | assumption | decide +kernel) (by decide +kernel) ⟨rfl, rfl, rfl, rfl, rfl, by decide +kernel⟩ ?hw ?hc
  case hw => w_witness2
  case hc =>
    exact M.law_walk (l := PySem.Challenge.rw_markhabits_k37_keeper_by_an_own_set) (S := K37.S) (L := K37.L) (n := 63) (k := 20) (f := 47) (j := 5) (x := "_law_script") rfl (by decide) (by kernel_rfl) ⟨rfl, by decide, by decide⟩ rfl
      (fun m hm => (M.and2 (List.all_eq_true.mp K37.okL m hm)).2) (fun m hm => (M.and2 (List.all_eq_true.mp K37.okL m hm)).1) (m := K37.m_law) rfl rfl rfl rfl (by kernel_rfl) (fun ns a _ => K37.holds ns a)
