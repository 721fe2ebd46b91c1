import PyProof.Rows.All
import Wide.All
import OpenK.AllK
import Wide.FinOn
import PyProof.EqLayable
import PyProof.ReprReads
import KE.IntText
import KE.KIntText
import PyProof.StrLawsRepr
import HandS.Base
import HandS.Call
import HandS.List
import HandS.Comp
import HandS.Dict
import HandS.Iter
import HandS.Text
import HandS.Words
import HandS.Exc
import HandS.ExcOwn
import HandS.Defaults
import HandS.TryMany
import HandS.Style
import HandS.CallSlots
import HandS.Flow
import HandS.TupAny
import HandS.TupMul
import HandS.FStr
import HandS.Small
import HandS.IsInst
import HandS.RaiseMore
import HandS.Conv
import HandS.AnyAll
import HandS.RevTup
import HandS.Evl
import KE.GoesEnum
import KE.KExcSuper
import HandS.ExcSuper
import HandS.ExcInit
import HandS.ExcField
import HandS.Ends
import HandS.HeadEnd
import HandS.Head0
import HandS.Head1
import HandS.Head2
import HandS.HeadHook1
import HandS.HeadHook2
import HandS.HeadHook4
import PySem.Challenge.RW_fixwright_k88_plain_values_and_their_tex
section
set_option Elab.async false
set_option linter.all false
set_option autoImplicit false
/-! A small language with a plain heap: what the defs of the program are led to. -/
namespace MP
open PySem (Str PyData)

abbrev SZ : Nat := 16777216

/-- values: tuples are values; lists, dicts, instances stand in the heap -/
inductive MV where
  | non | bl (b : Bool) | int (i : Int) | str (x : Str) | tup (xs : List MV) | loc (l : Nat) | frl (xs : List MV) | fn (f : Nat)
inductive MO where
  | lst (xs : List MV) | ins (c : Nat) (fs : List (Nat × MV)) | dic (kvs : List (MV × MV))
abbrev MH := List MO
abbrev MSt := List (Option MV)

inductive Res (α : Type) where
  | ok (a : α) (g : MH) | exc (c : Nat) (fs : List MV) (g : MH) | stuck
def M (α : Type) := MH → Res α
def ret {α : Type} (a : α) : M α := fun g => .ok a g
def bnd {α β : Type} (m : M α) (k : α → M β) : M β := fun g => match m g with
  | .ok a g' => k a g'
  | .exc c fs g' => .exc c fs g'
  | .stuck => .stuck
def nope {α : Type} : M α := fun _ => .stuck
def thro {α : Type} (c : Nat) (fs : List MV) : M α := fun g => .exc c fs g
def lift {α : Type} (o : Option α) : M α := match o with
  | some a => ret a
  | none => nope
def look {α : Type} (f : MH → Option α) : M α := fun g => match f g with
  | some a => .ok a g
  | none => .stuck
def alloc (o : MO) : M MV := fun g => .ok (.loc g.length) (g ++ [o])
def chg (f : MH → Option MH) : M Unit := fun g => match f g with
  | some g' => .ok () g'
  | none => .stuck
/-- no exception may leave -/
def calm {α : Type} (m : M α) : M α := fun g => match m g with
  | .ok a g' => .ok a g'
  | _ => .stuck
def need (b : Bool) : M Unit := fun g => if b then .ok () g else .stuck

/-! ### operations on values -/
def lstAt (g : MH) : MV → Option (List MV)
  | .loc l => match g[l]? with
    | some (.lst xs) => some xs
    | _ => none
  | _ => none
def truth (g : MH) : MV → Option Bool
  | .non => some false
  | .bl b => some b
  | .int i => some (i != 0)
  | .str x => if x.length ≤ SZ then some ((x.length : Int) != 0) else none
  | .tup xs => some (!xs.isEmpty)
  | .frl xs => some (!xs.isEmpty)
  | .loc l => match g[l]? with
    | some (.lst xs) => some (!xs.isEmpty)
    | some (.dic kvs) => some (!kvs.isEmpty)
    | _ => none
  | .fn _ => none
def lenOf (g : MH) : MV → Option Nat
  | .str x => if x.length ≤ SZ then some x.length else none
  | .tup xs => some xs.length
  | .frl xs => some xs.length
  | .loc l => match g[l]? with
    | some (.lst xs) => some xs.length
    | some (.dic kvs) => some kvs.length
    | _ => none
  | _ => none
def ixN (n : Nat) (i : Int) : Option Nat := if 0 ≤ i then (if i < n then some i.toNat else none) else if -(n : Int) ≤ i then some (i + n).toNat else none
def atI {α : Type} (xs : List α) (i : Int) : Option α := (ixN xs.length i).bind fun j => xs[j]?
def sIx (n d : Nat) : Option Int → Nat
  | none => d
  | some v => if v < 0 then (v + (n : Int)).toNat else min v.toNat n
def cut {α : Type} (xs : List α) (lo hi : Option Int) : List α := (xs.drop (sIx xs.length 0 lo)).take (sIx xs.length xs.length hi - sIx xs.length 0 lo)
def cutS (z : Str) (lo hi : Option Int) : Str := ⟨(cut z.cps.toList lo hi).toArray⟩

def toD : Nat → MH → MV → Option PyData
  | 0, _, _ => none
  | n + 1, g, v => match v with
    | .non => some .none
    | .bl b => some (.bool b)
    | .int i => some (.int i)
    | .str x => some (.str x)
    | .tup xs => (xs.mapM (toD n g)).map .tuple
    | .frl xs => (xs.mapM (toD n g)).map .list
    | .loc l => match g[l]? with
      | some (.lst xs) => (xs.mapM (toD n g)).map .list
      | _ => none
    | .fn _ => none
/-- two plain scalars -/
def scEq : MV → MV → Option Bool
  | .non, .non => some true
  | .non, .int _ => some false
  | .int _, .non => some false
  | .non, .bl _ => some false
  | .bl _, .non => some false
  | .non, .str _ => some false
  | .str _, .non => some false
  | .int i, .int j => some (decide (i = j))
  | .bl a, .bl b => some (decide (a = b))
  | .str a, .str b => some (decide (a = b))
  | .int _, .str _ => some false
  | .str _, .int _ => some false
  | .bl _, .str _ => some false
  | .str _, .bl _ => some false
  | _, _ => none
def eqV (g : MH) (v w : MV) : Option Bool := match scEq v w with
  | some b => some b
  | none => match toD 66 g v, toD 66 g w with
    | some d, some e => if PySem.SeqAt.shaped d && PySem.SeqAt.shaped e then some (PyData.eqv d e) else none
    | _, _ => none

inductive BOp where
  | add | sub | mul | mod | fdiv | pow | shl
def small64 (i : Int) : Bool := decide (-(2 ^ 64) < i) && decide (i < 2 ^ 64)
def binV : BOp → MV → MV → Option MV
  | .add, .int i, .int j => some (.int (i + j))
  | .add, .str x, .str y => if x.length + y.length ≤ SZ then some (.str (x ++ y)) else none
  | .add, .tup xs, .tup ys => if xs.length + ys.length ≤ SZ then some (.tup (xs ++ ys)) else none
  | .sub, .int i, .int j => some (.int (i - j))
  | .mul, .int i, .int j => if small64 i || small64 j then some (.int (i * j)) else none
  | .mul, .tup xs, .int k => if xs.isEmpty || decide (k < 2) || decide (1000 < k) || decide (1000 < xs.length) then none else some (.tup (List.replicate k.toNat xs).flatten)
  | .mod, .int i, .int j => if 0 < j then some (.int (i % j)) else none
  | .fdiv, .int i, .int j => if 0 < j ∧ j < 1073741824 then some (.int (i / j)) else none
  | .pow, .int i, .int j => if 0 ≤ j ∧ j ≤ 1000000 ∧ i.natAbs < 2 ^ 64 then some (.int (i ^ j.toNat)) else none
  | .shl, .int i, .int j => if 0 ≤ j ∧ j ≤ 1000000 ∧ i.natAbs < 2 ^ 64 then some (.int (i * 2 ^ j.toNat)) else none
  | _, _, _ => none
inductive COp where
  | eq | ne | lt | le | gt | ge | isin | notin
def flat : MV → Bool
  | .non => true
  | .bl _ => true
  | .int _ => true
  | .str _ => true
  | _ => false
def eqF : MV → MV → Bool
  | .non, .non => true
  | .bl a, .bl b => a == b
  | .bl a, .int b => (if a then 1 else 0) == b
  | .int a, .bl b => a == (if b then 1 else 0)
  | .int a, .int b => a == b
  | .str a, .str b => a == b
  | _, _ => false
/-- v in w -/
def inV (g : MH) (v w : MV) : Option Bool := match v, w with
  | .str x, .str z => match x.cps.toList with
    | [c] => some (decide (c ∈ z.cps.toList))
    | _ => none
  | v, .tup ws => if flat v && ws.all flat then some (ws.any fun y => eqF y v) else none
  | v, .loc l => match g[l]? with
    | some (.lst ws) => if flat v && ws.all flat then some (ws.any fun y => eqF y v) else none
    | _ => none
  | _, _ => none
def cmpV (op : COp) (g : MH) (v w : MV) : Option Bool := match op with
  | .eq => eqV g v w
  | .ne => (eqV g v w).map (!·)
  | .isin => inV g v w
  | .notin => (inV g v w).map (!·)
  | .lt => match v, w with
    | .int i, .int j => some (decide (i < j))
    | _, _ => none
  | .le => match v, w with
    | .int i, .int j => some (decide (i ≤ j))
    | _, _ => none
  | .gt => match v, w with
    | .int i, .int j => some (decide (j < i))
    | _, _ => none
  | .ge => match v, w with
    | .int i, .int j => some (decide (j ≤ i))
    | _, _ => none

inductive Ty where
  | int | bool | str | tuple | list | dict
  deriving DecidableEq
def isinst (g : MH) (v : MV) (t : Ty) : Option Bool := match v with
  | .non => some false
  | .bl _ => some (decide (t = .bool) || decide (t = .int))
  | .int _ => some (decide (t = .int))
  | .str _ => some (decide (t = .str))
  | .tup _ => some (decide (t = .tuple))
  | .loc l => match g[l]? with
    | some (.lst _) => some (decide (t = .list))
    | some (.dic _) => some (decide (t = .dict))
    | _ => none
  | _ => none

inductive Bi1 where
  | len | abs | int | str | inst (t : Ty) | tuple | repr
def strI (i : Int) : Str := Str.ofString (toString i)
def bi1V (b : Bi1) (g : MH) (v : MV) : Option MV := match b with
  | .len => (lenOf g v).map fun n : Nat => .int (n : Int)
  | .abs => match v with
    | .int i => some (.int (if i < 0 then -i else i))
    | _ => none
  | .int => match v with
    | .int i => some (.int i)
    | .bl k => some (.int (if k then 1 else 0))
    | .str a => match PySem.intText? a with
      | some n => if a.length ≤ 640 then some (.int n) else none
      | none => none
    | _ => none
  | .str => match v with
    | .int i => if i.natAbs.log2 < 1920 then some (.str (strI i)) else none
    | .str a => some (.str a)
    | .non => some (.str (Str.ofString "None"))
    | _ => none
  | .inst t => (isinst g v t).map .bl
  | .tuple => match v with
    | .tup xs => some (.tup xs)
    | .loc l => match g[l]? with
      | some (.lst xs) => some (.tup xs)
      | _ => none
    | _ => none
  | .repr => match toD 66 g v with
    | some d => if d.showable && decide (d.shown.length ≤ SZ) && PySem.SeqAt.shaped d then some (.str d.shown) else none
    | none => none
inductive Bi2 where
  | max | min
def bi2V (b : Bi2) (v w : MV) : Option MV := match b, v, w with
  | .max, .int i, .int j => some (.int (if j > i then j else i))
  | .min, .int i, .int j => some (.int (if j < i then j else i))
  | _, _, _ => none
/-- a value in an f-string -/
def fmtV : MV → Option Str
  | .str y => if y.length ≤ SZ then some y else none
  | .int i => if i.natAbs.log2 < 1920 then some (strI i) else none
  | _ => none
def fmtOne (acc : Str) (v : MV) : Option Str := match fmtV v with
  | some y => if acc.length + y.length ≤ SZ then some (acc ++ y) else none
  | none => none
def strsOf : List MV → Option (List Str)
  | [] => some []
  | .str x :: r => (strsOf r).map (x :: ·)
  | _ => none
def boolsOf : List MV → Option (List Bool)
  | [] => some []
  | .bl x :: r => (boolsOf r).map (x :: ·)
  | _ => none
def intsOf : List MV → Option (List Int)
  | [] => some []
  | .int x :: r => (intsOf r).map (x :: ·)
  | _ => none
def joinS (y : Str) (xs : List Str) : Str := Str.join y xs
def lenSum (xs : List Str) : Nat := (xs.map (·.length)).sum

/-! ### iterators -/
inductive MIt where
  | seq (xs : List MV) | lst (l : Nat) | enum (m : MIt) | zip (a b : MIt)
def MIt.item : MIt → Nat → MH → Option (Option MV)
  | .seq xs, i, _ => some xs[i]?
  | .lst l, i, g => match g[l]? with
    | some (.lst xs) => some xs[i]?
    | _ => none
  | .enum m, i, g => (m.item i g).map fun o => o.map fun v => .tup [.int i, v]
  | .zip a b, i, g => match a.item i g, b.item i g with
    | some (some x), some (some y) => some (some (.tup [x, y]))
    | some _, some _ => some none
    | _, _ => none
def charsOf (z : Str) : List MV := z.cps.toList.map fun c => .str ⟨#[c]⟩
def rangeL (a b : Int) : List MV := (List.range (b - a).toNat).map fun i => .int (a + (i : Nat))

/-! ### the text -/
/-- targets -/
inductive G where
  | nm (i : Nat) | tup (gs : G) | nil | cons (g r : G)
inductive X where
  | nil | cons (e r : X)
  | loc (i : Nat) | cst (v : MV)
  | tup (as : X) | bin (op : BOp) (a b : X) | neg (a : X) | ite (c a b : X)
  | and_ (a b : X) | or_ (a b : X) | not_ (a : X) | cmp (op : COp) (a b : X) | isN (neg : Bool) (a : X) | eqNil (neg : Bool) (a : X) | eqNilL (neg : Bool) (l : X)
  | call (f : Nat) (as : X) | callV (i : Nat) (as : X) | meth (o : X) (m : Nat) (as : X) | new (c : Nat) (as : X)
  | fld (o : X) (a : Nat) | idx (a i : X) | sl (a lo hi : X) | rev (a : X)
  | bi1 (b : Bi1) (a : X) | bi2 (b : Bi2) (a c : X) | fstr (as : X)
  | lstOf (l : X) | tupL (l : X) | allL (l : X) | sumL (l : X) | joinL (s l : X) | idxL (l i : X) | lenL (l : X)
  | app (o e : X) | ext (o l : X) | pop (o : X) | dnew
  | disp (as : X) | catL (a b : X) | catV (a b : X) | slL (a lo hi : X) | repL (l k : X) | ofV (a : X) | comp (sl : List Nat) (tg : G) (it c e : X)
  | itV (a : X) | itL (l : X) | rng1 (a : X) | rng2 (a b : X) | enum (a : X) | zip (a b : X)
  | err (k : Nat)
inductive XS where
  | nil | seq (s r : XS)
  | set (i : Nat) (e : X) | setT (g : G) (e : X) | setF (o : X) (a : Nat) (e : X) | setI (o i e : X)
  | aug (i : Nat) (op : BOp) (e : X) | augI (o i : X) (op : BOp) (e : X) | augF (o : X) (a : Nat) (op : BOp) (e : X)
  | ife (c : X) (a b : XS) | whl (c : X) (b : XS) | for_ (g : G) (it : X) (b : XS)
  | ret (e : X) | retN | ex (e : X) | raise (c : Nat) (as : X) | pass | brk | cont
  | try_ (b : XS) (hs : XS) | hnil | hcons (cs ns : List Nat) (i : Option Nat) (e : X) (r : XS)
  | par2 (i j : Nat) (as : X) | par3 (i j l : Nat) (as : X)

def slotsG : G → List Nat
  | .nm i => [i]
  | .tup gs => slotsG gs
  | .nil => []
  | .cons g r => slotsG g ++ slotsG r
structure FnE where
  ps : Nat
  nl : Nat
  body : XS
structure ClE where
  meths : List (Nat × Nat)
  flds : List Nat
  init : Nat
structure Tab where
  fns : List FnE
  cls : List ClE

inductive Out where
  | next (ρ : MSt) | ret (v : MV) | brk (ρ : MSt) | cont (ρ : MSt)
inductive SRes where
  | ok (o : Out) (g : MH) | exc (c : Nat) (fs : List MV) (ρ : MSt) (g : MH) | stuck
def sbnd {α : Type} (m : M α) (ρ : MSt) (k : α → MH → SRes) : MH → SRes := fun g => match m g with
  | .ok a g' => k a g'
  | .exc c fs g' => .exc c fs ρ g'
  | .stuck => .stuck

mutual
def asgn : G → MV → MSt → Option MSt
  | .nm i, v, ρ => some (ρ.set i (some v))
  | .tup gs, v, ρ => match v with
    | .tup xs => asgns gs xs ρ
    | _ => none
  | .nil, _, _ => none
  | .cons _ _, _, _ => none
def asgns : G → List MV → MSt → Option MSt
  | .nil, vs, ρ => match vs with
    | [] => some ρ
    | _ :: _ => none
  | .cons g r, vs, ρ => match vs with
    | v :: vs => match asgn g v ρ with
      | some ρ' => asgns r vs ρ'
      | none => none
    | [] => none
  | .nm _, _, _ => none
  | .tup _, _, _ => none
end
def wipe (ρ : MSt) : List Nat → MSt
  | [] => ρ
  | v :: vs => (wipe ρ vs).set v none

structure Ev where
  tab : Tab
  call : Nat → List MV → M MV
  callm : Nat → List MV → M MV
  deep : Bool

def FUEL : Nat := 20000000

/-- a comprehension's turns -/
def loopC (it : MIt) (asg : MV → Option MSt) (c : MSt → M Bool) (e : MSt → M MV) : Nat → Nat → List MV → M (List MV)
  | 0, _, _ => nope
  | n + 1, i, acc => fun g => match it.item i g with
    | none => .stuck
    | some none => .ok acc g
    | some (some v) => match asg v with
      | none => .stuck
      | some ρ => match c ρ g with
        | .ok true g1 => match e ρ g1 with
          | .ok y g2 => if acc.length < SZ then loopC it asg c e n (i + 1) (acc ++ [y]) g2 else .stuck
          | _ => .stuck
        | .ok false g1 => loopC it asg c e n (i + 1) acc g1
        | _ => .stuck
def loopW (c : MSt → M Bool) (b : MSt → MH → SRes) : Nat → MSt → MH → SRes
  | 0, _, _ => .stuck
  | n + 1, ρ, g => match c ρ g with
    | .ok true g1 => match b ρ g1 with
      | .ok (.next ρ') g2 => loopW c b n ρ' g2
      | .ok (.cont ρ') g2 => loopW c b n ρ' g2
      | .ok (.brk ρ') g2 => .ok (.next ρ') g2
      | .ok (.ret v) g2 => .ok (.ret v) g2
      | .exc k fs ρ' g2 => .exc k fs ρ' g2
      | .stuck => .stuck
    | .ok false g1 => .ok (.next ρ) g1
    | .exc k fs g1 => .exc k fs ρ g1
    | .stuck => .stuck
def loopF (it : MIt) (asg : MV → MSt → Option MSt) (b : MSt → MH → SRes) : Nat → Nat → MSt → MH → SRes
  | 0, _, _, _ => .stuck
  | n + 1, i, ρ, g => match it.item i g with
    | none => .stuck
    | some none => .ok (.next ρ) g
    | some (some v) => match asg v ρ with
      | none => .stuck
      | some ρ1 => match b ρ1 g with
        | .ok (.next ρ') g2 => loopF it asg b n (i + 1) ρ' g2
        | .ok (.cont ρ') g2 => loopF it asg b n (i + 1) ρ' g2
        | .ok (.brk ρ') g2 => .ok (.next ρ') g2
        | .ok (.ret v) g2 => .ok (.ret v) g2
        | .exc k fs ρ' g2 => .exc k fs ρ' g2
        | .stuck => .stuck

def getLoc (ρ : MSt) (i : Nat) : Option MV := match ρ[i]? with
  | some (some v) => some v
  | _ => none
def hasFld (T : Tab) (c a : Nat) : Bool := match T.cls[c]? with
  | some k => k.flds.contains a
  | none => false
def fldAt (T : Tab) (g : MH) (v : MV) (a : Nat) : Option MV := match v with
  | .loc l => match g[l]? with
    | some (.ins c fs) => if hasFld T c a then fs.lookup a else none
    | _ => none
  | _ => none
def putF (a : Nat) (v : MV) : List (Nat × MV) → List (Nat × MV)
  | [] => [(a, v)]
  | (b, w) :: r => if b = a then (b, v) :: r else (b, w) :: putF a v r
def fldPut (T : Tab) (v : MV) (a : Nat) (w : MV) (g : MH) : Option MH := match v with
  | .loc l => match g[l]? with
    | some (.ins c fs) => if hasFld T c a && decide (fs.length < 1000) then some (g.set l (.ins c (putF a w fs))) else none
    | _ => none
  | _ => none
def idxV (g : MH) (v w : MV) : Option MV := match v, w with
  | .tup xs, .int i => atI xs i
  | .frl xs, .int i => atI xs i
  | .str z, .int i => if z.length ≤ SZ then (atI z.cps.toList i).map fun c => .str ⟨#[c]⟩ else none
  | .loc l, .int i => match g[l]? with
    | some (.lst xs) => atI xs i
    | _ => none
  | _, _ => none
/-- op= on ints -/
def augV (op : BOp) (v w : MV) : Option MV := match op, v, w with
  | .add, .int a, .int b => some (.int (a + b))
  | .sub, .int a, .int b => some (.int (a - b))
  | _, _, _ => none
/-- an item of a list that may be written -/
def idxG (g : MH) (v w : MV) : Option MV := match v, w with
  | .loc l, .int i => match g[l]? with
    | some (.lst xs) => atI xs i
    | _ => none
  | _, _ => none
def idxPut (v i w : MV) (g : MH) : Option MH := match v, i with
  | .loc l, .int i => match g[l]? with
    | some (.lst xs) => (ixN xs.length i).map fun j => g.set l (.lst (xs.set j w))
    | _ => none
  | _, _ => none
def slV (v : MV) (lo hi : Option Int) : Option MV := match v with
  | .tup xs => some (.tup (cut xs lo hi))
  | .str z => if z.length ≤ SZ then some (.str (cutS z lo hi)) else none
  | _ => none
def slLV (g : MH) (v : MV) (lo hi : Option Int) : Option (List MV) := match v with
  | .frl xs => some (cut xs lo hi)
  | .loc l => match g[l]? with
    | some (.lst xs) => some (cut xs lo hi)
    | _ => none
  | _ => none
def methAt (T : Tab) (g : MH) (v : MV) (m : Nat) : Option Nat := match v with
  | .loc l => match g[l]? with
    | some (.ins c fs) => match fs.lookup m, T.cls[c]? with
      | none, some k => k.meths.lookup m
      | _, _ => none
    | _ => none
  | _ => none
def appV (v w : MV) (g : MH) : Option MH := match v with
  | .loc l => match g[l]? with
    | some (.lst xs) => if xs.length < SZ then some (g.set l (.lst (xs ++ [w]))) else none
    | _ => none
  | _ => none
def extV (v : MV) (ws : List MV) (g : MH) : Option MH := match v with
  | .loc l => match g[l]? with
    | some (.lst xs) => if xs.length + ws.length ≤ SZ then some (g.set l (.lst (xs ++ ws))) else none
    | _ => none
  | _ => none
def popV (v : MV) : M MV := fun g => match v with
  | .loc l => match g[l]? with
    | some (.lst xs) => match xs[xs.length - 1]? with
      | some y => .ok y (g.set l (.lst xs.dropLast))
      | none => .stuck
    | _ => .stuck
  | _ => .stuck
def itOf (g : MH) (v : MV) : Option MIt := match v with
  | .tup xs => some (.seq xs)
  | .frl xs => some (.seq xs)
  | .str z => some (.seq (charsOf z))
  | .loc l => match g[l]? with
    | some (.lst _) => some (.lst l)
    | _ => none
  | _ => none
def asInt : MV → Option Int
  | .int i => some i
  | _ => none
def initOf (T : Tab) (c : Nat) : Option Nat := (T.cls[c]?).map (·.init)

section
variable (E : Ev)
mutual
/-- a value -/
def evE : X → MSt → M MV
  | .loc i, ρ => lift (getLoc ρ i)
  | .cst v, _ => ret v
  | .tup as, ρ => bnd (evA as ρ) fun vs => if vs.length ≤ SZ then ret (.tup vs) else nope
  | .bin op a b, ρ => bnd (evE a ρ) fun v => bnd (evE b ρ) fun w => lift (binV op v w)
  | .neg a, ρ => bnd (evE a ρ) fun v => match v with
    | .int i => ret (.int (-i))
    | _ => nope
  | .ite c a b, ρ => bnd (evT c ρ) fun k => if k then evE a ρ else evE b ρ
  | .and_ a b, ρ => bnd (evE a ρ) fun v => bnd (look fun g => truth g v) fun k => if k then evE b ρ else ret v
  | .or_ a b, ρ => bnd (evE a ρ) fun v => bnd (look fun g => truth g v) fun k => if k then ret v else evE b ρ
  | .not_ a, ρ => bnd (evE a ρ) fun v => bnd (look fun g => truth g v) fun k => ret (.bl (!k))
  | .cmp op a b, ρ => bnd (evE a ρ) fun v => bnd (evE b ρ) fun w => bnd (look fun g => cmpV op g v w) fun k => ret (.bl k)
  | .isN neg a, ρ => bnd (evE a ρ) fun v => ret (.bl (neg != (match v with | .non => true | _ => false)))
  | .eqNil neg a, ρ => bnd (evE a ρ) fun v => bnd (look fun g => lstAt g v) fun xs => ret (.bl (neg != xs.isEmpty))
  | .eqNilL neg l, ρ => bnd (evL l ρ) fun xs => ret (.bl (neg != xs.isEmpty))
  | .call f as, ρ => bnd (evA as ρ) fun vs => E.call f vs
  | .callV i as, ρ => bnd (lift (getLoc ρ i)) fun v => match v with
    | .fn f => if f < E.tab.fns.length then bnd (evA as ρ) fun vs => E.call f vs else nope
    | _ => nope
  | .meth o m as, ρ => bnd (evE o ρ) fun v => bnd (look fun g => methAt E.tab g v m) fun f => bnd (evA as ρ) fun vs => E.call f (v :: vs)
  | .new c as, ρ => if E.deep then bnd (lift (initOf E.tab c)) fun f => bnd (evA as ρ) fun vs => bnd (alloc (.ins c [])) fun l => bnd (E.callm f (l :: vs)) fun r => match r with
    | .non => ret l
    | _ => nope
    else nope
  | .fld o a, ρ => bnd (evE o ρ) fun v => look fun g => fldAt E.tab g v a
  | .idx a i, ρ => bnd (evE a ρ) fun v => bnd (evE i ρ) fun w => look fun g => idxV g v w
  | .sl a lo hi, ρ => bnd (evE a ρ) fun v => bnd (evO lo ρ) fun l => bnd (evO hi ρ) fun h => lift (slV v l h)
  | .rev a, ρ => bnd (evE a ρ) fun v => match v with
    | .tup xs => ret (.tup xs.reverse)
    | _ => nope
  | .bi1 b a, ρ => bnd (evE a ρ) fun v => look fun g => bi1V b g v
  | .bi2 b a c, ρ => bnd (evE a ρ) fun v => bnd (evE c ρ) fun w => lift (bi2V b v w)
  | .fstr as, ρ => bnd (evF as ρ Str.empty) fun z => ret (.str z)
  | .lstOf l, ρ => bnd (evL l ρ) fun xs => alloc (.lst xs)
  | .tupL l, ρ => bnd (evL l ρ) fun xs => ret (.tup xs)
  | .allL l, ρ => bnd (evL l ρ) fun xs => bnd (lift (boolsOf xs)) fun bs => ret (.bl (bs.all id))
  | .sumL l, ρ => bnd (evL l ρ) fun xs => bnd (lift (intsOf xs)) fun is => ret (.int is.sum)
  | .joinL s l, ρ => bnd (evE s ρ) fun v => match v with
    | .str y => bnd (evL l ρ) fun xs => match strsOf xs with
      | some ss => if lenSum ss + ss.length * y.length ≤ SZ then ret (.str (joinS y ss)) else nope
      | none => nope
    | _ => nope
  | .idxL l i, ρ => bnd (evL l ρ) fun xs => bnd (evE i ρ) fun w => match w with
    | .int i => lift (atI xs i)
    | _ => nope
  | .lenL l, ρ => bnd (evL l ρ) fun xs => ret (.int xs.length)
  | .app o e, ρ => bnd (evE o ρ) fun v => bnd (look fun g => lstAt g v) fun _ => bnd (evE e ρ) fun w => bnd (chg (appV v w)) fun _ => ret .non
  | .ext o l, ρ => bnd (evE o ρ) fun v => bnd (look fun g => lstAt g v) fun _ => bnd (evL l ρ) fun ws => bnd (chg (extV v ws)) fun _ => ret .non
  | .pop o, ρ => bnd (evE o ρ) fun v => popV v
  | .dnew, _ => alloc (.dic [])
  | _, _ => nope
/-- a test -/
def evT : X → MSt → M Bool
  | .and_ a b, ρ => bnd (evT a ρ) fun k => if k then evT b ρ else ret false
  | .or_ a b, ρ => bnd (evT a ρ) fun k => if k then ret true else evT b ρ
  | .not_ a, ρ => bnd (evT a ρ) fun k => ret (!k)
  | .cmp op a b, ρ => bnd (evE a ρ) fun v => bnd (evE b ρ) fun w => look fun g => cmpV op g v w
  | .isN neg a, ρ => bnd (evE a ρ) fun v => ret (neg != (match v with | .non => true | _ => false))
  | .eqNil neg a, ρ => bnd (evE a ρ) fun v => bnd (look fun g => lstAt g v) fun xs => ret (neg != xs.isEmpty)
  | .eqNilL neg l, ρ => bnd (evL l ρ) fun xs => ret (neg != xs.isEmpty)
  | .loc i, ρ => bnd (lift (getLoc ρ i)) fun v => look fun g => truth g v
  | .cst v, _ => look fun g => truth g v
  | .call f as, ρ => bnd (bnd (evA as ρ) fun vs => E.call f vs) fun v => look fun g => truth g v
  | .callV i as, ρ => bnd (bnd (lift (getLoc ρ i)) fun v => match v with
    | .fn f => if f < E.tab.fns.length then bnd (evA as ρ) fun vs => E.call f vs else nope
    | _ => nope) fun v => look fun g => truth g v
  | .meth o m as, ρ => bnd (bnd (evE o ρ) fun v => bnd (look fun g => methAt E.tab g v m) fun f => bnd (evA as ρ) fun vs => E.call f (v :: vs)) fun v => look fun g => truth g v
  | .fld o a, ρ => bnd (bnd (evE o ρ) fun v => look fun g => fldAt E.tab g v a) fun v => look fun g => truth g v
  | .idx a i, ρ => bnd (bnd (evE a ρ) fun v => bnd (evE i ρ) fun w => look fun g => idxV g v w) fun v => look fun g => truth g v
  | .bi1 b a, ρ => bnd (bnd (evE a ρ) fun v => look fun g => bi1V b g v) fun v => look fun g => truth g v
  | .allL l, ρ => bnd (evL l ρ) fun xs => bnd (lift (boolsOf xs)) fun bs => ret (bs.all id)
  | _, _ => nope
/-- the values of an argument list -/
def evA : X → MSt → M (List MV)
  | .nil, _ => ret []
  | .cons e r, ρ => bnd (evE e ρ) fun v => bnd (evA r ρ) fun vs => ret (v :: vs)
  | _, _ => nope
/-- an f-string's parts -/
def evF : X → MSt → Str → M Str
  | .nil, _, acc => ret acc
  | .cons e r, ρ, acc => bnd (evE e ρ) fun v => bnd (lift (fmtOne acc v)) fun z => evF r ρ z
  | _, _, _ => nope
/-- a slice's bound -/
def evO : X → MSt → M (Option Int)
  | .nil, _ => ret none
  | .cons e _, ρ => bnd (evE e ρ) fun v => match v with
    | .int i => ret (some i)
    | _ => nope
  | _, _ => nope
/-- a new list that nothing else holds -/
def evL : X → MSt → M (List MV)
  | .disp as, ρ => bnd (evA as ρ) fun vs => if vs.length ≤ SZ then ret vs else nope
  | .catL a b, ρ => bnd (evL a ρ) fun xs => bnd (evL b ρ) fun ys => if xs.length + ys.length ≤ SZ then ret (xs ++ ys) else nope
  | .catV a b, ρ => bnd (evE a ρ) fun v => bnd (evL b ρ) fun ys => bnd (look fun g => lstAt g v) fun xs => if xs.length + ys.length ≤ SZ then ret (xs ++ ys) else nope
  | .slL a lo hi, ρ => bnd (evE a ρ) fun v => bnd (evO lo ρ) fun l => bnd (evO hi ρ) fun h => look fun g => slLV g v l h
  | .repL l k, ρ => bnd (evL l ρ) fun xs => bnd (evE k ρ) fun w => match w with
    | .int k => if -(2 ^ 63) ≤ k ∧ k < 2 ^ 63 ∧ xs.length * k.toNat ≤ SZ then ret (List.replicate k.toNat xs).flatten else nope
    | _ => nope
  | .ofV a, ρ => bnd (evE a ρ) fun v => look fun g => match v with
    | .tup xs => some xs
    | v => lstAt g v
  | .comp sl tg it c e, ρ => bnd (evI it ρ) fun I => loopC I (fun v => asgn tg v (wipe ρ sl)) (fun r => match c with
    | .nil => ret true
    | _ => evT c r) (fun r => evE e r) FUEL 0 []
  | .rng1 a, ρ => bnd (evE a ρ) fun v => match v with
    | .int j => if -(2 ^ 62) ≤ j ∧ j < 2 ^ 62 ∧ j.toNat ≤ 2 ^ 24 then ret (rangeL 0 j) else nope
    | _ => nope
  | _, _ => nope
/-- an iterator -/
def evI : X → MSt → M MIt
  | .itV a, ρ => bnd (evE a ρ) fun v => look fun g => itOf g v
  | .itL l, ρ => bnd (evL l ρ) fun xs => ret (.seq xs)
  | .rng1 a, ρ => bnd (evE a ρ) fun v => match v with
    | .int j => if -(2 ^ 62) ≤ j ∧ j < 2 ^ 62 then ret (.seq (rangeL 0 j)) else nope
    | _ => nope
  | .rng2 a b, ρ => bnd (evE a ρ) fun v => bnd (evE b ρ) fun w => match v, w with
    | .int i, .int j => if -(2 ^ 62) ≤ i ∧ i < 2 ^ 62 ∧ -(2 ^ 62) ≤ j ∧ j < 2 ^ 62 then ret (.seq (rangeL i j)) else nope
    | _, _ => nope
  | .enum a, ρ => bnd (evE a ρ) fun v => look fun g => match v with
    | .tup xs => some (.enum (.seq xs))
    | _ => none
  | _, _ => nope
end
/-- what an except suite returns: constants, and the fields of what was caught -/
def evH : X → List MV → Option MV
  | .cst v, _ => some v
  | .err k, fs => fs[k]?
  | _, _ => none
def evHA : X → List MV → Option (List MV)
  | .nil, _ => some []
  | .cons e r, fs => match evH e fs, evHA r fs with
    | some v, some vs => some (v :: vs)
    | _, _ => none
  | _, _ => none
def evHT : X → List MV → Option MV
  | .tup as, fs => (evHA as fs).map .tup
  | e, fs => evH e fs

def okSlot (oi : Option Nat) (ρ : MSt) : Bool := match oi with
  | none => true
  | some i => decide (i < ρ.length)
def hand (c : Nat) (fs : List MV) (ρ : MSt) (g : MH) : XS → SRes
  | .hcons cs ns oi e r => if cs.contains c then (if okSlot oi ρ then (match evHT e fs with
    | some v => .ok (.ret v) g
    | none => .stuck) else .stuck) else if ns.contains c then hand c fs ρ g r else .stuck
  | .hnil => .exc c fs ρ g
  | _ => .stuck

def exS : XS → MSt → MH → SRes
  | .nil, ρ, g => .ok (.next ρ) g
  | .seq s r, ρ, g => match exS s ρ g with
    | .ok (.next ρ') g' => exS r ρ' g'
    | o => o
  | .set i e, ρ, g => sbnd (evE E e ρ) ρ (fun v g => .ok (.next (ρ.set i (some v))) g) g
  | .setT t e, ρ, g => sbnd (evE E e ρ) ρ (fun v g => match asgn t v ρ with
    | some ρ' => .ok (.next ρ') g
    | none => .stuck) g
  | .setF o a e, ρ, g => sbnd (bnd (evE E e ρ) fun w => bnd (evE E o ρ) fun v => chg (fldPut E.tab v a w)) ρ (fun _ g => .ok (.next ρ) g) g
  | .setI o i e, ρ, g => sbnd (bnd (evE E e ρ) fun w => bnd (evE E o ρ) fun v => bnd (evE E i ρ) fun j => chg (idxPut v j w)) ρ (fun _ g => .ok (.next ρ) g) g
  | .aug i op e, ρ, g => sbnd (bnd (lift (getLoc ρ i)) fun v => bnd (evE E e ρ) fun w => lift (augV op v w)) ρ (fun v g => .ok (.next (ρ.set i (some v))) g) g
  | .augI o i op e, ρ, g => sbnd (bnd (evE E o ρ) fun v => bnd (evE E i ρ) fun j => bnd (look fun g => idxG g v j) fun x => bnd (evE E e ρ) fun w => bnd (lift (augV op x w)) fun z => chg (idxPut v j z)) ρ (fun _ g => .ok (.next ρ) g) g
  | .augF o a op e, ρ, g => sbnd (bnd (evE E o ρ) fun v => bnd (look fun g => fldAt E.tab g v a) fun x => bnd (evE E e ρ) fun w => bnd (lift (augV op x w)) fun z => chg (fldPut E.tab v a z)) ρ (fun _ g => .ok (.next ρ) g) g
  | .ife c a b, ρ, g => sbnd (evT E c ρ) ρ (fun k g => if k then exS a ρ g else exS b ρ g) g
  | .whl c b, ρ, g => loopW (fun r => evT E c r) (fun r g => exS b r g) FUEL ρ g
  | .for_ t it b, ρ, g => sbnd (evI E it ρ) ρ (fun I g => loopF I (fun v r => asgn t v r) (fun r g => exS b r g) FUEL 0 ρ g) g
  | .ret e, ρ, g => sbnd (evE E e ρ) ρ (fun v g => .ok (.ret v) g) g
  | .retN, _, g => .ok (.ret .non) g
  | .ex e, ρ, g => sbnd (evE E e ρ) ρ (fun _ g => .ok (.next ρ) g) g
  | .raise c as, ρ, g => sbnd (evA E as ρ) ρ (fun vs g => .exc c vs ρ g) g
  | .pass, ρ, g => .ok (.next ρ) g
  | .brk, ρ, g => .ok (.brk ρ) g
  | .cont, ρ, g => .ok (.cont ρ) g
  | .try_ b hs, ρ, g => match exS b ρ g with
    | .exc c fs ρ' g' => hand c fs ρ' g' hs
    | o => o
  | .hnil, _, _ => .stuck
  | .hcons _ _ _ _ _, _, _ => .stuck
  | .par2 i j as, ρ, g => sbnd (evA E as ρ) ρ (fun vs g => match vs with
    | [v, w] => .ok (.next ((ρ.set i (some v)).set j (some w))) g
    | _ => .stuck) g
  | .par3 i j l as, ρ, g => sbnd (evA E as ρ) ρ (fun vs g => match vs with
    | [v, w, u] => .ok (.next (((ρ.set i (some v)).set j (some w)).set l (some u))) g
    | _ => .stuck) g
end

def runF (E : Ev) (f : FnE) (vs : List MV) : M MV := fun g =>
  if vs.length = f.ps then match exS E f.body (vs.map some ++ List.replicate (f.nl - vs.length) none) g with
    | .ok (.next _) g' => .ok .non g'
    | .ok (.ret v) g' => .ok v g'
    | .exc c fs _ g' => .exc c fs g'
    | _ => .stuck
  else .stuck
def callF (T : Tab) : Nat → Nat → List MV → M MV
  | 0, _, _ => nope
  | k + 1, f, vs => match T.fns[f]? with
    | some e => runF ⟨T, callF T k, match k with
      | 0 => fun _ _ => nope
      | j + 1 => callF T j, decide (0 < k)⟩ e vs
    | none => nope
end MP
end
section
set_option Elab.async false
set_option linter.all false
set_option autoImplicit false
/-! V: how the small language runs: what a proof about its texts rewrites with. -/
namespace MP
open PySem (Str)
def Ek (T : Tab) (k : Nat) : Ev := ⟨T, callF T k, match k with
  | 0 => fun _ _ => nope
  | j + 1 => callF T j, decide (0 < k)⟩
theorem callF_s {T : Tab} {k f : Nat} {vs : List MV} {e : FnE} (h : T.fns[f]? = some e) : callF T (k + 1) f vs = runF (Ek T k) e vs := by
  unfold callF
  rw [h]
  rfl
theorem Ek_call (T : Tab) (k : Nat) : (Ek T k).call = callF T k := rfl
theorem Ek_tab (T : Tab) (k : Nat) : (Ek T k).tab = T := rfl
theorem Ek_callm (T : Tab) (k : Nat) : (Ek T (k + 1)).callm = callF T k := rfl
theorem Ek_deep (T : Tab) (k : Nat) : (Ek T (k + 1)).deep = true := by
  show decide (0 < k + 1) = true
  simp
/-- a comprehension that changes nothing -/
theorem loopC_pure {xs : List MV} {asg : MV → Option MSt} {c : MSt → M Bool} {e : MSt → M MV} {g : MH} {p : MV → Bool} {f : MV → MV}
    (h : ∀ x ∈ xs, ∃ ρ, asg x = some ρ ∧ c ρ g = .ok (p x) g ∧ (p x = true → e ρ g = .ok (f x) g)) :
    ∀ (n i : Nat) (acc : List MV), xs.length - i < n → acc.length + (xs.length - i) ≤ SZ → loopC (.seq xs) asg c e n i acc g = .ok (acc ++ ((xs.drop i).filter p).map f) g := by
  intro n
  induction n with
  | zero => intro i acc h1; omega
  | succ n ih =>
    intro i acc h1 h2
    unfold loopC
    simp only [MIt.item]
    cases hx : xs[i]? with
    | none =>
      have := List.getElem?_eq_none_iff.mp hx
      rw [List.drop_eq_nil_of_le this]
      simp
    | some x =>
      obtain ⟨hi, ex⟩ := List.getElem?_eq_some_iff.mp hx
      obtain ⟨ρ, h3, h4, h5⟩ := h x (List.mem_of_getElem? hx)
      have hd : xs.drop i = x :: xs.drop (i + 1) := by rw [← ex]; exact List.drop_eq_getElem_cons hi
      simp only [h3, h4]
      cases hp : p x with
      | false =>
        simp only
        rw [ih (i + 1) acc (by omega) (by omega), hd, List.filter_cons_of_neg (by rw [hp]; simp)]
      | true =>
        simp only [h5 hp]
        rw [if_pos (by omega), ih (i + 1) _ (by omega) (by simp; omega), hd, List.filter_cons_of_pos hp]
        simp
theorem loopC_map {xs : List MV} {asg : MV → Option MSt} {c : MSt → M Bool} {e : MSt → M MV} {g : MH} {f : MV → MV}
    (h : ∀ x ∈ xs, ∃ ρ, asg x = some ρ ∧ c ρ g = .ok true g ∧ e ρ g = .ok (f x) g) (hl : xs.length ≤ SZ) : loopC (.seq xs) asg c e FUEL 0 [] g = .ok (xs.map f) g := by
  rw [loopC_pure (p := fun _ => true) (f := f) (fun x hx => by obtain ⟨ρ, h1, h2, h3⟩ := h x hx; exact ⟨ρ, h1, h2, fun _ => h3⟩) FUEL 0 [] (by unfold FUEL; unfold SZ at hl; omega) (by simpa using hl)]
  rw [List.filter_eq_self.mpr (fun _ _ => rfl)]
  simp
theorem loopC_filter {xs : List MV} {asg : MV → Option MSt} {c : MSt → M Bool} {e : MSt → M MV} {g : MH} {p : MV → Bool} {f : MV → MV}
    (h : ∀ x ∈ xs, ∃ ρ, asg x = some ρ ∧ c ρ g = .ok (p x) g ∧ (p x = true → e ρ g = .ok (f x) g)) (hl : xs.length ≤ SZ) : loopC (.seq xs) asg c e FUEL 0 [] g = .ok ((xs.filter p).map f) g := by
  rw [loopC_pure h FUEL 0 [] (by unfold FUEL; unfold SZ at hl; omega) (by simpa using hl)]
  simp
theorem boolsOf_map {α : Type} (f : α → Bool) : ∀ xs : List α, boolsOf (xs.map fun x => .bl (f x)) = some (xs.map f)
  | [] => rfl
  | x :: xs => by
    rw [List.map_cons, boolsOf, boolsOf_map f xs]
    rfl
theorem strsOf_map {α : Type} (f : α → Str) : ∀ xs : List α, strsOf (xs.map fun x => .str (f x)) = some (xs.map f)
  | [] => rfl
  | x :: xs => by
    rw [List.map_cons, strsOf, strsOf_map f xs]
    rfl
abbrev mk (cs : List Nat) : Str := ⟨cs.toArray⟩
theorem mk_eta (x : Str) : mk x.cps.toList = x := by
  obtain ⟨⟨l⟩⟩ := x
  rfl
theorem mk_inj {a b : List Nat} (h : mk a = mk b) : a = b := by
  have := congrArg (fun s : Str => s.cps.toList) h
  simpa using this
theorem mk_app (a b : List Nat) : mk a ++ mk b = mk (a ++ b) := by
  show PySem.Str.append _ _ = _
  simp [PySem.Str.append, mk]
theorem mk_len (a : List Nat) : (mk a).length = a.length := rfl
theorem mk_cps (a : List Nat) : (mk a).cps.toList = a := rfl
end MP
end
section
set_option Elab.async false
set_option linter.all false
set_option autoImplicit false
set_option maxRecDepth 100000
/-! R: the small language's rules, one a form, from values to values. -/
namespace MP
open PySem (Str)
section
variable {E : Ev} {ρ ρ' ρ1 ρ2 : MSt} {g g1 g2 g3 g4 : MH} {a b c e i l o s : X} {as : X} {v w u : MV} {vs ws xs ys : List MV} {k : Bool} {n m f : Nat} {r : Res MV}
def isNon : MV → Bool
  | .non => true
  | _ => false
theorem isNon_eq (v : MV) : (match v with | .non => true | _ => false) = isNon v := by cases v <;> rfl
theorem r_loc (h : getLoc ρ n = some v) : evE E (.loc n) ρ g = .ok v g := by simp only [evE, lift, h, ret]
theorem r_cst : evE E (.cst v) ρ g = .ok v g := rfl
theorem r_nil : evA E .nil ρ g = .ok [] g := rfl
theorem r_cons (h1 : evE E e ρ g = .ok v g1) (h2 : evA E as ρ g1 = .ok vs g2) : evA E (.cons e as) ρ g = .ok (v :: vs) g2 := by simp only [evA, bnd, h1, h2, ret]
theorem r_tup (h1 : evA E as ρ g = .ok vs g1) (h2 : vs.length ≤ SZ) : evE E (.tup as) ρ g = .ok (.tup vs) g1 := by simp only [evE, bnd, h1, if_pos h2, ret]
theorem r_bin {op : BOp} (h1 : evE E a ρ g = .ok v g1) (h2 : evE E b ρ g1 = .ok w g2) (h3 : binV op v w = some u) : evE E (.bin op a b) ρ g = .ok u g2 := by simp only [evE, bnd, h1, h2, h3, lift, ret]
theorem r_neg {j : Int} (h1 : evE E a ρ g = .ok (.int j) g1) : evE E (.neg a) ρ g = .ok (.int (-j)) g1 := by simp only [evE, bnd, h1, ret]
theorem r_ite_t (h1 : evT E c ρ g = .ok true g1) (h2 : evE E a ρ g1 = r) : evE E (.ite c a b) ρ g = r := by simp only [evE, bnd, h1, if_true, h2]
theorem r_ite_f (h1 : evT E c ρ g = .ok false g1) (h2 : evE E b ρ g1 = r) : evE E (.ite c a b) ρ g = r := by simp only [evE, bnd, h1, Bool.false_eq_true, if_false, h2]
theorem r_and_t (h1 : evE E a ρ g = .ok v g1) (h2 : truth g1 v = some true) (h3 : evE E b ρ g1 = r) : evE E (.and_ a b) ρ g = r := by simp only [evE, bnd, h1, look, h2, if_true, h3]
theorem r_and_f (h1 : evE E a ρ g = .ok v g1) (h2 : truth g1 v = some false) : evE E (.and_ a b) ρ g = .ok v g1 := by simp only [evE, bnd, h1, look, h2, Bool.false_eq_true, if_false, ret]
theorem r_or_t (h1 : evE E a ρ g = .ok v g1) (h2 : truth g1 v = some true) : evE E (.or_ a b) ρ g = .ok v g1 := by simp only [evE, bnd, h1, look, h2, if_true, ret]
theorem r_or_f (h1 : evE E a ρ g = .ok v g1) (h2 : truth g1 v = some false) (h3 : evE E b ρ g1 = r) : evE E (.or_ a b) ρ g = r := by simp only [evE, bnd, h1, look, h2, Bool.false_eq_true, if_false, h3]
theorem r_not (h1 : evE E a ρ g = .ok v g1) (h2 : truth g1 v = some k) : evE E (.not_ a) ρ g = .ok (.bl (!k)) g1 := by simp only [evE, bnd, h1, look, h2, ret]
theorem r_cmp {op : COp} (h1 : evE E a ρ g = .ok v g1) (h2 : evE E b ρ g1 = .ok w g2) (h3 : cmpV op g2 v w = some k) : evE E (.cmp op a b) ρ g = .ok (.bl k) g2 := by simp only [evE, bnd, h1, h2, look, h3, ret]
theorem r_isN {neg : Bool} (h1 : evE E a ρ g = .ok v g1) : evE E (.isN neg a) ρ g = .ok (.bl (neg != isNon v)) g1 := by cases v <;> simp only [evE, bnd, h1, ret, isNon]
theorem r_eqNil {neg : Bool} (h1 : evE E a ρ g = .ok v g1) (h2 : lstAt g1 v = some xs) : evE E (.eqNil neg a) ρ g = .ok (.bl (neg != xs.isEmpty)) g1 := by simp only [evE, bnd, h1, look, h2, ret]
theorem r_eqNilL {neg : Bool} (h1 : evL E l ρ g = .ok xs g1) : evE E (.eqNilL neg l) ρ g = .ok (.bl (neg != xs.isEmpty)) g1 := by simp only [evE, bnd, h1, ret]
theorem r_call (h1 : evA E as ρ g = .ok vs g1) (h2 : E.call f vs g1 = r) : evE E (.call f as) ρ g = r := by simp only [evE, bnd, h1, h2]
theorem r_meth (h1 : evE E o ρ g = .ok v g1) (h2 : methAt E.tab g1 v m = some f) (h3 : evA E as ρ g1 = .ok vs g2) (h4 : E.call f (v :: vs) g2 = r) : evE E (.meth o m as) ρ g = r := by simp only [evE, bnd, h1, look, h2, h3, h4]
theorem r_new (h0 : E.deep = true) (h1 : initOf E.tab n = some f) (h2 : evA E as ρ g = .ok vs g1) (h3 : E.callm f (.loc g1.length :: vs) (g1 ++ [.ins n []]) = .ok .non g2) : evE E (.new n as) ρ g = .ok (.loc g1.length) g2 := by
  simp only [evE, h0, if_true, bnd, lift, h1, h2, ret, alloc, h3]
theorem r_fld (h1 : evE E o ρ g = .ok v g1) (h2 : fldAt E.tab g1 v n = some w) : evE E (.fld o n) ρ g = .ok w g1 := by simp only [evE, bnd, h1, look, h2]
theorem r_idx (h1 : evE E a ρ g = .ok v g1) (h2 : evE E i ρ g1 = .ok w g2) (h3 : idxV g2 v w = some u) : evE E (.idx a i) ρ g = .ok u g2 := by simp only [evE, bnd, h1, h2, look, h3]
theorem r_o_nil : evO E .nil ρ g = .ok none g := rfl
theorem r_o {j : Int} (h : evE E e ρ g = .ok (.int j) g1) : evO E (.cons e as) ρ g = .ok (some j) g1 := by simp only [evO, bnd, h, ret]
theorem r_sl {lo hi : X} {p q : Option Int} (h1 : evE E a ρ g = .ok v g1) (h2 : evO E lo ρ g1 = .ok p g2) (h3 : evO E hi ρ g2 = .ok q g3) (h4 : slV v p q = some u) : evE E (.sl a lo hi) ρ g = .ok u g3 := by simp only [evE, bnd, h1, h2, h3, lift, h4, ret]
theorem r_rev (h1 : evE E a ρ g = .ok (.tup xs) g1) : evE E (.rev a) ρ g = .ok (.tup xs.reverse) g1 := by simp only [evE, bnd, h1, ret]
theorem r_bi1 {q : Bi1} (h1 : evE E a ρ g = .ok v g1) (h2 : bi1V q g1 v = some w) : evE E (.bi1 q a) ρ g = .ok w g1 := by simp only [evE, bnd, h1, look, h2]
theorem r_bi2 {q : Bi2} (h1 : evE E a ρ g = .ok v g1) (h2 : evE E b ρ g1 = .ok w g2) (h3 : bi2V q v w = some u) : evE E (.bi2 q a b) ρ g = .ok u g2 := by simp only [evE, bnd, h1, h2, lift, h3, ret]
theorem r_fnil {z : Str} : evF E .nil ρ z g = .ok z g := rfl
theorem r_fcons {z z1 z2 : Str} (h1 : evE E e ρ g = .ok v g1) (h2 : fmtOne z v = some z1) (h3 : evF E as ρ z1 g1 = .ok z2 g2) : evF E (.cons e as) ρ z g = .ok z2 g2 := by simp only [evF, bnd, h1, lift, h2, ret, h3]
theorem r_fstr {z : Str} (h : evF E as ρ Str.empty g = .ok z g1) : evE E (.fstr as) ρ g = .ok (.str z) g1 := by simp only [evE, bnd, h, ret]
theorem r_lst (h : evL E l ρ g = .ok xs g1) : evE E (.lstOf l) ρ g = .ok (.loc g1.length) (g1 ++ [.lst xs]) := by simp only [evE, bnd, h, alloc]
theorem r_tupL (h : evL E l ρ g = .ok xs g1) : evE E (.tupL l) ρ g = .ok (.tup xs) g1 := by simp only [evE, bnd, h, ret]
theorem r_allL {bs : List Bool} (h : evL E l ρ g = .ok xs g1) (h2 : boolsOf xs = some bs) : evE E (.allL l) ρ g = .ok (.bl (bs.all id)) g1 := by simp only [evE, bnd, h, lift, h2, ret]
theorem r_joinL {y : Str} {ss : List Str} (h1 : evE E s ρ g = .ok (.str y) g1) (h2 : evL E l ρ g1 = .ok xs g2) (h3 : strsOf xs = some ss) (h4 : lenSum ss + ss.length * y.length ≤ SZ) : evE E (.joinL s l) ρ g = .ok (.str (joinS y ss)) g2 := by
  simp only [evE, bnd, h1, h2, h3, if_pos h4, ret]
theorem r_idxL {j : Int} (h1 : evL E l ρ g = .ok xs g1) (h2 : evE E i ρ g1 = .ok (.int j) g2) (h3 : atI xs j = some v) : evE E (.idxL l i) ρ g = .ok v g2 := by simp only [evE, bnd, h1, h2, lift, h3, ret]
theorem r_lenL (h : evL E l ρ g = .ok xs g1) : evE E (.lenL l) ρ g = .ok (.int xs.length) g1 := by simp only [evE, bnd, h, ret]
theorem r_app (h1 : evE E o ρ g = .ok v g1) (h2 : lstAt g1 v = some xs) (h3 : evE E e ρ g1 = .ok w g2) (h4 : appV v w g2 = some g3) : evE E (.app o e) ρ g = .ok .non g3 := by simp only [evE, bnd, h1, look, h2, h3, chg, h4, ret]
theorem r_app_x {fs : List MV} (h1 : evE E o ρ g = .ok v g1) (h2 : lstAt g1 v = some xs) (h3 : evE E e ρ g1 = .exc n fs g2) : evE E (.app o e) ρ g = .exc n fs g2 := by simp only [evE, bnd, h1, look, h2, h3]
theorem r_tup_x {fs : List MV} (h1 : evA E as ρ g = .exc n fs g1) : evE E (.tup as) ρ g = .exc n fs g1 := by simp only [evE, bnd, h1]
theorem r_cons_x {fs : List MV} (h1 : evE E e ρ g = .exc n fs g1) : evA E (.cons e as) ρ g = .exc n fs g1 := by simp only [evA, bnd, h1]
theorem r_cons_x2 {fs : List MV} (h1 : evE E e ρ g = .ok v g1) (h2 : evA E as ρ g1 = .exc n fs g2) : evA E (.cons e as) ρ g = .exc n fs g2 := by simp only [evA, bnd, h1, h2]
theorem r_ext (h1 : evE E o ρ g = .ok v g1) (h2 : lstAt g1 v = some xs) (h3 : evL E l ρ g1 = .ok ws g2) (h4 : extV v ws g2 = some g3) : evE E (.ext o l) ρ g = .ok .non g3 := by simp only [evE, bnd, h1, look, h2, h3, chg, h4, ret]
theorem r_pop (h1 : evE E o ρ g = .ok v g1) (h2 : popV v g1 = r) : evE E (.pop o) ρ g = r := by simp only [evE, bnd, h1, h2]
theorem r_dnew : evE E .dnew ρ g = .ok (.loc g.length) (g ++ [.dic []]) := rfl
-- tests
theorem t_and_t {q : Res Bool} (h1 : evT E a ρ g = .ok true g1) (h2 : evT E b ρ g1 = q) : evT E (.and_ a b) ρ g = q := by simp only [evT, bnd, h1, if_true, h2]
theorem t_and_f (h1 : evT E a ρ g = .ok false g1) : evT E (.and_ a b) ρ g = .ok false g1 := by simp only [evT, bnd, h1, Bool.false_eq_true, if_false, ret]
theorem t_or_t (h1 : evT E a ρ g = .ok true g1) : evT E (.or_ a b) ρ g = .ok true g1 := by simp only [evT, bnd, h1, if_true, ret]
theorem t_or_f {q : Res Bool} (h1 : evT E a ρ g = .ok false g1) (h2 : evT E b ρ g1 = q) : evT E (.or_ a b) ρ g = q := by simp only [evT, bnd, h1, Bool.false_eq_true, if_false, h2]
theorem t_not_t (h1 : evT E a ρ g = .ok false g1) : evT E (.not_ a) ρ g = .ok true g1 := by simp only [evT, bnd, h1, ret]; rfl
theorem t_not_f (h1 : evT E a ρ g = .ok true g1) : evT E (.not_ a) ρ g = .ok false g1 := by simp only [evT, bnd, h1, ret]; rfl
theorem t_not (h1 : evT E a ρ g = .ok k g1) : evT E (.not_ a) ρ g = .ok (!k) g1 := by simp only [evT, bnd, h1, ret]
theorem t_cmp {op : COp} (h1 : evE E a ρ g = .ok v g1) (h2 : evE E b ρ g1 = .ok w g2) (h3 : cmpV op g2 v w = some k) : evT E (.cmp op a b) ρ g = .ok k g2 := by simp only [evT, bnd, h1, h2, look, h3]
theorem t_isN {neg : Bool} (h1 : evE E a ρ g = .ok v g1) (h2 : (neg != isNon v) = k) : evT E (.isN neg a) ρ g = .ok k g1 := by subst h2; cases v <;> simp only [evT, bnd, h1, ret, isNon]
theorem t_eqNil {neg : Bool} (h1 : evE E a ρ g = .ok v g1) (h2 : lstAt g1 v = some xs) (h3 : (neg != xs.isEmpty) = k) : evT E (.eqNil neg a) ρ g = .ok k g1 := by simp only [evT, bnd, h1, look, h2, ret, h3]
theorem t_eqNilL {neg : Bool} (h1 : evL E l ρ g = .ok xs g1) (h3 : (neg != xs.isEmpty) = k) : evT E (.eqNilL neg l) ρ g = .ok k g1 := by simp only [evT, bnd, h1, ret, h3]
theorem t_loc (h : getLoc ρ n = some v) (h2 : truth g v = some k) : evT E (.loc n) ρ g = .ok k g := by simp only [evT, bnd, lift, h, ret, look, h2]
theorem t_cst (h2 : truth g v = some k) : evT E (.cst v) ρ g = .ok k g := by simp only [evT, look, h2]
theorem t_call (h1 : evA E as ρ g = .ok vs g1) (h2 : E.call f vs g1 = .ok v g2) (h3 : truth g2 v = some k) : evT E (.call f as) ρ g = .ok k g2 := by simp only [evT, bnd, h1, h2, look, h3]
theorem t_meth (h1 : evE E o ρ g = .ok v g1) (h2 : methAt E.tab g1 v m = some f) (h3 : evA E as ρ g1 = .ok vs g2) (h4 : E.call f (v :: vs) g2 = .ok w g3) (h5 : truth g3 w = some k) : evT E (.meth o m as) ρ g = .ok k g3 := by simp only [evT, bnd, h1, look, h2, h3, h4, h5]
theorem t_fld (h1 : evE E o ρ g = .ok v g1) (h2 : fldAt E.tab g1 v n = some w) (h3 : truth g1 w = some k) : evT E (.fld o n) ρ g = .ok k g1 := by simp only [evT, bnd, h1, look, h2, h3]
theorem t_idx (h1 : evE E a ρ g = .ok v g1) (h2 : evE E i ρ g1 = .ok w g2) (h3 : idxV g2 v w = some u) (h4 : truth g2 u = some k) : evT E (.idx a i) ρ g = .ok k g2 := by simp only [evT, bnd, h1, h2, look, h3, h4]
theorem t_bi1 {q : Bi1} (h1 : evE E a ρ g = .ok v g1) (h2 : bi1V q g1 v = some w) (h3 : truth g1 w = some k) : evT E (.bi1 q a) ρ g = .ok k g1 := by simp only [evT, bnd, h1, look, h2, h3]
theorem t_allL {bs : List Bool} (h : evL E l ρ g = .ok xs g1) (h2 : boolsOf xs = some bs) (h3 : bs.all id = k) : evT E (.allL l) ρ g = .ok k g1 := by simp only [evT, bnd, h, lift, h2, ret, h3]
-- lists
theorem l_disp (h1 : evA E as ρ g = .ok vs g1) (h2 : vs.length ≤ SZ) : evL E (.disp as) ρ g = .ok vs g1 := by simp only [evL, bnd, h1, if_pos h2, ret]
theorem l_catL (h1 : evL E a ρ g = .ok xs g1) (h2 : evL E b ρ g1 = .ok ys g2) (h3 : xs.length + ys.length ≤ SZ) : evL E (.catL a b) ρ g = .ok (xs ++ ys) g2 := by simp only [evL, bnd, h1, h2, if_pos h3, ret]
theorem l_catV (h1 : evE E a ρ g = .ok v g1) (h2 : evL E b ρ g1 = .ok ys g2) (h3 : lstAt g2 v = some xs) (h4 : xs.length + ys.length ≤ SZ) : evL E (.catV a b) ρ g = .ok (xs ++ ys) g2 := by simp only [evL, bnd, h1, h2, look, h3, if_pos h4, ret]
theorem l_slL {lo hi : X} {p q : Option Int} (h1 : evE E a ρ g = .ok v g1) (h2 : evO E lo ρ g1 = .ok p g2) (h3 : evO E hi ρ g2 = .ok q g3) (h4 : slLV g3 v p q = some xs) : evL E (.slL a lo hi) ρ g = .ok xs g3 := by simp only [evL, bnd, h1, h2, h3, look, h4]
theorem l_repL {j : Int} (h1 : evL E l ρ g = .ok xs g1) (h2 : evE E e ρ g1 = .ok (.int j) g2) (h3 : -(2 ^ 63) ≤ j ∧ j < 2 ^ 63 ∧ xs.length * j.toNat ≤ SZ) : evL E (.repL l e) ρ g = .ok (List.replicate j.toNat xs).flatten g2 := by simp only [evL, bnd, h1, h2, if_pos h3, ret]
theorem l_ofV_t (h1 : evE E a ρ g = .ok (.tup xs) g1) : evL E (.ofV a) ρ g = .ok xs g1 := by simp only [evL, bnd, h1, look]
theorem l_comp0 {sl : List Nat} {tg : G} {I : MIt} {q : Res (List MV)} (h1 : evI E i ρ g = .ok I g1) (h2 : loopC I (fun v => asgn tg v (wipe ρ sl)) (fun _ => ret true) (fun r => evE E e r) FUEL 0 [] g1 = q) : evL E (.comp sl tg i .nil e) ρ g = q := by
  simp only [evL, bnd, h1]
  exact h2
theorem l_comp {sl : List Nat} {tg : G} {I : MIt} {q : Res (List MV)} (hc : c ≠ .nil) (h1 : evI E i ρ g = .ok I g1) (h2 : loopC I (fun v => asgn tg v (wipe ρ sl)) (fun r => evT E c r) (fun r => evE E e r) FUEL 0 [] g1 = q) : evL E (.comp sl tg i c e) ρ g = q := by
  simp only [evL, bnd, h1]
  cases c <;> first
    | exact absurd rfl hc
    | exact h2
-- iterators
theorem i_itV {I : MIt} (h1 : evE E a ρ g = .ok v g1) (h2 : itOf g1 v = some I) : evI E (.itV a) ρ g = .ok I g1 := by simp only [evI, bnd, h1, look, h2]
theorem i_itL (h1 : evL E l ρ g = .ok xs g1) : evI E (.itL l) ρ g = .ok (.seq xs) g1 := by simp only [evI, bnd, h1, ret]
theorem i_rng1 {j : Int} (h1 : evE E a ρ g = .ok (.int j) g1) (h2 : -(2 ^ 62) ≤ j ∧ j < 2 ^ 62) : evI E (.rng1 a) ρ g = .ok (.seq (rangeL 0 j)) g1 := by simp only [evI, bnd, h1, if_pos h2, ret]
theorem i_enum (h1 : evE E a ρ g = .ok (.tup xs) g1) : evI E (.enum a) ρ g = .ok (.enum (.seq xs)) g1 := by simp only [evI, bnd, h1, look]
-- statements
variable {q : SRes} {t t' p : XS}
theorem s_nil : exS E .nil ρ g = .ok (.next ρ) g := rfl
theorem s_seq (h1 : exS E t ρ g = .ok (.next ρ1) g1) (h2 : exS E p ρ1 g1 = q) : exS E (.seq t p) ρ g = q := by simp only [exS, h1, h2]
theorem s_seq_ret (h1 : exS E t ρ g = .ok (.ret v) g1) : exS E (.seq t p) ρ g = .ok (.ret v) g1 := by simp only [exS, h1]
theorem s_seq_exc {fs : List MV} (h1 : exS E t ρ g = .exc n fs ρ1 g1) : exS E (.seq t p) ρ g = .exc n fs ρ1 g1 := by simp only [exS, h1]
theorem s_seq_brk (h1 : exS E t ρ g = .ok (.brk ρ1) g1) : exS E (.seq t p) ρ g = .ok (.brk ρ1) g1 := by simp only [exS, h1]
theorem s_seq_cont (h1 : exS E t ρ g = .ok (.cont ρ1) g1) : exS E (.seq t p) ρ g = .ok (.cont ρ1) g1 := by simp only [exS, h1]
theorem s_set (h1 : evE E e ρ g = .ok v g1) : exS E (.set n e) ρ g = .ok (.next (ρ.set n (some v))) g1 := by simp only [exS, sbnd, h1]
theorem s_set_x {c : Nat} {fs : List MV} (h1 : evE E e ρ g = .exc c fs g1) : exS E (.set n e) ρ g = .exc c fs ρ g1 := by simp only [exS, sbnd, h1]
theorem s_setT {tg : G} (h1 : evE E e ρ g = .ok v g1) (h2 : asgn tg v ρ = some ρ1) : exS E (.setT tg e) ρ g = .ok (.next ρ1) g1 := by simp only [exS, sbnd, h1, h2]
theorem s_par2 (h1 : evA E as ρ g = .ok [v, w] g1) : exS E (.par2 n m as) ρ g = .ok (.next ((ρ.set n (some v)).set m (some w))) g1 := by simp only [exS, sbnd, h1]
theorem s_setF (h1 : evE E e ρ g = .ok w g1) (h2 : evE E o ρ g1 = .ok v g2) (h3 : fldPut E.tab v n w g2 = some g3) : exS E (.setF o n e) ρ g = .ok (.next ρ) g3 := by simp only [exS, sbnd, bnd, h1, h2, chg, h3]
theorem s_setI (h1 : evE E e ρ g = .ok w g1) (h2 : evE E o ρ g1 = .ok v g2) (h3 : evE E i ρ g2 = .ok u g3) (h4 : idxPut v u w g3 = some g4) : exS E (.setI o i e) ρ g = .ok (.next ρ) g4 := by simp only [exS, sbnd, bnd, h1, h2, h3, chg, h4]
theorem s_aug {op : BOp} (h1 : getLoc ρ n = some v) (h2 : evE E e ρ g = .ok w g1) (h3 : augV op v w = some u) : exS E (.aug n op e) ρ g = .ok (.next (ρ.set n (some u))) g1 := by simp only [exS, sbnd, bnd, lift, h1, ret, h2, h3]
theorem s_augI {op : BOp} {x z : MV} (h1 : evE E o ρ g = .ok v g1) (h2 : evE E i ρ g1 = .ok u g2) (h3 : idxG g2 v u = some x) (h4 : evE E e ρ g2 = .ok w g3) (h5 : augV op x w = some z) (h6 : idxPut v u z g3 = some g4) : exS E (.augI o i op e) ρ g = .ok (.next ρ) g4 := by
  simp only [exS, sbnd, bnd, h1, h2, look, h3, h4, lift, h5, ret, chg, h6]
theorem s_ife_t (h1 : evT E c ρ g = .ok true g1) (h2 : exS E t ρ g1 = q) : exS E (.ife c t p) ρ g = q := by simp only [exS, sbnd, h1, if_true, h2]
theorem s_ife_f (h1 : evT E c ρ g = .ok false g1) (h2 : exS E p ρ g1 = q) : exS E (.ife c t p) ρ g = q := by simp only [exS, sbnd, h1, Bool.false_eq_true, if_false, h2]
theorem s_whl (h : loopW (fun r => evT E c r) (fun r g => exS E t r g) FUEL ρ g = q) : exS E (.whl c t) ρ g = q := by simp only [exS]; exact h
theorem s_for {tg : G} {I : MIt} (h1 : evI E i ρ g = .ok I g1) (h2 : loopF I (fun v r => asgn tg v r) (fun r g => exS E t r g) FUEL 0 ρ g1 = q) : exS E (.for_ tg i t) ρ g = q := by simp only [exS, sbnd, h1]; exact h2
theorem s_ret (h1 : evE E e ρ g = .ok v g1) : exS E (.ret e) ρ g = .ok (.ret v) g1 := by simp only [exS, sbnd, h1]
theorem s_ret_x {c : Nat} {fs : List MV} (h1 : evE E e ρ g = .exc c fs g1) : exS E (.ret e) ρ g = .exc c fs ρ g1 := by simp only [exS, sbnd, h1]
theorem s_ex (h1 : evE E e ρ g = .ok v g1) : exS E (.ex e) ρ g = .ok (.next ρ) g1 := by simp only [exS, sbnd, h1]
theorem s_ex_x {c : Nat} {fs : List MV} (h1 : evE E e ρ g = .exc c fs g1) : exS E (.ex e) ρ g = .exc c fs ρ g1 := by simp only [exS, sbnd, h1]
theorem s_raise (h1 : evA E as ρ g = .ok vs g1) : exS E (.raise n as) ρ g = .exc n vs ρ g1 := by simp only [exS, sbnd, h1]
theorem s_brk : exS E .brk ρ g = .ok (.brk ρ) g := rfl
theorem s_cont : exS E .cont ρ g = .ok (.cont ρ) g := rfl
theorem s_try {hs : XS} {o : Out} (h1 : exS E t ρ g = .ok o g1) : exS E (.try_ t hs) ρ g = .ok o g1 := by simp only [exS, h1]
theorem s_try_x {hs : XS} {fs : List MV} (h1 : exS E t ρ g = .exc n fs ρ1 g1) (h2 : hand n fs ρ1 g1 hs = q) : exS E (.try_ t hs) ρ g = q := by simp only [exS, h1, h2]
-- loops
variable {cc : MSt → M Bool} {bb : MSt → MH → SRes} {I : MIt} {asg : MV → MSt → Option MSt}
theorem w_stop (h1 : cc ρ g = .ok false g1) : loopW cc bb (n + 1) ρ g = .ok (.next ρ) g1 := by simp only [loopW, h1]
theorem w_next (h1 : cc ρ g = .ok true g1) (h2 : bb ρ g1 = .ok (.next ρ1) g2) : loopW cc bb (n + 1) ρ g = loopW cc bb n ρ1 g2 := by simp only [loopW, h1, h2]
theorem w_exc {fs : List MV} {c : Nat} (h1 : cc ρ g = .ok true g1) (h2 : bb ρ g1 = .exc c fs ρ1 g2) : loopW cc bb (n + 1) ρ g = .exc c fs ρ1 g2 := by simp only [loopW, h1, h2]
theorem f_stop (h1 : I.item m g = some none) : loopF I asg bb (n + 1) m ρ g = .ok (.next ρ) g := by simp only [loopF, h1]
theorem f_next (h1 : I.item m g = some (some v)) (h2 : asg v ρ = some ρ1) (h3 : bb ρ1 g = .ok (.next ρ2) g1) : loopF I asg bb (n + 1) m ρ g = loopF I asg bb n (m + 1) ρ2 g1 := by simp only [loopF, h1, h2, h3]
theorem f_cont (h1 : I.item m g = some (some v)) (h2 : asg v ρ = some ρ1) (h3 : bb ρ1 g = .ok (.cont ρ2) g1) : loopF I asg bb (n + 1) m ρ g = loopF I asg bb n (m + 1) ρ2 g1 := by simp only [loopF, h1, h2, h3]
theorem f_brk (h1 : I.item m g = some (some v)) (h2 : asg v ρ = some ρ1) (h3 : bb ρ1 g = .ok (.brk ρ2) g1) : loopF I asg bb (n + 1) m ρ g = .ok (.next ρ2) g1 := by simp only [loopF, h1, h2, h3]
theorem f_ret (h1 : I.item m g = some (some v)) (h2 : asg v ρ = some ρ1) (h3 : bb ρ1 g = .ok (.ret w) g1) : loopF I asg bb (n + 1) m ρ g = .ok (.ret w) g1 := by simp only [loopF, h1, h2, h3]
-- calls
variable {T : Tab} {d : FnE} {kk : Nat}
theorem c_ret (h : T.fns[f]? = some d) (hl : vs.length = d.ps) (h1 : exS (Ek T kk) d.body (vs.map some ++ List.replicate (d.nl - vs.length) none) g = .ok (.ret v) g1) : callF T (kk + 1) f vs g = .ok v g1 := by
  rw [callF_s h]
  simp only [runF, if_pos hl, h1]
theorem c_next (h : T.fns[f]? = some d) (hl : vs.length = d.ps) (h1 : exS (Ek T kk) d.body (vs.map some ++ List.replicate (d.nl - vs.length) none) g = .ok (.next ρ1) g1) : callF T (kk + 1) f vs g = .ok .non g1 := by
  rw [callF_s h]
  simp only [runF, if_pos hl, h1]
theorem c_exc {fs : List MV} {c : Nat} (h : T.fns[f]? = some d) (hl : vs.length = d.ps) (h1 : exS (Ek T kk) d.body (vs.map some ++ List.replicate (d.nl - vs.length) none) g = .exc c fs ρ1 g1) : callF T (kk + 1) f vs g = .exc c fs g1 := by
  rw [callF_s h]
  simp only [runF, if_pos hl, h1]
end
end MP
end
section
set_option Elab.async false
set_option linter.all false
set_option autoImplicit false
/-! K88: the law's text in the small language, by gen.py. -/
namespace K88
open PySem (Str)
open MP (MV MO MH MSt Res X XS G)
abbrev f_is_number : Nat := 0
abbrev f_is_index : Nat := 1
abbrev f_is_word : Nat := 2
abbrev f_is_plain : Nat := 3
abbrev f_is_plain_value : Nat := 4
abbrev f_shown : Nat := 5
abbrev f_value_text : Nat := 6
abbrev f_run_value : Nat := 7
abbrev f_Valuesd__initd_ : Nat := 8
abbrev f_Values_fail : Nat := 9
abbrev f_Values_is_next : Nat := 10
abbrev f_Values_run : Nat := 11
abbrev f_Values_value : Nat := 12
abbrev f_read_value : Nat := 13
abbrev f_l_bag : Nat := 14
abbrev f_l_take : Nat := 15
abbrev f_l_some : Nat := 16
abbrev f_l_paths : Nat := 17
abbrev f_l_part_of : Nat := 18
abbrev f_l_with_part : Nat := 19
abbrev f_l_alike : Nat := 20
abbrev f_l_is_index : Nat := 21
abbrev f_l_odd : Nat := 22
abbrev f_l_spoilt : Nat := 23
abbrev f_l_is_word : Nat := 24
abbrev f_l_is_plain : Nat := 25
abbrev f_l_text : Nat := 26
abbrev f_l_value_of : Nat := 27
abbrev f_l_read : Nat := 28
abbrev f_l_come_to : Nat := 29
abbrev f_l_drawn : Nat := 30
abbrev f_law : Nat := 31
def b_is_number : XS := (.seq (.ret (.and_ (.bi1 (.inst .int) (.loc 0)) (.not_ (.bi1 (.inst .bool) (.loc 0)))))
    .nil)
def e_is_number : MP.FnE := ⟨1, 1, b_is_number⟩
def b_is_index : XS := (.seq (.ret (.and_ (.call 0 (.cons (.loc 0) .nil)) (.cmp .ge (.loc 0) (.cst (.int 0)))))
    .nil)
def e_is_index : MP.FnE := ⟨1, 1, b_is_index⟩
def b_is_word : XS := (.seq (.ife (.or_ (.not_ (.bi1 (.inst .str) (.loc 0))) (.or_ (.cmp .eq (.loc 0) (.cst (.str ("" : PySem.Str)))) (.cmp .notin (.idx (.loc 0) (.cst (.int 0))) (.cst (.str ("abcdefghijklmnopqrstuvwxyz" : PySem.Str)))))) (.seq (.ret (.cst (.bl false)))
    .nil) .nil)
    (.seq (.ret (.allL (.comp [1] (.nm 1) (.itV (.loc 0)) .nil (.cmp .isin (.loc 1) (.bin .add (.cst (.str ("abcdefghijklmnopqrstuvwxyz" : PySem.Str))) (.cst (.str ("0123456789" : PySem.Str))))))))
    .nil))
def e_is_word : MP.FnE := ⟨1, 2, b_is_word⟩
def b_is_plain : XS := (.seq (.ife (.or_ (.isN false (.loc 0)) (.call 2 (.cons (.loc 0) .nil))) (.seq (.ret (.cst (.bl true)))
    .nil) .nil)
    (.seq (.ife (.call 1 (.cons (.loc 0) .nil)) (.seq (.ret (.cmp .lt (.loc 0) (.bin .pow (.cst (.int 10)) (.cst (.int 30)))))
    .nil) .nil)
    (.seq (.ife (.or_ (.not_ (.bi1 (.inst .tuple) (.loc 0))) (.cmp .eq (.loc 1) (.cst (.int 0)))) (.seq (.ret (.cst (.bl false)))
    .nil) .nil)
    (.seq (.ret (.allL (.comp [2] (.nm 2) (.itV (.loc 0)) .nil (.call 3 (.cons (.loc 2) (.cons (.bin .sub (.loc 1) (.cst (.int 1))) .nil))))))
    .nil))))
def e_is_plain : MP.FnE := ⟨2, 3, b_is_plain⟩
def b_is_plain_value : XS := (.seq (.ret (.call 3 (.cons (.loc 0) (.cons (.cst (.int 60)) .nil))))
    .nil)
def e_is_plain_value : MP.FnE := ⟨1, 1, b_is_plain_value⟩
def b_shown : XS := (.seq (.ife (.isN false (.loc 0)) (.seq (.ret (.cst (.str ("-" : PySem.Str))))
    .nil) .nil)
    (.seq (.ife (.not_ (.bi1 (.inst .tuple) (.loc 0))) (.seq (.ret (.fstr (.cons (.loc 0) .nil)))
    .nil) .nil)
    (.seq (.set 1 (.joinL (.cst (.str (" " : PySem.Str))) (.comp [2] (.nm 2) (.itV (.loc 0)) .nil (.call 5 (.cons (.loc 2) .nil)))))
    (.seq (.ret (.fstr (.cons (.cst (.str ("(" : PySem.Str))) (.cons (.loc 1) (.cons (.cst (.str (")" : PySem.Str))) .nil)))))
    .nil))))
def e_shown : MP.FnE := ⟨1, 3, b_shown⟩
def b_value_text : XS := (.seq (.ife (.not_ (.call 4 (.cons (.loc 0) .nil))) (.seq (.raise 2 .nil)
    .nil) .nil)
    (.seq (.ret (.call 5 (.cons (.loc 0) .nil)))
    .nil))
def e_value_text : MP.FnE := ⟨1, 1, b_value_text⟩
def b_run_value : XS := (.seq (.ife (.cmp .eq (.loc 0) (.cst (.str ("-" : PySem.Str)))) (.seq (.ret (.tup (.cons (.cst .non) .nil)))
    .nil) .nil)
    (.seq (.ife (.call 2 (.cons (.loc 0) .nil)) (.seq (.ret (.tup (.cons (.loc 0) .nil)))
    .nil) .nil)
    (.seq (.ife (.or_ (.cmp .eq (.loc 0) (.cst (.str ("" : PySem.Str)))) (.or_ (.cmp .gt (.bi1 .len (.loc 0)) (.cst (.int 30))) (.not_ (.allL (.comp [1] (.nm 1) (.itV (.loc 0)) .nil (.cmp .isin (.loc 1) (.cst (.str ("0123456789" : PySem.Str))))))))) (.seq (.ret (.cst .non))
    .nil) .nil)
    (.seq (.ret (.ite (.or_ (.cmp .eq (.loc 0) (.cst (.str ("0" : PySem.Str)))) (.cmp .ne (.idx (.loc 0) (.cst (.int 0))) (.cst (.str ("0" : PySem.Str))))) (.tup (.cons (.bi1 .int (.loc 0)) .nil)) (.cst .non)))
    .nil))))
def e_run_value : MP.FnE := ⟨1, 2, b_run_value⟩
def b_Valuesd__initd_ : XS := (.seq (.setF (.loc 0) 0 (.loc 1))
    (.seq (.setF (.loc 0) 1 (.cst (.int 0)))
    .nil))
def e_Valuesd__initd_ : MP.FnE := ⟨2, 2, b_Valuesd__initd_⟩
def b_Values_fail : XS := (.seq (.raise 1 (.cons (.cst (.int 1)) (.cons (.bin .add (.fld (.loc 0) 1) (.cst (.int 1))) .nil)))
    .nil)
def e_Values_fail : MP.FnE := ⟨1, 1, b_Values_fail⟩
def b_Values_is_next : XS := (.seq (.ret (.cmp .eq (.sl (.fld (.loc 0) 0) (.cons (.fld (.loc 0) 1) .nil) (.cons (.bin .add (.fld (.loc 0) 1) (.cst (.int 1))) .nil)) (.loc 1)))
    .nil)
def e_Values_is_next : MP.FnE := ⟨2, 2, b_Values_is_next⟩
def b_Values_run : XS := (.seq (.set 1 (.fld (.loc 0) 1))
    (.seq (.whl (.and_ (.cmp .lt (.loc 1) (.bi1 .len (.fld (.loc 0) 0))) (.cmp .notin (.idx (.fld (.loc 0) 0) (.loc 1)) (.cst (.str (" ()" : PySem.Str))))) (.seq (.set 1 (.bin .add (.loc 1) (.cst (.int 1))))
    .nil))
    (.seq (.ret (.sl (.fld (.loc 0) 0) (.cons (.fld (.loc 0) 1) .nil) (.cons (.loc 1) .nil)))
    .nil)))
def e_Values_run : MP.FnE := ⟨1, 2, b_Values_run⟩
def b_Values_value : XS := (.seq (.ife (.not_ (.meth (.loc 0) 2 (.cons (.cst (.str ("(" : PySem.Str))) .nil))) (.seq (.set 2 (.call 7 (.cons (.meth (.loc 0) 3 .nil) .nil)))
    (.seq (.ife (.isN false (.loc 2)) (.seq (.ex (.meth (.loc 0) 4 .nil))
    .nil) .nil)
    (.seq (.setF (.loc 0) 1 (.bin .add (.fld (.loc 0) 1) (.bi1 .len (.meth (.loc 0) 3 .nil))))
    (.seq (.ret (.idx (.loc 2) (.cst (.int 0))))
    .nil)))) .nil)
    (.seq (.ife (.cmp .eq (.loc 1) (.cst (.int 0))) (.seq (.ex (.meth (.loc 0) 4 .nil))
    .nil) .nil)
    (.seq (.setF (.loc 0) 1 (.bin .add (.fld (.loc 0) 1) (.cst (.int 1))))
    (.seq (.set 2 (.lstOf (.disp .nil)))
    (.seq (.whl (.not_ (.meth (.loc 0) 2 (.cons (.cst (.str (")" : PySem.Str))) .nil))) (.seq (.ife (.eqNil true (.loc 2)) (.seq (.ife (.not_ (.meth (.loc 0) 2 (.cons (.cst (.str (" " : PySem.Str))) .nil))) (.seq (.ex (.meth (.loc 0) 4 .nil))
    .nil) .nil)
    (.seq (.setF (.loc 0) 1 (.bin .add (.fld (.loc 0) 1) (.cst (.int 1))))
    .nil)) .nil)
    (.seq (.ex (.app (.loc 2) (.meth (.loc 0) 5 (.cons (.bin .sub (.loc 1) (.cst (.int 1))) .nil))))
    .nil)))
    (.seq (.setF (.loc 0) 1 (.bin .add (.fld (.loc 0) 1) (.cst (.int 1))))
    (.seq (.ret (.bi1 .tuple (.loc 2)))
    .nil)))))))
def e_Values_value : MP.FnE := ⟨2, 3, b_Values_value⟩
def b_read_value : XS := (.seq (.ife (.not_ (.bi1 (.inst .str) (.loc 0))) (.seq (.raise 2 .nil)
    .nil) .nil)
    (.seq (.set 1 (.new 0 (.cons (.loc 0) .nil)))
    (.seq (.set 2 (.meth (.loc 1) 5 (.cons (.cst (.int 60)) .nil)))
    (.seq (.ife (.cmp .lt (.fld (.loc 1) 1) (.bi1 .len (.loc 0))) (.seq (.ex (.meth (.loc 1) 4 .nil))
    .nil) .nil)
    (.seq (.ret (.loc 2))
    .nil)))))
def e_read_value : MP.FnE := ⟨1, 3, b_read_value⟩
def b_l_bag : XS := (.seq (.ret (.lstOf (.disp (.cons (.cst (.int 0)) (.cons (.cst (.int 1234567891)) (.cons (.cst (.int 0)) (.cons (.lstOf (.comp [1] (.nm 1) (.itL (.slL (.loc 0) .nil (.cons (.cst (.int 63)) .nil))) .nil (.bi1 .abs (.loc 1)))) .nil)))))))
    .nil)
def e_l_bag : MP.FnE := ⟨1, 2, b_l_bag⟩
def b_l_take : XS := (.seq (.ife (.cmp .eq (.idx (.loc 0) (.cst (.int 0))) (.cst (.int 0))) (.seq (.set 2 (.idxL (.catL (.slL (.idx (.loc 0) (.cst (.int 3))) (.cons (.idx (.loc 0) (.cst (.int 2))) .nil) .nil) (.disp (.cons (.cst (.int 0)) .nil))) (.cst (.int 0))))
    (.seq (.augI (.loc 0) (.cst (.int 2)) .add (.cst (.int 1)))
    (.seq (.ife (.cmp .ge (.loc 2) (.bin .pow (.cst (.int 10)) (.cst (.int 18)))) (.seq (.setI (.loc 0) (.cst (.int 0)) (.loc 2))
    .nil) .nil)
    (.seq (.set 3 (.bin .add (.bin .add (.bin .mul (.idx (.loc 0) (.cst (.int 1))) (.cst (.int 48271))) (.bin .mod (.bi1 .int (.loc 2)) (.cst (.int 2147483647)))) (.bin .mul (.cst (.int 7919)) (.idx (.loc 0) (.cst (.int 2))))))
    (.seq (.setI (.loc 0) (.cst (.int 1)) (.bin .mod (.bi1 .int (.loc 3)) (.cst (.int 2147483647))))
    .nil))))) .nil)
    (.seq (.ife (.cmp .gt (.idx (.loc 0) (.cst (.int 0))) (.cst (.int 0))) (.seq (.set 4 (.bin .mod (.bi1 .int (.idx (.loc 0) (.cst (.int 0)))) (.loc 1)))
    (.seq (.setI (.loc 0) (.cst (.int 0)) (.bin .fdiv (.bi1 .int (.idx (.loc 0) (.cst (.int 0)))) (.loc 1)))
    (.seq (.ret (.loc 4))
    .nil))) .nil)
    (.seq (.set 5 (.bin .mod (.bi1 .int (.bin .mul (.bin .add (.idx (.loc 0) (.cst (.int 1))) (.cst (.int 1))) (.cst (.int 39373)))) (.cst (.int 1000000007))))
    (.seq (.set 6 (.bin .mod (.bi1 .int (.bin .mul (.bin .mod (.bi1 .int (.bin .mul (.loc 5) (.loc 5))) (.cst (.int 998244353))) (.cst (.int 30011)))) (.cst (.int 998244353))))
    (.seq (.ret (.bin .mod (.bi1 .int (.bin .fdiv (.loc 6) (.cst (.int 7)))) (.loc 1)))
    .nil)))))
def e_l_take : MP.FnE := ⟨2, 7, b_l_take⟩
def b_l_some : XS := (.seq (.ret (.idx (.loc 1) (.call 15 (.cons (.loc 0) (.cons (.bi1 .len (.loc 1)) .nil)))))
    .nil)
def e_l_some : MP.FnE := ⟨2, 2, b_l_some⟩
def b_l_paths : XS := (.seq (.par2 2 3 (.cons (.lstOf (.disp .nil)) (.cons (.lstOf (.disp (.cons (.tup (.cons (.tup .nil) (.cons (.loc 0) .nil))) .nil))) .nil)))
    (.seq (.whl (.and_ (.eqNil true (.loc 3)) (.cmp .lt (.bi1 .len (.loc 2)) (.loc 1))) (.seq (.setT (.tup (.cons (.nm 4) (.cons (.nm 5) .nil))) (.pop (.loc 3)))
    (.seq (.ex (.app (.loc 2) (.loc 4)))
    (.seq (.ife (.bi1 (.inst .tuple) (.loc 5)) (.seq (.ex (.ext (.loc 3) (.comp [6, 7] (.tup (.cons (.nm 6) (.cons (.nm 7) .nil))) (.enum (.loc 5)) .nil (.tup (.cons (.bin .add (.loc 4) (.tup (.cons (.loc 6) .nil))) (.cons (.loc 7) .nil))))))
    .nil) .nil)
    .nil))))
    (.seq (.ret (.loc 2))
    .nil)))
def e_l_paths : MP.FnE := ⟨2, 8, b_l_paths⟩
def b_l_part_of : XS := (.seq (.for_ (.nm 2) (.itV (.loc 1)) (.seq (.set 0 (.idx (.loc 0) (.loc 2)))
    .nil))
    (.seq (.ret (.loc 0))
    .nil))
def e_l_part_of : MP.FnE := ⟨2, 3, b_l_part_of⟩
def b_l_with_part : XS := (.seq (.ife (.cmp .eq (.loc 1) (.tup .nil)) (.seq (.ret (.loc 2))
    .nil) .nil)
    (.seq (.set 3 (.idx (.loc 1) (.cst (.int 0))))
    (.seq (.ret (.bin .add (.bin .add (.sl (.loc 0) .nil (.cons (.loc 3) .nil)) (.tup (.cons (.call 19 (.cons (.idx (.loc 0) (.loc 3)) (.cons (.sl (.loc 1) (.cons (.cst (.int 1)) .nil) .nil) (.cons (.loc 2) .nil)))) .nil))) (.sl (.loc 0) (.cons (.bin .add (.loc 3) (.cst (.int 1))) .nil) .nil)))
    .nil)))
def e_l_with_part : MP.FnE := ⟨3, 4, b_l_with_part⟩
def b_l_alike : XS := (.seq (.ret (.and_ (.cmp .eq (.bi1 .repr (.loc 0)) (.bi1 .repr (.loc 1))) (.cmp .eq (.loc 0) (.loc 1))))
    .nil)
def e_l_alike : MP.FnE := ⟨2, 2, b_l_alike⟩
def b_l_is_index : XS := (.seq (.ret (.and_ (.bi1 (.inst .int) (.loc 0)) (.and_ (.not_ (.bi1 (.inst .bool) (.loc 0))) (.cmp .ge (.loc 0) (.cst (.int 0))))))
    .nil)
def e_l_is_index : MP.FnE := ⟨1, 1, b_l_is_index⟩
def b_l_odd : XS := (.seq (.set 1 (.lstOf (.disp (.cons (.cst .non) (.cons (.cst (.bl true)) (.cons (.cst (.bl false)) (.cons (.cst (.int 0)) (.cons (.cst (.int 1)) (.cons (.cst (.int 2)) (.cons (.neg (.cst (.int 1))) (.cons (.cst (.int 7)) (.cons (.cst (.int 400)) (.cons (.bin .pow (.cst (.int 10)) (.cst (.int 25))) (.cons (.cst (.str ("" : PySem.Str))) (.cons (.cst (.str ("x" : PySem.Str))) (.cons (.cst (.str ("alike" : PySem.Str))) (.cons (.cst (.str ("below" : PySem.Str))) (.cons (.cst (.str ("is" : PySem.Str))) (.cons (.cst (.str ("met" : PySem.Str))) (.cons (.cst (.str ("sum" : PySem.Str))) (.cons (.cst (.str ("row" : PySem.Str))) (.cons (.tup .nil) (.cons (.tup (.cons (.tup .nil) .nil)) (.cons (.lstOf (.disp .nil)) (.cons (.lstOf (.disp (.cons (.cst (.str ("x" : PySem.Str))) .nil))) (.cons .dnew (.cons (.tup (.cons (.cst (.int 0)) (.cons (.tup .nil) .nil))) (.cons (.tup (.cons (.cst (.int 1)) (.cons (.tup (.cons (.tup (.cons (.cst (.int 0)) (.cons (.cst (.int 1)) .nil))) .nil)) .nil))) (.cons (.tup (.cons (.cst (.int 1)) (.cons (.tup (.cons (.tup (.cons (.cst (.int 0)) (.cons (.cst (.int 1)) .nil))) (.cons (.tup (.cons (.cst (.int 0)) (.cons (.cst (.int 2)) .nil))) .nil))) .nil))) .nil)))))))))))))))))))))))))))))
    (.seq (.set 1 (.lstOf (.catV (.loc 1) (.disp (.cons (.tup (.cons (.tup .nil) (.cons (.cst (.str ("alike" : PySem.Str))) (.cons (.tup (.cons (.cst (.int 0)) (.cons (.tup (.cons (.tup (.cons (.cst (.int 0)) (.cons (.cst (.int 1)) .nil))) .nil)) .nil))) .nil)))) (.cons (.tup (.cons (.tup .nil) (.cons (.cst (.str ("met" : PySem.Str))) (.cons (.cst (.int 0)) .nil)))) (.cons (.tup (.cons (.tup .nil) (.cons (.cst (.str ("below" : PySem.Str))) (.cons (.cst (.int 0)) (.cons (.tup (.cons (.cst (.int 0)) (.cons (.tup (.cons (.tup (.cons (.cst (.int 0)) (.cons (.cst (.int 1)) .nil))) .nil)) .nil))) (.cons (.cst (.int 2)) .nil)))))) (.cons (.tup (.cons (.tup .nil) (.cons (.cst (.str ("is" : PySem.Str))) (.cons (.cst (.int 1)) (.cons (.tup (.cons (.cst (.int 0)) (.cons (.tup (.cons (.tup (.cons (.cst (.int 0)) (.cons (.cst (.int 1)) .nil))) .nil)) .nil))) (.cons (.cst (.int 0)) .nil)))))) (.cons (.tup (.cons (.tup .nil) (.cons (.cst (.str ("not" : PySem.Str))) (.cons (.cst (.bl true)) (.cons (.tup (.cons (.cst (.int 0)) (.cons (.tup (.cons (.tup (.cons (.cst (.int 0)) (.cons (.cst (.int 1)) .nil))) .nil)) .nil))) .nil))))) (.cons (.tup (.cons (.cst (.str ("sum" : PySem.Str))) (.cons (.tup (.cons (.cst (.int 0)) (.cons (.tup (.cons (.tup (.cons (.cst (.int 0)) (.cons (.cst (.int 1)) .nil))) .nil)) .nil))) .nil))) .nil))))))))))
    (.seq (.set 1 (.lstOf (.catV (.loc 1) (.disp (.cons (.tup (.cons (.cst (.str ("cases" : PySem.Str))) (.cons (.tup (.cons (.cst (.str ("zero" : PySem.Str))) (.cons (.tup (.cons (.cst (.int 0)) (.cons (.tup (.cons (.tup (.cons (.cst (.int 0)) (.cons (.cst (.int 1)) .nil))) .nil)) .nil))) .nil))) (.cons (.tup (.cons (.tup .nil) (.cons (.tup .nil) .nil))) (.cons (.tup (.cons (.tup (.cons (.tup .nil) (.cons (.cst (.str ("alike" : PySem.Str))) (.cons (.tup (.cons (.cst (.int 0)) (.cons (.tup .nil) .nil))) .nil)))) .nil)) .nil))))) (.cons (.tup (.cons (.cst (.str ("sum" : PySem.Str))) (.cons (.tup .nil) (.cons (.tup .nil) (.cons (.tup .nil) (.cons (.tup .nil) .nil)))))) (.cons (.tup (.cons (.cst (.int 3)) (.cons (.cst (.int 1)) (.cons (.tup (.cons (.cst (.int 0)) .nil)) (.cons (.tup .nil) (.cons (.tup .nil) .nil)))))) (.cons (.tup (.cons (.tup (.cons (.cst (.int 1)) (.cons (.tup .nil) .nil))) (.cons (.tup (.cons (.cst (.int 1)) (.cons (.tup .nil) .nil))) (.cons (.tup (.cons (.cst (.int 1)) (.cons (.tup .nil) .nil))) .nil)))) .nil))))))))
    (.seq (.ret (.call 16 (.cons (.loc 0) (.cons (.loc 1) .nil))))
    .nil))))
def e_l_odd : MP.FnE := ⟨1, 2, b_l_odd⟩
def b_l_spoilt : XS := (.seq (.set 2 (.call 16 (.cons (.loc 0) (.cons (.call 17 (.cons (.loc 1) (.cons (.cst (.int 90)) .nil))) .nil))))
    (.seq (.par2 3 4 (.cons (.call 18 (.cons (.loc 1) (.cons (.loc 2) .nil))) (.cons (.call 15 (.cons (.loc 0) (.cons (.cst (.int 9)) .nil))) .nil)))
    (.seq (.ife (.and_ (.bi1 (.inst .tuple) (.loc 3)) (.and_ (.cmp .lt (.loc 4) (.cst (.int 3))) (.cmp .ne (.loc 3) (.tup .nil)))) (.seq (.ret (.call 19 (.cons (.loc 1) (.cons (.loc 2) (.cons (.ite (.cmp .eq (.loc 4) (.cst (.int 0))) (.sl (.loc 3) (.cons (.cst (.int 1)) .nil) .nil) (.ite (.cmp .eq (.loc 4) (.cst (.int 1))) (.sl (.loc 3) .nil (.cons (.neg (.cst (.int 1))) .nil)) (.rev (.loc 3)))) .nil)))))
    .nil) .nil)
    (.seq (.ife (.cmp .eq (.loc 4) (.cst (.int 3))) (.seq (.ret (.call 19 (.cons (.loc 1) (.cons (.loc 2) (.cons (.call 18 (.cons (.loc 1) (.cons (.call 16 (.cons (.loc 0) (.cons (.call 17 (.cons (.loc 1) (.cons (.cst (.int 90)) .nil))) .nil))) .nil))) .nil)))))
    .nil) .nil)
    (.seq (.ife (.cmp .eq (.loc 4) (.cst (.int 4))) (.seq (.ret (.call 19 (.cons (.loc 1) (.cons (.loc 2) (.cons (.ite (.bi1 (.inst .tuple) (.loc 3)) (.lstOf (.ofV (.loc 3))) (.bi1 .str (.loc 3))) .nil)))))
    .nil) .nil)
    (.seq (.ife (.and_ (.cmp .eq (.loc 4) (.cst (.int 5))) (.and_ (.bi1 (.inst .tuple) (.loc 3)) (.cmp .ne (.loc 3) (.tup .nil)))) (.seq (.ret (.call 19 (.cons (.loc 1) (.cons (.loc 2) (.cons (.bin .add (.loc 3) (.sl (.loc 3) (.cons (.neg (.cst (.int 1))) .nil) .nil)) .nil)))))
    .nil) .nil)
    (.seq (.ife (.and_ (.cmp .gt (.loc 4) (.cst (.int 6))) (.call 21 (.cons (.loc 3) .nil))) (.seq (.ret (.call 19 (.cons (.loc 1) (.cons (.loc 2) (.cons (.call 16 (.cons (.loc 0) (.cons (.lstOf (.disp (.cons (.bin .add (.loc 3) (.cst (.int 1))) (.cons (.bi2 .max (.cst (.int 0)) (.bin .sub (.loc 3) (.cst (.int 1)))) (.cons (.cst (.int 0)) (.cons (.cst (.int 1)) (.cons (.cmp .eq (.loc 3) (.cst (.int 1))) .nil))))))) .nil))) .nil)))))
    .nil) .nil)
    (.seq (.ret (.call 19 (.cons (.loc 1) (.cons (.loc 2) (.cons (.call 22 (.cons (.loc 0) .nil)) .nil)))))
    .nil))))))))
def e_l_spoilt : MP.FnE := ⟨2, 5, b_l_spoilt⟩
def b_l_is_word : XS := (.seq (.set 1 (.cst (.str ("abcdefghijklmnopqrstuvwxyz" : PySem.Str))))
    (.seq (.ret (.and_ (.bi1 (.inst .str) (.loc 0)) (.and_ (.cmp .ne (.loc 0) (.cst (.str ("" : PySem.Str)))) (.and_ (.cmp .isin (.idx (.loc 0) (.cst (.int 0))) (.loc 1)) (.eqNilL false (.comp [2] (.nm 2) (.itV (.loc 0)) (.cmp .notin (.loc 2) (.bin .add (.loc 1) (.cst (.str ("0123456789" : PySem.Str))))) (.loc 2)))))))
    .nil))
def e_l_is_word : MP.FnE := ⟨1, 3, b_l_is_word⟩
def b_l_is_plain : XS := (.seq (.ife (.bi1 (.inst .tuple) (.loc 0)) (.seq (.ret (.and_ (.cmp .gt (.loc 1) (.cst (.int 0))) (.eqNilL false (.comp [2] (.nm 2) (.itV (.loc 0)) (.not_ (.call 25 (.cons (.loc 2) (.cons (.bin .sub (.loc 1) (.cst (.int 1))) .nil)))) (.cst (.int 1))))))
    .nil) .nil)
    (.seq (.ret (.or_ (.isN false (.loc 0)) (.or_ (.call 24 (.cons (.loc 0) .nil)) (.and_ (.call 21 (.cons (.loc 0) .nil)) (.cmp .lt (.loc 0) (.bin .pow (.cst (.int 10)) (.cst (.int 30))))))))
    .nil))
def e_l_is_plain : MP.FnE := ⟨2, 3, b_l_is_plain⟩
def b_l_text : XS := (.seq (.ife (.bi1 (.inst .tuple) (.loc 0)) (.seq (.ret (.bin .add (.bin .add (.cst (.str ("(" : PySem.Str))) (.joinL (.cst (.str (" " : PySem.Str))) (.comp [1] (.nm 1) (.itV (.loc 0)) .nil (.call 26 (.cons (.loc 1) .nil))))) (.cst (.str (")" : PySem.Str)))))
    .nil) .nil)
    (.seq (.ret (.ite (.isN false (.loc 0)) (.cst (.str ("-" : PySem.Str))) (.bi1 .str (.loc 0))))
    .nil))
def e_l_text : MP.FnE := ⟨1, 2, b_l_text⟩
def b_l_value_of : XS := (.seq (.ife (.cmp .eq (.loc 0) (.cst (.str ("-" : PySem.Str)))) (.seq (.ret (.tup (.cons (.cst (.bl true)) (.cons (.cst .non) .nil))))
    .nil) .nil)
    (.seq (.ife (.call 24 (.cons (.loc 0) .nil)) (.seq (.ret (.tup (.cons (.cst (.bl true)) (.cons (.loc 0) .nil))))
    .nil) .nil)
    (.seq (.ife (.and_ (.eqNilL false (.comp [1] (.nm 1) (.itV (.loc 0)) (.cmp .notin (.loc 1) (.cst (.str ("0123456789" : PySem.Str)))) (.loc 1))) (.and_ (.or_ (.cmp .eq (.loc 0) (.cst (.str ("0" : PySem.Str)))) (.cmp .ne (.idx (.loc 0) (.cst (.int 0))) (.cst (.str ("0" : PySem.Str))))) (.cmp .lt (.bi1 .len (.loc 0)) (.cst (.int 31))))) (.seq (.ret (.tup (.cons (.cst (.bl true)) (.cons (.bi1 .int (.loc 0)) .nil))))
    .nil) .nil)
    (.seq (.ret (.tup (.cons (.cst (.bl false)) (.cons (.cst .non) .nil))))
    .nil))))
def e_l_value_of : MP.FnE := ⟨1, 2, b_l_value_of⟩
def b_l_read : XS := (.seq (.setT (.tup (.cons (.nm 1) (.cons (.nm 2) (.cons (.nm 3) (.cons (.nm 4) .nil))))) (.tup (.cons (.lstOf (.disp .nil)) (.cons (.cst (.bl false)) (.cons (.cst (.int 0)) (.cons (.cst .non) .nil))))))
    (.seq (.for_ (.nm 5) (.rng1 (.bin .add (.bi1 .len (.loc 0)) (.cst (.int 1)))) (.seq (.ife (.cmp .ge (.loc 3) (.bi1 .len (.loc 0))) (.seq .brk
    .nil) .nil)
    (.seq (.par2 6 7 (.cons (.idx (.loc 0) (.loc 3)) (.cons (.loc 3) .nil)))
    (.seq (.ife (.or_ (.loc 2) (.and_ (.cmp .eq (.loc 6) (.cst (.str (" " : PySem.Str)))) (.or_ (.eqNil false (.loc 1)) (.or_ (.cmp .eq (.loc 3) (.cst (.int 0))) (.or_ (.cmp .isin (.idx (.loc 0) (.bin .sub (.loc 3) (.cst (.int 1)))) (.cst (.str (" (" : PySem.Str)))) (.or_ (.cmp .ge (.bin .add (.loc 3) (.cst (.int 1))) (.bi1 .len (.loc 0))) (.cmp .isin (.idx (.loc 0) (.bin .add (.loc 3) (.cst (.int 1)))) (.cst (.str (" )" : PySem.Str)))))))))) (.seq (.ret (.tup (.cons (.cst (.str ("bad" : PySem.Str))) (.cons (.bin .add (.loc 3) (.cst (.int 1))) .nil))))
    .nil) .nil)
    (.seq (.ife (.cmp .eq (.loc 6) (.cst (.str (" " : PySem.Str)))) (.seq (.aug 3 .add (.cst (.int 1)))
    (.seq .cont
    .nil)) .nil)
    (.seq (.ife (.and_ (.eqNil true (.loc 1)) (.and_ (.eqNil true (.idx (.loc 1) (.neg (.cst (.int 1))))) (.and_ (.cmp .ne (.loc 6) (.cst (.str (")" : PySem.Str)))) (.cmp .ne (.idx (.loc 0) (.bin .sub (.loc 3) (.cst (.int 1)))) (.cst (.str (" " : PySem.Str))))))) (.seq (.ret (.tup (.cons (.cst (.str ("bad" : PySem.Str))) (.cons (.bin .add (.loc 3) (.cst (.int 1))) .nil))))
    .nil) .nil)
    (.seq (.ife (.cmp .eq (.loc 6) (.cst (.str ("(" : PySem.Str)))) (.seq (.ex (.app (.loc 1) (.lstOf (.disp .nil))))
    (.seq (.aug 3 .add (.cst (.int 1)))
    (.seq .cont
    .nil))) .nil)
    (.seq (.ife (.cmp .eq (.loc 6) (.cst (.str (")" : PySem.Str)))) (.seq (.ife (.eqNil false (.loc 1)) (.seq (.ret (.tup (.cons (.cst (.str ("bad" : PySem.Str))) (.cons (.bin .add (.loc 3) (.cst (.int 1))) .nil))))
    .nil) .nil)
    (.seq (.par2 4 3 (.cons (.bi1 .tuple (.pop (.loc 1))) (.cons (.bin .add (.loc 3) (.cst (.int 1))) .nil)))
    .nil)) (.seq (.whl (.and_ (.cmp .lt (.loc 3) (.bi1 .len (.loc 0))) (.cmp .notin (.idx (.loc 0) (.loc 3)) (.cst (.str (" ()" : PySem.Str))))) (.seq (.aug 3 .add (.cst (.int 1)))
    .nil))
    (.seq (.setT (.tup (.cons (.nm 8) (.cons (.nm 4) .nil))) (.call 27 (.cons (.sl (.loc 0) (.cons (.loc 7) .nil) (.cons (.loc 3) .nil)) .nil)))
    (.seq (.ife (.not_ (.loc 8)) (.seq (.ret (.tup (.cons (.cst (.str ("bad" : PySem.Str))) (.cons (.bin .add (.loc 7) (.cst (.int 1))) .nil))))
    .nil) .nil)
    .nil))))
    (.seq (.ife (.eqNil false (.loc 1)) (.seq (.set 2 (.cst (.bl true)))
    .nil) (.seq (.ex (.app (.idx (.loc 1) (.neg (.cst (.int 1)))) (.loc 4)))
    .nil))
    .nil)))))))))
    (.seq (.ret (.ite (.loc 2) (.tup (.cons (.cst (.str ("told" : PySem.Str))) (.cons (.loc 4) .nil))) (.tup (.cons (.cst (.str ("bad" : PySem.Str))) (.cons (.bin .add (.bi1 .len (.loc 0)) (.cst (.int 1))) .nil)))))
    .nil)))
def e_l_read : MP.FnE := ⟨1, 9, b_l_read⟩
def b_l_come_to : XS := (.seq (.try_ (.seq (.ret (.tup (.cons (.cst (.str ("told" : PySem.Str))) (.cons (.ite (.cmp .eq (.loc 0) (.cst (.int 0))) (.call 6 (.cons (.loc 1) .nil)) (.call 13 (.cons (.loc 1) .nil))) .nil))))
    .nil) (.hcons [2] [0, 1] none (.tup (.cons (.cst (.str ("nothing" : PySem.Str))) .nil)) (.hcons [1] [0, 2] (some 2) (.tup (.cons (.cst (.str ("bad" : PySem.Str))) (.cons (.err 0) (.cons (.err 1) .nil)))) .hnil)))
    .nil)
def e_l_come_to : MP.FnE := ⟨2, 3, b_l_come_to⟩
def b_l_drawn : XS := (.seq (.set 2 (.call 15 (.cons (.loc 0) (.cons (.cst (.int 6)) .nil))))
    (.seq (.ife (.and_ (.cmp .lt (.loc 2) (.cst (.int 2))) (.cmp .gt (.loc 1) (.cst (.int 0)))) (.seq (.ret (.tupL (.comp [3] (.nm 3) (.rng1 (.call 15 (.cons (.loc 0) (.cons (.cst (.int 4)) .nil)))) .nil (.call 30 (.cons (.loc 0) (.cons (.bin .sub (.loc 1) (.cst (.int 1))) .nil))))))
    .nil) .nil)
    (.seq (.ret (.call 16 (.cons (.loc 0) (.cons (.lstOf (.disp (.cons (.cst .non) (.cons (.cst (.int 0)) (.cons (.cst (.int 7)) (.cons (.bin .sub (.bin .pow (.cst (.int 10)) (.cst (.int 30))) (.cst (.int 1))) (.cons (.cst (.str ("a" : PySem.Str))) (.cons (.cst (.str ("fixed" : PySem.Str))) (.cons (.cst (.str ("x9" : PySem.Str))) (.cons (.cst (.str ("alike" : PySem.Str))) (.cons (.cst (.int 41)) .nil))))))))))) .nil))))
    .nil)))
def e_l_drawn : MP.FnE := ⟨2, 4, b_l_drawn⟩
def b_law : XS := (.seq (.set 1 (.call 14 (.cons (.loc 0) .nil)))
    (.seq (.for_ (.nm 2) (.rng1 (.cst (.int 20))) (.seq (.set 3 (.call 30 (.cons (.loc 1) (.cons (.cst (.int 3)) .nil))))
    (.seq (.set 4 (.call 26 (.cons (.loc 3) .nil)))
    (.seq (.ife (.not_ (.call 20 (.cons (.lstOf (.disp (.cons (.call 4 (.cons (.loc 3) .nil)) (.cons (.call 6 (.cons (.loc 3) .nil)) (.cons (.call 13 (.cons (.loc 4) .nil)) .nil))))) (.cons (.lstOf (.disp (.cons (.cst (.bl true)) (.cons (.loc 4) (.cons (.loc 3) .nil))))) .nil)))) (.seq (.ret (.cst (.bl false)))
    .nil) .nil)
    (.seq (.for_ (.nm 5) (.itL (.disp (.cons (.call 23 (.cons (.loc 1) (.cons (.tup (.cons (.loc 3) .nil)) .nil))) (.cons (.call 22 (.cons (.loc 1) .nil)) (.cons (.bin .pow (.cst (.int 10)) (.cst (.int 30))) (.cons (.neg (.cst (.int 1))) (.cons (.cst (.bl true)) (.cons (.cst (.str ("" : PySem.Str))) (.cons (.cst (.str ("A" : PySem.Str))) (.cons (.cst (.str ("9a" : PySem.Str))) (.cons (.cst (.str ("a b" : PySem.Str))) (.cons (.lstOf (.disp (.cons (.loc 3) .nil))) (.cons (.tup (.cons (.loc 3) (.cons (.lstOf (.disp .nil)) .nil))) .nil))))))))))))) (.seq (.set 6 (.call 25 (.cons (.loc 5) (.cons (.cst (.int 60)) .nil))))
    (.seq (.ife (.or_ (.cmp .ne (.call 4 (.cons (.loc 5) .nil)) (.loc 6)) (.cmp .ne (.call 29 (.cons (.cst (.int 0)) (.cons (.loc 5) .nil))) (.ite (.loc 6) (.tup (.cons (.cst (.str ("told" : PySem.Str))) (.cons (.call 26 (.cons (.loc 5) .nil)) .nil))) (.tup (.cons (.cst (.str ("nothing" : PySem.Str))) .nil))))) (.seq (.ret (.cst (.bl false)))
    .nil) .nil)
    .nil)))
    (.seq (.set 7 (.call 15 (.cons (.loc 1) (.cons (.bin .add (.bi1 .len (.loc 4)) (.cst (.int 1))) .nil))))
    (.seq (.set 8 (.bin .add (.bin .add (.sl (.loc 4) .nil (.cons (.loc 7) .nil)) (.call 16 (.cons (.loc 1) (.cons (.lstOf (.disp (.cons (.cst (.str ("" : PySem.Str))) (.cons (.cst (.str (" " : PySem.Str))) (.cons (.cst (.str ("(" : PySem.Str))) (.cons (.cst (.str (")" : PySem.Str))) (.cons (.cst (.str ("-" : PySem.Str))) (.cons (.cst (.str ("0" : PySem.Str))) (.cons (.cst (.str ("a" : PySem.Str))) (.cons (.cst (.str ("A" : PySem.Str))) (.cons (.cst (.str ("*" : PySem.Str))) .nil))))))))))) .nil)))) (.sl (.loc 4) (.cons (.bin .add (.loc 7) (.call 15 (.cons (.loc 1) (.cons (.cst (.int 2)) .nil)))) .nil) .nil)))
    (.seq (.set 9 (.call 28 (.cons (.loc 8) .nil)))
    (.seq (.set 10 (.call 29 (.cons (.cst (.int 1)) (.cons (.loc 8) .nil))))
    (.seq (.ife (.or_ (.cmp .ne (.idx (.loc 10) (.cst (.int 0))) (.idx (.loc 9) (.cst (.int 0)))) (.and_ (.cmp .eq (.idx (.loc 9) (.cst (.int 0))) (.cst (.str ("told" : PySem.Str)))) (.or_ (.not_ (.call 20 (.cons (.idx (.loc 10) (.cst (.int 1))) (.cons (.idx (.loc 9) (.cst (.int 1))) .nil)))) (.cmp .ne (.call 6 (.cons (.idx (.loc 9) (.cst (.int 1))) .nil)) (.loc 8))))) (.seq (.ret (.cst (.bl false)))
    .nil) .nil)
    .nil))))))))))
    (.seq (.set 11 (.cst .non))
    (.seq (.for_ (.nm 12) (.rng1 (.cst (.int 60))) (.seq (.set 11 (.tup (.cons (.loc 11) .nil)))
    .nil))
    (.seq (.set 10 (.lstOf (.disp (.cons (.call 4 (.cons (.loc 11) .nil)) (.cons (.call 4 (.cons (.tup (.cons (.loc 11) .nil)) .nil)) (.cons (.cmp .eq (.call 13 (.cons (.call 26 (.cons (.loc 11) .nil)) .nil)) (.loc 11)) .nil))))))
    (.seq (.ret (.and_ (.cmp .eq (.loc 10) (.lstOf (.disp (.cons (.cst (.bl true)) (.cons (.cst (.bl false)) (.cons (.cst (.bl true)) .nil)))))) (.cmp .eq (.lstOf (.comp [13] (.nm 13) (.itV (.tup (.cons (.cst .non) (.cons (.cst (.int 1)) (.cons (.tup (.cons (.cst (.str ("x" : PySem.Str))) .nil)) .nil))))) .nil (.call 29 (.cons (.cst (.int 1)) (.cons (.loc 13) .nil))))) (.lstOf (.repL (.disp (.cons (.tup (.cons (.cst (.str ("nothing" : PySem.Str))) .nil)) .nil)) (.cst (.int 3)))))))
    .nil))))))
def e_law : MP.FnE := ⟨1, 14, b_law⟩
def T : MP.Tab := ⟨[e_is_number, e_is_index, e_is_word, e_is_plain, e_is_plain_value, e_shown, e_value_text, e_run_value, e_Valuesd__initd_, e_Values_fail, e_Values_is_next, e_Values_run, e_Values_value, e_read_value, e_l_bag, e_l_take, e_l_some, e_l_paths, e_l_part_of, e_l_with_part, e_l_alike, e_l_is_index, e_l_odd, e_l_spoilt, e_l_is_word, e_l_is_plain, e_l_text, e_l_value_of, e_l_read, e_l_come_to, e_l_drawn, e_law], [⟨[(4, 9), (2, 10), (3, 11), (5, 12)], [0, 1], 8⟩]⟩
-- attrs: 0 text, 1 at, 2 is_next, 3 run, 4 fail, 5 value, 6 __init__
-- is_number: 0 thing
-- is_index: 0 thing
-- is_word: 0 thing, 1 sign
-- is_plain: 0 thing, 1 levels, 2 part
-- is_plain_value: 0 thing
-- shown: 0 value, 1 parts, 2 part
-- value_text: 0 thing
-- run_value: 0 run, 1 sign
-- Valuesd__initd_: 0 self, 1 text
-- Values_fail: 0 self
-- Values_is_next: 0 self, 1 sign
-- Values_run: 0 self, 1 end
-- Values_value: 0 self, 1 levels, 2 found
-- read_value: 0 text, 1 reader, 2 found
-- l_bag: 0 script, 1 cell
-- l_take: 0 bag, 1 many, 2 cell, 3 stirred, 4 drawn, 5 begin, 6 second
-- l_some: 0 bag, 1 things
-- l_paths: 0 thing, 1 most, 2 found, 3 line, 4 path, 5 part, 6 k, 7 one
-- l_part_of: 0 thing, 1 path, 2 k
-- l_with_part: 0 thing, 1 path, 2 new, 3 k
-- l_alike: 0 found, 1 due
-- l_is_index: 0 thing
-- l_odd: 0 bag, 1 some
-- l_spoilt: 0 bag, 1 thing, 2 path, 3 part, 4 way
-- l_is_word: 0 thing, 1 letters, 2 sign
-- l_is_plain: 0 thing, 1 deep, 2 one
-- l_text: 0 thing, 1 one
-- l_value_of: 0 run, 1 sign
-- l_read: 0 text, 1 line, 2 done, 3 at, 4 value, 5 lap, 6 sign, 7 begin, 8 good
-- l_come_to: 0 way, 1 thing, 2 error
-- l_drawn: 0 bag, 1 deep, 2 way, 3 k
-- law: 0 script, 1 bag, 2 turn, 3 thing, 4 text, 5 other, 6 good, 7 at, 8 bent, 9 due, 10 found, 11 nested, 12 lap, 13 one
end K88
end
section
set_option Elab.async false
set_option linter.all false
set_option autoImplicit false
set_option maxRecDepth 100000
set_option maxHeartbeats 1000000
namespace K88
open PySem (Str)
open MP
/-- the values that are asked about -/
inductive Wf (g : MH) : MV → Prop
  | non : Wf g .non
  | bl (b) : Wf g (.bl b)
  | int (i) : Wf g (.int i)
  | str (x) : x.length ≤ SZ → Wf g (.str x)
  | tup (xs) : xs.length ≤ SZ → (∀ x ∈ xs, Wf g x) → Wf g (.tup xs)
  | lst (l xs) : g[l]? = some (.lst xs) → Wf g (.loc l)
  | dic (l xs) : g[l]? = some (.dic xs) → Wf g (.loc l)
def isI : MV → Bool
  | .bl _ => true
  | .int _ => true
  | _ => false
def isB : MV → Bool
  | .bl _ => true
  | _ => false
def isS : MV → Bool
  | .str _ => true
  | _ => false
def isT : MV → Bool
  | .tup _ => true
  | _ => false
def isNum : MV → Bool
  | .int _ => true
  | _ => false
def isIdx : MV → Bool
  | .int i => decide (0 ≤ i)
  | _ => false
section
variable {g : MH} {v : MV}
theorem Wf.bi_i (h : Wf g v) : bi1V (.inst .int) g v = some (.bl (isI v)) := by
  cases h <;> first
    | rfl
    | (rename_i h; simp only [bi1V, isinst, h]; rfl)
theorem Wf.bi_b (h : Wf g v) : bi1V (.inst .bool) g v = some (.bl (isB v)) := by
  cases h <;> first
    | rfl
    | (rename_i h; simp only [bi1V, isinst, h]; rfl)
theorem Wf.bi_s (h : Wf g v) : bi1V (.inst .str) g v = some (.bl (isS v)) := by
  cases h <;> first
    | rfl
    | (rename_i h; simp only [bi1V, isinst, h]; rfl)
theorem Wf.bi_t (h : Wf g v) : bi1V (.inst .tuple) g v = some (.bl (isT v)) := by
  cases h <;> first
    | rfl
    | (rename_i h; simp only [bi1V, isinst, h]; rfl)
theorem is_number (k : Nat) (h : Wf g v) : callF T (k + 1) f_is_number [v] g = .ok (.bl (isNum v)) g := by
  refine c_ret rfl rfl (s_seq_ret (s_ret ?_))
  have h1 := h.bi_i
  have h2 := h.bi_b
  cases v <;> first
   | exact r_and_f (r_bi1 (r_loc rfl) h1) rfl
   | exact r_and_t (r_bi1 (r_loc rfl) h1) rfl (r_not (r_bi1 (r_loc rfl) h2) rfl)
theorem is_index (k : Nat) (h : Wf g v) : callF T (k + 2) f_is_index [v] g = .ok (.bl (isIdx v)) g := by
  refine c_ret rfl rfl (s_seq_ret (s_ret ?_))
  have h1 := is_number k h
  cases v <;> first
   | exact r_and_f (r_call (r_cons (r_loc rfl) r_nil) h1) rfl
   | exact r_and_t (r_call (r_cons (r_loc rfl) r_nil) h1) rfl (r_cmp (r_loc rfl) r_cst rfl)
theorem l_is_index (k : Nat) (h : Wf g v) : callF T (k + 1) f_l_is_index [v] g = .ok (.bl (isIdx v)) g := by
  refine c_ret rfl rfl (s_seq_ret (s_ret ?_))
  have h1 := h.bi_i
  have h2 := h.bi_b
  cases v <;> first
   | exact r_and_f (r_bi1 (r_loc rfl) h1) rfl
   | exact r_and_t (r_bi1 (r_loc rfl) h1) rfl (r_and_f (r_not (r_bi1 (r_loc rfl) h2) rfl) rfl)
   | exact r_and_t (r_bi1 (r_loc rfl) h1) rfl (r_and_t (r_not (r_bi1 (r_loc rfl) h2) rfl) rfl (r_cmp (r_loc rfl) r_cst rfl))
end
abbrev sLET : Str := "abcdefghijklmnopqrstuvwxyz"
abbrev sDIG : Str := "0123456789"
def letL : List Nat := [97, 98, 99, 100, 101, 102, 103, 104, 105, 106, 107, 108, 109, 110, 111, 112, 113, 114, 115, 116, 117, 118, 119, 120, 121, 122]
def digL : List Nat := [48, 49, 50, 51, 52, 53, 54, 55, 56, 57]
theorem sLET_eq : sLET = mk letL := by decide +kernel
theorem sDIG_eq : sDIG = mk digL := by decide +kernel
theorem sEMP_eq : (Str.ofString "") = mk [] := by decide +kernel
theorem alnum_eq : binV .add (.str sLET) (.str sDIG) = some (.str (mk (letL ++ digL))) := by
  have e : sLET ++ sDIG = mk (letL ++ digL) := by decide +kernel
  have l : sLET.length + sDIG.length ≤ SZ := by decide +kernel
  simp only [binV]
  rw [if_pos l, e]
def wordL : List Nat → Bool
  | [] => false
  | c :: r => decide (c ∈ letL) && (c :: r).all fun d => decide (d ∈ letL ++ digL)
theorem wordL_cons (c : Nat) (r : List Nat) : wordL (c :: r) = (decide (c ∈ letL) && (c :: r).all fun d => decide (d ∈ letL ++ digL)) := rfl
def isWord : MV → Bool
  | .str x => wordL x.cps.toList
  | _ => false
section
variable {g : MH} {v : MV} {c : Nat} {cs : List Nat} {b : Bool}
theorem in1 (h : decide (c ∈ cs) = b) : cmpV .isin g (.str ⟨#[c]⟩) (.str (mk cs)) = some b := by
  subst h
  rfl
theorem notin1 (h : (!decide (c ∈ cs)) = b) : cmpV .notin g (.str ⟨#[c]⟩) (.str (mk cs)) = some b := by
  subst h
  rfl
theorem eqS {x y : List Nat} (h : decide (x = y) = b) : cmpV .eq g (.str (mk x)) (.str (mk y)) = some b := by
  subst h
  show some (decide (mk x = mk y)) = _
  exact congrArg some (decide_eq_decide.mpr ⟨fun h => mk_inj h, fun h => h ▸ rfl⟩)
theorem neS {x y : List Nat} (h : (!decide (x = y)) = b) : cmpV .ne g (.str (mk x)) (.str (mk y)) = some b := by
  show (cmpV .eq g (.str (mk x)) (.str (mk y))).map (!·) = _
  rw [eqS rfl, ← h]
  rfl
theorem idx0 {r : List Nat} (h : (c :: r).length ≤ SZ) : idxV g (.str (mk (c :: r))) (.int 0) = some (.str ⟨#[c]⟩) := by
  show (if (c :: r).length ≤ SZ then (atI (c :: r) 0).map fun c => MV.str ⟨#[c]⟩ else none) = _
  rw [if_pos h]
  simp [atI, ixN]
theorem charsOf_mk : charsOf (mk cs) = cs.map fun c => .str ⟨#[c]⟩ := rfl
def hd1 : MV → Nat
  | .str s => s.cps.toList.headD 0
  | _ => 0
theorem is_word_s (k : Nat) (h : cs.length ≤ SZ) : callF T (k + 1) f_is_word [.str (mk cs)] g = .ok (.bl (wordL cs)) g := by
  cases cs with
  | nil =>
    refine c_ret rfl rfl (s_seq_ret (s_ife_t (t_or_f (t_not_f (t_bi1 (r_loc rfl) rfl rfl)) (t_or_t (t_cmp (r_loc rfl) r_cst ?_))) (s_seq_ret (s_ret r_cst))))
    rw [sEMP_eq]
    exact eqS rfl
  | cons c r =>
    have q : evL (Ek T k) (.comp [1] (.nm 1) (.itV (.loc 0)) .nil (.cmp .isin (.loc 1) (.bin .add (.cst (.str sLET)) (.cst (.str sDIG))))) [some (.str (mk (c :: r))), none] g = .ok ((c :: r).map fun d => .bl (decide (d ∈ letL ++ digL))) g := by
      refine l_comp0 (i_itV (r_loc rfl) rfl) ?_
      rw [charsOf_mk, loopC_map (f := fun x => .bl (decide (hd1 x ∈ letL ++ digL)))]
      · rw [List.map_map]
        rfl
      · intro x hx
        obtain ⟨d, hd, rfl⟩ := List.mem_map.mp hx
        exact ⟨_, rfl, rfl, r_cmp (r_loc rfl) (r_bin r_cst r_cst alnum_eq) (in1 rfl)⟩
      · rw [List.length_map]
        exact h
    have e0 : cmpV .eq g (.str (mk (c :: r))) (.str (Str.ofString "")) = some false := by rw [sEMP_eq]; exact eqS (decide_eq_false (by simp))
    cases hc : decide (c ∈ letL) with
    | false =>
      refine c_ret rfl rfl (s_seq_ret (s_ife_t (t_or_f (t_not_f (t_bi1 (r_loc rfl) rfl rfl)) (t_or_f (t_cmp (r_loc rfl) r_cst e0) (t_cmp (r_idx (r_loc rfl) r_cst (idx0 h)) r_cst ?_))) (s_seq_ret (s_ret ?_))))
      · show cmpV .notin g (.str ⟨#[c]⟩) (.str sLET) = _
        rw [sLET_eq]
        exact notin1 (by rw [hc]; rfl)
      · rw [wordL_cons, hc]
        exact r_cst
    | true =>
      refine c_ret rfl rfl (s_seq (s_ife_f (t_or_f (t_not_f (t_bi1 (r_loc rfl) rfl rfl)) (t_or_f (t_cmp (r_loc rfl) r_cst e0) (t_cmp (r_idx (r_loc rfl) r_cst (idx0 h)) r_cst ?_))) s_nil) (s_seq_ret (s_ret ?_)))
      · show cmpV .notin g (.str ⟨#[c]⟩) (.str sLET) = _
        rw [sLET_eq]
        exact notin1 (by rw [hc]; rfl)
      · have e : wordL (c :: r) = ((c :: r).map fun d => decide (d ∈ letL ++ digL)).all id := by
          rw [wordL_cons, hc, List.all_map]
          rfl
        rw [e]
        exact r_allL q (boolsOf_map _ _)
theorem is_word (k : Nat) (h : Wf g v) : callF T (k + 1) f_is_word [v] g = .ok (.bl (isWord v)) g := by
  by_cases hs : isS v = true
  · cases v with
    | str x =>
      cases h with
      | str _ h =>
        have q := is_word_s (g := g) (cs := x.cps.toList) k (by rw [Array.length_toList]; exact h)
        rw [mk_eta] at q
        exact q
    | _ => exact absurd hs (by simp [isS])
  · have e : isS v = false := by simpa using hs
    have e2 : isWord v = false := by cases v <;> first | rfl | exact absurd rfl hs
    rw [e2]
    have q := h.bi_s
    rw [e] at q
    exact c_ret rfl rfl (s_seq_ret (s_ife_t (t_or_t (t_not_t (t_bi1 (r_loc rfl) q rfl))) (s_seq_ret (s_ret r_cst))))
theorem noneOut {α β : Type} (p : β → Bool) (f : α → β) : ∀ xs : List α, (false != ((xs.map f).filter fun x => !p x).isEmpty) = xs.all fun d => p (f d)
  | [] => rfl
  | x :: xs => by
    rw [List.map_cons, List.all_cons, ← noneOut p f xs]
    cases h : p (f x) <;> simp [h]
theorem l_is_word (k : Nat) (h : Wf g v) : callF T (k + 1) f_l_is_word [v] g = .ok (.bl (isWord v)) g := by
  refine c_ret rfl rfl (s_seq (s_set r_cst) (s_seq_ret (s_ret ?_)))
  have hb := h.bi_s
  cases v with
  | str x =>
    obtain ⟨⟨cs⟩⟩ := x
    have hl : cs.length ≤ SZ := by cases h with | str _ h => exact h
    refine r_and_t (r_bi1 (r_loc rfl) hb) rfl ?_
    cases cs with
    | nil =>
      have e0 : cmpV .ne g (.str (mk [])) (.str (Str.ofString "")) = some false := by rw [sEMP_eq]; exact neS rfl
      exact r_and_f (r_cmp (r_loc rfl) r_cst e0) rfl
    | cons c r =>
      have e0 : cmpV .ne g (.str (mk (c :: r))) (.str (Str.ofString "")) = some true := by rw [sEMP_eq]; exact neS (by simp)
      have e1 : cmpV .isin g (.str ⟨#[c]⟩) (.str sLET) = some (decide (c ∈ letL)) := by rw [sLET_eq]; exact in1 rfl
      refine r_and_t (r_cmp (r_loc rfl) r_cst e0) rfl ?_
      show evE _ _ _ _ = .ok (.bl (wordL (c :: r))) g
      rw [wordL_cons]
      cases hc : decide (c ∈ letL) with
      | false =>
        rw [hc] at e1
        exact r_and_f (r_cmp (r_idx (r_loc rfl) r_cst (idx0 hl)) (r_loc rfl) e1) rfl
      | true =>
        rw [hc] at e1
        refine r_and_t (r_cmp (r_idx (r_loc rfl) r_cst (idx0 hl)) (r_loc rfl) e1) rfl ?_
        have q : evL (Ek T k) (.comp [2] (.nm 2) (.itV (.loc 0)) (.cmp .notin (.loc 2) (.bin .add (.loc 1) (.cst (.str sDIG)))) (.loc 2)) [some (.str (mk (c :: r))), some (.str sLET), none] g = .ok (((c :: r).map fun d => .str ⟨#[d]⟩ : List MV).filter fun x => !decide (hd1 x ∈ letL ++ digL)) g := by
          refine l_comp (by intro h; cases h) (i_itV (r_loc rfl) rfl) ?_
          rw [charsOf_mk, loopC_filter (p := fun x => !decide (hd1 x ∈ letL ++ digL)) (f := id)]
          · rw [List.map_id]
          · intro x hx
            obtain ⟨d, hd, rfl⟩ := List.mem_map.mp hx
            exact ⟨_, rfl, t_cmp (r_loc rfl) (r_bin (r_loc rfl) r_cst alnum_eq) (notin1 rfl), fun _ => r_loc rfl⟩
          · rw [List.length_map]
            exact hl
        have e := r_eqNilL (neg := false) q
        have z : (false != (((c :: r).map fun d => (.str ⟨#[d]⟩ : MV)).filter fun x => !decide (hd1 x ∈ letL ++ digL)).isEmpty) = (true && (c :: r).all fun d => decide (d ∈ letL ++ digL)) := by
          rw [Bool.true_and, noneOut fun x => decide (hd1 x ∈ letL ++ digL)]
          rfl
        rw [z] at e
        exact e
  | _ => exact r_and_f (r_bi1 (r_loc rfl) hb) rfl
end
/-! ### plain values -/
def leafB : MV → Bool
  | .non => true
  | .str x => wordL x.cps.toList
  | .int i => decide (0 ≤ i) && decide (i < 10 ^ 30)
  | _ => false
def plainB : Nat → MV → Bool
  | 0, v => leafB v
  | n + 1, v => match v with
    | .tup xs => xs.all (plainB n)
    | v => leafB v
theorem plainB_tup (n : Nat) (xs : List MV) : plainB (n + 1) (.tup xs) = xs.all (plainB n) := rfl
theorem plainB_leaf {v : MV} (h : isT v = false) (n : Nat) : plainB n v = leafB v := by
  cases n <;> cases v <;> first | rfl | exact absurd h (by simp [isT])
theorem leafB_eq (v : MV) : leafB v = (isNon v || isWord v || (isIdx v && match v with | .int i => decide (i < 10 ^ 30) | _ => false)) := by
  cases v <;> simp [leafB, isNon, isWord, isIdx]
theorem pow30 : binV .pow (.int 10) (.int 30) = some (.int (10 ^ 30)) := rfl
theorem is_plain_leaf {g : MH} {k : Nat} {v n : MV} (h : Wf g v) (ht : isT v = false) : callF T (k + 3) f_is_plain [v, n] g = .ok (.bl (leafB v)) g := by
  have hw := is_word (k + 1) h
  have hi := is_index k h
  have htt := h.bi_t
  rw [ht] at htt
  rw [leafB_eq]
  cases hn : isNon v with
  | true => exact c_ret rfl rfl (s_seq_ret (s_ife_t (t_or_t (t_isN (r_loc rfl) (by rw [hn]; rfl))) (s_seq_ret (s_ret r_cst))))
  | false =>
    have tn : evT (Ek T (k + 2)) (.isN false (.loc 0)) [some v, some n, none] g = .ok false g := t_isN (r_loc rfl) (by rw [hn]; rfl)
    cases hww : isWord v with
    | true =>
      rw [hww] at hw
      exact c_ret rfl rfl (s_seq_ret (s_ife_t (t_or_f tn (t_call (r_cons (r_loc rfl) r_nil) hw rfl)) (s_seq_ret (s_ret r_cst))))
    | false =>
      rw [hww] at hw
      have tw : evT (Ek T (k + 2)) (.or_ (.isN false (.loc 0)) (.call 2 (.cons (.loc 0) .nil))) [some v, some n, none] g = .ok false g := t_or_f tn (t_call (r_cons (r_loc rfl) r_nil) hw rfl)
      cases hii : isIdx v with
      | true =>
        rw [hii] at hi
        cases v with
        | int i => exact c_ret rfl rfl (s_seq (s_ife_f tw s_nil) (s_seq_ret (s_ife_t (t_call (r_cons (r_loc rfl) r_nil) hi rfl) (s_seq_ret (s_ret (r_cmp (r_loc rfl) (r_bin r_cst r_cst pow30) rfl))))))
        | _ => exact absurd hii (by simp [isIdx])
      | false =>
        rw [hii] at hi
        exact c_ret rfl rfl (s_seq (s_ife_f tw s_nil) (s_seq (s_ife_f (t_call (r_cons (r_loc rfl) r_nil) hi rfl) s_nil) (s_seq_ret (s_ife_t (t_or_t (t_not_t (t_bi1 (r_loc rfl) htt rfl))) (s_seq_ret (s_ret r_cst))))))
theorem is_plain {g : MH} : ∀ (n k : Nat) (v : MV), n + 2 ≤ k → Wf g v → callF T (k + 1) f_is_plain [v, .int n] g = .ok (.bl (plainB n v)) g := by
  intro n
  induction n with
  | zero =>
    intro k v hk h
    obtain ⟨k, rfl⟩ : ∃ j, k = j + 2 := ⟨k - 2, by omega⟩
    cases ht : isT v with
    | false =>
      rw [plainB_leaf ht]
      exact is_plain_leaf h ht
    | true =>
      have hw := is_word (k + 1) h
      have hi := is_index k h
      have htt := h.bi_t
      cases v with
      | tup xs =>
        exact c_ret rfl rfl (s_seq (s_ife_f (t_or_f (t_isN (r_loc rfl) rfl) (t_call (r_cons (r_loc rfl) r_nil) hw rfl)) s_nil) (s_seq (s_ife_f (t_call (r_cons (r_loc rfl) r_nil) hi rfl) s_nil)
          (s_seq_ret (s_ife_t (t_or_f (t_not_f (t_bi1 (r_loc rfl) htt rfl)) (t_cmp (r_loc rfl) r_cst rfl)) (s_seq_ret (s_ret r_cst))))))
      | _ => exact absurd ht (by simp [isT])
  | succ n ih =>
    intro k v hk h
    obtain ⟨k, rfl⟩ : ∃ j, k = j + 2 := ⟨k - 2, by omega⟩
    cases ht : isT v with
    | false =>
      rw [plainB_leaf ht]
      exact is_plain_leaf h ht
    | true =>
      have hw := is_word (k + 1) h
      have hi := is_index k h
      have htt := h.bi_t
      cases v with
      | tup xs =>
        obtain ⟨hl, hx⟩ : xs.length ≤ SZ ∧ ∀ x ∈ xs, Wf g x := by cases h with | tup _ a b => exact ⟨a, b⟩
        have e0 : cmpV .eq g (.int ((n + 1 : Nat) : Int)) (.int 0) = some false := by
          show some (decide (((n + 1 : Nat) : Int) = 0)) = _
          exact congrArg some (decide_eq_false (by omega))
        have q : evL (Ek T (k + 2)) (.comp [2] (.nm 2) (.itV (.loc 0)) .nil (.call 3 (.cons (.loc 2) (.cons (.bin .sub (.loc 1) (.cst (.int 1))) .nil)))) [some (.tup xs), some (.int ((n + 1 : Nat) : Int)), none] g = .ok (xs.map fun x => .bl (plainB n x)) g := by
          refine l_comp0 (i_itV (r_loc rfl) rfl) (loopC_map (fun x hxx => ⟨_, rfl, rfl, r_call (r_cons (r_loc rfl) (r_cons (r_bin (r_loc rfl) r_cst (u := .int n) ?_) r_nil)) (ih (k + 1) x (by omega) (hx x hxx))⟩) hl)
          show some (MV.int (((n + 1 : Nat) : Int) - 1)) = _
          rw [show (((n + 1 : Nat) : Int) - 1) = n by omega]
        have r := r_allL q (boolsOf_map _ _)
        rw [List.all_map] at r
        exact c_ret rfl rfl (s_seq (s_ife_f (t_or_f (t_isN (r_loc rfl) rfl) (t_call (r_cons (r_loc rfl) r_nil) hw rfl)) s_nil) (s_seq (s_ife_f (t_call (r_cons (r_loc rfl) r_nil) hi rfl) s_nil)
          (s_seq (s_ife_f (t_or_f (t_not_f (t_bi1 (r_loc rfl) htt rfl)) (t_cmp (r_loc rfl) r_cst e0)) s_nil) (s_seq_ret (s_ret r)))))
      | _ => exact absurd ht (by simp [isT])
theorem is_plain_value {g : MH} {v : MV} (k : Nat) (hk : 63 ≤ k) (h : Wf g v) : callF T (k + 1) f_is_plain_value [v] g = .ok (.bl (plainB 60 v)) g := by
  obtain ⟨k, rfl⟩ : ∃ j, k = j + 1 := ⟨k - 1, by omega⟩
  exact c_ret rfl rfl (s_seq_ret (s_ret (r_call (r_cons (r_loc rfl) (r_cons r_cst r_nil)) (is_plain 60 k v (by omega) h))))
theorem l_is_plain_leaf {g : MH} {k : Nat} {v n : MV} (h : Wf g v) (ht : isT v = false) : callF T (k + 3) f_l_is_plain [v, n] g = .ok (.bl (leafB v)) g := by
  have hw := l_is_word (k + 1) h
  have hi := l_is_index (k + 1) h
  have htt := h.bi_t
  rw [ht] at htt
  rw [leafB_eq]
  have go : ∀ b, evE (Ek T (k + 2)) (.or_ (.isN false (.loc 0)) (.or_ (.call 24 (.cons (.loc 0) .nil)) (.and_ (.call 21 (.cons (.loc 0) .nil)) (.cmp .lt (.loc 0) (.bin .pow (.cst (.int 10)) (.cst (.int 30))))))) [some v, some n, none] g = .ok b g → callF T (k + 3) f_l_is_plain [v, n] g = .ok b g :=
    fun b hb => c_ret rfl rfl (s_seq (s_ife_f (t_bi1 (r_loc rfl) htt rfl) s_nil) (s_seq_ret (s_ret hb)))
  refine go _ ?_
  cases hn : isNon v with
  | true =>
    have q : evE (Ek T (k + 2)) (.isN false (.loc 0)) [some v, some n, none] g = .ok (.bl true) g := by
      have := r_isN (neg := false) (r_loc (E := Ek T (k + 2)) (g := g) (show getLoc [some v, some n, none] 0 = some v from rfl))
      rw [hn] at this
      exact this
    exact r_or_t q rfl
  | false =>
    have q : evE (Ek T (k + 2)) (.isN false (.loc 0)) [some v, some n, none] g = .ok (.bl false) g := by
      have := r_isN (neg := false) (r_loc (E := Ek T (k + 2)) (g := g) (show getLoc [some v, some n, none] 0 = some v from rfl))
      rw [hn] at this
      exact this
    refine r_or_f q rfl ?_
    cases hww : isWord v with
    | true =>
      rw [hww] at hw
      exact r_or_t (r_call (r_cons (r_loc rfl) r_nil) hw) rfl
    | false =>
      rw [hww] at hw
      refine r_or_f (r_call (r_cons (r_loc rfl) r_nil) hw) rfl ?_
      cases hii : isIdx v with
      | true =>
        rw [hii] at hi
        cases v with
        | int i => exact r_and_t (r_call (r_cons (r_loc rfl) r_nil) hi) rfl (r_cmp (r_loc rfl) (r_bin r_cst r_cst pow30) rfl)
        | _ => exact absurd hii (by simp [isIdx])
      | false =>
        rw [hii] at hi
        exact r_and_f (r_call (r_cons (r_loc rfl) r_nil) hi) rfl
theorem noneOut2 (p : MV → Bool) : ∀ xs : List MV, (false != ((xs.filter fun x => !p x).map fun _ => MV.int 1).isEmpty) = xs.all p
  | [] => rfl
  | x :: xs => by
    rw [List.all_cons, ← noneOut2 p xs]
    cases h : p x <;> simp [h]
theorem l_is_plain {g : MH} : ∀ (n k : Nat) (v : MV), n + 2 ≤ k → Wf g v → callF T (k + 1) f_l_is_plain [v, .int n] g = .ok (.bl (plainB n v)) g := by
  intro n
  induction n with
  | zero =>
    intro k v hk h
    obtain ⟨k, rfl⟩ : ∃ j, k = j + 2 := ⟨k - 2, by omega⟩
    cases ht : isT v with
    | false =>
      rw [plainB_leaf ht]
      exact l_is_plain_leaf h ht
    | true =>
      have htt := h.bi_t
      cases v with
      | tup xs => exact c_ret rfl rfl (s_seq_ret (s_ife_t (t_bi1 (r_loc rfl) htt rfl) (s_seq_ret (s_ret (r_and_f (r_cmp (r_loc rfl) r_cst rfl) rfl)))))
      | _ => exact absurd ht (by simp [isT])
  | succ n ih =>
    intro k v hk h
    obtain ⟨k, rfl⟩ : ∃ j, k = j + 2 := ⟨k - 2, by omega⟩
    cases ht : isT v with
    | false =>
      rw [plainB_leaf ht]
      exact l_is_plain_leaf h ht
    | true =>
      have htt := h.bi_t
      cases v with
      | tup xs =>
        obtain ⟨hl, hx⟩ : xs.length ≤ SZ ∧ ∀ x ∈ xs, Wf g x := by cases h with | tup _ a b => exact ⟨a, b⟩
        have e0 : cmpV .gt g (.int ((n + 1 : Nat) : Int)) (.int 0) = some true := by
          show some (decide (0 < ((n + 1 : Nat) : Int))) = _
          exact congrArg some (decide_eq_true (by omega))
        have q : evL (Ek T (k + 2)) (.comp [2] (.nm 2) (.itV (.loc 0)) (.not_ (.call 25 (.cons (.loc 2) (.cons (.bin .sub (.loc 1) (.cst (.int 1))) .nil)))) (.cst (.int 1))) [some (.tup xs), some (.int ((n + 1 : Nat) : Int)), none] g = .ok ((xs.filter fun x => !plainB n x).map fun _ => .int 1) g := by
          refine l_comp (by intro h; cases h) (i_itV (r_loc rfl) rfl) (loopC_filter (fun x hxx => ⟨_, rfl, t_not (t_call (r_cons (r_loc rfl) (r_cons (r_bin (r_loc rfl) r_cst (u := .int n) ?_) r_nil)) (ih (k + 1) x (by omega) (hx x hxx)) rfl), fun _ => r_cst⟩) hl)
          show some (MV.int (((n + 1 : Nat) : Int) - 1)) = _
          rw [show (((n + 1 : Nat) : Int) - 1) = n by omega]
        have r := r_eqNilL (neg := false) q
        rw [noneOut2] at r
        exact c_ret rfl rfl (s_seq_ret (s_ife_t (t_bi1 (r_loc rfl) htt rfl) (s_seq_ret (s_ret (r_and_t (r_cmp (r_loc rfl) r_cst e0) rfl r)))))
      | _ => exact absurd ht (by simp [isT])
end K88
end
section
set_option Elab.async false
set_option linter.all false
set_option autoImplicit false
set_option maxRecDepth 100000
set_option maxHeartbeats 1000000
namespace K88
open PySem (Str)
open MP
/-! ### texts of plain values -/
def joinSp : List (List Nat) → List Nat
  | [] => []
  | [x] => x
  | x :: y :: r => x ++ 32 :: joinSp (y :: r)
mutual
def txt : MV → List Nat
  | .non => [45]
  | .str x => x.cps.toList
  | .int i => (strI i).cps.toList
  | .tup xs => 40 :: (joinSp (txts xs) ++ [41])
  | .bl _ => []
  | .loc _ => []
  | .frl _ => []
  | .fn _ => []
def txts : List MV → List (List Nat)
  | [] => []
  | x :: xs => txt x :: txts xs
end
theorem txts_eq : ∀ xs : List MV, txts xs = xs.map txt
  | [] => rfl
  | x :: xs => by rw [txts, txts_eq xs]; rfl
theorem txt_tup (xs : List MV) : txt (.tup xs) = 40 :: (joinSp (xs.map txt) ++ [41]) := by rw [txt, txts_eq]
theorem joinSp_len : ∀ ls : List (List Nat), ls ≠ [] → (joinSp ls).length + 1 = (ls.map List.length).sum + ls.length
  | [], h => absurd rfl h
  | [x], _ => by simp [joinSp]
  | x :: y :: r, _ => by
    have := joinSp_len (y :: r) (by simp)
    rw [joinSp, List.length_append, List.length_cons, List.map_cons, List.sum_cons, List.length_cons]
    omega
theorem join_mk : ∀ ls : List (List Nat), Str.join (mk [32]) (ls.map mk) = mk (joinSp ls)
  | [] => rfl
  | [x] => rfl
  | x :: y :: r => by
    show mk x ++ mk [32] ++ Str.join (mk [32]) ((y :: r).map mk) = _
    rw [join_mk (y :: r), mk_app, mk_app, joinSp]
    simp
theorem tup_len (xs : List MV) : xs.length + ((xs.map txt).map List.length).sum + 1 ≤ (txt (.tup xs)).length := by
  rw [txt_tup]
  cases xs with
  | nil => simp [joinSp]
  | cons x xs =>
    have := joinSp_len ((x :: xs).map txt) (by simp)
    rw [List.length_map] at this
    simp only [List.length_cons, List.length_append, List.length_nil] at this ⊢
    omega
theorem mem_sum {x : Nat} : ∀ {xs : List Nat}, x ∈ xs → x ≤ xs.sum
  | [], h => by cases h
  | y :: ys, h => by
    rw [List.sum_cons]
    rcases List.mem_cons.mp h with rfl | h
    · omega
    · have := mem_sum h
      omega
theorem part_len {x : MV} {xs : List MV} (h : x ∈ xs) : (txt x).length + 2 ≤ (txt (.tup xs)).length := by
  have h1 := tup_len xs
  have h2 : (txt x).length ≤ ((xs.map txt).map List.length).sum := mem_sum (List.mem_map.mpr ⟨_, List.mem_map.mpr ⟨x, h, rfl⟩, rfl⟩)
  have h3 : 1 ≤ xs.length := List.length_pos_iff.mpr (List.ne_nil_of_mem h)
  omega
theorem plain_wf {g : MH} : ∀ (n : Nat) (v : MV), plainB n v = true → (txt v).length ≤ SZ → Wf g v := by
  have leaf : ∀ v, leafB v = true → (txt v).length ≤ SZ → Wf g v := fun v h hl => by
    cases v with
    | non => exact .non
    | str x => exact .str _ (by rw [txt, Array.length_toList] at hl; exact hl)
    | int i => exact .int _
    | _ => exact absurd h (by simp [leafB])
  intro n
  induction n with
  | zero => exact leaf
  | succ n ih =>
    intro v h hl
    cases v with
    | tup xs =>
      rw [plainB_tup] at h
      exact .tup _ (by have := tup_len xs; omega) fun x hx => ih x (List.all_eq_true.mp h x hx) (by have := part_len hx; omega)
    | _ => exact leaf _ h hl
theorem log_small {i : Int} (h0 : 0 ≤ i) (h1 : i < 10 ^ 30) : i.natAbs.log2 < 1920 := by
  have h2 : i.natAbs < 2 ^ 100 := by
    have : (10 : Int) ^ 30 < 2 ^ 100 := by decide
    omega
  by_cases h3 : i.natAbs = 0
  · rw [h3]
    decide
  · have := (Nat.log2_lt h3).mpr h2
    omega
theorem empty_app (x : Str) : Str.empty ++ x = x := by
  show Str.append _ _ = _
  simp [Str.append, Str.empty]
theorem fmt_leaf {v : MV} (h : leafB v = true) (hn : isNon v = false) (hl : (txt v).length ≤ SZ) : fmtOne Str.empty v = some (mk (txt v)) := by
  have e0 : Str.empty.length = 0 := rfl
  cases v with
  | str x =>
    rw [txt, Array.length_toList] at hl
    have hl' : x.length ≤ SZ := hl
    simp only [fmtOne, fmtV]
    rw [if_pos hl']
    simp only []
    rw [e0, Nat.zero_add, if_pos hl', empty_app, txt, mk_eta]
  | int i =>
    simp only [leafB, Bool.and_eq_true, decide_eq_true_eq] at h
    rw [txt, Array.length_toList] at hl
    have hl' : (strI i).length ≤ SZ := hl
    simp only [fmtOne, fmtV]
    rw [if_pos (log_small h.1 h.2)]
    simp only []
    rw [e0, Nat.zero_add, if_pos hl', empty_app, txt, mk_eta]
  | non => exact absurd hn (by simp [isNon])
  | _ => exact absurd h (by simp [leafB])
theorem str_leaf {g : MH} {v : MV} (h : leafB v = true) (hn : isNon v = false) : bi1V .str g v = some (.str (mk (txt v))) := by
  cases v with
  | str x =>
    simp only [bi1V]
    rw [txt, mk_eta]
  | int i =>
    simp only [leafB, Bool.and_eq_true, decide_eq_true_eq] at h
    simp only [bi1V]
    rw [if_pos (log_small h.1 h.2), txt, mk_eta]
  | non => exact absurd hn (by simp [isNon])
  | _ => exact absurd h (by simp [leafB])
theorem sP1 : (Str.ofString "(") = mk [40] := by decide +kernel
theorem sP2 : (Str.ofString ")") = mk [41] := by decide +kernel
theorem sSP : (Str.ofString " ") = mk [32] := by decide +kernel
theorem sMI : (Str.ofString "-") = mk [45] := by decide +kernel
theorem lenSum_mk (ls : List (List Nat)) : lenSum (ls.map mk) = (ls.map List.length).sum := by
  unfold lenSum
  rw [List.map_map]
  rfl
theorem join_parts {xs : List MV} (hl : (txt (.tup xs)).length ≤ SZ) : lenSum (xs.map fun x => mk (txt x)) + (xs.map fun x => mk (txt x)).length * (Str.ofString " ").length ≤ SZ ∧ joinS (Str.ofString " ") (xs.map fun x => mk (txt x)) = mk (joinSp (xs.map txt)) := by
  have e : (xs.map fun x => mk (txt x)) = (xs.map txt).map mk := by rw [List.map_map]; rfl
  have h1 := tup_len xs
  refine ⟨?_, ?_⟩
  · rw [e, lenSum_mk, sSP, mk_len, List.length_map, List.length_map]
    simp only [List.length_cons, List.length_nil]
    omega
  · rw [e, sSP]
    exact join_mk _
theorem fmt_mk {a b : List Nat} (h : a.length + b.length ≤ SZ) : fmtOne (mk a) (.str (mk b)) = some (mk (a ++ b)) := by
  have h1 : (mk b).length ≤ SZ := by show b.length ≤ SZ; omega
  have h2 : (mk a).length + (mk b).length ≤ SZ := h
  simp only [fmtOne, fmtV]
  rw [if_pos h1]
  simp only []
  rw [if_pos h2, mk_app]
theorem shown {g : MH} : ∀ (n k : Nat) (v : MV), n ≤ k → plainB n v = true → (txt v).length ≤ SZ → callF T (k + 1) f_shown [v] g = .ok (.str (mk (txt v))) g := by
  have leaf : ∀ (k : Nat) (v : MV), leafB v = true → isT v = false → (txt v).length ≤ SZ → callF T (k + 1) f_shown [v] g = .ok (.str (mk (txt v))) g := by
    intro k v h ht hl
    have hw : Wf g v := plain_wf 0 v h hl
    have hb := hw.bi_t
    rw [ht] at hb
    cases hn : isNon v with
    | true =>
      have e : v = .non := by cases v <;> first | rfl | exact absurd hn (by simp [isNon])
      subst e
      refine c_ret rfl rfl (s_seq_ret (s_ife_t (t_isN (r_loc rfl) rfl) (s_seq_ret (s_ret ?_))))
      show evE _ _ _ _ = .ok (.str (mk [45])) g
      rw [← sMI]
      exact r_cst
    | false =>
      exact c_ret rfl rfl (s_seq (s_ife_f (t_isN (r_loc rfl) (by rw [hn]; rfl)) s_nil) (s_seq_ret (s_ife_t (t_not_t (t_bi1 (r_loc rfl) hb rfl)) (s_seq_ret (s_ret (r_fstr (r_fcons (r_loc rfl) (fmt_leaf h hn hl) r_fnil)))))))
  intro n
  induction n with
  | zero =>
    intro k v _ h hl
    exact leaf k v h (by cases v <;> first | rfl | exact absurd h (by simp [plainB, leafB])) hl
  | succ n ih =>
    intro k v hk h hl
    cases ht : isT v with
    | false => exact leaf k v (by rw [plainB_leaf ht] at h; exact h) ht hl
    | true =>
      have hw : Wf g v := plain_wf (n + 1) v h hl
      have hb := hw.bi_t
      cases v with
      | tup xs =>
        obtain ⟨k, rfl⟩ : ∃ j, k = j + 1 := ⟨k - 1, by omega⟩
        rw [plainB_tup] at h
        have h1 := tup_len xs
        obtain ⟨j1, j2⟩ := join_parts hl
        have q : evL (Ek T (k + 1)) (.comp [2] (.nm 2) (.itV (.loc 0)) .nil (.call 5 (.cons (.loc 2) .nil))) [some (.tup xs), none, none] g = .ok (xs.map fun x => .str (mk (txt x))) g :=
          l_comp0 (i_itV (r_loc rfl) rfl) (loopC_map (fun x hx => ⟨_, rfl, rfl, r_call (r_cons (r_loc rfl) r_nil) (ih k x (by omega) (List.all_eq_true.mp h x hx) (by have := part_len hx; omega))⟩) (by omega))
        have q2 := r_joinL (s := .cst (.str (Str.ofString " "))) r_cst q (strsOf_map _ _) j1
        rw [j2] at q2
        have hll : (joinSp (xs.map txt)).length + 2 = (txt (.tup xs)).length := by rw [txt_tup]; simp
        have f1 : fmtOne Str.empty (.str (Str.ofString "(")) = some (mk [40]) := by rw [sP1]; exact fmt_mk (a := []) (by decide)
        have f2 : fmtOne (mk [40]) (.str (mk (joinSp (xs.map txt)))) = some (mk (40 :: joinSp (xs.map txt))) := fmt_mk (a := [40]) (by simp only [List.length_cons, List.length_nil]; omega)
        have f3 : fmtOne (mk (40 :: joinSp (xs.map txt))) (.str (Str.ofString ")")) = some (mk (txt (.tup xs))) := by
          rw [sP2, fmt_mk (by simp only [List.length_cons, List.length_nil]; omega), txt_tup]
          rfl
        exact c_ret rfl rfl (s_seq (s_ife_f (t_isN (r_loc rfl) rfl) s_nil) (s_seq (s_ife_f (t_not_f (t_bi1 (r_loc rfl) hb rfl)) s_nil) (s_seq (s_set q2) (s_seq_ret (s_ret (r_fstr (r_fcons r_cst f1 (r_fcons (r_loc rfl) f2 (r_fcons r_cst f3 r_fnil)))))))))
      | _ => exact absurd ht (by simp [isT])
theorem l_text {g : MH} : ∀ (n k : Nat) (v : MV), n ≤ k → plainB n v = true → (txt v).length ≤ SZ → callF T (k + 1) f_l_text [v] g = .ok (.str (mk (txt v))) g := by
  have leaf : ∀ (k : Nat) (v : MV), leafB v = true → isT v = false → (txt v).length ≤ SZ → callF T (k + 1) f_l_text [v] g = .ok (.str (mk (txt v))) g := by
    intro k v h ht hl
    have hw : Wf g v := plain_wf 0 v h hl
    have hb := hw.bi_t
    rw [ht] at hb
    cases hn : isNon v with
    | true =>
      have e : v = .non := by cases v <;> first | rfl | exact absurd hn (by simp [isNon])
      subst e
      refine c_ret rfl rfl (s_seq (s_ife_f (t_bi1 (r_loc rfl) hb rfl) s_nil) (s_seq_ret (s_ret (r_ite_t (t_isN (r_loc rfl) rfl) ?_))))
      show evE _ _ _ _ = .ok (.str (mk [45])) g
      rw [← sMI]
      exact r_cst
    | false => exact c_ret rfl rfl (s_seq (s_ife_f (t_bi1 (r_loc rfl) hb rfl) s_nil) (s_seq_ret (s_ret (r_ite_f (t_isN (r_loc rfl) (by rw [hn]; rfl)) (r_bi1 (r_loc rfl) (str_leaf h hn))))))
  intro n
  induction n with
  | zero =>
    intro k v _ h hl
    exact leaf k v h (by cases v <;> first | rfl | exact absurd h (by simp [plainB, leafB])) hl
  | succ n ih =>
    intro k v hk h hl
    cases ht : isT v with
    | false => exact leaf k v (by rw [plainB_leaf ht] at h; exact h) ht hl
    | true =>
      have hw : Wf g v := plain_wf (n + 1) v h hl
      have hb := hw.bi_t
      cases v with
      | tup xs =>
        obtain ⟨k, rfl⟩ : ∃ j, k = j + 1 := ⟨k - 1, by omega⟩
        rw [plainB_tup] at h
        have h1 := tup_len xs
        obtain ⟨j1, j2⟩ := join_parts hl
        have q : evL (Ek T (k + 1)) (.comp [1] (.nm 1) (.itV (.loc 0)) .nil (.call 26 (.cons (.loc 1) .nil))) [some (.tup xs), none] g = .ok (xs.map fun x => .str (mk (txt x))) g :=
          l_comp0 (i_itV (r_loc rfl) rfl) (loopC_map (fun x hx => ⟨_, rfl, rfl, r_call (r_cons (r_loc rfl) r_nil) (ih k x (by omega) (List.all_eq_true.mp h x hx) (by have := part_len hx; omega))⟩) (by omega))
        have q2 := r_joinL (s := .cst (.str (Str.ofString " "))) r_cst q (strsOf_map _ _) j1
        rw [j2] at q2
        have hll : (joinSp (xs.map txt)).length + 2 = (txt (.tup xs)).length := by rw [txt_tup]; simp
        have f2 : binV .add (.str (Str.ofString "(")) (.str (mk (joinSp (xs.map txt)))) = some (.str (mk (40 :: joinSp (xs.map txt)))) := by
          rw [sP1]
          show (if 1 + (joinSp (xs.map txt)).length ≤ SZ then _ else _) = _
          rw [if_pos (by omega), mk_app]
          rfl
        have f3 : binV .add (.str (mk (40 :: joinSp (xs.map txt)))) (.str (Str.ofString ")")) = some (.str (mk (txt (.tup xs)))) := by
          rw [sP2]
          show (if (joinSp (xs.map txt)).length + 1 + 1 ≤ SZ then _ else _) = _
          rw [if_pos (by omega), mk_app, txt_tup]
          rfl
        exact c_ret rfl rfl (s_seq_ret (s_ife_t (t_bi1 (r_loc rfl) hb rfl) (s_seq_ret (s_ret (r_bin (r_bin r_cst q2 f2) r_cst f3)))))
      | _ => exact absurd ht (by simp [isT])
theorem value_text_ok {g : MH} {v : MV} (k : Nat) (hk : 64 ≤ k) (h : plainB 60 v = true) (hl : (txt v).length ≤ SZ) : callF T (k + 1) f_value_text [v] g = .ok (.str (mk (txt v))) g := by
  obtain ⟨k, rfl⟩ : ∃ j, k = j + 1 := ⟨k - 1, by omega⟩
  have q := is_plain_value (g := g) k (by omega) (plain_wf 60 v h hl)
  rw [h] at q
  exact c_ret rfl rfl (s_seq (s_ife_f (t_not_f (t_call (r_cons (r_loc rfl) r_nil) q rfl)) s_nil) (s_seq_ret (s_ret (r_call (r_cons (r_loc rfl) r_nil) (shown 60 k v (by omega) h hl)))))
theorem value_text_no {g : MH} {v : MV} (k : Nat) (hk : 64 ≤ k) (hw : Wf g v) (h : plainB 60 v = false) : callF T (k + 1) f_value_text [v] g = .exc 2 [] g := by
  obtain ⟨k, rfl⟩ : ∃ j, k = j + 1 := ⟨k - 1, by omega⟩
  have q := is_plain_value (g := g) k (by omega) hw
  rw [h] at q
  exact c_exc rfl rfl (s_seq_exc (s_ife_t (t_not_t (t_call (r_cons (r_loc rfl) r_nil) q rfl)) (s_seq_exc (s_raise r_nil))))
end K88
end
section
set_option Elab.async false
set_option linter.all false
set_option autoImplicit false
set_option maxRecDepth 100000
set_option maxHeartbeats 1000000
namespace K88
open PySem (Str)
open PySem.NumText (AllDigits digitsVal)
open MP
/-! ### leaves read -/
def digB (cs : List Nat) : Bool := cs.all fun c => decide (c ∈ digL)
def leafOf (cs : List Nat) : Option MV :=
  if cs = [45] then some .non else if wordL cs = true then some (.str (mk cs)) else
  if (!cs.isEmpty && decide (cs.length ≤ 30) && digB cs && (decide (cs = [48]) || decide (cs.headD 0 ≠ 48))) = true then some (.int ((digitsVal cs : Nat) : Int)) else none
theorem mem_digL {c : Nat} : c ∈ digL ↔ 48 ≤ c ∧ c ≤ 57 := by
  simp only [digL, List.mem_cons, List.not_mem_nil, or_false]
  omega
theorem mem_letL {c : Nat} : c ∈ letL ↔ 97 ≤ c ∧ c ≤ 122 := by
  simp only [letL, List.mem_cons, List.not_mem_nil, or_false]
  omega
theorem digB_iff {cs : List Nat} : digB cs = true ↔ AllDigits cs := by
  unfold digB AllDigits
  rw [List.all_eq_true]
  exact ⟨fun h c hc => mem_digL.mp (of_decide_eq_true (h c hc)), fun h c hc => decide_eq_true (mem_digL.mpr (h c hc))⟩
theorem wordL_iff {cs : List Nat} : wordL cs = true ↔ (∃ c r, cs = c :: r ∧ 97 ≤ c ∧ c ≤ 122) ∧ ∀ c ∈ cs, (97 ≤ c ∧ c ≤ 122) ∨ (48 ≤ c ∧ c ≤ 57) := by
  cases cs with
  | nil => simp [wordL]
  | cons c r =>
    rw [wordL_cons, Bool.and_eq_true, decide_eq_true_eq, List.all_eq_true]
    constructor
    · rintro ⟨h1, h2⟩
      refine ⟨⟨c, r, rfl, mem_letL.mp h1⟩, fun d hd => ?_⟩
      have := of_decide_eq_true (h2 d hd)
      rw [List.mem_append, mem_letL, mem_digL] at this
      exact this
    · rintro ⟨⟨c', r', e, h1⟩, h2⟩
      injection e with e1 e2
      subst e1
      refine ⟨mem_letL.mpr h1, fun d hd => decide_eq_true ?_⟩
      rw [List.mem_append, mem_letL, mem_digL]
      exact h2 d hd
def digs (n : Nat) : List Nat := (Nat.toDigits 10 n).map Char.toNat
theorem strI_nat (n : Nat) : (strI (n : Int)).cps.toList = digs n := PySem.W.KIN.signs_num n
theorem digs_val (n : Nat) : digitsVal (digs n) = n := PySem.W.KIN.val_back n
theorem digs_all (n : Nat) : AllDigits (digs n) := fun c hc => by
  obtain ⟨ch, hch, e⟩ := List.mem_map.mp hc
  have r := PyProof.Rows.digit_range (Nat.isDigit_of_mem_toDigits (by decide) (by decide) hch)
  rw [← e]
  exact r
theorem digs_small {n : Nat} (h : n < 10) : digs n = [48 + n] := by
  unfold digs
  rw [Nat.toDigits_of_lt_base h, PySem.NumText.digitChar_of n h]
  match n, h with
  | 0, _ | 1, _ | 2, _ | 3, _ | 4, _ | 5, _ | 6, _ | 7, _ | 8, _ | 9, _ => rfl
theorem digs_big {n : Nat} (h : ¬ n < 10) : digs n = digs (n / 10) ++ [48 + n % 10] := by
  have hm : n % 10 < 10 := Nat.mod_lt n (by decide)
  have t : Nat.toDigits 10 (n / 10) ++ Nat.toDigits 10 (n % 10) = Nat.toDigits 10 (10 * (n / 10) + n % 10) := Nat.toDigits_append_toDigits (by decide) (by omega) hm
  rw [Nat.div_add_mod] at t
  rw [← digs_small hm]
  unfold digs
  rw [← t, List.map_append]
theorem digs_ne : ∀ n : Nat, digs n ≠ [] := fun n => by
  by_cases h : n < 10
  · rw [digs_small h]; simp
  · rw [digs_big h]; simp
theorem digs_head : ∀ n : Nat, 0 < n → ∃ c r, digs n = c :: r ∧ 49 ≤ c := by
  intro n
  induction n using Nat.strongRecOn with
  | _ n ih =>
    intro h0
    by_cases h : n < 10
    · exact ⟨48 + n, [], digs_small h, by omega⟩
    · obtain ⟨c, r, e, hc⟩ := ih (n / 10) (by omega) (by omega)
      exact ⟨c, r ++ [48 + n % 10], by rw [digs_big h, e]; rfl, hc⟩
theorem digs_len : ∀ (k n : Nat), n < 10 ^ (k + 1) → (digs n).length ≤ k + 1 := by
  intro k
  induction k with
  | zero =>
    intro n h
    rw [digs_small (by omega)]
    simp
  | succ k ih =>
    intro n h
    by_cases h2 : n < 10
    · rw [digs_small h2]; simp
    · rw [digs_big h2, List.length_append, List.length_singleton]
      have := ih (n / 10) (by rw [Nat.pow_succ] at h; omega)
      omega
theorem val_lt : ∀ (cs : List Nat) (a : Nat), AllDigits cs → cs.foldl (fun acc c => acc * 10 + (c - 48)) a < (a + 1) * 10 ^ cs.length
  | [], a, _ => by simp
  | c :: cs, a, h => by
    have hc := h.head
    have ih := val_lt cs (a * 10 + (c - 48)) h.tail
    rw [List.foldl_cons, List.length_cons, Nat.pow_succ]
    refine Nat.lt_of_lt_of_le ih ?_
    rw [Nat.mul_comm (10 ^ cs.length) 10, ← Nat.mul_assoc]
    exact Nat.mul_le_mul_right _ (by omega)
theorem digs_of {cs : List Nat} (h : AllDigits cs) (hne : cs ≠ []) (hh : cs = [48] ∨ cs.headD 0 ≠ 48) : digs (digitsVal cs) = cs := by
  have e : Nat.toDigits 10 (digitsVal cs) = cs.map Char.ofNat := by
    cases cs with
    | nil => exact absurd rfl hne
    | cons c r =>
      have hc := h.head
      refine PySem.NumText.toDigits_digitsVal r.length (c :: r) rfl h ?_
      rcases hh with hh | hh
      · injection hh with _ h2
        subst h2
        exact .inl rfl
      · have : c ≠ 48 := hh
        exact .inr ⟨c, r, rfl, by omega⟩
  unfold digs
  rw [e, List.map_map]
  have : ∀ c ∈ cs, (Char.toNat ∘ Char.ofNat) c = c := fun c hc => by
    have hb := h c hc
    have : ∀ k, k ≤ 57 → (Char.ofNat k).toNat = k := by decide
    exact this c hb.2
  rw [List.map_congr_left this, List.map_id']
/-- a leaf's text is read back -/
theorem leafOf_txt {v : MV} (h : leafB v = true) : leafOf (txt v) = some v := by
  cases v with
  | non => rfl
  | str x =>
    have hw : wordL x.cps.toList = true := h
    unfold leafOf
    rw [txt, if_neg, if_pos hw, mk_eta]
    intro e
    obtain ⟨⟨c, r, e2, hc⟩, _⟩ := wordL_iff.mp hw
    rw [e] at e2
    injection e2 with e3 _
    omega
  | int i =>
    simp only [leafB, Bool.and_eq_true, decide_eq_true_eq] at h
    obtain ⟨n, rfl⟩ := Int.eq_ofNat_of_zero_le h.1
    rw [txt, strI_nat]
    have hd := digs_all n
    have hne := digs_ne n
    have hl := digs_len 29 n (by have := h.2; omega)
    have hh : digs n = [48] ∨ (digs n).headD 0 ≠ 48 := by
      by_cases h0 : n = 0
      · subst h0
        exact .inl (digs_small (by decide))
      · obtain ⟨c, r, e, hc⟩ := digs_head n (by omega)
        rw [e]
        exact .inr (by show c ≠ 48; omega)
    have h1 : ¬ digs n = [45] := fun e => by
      rw [e] at hd
      have := hd.head
      omega
    have h2 : ¬ wordL (digs n) = true := fun hw => by
      obtain ⟨⟨c, r, e, hc⟩, _⟩ := wordL_iff.mp hw
      rw [e] at hd
      have := hd.head
      omega
    unfold leafOf
    rw [if_neg h1, if_neg h2, if_pos, digs_val]
    rw [digB_iff.mpr hd, decide_eq_true hl]
    rcases hh with hh | hh
    · rw [hh]
      decide
    · rw [decide_eq_true hh]
      cases e : digs n with
      | nil => exact absurd e hne
      | cons c r => simp
  | _ => exact absurd h (by simp [leafB])
theorem txt_leafOf {v : MV} {cs : List Nat} (h : leafOf cs = some v) : txt v = cs ∧ leafB v = true ∧ cs ≠ [] := by
  unfold leafOf at h
  split at h
  · rename_i e
    cases h
    exact ⟨e.symm, rfl, by rw [e]; simp⟩
  · split at h
    · rename_i hw
      cases h
      refine ⟨rfl, hw, fun e => ?_⟩
      rw [e] at hw
      cases hw
    · split at h
      · rename_i hd
        cases h
        simp only [Bool.and_eq_true, Bool.or_eq_true, decide_eq_true_eq, Bool.not_eq_true'] at hd
        obtain ⟨⟨⟨h1, h2⟩, h3⟩, h4⟩ := hd
        have hne : cs ≠ [] := fun e => by rw [e] at h1; cases h1
        have ha := digB_iff.mp h3
        refine ⟨?_, ?_, hne⟩
        · rw [txt, strI_nat]
          exact digs_of ha hne h4
        · have hv : digitsVal cs < 10 ^ 30 := by
            have := val_lt cs 0 ha
            have h5 : digitsVal cs < (0 + 1) * 10 ^ cs.length := this
            have h6 : 10 ^ cs.length ≤ 10 ^ 30 := Nat.pow_le_pow_right (by decide) h2
            omega
          simp only [leafB, Bool.and_eq_true, decide_eq_true_eq]
          omega
      · cases h
end K88
end
section
set_option Elab.async false
set_option linter.all false
set_option autoImplicit false
set_option maxRecDepth 100000
set_option maxHeartbeats 1000000
namespace K88
open PySem (Str)
open PySem.NumText (AllDigits digitsVal)
open MP
section
variable {g : MH} {cs : List Nat}
theorem s0_eq : (Str.ofString "0") = mk [48] := by decide +kernel
theorem len_mk (h : cs.length ≤ SZ) : bi1V .len g (.str (mk cs)) = some (.int (cs.length : Int)) := by
  show (if cs.length ≤ SZ then some cs.length else none).map _ = _
  rw [if_pos h]
  rfl
theorem int_mk (h : AllDigits cs) (h1 : cs ≠ []) (h2 : cs.length ≤ 30) : bi1V .int g (.str (mk cs)) = some (.int ((digitsVal cs : Nat) : Int)) := by
  have e := PySem.intText_digits (x := mk cs) h h1 (Nat.le_trans h2 (by decide))
  simp only [bi1V]
  rw [e]
  simp only []
  rw [if_pos (show (mk cs).length ≤ 640 from Nat.le_trans h2 (by decide))]
theorem sets_eq (a : MSt) : a = a := rfl
theorem digs_comp {E : Ev} {ρ : MSt} {i : Nat} (hi : getLoc ρ 0 = some (.str (mk cs))) (hr : ρ.length = 2) (h : cs.length ≤ SZ) :
    evL E (.comp [1] (.nm 1) (.itV (.loc 0)) .nil (.cmp .isin (.loc 1) (.cst (.str (Str.ofString "0123456789"))))) ρ g = .ok (cs.map fun d => .bl (decide (d ∈ digL))) g := by
  refine l_comp0 (i_itV (r_loc hi) rfl) ?_
  rw [charsOf_mk, loopC_map (f := fun x => .bl (decide (hd1 x ∈ digL)))]
  · rw [List.map_map]
    rfl
  · intro x hx
    obtain ⟨d, hd, rfl⟩ := List.mem_map.mp hx
    match ρ, hr with
    | [a, b], _ =>
      refine ⟨_, rfl, rfl, r_cmp (r_loc rfl) r_cst ?_⟩
      show cmpV .isin g (.str ⟨#[d]⟩) (.str sDIG) = _
      rw [sDIG_eq]
      exact in1 rfl
  · rw [List.length_map]
    exact h
def valA : Option MV → MV
  | some v => .tup [v]
  | none => .non
theorem run_value (k : Nat) (h : cs.length ≤ SZ) : callF T (k + 2) f_run_value [.str (mk cs)] g = .ok (valA (leafOf cs)) g := by
  have hw := is_word_s (g := g) k h
  have hmi : ∀ b, decide (cs = [45]) = b → cmpV .eq g (.str (mk cs)) (.str (Str.ofString "-")) = some b := fun b hb => by rw [sMI]; exact eqS hb
  unfold leafOf
  by_cases h1 : cs = [45]
  · rw [if_pos h1]
    exact c_ret rfl rfl (s_seq_ret (s_ife_t (t_cmp (r_loc rfl) r_cst (hmi true (decide_eq_true h1))) (s_seq_ret (s_ret (r_tup (r_cons r_cst r_nil) (by decide))))))
  rw [if_neg h1]
  have t1 : evT (Ek T (k + 1)) (.cmp .eq (.loc 0) (.cst (.str (Str.ofString "-")))) [some (.str (mk cs)), none] g = .ok false g := t_cmp (r_loc rfl) r_cst (hmi false (decide_eq_false h1))
  by_cases h2 : wordL cs = true
  · rw [if_pos h2]
    rw [h2] at hw
    exact c_ret rfl rfl (s_seq (s_ife_f t1 s_nil) (s_seq_ret (s_ife_t (t_call (r_cons (r_loc rfl) r_nil) hw rfl) (s_seq_ret (s_ret (r_tup (r_cons (r_loc rfl) r_nil) (by show 1 ≤ SZ; decide)))))))
  rw [if_neg h2]
  rw [Bool.not_eq_true] at h2
  rw [h2] at hw
  have t2 : evT (Ek T (k + 1)) (.call 2 (.cons (.loc 0) .nil)) [some (.str (mk cs)), none] g = .ok false g := t_call (r_cons (r_loc rfl) r_nil) hw rfl
  have he : ∀ b, decide (cs = []) = b → cmpV .eq g (.str (mk cs)) (.str (Str.ofString "")) = some b := fun b hb => by rw [sEMP_eq]; exact eqS hb
  by_cases h3 : cs = []
  · subst h3
    exact c_ret rfl rfl (s_seq (s_ife_f t1 s_nil) (s_seq (s_ife_f t2 s_nil) (s_seq_ret (s_ife_t (t_or_t (t_cmp (r_loc rfl) r_cst (he true rfl))) (s_seq_ret (s_ret r_cst))))))
  have t3 : evT (Ek T (k + 1)) (.cmp .eq (.loc 0) (.cst (.str (Str.ofString "")))) [some (.str (mk cs)), none] g = .ok false g := t_cmp (r_loc rfl) r_cst (he false (decide_eq_false h3))
  by_cases h4 : cs.length ≤ 30
  · have t4 : evT (Ek T (k + 1)) (.cmp .gt (.bi1 .len (.loc 0)) (.cst (.int 30))) [some (.str (mk cs)), none] g = .ok false g := t_cmp (r_bi1 (r_loc rfl) (len_mk h)) r_cst (congrArg some (decide_eq_false (by omega)))
    have q := digs_comp (E := Ek T (k + 1)) (g := g) (i := 0) (ρ := [some (.str (mk cs)), none]) rfl rfl h
    have e5 : (cs.map fun d => decide (d ∈ digL)).all id = digB cs := by rw [List.all_map]; rfl
    by_cases h5 : digB cs = true
    · have t5 : evT (Ek T (k + 1)) (.not_ (.allL (.comp [1] (.nm 1) (.itV (.loc 0)) .nil (.cmp .isin (.loc 1) (.cst (.str (Str.ofString "0123456789"))))))) [some (.str (mk cs)), none] g = .ok false g := t_not_f (t_allL q (boolsOf_map _ _) (by rw [e5, h5]))
      have ha := digB_iff.mp h5
      cases cs with
      | nil => exact absurd rfl h3
      | cons c r =>
        have e0 : ∀ b, decide (c :: r = [48]) = b → cmpV .eq g (.str (mk (c :: r))) (.str (Str.ofString "0")) = some b := fun b hb => by rw [s0_eq]; exact eqS hb
        have en : ∀ b, (!decide (c = 48)) = b → cmpV .ne g (.str ⟨#[c]⟩) (.str (Str.ofString "0")) = some b := fun b hb => by
          rw [s0_eq]
          refine neS (x := [c]) ?_
          rw [← hb]
          simp
        have pre : ∀ v, evE (Ek T (k + 1)) (.ite (.or_ (.cmp .eq (.loc 0) (.cst (.str (Str.ofString "0")))) (.cmp .ne (.idx (.loc 0) (.cst (.int 0))) (.cst (.str (Str.ofString "0"))))) (.tup (.cons (.bi1 .int (.loc 0)) .nil)) (.cst .non)) [some (.str (mk (c :: r))), none] g = .ok v g → callF T (k + 2) f_run_value [.str (mk (c :: r))] g = .ok v g :=
          fun v hv => c_ret rfl rfl (s_seq (s_ife_f t1 s_nil) (s_seq (s_ife_f t2 s_nil) (s_seq (s_ife_f (t_or_f t3 (t_or_f t4 t5)) s_nil) (s_seq_ret (s_ret hv)))))
        refine pre _ ?_
        have hv : evE (Ek T (k + 1)) (.tup (.cons (.bi1 .int (.loc 0)) .nil)) [some (.str (mk (c :: r))), none] g = .ok (.tup [.int ((digitsVal (c :: r) : Nat) : Int)]) g := r_tup (r_cons (r_bi1 (r_loc rfl) (int_mk ha (by simp) h4)) r_nil) (by show 1 ≤ SZ; decide)
        by_cases h6 : c :: r = [48]
        · rw [if_pos (by rw [h5, decide_eq_true h4, decide_eq_true h6]; rfl)]
          exact r_ite_t (t_or_t (t_cmp (r_loc rfl) r_cst (e0 true (decide_eq_true h6)))) hv
        · by_cases h7 : c = 48
          · rw [if_neg (by rw [decide_eq_false h6, decide_eq_false (show ¬ (c :: r).headD 0 ≠ 48 from fun z => z h7)]; simp)]
            exact r_ite_f (t_or_f (t_cmp (r_loc rfl) r_cst (e0 false (decide_eq_false h6))) (t_cmp (r_idx (r_loc rfl) r_cst (idx0 h)) r_cst (en false (by rw [decide_eq_true h7]; rfl)))) r_cst
          · rw [if_pos (by rw [h5, decide_eq_true h4, decide_eq_true (show (c :: r).headD 0 ≠ 48 from h7)]; simp)]
            exact r_ite_t (t_or_f (t_cmp (r_loc rfl) r_cst (e0 false (decide_eq_false h6))) (t_cmp (r_idx (r_loc rfl) r_cst (idx0 h)) r_cst (en true (by rw [decide_eq_false h7]; rfl)))) hv
    · have h5' : digB cs = false := by simpa using h5
      have t5 : evT (Ek T (k + 1)) (.not_ (.allL (.comp [1] (.nm 1) (.itV (.loc 0)) .nil (.cmp .isin (.loc 1) (.cst (.str (Str.ofString "0123456789"))))))) [some (.str (mk cs)), none] g = .ok true g := t_not_t (t_allL q (boolsOf_map _ _) (by rw [e5, h5']))
      rw [if_neg (by rw [h5']; simp)]
      exact c_ret rfl rfl (s_seq (s_ife_f t1 s_nil) (s_seq (s_ife_f t2 s_nil) (s_seq_ret (s_ife_t (t_or_f t3 (t_or_f t4 t5)) (s_seq_ret (s_ret r_cst))))))
  · have t4 : evT (Ek T (k + 1)) (.cmp .gt (.bi1 .len (.loc 0)) (.cst (.int 30))) [some (.str (mk cs)), none] g = .ok true g := t_cmp (r_bi1 (r_loc rfl) (len_mk h)) r_cst (congrArg some (decide_eq_true (by omega)))
    rw [if_neg (by rw [decide_eq_false h4]; simp)]
    exact c_ret rfl rfl (s_seq (s_ife_f t1 s_nil) (s_seq (s_ife_f t2 s_nil) (s_seq_ret (s_ife_t (t_or_f t3 (t_or_t t4)) (s_seq_ret (s_ret r_cst))))))
def valB : Option MV → MV
  | some v => .tup [.bl true, v]
  | none => .tup [.bl false, .non]
theorem digs_filter {E : Ev} {ρ : MSt} (hi : getLoc ρ 0 = some (.str (mk cs))) (hr : ρ.length = 2) (h : cs.length ≤ SZ) :
    evL E (.comp [1] (.nm 1) (.itV (.loc 0)) (.cmp .notin (.loc 1) (.cst (.str (Str.ofString "0123456789")))) (.loc 1)) ρ g = .ok ((cs.map fun d => .str ⟨#[d]⟩ : List MV).filter fun x => !decide (hd1 x ∈ digL)) g := by
  refine l_comp (by intro h; cases h) (i_itV (r_loc hi) rfl) ?_
  rw [charsOf_mk, loopC_filter (p := fun x => !decide (hd1 x ∈ digL)) (f := id)]
  · rw [List.map_id]
  · intro x hx
    obtain ⟨d, hd, rfl⟩ := List.mem_map.mp hx
    match ρ, hr with
    | [a, b], _ =>
      refine ⟨_, rfl, t_cmp (r_loc rfl) r_cst ?_, fun _ => r_loc rfl⟩
      show cmpV .notin g (.str ⟨#[d]⟩) (.str sDIG) = _
      rw [sDIG_eq]
      exact notin1 rfl
  · rw [List.length_map]
    exact h
theorem l_value_of (k : Nat) (h : cs.length ≤ SZ) (h3 : cs ≠ []) : callF T (k + 2) f_l_value_of [.str (mk cs)] g = .ok (valB (leafOf cs)) g := by
  have hw := l_is_word (g := g) (v := .str (mk cs)) k (.str _ h)
  have hwe : isWord (.str (mk cs)) = wordL cs := rfl
  rw [hwe] at hw
  have hmi : ∀ b, decide (cs = [45]) = b → cmpV .eq g (.str (mk cs)) (.str (Str.ofString "-")) = some b := fun b hb => by rw [sMI]; exact eqS hb
  unfold leafOf
  by_cases h1 : cs = [45]
  · rw [if_pos h1]
    exact c_ret rfl rfl (s_seq_ret (s_ife_t (t_cmp (r_loc rfl) r_cst (hmi true (decide_eq_true h1))) (s_seq_ret (s_ret (r_tup (r_cons r_cst (r_cons r_cst r_nil)) (by decide))))))
  rw [if_neg h1]
  have t1 : evT (Ek T (k + 1)) (.cmp .eq (.loc 0) (.cst (.str (Str.ofString "-")))) [some (.str (mk cs)), none] g = .ok false g := t_cmp (r_loc rfl) r_cst (hmi false (decide_eq_false h1))
  by_cases h2 : wordL cs = true
  · rw [if_pos h2]
    rw [h2] at hw
    exact c_ret rfl rfl (s_seq (s_ife_f t1 s_nil) (s_seq_ret (s_ife_t (t_call (r_cons (r_loc rfl) r_nil) hw rfl) (s_seq_ret (s_ret (r_tup (r_cons r_cst (r_cons (r_loc rfl) r_nil)) (by show 2 ≤ SZ; decide)))))))
  rw [if_neg h2]
  rw [Bool.not_eq_true] at h2
  rw [h2] at hw
  have t2 : evT (Ek T (k + 1)) (.call 24 (.cons (.loc 0) .nil)) [some (.str (mk cs)), none] g = .ok false g := t_call (r_cons (r_loc rfl) r_nil) hw rfl
  have q := digs_filter (E := Ek T (k + 1)) (g := g) (ρ := [some (.str (mk cs)), none]) rfl rfl h
  have eq : (false != ((cs.map fun d => (.str ⟨#[d]⟩ : MV)).filter fun x => !decide (hd1 x ∈ digL)).isEmpty) = digB cs := by
    rw [noneOut fun x => decide (hd1 x ∈ digL)]
    rfl
  have no : ∀ {x : X}, evT (Ek T (k + 1)) x [some (.str (mk cs)), none] g = .ok false g → exS (Ek T (k + 1)) (.seq (.ife x (.seq (.ret (.tup (.cons (.cst (.bl true)) (.cons (.bi1 .int (.loc 0)) .nil)))) .nil) .nil) (.seq (.ret (.tup (.cons (.cst (.bl false)) (.cons (.cst .non) .nil)))) .nil)) [some (.str (mk cs)), none] g = .ok (.ret (.tup [.bl false, .non])) g :=
    fun hx => s_seq (s_ife_f hx s_nil) (s_seq_ret (s_ret (r_tup (r_cons r_cst (r_cons r_cst r_nil)) (by decide))))
  have pre : ∀ {x : XS} {v : MV}, exS (Ek T (k + 1)) x [some (.str (mk cs)), none] g = .ok (.ret v) g → exS (Ek T (k + 1)) (.seq (.ife (.cmp .eq (.loc 0) (.cst (.str ("-" : PySem.Str)))) (.seq (.ret (.tup (.cons (.cst (.bl true)) (.cons (.cst .non) .nil)))) .nil) .nil) (.seq (.ife (.call 24 (.cons (.loc 0) .nil)) (.seq (.ret (.tup (.cons (.cst (.bl true)) (.cons (.loc 0) .nil)))) .nil) .nil) x)) [some (.str (mk cs)), none] g = .ok (.ret v) g :=
    fun hx => s_seq (s_ife_f t1 s_nil) (s_seq (s_ife_f t2 s_nil) hx)
  cases h5 : digB cs with
  | false =>
    rw [if_neg (by simp)]
    exact c_ret rfl rfl (pre (no (t_and_f (t_eqNilL q (by rw [eq, h5])))))
  | true =>
    have t5 : evT (Ek T (k + 1)) (.eqNilL false (.comp [1] (.nm 1) (.itV (.loc 0)) (.cmp .notin (.loc 1) (.cst (.str (Str.ofString "0123456789")))) (.loc 1))) [some (.str (mk cs)), none] g = .ok true g := t_eqNilL q (by rw [eq, h5])
    have ha := digB_iff.mp h5
    cases cs with
    | nil => exact absurd rfl h3
    | cons c r =>
      have e0 : ∀ b, decide (c :: r = [48]) = b → cmpV .eq g (.str (mk (c :: r))) (.str (Str.ofString "0")) = some b := fun b hb => by rw [s0_eq]; exact eqS hb
      have en : ∀ b, (!decide (c = 48)) = b → cmpV .ne g (.str ⟨#[c]⟩) (.str (Str.ofString "0")) = some b := fun b hb => by
        rw [s0_eq]
        refine neS (x := [c]) ?_
        rw [← hb]
        simp
      have t6 : evT (Ek T (k + 1)) (.or_ (.cmp .eq (.loc 0) (.cst (.str (Str.ofString "0")))) (.cmp .ne (.idx (.loc 0) (.cst (.int 0))) (.cst (.str (Str.ofString "0"))))) [some (.str (mk (c :: r))), none] g = .ok (decide (c :: r = [48]) || decide ((c :: r).headD 0 ≠ 48)) g := by
        by_cases h6 : c :: r = [48]
        · rw [decide_eq_true h6]
          exact t_or_t (t_cmp (r_loc rfl) r_cst (e0 true (decide_eq_true h6)))
        · rw [decide_eq_false h6]
          refine t_or_f (t_cmp (r_loc rfl) r_cst (e0 false (decide_eq_false h6))) (t_cmp (r_idx (r_loc rfl) r_cst (idx0 h)) r_cst (en _ ?_))
          rw [Bool.false_or]
          show (!decide (c = 48)) = decide (c ≠ 48)
          simp
      cases h6 : (decide (c :: r = [48]) || decide ((c :: r).headD 0 ≠ 48)) with
      | false =>
        rw [h6] at t6
        rw [if_neg (by simp)]
        exact c_ret rfl rfl (pre (no (t_and_t t5 (t_and_f t6))))
      | true =>
        rw [h6] at t6
        have t7 : ∀ b, decide ((c :: r).length ≤ 30) = b → evT (Ek T (k + 1)) (.cmp .lt (.bi1 .len (.loc 0)) (.cst (.int 31))) [some (.str (mk (c :: r))), none] g = .ok b g := fun b hb => t_cmp (r_bi1 (r_loc rfl) (len_mk h)) r_cst (by
          rw [← hb]
          exact congrArg some (decide_eq_decide.mpr (by omega)))
        by_cases h4 : (c :: r).length ≤ 30
        · rw [if_pos (by rw [decide_eq_true h4]; rfl)]
          exact c_ret rfl rfl (pre (s_seq_ret (s_ife_t (t_and_t t5 (t_and_t t6 (t7 true (decide_eq_true h4)))) (s_seq_ret (s_ret (r_tup (r_cons r_cst (r_cons (r_bi1 (r_loc rfl) (int_mk ha (by simp) h4)) r_nil)) (by show 2 ≤ SZ; decide)))))))
        · rw [if_neg (by rw [decide_eq_false h4]; simp)]
          exact c_ret rfl rfl (pre (no (t_and_t t5 (t_and_t t6 (t7 false (decide_eq_false h4))))))
end
end K88
end
section
set_option Elab.async false
set_option linter.all false
set_option autoImplicit false
set_option maxRecDepth 100000
set_option maxHeartbeats 1000000
namespace K88
open PySem (Str)
open MP
/-! ### the reader -/
def Rd (g : MH) (r : Nat) (cs : List Nat) (p : Nat) : Prop := g[r]? = some (.ins 0 [(0, .str (mk cs)), (1, .int (p : Int))])
theorem sIx_nat {n d p : Nat} : sIx n d (some (p : Int)) = min p n := by
  simp only [sIx]
  rw [if_neg (by omega)]
  rfl
theorem cut_nat {α : Type} {xs : List α} {p q : Nat} (h : p ≤ xs.length) : cut xs (some (p : Int)) (some (q : Int)) = (xs.drop p).take (q - p) := by
  unfold cut
  rw [sIx_nat, sIx_nat, Nat.min_eq_left h]
  by_cases h2 : q ≤ xs.length
  · rw [Nat.min_eq_left h2]
  · rw [Nat.min_eq_right (by omega), List.take_of_length_le (by rw [List.length_drop]; omega), List.take_of_length_le (by rw [List.length_drop]; omega)]
theorem slV_nat {cs : List Nat} {p q : Nat} (h : p ≤ cs.length) (hl : cs.length ≤ SZ) : slV (.str (mk cs)) (some (p : Int)) (some (q : Int)) = some (.str (mk ((cs.drop p).take (q - p)))) := by
  show (if cs.length ≤ SZ then some (MV.str (cutS (mk cs) (some (p : Int)) (some (q : Int)))) else none) = _
  rw [if_pos hl]
  show some (MV.str (mk (cut cs (some (p : Int)) (some (q : Int))))) = _
  rw [cut_nat h]
section
variable {g : MH} {r p : Nat} {cs : List Nat}
theorem Rd.text (h : Rd g r cs p) : fldAt T g (.loc r) 0 = some (.str (mk cs)) := by
  unfold Rd at h
  simp only [fldAt, h]
  rfl
theorem Rd.at (h : Rd g r cs p) : fldAt T g (.loc r) 1 = some (.int (p : Int)) := by
  unfold Rd at h
  simp only [fldAt, h]
  rfl
theorem Rd.lt (h : Rd g r cs p) : r < g.length := (List.getElem?_eq_some_iff.mp h).1
theorem Rd.put (h : Rd g r cs p) (q : Nat) : ∃ g', fldPut T (.loc r) 1 (.int (q : Int)) g = some g' ∧ g' = g.set r (.ins 0 [(0, .str (mk cs)), (1, .int (q : Int))]) ∧ Rd g' r cs q := by
  have hl := h.lt
  unfold Rd at h
  refine ⟨_, ?_, rfl, ?_⟩
  · simp only [fldPut, h]
    rfl
  · unfold Rd
    rw [List.getElem?_set_self hl]
theorem Rd.m (h : Rd g r cs p) {m f : Nat} (hm : (T.cls[0]?).bind (fun k => k.meths.lookup m) = some f) (hf : ([(0, MV.str (mk cs)), (1, .int (p : Int))] : List (Nat × MV)).lookup m = none) : methAt T g (.loc r) m = some f := by
  unfold Rd at h
  simp only [methAt, h, hf]
  exact hm
theorem is_next (k : Nat) (h : Rd g r cs p) (hp : p ≤ cs.length) (hl : cs.length ≤ SZ) (s : Nat) : callF T (k + 1) f_Values_is_next [.loc r, .str (mk [s])] g = .ok (.bl (decide ((cs.drop p).take 1 = [s]))) g := by
  have e : slV (.str (mk cs)) (some (p : Int)) (some ((p : Int) + 1)) = some (.str (mk ((cs.drop p).take 1))) := by
    have := slV_nat (q := p + 1) hp hl
    rw [show p + 1 - p = 1 by omega] at this
    exact this
  exact c_ret rfl rfl (s_seq_ret (s_ret (r_cmp (r_sl (r_fld (r_loc rfl) h.text) (r_o (r_fld (r_loc rfl) h.at)) (r_o (r_bin (r_fld (r_loc rfl) h.at) r_cst rfl)) e) (r_loc rfl) (eqS rfl))))
theorem fail (k : Nat) (h : Rd g r cs p) : callF T (k + 1) f_Values_fail [.loc r] g = .exc 1 [.int 1, .int ((p : Int) + 1)] g :=
  c_exc rfl rfl (s_seq_exc (s_raise (r_cons r_cst (r_cons (r_bin (r_fld (r_loc rfl) h.at) r_cst rfl) r_nil))))
def nd (c : Nat) : Bool := decide (c ≠ 32) && decide (c ≠ 40) && decide (c ≠ 41)
theorem sDEL : (Str.ofString " ()") = mk [32, 40, 41] := by decide +kernel
theorem nd_eq (c : Nat) : (!decide (c ∈ [32, 40, 41])) = nd c := by
  unfold nd
  rw [Bool.eq_iff_iff]
  simp [and_assoc]
theorem atI_nat {α : Type} {xs : List α} {p : Nat} : atI xs (p : Int) = xs[p]? := by
  unfold atI ixN
  rw [if_pos (by omega)]
  by_cases h : p < xs.length
  · rw [if_pos (by omega)]
    rfl
  · rw [if_neg (by omega), List.getElem?_eq_none (by omega)]
    rfl
theorem idxS {i : Nat} {c : Nat} (hl : cs.length ≤ SZ) (h : cs[i]? = some c) : idxV g (.str (mk cs)) (.int (i : Int)) = some (.str ⟨#[c]⟩) := by
  show (if cs.length ≤ SZ then (atI cs (i : Int)).map fun c => MV.str ⟨#[c]⟩ else none) = _
  rw [if_pos hl, atI_nat, h]
  rfl
theorem run_loop (k : Nat) (h : Rd g r cs p) (hl : cs.length ≤ SZ) : ∀ (n e : Nat), e ≤ cs.length → cs.length - e < n →
    loopW (fun ρ => evT (Ek T k) (.and_ (.cmp .lt (.loc 1) (.bi1 .len (.fld (.loc 0) 0))) (.cmp .notin (.idx (.fld (.loc 0) 0) (.loc 1)) (.cst (.str (" ()" : PySem.Str))))) ρ) (fun ρ g => exS (Ek T k) (.seq (.set 1 (.bin .add (.loc 1) (.cst (.int 1)))) .nil) ρ g) n [some (.loc r), some (.int (e : Int))] g =
      .ok (.next [some (.loc r), some (.int ((e + ((cs.drop e).takeWhile nd).length : Nat) : Int))]) g := by
  intro n
  induction n with
  | zero => intro e _ h2; omega
  | succ n ih =>
    intro e he hn
    have tl : ∀ b, decide (e < cs.length) = b → evT (Ek T k) (.cmp .lt (.loc 1) (.bi1 .len (.fld (.loc 0) 0))) [some (.loc r), some (.int (e : Int))] g = .ok b g := fun b hb =>
      t_cmp (r_loc rfl) (r_bi1 (r_fld (r_loc rfl) h.text) (len_mk hl)) (by rw [← hb]; exact congrArg some (decide_eq_decide.mpr (by omega)))
    by_cases h1 : e < cs.length
    · have hc : cs[e]? = some cs[e] := List.getElem?_eq_getElem h1
      have hd : cs.drop e = cs[e] :: cs.drop (e + 1) := List.drop_eq_getElem_cons h1
      have tn : ∀ b, nd cs[e] = b → evT (Ek T k) (.cmp .notin (.idx (.fld (.loc 0) 0) (.loc 1)) (.cst (.str (" ()" : PySem.Str)))) [some (.loc r), some (.int (e : Int))] g = .ok b g := fun b hb => by
        refine t_cmp (r_idx (r_fld (r_loc rfl) h.text) (r_loc rfl) (idxS hl hc)) r_cst ?_
        rw [sDEL]
        exact notin1 (by rw [nd_eq, hb])
      cases hn2 : nd cs[e] with
      | false =>
        rw [w_stop (t_and_t (tl true (decide_eq_true h1)) (tn false hn2)), hd, List.takeWhile_cons, hn2]
        simp
      | true =>
        rw [w_next (t_and_t (tl true (decide_eq_true h1)) (tn true hn2)) (s_seq (s_set (r_bin (r_loc rfl) r_cst rfl)) s_nil)]
        have := ih (e + 1) (by omega) (by omega)
        rw [hd, List.takeWhile_cons, hn2]
        simp only [if_true, List.length_cons]
        rw [show e + ((List.takeWhile nd (cs.drop (e + 1))).length + 1) = e + 1 + (List.takeWhile nd (cs.drop (e + 1))).length by omega]
        exact this
    · rw [w_stop (t_and_f (tl false (decide_eq_false h1))), List.drop_eq_nil_of_le (by omega)]
      simp
theorem take_takeWhile {α : Type} (q : α → Bool) : ∀ xs : List α, xs.take (xs.takeWhile q).length = xs.takeWhile q
  | [] => rfl
  | x :: xs => by
    rw [List.takeWhile_cons]
    split
    · rw [List.length_cons, List.take_succ_cons, take_takeWhile q xs]
    · rfl
theorem run (k : Nat) (h : Rd g r cs p) (hp : p ≤ cs.length) (hl : cs.length ≤ SZ) : callF T (k + 1) f_Values_run [.loc r] g = .ok (.str (mk ((cs.drop p).takeWhile nd))) g := by
  have e : slV (.str (mk cs)) (some (p : Int)) (some ((p + ((cs.drop p).takeWhile nd).length : Nat) : Int)) = some (.str (mk ((cs.drop p).takeWhile nd))) := by
    rw [slV_nat hp hl, show p + ((cs.drop p).takeWhile nd).length - p = ((cs.drop p).takeWhile nd).length by omega, take_takeWhile]
  exact c_ret rfl rfl (s_seq (s_set (r_fld (r_loc rfl) h.at)) (s_seq (s_whl (run_loop k h hl FUEL p hp (by unfold FUEL; unfold SZ at hl; omega))) (s_seq_ret (s_ret (r_sl (r_fld (r_loc rfl) h.text) (r_o (r_fld (r_loc rfl) h.at)) (r_o (r_loc rfl)) e)))))
end
end K88
end
section
set_option Elab.async false
set_option linter.all false
set_option autoImplicit false
set_option maxRecDepth 100000
set_option maxHeartbeats 1000000
namespace K88
open PySem (Str)
open MP
/-! ### texts and their signs -/
def Delim (t : List Nat) : Prop := t = [] ∨ ∃ c r, t = c :: r ∧ nd c = false
theorem leaf_nd {v : MV} (h : leafB v = true) : ∀ c ∈ txt v, nd c = true := by
  intro c hc
  have go : (97 ≤ c ∧ c ≤ 122) ∨ (48 ≤ c ∧ c ≤ 57) ∨ c = 45 := by
    cases v with
    | non => exact .inr (.inr (by simpa [txt] using hc))
    | str x =>
      rcases (wordL_iff.mp (show wordL x.cps.toList = true from h)).2 c hc with h | h
      · exact .inl h
      · exact .inr (.inl h)
    | int i =>
      simp only [leafB, Bool.and_eq_true, decide_eq_true_eq] at h
      obtain ⟨n, rfl⟩ := Int.eq_ofNat_of_zero_le h.1
      rw [txt, strI_nat] at hc
      exact .inr (.inl (digs_all n c hc))
    | _ => exact absurd h (by simp [leafB])
  unfold nd
  simp only [Bool.and_eq_true, decide_eq_true_eq]
  omega
theorem leaf_ne {v : MV} (h : leafB v = true) : txt v ≠ [] := by
  have := leafOf_txt h
  exact (txt_leafOf this).2.2
theorem plain_leaf_or {n : Nat} {v : MV} (h : plainB n v = true) : (isT v = false ∧ leafB v = true) ∨ ∃ m xs, n = m + 1 ∧ v = .tup xs ∧ ∀ x ∈ xs, plainB m x = true := by
  cases ht : isT v with
  | false =>
    rw [plainB_leaf ht] at h
    exact .inl ⟨rfl, h⟩
  | true =>
    cases v with
    | tup xs =>
      cases n with
      | zero => exact absurd h (by simp [plainB, leafB])
      | succ m => exact .inr ⟨m, xs, rfl, rfl, List.all_eq_true.mp h⟩
    | _ => exact absurd ht (by simp [isT])
/-- the first sign of a plain value's text -/
theorem txt_head {n : Nat} {v : MV} (h : plainB n v = true) : ∃ c r, txt v = c :: r ∧ ((isT v = true ∧ c = 40) ∨ (isT v = false ∧ nd c = true)) := by
  rcases plain_leaf_or h with ⟨ht, hl⟩ | ⟨m, xs, rfl, rfl, _⟩
  · have hn := leaf_nd hl
    have hne := leaf_ne hl
    cases e : txt v with
    | nil => exact absurd e hne
    | cons c r => exact ⟨c, r, rfl, .inr ⟨ht, hn c (by rw [e]; exact List.mem_cons_self)⟩⟩
  · exact ⟨40, _, txt_tup xs, .inl ⟨rfl, rfl⟩⟩
theorem txt_pos {n : Nat} {v : MV} (h : plainB n v = true) : 1 ≤ (txt v).length := by
  obtain ⟨c, r, e, _⟩ := txt_head h
  rw [e]
  simp
theorem nd_head {c : Nat} (h : nd c = true) : c ≠ 32 ∧ c ≠ 40 ∧ c ≠ 41 := by
  unfold nd at h
  simp only [Bool.and_eq_true, decide_eq_true_eq] at h
  exact ⟨h.1.1, h.1.2, h.2⟩
theorem takeWhile_leaf {cs tail : List Nat} (h : ∀ c ∈ cs, nd c = true) (ht : Delim tail) : (cs ++ tail).takeWhile nd = cs := by
  induction cs with
  | nil =>
    rcases ht with rfl | ⟨c, r, rfl, hc⟩
    · rfl
    · rw [List.nil_append, List.takeWhile_cons, hc]
      rfl
  | cons c cs ih =>
    rw [List.cons_append, List.takeWhile_cons, h c List.mem_cons_self, if_pos rfl, ih fun d hd => h d (List.mem_cons_of_mem _ hd)]
theorem takeWhile_delim (cs : List Nat) : Delim (cs.drop (cs.takeWhile nd).length) := by
  induction cs with
  | nil => exact .inl rfl
  | cons c cs ih =>
    rw [List.takeWhile_cons]
    split
    · rw [List.length_cons, List.drop_succ_cons]
      exact ih
    · rename_i h
      exact .inr ⟨c, cs, rfl, by simpa using h⟩
theorem split_takeWhile (cs : List Nat) : cs = cs.takeWhile nd ++ cs.drop (cs.takeWhile nd).length := by
  conv => lhs; rw [← List.take_append_drop (cs.takeWhile nd).length cs]
  rw [take_takeWhile]
/-- what is written behind an open bracket's first items -/
def more (ws : List MV) : List Nat := (ws.map fun w => 32 :: txt w).flatten
def items (first : Bool) (ws : List MV) : List Nat := match first, ws with
  | true, [] => []
  | true, w :: ws => txt w ++ more ws
  | false, ws => more ws
theorem joinSp_more : ∀ (ws : List MV), joinSp (ws.map txt) = items true ws
  | [] => rfl
  | [w] => by simp [joinSp, items, more]
  | w :: u :: r => by
    rw [List.map_cons, List.map_cons, joinSp, ← List.map_cons, joinSp_more (u :: r)]
    simp [items, more]
theorem txt_items (xs : List MV) : txt (.tup xs) = 40 :: (items true xs ++ [41]) := by rw [txt_tup, joinSp_more]
end K88
end
section
set_option Elab.async false
set_option linter.all false
set_option autoImplicit false
set_option maxRecDepth 100000
set_option maxHeartbeats 2000000
namespace K88
open PySem (Str)
open MP
/-! ### the reader reads -/
structure Fr (r : Nat) (g g' : MH) : Prop where
  le : g.length ≤ g'.length
  keep : ∀ l, l < g.length → l ≠ r → g'[l]? = g[l]?
theorem Fr.refl {r : Nat} {g : MH} : Fr r g g := ⟨Nat.le_refl _, fun _ _ _ => rfl⟩
theorem Fr.trans {r : Nat} {g g1 g2 : MH} (a : Fr r g g1) (b : Fr r g1 g2) : Fr r g g2 := ⟨Nat.le_trans a.le b.le, fun l h1 h2 => (b.keep l (Nat.lt_of_lt_of_le h1 a.le) h2).trans (a.keep l h1 h2)⟩
theorem Fr.set {r : Nat} {g : MH} {o : MO} : Fr r g (g.set r o) := ⟨by rw [List.length_set]; exact Nat.le_refl _, fun l _ h => List.getElem?_set_ne (Ne.symm h)⟩
theorem Fr.app {r : Nat} {g : MH} {o : MO} : Fr r g (g ++ [o]) := ⟨by rw [List.length_append]; omega, fun l h _ => List.getElem?_append_left h⟩
structure Fr2 (r L : Nat) (g g' : MH) : Prop where
  le : g.length ≤ g'.length
  keep : ∀ l, l < g.length → l ≠ r → l ≠ L → g'[l]? = g[l]?
theorem Fr.two {r L : Nat} {g g' : MH} (a : Fr r g g') : Fr2 r L g g' := ⟨a.le, fun l h1 h2 _ => a.keep l h1 h2⟩
theorem Fr2.trans {r L : Nat} {g g1 g2 : MH} (a : Fr2 r L g g1) (b : Fr2 r L g1 g2) : Fr2 r L g g2 := ⟨Nat.le_trans a.le b.le, fun l h1 h2 h3 => (b.keep l (Nat.lt_of_lt_of_le h1 a.le) h2 h3).trans (a.keep l h1 h2 h3)⟩
theorem Fr2.setL {r L : Nat} {g : MH} {o : MO} : Fr2 r L g (g.set L o) := ⟨by rw [List.length_set]; exact Nat.le_refl _, fun l _ _ h => List.getElem?_set_ne (Ne.symm h)⟩
def Comp (rest : List Nat) (n : Nat) (o : Option MV) : Prop := ∀ v tail, rest = txt v ++ tail → plainB n v = true → Delim tail → o = some v
def CompI (rest : List Nat) (first : Bool) (n : Nat) (o : Option (List MV)) : Prop := ∀ ws tail, rest = items first ws ++ 41 :: tail → (∀ x ∈ ws, plainB n x = true) → o = some ws
section
variable {r : Nat} {cs : List Nat}
def ValOk (r : Nat) (cs : List Nat) (n k : Nat) (g : MH) (p : Nat) : Prop :=
  (∃ v g' tail, callF T k f_Values_value [.loc r, .int n] g = .ok v g' ∧ Fr r g g' ∧ Rd g' r cs (p + (txt v).length) ∧ cs.drop p = txt v ++ tail ∧ plainB n v = true ∧ Comp (cs.drop p) n (some v)) ∨
  (∃ (fs : Int) (g' : MH), callF T k f_Values_value [.loc r, .int n] g = .exc 1 [.int 1, .int fs] g' ∧ Fr r g g' ∧ Comp (cs.drop p) n none)
abbrev condX : X := .not_ (.meth (.loc 0) 2 (.cons (.cst (.str (")" : PySem.Str))) .nil))
abbrev bodyX : XS := .seq (.ife (.eqNil true (.loc 2)) (.seq (.ife (.not_ (.meth (.loc 0) 2 (.cons (.cst (.str (" " : PySem.Str))) .nil))) (.seq (.ex (.meth (.loc 0) 4 .nil)) .nil) .nil) (.seq (.setF (.loc 0) 1 (.bin .add (.fld (.loc 0) 1) (.cst (.int 1)))) .nil)) .nil) (.seq (.ex (.app (.loc 2) (.meth (.loc 0) 5 (.cons (.bin .sub (.loc 1) (.cst (.int 1))) .nil)))) .nil)
theorem t_next {E : Ev} {g : MH} {p k : Nat} {ρ : MSt} (hE : E.tab = T) (hc : E.call = callF T (k + 1)) (h0 : getLoc ρ 0 = some (.loc r)) (h : Rd g r cs p) (hp : p ≤ cs.length) (hl : cs.length ≤ SZ) {s : Nat} {x : Str} (hx : x = mk [s]) {b : Bool} (hb : (!decide ((cs.drop p).take 1 = [s])) = b) :
    evT E (.not_ (.meth (.loc 0) 2 (.cons (.cst (.str x)) .nil))) ρ g = .ok b g := by
  subst hx hb
  exact t_not (t_meth (r_loc h0) (by rw [hE]; exact h.m rfl rfl) (r_cons r_cst r_nil) (by rw [hc]; exact is_next k h hp hl s) rfl)
theorem e_fail {E : Ev} {g : MH} {p k : Nat} {ρ : MSt} (hE : E.tab = T) (hc : E.call = callF T (k + 1)) (h0 : getLoc ρ 0 = some (.loc r)) (h : Rd g r cs p) : evE E (.meth (.loc 0) 4 .nil) ρ g = .exc 1 [.int 1, .int ((p : Int) + 1)] g :=
  r_meth (r_loc h0) (by rw [hE]; exact h.m rfl rfl) r_nil (by rw [hc]; exact fail k h)
theorem s_step {E : Ev} {g : MH} {p : Nat} {ρ : MSt} (hE : E.tab = T) (h0 : getLoc ρ 0 = some (.loc r)) (h : Rd g r cs p) : ∃ g', exS E (.setF (.loc 0) 1 (.bin .add (.fld (.loc 0) 1) (.cst (.int 1)))) ρ g = .ok (.next ρ) g' ∧ Fr r g g' ∧ Rd g' r cs (p + 1) := by
  obtain ⟨g', h1, h2, h3⟩ := h.put (p + 1)
  refine ⟨g', s_setF (r_bin (r_fld (r_loc h0) (by rw [hE]; exact h.at)) r_cst rfl) (r_loc h0) (by rw [hE]; exact h1), by rw [h2]; exact .set, h3⟩
theorem take1_eq {xs : List Nat} {s : Nat} : xs.take 1 = [s] ↔ ∃ t, xs = s :: t := by
  cases xs with
  | nil => simp
  | cons x t => simp
theorem take1_dec {xs : List Nat} {s : Nat} {b : Bool} (h : (∃ t, xs = s :: t) ↔ b = true) : decide (xs.take 1 = [s]) = b := by
  rw [Bool.eq_iff_iff, decide_eq_true_eq, take1_eq]
  exact h
theorem more_head {ws : List MV} {tail : List Nat} : Delim (more ws ++ 41 :: tail) := by
  cases ws with
  | nil => exact .inr ⟨41, tail, rfl, rfl⟩
  | cons w ws => exact .inr ⟨32, _, rfl, rfl⟩
theorem loop (hl : cs.length ≤ SZ) {n k L : Nat} (hL : L ≠ r) (ih : ∀ g p, Rd g r cs p → p ≤ cs.length → ValOk r cs n (k + 1) g p) :
    ∀ (N q : Nat) (acc : List MV) (g : MH), cs.length - q < N → q ≤ cs.length → Rd g r cs q → g[L]? = some (.lst acc) → acc.length ≤ q →
      (∃ ws g' tail, loopW (fun ρ => evT (Ek T (k + 1)) condX ρ) (fun ρ g => exS (Ek T (k + 1)) bodyX ρ g) N [some (.loc r), some (.int ((n + 1 : Nat) : Int)), some (.loc L)] g = .ok (.next [some (.loc r), some (.int ((n + 1 : Nat) : Int)), some (.loc L)]) g' ∧ Fr2 r L g g' ∧
        g'[L]? = some (.lst (acc ++ ws)) ∧ Rd g' r cs (q + (items acc.isEmpty ws).length) ∧ cs.drop q = items acc.isEmpty ws ++ 41 :: tail ∧ (∀ x ∈ ws, plainB n x = true) ∧ CompI (cs.drop q) acc.isEmpty n (some ws)) ∨
      (∃ (fs : Int) (ρ : MSt) (g' : MH), loopW (fun ρ => evT (Ek T (k + 1)) condX ρ) (fun ρ g => exS (Ek T (k + 1)) bodyX ρ g) N [some (.loc r), some (.int ((n + 1 : Nat) : Int)), some (.loc L)] g = .exc 1 [.int 1, .int fs] ρ g' ∧ Fr2 r L g g' ∧ CompI (cs.drop q) acc.isEmpty n none) := by
  intro N
  induction N with
  | zero => intro q acc g h1; omega
  | succ N ihN =>
    intro q acc g hN hq hR hA hacc
    have lat : lstAt g (.loc L) = some acc := by simp only [lstAt, hA]
    have cond : ∀ b, (!decide ((cs.drop q).take 1 = [41])) = b → evT (Ek T (k + 1)) condX [some (.loc r), some (.int ((n + 1 : Nat) : Int)), some (.loc L)] g = .ok b g := fun b hb => t_next rfl rfl rfl hR hq hl sP2 hb
    by_cases h41 : ∃ t, cs.drop q = 41 :: t
    · obtain ⟨t, ht⟩ := h41
      refine .inl ⟨[], g, t, w_stop (cond false (by rw [take1_dec (b := true) ⟨fun _ => rfl, fun _ => ⟨t, ht⟩⟩]; rfl)), ⟨Nat.le_refl _, fun _ _ _ _ => rfl⟩, by simpa using hA, ?_, ?_, by simp, ?_⟩
      · cases acc <;> exact hR
      · cases acc <;> exact ht
      · intro ws tail e hp
        rw [ht] at e
        cases ws with
        | nil => rfl
        | cons w ws =>
          exfalso
          obtain ⟨c, rr, ec, hc⟩ := txt_head (hp w List.mem_cons_self)
          cases acc with
          | nil =>
            have e2 : (41 :: t : List Nat) = (txt w ++ more ws) ++ 41 :: tail := e
            rw [ec] at e2
            injection e2 with e3 _
            rcases hc with ⟨_, hc⟩ | ⟨_, hc⟩
            · omega
            · exact (nd_head hc).2.2 e3.symm
          | cons a acc =>
            have e2 : (41 :: t : List Nat) = 32 :: (txt w ++ more ws ++ 41 :: tail) := by simpa [items, more] using e
            injection e2 with e3 _
            omega
    · have cT := cond true (by rw [take1_dec (b := false) ⟨fun h => absurd h h41, fun h => nomatch h⟩]; rfl)
      -- the sign between two
      have sep : (∃ (g1 : MH) (q1 : Nat), (∀ {pp : XS} {o : SRes}, exS (Ek T (k + 1)) pp [some (.loc r), some (.int ((n + 1 : Nat) : Int)), some (.loc L)] g1 = o → exS (Ek T (k + 1)) (.seq (.ife (.eqNil true (.loc 2)) (.seq (.ife (.not_ (.meth (.loc 0) 2 (.cons (.cst (.str (" " : PySem.Str))) .nil))) (.seq (.ex (.meth (.loc 0) 4 .nil)) .nil) .nil) (.seq (.setF (.loc 0) 1 (.bin .add (.fld (.loc 0) 1) (.cst (.int 1)))) .nil)) .nil) pp) [some (.loc r), some (.int ((n + 1 : Nat) : Int)), some (.loc L)] g = o) ∧
            Fr r g g1 ∧ Rd g1 r cs q1 ∧ q1 ≤ cs.length ∧ q ≤ q1 ∧ ∀ w ws, (∀ t, cs.drop q = items acc.isEmpty (w :: ws) ++ t ↔ cs.drop q1 = txt w ++ more ws ++ t) ∧ q + (items acc.isEmpty (w :: ws)).length = q1 + (txt w ++ more ws).length) ∨
          ((∃ fs : Int, exS (Ek T (k + 1)) bodyX [some (.loc r), some (.int ((n + 1 : Nat) : Int)), some (.loc L)] g = .exc 1 [.int 1, .int fs] [some (.loc r), some (.int ((n + 1 : Nat) : Int)), some (.loc L)] g) ∧ acc ≠ [] ∧ ¬ ∃ t, cs.drop q = 32 :: t) := by
        cases acc with
        | nil =>
          refine .inl ⟨g, q, fun {pp o} h => s_seq (s_ife_f (t_eqNil (r_loc rfl) lat rfl) s_nil) h, .refl, hR, hq, Nat.le_refl _, fun w ws => ⟨fun t => Iff.rfl, rfl⟩⟩
        | cons a acc =>
          have tn : ∀ b, (!decide ((cs.drop q).take 1 = [32])) = b → evT (Ek T (k + 1)) (.not_ (.meth (.loc 0) 2 (.cons (.cst (.str (" " : PySem.Str))) .nil))) [some (.loc r), some (.int ((n + 1 : Nat) : Int)), some (.loc L)] g = .ok b g := fun b hb => t_next rfl rfl rfl hR hq hl sSP hb
          by_cases h32 : ∃ t, cs.drop q = 32 :: t
          · obtain ⟨t, ht⟩ := h32
            obtain ⟨g1, e1, f1, R1⟩ := s_step (E := Ek T (k + 1)) (ρ := [some (.loc r), some (.int ((n + 1 : Nat) : Int)), some (.loc L)]) rfl rfl hR
            have hlt : q < cs.length := by
              have := congrArg List.length ht
              rw [List.length_drop, List.length_cons] at this
              omega
            have hd1 : cs.drop (q + 1) = t := by
              rw [← List.drop_drop, ht]
              rfl
            refine .inl ⟨g1, q + 1, fun {pp o} h => s_seq (s_ife_t (t_eqNil (r_loc rfl) lat rfl) (s_seq (s_ife_f (tn false (by rw [take1_dec (b := true) ⟨fun _ => rfl, fun _ => ⟨t, ht⟩⟩]; rfl)) s_nil) (s_seq e1 s_nil))) h, f1, R1, hlt, by omega, fun w ws => ⟨fun t' => ?_, ?_⟩⟩
            · rw [hd1, ht]
              constructor
              · intro e
                have e2 : (32 :: t : List Nat) = 32 :: (txt w ++ more ws ++ t') := by simpa [items, more] using e
                injection e2
              · intro e
                rw [e]
                simp [items, more]
            · show q + (more (w :: ws)).length = q + 1 + (txt w ++ more ws).length
              have : more (w :: ws) = 32 :: (txt w ++ more ws) := by simp [more]
              rw [this, List.length_cons]
              omega
          · refine .inr ⟨⟨_, s_seq_exc (s_ife_t (t_eqNil (r_loc rfl) lat rfl) (s_seq_exc (s_ife_t (tn true (by rw [take1_dec (b := false) ⟨fun h => absurd h h32, fun h => nomatch h⟩]; rfl)) (s_seq_exc (s_ex_x (e_fail rfl rfl rfl hR))))))⟩, by simp, h32⟩
      rcases sep with ⟨g1, q1, go, f1, R1, hq1, hqq, hit⟩ | ⟨⟨fs, hx⟩, hne, h32⟩
      · have A1 : g1[L]? = some (.lst acc) := (f1.keep L (List.getElem?_eq_some_iff.mp hA).1 hL).trans hA
        have lat1 : lstAt g1 (.loc L) = some acc := by simp only [lstAt, A1]
        have m1 : methAt T g1 (.loc r) 5 = some f_Values_value := R1.m rfl rfl
        have arg : evA (Ek T (k + 1)) (.cons (.bin .sub (.loc 1) (.cst (.int 1))) .nil) [some (.loc r), some (.int ((n + 1 : Nat) : Int)), some (.loc L)] g1 = .ok [.int (n : Int)] g1 := r_cons (r_bin (r_loc rfl) r_cst (by
          show some (MV.int (((n + 1 : Nat) : Int) - 1)) = _
          rw [show (((n + 1 : Nat) : Int) - 1) = n by omega])) r_nil
        rcases ih g1 q1 R1 hq1 with ⟨v, g2, t2, c2, f2, R2, d2, pl2, cm2⟩ | ⟨fs, g2, c2, f2, cm2⟩
        · have A2 : g2[L]? = some (.lst acc) := (f2.keep L (List.getElem?_eq_some_iff.mp A1).1 hL).trans A1
          have hvl := txt_pos pl2
          have hq2 : q1 + (txt v).length ≤ cs.length := by
            have := congrArg List.length d2
            rw [List.length_drop, List.length_append] at this
            omega
          have ap : appV (.loc L) v g2 = some (g2.set L (.lst (acc ++ [v]))) := by
            simp only [appV, A2]
            rw [if_pos (by unfold SZ at *; omega)]
          have R3 : Rd (g2.set L (.lst (acc ++ [v]))) r cs (q1 + (txt v).length) := by
            unfold Rd
            rw [List.getElem?_set_ne hL]
            exact R2
          have A3 : (g2.set L (.lst (acc ++ [v])))[L]? = some (.lst (acc ++ [v])) := List.getElem?_set_self (List.getElem?_eq_some_iff.mp A2).1
          have bd : exS (Ek T (k + 1)) bodyX [some (.loc r), some (.int ((n + 1 : Nat) : Int)), some (.loc L)] g = .ok (.next [some (.loc r), some (.int ((n + 1 : Nat) : Int)), some (.loc L)]) (g2.set L (.lst (acc ++ [v]))) := go (s_seq (s_ex (r_app (r_loc rfl) lat1 (r_meth (r_loc rfl) m1 arg c2) ap)) s_nil)
          have fr : Fr2 r L g (g2.set L (.lst (acc ++ [v]))) := (f1.trans f2).two.trans .setL
          have hemp : (acc ++ [v]).isEmpty = false := by cases acc <;> rfl
          rw [w_next cT bd]
          have hdrop2 : cs.drop (q1 + (txt v).length) = t2 := by
            rw [← List.drop_drop, d2, List.drop_left]
          rcases ihN (q1 + (txt v).length) (acc ++ [v]) _ (by omega) hq2 R3 A3 (by rw [List.length_append, List.length_singleton]; omega) with ⟨ws, g4, tail, l4, f4, A4, R4, d4, p4, c4⟩ | ⟨fs, ρ, g4, l4, f4, c4⟩
          · rw [hemp] at R4 d4 c4
            have it := (hit v ws).1 (41 :: tail)
            have il := (hit v ws).2
            refine .inl ⟨v :: ws, g4, tail, l4, fr.trans f4, by simpa using A4, ?_, ?_, ?_, ?_⟩
            · rw [il, List.length_append, ← Nat.add_assoc]
              exact R4
            · refine it.mpr ?_
              rw [hdrop2] at d4
              rw [d2, d4]
              simp [items]
            · intro x hx
              rcases List.mem_cons.mp hx with rfl | hx
              · exact pl2
              · exact p4 x hx
            · intro ws0 tail0 e0 hp0
              cases ws0 with
              | nil =>
                exfalso
                have : cs.drop q = 41 :: tail0 := by cases acc <;> exact e0
                exact h41 ⟨_, this⟩
              | cons w0 ws0 =>
                have e1 := ((hit w0 ws0).1 _).mp e0
                have ev := cm2 w0 (more ws0 ++ 41 :: tail0) (by rw [e1, List.append_assoc]) (hp0 w0 List.mem_cons_self) more_head
                cases ev
                have e2 : cs.drop (q1 + (txt v).length) = more ws0 ++ 41 :: tail0 := by
                  rw [← List.drop_drop, e1, List.append_assoc, List.drop_left]
                have := c4 ws0 tail0 e2 fun x hx => hp0 x (List.mem_cons_of_mem _ hx)
                cases this
                rfl
          · rw [hemp] at c4
            refine .inr ⟨fs, ρ, g4, l4, fr.trans f4, ?_⟩
            intro ws0 tail0 e0 hp0
            cases ws0 with
            | nil =>
              exfalso
              have : cs.drop q = 41 :: tail0 := by cases acc <;> exact e0
              exact h41 ⟨_, this⟩
            | cons w0 ws0 =>
              exfalso
              have e1 := ((hit w0 ws0).1 _).mp e0
              have ev := cm2 w0 (more ws0 ++ 41 :: tail0) (by rw [e1, List.append_assoc]) (hp0 w0 List.mem_cons_self) more_head
              cases ev
              have e2 : cs.drop (q1 + (txt v).length) = more ws0 ++ 41 :: tail0 := by
                rw [← List.drop_drop, e1, List.append_assoc, List.drop_left]
              have := c4 ws0 tail0 e2 fun x hx => hp0 x (List.mem_cons_of_mem _ hx)
              cases this
        · refine .inr ⟨fs, _, g2, w_exc cT (go (s_seq_exc (s_ex_x ?_))), (f1.trans f2).two, ?_⟩
          · exact r_app_x (r_loc rfl) lat1 (r_meth (r_loc rfl) m1 arg c2)
          · intro ws0 tail0 e0 hp0
            exfalso
            cases ws0 with
            | nil =>
              have : cs.drop q = 41 :: tail0 := by cases acc <;> exact e0
              exact h41 ⟨_, this⟩
            | cons w0 ws0 =>
              have e1 := ((hit w0 ws0).1 _).mp e0
              have ev := cm2 w0 (more ws0 ++ 41 :: tail0) (by rw [e1, List.append_assoc]) (hp0 w0 List.mem_cons_self) more_head
              cases ev
      · refine .inr ⟨fs, _, g, w_exc cT hx, ⟨Nat.le_refl _, fun _ _ _ _ => rfl⟩, ?_⟩
        intro ws0 tail0 e0 hp0
        exfalso
        cases ws0 with
        | nil =>
          have : cs.drop q = 41 :: tail0 := by cases acc <;> exact e0
          exact h41 ⟨_, this⟩
        | cons w0 ws0 =>
          cases acc with
          | nil => exact hne rfl
          | cons a acc => exact h32 ⟨txt w0 ++ more ws0 ++ 41 :: tail0, by rw [e0]; simp [items, more]⟩
end
end K88
end
section
set_option Elab.async false
set_option linter.all false
set_option autoImplicit false
set_option maxRecDepth 100000
set_option maxHeartbeats 2000000
namespace K88
open PySem (Str)
open MP
section
variable {r : Nat} {cs : List Nat}
theorem idx_tup1 {g : MH} {v : MV} : idxV g (.tup [v]) (.int 0) = some v := by
  show atI [v] 0 = _
  simp [atI, ixN]
theorem leaf_read (hl : cs.length ≤ SZ) (n j : Nat) {g : MH} {p : Nat} (hR : Rd g r cs p) (hp : p ≤ cs.length) (h40 : ¬ ∃ t, cs.drop p = 40 :: t) : ValOk r cs n (j + 3) g p := by
  have rl : ((cs.drop p).takeWhile nd).length ≤ SZ := by
    have := (List.takeWhile_sublist (l := cs.drop p) nd).length_le
    rw [List.length_drop] at this
    omega
  have rv := run_value (g := g) j rl
  have ru := run (j + 1) hR hp hl
  have tn : evT (Ek T (j + 2)) (.not_ (.meth (.loc 0) 2 (.cons (.cst (.str ("(" : PySem.Str))) .nil))) [some (.loc r), some (.int (n : Int)), none] g = .ok true g := t_next rfl rfl rfl hR hp hl sP1 (by rw [take1_dec (b := false) ⟨fun h => absurd h h40, fun h => nomatch h⟩]; rfl)
  have er : ∀ {ρ : MSt}, getLoc ρ 0 = some (.loc r) → evE (Ek T (j + 2)) (.meth (.loc 0) 3 .nil) ρ g = .ok (.str (mk ((cs.drop p).takeWhile nd))) g := fun h0 => r_meth (r_loc h0) (hR.m rfl rfl) r_nil ru
  have e1 : exS (Ek T (j + 2)) (.set 2 (.call 7 (.cons (.meth (.loc 0) 3 .nil) .nil))) [some (.loc r), some (.int (n : Int)), none] g = .ok (.next [some (.loc r), some (.int (n : Int)), some (valA (leafOf ((cs.drop p).takeWhile nd)))]) g := s_set (r_call (r_cons (er rfl) r_nil) rv)
  have hleaf : ∀ v tail, cs.drop p = txt v ++ tail → plainB n v = true → Delim tail → leafOf ((cs.drop p).takeWhile nd) = some v := by
    intro v tail e hpl hd
    rcases plain_leaf_or hpl with ⟨ht, hlf⟩ | ⟨m, xs, rfl, rfl, _⟩
    · rw [e, takeWhile_leaf (leaf_nd hlf) hd]
      exact leafOf_txt hlf
    · exact absurd ⟨_, by rw [e, txt_items]; rfl⟩ h40
  cases hf : leafOf ((cs.drop p).takeWhile nd) with
  | none =>
    rw [hf] at e1
    refine .inr ⟨_, g, c_exc rfl rfl (s_seq_exc (s_ife_t tn (s_seq e1 (s_seq_exc (s_ife_t (t_isN (r_loc rfl) rfl) (s_seq_exc (s_ex_x (e_fail rfl rfl rfl hR)))))))), .refl, ?_⟩
    intro v tail e hpl hd
    have := hleaf v tail e hpl hd
    rw [hf] at this
    cases this
  | some v =>
    rw [hf] at e1
    obtain ⟨htx, hlf, _⟩ := txt_leafOf hf
    obtain ⟨g', p1, p2, p3⟩ := hR.put (p + ((cs.drop p).takeWhile nd).length)
    have hnn : isT v = false := by cases v <;> first | rfl | exact absurd hlf (by simp [leafB])
    refine .inl ⟨v, g', cs.drop (p + (txt v).length), c_ret rfl rfl (s_seq_ret (s_ife_t tn (s_seq e1 (s_seq (s_ife_f (t_isN (r_loc rfl) rfl) s_nil) (s_seq (s_setF (r_bin (r_fld (r_loc rfl) hR.at) (r_bi1 (er rfl) (len_mk rl)) rfl) (r_loc rfl) p1) (s_seq_ret (s_ret (r_idx (r_loc rfl) r_cst idx_tup1)))))))), ?_, ?_, ?_, ?_, ?_⟩
    · rw [p2]
      exact .set
    · rw [htx]
      exact p3
    · rw [← List.drop_drop, htx]
      exact split_takeWhile _
    · rw [plainB_leaf hnn]
      exact hlf
    · intro v0 tail e hpl hd
      rw [← hleaf v0 tail e hpl hd, hf]
theorem value (hl : cs.length ≤ SZ) : ∀ (n j : Nat) (g : MH) (p : Nat), Rd g r cs p → p ≤ cs.length → ValOk r cs n (n + j + 3) g p := by
  intro n
  induction n with
  | zero =>
    intro j g p hR hp
    by_cases h40 : ∃ t, cs.drop p = 40 :: t
    · have tn : evT (Ek T (j + 2)) (.not_ (.meth (.loc 0) 2 (.cons (.cst (.str ("(" : PySem.Str))) .nil))) [some (.loc r), some (.int ((0 : Nat) : Int)), none] g = .ok false g := t_next rfl rfl rfl hR hp hl sP1 (by rw [take1_dec (b := true) ⟨fun _ => rfl, fun _ => h40⟩]; rfl)
      rw [show 0 + j + 3 = j + 3 by omega]
      refine .inr ⟨_, g, c_exc rfl rfl (s_seq (s_ife_f tn s_nil) (s_seq_exc (s_ife_t (t_cmp (r_loc rfl) r_cst rfl) (s_seq_exc (s_ex_x (e_fail rfl rfl rfl hR)))))), .refl, ?_⟩
      intro v tail e hpl _
      exfalso
      obtain ⟨t, ht⟩ := h40
      obtain ⟨c, rr, ec, hc⟩ := txt_head hpl
      rw [ec, ht] at e
      injection e with e2 _
      rcases hc with ⟨h1, _⟩ | ⟨_, hc⟩
      · rcases plain_leaf_or hpl with ⟨h2, _⟩ | ⟨m, xs, h, _⟩
        · rw [h1] at h2
          cases h2
        · cases h
      · exact (nd_head hc).2.1 e2.symm
    · rw [show 0 + j + 3 = j + 3 by omega]
      exact leaf_read hl 0 j hR hp h40
  | succ n ih =>
    intro j g p hR hp
    by_cases h40 : ∃ t, cs.drop p = 40 :: t
    · obtain ⟨t, ht⟩ := h40
      have hlt : p < cs.length := by
        have := congrArg List.length ht
        rw [List.length_drop, List.length_cons] at this
        omega
      obtain ⟨k, hk⟩ : ∃ k, k = n + j + 2 := ⟨_, rfl⟩
      rw [show n + 1 + j + 3 = k + 2 by omega]
      have ih' : ∀ g p, Rd g r cs p → p ≤ cs.length → ValOk r cs n (k + 1) g p := fun g p a b => by
        have := ih j g p a b
        rw [show n + j + 3 = k + 1 by omega] at this
        exact this
      have tn : evT (Ek T (k + 1)) (.not_ (.meth (.loc 0) 2 (.cons (.cst (.str ("(" : PySem.Str))) .nil))) [some (.loc r), some (.int ((n + 1 : Nat) : Int)), none] g = .ok false g := t_next rfl rfl rfl hR hp hl sP1 (by rw [take1_dec (b := true) ⟨fun _ => rfl, fun _ => ⟨t, ht⟩⟩]; rfl)
      have t0 : evT (Ek T (k + 1)) (.cmp .eq (.loc 1) (.cst (.int 0))) [some (.loc r), some (.int ((n + 1 : Nat) : Int)), none] g = .ok false g := t_cmp (r_loc rfl) r_cst (by
        show some (decide (((n + 1 : Nat) : Int) = 0)) = _
        exact congrArg some (decide_eq_false (by omega)))
      obtain ⟨g1, e1, f1, R1⟩ := s_step (E := Ek T (k + 1)) (ρ := [some (.loc r), some (.int ((n + 1 : Nat) : Int)), none]) rfl rfl hR
      have hL : g1.length ≠ r := Nat.ne_of_gt R1.lt
      have e2 : exS (Ek T (k + 1)) (.set 2 (.lstOf (.disp .nil))) [some (.loc r), some (.int ((n + 1 : Nat) : Int)), none] g1 = .ok (.next [some (.loc r), some (.int ((n + 1 : Nat) : Int)), some (.loc g1.length)]) (g1 ++ [.lst []]) := s_set (r_lst (l_disp r_nil (by decide)))
      have R2 : Rd (g1 ++ [.lst []]) r cs (p + 1) := by
        unfold Rd
        rw [List.getElem?_append_left R1.lt]
        exact R1
      have A2 : (g1 ++ [.lst []])[g1.length]? = some (.lst []) := by simp
      have hd1 : cs.drop (p + 1) = t := by
        rw [← List.drop_drop, ht]
        rfl
      have pre : ∀ {q : SRes} {pp : XS}, exS (Ek T (k + 1)) pp [some (.loc r), some (.int ((n + 1 : Nat) : Int)), some (.loc g1.length)] (g1 ++ [.lst []]) = q → ∀ {aa bb : XS}, exS (Ek T (k + 1)) (.seq (.ife (.not_ (.meth (.loc 0) 2 (.cons (.cst (.str ("(" : PySem.Str))) .nil))) aa .nil) (.seq (.ife (.cmp .eq (.loc 1) (.cst (.int 0))) bb .nil) (.seq (.setF (.loc 0) 1 (.bin .add (.fld (.loc 0) 1) (.cst (.int 1)))) (.seq (.set 2 (.lstOf (.disp .nil))) pp)))) [some (.loc r), some (.int ((n + 1 : Nat) : Int)), none] g = q :=
        fun h => s_seq (s_ife_f tn s_nil) (s_seq (s_ife_f t0 s_nil) (s_seq e1 (s_seq e2 h)))
      have back : ∀ {g' : MH}, Fr2 r g1.length (g1 ++ [.lst []]) g' → Fr r g g' := fun {g'} f => ⟨by have := f.le; have := f1.le; rw [List.length_append] at *; omega, fun l h1 h2 => by
        have hll : l < g1.length := Nat.lt_of_lt_of_le h1 f1.le
        rw [f.keep l (by rw [List.length_append]; omega) h2 (by omega), List.getElem?_append_left hll]
        exact f1.keep l h1 h2⟩
      have comp : ∀ o : Option (List MV), CompI (cs.drop (p + 1)) true n o → Comp (cs.drop p) (n + 1) (o.map .tup) := by
        intro o ho v tail e hpl _
        rcases plain_leaf_or hpl with ⟨h1, hlf⟩ | ⟨m, xs, hm, rfl, hx⟩
        · exfalso
          obtain ⟨c, rr, ec, hc⟩ := txt_head hpl
          rw [ec, ht] at e
          injection e with e2 _
          rcases hc with ⟨h2, _⟩ | ⟨_, hc⟩
          · rw [h1] at h2
            cases h2
          · exact (nd_head hc).2.1 e2.symm
        · cases hm
          rw [ht, txt_items] at e
          injection e with _ e2
          rw [ho xs tail (by rw [hd1, e2]; simp) hx]
          rfl
      rcases loop hl (n := n) (k := k) hL ih' FUEL (p + 1) [] _ (by unfold FUEL; unfold SZ at hl; omega) hlt R2 A2 (by simp) with ⟨ws, g4, tail, l4, f4, A4, R4, d4, p4, c4⟩ | ⟨fs, ρ, g4, l4, f4, c4⟩
      · have R4' : Rd g4 r cs (p + 1 + (items true ws).length) := R4
        obtain ⟨g5, e5, f5, R5⟩ := s_step (E := Ek T (k + 1)) (ρ := [some (.loc r), some (.int ((n + 1 : Nat) : Int)), some (.loc g1.length)]) rfl rfl R4'
        have A5 : g5[g1.length]? = some (.lst ws) := by
          rw [f5.keep _ (List.getElem?_eq_some_iff.mp A4).1 hL, A4]
          rfl
        have tv : bi1V .tuple g5 (.loc g1.length) = some (.tup ws) := by simp only [bi1V, A5]
        refine .inl ⟨.tup ws, g5, tail, c_ret rfl rfl (pre (s_seq (s_whl l4) (s_seq e5 (s_seq_ret (s_ret (r_bi1 (r_loc rfl) tv)))))), (back f4).trans f5, ?_, ?_, ?_, ?_⟩
        · have : (txt (.tup ws)).length = (items true ws).length + 2 := by rw [txt_items]; simp
          rw [this]
          rw [show p + ((items true ws).length + 2) = p + 1 + (items true ws).length + 1 by omega]
          exact R5
        · rw [ht, txt_items]
          have d4' : cs.drop (p + 1) = items true ws ++ 41 :: tail := d4
          rw [hd1] at d4'
          rw [d4']
          simp
        · rw [plainB_tup]
          exact List.all_eq_true.mpr p4
        · exact comp _ c4
      · exact .inr ⟨fs, g4, c_exc rfl rfl (pre (s_seq_exc (s_whl l4))), back f4, comp none c4⟩
    · have := leaf_read hl (n + 1) (n + j + 1) hR hp h40
      rw [show n + 1 + j + 3 = n + j + 1 + 3 by omega]
      exact this
end
end K88
end
section
set_option Elab.async false
set_option linter.all false
set_option autoImplicit false
set_option maxRecDepth 100000
set_option maxHeartbeats 2000000
namespace K88
open PySem (Str)
open MP
structure Ext (g g' : MH) : Prop where
  le : g.length ≤ g'.length
  keep : ∀ l, l < g.length → g'[l]? = g[l]?
theorem Ext.refl {g : MH} : Ext g g := ⟨Nat.le_refl _, fun _ _ => rfl⟩
theorem Ext.trans {g g1 g2 : MH} (a : Ext g g1) (b : Ext g1 g2) : Ext g g2 := ⟨Nat.le_trans a.le b.le, fun l h => (b.keep l (Nat.lt_of_lt_of_le h a.le)).trans (a.keep l h)⟩
theorem Ext.app {g : MH} {o : MO} : Ext g (g ++ [o]) := ⟨by rw [List.length_append]; omega, fun l h => List.getElem?_append_left h⟩
theorem Ext.of {g g1 g2 : MH} {r : Nat} (a : Ext g g1) (hr : g.length ≤ r) (b : Fr r g1 g2) : Ext g g2 := ⟨Nat.le_trans a.le b.le, fun l h => (b.keep l (Nat.lt_of_lt_of_le h a.le) (by omega)).trans (a.keep l h)⟩
theorem init_ok {g : MH} {r : Nat} {cs : List Nat} (k : Nat) (h : g[r]? = some (.ins 0 [])) : callF T (k + 1) f_Valuesd__initd_ [.loc r, .str (mk cs)] g = .ok .non (g.set r (.ins 0 [(0, .str (mk cs)), (1, .int 0)])) := by
  have hr := (List.getElem?_eq_some_iff.mp h).1
  have p1 : fldPut T (.loc r) 0 (.str (mk cs)) g = some (g.set r (.ins 0 [(0, .str (mk cs))])) := by
    simp only [fldPut, h]
    rfl
  have h2 : (g.set r (.ins 0 [(0, .str (mk cs))]))[r]? = some (.ins 0 [(0, .str (mk cs))]) := List.getElem?_set_self hr
  have p2 : fldPut T (.loc r) 1 (.int 0) (g.set r (.ins 0 [(0, .str (mk cs))])) = some (g.set r (.ins 0 [(0, .str (mk cs)), (1, .int 0)])) := by
    simp only [fldPut, h2]
    rw [List.set_set]
    rfl
  exact c_next rfl rfl (s_seq (s_setF (r_loc rfl) (r_loc rfl) p1) (s_seq (s_setF r_cst (r_loc rfl) p2) s_nil))
theorem read_value {g : MH} {cs : List Nat} (j : Nat) (hl : cs.length ≤ SZ) :
    (∃ v g', callF T (64 + j) f_read_value [.str (mk cs)] g = .ok v g' ∧ Ext g g' ∧ cs = txt v ∧ plainB 60 v = true) ∨
    (∃ (fs : Int) (g' : MH), callF T (64 + j) f_read_value [.str (mk cs)] g = .exc 1 [.int 1, .int fs] g' ∧ Ext g g' ∧ ∀ v, plainB 60 v = true → cs ≠ txt v) := by
  have e0 : (g ++ [MO.ins 0 []])[g.length]? = some (.ins 0 []) := by simp
  have hi := init_ok (cs := cs) (61 + j) e0
  have q : ∀ ρ : MSt, getLoc ρ 0 = some (.str (mk cs)) → evE (Ek T (63 + j)) (.new 0 (.cons (.loc 0) .nil)) ρ g = .ok (.loc g.length) ((g ++ [MO.ins 0 []]).set g.length (.ins 0 [(0, .str (mk cs)), (1, .int 0)])) := fun ρ h0 => by
    rw [show 63 + j = (62 + j) + 1 by omega]
    refine r_new (Ek_deep T _) (f := f_Valuesd__initd_) rfl (r_cons (r_loc h0) r_nil) ?_
    rw [Ek_callm, show 62 + j = 61 + j + 1 by omega]
    exact hi
  obtain ⟨g1, eg1⟩ : ∃ g1, g1 = (g ++ [MO.ins 0 []]).set g.length (.ins 0 [(0, .str (mk cs)), (1, .int 0)]) := ⟨_, rfl⟩
  rw [← eg1] at q
  have R1 : Rd g1 g.length cs 0 := by
    unfold Rd
    rw [eg1, List.getElem?_set_self (by simp)]
    rfl
  have x1 : Ext g g1 := by
    rw [eg1]
    exact Ext.app.of (Nat.le_refl _) .set
  have ti : evT (Ek T (63 + j)) (.not_ (.bi1 (.inst .str) (.loc 0))) [some (.str (mk cs)), none, none] g = .ok false g := t_not_f (t_bi1 (r_loc rfl) rfl rfl)
  have hv := value hl 60 j g1 0 R1 (Nat.zero_le _)
  rw [show 60 + j + 3 = 63 + j by omega] at hv
  have m : methAt T g1 (.loc g.length) 5 = some f_Values_value := R1.m rfl rfl
  rw [show 64 + j = 63 + j + 1 by omega]
  rcases hv with ⟨v, g2, tail, c2, f2, R2, d2, pl2, cm2⟩ | ⟨fs, g2, c2, f2, cm2⟩
  · have em : ∀ ρ : MSt, getLoc ρ 1 = some (.loc g.length) → evE (Ek T (63 + j)) (.meth (.loc 1) 5 (.cons (.cst (.int 60)) .nil)) ρ g1 = .ok v g2 := fun ρ h0 => r_meth (r_loc h0) m (r_cons r_cst r_nil) c2
    have d2' : cs = txt v ++ tail := d2
    have tl : ∀ b, decide ((txt v).length < cs.length) = b → ∀ ρ : MSt, getLoc ρ 0 = some (.str (mk cs)) → getLoc ρ 1 = some (.loc g.length) → evT (Ek T (63 + j)) (.cmp .lt (.fld (.loc 1) 1) (.bi1 .len (.loc 0))) ρ g2 = .ok b g2 := fun b hb ρ h0 h1 =>
      t_cmp (r_fld (r_loc h1) R2.at) (r_bi1 (r_loc h0) (len_mk hl)) (by rw [← hb]; exact congrArg some (decide_eq_decide.mpr (by omega)))
    have hfl := fail (62 + j) R2
    rw [show 62 + j + 1 = 63 + j by omega] at hfl
    by_cases hlt : (txt v).length < cs.length
    · refine .inr ⟨_, g2, c_exc rfl rfl (s_seq (s_ife_f ti s_nil) (s_seq (s_set (q _ rfl)) (s_seq (s_set (em _ rfl)) (s_seq_exc (s_ife_t (tl true (decide_eq_true hlt) _ rfl rfl) (s_seq_exc (s_ex_x (r_meth (r_loc rfl) (R2.m rfl rfl) r_nil hfl)))))))), x1.of (Nat.le_refl _) f2, ?_⟩
      intro v0 h0 e0
      have := cm2 v0 [] (by rw [List.append_nil]; exact e0) h0 (.inl rfl)
      cases this
      rw [e0] at hlt
      omega
    · refine .inl ⟨v, g2, c_ret rfl rfl (s_seq (s_ife_f ti s_nil) (s_seq (s_set (q _ rfl)) (s_seq (s_set (em _ rfl)) (s_seq (s_ife_f (tl false (decide_eq_false hlt) _ rfl rfl) s_nil) (s_seq_ret (s_ret (r_loc rfl))))))), x1.of (Nat.le_refl _) f2, ?_, pl2⟩
      have : tail = [] := by
        have := congrArg List.length d2'
        rw [List.length_append] at this
        exact List.length_eq_zero_iff.mp (by omega)
      rw [d2', this, List.append_nil]
  · refine .inr ⟨fs, g2, c_exc rfl rfl (s_seq (s_ife_f ti s_nil) (s_seq (s_set (q _ rfl)) (s_seq_exc (s_set_x (r_meth (r_loc rfl) m (r_cons r_cst r_nil) c2))))), x1.of (Nat.le_refl _) f2, ?_⟩
    intro v0 h0 e0
    have := cm2 v0 [] (by rw [List.append_nil]; exact e0) h0 (.inl rfl)
    cases this
theorem read_value_no {g : MH} {v : MV} (k : Nat) (hw : Wf g v) (h : isS v = false) : callF T (k + 1) f_read_value [v] g = .exc 2 [] g := by
  have q := hw.bi_s
  rw [h] at q
  exact c_exc rfl rfl (s_seq_exc (s_ife_t (t_not_t (t_bi1 (r_loc rfl) q rfl)) (s_seq_exc (s_raise r_nil))))
end K88
end
section
set_option Elab.async false
set_option linter.all false
set_option autoImplicit false
set_option maxRecDepth 100000
set_option maxHeartbeats 2000000
namespace K88
open PySem (Str)
open MP
theorem t_orB {E : Ev} {ρ : MSt} {g : MH} {a b : X} {x y : Bool} (h1 : evT E a ρ g = .ok x g) (h2 : x = false → evT E b ρ g = .ok y g) : evT E (.or_ a b) ρ g = .ok (x || y) g := by
  cases x
  · exact t_or_f h1 (h2 rfl)
  · exact t_or_t h1
theorem t_andB {E : Ev} {ρ : MSt} {g : MH} {a b : X} {x y : Bool} (h1 : evT E a ρ g = .ok x g) (h2 : x = true → evT E b ρ g = .ok y g) : evT E (.and_ a b) ρ g = .ok (x && y) g := by
  cases x
  · exact t_and_f h1
  · exact t_and_t h1 (h2 rfl)
/-! ### the law's own reader: one lap -/
structure AS where
  S : List (List MV)
  done : Bool
  at_ : Nat
  val : MV
def push (S : List (List MV)) (done : Bool) (at_ : Nat) (v : MV) : AS := match S with
  | [] => ⟨[], true, at_, v⟩
  | L :: S => ⟨(L ++ [v]) :: S, done, at_, v⟩
def spB (cs : List Nat) (s : AS) (c : Nat) : Bool := s.done || (decide (c = 32) && (s.S.isEmpty || (decide (s.at_ = 0) || (decide (cs.getD (s.at_ - 1) 0 ∈ [32, 40]) || (decide (cs.length ≤ s.at_ + 1) || decide (cs.getD (s.at_ + 1) 0 ∈ [32, 41]))))))
def gapB (cs : List Nat) (s : AS) (c : Nat) : Bool := match s.S with
  | [] => false
  | L :: _ => !L.isEmpty && (decide (c ≠ 41) && decide (cs.getD (s.at_ - 1) 0 ≠ 32))
def stepB (cs : List Nat) (s : AS) : Option AS :=
  let c := cs.getD s.at_ 0
  if spB cs s c = true then none else if c = 32 then some ⟨s.S, s.done, s.at_ + 1, s.val⟩ else if gapB cs s c = true then none else
  if c = 40 then some ⟨[] :: s.S, s.done, s.at_ + 1, s.val⟩ else
  if c = 41 then (match s.S with
    | [] => none
    | L :: S => some (push S s.done (s.at_ + 1) (.tup L))) else
  match leafOf ((cs.drop s.at_).takeWhile nd) with
  | none => none
  | some v => some (push s.S s.done (s.at_ + ((cs.drop s.at_).takeWhile nd).length) v)
def Stk (g : MH) : List Nat → List (List MV) → Prop
  | [], [] => True
  | a :: as, L :: S => g[a]? = some (.lst L) ∧ Stk g as S
  | _, _ => False
theorem Stk.keep {g g' : MH} : ∀ {as : List Nat} {S : List (List MV)}, Stk g as S → (∀ a ∈ as, g'[a]? = g[a]?) → Stk g' as S
  | [], [], _, _ => trivial
  | a :: as, L :: S, ⟨h1, h2⟩, hk => ⟨by rw [hk a List.mem_cons_self]; exact h1, Stk.keep h2 fun b hb => hk b (List.mem_cons_of_mem _ hb)⟩
  | [], _ :: _, h, _ => h.elim
  | _ :: _, [], h, _ => h.elim
theorem Stk.len {g : MH} : ∀ {as : List Nat} {S : List (List MV)}, Stk g as S → as.length = S.length
  | [], [], _ => rfl
  | _ :: as, _ :: S, ⟨_, h⟩ => by rw [List.length_cons, List.length_cons, Stk.len h]
  | [], _ :: _, h => h.elim
  | _ :: _, [], h => h.elim
theorem Stk.lt {g : MH} : ∀ {as : List Nat} {S : List (List MV)}, Stk g as S → ∀ a ∈ as, a < g.length
  | [], [], _, _, h => by cases h
  | a :: as, L :: S, ⟨h1, h2⟩, b, hb => by
    rcases List.mem_cons.mp hb with rfl | hb
    · exact (List.getElem?_eq_some_iff.mp h1).1
    · exact Stk.lt h2 b hb
  | [], _ :: _, h, _, _ => h.elim
  | _ :: _, [], h, _, _ => h.elim
structure Con (g0 g : MH) (l : Nat) (as : List Nat) (s : AS) : Prop where
  line : g[l]? = some (.lst (as.reverse.map .loc))
  stk : Stk g as s.S
  nodup : (l :: as).Nodup
  new : ∀ a ∈ l :: as, g0.length ≤ a
  ext : Ext g0 g
  few : as.length ≤ s.at_
  small : ∀ L ∈ s.S, L.length ≤ s.at_
abbrev lcondX : X := .or_ (.loc 2) (.and_ (.cmp .eq (.loc 6) (.cst (.str (" " : PySem.Str)))) (.or_ (.eqNil false (.loc 1)) (.or_ (.cmp .eq (.loc 3) (.cst (.int 0))) (.or_ (.cmp .isin (.idx (.loc 0) (.bin .sub (.loc 3) (.cst (.int 1)))) (.cst (.str (" (" : PySem.Str)))) (.or_ (.cmp .ge (.bin .add (.loc 3) (.cst (.int 1))) (.bi1 .len (.loc 0))) (.cmp .isin (.idx (.loc 0) (.bin .add (.loc 3) (.cst (.int 1)))) (.cst (.str (" )" : PySem.Str)))))))))
abbrev lgapX : X := .and_ (.eqNil true (.loc 1)) (.and_ (.eqNil true (.idx (.loc 1) (.neg (.cst (.int 1))))) (.and_ (.cmp .ne (.loc 6) (.cst (.str (")" : PySem.Str)))) (.cmp .ne (.idx (.loc 0) (.bin .sub (.loc 3) (.cst (.int 1)))) (.cst (.str (" " : PySem.Str))))))
theorem sSO : (Str.ofString " (") = mk [32, 40] := by decide +kernel
theorem sSC : (Str.ofString " )") = mk [32, 41] := by decide +kernel
section
variable {E : Ev} {g0 g : MH} {l : Nat} {as : List Nat} {s : AS} {cs : List Nat} {x5 x6 x7 x8 : Option MV}
theorem Con.lat (h : Con g0 g l as s) : lstAt g (.loc l) = some (as.reverse.map .loc) := by simp only [lstAt, h.line]
theorem Con.emp (h : Con g0 g l as s) : (as.reverse.map MV.loc).isEmpty = s.S.isEmpty := by
  have := h.stk.len
  cases as <;> cases e : s.S <;> rw [e] at this <;> simp_all
theorem eqC {c x : Nat} {b : Bool} (h : decide (c = x) = b) : cmpV .eq g (.str ⟨#[c]⟩) (.str (mk [x])) = some b := eqS (x := [c]) (y := [x]) (by rw [← h]; simp)
theorem neC {c x : Nat} {b : Bool} (h : decide (c ≠ x) = b) : cmpV .ne g (.str ⟨#[c]⟩) (.str (mk [x])) = some b := neS (x := [c]) (y := [x]) (by rw [← h]; simp)
theorem getD_of {i : Nat} (h : i < cs.length) : cs[i]? = some (cs.getD i 0) := by
  rw [List.getD_eq_getElem?_getD, List.getElem?_eq_getElem h]
  rfl
theorem l_cond (hl : cs.length ≤ SZ) (h : Con g0 g l as s) (hat : s.at_ < cs.length) {c : Nat} : evT E lcondX [some (.str (mk cs)), some (.loc l), some (.bl s.done), some (.int (s.at_ : Int)), some s.val, x5, some (.str ⟨#[c]⟩), x7, x8] g = .ok (spB cs s c) g := by
  unfold spB
  refine t_orB (t_loc rfl rfl) fun _ => t_andB (t_cmp (r_loc rfl) r_cst (by rw [sSP]; exact eqC rfl)) fun _ => t_orB (t_eqNil (r_loc rfl) h.lat (by rw [h.emp]; cases s.S.isEmpty <;> rfl)) fun _ => t_orB (t_cmp (r_loc rfl) r_cst (by
    show some (decide ((s.at_ : Int) = 0)) = _
    exact congrArg some (decide_eq_decide.mpr (by omega)))) fun h0 => ?_
  have h0 : s.at_ ≠ 0 := of_decide_eq_false h0
  refine t_orB (t_cmp (r_idx (r_loc rfl) (r_bin (r_loc rfl) r_cst (u := .int ((s.at_ - 1 : Nat) : Int)) ?_) (idxS hl (getD_of (by omega)))) r_cst (by rw [sSO]; exact in1 rfl)) fun _ => ?_
  · show some (MV.int ((s.at_ : Int) - 1)) = _
    rw [show ((s.at_ : Int) - 1) = ((s.at_ - 1 : Nat) : Int) by omega]
  refine t_orB (t_cmp (r_bin (r_loc rfl) r_cst rfl) (r_bi1 (r_loc rfl) (len_mk hl)) (by
    show some (decide ((cs.length : Int) ≤ (s.at_ : Int) + 1)) = _
    exact congrArg some (decide_eq_decide.mpr (by omega)))) fun h1 => ?_
  have h1 : ¬ cs.length ≤ s.at_ + 1 := of_decide_eq_false h1
  exact t_cmp (r_idx (r_loc rfl) (r_bin (r_loc rfl) r_cst (u := .int ((s.at_ + 1 : Nat) : Int)) rfl) (idxS hl (getD_of (by omega)))) r_cst (by rw [sSC]; exact in1 rfl)
theorem top_idx {a : Nat} (h : Con g0 g l (a :: as) s) : idxV g (.loc l) (.int (-1)) = some (.loc a) := by
  simp only [idxV, h.line]
  unfold atI ixN
  rw [if_neg (by decide), if_pos (by simp; omega)]
  simp only [Option.bind_some, List.length_map, List.length_reverse, List.length_cons]
  rw [show ((-1 : Int) + ((as.length + 1 : Nat) : Int)).toNat = as.length by omega]
  simp
theorem l_gap (hl : cs.length ≤ SZ) (h : Con g0 g l as s) (hat : s.at_ < cs.length) {c : Nat} : evT E lgapX [some (.str (mk cs)), some (.loc l), some (.bl s.done), some (.int (s.at_ : Int)), some s.val, x5, some (.str ⟨#[c]⟩), x7, x8] g = .ok (gapB cs s c) g := by
  have hs := h.stk
  have he := h.emp
  cases as with
  | nil =>
    cases e : s.S with
    | cons L S => rw [e] at hs; exact hs.elim
    | nil =>
      unfold gapB
      rw [e]
      exact t_and_f (t_eqNil (r_loc rfl) h.lat rfl)
  | cons a as =>
    cases e : s.S with
    | nil => rw [e] at hs; exact hs.elim
    | cons L S =>
      rw [e] at hs
      have hf := h.few
      rw [List.length_cons] at hf
      have la : lstAt g (.loc a) = some L := by simp only [lstAt, hs.1]
      unfold gapB
      rw [e]
      refine t_and_t (t_eqNil (r_loc rfl) h.lat (by rw [he, e]; rfl)) ?_
      refine t_andB (t_eqNil (r_idx (r_loc rfl) (r_neg r_cst) (top_idx h)) la (by cases L.isEmpty <;> rfl)) fun _ => t_andB (t_cmp (r_loc rfl) r_cst (by rw [sP2]; exact neC rfl)) fun _ => t_cmp (r_idx (r_loc rfl) (r_bin (r_loc rfl) r_cst (u := .int ((s.at_ - 1 : Nat) : Int)) ?_) (idxS hl (getD_of (by omega)))) r_cst (by rw [sSP]; exact neC rfl)
      show some (MV.int ((s.at_ : Int) - 1)) = _
      rw [show ((s.at_ : Int) - 1) = ((s.at_ - 1 : Nat) : Int) by omega]
end
end K88
end
section
set_option Elab.async false
set_option linter.all false
set_option autoImplicit false
set_option maxRecDepth 100000
set_option maxHeartbeats 2000000
namespace K88
open PySem (Str)
open MP
abbrev rho (cs : List Nat) (l : Nat) (s : AS) (x5 x6 x7 x8 : Option MV) : MSt := [some (.str (mk cs)), some (.loc l), some (.bl s.done), some (.int (s.at_ : Int)), some s.val, x5, x6, x7, x8]
abbrev badX : XS := .seq (.ret (.tup (.cons (.cst (.str ("bad" : PySem.Str))) (.cons (.bin .add (.loc 3) (.cst (.int 1))) .nil)))) .nil
abbrev pushX : XS := .ife (.eqNil false (.loc 1)) (.seq (.set 2 (.cst (.bl true))) .nil) (.seq (.ex (.app (.idx (.loc 1) (.neg (.cst (.int 1)))) (.loc 4))) .nil)
abbrev closeX : XS := .seq (.ife (.eqNil false (.loc 1)) badX .nil) (.seq (.par2 4 3 (.cons (.bi1 .tuple (.pop (.loc 1))) (.cons (.bin .add (.loc 3) (.cst (.int 1))) .nil))) .nil)
abbrev leafX : XS := .seq (.whl (.and_ (.cmp .lt (.loc 3) (.bi1 .len (.loc 0))) (.cmp .notin (.idx (.loc 0) (.loc 3)) (.cst (.str (" ()" : PySem.Str))))) (.seq (.aug 3 .add (.cst (.int 1))) .nil))
    (.seq (.setT (.tup (.cons (.nm 8) (.cons (.nm 4) .nil))) (.call 27 (.cons (.sl (.loc 0) (.cons (.loc 7) .nil) (.cons (.loc 3) .nil)) .nil)))
    (.seq (.ife (.not_ (.loc 8)) (.seq (.ret (.tup (.cons (.cst (.str ("bad" : PySem.Str))) (.cons (.bin .add (.loc 7) (.cst (.int 1))) .nil)))) .nil) .nil) .nil))
abbrev lapX : XS := .seq (.ife (.cmp .ge (.loc 3) (.bi1 .len (.loc 0))) (.seq .brk .nil) .nil)
    (.seq (.par2 6 7 (.cons (.idx (.loc 0) (.loc 3)) (.cons (.loc 3) .nil)))
    (.seq (.ife lcondX badX .nil)
    (.seq (.ife (.cmp .eq (.loc 6) (.cst (.str (" " : PySem.Str)))) (.seq (.aug 3 .add (.cst (.int 1))) (.seq .cont .nil)) .nil)
    (.seq (.ife lgapX badX .nil)
    (.seq (.ife (.cmp .eq (.loc 6) (.cst (.str ("(" : PySem.Str)))) (.seq (.ex (.app (.loc 1) (.lstOf (.disp .nil)))) (.seq (.aug 3 .add (.cst (.int 1))) (.seq .cont .nil))) .nil)
    (.seq (.ife (.cmp .eq (.loc 6) (.cst (.str (")" : PySem.Str)))) closeX leafX)
    (.seq pushX .nil)))))))
section
variable {k : Nat} {g0 g : MH} {l : Nat} {as : List Nat} {s : AS} {cs : List Nat} {x5 x6 x7 x8 : Option MV}
/-- a value is put where it belongs -/
theorem Con.later {S : List (List MV)} {done done' : Bool} {m n : Nat} {u v : MV} (h : Con g0 g l as ⟨S, done, m, u⟩) (hn : m ≤ n) : Con g0 g l as ⟨S, done', n, v⟩ :=
  ⟨h.line, h.stk, h.nodup, h.new, h.ext, Nat.le_trans h.few hn, fun L hL => Nat.le_trans (h.small L hL) hn⟩
theorem push_walk {S : List (List MV)} {done : Bool} {m n : Nat} {u v : MV} (h : Con g0 g l as ⟨S, done, m, u⟩) (hn : m < n) (hnl : n ≤ SZ) :
    ∃ g', exS (Ek T k) (.seq pushX .nil) (rho cs l ⟨S, done, n, v⟩ x5 x6 x7 x8) g = .ok (.next (rho cs l (push S done n v) x5 x6 x7 x8)) g' ∧ Con g0 g' l as (push S done n v) := by
  have hs := h.stk
  have he := h.emp
  cases as with
  | nil =>
    cases S with
    | cons L S => exact hs.elim
    | nil => exact ⟨g, s_seq (s_ife_t (t_eqNil (r_loc rfl) h.lat rfl) (s_seq (s_set r_cst) s_nil)) s_nil, h.later (Nat.le_of_lt hn)⟩
  | cons a as =>
    cases S with
    | nil => exact hs.elim
    | cons L S =>
      have hL := h.small L List.mem_cons_self
      have hLm : L.length ≤ m := hL
      have la : lstAt g (.loc a) = some L := by simp only [lstAt, hs.1]
      have ap : appV (.loc a) v g = some (g.set a (.lst (L ++ [v]))) := by
        simp only [appV, hs.1]
        rw [if_pos (by omega)]
      have nd1 := h.nodup
      rw [List.nodup_cons, List.nodup_cons] at nd1
      obtain ⟨n1, n2, n3⟩ := nd1
      have hla : l ≠ a := fun e => n1 (by rw [e]; exact List.mem_cons_self)
      refine ⟨g.set a (.lst (L ++ [v])), s_seq (s_ife_f (t_eqNil (r_loc rfl) h.lat (by rw [he]; rfl)) (s_seq (s_ex (r_app (r_idx (r_loc rfl) (r_neg r_cst) (top_idx h)) la (r_loc rfl) ap)) s_nil)) s_nil, ?_⟩
      refine ⟨?_, ⟨?_, ?_⟩, h.nodup, h.new, ?_, Nat.le_trans h.few (Nat.le_of_lt hn), ?_⟩
      · rw [List.getElem?_set_ne (Ne.symm hla)]
        exact h.line
      · exact List.getElem?_set_self (List.getElem?_eq_some_iff.mp hs.1).1
      · exact hs.2.keep fun b hb => List.getElem?_set_ne (fun (e : a = b) => n2 (e ▸ hb))
      · have := h.new a (List.mem_cons_of_mem _ List.mem_cons_self)
        exact ⟨by rw [List.length_set]; exact h.ext.le, fun i hi => by rw [List.getElem?_set_ne (by omega)]; exact h.ext.keep i hi⟩
      · intro L' hL'
        rcases List.mem_cons.mp hL' with rfl | hL'
        · rw [List.length_append, List.length_singleton]
          show L.length + 1 ≤ n
          omega
        · exact Nat.le_trans (h.small L' (List.mem_cons_of_mem _ hL')) (Nat.le_of_lt hn)
theorem leaf_loop (hl : cs.length ≤ SZ) {S : List (List MV)} {done : Bool} {val : MV} : ∀ (N e : Nat), e ≤ cs.length → cs.length - e < N →
    loopW (fun ρ => evT (Ek T k) (.and_ (.cmp .lt (.loc 3) (.bi1 .len (.loc 0))) (.cmp .notin (.idx (.loc 0) (.loc 3)) (.cst (.str (" ()" : PySem.Str))))) ρ) (fun ρ g => exS (Ek T k) (.seq (.aug 3 .add (.cst (.int 1))) .nil) ρ g) N (rho cs l ⟨S, done, e, val⟩ x5 x6 x7 x8) g =
      .ok (.next (rho cs l ⟨S, done, e + ((cs.drop e).takeWhile nd).length, val⟩ x5 x6 x7 x8)) g := by
  intro N
  induction N with
  | zero => intro e _ h2; omega
  | succ N ih =>
    intro e he hn
    have tl : ∀ b, decide (e < cs.length) = b → evT (Ek T k) (.cmp .lt (.loc 3) (.bi1 .len (.loc 0))) (rho cs l ⟨S, done, e, val⟩ x5 x6 x7 x8) g = .ok b g := fun b hb =>
      t_cmp (r_loc rfl) (r_bi1 (r_loc rfl) (len_mk hl)) (by
        rw [← hb]
        show some (decide ((e : Int) < (cs.length : Int))) = _
        exact congrArg some (decide_eq_decide.mpr (by omega)))
    by_cases h1 : e < cs.length
    · have hc : cs[e]? = some cs[e] := List.getElem?_eq_getElem h1
      have hd : cs.drop e = cs[e] :: cs.drop (e + 1) := List.drop_eq_getElem_cons h1
      have tn : ∀ b, nd cs[e] = b → evT (Ek T k) (.cmp .notin (.idx (.loc 0) (.loc 3)) (.cst (.str (" ()" : PySem.Str)))) (rho cs l ⟨S, done, e, val⟩ x5 x6 x7 x8) g = .ok b g := fun b hb => by
        refine t_cmp (r_idx (r_loc rfl) (r_loc rfl) (idxS hl hc)) r_cst ?_
        rw [sDEL]
        exact notin1 (by rw [nd_eq, hb])
      cases hn2 : nd cs[e] with
      | false =>
        rw [w_stop (t_and_t (tl true (decide_eq_true h1)) (tn false hn2)), hd, List.takeWhile_cons, hn2]
        simp
      | true =>
        rw [w_next (t_and_t (tl true (decide_eq_true h1)) (tn true hn2)) (s_seq (s_aug rfl r_cst rfl) s_nil)]
        have := ih (e + 1) (by omega) (by omega)
        rw [hd, List.takeWhile_cons, hn2]
        simp only [if_true, List.length_cons]
        rw [show e + ((List.takeWhile nd (cs.drop (e + 1))).length + 1) = e + 1 + (List.takeWhile nd (cs.drop (e + 1))).length by omega]
        exact this
    · rw [w_stop (t_and_f (tl false (decide_eq_false h1))), List.drop_eq_nil_of_le (by omega)]
      simp
theorem bad_walk {ρ : MSt} {n : Nat} (h3 : getLoc ρ 3 = some (.int (n : Int))) : exS (Ek T k) badX ρ g = .ok (.ret (.tup [.str (Str.ofString "bad"), .int ((n : Int) + 1)])) g :=
  s_seq_ret (s_ret (r_tup (r_cons r_cst (r_cons (r_bin (r_loc h3) r_cst rfl) r_nil)) (by show 2 ≤ SZ; decide)))
theorem lap (hl : cs.length ≤ SZ) (h : Con g0 g l as s) (hat : s.at_ < cs.length) :
    (stepB cs s = none ∧ ∃ n : Int, exS (Ek T (k + 2)) lapX (rho cs l s x5 x6 x7 x8) g = .ok (.ret (.tup [.str (Str.ofString "bad"), .int n])) g) ∨
    (∃ s' g' as' x6' x7' x8', stepB cs s = some s' ∧ (exS (Ek T (k + 2)) lapX (rho cs l s x5 x6 x7 x8) g = .ok (.next (rho cs l s' x5 x6' x7' x8')) g' ∨ exS (Ek T (k + 2)) lapX (rho cs l s x5 x6 x7 x8) g = .ok (.cont (rho cs l s' x5 x6' x7' x8')) g') ∧ Con g0 g' l as' s' ∧ s.at_ < s'.at_ ∧ s'.at_ ≤ cs.length) := by
  have hc : cs[s.at_]? = some (cs.getD s.at_ 0) := getD_of hat
  obtain ⟨c, ec⟩ : ∃ c, c = cs.getD s.at_ 0 := ⟨_, rfl⟩
  rw [← ec] at hc
  have pre : ∀ {q : SRes} {pp : XS}, exS (Ek T (k + 2)) pp (rho cs l s x5 (some (.str ⟨#[c]⟩)) (some (.int (s.at_ : Int))) x8) g = q → exS (Ek T (k + 2)) (.seq (.ife (.cmp .ge (.loc 3) (.bi1 .len (.loc 0))) (.seq .brk .nil) .nil) (.seq (.par2 6 7 (.cons (.idx (.loc 0) (.loc 3)) (.cons (.loc 3) .nil))) pp)) (rho cs l s x5 x6 x7 x8) g = q := fun hq =>
    s_seq (s_ife_f (t_cmp (r_loc rfl) (r_bi1 (r_loc rfl) (len_mk hl)) (congrArg some (decide_eq_false (by omega)))) s_nil) (s_seq (s_par2 (r_cons (r_idx (r_loc rfl) (r_loc rfl) (idxS hl hc)) (r_cons (r_loc rfl) r_nil))) hq)
  have tc := l_cond (E := Ek T (k + 2)) (x5 := x5) (x7 := some (.int (s.at_ : Int))) (x8 := x8) hl h hat (c := c)
  have tg := l_gap (E := Ek T (k + 2)) (x5 := x5) (x7 := some (.int (s.at_ : Int))) (x8 := x8) hl h hat (c := c)
  have eqc : ∀ (x : Nat) (y : Str) (b : Bool), y = mk [x] → decide (c = x) = b → evT (Ek T (k + 2)) (.cmp .eq (.loc 6) (.cst (.str y))) (rho cs l s x5 (some (.str ⟨#[c]⟩)) (some (.int (s.at_ : Int))) x8) g = .ok b g := fun x y b hy hb => by
    subst hy
    exact t_cmp (r_loc rfl) r_cst (eqC hb)
  unfold stepB
  rw [← ec]
  simp only []
  by_cases b1 : spB cs s c = true
  · rw [if_pos b1]
    rw [b1] at tc
    exact .inl ⟨rfl, _, pre (s_seq_ret (s_ife_t tc (bad_walk rfl)))⟩
  rw [if_neg b1]
  rw [Bool.not_eq_true] at b1
  rw [b1] at tc
  by_cases b2 : c = 32
  · rw [if_pos b2]
    exact .inr ⟨_, g, as, some (.str ⟨#[c]⟩), some (.int (s.at_ : Int)), x8, rfl, .inr (pre (s_seq (s_ife_f tc s_nil) (s_seq_cont (s_ife_t (eqc 32 _ true sSP (decide_eq_true b2)) (s_seq (s_aug rfl r_cst rfl) (s_seq_cont s_cont)))))), Con.later (done := s.done) (u := s.val) h (Nat.le_succ _), Nat.lt_succ_self _, hat⟩
  rw [if_neg b2]
  have p2 := eqc 32 _ false sSP (decide_eq_false b2)
  by_cases b3 : gapB cs s c = true
  · rw [if_pos b3]
    rw [b3] at tg
    exact .inl ⟨rfl, _, pre (s_seq (s_ife_f tc s_nil) (s_seq (s_ife_f p2 s_nil) (s_seq_ret (s_ife_t tg (bad_walk rfl)))))⟩
  rw [if_neg b3]
  rw [Bool.not_eq_true] at b3
  rw [b3] at tg
  have pre2 : ∀ {q : SRes} {pp : XS}, exS (Ek T (k + 2)) pp (rho cs l s x5 (some (.str ⟨#[c]⟩)) (some (.int (s.at_ : Int))) x8) g = q → exS (Ek T (k + 2)) (.seq (.ife (.cmp .ge (.loc 3) (.bi1 .len (.loc 0))) (.seq .brk .nil) .nil) (.seq (.par2 6 7 (.cons (.idx (.loc 0) (.loc 3)) (.cons (.loc 3) .nil))) (.seq (.ife lcondX badX .nil) (.seq (.ife (.cmp .eq (.loc 6) (.cst (.str (" " : PySem.Str)))) (.seq (.aug 3 .add (.cst (.int 1))) (.seq .cont .nil)) .nil) (.seq (.ife lgapX badX .nil) pp))))) (rho cs l s x5 x6 x7 x8) g = q := fun hq => pre (s_seq (s_ife_f tc s_nil) (s_seq (s_ife_f p2 s_nil) (s_seq (s_ife_f tg s_nil) hq)))
  by_cases b4 : c = 40
  · rw [if_pos b4]
    have hf := h.few
    have hlt := (List.getElem?_eq_some_iff.mp h.line).1
    have ap : appV (.loc l) (.loc g.length) (g ++ [MO.lst []]) = some ((g ++ [MO.lst []]).set l (MO.lst (as.reverse.map MV.loc ++ [MV.loc g.length]))) := by
      have : (g ++ [MO.lst []])[l]? = some (.lst (as.reverse.map .loc)) := by rw [List.getElem?_append_left hlt]; exact h.line
      simp only [appV, this]
      rw [if_pos (by rw [List.length_map, List.length_reverse]; omega)]
    refine .inr ⟨_, (g ++ [MO.lst []]).set l (MO.lst (as.reverse.map MV.loc ++ [MV.loc g.length])), g.length :: as, some (.str ⟨#[c]⟩), some (.int (s.at_ : Int)), x8, rfl, .inr (pre2 (s_seq_cont (s_ife_t (eqc 40 _ true sP1 (decide_eq_true b4)) (s_seq (s_ex (r_app (r_loc rfl) h.lat (r_lst (l_disp r_nil (by decide))) ap)) (s_seq (s_aug rfl r_cst rfl) (s_seq_cont s_cont)))))), ?_, Nat.lt_succ_self _, hat⟩
    have hne : g.length ≠ l := Nat.ne_of_gt hlt
    have hst := h.stk.lt
    have nd1 := h.nodup
    rw [List.nodup_cons] at nd1
    refine ⟨?_, ⟨?_, ?_⟩, ?_, ?_, ?_, ?_, ?_⟩
    · rw [List.getElem?_set_self (by rw [List.length_append]; omega)]
      simp
    · rw [List.getElem?_set_ne (Ne.symm hne)]
      simp
    · refine h.stk.keep fun a ha => ?_
      rw [List.getElem?_set_ne (fun (e : l = a) => nd1.1 (e ▸ ha)), List.getElem?_append_left (hst a ha)]
    · rw [List.nodup_cons, List.nodup_cons]
      refine ⟨fun hm => ?_, fun hm => ?_, nd1.2⟩
      · rcases List.mem_cons.mp hm with e | hm
        · exact hne e.symm
        · exact nd1.1 hm
      · exact absurd (hst _ hm) (Nat.lt_irrefl _)
    · intro a ha
      rcases List.mem_cons.mp ha with rfl | ha
      · exact h.new _ List.mem_cons_self
      · rcases List.mem_cons.mp ha with rfl | ha
        · exact h.ext.le
        · exact h.new a (List.mem_cons_of_mem _ ha)
    · have hn := h.new l List.mem_cons_self
      have hx := h.ext.trans (Ext.app (o := .lst []))
      exact ⟨by rw [List.length_set]; exact hx.le, fun i hi => by rw [List.getElem?_set_ne (by omega)]; exact hx.keep i hi⟩
    · rw [List.length_cons]
      exact Nat.succ_le_succ h.few
    · intro L hL
      rcases List.mem_cons.mp hL with rfl | hL
      · exact Nat.zero_le _
      · exact Nat.le_succ_of_le (h.small L hL)
  rw [if_neg b4]
  have p4 := eqc 40 _ false sP1 (decide_eq_false b4)
  by_cases b5 : c = 41
  · rw [if_pos b5]
    have p5 := eqc 41 _ true sP2 (decide_eq_true b5)
    have hs := h.stk
    have he := h.emp
    cases as with
    | nil =>
      cases eS : s.S with
      | cons L S => rw [eS] at hs; exact hs.elim
      | nil => exact .inl ⟨rfl, _, pre2 (s_seq (s_ife_f p4 s_nil) (s_seq_ret (s_ife_t p5 (s_seq_ret (s_ife_t (t_eqNil (r_loc rfl) h.lat rfl) (bad_walk rfl))))))⟩
    | cons a as =>
      cases eS : s.S with
      | nil => rw [eS] at hs; exact hs.elim
      | cons L S =>
        rw [eS] at hs he
        have hlt := (List.getElem?_eq_some_iff.mp h.line).1
        have nd1 := h.nodup
        rw [List.nodup_cons, List.nodup_cons] at nd1
        obtain ⟨n1, n2, n3⟩ := nd1
        have hla : l ≠ a := fun e => n1 (by rw [e]; exact List.mem_cons_self)
        have pop : popV (.loc l) g = .ok (.loc a) (g.set l (MO.lst (as.reverse.map MV.loc))) := by
          simp only [popV, h.line]
          have e1 : ((a :: as).reverse.map MV.loc)[((a :: as).reverse.map MV.loc).length - 1]? = some (.loc a) := by simp
          have e2 : ((a :: as).reverse.map MV.loc).dropLast = as.reverse.map MV.loc := by simp
          rw [e1, e2]
        have tv : bi1V .tuple (g.set l (MO.lst (as.reverse.map MV.loc))) (.loc a) = some (.tup L) := by
          have : (g.set l (.lst (as.reverse.map MV.loc)))[a]? = some (.lst L) := by rw [List.getElem?_set_ne hla]; exact hs.1
          simp only [bi1V, this]
        have C1 : Con g0 (g.set l (MO.lst (as.reverse.map MV.loc))) l as ⟨S, s.done, s.at_, s.val⟩ := by
          have hn := h.new l List.mem_cons_self
          refine ⟨List.getElem?_set_self hlt, hs.2.keep fun b hb => List.getElem?_set_ne (fun (e : l = b) => n1 (e ▸ List.mem_cons_of_mem _ hb)), List.nodup_cons.mpr ⟨fun hm => n1 (List.mem_cons_of_mem _ hm), n3⟩, fun b hb => ?_, ⟨by rw [List.length_set]; exact h.ext.le, fun i hi => by rw [List.getElem?_set_ne (by omega)]; exact h.ext.keep i hi⟩, Nat.le_trans (Nat.le_succ _) h.few, fun L' hL' => h.small L' (by rw [eS]; exact List.mem_cons_of_mem _ hL')⟩
          rcases List.mem_cons.mp hb with rfl | hb
          · exact hn
          · exact h.new b (List.mem_cons_of_mem _ (List.mem_cons_of_mem _ hb))
        obtain ⟨g', e', C'⟩ := push_walk (k := k + 2) (cs := cs) (x5 := x5) (x6 := some (.str ⟨#[c]⟩)) (x7 := some (.int (s.at_ : Int))) (x8 := x8) (v := .tup L) C1 (Nat.lt_succ_self _) (Nat.le_trans hat hl)
        refine .inr ⟨_, g', as, some (.str ⟨#[c]⟩), some (.int (s.at_ : Int)), x8, rfl, .inl (pre2 (s_seq (s_ife_f p4 s_nil) (s_seq (s_ife_t p5 (s_seq (s_ife_f (t_eqNil (r_loc rfl) h.lat (by rw [he]; rfl)) s_nil) (s_seq (s_par2 (r_cons (r_bi1 (r_pop (r_loc rfl) pop) tv) (r_cons (r_bin (r_loc rfl) r_cst rfl) r_nil))) s_nil))) e'))), C', ?_, ?_⟩
        · cases S <;> exact Nat.lt_succ_self _
        · cases S <;> exact hat
  rw [if_neg b5]
  have p5 := eqc 41 _ false sP2 (decide_eq_false b5)
  have hru : ((cs.drop s.at_).takeWhile nd).length ≤ cs.length - s.at_ := by
    have := (List.takeWhile_sublist (l := cs.drop s.at_) nd).length_le
    rw [List.length_drop] at this
    exact this
  have hdr : cs.drop s.at_ = c :: cs.drop (s.at_ + 1) := by
    have e2 : cs[s.at_] = c := Option.some.inj ((List.getElem?_eq_getElem hat).symm.trans hc)
    rw [← e2]
    exact List.drop_eq_getElem_cons hat
  have hndc : nd c = true := by
    unfold nd
    simp [b2, b4, b5]
  have hne : (cs.drop s.at_).takeWhile nd ≠ [] := by
    rw [hdr, List.takeWhile_cons, hndc]
    simp
  have hpos : 1 ≤ ((cs.drop s.at_).takeWhile nd).length := List.length_pos_iff.mpr hne
  have lw := leaf_loop (k := k + 2) (g := g) (l := l) (x5 := x5) (x6 := some (.str ⟨#[c]⟩)) (x7 := some (.int (s.at_ : Int))) (x8 := x8) hl (S := s.S) (done := s.done) (val := s.val) FUEL s.at_ (Nat.le_of_lt hat) (by unfold FUEL; unfold SZ at hl; omega)
  have vo := l_value_of (g := g) k (cs := (cs.drop s.at_).takeWhile nd) (by omega) hne
  have sl : slV (.str (mk cs)) (some (s.at_ : Int)) (some ((s.at_ + ((cs.drop s.at_).takeWhile nd).length : Nat) : Int)) = some (.str (mk ((cs.drop s.at_).takeWhile nd))) := by
    rw [slV_nat (Nat.le_of_lt hat) hl, show s.at_ + ((cs.drop s.at_).takeWhile nd).length - s.at_ = ((cs.drop s.at_).takeWhile nd).length by omega, take_takeWhile]
  cases hf : leafOf ((cs.drop s.at_).takeWhile nd) with
  | none =>
    rw [hf] at vo
    exact .inl ⟨rfl, _, pre2 (s_seq (s_ife_f p4 s_nil) (s_seq_ret (s_ife_f p5 (s_seq (s_whl lw) (s_seq (s_setT (r_call (r_cons (r_sl (r_loc rfl) (r_o (r_loc rfl)) (r_o (r_loc rfl)) sl) r_nil) vo) rfl) (s_seq_ret (s_ife_t (t_not_t (t_loc rfl rfl)) (s_seq_ret (s_ret (r_tup (r_cons r_cst (r_cons (r_bin (r_loc rfl) r_cst rfl) r_nil)) (by show 2 ≤ SZ; decide)))))))))))⟩
  | some v =>
    rw [hf] at vo
    have C1 : Con g0 g l as ⟨s.S, s.done, s.at_, s.val⟩ := h
    obtain ⟨g', e', C'⟩ := push_walk (k := k + 2) (cs := cs) (x5 := x5) (x6 := some (.str ⟨#[c]⟩)) (x7 := some (.int (s.at_ : Int))) (x8 := some (.bl true)) (v := v) C1 (n := s.at_ + ((cs.drop s.at_).takeWhile nd).length) (by omega) (by omega)
    refine .inr ⟨_, g', as, some (.str ⟨#[c]⟩), some (.int (s.at_ : Int)), some (.bl true), rfl, .inl (pre2 (s_seq (s_ife_f p4 s_nil) (s_seq (s_ife_f p5 (s_seq (s_whl lw) (s_seq (s_setT (r_call (r_cons (r_sl (r_loc rfl) (r_o (r_loc rfl)) (r_o (r_loc rfl)) sl) r_nil) vo) rfl) (s_seq (s_ife_f (t_not_f (t_loc rfl rfl)) s_nil) s_nil)))) e'))), C', ?_, ?_⟩
    · cases s.S <;> (show _ < s.at_ + _; omega)
    · cases s.S <;> (show s.at_ + _ ≤ _; omega)
end
end K88
end
section
set_option Elab.async false
set_option linter.all false
set_option autoImplicit false
set_option maxRecDepth 100000
set_option maxHeartbeats 2000000
namespace K88
open PySem (Str)
open MP
/-! ### laps: sound and complete -/
def runB (cs : List Nat) : Nat → AS → Option MV
  | 0, _ => none
  | n + 1, s => if cs.length ≤ s.at_ then (if s.done = true then some s.val else none) else match stepB cs s with
    | none => none
    | some s' => runB cs n s'
theorem laps {k : Nat} {g0 : MH} {l : Nat} {cs : List Nat} (hl : cs.length ≤ SZ) : ∀ (N i : Nat) (g : MH) (as : List Nat) (s : AS) (x5 x6 x7 x8 : Option MV), cs.length - s.at_ < N → i ≤ s.at_ → s.at_ ≤ cs.length → Con g0 g l as s →
    (∃ n g', loopF (.seq (rangeL 0 ((cs.length : Int) + 1))) (fun v r => asgn (.nm 5) v r) (fun r g => exS (Ek T (k + 2)) lapX r g) N i (rho cs l s x5 x6 x7 x8) g = .ok (.ret (.tup [.str (Str.ofString "bad"), .int n])) g' ∧ Ext g0 g' ∧ runB cs N s = none) ∨
    (∃ s' g' y5 y6 y7 y8, loopF (.seq (rangeL 0 ((cs.length : Int) + 1))) (fun v r => asgn (.nm 5) v r) (fun r g => exS (Ek T (k + 2)) lapX r g) N i (rho cs l s x5 x6 x7 x8) g = .ok (.next (rho cs l s' y5 y6 y7 y8)) g' ∧ Ext g0 g' ∧ runB cs N s = if s'.done = true then some s'.val else none) := by
  intro N
  induction N with
  | zero => intro i g as s x5 x6 x7 x8 h; omega
  | succ N ih =>
    intro i g as s x5 x6 x7 x8 hN hi hs h
    have item : MIt.item (.seq (rangeL 0 ((cs.length : Int) + 1))) i g = some (some (.int (i : Int))) := by
      simp only [MIt.item, rangeL]
      rw [List.getElem?_map, List.getElem?_range (by omega)]
      simp
    by_cases hat : cs.length ≤ s.at_
    · refine .inr ⟨s, g, some (.int (i : Int)), x6, x7, x8, f_brk item rfl (s_seq_brk (s_ife_t (t_cmp (r_loc rfl) (r_bi1 (r_loc rfl) (len_mk hl)) (congrArg some (decide_eq_true (by omega)))) (s_seq_brk s_brk))), h.ext, ?_⟩
      rw [runB, if_pos hat]
    · rcases lap (k := k) (x5 := some (.int (i : Int))) (x6 := x6) (x7 := x7) (x8 := x8) hl h (by omega) with ⟨e, n, hx⟩ | ⟨s', g', as', x6', x7', x8', e, hx, C', h1, h2⟩
      · refine .inl ⟨n, g, f_ret item rfl hx, h.ext, ?_⟩
        rw [runB, if_neg hat, e]
      · have st : loopF (.seq (rangeL 0 ((cs.length : Int) + 1))) (fun v r => asgn (.nm 5) v r) (fun r g => exS (Ek T (k + 2)) lapX r g) (N + 1) i (rho cs l s x5 x6 x7 x8) g = loopF (.seq (rangeL 0 ((cs.length : Int) + 1))) (fun v r => asgn (.nm 5) v r) (fun r g => exS (Ek T (k + 2)) lapX r g) N (i + 1) (rho cs l s' (some (.int (i : Int))) x6' x7' x8') g' := by
          rcases hx with hx | hx
          · exact f_next item rfl hx
          · exact f_cont item rfl hx
        rw [st, runB, if_neg hat, e]
        exact ih (i + 1) g' as' s' _ _ _ _ (by omega) (by omega) h2 C'
theorem l_read {g : MH} {cs : List Nat} (k : Nat) (hl : cs.length < SZ) :
    ∃ g', Ext g g' ∧ ((∃ n : Int, runB cs FUEL ⟨[], false, 0, .non⟩ = none ∧ callF T (k + 3) f_l_read [.str (mk cs)] g = .ok (.tup [.str (Str.ofString "bad"), .int n]) g') ∨
      (∃ v, runB cs FUEL ⟨[], false, 0, .non⟩ = some v ∧ callF T (k + 3) f_l_read [.str (mk cs)] g = .ok (.tup [.str (Str.ofString "told"), v]) g')) := by
  have hl' : cs.length ≤ SZ := Nat.le_of_lt hl
  have C : Con g (g ++ [MO.lst []]) g.length [] ⟨[], false, 0, .non⟩ := ⟨by simp, trivial, by simp, fun a ha => by simp at ha; omega, .app, Nat.le_refl _, fun L hL => by cases hL⟩
  have e1 : exS (Ek T (k + 2)) (.setT (.tup (.cons (.nm 1) (.cons (.nm 2) (.cons (.nm 3) (.cons (.nm 4) .nil))))) (.tup (.cons (.lstOf (.disp .nil)) (.cons (.cst (.bl false)) (.cons (.cst (.int 0)) (.cons (.cst .non) .nil)))))) [some (.str (mk cs)), none, none, none, none, none, none, none, none] g = .ok (.next (rho cs g.length ⟨[], false, 0, .non⟩ none none none none)) (g ++ [MO.lst []]) :=
    s_setT (r_tup (r_cons (r_lst (l_disp r_nil (by decide))) (r_cons r_cst (r_cons r_cst (r_cons r_cst r_nil)))) (by show 4 ≤ SZ; decide)) rfl
  have ei : evI (Ek T (k + 2)) (.rng1 (.bin .add (.bi1 .len (.loc 0)) (.cst (.int 1)))) (rho cs g.length ⟨[], false, 0, .non⟩ none none none none) (g ++ [MO.lst []]) = .ok (.seq (rangeL 0 ((cs.length : Int) + 1))) (g ++ [MO.lst []]) :=
    i_rng1 (r_bin (r_bi1 (r_loc rfl) (len_mk hl')) r_cst rfl) (by unfold SZ at hl; omega)
  rcases laps (k := k) hl' FUEL 0 _ _ _ none none none none (by unfold FUEL; unfold SZ at hl; show cs.length - 0 < _; omega) (Nat.le_refl _) (Nat.zero_le _) C with ⟨n, g', e, x, r⟩ | ⟨s', g', y5, y6, y7, y8, e, x, r⟩
  · exact ⟨g', x, .inl ⟨n, r, c_ret rfl rfl (s_seq e1 (s_seq_ret (s_for ei e)))⟩⟩
  · cases hd : s'.done with
    | true =>
      rw [hd, if_pos rfl] at r
      refine ⟨g', x, .inr ⟨s'.val, r, c_ret rfl rfl (s_seq e1 (s_seq (s_for ei e) (s_seq_ret (s_ret (r_ite_t (t_loc (v := .bl true) (by rw [← hd]; rfl) rfl) (r_tup (r_cons r_cst (r_cons (r_loc rfl) r_nil)) (by show 2 ≤ SZ; decide)))))))⟩⟩
    | false =>
      rw [hd, if_neg (by simp)] at r
      refine ⟨g', x, .inl ⟨_, r, c_ret rfl rfl (s_seq e1 (s_seq (s_for ei e) (s_seq_ret (s_ret (r_ite_f (t_loc (v := .bl false) (by rw [← hd]; rfl) rfl) (r_tup (r_cons r_cst (r_cons (r_bin (r_bi1 (r_loc rfl) (len_mk hl')) r_cst rfl) r_nil)) (by show 2 ≤ SZ; decide)))))))⟩⟩
end K88
end
section
set_option Elab.async false
set_option linter.all false
set_option autoImplicit false
set_option maxRecDepth 100000
set_option maxHeartbeats 2000000
namespace K88
open PySem (Str)
open MP
/-! ### the laps are sound -/
def Pl (v : MV) : Prop := ∃ n, plainB n v = true
theorem plain_mono {n : Nat} : ∀ {m : Nat} {v : MV}, n ≤ m → plainB n v = true → plainB m v = true := by
  induction n with
  | zero =>
    intro m v _ h
    have ht : isT v = false := by cases v <;> first | rfl | exact absurd h (by simp [plainB, leafB])
    rw [plainB_leaf ht]
    exact h
  | succ n ih =>
    intro m v hm h
    cases ht : isT v with
    | false =>
      rw [plainB_leaf ht] at h ⊢
      exact h
    | true =>
      cases v with
      | tup xs =>
        obtain ⟨m, rfl⟩ : ∃ j, m = j + 1 := ⟨m - 1, by omega⟩
        rw [plainB_tup, List.all_eq_true] at h ⊢
        exact fun x hx => ih (by omega) (h x hx)
      | _ => exact absurd ht (by simp [isT])
theorem Pl.tup {xs : List MV} (h : ∀ x ∈ xs, Pl x) : Pl (.tup xs) := by
  have : ∃ n, ∀ x ∈ xs, plainB n x = true := by
    induction xs with
    | nil => exact ⟨0, fun x hx => by cases hx⟩
    | cons y ys ih =>
      obtain ⟨n, hn⟩ := h y List.mem_cons_self
      obtain ⟨m, hm⟩ := ih fun x hx => h x (List.mem_cons_of_mem _ hx)
      refine ⟨max n m, fun x hx => ?_⟩
      rcases List.mem_cons.mp hx with rfl | hx
      · exact plain_mono (Nat.le_max_left _ _) hn
      · exact plain_mono (Nat.le_max_right _ _) (hm x hx)
  obtain ⟨n, hn⟩ := this
  exact ⟨n + 1, by rw [plainB_tup]; exact List.all_eq_true.mpr hn⟩
def gapT : List (List MV) → List Nat
  | [] => []
  | L :: _ => if L.isEmpty = true then [] else [32]
def rend : List (List MV) → List Nat
  | [] => []
  | L :: S => rend S ++ (gapT S ++ 40 :: items true L)
theorem items_snoc (L : List MV) (v : MV) : items true (L ++ [v]) = items true L ++ ((if L.isEmpty = true then [] else [32]) ++ txt v) := by
  cases L with
  | nil => simp [items, more]
  | cons a L => simp [items, more]
theorem rend_push (L : List MV) (S : List (List MV)) (v : MV) : rend ((L ++ [v]) :: S) = rend (L :: S) ++ (gapT (L :: S) ++ txt v) := by
  rw [rend, rend, items_snoc]
  simp [gapT]
theorem rend_close (L : List MV) (S : List (List MV)) : rend (L :: S) ++ [41] = rend S ++ (gapT S ++ txt (.tup L)) := by
  rw [rend, txt_items]
  simp
/-- a plain value's text ends with no blank and no open bracket -/
theorem txt_last {v : MV} (h : Pl v) : ∃ r c, txt v = r ++ [c] ∧ c ≠ 32 ∧ c ≠ 40 := by
  obtain ⟨n, h⟩ := h
  rcases plain_leaf_or h with ⟨_, hl⟩ | ⟨m, xs, _, rfl, _⟩
  · have hne := leaf_ne hl
    refine ⟨(txt v).dropLast, (txt v).getLast hne, (List.dropLast_concat_getLast hne).symm, ?_⟩
    have := nd_head (leaf_nd hl _ (List.getLast_mem hne))
    exact ⟨this.1, this.2.1⟩
  · exact ⟨40 :: items true xs, 41, by rw [txt_items]; simp, by decide, by decide⟩
theorem rend_last {L : List MV} {S : List (List MV)} (h : ∀ x ∈ L, Pl x) (hne : L ≠ []) : ∃ r c, rend (L :: S) = r ++ [c] ∧ c ≠ 32 ∧ c ≠ 40 := by
  have e := List.dropLast_concat_getLast hne
  obtain ⟨r, c, er, hc⟩ := txt_last (h _ (List.getLast_mem hne))
  refine ⟨rend (L.dropLast :: S) ++ (gapT (L.dropLast :: S) ++ r), c, ?_, hc⟩
  conv => lhs; rw [← e]
  rw [rend_push, er]
  simp
structure Inv (cs : List Nat) (s : AS) : Prop where
  le : s.at_ ≤ cs.length
  fin : s.done = true → s.S = [] ∧ cs.take s.at_ = txt s.val ∧ Pl s.val
  run : s.done = false → (∀ L ∈ s.S, ∀ x ∈ L, Pl x) ∧ (cs.take s.at_ = rend s.S ∨ (cs.take s.at_ = rend s.S ++ [32] ∧ (∃ L S, s.S = L :: S ∧ L ≠ []) ∧ cs.getD s.at_ 0 ≠ 41))
theorem prev_of {cs r : List Nat} {n c : Nat} (h : cs.take n = r ++ [c]) (hn : n ≤ cs.length) : cs.getD (n - 1) 0 = c := by
  have hl := congrArg List.length h
  rw [List.length_take, List.length_append, List.length_singleton, Nat.min_eq_left hn] at hl
  have e : (cs.take n)[r.length]? = some c := by rw [h]; simp
  rw [List.getElem?_take, if_pos (by omega)] at e
  rw [List.getD_eq_getElem?_getD, show n - 1 = r.length by omega, e]
  rfl
theorem take_next {cs : List Nat} {n : Nat} (h : n < cs.length) : cs.take (n + 1) = cs.take n ++ [cs.getD n 0] := by
  rw [List.take_succ, getD_of h]
  rfl
theorem push_inv {cs : List Nat} {S : List (List MV)} {n : Nat} {v : MV} (hn : n ≤ cs.length) (h : cs.take n = rend S ++ (gapT S ++ txt v)) (hv : Pl v) (hS : ∀ L ∈ S, ∀ x ∈ L, Pl x) : Inv cs (push S false n v) := by
  cases S with
  | nil => exact ⟨hn, fun _ => ⟨rfl, (by simpa [rend, gapT] using h : cs.take n = txt v), hv⟩, fun e => (by cases e)⟩
  | cons L S =>
    refine ⟨hn, fun e => (by cases e), fun _ => ⟨fun L' hL' x hx => ?_, .inl ?_⟩⟩
    · rcases List.mem_cons.mp hL' with rfl | hL'
      · rcases List.mem_append.mp hx with hx | hx
        · exact hS L List.mem_cons_self x hx
        · rw [List.mem_singleton.mp hx]
          exact hv
      · exact hS L' (List.mem_cons_of_mem _ hL') x hx
    · show cs.take n = rend ((L ++ [v]) :: S)
      rw [rend_push]
      exact h
theorem step_inv {cs : List Nat} {s s' : AS} (h : Inv cs s) (hat : s.at_ < cs.length) (e : stepB cs s = some s') : Inv cs s' := by
  obtain ⟨S, done, p, val⟩ := s
  have hat : p < cs.length := hat
  obtain ⟨c, ec⟩ : ∃ c, c = cs.getD p 0 := ⟨_, rfl⟩
  unfold stepB at e
  simp only [← ec] at e
  split at e
  · cases e
  rename_i b1
  rw [Bool.not_eq_true] at b1
  have hd : done = false := by
    cases done
    · rfl
    · simp [spB] at b1
  subst hd
  obtain ⟨hS, ht⟩ := h.run rfl
  have hS : ∀ L ∈ S, ∀ x ∈ L, Pl x := hS
  have ht : cs.take p = rend S ∨ (cs.take p = rend S ++ [32] ∧ (∃ L S', S = L :: S' ∧ L ≠ []) ∧ cs.getD p 0 ≠ 41) := ht
  have hn := take_next hat
  rw [← ec] at hn ht
  split at e
  · rename_i b2
    cases e
    subst b2
    simp only [spB, Bool.false_or, decide_true, Bool.true_and, Bool.or_eq_false_iff, decide_eq_false_iff_not] at b1
    obtain ⟨h1, h2, h3, h4, h5⟩ := b1
    refine ⟨hat, fun z => (by cases z), fun _ => ⟨hS, .inr ⟨?_, ?_, ?_⟩⟩⟩
    · rcases ht with ht | ⟨ht, _⟩
      · show cs.take (p + 1) = _
        rw [hn, ht]
      · exact absurd (prev_of ht (Nat.le_of_lt hat)) (fun z => h3 (by rw [z]; simp))
    · cases S with
      | nil => cases h1
      | cons L S =>
        refine ⟨L, S, rfl, fun z => ?_⟩
        subst z
        rcases ht with ht | ⟨_, ⟨L', S', e1, e2⟩, _⟩
        · have : cs.take p = (rend S ++ gapT S) ++ [40] := by rw [ht, rend]; simp [items]
          exact h3 (by rw [prev_of this (Nat.le_of_lt hat)]; simp)
        · injection e1 with e3 _
          exact e2 e3.symm
    · intro z
      exact h5 (by rw [z]; simp)
  rename_i b2
  split at e
  · cases e
  rename_i b3
  rw [Bool.not_eq_true] at b3
  have start : c ≠ 41 → cs.take p = rend S ++ gapT S := fun hc => by
    cases S with
    | nil =>
      rcases ht with ht | ⟨_, ⟨L', S', e1, e2⟩, _⟩
      · rw [ht]; rfl
      · cases e1
    | cons L S =>
      cases hL : L.isEmpty with
      | true =>
        have : L = [] := by simpa using hL
        rcases ht with ht | ⟨_, ⟨L', S', e1, e2⟩, _⟩
        · rw [ht, gapT, hL]; simp
        · injection e1 with e3 _
          exact absurd (e3 ▸ this) e2
      | false =>
        simp only [gapB, hL, Bool.not_false, Bool.true_and, Bool.and_eq_false_iff, decide_eq_false_iff_not, Decidable.not_not] at b3
        have hp := b3.resolve_left fun z => hc z
        rcases ht with ht | ⟨ht, _, _⟩
        · obtain ⟨r, c', er, h1, _⟩ := rend_last (S := S) (hS L List.mem_cons_self) (fun z => by rw [z] at hL; cases hL)
          rw [er] at ht
          exact absurd ((prev_of ht (Nat.le_of_lt hat)).symm.trans hp) h1
        · rw [ht, gapT, hL]; simp
  split at e
  · rename_i b4
    cases e
    refine ⟨hat, fun z => (by cases z), fun _ => ⟨fun L hL x hx => ?_, .inl ?_⟩⟩
    · rcases List.mem_cons.mp hL with rfl | hL
      · cases hx
      · exact hS L hL x hx
    · show cs.take (p + 1) = rend ([] :: S)
      rw [hn, start (by omega), rend, b4]
      simp [items]
  rename_i b4
  split at e
  · rename_i b5
    cases S with
    | nil =>
      have e : (none : Option AS) = some s' := e
      cases e
    | cons L S' =>
      have e : some (push S' false (p + 1) (.tup L)) = some s' := e
      cases e
      refine push_inv hat ?_ (Pl.tup (hS L List.mem_cons_self)) fun L' hL' => hS L' (List.mem_cons_of_mem _ hL')
      rcases ht with ht | ⟨_, _, h41⟩
      · rw [hn, ht, b5, rend_close]
      · exact absurd b5 h41
  · rename_i b5
    split at e
    · cases e
    · rename_i v hf
      cases e
      obtain ⟨h1, h2, h3⟩ := txt_leafOf hf
      have hlen : ((cs.drop p).takeWhile nd).length ≤ cs.length - p := by
        have := (List.takeWhile_sublist (l := cs.drop p) nd).length_le
        rw [List.length_drop] at this
        exact this
      have hf' : leafOf ((cs.drop p).takeWhile nd) = some v := hf
      refine push_inv (show p + _ ≤ _ by show p + ((cs.drop p).takeWhile nd).length ≤ _; omega) ?_ ⟨0, h2⟩ hS
      show cs.take (p + ((cs.drop p).takeWhile nd).length) = _
      rw [List.take_add, take_takeWhile, start b5, (txt_leafOf hf').1]
      simp
theorem run_sound {cs : List Nat} : ∀ (N : Nat) (s : AS) (v : MV), Inv cs s → runB cs N s = some v → cs = txt v ∧ Pl v := by
  intro N
  induction N with
  | zero => intro s v _ e; cases e
  | succ N ih =>
    intro s v h e
    rw [runB] at e
    split at e
    · rename_i hle
      split at e
      · rename_i hd
        cases e
        obtain ⟨_, h2, h3⟩ := h.fin hd
        rw [List.take_of_length_le hle] at h2
        exact ⟨h2, h3⟩
      · cases e
    · rename_i hle
      cases es : stepB cs s with
      | none => rw [es] at e; cases e
      | some s' =>
        rw [es] at e
        exact ih s' v (step_inv h (by omega) es) e
theorem runB_sound {cs : List Nat} {v : MV} (h : runB cs FUEL ⟨[], false, 0, .non⟩ = some v) : cs = txt v ∧ Pl v :=
  run_sound FUEL _ v ⟨Nat.zero_le _, fun e => (by cases e), fun _ => ⟨fun L hL => (by cases hL), .inl (by simp [rend])⟩⟩ h
end K88
end
section
set_option Elab.async false
set_option linter.all false
set_option autoImplicit false
set_option maxRecDepth 100000
set_option maxHeartbeats 2000000
namespace K88
open PySem (Str)
open MP
/-! ### the laps are complete -/
/-- from s, in some laps, to s' -/
def Goes (cs : List Nat) (s s' : AS) : Prop := ∃ m, m + s.at_ ≤ s'.at_ ∧ ∀ N, runB cs (N + m) s = runB cs N s'
theorem Goes.one {cs : List Nat} {s s' : AS} (h : stepB cs s = some s') (hl : s.at_ < cs.length) (hlt : s.at_ < s'.at_) : Goes cs s s' := ⟨1, by omega, fun N => by rw [runB, if_neg (by omega), h]⟩
theorem Goes.refl {cs : List Nat} {s : AS} : Goes cs s s := ⟨0, by omega, fun N => rfl⟩
theorem Goes.trans {cs : List Nat} {s s1 s2 : AS} (a : Goes cs s s1) (b : Goes cs s1 s2) : Goes cs s s2 := by
  obtain ⟨m, h1, h2⟩ := a
  obtain ⟨n, h3, h4⟩ := b
  exact ⟨n + m, by omega, fun N => by rw [← Nat.add_assoc, h2, h4]⟩
def Ready (cs : List Nat) (S : List (List MV)) (p : Nat) : Prop := match S with
  | [] => True
  | L :: _ => L = [] ∨ cs.getD (p - 1) 0 = 32
theorem drop_lt {cs : List Nat} {p c : Nat} {t : List Nat} (h : cs.drop p = c :: t) : p < cs.length ∧ cs.getD p 0 = c ∧ cs.drop (p + 1) = t := by
  have hl := congrArg List.length h
  rw [List.length_drop, List.length_cons] at hl
  have hp : p < cs.length := by omega
  have e := List.drop_eq_getElem_cons hp
  rw [h] at e
  injection e with e1 e2
  refine ⟨hp, ?_, e2.symm⟩
  rw [List.getD_eq_getElem?_getD, List.getElem?_eq_getElem hp, e1]
  rfl
theorem step_at {cs : List Nat} {S : List (List MV)} {p : Nat} {u : MV} {c : Nat} (hc : cs.getD p 0 = c) (h32 : c ≠ 32) (h : c = 41 ∨ Ready cs S p) :
    stepB cs ⟨S, false, p, u⟩ = if c = 40 then some ⟨[] :: S, false, p + 1, u⟩ else if c = 41 then (match S with
      | [] => none
      | L :: S => some (push S false (p + 1) (.tup L))) else match leafOf ((cs.drop p).takeWhile nd) with
      | none => none
      | some v => some (push S false (p + ((cs.drop p).takeWhile nd).length) v) := by
  have hg : gapB cs ⟨S, false, p, u⟩ c = false := by
    cases S with
    | nil => rfl
    | cons L S =>
      rcases h with h | h | h
      · simp [gapB, h]
      · simp [gapB, h]
      · have h : cs.getD (p - 1) 0 = 32 := h
        show (!L.isEmpty && (decide (c ≠ 41) && decide (cs.getD (p - 1) 0 ≠ 32))) = false
        rw [h]
        simp
  have hs : spB cs ⟨S, false, p, u⟩ c = false := by simp [spB, h32]
  unfold stepB
  simp only [hc]
  rw [if_neg (by rw [hs]; simp), if_neg h32, if_neg (by rw [hg]; simp)]
  all_goals (cases S <;> rfl)
theorem last_of {cs : List Nat} {p : Nat} {v : MV} {tail : List Nat} (hv : Pl v) (h : cs.drop p = txt v ++ tail) : cs.getD (p + (txt v).length - 1) 0 ∉ [32, 40] := by
  obtain ⟨r, c, e, h1, h2⟩ := txt_last hv
  have hl : (txt v).length = r.length + 1 := by rw [e]; simp
  have : cs[p + r.length]? = some c := by
    have := congrArg (fun l => l[r.length]?) h
    simp only [List.getElem?_drop] at this
    rw [this, e]
    simp
  rw [hl, show p + (r.length + 1) - 1 = p + r.length by omega, List.getD_eq_getElem?_getD, this]
  simp [h1, h2]
theorem eats {cs : List Nat} : ∀ (n : Nat) (v : MV), plainB n v = true → ∀ (S : List (List MV)) (p : Nat) (u : MV) (tail : List Nat), cs.drop p = txt v ++ tail → Delim tail → Ready cs S p → Goes cs ⟨S, false, p, u⟩ (push S false (p + (txt v).length) v) := by
  have pat : ∀ S p v, (push S false p v).at_ = p := fun S p v => by cases S <;> rfl
  have leaf : ∀ (v : MV), leafB v = true → ∀ (S : List (List MV)) (p : Nat) (u : MV) (tail : List Nat), cs.drop p = txt v ++ tail → Delim tail → Ready cs S p → Goes cs ⟨S, false, p, u⟩ (push S false (p + (txt v).length) v) := by
    intro v hl S p u tail hd ht hr
    have hn := leaf_nd hl
    have hne := leaf_ne hl
    have htw : (cs.drop p).takeWhile nd = txt v := by rw [hd]; exact takeWhile_leaf hn ht
    cases e : txt v with
    | nil => exact absurd e hne
    | cons c t =>
      have hc := nd_head (hn c (by rw [e]; exact List.mem_cons_self))
      rw [e] at hd
      obtain ⟨h1, h2, _⟩ := drop_lt (show cs.drop p = c :: (t ++ tail) from hd)
      have st := step_at (S := S) (u := u) h2 hc.1 (.inr hr)
      rw [if_neg hc.2.1, if_neg hc.2.2, htw, leafOf_txt hl] at st
      rw [← e]
      refine Goes.one st h1 ?_
      rw [pat, e]
      show p < p + (t.length + 1)
      omega
  intro n
  induction n with
  | zero => exact fun v h => leaf v h
  | succ n ih =>
    intro v h
    rcases plain_leaf_or h with ⟨_, hl⟩ | ⟨m, xs, hm, rfl, hx⟩
    · exact leaf v hl
    cases hm
    -- the rest of a tuple's items
    have rest : ∀ (ws L : List MV) (S : List (List MV)) (q : Nat) (u : MV) (tail : List Nat), (∀ x ∈ ws, plainB n x = true) → (∀ x ∈ L, Pl x) → cs.drop q = items L.isEmpty ws ++ 41 :: tail → (L ≠ [] → 1 ≤ q ∧ cs.getD (q - 1) 0 ∉ [32, 40]) →
        Goes cs ⟨L :: S, false, q, u⟩ (push S false (q + (items L.isEmpty ws).length + 1) (.tup (L ++ ws))) := by
      intro ws
      induction ws with
      | nil =>
        intro L S q u tail _ _ hd _
        have hd : cs.drop q = 41 :: tail := by cases L <;> exact hd
        obtain ⟨h1, h2, _⟩ := drop_lt hd
        have st := step_at (S := L :: S) (u := u) h2 (by decide) (.inl rfl)
        rw [if_neg (by decide), if_pos rfl] at st
        have hz : (items L.isEmpty []).length = 0 := by cases L <;> rfl
        rw [hz, List.append_nil]
        exact Goes.one st h1 (by rw [pat]; show q < q + 0 + 1; omega)
      | cons w ws ihw =>
        intro L S q u tail hw hL hd hprev
        have hwp := hw w List.mem_cons_self
        have eat : ∀ (L : List MV) (q : Nat) (u : MV), (∀ x ∈ L, Pl x) → Ready cs (L :: S) q → cs.drop q = txt w ++ (more ws ++ 41 :: tail) → Goes cs ⟨L :: S, false, q, u⟩ (push S false (q + (txt w).length + (more ws).length + 1) (.tup (L ++ (w :: ws)))) := by
          intro L q u hL hr hd
          have g1 := ih w hwp (L :: S) q u (more ws ++ 41 :: tail) hd more_head hr
          have hemp : (L ++ [w]).isEmpty = false := by cases L <;> rfl
          have hd2 : cs.drop (q + (txt w).length) = items (L ++ [w]).isEmpty ws ++ 41 :: tail := by
            rw [hemp, ← List.drop_drop, hd, List.drop_left]
            rfl
          have g2 := ihw (L ++ [w]) S (q + (txt w).length) w tail (fun x hx => hw x (List.mem_cons_of_mem _ hx)) (fun x hx => by
            rcases List.mem_append.mp hx with hx | hx
            · exact hL x hx
            · rw [List.mem_singleton.mp hx]
              exact ⟨n, hwp⟩) hd2 (fun _ => ⟨by have := txt_pos hwp; omega, last_of ⟨n, hwp⟩ hd⟩)
          rw [hemp] at g2
          have e : L ++ [w] ++ ws = L ++ (w :: ws) := by simp
          rw [e] at g2
          exact g1.trans g2
        cases L with
        | nil =>
          have hd1 : cs.drop q = txt w ++ (more ws ++ 41 :: tail) := by rw [hd]; simp [items]
          have := eat [] q u (fun x hx => by cases hx) (.inl rfl) hd1
          have hlen : q + (items ([] : List MV).isEmpty (w :: ws)).length + 1 = q + (txt w).length + (more ws).length + 1 := by simp [items]; omega
          rw [hlen]
          exact this
        | cons a L =>
          obtain ⟨hq, hp⟩ := hprev (by simp)
          have hd1 : cs.drop q = 32 :: (txt w ++ (more ws ++ 41 :: tail)) := by rw [hd]; simp [items, more]
          obtain ⟨h1, h2, h3⟩ := drop_lt hd1
          obtain ⟨c, t, ec, hc⟩ := txt_head hwp
          rw [ec] at h3
          obtain ⟨h4, h5, _⟩ := drop_lt (show cs.drop (q + 1) = c :: (t ++ (more ws ++ 41 :: tail)) from h3)
          have hc32 : c ≠ 32 ∧ c ≠ 41 := by
            rcases hc with ⟨_, hc⟩ | ⟨_, hc⟩
            · omega
            · exact ⟨(nd_head hc).1, (nd_head hc).2.2⟩
          have st : stepB cs ⟨(a :: L) :: S, false, q, u⟩ = some ⟨(a :: L) :: S, false, q + 1, u⟩ := by
            have hs : spB cs ⟨(a :: L) :: S, false, q, u⟩ 32 = false := by
              show (false || (decide (32 = 32) && (false || (decide (q = 0) || (decide (cs.getD (q - 1) 0 ∈ [32, 40]) || (decide (cs.length ≤ q + 1) || decide (cs.getD (q + 1) 0 ∈ [32, 41]))))))) = false
              rw [h5, decide_eq_false hp, decide_eq_false (show ¬ q = 0 by omega), decide_eq_false (show ¬ cs.length ≤ q + 1 by omega), decide_eq_false (show ¬ c ∈ [32, 41] by simp [hc32])]
              rfl
            unfold stepB
            simp only [h2]
            rw [if_neg (by rw [hs]; simp)]
            rfl
          have hd2 : cs.drop (q + 1) = txt w ++ (more ws ++ 41 :: tail) := by rw [h3, ec]
          have g2 := eat (a :: L) (q + 1) u hL (.inr (by show cs.getD (q + 1 - 1) 0 = 32; rw [Nat.add_sub_cancel]; exact h2)) hd2
          have hlen : q + (items (a :: L).isEmpty (w :: ws)).length + 1 = q + 1 + (txt w).length + (more ws).length + 1 := by simp [items, more]; omega
          rw [hlen]
          exact (Goes.one st h1 (Nat.lt_succ_self q)).trans g2
    intro S p u tail hd ht hr
    have hd1 : cs.drop p = 40 :: (items true xs ++ 41 :: tail) := by rw [hd, txt_items]; simp
    obtain ⟨h1, h2, h3⟩ := drop_lt hd1
    have st := step_at (S := S) (u := u) h2 (by decide) (.inr hr)
    rw [if_pos rfl] at st
    have g2 := rest xs [] S (p + 1) u tail hx (fun x hx => by cases hx) h3 (fun z => absurd rfl z)
    have hlen : p + (txt (.tup xs)).length = p + 1 + (items ([] : List MV).isEmpty xs).length + 1 := by
      rw [txt_items]
      simp
      omega
    rw [hlen]
    exact (Goes.one st h1 (Nat.lt_succ_self p)).trans g2
theorem runB_complete {cs : List Nat} {v : MV} (hl : cs.length ≤ SZ) (h : cs = txt v) (hv : Pl v) : runB cs FUEL ⟨[], false, 0, .non⟩ = some v := by
  obtain ⟨n, hv⟩ := hv
  obtain ⟨m, h1, h2⟩ := eats (cs := cs) n v hv [] 0 .non [] (by rw [List.append_nil]; exact h) (.inl rfl) trivial
  have hm : m ≤ cs.length := by
    have : m + 0 ≤ 0 + (txt v).length := h1
    rw [h]
    omega
  have e : FUEL = (FUEL - m - 1 + 1) + m := by unfold FUEL; unfold SZ at hl; omega
  rw [e, h2, runB]
  show (if cs.length ≤ 0 + (txt v).length then (if true = true then some v else none) else _) = _
  rw [if_pos (by rw [h]; omega), if_pos rfl]
end K88
end
section
set_option Elab.async false
set_option linter.all false
set_option autoImplicit false
set_option maxRecDepth 100000
set_option maxHeartbeats 2000000
namespace K88
open PySem (Str PyData)
open MP
/-! ### plain values as data: equal, shown -/
mutual
def dat : MV → PyData
  | .non => .none
  | .str x => .str x
  | .int i => .int i
  | .tup xs => .tuple (dats xs)
  | .bl b => .bool b
  | .loc _ => .none
  | .frl _ => .none
  | .fn _ => .none
def dats : List MV → List PyData
  | [] => []
  | x :: xs => dat x :: dats xs
end
theorem dats_eq : ∀ xs : List MV, dats xs = xs.map dat
  | [] => rfl
  | x :: xs => by rw [dats, dats_eq xs]; rfl
theorem dat_tup (xs : List MV) : dat (.tup xs) = .tuple (xs.map dat) := by rw [dat, dats_eq]
theorem mapM_some {α β : Type} {f : α → Option β} {h : α → β} : ∀ xs : List α, (∀ x ∈ xs, f x = some (h x)) → xs.mapM f = some (xs.map h)
  | [], _ => rfl
  | x :: xs, hx => by
    rw [List.mapM_cons, hx x List.mem_cons_self, mapM_some xs fun y hy => hx y (List.mem_cons_of_mem _ hy)]
    rfl
theorem toD_plain {g : MH} : ∀ (n : Nat) (v : MV), plainB n v = true → ∀ m, n < m → toD m g v = some (dat v) := by
  have leaf : ∀ v, leafB v = true → ∀ m, 0 < m → toD m g v = some (dat v) := fun v h m hm => by
    obtain ⟨m, rfl⟩ : ∃ j, m = j + 1 := ⟨m - 1, by omega⟩
    cases v <;> first | rfl | exact absurd h (by simp [leafB])
  intro n
  induction n with
  | zero => exact fun v h m hm => leaf v h m hm
  | succ n ih =>
    intro v h m hm
    rcases plain_leaf_or h with ⟨_, hl⟩ | ⟨n', xs, hn, rfl, hx⟩
    · exact leaf v hl m (by omega)
    cases hn
    obtain ⟨m, rfl⟩ : ∃ j, m = j + 1 := ⟨m - 1, by omega⟩
    show (xs.mapM (toD m g)).map PyData.tuple = _
    rw [mapM_some xs fun x hxx => ih x (hx x hxx) m (by omega), dat_tup]
    rfl
theorem canLayAll_map {α : Type} {f : α → PyData} : ∀ xs : List α, (∀ x ∈ xs, (f x).canLay0 = true) → PyData.canLayAll0 (xs.map f) = true
  | [], _ => by simp [PyData.canLayAll0]
  | x :: xs, h => by
    rw [List.map_cons, PyData.canLayAll0, h x List.mem_cons_self, canLayAll_map xs fun y hy => h y (List.mem_cons_of_mem _ hy)]
    rfl
theorem showableAll_map {α : Type} {f : α → PyData} : ∀ xs : List α, (∀ x ∈ xs, (f x).showable = true) → PyData.showableAll (xs.map f) = true
  | [], _ => by simp [PyData.showableAll]
  | x :: xs, h => by
    rw [List.map_cons, PyData.showableAll, h x List.mem_cons_self, showableAll_map xs fun y hy => h y (List.mem_cons_of_mem _ hy)]
    rfl
theorem depthAll_map {α : Type} {f : α → PyData} {b : Nat} : ∀ xs : List α, (∀ x ∈ xs, (f x).depth ≤ b) → PyData.depthAll (xs.map f) ≤ b
  | [], _ => by simp [PyData.depthAll]
  | x :: xs, h => by
    rw [List.map_cons, PyData.depthAll]
    exact Nat.max_le.mpr ⟨h x List.mem_cons_self, depthAll_map xs fun y hy => h y (List.mem_cons_of_mem _ hy)⟩
theorem shownAll_map {α : Type} {f : α → PyData} : ∀ xs : List α, PyData.shownAll (xs.map f) = xs.map fun x => (f x).shown
  | [] => by simp [PyData.shownAll]
  | x :: xs => by rw [List.map_cons, PyData.shownAll, shownAll_map xs]; rfl
theorem word_ok {cs : List Nat} (h : wordL cs = true) : PyData.strOk (mk cs) = true ∧ (∀ c ∈ cs, c < 128) ∧ 1 ≤ cs.length := by
  obtain ⟨⟨c, r, e, _⟩, h2⟩ := wordL_iff.mp h
  have hc : ∀ c ∈ cs, c < 128 := fun c hc => by have := h2 c hc; omega
  refine ⟨?_, hc, by rw [e]; simp⟩
  show Array.all cs.toArray _ = true
  rw [List.all_toArray, List.all_eq_true]
  exact fun c hcc => decide_eq_true (by have := hc c hcc; omega)
theorem piled_le {α : Type} {f : α → Str} {b : α → Nat} : ∀ xs : List α, (∀ x ∈ xs, (f x).length + 2 ≤ b x) → PySem.piled (xs.map f) ≤ (xs.map b).sum
  | [], _ => Nat.le_refl _
  | x :: xs, h => by
    rw [List.map_cons, PySem.piled_cons, List.map_cons, List.sum_cons]
    have h1 := h x List.mem_cons_self
    have h2 := piled_le xs fun y hy => h y (List.mem_cons_of_mem _ hy)
    omega
theorem tupleText_le (ts : List Str) : (PySem.tupleText ts).length ≤ PySem.piled ts + 3 := by
  unfold PySem.tupleText
  rw [PySem.strLen_append, PySem.strLen_append]
  have e1 : ((("(" : String) : Str)).length = 1 := rfl
  have e3 : (((if ts.length == 1 then ",)" else ")" : String) : Str)).length ≤ 2 := by split <;> decide
  rw [e1]
  by_cases h : ts = []
  · subst h
    have : (Str.join ((", " : String) : Str) []).length = 0 := rfl
    omega
  · have := PySem.join_length_add ts h
    omega
theorem dat_ok : ∀ (n : Nat) (v : MV), plainB n v = true → (dat v).canLay0 = true ∧ (dat v).depth ≤ n ∧ (dat v).showable = true ∧ (dat v).shown.length ≤ 12 * (txt v).length := by
  have leaf : ∀ v, leafB v = true → (dat v).canLay0 = true ∧ (dat v).depth ≤ 0 ∧ (dat v).showable = true ∧ (dat v).shown.length ≤ 12 * (txt v).length := fun v h => by
    cases v with
    | non => exact ⟨by simp [dat, PyData.canLay0], by simp [dat, PyData.depth], by simp [dat, PyData.showable], by simp only [dat, PyData.shown]; exact (by decide : 4 ≤ 12 * 1)⟩
    | str x =>
      obtain ⟨⟨cs⟩⟩ := x
      obtain ⟨h1, h2, h3⟩ := word_ok (cs := cs) h
      have h4 := PySem.StrLaws.reprText_len (mk cs) fun c hc => Nat.lt_trans (h2 c hc) (by decide)
      have h5 : (mk cs).length = cs.length := rfl
      have h6 : (txt (.str (mk cs))).length = cs.length := by rw [txt]
      refine ⟨by simp only [dat, PyData.canLay0]; exact h1, by simp [dat, PyData.depth], by simp [dat, PyData.showable], ?_⟩
      simp only [dat, PyData.shown]
      show (PySem.reprText (mk cs)).length ≤ 12 * (txt (.str (mk cs))).length
      omega
    | int i =>
      have h' := h
      simp only [leafB, Bool.and_eq_true, decide_eq_true_eq] at h'
      refine ⟨by simp [dat, PyData.canLay0], by simp [dat, PyData.depth], ?_, ?_⟩
      · simp only [dat, PyData.showable]
        exact decide_eq_true (log_small h'.1 h'.2)
      · simp only [dat, PyData.shown]
        have e : (txt (.int i)).length = (strI i).length := by rw [txt, Array.length_toList]; rfl
        rw [e]
        show (Str.ofString (toString i)).length ≤ 12 * (strI i).length
        have e2 : strI i = Str.ofString (toString i) := rfl
        rw [e2]
        omega
    | _ => exact absurd h (by simp [leafB])
  intro n
  induction n with
  | zero => exact fun v h => leaf v h
  | succ n ih =>
    intro v h
    rcases plain_leaf_or h with ⟨_, hl⟩ | ⟨n', xs, hn, rfl, hx⟩
    · obtain ⟨a, b, c, d⟩ := leaf v hl
      exact ⟨a, by omega, c, d⟩
    cases hn
    rw [dat_tup]
    refine ⟨?_, ?_, ?_, ?_⟩
    · rw [PyData.canLay0]
      exact canLayAll_map xs fun x hxx => (ih x (hx x hxx)).1
    · rw [PyData.depth]
      have := depthAll_map (f := dat) (b := n) xs fun x hxx => (ih x (hx x hxx)).2.1
      omega
    · rw [PyData.showable]
      exact showableAll_map xs fun x hxx => (ih x (hx x hxx)).2.2.1
    · rw [PyData.shown, shownAll_map]
      have h1 := tupleText_le (xs.map fun x => (dat x).shown)
      have h2 := piled_le (f := fun x => (dat x).shown) (b := fun x => 12 * (txt x).length + 2) xs fun x hxx => by have := (ih x (hx x hxx)).2.2.2; omega
      have h3 := tup_len xs
      have h4 : ∀ ys : List MV, (ys.map fun x => 12 * (txt x).length + 2).sum = 12 * ((ys.map txt).map List.length).sum + 2 * ys.length := fun ys => by
        induction ys with
        | nil => rfl
        | cons y ys ih => simp only [List.map_cons, List.sum_cons, List.length_cons, ih]; omega
      rw [h4] at h2
      omega
theorem shaped_plain {n : Nat} {v : MV} (hn : n ≤ 64) (h : plainB n v = true) : PySem.SeqAt.shaped (dat v) = true := by
  obtain ⟨a, b, _, _⟩ := dat_ok n v h
  unfold PySem.SeqAt.shaped
  rw [a, decide_eq_true (show (dat v).depth ≤ 64 by omega)]
  rfl
/-- a plain value equals itself -/
theorem eqV_refl {g : MH} {v : MV} (h : plainB 60 v = true) : eqV g v v = some true := by
  unfold eqV
  cases e : scEq v v with
  | some b =>
    simp only []
    cases v <;> simp only [scEq] at e <;> first | (cases e; done) | (cases e; rfl) | (injection e with e; rw [← e]; simp)
  | none =>
    simp only []
    rw [toD_plain 60 v h 66 (by decide)]
    simp only []
    rw [shaped_plain (by decide) h]
    simp only [Bool.and_self, if_true]
    rw [PySem.SeqAt.eqv_refl _ (dat_ok 60 v h).1]
end K88
end
section
set_option Elab.async false
set_option linter.all false
set_option autoImplicit false
set_option maxRecDepth 100000
set_option maxHeartbeats 2000000
namespace K88
open PySem (Str PyData)
open MP
/-! ### the bag -/
def Bag (B : Nat) (g : MH) : Prop := ∃ (a b c : Int) (D : Nat) (cells : List Int), g[B]? = some (.lst [.int a, .int b, .int c, .loc D]) ∧ g[D]? = some (.lst (cells.map .int)) ∧ D ≠ B ∧ 0 ≤ a ∧ 0 ≤ b ∧ 0 ≤ c ∧ cells.length ≤ 63 ∧ ∀ x ∈ cells, 0 ≤ x
structure Stp (B : Nat) (g g' : MH) : Prop where
  le : g.length ≤ g'.length
  keep : ∀ l, l < g.length → l ≠ B → g'[l]? = g[l]?
  bag : Bag B g'
theorem Stp.refl {B : Nat} {g : MH} (h : Bag B g) : Stp B g g := ⟨Nat.le_refl _, fun _ _ _ => rfl, h⟩
theorem Stp.trans {B : Nat} {g g1 g2 : MH} (a : Stp B g g1) (b : Stp B g1 g2) : Stp B g g2 := ⟨Nat.le_trans a.le b.le, fun l h hb => (b.keep l (Nat.lt_of_lt_of_le h a.le) hb).trans (a.keep l h hb), b.bag⟩
theorem lt_of {α : Type} {g : List α} {l : Nat} {o : α} (h : g[l]? = some o) : l < g.length := (List.getElem?_eq_some_iff.mp h).1
theorem Bag.ext {B : Nat} {g g' : MH} (h : Bag B g) (e : Ext g g') : Bag B g' := by
  obtain ⟨a, b, c, D, cells, h1, h2, h3⟩ := h
  exact ⟨a, b, c, D, cells, (e.keep B (lt_of h1)).trans h1, (e.keep D (lt_of h2)).trans h2, h3⟩
theorem Stp.ext {B : Nat} {g g' : MH} (h : Bag B g) (e : Ext g g') : Stp B g g' := ⟨e.le, fun l hl _ => e.keep l hl, h.ext e⟩
theorem Stp.next {B : Nat} {g g1 g2 : MH} (a : Stp B g g1) (e : Ext g1 g2) : Stp B g g2 := a.trans (.ext a.bag e)
theorem Bag.lt {B : Nat} {g : MH} (h : Bag B g) : B < g.length := by
  obtain ⟨a, b, c, D, cells, h1, _⟩ := h
  exact lt_of h1
theorem Wf.stp {B : Nat} {g g' : MH} (s : Stp B g g') {v : MV} (h : Wf g v) : Wf g' v := by
  have atB : Wf g' (.loc B) := by
    obtain ⟨a, b, c, D, cells, h1, _⟩ := s.bag
    exact .lst _ _ h1
  induction h with
  | non => exact .non
  | bl b => exact .bl b
  | int i => exact .int i
  | str x h => exact .str x h
  | tup xs hl _ ih => exact .tup xs hl ih
  | lst l xs h =>
    by_cases e : l = B
    · subst e
      exact atB
    · exact .lst l xs ((s.keep l (lt_of h) e).trans h)
  | dic l xs h =>
    by_cases e : l = B
    · subst e
      exact atB
    · exact .dic l xs ((s.keep l (lt_of h) e).trans h)
theorem Wf.ext {g g' : MH} (s : Ext g g') {v : MV} (h : Wf g v) : Wf g' v := by
  induction h with
  | non => exact .non
  | bl b => exact .bl b
  | int i => exact .int i
  | str x h => exact .str x h
  | tup xs hl _ ih => exact .tup xs hl ih
  | lst l xs h => exact .lst l xs ((s.keep l (lt_of h)).trans h)
  | dic l xs h => exact .dic l xs ((s.keep l (lt_of h)).trans h)
theorem mulV {i j : Int} (h : small64 i = true ∨ small64 j = true) : binV .mul (.int i) (.int j) = some (.int (i * j)) := by
  simp only [binV]
  rw [if_pos (by rcases h with h | h <;> simp [h])]
theorem modV {i j : Int} (h : 0 < j) : binV .mod (.int i) (.int j) = some (.int (i % j)) := by
  simp only [binV]
  rw [if_pos h]
theorem fdivV {i j : Int} (h : 0 < j) (h2 : j < 1073741824) : binV .fdiv (.int i) (.int j) = some (.int (i / j)) := by
  simp only [binV]
  rw [if_pos ⟨h, h2⟩]
theorem atL {g : MH} {l : Nat} {xs : List MV} {i : Int} (h : g[l]? = some (.lst xs)) : idxV g (.loc l) (.int i) = atI xs i := by simp only [idxV, h]
theorem atG {g : MH} {l : Nat} {xs : List MV} {i : Int} (h : g[l]? = some (.lst xs)) : idxG g (.loc l) (.int i) = atI xs i := by simp only [idxG, h]
theorem putL {g : MH} {l : Nat} {xs : List MV} {i : Int} {w : MV} (h : g[l]? = some (.lst xs)) : idxPut (.loc l) (.int i) w g = (ixN xs.length i).map fun j => g.set l (.lst (xs.set j w)) := by simp only [idxPut, h]
theorem putJ {g : MH} {l : Nat} {xs : List MV} {i : Int} {w : MV} (h : g[l]? = some (.lst xs)) (j : Nat) (hj : ixN xs.length i = some j) : idxPut (.loc l) (.int i) w g = some (g.set l (.lst (xs.set j w))) := by
  rw [putL h, hj]
  rfl
theorem cell_of {cells : List Int} (hc : ∀ x ∈ cells, 0 ≤ x) (p q : Option Int) : ∃ x : Int, 0 ≤ x ∧ atI (cut (cells.map MV.int) p q ++ [.int 0]) 0 = some (.int x) := by
  have : ∀ y ∈ cut (cells.map MV.int) p q, ∃ x : Int, 0 ≤ x ∧ y = .int x := fun y hy => by
    have h1 := List.mem_of_mem_drop (List.mem_of_mem_take hy)
    obtain ⟨x, hx, rfl⟩ := List.mem_map.mp h1
    exact ⟨x, hc x hx, rfl⟩
  cases e : cut (cells.map MV.int) p q with
  | nil => exact ⟨0, by decide, rfl⟩
  | cons y ys =>
    obtain ⟨x, hx, rfl⟩ := this y (by rw [e]; exact List.mem_cons_self)
    refine ⟨x, hx, ?_⟩
    simp only [atI, ixN]
    rw [if_pos (Int.le_refl _), if_pos (by simp only [List.length_append, List.length_cons, List.length_nil]; omega)]
    rfl
theorem cut_len {α : Type} (xs : List α) (p q : Option Int) : (cut xs p q).length ≤ xs.length := by
  unfold cut
  rw [List.length_take, List.length_drop]
  omega
theorem pow18 : binV .pow (.int 10) (.int 18) = some (.int (10 ^ 18)) := rfl
/-- the second half: what is drawn of a bag -/
theorem take2 {g : MH} {B : Nat} {m a b c : Int} {D : Nat} (k : Nat) (x2 x3 : Option MV) (hb : g[B]? = some (.lst [.int a, .int b, .int c, .loc D])) (hm : 0 < m) (hm2 : m < 1073741824) (ha : 0 ≤ a) (h0 : 0 ≤ b) :
    ∃ (d a' : Int), 0 ≤ d ∧ d < m ∧ 0 ≤ a' ∧ exS (Ek T k) (.seq (.ife (.cmp .gt (.idx (.loc 0) (.cst (.int 0))) (.cst (.int 0))) (.seq (.set 4 (.bin .mod (.bi1 .int (.idx (.loc 0) (.cst (.int 0)))) (.loc 1)))
    (.seq (.setI (.loc 0) (.cst (.int 0)) (.bin .fdiv (.bi1 .int (.idx (.loc 0) (.cst (.int 0)))) (.loc 1)))
    (.seq (.ret (.loc 4))
    .nil))) .nil)
    (.seq (.set 5 (.bin .mod (.bi1 .int (.bin .mul (.bin .add (.idx (.loc 0) (.cst (.int 1))) (.cst (.int 1))) (.cst (.int 39373)))) (.cst (.int 1000000007))))
    (.seq (.set 6 (.bin .mod (.bi1 .int (.bin .mul (.bin .mod (.bi1 .int (.bin .mul (.loc 5) (.loc 5))) (.cst (.int 998244353))) (.cst (.int 30011)))) (.cst (.int 998244353))))
    (.seq (.ret (.bin .mod (.bi1 .int (.bin .fdiv (.loc 6) (.cst (.int 7)))) (.loc 1)))
    .nil)))) [some (.loc B), some (.int m), x2, x3, none, none, none] g = .ok (.ret (.int d)) (g.set B (.lst [.int a', .int b, .int c, .loc D])) := by
  have hB := lt_of hb
  have e0 : idxV g (.loc B) (.int 0) = some (.int a) := by rw [atL hb]; rfl
  have e1 : idxV g (.loc B) (.int 1) = some (.int b) := by rw [atL hb]; rfl
  by_cases h : 0 < a
  · have ep : idxPut (.loc B) (.int 0) (.int (a / m)) g = some (g.set B (.lst [.int (a / m), .int b, .int c, .loc D])) := by rw [putL hb]; rfl
    exact ⟨a % m, a / m, Int.emod_nonneg _ (by omega), Int.emod_lt_of_pos _ hm, Int.ediv_nonneg ha (by omega),
      s_seq_ret (s_ife_t (t_cmp (r_idx (r_loc rfl) r_cst e0) r_cst (congrArg some (decide_eq_true h))) (s_seq (s_set (r_bin (r_bi1 (r_idx (r_loc rfl) r_cst e0) rfl) (r_loc rfl) (modV hm))) (s_seq (s_setI (r_bin (r_bi1 (r_idx (r_loc rfl) r_cst e0) rfl) (r_loc rfl) (fdivV hm hm2)) (r_loc rfl) r_cst ep) (s_seq_ret (s_ret (r_loc rfl))))))⟩
  · have ha0 : a = 0 := by omega
    subst ha0
    have es : g.set B (.lst [.int 0, .int b, .int c, .loc D]) = g := by
      obtain ⟨h1, h2⟩ := List.getElem?_eq_some_iff.mp hb
      rw [← h2]
      exact List.set_getElem_self h1
    have hbe : small64 ((b + 1) * 39373 % 1000000007) = true := by
      have h1 := Int.emod_nonneg ((b + 1) * 39373) (by decide : (1000000007 : Int) ≠ 0)
      have h2 := Int.emod_lt_of_pos ((b + 1) * 39373) (by decide : (0 : Int) < 1000000007)
      unfold small64
      rw [decide_eq_true (show -(2 ^ 64) < _ by omega), decide_eq_true (show _ < (2 : Int) ^ 64 by omega)]
      rfl
    refine ⟨(b + 1) * 39373 % 1000000007 * ((b + 1) * 39373 % 1000000007) % 998244353 * 30011 % 998244353 / 7 % m, 0, Int.emod_nonneg _ (by omega), Int.emod_lt_of_pos _ hm, Int.le_refl _, ?_⟩
    · rw [es]
      exact s_seq (s_ife_f (t_cmp (r_idx (r_loc rfl) r_cst e0) r_cst rfl) s_nil) (s_seq (s_set (r_bin (r_bi1 (r_bin (r_bin (r_idx (r_loc rfl) r_cst e1) r_cst rfl) r_cst (mulV (.inr rfl))) rfl) r_cst (modV (by decide))))
        (s_seq (s_set (r_bin (r_bi1 (r_bin (r_bin (r_bi1 (r_bin (r_loc rfl) (r_loc rfl) (mulV (.inl hbe))) rfl) r_cst (modV (by decide))) r_cst (mulV (.inr rfl))) rfl) r_cst (modV (by decide))))
        (s_seq_ret (s_ret (r_bin (r_bi1 (r_bin (r_loc rfl) r_cst (fdivV (by decide) (by decide))) rfl) (r_loc rfl) (modV hm))))))
theorem Stp.setB {B : Nat} {g : MH} {a b c : Int} {D : Nat} {cells : List Int} (hB : B < g.length) (h2 : g[D]? = some (.lst (cells.map .int))) (hD : D ≠ B) (ha : 0 ≤ a) (hb : 0 ≤ b) (hc : 0 ≤ c) (hl : cells.length ≤ 63) (hx : ∀ x ∈ cells, 0 ≤ x) : Stp B g (g.set B (.lst [.int a, .int b, .int c, .loc D])) :=
  ⟨by rw [List.length_set]; exact Nat.le_refl _, fun l _ h => by rw [List.getElem?_set_ne (Ne.symm h)], a, b, c, D, cells, by rw [List.getElem?_set_self hB], by rw [List.getElem?_set_ne (Ne.symm hD)]; exact h2, hD, ha, hb, hc, hl, hx⟩
theorem take {g : MH} {B : Nat} {m : Int} (k : Nat) (h : Bag B g) (hm : 0 < m) (hm2 : m < 1073741824) : ∃ (d : Int) (g' : MH), 0 ≤ d ∧ d < m ∧ callF T (k + 1) f_l_take [.loc B, .int m] g = .ok (.int d) g' ∧ Stp B g g' := by
  obtain ⟨a, b, c, D, cells, hb, hd, hD, ha, h0, hc, hl, hx⟩ := h
  have hB := lt_of hb
  have e0 : idxV g (.loc B) (.int 0) = some (.int a) := by rw [atL hb]; rfl
  by_cases hz : a = 0
  · subst hz
    have e2 : idxV g (.loc B) (.int 2) = some (.int c) := by rw [atL hb]; rfl
    have e2' : idxG g (.loc B) (.int 2) = some (.int c) := by rw [atG hb]; rfl
    have e3 : idxV g (.loc B) (.int 3) = some (.loc D) := by rw [atL hb]; rfl
    obtain ⟨x, hx0, hxe⟩ := cell_of hx (some c) none
    have esl : slLV g (.loc D) (some c) none = some (cut (cells.map .int) (some c) none) := by simp only [slLV, hd]
    have hcl : (cut (cells.map MV.int) (some c) none).length + [MV.int 0].length ≤ SZ := by
      have := cut_len (cells.map MV.int) (some c) none
      rw [List.length_map] at this
      show _ + 1 ≤ 16777216
      omega
    have st1 : exS (Ek T k) (.set 2 (.idxL (.catL (.slL (.idx (.loc 0) (.cst (.int 3))) (.cons (.idx (.loc 0) (.cst (.int 2))) .nil) .nil) (.disp (.cons (.cst (.int 0)) .nil))) (.cst (.int 0)))) [some (.loc B), some (.int m), none, none, none, none, none] g = .ok (.next [some (.loc B), some (.int m), some (.int x), none, none, none, none]) g :=
      s_set (r_idxL (l_catL (l_slL (r_idx (r_loc rfl) r_cst e3) (r_o (r_idx (r_loc rfl) r_cst e2)) r_o_nil esl) (l_disp (r_cons r_cst r_nil) (by decide)) hcl) r_cst hxe)
    obtain ⟨g1, eg1⟩ : ∃ g1, g1 = g.set B (.lst [.int 0, .int b, .int (c + 1), .loc D]) := ⟨_, rfl⟩
    have hb1 : g1[B]? = some (.lst [.int 0, .int b, .int (c + 1), .loc D]) := by rw [eg1, List.getElem?_set_self hB]
    have st2 : exS (Ek T k) (.augI (.loc 0) (.cst (.int 2)) .add (.cst (.int 1))) [some (.loc B), some (.int m), some (.int x), none, none, none, none] g = .ok (.next [some (.loc B), some (.int m), some (.int x), none, none, none, none]) g1 :=
      s_augI (r_loc rfl) r_cst e2' r_cst rfl (by rw [putL hb, eg1]; rfl)
    have st3 : ∃ a' : Int, 0 ≤ a' ∧ exS (Ek T k) (.ife (.cmp .ge (.loc 2) (.bin .pow (.cst (.int 10)) (.cst (.int 18)))) (.seq (.setI (.loc 0) (.cst (.int 0)) (.loc 2)) .nil) .nil) [some (.loc B), some (.int m), some (.int x), none, none, none, none] g1 = .ok (.next [some (.loc B), some (.int m), some (.int x), none, none, none, none]) (g.set B (.lst [.int a', .int b, .int (c + 1), .loc D])) := by
      by_cases hge : (10 : Int) ^ 18 ≤ x
      · refine ⟨x, hx0, s_ife_t (t_cmp (r_loc rfl) (r_bin r_cst r_cst pow18) (congrArg some (decide_eq_true hge))) (s_seq (s_setI (r_loc rfl) (r_loc rfl) r_cst ?_) s_nil)⟩
        rw [putJ hb1 0 rfl, eg1, List.set_set]
        rfl
      · refine ⟨0, Int.le_refl _, ?_⟩
        rw [← eg1]
        exact s_ife_f (t_cmp (r_loc rfl) (r_bin r_cst r_cst pow18) (congrArg some (decide_eq_false hge))) s_nil
    obtain ⟨a', ha', st3⟩ := st3
    obtain ⟨g2, eg2⟩ : ∃ g2, g2 = g.set B (.lst [.int a', .int b, .int (c + 1), .loc D]) := ⟨_, rfl⟩
    rw [← eg2] at st3
    have hb2 : g2[B]? = some (.lst [.int a', .int b, .int (c + 1), .loc D]) := by rw [eg2, List.getElem?_set_self hB]
    have f1 : idxV g2 (.loc B) (.int 1) = some (.int b) := by rw [atL hb2]; rfl
    have f2 : idxV g2 (.loc B) (.int 2) = some (.int (c + 1)) := by rw [atL hb2]; rfl
    have st4 := s_set (E := Ek T k) (g := g2) (ρ := [some (.loc B), some (.int m), some (.int x), none, none, none, none]) (n := 3) (r_bin (op := .add) (r_bin (op := .add) (r_bin (op := .mul) (r_idx (a := .loc 0) (i := .cst (.int 1)) (r_loc rfl) r_cst f1) (b := .cst (.int 48271)) r_cst (mulV (.inr rfl))) (r_bin (op := .mod) (r_bi1 (q := .int) (a := .loc 2) (r_loc rfl) rfl) (b := .cst (.int 2147483647)) r_cst (modV (by decide))) rfl) (r_bin (op := .mul) (a := .cst (.int 7919)) r_cst (r_idx (a := .loc 0) (i := .cst (.int 2)) (r_loc rfl) r_cst f2) (mulV (.inl rfl))) rfl)
    obtain ⟨s, es⟩ : ∃ s : Int, s = b * 48271 + x % 2147483647 + 7919 * (c + 1) := ⟨_, rfl⟩
    rw [← es] at st4
    have st5 : exS (Ek T k) (.setI (.loc 0) (.cst (.int 1)) (.bin .mod (.bi1 .int (.loc 3)) (.cst (.int 2147483647)))) [some (.loc B), some (.int m), some (.int x), some (.int s), none, none, none] g2 = .ok (.next [some (.loc B), some (.int m), some (.int x), some (.int s), none, none, none]) (g.set B (.lst [.int a', .int (s % 2147483647), .int (c + 1), .loc D])) := by
      refine s_setI (r_bin (r_bi1 (r_loc rfl) rfl) r_cst (modV (by decide))) (r_loc rfl) r_cst ?_
      rw [putJ hb2 1 rfl, eg2, List.set_set]
      rfl
    have hs := Int.emod_nonneg s (by decide : (2147483647 : Int) ≠ 0)
    obtain ⟨g3, eg3⟩ : ∃ g3, g3 = g.set B (.lst [.int a', .int (s % 2147483647), .int (c + 1), .loc D]) := ⟨_, rfl⟩
    rw [← eg3] at st5
    have hb3 : g3[B]? = some (.lst [.int a', .int (s % 2147483647), .int (c + 1), .loc D]) := by rw [eg3, List.getElem?_set_self hB]
    obtain ⟨d, a2, d0, d1, ha2, q⟩ := take2 k (some (.int x)) (some (.int s)) hb3 hm hm2 ha' hs
    refine ⟨d, _, d0, d1, c_ret rfl rfl (s_seq (s_ife_t (t_cmp (r_idx (r_loc rfl) r_cst e0) r_cst rfl) (s_seq st1 (s_seq st2 (s_seq st3 (s_seq st4 (s_seq st5 s_nil)))))) q), ?_⟩
    rw [eg3, List.set_set]
    exact Stp.setB hB hd hD ha2 hs (by omega) hl hx
  · obtain ⟨d, a2, d0, d1, ha2, q⟩ := take2 k none none hb hm hm2 ha h0
    exact ⟨d, _, d0, d1, c_ret rfl rfl (s_seq (s_ife_f (t_cmp (r_idx (r_loc rfl) r_cst e0) r_cst (congrArg some (decide_eq_false hz))) s_nil) q), Stp.setB hB hd hD ha2 h0 hc hl hx⟩
theorem atI_get {xs : List MV} {d : Int} (h0 : 0 ≤ d) (h1 : d < xs.length) : ∃ x, x ∈ xs ∧ atI xs d = some x := by
  have hj : d.toNat < xs.length := by omega
  refine ⟨xs[d.toNat], List.getElem_mem hj, ?_⟩
  simp only [atI, ixN]
  rw [if_pos h0, if_pos h1]
  exact List.getElem?_eq_getElem hj
theorem some_ {g : MH} {B l : Nat} {xs : List MV} (k : Nat) (h : Bag B g) (hl : g[l]? = some (.lst xs)) (hn : l ≠ B) (h0 : xs ≠ []) (h1 : xs.length < 1073741824) : ∃ x, x ∈ xs ∧ ∃ g', callF T (k + 2) f_l_some [.loc B, .loc l] g = .ok x g' ∧ Stp B g g' := by
  have hp := List.length_pos_iff.mpr h0
  obtain ⟨d, g', d0, d1, e, s⟩ := take (m := (xs.length : Int)) k h (by omega) (by omega)
  obtain ⟨x, hx, ex⟩ := atI_get d0 d1
  have elen : bi1V .len g (.loc l) = some (.int (xs.length : Int)) := by
    simp only [bi1V, lenOf, hl]
    rfl
  have hl' := (s.keep l (lt_of hl) hn).trans hl
  exact ⟨x, hx, g', c_ret rfl rfl (s_seq_ret (s_ret (r_idx (r_loc rfl) (r_call (r_cons (r_loc rfl) (r_cons (r_bi1 (r_loc rfl) elen) r_nil)) e) (by rw [atL hl', ex])))), s⟩
end K88
end
section
set_option Elab.async false
set_option linter.all false
set_option autoImplicit false
set_option maxRecDepth 100000
set_option maxHeartbeats 2000000
namespace K88
open PySem (Str PyData)
open MP
/-! ### paths, parts -/
mutual
def wt : MV → Nat
  | .tup xs => wts xs + 2
  | .str x => x.length + 31
  | .non => 31
  | .int _ => 31
  | .bl _ => 31
  | .loc _ => 31
  | .frl _ => 31
  | .fn _ => 31
def wts : List MV → Nat
  | [] => 0
  | x :: xs => wt x + 1 + wts xs
end
theorem wts_append : ∀ xs ys : List MV, wts (xs ++ ys) = wts xs + wts ys
  | [], ys => by simp [wts]
  | x :: xs, ys => by rw [List.cons_append, wts, wts_append xs ys, wts]; omega
theorem wts_len : ∀ xs : List MV, xs.length ≤ wts xs
  | [] => Nat.le_refl _
  | x :: xs => by rw [wts, List.length_cons]; have := wts_len xs; omega
theorem wts_get : ∀ {xs : List MV} {j : Nat} {x : MV}, xs[j]? = some x → wt x + 1 ≤ wts xs
  | [], j, x, h => by simp at h
  | y :: ys, 0, x, h => by simp at h; subst h; rw [wts]; omega
  | y :: ys, j + 1, x, h => by
    rw [List.getElem?_cons_succ] at h
    have := wts_get h
    rw [wts]
    omega
theorem wts_take (xs : List MV) (n : Nat) : wts (xs.take n) ≤ wts xs := by
  have := wts_append (xs.take n) (xs.drop n)
  rw [List.take_append_drop] at this
  omega
theorem wts_drop (xs : List MV) (n : Nat) : wts (xs.drop n) ≤ wts xs := by
  have := wts_append (xs.take n) (xs.drop n)
  rw [List.take_append_drop] at this
  omega
theorem wts_reverse : ∀ xs : List MV, wts xs.reverse = wts xs
  | [] => rfl
  | x :: xs => by rw [List.reverse_cons, wts_append, wts_reverse xs, wts, wts, wts]; omega
theorem txt_wt : ∀ (n : Nat) (v : MV), plainB n v = true → (txt v).length ≤ wt v := by
  have leaf : ∀ v, leafB v = true → (txt v).length ≤ wt v := fun v h => by
    cases v with
    | non => exact (by decide : 1 ≤ 31)
    | str x =>
      rw [txt, wt, Array.length_toList]
      show x.length ≤ _
      omega
    | int i =>
      simp only [leafB, Bool.and_eq_true, decide_eq_true_eq] at h
      obtain ⟨n, rfl⟩ := Int.eq_ofNat_of_zero_le h.1
      rw [txt, strI_nat, wt]
      have := digs_len 29 n (by have := h.2; omega)
      omega
    | _ => exact absurd h (by simp [leafB])
  intro n
  induction n with
  | zero => exact fun v h => leaf v h
  | succ n ih =>
    intro v h
    rcases plain_leaf_or h with ⟨_, hl⟩ | ⟨n', xs, hn, rfl, hx⟩
    · exact leaf v hl
    cases hn
    have hs : ((xs.map txt).map List.length).sum + xs.length ≤ wts xs := by
      clear h
      induction xs with
      | nil => exact Nat.le_refl _
      | cons x xs ihx =>
        have h1 := ih x (hx x List.mem_cons_self)
        have h2 := ihx fun y hy => hx y (List.mem_cons_of_mem _ hy)
        simp only [List.map_cons, List.sum_cons, List.length_cons, wts]
        omega
    rw [txt_tup, wt]
    simp only [List.length_cons, List.length_append, List.length_nil]
    cases xs with
    | nil => simp [joinSp]
    | cons x xs =>
      have := joinSp_len ((x :: xs).map txt) (by simp)
      rw [List.length_map] at this
      omega
def At : List Nat → MV → MV → Prop
  | [], v, w => v = w
  | j :: p, v, w => ∃ xs x, v = .tup xs ∧ xs[j]? = some x ∧ At p x w
theorem At.snoc : ∀ {p : List Nat} {v : MV} {xs : List MV} {j : Nat} {x : MV}, At p v (.tup xs) → xs[j]? = some x → At (p ++ [j]) v x
  | [], v, xs, j, x, h, hj => ⟨xs, x, h, hj, rfl⟩
  | i :: p, v, xs, j, x, ⟨ys, y, h1, h2, h3⟩, hj => ⟨ys, y, h1, h2, At.snoc h3 hj⟩
theorem At.wt : ∀ {p : List Nat} {v w : MV}, At p v w → wt w ≤ K88.wt v
  | [], v, w, h => by cases h; exact Nat.le_refl _
  | j :: p, v, w, ⟨xs, x, h1, h2, h3⟩ => by
    subst h1
    have := wts_get h2
    have := h3.wt
    rw [K88.wt]
    omega
theorem At.wf {g : MH} : ∀ {p : List Nat} {v w : MV}, At p v w → Wf g v → Wf g w
  | [], v, w, h, hw => by cases h; exact hw
  | j :: p, v, w, ⟨xs, x, h1, h2, h3⟩, hw => by
    subst h1
    cases hw with
    | tup _ _ hx => exact h3.wf (hx x (List.mem_of_getElem? h2))
theorem At.plain : ∀ {p : List Nat} {v w : MV} {n : Nat}, At p v w → plainB n v = true → p.length ≤ n ∧ plainB n w = true
  | [], v, w, n, h, hw => by cases h; exact ⟨Nat.zero_le _, hw⟩
  | j :: p, v, w, 0, ⟨xs, x, h1, h2, h3⟩, hw => by subst h1; exact absurd hw (by simp [plainB, leafB])
  | j :: p, v, w, n + 1, ⟨xs, x, h1, h2, h3⟩, hw => by
    subst h1
    rw [plainB_tup] at hw
    obtain ⟨a, b⟩ := h3.plain (List.all_eq_true.mp hw x (List.mem_of_getElem? h2))
    exact ⟨Nat.succ_le_succ a, plain_mono (Nat.le_succ _) b⟩
abbrev nums (p : List Nat) : List MV := p.map fun (j : Nat) => MV.int (j : Int)
theorem nums_len (p : List Nat) : (nums p).length = p.length := List.length_map _
theorem atI_pos {xs : List MV} {j : Nat} {x : MV} (h : xs[j]? = some x) : atI xs (j : Int) = some x := by
  have := lt_of h
  simp only [atI, ixN]
  rw [if_pos (by omega), if_pos (by omega)]
  exact h
theorem part_loop {E : Ev} {g : MH} {pth : MV} : ∀ (p q : List Nat) (n : Nat) (v w : MV) (x : Option MV), At p v w → p.length < n →
    ∃ y, loopF (.seq (nums (q ++ p))) (fun v r => asgn (.nm 2) v r) (fun r g => exS E (.seq (.set 0 (.idx (.loc 0) (.loc 2))) .nil) r g) n q.length [some v, some pth, x] g = .ok (.next [some w, some pth, y]) g
  | [], q, n, v, w, x, h, hn => by
    cases h
    obtain ⟨n, rfl⟩ : ∃ m, n = m + 1 := ⟨n - 1, by omega⟩
    refine ⟨x, f_stop ?_⟩
    simp only [MIt.item]
    rw [List.getElem?_eq_none (by rw [nums_len]; simp)]
  | j :: p, q, n, v, w, x, ⟨xs, z, h1, h2, h3⟩, hn => by
    obtain ⟨n, rfl⟩ : ∃ m, n = m + 1 := ⟨n - 1, by omega⟩
    have hn : p.length + 1 < n + 1 := hn
    obtain ⟨y, ih⟩ := part_loop (E := E) (g := g) (pth := pth) p (q ++ [j]) n z w (some (.int (j : Int))) h3 (by omega)
    rw [List.append_assoc, List.length_append] at ih
    refine ⟨y, (f_next (v := .int (j : Int)) (ρ1 := [some v, some pth, some (.int (j : Int))]) (ρ2 := [some z, some pth, some (.int (j : Int))]) (g1 := g) ?_ rfl (s_seq (s_set (r_idx (r_loc rfl) (r_loc rfl) ?_)) s_nil)).trans ih⟩
    · simp only [MIt.item]
      rw [List.getElem?_map]
      simp
    · subst h1
      exact atI_pos h2
theorem part_of {g : MH} {p : List Nat} {v w : MV} (k : Nat) (h : At p v w) (hl : p.length ≤ 1000) : callF T (k + 1) f_l_part_of [v, .tup (nums p)] g = .ok w g := by
  obtain ⟨y, e⟩ := part_loop (E := Ek T k) (g := g) (pth := .tup (nums p)) p [] FUEL v w none h (by unfold FUEL; omega)
  exact c_ret rfl rfl (s_seq (s_for (i_itV (r_loc rfl) rfl) e) (s_seq_ret (s_ret (r_loc rfl))))
def put : List Nat → MV → MV → MV
  | [], _, new => new
  | j :: p, .tup xs, new => .tup (xs.take j ++ put p (xs.getD j .non) new :: xs.drop (j + 1))
  | _ :: _, v, _ => v
theorem nums_dat {g : MH} (p : List Nat) : toD 66 g (.tup (nums p)) = some (.tuple (p.map fun (j : Nat) => PyData.int (j : Int))) := by
  show ((nums p).mapM (toD 65 g)).map PyData.tuple = _
  rw [mapM_some (h := dat) (nums p) fun x hx => by obtain ⟨j, _, rfl⟩ := List.mem_map.mp hx; rfl, List.map_map]
  have e : (dat ∘ fun (j : Nat) => MV.int (j : Int)) = fun (j : Nat) => PyData.int (j : Int) := funext fun j => by simp [dat]
  rw [e]
  rfl
theorem eq_nil_path {g : MH} (p : List Nat) : cmpV .eq g (.tup (nums p)) (.tup []) = some (decide (p = [])) := by
  show eqV g (.tup (nums p)) (.tup []) = _
  unfold eqV
  simp only [scEq]
  rw [nums_dat, show toD 66 g (.tup []) = some (.tuple []) from rfl]
  have s1 : PySem.SeqAt.shaped (.tuple (p.map fun (j : Nat) => PyData.int (j : Int))) = true := by
    unfold PySem.SeqAt.shaped
    rw [Bool.and_eq_true]
    refine ⟨?_, decide_eq_true ?_⟩
    · rw [PyData.canLay0]
      exact canLayAll_map p fun x _ => by simp [PyData.canLay0]
    · rw [PyData.depth]
      have := depthAll_map (f := fun (j : Nat) => PyData.int (j : Int)) (b := 0) p fun x _ => by simp [PyData.depth]
      omega
  have s2 : PySem.SeqAt.shaped (.tuple []) = true := by decide
  simp only []
  rw [s1, s2]
  cases p with
  | nil => simp [PyData.eqv, PyData.eqvAll]
  | cons j p => simp [PyData.eqv, PyData.eqvAll]
theorem cut_take {α : Type} {xs : List α} {j : Nat} (h : j ≤ xs.length) : cut xs none (some (j : Int)) = xs.take j := by
  simp only [cut, sIx]
  rw [if_neg (by omega)]
  simp [Nat.min_eq_left h]
theorem cut_drop {α : Type} {xs : List α} {j : Nat} (h : j ≤ xs.length) : cut xs (some (j : Int)) none = xs.drop j := by
  simp only [cut, sIx]
  rw [if_neg (by omega)]
  simp only [Int.toNat_natCast, Nat.min_eq_left h]
  exact List.take_of_length_le (by rw [List.length_drop]; omega)
theorem addT {xs ys : List MV} (h : xs.length + ys.length ≤ SZ) : binV .add (.tup xs) (.tup ys) = some (.tup (xs ++ ys)) := by
  simp only [binV]
  rw [if_pos h]
theorem with_part {g : MH} {new w : MV} : ∀ (p : List Nat) (k : Nat) (v : MV), p.length ≤ k → At p v w → wt v ≤ 100000 → callF T (k + 1) f_l_with_part [v, .tup (nums p), new] g = .ok (put p v new) g
  | [], k, v, hk, h, hv => c_ret rfl rfl (s_seq_ret (s_ife_t (t_cmp (r_loc rfl) (r_tup r_nil (by decide)) (eq_nil_path [])) (s_seq_ret (s_ret (r_loc rfl)))))
  | j :: p, k, v, hk, ⟨xs, x, h1, h2, h3⟩, hv => by
    subst h1
    have hk : p.length + 1 ≤ k := hk
    obtain ⟨k, rfl⟩ : ∃ m, k = m + 1 := ⟨k - 1, by omega⟩
    have hj := lt_of h2
    have hw := wts_len xs
    have hg := wts_get h2
    rw [wt] at hv
    have ih := with_part (g := g) (new := new) p k x (by omega) h3 (by omega)
    have e0 : idxV g (.tup (nums (j :: p))) (.int 0) = some (.int (j : Int)) := atI_pos (j := 0) rfl
    have e1 : slV (.tup xs) none (some (j : Int)) = some (.tup (xs.take j)) := congrArg some (congrArg MV.tup (cut_take (by omega)))
    have e2 : slV (.tup (nums (j :: p))) (some 1) none = some (.tup (nums p)) := congrArg some (congrArg MV.tup (cut_drop (j := 1) (by rw [nums_len]; simp)))
    have e3 : slV (.tup xs) (some ((j : Int) + 1)) none = some (.tup (xs.drop (j + 1))) := congrArg some (congrArg MV.tup (cut_drop (j := j + 1) (by omega)))
    have e4 : idxV g (.tup xs) (.int (j : Int)) = some x := atI_pos h2
    have l1 : (xs.take j).length = j := by rw [List.length_take]; omega
    have l2 : (xs.drop (j + 1)).length = xs.length - (j + 1) := List.length_drop
    have e5 := addT (xs := xs.take j) (ys := [put p x new]) (by rw [l1]; show j + 1 ≤ 16777216; omega)
    have e6 := addT (xs := xs.take j ++ [put p x new]) (ys := xs.drop (j + 1)) (by rw [List.length_append, l1, l2]; show j + 1 + _ ≤ 16777216; omega)
    have ed : xs.getD j .non = x := by rw [List.getD_eq_getElem?_getD, h2]; rfl
    rw [List.append_assoc] at e6
    have hput : put (j :: p) (.tup xs) new = .tup (xs.take j ++ ([put p x new] ++ xs.drop (j + 1))) := by rw [put, ed]; rfl
    rw [hput]
    exact c_ret rfl rfl (s_seq (s_ife_f (t_cmp (r_loc rfl) (r_tup r_nil (by decide)) (eq_nil_path (j :: p))) s_nil) (s_seq (s_set (r_idx (r_loc rfl) r_cst e0)) (s_seq_ret (s_ret (r_bin (r_bin (r_sl (r_loc rfl) r_o_nil (r_o (r_loc rfl)) e1)
      (r_tup (r_cons (r_call (r_cons (r_idx (r_loc rfl) (r_loc rfl) e4) (r_cons (r_sl (r_loc rfl) (r_o r_cst) r_o_nil e2) (r_cons (r_loc rfl) r_nil))) ih) r_nil) (by show 1 ≤ SZ; decide)) e5) (r_sl (r_loc rfl) (r_o (r_bin (r_loc rfl) r_cst rfl)) r_o_nil e3) e6)))))
theorem put_wt : ∀ {p : List Nat} {v w new : MV}, At p v w → wt (put p v new) ≤ wt v + wt new
  | [], v, w, new, h => by rw [put]; omega
  | j :: p, v, w, new, ⟨xs, x, h1, h2, h3⟩ => by
    subst h1
    have ih := put_wt (new := new) h3
    have ed : xs.getD j .non = x := by rw [List.getD_eq_getElem?_getD, h2]; rfl
    have hx : xs = xs.take j ++ x :: xs.drop (j + 1) := by
      have hj := lt_of h2
      have e := (List.getElem?_eq_some_iff.mp h2).2
      rw [← e, ← List.drop_eq_getElem_cons hj, List.take_append_drop]
    rw [put, ed, wt, wt, wts_append, wts]
    have : wts xs = wts (xs.take j) + (wt x + 1 + wts (xs.drop (j + 1))) := by
      conv => lhs; rw [hx]
      rw [wts_append, wts]
    omega
theorem put_wf {g : MH} : ∀ {p : List Nat} {v w new : MV}, At p v w → Wf g v → Wf g new → Wf g (put p v new)
  | [], v, w, new, h, hv, hn => hn
  | j :: p, v, w, new, ⟨xs, x, h1, h2, h3⟩, hv, hn => by
    subst h1
    have hj := lt_of h2
    have ed : xs.getD j .non = x := by rw [List.getD_eq_getElem?_getD, h2]; rfl
    cases hv with
    | tup _ hl hx =>
      have ih := put_wf h3 (hx x (List.mem_of_getElem? h2)) hn
      rw [put, ed]
      refine .tup _ ?_ fun y hy => ?_
      · rw [List.length_append, List.length_cons, List.length_take, List.length_drop]
        omega
      · rcases List.mem_append.mp hy with hy | hy
        · exact hx y (List.mem_of_mem_take hy)
        · rcases List.mem_cons.mp hy with rfl | hy
          · exact ih
          · exact hx y (List.mem_of_mem_drop hy)
end K88
end
section
set_option Elab.async false
set_option linter.all false
set_option autoImplicit false
set_option maxRecDepth 100000
set_option maxHeartbeats 2000000
namespace K88
open PySem (Str PyData)
open MP
/-! ### the paths of a value -/
theorem loopC_item {I : MIt} {ys : List MV} (h : ∀ i g, I.item i g = some ys[i]?) {asg : MV → Option MSt} {c : MSt → M Bool} {e : MSt → M MV} : ∀ (n i : Nat) (acc : List MV) (g : MH), loopC I asg c e n i acc g = loopC (.seq ys) asg c e n i acc g
  | 0, _, _, _ => rfl
  | n + 1, i, acc, g => by
    unfold loopC
    rw [h, show (MIt.seq ys).item i g = some ys[i]? from rfl]
    cases ys[i]? with
    | none => rfl
    | some v =>
      simp only []
      cases asg v with
      | none => rfl
      | some ρ =>
        simp only []
        cases c ρ g with
        | ok b g1 =>
          cases b with
          | true =>
            simp only []
            cases e ρ g1 with
            | ok y g2 =>
              simp only []
              split
              · exact loopC_item h n (i + 1) _ g2
              · rfl
            | _ => rfl
          | false => exact loopC_item h n (i + 1) _ g1
        | _ => rfl
def en (xs : List MV) : List MV := xs.mapIdx fun i v => .tup [.int (i : Int), v]
theorem en_item (xs : List MV) (i : Nat) (g : MH) : (MIt.enum (.seq xs)).item i g = some (en xs)[i]? := by
  simp only [MIt.item, en]
  rw [List.getElem?_mapIdx]
  rfl
theorem en_mem {xs : List MV} {y : MV} (h : y ∈ en xs) : ∃ (j : Nat) (v : MV), xs[j]? = some v ∧ y = .tup [.int (j : Int), v] := by
  obtain ⟨j, hj⟩ := List.mem_iff_getElem?.mp h
  unfold en at hj
  rw [List.getElem?_mapIdx] at hj
  cases e : xs[j]? with
  | none => rw [e] at hj; cases hj
  | some v =>
    rw [e] at hj
    cases hj
    exact ⟨j, v, e, rfl⟩
def longer (p : List MV) : MV → MV
  | .tup [i, v] => .tup [.tup (p ++ [i]), v]
  | y => y
theorem inst_t {g : MH} {n : Nat} {v : MV} (h : plainB n v = true) : bi1V (.inst .tuple) g v = some (.bl (isT v)) := by
  cases v <;> first | rfl | exact absurd h (by cases n <;> simp [plainB, leafB])
abbrev pathB : XS := (.seq (.setT (.tup (.cons (.nm 4) (.cons (.nm 5) .nil))) (.pop (.loc 3)))
    (.seq (.ex (.app (.loc 2) (.loc 4)))
    (.seq (.ife (.bi1 (.inst .tuple) (.loc 5)) (.seq (.ex (.ext (.loc 3) (.comp [6, 7] (.tup (.cons (.nm 6) (.cons (.nm 7) .nil))) (.enum (.loc 5)) .nil (.tup (.cons (.bin .add (.loc 4) (.tup (.cons (.loc 6) .nil))) (.cons (.loc 7) .nil))))))
    .nil) .nil)
    .nil)))
abbrev pathC : X := (.and_ (.eqNil true (.loc 3)) (.cmp .lt (.bi1 .len (.loc 2)) (.loc 1)))
structure PI (thing : MV) (g0 g : MH) (F L : Nat) (fnd line : List MV) : Prop where
  f : g[F]? = some (.lst fnd)
  l : g[L]? = some (.lst line)
  ne : F ≠ L
  hF : g0.length ≤ F
  hL : g0.length ≤ L
  ext : Ext g0 g
  pf : ∀ y ∈ fnd, ∃ p w, y = .tup (nums p) ∧ At p thing w
  pl : ∀ y ∈ line, ∃ p w, y = .tup [.tup (nums p), w] ∧ At p thing w
  n : fnd.length ≤ 90
  m : line.length ≤ 1 + fnd.length * 100000
  o : fnd ≠ [] ∨ line ≠ []
theorem Ext.set {g0 g : MH} {l : Nat} {o : MO} (h : Ext g0 g) (hl : g0.length ≤ l) : Ext g0 (g.set l o) := ⟨by rw [List.length_set]; exact h.le, fun i hi => by rw [List.getElem?_set_ne (by omega)]; exact h.keep i hi⟩
theorem path_lap {thing : MV} {g0 g : MH} {F L : Nat} {fnd line : List MV} {k : Nat} {x4 x5 x6 x7 : Option MV} (I : PI thing g0 g F L fnd line) (hp : plainB 60 thing = true) (hw : wt thing ≤ 100000) (hne : line ≠ []) (hn : fnd.length < 90) :
    ∃ g' fnd' line' y4 y5, exS (Ek T k) pathB [some thing, some (.int 90), some (.loc F), some (.loc L), x4, x5, x6, x7] g = .ok (.next [some thing, some (.int 90), some (.loc F), some (.loc L), y4, y5, x6, x7]) g' ∧ PI thing g0 g' F L fnd' line' ∧ fnd'.length = fnd.length + 1 := by
  obtain ⟨init, y, rfl⟩ : ∃ init y, line = init ++ [y] := ⟨line.dropLast, line.getLast hne, (List.dropLast_concat_getLast hne).symm⟩
  obtain ⟨p, w, rfl, ha⟩ := I.pl y (by simp)
  obtain ⟨hp1, hp2⟩ := ha.plain hp
  have hF := lt_of I.f
  have hL := lt_of I.l
  have e1 : popV (.loc L) g = .ok (.tup [.tup (nums p), w]) (g.set L (.lst init)) := by
    simp only [popV, I.l]
    simp
  obtain ⟨g1, eg1⟩ : ∃ g1, g1 = g.set L (.lst init) := ⟨_, rfl⟩
  rw [← eg1] at e1
  have f1 : g1[F]? = some (.lst fnd) := by rw [eg1, List.getElem?_set_ne (Ne.symm I.ne)]; exact I.f
  have l1 : g1[L]? = some (.lst init) := by rw [eg1, List.getElem?_set_self hL]
  have x1 : Ext g0 g1 := by rw [eg1]; exact I.ext.set I.hL
  have e2 : appV (.loc F) (.tup (nums p)) g1 = some (g1.set F (.lst (fnd ++ [.tup (nums p)]))) := by
    simp only [appV, f1]
    rw [if_pos (by show _ < 16777216; omega)]
  obtain ⟨g2, eg2⟩ : ∃ g2, g2 = g1.set F (.lst (fnd ++ [.tup (nums p)])) := ⟨_, rfl⟩
  rw [← eg2] at e2
  have f2 : g2[F]? = some (.lst (fnd ++ [.tup (nums p)])) := by rw [eg2, List.getElem?_set_self (lt_of f1)]
  have l2 : g2[L]? = some (.lst init) := by rw [eg2, List.getElem?_set_ne I.ne]; exact l1
  have x2 : Ext g0 g2 := by rw [eg2]; exact x1.set I.hF
  have ls1 : lstAt g1 (.loc F) = some fnd := by simp only [lstAt, f1]
  have ls2 : lstAt g2 (.loc L) = some init := by simp only [lstAt, l2]
  have pf2 : ∀ y ∈ fnd ++ [MV.tup (nums p)], ∃ p w, y = .tup (nums p) ∧ At p thing w := fun y hy => by
    rcases List.mem_append.mp hy with hy | hy
    · exact I.pf y hy
    · exact ⟨p, w, List.mem_singleton.mp hy, ha⟩
  have pl2 : ∀ y ∈ init, ∃ p w, y = .tup [.tup (nums p), w] ∧ At p thing w := fun y hy => I.pl y (List.mem_append_left _ hy)
  have hm := I.m
  rw [List.length_append, List.length_singleton] at hm
  cases ht : isT w with
  | false =>
    have hb := inst_t (g := g2) hp2
    rw [ht] at hb
    refine ⟨g2, fnd ++ [.tup (nums p)], init, some (.tup (nums p)), some w, s_seq (s_setT (r_pop (r_loc rfl) e1) rfl) (s_seq (s_ex (r_app (r_loc rfl) ls1 (r_loc rfl) e2)) (s_seq (s_ife_f (t_bi1 (r_loc rfl) hb rfl) s_nil) s_nil)), ?_, by simp⟩
    exact ⟨f2, l2, I.ne, I.hF, I.hL, x2, pf2, pl2, by simp; omega, by simp; omega, .inl (by simp)⟩
  | true =>
    have hb := inst_t (g := g2) hp2
    rw [ht] at hb
    cases w with
    | tup xs =>
      have hxs : xs.length ≤ 100000 := by
        have h1 := ha.wt
        have h2 := wts_len xs
        rw [wt] at h1
        omega
      have hen : (en xs).length = xs.length := List.length_mapIdx
      have q : evL (Ek T k) (.comp [6, 7] (.tup (.cons (.nm 6) (.cons (.nm 7) .nil))) (.enum (.loc 5)) .nil (.tup (.cons (.bin .add (.loc 4) (.tup (.cons (.loc 6) .nil))) (.cons (.loc 7) .nil)))) [some thing, some (.int 90), some (.loc F), some (.loc L), some (.tup (nums p)), some (.tup xs), x6, x7] g2 = .ok ((en xs).map (longer (nums p))) g2 := by
        refine l_comp0 (i_enum (r_loc rfl)) ((loopC_item (en_item xs) FUEL 0 [] g2).trans (loopC_map ?_ (by rw [hen]; show _ ≤ 16777216; omega)))
        intro y hy
        obtain ⟨j, v, _, rfl⟩ := en_mem hy
        exact ⟨_, rfl, rfl, r_tup (r_cons (r_bin (r_loc rfl) (r_tup (r_cons (r_loc rfl) r_nil) (by show 1 ≤ SZ; decide)) (addT (by rw [nums_len]; show _ + 1 ≤ 16777216; omega))) (r_cons (r_loc rfl) r_nil)) (by show 2 ≤ SZ; decide)⟩
      have hl3 : ((en xs).map (longer (nums p))).length = xs.length := by rw [List.length_map, hen]
      have e3 : extV (.loc L) ((en xs).map (longer (nums p))) g2 = some (g2.set L (.lst (init ++ (en xs).map (longer (nums p))))) := by
        simp only [extV, l2]
        rw [if_pos (by rw [hl3]; show _ ≤ 16777216; omega)]
      refine ⟨_, _, init ++ (en xs).map (longer (nums p)), some (.tup (nums p)), some (.tup xs), s_seq (s_setT (r_pop (r_loc rfl) e1) rfl) (s_seq (s_ex (r_app (r_loc rfl) ls1 (r_loc rfl) e2)) (s_seq (s_ife_t (t_bi1 (r_loc rfl) hb rfl) (s_seq (s_ex (r_ext (r_loc rfl) ls2 q e3)) s_nil)) s_nil)), ?_, (by simp : (fnd ++ [MV.tup (nums p)]).length = _)⟩
      refine ⟨by rw [List.getElem?_set_ne (Ne.symm I.ne)]; exact f2, by rw [List.getElem?_set_self (lt_of l2)], I.ne, I.hF, I.hL, x2.set I.hL, pf2, fun y hy => ?_, by simp; omega, by rw [List.length_append, hl3, List.length_append, List.length_singleton]; omega, .inl (by simp)⟩
      rcases List.mem_append.mp hy with hy | hy
      · exact pl2 y hy
      · obtain ⟨z, hz, rfl⟩ := List.mem_map.mp hy
        obtain ⟨j, v, hj, rfl⟩ := en_mem hz
        refine ⟨p ++ [j], v, ?_, ha.snoc hj⟩
        show MV.tup [.tup (nums p ++ [.int (j : Int)]), v] = _
        unfold nums
        rw [List.map_append]
        rfl
    | _ => exact absurd ht (by simp [isT])
theorem path_loop {thing : MV} {g0 : MH} {F L : Nat} {k : Nat} (hp : plainB 60 thing = true) (hw : wt thing ≤ 100000) : ∀ (N : Nat) (g : MH) (fnd line : List MV) (x4 x5 x6 x7 : Option MV), 90 - fnd.length < N → PI thing g0 g F L fnd line →
    ∃ g' fnd' line' y4 y5, loopW (fun r => evT (Ek T k) pathC r) (fun r g => exS (Ek T k) pathB r g) N [some thing, some (.int 90), some (.loc F), some (.loc L), x4, x5, x6, x7] g = .ok (.next [some thing, some (.int 90), some (.loc F), some (.loc L), y4, y5, x6, x7]) g' ∧ PI thing g0 g' F L fnd' line' ∧ fnd' ≠ [] := by
  intro N
  induction N with
  | zero => intro g fnd line x4 x5 x6 x7 h; omega
  | succ N ih =>
    intro g fnd line x4 x5 x6 x7 hN I
    have ls : lstAt g (.loc L) = some line := by simp only [lstAt, I.l]
    have el : bi1V .len g (.loc F) = some (.int (fnd.length : Int)) := by
      simp only [bi1V, lenOf, I.f]
      rfl
    cases line with
    | nil => exact ⟨g, fnd, [], x4, x5, w_stop (t_and_f (t_eqNil (r_loc rfl) ls rfl)), I, I.o.resolve_right (fun h => h rfl)⟩
    | cons y ys =>
      have t1 : evT (Ek T k) (.eqNil true (.loc 3)) [some thing, some (.int 90), some (.loc F), some (.loc L), x4, x5, x6, x7] g = .ok true g := t_eqNil (r_loc rfl) ls rfl
      by_cases hn : fnd.length < 90
      · obtain ⟨g1, fnd1, line1, y4, y5, e, I1, e1⟩ := path_lap (k := k) (x4 := x4) (x5 := x5) (x6 := x6) (x7 := x7) I hp hw (by simp) hn
        obtain ⟨g2, fnd2, line2, z4, z5, e2, I2, h2⟩ := ih g1 fnd1 line1 y4 y5 x6 x7 (by omega) I1
        exact ⟨g2, fnd2, line2, z4, z5, (w_next (t_and_t t1 (t_cmp (r_bi1 (r_loc rfl) el) (r_loc rfl) (by exact congrArg some (decide_eq_true (show (fnd.length : Int) < 90 by omega))))) e).trans e2, I2, h2⟩
      · exact ⟨g, fnd, _, x4, x5, w_stop (t_and_t t1 (t_cmp (r_bi1 (r_loc rfl) el) (r_loc rfl) (by exact congrArg some (decide_eq_false (show ¬ (fnd.length : Int) < 90 by omega))))), I, fun z => by rw [z] at hn; exact hn (by decide)⟩
theorem paths {g : MH} {thing : MV} (k : Nat) (hp : plainB 60 thing = true) (hw : wt thing ≤ 100000) : ∃ (l : Nat) (fnd : List MV) (g' : MH), callF T (k + 1) f_l_paths [thing, .int 90] g = .ok (.loc l) g' ∧ Ext g g' ∧ g'[l]? = some (.lst fnd) ∧ g.length ≤ l ∧ fnd ≠ [] ∧ fnd.length ≤ 90 ∧ ∀ y ∈ fnd, ∃ p w, y = .tup (nums p) ∧ At p thing w := by
  have I : PI thing g (g ++ [.lst []] ++ [.lst [.tup [.tup [], thing]]]) g.length (g ++ [MO.lst []]).length [] [.tup [.tup [], thing]] :=
    ⟨by rw [List.append_assoc, List.getElem?_append_right (Nat.le_refl _)]; simp, by rw [List.getElem?_append_right (Nat.le_refl _)]; simp, by simp, Nat.le_refl _, by simp, Ext.app.trans Ext.app, fun y hy => (by cases hy), fun y hy => ⟨[], thing, List.mem_singleton.mp hy, rfl⟩, by decide, by show 1 ≤ 1 + 0 * 100000; omega, .inr (by simp)⟩
  obtain ⟨g', fnd, line, y4, y5, e, I2, hne⟩ := path_loop (k := k) hp hw FUEL _ _ _ none none none none (by unfold FUEL; show 90 - 0 < _; omega) I
  refine ⟨_, fnd, g', c_ret rfl rfl (s_seq (s_par2 (r_cons (r_lst (l_disp r_nil (by decide))) (r_cons (r_lst (l_disp (r_cons (r_tup (r_cons (r_tup r_nil (by decide)) (r_cons (r_loc rfl) r_nil)) (by show 2 ≤ SZ; decide)) r_nil) (by show 1 ≤ SZ; decide))) r_nil))) (s_seq (s_whl e) (s_seq_ret (s_ret (r_loc rfl))))), I2.ext, I2.f, I2.hF, hne, I2.n, I2.pf⟩
end K88
end
section
set_option Elab.async false
set_option linter.all false
set_option autoImplicit false
set_option maxRecDepth 100000
set_option maxHeartbeats 4000000
namespace K88
open PySem (Str PyData)
open MP
/-! ### odd values -/
mutual
def clB : MV → Bool
  | .tup xs => decide (xs.length ≤ 1000) && clBs xs
  | .str x => decide (x.length ≤ 1000)
  | .non => true
  | .int _ => true
  | .bl _ => true
  | .loc _ => false
  | .frl _ => false
  | .fn _ => false
def clBs : List MV → Bool
  | [] => true
  | x :: xs => clB x && clBs xs
end
mutual
theorem clB_wf {g : MH} : ∀ v : MV, clB v = true → Wf g v
  | .tup xs, h => by
    rw [clB, Bool.and_eq_true] at h
    exact .tup _ (Nat.le_trans (of_decide_eq_true h.1) (by decide)) (clBs_wf xs h.2)
  | .str x, h => by
    rw [clB] at h
    exact .str _ (Nat.le_trans (of_decide_eq_true h) (by decide))
  | .non, _ => .non
  | .int i, _ => .int i
  | .bl b, _ => .bl b
  | .loc _, h => by simp [clB] at h
  | .frl _, h => by simp [clB] at h
  | .fn _, h => by simp [clB] at h
theorem clBs_wf {g : MH} : ∀ xs : List MV, clBs xs = true → ∀ x ∈ xs, Wf g x
  | [], _ => fun x hx => by cases hx
  | y :: ys, h => fun x hx => by
    rw [clBs, Bool.and_eq_true] at h
    rcases List.mem_cons.mp hx with e | hx
    · rw [e]
      exact clB_wf y h.1
    · exact clBs_wf ys h.2 x hx
end
def hdS : XS → XS
  | .seq s _ => s
  | x => x
def tlS : XS → XS
  | .seq _ r => r
  | x => x
abbrev o1 : XS := hdS b_l_odd
abbrev o2 : XS := hdS (tlS b_l_odd)
abbrev o3 : XS := hdS (tlS (tlS b_l_odd))
def Small (g : MH) (x : MV) : Prop := Wf g x ∧ wt x ≤ 1000
theorem Small.ext {g g' : MH} {x : MV} (h : Small g x) (e : Ext g g') : Small g' x := ⟨h.1.ext e, h.2⟩
theorem pow25 : binV .pow (.int 10) (.int 25) = some (.int (10 ^ 25)) := rfl
theorem at_a {α : Type} {g : List α} {a b c : α} : (g ++ [a] ++ [b] ++ [c])[g.length]? = some a := by
  rw [List.append_assoc, List.append_assoc, List.getElem?_append_right (Nat.le_refl _), Nat.sub_self]
  rfl
theorem at_b {α : Type} {g : List α} {a b c : α} : (g ++ [a] ++ [b] ++ [c])[(g ++ [a]).length]? = some b := by
  rw [List.append_assoc, List.getElem?_append_right (Nat.le_refl _), Nat.sub_self]
  rfl
theorem at_c {α : Type} {g : List α} {a b c : α} : (g ++ [a] ++ [b] ++ [c])[(g ++ [a] ++ [b]).length]? = some c := by
  rw [List.getElem?_append_right (Nat.le_refl _), Nat.sub_self]
  rfl
theorem odd1 {E : Ev} {g : MH} {B : Nat} : ∃ (xs : List MV) (g1 : MH), evL E (match o1 with | .set _ (.lstOf l) => l | _ => .nil) [some (.loc B), none] g = .ok xs g1 ∧ xs.length = 26 ∧ Ext g g1 ∧ ∀ x ∈ xs, Small g1 x := by
  refine ⟨?xs, ?g1, ?a, ?b, ?c, ?d⟩
  case a =>
    refine l_disp ?_ ?_
    · (repeat' first
    | exact r_cst | exact r_nil | exact r_o_nil | exact r_fnil | exact r_loc rfl | exact r_dnew | exact s_nil | exact s_brk | exact s_cont
    | refine r_cons ?_ ?_ | refine r_tup ?_ ?_ | refine r_bin ?_ ?_ ?_ | refine r_neg ?_ | refine r_not ?_ ?_ | refine r_cmp ?_ ?_ ?_ | refine r_isN ?_ | refine r_eqNil ?_ ?_ | refine r_eqNilL ?_
    | refine r_call ?_ ?_ | refine r_meth ?_ ?_ ?_ ?_ | refine r_fld ?_ ?_ | refine r_idx ?_ ?_ ?_ | refine r_o ?_ | refine r_sl ?_ ?_ ?_ ?_ | refine r_rev ?_ | refine r_bi1 ?_ ?_ | refine r_bi2 ?_ ?_ ?_
    | refine r_fcons ?_ ?_ ?_ | refine r_fstr ?_ | refine r_lst ?_ | refine r_tupL ?_ | refine r_allL ?_ ?_ | refine r_joinL ?_ ?_ ?_ ?_ | refine r_idxL ?_ ?_ ?_ | refine r_lenL ?_ | refine r_app ?_ ?_ ?_ ?_ | refine r_ext ?_ ?_ ?_ ?_ | refine r_pop ?_ ?_
    | refine t_cmp ?_ ?_ ?_ | refine t_isN ?_ ?_ | refine t_eqNil ?_ ?_ ?_ | refine t_eqNilL ?_ ?_ | refine t_loc rfl ?_ | refine t_cst ?_ | refine t_call ?_ ?_ ?_ | refine t_meth ?_ ?_ ?_ ?_ ?_ | refine t_fld ?_ ?_ ?_ | refine t_idx ?_ ?_ ?_ ?_ | refine t_bi1 ?_ ?_ ?_ | refine t_allL ?_ ?_ ?_
    | refine l_disp ?_ ?_ | refine l_catL ?_ ?_ ?_ | refine l_catV ?_ ?_ ?_ ?_ | refine l_slL ?_ ?_ ?_ ?_ | refine l_repL ?_ ?_ ?_ | refine l_ofV_t ?_ | refine l_comp0 ?_ ?_ | refine l_comp (by intro h; cases h) ?_ ?_
    | refine i_itV ?_ ?_ | refine i_itL ?_ | refine i_rng1 ?_ ?_ | refine i_enum ?_
    | refine s_set ?_ | refine s_setT ?_ ?_ | refine s_par2 ?_ | refine s_setF ?_ ?_ ?_ | refine s_setI ?_ ?_ ?_ ?_ | refine s_aug rfl ?_ ?_ | refine s_augI ?_ ?_ ?_ ?_ ?_ ?_ | refine s_ret ?_ | refine s_ex ?_ | refine s_raise ?_
    | rfl | decide)
    · show 26 ≤ 16777216
      decide
  case b => rfl
  case c => exact (Ext.app.trans Ext.app).trans Ext.app
  case d =>
    repeat' first
      | exact List.forall_mem_nil _
      | refine List.forall_mem_cons.mpr ⟨?_, ?_⟩
    all_goals first
      | exact ⟨clB_wf _ (by decide +kernel), by decide +kernel⟩
      | exact ⟨.lst _ _ at_a, by show 31 ≤ 1000; decide⟩
      | exact ⟨.lst _ _ at_b, by show 31 ≤ 1000; decide⟩
      | exact ⟨.dic _ _ at_c, by show 31 ≤ 1000; decide⟩
theorem odd2 {E : Ev} {g : MH} {ρ : MSt} : ∃ xs : List MV, evL E (match o2 with | .set _ (.lstOf (.catV _ l)) => l | _ => .nil) ρ g = .ok xs g ∧ xs.length = 6 ∧ ∀ x ∈ xs, Small g x := by
  refine ⟨?xs, ?a, ?b, ?d⟩
  case a =>
    refine l_disp ?_ ?_
    · (repeat' first
    | exact r_cst | exact r_nil | exact r_o_nil | exact r_fnil | exact r_loc rfl | exact r_dnew | exact s_nil | exact s_brk | exact s_cont
    | refine r_cons ?_ ?_ | refine r_tup ?_ ?_ | refine r_bin ?_ ?_ ?_ | refine r_neg ?_ | refine r_not ?_ ?_ | refine r_cmp ?_ ?_ ?_ | refine r_isN ?_ | refine r_eqNil ?_ ?_ | refine r_eqNilL ?_
    | refine r_call ?_ ?_ | refine r_meth ?_ ?_ ?_ ?_ | refine r_fld ?_ ?_ | refine r_idx ?_ ?_ ?_ | refine r_o ?_ | refine r_sl ?_ ?_ ?_ ?_ | refine r_rev ?_ | refine r_bi1 ?_ ?_ | refine r_bi2 ?_ ?_ ?_
    | refine r_fcons ?_ ?_ ?_ | refine r_fstr ?_ | refine r_lst ?_ | refine r_tupL ?_ | refine r_allL ?_ ?_ | refine r_joinL ?_ ?_ ?_ ?_ | refine r_idxL ?_ ?_ ?_ | refine r_lenL ?_ | refine r_app ?_ ?_ ?_ ?_ | refine r_ext ?_ ?_ ?_ ?_ | refine r_pop ?_ ?_
    | refine t_cmp ?_ ?_ ?_ | refine t_isN ?_ ?_ | refine t_eqNil ?_ ?_ ?_ | refine t_eqNilL ?_ ?_ | refine t_loc rfl ?_ | refine t_cst ?_ | refine t_call ?_ ?_ ?_ | refine t_meth ?_ ?_ ?_ ?_ ?_ | refine t_fld ?_ ?_ ?_ | refine t_idx ?_ ?_ ?_ ?_ | refine t_bi1 ?_ ?_ ?_ | refine t_allL ?_ ?_ ?_
    | refine l_disp ?_ ?_ | refine l_catL ?_ ?_ ?_ | refine l_catV ?_ ?_ ?_ ?_ | refine l_slL ?_ ?_ ?_ ?_ | refine l_repL ?_ ?_ ?_ | refine l_ofV_t ?_ | refine l_comp0 ?_ ?_ | refine l_comp (by intro h; cases h) ?_ ?_
    | refine i_itV ?_ ?_ | refine i_itL ?_ | refine i_rng1 ?_ ?_ | refine i_enum ?_
    | refine s_set ?_ | refine s_setT ?_ ?_ | refine s_par2 ?_ | refine s_setF ?_ ?_ ?_ | refine s_setI ?_ ?_ ?_ ?_ | refine s_aug rfl ?_ ?_ | refine s_augI ?_ ?_ ?_ ?_ ?_ ?_ | refine s_ret ?_ | refine s_ex ?_ | refine s_raise ?_
    | rfl | decide)
    · show 6 ≤ 16777216
      decide
  case b => rfl
  case d =>
    repeat' first
      | exact List.forall_mem_nil _
      | refine List.forall_mem_cons.mpr ⟨?_, ?_⟩
    all_goals exact ⟨clB_wf _ (by decide +kernel), by decide +kernel⟩
theorem odd3 {E : Ev} {g : MH} {ρ : MSt} : ∃ xs : List MV, evL E (match o3 with | .set _ (.lstOf (.catV _ l)) => l | _ => .nil) ρ g = .ok xs g ∧ xs.length = 4 ∧ ∀ x ∈ xs, Small g x := by
  refine ⟨?xs, ?a, ?b, ?d⟩
  case a =>
    refine l_disp ?_ ?_
    · (repeat' first
    | exact r_cst | exact r_nil | exact r_o_nil | exact r_fnil | exact r_loc rfl | exact r_dnew | exact s_nil | exact s_brk | exact s_cont
    | refine r_cons ?_ ?_ | refine r_tup ?_ ?_ | refine r_bin ?_ ?_ ?_ | refine r_neg ?_ | refine r_not ?_ ?_ | refine r_cmp ?_ ?_ ?_ | refine r_isN ?_ | refine r_eqNil ?_ ?_ | refine r_eqNilL ?_
    | refine r_call ?_ ?_ | refine r_meth ?_ ?_ ?_ ?_ | refine r_fld ?_ ?_ | refine r_idx ?_ ?_ ?_ | refine r_o ?_ | refine r_sl ?_ ?_ ?_ ?_ | refine r_rev ?_ | refine r_bi1 ?_ ?_ | refine r_bi2 ?_ ?_ ?_
    | refine r_fcons ?_ ?_ ?_ | refine r_fstr ?_ | refine r_lst ?_ | refine r_tupL ?_ | refine r_allL ?_ ?_ | refine r_joinL ?_ ?_ ?_ ?_ | refine r_idxL ?_ ?_ ?_ | refine r_lenL ?_ | refine r_app ?_ ?_ ?_ ?_ | refine r_ext ?_ ?_ ?_ ?_ | refine r_pop ?_ ?_
    | refine t_cmp ?_ ?_ ?_ | refine t_isN ?_ ?_ | refine t_eqNil ?_ ?_ ?_ | refine t_eqNilL ?_ ?_ | refine t_loc rfl ?_ | refine t_cst ?_ | refine t_call ?_ ?_ ?_ | refine t_meth ?_ ?_ ?_ ?_ ?_ | refine t_fld ?_ ?_ ?_ | refine t_idx ?_ ?_ ?_ ?_ | refine t_bi1 ?_ ?_ ?_ | refine t_allL ?_ ?_ ?_
    | refine l_disp ?_ ?_ | refine l_catL ?_ ?_ ?_ | refine l_catV ?_ ?_ ?_ ?_ | refine l_slL ?_ ?_ ?_ ?_ | refine l_repL ?_ ?_ ?_ | refine l_ofV_t ?_ | refine l_comp0 ?_ ?_ | refine l_comp (by intro h; cases h) ?_ ?_
    | refine i_itV ?_ ?_ | refine i_itL ?_ | refine i_rng1 ?_ ?_ | refine i_enum ?_
    | refine s_set ?_ | refine s_setT ?_ ?_ | refine s_par2 ?_ | refine s_setF ?_ ?_ ?_ | refine s_setI ?_ ?_ ?_ ?_ | refine s_aug rfl ?_ ?_ | refine s_augI ?_ ?_ ?_ ?_ ?_ ?_ | refine s_ret ?_ | refine s_ex ?_ | refine s_raise ?_
    | rfl | decide)
    · show 4 ≤ 16777216
      decide
  case b => rfl
  case d =>
    repeat' first
      | exact List.forall_mem_nil _
      | refine List.forall_mem_cons.mpr ⟨?_, ?_⟩
    all_goals exact ⟨clB_wf _ (by decide +kernel), by decide +kernel⟩
theorem at_new {g : MH} {o : MO} : (g ++ [o])[g.length]? = some o := by
  rw [List.getElem?_append_right (Nat.le_refl _), Nat.sub_self]
  rfl
theorem lst_new {g : MH} {xs : List MV} : lstAt (g ++ [.lst xs]) (.loc g.length) = some xs := by simp only [lstAt, at_new]
theorem odd {g : MH} {B : Nat} (k : Nat) (h : Bag B g) : ∃ x g', callF T (k + 3) f_l_odd [.loc B] g = .ok x g' ∧ Stp B g g' ∧ Small g' x := by
  obtain ⟨xs, g1, e1, n1, x1, s1⟩ := odd1 (E := Ek T (k + 2)) (g := g) (B := B)
  have t1 : exS (Ek T (k + 2)) o1 [some (.loc B), none] g = .ok (.next [some (.loc B), some (.loc g1.length)]) (g1 ++ [.lst xs]) := s_set (r_lst e1)
  obtain ⟨ys, e2, n2, s2⟩ := odd2 (E := Ek T (k + 2)) (g := g1 ++ [.lst xs]) (ρ := [some (.loc B), some (.loc g1.length)])
  obtain ⟨g2, eg2⟩ : ∃ g2, g2 = g1 ++ [.lst xs] := ⟨_, rfl⟩
  have l2 : lstAt g2 (.loc g1.length) = some xs := by rw [eg2]; exact lst_new
  have x2 : Ext g1 g2 := by rw [eg2]; exact Ext.app
  rw [← eg2] at t1 e2 s2
  have t2 : exS (Ek T (k + 2)) o2 [some (.loc B), some (.loc g1.length)] g2 = .ok (.next [some (.loc B), some (.loc g2.length)]) (g2 ++ [.lst (xs ++ ys)]) := s_set (r_lst (l_catV (r_loc rfl) e2 l2 (by rw [n1, n2]; decide)))
  obtain ⟨g3, eg3⟩ : ∃ g3, g3 = g2 ++ [.lst (xs ++ ys)] := ⟨_, rfl⟩
  have l3 : lstAt g3 (.loc g2.length) = some (xs ++ ys) := by rw [eg3]; exact lst_new
  have x3 : Ext g2 g3 := by rw [eg3]; exact Ext.app
  rw [← eg3] at t2
  obtain ⟨zs, e3, n3, s3⟩ := odd3 (E := Ek T (k + 2)) (g := g3) (ρ := [some (.loc B), some (.loc g2.length)])
  have t3 : exS (Ek T (k + 2)) o3 [some (.loc B), some (.loc g2.length)] g3 = .ok (.next [some (.loc B), some (.loc g3.length)]) (g3 ++ [.lst (xs ++ ys ++ zs)]) := s_set (r_lst (l_catV (r_loc rfl) e3 l3 (by rw [List.length_append, n1, n2, n3]; decide)))
  obtain ⟨g4, eg4⟩ : ∃ g4, g4 = g3 ++ [.lst (xs ++ ys ++ zs)] := ⟨_, rfl⟩
  have l4 : g4[g3.length]? = some (.lst (xs ++ ys ++ zs)) := by rw [eg4]; exact at_new
  have x4 : Ext g3 g4 := by rw [eg4]; exact Ext.app
  rw [← eg4] at t3
  have xx := ((x1.trans x2).trans x3).trans x4
  have hb := h.ext xx
  have hB := h.lt
  obtain ⟨x, hx, g5, e5, s5⟩ := some_ (l := g3.length) k hb l4 (by have := ((x1.trans x2).trans x3).le; omega) (fun z => by have := congrArg List.length z; rw [List.length_append, List.length_append, n1] at this; simp at this) (by rw [List.length_append, List.length_append, n1, n2, n3]; decide)
  refine ⟨x, g5, c_ret rfl rfl (s_seq t1 (s_seq t2 (s_seq t3 (s_seq_ret (s_ret (r_call (r_cons (r_loc rfl) (r_cons (r_loc rfl) r_nil)) e5)))))), (Stp.ext h xx).trans s5, ?_⟩
  have : Small g4 x := by
    rcases List.mem_append.mp hx with hx | hx
    · rcases List.mem_append.mp hx with hx | hx
      · exact (((s1 x hx).ext x2).ext x3).ext x4
      · exact ((s2 x hx).ext x3).ext x4
    · exact (s3 x hx).ext x4
  exact ⟨this.1.stp s5, this.2⟩
end K88
end
section
set_option Elab.async false
set_option linter.all false
set_option autoImplicit false
set_option maxRecDepth 100000
set_option maxHeartbeats 4000000
namespace K88
open PySem (Str PyData)
open MP
/-! ### spoilt values -/
theorem ne_nil {g : MH} {n : Nat} {xs : List MV} (hn : n ≤ 60) (h : plainB n (.tup xs) = true) : cmpV .ne g (.tup xs) (.tup []) = some (!xs.isEmpty) := by
  show (eqV g (.tup xs) (.tup [])).map (!·) = _
  unfold eqV
  simp only [scEq]
  rw [toD_plain n _ h 66 (by omega), show toD 66 g (.tup []) = some (.tuple []) from rfl]
  simp only []
  rw [shaped_plain (by omega) h, show PySem.SeqAt.shaped (.tuple []) = true from by decide, dat_tup]
  cases xs with
  | nil => simp [PyData.eqv, PyData.eqvAll]
  | cons x xs => simp [PyData.eqv, PyData.eqvAll]
theorem wts_cut (xs : List MV) (p q : Option Int) : wts (cut xs p q) ≤ wts xs := by
  unfold cut
  exact Nat.le_trans (wts_take _ _) (wts_drop _ _)
theorem mem_cut {α : Type} {xs : List α} {p q : Option Int} {x : α} (h : x ∈ cut xs p q) : x ∈ xs := List.mem_of_mem_drop (List.mem_of_mem_take h)
theorem Wf.sub {g : MH} {xs ys : List MV} (h : Wf g (.tup xs)) (hs : ∀ y ∈ ys, y ∈ xs) (hl : ys.length ≤ SZ) : Wf g (.tup ys) := by
  cases h with
  | tup _ _ hx => exact .tup _ hl fun y hy => hx y (hs y hy)
theorem strI_len {i : Int} (h0 : 0 ≤ i) (h1 : i < 10 ^ 30) : (strI i).length ≤ 30 := by
  obtain ⟨n, rfl⟩ := Int.eq_ofNat_of_zero_le h0
  have h := digs_len 29 n (by omega)
  rw [← strI_nat, Array.length_toList] at h
  exact h
theorem str_part {g : MH} {v : MV} (h : leafB v = true) : ∃ x, bi1V .str g v = some (.str x) ∧ x.length ≤ wt v := by
  cases v with
  | non => exact ⟨_, rfl, by decide⟩
  | str x => exact ⟨x, rfl, by rw [wt]; omega⟩
  | int i =>
    simp only [leafB, Bool.and_eq_true, decide_eq_true_eq] at h
    refine ⟨strI i, ?_, by have := strI_len h.1 h.2; rw [wt]; omega⟩
    simp only [bi1V]
    rw [if_pos (log_small h.1 h.2)]
  | _ => exact absurd h (by simp [leafB])
/-- what is put in the place of a part -/
structure New (B : Nat) (g g' : MH) (v : MV) : Prop where
  st : Stp B g g'
  wf : Wf g' v
  wt : wt v ≤ 5000
section
variable {B j : Nat} {g : MH} {thing w : MV} {p : List Nat} {d : Int}
abbrev rS (B : Nat) (thing : MV) (p : List Nat) (w : MV) (d : Int) : MSt := [some (.loc B), some thing, some (.tup (nums p)), some w, some (.int d)]
theorem draw_path (hb : Bag B g) (hp : plainB 60 thing = true) (hw : K88.wt thing ≤ 2000) {ρ : MSt} (r0 : getLoc ρ 0 = some (.loc B)) (r1 : getLoc ρ 1 = some thing) : ∃ p w g', evE (Ek T (j + 64)) (.call 16 (.cons (.loc 0) (.cons (.call 17 (.cons (.loc 1) (.cons (.cst (.int 90)) .nil))) .nil))) ρ g = .ok (.tup (nums p)) g' ∧ Stp B g g' ∧ At p thing w := by
  obtain ⟨l, fnd, g1, e1, x1, l1, h1, n1, n2, hf⟩ := paths (g := g) (j + 63) hp (by omega)
  have hB := hb.lt
  obtain ⟨x, hx, g2, e2, s2⟩ := some_ (j + 62) (hb.ext x1) l1 (by omega) n1 (by omega)
  obtain ⟨p, w, rfl, ha⟩ := hf x hx
  exact ⟨p, w, g2, r_call (r_cons (r_loc r0) (r_cons (r_call (r_cons (r_loc r1) (r_cons r_cst r_nil)) e1) r_nil)) e2, (Stp.ext hb x1).trans s2, ha⟩
theorem new_odd (hb : Bag B g) : ∃ v g', evE (Ek T (j + 64)) (.call 22 (.cons (.loc 0) .nil)) (rS B thing p w d) g = .ok v g' ∧ New B g g' v := by
  obtain ⟨x, g', e, s, h⟩ := odd (j + 61) hb
  exact ⟨x, g', r_call (r_cons (r_loc rfl) r_nil) e, s, h.1, Nat.le_trans h.2 (by decide)⟩
theorem new_part (hb : Bag B g) (hp : plainB 60 thing = true) (hw : K88.wt thing ≤ 2000) : ∃ v g', evE (Ek T (j + 64)) (.call 18 (.cons (.loc 1) (.cons (.call 16 (.cons (.loc 0) (.cons (.call 17 (.cons (.loc 1) (.cons (.cst (.int 90)) .nil))) .nil))) .nil))) (rS B thing p w d) g = .ok v g' ∧ New B g g' v := by
  obtain ⟨q, v, g', e, s, ha⟩ := draw_path (j := j) (g := g) hb hp hw (ρ := rS B thing p w d) rfl rfl
  have ⟨h1, h2⟩ := ha.plain hp
  have h3 := ha.wt
  refine ⟨v, g', r_call (r_cons (r_loc rfl) (r_cons e r_nil)) (part_of (j + 63) ha (by omega)), s, plain_wf 60 v h2 ?_, by omega⟩
  have := txt_wt 60 v h2
  show _ ≤ 16777216
  omega
theorem new_cut {xs : List MV} (hb : Bag B g) (hwf : Wf g (.tup xs)) (hw : K88.wt (.tup xs) ≤ 2000) : ∃ v g', evE (Ek T (j + 64)) (.ite (.cmp .eq (.loc 4) (.cst (.int 0))) (.sl (.loc 3) (.cons (.cst (.int 1)) .nil) .nil) (.ite (.cmp .eq (.loc 4) (.cst (.int 1))) (.sl (.loc 3) .nil (.cons (.neg (.cst (.int 1))) .nil)) (.rev (.loc 3)))) (rS B thing p (.tup xs) d) g = .ok v g' ∧ New B g g' v := by
  have hl := wts_len xs
  rw [K88.wt] at hw
  by_cases h0 : d = 0
  · refine ⟨.tup (cut xs (some 1) none), g, r_ite_t (t_cmp (r_loc rfl) r_cst (congrArg some (decide_eq_true h0))) (r_sl (r_loc rfl) (r_o r_cst) r_o_nil rfl), .refl hb, hwf.sub (fun y => mem_cut) ?_, ?_⟩
    · have := cut_len xs (some 1) none
      show _ ≤ 16777216
      omega
    · have := wts_cut xs (some 1) none
      rw [K88.wt]
      omega
  · by_cases h1 : d = 1
    · refine ⟨.tup (cut xs none (some (-1))), g, r_ite_f (t_cmp (r_loc rfl) r_cst (congrArg some (decide_eq_false h0))) (r_ite_t (t_cmp (r_loc rfl) r_cst (congrArg some (decide_eq_true h1))) (r_sl (r_loc rfl) r_o_nil (r_o (r_neg r_cst)) rfl)), .refl hb, hwf.sub (fun y => mem_cut) ?_, ?_⟩
      · have := cut_len xs none (some (-1))
        show _ ≤ 16777216
        omega
      · have := wts_cut xs none (some (-1))
        rw [K88.wt]
        omega
    · refine ⟨.tup xs.reverse, g, r_ite_f (t_cmp (r_loc rfl) r_cst (congrArg some (decide_eq_false h0))) (r_ite_f (t_cmp (r_loc rfl) r_cst (congrArg some (decide_eq_false h1))) (r_rev (r_loc rfl))), .refl hb, hwf.sub (fun y hy => List.mem_reverse.mp hy) ?_, ?_⟩
      · rw [List.length_reverse]
        show _ ≤ 16777216
        omega
      · rw [K88.wt, wts_reverse]
        omega
theorem new_cast (hb : Bag B g) (hp : plainB 60 w = true) (hw : K88.wt w ≤ 2000) : ∃ v g', evE (Ek T (j + 64)) (.ite (.bi1 (.inst .tuple) (.loc 3)) (.lstOf (.ofV (.loc 3))) (.bi1 .str (.loc 3))) (rS B thing p w d) g = .ok v g' ∧ New B g g' v := by
  have hi := inst_t (g := g) hp
  cases ht : isT w with
  | true =>
    rw [ht] at hi
    cases w with
    | tup xs => exact ⟨_, _, r_ite_t (t_bi1 (r_loc rfl) hi rfl) (r_lst (l_ofV_t (r_loc rfl))), .ext hb .app, .lst _ _ at_new, by show 31 ≤ 5000; decide⟩
    | _ => exact absurd ht (by simp [isT])
  | false =>
    rw [ht] at hi
    rw [plainB_leaf ht] at hp
    obtain ⟨x, ex, hx⟩ := str_part (g := g) hp
    exact ⟨_, g, r_ite_f (t_bi1 (r_loc rfl) hi rfl) (r_bi1 (r_loc rfl) ex), .refl hb, .str _ (by show _ ≤ 16777216; omega), by rw [K88.wt]; omega⟩
theorem new_twice {xs : List MV} (hb : Bag B g) (hwf : Wf g (.tup xs)) (hw : K88.wt (.tup xs) ≤ 2000) : ∃ v g', evE (Ek T (j + 64)) (.bin .add (.loc 3) (.sl (.loc 3) (.cons (.neg (.cst (.int 1))) .nil) .nil)) (rS B thing p (.tup xs) d) g = .ok v g' ∧ New B g g' v := by
  have hl := wts_len xs
  have hc := cut_len xs (some (-1)) none
  have hcw := wts_cut xs (some (-1)) none
  rw [K88.wt] at hw
  refine ⟨.tup (xs ++ cut xs (some (-1)) none), g, r_bin (r_loc rfl) (r_sl (r_loc rfl) (r_o (r_neg r_cst)) r_o_nil rfl) (addT (by show _ ≤ 16777216; omega)), .refl hb, hwf.sub (fun y hy => ?_) (by rw [List.length_append]; show _ ≤ 16777216; omega), by rw [K88.wt, wts_append]; omega⟩
  rcases List.mem_append.mp hy with hy | hy
  · exact hy
  · exact mem_cut hy
theorem new_near {i : Int} (hb : Bag B g) : ∃ v g', evE (Ek T (j + 64)) (.call 16 (.cons (.loc 0) (.cons (.lstOf (.disp (.cons (.bin .add (.loc 3) (.cst (.int 1))) (.cons (.bi2 .max (.cst (.int 0)) (.bin .sub (.loc 3) (.cst (.int 1)))) (.cons (.cst (.int 0)) (.cons (.cst (.int 1)) (.cons (.cmp .eq (.loc 3) (.cst (.int 1))) .nil))))))) .nil))) (rS B thing p (.int i) d) g = .ok v g' ∧ New B g g' v := by
  have hB := hb.lt
  obtain ⟨x, hx, g2, e2, s2⟩ := some_ (xs := [.int (i + 1), .int (if i - 1 > 0 then i - 1 else 0), .int 0, .int 1, .bl (decide (i = 1))]) (j + 62) (hb.ext .app) at_new (by omega) (by simp) (by show 5 < 1073741824; decide)
  refine ⟨x, g2, r_call (r_cons (r_loc rfl) (r_cons (r_lst (l_disp (r_cons (r_bin (r_loc rfl) r_cst rfl) (r_cons (r_bi2 r_cst (r_bin (r_loc rfl) r_cst rfl) rfl) (r_cons r_cst (r_cons r_cst (r_cons (r_cmp (r_loc rfl) r_cst rfl) r_nil))))) (by show 5 ≤ 16777216; decide))) r_nil)) e2, (Stp.ext hb .app).trans s2, ?_, ?_⟩
  · simp only [List.mem_cons, List.not_mem_nil, or_false] at hx
    rcases hx with rfl | rfl | rfl | rfl | rfl <;> first | exact .int _ | exact .bl _
  · simp only [List.mem_cons, List.not_mem_nil, or_false] at hx
    rcases hx with rfl | rfl | rfl | rfl | rfl <;> (show 31 ≤ 5000; decide)
end
theorem spoilt {g : MH} {B : Nat} {thing : MV} (j : Nat) (hb : Bag B g) (hp : plainB 60 thing = true) (hw : wt thing ≤ 2000) : ∃ r g', callF T (j + 65) f_l_spoilt [.loc B, thing] g = .ok r g' ∧ Stp B g g' ∧ Wf g' r ∧ wt r ≤ 8000 := by
  obtain ⟨p, w, g1, e1, s1, ha⟩ := draw_path (j := j) (g := g) hb hp hw (ρ := [some (.loc B), some thing, none, none, none]) rfl rfl
  obtain ⟨hpl, hpw⟩ := ha.plain hp
  have hww := ha.wt
  have e2 := part_of (g := g1) (j + 63) ha (by omega)
  obtain ⟨d, g2, d0, d1, e3, s3⟩ := take (m := 9) (j + 63) s1.bag (by decide) (by decide)
  have b2 := s3.bag
  have wft : ∀ g' : MH, Wf g' thing := fun g' => plain_wf 60 thing hp (by have := txt_wt 60 thing hp; show _ ≤ 16777216; omega)
  have wfw : Wf g2 w := plain_wf 60 w hpw (by have := txt_wt 60 w hpw; show _ ≤ 16777216; omega)
  have st1 : exS (Ek T (j + 64)) (.set 2 (.call 16 (.cons (.loc 0) (.cons (.call 17 (.cons (.loc 1) (.cons (.cst (.int 90)) .nil))) .nil)))) [some (.loc B), some thing, none, none, none] g = .ok (.next [some (.loc B), some thing, some (.tup (nums p)), none, none]) g1 := s_set e1
  have st2 : exS (Ek T (j + 64)) (.par2 3 4 (.cons (.call 18 (.cons (.loc 1) (.cons (.loc 2) .nil))) (.cons (.call 15 (.cons (.loc 0) (.cons (.cst (.int 9)) .nil))) .nil))) [some (.loc B), some thing, some (.tup (nums p)), none, none] g1 = .ok (.next (rS B thing p w d)) g2 :=
    s_par2 (r_cons (r_call (r_cons (r_loc rfl) (r_cons (r_loc rfl) r_nil)) e2) (r_cons (r_call (r_cons (r_loc rfl) (r_cons r_cst r_nil)) e3) r_nil))
  -- what any part put in its place gives
  have fin : ∀ {x : X}, (∃ v g', evE (Ek T (j + 64)) x (rS B thing p w d) g2 = .ok v g' ∧ New B g2 g' v) → ∃ r g', evE (Ek T (j + 64)) (.call 19 (.cons (.loc 1) (.cons (.loc 2) (.cons x .nil)))) (rS B thing p w d) g2 = .ok r g' ∧ Stp B g g' ∧ Wf g' r ∧ wt r ≤ 8000 := by
    rintro x ⟨v, g', e, n⟩
    have h1 := put_wt (new := v) ha
    have h2 := n.wt
    exact ⟨_, g', r_call (r_cons (r_loc rfl) (r_cons (r_loc rfl) (r_cons e r_nil))) (with_part p (j + 63) thing (by omega) ha (by omega)), (s1.trans s3).trans n.st, put_wf ha (wft g') n.wf, by omega⟩
  have go : ∀ {x : XS}, (∃ r g', exS (Ek T (j + 64)) x (rS B thing p w d) g2 = .ok (.ret r) g' ∧ Stp B g g' ∧ Wf g' r ∧ wt r ≤ 8000) → ∃ r g', exS (Ek T (j + 64)) (.seq (.set 2 (.call 16 (.cons (.loc 0) (.cons (.call 17 (.cons (.loc 1) (.cons (.cst (.int 90)) .nil))) .nil)))) (.seq (.par2 3 4 (.cons (.call 18 (.cons (.loc 1) (.cons (.loc 2) .nil))) (.cons (.call 15 (.cons (.loc 0) (.cons (.cst (.int 9)) .nil))) .nil))) x)) [some (.loc B), some thing, none, none, none] g = .ok (.ret r) g' ∧ Stp B g g' ∧ Wf g' r ∧ wt r ≤ 8000 := by
    rintro x ⟨r, g', e, h⟩
    exact ⟨r, g', s_seq st1 (s_seq st2 e), h⟩
  have yes : ∀ {c x : X} {y : XS}, evT (Ek T (j + 64)) c (rS B thing p w d) g2 = .ok true g2 → (∃ r g', evE (Ek T (j + 64)) x (rS B thing p w d) g2 = .ok r g' ∧ Stp B g g' ∧ Wf g' r ∧ wt r ≤ 8000) → ∃ r g', exS (Ek T (j + 64)) (.seq (.ife c (.seq (.ret x) .nil) .nil) y) (rS B thing p w d) g2 = .ok (.ret r) g' ∧ Stp B g g' ∧ Wf g' r ∧ wt r ≤ 8000 := by
    rintro c x y hc ⟨r, g', e, h⟩
    exact ⟨r, g', s_seq_ret (s_ife_t hc (s_seq_ret (s_ret e))), h⟩
  have no : ∀ {c x : X} {y : XS}, evT (Ek T (j + 64)) c (rS B thing p w d) g2 = .ok false g2 → (∃ r g', exS (Ek T (j + 64)) y (rS B thing p w d) g2 = .ok (.ret r) g' ∧ Stp B g g' ∧ Wf g' r ∧ wt r ≤ 8000) → ∃ r g', exS (Ek T (j + 64)) (.seq (.ife c (.seq (.ret x) .nil) .nil) y) (rS B thing p w d) g2 = .ok (.ret r) g' ∧ Stp B g g' ∧ Wf g' r ∧ wt r ≤ 8000 := by
    rintro c x y hc ⟨r, g', e, h⟩
    exact ⟨r, g', s_seq (s_ife_f hc s_nil) e, h⟩
  have hi := inst_t (g := g2) hpw
  have cmp : ∀ (n : Int) (b : Bool), decide (d = n) = b → evT (Ek T (j + 64)) (.cmp .eq (.loc 4) (.cst (.int n))) (rS B thing p w d) g2 = .ok b g2 := fun n b hb => t_cmp (r_loc rfl) r_cst (congrArg some hb)
  have c1 : (∃ xs, w = .tup xs ∧ evT (Ek T (j + 64)) (.and_ (.bi1 (.inst .tuple) (.loc 3)) (.and_ (.cmp .lt (.loc 4) (.cst (.int 3))) (.cmp .ne (.loc 3) (.tup .nil)))) (rS B thing p w d) g2 = .ok true g2) ∨ evT (Ek T (j + 64)) (.and_ (.bi1 (.inst .tuple) (.loc 3)) (.and_ (.cmp .lt (.loc 4) (.cst (.int 3))) (.cmp .ne (.loc 3) (.tup .nil)))) (rS B thing p w d) g2 = .ok false g2 := by
    cases ht : isT w with
    | false =>
      rw [ht] at hi
      exact .inr (t_and_f (t_bi1 (r_loc rfl) hi rfl))
    | true =>
      rw [ht] at hi
      cases w with
      | tup xs =>
        have hne := ne_nil (g := g2) (n := 60) (by decide) hpw
        by_cases hd : d < 3
        · cases he : xs.isEmpty with
          | true =>
            rw [he] at hne
            exact .inr (t_and_t (t_bi1 (r_loc rfl) hi rfl) (t_and_t (t_cmp (r_loc rfl) r_cst (congrArg some (decide_eq_true hd))) (t_cmp (r_loc rfl) (r_tup r_nil (by decide)) hne)))
          | false =>
            rw [he] at hne
            exact .inl ⟨xs, rfl, t_and_t (t_bi1 (r_loc rfl) hi rfl) (t_and_t (t_cmp (r_loc rfl) r_cst (congrArg some (decide_eq_true hd))) (t_cmp (r_loc rfl) (r_tup r_nil (by decide)) hne))⟩
        · exact .inr (t_and_t (t_bi1 (r_loc rfl) hi rfl) (t_and_f (t_cmp (r_loc rfl) r_cst (congrArg some (decide_eq_false hd)))))
      | _ => exact absurd ht (by simp [isT])
  have c5 : (∃ xs, w = .tup xs ∧ evT (Ek T (j + 64)) (.and_ (.cmp .eq (.loc 4) (.cst (.int 5))) (.and_ (.bi1 (.inst .tuple) (.loc 3)) (.cmp .ne (.loc 3) (.tup .nil)))) (rS B thing p w d) g2 = .ok true g2) ∨ evT (Ek T (j + 64)) (.and_ (.cmp .eq (.loc 4) (.cst (.int 5))) (.and_ (.bi1 (.inst .tuple) (.loc 3)) (.cmp .ne (.loc 3) (.tup .nil)))) (rS B thing p w d) g2 = .ok false g2 := by
    by_cases hd : d = 5
    · cases ht : isT w with
      | false =>
        rw [ht] at hi
        exact .inr (t_and_t (cmp 5 true (decide_eq_true hd)) (t_and_f (t_bi1 (r_loc rfl) hi rfl)))
      | true =>
        rw [ht] at hi
        cases w with
        | tup xs =>
          have hne := ne_nil (g := g2) (n := 60) (by decide) hpw
          cases he : xs.isEmpty with
          | true =>
            rw [he] at hne
            exact .inr (t_and_t (cmp 5 true (decide_eq_true hd)) (t_and_t (t_bi1 (r_loc rfl) hi rfl) (t_cmp (r_loc rfl) (r_tup r_nil (by decide)) hne)))
          | false =>
            rw [he] at hne
            exact .inl ⟨xs, rfl, t_and_t (cmp 5 true (decide_eq_true hd)) (t_and_t (t_bi1 (r_loc rfl) hi rfl) (t_cmp (r_loc rfl) (r_tup r_nil (by decide)) hne))⟩
        | _ => exact absurd ht (by simp [isT])
    · exact .inr (t_and_f (cmp 5 false (decide_eq_false hd)))
  have hix := l_is_index (g := g2) (j + 63) wfw
  have c6 : (∃ i, w = .int i ∧ evT (Ek T (j + 64)) (.and_ (.cmp .gt (.loc 4) (.cst (.int 6))) (.call 21 (.cons (.loc 3) .nil))) (rS B thing p w d) g2 = .ok true g2) ∨ evT (Ek T (j + 64)) (.and_ (.cmp .gt (.loc 4) (.cst (.int 6))) (.call 21 (.cons (.loc 3) .nil))) (rS B thing p w d) g2 = .ok false g2 := by
    by_cases hd : 6 < d
    · cases he : isIdx w with
      | false =>
        rw [he] at hix
        exact .inr (t_and_t (t_cmp (r_loc rfl) r_cst (congrArg some (decide_eq_true hd))) (t_call (r_cons (r_loc rfl) r_nil) hix rfl))
      | true =>
        rw [he] at hix
        cases w with
        | int i => exact .inl ⟨i, rfl, t_and_t (t_cmp (r_loc rfl) r_cst (congrArg some (decide_eq_true hd))) (t_call (r_cons (r_loc rfl) r_nil) hix rfl)⟩
        | _ => exact absurd he (by simp [isIdx])
    · exact .inr (t_and_f (t_cmp (r_loc rfl) r_cst (congrArg some (decide_eq_false hd))))
  suffices h : ∃ r g', exS (Ek T (j + 64)) b_l_spoilt [some (.loc B), some thing, none, none, none] g = .ok (.ret r) g' ∧ Stp B g g' ∧ Wf g' r ∧ wt r ≤ 8000 by
    obtain ⟨r, g', e, h⟩ := h
    exact ⟨r, g', c_ret rfl rfl e, h⟩
  refine go ?_
  rcases c1 with ⟨xs, rfl, t1⟩ | t1
  · exact yes t1 (fin (new_cut b2 wfw (by omega)))
  refine no t1 ?_
  by_cases h3 : d = 3
  · exact yes (cmp 3 true (decide_eq_true h3)) (fin (new_part b2 hp hw))
  refine no (cmp 3 false (decide_eq_false h3)) ?_
  by_cases h4 : d = 4
  · exact yes (cmp 4 true (decide_eq_true h4)) (fin (new_cast b2 hpw (by omega)))
  refine no (cmp 4 false (decide_eq_false h4)) ?_
  rcases c5 with ⟨xs, rfl, t5⟩ | t5
  · exact yes t5 (fin (new_twice b2 wfw (by omega)))
  refine no t5 ?_
  rcases c6 with ⟨i, rfl, t6⟩ | t6
  · exact yes t6 (fin (new_near b2))
  refine no t6 ?_
  obtain ⟨r, g', e, h⟩ := fin (new_odd b2)
  exact ⟨r, g', s_seq_ret (s_ret e), h⟩
end K88
end
section
set_option Elab.async false
set_option linter.all false
set_option autoImplicit false
set_option maxRecDepth 100000
set_option maxHeartbeats 4000000
namespace K88
open PySem (Str PyData)
open MP
/-! ### drawn values -/
def cnt (v : MV) : Nat := (txt v).count 40
theorem joinSp_cnt : ∀ ls : List (List Nat), (joinSp ls).count 40 = (ls.map (List.count 40)).sum
  | [] => rfl
  | [x] => by simp [joinSp]
  | x :: y :: r => by
    rw [joinSp, List.count_append, List.count_cons_of_ne (by decide), joinSp_cnt (y :: r)]
    simp only [List.map_cons, List.sum_cons]
theorem cnt_tup (xs : List MV) : cnt (.tup xs) = 1 + (xs.map cnt).sum := by
  unfold cnt
  rw [txt_tup, List.count_cons_self, List.count_append, joinSp_cnt, List.map_map, show List.count 40 [41] = 0 from rfl]
  show (xs.map (List.count 40 ∘ txt)).sum + 0 + 1 = _
  rw [Nat.add_zero, Nat.add_comm]
  rfl
theorem cnt_leaf {v : MV} (h : leafB v = true) : cnt v = 0 := by
  unfold cnt
  rw [List.count_eq_zero]
  exact fun hc => (nd_head (leaf_nd h 40 hc)).2.1 rfl
theorem cnt_depth : ∀ (n : Nat) (v : MV), plainB n v = true → plainB (cnt v) v = true := by
  intro n
  induction n with
  | zero => exact fun v h => plain_mono (Nat.zero_le _) (n := 0) h
  | succ n ih =>
    intro v h
    rcases plain_leaf_or h with ⟨_, hl⟩ | ⟨n', xs, hn, rfl, hx⟩
    · exact plain_mono (Nat.zero_le _) (n := 0) hl
    cases hn
    rw [cnt_tup, Nat.add_comm, plainB_tup, List.all_eq_true]
    exact fun x hxx => plain_mono (mem_sum (List.mem_map.mpr ⟨x, hxx, rfl⟩)) (ih x (hx x hxx))
theorem txt_low : ∀ (n : Nat) (v : MV), plainB n v = true → ∀ c ∈ txt v, c < 128 := by
  have leaf : ∀ v, leafB v = true → ∀ c ∈ txt v, c < 128 := fun v h c hc => by
    cases v with
    | non =>
      have : c = 45 := by simpa [txt] using hc
      omega
    | str x =>
      obtain ⟨⟨cs⟩⟩ := x
      rw [txt] at hc
      exact (word_ok h).2.1 c hc
    | int i =>
      simp only [leafB, Bool.and_eq_true, decide_eq_true_eq] at h
      obtain ⟨n, rfl⟩ := Int.eq_ofNat_of_zero_le h.1
      rw [txt, strI_nat] at hc
      have := digs_all n c hc
      omega
    | _ => exact absurd h (by simp [leafB])
  have join : ∀ ls : List (List Nat), (∀ l ∈ ls, ∀ c ∈ l, c < 128) → ∀ c ∈ joinSp ls, c < 128 := by
    intro ls
    induction ls with
    | nil => intro _ c hc; cases hc
    | cons x r ih =>
      intro h c hc
      cases r with
      | nil => exact h x List.mem_cons_self c hc
      | cons y r =>
        rw [joinSp] at hc
        rcases List.mem_append.mp hc with hc | hc
        · exact h x List.mem_cons_self c hc
        · rcases List.mem_cons.mp hc with rfl | hc
          · decide
          · exact ih (fun l hl => h l (List.mem_cons_of_mem _ hl)) c hc
  intro n
  induction n with
  | zero => exact fun v h => leaf v h
  | succ n ih =>
    intro v h c hc
    rcases plain_leaf_or h with ⟨_, hl⟩ | ⟨n', xs, hn, rfl, hx⟩
    · exact leaf v hl c hc
    cases hn
    rw [txt_tup] at hc
    rcases List.mem_cons.mp hc with rfl | hc
    · decide
    · rcases List.mem_append.mp hc with hc | hc
      · refine join _ (fun l hl d hd => ?_) c hc
        obtain ⟨x, hxx, rfl⟩ := List.mem_map.mp hl
        exact ih x (hx x hxx) d hd
      · have : c = 41 := by simpa using hc
        omega
def wM : Nat → Nat
  | 0 => 36
  | n + 1 => 3 * (wM n + 1) + 2
def cM : Nat → Nat
  | 0 => 0
  | n + 1 => 3 * cM n + 1
theorem wM_le : ∀ n, 36 ≤ wM n
  | 0 => Nat.le_refl _
  | n + 1 => by have := wM_le n; rw [wM]; omega
structure Drawn (n : Nat) (v : MV) : Prop where
  pl : plainB n v = true
  w : wt v ≤ wM n
  c : cnt v ≤ cM n
theorem loopC_st {B : Nat} {xs : List MV} {asg : MV → Option MSt} {e : MSt → M MV} {P : MV → Prop} (h : ∀ g x, Bag B g → ∃ ρ y g', asg x = some ρ ∧ e ρ g = .ok y g' ∧ Stp B g g' ∧ P y) :
    ∀ (n i : Nat) (acc : List MV) (g : MH), xs.length - i < n → acc.length + (xs.length - i) ≤ SZ → Bag B g → ∃ ys g', loopC (.seq xs) asg (fun _ => ret true) e n i acc g = .ok (acc ++ ys) g' ∧ Stp B g g' ∧ ys.length = xs.length - i ∧ ∀ y ∈ ys, P y := by
  intro n
  induction n with
  | zero => intro i acc g h1; omega
  | succ n ih =>
    intro i acc g h1 h2 hb
    unfold loopC
    simp only [MIt.item]
    cases hx : xs[i]? with
    | none =>
      have := List.getElem?_eq_none_iff.mp hx
      exact ⟨[], g, by rw [List.append_nil], .refl hb, by simp; omega, fun y hy => by cases hy⟩
    | some x =>
      have hi := lt_of hx
      obtain ⟨ρ, y, g1, h3, h4, s1, hy⟩ := h g x hb
      simp only [h3, ret, h4]
      rw [if_pos (by omega)]
      obtain ⟨ys, g2, e2, s2, l2, p2⟩ := ih (i + 1) (acc ++ [y]) g1 (by omega) (by simp; omega) s1.bag
      refine ⟨y :: ys, g2, ?_, s1.trans s2, by simp; omega, fun z hz => ?_⟩
      · rw [List.append_assoc] at e2
        exact e2
      · rcases List.mem_cons.mp hz with rfl | hz
        · exact hy
        · exact p2 z hz
theorem drawn {B : Nat} : ∀ (n j : Nat) (g : MH), Bag B g → ∃ v g', callF T (j + n + 3) f_l_drawn [.loc B, .int (n : Int)] g = .ok v g' ∧ Stp B g g' ∧ Drawn n v := by
  have leaf : ∀ (n j : Nat) (g : MH) (ρ : MSt), getLoc ρ 0 = some (.loc B) → Bag B g → ∃ v g', evE (Ek T (j + n + 2)) (.call 16 (.cons (.loc 0) (.cons (.lstOf (.disp (.cons (.cst .non) (.cons (.cst (.int 0)) (.cons (.cst (.int 7)) (.cons (.bin .sub (.bin .pow (.cst (.int 10)) (.cst (.int 30))) (.cst (.int 1))) (.cons (.cst (.str ("a" : PySem.Str))) (.cons (.cst (.str ("fixed" : PySem.Str))) (.cons (.cst (.str ("x9" : PySem.Str))) (.cons (.cst (.str ("alike" : PySem.Str))) (.cons (.cst (.int 41)) .nil))))))))))) .nil))) ρ g = .ok v g' ∧ Stp B g g' ∧ Drawn n v := by
    intro n j g ρ h0 hb
    have hB := hb.lt
    obtain ⟨x, hx, g2, e2, s2⟩ := some_ (xs := [.non, .int 0, .int 7, .int (10 ^ 30 - 1), .str ("a" : Str), .str ("fixed" : Str), .str ("x9" : Str), .str ("alike" : Str), .int 41]) (j + n) (hb.ext .app) at_new (by omega) (by simp) (by show 9 < 1073741824; decide)
    have hl : leafB x = true ∧ wt x ≤ 36 := by
      simp only [List.mem_cons, List.not_mem_nil, or_false] at hx
      rcases hx with rfl | rfl | rfl | rfl | rfl | rfl | rfl | rfl | rfl <;> decide +kernel
    refine ⟨x, g2, r_call (r_cons (r_loc h0) (r_cons (r_lst (l_disp (r_cons r_cst (r_cons r_cst (r_cons r_cst (r_cons (r_bin (r_bin r_cst r_cst pow30) r_cst rfl) (r_cons r_cst (r_cons r_cst (r_cons r_cst (r_cons r_cst (r_cons r_cst r_nil))))))))) (by show 9 ≤ 16777216; decide))) r_nil)) e2, (Stp.ext hb .app).trans s2, plain_mono (n := 0) (Nat.zero_le _) hl.1, Nat.le_trans hl.2 (wM_le n), by rw [cnt_leaf hl.1]; exact Nat.zero_le _⟩
  intro n
  induction n with
  | zero =>
    intro j g hb
    obtain ⟨d, g1, d0, d1, e1, s1⟩ := take (m := 6) (j + 1) hb (by decide) (by decide)
    obtain ⟨v, g2, e2, s2, hv⟩ := leaf 0 j g1 [some (.loc B), some (.int 0), some (.int d), none] rfl s1.bag
    refine ⟨v, g2, c_ret rfl rfl (s_seq (s_set (r_call (r_cons (r_loc rfl) (r_cons r_cst r_nil)) e1)) (s_seq (s_ife_f ?_ s_nil) (s_seq_ret (s_ret e2)))), s1.trans s2, hv⟩
    by_cases hd : d < 2
    · exact t_and_t (t_cmp (r_loc rfl) r_cst (congrArg some (decide_eq_true hd))) (t_cmp (r_loc rfl) r_cst rfl)
    · exact t_and_f (t_cmp (r_loc rfl) r_cst (congrArg some (decide_eq_false hd)))
  | succ n ih =>
    intro j g hb
    obtain ⟨d, g1, d0, d1, e1, s1⟩ := take (m := 6) (j + (n + 1) + 1) hb (by decide) (by decide)
    by_cases hd : d < 2
    · obtain ⟨m, g2, m0, m1, e2, s2⟩ := take (m := 4) (j + (n + 1) + 1) s1.bag (by decide) (by decide)
      have hlen : (rangeL 0 m).length = m.toNat := by unfold rangeL; simp
      have e0 : (MV.int (((n + 1 : Nat) : Int) - 1)) = .int (n : Int) := by rw [show (((n + 1 : Nat) : Int) - 1) = n by omega]
      obtain ⟨ys, g3, e3, s3, l3, p3⟩ := loopC_st (B := B) (xs := rangeL 0 m) (asg := fun v => asgn (.nm 3) v (wipe [some (.loc B), some (.int ((n + 1 : Nat) : Int)), some (.int d), none] [3])) (e := fun r => evE (Ek T (j + (n + 1) + 2)) (.call 30 (.cons (.loc 0) (.cons (.bin .sub (.loc 1) (.cst (.int 1))) .nil))) r) (P := Drawn n) (fun g x hb => by
        obtain ⟨v, g', e, s, hv⟩ := ih j g hb
        exact ⟨_, v, g', rfl, r_call (r_cons (r_loc rfl) (r_cons (r_bin (r_loc rfl) r_cst (congrArg some e0)) r_nil)) e, s, hv⟩) FUEL 0 [] g2 (by rw [hlen]; unfold FUEL; omega) (by rw [hlen]; show 0 + _ ≤ 16777216; omega) s2.bag
      have ev : evT (Ek T (j + (n + 1) + 2)) (.and_ (.cmp .lt (.loc 2) (.cst (.int 2))) (.cmp .gt (.loc 1) (.cst (.int 0)))) [some (.loc B), some (.int ((n + 1 : Nat) : Int)), some (.int d), none] g1 = .ok true g1 :=
        t_and_t (t_cmp (r_loc rfl) r_cst (congrArg some (decide_eq_true hd))) (t_cmp (r_loc rfl) r_cst (congrArg some (decide_eq_true (show (0 : Int) < ((n + 1 : Nat) : Int) by omega))))
      have hys : ys.length ≤ 3 := by rw [l3, hlen]; omega
      refine ⟨.tup ys, g3, c_ret rfl rfl (s_seq (s_set (r_call (r_cons (r_loc rfl) (r_cons r_cst r_nil)) e1)) (s_seq_ret (s_ife_t ev (s_seq_ret (s_ret (r_tupL (l_comp0 (i_rng1 (r_call (r_cons (r_loc rfl) (r_cons r_cst r_nil)) e2) (by omega)) e3))))))), (s1.trans s2).trans s3, ?_, ?_, ?_⟩
      · rw [plainB_tup, List.all_eq_true]
        exact fun x hx => (p3 x hx).pl
      · rw [wt, wM]
        have : ∀ zs : List MV, (∀ z ∈ zs, Drawn n z) → wts zs ≤ zs.length * (wM n + 1) := fun zs => by
          induction zs with
          | nil => intro _; exact Nat.zero_le _
          | cons z zs ihz =>
            intro hz
            have h1 := (hz z List.mem_cons_self).w
            have h2 := ihz fun y hy => hz y (List.mem_cons_of_mem _ hy)
            rw [wts, List.length_cons, Nat.add_mul]
            omega
        have h1 := this ys p3
        have h2 : ys.length * (wM n + 1) ≤ 3 * (wM n + 1) := Nat.mul_le_mul_right _ hys
        omega
      · rw [cnt_tup, cM]
        have : ∀ zs : List MV, (∀ z ∈ zs, Drawn n z) → (zs.map cnt).sum ≤ zs.length * cM n := fun zs => by
          induction zs with
          | nil => intro _; exact Nat.zero_le _
          | cons z zs ihz =>
            intro hz
            have h1 := (hz z List.mem_cons_self).c
            have h2 := ihz fun y hy => hz y (List.mem_cons_of_mem _ hy)
            rw [List.map_cons, List.sum_cons, List.length_cons, Nat.add_mul]
            omega
        have h1 := this ys p3
        have h2 : ys.length * cM n ≤ 3 * cM n := Nat.mul_le_mul_right _ hys
        omega
    · obtain ⟨v, g2, e2, s2, hv⟩ := leaf (n + 1) j g1 [some (.loc B), some (.int ((n + 1 : Nat) : Int)), some (.int d), none] rfl s1.bag
      exact ⟨v, g2, c_ret rfl rfl (s_seq (s_set (r_call (r_cons (r_loc rfl) (r_cons r_cst r_nil)) e1)) (s_seq (s_ife_f (t_and_f (t_cmp (r_loc rfl) r_cst (congrArg some (decide_eq_false hd)))) s_nil) (s_seq_ret (s_ret e2)))), s1.trans s2, hv⟩
end K88
end
section
set_option Elab.async false
set_option linter.all false
set_option autoImplicit false
set_option maxRecDepth 100000
set_option maxHeartbeats 4000000
namespace K88
open PySem (Str PyData)
open MP
/-! ### what is asked of one value, of one text -/
theorem eqV_d {g : MH} {v w : MV} {d : PyData} (hs : scEq v w = none) (h1 : toD 66 g v = some d) (h2 : toD 66 g w = some d) (h3 : PySem.SeqAt.shaped d = true) : eqV g v w = some true := by
  unfold eqV
  rw [hs]
  simp only []
  rw [h1, h2]
  simp only []
  rw [h3]
  simp only [Bool.and_self, if_true]
  rw [PySem.SeqAt.eqv_refl _ (PySem.SeqAt.canLay_of_shaped h3)]
theorem alike {g : MH} {v w : MV} {d : PyData} (k : Nat) (h1 : toD 66 g v = some d) (h2 : toD 66 g w = some d) (h3 : PySem.SeqAt.shaped d = true) (h4 : d.showable = true) (h5 : d.shown.length ≤ SZ) (he : eqV g v w = some true) : callF T (k + 1) f_l_alike [v, w] g = .ok (.bl true) g := by
  have r : ∀ u, toD 66 g u = some d → bi1V .repr g u = some (.str d.shown) := fun u hu => by
    simp only [bi1V]
    rw [hu]
    simp only []
    rw [h4, h3, decide_eq_true h5]
    rfl
  have e : cmpV .eq g (.str d.shown) (.str d.shown) = some true := congrArg some (decide_eq_true rfl)
  exact c_ret rfl rfl (s_seq_ret (s_ret (r_and_t (r_cmp (r_bi1 (r_loc rfl) (r v h1)) (r_bi1 (r_loc rfl) (r w h2)) e) rfl (r_cmp (r_loc rfl) (r_loc rfl) he))))
theorem low_ok {cs : List Nat} (h : ∀ c ∈ cs, c < 128) : PyData.strOk (mk cs) = true := by
  show Array.all cs.toArray _ = true
  rw [List.all_toArray, List.all_eq_true]
  exact fun c hc => decide_eq_true (by have := h c hc; omega)
/-- plain values with one text are one -/
theorem txt_inj {v w : MV} (hv : Pl v) (hw : Pl w) (h : txt v = txt w) (hl : (txt v).length ≤ SZ) : v = w := by
  have h1 := runB_complete hl rfl hv
  have h2 := runB_complete hl h hw
  rw [h1] at h2
  exact Option.some.inj h2
theorem come_plain {g : MH} {v : MV} (k : Nat) (hk : 64 ≤ k) (h : plainB 60 v = true) (hl : (txt v).length ≤ SZ) : callF T (k + 2) f_l_come_to [.int 0, v] g = .ok (.tup [.str (Str.ofString "told"), .str (mk (txt v))]) g :=
  c_ret rfl rfl (s_seq_ret (s_try (s_seq_ret (s_ret (r_tup (r_cons r_cst (r_cons (r_ite_t (t_cmp (r_loc rfl) r_cst rfl) (r_call (r_cons (r_loc rfl) r_nil) (value_text_ok k hk h hl))) r_nil)) (by show 2 ≤ 16777216; decide))))))
theorem r_ite_ok {E : Ev} {ρ : MSt} {g g1 : MH} {c a b : X} {r : Res MV} (h1 : evT E c ρ g = .ok true g1) (h2 : evE E a ρ g1 = r) : evE E (.ite c a b) ρ g = r := r_ite_t h1 h2
theorem come_no {g : MH} {v : MV} (k : Nat) (hk : 64 ≤ k) (hw : Wf g v) (h : plainB 60 v = false) : callF T (k + 2) f_l_come_to [.int 0, v] g = .ok (.tup [.str (Str.ofString "nothing")]) g :=
  c_ret rfl rfl (s_seq_ret (s_try_x (s_seq_exc (s_ret_x (r_tup_x (r_cons_x2 r_cst (r_cons_x (r_ite_t (t_cmp (r_loc rfl) r_cst rfl) (r_call (r_cons (r_loc rfl) r_nil) (value_text_no k hk hw h)))))))) rfl))
theorem come_not_text {g : MH} {v : MV} (k : Nat) (hw : Wf g v) (h : isS v = false) : callF T (k + 2) f_l_come_to [.int 1, v] g = .ok (.tup [.str (Str.ofString "nothing")]) g :=
  c_ret rfl rfl (s_seq_ret (s_try_x (s_seq_exc (s_ret_x (r_tup_x (r_cons_x2 r_cst (r_cons_x (r_ite_f (t_cmp (r_loc rfl) r_cst rfl) (r_call (r_cons (r_loc rfl) r_nil) (read_value_no k hw h)))))))) rfl))
theorem come_text {g : MH} {cs : List Nat} (j : Nat) (hl : cs.length ≤ SZ) :
    (∃ v g', callF T (65 + j) f_l_come_to [.int 1, .str (mk cs)] g = .ok (.tup [.str (Str.ofString "told"), v]) g' ∧ Ext g g' ∧ cs = txt v ∧ plainB 60 v = true) ∨
    (∃ (n : Int) (g' : MH), callF T (65 + j) f_l_come_to [.int 1, .str (mk cs)] g = .ok (.tup [.str (Str.ofString "bad"), .int 1, .int n]) g' ∧ Ext g g' ∧ ∀ v, plainB 60 v = true → cs ≠ txt v) := by
  rw [show 65 + j = (64 + j) + 1 by omega]
  rcases read_value (g := g) (cs := cs) j hl with ⟨v, g', e, x, h1, h2⟩ | ⟨n, g', e, x, h⟩
  · exact .inl ⟨v, g', c_ret rfl rfl (s_seq_ret (s_try (s_seq_ret (s_ret (r_tup (r_cons r_cst (r_cons (r_ite_f (t_cmp (r_loc rfl) r_cst rfl) (r_call (r_cons (r_loc rfl) r_nil) e)) r_nil)) (by show 2 ≤ 16777216; decide)))))), x, h1, h2⟩
  · exact .inr ⟨n, g', c_ret rfl rfl (s_seq_ret (s_try_x (s_seq_exc (s_ret_x (r_tup_x (r_cons_x2 r_cst (r_cons_x (r_ite_f (t_cmp (r_loc rfl) r_cst rfl) (r_call (r_cons (r_loc rfl) r_nil) e))))))) rfl)), x, h⟩
end K88
end
section
set_option Elab.async false
set_option linter.all false
set_option autoImplicit false
set_option maxRecDepth 100000
set_option maxHeartbeats 4000000
namespace K88
open PySem (Str PyData)
open MP
/-! ### one turn of the law -/
theorem listText_le (ts : List Str) : (PySem.listText ts).length ≤ PySem.piled ts + 2 := by
  have hX : (PySem.listText ts).length = (PySem.textFrom 0 "[" ts).length + 1 := by
    unfold PySem.listText
    rw [PySem.strLen_append]
    rfl
  rw [hX]
  cases ts with
  | nil => exact Nat.le_refl _
  | cons t r =>
    have e : (PySem.textFrom 0 "[" (t :: r)) = PySem.textFrom 1 (("[" : Str) ++ ((if 0 > 0 then ", " else "" : String) : Str) ++ t) r := rfl
    rw [e, PySem.textFrom_length_pos r 1 _ (by decide), PySem.strLen_append, PySem.strLen_append, PySem.piled_cons]
    have e1 : (("[" : String) : Str).length = 1 := rfl
    have e2 : (((if 0 > 0 then ", " else "" : String) : Str)).length = 0 := rfl
    omega
def dat3 (x : Str) (v : MV) : PyData := .list [.bool true, .str x, dat v]
theorem list_d {g : MH} {l : Nat} {x : Str} {v : MV} (h : g[l]? = some (.lst [.bl true, .str x, v])) (hp : plainB 60 v = true) : toD 66 g (.loc l) = some (dat3 x v) := by
  have e := toD_plain (g := g) 60 v hp 65 (by decide)
  show (match g[l]? with
      | some (.lst xs) => (xs.mapM (toD 65 g)).map PyData.list
      | _ => none) = _
  rw [h]
  simp only []
  rw [List.mapM_cons, List.mapM_cons, List.mapM_cons, e]
  rfl
theorem dat3_ok {v : MV} (hp : plainB 60 v = true) (hl : (txt v).length ≤ 100000) : PySem.SeqAt.shaped (dat3 (mk (txt v)) v) = true ∧ (dat3 (mk (txt v)) v).showable = true ∧ (dat3 (mk (txt v)) v).shown.length ≤ SZ := by
  obtain ⟨a, b, c, d⟩ := dat_ok 60 v hp
  have hlow := txt_low 60 v hp
  refine ⟨?_, ?_, ?_⟩
  · unfold PySem.SeqAt.shaped dat3
    rw [PyData.canLay0, PyData.canLayAll0, PyData.canLayAll0, PyData.canLayAll0, PyData.canLayAll0, PyData.canLay0, PyData.canLay0, low_ok hlow, a, PyData.depth, PyData.depthAll, PyData.depthAll, PyData.depthAll, PyData.depthAll, PyData.depth, PyData.depth]
    rw [decide_eq_true (by omega)]
    rfl
  · unfold dat3
    rw [PyData.showable, PyData.showableAll, PyData.showableAll, PyData.showableAll, PyData.showableAll, PyData.showable, PyData.showable, c]
    rfl
  · unfold dat3
    rw [PyData.shown, PyData.shownAll, PyData.shownAll, PyData.shownAll, PyData.shownAll, PyData.shown, PyData.shown]
    have h1 := listText_le [(if true = true then (("True" : String) : Str) else (("False" : String) : Str)), PySem.reprText (mk (txt v)), (dat v).shown]
    rw [PySem.piled_cons, PySem.piled_cons, PySem.piled_cons, PySem.piled_nil] at h1
    have h2 := PySem.StrLaws.reprText_len (mk (txt v)) fun c hc => Nat.lt_trans (hlow c hc) (by decide)
    have h3 : (mk (txt v)).length = (txt v).length := rfl
    have h4 : (if true = true then (("True" : String) : Str) else (("False" : String) : Str)).length = 4 := rfl
    show _ ≤ 16777216
    omega
abbrev rL (s : MV) (B : Nat) (x2 x3 x4 x5 x6 x7 x8 x9 x10 x11 x12 x13 : Option MV) : MSt := [some s, some (.loc B), x2, x3, x4, x5, x6, x7, x8, x9, x10, x11, x12, x13]
abbrev lapB : XS := match tlS b_law with
  | .seq (.for_ _ _ b) _ => b
  | x => x
abbrev L1 : XS := hdS lapB
abbrev L2 : XS := hdS (tlS lapB)
abbrev L3 : XS := hdS (tlS (tlS lapB))
abbrev L4 : XS := hdS (tlS (tlS (tlS lapB)))
abbrev inB : XS := match L4 with
  | .for_ _ _ b => b
  | x => x
section
variable {s : MV} {B : Nat} {x2 x3 x4 x5 x6 x7 x8 x9 x10 x11 x12 x13 : Option MV} {g : MH}
theorem ne_same {v : MV} (h : eqV g v v = some true) : cmpV .ne g v v = some false := by
  show (eqV g v v).map (!·) = _
  rw [h]
  rfl
theorem ask {v : MV} (hp : plainB 60 v = true) (hl : (txt v).length ≤ 100000) : ∃ g', exS (Ek T 89) L3 (rL s B x2 (some v) (some (.str (mk (txt v)))) x5 x6 x7 x8 x9 x10 x11 x12 x13) g = .ok (.next (rL s B x2 (some v) (some (.str (mk (txt v)))) x5 x6 x7 x8 x9 x10 x11 x12 x13)) g' ∧ Ext g g' := by
  have hl' : (txt v).length ≤ SZ := by show _ ≤ 16777216; omega
  have hwf := plain_wf (g := g) 60 v hp hl'
  have e1 := is_plain_value (g := g) 88 (by decide) hwf
  rw [hp] at e1
  have e2 := value_text_ok (g := g) 88 (by decide) hp hl'
  obtain ⟨g1, e3, x1⟩ : ∃ g1, callF T 89 f_read_value [.str (mk (txt v))] g = .ok v g1 ∧ Ext g g1 := by
    rcases read_value (g := g) (cs := txt v) 25 hl' with ⟨w, g1, e, x, h1, h2⟩ | ⟨n, g1, e, x, h⟩
    · have := txt_inj ⟨60, hp⟩ ⟨60, h2⟩ h1 hl'
      rw [← this] at e
      exact ⟨g1, e, x⟩
    · exact absurd rfl (h v hp)
  obtain ⟨g2, eg2⟩ : ∃ g2, g2 = g1 ++ [MO.lst [.bl true, .str (mk (txt v)), v]] := ⟨_, rfl⟩
  obtain ⟨g3, eg3⟩ : ∃ g3, g3 = g2 ++ [MO.lst [.bl true, .str (mk (txt v)), v]] := ⟨_, rfl⟩
  have x2' : Ext g1 g2 := by rw [eg2]; exact .app
  have x3' : Ext g2 g3 := by rw [eg3]; exact .app
  have l1 : g3[g1.length]? = some (.lst [.bl true, .str (mk (txt v)), v]) := by rw [x3'.keep _ (by rw [eg2]; simp), eg2]; exact at_new
  have l2 : g3[g2.length]? = some (.lst [.bl true, .str (mk (txt v)), v]) := by rw [eg3]; exact at_new
  obtain ⟨d1, d2, d3⟩ := dat3_ok hp hl
  have q1 := list_d l1 hp
  have q2 := list_d l2 hp
  have al := alike 88 q1 q2 d1 d2 d3 (eqV_d rfl q1 q2 d1)
  have r1 : evE (Ek T 89) (.lstOf (.disp (.cons (.call 4 (.cons (.loc 3) .nil)) (.cons (.call 6 (.cons (.loc 3) .nil)) (.cons (.call 13 (.cons (.loc 4) .nil)) .nil))))) (rL s B x2 (some v) (some (.str (mk (txt v)))) x5 x6 x7 x8 x9 x10 x11 x12 x13) g = .ok (.loc g1.length) g2 := by
    rw [eg2]
    exact r_lst (l_disp (r_cons (r_call (r_cons (r_loc rfl) r_nil) e1) (r_cons (r_call (r_cons (r_loc rfl) r_nil) e2) (r_cons (r_call (r_cons (r_loc rfl) r_nil) e3) r_nil))) (by show 3 ≤ 16777216; decide))
  have r2 : evE (Ek T 89) (.lstOf (.disp (.cons (.cst (.bl true)) (.cons (.loc 4) (.cons (.loc 3) .nil))))) (rL s B x2 (some v) (some (.str (mk (txt v)))) x5 x6 x7 x8 x9 x10 x11 x12 x13) g2 = .ok (.loc g2.length) g3 := by
    rw [eg3]
    exact r_lst (l_disp (r_cons r_cst (r_cons (r_loc rfl) (r_cons (r_loc rfl) r_nil))) (by show 3 ≤ 16777216; decide))
  exact ⟨g3, s_ife_f (t_not_f (t_call (r_cons r1 (r_cons r2 r_nil)) al rfl)) s_nil, (x1.trans x2').trans x3'⟩
theorem nothing_eq : eqV g (.tup [.str (Str.ofString "nothing")]) (.tup [.str (Str.ofString "nothing")]) = some true := eqV_d (d := .tuple [.str (Str.ofString "nothing")]) rfl rfl rfl (by decide +kernel)
theorem told_eq {v : MV} (hp : plainB 60 v = true) : eqV g (.tup [.str (Str.ofString "told"), .str (mk (txt v))]) (.tup [.str (Str.ofString "told"), .str (mk (txt v))]) = some true := by
  refine eqV_d (d := .tuple [.str (Str.ofString "told"), .str (mk (txt v))]) rfl rfl rfl ?_
  unfold PySem.SeqAt.shaped
  rw [PyData.canLay0, PyData.canLayAll0, PyData.canLayAll0, PyData.canLayAll0, PyData.canLay0, PyData.canLay0, low_ok (txt_low 60 v hp), PyData.depth, PyData.depthAll, PyData.depthAll, PyData.depthAll, PyData.depth, PyData.depth]
  decide +kernel
theorem in_lap {v : MV} (hw : Wf g v) (hs : wt v ≤ 8000) : exS (Ek T 89) inB (rL s B x2 x3 x4 (some v) x6 x7 x8 x9 x10 x11 x12 x13) g = .ok (.next (rL s B x2 x3 x4 (some v) (some (.bl (plainB 60 v))) x7 x8 x9 x10 x11 x12 x13)) g := by
  have e1 := l_is_plain (g := g) 60 88 v (by decide) hw
  have e2 := is_plain_value (g := g) 88 (by decide) hw
  have st1 : exS (Ek T 89) (hdS inB) (rL s B x2 x3 x4 (some v) x6 x7 x8 x9 x10 x11 x12 x13) g = .ok (.next (rL s B x2 x3 x4 (some v) (some (.bl (plainB 60 v))) x7 x8 x9 x10 x11 x12 x13)) g :=
    s_set (r_call (r_cons (r_loc rfl) (r_cons r_cst r_nil)) e1)
  refine s_seq st1 (s_seq ?_ s_nil)
  have same : cmpV .ne g (.bl (plainB 60 v)) (.bl (plainB 60 v)) = some false := by
    show some (!decide (plainB 60 v = plainB 60 v)) = _
    simp
  have t1 : evT (Ek T 89) (.cmp .ne (.call 4 (.cons (.loc 5) .nil)) (.loc 6)) (rL s B x2 x3 x4 (some v) (some (.bl (plainB 60 v))) x7 x8 x9 x10 x11 x12 x13) g = .ok false g := t_cmp (r_call (r_cons (r_loc rfl) r_nil) e2) (r_loc rfl) same
  cases hp : plainB 60 v with
  | true =>
    rw [hp] at t1
    have hl : (txt v).length ≤ SZ := by have := txt_wt 60 v hp; show _ ≤ 16777216; omega
    exact s_ife_f (t_or_f t1 (t_cmp (r_call (r_cons r_cst (r_cons (r_loc rfl) r_nil)) (come_plain 87 (by decide) hp hl)) (r_ite_t (t_loc rfl rfl) (r_tup (r_cons r_cst (r_cons (r_call (r_cons (r_loc rfl) r_nil) (l_text 60 88 v (by decide) hp hl)) r_nil)) (by show 2 ≤ 16777216; decide))) (ne_same (told_eq hp)))) s_nil
  | false =>
    rw [hp] at t1
    exact s_ife_f (t_or_f t1 (t_cmp (r_call (r_cons r_cst (r_cons (r_loc rfl) r_nil)) (come_no 87 (by decide) hw hp)) (r_ite_f (t_loc rfl rfl) (r_tup (r_cons r_cst r_nil) (by show 1 ≤ 16777216; decide))) (ne_same nothing_eq))) s_nil
theorem in_loop : ∀ (xs : List MV), (∀ v ∈ xs, Wf g v ∧ wt v ≤ 8000) → ∀ (ys : List MV) (n : Nat) (x5 x6 : Option MV), xs.length < n → ∃ y5 y6, loopF (.seq (ys ++ xs)) (fun v r => asgn (.nm 5) v r) (fun r g => exS (Ek T 89) inB r g) n ys.length (rL s B x2 x3 x4 x5 x6 x7 x8 x9 x10 x11 x12 x13) g = .ok (.next (rL s B x2 x3 x4 y5 y6 x7 x8 x9 x10 x11 x12 x13)) g
  | [], _, ys, n, x5, x6, hn => by
    obtain ⟨n, rfl⟩ : ∃ m, n = m + 1 := ⟨n - 1, by omega⟩
    refine ⟨x5, x6, f_stop ?_⟩
    simp only [MIt.item]
    rw [List.getElem?_eq_none (by simp)]
  | v :: xs, h, ys, n, x5, x6, hn => by
    obtain ⟨n, rfl⟩ : ∃ m, n = m + 1 := ⟨n - 1, by omega⟩
    have hn : xs.length + 1 < n + 1 := hn
    obtain ⟨hv, hs⟩ := h v List.mem_cons_self
    obtain ⟨y5, y6, ih⟩ := in_loop xs (fun w hw => h w (List.mem_cons_of_mem _ hw)) (ys ++ [v]) n (some v) (some (.bl (plainB 60 v))) (by omega)
    rw [List.append_assoc, List.length_append] at ih
    refine ⟨y5, y6, (f_next (v := v) ?_ rfl (in_lap hv hs)).trans ih⟩
    simp only [MIt.item]
    simp
theorem others {v : MV} (hb : Bag B g) (hd : Drawn 3 v) : ∃ g' y5 y6, exS (Ek T 89) L4 (rL s B x2 (some v) x4 x5 x6 x7 x8 x9 x10 x11 x12 x13) g = .ok (.next (rL s B x2 (some v) x4 y5 y6 x7 x8 x9 x10 x11 x12 x13)) g' ∧ Stp B g g' := by
  have hp : plainB 4 (.tup [v]) = true := by rw [plainB_tup]; simp [hd.pl]
  have hw : wt (.tup [v]) ≤ 2000 := by
    have := hd.w
    have e : wM 3 = 1037 := by decide
    rw [wt, wts, wts]
    omega
  obtain ⟨r, g1, e1, s1, w1, z1⟩ := spoilt (thing := .tup [v]) 24 hb (plain_mono (by decide) hp) hw
  obtain ⟨o, g2, e2, s2, w2, z2⟩ := odd 86 s1.bag
  obtain ⟨g3, eg3⟩ : ∃ g3, g3 = g2 ++ [MO.lst [v]] := ⟨_, rfl⟩
  obtain ⟨g4, eg4⟩ : ∃ g4, g4 = g3 ++ [MO.lst []] := ⟨_, rfl⟩
  have x3' : Ext g2 g3 := by rw [eg3]; exact .app
  have x4' : Ext g3 g4 := by rw [eg4]; exact .app
  have s3 := Stp.ext s2.bag (x3'.trans x4')
  have wv : ∀ g' : MH, Wf g' v := fun g' => plain_wf 3 v hd.pl (by have := txt_wt 3 v hd.pl; have := hd.w; have e : wM 3 = 1037 := by decide
                                                                   show _ ≤ 16777216; omega)
  have zv : wt v ≤ 1037 := by have := hd.w; have e : wM 3 = 1037 := by decide
                              omega
  have ei : evI (Ek T 89) (match L4 with | .for_ _ i _ => i | _ => .nil) (rL s B x2 (some v) x4 x5 x6 x7 x8 x9 x10 x11 x12 x13) g = .ok (.seq [r, o, .int (10 ^ 30), .int (-1), .bl true, .str (Str.ofString ""), .str (Str.ofString "A"), .str (Str.ofString "9a"), .str (Str.ofString "a b"), .loc g2.length, .tup [v, .loc g3.length]]) g4 := by
    rw [eg4]
    refine i_itL (l_disp (r_cons (r_call (r_cons (r_loc rfl) (r_cons (r_tup (r_cons (r_loc rfl) r_nil) (by show 1 ≤ 16777216; decide)) r_nil)) e1) (r_cons (r_call (r_cons (r_loc rfl) r_nil) e2) (r_cons (r_bin r_cst r_cst pow30) (r_cons (r_neg r_cst) (r_cons r_cst (r_cons r_cst (r_cons r_cst (r_cons r_cst (r_cons r_cst (r_cons ?_ (r_cons (r_tup (r_cons (r_loc rfl) (r_cons (r_lst (l_disp r_nil (by decide))) r_nil)) (by show 2 ≤ 16777216; decide)) r_nil))))))))))) (by show 11 ≤ 16777216; decide))
    rw [eg3]
    exact r_lst (l_disp (r_cons (r_loc rfl) r_nil) (by show 1 ≤ 16777216; decide))
  have hB := hb.lt
  have la : g4[g2.length]? = some (.lst [v]) := by rw [x4'.keep _ (by rw [eg3]; simp), eg3]; exact at_new
  have lb : g4[g3.length]? = some (.lst []) := by rw [eg4]; exact at_new
  have all : ∀ x ∈ [r, o, .int (10 ^ 30), .int (-1), .bl true, .str (Str.ofString ""), .str (Str.ofString "A"), .str (Str.ofString "9a"), .str (Str.ofString "a b"), .loc g2.length, .tup [v, .loc g3.length]], Wf g4 x ∧ wt x ≤ 8000 := by
    refine List.forall_mem_cons.mpr ⟨⟨(w1.stp s2).stp s3, z1⟩, ?_⟩
    refine List.forall_mem_cons.mpr ⟨⟨w2.stp s3, by omega⟩, ?_⟩
    refine List.forall_mem_cons.mpr ⟨⟨.int _, by show 31 ≤ 8000; decide⟩, ?_⟩
    refine List.forall_mem_cons.mpr ⟨⟨.int _, by show 31 ≤ 8000; decide⟩, ?_⟩
    refine List.forall_mem_cons.mpr ⟨⟨.bl _, by show 31 ≤ 8000; decide⟩, ?_⟩
    refine List.forall_mem_cons.mpr ⟨⟨.str _ (by decide +kernel), by decide +kernel⟩, ?_⟩
    refine List.forall_mem_cons.mpr ⟨⟨.str _ (by decide +kernel), by decide +kernel⟩, ?_⟩
    refine List.forall_mem_cons.mpr ⟨⟨.str _ (by decide +kernel), by decide +kernel⟩, ?_⟩
    refine List.forall_mem_cons.mpr ⟨⟨.str _ (by decide +kernel), by decide +kernel⟩, ?_⟩
    refine List.forall_mem_cons.mpr ⟨⟨.lst _ _ la, by show 31 ≤ 8000; decide⟩, ?_⟩
    refine List.forall_mem_cons.mpr ⟨⟨.tup _ (by show 2 ≤ 16777216; decide) (List.forall_mem_cons.mpr ⟨wv _, List.forall_mem_cons.mpr ⟨.lst _ _ lb, List.forall_mem_nil _⟩⟩), ?_⟩, List.forall_mem_nil _⟩
    rw [wt, wts, wts, wts, wt]
    omega
  obtain ⟨y5, y6, e⟩ := in_loop (g := g4) (s := s) (B := B) (x2 := x2) (x3 := some v) (x4 := x4) (x7 := x7) (x8 := x8) (x9 := x9) (x10 := x10) (x11 := x11) (x12 := x12) (x13 := x13) _ all [] FUEL x5 x6 (by show 11 < 20000000; decide)
  exact ⟨g4, y5, y6, s_for ei e, (s1.trans s2).trans s3⟩
end
end K88
end
section
set_option Elab.async false
set_option linter.all false
set_option autoImplicit false
set_option maxRecDepth 100000
set_option maxHeartbeats 4000000
namespace K88
open PySem (Str PyData)
open MP
/-! ### one turn: a text bent -/
abbrev L5 : XS := hdS (tlS (tlS (tlS (tlS lapB))))
abbrev L6 : XS := hdS (tlS (tlS (tlS (tlS (tlS lapB)))))
abbrev L7 : XS := hdS (tlS (tlS (tlS (tlS (tlS (tlS lapB))))))
abbrev L8 : XS := hdS (tlS (tlS (tlS (tlS (tlS (tlS (tlS lapB)))))))
abbrev L9 : XS := hdS (tlS (tlS (tlS (tlS (tlS (tlS (tlS (tlS lapB))))))))
theorem cut_sub {α : Type} (xs : List α) (p q : Option Int) : (cut xs p q).Sublist xs := (List.take_sublist _ _).trans (List.drop_sublist _ _)
theorem slS {cs : List Nat} {p q : Option Int} (h : cs.length ≤ SZ) : slV (.str (mk cs)) p q = some (.str (mk (cut cs p q))) := by
  show (if cs.length ≤ SZ then some (MV.str (cutS (mk cs) p q)) else none) = _
  rw [if_pos h]
  rfl
theorem addS {a b : List Nat} (h : a.length + b.length ≤ SZ) : binV .add (.str (mk a)) (.str (mk b)) = some (.str (mk (a ++ b))) := by
  show (if a.length + b.length ≤ SZ then some (MV.str (mk a ++ mk b)) else none) = _
  rw [if_pos h, mk_app]
section
variable {s : MV} {B : Nat} {x2 x3 x4 x5 x6 x7 x8 x9 x10 x11 x12 x13 : Option MV} {g : MH}
theorem bend {v : MV} {cs : List Nat} (hb : Bag B g) (hl : cs.length ≤ 10000) : ∃ (d : Int) (bs : List Nat) (g1 g2 : MH),
    exS (Ek T 89) L5 (rL s B x2 (some v) (some (.str (mk cs))) x5 x6 x7 x8 x9 x10 x11 x12 x13) g = .ok (.next (rL s B x2 (some v) (some (.str (mk cs))) x5 x6 (some (.int d)) x8 x9 x10 x11 x12 x13)) g1 ∧
    exS (Ek T 89) L6 (rL s B x2 (some v) (some (.str (mk cs))) x5 x6 (some (.int d)) x8 x9 x10 x11 x12 x13) g1 = .ok (.next (rL s B x2 (some v) (some (.str (mk cs))) x5 x6 (some (.int d)) (some (.str (mk bs))) x9 x10 x11 x12 x13)) g2 ∧
    Stp B g g2 ∧ bs.length ≤ 20001 ∧ bs.count 40 ≤ 2 * cs.count 40 + 1 := by
  have hl' : cs.length ≤ SZ := by show _ ≤ 16777216; omega
  obtain ⟨d, g1, d0, d1, e1, s1⟩ := take (m := (cs.length : Int) + 1) 88 hb (by omega) (by omega)
  have st5 : exS (Ek T 89) L5 (rL s B x2 (some v) (some (.str (mk cs))) x5 x6 x7 x8 x9 x10 x11 x12 x13) g = .ok (.next (rL s B x2 (some v) (some (.str (mk cs))) x5 x6 (some (.int d)) x8 x9 x10 x11 x12 x13)) g1 :=
    s_set (r_call (r_cons (r_loc rfl) (r_cons (r_bin (r_bi1 (r_loc rfl) (len_mk hl')) r_cst rfl) r_nil)) e1)
  obtain ⟨g2, eg2⟩ : ∃ g2, g2 = g1 ++ [MO.lst [.str (Str.ofString ""), .str (Str.ofString " "), .str (Str.ofString "("), .str (Str.ofString ")"), .str (Str.ofString "-"), .str (Str.ofString "0"), .str (Str.ofString "a"), .str (Str.ofString "A"), .str (Str.ofString "*")]] := ⟨_, rfl⟩
  have x2' : Ext g1 g2 := by rw [eg2]; exact .app
  have l2 : g2[g1.length]? = some (.lst [.str (Str.ofString ""), .str (Str.ofString " "), .str (Str.ofString "("), .str (Str.ofString ")"), .str (Str.ofString "-"), .str (Str.ofString "0"), .str (Str.ofString "a"), .str (Str.ofString "A"), .str (Str.ofString "*")]) := by rw [eg2]; exact at_new
  have hB := s1.bag.lt
  obtain ⟨m, hm, g3, e3, s3⟩ := some_ (l := g1.length) 87 (s1.bag.ext x2') l2 (by omega) (by simp) (by show 9 < 1073741824; decide)
  obtain ⟨ms, rfl, hms⟩ : ∃ ms, m = .str (mk ms) ∧ ms.length ≤ 1 := by
    have go : ∀ x : Str, x.length ≤ 1 → ∃ ms, MV.str x = .str (mk ms) ∧ ms.length ≤ 1 := fun x hx => ⟨x.cps.toList, by rw [mk_eta], by rw [Array.length_toList]; exact hx⟩
    simp only [List.mem_cons, List.not_mem_nil, or_false] at hm
    rcases hm with rfl | rfl | rfl | rfl | rfl | rfl | rfl | rfl | rfl <;> exact go _ (by decide +kernel)
  obtain ⟨t, g4, t0, t1, e4, s4⟩ := take (m := 2) 88 s3.bag (by decide) (by decide)
  have c1 := (cut_sub cs none (some d)).length_le
  have c2 := (cut_sub cs (some (d + t)) none).length_le
  have k1 := (cut_sub cs none (some d)).count_le 40
  have k2 := (cut_sub cs (some (d + t)) none).count_le 40
  have k3 := List.count_le_length (a := 40) (l := ms)
  have el : evE (Ek T 89) (.lstOf (.disp (.cons (.cst (.str ("" : PySem.Str))) (.cons (.cst (.str (" " : PySem.Str))) (.cons (.cst (.str ("(" : PySem.Str))) (.cons (.cst (.str (")" : PySem.Str))) (.cons (.cst (.str ("-" : PySem.Str))) (.cons (.cst (.str ("0" : PySem.Str))) (.cons (.cst (.str ("a" : PySem.Str))) (.cons (.cst (.str ("A" : PySem.Str))) (.cons (.cst (.str ("*" : PySem.Str))) .nil))))))))))) (rL s B x2 (some v) (some (.str (mk cs))) x5 x6 (some (.int d)) x8 x9 x10 x11 x12 x13) g1 = .ok (.loc g1.length) g2 := by
    rw [eg2]
    exact r_lst (l_disp (r_cons r_cst (r_cons r_cst (r_cons r_cst (r_cons r_cst (r_cons r_cst (r_cons r_cst (r_cons r_cst (r_cons r_cst (r_cons r_cst r_nil))))))))) (by show 9 ≤ 16777216; decide))
  refine ⟨d, cut cs none (some d) ++ ms ++ cut cs (some (d + t)) none, g1, g4, st5, ?_, ((s1.next x2').trans s3).trans s4, ?_, ?_⟩
  · exact s_set (r_bin (r_bin (r_sl (r_loc rfl) r_o_nil (r_o (r_loc rfl)) (slS hl')) (r_call (r_cons (r_loc rfl) (r_cons el r_nil)) e3) (addS (by show _ ≤ 16777216; omega)))
      (r_sl (r_loc rfl) (r_o (r_bin (r_loc rfl) (r_call (r_cons (r_loc rfl) (r_cons r_cst r_nil)) e4) rfl)) r_o_nil (slS hl')) (addS (by rw [List.length_append]; show _ ≤ 16777216; omega)))
  · rw [List.length_append, List.length_append]
    omega
  · rw [List.count_append, List.count_append]
    omega
theorem eqStr {x y : Str} {b : Bool} (h : decide (x = y) = b) : cmpV .eq g (.str x) (.str y) = some b := congrArg some h
theorem neStr {x y : Str} {b : Bool} (h : (!decide (x = y)) = b) : cmpV .ne g (.str x) (.str y) = some b := congrArg some h
theorem judge {v : MV} {x3 x4 : Option MV} {bs : List Nat} (hb : Bag B g) (hl : bs.length ≤ 20001) (hc : bs.count 40 ≤ 60) : ∃ y9 y10 g',
    exS (Ek T 89) (.seq L7 (.seq L8 (.seq L9 .nil))) (rL s B x2 x3 x4 x5 x6 x7 (some (.str (mk bs))) x9 x10 x11 x12 x13) g = .ok (.next (rL s B x2 x3 x4 x5 x6 x7 (some (.str (mk bs))) y9 y10 x11 x12 x13)) g' ∧ Stp B g g' := by
  have hl' : bs.length < SZ := by show _ < 16777216; omega
  obtain ⟨g1, xx1, h1⟩ := l_read (g := g) (cs := bs) 86 hl'
  have h2 := come_text (g := g1) (cs := bs) 24 (Nat.le_of_lt hl')
  rcases h1 with ⟨n, r1, e1⟩ | ⟨w, r1, e1⟩
  · rcases h2 with ⟨w, g2, e2, xx2, t2, p2⟩ | ⟨n2, g2, e2, xx2, _⟩
    · rw [runB_complete (Nat.le_of_lt hl') t2 ⟨60, p2⟩] at r1
      cases r1
    · refine ⟨some (.tup [.str (Str.ofString "bad"), .int n]), some (.tup [.str (Str.ofString "bad"), .int 1, .int n2]), g2, s_seq (s_set (r_call (r_cons (r_loc rfl) r_nil) e1)) (s_seq (s_set (r_call (r_cons r_cst (r_cons (r_loc rfl) r_nil)) e2)) (s_seq (s_ife_f (t_or_f (t_cmp (r_idx (r_loc rfl) r_cst rfl) (r_idx (r_loc rfl) r_cst rfl) (neStr (by decide +kernel))) (t_and_f (t_cmp (r_idx (r_loc rfl) r_cst rfl) r_cst (eqStr (by decide +kernel))))) s_nil) s_nil)), .ext hb (xx1.trans xx2)⟩
  · obtain ⟨t1, p1⟩ := runB_sound r1
    have p60 : plainB 60 w = true := by
      obtain ⟨n, hn⟩ := p1
      exact plain_mono (by unfold cnt; rw [← t1]; exact hc) (cnt_depth n w hn)
    rcases h2 with ⟨w2, g2, e2, xx2, t2, p2⟩ | ⟨n2, g2, e2, xx2, h⟩
    · have ew := txt_inj p1 ⟨60, p2⟩ (t1.symm.trans t2) (by rw [← t1]; exact Nat.le_of_lt hl')
      subst ew
      obtain ⟨d1, d2, d3, d4⟩ := dat_ok 60 w p60
      have al := alike (g := g2) 88 (toD_plain 60 w p60 66 (by decide)) (toD_plain 60 w p60 66 (by decide)) (shaped_plain (by decide) p60) d3 (by rw [t1] at hl; show _ ≤ 16777216; omega) (eqV_refl p60)
      have vt := value_text_ok (g := g2) 88 (by decide) p60 (by rw [← t1]; exact Nat.le_of_lt hl')
      rw [← t1] at vt
      refine ⟨some (.tup [.str (Str.ofString "told"), w]), some (.tup [.str (Str.ofString "told"), w]), g2, s_seq (s_set (r_call (r_cons (r_loc rfl) r_nil) e1)) (s_seq (s_set (r_call (r_cons r_cst (r_cons (r_loc rfl) r_nil)) e2)) (s_seq (s_ife_f (t_or_f (t_cmp (r_idx (r_loc rfl) r_cst rfl) (r_idx (r_loc rfl) r_cst rfl) (neStr (by decide +kernel))) (t_and_t (t_cmp (r_idx (r_loc rfl) r_cst rfl) r_cst (eqStr (by decide +kernel))) (t_or_f (t_not_f (t_call (r_cons (r_idx (r_loc rfl) r_cst rfl) (r_cons (r_idx (r_loc rfl) r_cst rfl) r_nil)) al rfl)) (t_cmp (r_call (r_cons (r_idx (r_loc rfl) r_cst rfl) r_nil) vt) (r_loc rfl) (neStr (by rw [decide_eq_true rfl]; rfl)))))) s_nil) s_nil)), .ext hb (xx1.trans xx2)⟩
    · exact absurd t1 (h w p60)
theorem lap_law (hb : Bag B g) : ∃ y3 y4 y5 y6 y7 y8 y9 y10 g', exS (Ek T 89) lapB (rL s B x2 x3 x4 x5 x6 x7 x8 x9 x10 x11 x12 x13) g = .ok (.next (rL s B x2 y3 y4 y5 y6 y7 y8 y9 y10 x11 x12 x13)) g' ∧ Stp B g g' := by
  obtain ⟨v, g1, e1, s1, hd⟩ := drawn 3 83 g hb
  have hv : (txt v).length ≤ 1037 := by
    have h1 := txt_wt 3 v hd.pl
    have h2 := hd.w
    have e : wM 3 = 1037 := by decide
    omega
  have hc : (txt v).count 40 ≤ 13 := by
    have h := hd.c
    have e : cM 3 = 13 := by decide
    unfold cnt at h
    omega
  have hp := plain_mono (by decide : 3 ≤ 60) hd.pl
  have st1 : exS (Ek T 89) L1 (rL s B x2 x3 x4 x5 x6 x7 x8 x9 x10 x11 x12 x13) g = .ok (.next (rL s B x2 (some v) x4 x5 x6 x7 x8 x9 x10 x11 x12 x13)) g1 := s_set (r_call (r_cons (r_loc rfl) (r_cons r_cst r_nil)) e1)
  have st2 : exS (Ek T 89) L2 (rL s B x2 (some v) x4 x5 x6 x7 x8 x9 x10 x11 x12 x13) g1 = .ok (.next (rL s B x2 (some v) (some (.str (mk (txt v)))) x5 x6 x7 x8 x9 x10 x11 x12 x13)) g1 :=
    s_set (r_call (r_cons (r_loc rfl) r_nil) (l_text 60 88 v (by decide) hp (by show _ ≤ 16777216; omega)))
  obtain ⟨g2, st3, x3'⟩ := ask (s := s) (B := B) (x2 := x2) (x5 := x5) (x6 := x6) (x7 := x7) (x8 := x8) (x9 := x9) (x10 := x10) (x11 := x11) (x12 := x12) (x13 := x13) (g := g1) hp (by omega)
  have s2 := s1.next x3'
  obtain ⟨g3, y5, y6, st4, s3⟩ := others (s := s) (x2 := x2) (x4 := some (.str (mk (txt v)))) (x5 := x5) (x6 := x6) (x7 := x7) (x8 := x8) (x9 := x9) (x10 := x10) (x11 := x11) (x12 := x12) (x13 := x13) s2.bag hd
  obtain ⟨d, bs, g4, g5, st5, st6, s5, b1, b2⟩ := bend (s := s) (v := v) (cs := txt v) (x2 := x2) (x5 := y5) (x6 := y6) (x7 := x7) (x8 := x8) (x9 := x9) (x10 := x10) (x11 := x11) (x12 := x12) (x13 := x13) s3.bag (by omega)
  obtain ⟨y9, y10, g6, st7, s6⟩ := judge (s := s) (v := v) (x2 := x2) (x3 := some v) (x4 := some (.str (mk (txt v)))) (x5 := y5) (x6 := y6) (x7 := some (.int d)) (x9 := x9) (x10 := x10) (x11 := x11) (x12 := x12) (x13 := x13) s5.bag b1 (by omega)
  exact ⟨_, _, _, _, _, _, _, _, g6, s_seq st1 (s_seq st2 (s_seq st3 (s_seq st4 (s_seq st5 (s_seq st6 st7))))), ((s2.trans s3).trans s5).trans s6⟩
theorem laps_law : ∀ (N i n : Nat) (g : MH) (x2 x3 x4 x5 x6 x7 x8 x9 x10 : Option MV), i + N = 20 → N < n → Bag B g → ∃ y2 y3 y4 y5 y6 y7 y8 y9 y10 g', loopF (.seq (rangeL 0 20)) (fun v r => asgn (.nm 2) v r) (fun r g => exS (Ek T 89) lapB r g) n i (rL s B x2 x3 x4 x5 x6 x7 x8 x9 x10 x11 x12 x13) g = .ok (.next (rL s B y2 y3 y4 y5 y6 y7 y8 y9 y10 x11 x12 x13)) g' ∧ Stp B g g' := by
  intro N
  induction N with
  | zero =>
    intro i n g x2 x3 x4 x5 x6 x7 x8 x9 x10 hi hn hb
    obtain ⟨n, rfl⟩ : ∃ m, n = m + 1 := ⟨n - 1, by omega⟩
    obtain rfl : i = 20 := by omega
    exact ⟨x2, x3, x4, x5, x6, x7, x8, x9, x10, g, f_stop rfl, .refl hb⟩
  | succ N ih =>
    intro i n g x2 x3 x4 x5 x6 x7 x8 x9 x10 hi hn hb
    obtain ⟨n, rfl⟩ : ∃ m, n = m + 1 := ⟨n - 1, by omega⟩
    obtain ⟨y3, y4, y5, y6, y7, y8, y9, y10, g1, e, s1⟩ := lap_law (s := s) (x2 := some (.int (i : Int))) (x3 := x3) (x4 := x4) (x5 := x5) (x6 := x6) (x7 := x7) (x8 := x8) (x9 := x9) (x10 := x10) (x11 := x11) (x12 := x12) (x13 := x13) hb
    obtain ⟨z2, z3, z4, z5, z6, z7, z8, z9, z10, g2, e2, s2⟩ := ih (i + 1) n g1 (some (.int (i : Int))) y3 y4 y5 y6 y7 y8 y9 y10 (by omega) (by omega) s1.bag
    refine ⟨z2, z3, z4, z5, z6, z7, z8, z9, z10, g2, (f_next (v := .int (i : Int)) ?_ rfl e).trans e2, s1.trans s2⟩
    simp only [MIt.item, rangeL]
    rw [List.getElem?_map, List.getElem?_range (by show i < 20; omega)]
    simp
end
end K88
end
section
set_option Elab.async false
set_option linter.all false
set_option autoImplicit false
set_option maxRecDepth 100000
set_option maxHeartbeats 4000000
namespace K88
open PySem (Str PyData)
open MP
/-! ### the law -/
def absI (i : Int) : Int := if i < 0 then -i else i
def absV : MV → MV
  | .int i => .int (absI i)
  | v => v
theorem bag_law (ns : List Int) (h : ns.length ≤ 63) (k : Nat) : ∃ g, callF T (k + 1) f_l_bag [.frl (ns.map .int)] [] = .ok (.loc 1) g ∧ Bag 1 g := by
  have hc : (cut (ns.map MV.int) none (some 63)).length ≤ 63 := by
    have := cut_len (ns.map MV.int) none (some 63)
    rw [List.length_map] at this
    omega
  have hm : ∀ x ∈ cut (ns.map MV.int) none (some 63), ∃ i : Int, x = .int i := fun x hx => by
    obtain ⟨i, _, rfl⟩ := List.mem_map.mp (mem_cut hx)
    exact ⟨i, rfl⟩
  have q : evL (Ek T k) (.comp [1] (.nm 1) (.itL (.slL (.loc 0) .nil (.cons (.cst (.int 63)) .nil))) .nil (.bi1 .abs (.loc 1))) [some (.frl (ns.map .int)), none] [] = .ok ((cut (ns.map MV.int) none (some 63)).map absV) [] := by
    refine l_comp0 (i_itL (l_slL (r_loc rfl) r_o_nil (r_o r_cst) rfl)) (loopC_map (fun x hx => ?_) (by show _ ≤ 16777216; omega))
    obtain ⟨i, rfl⟩ := hm x hx
    exact ⟨_, rfl, rfl, r_bi1 (r_loc rfl) rfl⟩
  refine ⟨_, c_ret rfl rfl (s_seq_ret (s_ret (r_lst (l_disp (r_cons r_cst (r_cons r_cst (r_cons r_cst (r_cons (r_lst q) r_nil)))) (by show 4 ≤ 16777216; decide))))), 0, 1234567891, 0, 0, (cut (ns.map MV.int) none (some 63)).map (fun v => match absV v with | .int i => i | _ => 0), rfl, ?_, by decide, by decide, by decide, by decide, by rw [List.length_map]; exact hc, ?_⟩
  · show some (MO.lst _) = some (MO.lst _)
    rw [List.map_map]
    refine congrArg some (congrArg MO.lst (List.map_congr_left fun x hx => ?_))
    obtain ⟨i, rfl⟩ := hm x hx
    rfl
  · intro x hx
    obtain ⟨y, hy, rfl⟩ := List.mem_map.mp hx
    obtain ⟨i, rfl⟩ := hm y hy
    show 0 ≤ absI i
    unfold absI
    split <;> omega
def nest : Nat → MV
  | 0 => .non
  | n + 1 => .tup [nest n]
theorem nest_plain : ∀ n, plainB n (nest n) = true
  | 0 => rfl
  | n + 1 => by rw [nest, plainB_tup]; simp [nest_plain n]
theorem nest_not : ∀ n, plainB n (nest (n + 1)) = false
  | 0 => rfl
  | n + 1 => by rw [nest, plainB_tup]; simp [nest_not n]
theorem nest_wt : ∀ n, wt (nest n) = 31 + 3 * n
  | 0 => rfl
  | n + 1 => by rw [nest, wt, wts, wts, nest_wt n]; omega
section
variable {s : MV} {B : Nat} {x2 x3 x4 x5 x6 x7 x8 x9 x10 x11 x12 x13 : Option MV} {g : MH}
theorem nest_loop : ∀ (N i n : Nat) (x12 : Option MV), i + N = 60 → N < n → ∃ y12, loopF (.seq (rangeL 0 60)) (fun v r => asgn (.nm 12) v r) (fun r g => exS (Ek T 89) (.seq (.set 11 (.tup (.cons (.loc 11) .nil))) .nil) r g) n i (rL s B x2 x3 x4 x5 x6 x7 x8 x9 x10 (some (nest i)) x12 x13) g = .ok (.next (rL s B x2 x3 x4 x5 x6 x7 x8 x9 x10 (some (nest 60)) y12 x13)) g := by
  intro N
  induction N with
  | zero =>
    intro i n x12 hi hn
    obtain ⟨n, rfl⟩ : ∃ m, n = m + 1 := ⟨n - 1, by omega⟩
    obtain rfl : i = 60 := by omega
    exact ⟨x12, f_stop rfl⟩
  | succ N ih =>
    intro i n x12 hi hn
    obtain ⟨n, rfl⟩ : ∃ m, n = m + 1 := ⟨n - 1, by omega⟩
    obtain ⟨y12, e⟩ := ih (i + 1) n (some (.int (i : Int))) (by omega) (by omega)
    have body : exS (Ek T 89) (.seq (.set 11 (.tup (.cons (.loc 11) .nil))) .nil) (rL s B x2 x3 x4 x5 x6 x7 x8 x9 x10 (some (nest i)) (some (.int (i : Int))) x13) g = .ok (.next (rL s B x2 x3 x4 x5 x6 x7 x8 x9 x10 (some (nest (i + 1))) (some (.int (i : Int))) x13)) g :=
      s_seq (s_set (r_tup (r_cons (r_loc rfl) r_nil) (by show 1 ≤ 16777216; decide))) s_nil
    refine ⟨y12, (f_next (v := .int (i : Int)) ?_ rfl body).trans e⟩
    simp only [MIt.item, rangeL]
    rw [List.getElem?_map, List.getElem?_range (by show i < 60; omega)]
    simp
abbrev M5 : XS := hdS (tlS (tlS (tlS (tlS b_law))))
abbrev M6 : XS := tlS (tlS (tlS (tlS (tlS b_law))))
theorem eq_lists {l1 l2 : Nat} {xs : List MV} {ds : List PyData} (h1 : g[l1]? = some (.lst xs)) (h2 : g[l2]? = some (.lst xs)) (hd : xs.mapM (toD 65 g) = some ds) (hs : PySem.SeqAt.shaped (.list ds) = true) : eqV g (.loc l1) (.loc l2) = some true := by
  have q : ∀ l, g[l]? = some (.lst xs) → toD 66 g (.loc l) = some (.list ds) := fun l h => by
    show (match g[l]? with
        | some (.lst xs) => (xs.mapM (toD 65 g)).map PyData.list
        | _ => none) = _
    rw [h]
    simp only []
    rw [hd]
    rfl
  exact eqV_d rfl (q l1 h1) (q l2 h2) hs
theorem end_law {N : MV} (hp : plainB 60 N = true) (hq : plainB 60 (.tup [N]) = false) (hz : wt N ≤ 1000) : ∃ g', exS (Ek T 89) (.seq M5 M6) (rL s B x2 x3 x4 x5 x6 x7 x8 x9 x10 (some N) x12 x13) g = .ok (.ret (.bl true)) g' := by
  have hw : (txt N).length ≤ 16777216 := by
    have h1 := txt_wt 60 N hp
    omega
  have wf : ∀ g' : MH, Wf g' N := fun g' => plain_wf 60 _ hp hw
  have e1 := is_plain_value (g := g) 88 (by decide) (wf g)
  rw [hp] at e1
  have e2 := is_plain_value (g := g) (v := .tup [N]) 88 (by decide) (.tup _ (by show 1 ≤ 16777216; decide) (fun x hx => by rw [List.mem_singleton.mp hx]; exact wf g))
  rw [hq] at e2
  have e3 := l_text (g := g) 60 88 N (by decide) hp hw
  obtain ⟨g1, e4, x1⟩ : ∃ g1, callF T 89 f_read_value [.str (mk (txt N))] g = .ok N g1 ∧ Ext g g1 := by
    rcases read_value (g := g) (cs := txt N) 25 hw with ⟨w, g1, e, x, h1, h2⟩ | ⟨n, g1, e, x, h⟩
    · have := txt_inj ⟨60, hp⟩ ⟨60, h2⟩ h1 hw
      rw [← this] at e
      exact ⟨g1, e, x⟩
    · exact absurd rfl (h _ hp)
  obtain ⟨g2, eg2⟩ : ∃ g2, g2 = g1 ++ [MO.lst [.bl true, .bl false, .bl true]] := ⟨_, rfl⟩
  obtain ⟨g3, eg3⟩ : ∃ g3, g3 = g2 ++ [MO.lst [.bl true, .bl false, .bl true]] := ⟨_, rfl⟩
  obtain ⟨g4, eg4⟩ : ∃ g4, g4 = g3 ++ [MO.lst [.tup [.str (Str.ofString "nothing")], .tup [.str (Str.ofString "nothing")], .tup [.str (Str.ofString "nothing")]]] := ⟨_, rfl⟩
  obtain ⟨g5, eg5⟩ : ∃ g5, g5 = g4 ++ [MO.lst [.tup [.str (Str.ofString "nothing")], .tup [.str (Str.ofString "nothing")], .tup [.str (Str.ofString "nothing")]]] := ⟨_, rfl⟩
  have x3' : Ext g2 g3 := by rw [eg3]; exact .app
  have x5' : Ext g4 g5 := by rw [eg5]; exact .app
  have l2 : g3[g1.length]? = some (.lst [.bl true, .bl false, .bl true]) := by rw [x3'.keep _ (by rw [eg2]; simp), eg2]; exact at_new
  have l3 : g3[g2.length]? = some (.lst [.bl true, .bl false, .bl true]) := by rw [eg3]; exact at_new
  have l4 : g5[g3.length]? = some (.lst [.tup [.str (Str.ofString "nothing")], .tup [.str (Str.ofString "nothing")], .tup [.str (Str.ofString "nothing")]]) := by rw [x5'.keep _ (by rw [eg4]; simp), eg4]; exact at_new
  have l5 : g5[g4.length]? = some (.lst [.tup [.str (Str.ofString "nothing")], .tup [.str (Str.ofString "nothing")], .tup [.str (Str.ofString "nothing")]]) := by rw [eg5]; exact at_new
  have q1 := eq_lists (ds := [.bool true, .bool false, .bool true]) l2 l3 rfl (by decide)
  have q2 := eq_lists (ds := [.tuple [.str (Str.ofString "nothing")], .tuple [.str (Str.ofString "nothing")], .tuple [.str (Str.ofString "nothing")]]) l4 l5 rfl (by decide +kernel)
  have st5 : exS (Ek T 89) M5 (rL s B x2 x3 x4 x5 x6 x7 x8 x9 x10 (some N) x12 x13) g = .ok (.next (rL s B x2 x3 x4 x5 x6 x7 x8 x9 (some (.loc g1.length)) (some N) x12 x13)) g2 := by
    rw [eg2]
    exact s_set (r_lst (l_disp (r_cons (r_call (r_cons (r_loc rfl) r_nil) e1) (r_cons (r_call (r_cons (r_tup (r_cons (r_loc rfl) r_nil) (by show 1 ≤ 16777216; decide)) r_nil) e2) (r_cons (r_cmp (r_call (r_cons (r_call (r_cons (r_loc rfl) r_nil) e3) r_nil) e4) (r_loc rfl) (eqV_refl hp)) r_nil))) (by show 3 ≤ 16777216; decide)))
  have a1 : evE (Ek T 89) (.lstOf (.disp (.cons (.cst (.bl true)) (.cons (.cst (.bl false)) (.cons (.cst (.bl true)) .nil))))) (rL s B x2 x3 x4 x5 x6 x7 x8 x9 (some (.loc g1.length)) (some N) x12 x13) g2 = .ok (.loc g2.length) g3 := by
    rw [eg3]
    exact r_lst (l_disp (r_cons r_cst (r_cons r_cst (r_cons r_cst r_nil))) (by show 3 ≤ 16777216; decide))
  have a2 : evE (Ek T 89) (.lstOf (.comp [13] (.nm 13) (.itV (.tup (.cons (.cst .non) (.cons (.cst (.int 1)) (.cons (.tup (.cons (.cst (.str ("x" : PySem.Str))) .nil)) .nil))))) .nil (.call 29 (.cons (.cst (.int 1)) (.cons (.loc 13) .nil))))) (rL s B x2 x3 x4 x5 x6 x7 x8 x9 (some (.loc g1.length)) (some N) x12 x13) g3 = .ok (.loc g3.length) g4 := by
    rw [eg4]
    refine r_lst (l_comp0 (i_itV (r_tup (r_cons r_cst (r_cons r_cst (r_cons (r_tup (r_cons r_cst r_nil) (by show 1 ≤ 16777216; decide)) r_nil))) (by show 3 ≤ 16777216; decide)) rfl) (loopC_map (f := fun _ => .tup [.str (Str.ofString "nothing")]) (fun x hx => ?_) (by show 3 ≤ 16777216; decide)))
    simp only [List.mem_cons, List.not_mem_nil, or_false] at hx
    have go : Wf g3 x ∧ isS x = false := by
      rcases hx with rfl | rfl | rfl
      · exact ⟨.non, rfl⟩
      · exact ⟨.int _, rfl⟩
      · exact ⟨clB_wf _ (by decide +kernel), rfl⟩
    exact ⟨_, rfl, rfl, r_call (r_cons r_cst (r_cons (r_loc rfl) r_nil)) (come_not_text 87 go.1 go.2)⟩
  have a3 : evE (Ek T 89) (.lstOf (.repL (.disp (.cons (.tup (.cons (.cst (.str ("nothing" : PySem.Str))) .nil)) .nil)) (.cst (.int 3)))) (rL s B x2 x3 x4 x5 x6 x7 x8 x9 (some (.loc g1.length)) (some N) x12 x13) g4 = .ok (.loc g4.length) g5 := by
    rw [eg5]
    exact r_lst (l_repL (l_disp (r_cons (r_tup (r_cons r_cst r_nil) (by show 1 ≤ 16777216; decide)) r_nil) (by show 1 ≤ 16777216; decide)) r_cst (by decide))
  exact ⟨g5, s_seq st5 (s_seq_ret (s_ret (r_and_t (r_cmp (r_loc rfl) a1 q1) rfl (r_cmp a2 a3 q2))))⟩
end
theorem plain (ns : List Int) (h : ns.length ≤ 63) : ∃ g', callF T 90 f_law [.frl (ns.map .int)] [] = .ok (.bl true) g' := by
  obtain ⟨g, e1, hb⟩ := bag_law ns h 88
  obtain ⟨y2, y3, y4, y5, y6, y7, y8, y9, y10, g1, e2, s1⟩ := laps_law (s := .frl (ns.map .int)) (B := 1) (x11 := none) (x12 := none) (x13 := none) 20 0 FUEL g none none none none none none none none none rfl (by decide) hb
  obtain ⟨y12, e3⟩ := nest_loop (s := .frl (ns.map .int)) (B := 1) (x2 := y2) (x3 := y3) (x4 := y4) (x5 := y5) (x6 := y6) (x7 := y7) (x8 := y8) (x9 := y9) (x10 := y10) (x13 := none) (g := g1) 60 0 FUEL none rfl (by decide)
  obtain ⟨N, eN⟩ : ∃ N, N = nest 60 := ⟨_, rfl⟩
  rw [← eN] at e3
  obtain ⟨g2, e4⟩ := end_law (N := N) (by rw [eN]; exact nest_plain 60) (by rw [eN]; exact nest_not 60) (by rw [eN, nest_wt]; decide) (s := .frl (ns.map .int)) (B := 1) (x2 := y2) (x3 := y3) (x4 := y4) (x5 := y5) (x6 := y6) (x7 := y7) (x8 := y8) (x9 := y9) (x10 := y10) (x12 := y12) (x13 := none) (g := g1)
  exact ⟨g2, c_ret rfl rfl (s_seq (s_set (r_call (r_cons (r_loc rfl) r_nil) e1)) (s_seq (s_for (i_rng1 r_cst (by decide)) e2) (s_seq (s_set r_cst) (s_seq (s_for (i_rng1 r_cst (by decide)) e3) e4))))⟩
end K88
end
section
set_option Elab.async false
set_option linter.all false
set_option autoImplicit false
set_option maxRecDepth 100000
set_option maxHeartbeats 2000000
/-! The small language against the model, 1: how values and heaps answer each other; futures; calls. -/
namespace MPS
open PySem PySem.Spec L2
open PyProof.Rows hiding St
open MP (MV MO MH MSt Res)

/-- what a module's name stands for -/
inductive GV where
  | fn (f : Nat) | cst (v : MV) | cls (c : Nat) | exc (c : Nat)
/-- the text's names -/
structure Nm where
  T : MP.Tab
  attrs : List Str
  efs : Nat → List Str
  gl : List (Str × GV)
  free : List Str
  exT : List (List Bool)
def Nm.exm (M : Nm) (c c' : Nat) : Option Bool := (M.exT[c]?).bind fun r => r[c']?
structure Sc where
  nm : Nm
  fa : Nat → Addr
  ca : Nat → Addr
  ea : Nat → Addr
abbrev Sc.T (S : Sc) : MP.Tab := S.nm.T
abbrev Sc.attrs (S : Sc) : List Str := S.nm.attrs
abbrev Sc.efs (S : Sc) : Nat → List Str := S.nm.efs

def KList (K : PySem.W.Frag) (a : Addr) (xs : List V) : Prop :=
  ∃ (o : Obj) (its : Array Value) (n : Nat), K.lookup a = some o ∧ o.cls = .type "list" ∧ o.dict = none ∧ o.data = .seq its n ∧ its.size ≤ sizeLine ∧ Vals xs its.toList
/-- a list that nobody writes -/
def FzL (K : PySem.W.Frag) (H : Hp) (a : Addr) (xs : List V) : Prop := (∃ o, H a = some (.frz o (.lst xs))) ∨ KList K a xs
theorem FzL.sq {K : PySem.W.Frag} {H : Hp} {a : Addr} {xs : List V} (h : FzL K H a xs) : SqL K H a xs := by
  rcases h with ⟨o, h⟩ | h
  · exact .inl (.inr ⟨o, h⟩)
  · exact .inr h

mutual
inductive RV (S : Sc) (K : PySem.W.Frag) (ι : Nat → Addr) (n : Nat) (H : Hp) : MV → V → Prop
  | non : RV S K ι n H .non .non
  | bl (b : Bool) : RV S K ι n H (.bl b) (.bl b)
  | int (i : Int) : RV S K ι n H (.int i) (.int i)
  | str (x : Str) : RV S K ι n H (.str x) (.str x)
  | tup {xs : List MV} {vs : List V} {a : Addr} : SqT K H a vs → RVs S K ι n H xs vs → RV S K ι n H (.tup xs) (.ref a)
  | frl {xs : List MV} {vs : List V} {a : Addr} : FzL K H a vs → RVs S K ι n H xs vs → RV S K ι n H (.frl xs) (.ref a)
  | loc {l : Nat} : l < n → RV S K ι n H (.loc l) (.ref (ι l))
  | fn (f : Nat) : RV S K ι n H (.fn f) (.ref (S.fa f))
inductive RVs (S : Sc) (K : PySem.W.Frag) (ι : Nat → Addr) (n : Nat) (H : Hp) : List MV → List V → Prop
  | nil : RVs S K ι n H [] []
  | cons {x : MV} {v : V} {xs : List MV} {vs : List V} : RV S K ι n H x v → RVs S K ι n H xs vs → RVs S K ι n H (x :: xs) (v :: vs)
end

section
variable {S : Sc} {K : PySem.W.Frag} {ι ι' : Nat → Addr} {n n' : Nat} {H H' : Hp}
mutual
theorem RV.mono (hn : n ≤ n') (hi : ∀ l, l < n → ι' l = ι l) (ht : ∀ a xs, SqT K H a xs → SqT K H' a xs) (hf : ∀ a xs, FzL K H a xs → FzL K H' a xs) :
    ∀ {x : MV} {v : V}, RV S K ι n H x v → RV S K ι' n' H' x v
  | _, _, .non => .non
  | _, _, .bl b => .bl b
  | _, _, .int i => .int i
  | _, _, .str x => .str x
  | _, _, .tup h r => .tup (ht _ _ h) (RVs.mono hn hi ht hf r)
  | _, _, .frl h r => .frl (hf _ _ h) (RVs.mono hn hi ht hf r)
  | _, _, .loc (l := l) h => by
    rw [← hi l h]
    exact .loc (Nat.lt_of_lt_of_le h hn)
  | _, _, .fn f => .fn f
theorem RVs.mono (hn : n ≤ n') (hi : ∀ l, l < n → ι' l = ι l) (ht : ∀ a xs, SqT K H a xs → SqT K H' a xs) (hf : ∀ a xs, FzL K H a xs → FzL K H' a xs) :
    ∀ {xs : List MV} {vs : List V}, RVs S K ι n H xs vs → RVs S K ι' n' H' xs vs
  | _, _, .nil => .nil
  | _, _, .cons h r => .cons (RV.mono hn hi ht hf h) (RVs.mono hn hi ht hf r)
end
theorem RVs.length {xs : List MV} {vs : List V} : RVs S K ι n H xs vs → xs.length = vs.length
  | .nil => rfl
  | .cons _ r => by rw [List.length_cons, List.length_cons, RVs.length r]
theorem RVs.get {xs : List MV} {vs : List V} : RVs S K ι n H xs vs → ∀ {i : Nat} {x : MV}, xs[i]? = some x → ∃ v, vs[i]? = some v ∧ RV S K ι n H x v
  | .nil, _, _, e => by simp at e
  | .cons h r, 0, _, e => by
    simp at e; subst e
    exact ⟨_, rfl, h⟩
  | .cons h r, i + 1, _, e => by
    obtain ⟨v, e1, h1⟩ := RVs.get r (i := i) (by simpa using e)
    exact ⟨v, by simpa using e1, h1⟩
theorem RVs.append {xs ys : List MV} {vs ws : List V} : RVs S K ι n H xs vs → RVs S K ι n H ys ws → RVs S K ι n H (xs ++ ys) (vs ++ ws)
  | .nil, q => q
  | .cons h r, q => .cons h (RVs.append r q)
theorem RVs.take {xs : List MV} {vs : List V} : ∀ (k : Nat), RVs S K ι n H xs vs → RVs S K ι n H (xs.take k) (vs.take k)
  | 0, _ => by simp; exact .nil
  | _ + 1, .nil => by simp; exact .nil
  | k + 1, .cons h r => .cons h (RVs.take k r)
theorem RVs.drop {xs : List MV} {vs : List V} : ∀ (k : Nat), RVs S K ι n H xs vs → RVs S K ι n H (xs.drop k) (vs.drop k)
  | 0, r => r
  | _ + 1, .nil => by simp; exact .nil
  | k + 1, .cons h r => RVs.drop k r
theorem RVs.reverse {xs : List MV} {vs : List V} : RVs S K ι n H xs vs → RVs S K ι n H xs.reverse vs.reverse
  | .nil => .nil
  | .cons h r => by
    rw [List.reverse_cons, List.reverse_cons]
    exact RVs.append (RVs.reverse r) (.cons h .nil)
theorem RVs.set {xs : List MV} {vs : List V} {x : MV} {v : V} (q : RV S K ι n H x v) : ∀ (i : Nat), RVs S K ι n H xs vs → RVs S K ι n H (xs.set i x) (vs.set i v)
  | _, .nil => .nil
  | 0, .cons h r => .cons q r
  | i + 1, .cons h r => .cons h (RVs.set q i r)
theorem RVs.dropLast {xs : List MV} {vs : List V} (r : RVs S K ι n H xs vs) : RVs S K ι n H xs.dropLast vs.dropLast := by
  rw [List.dropLast_eq_take, List.dropLast_eq_take, r.length]
  exact r.take _
theorem RVs.rep {xs : List MV} {vs : List V} (r : RVs S K ι n H xs vs) : ∀ k : Nat, RVs S K ι n H (List.replicate k xs).flatten (List.replicate k vs).flatten
  | 0 => .nil
  | k + 1 => by
    rw [List.replicate_succ, List.replicate_succ, List.flatten_cons, List.flatten_cons]
    exact r.append (RVs.rep r k)
theorem RVs.empty {xs : List MV} {vs : List V} (r : RVs S K ι n H xs vs) : xs.isEmpty = vs.isEmpty := by cases r <;> rfl
end

/-- an object of the small heap -/
def RO (S : Sc) (K : PySem.W.Frag) (ι : Nat → Addr) (n : Nat) (H : Hp) (a : Addr) : MO → Prop
  | .lst xs => ∃ vs, RVs S K ι n H xs vs ∧ H a = some (.lst vs)
  | .ins c fs => ∃ (dx : Addr) (vs : List (Str × V)), H a = some (.ins (S.ca c) dx vs) ∧ Paired (fun (p : Nat × MV) (q : Str × V) => S.attrs[p.1]? = some q.1 ∧ RV S K ι n H p.2 q.2) fs vs
  | .dic kvs => ∃ ks : List (Key × V), H a = some (.dK ks) ∧ Paired (fun (p : MV × MV) (q : Key × V) => RV S K ι n H p.1 (kV q.1) ∧ RV S K ι n H p.2 q.2) kvs ks
structure Sim (S : Sc) (K : PySem.W.Frag) (ι : Nat → Addr) (g : MH) (H : Hp) : Prop where
  obj : ∀ (l : Nat) (o : MO), g[l]? = some o → RO S K ι g.length H (ι l) o
  inj : ∀ i j, i < g.length → j < g.length → ι i = ι j → i = j
/-- what later may be -/
structure Fut (S : Sc) (K : PySem.W.Frag) (ι : Nat → Addr) (g : MH) (H : Hp) (ι' : Nat → Addr) (g' : MH) (H' : Hp) : Prop where
  sim : Sim S K ι' g' H'
  le : g.length ≤ g'.length
  agree : ∀ l, l < g.length → ι' l = ι l
  fresh : ∀ l, g.length ≤ l → l < g'.length → H (ι' l) = none
  keep : ∀ b o, H b = some o → (∀ l, l < g.length → ι l ≠ b) → H' b = some o
section
variable {S : Sc} {K : PySem.W.Frag} {ι ι1 ι2 : Nat → Addr} {g g1 g2 : MH} {H H1 H2 : Hp}
theorem Sim.has {l : Nat} (s : Sim S K ι g H) (h : l < g.length) : ∃ u, H (ι l) = some u ∧ ((∃ vs, u = .lst vs) ∨ (∃ C dx vs, u = .ins C dx vs) ∨ ∃ ks, u = .dK ks) := by
  have q := s.obj l g[l] (by simp [h])
  cases e : g[l] with
  | lst xs =>
    rw [e] at q
    obtain ⟨vs, _, z⟩ := q
    exact ⟨_, z, .inl ⟨_, rfl⟩⟩
  | ins c fs =>
    rw [e] at q
    obtain ⟨dx, vs, z, _⟩ := q
    exact ⟨_, z, .inr (.inl ⟨_, _, _, rfl⟩)⟩
  | dic kvs =>
    rw [e] at q
    obtain ⟨ks, z, _⟩ := q
    exact ⟨_, z, .inr (.inr ⟨_, rfl⟩)⟩
theorem Sim.ne {l : Nat} {b : Addr} {o : HO} (s : Sim S K ι g H) (h : l < g.length) (e : H b = some o) (h1 : ∀ vs, o ≠ .lst vs) (h2 : ∀ C dx vs, o ≠ .ins C dx vs) (h3 : ∀ ks, o ≠ .dK ks) : ι l ≠ b := by
  rintro rfl
  obtain ⟨u, e1, q⟩ := s.has h
  rw [e] at e1
  cases e1
  rcases q with ⟨vs, q⟩ | ⟨C, dx, vs, q⟩ | ⟨ks, q⟩
  · exact h1 _ q
  · exact h2 _ _ _ q
  · exact h3 _ q
theorem Sim.neNone {l : Nat} {b : Addr} (s : Sim S K ι g H) (h : l < g.length) (e : H b = none) : ι l ≠ b := by
  rintro rfl
  obtain ⟨u, e1, _⟩ := s.has h
  rw [e] at e1
  cases e1
theorem Fut.refl (s : Sim S K ι g H) : Fut S K ι g H ι g H := ⟨s, Nat.le_refl _, fun _ _ => rfl, fun l h1 h2 => absurd h2 (Nat.not_lt.mpr h1), fun _ _ e _ => e⟩
theorem Fut.tup (s : Sim S K ι g H) (f : Fut S K ι g H ι1 g1 H1) {a : Addr} {xs : List V} (h : SqT K H a xs) : SqT K H1 a xs := by
  rcases h with (h | ⟨o, h⟩) | h
  · exact .inl (.inl (f.keep _ _ h fun l hl => s.ne hl h (fun _ q => nomatch q) (fun _ _ _ q => nomatch q) fun _ q => nomatch q))
  · exact .inl (.inr ⟨o, f.keep _ _ h fun l hl => s.ne hl h (fun _ q => nomatch q) (fun _ _ _ q => nomatch q) fun _ q => nomatch q⟩)
  · exact .inr h
theorem Fut.frl (s : Sim S K ι g H) (f : Fut S K ι g H ι1 g1 H1) {a : Addr} {xs : List V} (h : FzL K H a xs) : FzL K H1 a xs := by
  rcases h with ⟨o, h⟩ | h
  · exact .inl ⟨o, f.keep _ _ h fun l hl => s.ne hl h (fun _ q => nomatch q) (fun _ _ _ q => nomatch q) fun _ q => nomatch q⟩
  · exact .inr h
theorem Fut.rv (s : Sim S K ι g H) (f : Fut S K ι g H ι1 g1 H1) {x : MV} {v : V} (r : RV S K ι g.length H x v) : RV S K ι1 g1.length H1 x v :=
  r.mono f.le f.agree (fun _ _ h => f.tup s h) fun _ _ h => f.frl s h
theorem Fut.rvs (s : Sim S K ι g H) (f : Fut S K ι g H ι1 g1 H1) {xs : List MV} {vs : List V} (r : RVs S K ι g.length H xs vs) : RVs S K ι1 g1.length H1 xs vs :=
  r.mono f.le f.agree (fun _ _ h => f.tup s h) fun _ _ h => f.frl s h
theorem Fut.trans (s : Sim S K ι g H) (a : Fut S K ι g H ι1 g1 H1) (b : Fut S K ι1 g1 H1 ι2 g2 H2) : Fut S K ι g H ι2 g2 H2 where
  sim := b.sim
  le := Nat.le_trans a.le b.le
  agree := fun l h => (b.agree l (Nat.lt_of_lt_of_le h a.le)).trans (a.agree l h)
  fresh := fun l h1 h2 => by
    by_cases h : l < g1.length
    · rw [b.agree l h]
      exact a.fresh l h1 h
    · have q := b.fresh l (Nat.not_lt.mp h) h2
      cases e : H (ι2 l) with
      | none => rfl
      | some u =>
        by_cases hb : ∀ m, m < g.length → ι m ≠ ι2 l
        · rw [a.keep _ _ e hb] at q
          cases q
        · obtain ⟨m, hm, em⟩ : ∃ m, m < g.length ∧ ι m = ι2 l := by
            false_or_by_contra
            rename_i hx
            exact hb fun m hm em => hx ⟨m, hm, em⟩
          obtain ⟨u', e', _⟩ := a.sim.has (Nat.lt_of_lt_of_le hm a.le)
          rw [a.agree m hm, em, q] at e'
          cases e'
  keep := fun c o e h => b.keep c o (a.keep c o e h) fun l hl => by
    by_cases h1 : l < g.length
    · rw [a.agree l h1]
      exact h l h1
    · intro z
      have q := a.fresh l (Nat.not_lt.mp h1) hl
      rw [z, e] at q
      cases q
/-- not in the small heap -/
def Out (ι : Nat → Addr) (g : MH) (b : Addr) : Prop := ∀ l, l < g.length → ι l ≠ b
theorem Fut.out (f : Fut S K ι g H ι1 g1 H1) {b : Addr} {o : HO} (e : H b = some o) (h : Out ι g b) : Out ι1 g1 b := fun l hl z => by
  by_cases h1 : l < g.length
  · exact h l h1 ((f.agree l h1).symm.trans z)
  · have q := f.fresh l (Nat.not_lt.mp h1) hl
    rw [z, e] at q
    cases q
/-- what was new later was new at first -/
theorem Fut.was (s : Sim S K ι g H) (f : Fut S K ι g H ι1 g1 H1) {b : Addr} (h : H1 b = none) : H b = none := by
  cases e : H b with
  | none => rfl
  | some u =>
    by_cases hb : ∀ m, m < g.length → ι m ≠ b
    · rw [f.keep _ _ e hb] at h
      cases h
    · obtain ⟨m, hm, em⟩ : ∃ m, m < g.length ∧ ι m = b := by
        false_or_by_contra
        rename_i hx
        exact hb fun m hm em => hx ⟨m, hm, em⟩
      obtain ⟨u', e', _⟩ := f.sim.has (Nat.lt_of_lt_of_le hm f.le)
      rw [f.agree m hm, em, h] at e'
      cases e'
theorem Paired.imp {α β : Type} {F F' : α → β → Prop} (h : ∀ a b, F a b → F' a b) : ∀ {l : List α} {m : List β}, Paired F l m → Paired F' l m
  | _, _, .nil => .nil
  | _, _, .cons r t => .cons (h _ _ r) (Paired.imp h t)
theorem RO.mono {n n' : Nat} {a : Addr} (hr : ∀ x v, RV S K ι n H x v → RV S K ι1 n' H1 x v) (hrs : ∀ xs vs, RVs S K ι n H xs vs → RVs S K ι1 n' H1 xs vs) (hk : ∀ u, H a = some u → H1 a = some u) : ∀ {o : MO}, RO S K ι n H a o → RO S K ι1 n' H1 a o
  | .lst _, ⟨vs, r, e⟩ => ⟨vs, hrs _ _ r, hk _ e⟩
  | .ins _ _, ⟨dx, vs, e, r⟩ => ⟨dx, vs, hk _ e, Paired.imp (fun _ _ z => ⟨z.1, hr _ _ z.2⟩) r⟩
  | .dic _, ⟨ks, e, r⟩ => ⟨ks, hk _ e, Paired.imp (fun _ _ z => ⟨hr _ _ z.1, hr _ _ z.2⟩) r⟩
/-- more stands, nothing is changed -/
theorem Fut.grow (s : Sim S K ι g H) (h : Same H H1) : Fut S K ι g H ι g H1 := by
  have ht : ∀ a xs, SqT K H a xs → SqT K H1 a xs := fun a xs z => by
    rcases z with (z | ⟨o, z⟩) | z
    · exact .inl (.inl (h _ _ z))
    · exact .inl (.inr ⟨o, h _ _ z⟩)
    · exact .inr z
  have hf : ∀ a xs, FzL K H a xs → FzL K H1 a xs := fun a xs z => by
    rcases z with ⟨o, z⟩ | z
    · exact .inl ⟨o, h _ _ z⟩
    · exact .inr z
  refine ⟨⟨fun l o e => ?_, s.inj⟩, Nat.le_refl _, fun _ _ => rfl, fun l h1 h2 => absurd h2 (Nat.not_lt.mpr h1), fun b o e _ => h b o e⟩
  exact (s.obj l o e).mono (fun _ _ r => r.mono (Nat.le_refl _) (fun _ _ => rfl) ht hf) (fun _ _ r => r.mono (Nat.le_refl _) (fun _ _ => rfl) ht hf) fun u e => h _ _ e
theorem same_upd {H : Hp} {p : Addr} {o : HO} (h : H p = none) : Same H (upd H p o) := fun b u e => by rw [upd_ne (ne_of_none e h)]; exact e
theorem Fut.new (s : Sim S K ι g H) {p : Addr} {o : HO} (h : H p = none) : Fut S K ι g H ι g (upd H p o) := Fut.grow s (same_upd h)
/-- an object of the small heap is written -/
theorem Fut.write (s : Sim S K ι g H) {l : Nat} {o : MO} {u : HO} (hl : l < g.length) (hm : (∃ vs, u = .lst vs) ∨ (∃ C dx vs, u = .ins C dx vs) ∨ ∃ ks, u = .dK ks)
    (h : ∀ (H' : Hp), H' = upd H (ι l) u → (∀ x v, RV S K ι g.length H x v → RV S K ι g.length H' x v) → (∀ xs vs, RVs S K ι g.length H xs vs → RVs S K ι g.length H' xs vs) → RO S K ι g.length H' (ι l) o) :
    Fut S K ι g H ι (g.set l o) (upd H (ι l) u) := by
  have nt : ∀ {a : Addr} {z : HO}, H a = some z → (∀ vs, z ≠ .lst vs) → (∀ C dx vs, z ≠ .ins C dx vs) → (∀ ks, z ≠ .dK ks) → upd H (ι l) u a = some z := fun {a z} e h1 h2 h3 => by
    rw [upd_ne (Ne.symm (s.ne hl e h1 h2 h3))]
    exact e
  have ht : ∀ a xs, SqT K H a xs → SqT K (upd H (ι l) u) a xs := fun a xs z => by
    rcases z with (z | ⟨o, z⟩) | z
    · exact .inl (.inl (nt z (fun _ q => nomatch q) (fun _ _ _ q => nomatch q) fun _ q => nomatch q))
    · exact .inl (.inr ⟨o, nt z (fun _ q => nomatch q) (fun _ _ _ q => nomatch q) fun _ q => nomatch q⟩)
    · exact .inr z
  have hf : ∀ a xs, FzL K H a xs → FzL K (upd H (ι l) u) a xs := fun a xs z => by
    rcases z with ⟨o, z⟩ | z
    · exact .inl ⟨o, nt z (fun _ q => nomatch q) (fun _ _ _ q => nomatch q) fun _ q => nomatch q⟩
    · exact .inr z
  have r1 : ∀ x v, RV S K ι g.length H x v → RV S K ι g.length (upd H (ι l) u) x v := fun _ _ r => r.mono (Nat.le_refl _) (fun _ _ => rfl) ht hf
  have r2 : ∀ xs vs, RVs S K ι g.length H xs vs → RVs S K ι g.length (upd H (ι l) u) xs vs := fun _ _ r => r.mono (Nat.le_refl _) (fun _ _ => rfl) ht hf
  refine ⟨⟨fun m o' e => ?_, fun i j hi hj => s.inj i j (by simpa using hi) (by simpa using hj)⟩, by simp, fun _ _ => rfl, fun m h1 h2 => absurd h2 (by simpa using h1), fun b o' e hb => ?_⟩
  · rw [List.length_set]
    by_cases hml : l = m
    · subst hml
      rw [List.getElem?_set_self hl] at e
      cases e
      exact h _ rfl r1 r2
    · rw [List.getElem?_set_ne hml] at e
      have hmg : m < g.length := (List.getElem?_eq_some_iff.mp e).1
      exact (s.obj m o' e).mono r1 r2 fun u' e' => by
        rw [upd_ne (fun z => hml (s.inj l m hl hmg z.symm))]
        exact e'
  · rw [upd_ne (Ne.symm (hb l hl))]
    exact e
/-- a new object of the small heap -/
theorem Fut.alloc (s : Sim S K ι g H) {p : Addr} {o : MO} {H1 : Hp} (hp : H p = none) (hs : Same H H1)
    (hm : ∃ u, H1 p = some u)
    (h : ∀ ι', (∀ l, l < g.length → ι' l = ι l) → ι' g.length = p → (∀ x v, RV S K ι g.length H x v → RV S K ι' (g.length + 1) H1 x v) → (∀ xs vs, RVs S K ι g.length H xs vs → RVs S K ι' (g.length + 1) H1 xs vs) → RO S K ι' (g.length + 1) H1 p o) :
    Fut S K ι g H (fun l => if l = g.length then p else ι l) (g ++ [o]) H1 := by
  have hi : ∀ l, l < g.length → (fun l => if l = g.length then p else ι l) l = ι l := fun l hl => if_neg (Nat.ne_of_lt hl)
  have ht : ∀ a xs, SqT K H a xs → SqT K H1 a xs := fun a xs z => by
    rcases z with (z | ⟨o, z⟩) | z
    · exact .inl (.inl (hs _ _ z))
    · exact .inl (.inr ⟨o, hs _ _ z⟩)
    · exact .inr z
  have hf : ∀ a xs, FzL K H a xs → FzL K H1 a xs := fun a xs z => by
    rcases z with ⟨o, z⟩ | z
    · exact .inl ⟨o, hs _ _ z⟩
    · exact .inr z
  have r1 : ∀ x v, RV S K ι g.length H x v → RV S K (fun l => if l = g.length then p else ι l) (g.length + 1) H1 x v := fun _ _ r => r.mono (Nat.le_succ _) hi ht hf
  have r2 : ∀ xs vs, RVs S K ι g.length H xs vs → RVs S K (fun l => if l = g.length then p else ι l) (g.length + 1) H1 xs vs := fun _ _ r => r.mono (Nat.le_succ _) hi ht hf
  refine ⟨⟨fun l o' e => ?_, fun i j hi' hj' z => ?_⟩, by simp, hi, fun l h1 h2 => ?_, fun b o' e _ => hs b o' e⟩
  · rw [List.length_append, List.length_singleton]
    by_cases hl : l < g.length
    · rw [List.getElem?_append_left hl] at e
      have q := (s.obj l o' e).mono r1 r2 (a := ι l) fun u e' => hs _ _ e'
      rw [← hi l hl] at q
      exact q
    · have hl2 : l = g.length := by
        have := (List.getElem?_eq_some_iff.mp e).1
        simp at this
        omega
      subst hl2
      rw [List.getElem?_append_right (Nat.le_refl _), Nat.sub_self] at e
      have e' : o = o' := Option.some.inj e
      subst e'
      have q := h _ hi (if_pos rfl) r1 r2
      show RO S K _ _ H1 (if g.length = g.length then p else ι g.length) o
      rw [if_pos rfl]
      exact q
  · rw [List.length_append, List.length_singleton] at hi' hj'
    have z' : (if i = g.length then p else ι i) = (if j = g.length then p else ι j) := z
    by_cases e1 : i = g.length <;> by_cases e2 : j = g.length
    · omega
    · rw [if_pos e1, if_neg e2] at z'
      exact absurd z'.symm (s.neNone (by omega) hp)
    · rw [if_neg e1, if_pos e2] at z'
      exact absurd z' (s.neNone (by omega) hp)
    · rw [if_neg e1, if_neg e2] at z'
      exact s.inj i j (by omega) (by omega) z'
  · rw [List.length_append, List.length_singleton] at h2
    have : l = g.length := by omega
    subst this
    show H (if g.length = g.length then p else ι g.length) = Option.none
    rw [if_pos rfl]
    exact hp
end
end MPS
end
section
set_option Elab.async false
set_option linter.all false
set_option autoImplicit false
set_option maxRecDepth 100000
set_option maxHeartbeats 2000000
/-! The check that a text of the small language is led from a text of the program. -/
namespace MPS
open PySem PySem.Spec L2
open PyProof.Rows hiding St
open MP (MV MO MH MSt Res X XS G)

section
variable (M : Nm) (N : List Str)
/-- a name of the def's own -/
def visB (sc : Scope) (x : Str) : Bool := match sc.names.lookup x with
  | some .local => true
  | some .cell => true
  | some .free => true
  | _ => false
def okName (x : Str) : Bool := !(x == ("__debug__" : Str)) && !(x == ("__classdict__" : Str)) && !(x == ("__name__" : Str))
def locB (sc : Scope) (i : Nat) (x : Str) : Bool := decide (N[i]? = some x) && visB sc x && okName x
def storeB (sc : Scope) (fnB : Str → Bool) (i : Nat) (x : Str) : Bool := decide (N[i]? = some x) && okName x && (match sc.names.lookup x with
  | some .local => true
  | some .cell => fnB x
  | _ => false)
def glB (sc : Scope) (x : Str) : Bool := (match sc.names.lookup x with
  | some .globalImplicit => true
  | _ => false) && okName x
/-- a built-in under its own name -/
def bltB (sc : Scope) (x y : Str) : Bool := decide (x = y) && glB sc x && M.free.contains x
def notStar : Expr → Bool
  | .Starred _ _ => false
  | _ => true
def notSuper : Expr → Bool
  | .Call (.Name _ _) [] [] _ => false
  | _ => true
def notSet : Expr → Bool
  | .Set _ _ _ => false
  | _ => true
def notSlice : Expr → Bool
  | .Slice _ _ _ _ => false
  | _ => true
def notComp : Expr → Bool
  | .ListComp _ _ _ _ => false
  | .SetComp _ _ _ _ => false
  | .DictComp _ _ _ _ _ => false
  | _ => true
def plainT : Expr → Bool
  | .UnaryOp .Not _ _ => false
  | .BoolOp _ _ _ => false
  | .IfExp _ _ _ _ => false
  | .Compare _ _ _ _ => false
  | _ => true
def cstB : MV → Const → Bool
  | .non, .none => true
  | .bl b, .bool c => b == c
  | .int i, .int j => decide (i = j)
  | .str x, .str y => decide (x = y)
  | _, _ => false
def sameB : MV → MV → Bool
  | .non, .non => true
  | .bl b, .bl c => b == c
  | .int i, .int j => decide (i = j)
  | .str x, .str y => decide (x = y)
  | .fn f, .fn g => decide (f = g)
  | _, _ => false
def glCst (x : Str) (v : MV) : Bool := match M.gl.lookup x with
  | some (.cst w) => sameB v w
  | some (.fn f) => (match v with
    | .fn g => decide (g = f)
    | _ => false)
  | _ => false
def glFn (x : Str) (f : Nat) : Bool := match M.gl.lookup x with
  | some (.fn g) => decide (g = f)
  | _ => false
def glCls (x : Str) (c : Nat) : Bool := match M.gl.lookup x with
  | some (.cls d) => decide (d = c)
  | _ => false
def glExc (x : Str) (c : Nat) : Bool := match M.gl.lookup x with
  | some (.exc d) => decide (d = c)
  | _ => false
def opB : MP.BOp → Operator → Bool
  | .add, .Add => true
  | .sub, .Sub => true
  | .mul, .Mult => true
  | .mod, .Mod => true
  | .fdiv, .FloorDiv => true
  | .pow, .Pow => true
  | .shl, .LShift => true
  | _, _ => false
def copB : MP.COp → CmpOp → Bool
  | .eq, .Eq => true
  | .ne, .NotEq => true
  | .lt, .Lt => true
  | .le, .LtE => true
  | .gt, .Gt => true
  | .ge, .GtE => true
  | .isin, .In => true
  | .notin, .NotIn => true
  | _, _ => false
def bi1B : MP.Bi1 → Option (Str × Bool)
  | .len => some (Str.ofString "len", false)
  | .abs => some (Str.ofString "abs", false)
  | .repr => some (Str.ofString "repr", false)
  | .int => some (Str.ofString "int", true)
  | .str => some (Str.ofString "str", true)
  | .tuple => some (Str.ofString "tuple", true)
  | .inst _ => none
def tyS : MP.Ty → Str
  | .int => Str.ofString "int" | .bool => Str.ofString "bool" | .str => Str.ofString "str" | .tuple => Str.ofString "tuple" | .list => Str.ofString "list" | .dict => Str.ofString "dict"
def lineB (a p : Pos) : Bool := a.endLine == p.line
/-- the block's own names, with their places -/
def ownOf (scope : Scope) : List (Str × Nat) := scope.names.filterMap fun y => match y.2 with
  | .local => (N.idxOf? y.1).map fun i => (y.1, i)
  | .cell => (N.idxOf? y.1).map fun i => (y.1, i)
  | _ => none
mutual
def ckG (sc : Scope) (fnB : Str → Bool) : G → Expr → Bool
  | .nm i, .Name x _ => storeB N sc fnB i x
  | .tup gs, .Tuple es _ _ => ckGs sc fnB gs es
  | _, _ => false
def ckGs (sc : Scope) (fnB : Str → Bool) : G → List Expr → Bool
  | .nil, [] => true
  | .cons g r, e :: es => notStar e && ckG sc fnB g e && ckGs sc fnB r es
  | _, _ => false
end
mutual
def ckE (sc : Scope) (fnB : Str → Bool) : X → Expr → Bool
  | .loc i, e => match e with
    | .Name x _ => locB N sc i x
    | _ => false
  | .cst v, e => match e with
    | .Constant c _ _ => cstB v c
    | .Name x _ => glB sc x && glCst M x v
    | _ => false
  | .tup as, e => match e with
    | .Tuple es _ _ => ckA sc fnB as es
    | _ => false
  | .bin op a b, e => match e with
    | .BinOp l o r _ => opB op o && ckE sc fnB a l && ckE sc fnB b r
    | _ => false
  | .neg a, e => match e with
    | .UnaryOp .USub x _ => ckE sc fnB a x
    | _ => false
  | .ite c a b, e => match e with
    | .IfExp t x y _ => ckT sc fnB c t && ckE sc fnB a x && ckE sc fnB b y
    | _ => false
  | .and_ a b, e => match e with
    | .BoolOp .And [x, y] _ => ckE sc fnB a x && ckE sc fnB b y
    | .BoolOp .And (x :: y :: z :: r) p => ckE sc fnB a x && ckE sc fnB b (.BoolOp .And (y :: z :: r) p)
    | _ => false
  | .or_ a b, e => match e with
    | .BoolOp .Or [x, y] _ => ckE sc fnB a x && ckE sc fnB b y
    | .BoolOp .Or (x :: y :: z :: r) p => ckE sc fnB a x && ckE sc fnB b (.BoolOp .Or (y :: z :: r) p)
    | _ => false
  | .not_ a, e => match e with
    | .UnaryOp .Not x _ => ckE sc fnB a x
    | _ => false
  | .cmp op a b, e => match e with
    | .Compare l [o] [r] _ => copB op o && ckE sc fnB a l && ckE sc fnB b r && notSet r
    | _ => false
  | .isN neg a, e => match e with
    | .Compare l [o] [.Constant .none _ _] _ => (match o with
      | .Is => !neg
      | .IsNot => neg
      | _ => false) && ckE sc fnB a l
    | _ => false
  | .eqNil neg a, e => match e with
    | .Compare l [o] [.List [] _] _ => (match o with
      | .Eq => !neg
      | .NotEq => neg
      | _ => false) && ckE sc fnB a l
    | _ => false
  | .eqNilL neg a, e => match e with
    | .Compare l [o] [.List [] _] _ => (match o with
      | .Eq => !neg
      | .NotEq => neg
      | _ => false) && ckL sc fnB a l
    | _ => false
  | .call f as, e => match e with
    | .Call (.Name x _) es [] _ => glB sc x && glFn M x f && ckA sc fnB as es
    | _ => false
  | .callV i as, e => match e with
    | .Call (.Name x _) (y :: es) [] _ => locB N sc i x && ckA sc fnB as (y :: es)
    | _ => false
  | .meth o m as, e => match e with
    | .Call (.Attribute ov nm ap) es [] p => decide (M.attrs[m]? = some nm) && ckE sc fnB o ov && ckA sc fnB as es && lineB ap p && notSuper ov && decide (es.length < 25)
    | _ => false
  | .new c as, e => match e with
    | .Call (.Name x _) (y :: es) [] _ => glB sc x && glCls M x c && ckA sc fnB as (y :: es)
    | _ => false
  | .fld o a, e => match e with
    | .Attribute ov nm _ => decide (M.attrs[a]? = some nm) && ckE sc fnB o ov && notSuper ov
    | _ => false
  | .idx a i, e => match e with
    | .Subscript v s _ => ckE sc fnB a v && ckE sc fnB i s && notSlice s
    | _ => false
  | .sl a lo hi, e => match e with
    | .Subscript v (.Slice l h none _) _ => ckE sc fnB a v && ckO sc fnB lo l && ckO sc fnB hi h
    | _ => false
  | .rev a, e => match e with
    | .Subscript v (.Slice none none (some (.UnaryOp .USub (.Constant (.int 1) _ _) _)) _) _ => ckE sc fnB a v
    | _ => false
  | .bi1 b a, e => match e with
    | .Call (.Name x _) [y] [] _ => (match bi1B b with
      | some (z, _) => bltB M sc x z && ckE sc fnB a y && notStar y
      | none => false)
    | .Call (.Name x _) [y, .Name t _] [] _ => (match b with
      | .inst ty => bltB M sc x (Str.ofString "isinstance") && bltB M sc t (tyS ty) && ckE sc fnB a y && notStar y
      | _ => false)
    | _ => false
  | .bi2 b a c, e => match e with
    | .Call (.Name x _) [y, z] [] _ => bltB M sc x (match b with
      | .max => Str.ofString "max"
      | .min => Str.ofString "min") && ckE sc fnB a y && ckE sc fnB c z && notStar y && notStar z
    | _ => false
  | .fstr as, e => match e with
    | .JoinedStr es _ => (match es with
      | [] => false
      | [.FormattedValue _ _ _ _] => true
      | [_] => false
      | _ => true) && ckF sc fnB as es
    | _ => false
  | .lstOf l, e => ckL sc fnB l e
  | .tupL l, e => match e with
    | .Call (.Name x _) [y] [] _ => bltB M sc x (Str.ofString "tuple") && ckL sc fnB l y && notStar y
    | _ => false
  | .allL l, e => match e with
    | .Call (.Name x _) [y] [] _ => bltB M sc x (Str.ofString "all") && ckL sc fnB l y && notStar y
    | _ => false
  | .sumL l, e => match e with
    | .Call (.Name x _) [y] [] _ => bltB M sc x (Str.ofString "sum") && ckL sc fnB l y && notStar y
    | _ => false
  | .lenL l, e => match e with
    | .Call (.Name x _) [y] [] _ => bltB M sc x (Str.ofString "len") && ckL sc fnB l y && notStar y
    | _ => false
  | .joinL s l, e => match e with
    | .Call (.Attribute ov nm ap) [y] [] p => decide (nm = Str.ofString "join") && ckE sc fnB s ov && ckL sc fnB l y && lineB ap p && notSuper ov && notStar y
    | _ => false
  | .idxL l i, e => match e with
    | .Subscript v s _ => ckL sc fnB l v && ckE sc fnB i s && notSlice s
    | _ => false
  | .app o x, e => match e with
    | .Call (.Attribute ov nm ap) [y] [] p => decide (nm = Str.ofString "append") && ckE sc fnB o ov && ckE sc fnB x y && lineB ap p && notSuper ov && notStar y
    | _ => false
  | .ext o l, e => match e with
    | .Call (.Attribute ov nm ap) [y] [] p => decide (nm = Str.ofString "extend") && ckE sc fnB o ov && ckL sc fnB l y && lineB ap p && notSuper ov && notStar y
    | _ => false
  | .pop o, e => match e with
    | .Call (.Attribute ov nm ap) [] [] p => decide (nm = Str.ofString "pop") && ckE sc fnB o ov && lineB ap p && notSuper ov
    | _ => false
  | .dnew, e => match e with
    | .Dict [] [] _ => true
    | _ => false
  | _, _ => false
def ckT (sc : Scope) (fnB : Str → Bool) : X → Expr → Bool
  | .and_ a b, e => match e with
    | .BoolOp .And [x, y] _ => ckT sc fnB a x && ckT sc fnB b y
    | .BoolOp .And (x :: y :: z :: r) p => ckT sc fnB a x && ckT sc fnB b (.BoolOp .And (y :: z :: r) p)
    | _ => false
  | .or_ a b, e => match e with
    | .BoolOp .Or [x, y] _ => ckT sc fnB a x && ckT sc fnB b y
    | .BoolOp .Or (x :: y :: z :: r) p => ckT sc fnB a x && ckT sc fnB b (.BoolOp .Or (y :: z :: r) p)
    | _ => false
  | .not_ a, e => match e with
    | .UnaryOp .Not x _ => ckT sc fnB a x
    | _ => false
  | .cmp op a b, e => match e with
    | .Compare l [o] [r] _ => copB op o && ckE sc fnB a l && ckE sc fnB b r && notSet r
    | _ => false
  | .isN neg a, e => match e with
    | .Compare l [o] [.Constant .none _ _] _ => (match o with
      | .Is => !neg
      | .IsNot => neg
      | _ => false) && ckE sc fnB a l
    | _ => false
  | .eqNil neg a, e => match e with
    | .Compare l [o] [.List [] _] _ => (match o with
      | .Eq => !neg
      | .NotEq => neg
      | _ => false) && ckE sc fnB a l
    | _ => false
  | .eqNilL neg a, e => match e with
    | .Compare l [o] [.List [] _] _ => (match o with
      | .Eq => !neg
      | .NotEq => neg
      | _ => false) && ckL sc fnB a l
    | _ => false
  | .loc i, e => match e with
    | .Name x _ => locB N sc i x
    | _ => false
  | .cst v, e => match e with
    | .Constant c _ _ => cstB v c
    | .Name x _ => glB sc x && glCst M x v
    | _ => false
  | .call f as, e => match e with
    | .Call (.Name x _) es [] _ => glB sc x && glFn M x f && ckA sc fnB as es
    | _ => false
  | .callV i as, e => match e with
    | .Call (.Name x _) (y :: es) [] _ => locB N sc i x && ckA sc fnB as (y :: es)
    | _ => false
  | .meth o m as, e => match e with
    | .Call (.Attribute ov nm ap) es [] p => decide (M.attrs[m]? = some nm) && ckE sc fnB o ov && ckA sc fnB as es && lineB ap p && notSuper ov && decide (es.length < 25)
    | _ => false
  | .fld o a, e => match e with
    | .Attribute ov nm _ => decide (M.attrs[a]? = some nm) && ckE sc fnB o ov && notSuper ov
    | _ => false
  | .idx a i, e => match e with
    | .Subscript v s _ => ckE sc fnB a v && ckE sc fnB i s && notSlice s
    | _ => false
  | .bi1 b a, e => match e with
    | .Call (.Name x _) [y] [] _ => (match bi1B b with
      | some (z, _) => bltB M sc x z && ckE sc fnB a y && notStar y
      | none => false)
    | .Call (.Name x _) [y, .Name t _] [] _ => (match b with
      | .inst ty => bltB M sc x (Str.ofString "isinstance") && bltB M sc t (tyS ty) && ckE sc fnB a y && notStar y
      | _ => false)
    | _ => false
  | .allL l, e => match e with
    | .Call (.Name x _) [y] [] _ => bltB M sc x (Str.ofString "all") && ckL sc fnB l y && notStar y
    | _ => false
  | _, _ => false
def ckA (sc : Scope) (fnB : Str → Bool) : X → List Expr → Bool
  | .nil, es => match es with
    | [] => true
    | _ => false
  | .cons e r, es => match es with
    | y :: ys => ckE sc fnB e y && notStar y && ckA sc fnB r ys
    | [] => false
  | _, _ => false
def ckF (sc : Scope) (fnB : Str → Bool) : X → List Expr → Bool
  | .nil, es => match es with
    | [] => true
    | _ => false
  | .cons e r, es => match es with
    | .FormattedValue y (-1) none _ :: ys => ckE sc fnB e y && ckF sc fnB r ys
    | .Constant (.str y) _ _ :: ys => (match e with
      | .cst (.str x) => decide (x = y)
      | _ => false) && ckF sc fnB r ys
    | _ => false
  | _, _ => false
def ckO (sc : Scope) (fnB : Str → Bool) : X → Option Expr → Bool
  | .nil, o => match o with
    | none => true
    | _ => false
  | .cons e _, o => match o with
    | some y => ckE sc fnB e y
    | none => false
  | _, _ => false
def ckL (sc : Scope) (fnB : Str → Bool) : X → Expr → Bool
  | .disp as, e => match e with
    | .List es _ => ckA sc fnB as es
    | _ => false
  | .catL a b, e => match e with
    | .BinOp l .Add r _ => ckL sc fnB a l && ckL sc fnB b r
    | _ => false
  | .catV a b, e => match e with
    | .BinOp l .Add r _ => ckE sc fnB a l && ckL sc fnB b r
    | _ => false
  | .slL a lo hi, e => match e with
    | .Subscript v (.Slice l h none _) _ => ckE sc fnB a v && ckO sc fnB lo l && ckO sc fnB hi h
    | _ => false
  | .repL l k, e => match e with
    | .BinOp y .Mult z _ => ckL sc fnB l y && ckE sc fnB k z
    | _ => false
  | .ofV a, e => match e with
    | .Call (.Name x _) [y] [] _ => bltB M sc x (Str.ofString "list") && ckE sc fnB a y && notStar y
    | _ => false
  | .rng1 a, e => match e with
    | .Call (.Name x _) [.Call (.Name z _) [y] [] _] [] _ => bltB M sc x (Str.ofString "list") && bltB M sc z (Str.ofString "range") && ckE sc fnB a y && notStar y
    | _ => false
  | .comp sl tg it c x, e => match e with
    | .ListComp elt [⟨t, i, ifs, 0⟩] scope _ => decide ((ownOf N scope).map (·.2) = sl) && (MP.slotsG tg).all (sl.contains ·) && blkC N sc scope (ownOf N scope) && notSet i && ckI sc fnB it t i &&
        ckG N (relS scope sc) (fun y => scope.names.lookup y == some .cell) tg t &&
        (match ifs with
        | [] => (match c with
          | .nil => true
          | _ => false)
        | [y] => (match c with
          | .nil => false
          | _ => true) && ckT (relS scope sc) (fun y => scope.names.lookup y == some .cell) c y
        | _ => false) && ckE (relS scope sc) (fun y => scope.names.lookup y == some .cell) x elt
    | _ => false
  | _, _ => false
def ckI (sc : Scope) (fnB : Str → Bool) : X → Expr → Expr → Bool
  | .itV a, t, e => ckE sc fnB a e
  | .itL l, t, e => ckL sc fnB l e
  | .rng1 a, t, e => match e with
    | .Call (.Name x _) [y] [] _ => bltB M sc x (Str.ofString "range") && ckE sc fnB a y && notStar y
    | _ => false
  | .rng2 a b, t, e => match e with
    | .Call (.Name x _) [y, z] [] _ => bltB M sc x (Str.ofString "range") && ckE sc fnB a y && ckE sc fnB b z && notStar y && notStar z
    | _ => false
  | .enum a, t, e => match t, e with
    | .Tuple _ _ _, .Call (.Name x _) [y] [] _ => bltB M sc x (Str.ofString "enumerate") && ckE sc fnB a y && notStar y
    | _, _ => false
  | _, _, _ => false
end
end
end MPS
end
section
set_option Elab.async false
set_option linter.all false
set_option autoImplicit false
set_option maxRecDepth 100000
set_option maxHeartbeats 2000000
/-! The check of statements. -/
namespace MPS
open PySem PySem.Spec L2
open PyProof.Rows hiding St
open MP (MV MO MH MSt Res X XS G)
/-- names stored from the right, of a display -/
def nmC (sc : Scope) (l : Nat) : Expr → Option Str
  | .Name id pos => if (sc.names.lookup id == some .local && pos.line == l) = true then some id else none
  | _ => none
def stC : Expr → Bool
  | .Starred _ _ => true
  | _ => false
def swC (sc : Scope) (ts vs : List Expr) (names : List Str) : Bool :=
  (ts.length == 2 || ts.length == 3) && (vs.length == ts.length) && !(vs.any stC) &&
  decide (ts.filterMap (nmC sc ((ts.head?.map (·.pos.line)).getD 0)) = names) && (names.length == ts.length) && (names.eraseDups.length == names.length) && !(vs.all (foldedForSure 8)) && !(vs.all (constantsAlone 8))
def augB : MP.BOp → Operator → Bool
  | .add, .Add => true
  | .sub, .Sub => true
  | _, _ => false
def isLoc (sc : Scope) (x : Str) : Bool := match sc.names.lookup x with
  | some .local => true
  | _ => false
section
variable (M : Nm) (N : List Str)
def ckH (sc : Scope) (oi : Option Nat) (cs : List Nat) : X → Expr → Bool
  | .cst v, e => match e with
    | .Constant c _ _ => cstB v c
    | _ => false
  | .err j, e => match e with
    | .Attribute (.Name n _) f _ => (match oi, cs with
      | some i, [c] => locB N sc i n && decide ((M.efs c)[j]? = some f)
      | _, _ => false)
    | _ => false
  | _, _ => false
def ckHA (sc : Scope) (oi : Option Nat) (cs : List Nat) : X → List Expr → Bool
  | .nil, es => match es with
    | [] => true
    | _ => false
  | .cons e r, es => match es with
    | y :: ys => ckH M N sc oi cs e y && notStar y && ckHA sc oi cs r ys
    | [] => false
  | _, _ => false
def ckHT (sc : Scope) (oi : Option Nat) (cs : List Nat) : X → Expr → Bool
  | .tup as, e => match e with
    | .Tuple es _ _ => decide (es.length < 100) && ckHA M N sc oi cs as es
    | _ => false
  | x, e => ckH M N sc oi cs x e
def ckHs (sc : Scope) : XS → List ExceptHandler → Bool
  | .hnil, hs => match hs with
    | [] => true
    | _ => false
  | .hcons cs ns oi e r, hs => match hs with
    | .ExceptHandler (some (.Name x _)) on [.Return (some v) _] _ :: hds => glB sc x && (match M.gl.lookup x with
      | some (.exc c') => cs.all (fun c => M.exm c c' == some true) && ns.all (fun c => M.exm c c' == some false)
      | _ => false) && (match oi, on with
      | none, none => true
      | some i, some n => decide (N[i]? = some n) && isLoc sc n && okName n && (match M.gl.lookup x with
        | some (.exc c') => decide (cs = [c'])
        | _ => false)
      | _, _ => false) && ckHT M N sc oi cs e v && ckHs sc r hds
    | _ => false
  | _, _ => false
mutual
def ckS (sc : Scope) (fnB : Str → Bool) : XS → Stmt → Bool
  | .set i e, st => match st with
    | .Assign [.Name x p] v _ => (match v with
      | .ListComp elt gs scope cp => (match e with
        | .lstOf (.comp _ _ _ _ _) => true
        | _ => false) && isLoc sc x && (p.line == cp.line) && !(scope.names.any fun (n, k) => n == x && (k == .local || k == .cell))
      | v => notComp v) && storeB N sc fnB i x && ckE M N sc fnB e v
    | _ => false
  | .setT g e, st => match st with
    | .Assign [.Tuple ts j p] v _ => notComp v && ckG N sc fnB g (.Tuple ts j p) && ckE M N sc fnB e v && (match v with
      | .Tuple vs _ _ => decide (vs.length ≠ ts.length) || !(ts.length == 2 || ts.length == 3)
      | _ => true)
    | _ => false
  | .par2 i j as, st => match st with
    | .Assign [.Tuple [.Name x px, .Name y py] _ _] (.Tuple [a, b] _ _) _ => decide (N[i]? = some x) && decide (N[j]? = some y) && decide (i ≠ j) && isLoc sc x && isLoc sc y && swC sc [.Name x px, .Name y py] [a, b] [x, y] && ckA M N sc fnB as [a, b]
    | _ => false
  | .par3 i j l as, st => match st with
    | .Assign [.Tuple [.Name x px, .Name y py, .Name z pz] _ _] (.Tuple [a, b, c] _ _) _ => decide (N[i]? = some x) && decide (N[j]? = some y) && decide (N[l]? = some z) && decide (i ≠ j) && decide (i ≠ l) && decide (j ≠ l) && isLoc sc x && isLoc sc y && isLoc sc z &&
      swC sc [.Name x px, .Name y py, .Name z pz] [a, b, c] [x, y, z] && ckA M N sc fnB as [a, b, c]
    | _ => false
  | .setF o a e, st => match st with
    | .Assign [.Attribute ov nm _] v _ => decide (M.attrs[a]? = some nm) && ckE M N sc fnB o ov && ckE M N sc fnB e v && notComp v
    | _ => false
  | .setI o i e, st => match st with
    | .Assign [.Subscript ov iv _] v _ => ckE M N sc fnB o ov && ckE M N sc fnB i iv && ckE M N sc fnB e v && notComp v && notSlice iv
    | _ => false
  | .aug i op e, st => match st with
    | .AugAssign (.Name x _) q v _ => augB op q && storeB N sc fnB i x && ckE M N sc fnB e v
    | _ => false
  | .augI o i op e, st => match st with
    | .AugAssign (.Subscript ov iv _) q v _ => augB op q && ckE M N sc fnB o ov && ckE M N sc fnB i iv && ckE M N sc fnB e v && notSlice iv
    | _ => false
  | .ife c a b, st => match st with
    | .If t p q _ => ckT M N sc fnB c t && ckSs sc fnB a p && ckSs sc fnB b q
    | _ => false
  | .whl c b, st => match st with
    | .While t p [] _ => ckT M N sc fnB c t && ckSs sc fnB b p
    | _ => false
  | .for_ g it b, st => match st with
    | .For tg i p [] _ => ckG N sc fnB g tg && ckI M N sc fnB it tg i && ckSs sc fnB b p && notSet i
    | _ => false
  | .ret e, st => match st with
    | .Return (some v) _ => ckE M N sc fnB e v
    | _ => false
  | .retN, st => match st with
    | .Return none _ => true
    | _ => false
  | .ex e, st => match st with
    | .Expr v _ => ckE M N sc fnB e v && notComp v
    | _ => false
  | .raise c as, st => match st with
    | .Raise (some (.Call (.Name x _) es [] _)) none _ => glB sc x && glExc M x c && (match as, es with
      | .nil, [] => decide (M.efs c = [])
      | .cons a (.cons b .nil), [y, z] => decide ((M.efs c).length = 2) && ckE M N sc fnB a y && ckE M N sc fnB b z && notStar y && notStar z
      | _, _ => false)
    | _ => false
  | .pass, st => match st with
    | .Pass _ => true
    | _ => false
  | .brk, st => match st with
    | .Break _ => true
    | _ => false
  | .cont, st => match st with
    | .Continue _ => true
    | _ => false
  | .try_ b hs, st => match st with
    | .Try body (h :: hds) [] [] _ => ckSs sc fnB b body && ckHs M N sc hs (h :: hds)
    | _ => false
  | _, _ => false
def ckSs (sc : Scope) (fnB : Str → Bool) : XS → List Stmt → Bool
  | .nil, ss => match ss with
    | [] => true
    | _ => false
  | .seq s r, ss => match ss with
    | st :: sts => ckS sc fnB s st && ckSs sc fnB r sts
    | [] => false
  | _, _ => false
end
end
end MPS
end
section
set_option Elab.async false
set_option linter.all false
set_option autoImplicit false
set_option maxRecDepth 100000
set_option maxHeartbeats 2000000
/-! 2: judgements; calls. -/
namespace MPS
open PySem PySem.Spec L2
open PyProof.Rows hiding St
open MP (MV MO MH MSt Res)

/-- an exception: its class, its fields -/
def RX (S : Sc) (K : PySem.W.Frag) (ι : Nat → Addr) (n : Nat) (H : Hp) (c : Nat) (fs : List MV) (cls : Value) (d : Option Addr) : Prop :=
  cls = .ref (S.ea c) ∧ ((S.efs c = [] ∧ fs = [] ∧ d = none) ∨ ∃ (dd : Addr) (vs : List V), d = some dd ∧ fs.length = (S.efs c).length ∧ H dd = some (.xd ((S.efs c).zip vs)) ∧ RVs S K ι n H fs vs)
/-- what a run has to bring -/
def Good {α : Type} (S : Sc) (K : PySem.W.Frag) (W : WX) (σ : St) (ι : Nat → Addr) (g : MH) (H : Hp) (r : Res α) (Q : (Nat → Addr) → α → MH → Hp → Prop) : Prop := match r with
  | .ok a g' => ∀ ι' H', Fut S K ι g H ι' g' H' → Q ι' a g' H'
  | .exc c fs g' => ∀ ι' cls d H', Fut S K ι g H ι' g' H' → RX S K ι' g'.length H' c fs cls d → W cls d σ H'
  | .stuck => False
section
variable {S : Sc} {K : PySem.W.Frag} {W : WX} {σ : St} {ι ι1 : Nat → Addr} {g g1 : MH} {H H1 : Hp} {α β : Type}
theorem Good.imp {r : Res α} {Q Q' : (Nat → Addr) → α → MH → Hp → Prop} (h : Good S K W σ ι g H r Q) (i : ∀ ι' a g' H', Fut S K ι g H ι' g' H' → Q ι' a g' H' → Q' ι' a g' H') : Good S K W σ ι g H r Q' := by
  cases r with
  | ok a g' => exact fun ι' H' f => i _ _ _ _ f (h ι' H' f)
  | exc c fs g' => exact h
  | stuck => exact h
theorem Good.fut (s : Sim S K ι g H) (f : Fut S K ι g H ι1 g1 H1) {r : Res α} {Q : (Nat → Addr) → α → MH → Hp → Prop} (h : Good S K W σ ι g H r Q) : Good S K W σ ι1 g1 H1 r Q := by
  cases r with
  | ok a g' => exact fun ι' H' f' => h ι' H' (f.trans s f')
  | exc c fs g' => exact fun ι' cls d H' f' => h ι' cls d H' (f.trans s f')
  | stuck => exact h
/-- one run behind another -/
theorem Good.bnd (s : Sim S K ι g H) {m : MP.M α} {k : α → MP.M β} {Q : (Nat → Addr) → β → MH → Hp → Prop} (h : Good S K W σ ι g H (MP.bnd m k g) Q) : Good S K W σ ι g H (m g) fun ι1 a g1 H1 => Good S K W σ ι1 g1 H1 (k a g1) Q := by
  unfold MP.bnd at h
  cases e : m g with
  | ok a g' =>
    rw [e] at h
    exact fun ι' H' f => h.fut s f
  | exc c fs g' =>
    rw [e] at h
    exact h
  | stuck =>
    rw [e] at h
    exact h
theorem Good.ret {a : α} {Q : (Nat → Addr) → α → MH → Hp → Prop} (s : Sim S K ι g H) (h : Good S K W σ ι g H (MP.ret a g) Q) : Q ι a g H := h ι H (Fut.refl s)
theorem Good.lift {o : Option α} {Q : (Nat → Addr) → α → MH → Hp → Prop} (s : Sim S K ι g H) (h : Good S K W σ ι g H (MP.lift o g) Q) : ∃ a, o = some a ∧ Q ι a g H := by
  cases o with
  | none => exact h.elim
  | some a => exact ⟨a, rfl, h ι H (Fut.refl s)⟩
theorem Good.look {f : MH → Option α} {Q : (Nat → Addr) → α → MH → Hp → Prop} (s : Sim S K ι g H) (h : Good S K W σ ι g H (MP.look f g) Q) : ∃ a, f g = some a ∧ Q ι a g H := by
  unfold MP.look at h
  cases e : f g with
  | none =>
    rw [e] at h
    exact h.elim
  | some a =>
    rw [e] at h
    exact ⟨a, rfl, h ι H (Fut.refl s)⟩
theorem Good.ite {c : Prop} [Decidable c] {m k : MP.M α} {Q : (Nat → Addr) → α → MH → Hp → Prop} (h : Good S K W σ ι g H ((if c then m else k) g) Q) : (c ∧ Good S K W σ ι g H (m g) Q) ∨ (¬ c ∧ Good S K W σ ι g H (k g) Q) := by
  by_cases hc : c
  · rw [if_pos hc] at h
    exact .inl ⟨hc, h⟩
  · rw [if_neg hc] at h
    exact .inr ⟨hc, h⟩
theorem Good.nope {Q : (Nat → Addr) → α → MH → Hp → Prop} (h : Good S K W σ ι g H (MP.nope g) Q) : False := h
end

/-- slots -/
def SimS (S : Sc) (K : PySem.W.Frag) (ι : Nat → Addr) (n : Nat) (H : Hp) (ρ : MSt) (σ : St) : Prop :=
  ρ.length = σ.length ∧ ∀ (i : Nat) (v : MV), ρ[i]? = some (some v) → ∃ x, σ[i]? = some (some x) ∧ RV S K ι n H v x
section
variable {S : Sc} {K : PySem.W.Frag} {W : WX} {σ : St} {ρ : MSt} {ι ι1 : Nat → Addr} {g g1 : MH} {H H1 : Hp}
theorem SimS.fut (q : SimS S K ι g.length H ρ σ) (s : Sim S K ι g H) (f : Fut S K ι g H ι1 g1 H1) : SimS S K ι1 g1.length H1 ρ σ :=
  ⟨q.1, fun i v e => let ⟨x, e1, r⟩ := q.2 i v e; ⟨x, e1, f.rv s r⟩⟩
theorem SimS.set {n : Nat} (q : SimS S K ι n H ρ σ) {v : MV} {x : V} (r : RV S K ι n H v x) (i : Nat) : SimS S K ι n H (ρ.set i (some v)) (σ.set i (some x)) := by
  refine ⟨by simpa using q.1, fun j w e => ?_⟩
  by_cases hj : i = j
  · subst hj
    by_cases hi : i < ρ.length
    · rw [List.getElem?_set_self hi] at e
      have e' : v = w := Option.some.inj (Option.some.inj e)
      subst e'
      exact ⟨x, by rw [List.getElem?_set_self (by rw [← q.1]; exact hi)], r⟩
    · rw [List.getElem?_eq_none (by simpa using hi)] at e
      cases e
  · rw [List.getElem?_set_ne hj] at e
    rw [List.getElem?_set_ne hj]
    exact q.2 j w e
theorem SimS.wipe {n : Nat} (q : SimS S K ι n H ρ σ) : ∀ vs : List Nat, SimS S K ι n H (MP.wipe ρ vs) (L2.wipe σ vs)
  | [] => q
  | v :: vs => by
    have ih := SimS.wipe q vs
    unfold MP.wipe L2.wipe
    refine ⟨by simpa using ih.1, fun j w e => ?_⟩
    by_cases hj : v = j
    · subst hj
      by_cases hi : v < (MP.wipe ρ vs).length
      · rw [List.getElem?_set_self hi] at e
        cases e
      · rw [List.getElem?_eq_none (by simpa using hi)] at e
        cases e
    · rw [List.getElem?_set_ne hj] at e
      rw [List.getElem?_set_ne hj]
      exact ih.2 j w e
end

/-! ### judgements -/
/-- an expression -/
structure SE (S : Sc) (X : Cx) (W : WX) (e : Expr) (f : MSt → MP.M MV) : Prop where
  ex : ∃ t : TE, PE X e t ∧ ∀ ι g ρ σ H Q, Sim S X.K ι g H → SimS S X.K ι g.length H ρ σ →
    Good S X.K W σ ι g H (f ρ g) (fun ι' v g' H' => ∀ x, RV S X.K ι' g'.length H' v x → Q x H') → t σ H Q
/-- a test -/
structure ST (S : Sc) (X : Cx) (W : WX) (e : Expr) (f : MSt → MP.M Bool) : Prop where
  ex : ∃ t : TT, PT X e t ∧ ∀ ι g ρ σ H Q, Sim S X.K ι g H → SimS S X.K ι g.length H ρ σ →
    Good S X.K W σ ι g H (f ρ g) (fun _ b _ H' => Q b H') → t σ H Q
/-- arguments -/
structure SA (S : Sc) (X : Cx) (W : WX) (es : List Expr) (f : MSt → MP.M (List MV)) : Prop where
  ex : ∃ t : TA, PA X es t ∧ ∀ ι g ρ σ H Q, Sim S X.K ι g H → SimS S X.K ι g.length H ρ σ →
    Good S X.K W σ ι g H (f ρ g) (fun ι' vs g' H' => ∀ xs, RVs S X.K ι' g'.length H' vs xs → Q xs H') → t σ H Q
/-- a new list -/
structure SL (S : Sc) (X : Cx) (W : WX) (e : Expr) (f : MSt → MP.M (List MV)) : Prop where
  ex : ∃ t : TE, PE X e t ∧ ∀ ι g ρ σ H Q, Sim S X.K ι g H → SimS S X.K ι g.length H ρ σ →
    Good S X.K W σ ι g H (f ρ g) (fun ι' vs g' H' => ∀ D xs, RVs S X.K ι' g'.length H' vs xs → H' D = some (.lst xs) → H D = none → Out ι' g' D → Q (.ref D) H') → t σ H Q

/-! ### defs -/
/-- a def's promise, whatever is handled above -/
structure FnG (P : Program) (w : World) (K : PySem.W.Frag) (mg : Str → Option Value) (base : Heap) (k : Nat) (f : Addr) (fd : FuncData) (ps : List Str) (sp : Sp) : Prop where
  len : ∀ vs H Q E, sp vs H Q E → vs.length = ps.length
  run : ∀ (A : Around) (outer : List Env) (s : Shared) (H : Hp) (args : Args) (us : List Value) (vs : List V) (Q : VK) (E : XK), Room k A → A.guards = some [] → Env0 P w K mg base A outer s H →
    BindsTo s fd args (ps.zip us) → Vals vs us → sp vs H Q E → codeAny (model P w) A (.call (.ref f) args) (CR (CX P w) outer P w H s Q E) s
/-- what a call of f asks and brings -/
def spOf (S : Sc) (K : PySem.W.Frag) (k f : Nat) : Sp := fun vs H Q E => ∃ (ι : Nat → Addr) (g : MH) (xs : List MV), Sim S K ι g H ∧ RVs S K ι g.length H xs vs ∧
  Good S K (fun cls d _ H' => E cls d H') [] ι g H (MP.callF S.T k f xs g) fun ι' v g' H' => ∀ x, RV S K ι' g'.length H' v x → Q x H'
/-- f may be called here -/
def CanCall (S : Sc) (X : Cx) (k f : Nat) : Prop := ∃ (fd : FuncData) (ps : List Str), FnG X.prog X.w X.K X.mg X.base k (S.fa f) fd ps (spOf S X.K k f) ∧ Binds X.K fd ps []
section
variable {S : Sc} {X : Cx} {W : WX} {k f : Nat}
theorem run_g {pins : List (Addr × Obj)} {σ : St} {H : Hp} {s : Shared} {Q : VK} {us : List Value} {vs : List V} {fd : FuncData} {ps : List Str} {sp : Sp} {fa : Addr} {E : XK} (F : FnG X.prog X.w X.K X.mg X.base k fa fd ps sp)
    (hr : Room k X.A) (hgd : X.A.guards = some []) (hb : Binds X.K fd ps []) (hx : PassesAt (CX X.prog X.w) X σ E) (I : Inv X pins σ H s) (r : Vals vs us) (h : sp vs H Q E) :
    wpAny (model X.prog X.w) X.A (call (.ref fa) us) (EP X pins σ Q) X.xe s := by
  have b := hb s us I.kIn (by rw [List.append_nil, ← r.length]; exact F.len _ _ _ _ h)
  rw [List.append_nil] at b
  refine wpAny_call (codeAny_mono (F.run X.A X.stack s H ⟨us, []⟩ us vs Q E hr hgd I.env0 b r h) fun z s' hq => ?_)
  cases z with
  | error e => exact hx pins H s e s' I hq
  | ok fl =>
    cases fl with
    | ret u => exact I.after hq
    | _ => exact hq.elim
/-- f's call, by values -/
def tF (S : Sc) (K : PySem.W.Frag) (k f : Nat) (W : WX) (t : TA) : TE := fun σ H Q => t σ H fun vs H1 => spOf S K k f vs H1 Q fun cls d H' => W cls d σ H'
theorem pe_f1 {x : Str} {p pos : Pos} {e : Expr} {es : List Expr} {t : TA} (hc : CanCall S X k f) (hr : Room k X.A) (hgd : X.A.guards = some []) (tk : Takes X W) (hg : Gl X x) (hm : X.mg x = some (.ref (S.fa f))) (hk : PySem.W.keepIn X.K (.ref (S.fa f)) = true)
    (ha : PA X (e :: es) t) (hdb : (x == ("__debug__" : Str)) = false) (he : starEach (e :: es) X.env = (false, eval e X.env) :: starEach es X.env) (hpl : (backTo pos (starEach es X.env)).any (·.1) = false) :
    PE X (.Call (.Name x p) (e :: es) [] pos) (tF S X.K k f W t) := by
  obtain ⟨fd, ps, F, hb⟩ := hc
  refine ⟨fun pins s σ H Q I h => ?_⟩
  refine wpAny_Call_Name_kw (ld_glob I hg hm ?_ hdb)
  refine PySem.W.callWith_K (h₀ := X.base) I.ok.mod.kin hk (thn (ha.run pos pins s σ H _ I h) fun us s1 ⟨vs, H1, I1, r1, q⟩ => ⟨I1.kIn, ?_⟩) he hpl
  exact run_g F hr hgd hb (passAt tk σ) I1 r1 q
theorem pe_f0 {x : Str} {p pos : Pos} (hc : CanCall S X k f) (hr : Room k X.A) (hgd : X.A.guards = some []) (tk : Takes X W) (hg : Gl X x) (hm : X.mg x = some (.ref (S.fa f))) (hk : PySem.W.keepIn X.K (.ref (S.fa f)) = true)
    (hdb : (x == ("__debug__" : Str)) = false) : PE X (.Call (.Name x p) [] [] pos) (tF S X.K k f W tNil) := by
  obtain ⟨fd, ps, F, hb⟩ := hc
  refine ⟨fun pins s σ H Q I h => ?_⟩
  refine wpAny_Call_Name_kw (ld_glob I hg hm ?_ hdb)
  exact PySem.W.callWith_K0 I.kIn hk (run_g (us := []) F hr hgd hb (passAt tk σ) I .nil h)
/-- the def that a slot holds -/
def tFv (S : Sc) (X : Cx) (k i : Nat) (W : WX) (t : TA) : TE := fun σ H Q => ∃ f, σ[i]? = some (some (.ref (S.fa f))) ∧ PySem.W.keepIn X.K (.ref (S.fa f)) = true ∧ CanCall S X k f ∧ tF S X.K k f W t σ H Q
theorem pe_fv {i : Nat} {x : Str} {p pos : Pos} {e : Expr} {es : List Expr} {t : TA} (hr : Room k X.A) (hgd : X.A.guards = some []) (tk : Takes X W) (hN : X.N[i]? = some x) (hv : Vis X.env.scope x)
    (hdb : (x == ("__debug__" : Str)) = false) (hcd : (x == ("__classdict__" : Str)) = false)
    (ha : PA X (e :: es) t) (he : starEach (e :: es) X.env = (false, eval e X.env) :: starEach es X.env) (hpl : (backTo pos (starEach es X.env)).any (·.1) = false) :
    PE X (.Call (.Name x p) (e :: es) [] pos) (tFv S X k i W t) := by
  refine ⟨fun pins s σ H Q I h => ?_⟩
  obtain ⟨f, ei, hk, hc, h⟩ := h
  obtain ⟨fd, ps, F, hb⟩ := hc
  refine wpAny_Call_Name_kw (thn ((pe_var (X := X) (pos := p) hN hv hdb hcd).run pins s σ H (fun v H1 => v = .ref (S.fa f) ∧ H1 = H) I ⟨_, ei, rfl, rfl⟩) fun u s1 ⟨v, H1, I1, r1, ev, eH⟩ => ?_)
  subst ev eH
  obtain rfl : u = Value.ref (S.fa f) := r1
  refine PySem.W.callWith_K (h₀ := X.base) I.ok.mod.kin hk (thn (ha.run pos pins s1 σ H1 _ I1 h) fun us s2 ⟨vs, H2, I2, r2, q⟩ => ⟨I2.kIn, ?_⟩) he hpl
  exact run_g F hr hgd hb (passAt tk σ) I2 r2 q
/-- o.m(..), the method by the instance's class -/
def tMt (S : Sc) (X : Cx) (k : Nat) (m : Str) (W : WX) (ta : TE) (t : TA) : TE := fun σ H Q => ta σ H fun x H1 => ∃ (a C dx : Addr) (fs : List (Str × V)) (f : Nat), x = .ref a ∧ H1 a = some (.ins C dx fs) ∧ fs.lookup m = none ∧
  Cls X.K C ∧ Meth X.K C m (S.fa f) ∧ CanCall S X k f ∧ t σ H1 fun vs H2 => spOf S X.K k f (x :: vs) H2 Q fun cls d H' => W cls d σ H'
theorem pe_mt1 {pl : Sem Bool} {o e : Expr} {es : List Expr} {m : Str} {apos pos : Pos} {ta : TE} {t : TA} (hr : Room k X.A) (hgd : X.A.guards = some []) (tk : Takes X W) (he : PE X o ta) (ha : PA X (e :: es) t)
    (hst : starEach (e :: es) X.env = (false, eval e X.env) :: starEach es X.env) (hpl : (backTo pos (starEach es X.env)).any (·.1) = false)
    (ht : eval (.Call (.Attribute o m apos) (e :: es) [] pos) X.env = (do
      let ov ← eval o X.env
      standAt apos.atName
      let (f, first) ← holding [ov] (getMethod ov m pl)
      callWith pos f first (backTo pos (starEach (e :: es) X.env)) (backToKw pos (keywordEach [] X.env)))) :
    PE X (.Call (.Attribute o m apos) (e :: es) [] pos) (tMt S X k m W ta t) := by
  refine ⟨fun pins s σ H Q I h => ?_⟩
  refine PySem.W.methodCall_KW (pl := pl) (thn (he.run pins s σ H _ I h) fun u s1 ⟨x, H1, I1, rx, a, C, dx, fs, f, ex, ea, l, c, hm, hc, q⟩ => ?_) ht
  subst ex
  obtain rfl : u = Value.ref a := rx
  obtain ⟨fd, ps, F, hb⟩ := hc
  refine getmeth_ok I1 ea c hm l ?_
  refine PySem.W.callWith_K (first := [.ref a]) (h₀ := X.base) I.ok.mod.kin hm.kp (thn (ha.run pos pins s1 σ H1 _ I1 q) fun us s2 ⟨vs, H2, I2, r, q2⟩ => ⟨I2.kIn, ?_⟩) hst hpl
  exact run_g (us := .ref a :: us) (vs := .ref a :: vs) F hr hgd hb (passAt tk σ) I2 (.cons rfl r) q2
theorem pe_mt0 {pl : Sem Bool} {o : Expr} {m : Str} {apos pos : Pos} {ta : TE} (hr : Room k X.A) (hgd : X.A.guards = some []) (tk : Takes X W) (he : PE X o ta)
    (ht : eval (.Call (.Attribute o m apos) [] [] pos) X.env = (do
      let ov ← eval o X.env
      standAt apos.atName
      let (f, first) ← holding [ov] (getMethod ov m pl)
      callWith pos f first (backTo pos (starEach [] X.env)) (backToKw pos (keywordEach [] X.env)))) :
    PE X (.Call (.Attribute o m apos) [] [] pos) (tMt S X k m W ta tNil) := by
  refine ⟨fun pins s σ H Q I h => ?_⟩
  refine PySem.W.methodCall_KW (pl := pl) (thn (he.run pins s σ H _ I h) fun u s1 ⟨x, H1, I1, rx, a, C, dx, fs, f, ex, ea, l, c, hm, hc, q⟩ => ?_) ht
  subst ex
  obtain rfl : u = Value.ref a := rx
  obtain ⟨fd, ps, F, hb⟩ := hc
  refine getmeth_ok I1 ea c hm l ?_
  exact PySem.W.callWith_K0 (first := [.ref a]) I1.kIn hm.kp (run_g (us := [.ref a]) (vs := [.ref a]) F hr hgd hb (passAt tk σ) I1 (.cons rfl .nil) q)
/-- C(..) -/
def tMk (S : Sc) (K : PySem.W.Frag) (k f : Nat) (C : Addr) (W : WX) (t : TA) : TE := fun σ H Q => t σ H fun vs H1 => ∀ x dx, H1 x = none → H1 dx = none → dx ≠ x →
  spOf S K k f (.ref x :: vs) (upd (upd H1 dx (.own x)) x (.ins C dx [])) (fun v H2 => v = .non ∧ Q (.ref x) H2) fun cls d H' => W cls d σ H'
theorem run_mk {pins : List (Addr × Obj)} {σ : St} {H : Hp} {s : Shared} {Q : VK} {us : List Value} {vs : List V} {C : Addr} {fd : FuncData} {ps : List Str} {sp : Sp} {fa : Addr} {E : XK} (M : Mk X.K C fa) (F : FnG X.prog X.w X.K X.mg X.base k fa fd ps sp)
    (hr : Room (k + 1) X.A) (hgd : X.A.guards = some []) (hb : Binds X.K fd ps []) (hx : PassesAt (CX X.prog X.w) X σ E) (I : Inv X pins σ H s) (r : Vals vs us)
    (h : ∀ x dx, H x = none → H dx = none → dx ≠ x → sp (.ref x :: vs) (upd (upd H dx (.own x)) x (.ins C dx [])) (fun v H2 => v = .non ∧ Q (.ref x) H2) E) :
    wpAny (model X.prog X.w) X.A (call (.ref C) us) (EP X pins σ Q) X.xe s := by
  have hq := h (s.heap.objs.size + 1) s.heap.objs.size (I.hok.fresh (Nat.le_succ _)) (I.hok.fresh (Nat.le_refl _)) (Nat.ne_of_lt (Nat.lt_succ_self _))
  have I2 := Inv.made (C := C) I
  have r2 : Vals (V.ref (s.heap.objs.size + 1) :: vs) (Value.ref (s.heap.objs.size + 1) :: us) := .cons rfl r
  have b := hb _ (Value.ref (s.heap.objs.size + 1) :: us) I2.kIn (by rw [List.append_nil, ← r2.length]; exact F.len _ _ _ _ hq)
  rw [List.append_nil] at b
  have hgd2 : (X.A.under (.builtin "type.__call__" ⟨.ref C :: us, []⟩)).guards = some [] := by
    first
      | exact hgd
      | (simp [Around.under, Code.isGuard, hgd]; done)
      | (unfold Around.under; simp [hgd])
  refine wpAny_call (make_map (f := fa) I.kIn M.makes M.init (beq_iff_eq.mp M.fn) (codeAny_mono (F.run _ X.stack _ _ ⟨Value.ref (s.heap.objs.size + 1) :: us, []⟩ (Value.ref (s.heap.objs.size + 1) :: us) _ _ E (hr.make C us [])
    hgd2 (I2.env0.make C us []) b r2 hq) fun z s' hq' => ?_))
  cases z with
  | error e => exact hx pins _ _ e s' I2 hq'
  | ok fl =>
    cases fl with
    | ret u =>
      obtain ⟨v, H', I3, rv, ev, q3⟩ := I2.after hq'
      subst ev
      exact ⟨rv, ⟨V.ref (s.heap.objs.size + 1), H', I3, rfl, q3⟩⟩
    | _ => exact hq'.elim
theorem pe_mk1 {C : Addr} {x : Str} {p pos : Pos} {e : Expr} {es : List Expr} {t : TA} (M : Mk X.K C (S.fa f)) (hc : CanCall S X k f) (hr : Room (k + 1) X.A) (hgd : X.A.guards = some []) (tk : Takes X W) (hg : Gl X x) (hm : X.mg x = some (.ref C))
    (ha : PA X (e :: es) t) (hdb : (x == ("__debug__" : Str)) = false) (he : starEach (e :: es) X.env = (false, eval e X.env) :: starEach es X.env) (hpl : (backTo pos (starEach es X.env)).any (·.1) = false) :
    PE X (.Call (.Name x p) (e :: es) [] pos) (tMk S X.K k f C W t) := by
  obtain ⟨fd, ps, F, hb⟩ := hc
  refine ⟨fun pins s σ H Q I h => ?_⟩
  refine wpAny_Call_Name_kw (ld_glob I hg hm ?_ hdb)
  refine PySem.W.callWith_K (h₀ := X.base) I.ok.mod.kin M.kp (thn (ha.run pos pins s σ H _ I h) fun us s1 ⟨vs, H1, I1, r1, q⟩ => ⟨I1.kIn, ?_⟩) he hpl
  exact run_mk M F hr hgd hb (passAt tk σ) I1 r1 q
end

/-! ### a def's body keeps its promise -/
/-- the context of a body -/
theorem guards_deeper {A : Around} {env : Env} (h : A.guards = some []) : (A.deeper env).guards = some [] := h
theorem fnG_of {P : Program} {w : World} {K : PySem.W.Frag} {mg : Str → Option Value} {base : Heap} {k : Nat} {f : Addr} {x qual : Str} {params : Arguments} {body : List Stmt} {scope : Scope} {fd : FuncData} {N ps : List Str} {sp : Sp}
    (F : FunD K x qual params body scope [] [] f fd) (Sx : FnScope N ps scope) (len : ∀ vs H Q E, sp vs H Q E → vs.length = ps.length)
    (hbody : ∀ (cdv : Value) (A : Around) (outer : List Env) (s : Shared) (H : Hp) (vs : List V) (Q : VK) (E : XK), Room k (A.deeper (envOfC qual scope s.heap.objs.size f cdv)) → (A.deeper (envOfC qual scope s.heap.objs.size f cdv)).guards = some [] → sp vs H Q E →
      ∃ t, PSs (cxOf (CX P w) P w K mg base N qual scope f cdv A outer s H E) body t ∧ t { nx := fun _ H' => Q .non H', rt := Q } (start N vs) H) : FnG P w K mg base (k + 1) f fd ps sp := by
  obtain ⟨oc, od, dV, kV, doc, pm, an, cdv, ct, osl, rfl, lk, hcd, _, _⟩ := F.ex
  refine ⟨len, fun A outer s H args us vs Q E hr hgd e0 hb r hsp => ?_⟩
  have hlen := len _ _ _ _ hsp
  have inK : K.In s.heap := e0.mod.kin.keeps fun b o z => (e0.bs b o z).1
  have noLim : s.heap.NoLimit := e0.mod.nolimit.keeps fun b o z => (e0.bs b o z).1
  have kinds : ∀ y ∈ ps.zip us, scope.names.lookup y.1 = some .local ∨ (scope.names.lookup y.1 = some .cell ∧ ((cellsFrom (s.heap.objs.size + 1) scope.names []).lookup y.1).isSome = true) := by
    rintro ⟨nm, v⟩ hy
    rcases Sx.par nm (List.of_mem_zip hy).1 with z | z
    · exact .inl z
    · exact .inr ⟨z, PySem.W.cellsFrom_some _ _ _ (.inl z)⟩
  refine codeAny_call_function hr.depth (inK _ _ lk) rfl Sx.co Sx.gen rfl (PySem.W.codeRec_of inK hcd) (hb _ _ _ _ ?_)
  refine wpAny_newFunctionEnv_cells Sx.kind kinds fun env he s1 hin => ?_
  subst he
  refine ⟨noLim.keeps hin.toInCall.keep, codeAny_func ?_⟩
  obtain ⟨t, ht, hq⟩ := hbody cdv A outer s H vs Q E (hr.deeper _) (guards_deeper hgd) hsp
  have J0 := inv_start (CX := CX P w) (mg := mg) (E := E) (qual := qual) (f := f) (cd := cdv) Sx hr.hd e0 hlen r hin
  refine wpAny_mono (ht.run [] s1 (start N vs) H _ J0 hq) (fun fl s' hs => ?_) fun _ _ hs => hs
  cases fl with
  | ret u =>
    obtain ⟨v, _, H', J, rv, q⟩ := hs
    exact ⟨v, H', J.os, J.bare, J.base, J.hok, rv, q⟩
  | next =>
    obtain ⟨_, H', J, q⟩ := hs
    exact ⟨V.non, H', J.os, J.bare, J.base, J.hok, rfl, q⟩
  | brk =>
    obtain ⟨_, _, _, q⟩ := hs
    exact q.elim
  | cont =>
    obtain ⟨_, _, _, q⟩ := hs
    exact q.elim
end MPS
end
section
set_option Elab.async false
set_option linter.all false
set_option autoImplicit false
set_option maxRecDepth 100000
set_option maxHeartbeats 2000000
/-! 3: operations by values. -/
namespace MPS
open PySem PySem.Spec L2
open PyProof.Rows hiding St
open MP (MV MO MH MSt Res)

theorem szle {n : Nat} (h : n ≤ MP.SZ) : n ≤ sizeLine := by rw [sizeLine_eq]; exact h
theorem szlt {n : Nat} (h : n < MP.SZ) : n < sizeLine := by rw [sizeLine_eq]; exact h
section
variable {S : Sc} {K : PySem.W.Frag} {ι : Nat → Addr} {g : MH} {H : Hp}
/-- what a later heap has of a value -/
abbrev Then (S : Sc) (K : PySem.W.Frag) (ι : Nat → Addr) (g : MH) (H : Hp) (z : MV) (Q : VK) : Prop := ∀ H', Fut S K ι g H ι g H' → ∀ x, RV S K ι g.length H' z x → Q x H'
theorem Then.now {z : MV} {x : V} {Q : VK} (s : Sim S K ι g H) (h : Then S K ι g H z Q) (r : RV S K ι g.length H z x) : Q x H := h H (Fut.refl s) x r
theorem Then.newTup {xs : List MV} {vs : List V} {p : Addr} {Q : VK} (s : Sim S K ι g H) (h : Then S K ι g H (.tup xs) Q) (r : RVs S K ι g.length H xs vs) (hp : H p = none) : Q (.ref p) (upd H p (.tup vs)) :=
  h _ (Fut.new s hp) _ (.tup (SqT.of upd_same) ((Fut.new s hp).rvs s r))
end
theorem sIx_eq (n d : Nat) (o : Option Int) : MP.sIx n d o = HT.sIx n d o := by cases o <;> rfl
theorem RVs.cut {S : Sc} {K : PySem.W.Frag} {ι : Nat → Addr} {n : Nat} {H : Hp} {xs : List MV} {vs : List V} (r : RVs S K ι n H xs vs) (lo hi : Option Int) : RVs S K ι n H (MP.cut xs lo hi) (cutV vs lo hi) := by
  unfold MP.cut cutV
  rw [sIx_eq, sIx_eq, r.length]
  exact (r.drop _).take _

/-- a two-place operation answers a plain one -/
def rM (S : Sc) (K : PySem.W.Frag) (F : MV → MV → MH → Option MV) : R2 := fun x y H Q => ∃ (ι : Nat → Addr) (g : MH) (v w z : MV), Sim S K ι g H ∧ RV S K ι g.length H v x ∧ RV S K ι g.length H w y ∧ F v w g = some z ∧ Then S K ι g H z Q
section
variable {S : Sc} {X : Cx}
theorem opM_add : OpR X (binaryOp .Add) (rM S X.K fun v w _ => MP.binV .add v w) := by
  intro pins s σ H x y v u Q I rx ry ⟨ι, g, a, b, z, sm, ra, rb, e, q⟩
  cases ra with
  | int i =>
    cases rb with
    | int j =>
      cases e
      exact op_add pins s σ H _ _ v u Q I rx ry ⟨_, _, rfl, rfl, q.now sm (.int _)⟩
    | _ => cases e
  | str i =>
    cases rb with
    | str j =>
      have e' : (if i.length + j.length ≤ MP.SZ then some (MV.str (i ++ j)) else none) = some z := e
      split at e'
      · rename_i hl
        cases e'
        exact op_add_str pins s σ H _ _ v u Q I rx ry ⟨_, _, rfl, rfl, szle hl, q.now sm (.str _)⟩
      · cases e'
    | _ => cases e
  | @tup xs vs a ha hr =>
    cases rb with
    | @tup ys ws b hb hs =>
      have e' : (if xs.length + ys.length ≤ MP.SZ then some (MV.tup (xs ++ ys)) else none) = some z := e
      split at e'
      · rename_i hl
        cases e'
        refine op_catA pins s σ H _ _ v u Q I rx ry ⟨a, b, vs, ws, rfl, rfl, ha, hb, by rw [← hr.length, ← hs.length]; exact szle hl, fun e => ?_, fun _ e => ?_, fun _ _ p hp => q.newTup sm (hr.append hs) hp⟩
        · subst e
          cases hr
          exact q.now sm (.tup hb hs)
        · subst e
          cases hs
          rw [List.append_nil] at q
          exact q.now sm (.tup ha hr)
      · cases e'
    | _ => cases e
  | _ => cases rb <;> cases e
theorem opM_sub : OpR X (binaryOp .Sub) (rM S X.K fun v w _ => MP.binV .sub v w) := by
  intro pins s σ H x y v u Q I rx ry ⟨ι, g, a, b, z, sm, ra, rb, e, q⟩
  cases ra with
  | int i =>
    cases rb with
    | int j =>
      cases e
      exact op_sub pins s σ H _ _ v u Q I rx ry ⟨_, _, rfl, rfl, q.now sm (.int _)⟩
    | _ => cases e
  | _ => cases rb <;> cases e
theorem small64_ok {i : Int} (h : MP.small64 i = true) : -(2 ^ 64) < i ∧ i < 2 ^ 64 := by
  unfold MP.small64 at h
  simpa using h
theorem opM_mul : OpR X (binaryOp .Mult) (rM S X.K fun v w _ => MP.binV .mul v w) := by
  intro pins s σ H x y v u Q I rx ry ⟨ι, g, a, b, z, sm, ra, rb, e, q⟩
  cases ra with
  | int i =>
    cases rb with
    | int j =>
      have e' : (if (MP.small64 i || MP.small64 j) = true then some (MV.int (i * j)) else none) = some z := e
      split at e'
      · rename_i hl
        cases e'
        refine op_mul pins s σ H _ _ v u Q I rx ry ⟨_, _, rfl, rfl, ?_, q.now sm (.int _)⟩
        rcases Bool.or_eq_true_iff.mp hl with h | h
        · exact .inl (small64_ok h)
        · exact .inr (small64_ok h)
      · cases e'
    | _ => cases e
  | @tup xs vs a ha hr =>
    cases rb with
    | int k =>
      have e' : (if (xs.isEmpty || decide (k < 2) || decide (1000 < k) || decide (1000 < xs.length)) = true then none else some (MV.tup (List.replicate k.toNat xs).flatten)) = some z := e
      split at e'
      · cases e'
      · rename_i hl
        cases e'
        simp only [Bool.or_eq_true, decide_eq_true_eq, not_or, List.isEmpty_iff] at hl
        obtain ⟨⟨⟨h1, h2⟩, h3⟩, h4⟩ := hl
        have hlen := hr.length
        refine op_repT pins s σ H _ _ v u Q I rx ry ⟨a, k, vs, rfl, rfl, ha, fun e => h1 ?_, by omega, by omega, by omega, fun p hp => q.newTup sm (hr.rep _) hp⟩
        subst e
        cases hr
        rfl
    | _ => cases e
  | _ => cases rb <;> cases e
theorem opM_mod : OpR X (binaryOp .Mod) (rM S X.K fun v w _ => MP.binV .mod v w) := by
  intro pins s σ H x y v u Q I rx ry ⟨ι, g, a, b, z, sm, ra, rb, e, q⟩
  cases ra with
  | int i =>
    cases rb with
    | int j =>
      have e' : (if 0 < j then some (MV.int (i % j)) else none) = some z := e
      split at e'
      · rename_i hl
        cases e'
        exact op_mod pins s σ H _ _ v u Q I rx ry ⟨_, _, rfl, rfl, hl, q.now sm (.int _)⟩
      · cases e'
    | _ => cases e
  | _ => cases rb <;> cases e
theorem opM_fdiv : OpR X (binaryOp .FloorDiv) (rM S X.K fun v w _ => MP.binV .fdiv v w) := by
  intro pins s σ H x y v u Q I rx ry ⟨ι, g, a, b, z, sm, ra, rb, e, q⟩
  cases ra with
  | int i =>
    cases rb with
    | int j =>
      have e' : (if 0 < j ∧ j < 1073741824 then some (MV.int (i / j)) else none) = some z := e
      split at e'
      · rename_i hl
        cases e'
        exact op_fdiv pins s σ H _ _ v u Q I rx ry ⟨_, _, rfl, rfl, hl, q.now sm (.int _)⟩
      · cases e'
    | _ => cases e
  | _ => cases rb <;> cases e
theorem opM_pow : OpR X (binaryOp .Pow) (rM S X.K fun v w _ => MP.binV .pow v w) := by
  intro pins s σ H x y v u Q I rx ry ⟨ι, g, a, b, z, sm, ra, rb, e, q⟩
  cases ra with
  | int i =>
    cases rb with
    | int j =>
      have e' : (if 0 ≤ j ∧ j ≤ 1000000 ∧ i.natAbs < 2 ^ 64 then some (MV.int (i ^ j.toNat)) else none) = some z := e
      split at e'
      · rename_i hl
        cases e'
        exact op_pow pins s σ H _ _ v u Q I rx ry ⟨_, _, rfl, rfl, hl, q.now sm (.int _)⟩
      · cases e'
    | _ => cases e
  | _ => cases rb <;> cases e
theorem opM_shl : OpR X (binaryOp .LShift) (rM S X.K fun v w _ => MP.binV .shl v w) := by
  intro pins s σ H x y v u Q I rx ry ⟨ι, g, a, b, z, sm, ra, rb, e, q⟩
  cases ra with
  | int i =>
    cases rb with
    | int j =>
      have e' : (if 0 ≤ j ∧ j ≤ 1000000 ∧ i.natAbs < 2 ^ 64 then some (MV.int (i * 2 ^ j.toNat)) else none) = some z := e
      split at e'
      · rename_i hl
        cases e'
        exact op_shl pins s σ H _ _ v u Q I rx ry ⟨_, _, rfl, rfl, hl, q.now sm (.int _)⟩
      · cases e'
    | _ => cases e
  | _ => cases rb <;> cases e
def opOf : MP.BOp → Operator
  | .add => .Add | .sub => .Sub | .mul => .Mult | .mod => .Mod | .fdiv => .FloorDiv | .pow => .Pow | .shl => .LShift
theorem opM (op : MP.BOp) : OpR X (binaryOp (opOf op)) (rM S X.K fun v w _ => MP.binV op v w) := by
  cases op
  · exact opM_add
  · exact opM_sub
  · exact opM_mul
  · exact opM_mod
  · exact opM_fdiv
  · exact opM_pow
  · exact opM_shl

/-! ### data -/
theorem mapM_cons {α β : Type} {f : α → Option β} {x : α} {xs : List α} {ds : List β} (h : (x :: xs).mapM f = some ds) : ∃ d r, ds = d :: r ∧ f x = some d ∧ xs.mapM f = some r := by
  rw [List.mapM_cons] at h
  cases e : f x with
  | none => rw [e] at h; cases h
  | some d =>
    rw [e] at h
    cases e2 : xs.mapM f with
    | none => rw [e2] at h; cases h
    | some r =>
      rw [e2] at h
      cases h
      exact ⟨d, r, rfl, rfl, rfl⟩
theorem dp_of {K : PySem.W.Frag} {ι : Nat → Addr} {g : MH} {H : Hp} (sm : Sim S K ι g H) : ∀ (n : Nat) (v : MV) (x : V) (d : PyData), MP.toD n g v = some d → RV S K ι g.length H v x → Dp K H x d := by
  intro n
  induction n with
  | zero => intro v x d h _; cases h
  | succ n ih =>
    have all : ∀ (xs : List MV) (vs : List V) (ds : List PyData), xs.mapM (MP.toD n g) = some ds → RVs S K ι g.length H xs vs → DpAll K H vs ds := by
      intro xs
      induction xs with
      | nil =>
        intro vs ds h r
        cases r
        cases h
        exact .nil
      | cons y ys ih2 =>
        intro vs ds h r
        obtain ⟨d, r', rfl, h1, h2⟩ := mapM_cons h
        cases r with
        | cons q1 q2 => exact .cons (ih y _ d h1 q1) (ih2 _ _ h2 q2)
    intro v x d h r
    cases r with
    | non => cases h; exact .non
    | bl b => cases h; exact .bl b
    | int i => cases h; exact .int i
    | str z => cases h; exact .str z
    | @tup xs vs a ha hr =>
      obtain ⟨ds, e, rfl⟩ := Option.map_eq_some_iff.mp (show (xs.mapM (MP.toD n g)).map PyData.tuple = some d from h)
      exact .tup ha (all xs vs ds e hr)
    | @frl xs vs a ha hr =>
      obtain ⟨ds, e, rfl⟩ := Option.map_eq_some_iff.mp (show (xs.mapM (MP.toD n g)).map PyData.list = some d from h)
      exact .lst ha.sq (all xs vs ds e hr)
    | @loc l hl =>
      have h' : (match g[l]? with
        | some (.lst xs) => (xs.mapM (MP.toD n g)).map PyData.list
        | _ => none) = some d := h
      split at h'
      · rename_i xs e
        obtain ⟨ds, e2, rfl⟩ := Option.map_eq_some_iff.mp h'
        obtain ⟨vs, r, e3⟩ := sm.obj l _ e
        exact .lst (SqL.of e3) (all xs vs ds e2 r)
      · cases h'
    | fn f => cases h
/-- a two-place test answers a plain one -/
def rMB (S : Sc) (K : PySem.W.Frag) (F : MV → MV → MH → Option Bool) : R2 := fun x y H Q => ∃ (ι : Nat → Addr) (g : MH) (v w : MV) (z : Bool), Sim S K ι g H ∧ RV S K ι g.length H v x ∧ RV S K ι g.length H w y ∧ F v w g = some z ∧ Q (.bl z) H
theorem scEq_ok {K : PySem.W.Frag} {ι : Nat → Addr} {n : Nat} {H : Hp} {v w : MV} {x y : V} {b : Bool} (rv : RV S K ι n H v x) (rw_ : RV S K ι n H w y) (h : MP.scEq v w = some b) : scal x y = true ∧ decide (x = y) = b := by
  cases rv <;> cases rw_ <;> first
    | (cases h; done)
    | (injection h with h; subst h; exact ⟨rfl, by simp⟩)
theorem opM_eq (hu : X.A.units + 64 < cLine) : OpR X (compareOp .Eq) (rMB S X.K fun v w g => MP.eqV g v w) := by
  intro pins s σ H x y v u Q I rx ry ⟨ι, g, a, b, z, sm, ra, rb, e, q⟩
  replace e : MP.eqV g a b = some z := e
  unfold MP.eqV at e
  split at e
  · rename_i c hc
    cases e
    obtain ⟨h1, h2⟩ := scEq_ok ra rb hc
    exact op_eq pins s σ H _ _ v u Q I rx ry ⟨h1, by rw [h2]; exact q⟩
  · split at e
    · rename_i d1 d2 e1 e2
      split at e
      · rename_i hs
        cases e
        obtain ⟨s1, s2⟩ := Bool.and_eq_true_iff.mp hs
        exact op_eqD hu pins s σ H _ _ v u Q I rx ry ⟨d1, d2, dp_of sm _ _ _ _ e1 ra, dp_of sm _ _ _ _ e2 rb, s1, s2, q⟩
      · cases e
    · cases e
theorem opM_ne (hu : X.A.units + 64 < cLine) : OpR X (compareOp .NotEq) (rMB S X.K fun v w g => (MP.eqV g v w).map (!·)) := by
  intro pins s σ H x y v u Q I rx ry ⟨ι, g, a, b, z, sm, ra, rb, e0, q⟩
  obtain ⟨z', e, rfl⟩ := Option.map_eq_some_iff.mp e0
  clear e0
  unfold MP.eqV at e
  split at e
  · rename_i c hc
    cases e
    obtain ⟨h1, h2⟩ := scEq_ok ra rb hc
    exact op_ne pins s σ H _ _ v u Q I rx ry ⟨h1, by rw [h2]; exact q⟩
  · split at e
    · rename_i d1 d2 e1 e2
      split at e
      · rename_i hs
        cases e
        obtain ⟨s1, s2⟩ := Bool.and_eq_true_iff.mp hs
        exact op_neD hu pins s σ H _ _ v u Q I rx ry ⟨d1, d2, dp_of sm _ _ _ _ e1 ra, dp_of sm _ _ _ _ e2 rb, s1, s2, q⟩
      · cases e
    · cases e
theorem flat_ok {K : PySem.W.Frag} {ι : Nat → Addr} {n : Nat} {H : Hp} {v : MV} {x : V} (r : RV S K ι n H v x) (h : MP.flat v = true) : flatV x = true := by
  cases r <;> first
    | rfl
    | (cases h; done)
theorem flats_ok {K : PySem.W.Frag} {ι : Nat → Addr} {n : Nat} {H : Hp} : ∀ {xs : List MV} {vs : List V}, RVs S K ι n H xs vs → xs.all MP.flat = true → vs.all flatV = true
  | _, _, .nil, _ => rfl
  | _, _, .cons h r, e => by
    rw [List.all_cons] at e ⊢
    obtain ⟨e1, e2⟩ := Bool.and_eq_true_iff.mp e
    rw [flat_ok h e1, flats_ok r e2]
    rfl
theorem eqF_ok {K : PySem.W.Frag} {ι : Nat → Addr} {n : Nat} {H : Hp} {v w : MV} {x y : V} (r : RV S K ι n H v x) (q : RV S K ι n H w y) : MP.eqF v w = L2.eqV x y := by
  cases r <;> cases q <;> rfl
theorem inF_ok {K : PySem.W.Frag} {ι : Nat → Addr} {n : Nat} {H : Hp} {v : MV} {x : V} (q : RV S K ι n H v x) : ∀ {xs : List MV} {vs : List V}, RVs S K ι n H xs vs → (xs.any fun y => MP.eqF y v) = L2.inV x vs
  | _, _, .nil => rfl
  | _, _, .cons h r => by
    unfold L2.inV
    rw [List.any_cons, List.any_cons, eqF_ok h q]
    congr 1
    exact inF_ok q r
theorem str_one {x : Str} {c : Nat} (h : x.cps.toList = [c]) : x = ⟨#[c]⟩ := by
  cases x
  congr 1
  exact Array.toList_inj.mp h
theorem opM_in : OpR X (compareOp .In) (rMB S X.K fun v w g => MP.inV g v w) := by
  intro pins s σ H x y v u Q I rx ry ⟨ι, g, a, b, z, sm, ra, rb, e, q⟩
  replace e : MP.inV g a b = some z := e
  unfold MP.inV at e
  split at e
  · split at e
    · rename_i c hc
      cases e
      cases ra
      cases rb
      exact op_in_sign pins s σ H _ _ v u Q I rx ry ⟨c, _, by rw [str_one hc], rfl, q⟩
    · cases e
  · split at e
    · rename_i hf
      cases e
      obtain ⟨f1, f2⟩ := Bool.and_eq_true_iff.mp hf
      cases rb with
      | tup hb hs => exact op_in_seq pins s σ H _ _ v u Q I rx ry ⟨_, _, rfl, .inr hb, flat_ok ra f1, flats_ok hs f2, by rw [← inF_ok ra hs]; exact q⟩
    · cases e
  · split at e
    · rename_i ws ew
      split at e
      · rename_i hf
        cases e
        obtain ⟨f1, f2⟩ := Bool.and_eq_true_iff.mp hf
        cases rb with
        | loc hl =>
          obtain ⟨vs, hs, e3⟩ := sm.obj _ _ ew
          exact op_in_seq pins s σ H _ _ v u Q I rx ry ⟨_, _, rfl, .inl (SqL.of e3), flat_ok ra f1, flats_ok hs f2, by rw [← inF_ok ra hs]; exact q⟩
      · cases e
    · cases e
  · cases e
theorem opM_notin : OpR X (compareOp .NotIn) (rMB S X.K fun v w g => (MP.inV g v w).map (!·)) := by
  intro pins s σ H x y v u Q I rx ry ⟨ι, g, a, b, z, sm, ra, rb, e0, q⟩
  obtain ⟨z', e, rfl⟩ := Option.map_eq_some_iff.mp e0
  clear e0
  unfold MP.inV at e
  split at e
  · split at e
    · rename_i c hc
      cases e
      cases ra
      cases rb
      exact op_notIn_sign pins s σ H _ _ v u Q I rx ry ⟨c, _, by rw [str_one hc], rfl, q⟩
    · cases e
  · split at e
    · rename_i hf
      cases e
      obtain ⟨f1, f2⟩ := Bool.and_eq_true_iff.mp hf
      cases rb with
      | tup hb hs => exact op_notIn_seq pins s σ H _ _ v u Q I rx ry ⟨_, _, rfl, .inr hb, flat_ok ra f1, flats_ok hs f2, by rw [← inF_ok ra hs]; exact q⟩
    · cases e
  · split at e
    · rename_i ws ew
      split at e
      · rename_i hf
        cases e
        obtain ⟨f1, f2⟩ := Bool.and_eq_true_iff.mp hf
        cases rb with
        | loc hl =>
          obtain ⟨vs, hs, e3⟩ := sm.obj _ _ ew
          exact op_notIn_seq pins s σ H _ _ v u Q I rx ry ⟨_, _, rfl, .inl (SqL.of e3), flat_ok ra f1, flats_ok hs f2, by rw [← inF_ok ra hs]; exact q⟩
      · cases e
    · cases e
  · cases e
theorem opM_int {op : CmpOp} {p : Int → Int → Bool} {F : MV → MV → Option Bool} (rule : OpR X (compareOp op) (rI0 fun i j => .bl (p i j))) (hF : ∀ v w z, F v w = some z → ∃ i j, v = .int i ∧ w = .int j ∧ z = p i j) :
    OpR X (compareOp op) (rMB S X.K fun v w _ => F v w) := by
  intro pins s σ H x y v u Q I rx ry ⟨ι, g, a, b, z, sm, ra, rb, e, q⟩
  obtain ⟨i, j, rfl, rfl, rfl⟩ := hF _ _ _ e
  cases ra
  cases rb
  exact rule pins s σ H _ _ v u Q I rx ry ⟨_, _, rfl, rfl, q⟩
def copOf : MP.COp → CmpOp
  | .eq => .Eq | .ne => .NotEq | .lt => .Lt | .le => .LtE | .gt => .Gt | .ge => .GtE | .isin => .In | .notin => .NotIn
theorem copM (hu : X.A.units + 64 < cLine) (op : MP.COp) : OpR X (compareOp (copOf op)) (rMB S X.K fun v w g => MP.cmpV op g v w) := by
  have two : ∀ {p : Int → Int → Bool} {v w : MV} {z : Bool}, (match v, w with | .int i, .int j => some (p i j) | _, _ => none) = some z → ∃ i j, v = .int i ∧ w = .int j ∧ z = p i j := by
    intro p v w z h
    split at h
    · cases h
      exact ⟨_, _, rfl, rfl, rfl⟩
    · cases h
  cases op
  · exact opM_eq hu
  · exact opM_ne hu
  · exact opM_int op_lt fun v w z h => two h
  · exact opM_int op_le fun v w z h => two h
  · exact opM_int op_gt fun v w z h => two h
  · exact opM_int op_ge fun v w z h => two h
  · exact opM_in
  · exact opM_notin
/-! ### truth, length, items, slices -/
theorem truthM {K : PySem.W.Frag} {ι : Nat → Addr} {g : MH} {H : Hp} {v : MV} {x : V} {k : Bool} (sm : Sim S K ι g H) (r : RV S K ι g.length H v x) (h : MP.truth g v = some k) : TruV K x H k := by
  cases r with
  | non => cases h; exact rfl
  | bl b => cases h; exact rfl
  | int i => cases h; exact rfl
  | str z =>
    have h' : (if z.length ≤ MP.SZ then some ((z.length : Int) != 0) else none) = some k := h
    split at h'
    · cases h'
      exact ⟨szle (by assumption), rfl⟩
    · cases h'
  | tup ha hr =>
    cases h
    exact .inr (.inl ⟨_, ha, by rw [hr.empty]⟩)
  | frl ha hr =>
    cases h
    exact .inl ⟨_, ha.sq, by rw [hr.empty]⟩
  | @loc l hl =>
    have h' : (match g[l]? with
      | some (.lst xs) => some (!xs.isEmpty)
      | some (.dic kvs) => some (!kvs.isEmpty)
      | _ => none) = some k := h
    split at h'
    · rename_i xs e
      cases h'
      obtain ⟨vs, hr, e3⟩ := sm.obj _ _ e
      exact .inl ⟨_, SqL.of e3, by rw [hr.empty]⟩
    · rename_i kvs e
      cases h'
      obtain ⟨ks, e3, hr⟩ := sm.obj _ _ e
      exact .inr (.inr ⟨_, e3, by cases hr <;> rfl⟩)
    · cases h'
  | fn f => cases h
end
end MPS
end
section
set_option Elab.async false
set_option linter.all false
set_option autoImplicit false
set_option maxRecDepth 100000
set_option maxHeartbeats 2000000
/-! 4: built-in functions, subscripts, slices by values. -/
namespace MPS
open PySem PySem.Spec L2
open PyProof.Rows hiding St
open MP (MV MO MH MSt Res)
variable {S : Sc} {X : Cx}

/-- a call of one value answers a plain function -/
def rC1 (S : Sc) (K : PySem.W.Frag) (F : MV → MH → Option MV) : List V → Hp → VK → Prop := fun xs H Q => ∃ (ι : Nat → Addr) (g : MH) (v z : MV) (x : V), xs = [x] ∧ Sim S K ι g H ∧ RV S K ι g.length H v x ∧ F v g = some z ∧ Then S K ι g H z Q
theorem c1_len : CallR X (.builtin "len") (rC1 S X.K fun v g => MP.bi1V .len g v) := by
  intro pins s σ H xs us Q I rs ⟨ι, g, v, z, x, e, sm, r, h, q⟩
  subst e
  obtain ⟨n, hn, rfl⟩ := Option.map_eq_some_iff.mp (show (MP.lenOf g v).map (fun n : Nat => MV.int (n : Int)) = some z from h)
  have fin : LenV X.K x H n → wpAny (model X.prog X.w) X.A (call (.builtin "len") us) (EP X pins σ Q) X.xe s := fun hl =>
    call_len pins s σ H [x] us Q I rs ⟨x, n, rfl, hl, q.now sm (.int _)⟩
  cases r with
  | str y =>
    have h' : (if y.length ≤ MP.SZ then some y.length else none) = some n := hn
    split at h'
    · cases h'
      exact fin ⟨szle (by assumption), rfl⟩
    · cases h'
  | tup ha hr =>
    cases hn
    exact fin (.inr ⟨_, ha, hr.length⟩)
  | frl ha hr =>
    cases hn
    exact fin (.inl ⟨_, ha.sq, hr.length⟩)
  | @loc l hl =>
    have h' : (match g[l]? with
      | some (.lst xs) => some xs.length
      | some (.dic kvs) => some kvs.length
      | _ => none) = some n := hn
    split at h'
    · rename_i xs e
      cases h'
      obtain ⟨vs, hr, e3⟩ := sm.obj _ _ e
      exact fin (.inl ⟨_, SqL.of e3, hr.length⟩)
    · rename_i kvs e
      cases h'
      obtain ⟨ks, e3, hr⟩ := sm.obj _ _ e
      obtain ⟨u, rfl, r1⟩ := vals1 rs
      cases r1
      have hlen : kvs.length = ks.length := Paired.length hr
      refine d_len I (Rd.of e3) fun t s' I' => ⟨.int _, H, I', ⟨t, rfl⟩, ?_⟩
      rw [← hlen]
      exact q.now sm (.int _)
    · cases h'
  | _ => cases hn
theorem c1_abs : CallR X (.builtin "abs") (rC1 S X.K fun v g => MP.bi1V .abs g v) := by
  intro pins s σ H xs us Q I rs ⟨ι, g, v, z, x, e, sm, r, h, q⟩
  subst e
  cases r with
  | int i =>
    cases h
    exact call_abs pins s σ H _ us Q I rs ⟨_, rfl, q.now sm (.int _)⟩
  | _ => cases h
theorem c1_int : CallR X (.type "int") (rC1 S X.K fun v g => MP.bi1V .int g v) := by
  intro pins s σ H xs us Q I rs ⟨ι, g, v, z, x, e, sm, r, h, q⟩
  subst e
  cases r with
  | int i =>
    cases h
    exact call_int1 pins s σ H _ us Q I rs (.inl ⟨_, rfl, q.now sm (.int _)⟩)
  | bl k =>
    cases h
    exact call_int1 pins s σ H _ us Q I rs (.inr ⟨_, rfl, q.now sm (.int _)⟩)
  | str a =>
    have h' : (match PySem.intText? a with
      | some n => if a.length ≤ 640 then some (MV.int n) else none
      | none => none) = some z := h
    split at h'
    · rename_i n hn
      split at h'
      · cases h'
        exact call_int_str pins s σ H _ us Q I rs ⟨a, n, rfl, hn, by assumption, q.now sm (.int _)⟩
      · cases h'
    · cases h'
  | _ => cases h
theorem c1_str : CallR X (.type "str") (rC1 S X.K fun v g => MP.bi1V .str g v) := by
  intro pins s σ H xs us Q I rs ⟨ι, g, v, z, x, e, sm, r, h, q⟩
  subst e
  cases r with
  | int i =>
    have h' : (if i.natAbs.log2 < 1920 then some (MV.str (MP.strI i)) else none) = some z := h
    split at h'
    · cases h'
      exact call_str_int pins s σ H _ us Q I rs ⟨i, rfl, by assumption, q.now sm (.str _)⟩
    · cases h'
  | str a =>
    cases h
    exact SkE.call_str_str pins s σ H _ us Q I rs ⟨a, rfl, q.now sm (.str _)⟩
  | non =>
    cases h
    obtain ⟨u, rfl, r1⟩ := vals1 rs
    cases r1
    exact PySem.P.str_of_none ⟨.str _, H, I.tok _, ⟨_, rfl⟩, q.now sm (.str _)⟩
  | _ => cases h
theorem c1_tuple : CallR X (.type "tuple") (rC1 S X.K fun v g => MP.bi1V .tuple g v) := by
  intro pins s σ H xs us Q I rs ⟨ι, g, v, z, x, e, sm, r, h, q⟩
  subst e
  cases r with
  | tup ha hr =>
    cases h
    exact call_tuple_of pins s σ H _ us Q I rs ⟨_, _, rfl, .inr ⟨ha, q.now sm (.tup ha hr)⟩⟩
  | @loc l hl =>
    have h' : (match g[l]? with
      | some (.lst xs) => some (MV.tup xs)
      | _ => none) = some z := h
    split at h'
    · rename_i xs e
      cases h'
      obtain ⟨vs, hr, e3⟩ := sm.obj _ _ e
      exact call_tuple_of pins s σ H _ us Q I rs ⟨_, _, rfl, .inl ⟨SqL.of e3, fun p hp => q.newTup sm hr hp⟩⟩
    · cases h'
  | _ => cases h
/-- repr -/
theorem c1_repr (hgd : X.A.guards = some []) (hu : X.A.units + 66 < cLine) : CallR X (.builtin "repr") (rC1 S X.K fun v g => MP.bi1V .repr g v) := by
  intro pins s σ H xs us Q I rs ⟨ι, g, v, z, x, e, sm, r, h, q⟩
  subst e
  have h' : (match MP.toD 66 g v with
    | some d => if (d.showable && decide (d.shown.length ≤ MP.SZ) && SeqAt.shaped d) = true then some (MV.str d.shown) else none
    | none => none) = some z := h
  split at h'
  · rename_i d hd
    split at h'
    · rename_i hc
      cases h'
      simp only [Bool.and_eq_true, decide_eq_true_eq] at hc
      obtain ⟨⟨h1, h2⟩, h3⟩ := hc
      obtain ⟨u, rfl, r1⟩ := vals1 rs
      have dp := dp_of sm _ _ _ _ hd r
      obtain ⟨as, rd⟩ := Dp.reads I d x u dp r1
      have hlay : d.canLay0 = true ∧ d.depth ≤ 64 := by
        unfold SeqAt.shaped at h3
        simpa using h3
      have hnd := PyData.hasDict_of_canLay d hlay.1
      have hsz := szle h2
      have big : ∀ a, u = .ref a → wpAny (model X.prog X.w) X.A (call (.builtin "repr") [u]) (EP X pins σ Q) X.xe s := fun a ea => by
        subst ea
        exact repr_of_reads' rd h1 (PyData.noDict_hsm hnd) hgd (by omega) (fun _ _ e => e) (fun h' u tk hk => ⟨.str _, H, I.kept hk, ⟨u, rfl⟩, q.now sm (.str _)⟩) hsz
      cases dp with
      | non =>
        cases r1
        exact PySem.P.repr_of_none ⟨.str _, H, I.tok _, ⟨_, rfl⟩, q.now sm (.str _)⟩
      | bl b =>
        cases r1
        exact PySem.P.repr_of_bool ⟨.str _, H, I.tok _, ⟨_, rfl⟩, q.now sm (.str _)⟩
      | int i =>
        obtain ⟨t, rfl⟩ := r1
        exact PySem.P.repr_of_int (by simpa [PyData.showable] using h1) ⟨.str _, H, I.tok _, ⟨_, rfl⟩, q.now sm (.str _)⟩
      | str y =>
        obtain ⟨t, rfl⟩ := r1
        exact PySem.P.repr_of_str ⟨.str _, H, I.tok _, ⟨_, rfl⟩, q.now sm (.str _)⟩ hsz
      | lst _ _ => exact big _ r1
      | tup _ _ => exact big _ r1
    · cases h'
  · cases h'
/-- the built-in class of a name -/
def tyN : MP.Ty → String
  | .int => "int" | .bool => "bool" | .str => "str" | .tuple => "tuple" | .list => "list" | .dict => "dict"
theorem inst_ok {ι : Nat → Addr} {g : MH} {H : Hp} {v : MV} {x : V} {t : MP.Ty} {b : Bool} (sm : Sim S X.K ι g H) (r : RV S X.K ι g.length H v x) (h : MP.isinst g v t = some b) : ∃ u, TyX X.K H x u ∧ PySem.W.kitOne X.K u (.type (tyN t)) = some b := by
  cases r with
  | non =>
    cases h
    exact ⟨_, .base .non, by cases t <;> exact kit_ty (by decide +kernel)⟩
  | bl k =>
    cases h
    exact ⟨_, .base (.bl k), by cases t <;> exact kit_ty (by decide +kernel)⟩
  | int i =>
    cases h
    exact ⟨_, .base (.int i), by cases t <;> exact kit_ty (by decide +kernel)⟩
  | str y =>
    cases h
    exact ⟨_, .base (.str y), by cases t <;> exact kit_ty (by decide +kernel)⟩
  | @tup xs vs a ha hr =>
    cases h
    rcases ha with (ha | ⟨o, ha⟩) | ⟨o, its, n, hk, hc, _⟩
    · exact ⟨_, .base (.tup ha), by cases t <;> exact kit_ty (by decide +kernel)⟩
    · exact ⟨_, .fTuple ha, by cases t <;> exact kit_ty (by decide +kernel)⟩
    · exact ⟨_, .kTuple hk hc, by cases t <;> exact kit_ty (by decide +kernel)⟩
  | @loc l hl =>
    have h' : (match g[l]? with
      | some (.lst _) => some (decide (t = .list))
      | some (.dic _) => some (decide (t = .dict))
      | _ => none) = some b := h
    split at h'
    · rename_i xs e
      cases h'
      obtain ⟨vs, hr, e3⟩ := sm.obj _ _ e
      exact ⟨_, .base (.lst e3), by cases t <;> exact kit_ty (by decide +kernel)⟩
    · rename_i kvs e
      cases h'
      obtain ⟨ks, e3, hr⟩ := sm.obj _ _ e
      exact ⟨_, .base (.dK e3), by cases t <;> exact kit_ty (by decide +kernel)⟩
    · cases h'
  | _ => cases h

/-- a[i] -/
theorem idx_ok : IxR X (rM S X.K fun v w g => MP.idxV g v w) := by
  intro value slice pins s σ H x y v u Q I rx ry ⟨ι, g, a, b, z, sm, ra, rb, e, q⟩ hs
  replace e : MP.idxV g a b = some z := e
  have atG : ∀ {xs : List MV} {vs : List V} {i : Int}, RVs S X.K ι g.length H xs vs → MP.atI xs i = some z → ∃ w, L2.atI vs i = some w ∧ RV S X.K ι g.length H z w := by
    intro xs vs i hr h
    unfold MP.atI at h
    obtain ⟨j, h1, h2⟩ := Option.bind_eq_some_iff.mp h
    obtain ⟨w, h3, h4⟩ := hr.get h2
    refine ⟨w, ?_, h4⟩
    unfold L2.atI
    have h1' : L2.ixN vs.length i = some j := by rw [← hr.length]; exact h1
    rw [h1', Option.bind_some]
    exact h3
  cases ra with
  | @tup xs vs a ha hr =>
    cases rb with
    | int i =>
      obtain ⟨w, h1, h2⟩ := atG hr e
      exact ix_seq value slice pins s σ H _ _ v u Q I rx ry (.inr (.inl ⟨_, _, _, _, rfl, rfl, ha, h1, q.now sm h2⟩)) hs
    | _ => cases e
  | @frl xs vs a ha hr =>
    cases rb with
    | int i =>
      obtain ⟨w, h1, h2⟩ := atG hr e
      exact ix_seq value slice pins s σ H _ _ v u Q I rx ry (.inl ⟨_, _, _, _, rfl, rfl, ha.sq, h1, q.now sm h2⟩) hs
    | _ => cases e
  | str zt =>
    cases rb with
    | int i =>
      have e' : (if zt.length ≤ MP.SZ then (MP.atI zt.cps.toList i).map (fun c => MV.str ⟨#[c]⟩) else none) = some z := e
      split at e'
      · obtain ⟨c, h1, rfl⟩ := Option.map_eq_some_iff.mp e'
        exact ix_seq value slice pins s σ H _ _ v u Q I rx ry (.inr (.inr ⟨zt, i, c, rfl, rfl, szle (by assumption), h1, q.now sm (.str _)⟩)) hs
      · cases e'
    | _ => cases e
  | @loc l hl =>
    cases rb with
    | int i =>
      have e' : (match g[l]? with
        | some (.lst xs) => MP.atI xs i
        | _ => none) = some z := e
      split at e'
      · rename_i xs eg
        obtain ⟨vs, hr, e3⟩ := sm.obj _ _ eg
        obtain ⟨w, h1, h2⟩ := atG hr e'
        exact ix_seq value slice pins s σ H _ _ v u Q I rx ry (.inl ⟨_, _, _, _, rfl, rfl, SqL.of e3, h1, q.now sm h2⟩) hs
      · cases e'
    | _ => cases e
  | _ => cases e
/-- a[lo:hi], a tuple or a text -/
def rSlM (S : Sc) (K : PySem.W.Frag) : V → Option Int → Option Int → Hp → VK → Prop := fun x lo hi H Q => ∃ (ι : Nat → Addr) (g : MH) (v z : MV), Sim S K ι g H ∧ RV S K ι g.length H v x ∧ MP.slV v lo hi = some z ∧ Then S K ι g H z Q
theorem cutS_ok (z : Str) (lo hi : Option Int) : MP.cutS z lo hi = L2.cutS z lo hi := by
  unfold MP.cutS L2.cutS MP.cut
  rw [sIx_eq, sIx_eq]
  rfl
theorem cut_all {α : Type} {xs : List α} {lo hi : Option Int} (h : HT.sIx xs.length 0 lo = 0 ∧ HT.sIx xs.length xs.length hi = xs.length) : MP.cut xs lo hi = xs := by
  unfold MP.cut
  rw [sIx_eq, sIx_eq, h.1, h.2]
  simp
theorem sl_ok : SlR X (rSlM S X.K) := by
  intro pins s σ H x v vl vu lo hi sl Q I rx hs pl pu ⟨ι, g, a, z, sm, ra, e, q⟩
  cases ra with
  | @tup xs vs a ha hr =>
    cases e
    refine sl_tupA pins s σ H _ v vl vu lo hi sl Q I rx hs pl pu ⟨a, vs, rfl, ha, fun hw => ?_, fun _ p hp => q.newTup sm (hr.cut lo hi) hp⟩
    have hw' := hw
    rw [← hr.length] at hw'
    rw [cut_all hw'] at q
    exact q.now sm (.tup ha hr)
  | str y =>
    have e' : (if y.length ≤ MP.SZ then some (MV.str (MP.cutS y lo hi)) else none) = some z := e
    split at e'
    · cases e'
      exact sl_str pins s σ H _ v vl vu lo hi sl Q I rx hs pl pu ⟨y, rfl, szle (by assumption), by rw [← cutS_ok]; exact q.now sm (.str _)⟩
    · cases e'
  | _ => cases e
end MPS
end
section
set_option Elab.async false
set_option linter.all false
set_option autoImplicit false
set_option maxRecDepth 100000
set_option maxHeartbeats 2000000
/-! 5: one rule a construct. -/
namespace MPS
open PySem PySem.Spec L2
open PyProof.Rows hiding St
open MP (MV MO MH MSt Res)

/-- what the written part says of the names -/
structure Facts (S : Sc) (K : PySem.W.Frag) (mg : Str → Option Value) : Prop where
  fn : ∀ x f, S.nm.gl.lookup x = some (.fn f) → f < S.T.fns.length ∧ mg x = some (.ref (S.fa f)) ∧ PySem.W.keepIn K (.ref (S.fa f)) = true
  cst : ∀ x v, S.nm.gl.lookup x = some (.cst v) → ∃ (y : V) (u : Value), (∀ ι n H, RV S K ι n H v y) ∧ mg x = some u ∧ RelV y u
  free : ∀ x, S.nm.free.contains x = true → mg x = none
  cls : ∀ x c, S.nm.gl.lookup x = some (.cls c) → ∃ kl, S.T.cls[c]? = some kl ∧ kl.init < S.T.fns.length ∧ mg x = some (.ref (S.ca c)) ∧ Mk K (S.ca c) (S.fa kl.init)
  clsC : ∀ c kl, S.T.cls[c]? = some kl → Cls K (S.ca c)
  meth : ∀ c kl m f, S.T.cls[c]? = some kl → kl.meths.lookup m = some f → f < S.T.fns.length ∧ ∀ nm, S.attrs[m]? = some nm → Meth K (S.ca c) nm (S.fa f)
  noat : ∀ c kl a, S.T.cls[c]? = some kl → kl.flds.contains a = true → ∀ nm, S.attrs[a]? = some nm → NoAttr K (S.ca c) nm
  nd : S.attrs.Nodup
  keep : ∀ f, f < S.T.fns.length → PySem.W.keepIn K (.ref (S.fa f)) = true
/-- where one stands -/
structure Cq (S : Sc) (X : Cx) (k : Nat) (W : WX) : Prop where
  room : Room k X.A
  guards : X.A.guards = some []
  nd : X.N.Nodup
  calm : X.calm = true
  tk : Takes X W
  fc : Facts S X.K X.mg
  call : ∀ f, f < S.T.fns.length → CanCall S X k f
  callm : ∀ j, k = j + 1 → ∀ f, f < S.T.fns.length → CanCall S X j f
def evOf (T : MP.Tab) (k : Nat) : MP.Ev := ⟨T, MP.callF T k, match k with
  | 0 => fun _ _ => MP.nope
  | j + 1 => MP.callF T j, decide (0 < k)⟩

theorem Good.reW {α : Type} {S : Sc} {K : PySem.W.Frag} {W : WX} {σ : St} {ι : Nat → Addr} {g : MH} {H : Hp} {r : Res α} {Q : (Nat → Addr) → α → MH → Hp → Prop} (h : Good S K W σ ι g H r Q) : Good S K (fun cls d _ H' => W cls d σ H') [] ι g H r Q := by
  cases r with
  | ok a g' => exact h
  | exc c fs g' => exact h
  | stuck => exact h
theorem callF_lt {T : MP.Tab} {k f : Nat} {vs : List MV} {g : MH} (h : MP.callF T k f vs g ≠ .stuck) : f < T.fns.length := by
  cases k with
  | zero => exact absurd rfl h
  | succ k =>
    by_cases hf : f < T.fns.length
    · exact hf
    · exfalso
      apply h
      unfold MP.callF
      rw [List.getElem?_eq_none (Nat.not_lt.mp hf)]
      rfl
theorem Good.ns {α : Type} {S : Sc} {K : PySem.W.Frag} {W : WX} {σ : St} {ι : Nat → Addr} {g : MH} {H : Hp} {r : Res α} {Q : (Nat → Addr) → α → MH → Hp → Prop} (h : Good S K W σ ι g H r Q) : r ≠ .stuck := by
  rintro rfl
  exact h

section
variable {S : Sc} {X : Cx} {W : WX} {k : Nat}
theorem star_of {e : Expr} {es : List Expr} {env : Env} (h : notStar e = true) : starEach (e :: es) env = (false, eval e env) :: starEach es env := by
  cases e <;> first
    | rfl
    | exact absurd h Bool.false_ne_true
theorem name_ok {x : Str} (h : okName x = true) : (x == ("__debug__" : Str)) = false ∧ (x == ("__classdict__" : Str)) = false ∧ x ≠ "__name__" := by
  unfold okName at h
  simp only [Bool.and_eq_true, Bool.not_eq_true'] at h
  obtain ⟨⟨h1, h2⟩, h3⟩ := h
  exact ⟨h1, h2, fun e => by rw [e] at h3; exact absurd h3 (by decide)⟩
theorem vis_of {sc : Scope} {x : Str} (h : visB sc x = true) : Vis sc x := by
  unfold visB at h
  unfold Vis
  split at h <;> simp_all
theorem loc_ok {N : List Str} {sc : Scope} {i : Nat} {x : Str} (h : locB N sc i x = true) : N[i]? = some x ∧ Vis sc x ∧ okName x = true := by
  unfold locB at h
  simp only [Bool.and_eq_true, decide_eq_true_eq] at h
  exact ⟨h.1.1, vis_of h.1.2, h.2⟩
theorem gl_ok {x : Str} (h : glB X.env.scope x = true) : Gl X x ∧ okName x = true := by
  unfold glB at h
  simp only [Bool.and_eq_true] at h
  refine ⟨?_, h.2⟩
  have h1 := h.1
  split at h1
  · rename_i e
    exact e
  · cases h1
theorem glFn_ok {M : Nm} {x : Str} {f : Nat} (h : glFn M x f = true) : M.gl.lookup x = some (.fn f) := by
  unfold glFn at h
  split at h
  · rename_i g e
    rw [e, of_decide_eq_true h]
  · cases h
theorem glCls_ok {M : Nm} {x : Str} {c : Nat} (h : glCls M x c = true) : M.gl.lookup x = some (.cls c) := by
  unfold glCls at h
  split at h
  · rename_i g e
    rw [e, of_decide_eq_true h]
  · cases h
theorem sameB_ok {v w : MV} (h : sameB v w = true) : v = w := by
  cases v <;> cases w <;> first
    | rfl
    | (cases h; done)
    | (have h2 := of_decide_eq_true h; rw [h2]; done)
    | (have h2 := eq_of_beq h; rw [h2]; done)

/-! ### names and constants -/
theorem SE.loc {i : Nat} {x : Str} {pos : Pos} (h : locB X.N X.env.scope i x = true) : SE S X W (.Name x pos) fun ρ => MP.lift (MP.getLoc ρ i) := by
  obtain ⟨h1, h2, h3⟩ := loc_ok h
  obtain ⟨n1, n2, n3⟩ := name_ok h3
  refine ⟨_, pe_var h1 h2 n1 n2, fun ι g ρ σ H Q sm ss hg => ?_⟩
  obtain ⟨v, e, q⟩ := hg.lift sm
  unfold MP.getLoc at e
  split at e
  · rename_i w ew
    cases e
    obtain ⟨x, e1, r⟩ := ss.2 i _ ew
    exact ⟨x, e1, q x r⟩
  · cases e
theorem SE.const {v : MV} {c : Const} {j : Nat} {pos : Pos} (h : cstB v c = true) : SE S X W (.Constant c j pos) fun _ => MP.ret v := by
  have gen : ∀ {y : V}, PE X (.Constant c j pos) (tC y) → (∀ ι n H, RV S X.K ι n H v y) → SE S X W (.Constant c j pos) fun _ => MP.ret v := fun {y} p r =>
    ⟨_, p, fun ι g ρ σ H Q sm ss hg => hg.ret sm y (r _ _ _)⟩
  cases v <;> cases c <;> first
    | (cases h; done)
    | exact gen pe_non fun _ _ _ => .non
    | (have e := eq_of_beq h; subst e; exact gen pe_bl fun _ _ _ => .bl _)
    | (have e := of_decide_eq_true h; subst e; first | exact gen pe_int fun _ _ _ => .int _ | exact gen pe_str fun _ _ _ => .str _)
theorem SE.glob (C : Cq S X k W) {v : MV} {x : Str} {pos : Pos} (h : glB X.env.scope x = true) (hc : glCst S.nm x v = true) : SE S X W (.Name x pos) fun _ => MP.ret v := by
  obtain ⟨h1, h3⟩ := gl_ok h
  obtain ⟨n1, n2, n3⟩ := name_ok h3
  unfold glCst at hc
  split at hc
  · rename_i w e
    have e2 := sameB_ok hc
    subst e2
    obtain ⟨y, u, r, hm, ru⟩ := C.fc.cst x _ e
    exact ⟨_, pe_glob h1 hm ru n1, fun ι g ρ σ H Q sm ss hg => hg.ret sm y (r _ _ _)⟩
  · rename_i f e
    split at hc
    · rename_i f2
      have e2 : f2 = f := of_decide_eq_true hc
      subst e2
      exact ⟨_, pe_glob (v := .ref (S.fa f2)) h1 (C.fc.fn x _ e).2.1 rfl n1, fun ι g ρ σ H Q sm ss hg => hg.ret sm _ (.fn _)⟩
    · cases hc
  · cases hc

/-! ### arguments -/
theorem SA.nil : SA S X W [] fun _ => MP.ret [] := ⟨_, pa_nil, fun ι g ρ σ H Q sm ss hg => hg.ret sm _ .nil⟩
theorem SA.cons {e : Expr} {es : List Expr} {fe : MSt → MP.M MV} {fs : MSt → MP.M (List MV)} (he : SE S X W e fe) (hs : SA S X W es fs) (hn : notStar e = true) : SA S X W (e :: es) fun ρ => MP.bnd (fe ρ) fun v => MP.bnd (fs ρ) fun vs => MP.ret (v :: vs) := by
  obtain ⟨te, pe, qe⟩ := he
  obtain ⟨ts, ps, qs⟩ := hs
  refine ⟨_, pa_cons pe ps (star_of hn), fun ι g ρ σ H Q sm ss hg => ?_⟩
  refine qe ι g ρ σ H _ sm ss ((hg.bnd sm).imp fun ι1 v g1 H1 f1 h1 x r1 => ?_)
  refine qs ι1 g1 ρ σ H1 _ f1.sim (ss.fut sm f1) ((h1.bnd f1.sim).imp fun ι2 vs g2 H2 f2 h2 xs r2 => ?_)
  exact h2.ret f2.sim _ (.cons (f2.rv f1.sim r1) r2)

/-! ### displays, operators -/
theorem SE.tup {es : List Expr} {fs : MSt → MP.M (List MV)} {j : Nat} {pos : Pos} (hs : SA S X W es fs) : SE S X W (.Tuple es j pos) fun ρ => MP.bnd (fs ρ) fun vs => if vs.length ≤ MP.SZ then MP.ret (.tup vs) else MP.nope := by
  obtain ⟨ts, ps, qs⟩ := hs
  refine ⟨_, pe_tup ps, fun ι g ρ σ H Q sm ss hg => ?_⟩
  refine qs ι g ρ σ H _ sm ss ((hg.bnd sm).imp fun ι1 vs g1 H1 f1 h1 xs r1 => ?_)
  rcases h1.ite with ⟨hl, h1⟩ | ⟨_, h1⟩
  · refine ⟨by rw [← r1.length]; exact szle hl, fun p hp => ?_⟩
    have f2 := Fut.new f1.sim (o := .tup xs) hp
    exact h1 ι1 _ f2 _ (.tup (SqT.of upd_same) (f2.rvs f1.sim r1))
  · exact h1.nope.elim
theorem opB_ok {op : MP.BOp} {o : Operator} (h : opB op o = true) : o = opOf op := by
  cases op <;> cases o <;> first
    | rfl
    | (cases h; done)
theorem SE.bin {op : MP.BOp} {o : Operator} {a b : Expr} {fa fb : MSt → MP.M MV} {pos : Pos} (ho : opB op o = true) (ha : SE S X W a fa) (hb : SE S X W b fb) : SE S X W (.BinOp a o b pos) fun ρ => MP.bnd (fa ρ) fun v => MP.bnd (fb ρ) fun w => MP.lift (MP.binV op v w) := by
  obtain ⟨ta, pa, qa⟩ := ha
  obtain ⟨tb, pb, qb⟩ := hb
  rw [opB_ok ho]
  refine ⟨_, pe_op (opM (S := S) op) pa pb, fun ι g ρ σ H Q sm ss hg => ?_⟩
  refine qa ι g ρ σ H _ sm ss ((hg.bnd sm).imp fun ι1 v g1 H1 f1 h1 x r1 => ?_)
  refine qb ι1 g1 ρ σ H1 _ f1.sim (ss.fut sm f1) ((h1.bnd f1.sim).imp fun ι2 w g2 H2 f2 h2 y r2 => ?_)
  have h3 := h2
  obtain ⟨z, ez, _⟩ := h2.lift f2.sim
  refine ⟨ι2, g2, v, w, z, f2.sim, f2.rv f1.sim r1, r2, ez, fun H' f3 x r3 => ?_⟩
  rw [ez] at h3
  exact h3 ι2 H' f3 x r3
theorem SE.neg {a : Expr} {fa : MSt → MP.M MV} {pos : Pos} (ha : SE S X W a fa) : SE S X W (.UnaryOp .USub a pos) fun ρ => MP.bnd (fa ρ) fun v => match v with
    | .int i => MP.ret (.int (-i))
    | _ => MP.nope := by
  obtain ⟨ta, pa, qa⟩ := ha
  refine ⟨_, pe_un un_neg pa, fun ι g ρ σ H Q sm ss hg => ?_⟩
  refine qa ι g ρ σ H _ sm ss ((hg.bnd sm).imp fun ι1 v g1 H1 f1 h1 x r1 => ?_)
  cases r1 with
  | int i => exact ⟨i, rfl, h1.ret f1.sim _ (.int _)⟩
  | _ => exact h1.nope.elim
theorem SE.ite {c a b : Expr} {fc : MSt → MP.M Bool} {fa fb : MSt → MP.M MV} {pos : Pos} (hc : ST S X W c fc) (ha : SE S X W a fa) (hb : SE S X W b fb) : SE S X W (.IfExp c a b pos) fun ρ => MP.bnd (fc ρ) fun k => if k then fa ρ else fb ρ := by
  obtain ⟨tc, pc, qc⟩ := hc
  obtain ⟨ta, pa, qa⟩ := ha
  obtain ⟨tb, pb, qb⟩ := hb
  refine ⟨_, pe_ifExp pc pa pb, fun ι g ρ σ H Q sm ss hg => ?_⟩
  refine qc ι g ρ σ H _ sm ss ((hg.bnd sm).imp fun ι1 v g1 H1 f1 h1 => ?_)
  cases v with
  | true => exact qa ι1 g1 ρ σ H1 _ f1.sim (ss.fut sm f1) h1
  | false => exact qb ι1 g1 ρ σ H1 _ f1.sim (ss.fut sm f1) h1
theorem SE.and_ {a y : Expr} {r : List Expr} {fa fb : MSt → MP.M MV} {pos : Pos} (ha : SE S X W a fa) (hb : SE S X W (.BoolOp .And (y :: r) pos) fb) : SE S X W (.BoolOp .And (a :: y :: r) pos) fun ρ => MP.bnd (fa ρ) fun v => MP.bnd (MP.look fun g => MP.truth g v) fun k => if k then fb ρ else MP.ret v := by
  obtain ⟨ta, pa, qa⟩ := ha
  obtain ⟨tb, pb, qb⟩ := hb
  refine ⟨_, pe_andT pa pb, fun ι g ρ σ H Q sm ss hg => ?_⟩
  refine qa ι g ρ σ H _ sm ss ((hg.bnd sm).imp fun ι1 v g1 H1 f1 h1 x r1 => ?_)
  obtain ⟨b, eb, h2⟩ := (h1.bnd f1.sim).look f1.sim
  refine ⟨b, truthM f1.sim r1 eb, ?_⟩
  cases b with
  | true => exact qb ι1 g1 ρ σ H1 _ f1.sim (ss.fut sm f1) h2
  | false => exact Good.ret f1.sim h2 _ r1
theorem SE.or_ {a y : Expr} {r : List Expr} {fa fb : MSt → MP.M MV} {pos : Pos} (ha : SE S X W a fa) (hb : SE S X W (.BoolOp .Or (y :: r) pos) fb) : SE S X W (.BoolOp .Or (a :: y :: r) pos) fun ρ => MP.bnd (fa ρ) fun v => MP.bnd (MP.look fun g => MP.truth g v) fun k => if k then MP.ret v else fb ρ := by
  obtain ⟨ta, pa, qa⟩ := ha
  obtain ⟨tb, pb, qb⟩ := hb
  refine ⟨_, pe_orT pa pb, fun ι g ρ σ H Q sm ss hg => ?_⟩
  refine qa ι g ρ σ H _ sm ss ((hg.bnd sm).imp fun ι1 v g1 H1 f1 h1 x r1 => ?_)
  obtain ⟨b, eb, h2⟩ := (h1.bnd f1.sim).look f1.sim
  refine ⟨b, truthM f1.sim r1 eb, ?_⟩
  cases b with
  | true => exact Good.ret f1.sim h2 _ r1
  | false => exact qb ι1 g1 ρ σ H1 _ f1.sim (ss.fut sm f1) h2
theorem SE.one {op : BoolOp} {a : Expr} {fa : MSt → MP.M MV} {pos : Pos} (ha : SE S X W a fa) : SE S X W (.BoolOp op [a] pos) fa := by
  obtain ⟨ta, pa, qa⟩ := ha
  exact ⟨_, pe_one pa, qa⟩
theorem SE.not_ {a : Expr} {fa : MSt → MP.M MV} {pos : Pos} (ha : SE S X W a fa) : SE S X W (.UnaryOp .Not a pos) fun ρ => MP.bnd (fa ρ) fun v => MP.bnd (MP.look fun g => MP.truth g v) fun k => MP.ret (.bl (!k)) := by
  obtain ⟨ta, pa, qa⟩ := ha
  refine ⟨_, pe_notT pa, fun ι g ρ σ H Q sm ss hg => ?_⟩
  refine qa ι g ρ σ H _ sm ss ((hg.bnd sm).imp fun ι1 v g1 H1 f1 h1 x r1 => ?_)
  obtain ⟨b, eb, h2⟩ := (h1.bnd f1.sim).look f1.sim
  exact ⟨b, truthM f1.sim r1 eb, Good.ret f1.sim h2 _ (.bl _)⟩

/-! ### comparisons -/
theorem copB_ok {op : MP.COp} {o : CmpOp} (h : copB op o = true) : o = copOf op := by
  cases op <;> cases o <;> first
    | rfl
    | (cases h; done)
theorem marks_of {op : CmpOp} {b : Expr} (h : notSet b = true) : behindInMarks op b = false := by
  cases b <;> first
    | rfl
    | exact absurd h Bool.false_ne_true
theorem cmp_go (C : Cq S X k W) {op : MP.COp} {a b : Expr} {fa fb : MSt → MP.M MV} (ha : SE S X W a fa) (hb : SE S X W b fb) : ∃ ta tb, PE X a ta ∧ PE X b tb ∧ ∀ {ι g ρ σ H} {R : (Nat → Addr) → Bool → MH → Hp → Prop}, Sim S X.K ι g H → SimS S X.K ι g.length H ρ σ →
    Good S X.K W σ ι g H (MP.bnd (fa ρ) (fun v => MP.bnd (fb ρ) fun w => MP.look fun g => MP.cmpV op g v w) g) R → ∀ (Q : VK), (∀ ι' b g' H', Sim S X.K ι' g' H' → R ι' b g' H' → Q (.bl b) H') →
    tOp (rMB S X.K fun v w g => MP.cmpV op g v w) ta tb σ H Q := by
  obtain ⟨ta, pa, qa⟩ := ha
  obtain ⟨tb, pb, qb⟩ := hb
  refine ⟨ta, tb, pa, pb, fun {ι g ρ σ H R} sm ss hg Q hQ => ?_⟩
  refine qa ι g ρ σ H _ sm ss ((hg.bnd sm).imp fun ι1 v g1 H1 f1 h1 x r1 => ?_)
  refine qb ι1 g1 ρ σ H1 _ f1.sim (ss.fut sm f1) ((h1.bnd f1.sim).imp fun ι2 w g2 H2 f2 h2 y r2 => ?_)
  obtain ⟨z, ez, q⟩ := h2.look f2.sim
  exact ⟨ι2, g2, v, w, z, f2.sim, f2.rv f1.sim r1, r2, ez, hQ _ _ _ _ f2.sim q⟩
theorem cu (C : Cq S X k W) : X.A.units + 64 < cLine := by have := C.room.un; omega
theorem SE.cmp (C : Cq S X k W) {op : MP.COp} {o : CmpOp} {a b : Expr} {fa fb : MSt → MP.M MV} {pos : Pos} (ho : copB op o = true) (hn : notSet b = true) (ha : SE S X W a fa) (hb : SE S X W b fb) :
    SE S X W (.Compare a [o] [b] pos) fun ρ => MP.bnd (fa ρ) fun v => MP.bnd (fb ρ) fun w => MP.bnd (MP.look fun g => MP.cmpV op g v w) fun k => MP.ret (.bl k) := by
  obtain ⟨ta, tb, pa, pb, go⟩ := cmp_go C (op := op) ha hb
  rw [copB_ok ho]
  refine ⟨_, pe_cmpR (copM (S := S) (cu C) op) pa pb (marks_of hn), fun ι g ρ σ H Q sm ss hg => ?_⟩
  obtain ⟨ta', pa', qa⟩ := ha
  refine go (R := fun ι' b g' H' => ∀ x, RV S X.K ι' g'.length H' (.bl b) x → Q x H') sm ss ?_ Q fun ι' b g' H' _ q => q _ (.bl _)
  have e : (MP.bnd (fa ρ) fun v => MP.bnd (fb ρ) fun w => MP.bnd (MP.look fun g => MP.cmpV op g v w) fun k => MP.ret (MV.bl k)) g = match (MP.bnd (fa ρ) fun v => MP.bnd (fb ρ) fun w => MP.look fun g => MP.cmpV op g v w) g with
    | .ok b g' => .ok (.bl b) g'
    | .exc c fs g' => .exc c fs g'
    | .stuck => .stuck := by
    unfold MP.bnd
    cases fa ρ g with
    | ok v g1 =>
      simp only
      cases fb ρ g1 with
      | ok w g2 =>
        simp only [MP.look]
        cases MP.cmpV op g2 v w <;> rfl
      | exc _ _ _ => rfl
      | stuck => rfl
    | exc _ _ _ => rfl
    | stuck => rfl
  rw [e] at hg
  cases q : (MP.bnd (fa ρ) fun v => MP.bnd (fb ρ) fun w => MP.look fun g => MP.cmpV op g v w) g with
  | ok b g' =>
    rw [q] at hg
    exact hg
  | exc c fs g' =>
    rw [q] at hg
    exact hg
  | stuck =>
    rw [q] at hg
    exact hg
theorem ST.cmp (C : Cq S X k W) {op : MP.COp} {o : CmpOp} {a b : Expr} {fa fb : MSt → MP.M MV} {pos : Pos} (ho : copB op o = true) (hn : notSet b = true) (ha : SE S X W a fa) (hb : SE S X W b fb) :
    ST S X W (.Compare a [o] [b] pos) fun ρ => MP.bnd (fa ρ) fun v => MP.bnd (fb ρ) fun w => MP.look fun g => MP.cmpV op g v w := by
  obtain ⟨ta, tb, pa, pb, go⟩ := cmp_go C (op := op) ha hb
  rw [copB_ok ho]
  exact ⟨_, pt_cmpR (copM (S := S) (cu C) op) pa pb (marks_of hn), fun ι g ρ σ H Q sm ss hg => go sm ss hg _ fun ι' b g' H' _ q => ⟨b, rfl, q⟩⟩
end
end MPS
end
section
set_option Elab.async false
set_option linter.all false
set_option autoImplicit false
set_option maxRecDepth 100000
set_option maxHeartbeats 2000000
/-! 6: one rule a construct, further. -/
namespace MPS
open PySem PySem.Spec L2
open PyProof.Rows hiding St
open MP (MV MO MH MSt Res)
variable {S : Sc} {X : Cx} {W : WX} {k : Nat}

theorem base_of {o : Expr} {f : Str} {env : Env} (h : notSuper o = true) : attributeBase o f env (eval o env) = eval o env := by
  cases o with
  | Call fn as ks pos =>
    cases fn <;> first
      | rfl
      | (cases as <;> first
        | rfl
        | (cases ks <;> first
          | rfl
          | exact absurd h Bool.false_ne_true))
  | _ => rfl
theorem args_all {M : Nm} {N : List Str} {sc : Scope} {fnB : Str → Bool} : ∀ {x : MP.X} {es : List Expr}, ckA M N sc fnB x es = true → ∀ e ∈ es, notStar e = true
  | .nil, [], _, _, he => absurd he (by simp)
  | .nil, _ :: _, h, _, _ => by
    unfold ckA at h
    cases h
  | .cons a r, [], h, _, _ => by
    unfold ckA at h
    cases h
  | .cons a r, y :: ys, h, e, he => by
    unfold ckA at h
    simp only [Bool.and_eq_true] at h
    rcases List.mem_cons.mp he with rfl | he
    · exact h.1.2
    · exact args_all h.2 e he
theorem back_any {env : Env} {pos : Pos} : ∀ {es : List Expr}, (∀ e ∈ es, notStar e = true) → (backTo pos (starEach es env)).any (·.1) = false
  | [], _ => rfl
  | e :: es, h => by
    rw [star_of (h e List.mem_cons_self)]
    show (false || (backTo pos (starEach es env)).any (·.1)) = false
    rw [back_any fun y hy => h y (List.mem_cons_of_mem _ hy)]
    rfl
theorem back_all {env : Env} {pos : Pos} : ∀ {es : List Expr}, (∀ e ∈ es, notStar e = true) → (backTo pos (starEach es env)).all (fun x => !x.1) = true
  | [], _ => rfl
  | e :: es, h => by
    rw [star_of (h e List.mem_cons_self)]
    show ((!false) && (backTo pos (starEach es env)).all (fun x => !x.1)) = true
    rw [back_all fun y hy => h y (List.mem_cons_of_mem _ hy)]
    rfl
/-! ### is None, == [] -/
theorem SE.isN {a : Expr} {fa : MSt → MP.M MV} {o : CmpOp} {neg : Bool} {j : Nat} {p pos : Pos} (ho : (match o with | .Is => !neg | .IsNot => neg | _ => false) = true) (ha : SE S X W a fa) :
    SE S X W (.Compare a [o] [.Constant .none j p] pos) fun ρ => MP.bnd (fa ρ) fun v => MP.ret (.bl (neg != (match v with | .non => true | _ => false))) := by
  obtain ⟨ta, pa, qa⟩ := ha
  have key : ∀ {ι n H} {v : MV} {x : V}, RV S X.K ι n H v x → decide (x = V.non) = (match v with | .non => true | _ => false) := by
    intro ι n H v x r
    cases r <;> simp
  cases o with
  | Is =>
    have e : neg = false := by simpa using ho
    subst e
    refine ⟨_, pe_cmp (pc_isN pa), fun ι g ρ σ H Q sm ss hg => ?_⟩
    refine qa ι g ρ σ H _ sm ss ((hg.bnd sm).imp fun ι1 v g1 H1 f1 h1 x r1 => ?_)
    refine h1.ret f1.sim _ ?_
    rw [key r1, Bool.false_bne]
    exact .bl _
  | IsNot =>
    have e : neg = true := by simpa using ho
    subst e
    refine ⟨_, pe_cmp (pc_notN pa), fun ι g ρ σ H Q sm ss hg => ?_⟩
    refine qa ι g ρ σ H _ sm ss ((hg.bnd sm).imp fun ι1 v g1 H1 f1 h1 x r1 => ?_)
    refine h1.ret f1.sim _ ?_
    rw [key r1, Bool.true_bne]
    exact .bl _
  | _ => cases ho
theorem ST.isN {a : Expr} {fa : MSt → MP.M MV} {o : CmpOp} {neg : Bool} {j : Nat} {p pos : Pos} (ho : (match o with | .Is => !neg | .IsNot => neg | _ => false) = true) (ha : SE S X W a fa) :
    ST S X W (.Compare a [o] [.Constant .none j p] pos) fun ρ => MP.bnd (fa ρ) fun v => MP.ret (neg != (match v with | .non => true | _ => false)) := by
  obtain ⟨ta, pa, qa⟩ := ha
  have key : ∀ {ι n H} {v : MV} {x : V}, RV S X.K ι n H v x → decide (x = V.non) = (match v with | .non => true | _ => false) := by
    intro ι n H v x r
    cases r <;> simp
  cases o with
  | Is =>
    have e : neg = false := by simpa using ho
    subst e
    refine ⟨_, pt_cmp (pc_isN pa), fun ι g ρ σ H Q sm ss hg => ?_⟩
    refine qa ι g ρ σ H _ sm ss ((hg.bnd sm).imp fun ι1 v g1 H1 f1 h1 x r1 => ?_)
    refine ⟨_, rfl, ?_⟩
    have q := h1.ret f1.sim
    rw [key r1]
    rw [Bool.false_bne] at q
    exact q
  | IsNot =>
    have e : neg = true := by simpa using ho
    subst e
    refine ⟨_, pt_cmp (pc_notN pa), fun ι g ρ σ H Q sm ss hg => ?_⟩
    refine qa ι g ρ σ H _ sm ss ((hg.bnd sm).imp fun ι1 v g1 H1 f1 h1 x r1 => ?_)
    refine ⟨_, rfl, ?_⟩
    have q := h1.ret f1.sim
    rw [key r1]
    rw [Bool.true_bne] at q
    exact q
  | _ => cases ho
theorem eqNil_lens {A : Around} {s : Shared} {prog : Program} {w : World} {E : Value → Shared → Prop} {Q : Value → Shared → Prop} {l b : Addr} {its : Array Value} (hl : s.heap.IsList l its) (hb : s.heap.IsList b #[]) (hu : A.units < cLine) (h : Q (.bool its.isEmpty) s) :
    wpAny (model prog w) A (compareOp .Eq (.ref l) (.ref b)) Q E s := by
  by_cases hz : its.size = 0
  · have e : its = #[] := Array.eq_empty_of_size_eq_zero hz
    subst e
    exact SeqAt.eq_listAt (e := fun _ => true) hl hb rfl hu (fun j h1 _ => absurd h1 (by simp)) h
  · have e : its.isEmpty = false := by simp [Array.isEmpty, hz]
    rw [e] at h
    exact SeqAt.eq_list_lengthsAt hl hb (by simpa using hz) hu h
theorem neNil_lens {A : Around} {s : Shared} {prog : Program} {w : World} {E : Value → Shared → Prop} {Q : Value → Shared → Prop} {l b : Addr} {its : Array Value} (hl : s.heap.IsList l its) (hb : s.heap.IsList b #[]) (hu : A.units < cLine) (h : Q (.bool (!its.isEmpty)) s) :
    wpAny (model prog w) A (compareOp .NotEq (.ref l) (.ref b)) Q E s := by
  by_cases hz : its.size = 0
  · have e : its = #[] := Array.eq_empty_of_size_eq_zero hz
    subst e
    exact SeqAt.RcNeAt.lists (e := fun _ => true) hl hb rfl hu (fun j h1 _ => absurd h1 (by simp)) prog w E Q h
  · have e : its.isEmpty = false := by simp [Array.isEmpty, hz]
    rw [e] at h
    exact SeqAt.RcNeAt.lists_lengths hl hb (by simpa using hz) hu prog w E Q h
/-- the empty list of one's own as the second side -/
def rNil (K : PySem.W.Frag) (neg : Bool) : R2 := fun x y H Q => ∃ (l b : Addr) (xs : List V), x = .ref l ∧ y = .ref b ∧ SqL K H l xs ∧ H b = some (.lst []) ∧ Q (.bl (neg != xs.isEmpty)) H
theorem op_eqNil (hu : X.A.units < cLine) : OpR X (compareOp .Eq) (rNil X.K false) := by
  intro pins s σ H x y v u Q I rx ry ⟨l, b, xs, ex, ey, hx, hy, q⟩
  subst ex ey
  obtain rfl : v = Value.ref l := rx
  obtain rfl : u = Value.ref b := ry
  obtain ⟨its, r, p, _⟩ := I.list hx
  obtain ⟨its2, r2, p2, _⟩ := I.list (SqL.of hy)
  cases r2
  refine eqNil_lens p.isList p2.isList hu ⟨.bl _, H, I, ?_, q⟩
  show _ = _
  congr 1
  rw [Bool.false_bne]
  cases r <;> simp [Array.isEmpty]
theorem op_neNil (hu : X.A.units < cLine) : OpR X (compareOp .NotEq) (rNil X.K true) := by
  intro pins s σ H x y v u Q I rx ry ⟨l, b, xs, ex, ey, hx, hy, q⟩
  subst ex ey
  obtain rfl : v = Value.ref l := rx
  obtain rfl : u = Value.ref b := ry
  obtain ⟨its, r, p, _⟩ := I.list hx
  obtain ⟨its2, r2, p2, _⟩ := I.list (SqL.of hy)
  cases r2
  refine neNil_lens p.isList p2.isList hu ⟨.bl _, H, I, ?_, q⟩
  show _ = _
  congr 1
  rw [Bool.true_bne]
  cases r <;> simp [Array.isEmpty]
end MPS
end
section
set_option Elab.async false
set_option linter.all false
set_option autoImplicit false
set_option maxRecDepth 100000
set_option maxHeartbeats 2000000
/-! 7: one rule a construct, further: calls, methods, fields, subscripts. -/
namespace MPS
open PySem PySem.Spec L2
open PyProof.Rows hiding St
open MP (MV MO MH MSt Res)
variable {S : Sc} {X : Cx} {W : WX} {k : Nat}

/-- a run's own promise, with no context in it -/
def tOf (S : Sc) (K : PySem.W.Frag) (W : WX) (f : MSt → MP.M MV) : TE := fun σ H Q => ∃ ι g ρ, Sim S K ι g H ∧ SimS S K ι g.length H ρ σ ∧ Good S K W σ ι g H (f ρ g) (fun ι' v g' H' => ∀ x, RV S K ι' g'.length H' v x → Q x H')
def tOfT (S : Sc) (K : PySem.W.Frag) (W : WX) (f : MSt → MP.M Bool) : TT := fun σ H Q => ∃ ι g ρ, Sim S K ι g H ∧ SimS S K ι g.length H ρ σ ∧ Good S K W σ ι g H (f ρ g) (fun _ b _ H' => Q b H')
def tOfL (S : Sc) (K : PySem.W.Frag) (W : WX) (f : MSt → MP.M (List MV)) : TE := fun σ H Q => ∃ ι g ρ, Sim S K ι g H ∧ SimS S K ι g.length H ρ σ ∧ Good S K W σ ι g H (f ρ g) (fun ι' vs g' H' => ∀ D xs, RVs S K ι' g'.length H' vs xs → H' D = some (.lst xs) → H D = none → Out ι' g' D → Q (.ref D) H')
theorem SE.pe {e : Expr} {f : MSt → MP.M MV} (h : SE S X W e f) : PE X e (tOf S X.K W f) := by
  obtain ⟨t, p, q⟩ := h
  exact ⟨fun pins s σ H Q I ⟨ι, g, ρ, sm, ss, hg⟩ => p.run pins s σ H Q I (q ι g ρ σ H Q sm ss hg)⟩
theorem ST.pt {e : Expr} {f : MSt → MP.M Bool} (h : ST S X W e f) : PT X e (tOfT S X.K W f) := by
  obtain ⟨t, p, q⟩ := h
  exact ⟨fun pins s σ H Q I ⟨ι, g, ρ, sm, ss, hg⟩ => p.run pins s σ H Q I (q ι g ρ σ H Q sm ss hg)⟩
theorem SL.pe {e : Expr} {f : MSt → MP.M (List MV)} (h : SL S X W e f) : PE X e (tOfL S X.K W f) := by
  obtain ⟨t, p, q⟩ := h
  exact ⟨fun pins s σ H Q I ⟨ι, g, ρ, sm, ss, hg⟩ => p.run pins s σ H Q I (q ι g ρ σ H Q sm ss hg)⟩

theorem Good.lookF {α : Type} {K : PySem.W.Frag} {σ : St} {ι : Nat → Addr} {g : MH} {H : Hp} {f : MH → Option α} {Q : (Nat → Addr) → α → MH → Hp → Prop} (h : Good S K W σ ι g H (MP.look f g) Q) : ∃ a, f g = some a ∧ ∀ ι' H', Fut S K ι g H ι' g H' → Q ι' a g H' := by
  unfold MP.look at h
  cases e : f g with
  | none =>
    rw [e] at h
    exact h.elim
  | some a =>
    rw [e] at h
    exact ⟨a, rfl, h⟩
theorem Good.liftF {α : Type} {K : PySem.W.Frag} {σ : St} {ι : Nat → Addr} {g : MH} {H : Hp} {o : Option α} {Q : (Nat → Addr) → α → MH → Hp → Prop} (h : Good S K W σ ι g H (MP.lift o g) Q) : ∃ a, o = some a ∧ ∀ ι' H', Fut S K ι g H ι' g H' → Q ι' a g H' := by
  cases o with
  | none => exact h.elim
  | some a => exact ⟨a, rfl, h⟩
/-! ### == [] -/
theorem units_lt (C : Cq S X k W) : X.A.units < cLine := by have := cu C; omega
theorem eqNil_go (C : Cq S X k W) {neg : Bool} {a : Expr} {p : Pos} {fa : MSt → MP.M MV} (ha : SE S X W a fa) : ∃ ta, PE X a ta ∧ ∀ {ι g ρ σ H} {R : (Nat → Addr) → Bool → MH → Hp → Prop}, Sim S X.K ι g H → SimS S X.K ι g.length H ρ σ →
    Good S X.K W σ ι g H (MP.bnd (fa ρ) (fun v => MP.bnd (MP.look fun g => MP.lstAt g v) fun xs => MP.ret (neg != xs.isEmpty)) g) R → ∀ (Q : VK), (∀ ι' b g' H', Sim S X.K ι' g' H' → R ι' b g' H' → Q (.bl b) H') →
    tOp (rNil X.K neg) ta (tLst tNil) σ H Q := by
  obtain ⟨ta, pa, qa⟩ := ha
  refine ⟨ta, pa, fun {ι g ρ σ H R} sm ss hg Q hQ => ?_⟩
  refine qa ι g ρ σ H _ sm ss ((hg.bnd sm).imp fun ι1 v g1 H1 f1 h1 x r1 => ?_)
  obtain ⟨xs, ex, h2⟩ := (h1.bnd f1.sim).look f1.sim
  refine ⟨Nat.zero_le _, fun p hp => ?_⟩
  have f3 := Fut.new f1.sim (o := .lst []) hp
  unfold MP.lstAt at ex
  split at ex
  · rename_i l
    split at ex
    · rename_i ys eg
      cases ex
      cases r1 with
      | loc hl =>
        obtain ⟨vs, rs, e3⟩ := f3.sim.obj l _ eg
        refine ⟨_, _, _, rfl, rfl, SqL.of e3, upd_same, ?_⟩
        rw [← rs.empty]
        exact hQ _ _ _ _ f3.sim (h2 _ _ f3)
    · cases ex
  · cases ex
/-- a value out of a test's answer -/
theorem asBl {m : MP.M Bool} {g : MH} {σ : St} {ι : Nat → Addr} {H : Hp} {Q : VK} (hg : Good S X.K W σ ι g H (MP.bnd m (fun b => MP.ret (MV.bl b)) g) fun ι' v g' H' => ∀ x, RV S X.K ι' g'.length H' v x → Q x H') :
    Good S X.K W σ ι g H (m g) fun ι' b g' H' => Q (.bl b) H' := by
  unfold MP.bnd at hg
  cases e : m g with
  | ok b g' =>
    rw [e] at hg
    exact fun ι' H' f => hg ι' H' f _ (.bl b)
  | exc c fs g' =>
    rw [e] at hg
    exact hg
  | stuck =>
    rw [e] at hg
    exact hg
theorem bnd_assoc {α β γ : Type} (m : MP.M α) (f : α → MP.M β) (h : β → MP.M γ) : MP.bnd (MP.bnd m f) h = MP.bnd m fun a => MP.bnd (f a) h := by
  funext g
  unfold MP.bnd
  cases m g <;> rfl
theorem bnd_ret {α β : Type} (a : α) (f : α → MP.M β) : MP.bnd (MP.ret a) f = f a := rfl
theorem SE.eqNil (C : Cq S X k W) {a : Expr} {fa : MSt → MP.M MV} {o : CmpOp} {neg : Bool} {p pos : Pos} (ho : (match o with | .Eq => !neg | .NotEq => neg | _ => false) = true) (ha : SE S X W a fa) :
    SE S X W (.Compare a [o] [.List [] p] pos) fun ρ => MP.bnd (fa ρ) fun v => MP.bnd (MP.look fun g => MP.lstAt g v) fun xs => MP.ret (.bl (neg != xs.isEmpty)) := by
  obtain ⟨ta, pa, go⟩ := eqNil_go C (neg := neg) (p := p) ha
  have re : ∀ ρ, (MP.bnd (fa ρ) fun v => MP.bnd (MP.look fun g => MP.lstAt g v) fun xs => MP.ret (MV.bl (neg != xs.isEmpty))) = MP.bnd (MP.bnd (fa ρ) fun v => MP.bnd (MP.look fun g => MP.lstAt g v) fun xs => MP.ret (neg != xs.isEmpty)) fun b => MP.ret (.bl b) := fun ρ => by
    rw [bnd_assoc]
    congr 1
    funext v
    rw [bnd_assoc]
    rfl
  cases o with
  | Eq =>
    have e : neg = false := by simpa using ho
    subst e
    refine ⟨_, pe_cmpR (op_eqNil (units_lt C)) pa (pe_lst pa_nil) rfl, fun ι g ρ σ H Q sm ss hg => go sm ss ?_ Q fun ι' b g' H' s q => q⟩
    rw [re] at hg
    exact asBl hg
  | NotEq =>
    have e : neg = true := by simpa using ho
    subst e
    refine ⟨_, pe_cmpR (op_neNil (units_lt C)) pa (pe_lst pa_nil) rfl, fun ι g ρ σ H Q sm ss hg => go sm ss ?_ Q fun ι' b g' H' s q => q⟩
    rw [re] at hg
    exact asBl hg
  | _ => cases ho
theorem ST.eqNil (C : Cq S X k W) {a : Expr} {fa : MSt → MP.M MV} {o : CmpOp} {neg : Bool} {p pos : Pos} (ho : (match o with | .Eq => !neg | .NotEq => neg | _ => false) = true) (ha : SE S X W a fa) :
    ST S X W (.Compare a [o] [.List [] p] pos) fun ρ => MP.bnd (fa ρ) fun v => MP.bnd (MP.look fun g => MP.lstAt g v) fun xs => MP.ret (neg != xs.isEmpty) := by
  obtain ⟨ta, pa, go⟩ := eqNil_go C (neg := neg) (p := p) ha
  cases o with
  | Eq =>
    have e : neg = false := by simpa using ho
    subst e
    exact ⟨_, pt_cmpR (op_eqNil (units_lt C)) pa (pe_lst pa_nil) rfl, fun ι g ρ σ H Q sm ss hg => go sm ss hg _ fun ι' b g' H' s q => ⟨b, rfl, q⟩⟩
  | NotEq =>
    have e : neg = true := by simpa using ho
    subst e
    exact ⟨_, pt_cmpR (op_neNil (units_lt C)) pa (pe_lst pa_nil) rfl, fun ι g ρ σ H Q sm ss hg => go sm ss hg _ fun ι' b g' H' s q => ⟨b, rfl, q⟩⟩
  | _ => cases ho
theorem eqNilL_go (C : Cq S X k W) {neg : Bool} {a : Expr} {fa : MSt → MP.M (List MV)} (ha : SL S X W a fa) : ∃ ta, PE X a ta ∧ ∀ {ι g ρ σ H} {R : (Nat → Addr) → Bool → MH → Hp → Prop}, Sim S X.K ι g H → SimS S X.K ι g.length H ρ σ →
    Good S X.K W σ ι g H (MP.bnd (fa ρ) (fun xs => MP.ret (neg != xs.isEmpty)) g) R → ∀ (Q : VK), (∀ ι' b g' H', Sim S X.K ι' g' H' → R ι' b g' H' → Q (.bl b) H') →
    tOp (rNil X.K neg) ta (tLst tNil) σ H Q := by
  obtain ⟨ta, pa, qa⟩ := ha
  refine ⟨ta, pa, fun {ι g ρ σ H R} sm ss hg Q hQ => ?_⟩
  refine qa ι g ρ σ H _ sm ss ((hg.bnd sm).imp fun ι1 vs g1 H1 f1 h1 D xs r1 eD _ _ => ?_)
  refine ⟨Nat.zero_le _, fun p hp => ?_⟩
  have f3 := Fut.new f1.sim (o := .lst []) hp
  refine ⟨_, _, _, rfl, rfl, SqL.of (by rw [upd_ne (ne_of_none eD hp)]; exact eD), upd_same, ?_⟩
  rw [← r1.empty]
  exact hQ _ _ _ _ f3.sim (h1 _ _ f3)
theorem SE.eqNilL (C : Cq S X k W) {a : Expr} {fa : MSt → MP.M (List MV)} {o : CmpOp} {neg : Bool} {p pos : Pos} (ho : (match o with | .Eq => !neg | .NotEq => neg | _ => false) = true) (ha : SL S X W a fa) :
    SE S X W (.Compare a [o] [.List [] p] pos) fun ρ => MP.bnd (fa ρ) fun xs => MP.ret (.bl (neg != xs.isEmpty)) := by
  obtain ⟨ta, pa, go⟩ := eqNilL_go C (neg := neg) ha
  have re : ∀ ρ, (MP.bnd (fa ρ) fun xs => MP.ret (MV.bl (neg != xs.isEmpty))) = MP.bnd (MP.bnd (fa ρ) fun xs => MP.ret (neg != xs.isEmpty)) fun b => MP.ret (.bl b) := fun ρ => by
    rw [bnd_assoc]
    rfl
  cases o with
  | Eq =>
    have e : neg = false := by simpa using ho
    subst e
    refine ⟨_, pe_cmpR (op_eqNil (units_lt C)) pa (pe_lst pa_nil) rfl, fun ι g ρ σ H Q sm ss hg => go sm ss ?_ Q fun ι' b g' H' s q => q⟩
    rw [re] at hg
    exact asBl hg
  | NotEq =>
    have e : neg = true := by simpa using ho
    subst e
    refine ⟨_, pe_cmpR (op_neNil (units_lt C)) pa (pe_lst pa_nil) rfl, fun ι g ρ σ H Q sm ss hg => go sm ss ?_ Q fun ι' b g' H' s q => q⟩
    rw [re] at hg
    exact asBl hg
  | _ => cases ho
theorem ST.eqNilL (C : Cq S X k W) {a : Expr} {fa : MSt → MP.M (List MV)} {o : CmpOp} {neg : Bool} {p pos : Pos} (ho : (match o with | .Eq => !neg | .NotEq => neg | _ => false) = true) (ha : SL S X W a fa) :
    ST S X W (.Compare a [o] [.List [] p] pos) fun ρ => MP.bnd (fa ρ) fun xs => MP.ret (neg != xs.isEmpty) := by
  obtain ⟨ta, pa, go⟩ := eqNilL_go C (neg := neg) ha
  cases o with
  | Eq =>
    have e : neg = false := by simpa using ho
    subst e
    exact ⟨_, pt_cmpR (op_eqNil (units_lt C)) pa (pe_lst pa_nil) rfl, fun ι g ρ σ H Q sm ss hg => go sm ss hg _ fun ι' b g' H' s q => ⟨b, rfl, q⟩⟩
  | NotEq =>
    have e : neg = true := by simpa using ho
    subst e
    exact ⟨_, pt_cmpR (op_neNil (units_lt C)) pa (pe_lst pa_nil) rfl, fun ι g ρ σ H Q sm ss hg => go sm ss hg _ fun ι' b g' H' s q => ⟨b, rfl, q⟩⟩
  | _ => cases ho

/-! ### calls -/
theorem SE.call0 (C : Cq S X k W) {f : Nat} {x : Str} {p pos : Pos} (h : glB X.env.scope x = true) (hf : glFn S.nm x f = true) : SE S X W (.Call (.Name x p) [] [] pos) fun ρ => MP.bnd (MP.ret []) fun vs => MP.callF S.T k f vs := by
  obtain ⟨h1, h3⟩ := gl_ok h
  obtain ⟨n1, n2, n3⟩ := name_ok h3
  obtain ⟨hl, hm, hk⟩ := C.fc.fn x f (glFn_ok hf)
  exact ⟨_, pe_f0 (C.call f hl) C.room C.guards C.tk h1 hm hk n1, fun ι g ρ σ H Q sm ss hg => ⟨ι, g, [], sm, .nil, hg.reW⟩⟩
theorem SE.call1 (C : Cq S X k W) {f : Nat} {x : Str} {e : Expr} {es : List Expr} {fs : MSt → MP.M (List MV)} {p pos : Pos} (h : glB X.env.scope x = true) (hf : glFn S.nm x f = true) (hs : SA S X W (e :: es) fs) (hn : ∀ y ∈ e :: es, notStar y = true) :
    SE S X W (.Call (.Name x p) (e :: es) [] pos) fun ρ => MP.bnd (fs ρ) fun vs => MP.callF S.T k f vs := by
  obtain ⟨h1, h3⟩ := gl_ok h
  obtain ⟨n1, n2, n3⟩ := name_ok h3
  obtain ⟨hl, hm, hk⟩ := C.fc.fn x f (glFn_ok hf)
  obtain ⟨ts, ps, qs⟩ := hs
  refine ⟨_, pe_f1 (C.call f hl) C.room C.guards C.tk h1 hm hk ps n1 (star_of (hn _ List.mem_cons_self)) (back_any fun y hy => hn y (List.mem_cons_of_mem _ hy)), fun ι g ρ σ H Q sm ss hg => ?_⟩
  exact qs ι g ρ σ H _ sm ss ((hg.bnd sm).imp fun ι1 vs g1 H1 f1 h1 xs r1 => ⟨ι1, g1, vs, f1.sim, r1, h1.reW⟩)
theorem SE.callV (C : Cq S X k W) {i : Nat} {x : Str} {e : Expr} {es : List Expr} {fs : MSt → MP.M (List MV)} {p pos : Pos} (h : locB X.N X.env.scope i x = true) (hs : SA S X W (e :: es) fs) (hn : ∀ y ∈ e :: es, notStar y = true) :
    SE S X W (.Call (.Name x p) (e :: es) [] pos) fun ρ => MP.bnd (MP.lift (MP.getLoc ρ i)) fun v => match v with
      | .fn f => if f < S.T.fns.length then MP.bnd (fs ρ) fun vs => MP.callF S.T k f vs else MP.nope
      | _ => MP.nope := by
  obtain ⟨h1, h2, h3⟩ := loc_ok h
  obtain ⟨n1, n2, n3⟩ := name_ok h3
  obtain ⟨ts, ps, qs⟩ := hs
  refine ⟨_, pe_fv (k := k) (S := S) C.room C.guards C.tk h1 h2 n1 n2 ps (star_of (hn _ List.mem_cons_self)) (back_any fun y hy => hn y (List.mem_cons_of_mem _ hy)), fun ι g ρ σ H Q sm ss hg => ?_⟩
  obtain ⟨v, e, q⟩ := (hg.bnd sm).lift sm
  unfold MP.getLoc at e
  split at e
  · rename_i w ew
    cases e
    obtain ⟨y, e1, r⟩ := ss.2 i _ ew
    cases r with
    | fn f =>
      have q : Good S X.K W σ ι g H ((if f < S.T.fns.length then MP.bnd (fs ρ) fun vs => MP.callF S.T k f vs else MP.nope) g) _ := q
      rcases q.ite with ⟨hf, q⟩ | ⟨_, q⟩
      · refine ⟨f, e1, C.fc.keep f hf, C.call f hf, ?_⟩
        exact qs ι g ρ σ H _ sm ss ((q.bnd sm).imp fun ι1 vs g1 H1 f1 h1 xs r1 => ⟨ι1, g1, vs, f1.sim, r1, h1.reW⟩)
      · exact q.nope.elim
    | _ => exact q.nope.elim
  · cases e
/-! ### methods -/
theorem meth_ht {o : Expr} {m : Str} {apos pos : Pos} {es : List Expr} {env : Env} (hb : notSuper o = true) (hn : ∀ y ∈ es, notStar y = true) (hl : es.length < 25) (hline : lineB apos pos = true) :
    eval (.Call (.Attribute o m apos) es [] pos) env = (do
      let ov ← eval o env
      standAt apos.atName
      let (f, first) ← holding [ov] (getMethod ov m (do return (← importBound o env).getD true))
      callWith pos f first (backTo pos (starEach es env)) (backToKw pos (keywordEach [] env))) := by
  rw [arm_eval_Call, base_of hb]
  have hform : methodCallForm (es.length + ([] : List Keyword).length) (backTo pos (starEach es env)) (backToKw pos (keywordEach [] env)) = true := by
    show ((backTo pos (starEach es env)).all (!·.1) && true && decide (es.length + 0 + 0 < 30)) = true
    rw [back_all hn]
    simp
    omega
  have hpos : methodCallPos true o env apos pos = pure pos := by
    have hl2 : (apos.endLine == pos.line) = true := hline
    unfold methodCallPos
    simp [hl2]
  unfold methodCall
  rw [hform, hpos]
  rfl
theorem lookup_mem {α β : Type} [BEq α] [LawfulBEq α] : ∀ {l : List (α × β)} {a : α} {b : β}, l.lookup a = some b → (a, b) ∈ l
  | (x, y) :: r, a, b, h => by
    rw [List.lookup_cons] at h
    cases hx : a == x with
    | true =>
      rw [hx] at h
      cases h
      rw [eq_of_beq hx]
      exact List.mem_cons_self
    | false =>
      rw [hx] at h
      exact List.mem_cons_of_mem _ (lookup_mem h)
/-- an attribute's number and name -/
theorem at_inj {l : List Str} (nd : l.Nodup) {i j : Nat} {x : Str} (hi : l[i]? = some x) (hj : l[j]? = some x) : i = j := by
  obtain ⟨h1, e1⟩ := List.getElem?_eq_some_iff.mp hi
  obtain ⟨h2, e2⟩ := List.getElem?_eq_some_iff.mp hj
  exact (List.getElem_inj nd).mp (e1.trans e2.symm)
theorem look_none {K : PySem.W.Frag} {ι : Nat → Addr} {n : Nat} {H : Hp} (nd : S.attrs.Nodup) {m : Nat} {nm : Str} (hm : S.attrs[m]? = some nm) : ∀ {fs : List (Nat × MV)} {vs : List (Str × V)}, Paired (fun (p : Nat × MV) (q : Str × V) => S.attrs[p.1]? = some q.1 ∧ RV S K ι n H p.2 q.2) fs vs → fs.lookup m = none → vs.lookup nm = none
  | _, _, .nil, _ => rfl
  | (a, v) :: fs, (b, x) :: vs, .cons ⟨h1, _⟩ t, e => by
    rw [List.lookup_cons] at e ⊢
    by_cases hb : nm = b
    · subst hb
      have := at_inj nd hm h1
      subst this
      rw [beq_self_eq_true] at e
      cases e
    · have hab : ¬ m = a := fun z => by
        subst z
        rw [hm] at h1
        exact hb (Option.some.inj h1)
      rw [beq_false_of_ne hab] at e
      rw [beq_false_of_ne hb]
      exact look_none nd hm t e
theorem look_some {K : PySem.W.Frag} {ι : Nat → Addr} {n : Nat} {H : Hp} (nd : S.attrs.Nodup) {m : Nat} {nm : Str} (hm : S.attrs[m]? = some nm) {v : MV} : ∀ {fs : List (Nat × MV)} {vs : List (Str × V)}, Paired (fun (p : Nat × MV) (q : Str × V) => S.attrs[p.1]? = some q.1 ∧ RV S K ι n H p.2 q.2) fs vs → fs.lookup m = some v → ∃ x, vs.lookup nm = some x ∧ RV S K ι n H v x
  | _, _, .nil, e => by cases e
  | (a, w) :: fs, (b, x) :: vs, .cons ⟨h1, r⟩ t, e => by
    rw [List.lookup_cons] at e
    rw [List.lookup_cons]
    by_cases hb : nm = b
    · subst hb
      have := at_inj nd hm h1
      subst this
      rw [beq_self_eq_true] at e
      cases e
      rw [beq_self_eq_true]
      exact ⟨x, rfl, r⟩
    · have hab : ¬ m = a := fun z => by
        subst z
        rw [hm] at h1
        exact hb (Option.some.inj h1)
      rw [beq_false_of_ne hab] at e
      rw [beq_false_of_ne hb]
      exact look_some nd hm t e
/-- o.m(..): what stands behind the method's name -/
theorem methAt_ok (fc : Facts S X.K X.mg) {ι : Nat → Addr} {g : MH} {H : Hp} {v : MV} {x : V} {m f : Nat} {nm : Str} (hm : S.attrs[m]? = some nm) (sm : Sim S X.K ι g H) (r : RV S X.K ι g.length H v x) (e : MP.methAt S.T g v m = some f) :
    f < S.T.fns.length ∧ ∃ (a C dx : Addr) (fs : List (Str × V)), x = .ref a ∧ H a = some (.ins C dx fs) ∧ fs.lookup nm = none ∧ Cls X.K C ∧ Meth X.K C nm (S.fa f) := by
  unfold MP.methAt at e
  split at e
  · rename_i l
    split at e
    · rename_i c fs eg
      split at e
      · rename_i kl e1 e2
        cases r with
        | loc hl =>
          obtain ⟨dx, vs, e3, pr⟩ := sm.obj l _ eg
          obtain ⟨h1, h2⟩ := fc.meth c kl m f e2 e
          exact ⟨h1, _, _, _, _, rfl, e3, look_none fc.nd hm pr e1, fc.clsC c kl e2, h2 nm hm⟩
      · cases e
    · cases e
  · cases e
theorem SE.meth0 (C : Cq S X k W) {o : Expr} {fo : MSt → MP.M MV} {m : Nat} {nm : Str} {apos pos : Pos} (hm : S.attrs[m]? = some nm) (ho : SE S X W o fo) (hb : notSuper o = true) (hline : lineB apos pos = true) :
    SE S X W (.Call (.Attribute o nm apos) [] [] pos) fun ρ => MP.bnd (fo ρ) fun v => MP.bnd (MP.look fun g => MP.methAt S.T g v m) fun f => MP.bnd (MP.ret []) fun vs => MP.callF S.T k f (v :: vs) := by
  obtain ⟨to, po, qo⟩ := ho
  refine ⟨_, pe_mt0 (S := S) (k := k) C.room C.guards C.tk po (meth_ht hb (by simp) (by simp) hline), fun ι g ρ σ H Q sm ss hg => ?_⟩
  refine qo ι g ρ σ H _ sm ss ((hg.bnd sm).imp fun ι1 v g1 H1 f1 h1 x r1 => ?_)
  obtain ⟨f, e, q⟩ := (h1.bnd f1.sim).look f1.sim
  obtain ⟨hf, a, C', dx, fs, e1, e2, e3, e4, e5⟩ := methAt_ok C.fc hm f1.sim r1 e
  exact ⟨a, C', dx, fs, f, e1, e2, e3, e4, e5, C.call f hf, ι1, g1, [v], f1.sim, .cons r1 .nil, q.reW⟩
theorem SE.meth1 (C : Cq S X k W) {o e : Expr} {es : List Expr} {fo : MSt → MP.M MV} {fs : MSt → MP.M (List MV)} {m : Nat} {nm : Str} {apos pos : Pos} (hm : S.attrs[m]? = some nm) (ho : SE S X W o fo) (hs : SA S X W (e :: es) fs) (hn : ∀ y ∈ e :: es, notStar y = true) (hl : (e :: es).length < 25) (hb : notSuper o = true) (hline : lineB apos pos = true) :
    SE S X W (.Call (.Attribute o nm apos) (e :: es) [] pos) fun ρ => MP.bnd (fo ρ) fun v => MP.bnd (MP.look fun g => MP.methAt S.T g v m) fun f => MP.bnd (fs ρ) fun vs => MP.callF S.T k f (v :: vs) := by
  obtain ⟨to, po, qo⟩ := ho
  obtain ⟨ts, ps, qs⟩ := hs
  refine ⟨_, pe_mt1 (S := S) (k := k) C.room C.guards C.tk po ps (star_of (hn _ List.mem_cons_self)) (back_any fun y hy => hn y (List.mem_cons_of_mem _ hy)) (meth_ht hb hn hl hline), fun ι g ρ σ H Q sm ss hg => ?_⟩
  refine qo ι g ρ σ H _ sm ss ((hg.bnd sm).imp fun ι1 v g1 H1 f1 h1 x r1 => ?_)
  obtain ⟨f, ef, q⟩ := (h1.bnd f1.sim).look f1.sim
  obtain ⟨hf, a, C', dx, fs', e1, e2, e3, e4, e5⟩ := methAt_ok C.fc hm f1.sim r1 ef
  refine ⟨a, C', dx, fs', f, e1, e2, e3, e4, e5, C.call f hf, ?_⟩
  have q : Good S X.K W σ ι1 g1 H1 (MP.bnd (fs ρ) (fun vs => MP.callF S.T k f (v :: vs)) g1) _ := q
  exact qs ι1 g1 ρ σ H1 _ f1.sim (ss.fut sm f1) ((q.bnd f1.sim).imp fun ι2 vs g2 H2 f2 h2 xs r2 => ⟨ι2, g2, v :: vs, f2.sim, .cons (f2.rv f1.sim r1) r2, h2.reW⟩)
/-- a field -/
theorem SE.fld (C : Cq S X k W) {o : Expr} {fo : MSt → MP.M MV} {a : Nat} {nm : Str} {pos : Pos} (hm : S.attrs[a]? = some nm) (ho : SE S X W o fo) (hb : notSuper o = true) :
    SE S X W (.Attribute o nm pos) fun ρ => MP.bnd (fo ρ) fun v => MP.look fun g => MP.fldAt S.T g v a := by
  obtain ⟨to, po, qo⟩ := ho
  refine ⟨_, pe_fld po (base_of hb), fun ι g ρ σ H Q sm ss hg => ?_⟩
  refine qo ι g ρ σ H _ sm ss ((hg.bnd sm).imp fun ι1 v g1 H1 f1 h1 x r1 => ?_)
  obtain ⟨z, e, q⟩ := h1.look f1.sim
  unfold MP.fldAt at e
  split at e
  · rename_i l
    split at e
    · rename_i c fs eg
      split at e
      · rename_i hf
        unfold MP.hasFld at hf
        split at hf
        · rename_i kl ek
          cases r1 with
          | loc hl =>
            obtain ⟨dx, vs, e3, pr⟩ := f1.sim.obj l _ eg
            obtain ⟨y, ey, ry⟩ := look_some C.fc.nd hm pr e
            exact ⟨_, _, _, _, y, rfl, e3, C.fc.clsC c kl ek, C.fc.noat c kl a ek hf nm hm, ey, q y ry⟩
        · cases hf
      · cases e
    · cases e
  · cases e
/-! ### subscripts -/
theorem ix_plain {s : Expr} (h : notSlice s = true) : PlainIx s := by
  intro o i
  cases s <;> first
    | rfl
    | exact absurd h Bool.false_ne_true
theorem SE.idx {a i : Expr} {fa fi : MSt → MP.M MV} {pos : Pos} (ha : SE S X W a fa) (hi : SE S X W i fi) (hs : notSlice i = true) : SE S X W (.Subscript a i pos) fun ρ => MP.bnd (fa ρ) fun v => MP.bnd (fi ρ) fun w => MP.look fun g => MP.idxV g v w := by
  obtain ⟨ta, pa, qa⟩ := ha
  obtain ⟨tb, pb, qb⟩ := hi
  refine ⟨_, pe_ix (idx_ok (S := S)) pa pb (ix_plain hs), fun ι g ρ σ H Q sm ss hg => ?_⟩
  refine qa ι g ρ σ H _ sm ss ((hg.bnd sm).imp fun ι1 v g1 H1 f1 h1 x r1 => ?_)
  refine qb ι1 g1 ρ σ H1 _ f1.sim (ss.fut sm f1) ((h1.bnd f1.sim).imp fun ι2 w g2 H2 f2 h2 y r2 => ?_)
  obtain ⟨z, ez, q⟩ := h2.lookF
  exact ⟨ι2, g2, v, w, z, f2.sim, f2.rv f1.sim r1, r2, ez, fun H' f3 x r3 => q ι2 H' f3 x r3⟩
end MPS
end
section
set_option Elab.async false
set_option linter.all false
set_option autoImplicit false
set_option maxRecDepth 100000
set_option maxHeartbeats 2000000
/-! 8: one rule a construct, further: slices, built-in functions, f-strings. -/
namespace MPS
open PySem PySem.Spec L2
open PyProof.Rows hiding St
open MP (MV MO MH MSt Res)

section
variable {prog : Program} {w : World} {A : Around} {E : Value → Shared → Prop} {s : Shared}
theorem adjust_back (n : Nat) : Builtin.Slice.sliceAdjust none none (-1) (n : Int) = ((n : Int) - 1, -1) := by
  unfold Builtin.Slice.sliceAdjust
  rfl
theorem places_back (n : Nat) : Builtin.Slice.slicePlaces ((n : Int) - 1) (-1) (-1) = n := by
  unfold Builtin.Slice.slicePlaces
  have h1 : ¬ ((-1 : Int) > 0) := by decide
  simp only [h1, if_false]
  by_cases h : (n : Int) - 1 > -1
  · rw [if_pos h, show (- -1 : Int) = 1 by decide, Int.ediv_one]
    omega
  · rw [if_neg h]
    omega
theorem pick_back (xs : Array Value) : ((List.range xs.size).filterMap fun (k : Nat) => xs[(((xs.size : Int) - 1) + (k : Int) * (-1)).toNat]?).toArray = xs.toList.reverse.toArray := by
  congr 1
  rw [← PySem.W.krv_all xs, ← List.filterMap_reverse, ← PySem.W.krv_range, List.filterMap_map]
  congr 1
  funext k
  show _ = xs[xs.size - 1 - k]?
  congr 1
  omega
theorem getItem_tuple_back {t sl : Addr} {items : Array Value} {vl vu vs : Value} {Q : Value → Shared → Prop} (ht : IsTup s.heap t items) (hs : s.heap.IsSliceOf sl vl vu vs) (pl : IsPart vl none) (pu : IsPart vu none) (ps : IsPart vs (some (-1)))
    (h : Q (.ref s.heap.objs.size) { s with heap := s.heap.push { cls := .type "tuple", data := .seq items.toList.reverse.toArray } }) (hsz : items.size ≤ sizeLine) : wpAny (model prog w) A (getItem (.ref t) (.ref sl)) Q E s := by
  have htake : sizeOk (.seq items.toList.reverse.toArray) := by
    show items.toList.reverse.toArray.size ≤ sizeLine
    rw [List.size_toArray, List.length_reverse, Array.length_toList]
    exact hsz
  obtain ⟨os, hos, hcs, hds⟩ := id hs
  have hTs : s.TypeIs (.ref sl) "slice" := ⟨os, hos, hcs⟩
  unfold getItem
  try with_reducible refine wpAny_holding ?_
  first | refine wpAny_bind (wpAny_pure ?_) | skip
  refine wpAny_bind (wpAny_sequenceKey ht.typeIs (by decide) ?_)
  refine wpAny_bind (wpAny_callSpecial?_slot (name := Str.ofString "__getitem__") ht.typeIs PyProof.Rows.slot_tuple_getitem
    (wpAny_call_entry PyProof.Rows.slot_tuple_getitem ht.typeIs entry_tuple_getitem ?_ (args_tuple_getitem _ _)))
  show wpAny _ _ (Builtin.Tuple.tupleItemsOf (.ref t) >>= _) _ _ s
  refine wpAny_bind (tupleItemsOf_ ht ?_)
  refine wpAny_bind (wpAny_typeOf hTs ?_)
  rw [if_pos (by decide)]
  have app : ∀ {Q' : Int × Int × Nat → Shared → Prop}, Q' ((items.size : Int) - 1, -1, items.size) s → wpAny (model prog w) A.in1 (Builtin.Slice.sliceApplied (.ref sl) (pure (items.size : Int))) Q' E s := by
    intro Q' hq
    unfold Builtin.Slice.sliceApplied Builtin.Slice.sliceFields
    refine wpAny_bind (wpAny_bind (wpAny_field hos hds (x := vl) rfl (wpAny_bind (wpAny_field hos hds (x := vu) rfl (wpAny_bind (wpAny_field hos hds (x := vs) rfl (wpAny_pure ?_)))))))
    refine wpAny_bind (HT.slicePart_ ps ?_)
    show wpAny _ _ (if ((-1 : Int) == 0) = true then _ else _) _ _ s
    rw [if_neg (by decide)]
    refine wpAny_bind (HT.slicePart_ pl (wpAny_bind (HT.slicePart_ pu (wpAny_bind (wpAny_pure ?_)))))
    show wpAny _ _ (match Builtin.Slice.sliceAdjust none none (-1) (items.size : Int) with | (lo, hi) => pure (lo, (-1 : Int), Builtin.Slice.slicePlaces lo hi (-1))) _ _ s
    rw [adjust_back]
    show wpAny _ _ (pure ((items.size : Int) - 1, (-1 : Int), Builtin.Slice.slicePlaces ((items.size : Int) - 1) (-1) (-1))) _ _ s
    rw [places_back]
    exact wpAny_pure hq
  refine wpAny_bind (app ?_)
  have hno : ¬ ((((items.size : Int) - 1) == 0 && (-1 : Int) == 1 && items.size == items.size) = true) := by
    intro q
    rw [Bool.and_eq_true, Bool.and_eq_true] at q
    exact absurd (eq_of_beq q.1.2) (by decide)
  show wpAny _ _ (if (((items.size : Int) - 1) == 0 && (-1 : Int) == 1 && items.size == items.size) = true then _ else _) _ _ s
  rw [if_neg hno, pick_back]
  first
    | exact wpAny_bind (m := Builtin.Tuple.tupleExact _) (wpAny_newObj_type (wpAny_pure ⟨_, rfl, wpAny_pure h⟩) htake)
    | exact wpAny_bind (m := Builtin.Tuple.tupleExact _) (wpAny_newObj_type (wpAny_bind (wpAny_pure (wpAny_pure ⟨_, rfl, wpAny_pure h⟩))) htake)
    | exact wpAny_bind (wpAny_bind (m := Builtin.Tuple.tupleExact _) (wpAny_newObj_type (wpAny_pure (wpAny_pure ⟨_, rfl, wpAny_pure h⟩)) htake))
    | exact wpAny_bind (wpAny_bind (m := Builtin.Tuple.tupleExact _) (wpAny_newObj_type (wpAny_pure ⟨_, rfl, wpAny_pure h⟩) htake))
end
variable {S : Sc} {X : Cx} {W : WX} {k : Nat}
def tRevT (K : PySem.W.Frag) (te : TE) : TE := fun σ H Q => te σ H fun x H1 => ∃ a xs, x = .ref a ∧ SqT K H1 a xs ∧ ∀ p, H1 p = none → Q (.ref p) (upd H1 p (.tup xs.reverse))
theorem pe_revT {e : Expr} {te : TE} {j : Nat} {p1 p2 p3 pos : Pos} (he : PE X e te) : PE X (.Subscript e (.Slice none none (some (.UnaryOp .USub (.Constant (.int 1) j p1) p2)) p3) pos) (tRevT X.K te) := by
  refine ⟨fun pins s σ H Q I h => ?_⟩
  refine Subscript_ (thn (he.run pins s σ H _ I h) fun v s1 ⟨x, H1, I1, r1, q1⟩ => ?_)
  obtain ⟨a, xs, ex, hx, q⟩ := q1
  subst ex
  cases r1
  have hst : PO X (some (.UnaryOp .USub (.Constant (.int 1) j p1) p2)) (tPart (tUn (rU fun i => .int (-i)) (tC (.int 1)))) := po_some (pe_un un_neg pe_int)
  refine wpAny_Slice (thn (po_none.run pins s1 σ H1 (fun o H2 => o = none ∧ H2 = H1) I1 ⟨rfl, rfl⟩) fun vl s2 ⟨l, H2, I2, pl, el, e2⟩ => ?_)
  subst el e2
  refine thn (po_none.run pins s2 σ H2 (fun o H3 => o = none ∧ H3 = H2) I2 ⟨rfl, rfl⟩) fun vu s3 ⟨u, H3, I3, pu, eu, e3⟩ => ?_
  subst eu e3
  refine thn (hst.run pins s3 σ H3 (fun o H4 => o = some (-1) ∧ H4 = H3) I3 ⟨1, rfl, -1, rfl, rfl, rfl⟩) fun vs s4 ⟨o, H4, I4, ps, eo, e4⟩ => ?_
  subst eo e4
  have I5 : Inv X pins σ H4 { s4 with heap := s4.heap.push { cls := .type "slice", data := .fields #[vl, vu, vs] } } := I4.kept (t' := s4.toks) fun b ob q => Heap.get?_push_of_some _ q
  obtain ⟨its, r, ht, hz⟩ := I5.tuple hx
  have hlen := r.length
  show wpAny (model X.prog X.w) X.A (subscriptTail e (.Slice none none (some (.UnaryOp .USub (.Constant (.int 1) j p1) p2)) p3) (.ref a) (.ref s4.heap.objs.size)) (EP X pins σ Q) X.xe { s4 with heap := s4.heap.push { cls := .type "slice", data := .fields #[vl, vu, vs] } }
  refine tail_any (ops := [.ref a, .ref s4.heap.objs.size]) ht.typeIs (PyProof.Rows.slot_tuple_getitem.lookup) ?_ (by with_unfolding_all rfl)
  refine getItem_tuple_back ht (Heap.IsSliceOf.new _ vl vu vs) pl pu ps ?_ (by rw [List.size_toArray]; omega)
  refine ⟨.ref _, _, I5.laid (t' := s4.toks) (o := .tup xs.reverse) (fun b ob q => Heap.get?_push_of_some _ q) (Nat.le_refl _) ?_, rfl, q _ (I5.hok.fresh (Nat.le_refl _))⟩
  exact ⟨by rw [List.length_reverse]; omega, _, r.reverse, IsTup.new _ _⟩
theorem SE.rev {a : Expr} {fa : MSt → MP.M MV} {j : Nat} {p1 p2 p3 pos : Pos} (ha : SE S X W a fa) : SE S X W (.Subscript a (.Slice none none (some (.UnaryOp .USub (.Constant (.int 1) j p1) p2)) p3) pos) fun ρ => MP.bnd (fa ρ) fun v => match v with
    | .tup xs => MP.ret (.tup xs.reverse)
    | _ => MP.nope := by
  obtain ⟨ta, pa, qa⟩ := ha
  refine ⟨_, pe_revT pa, fun ι g ρ σ H Q sm ss hg => ?_⟩
  refine qa ι g ρ σ H _ sm ss ((hg.bnd sm).imp fun ι1 v g1 H1 f1 h1 x r1 => ?_)
  cases r1 with
  | @tup xs vs b hb hs =>
    refine ⟨_, _, rfl, hb, fun p hp => ?_⟩
    have f2 := Fut.new f1.sim (o := .tup vs.reverse) hp
    exact h1 ι1 _ f2 _ (.tup (SqT.of upd_same) (f2.rvs f1.sim hs.reverse))
  | _ => exact h1.nope.elim

/-! ### slices -/
/-- a slice's bound -/
structure SO (S : Sc) (X : Cx) (W : WX) (e : Option Expr) (f : MSt → MP.M (Option Int)) : Prop where
  ex : ∃ t : TO, PO X e t ∧ ∀ ι g ρ σ H Q, Sim S X.K ι g H → SimS S X.K ι g.length H ρ σ →
    Good S X.K W σ ι g H (f ρ g) (fun _ o _ H' => Q o H') → t σ H Q
theorem SO.none : SO S X W none fun _ => MP.ret Option.none := ⟨_, po_none, fun ι g ρ σ H Q sm ss hg => hg.ret sm⟩
theorem SO.some {e : Expr} {f : MSt → MP.M MV} (h : SE S X W e f) : SO S X W (some e) fun ρ => MP.bnd (f ρ) fun v => match v with
    | .int i => MP.ret (Option.some i)
    | _ => MP.nope := by
  obtain ⟨ta, pa, qa⟩ := h
  refine ⟨_, po_some pa, fun ι g ρ σ H Q sm ss hg => ?_⟩
  refine qa ι g ρ σ H _ sm ss ((hg.bnd sm).imp fun ι1 v g1 H1 f1 h1 x r1 => ?_)
  cases r1 with
  | int i => exact ⟨i, rfl, h1.ret f1.sim⟩
  | _ => exact h1.nope.elim
theorem SE.sl {a : Expr} {lo hi : Option Expr} {fa : MSt → MP.M MV} {fl fh : MSt → MP.M (Option Int)} {p2 pos : Pos} (ha : SE S X W a fa) (hl : SO S X W lo fl) (hh : SO S X W hi fh) :
    SE S X W (.Subscript a (.Slice lo hi none p2) pos) fun ρ => MP.bnd (fa ρ) fun v => MP.bnd (fl ρ) fun l => MP.bnd (fh ρ) fun h => MP.lift (MP.slV v l h) := by
  obtain ⟨ta, pa, qa⟩ := ha
  obtain ⟨tl, pl, ql⟩ := hl
  obtain ⟨th, ph, qh⟩ := hh
  refine ⟨_, pe_slice (sl_ok (S := S)) pa pl ph, fun ι g ρ σ H Q sm ss hg => ?_⟩
  refine qa ι g ρ σ H _ sm ss ((hg.bnd sm).imp fun ι1 v g1 H1 f1 h1 x r1 => ?_)
  refine ql ι1 g1 ρ σ H1 _ f1.sim (ss.fut sm f1) ((h1.bnd f1.sim).imp fun ι2 l g2 H2 f2 h2 => ?_)
  have f12 := f1.trans sm f2
  refine qh ι2 g2 ρ σ H2 _ f2.sim (ss.fut sm f12) ((h2.bnd f2.sim).imp fun ι3 h g3 H3 f3 h3 => ?_)
  obtain ⟨z, ez, q⟩ := h3.liftF
  exact ⟨ι3, g3, v, z, f3.sim, f3.rv f2.sim (f2.rv f1.sim r1), ez, fun H' f4 x r => q ι3 H' f4 x r⟩

/-! ### built-in functions -/
theorem blt_ok (fc : Facts S X.K X.mg) {x y : Str} (h : bltB S.nm X.env.scope x y = true) : x = y ∧ Gl X x ∧ X.mg x = none ∧ (x == ("__debug__" : Str)) = false ∧ x ≠ "__name__" := by
  unfold bltB at h
  simp only [Bool.and_eq_true, decide_eq_true_eq] at h
  obtain ⟨h1, h2⟩ := gl_ok h.1.2
  obtain ⟨n1, n2, n3⟩ := name_ok h2
  exact ⟨h.1.1, h1, fc.free x h.2, n1, n3⟩
theorem one_star {e : Expr} {env : Env} (h : notStar e = true) : starEach [e] env = [(false, eval e env)] := star_of h
/-- a call of one value -/
theorem one_go {ta : TE} {fa : MSt → MP.M MV} {F : MV → MH → Option MV} (qa : ∀ ι g ρ σ H Q, Sim S X.K ι g H → SimS S X.K ι g.length H ρ σ → Good S X.K W σ ι g H (fa ρ g) (fun ι' v g' H' => ∀ x, RV S X.K ι' g'.length H' v x → Q x H') → ta σ H Q)
    {ι : Nat → Addr} {g : MH} {ρ : MSt} {σ : St} {H : Hp} {Q : VK} (sm : Sim S X.K ι g H) (ss : SimS S X.K ι g.length H ρ σ) (hg : Good S X.K W σ ι g H (MP.bnd (fa ρ) (fun v => MP.look fun g => F v g) g) fun ι' v g' H' => ∀ x, RV S X.K ι' g'.length H' v x → Q x H') :
    ta σ H fun x H1 => rC1 S X.K F [x] H1 Q := by
  refine qa ι g ρ σ H _ sm ss ((hg.bnd sm).imp fun ι1 v g1 H1 f1 h1 x r1 => ?_)
  obtain ⟨z, ez, q⟩ := h1.lookF
  exact ⟨ι1, g1, v, z, x, rfl, f1.sim, r1, ez, fun H' f4 x r => q ι1 H' f4 x r⟩
theorem SE.bi1 (C : Cq S X k W) {b : MP.Bi1} {x z : Str} {y : Expr} {fa : MSt → MP.M MV} {ty : Bool} {p pos : Pos} (hb : bi1B b = some (z, ty)) (hx : bltB S.nm X.env.scope x z = true) (ha : SE S X W y fa) (hn : notStar y = true) :
    SE S X W (.Call (.Name x p) [y] [] pos) fun ρ => MP.bnd (fa ρ) fun v => MP.look fun g => MP.bi1V b g v := by
  obtain ⟨ta, pa, qa⟩ := ha
  obtain ⟨ex, h1, h2, h3, h4⟩ := blt_ok C.fc hx
  subst ex
  have pA : PA X [y] (tCons ta tNil) := pa_cons pa pa_nil (one_star hn)
  have hst : starEach [y] X.env = (false, eval y X.env) :: starEach [] X.env := one_star hn
  have r := C.room.un
  have fin : ∀ {ι g ρ σ H} {Q : VK}, Sim S X.K ι g H → SimS S X.K ι g.length H ρ σ → Good S X.K W σ ι g H (MP.bnd (fa ρ) (fun v => MP.look fun g => MP.bi1V b g v) g) (fun ι' v g' H' => ∀ x, RV S X.K ι' g'.length H' v x → Q x H') → tCB (rC1 S X.K fun v g => MP.bi1V b g v) (tCons ta tNil) σ H Q :=
    fun sm ss hg => one_go qa sm ss hg
  cases b with
  | len =>
    cases hb
    exact ⟨_, pe_callB c1_len h1 h2 (by decide +kernel) pA h4 h3 hst rfl, fun ι g ρ σ H Q sm ss hg => fin sm ss hg⟩
  | abs =>
    cases hb
    exact ⟨_, pe_callB c1_abs h1 h2 (by decide +kernel) pA h4 h3 hst rfl, fun ι g ρ σ H Q sm ss hg => fin sm ss hg⟩
  | repr =>
    cases hb
    exact ⟨_, pe_callB (c1_repr C.guards (by omega)) h1 h2 (by decide +kernel) pA h4 h3 hst rfl, fun ι g ρ σ H Q sm ss hg => fin sm ss hg⟩
  | int =>
    cases hb
    exact ⟨_, pe_callTy c1_int h1 h2 (by decide +kernel) pA h4 h3 hst rfl, fun ι g ρ σ H Q sm ss hg => fin sm ss hg⟩
  | str =>
    cases hb
    exact ⟨_, pe_callTy c1_str h1 h2 (by decide +kernel) pA h4 h3 hst rfl, fun ι g ρ σ H Q sm ss hg => fin sm ss hg⟩
  | tuple =>
    cases hb
    exact ⟨_, pe_callTy c1_tuple h1 h2 (by decide +kernel) pA h4 h3 hst rfl, fun ι g ρ σ H Q sm ss hg => fin sm ss hg⟩
  | inst t => cases hb
theorem SE.inst (C : Cq S X k W) {ty : MP.Ty} {x t : Str} {y : Expr} {fa : MSt → MP.M MV} {p p2 pos : Pos} (hx : bltB S.nm X.env.scope x (Str.ofString "isinstance") = true) (ht : bltB S.nm X.env.scope t (tyS ty) = true) (ha : SE S X W y fa) (hn : notStar y = true) :
    SE S X W (.Call (.Name x p) [y, .Name t p2] [] pos) fun ρ => MP.bnd (fa ρ) fun v => MP.look fun g => MP.bi1V (.inst ty) g v := by
  obtain ⟨ta, pa, qa⟩ := ha
  obtain ⟨ex, h1, h2, h3, h4⟩ := blt_ok C.fc hx
  obtain ⟨et, t1, t2, t3, t4⟩ := blt_ok C.fc ht
  subst ex et
  have pT : PE X (.Name (tyS ty) p2) (tC (.ty (tyN ty))) := by
    cases ty <;> exact pe_bltn t1 t2 (u := .type (tyN _)) (by decide +kernel) rfl t4 t3
  have hst2 : starEach [Expr.Name (tyS ty) p2] X.env = [(false, eval (Expr.Name (tyS ty) p2) X.env)] := rfl
  have pA : PA X [y, .Name (tyS ty) p2] (tCons ta (tCons (tC (.ty (tyN ty))) tNil)) := pa_cons pa (pa_cons pT pa_nil hst2) (star_of hn)
  refine ⟨_, pe_callB call_isi h1 h2 (by decide +kernel) pA h4 h3 (star_of hn) rfl, fun ι g ρ σ H Q sm ss hg => ?_⟩
  refine qa ι g ρ σ H _ sm ss ((hg.bnd sm).imp fun ι1 v g1 H1 f1 h1 x r1 => ?_)
  obtain ⟨z, ez, q⟩ := h1.look f1.sim
  obtain ⟨b, eb, rfl⟩ := Option.map_eq_some_iff.mp (show (MP.isinst g1 v ty).map MV.bl = some z from ez)
  obtain ⟨u, h5, h6⟩ := inst_ok (X := X) f1.sim r1 eb
  exact ⟨x, _, u, _, b, rfl, .ty _, h5, h6, q _ (.bl _)⟩
theorem SE.bi2 (C : Cq S X k W) {b : MP.Bi2} {x : Str} {y z : Expr} {fa fb : MSt → MP.M MV} {p pos : Pos} (hx : bltB S.nm X.env.scope x (match b with
      | .max => Str.ofString "max"
      | .min => Str.ofString "min") = true) (ha : SE S X W y fa) (hb : SE S X W z fb) (hn : notStar y = true) (hm : notStar z = true) :
    SE S X W (.Call (.Name x p) [y, z] [] pos) fun ρ => MP.bnd (fa ρ) fun v => MP.bnd (fb ρ) fun w => MP.lift (MP.bi2V b v w) := by
  obtain ⟨ta, pa, qa⟩ := ha
  obtain ⟨tb, pb, qb⟩ := hb
  obtain ⟨ex, h1, h2, h3, h4⟩ := blt_ok C.fc hx
  subst ex
  have pA : PA X [y, z] (tCons ta (tCons tb tNil)) := pa_cons pa (pa_cons pb pa_nil (one_star hm)) (star_of hn)
  have hpl : (backTo pos (starEach [z] X.env)).any (·.1) = false := back_any (by simpa using hm)
  have go : ∀ {ι g ρ σ H} {R : List V → Hp → VK → Prop} {Q : VK}, Sim S X.K ι g H → SimS S X.K ι g.length H ρ σ → Good S X.K W σ ι g H (MP.bnd (fa ρ) (fun v => MP.bnd (fb ρ) fun w => MP.lift (MP.bi2V b v w)) g) (fun ι' v g' H' => ∀ x, RV S X.K ι' g'.length H' v x → Q x H') →
      (∀ i j H' u, MP.bi2V b (.int i) (.int j) = some (.int u) → Q (.int u) H' → R [.int i, .int j] H' Q) → tCB R (tCons ta (tCons tb tNil)) σ H Q := by
    intro ι g ρ σ H R Q sm ss hg hR
    refine qa ι g ρ σ H _ sm ss ((hg.bnd sm).imp fun ι1 v g1 H1 f1 h1 x r1 => ?_)
    refine qb ι1 g1 ρ σ H1 _ f1.sim (ss.fut sm f1) ((h1.bnd f1.sim).imp fun ι2 w g2 H2 f2 h2 y r2 => ?_)
    obtain ⟨u, eu, q⟩ := h2.lift f2.sim
    cases b <;> cases r1 <;> first
      | (cases eu; done)
      | (cases r2 <;> first
        | (cases eu; done)
        | (cases eu; exact hR _ _ _ _ rfl (q _ (.int _))))
  cases b with
  | max =>
    refine ⟨_, pe_callB (call_max2 C.calm) h1 h2 (by decide +kernel) pA h4 h3 (star_of hn) hpl, fun ι g ρ σ H Q sm ss hg => go sm ss hg fun i j H' u e q => ⟨i, j, rfl, ?_⟩⟩
    cases e
    exact q
  | min =>
    refine ⟨_, pe_callB (call_min2 C.calm) h1 h2 (by decide +kernel) pA h4 h3 (star_of hn) hpl, fun ι g ρ σ H Q sm ss hg => go sm ss hg fun i j H' u e q => ⟨i, j, rfl, ?_⟩⟩
    cases e
    exact q
end MPS
end
section
set_option Elab.async false
set_option linter.all false
set_option autoImplicit false
set_option maxRecDepth 100000
set_option maxHeartbeats 2000000
/-! 9: f-strings, new lists. -/
namespace MPS
open PySem PySem.Spec L2
open PyProof.Rows hiding St
open MP (MV MO MH MSt Res)
variable {S : Sc} {X : Cx} {W : WX} {k : Nat}

/-! ### f-strings -/
structure SF (S : Sc) (X : Cx) (W : WX) (es : List Expr) (f : MSt → Str → MP.M Str) : Prop where
  ex : ∃ ts : List TE, PJ X es ts ∧ ∀ ι g ρ σ H acc Q, Sim S X.K ι g H → SimS S X.K ι g.length H ρ σ →
    Good S X.K W σ ι g H (f ρ acc g) (fun _ z _ H' => Q z H') → tJs ts acc σ H Q
theorem SF.nil : SF S X W [] fun _ acc => MP.ret acc := ⟨[], .nil, fun ι g ρ σ H acc Q sm ss hg => hg.ret sm⟩
theorem fmt_ok {K : PySem.W.Frag} {ι : Nat → Addr} {n : Nat} {H : Hp} {acc z : Str} {v : MV} {x : V} (r : RV S K ι n H v x) (h : MP.fmtOne acc v = some z) :
    (∃ y : Str, x = .str y ∧ y.length ≤ sizeLine ∧ z = acc ++ y ∧ (acc ++ y).length ≤ sizeLine) ∨ ∃ i : Int, x = .int i ∧ i.natAbs.log2 < 1920 ∧ z = acc ++ Str.ofString (toString i) ∧ (acc ++ Str.ofString (toString i)).length ≤ sizeLine := by
  unfold MP.fmtOne at h
  split at h
  · rename_i y hy
    split at h
    · rename_i hl
      cases h
      have hl2 : (acc ++ y).length ≤ sizeLine := by rw [Str.length_append]; exact szle hl
      cases r with
      | str w =>
        have hy' : (if w.length ≤ MP.SZ then some w else none) = some y := hy
        split at hy'
        · cases hy'
          exact .inl ⟨_, rfl, szle (by assumption), rfl, hl2⟩
        · cases hy'
      | int i =>
        have hy' : (if i.natAbs.log2 < 1920 then some (MP.strI i) else none) = some y := hy
        split at hy'
        · cases hy'
          exact .inr ⟨i, rfl, by assumption, rfl, hl2⟩
        · cases hy'
      | _ => cases hy
    · cases h
  · cases h
theorem SF.cons {e : Expr} {es : List Expr} {fe : MSt → MP.M MV} {fs : MSt → Str → MP.M Str} {p : Pos} (he : SE S X W e fe) (hs : SF S X W es fs) : SF S X W (.FormattedValue e (-1) none p :: es) fun ρ acc => MP.bnd (fe ρ) fun v => MP.bnd (MP.lift (MP.fmtOne acc v)) fun z => fs ρ z := by
  obtain ⟨te, pe, qe⟩ := he
  obtain ⟨ts, ps, qs⟩ := hs
  refine ⟨_, .cons (pe_fmt pe) ps, fun ι g ρ σ H acc Q sm ss hg => ?_⟩
  refine qe ι g ρ σ H _ sm ss ((hg.bnd sm).imp fun ι1 v g1 H1 f1 h1 x r1 => ?_)
  obtain ⟨z, ez, h2⟩ := (h1.bnd f1.sim).lift f1.sim
  rcases fmt_ok r1 ez with ⟨y, rfl, hz, rfl, hl⟩ | ⟨i, rfl, hz, rfl, hl⟩
  · exact .inl ⟨y, rfl, hz, y, rfl, hl, qs ι1 g1 ρ σ H1 _ _ f1.sim (ss.fut sm f1) h2⟩
  · exact .inr ⟨i, rfl, hz, _, rfl, hl, qs ι1 g1 ρ σ H1 _ _ f1.sim (ss.fut sm f1) h2⟩
theorem SF.cst {x : Str} {j : Nat} {es : List Expr} {fs : MSt → Str → MP.M Str} {p : Pos} (hs : SF S X W es fs) : SF S X W (.Constant (.str x) j p :: es) fun ρ acc => MP.bnd (MP.ret (MV.str x)) fun v => MP.bnd (MP.lift (MP.fmtOne acc v)) fun z => fs ρ z := by
  obtain ⟨ts, ps, qs⟩ := hs
  refine ⟨_, .cons pe_str ps, fun ι g ρ σ H acc Q sm ss hg => ?_⟩
  have hg : Good S X.K W σ ι g H (MP.bnd (MP.lift (MP.fmtOne acc (.str x))) (fun z => fs ρ z) g) _ := hg
  obtain ⟨z, ez, h2⟩ := (hg.bnd sm).lift sm
  rcases fmt_ok (S := S) (K := X.K) (ι := ι) (n := 0) (H := H) (.str x) ez with ⟨y, ey, hz, rfl, hl⟩ | ⟨i, ey, _⟩
  · cases ey
    exact ⟨x, rfl, hl, qs ι g ρ σ H _ _ sm ss h2⟩
  · cases ey
theorem SE.fstr1 {e : Expr} {p pos : Pos} {fe : MSt → MP.M MV} (he : SE S X W e fe) : SE S X W (.JoinedStr [.FormattedValue e (-1) none p] pos) fun ρ => MP.bnd (MP.bnd (fe ρ) fun v => MP.bnd (MP.lift (MP.fmtOne Str.empty v)) fun z => MP.ret z) fun z => MP.ret (.str z) := by
  obtain ⟨te, pe, qe⟩ := he
  refine ⟨_, pe_joined1 (pe_fmt pe), fun ι g ρ σ H Q sm ss hg => ?_⟩
  rw [bnd_assoc] at hg
  refine qe ι g ρ σ H _ sm ss ((hg.bnd sm).imp fun ι1 v g1 H1 f1 h1 x r1 => ?_)
  rw [bnd_assoc] at h1
  obtain ⟨z, ez, h2⟩ := (h1.bnd f1.sim).lift f1.sim
  have e0 : ∀ y : Str, Str.empty ++ y = y := fun y => by
    cases y
    show Str.mk _ = _
    congr 1
    exact Array.empty_append
  have h3 := Good.ret (a := MV.str z) f1.sim h2 (.str z) (.str z)
  rcases fmt_ok r1 ez with ⟨y, rfl, hz, rfl, hl⟩ | ⟨i, rfl, hz, rfl, hl⟩
  · rw [e0] at h3
    exact .inl ⟨y, rfl, hz, h3⟩
  · rw [e0] at h3
    exact .inr ⟨i, rfl, hz, h3⟩
theorem SE.fstr {e1 e2 : Expr} {es : List Expr} {pos : Pos} {f : MSt → Str → MP.M Str} (hs : SF S X W (e1 :: e2 :: es) f) : SE S X W (.JoinedStr (e1 :: e2 :: es) pos) fun ρ => MP.bnd (f ρ Str.empty) fun z => MP.ret (.str z) := by
  obtain ⟨ts, ps, qs⟩ := hs
  refine ⟨_, pe_joined ps, fun ι g ρ σ H Q sm ss hg => ?_⟩
  refine qs ι g ρ σ H _ _ sm ss ((hg.bnd sm).imp fun ι1 z g1 H1 f1 h1 => ?_)
  exact h1.ret f1.sim _ (.str z)

/-! ### new lists -/
/-- a list of one's own becomes an object of the small heap -/
theorem Fut.adopt {K : PySem.W.Frag} {ι ι1 : Nat → Addr} {g g1 : MH} {H H1 : Hp} (f : Fut S K ι g H ι1 g1 H1) {p : Addr} {o : MO} (h0 : H p = none) (ho : Out ι1 g1 p)
    (hr : ∀ ι', (∀ xs vs, RVs S K ι1 g1.length H1 xs vs → RVs S K ι' (g1.length + 1) H1 xs vs) → RO S K ι' (g1.length + 1) H1 p o) :
    Fut S K ι g H (fun l => if l = g1.length then p else ι1 l) (g1 ++ [o]) H1 := by
  have hi : ∀ l, l < g1.length → (fun l => if l = g1.length then p else ι1 l) l = ι1 l := fun l hl => if_neg (Nat.ne_of_lt hl)
  have r1 : ∀ x v, RV S K ι1 g1.length H1 x v → RV S K (fun l => if l = g1.length then p else ι1 l) (g1.length + 1) H1 x v := fun _ _ r => r.mono (Nat.le_succ _) hi (fun _ _ h => h) fun _ _ h => h
  have r2 : ∀ xs vs, RVs S K ι1 g1.length H1 xs vs → RVs S K (fun l => if l = g1.length then p else ι1 l) (g1.length + 1) H1 xs vs := fun _ _ r => r.mono (Nat.le_succ _) hi (fun _ _ h => h) fun _ _ h => h
  refine ⟨⟨fun l o' e => ?_, fun i j hi' hj' z => ?_⟩, by simpa using Nat.le_succ_of_le f.le, fun l hl => ?_, fun l h1 h2 => ?_, fun b o' e hb => f.keep b o' e hb⟩
  · rw [List.length_append, List.length_singleton]
    by_cases hl : l < g1.length
    · rw [List.getElem?_append_left hl] at e
      have q := (f.sim.obj l o' e).mono r1 r2 (a := ι1 l) fun u e' => e'
      rw [← hi l hl] at q
      exact q
    · have hl2 : l = g1.length := by
        have := (List.getElem?_eq_some_iff.mp e).1
        simp at this
        omega
      subst hl2
      rw [List.getElem?_append_right (Nat.le_refl _), Nat.sub_self] at e
      have e' : o = o' := Option.some.inj e
      subst e'
      show RO S K _ _ H1 (if g1.length = g1.length then p else ι1 g1.length) o
      rw [if_pos rfl]
      exact hr _ r2
  · rw [List.length_append, List.length_singleton] at hi' hj'
    have z' : (if i = g1.length then p else ι1 i) = (if j = g1.length then p else ι1 j) := z
    by_cases e1 : i = g1.length <;> by_cases e2 : j = g1.length
    · omega
    · rw [if_pos e1, if_neg e2] at z'
      exact absurd z'.symm (ho j (by omega))
    · rw [if_neg e1, if_pos e2] at z'
      exact absurd z' (ho i (by omega))
    · rw [if_neg e1, if_neg e2] at z'
      exact f.sim.inj i j (by omega) (by omega) z'
  · have : l < g1.length := Nat.lt_of_lt_of_le hl f.le
    show (if l = g1.length then p else ι1 l) = ι l
    rw [if_neg (by omega)]
    exact f.agree l hl
  · rw [List.length_append, List.length_singleton] at h2
    show H (if l = g1.length then p else ι1 l) = none
    by_cases e : l = g1.length
    · rw [if_pos e]
      exact h0
    · rw [if_neg e]
      exact f.fresh l h1 (by omega)
theorem lstOf_go {ta : TE} {f : MSt → MP.M (List MV)} (qa : ∀ ι g ρ σ H Q, Sim S X.K ι g H → SimS S X.K ι g.length H ρ σ → Good S X.K W σ ι g H (f ρ g) (fun ι' vs g' H' => ∀ D xs, RVs S X.K ι' g'.length H' vs xs → H' D = some (.lst xs) → H D = none → Out ι' g' D → Q (.ref D) H') → ta σ H Q)
    {ι : Nat → Addr} {g : MH} {ρ : MSt} {σ : St} {H : Hp} {Q : VK} (sm : Sim S X.K ι g H) (ss : SimS S X.K ι g.length H ρ σ) (hg : Good S X.K W σ ι g H (MP.bnd (f ρ) (fun xs => MP.alloc (.lst xs)) g) fun ι' v g' H' => ∀ x, RV S X.K ι' g'.length H' v x → Q x H') : ta σ H Q := by
  refine qa ι g ρ σ H _ sm ss ?_
  unfold MP.bnd at hg
  cases e : f ρ g with
  | ok xs g1 =>
    rw [e] at hg
    intro ι1 H1 f1 D vs r eD hn ho
    have hg : ∀ ι' H', Fut S X.K ι g H ι' (g1 ++ [.lst xs]) H' → ∀ x, RV S X.K ι' (g1 ++ [MO.lst xs]).length H' (.loc g1.length) x → Q x H' := hg
    refine hg _ _ (f1.adopt hn ho fun ι' mono => ⟨vs, mono _ _ r, eD⟩) _ ?_
    have z : RV S X.K (fun l => if l = g1.length then D else ι1 l) (g1 ++ [MO.lst xs]).length H1 (.loc g1.length) (.ref ((fun l => if l = g1.length then D else ι1 l) g1.length)) := .loc (by simp)
    have e2 : (fun l => if l = g1.length then D else ι1 l) g1.length = D := if_pos rfl
    rw [e2] at z
    exact z
  | exc c fs g1 =>
    rw [e] at hg
    exact hg
  | stuck =>
    rw [e] at hg
    exact hg
theorem SE.lstOf {e : Expr} {f : MSt → MP.M (List MV)} (h : SL S X W e f) : SE S X W e fun ρ => MP.bnd (f ρ) fun xs => MP.alloc (.lst xs) := by
  obtain ⟨ta, pa, qa⟩ := h
  exact ⟨_, pa, fun ι g ρ σ H Q sm ss hg => lstOf_go qa sm ss hg⟩
/-- a new list is laid -/
theorem newL {K : PySem.W.Frag} {ι ι1 : Nat → Addr} {g g1 : MH} {H H1 : Hp} {xs : List MV} {vs : List V} {p : Addr} {Q : VK} (sm : Sim S K ι g H) (f1 : Fut S K ι g H ι1 g1 H1) (r : RVs S K ι1 g1.length H1 xs vs) (hp : H1 p = none)
    (h : ∀ ι' H', Fut S K ι1 g1 H1 ι' g1 H' → ∀ D ys, RVs S K ι' g1.length H' xs ys → H' D = some (.lst ys) → H D = none → Out ι' g1 D → Q (.ref D) H') : Q (.ref p) (upd H1 p (.lst vs)) := by
  have f2 := Fut.new f1.sim (o := .lst vs) hp
  exact h ι1 _ f2 _ _ (f2.rvs f1.sim r) upd_same (f1.was sm hp) fun l hl => f1.sim.neNone hl hp
theorem SL.disp {es : List Expr} {fs : MSt → MP.M (List MV)} {pos : Pos} (hs : SA S X W es fs) : SL S X W (.List es pos) fun ρ => MP.bnd (fs ρ) fun vs => if vs.length ≤ MP.SZ then MP.ret vs else MP.nope := by
  obtain ⟨ts, ps, qs⟩ := hs
  refine ⟨_, pe_lst ps, fun ι g ρ σ H Q sm ss hg => ?_⟩
  refine qs ι g ρ σ H _ sm ss ((hg.bnd sm).imp fun ι1 vs g1 H1 f1 h1 xs r1 => ?_)
  rcases h1.ite with ⟨hl, h1⟩ | ⟨_, h1⟩
  · refine ⟨by rw [← r1.length]; exact szle hl, fun p hp => newL sm f1 r1 hp fun ι' H' f2 D ys => ?_⟩
    exact h1 ι' H' f2 D ys
  · exact h1.nope.elim
theorem SL.catL {a b : Expr} {fa fb : MSt → MP.M (List MV)} {pos : Pos} (ha : SL S X W a fa) (hb : SL S X W b fb) : SL S X W (.BinOp a .Add b pos) fun ρ => MP.bnd (fa ρ) fun xs => MP.bnd (fb ρ) fun ys => if xs.length + ys.length ≤ MP.SZ then MP.ret (xs ++ ys) else MP.nope := by
  obtain ⟨ta, pa, qa⟩ := ha
  obtain ⟨tb, pb, qb⟩ := hb
  refine ⟨_, pe_op op_cat pa pb, fun ι g ρ σ H Q sm ss hg => ?_⟩
  refine qa ι g ρ σ H _ sm ss ((hg.bnd sm).imp fun ι1 xs g1 H1 f1 h1 D vs r1 eD _ oD => ?_)
  refine qb ι1 g1 ρ σ H1 _ f1.sim (ss.fut sm f1) ((h1.bnd f1.sim).imp fun ι2 ys g2 H2 f2 h2 D2 ws r2 eD2 _ _ => ?_)
  rcases h2.ite with ⟨hl, h2⟩ | ⟨_, h2⟩
  · refine ⟨D, D2, vs, ws, rfl, rfl, f2.keep _ _ eD oD, eD2, by rw [← r1.length, ← r2.length]; exact szle hl, fun p hp => ?_⟩
    exact newL sm (f1.trans sm f2) ((f2.rvs f1.sim r1).append r2) hp fun ι' H' f3 D ys => h2 ι' H' f3 D ys
  · exact h2.nope.elim
theorem SL.catV {a b : Expr} {fa : MSt → MP.M MV} {fb : MSt → MP.M (List MV)} {pos : Pos} (ha : SE S X W a fa) (hb : SL S X W b fb) : SL S X W (.BinOp a .Add b pos) fun ρ => MP.bnd (fa ρ) fun v => MP.bnd (fb ρ) fun ys => MP.bnd (MP.look fun g => MP.lstAt g v) fun xs => if xs.length + ys.length ≤ MP.SZ then MP.ret (xs ++ ys) else MP.nope := by
  obtain ⟨ta, pa, qa⟩ := ha
  obtain ⟨tb, pb, qb⟩ := hb
  refine ⟨_, pe_op op_cat pa pb, fun ι g ρ σ H Q sm ss hg => ?_⟩
  refine qa ι g ρ σ H _ sm ss ((hg.bnd sm).imp fun ι1 v g1 H1 f1 h1 x r1 => ?_)
  refine qb ι1 g1 ρ σ H1 _ f1.sim (ss.fut sm f1) ((h1.bnd f1.sim).imp fun ι2 ys g2 H2 f2 h2 D2 ws r2 eD2 _ _ => ?_)
  obtain ⟨xs, ex, h3⟩ := (h2.bnd f2.sim).look f2.sim
  unfold MP.lstAt at ex
  split at ex
  · rename_i l
    split at ex
    · rename_i zs eg
      cases ex
      cases f2.rv f1.sim r1 with
      | loc hl =>
        obtain ⟨vs, rs, e3⟩ := f2.sim.obj l _ eg
        rcases h3.ite with ⟨hl, h3⟩ | ⟨_, h3⟩
        · refine ⟨_, D2, vs, ws, rfl, rfl, e3, eD2, by rw [← rs.length, ← r2.length]; exact szle hl, fun p hp => ?_⟩
          exact newL sm (f1.trans sm f2) (rs.append r2) hp fun ι' H' f3 D ys => h3 ι' H' f3 D ys
        · exact h3.nope.elim
    · cases ex
  · cases ex
theorem SL.slL {a : Expr} {lo hi : Option Expr} {fa : MSt → MP.M MV} {fl fh : MSt → MP.M (Option Int)} {p2 pos : Pos} (ha : SE S X W a fa) (hl : SO S X W lo fl) (hh : SO S X W hi fh) :
    SL S X W (.Subscript a (.Slice lo hi none p2) pos) fun ρ => MP.bnd (fa ρ) fun v => MP.bnd (fl ρ) fun l => MP.bnd (fh ρ) fun h => MP.look fun g => MP.slLV g v l h := by
  obtain ⟨ta, pa, qa⟩ := ha
  obtain ⟨tl, pl, ql⟩ := hl
  obtain ⟨th, ph, qh⟩ := hh
  refine ⟨_, pe_slice sl_list pa pl ph, fun ι g ρ σ H Q sm ss hg => ?_⟩
  refine qa ι g ρ σ H _ sm ss ((hg.bnd sm).imp fun ι1 v g1 H1 f1 h1 x r1 => ?_)
  refine ql ι1 g1 ρ σ H1 _ f1.sim (ss.fut sm f1) ((h1.bnd f1.sim).imp fun ι2 l g2 H2 f2 h2 => ?_)
  have f12 := f1.trans sm f2
  refine qh ι2 g2 ρ σ H2 _ f2.sim (ss.fut sm f12) ((h2.bnd f2.sim).imp fun ι3 h g3 H3 f3 h3 => ?_)
  have f13 := f12.trans sm f3
  have r3 := f3.rv f2.sim (f2.rv f1.sim r1)
  obtain ⟨z, ez, q⟩ := h3.lookF
  unfold MP.slLV at ez
  split at ez
  · cases ez
    cases r3 with
    | frl hb hs => exact ⟨_, _, rfl, hb.sq, fun p hp => newL sm f13 (hs.cut l h) hp fun ι' H' f4 D ys => q ι' H' f4 D ys⟩
  · rename_i m
    split at ez
    · rename_i xs eg
      cases ez
      cases r3 with
      | loc hm =>
        obtain ⟨vs, rs, e3⟩ := f3.sim.obj m _ eg
        exact ⟨_, _, rfl, SqL.of e3, fun p hp => newL sm f13 (rs.cut l h) hp fun ι' H' f4 D ys => q ι' H' f4 D ys⟩
    · cases ez
  · cases ez
theorem SL.repL {a b : Expr} {fa : MSt → MP.M (List MV)} {fb : MSt → MP.M MV} {pos : Pos} (ha : SL S X W a fa) (hb : SE S X W b fb) : SL S X W (.BinOp a .Mult b pos) fun ρ => MP.bnd (fa ρ) fun xs => MP.bnd (fb ρ) fun w => match w with
    | .int k => if -(2 ^ 63) ≤ k ∧ k < 2 ^ 63 ∧ xs.length * k.toNat ≤ MP.SZ then MP.ret (List.replicate k.toNat xs).flatten else MP.nope
    | _ => MP.nope := by
  obtain ⟨ta, pa, qa⟩ := ha
  obtain ⟨tb, pb, qb⟩ := hb
  refine ⟨_, pe_op op_rep pa pb, fun ι g ρ σ H Q sm ss hg => ?_⟩
  refine qa ι g ρ σ H _ sm ss ((hg.bnd sm).imp fun ι1 xs g1 H1 f1 h1 D vs r1 eD _ oD => ?_)
  refine qb ι1 g1 ρ σ H1 _ f1.sim (ss.fut sm f1) ((h1.bnd f1.sim).imp fun ι2 w g2 H2 f2 h2 y r2 => ?_)
  cases r2 with
  | int j =>
    have h2 : Good S X.K W σ ι2 g2 H2 ((if -(2 ^ 63) ≤ j ∧ j < 2 ^ 63 ∧ xs.length * j.toNat ≤ MP.SZ then MP.ret (List.replicate j.toNat xs).flatten else MP.nope) g2) _ := h2
    rcases h2.ite with ⟨⟨b1, b2, b3⟩, h2⟩ | ⟨_, h2⟩
    · refine ⟨D, j, vs, rfl, rfl, f2.keep _ _ eD oD, b1, b2, by rw [← r1.length]; exact szle b3, fun p hp => ?_⟩
      exact newL sm (f1.trans sm f2) ((f2.rvs f1.sim r1).rep _) hp fun ι' H' f3 D ys => h2 ι' H' f3 D ys
    · exact h2.nope.elim
  | _ => exact h2.nope.elim
theorem SL.ofV (C : Cq S X k W) {x : Str} {y : Expr} {fa : MSt → MP.M MV} {p pos : Pos} (hx : bltB S.nm X.env.scope x (Str.ofString "list") = true) (ha : SE S X W y fa) (hn : notStar y = true) :
    SL S X W (.Call (.Name x p) [y] [] pos) fun ρ => MP.bnd (fa ρ) fun v => MP.look fun g => match v with
      | .tup xs => some xs
      | v => MP.lstAt g v := by
  obtain ⟨ta, pa, qa⟩ := ha
  obtain ⟨ex, h1, h2, h3, h4⟩ := blt_ok C.fc hx
  subst ex
  have pA : PA X [y] (tCons ta tNil) := pa_cons pa pa_nil (one_star hn)
  have hst : starEach [y] X.env = (false, eval y X.env) :: starEach [] X.env := one_star hn
  refine ⟨_, pe_callTy call_list_of h1 h2 (by decide +kernel) pA h4 h3 hst rfl, fun ι g ρ σ H Q sm ss hg => ?_⟩
  refine qa ι g ρ σ H _ sm ss ((hg.bnd sm).imp fun ι1 v g1 H1 f1 h1 x r1 => ?_)
  obtain ⟨z, ez, q⟩ := h1.lookF
  cases r1 with
  | tup hb hs =>
    cases ez
    exact ⟨_, _, rfl, .inr hb, fun p hp => newL sm f1 hs hp fun ι' H' f4 D ys => q ι' H' f4 D ys⟩
  | @loc l hl =>
    have ez : (match g1[l]? with
      | some (.lst xs) => some xs
      | _ => none) = some z := ez
    split at ez
    · rename_i xs eg
      cases ez
      obtain ⟨vs, rs, e3⟩ := f1.sim.obj l _ eg
      exact ⟨_, _, rfl, .inl (SqL.of e3), fun p hp => newL sm f1 rs hp fun ι' H' f4 D ys => q ι' H' f4 D ys⟩
    · cases ez
  | _ => cases ez
theorem rvs_range {K : PySem.W.Frag} {ι : Nat → Addr} {n : Nat} {H : Hp} (a : Int) : ∀ l : List Nat, RVs S K ι n H (l.map fun i => .int (a + (i : Nat))) (l.map fun i => V.int (a + (i : Nat)))
  | [] => .nil
  | _ :: r => .cons (.int _) (rvs_range a r)
theorem SL.rng1 (C : Cq S X k W) {x z : Str} {y : Expr} {fa : MSt → MP.M MV} {p p2 p3 pos : Pos} (hx : bltB S.nm X.env.scope x (Str.ofString "list") = true) (hz : bltB S.nm X.env.scope z (Str.ofString "range") = true) (ha : SE S X W y fa) (hn : notStar y = true) :
    SL S X W (.Call (.Name x p) [.Call (.Name z p2) [y] [] p3] [] pos) fun ρ => MP.bnd (fa ρ) fun v => match v with
      | .int j => if -(2 ^ 62) ≤ j ∧ j < 2 ^ 62 ∧ j.toNat ≤ 2 ^ 24 then MP.ret (MP.rangeL 0 j) else MP.nope
      | _ => MP.nope := by
  obtain ⟨ta, pa, qa⟩ := ha
  obtain ⟨ex, h1, h2, h3, h4⟩ := blt_ok C.fc hx
  obtain ⟨ez, z1, z2, z3, z4⟩ := blt_ok C.fc hz
  subst ex ez
  refine ⟨_, pe_listRg C.calm h1 h2 (prg_1 z1 z2 pa (star_of hn)) rfl, fun ι g ρ σ H Q sm ss hg => ?_⟩
  refine qa ι g ρ σ H _ sm ss ((hg.bnd sm).imp fun ι1 v g1 H1 f1 h1 x r1 => ?_)
  cases r1 with
  | int j =>
    have h1 : Good S X.K W σ ι1 g1 H1 ((if -(2 ^ 62) ≤ j ∧ j < 2 ^ 62 ∧ j.toNat ≤ 2 ^ 24 then MP.ret (MP.rangeL 0 j) else MP.nope) g1) _ := h1
    rcases h1.ite with ⟨⟨b1, b2, b3⟩, h1⟩ | ⟨_, h1⟩
    · refine ⟨j, rfl, ⟨by decide, by decide, b1, b2, by rw [Int.sub_zero]; exact b3⟩, fun p hp => ?_⟩
      exact newL sm f1 (rvs_range 0 _) hp fun ι' H' f4 D ys => h1 ι' H' f4 D ys
    · exact h1.nope.elim
  | _ => exact h1.nope.elim
end MPS
end
section
set_option Elab.async false
set_option linter.all false
set_option autoImplicit false
set_option maxRecDepth 100000
set_option maxHeartbeats 2000000
/-! 10: what is done with lists; tests. -/
namespace MPS
open PySem PySem.Spec L2
open PyProof.Rows hiding St
open MP (MV MO MH MSt Res)
variable {S : Sc} {X : Cx} {W : WX} {k : Nat}

section
variable {K : PySem.W.Frag} {ι : Nat → Addr} {n : Nat} {H : Hp}
theorem bools_ok : ∀ {xs : List MV} {vs : List V} {bs : List Bool}, RVs S K ι n H xs vs → MP.boolsOf xs = some bs → vs = bs.map V.bl
  | _, _, _, .nil, e => by cases e; rfl
  | x :: xs, _, bs, .cons h r, e => by
    cases h with
    | bl b =>
      obtain ⟨cs, e2, rfl⟩ := Option.map_eq_some_iff.mp (show (MP.boolsOf xs).map (b :: ·) = some bs from e)
      rw [bools_ok r e2]
      rfl
    | _ => cases e
theorem ints_ok : ∀ {xs : List MV} {vs : List V} {bs : List Int}, RVs S K ι n H xs vs → MP.intsOf xs = some bs → vs = bs.map V.int
  | _, _, _, .nil, e => by cases e; rfl
  | x :: xs, _, bs, .cons h r, e => by
    cases h with
    | int b =>
      obtain ⟨cs, e2, rfl⟩ := Option.map_eq_some_iff.mp (show (MP.intsOf xs).map (b :: ·) = some bs from e)
      rw [ints_ok r e2]
      rfl
    | _ => cases e
theorem strs_ok : ∀ {xs : List MV} {vs : List V} {bs : List Str}, RVs S K ι n H xs vs → MP.strsOf xs = some bs → vs = bs.map V.str
  | _, _, _, .nil, e => by cases e; rfl
  | x :: xs, _, bs, .cons h r, e => by
    cases h with
    | str b =>
      obtain ⟨cs, e2, rfl⟩ := Option.map_eq_some_iff.mp (show (MP.strsOf xs).map (b :: ·) = some bs from e)
      rw [strs_ok r e2]
      rfl
    | _ => cases e
end
theorem SE.tupL (C : Cq S X k W) {x : Str} {y : Expr} {fa : MSt → MP.M (List MV)} {p pos : Pos} (hx : bltB S.nm X.env.scope x (Str.ofString "tuple") = true) (ha : SL S X W y fa) (hn : notStar y = true) :
    SE S X W (.Call (.Name x p) [y] [] pos) fun ρ => MP.bnd (fa ρ) fun xs => MP.ret (.tup xs) := by
  obtain ⟨ta, pa, qa⟩ := ha
  obtain ⟨ex, h1, h2, h3, h4⟩ := blt_ok C.fc hx
  subst ex
  have pA : PA X [y] (tCons ta tNil) := pa_cons pa pa_nil (one_star hn)
  have hst : starEach [y] X.env = (false, eval y X.env) :: starEach [] X.env := one_star hn
  refine ⟨_, pe_callTy call_tuple_of h1 h2 (by decide +kernel) pA h4 h3 hst rfl, fun ι g ρ σ H Q sm ss hg => ?_⟩
  refine qa ι g ρ σ H _ sm ss ((hg.bnd sm).imp fun ι1 xs g1 H1 f1 h1 D vs r1 eD _ _ => ?_)
  refine ⟨D, vs, rfl, .inl ⟨SqL.of eD, fun p hp => ?_⟩⟩
  have f2 := Fut.new f1.sim (o := .tup vs) hp
  exact h1 ι1 _ f2 _ (.tup (SqT.of upd_same) (f2.rvs f1.sim r1))
theorem SE.allL (C : Cq S X k W) {x : Str} {y : Expr} {fa : MSt → MP.M (List MV)} {p pos : Pos} (hx : bltB S.nm X.env.scope x (Str.ofString "all") = true) (ha : SL S X W y fa) (hn : notStar y = true) :
    SE S X W (.Call (.Name x p) [y] [] pos) fun ρ => MP.bnd (fa ρ) fun xs => MP.bnd (MP.lift (MP.boolsOf xs)) fun bs => MP.ret (.bl (bs.all id)) := by
  obtain ⟨ta, pa, qa⟩ := ha
  obtain ⟨ex, h1, h2, h3, h4⟩ := blt_ok C.fc hx
  subst ex
  have pA : PA X [y] (tCons ta tNil) := pa_cons pa pa_nil (one_star hn)
  have hst : starEach [y] X.env = (false, eval y X.env) :: starEach [] X.env := one_star hn
  refine ⟨_, pe_callB (cr_all C.calm) h1 h2 (by decide +kernel) pA h4 h3 hst rfl, fun ι g ρ σ H Q sm ss hg => ?_⟩
  refine qa ι g ρ σ H _ sm ss ((hg.bnd sm).imp fun ι1 xs g1 H1 f1 h1 D vs r1 eD _ _ => ?_)
  obtain ⟨bs, eb, h2⟩ := (h1.bnd f1.sim).lift f1.sim
  rw [bools_ok r1 eb] at eD
  exact ⟨D, bs, rfl, SqL.of eD, h2.ret f1.sim _ (.bl _)⟩
theorem ST.allL (C : Cq S X k W) {x : Str} {y : Expr} {fa : MSt → MP.M (List MV)} {p pos : Pos} (hx : bltB S.nm X.env.scope x (Str.ofString "all") = true) (ha : SL S X W y fa) (hn : notStar y = true) :
    ST S X W (.Call (.Name x p) [y] [] pos) fun ρ => MP.bnd (fa ρ) fun xs => MP.bnd (MP.lift (MP.boolsOf xs)) fun bs => MP.ret (bs.all id) := by
  obtain ⟨ta, pa, qa⟩ := ha
  obtain ⟨ex, h1, h2, h3, h4⟩ := blt_ok C.fc hx
  subst ex
  have pA : PA X [y] (tCons ta tNil) := pa_cons pa pa_nil (one_star hn)
  have hst : starEach [y] X.env = (false, eval y X.env) :: starEach [] X.env := one_star hn
  refine ⟨_, pt_truth (pe_callB (cr_all C.calm) h1 h2 (by decide +kernel) pA h4 h3 hst rfl) (fun _ => rfl), fun ι g ρ σ H Q sm ss hg => ?_⟩
  refine qa ι g ρ σ H _ sm ss ((hg.bnd sm).imp fun ι1 xs g1 H1 f1 h1 D vs r1 eD _ _ => ?_)
  obtain ⟨bs, eb, h2⟩ := (h1.bnd f1.sim).lift f1.sim
  rw [bools_ok r1 eb] at eD
  exact ⟨D, bs, rfl, SqL.of eD, _, rfl, h2.ret f1.sim⟩
theorem SE.sumL (C : Cq S X k W) {x : Str} {y : Expr} {fa : MSt → MP.M (List MV)} {p pos : Pos} (hx : bltB S.nm X.env.scope x (Str.ofString "sum") = true) (ha : SL S X W y fa) (hn : notStar y = true) :
    SE S X W (.Call (.Name x p) [y] [] pos) fun ρ => MP.bnd (fa ρ) fun xs => MP.bnd (MP.lift (MP.intsOf xs)) fun is => MP.ret (.int is.sum) := by
  obtain ⟨ta, pa, qa⟩ := ha
  obtain ⟨ex, h1, h2, h3, h4⟩ := blt_ok C.fc hx
  subst ex
  have pA : PA X [y] (tCons ta tNil) := pa_cons pa pa_nil (one_star hn)
  have hst : starEach [y] X.env = (false, eval y X.env) :: starEach [] X.env := one_star hn
  refine ⟨_, pe_callB (cr_sum C.calm) h1 h2 (by decide +kernel) pA h4 h3 hst rfl, fun ι g ρ σ H Q sm ss hg => ?_⟩
  refine qa ι g ρ σ H _ sm ss ((hg.bnd sm).imp fun ι1 xs g1 H1 f1 h1 D vs r1 eD _ _ => ?_)
  obtain ⟨bs, eb, h2⟩ := (h1.bnd f1.sim).lift f1.sim
  rw [ints_ok r1 eb] at eD
  exact ⟨D, bs, rfl, SqL.of eD, h2.ret f1.sim _ (.int _)⟩
theorem SE.lenL (C : Cq S X k W) {x : Str} {y : Expr} {fa : MSt → MP.M (List MV)} {p pos : Pos} (hx : bltB S.nm X.env.scope x (Str.ofString "len") = true) (ha : SL S X W y fa) (hn : notStar y = true) :
    SE S X W (.Call (.Name x p) [y] [] pos) fun ρ => MP.bnd (fa ρ) fun xs => MP.ret (.int xs.length) := by
  obtain ⟨ta, pa, qa⟩ := ha
  obtain ⟨ex, h1, h2, h3, h4⟩ := blt_ok C.fc hx
  subst ex
  have pA : PA X [y] (tCons ta tNil) := pa_cons pa pa_nil (one_star hn)
  have hst : starEach [y] X.env = (false, eval y X.env) :: starEach [] X.env := one_star hn
  refine ⟨_, pe_callB call_len h1 h2 (by decide +kernel) pA h4 h3 hst rfl, fun ι g ρ σ H Q sm ss hg => ?_⟩
  refine qa ι g ρ σ H _ sm ss ((hg.bnd sm).imp fun ι1 xs g1 H1 f1 h1 D vs r1 eD _ _ => ?_)
  exact ⟨_, xs.length, rfl, .inl ⟨vs, SqL.of eD, r1.length⟩, h1.ret f1.sim _ (.int _)⟩
theorem sum_len (ss : List Str) : (ss.map fun x => x.length).sum = MP.lenSum ss := rfl
theorem SE.joinL {s l : Expr} {fs : MSt → MP.M MV} {fl : MSt → MP.M (List MV)} {nm : Str} {apos pos : Pos} (hnm : nm = Str.ofString "join") (hs : SE S X W s fs) (hl : SL S X W l fl) (hline : lineB apos pos = true) (hb : notSuper s = true) (hn : notStar l = true) :
    SE S X W (.Call (.Attribute s nm apos) [l] [] pos) fun ρ => MP.bnd (fs ρ) fun v => match v with
      | .str y => MP.bnd (fl ρ) fun xs => match MP.strsOf xs with
        | some ss => if MP.lenSum ss + ss.length * y.length ≤ MP.SZ then MP.ret (.str (MP.joinS y ss)) else MP.nope
        | none => MP.nope
      | _ => MP.nope := by
  subst hnm
  obtain ⟨ts, ps, qs⟩ := hs
  obtain ⟨tl, pl, ql⟩ := hl
  refine ⟨_, pe_join ps pl (one_star hn) (base_of hb) hline, fun ι g ρ σ H Q sm ss hg => ?_⟩
  refine qs ι g ρ σ H _ sm ss ((hg.bnd sm).imp fun ι1 v g1 H1 f1 h1 x r1 => ?_)
  cases r1 with
  | str y =>
    refine ⟨⟨y, rfl⟩, ?_⟩
    have h1 : Good S X.K W σ ι1 g1 H1 (MP.bnd (fl ρ) (fun xs => match MP.strsOf xs with
        | some ss => if MP.lenSum ss + ss.length * y.length ≤ MP.SZ then MP.ret (MV.str (MP.joinS y ss)) else MP.nope
        | none => MP.nope) g1) _ := h1
    refine ql ι1 g1 ρ σ H1 _ f1.sim (ss.fut sm f1) ((h1.bnd f1.sim).imp fun ι2 xs g2 H2 f2 h2 D vs r2 eD _ _ => ?_)
    cases ey : MP.strsOf xs with
    | some ys =>
      rw [ey] at h2
      have h2 : Good S X.K W σ ι2 g2 H2 ((if MP.lenSum ys + ys.length * y.length ≤ MP.SZ then MP.ret (MV.str (MP.joinS y ys)) else MP.nope) g2) _ := h2
      rcases h2.ite with ⟨hl, h2⟩ | ⟨_, h2⟩
      · rw [strs_ok r2 ey] at eD
        refine ⟨y, D, ys, rfl, rfl, .inl (SqL.of eD), hl, ?_⟩
        rw [TL.join_eq]
        exact h2.ret f2.sim _ (.str _)
      · exact h2.nope.elim
    | none =>
      rw [ey] at h2
      exact h2.elim
  | _ => exact h1.nope.elim
theorem SE.idxL {a i : Expr} {fa : MSt → MP.M (List MV)} {fi : MSt → MP.M MV} {pos : Pos} (ha : SL S X W a fa) (hi : SE S X W i fi) (hs : notSlice i = true) : SE S X W (.Subscript a i pos) fun ρ => MP.bnd (fa ρ) fun xs => MP.bnd (fi ρ) fun w => match w with
    | .int i => MP.lift (MP.atI xs i)
    | _ => MP.nope := by
  obtain ⟨ta, pa, qa⟩ := ha
  obtain ⟨tb, pb, qb⟩ := hi
  refine ⟨_, pe_ix ix_seq pa pb (ix_plain hs), fun ι g ρ σ H Q sm ss hg => ?_⟩
  refine qa ι g ρ σ H _ sm ss ((hg.bnd sm).imp fun ι1 xs g1 H1 f1 h1 D vs r1 eD _ oD => ?_)
  refine qb ι1 g1 ρ σ H1 _ f1.sim (ss.fut sm f1) ((h1.bnd f1.sim).imp fun ι2 w g2 H2 f2 h2 y r2 => ?_)
  cases r2 with
  | int j =>
    obtain ⟨z, ez, q⟩ := Good.lift f2.sim h2
    unfold MP.atI at ez
    obtain ⟨m, e1, e2⟩ := Option.bind_eq_some_iff.mp ez
    have r3 := f2.rvs f1.sim r1
    obtain ⟨u, h3, h4⟩ := r3.get e2
    refine .inl ⟨D, vs, j, u, rfl, rfl, SqL.of (f2.keep _ _ eD oD), ?_, q u h4⟩
    unfold L2.atI
    have e1' : L2.ixN vs.length j = some m := by rw [← r1.length]; exact e1
    rw [e1', Option.bind_some]
    exact h3
  | _ => exact h2.nope.elim

theorem Good.chg {β : Type} {K : PySem.W.Frag} {σ : St} {ι : Nat → Addr} {g : MH} {H : Hp} {F : MH → Option MH} {m : Unit → MP.M β} {Q : (Nat → Addr) → β → MH → Hp → Prop} (h : Good S K W σ ι g H (MP.bnd (MP.chg F) m g) Q) : ∃ g3, F g = some g3 ∧ Good S K W σ ι g H (m () g3) Q := by
  unfold MP.bnd MP.chg at h
  cases e : F g with
  | none =>
    rw [e] at h
    exact h.elim
  | some g3 =>
    rw [e] at h
    exact ⟨g3, rfl, h⟩
/-! ### append, extend, pop, {} -/
theorem few1 {e : Expr} {env : Env} {pos : Pos} (h : notStar e = true) : ((((backTo pos (starEach [e] env)).all fun x => !x.1) && (backToKw pos (keywordEach [] env)).all fun x => x.1.isSome) && decide (([e].length + ([] : List Keyword).length + if ([] : List Keyword).isEmpty = true then 0 else 1) < 30)) = true := by
  rw [back_all (by simpa using h)]
  rfl
theorem SE.app {o e : Expr} {fo fe : MSt → MP.M MV} {nm : Str} {apos pos : Pos} (hnm : nm = Str.ofString "append") (ho : SE S X W o fo) (he : SE S X W e fe) (hline : lineB apos pos = true) (hb : notSuper o = true) (hn : notStar e = true) :
    SE S X W (.Call (.Attribute o nm apos) [e] [] pos) fun ρ => MP.bnd (fo ρ) fun v => MP.bnd (MP.look fun g => MP.lstAt g v) fun _ => MP.bnd (fe ρ) fun w => MP.bnd (MP.chg (MP.appV v w)) fun _ => MP.ret .non := by
  subst hnm
  obtain ⟨to, po, qo⟩ := ho
  obtain ⟨te, pe, qe⟩ := he
  refine ⟨_, pe_bm F.plainAttrs_list F.slot_list_append F.type_list_append mt_append po (pa_cons pe pa_nil (one_star hn)) (base_of hb) (few1 hn) hline (one_star hn) rfl, fun ι g ρ σ H Q sm ss hg => ?_⟩
  refine qo ι g ρ σ H _ sm ss ((hg.bnd sm).imp fun ι1 v g1 H1 f1 h1 x r1 => ?_)
  obtain ⟨xs, ex, h2⟩ := (h1.bnd f1.sim).look f1.sim
  unfold MP.lstAt at ex
  split at ex
  · rename_i l
    split at ex
    · rename_i zs eg
      cases ex
      cases r1 with
      | loc hl =>
        obtain ⟨vs, rs, e3⟩ := f1.sim.obj l _ eg
        refine ⟨.inl ⟨rfl, vs, SqL.of e3⟩, ?_⟩
        refine qe ι1 g1 ρ σ H1 _ f1.sim (ss.fut sm f1) ((h2.bnd f1.sim).imp fun ι2 w g2 H2 f2 h3 y r2 => ?_)
        obtain ⟨g3, ea, h4⟩ := h3.chg
        replace ea : (match g2[l]? with
          | some (.lst xs) => if xs.length < MP.SZ then some (g2.set l (.lst (xs ++ [w]))) else none
          | _ => none) = some g3 := ea
        split at ea
        · rename_i ys eg2
          split at ea
          · rename_i hz
            cases ea
            obtain ⟨ws, rw2, e4⟩ := f2.sim.obj l _ eg2
            have hl2 : l < g2.length := (List.getElem?_eq_some_iff.mp eg2).1
            refine ⟨_, ws, y, ?_, rfl, e4, by rw [← rw2.length]; exact szlt hz, ?_⟩
            · rw [← f2.agree l hl]
            · have fw : Fut S X.K ι2 g2 H2 ι2 (g2.set l (.lst (ys ++ [w]))) (upd H2 (ι2 l) (.lst (ws ++ [y]))) := Fut.write f2.sim hl2 (.inl ⟨_, rfl⟩) fun H' eH m1 m2 => ⟨ws ++ [y], (m2 _ _ rw2).append (.cons (m1 _ _ r2) .nil), by rw [eH]; exact upd_same⟩
              exact h4 ι2 _ fw _ .non
          · cases ea
        · cases ea
    · cases ex
  · cases ex
theorem SE.ext {o e : Expr} {fo : MSt → MP.M MV} {fe : MSt → MP.M (List MV)} {nm : Str} {apos pos : Pos} (hnm : nm = Str.ofString "extend") (ho : SE S X W o fo) (he : SL S X W e fe) (hline : lineB apos pos = true) (hb : notSuper o = true) (hn : notStar e = true) :
    SE S X W (.Call (.Attribute o nm apos) [e] [] pos) fun ρ => MP.bnd (fo ρ) fun v => MP.bnd (MP.look fun g => MP.lstAt g v) fun _ => MP.bnd (fe ρ) fun ws => MP.bnd (MP.chg (MP.extV v ws)) fun _ => MP.ret .non := by
  subst hnm
  obtain ⟨to, po, qo⟩ := ho
  obtain ⟨te, pe, qe⟩ := he
  refine ⟨_, pe_bm F.plainAttrs_list F.slot_list_extend F.type_list_extend mt_extend po (pa_cons pe pa_nil (one_star hn)) (base_of hb) (few1 hn) hline (one_star hn) rfl, fun ι g ρ σ H Q sm ss hg => ?_⟩
  refine qo ι g ρ σ H _ sm ss ((hg.bnd sm).imp fun ι1 v g1 H1 f1 h1 x r1 => ?_)
  obtain ⟨xs, ex, h2⟩ := (h1.bnd f1.sim).look f1.sim
  unfold MP.lstAt at ex
  split at ex
  · rename_i l
    split at ex
    · rename_i zs eg
      cases ex
      cases r1 with
      | loc hl =>
        obtain ⟨vs, rs, e3⟩ := f1.sim.obj l _ eg
        refine ⟨.inl ⟨rfl, vs, SqL.of e3⟩, ?_⟩
        refine qe ι1 g1 ρ σ H1 _ f1.sim (ss.fut sm f1) ((h2.bnd f1.sim).imp fun ι2 w g2 H2 f2 h3 D us r2 eD _ _ => ?_)
        obtain ⟨g3, ea, h4⟩ := h3.chg
        replace ea : (match g2[l]? with
          | some (.lst xs) => if xs.length + w.length ≤ MP.SZ then some (g2.set l (.lst (xs ++ w))) else none
          | _ => none) = some g3 := ea
        split at ea
        · rename_i ys eg2
          split at ea
          · rename_i hz
            cases ea
            obtain ⟨ws, rw2, e4⟩ := f2.sim.obj l _ eg2
            have hl2 : l < g2.length := (List.getElem?_eq_some_iff.mp eg2).1
            refine ⟨_, D, ws, us, ?_, rfl, e4, eD, by rw [← rw2.length, ← r2.length]; exact szle hz, ?_⟩
            · rw [← f2.agree l hl]
            · have fw : Fut S X.K ι2 g2 H2 ι2 (g2.set l (.lst (ys ++ w))) (upd H2 (ι2 l) (.lst (ws ++ us))) := Fut.write f2.sim hl2 (.inl ⟨_, rfl⟩) fun H' eH m1 m2 => ⟨ws ++ us, (m2 _ _ rw2).append (m2 _ _ r2), by rw [eH]; exact upd_same⟩
              exact h4 ι2 _ fw _ .non
          · cases ea
        · cases ea
    · cases ex
  · cases ex
theorem SE.pop {o : Expr} {fo : MSt → MP.M MV} {nm : Str} {apos pos : Pos} (hnm : nm = Str.ofString "pop") (ho : SE S X W o fo) (hline : lineB apos pos = true) (hb : notSuper o = true) :
    SE S X W (.Call (.Attribute o nm apos) [] [] pos) fun ρ => MP.bnd (fo ρ) fun v => MP.popV v := by
  subst hnm
  obtain ⟨to, po, qo⟩ := ho
  refine ⟨_, pe_bm0 F.plainAttrs_list F.slot_list_pop F.type_list_pop mt_pop po (base_of hb) hline, fun ι g ρ σ H Q sm ss hg => ?_⟩
  refine qo ι g ρ σ H _ sm ss ((hg.bnd sm).imp fun ι1 v g1 H1 f1 h1 x r1 => ?_)
  unfold MP.popV at h1
  split at h1
  · rename_i l
    split at h1
    · rename_i ys eg
      split at h1
      · rename_i y ey
        cases r1 with
        | loc hl =>
          obtain ⟨vs, rs, e3⟩ := f1.sim.obj l _ eg
          obtain ⟨u, eu, ru⟩ := rs.get ey
          have eu' : vs[vs.length - 1]? = some u := by rw [← rs.length]; exact eu
          refine ⟨.inl ⟨rfl, vs, SqL.of e3⟩, _, vs, u, rfl, rfl, e3, eu', ?_⟩
          have fw : Fut S X.K ι1 g1 H1 ι1 (g1.set l (.lst ys.dropLast)) (upd H1 (ι1 l) (.lst vs.dropLast)) := Fut.write f1.sim hl (.inl ⟨_, rfl⟩) fun H' eH m1 m2 => ⟨vs.dropLast, m2 _ _ rs.dropLast, by rw [eH]; exact upd_same⟩
          exact h1 ι1 _ fw _ (fw.rv f1.sim ru)
      · exact h1.elim
    · exact h1.elim
  · exact h1.elim
theorem SE.dnew {pos : Pos} : SE S X W (.Dict [] [] pos) fun _ => MP.alloc (.dic []) := by
  refine ⟨_, pe_dnewK, fun ι g ρ σ H Q sm ss hg => ?_⟩
  intro p hp
  have fa : Fut S X.K ι g H _ (g ++ [.dic []]) (upd H p (.dK [])) := Fut.alloc sm hp (same_upd hp) ⟨_, upd_same⟩ fun ι' a1 a2 m1 m2 => ⟨[], upd_same, .nil⟩
  have hg : ∀ ι' H', Fut S X.K ι g H ι' (g ++ [.dic []]) H' → ∀ x, RV S X.K ι' (g ++ [MO.dic []]).length H' (.loc g.length) x → Q x H' := hg
  refine hg _ _ fa _ ?_
  have z : RV S X.K (fun l => if l = g.length then p else ι l) (g ++ [MO.dic []]).length (upd H p (.dK [])) (.loc g.length) (.ref ((fun l => if l = g.length then p else ι l) g.length)) := .loc (by simp)
  have e2 : (fun l => if l = g.length then p else ι l) g.length = p := if_pos rfl
  rw [e2] at z
  exact z

/-! ### tests -/
theorem ST.truth {e : Expr} {f : MSt → MP.M MV} (h : SE S X W e f) (he : ∀ whole, isTrue e X.env whole = (do let v ← whole; standAt e.pos; holding [v] (truthy v))) :
    ST S X W e fun ρ => MP.bnd (f ρ) fun v => MP.look fun g => MP.truth g v := by
  obtain ⟨ta, pa, qa⟩ := h
  refine ⟨_, pt_truth pa he, fun ι g ρ σ H Q sm ss hg => ?_⟩
  refine qa ι g ρ σ H _ sm ss ((hg.bnd sm).imp fun ι1 v g1 H1 f1 h1 x r1 => ?_)
  obtain ⟨b, eb, q⟩ := h1.look f1.sim
  exact ⟨b, truthM f1.sim r1 eb, q⟩
theorem ST.not_ {a : Expr} {fa : MSt → MP.M Bool} {pos : Pos} (ha : ST S X W a fa) : ST S X W (.UnaryOp .Not a pos) fun ρ => MP.bnd (fa ρ) fun k => MP.ret (!k) := by
  obtain ⟨ta, pa, qa⟩ := ha
  refine ⟨_, pt_not pa, fun ι g ρ σ H Q sm ss hg => ?_⟩
  exact qa ι g ρ σ H _ sm ss ((hg.bnd sm).imp fun ι1 b g1 H1 f1 h1 => h1.ret f1.sim)
/-- a test of a chain's rest -/
structure SW (S : Sc) (X : Cx) (W : WX) (e : Expr) (f : MSt → MP.M Bool) : Prop where
  ex : ∃ t : TT, PW X e t ∧ ∀ ι g ρ σ H Q, Sim S X.K ι g H → SimS S X.K ι g.length H ρ σ →
    Good S X.K W σ ι g H (f ρ g) (fun _ b _ H' => Q b H') → t σ H Q
theorem SW.t {e : Expr} {f : MSt → MP.M Bool} (h : SW S X W e f) : ST S X W e f := by
  obtain ⟨t, p, q⟩ := h
  exact ⟨t, p.pt, q⟩
theorem SW.and1 {a : Expr} {f : MSt → MP.M Bool} {pos : Pos} (h : ST S X W a f) : SW S X W (.BoolOp .And [a] pos) f := by
  obtain ⟨t, p, q⟩ := h
  exact ⟨t, pw_and1 p, q⟩
theorem SW.or1 {a : Expr} {f : MSt → MP.M Bool} {pos : Pos} (h : ST S X W a f) : SW S X W (.BoolOp .Or [a] pos) f := by
  obtain ⟨t, p, q⟩ := h
  exact ⟨t, pw_or1 p, q⟩
theorem SW.and_ {a y : Expr} {r : List Expr} {fa fb : MSt → MP.M Bool} {pos : Pos} (ha : ST S X W a fa) (hb : SW S X W (.BoolOp .And (y :: r) pos) fb) : SW S X W (.BoolOp .And (a :: y :: r) pos) fun ρ => MP.bnd (fa ρ) fun k => if k then fb ρ else MP.ret false := by
  obtain ⟨ta, pa, qa⟩ := ha
  obtain ⟨tb, pb, qb⟩ := hb
  refine ⟨_, pw_and pa pb, fun ι g ρ σ H Q sm ss hg => ?_⟩
  refine qa ι g ρ σ H _ sm ss ((hg.bnd sm).imp fun ι1 b g1 H1 f1 h1 => ?_)
  cases b with
  | true => exact qb ι1 g1 ρ σ H1 _ f1.sim (ss.fut sm f1) h1
  | false => exact Good.ret f1.sim h1
theorem SW.or_ {a y : Expr} {r : List Expr} {fa fb : MSt → MP.M Bool} {pos : Pos} (ha : ST S X W a fa) (hb : SW S X W (.BoolOp .Or (y :: r) pos) fb) : SW S X W (.BoolOp .Or (a :: y :: r) pos) fun ρ => MP.bnd (fa ρ) fun k => if k then MP.ret true else fb ρ := by
  obtain ⟨ta, pa, qa⟩ := ha
  obtain ⟨tb, pb, qb⟩ := hb
  refine ⟨_, pw_or pa pb, fun ι g ρ σ H Q sm ss hg => ?_⟩
  refine qa ι g ρ σ H _ sm ss ((hg.bnd sm).imp fun ι1 b g1 H1 f1 h1 => ?_)
  cases b with
  | true => exact Good.ret f1.sim h1
  | false => exact qb ι1 g1 ρ σ H1 _ f1.sim (ss.fut sm f1) h1
end MPS
end
section
set_option Elab.async false
set_option linter.all false
set_option autoImplicit false
set_option maxRecDepth 100000
set_option maxHeartbeats 2000000
/-! 11: enumerate of a tuple. -/
namespace MPS
open PySem PySem.Spec L2
open PyProof.Rows hiding St
open MP (MV MO MH MSt Res)
set_option maxHeartbeats 1000000 in
theorem meets_enum_one {v : Value} {o : Obj} {H : Heap → Prop} (B : Begins v o H) :
    Meets (Builtin.«enumerate.__new__» ⟨[.type "enumerate", v], []⟩) (fun _ R s => H s.heap ∧
      R (.ok (.ret (.ref (s.heap.push o).objs.size))) { s with heap := (s.heap.push o).push { cls := .type "enumerate", data := .fields #[.none, .bool false, .ref s.heap.objs.size, rawInt 0, .none, .none] } }) :=
  .of_wp fun prog w A R s h => by
    obtain ⟨hp, g, d, tk, os⟩ := s; obtain ⟨h1, h⟩ := h
    have hsub := sub_enumerate
    have q1 : ∀ {A' : Around} {E : Value → Shared → Prop} {Q : Value → Shared → Prop}, Q (.ref hp.objs.size) ⟨hp.push o, g, d, tk, os⟩ → wpAny (model prog w) A' (pyIter v) Q E ⟨hp, g, d, tk, os⟩ :=
      fun q => B.iter prog w _ _ ⟨hp, g, d, tk, os⟩ _ h1 q
    wp_walk using q1
    refine wpAny_stack_any fun st => wpAny_pure ?_
    split
    · rename_i c _ _ _ _ _
      cases (c == Value.type "enumerate")
      · wp_walk using q1
        exact ⟨_, rfl, h⟩
      · wp_walk using q1
        exact ⟨_, rfl, h⟩
    · wp_walk using q1
      exact ⟨_, rfl, h⟩
section
variable {prog : Program} {w : World} {A : Around} {E : Value → Shared → Prop} {s : Shared}
theorem enum_one {v : Value} {o : Obj} {H : Heap → Prop} {Q : Value → Shared → Prop} (B : Begins v o H) (h1 : H s.heap)
    (h : ∀ h', IsEnum h' (s.heap.objs.size + 1) s.heap.objs.size 0 .none → h'.get? s.heap.objs.size = some o → h'.objs.size = s.heap.objs.size + 2 →
      (∀ b o, s.heap.get? b = some o → h'.get? b = some o) → Q (.ref (s.heap.objs.size + 1)) { s with heap := h' }) :
    wpAny (model prog w) A (call (.type "enumerate") [v]) Q E s := by
  refine callType_new F.called_enumerate (by decide) (F.typeCall_enumerate_1 _) (F.newCall_enumerate_1 _) (fun obj => F.args_object_init_2 obj _) F.entry_enumerate_new
    (meets_enum_one B) ⟨h1, ?_⟩
  have hz : (s.heap.push o).objs.size = s.heap.objs.size + 1 := Heap.size_push ..
  show _ ∧ _
  rw [hz]
  have he : IsEnum ((s.heap.push o).push { cls := .type "enumerate", data := .fields #[.none, .bool false, .ref s.heap.objs.size, rawInt 0, .none, .none] }) (s.heap.objs.size + 1) s.heap.objs.size 0 .none := by
    have := Heap.get?_push_size (s.heap.push o) (o := { cls := .type "enumerate", data := .fields #[.none, .bool false, .ref s.heap.objs.size, rawInt 0, .none, .none] }) rfl
    rw [hz] at this; exact this
  refine ⟨⟨_, he, rfl⟩, h _ he (Heap.get?_push_of_some _ (Heap.get?_push_size _ B.free)) (by rw [Heap.size_push, hz]) fun b o x => Heap.get?_push_of_some _ (Heap.get?_push_of_some _ x)⟩
end
/-- the tuple at a, each item in a new pair -/
def ItE (K : PySem.W.Frag) (a : Addr) : It :=
  ⟨fun i H => ∃ (xs : List V) (x : V), SqT K H a xs ∧ xs[i]? = some x, fun i H v H' => ∃ T x, v = .ref T ∧ H T = none ∧ H' = upd H T (.tup [.int (i : Nat), x]) ∧ ∀ xs, SqT K H a xs → xs[i]? = some x, fun i H => ∃ xs : List V, SqT K H a xs ∧ xs.length ≤ i⟩
theorem turn_enumT {P : Program} {w : World} {K : PySem.W.Frag} {elts : List Expr} {kk : Nat} {tpos : Pos} (a e it : Addr) :
    Turn P w K (.Tuple elts kk tpos) (ItE K a) [e, it] e (fun i h => (∃ old, IsEnum h e it ((i : Nat) : Int) old) ∧ h.IsTupleIter it a i ∧ e ≠ it) where
  mem := by simp
  obj := fun i h st b hb => by
    obtain ⟨⟨old, he⟩, ⟨o, ho, hc, hd⟩, _⟩ := st
    have e' : b = e ∨ b = it := by simpa using hb
    rcases e' with z | z
    · rw [z]; exact ⟨_, he, fun v q => nomatch q⟩
    · rw [z]; exact ⟨o, ho, fun v q => by rw [hd] at q; cases q⟩
  keep := fun i h h' st k => let ⟨⟨old, he⟩, hi, hne⟩ := st; ⟨⟨old, k e (by simp) _ he⟩, hi.at fun o q => k it (by simp) o q, hne⟩
  item := by
    intro X hP hw hK hc i pins s σ H E I hf st hg
    subst hP hw hK
    obtain ⟨⟨old, he⟩, hit, hne⟩ := st
    obtain ⟨xs, x, hq, hx⟩ := hg
    obtain ⟨its, rv, p, hz⟩ := I.tuple hq
    obtain ⟨u, hu, ru⟩ := rv.get hx
    have hel : e < s.heap.objs.size := Heap.lt_size he
    have hil : it < s.heap.objs.size := by obtain ⟨_, q, _⟩ := hit; exact Heap.lt_size q
    have ha : e ≠ a := by
      rintro rfl
      obtain ⟨o, ho, hcl, _⟩ := p
      rw [he] at ho
      cases ho
      simp at hcl
    have hta : a ≠ it := by
      rintro rfl
      obtain ⟨o, ho, hcl, _⟩ := p
      obtain ⟨o2, ho2, hcl2, _⟩ := hit
      rw [ho] at ho2
      cases ho2
      rw [hcl] at hcl2
      simp at hcl2
    have hlt : i < its.length := by
      have := List.getElem?_eq_some_iff.mp hu
      exact this.1
    have D := Draws.tuple (prog := X.prog) (w := X.w) (A := X.A.in1) (I.ok.hd hc) it a hta its.toArray
    refine wpAny_pyNext_enum_itemD D he ⟨hit, p⟩ (by simpa using hlt) hne (by simp [hne, ha]) fun y h' tk hy ho ⟨hit', _⟩ hT hsz hk => ?_
    have ey : u = y := by
      have hy' : its.toArray[i]? = some y := hy
      rw [List.getElem?_toArray] at hy'
      rw [hu] at hy'
      exact Option.some.inj hy'
    subst ey
    refine ⟨_, rfl, wpAny_letOwnedTupleGo_enum (s := { s with heap := h', toks := tk + 1 }) ho fun h'' he' sb => ?_⟩
    have hT2 : h''.get? s.heap.objs.size = some { cls := .type "tuple", data := .seq #[.int i tk, u] } := (sb.2 _ (Nat.ne_of_gt hel)).trans hT
    have new : ObjOk X.prog X.w (upd H s.heap.objs.size (.tup [.int (i : Nat), x])) h'' s.heap.objs.size (.tup [.int (i : Nat), x]) :=
      ⟨by show 2 ≤ sizeLine; decide, [.int i tk, u], .cons ⟨_, rfl⟩ (.cons ru .nil), ⟨_, hT2, rfl, _, rfl⟩⟩
    have I1 : Inv X pins σ (upd H s.heap.objs.size (.tup [.int (i : Nat), x])) { s with heap := h'', toks := tk + 1 } :=
      I.turnedNew (ch := [e, it]) (fun b ob hb q => (sb.2 b (fun z => hb (by simp [z]))).trans (hk b ob (fun z => hb (by simp [z])) (fun z => hb (by simp [z])) q)) hf (Nat.le_refl _) new
    refine ⟨.ref s.heap.objs.size, _, I1, rfl, ⟨_, x, rfl, I.hok.fresh (Nat.le_refl _), rfl, fun ys hy => by rw [I.tuple_inj hy hq]; exact hx⟩, ⟨⟨u, ?_⟩, hit'.at fun o q => (sb.2 it (Ne.symm hne)).trans q, hne⟩, fun b hb => ?_⟩
    · have e1 : ((i + 1 : Nat) : Int) = (i : Int) + 1 := by omega
      rw [e1]; exact he'
    · have hb' : b < s.heap.objs.size := by
        have e' : b = e ∨ b = it := by simpa using hb
        rcases e' with z | z
        · rw [z]; exact hel
        · rw [z]; exact hil
      rw [upd_ne (Nat.ne_of_lt hb')]
      exact (hf b hb).1
  done := by
    intro X hP hw hK hc i pins s σ H E I hf st hg
    subst hP hw hK
    obtain ⟨⟨old, he⟩, hit, hne⟩ := st
    obtain ⟨xs, hq, hx⟩ := hg
    obtain ⟨its, rv, p, hz⟩ := I.tuple hq
    obtain ⟨f0, f1, f2, f3, f4, f5⟩ := hf it (by simp)
    have hl := rv.length
    have hT : s.TypeIs (.ref e) "enumerate" := ⟨_, he, rfl⟩
    unfold pyNext
    refine wpAny_bind (wpAny_attempt (wpAny_callSpecial?_slot (name := Str.ofString "__next__") hT F.slot_enumerate_next
      (wpAny_call_entry F.slot_enumerate_next hT F.entry_enumerate_next ?_ (F.args_enumerate_next_1 _))))
    show wpAny _ _ (field (.ref e) 2 >>= _) _ _ _
    refine wpAny_bind (wpAny_field he rfl (x := .ref it) rfl ?_)
    refine wpAny_bind (wpAny_nextOf_tuple_end (A := X.A.in1) (I.ok.hd hc) hit p (by simp; omega) fun h' x he' hx' => ?_)
    obtain ⟨o, ho, hcl⟩ := hx'
    refine wpAny_bind (wpAny_isInstance (T := "StopIteration") (b := true) ⟨o, ho, hcl⟩ isSubtype_stop ?_)
    exact wpAny_pure ⟨rfl, I.turned (t' := s.toks) (fun b o hb q => he' b o hb q) f0 f1 f3 f4 f5⟩
  self := fun A i s Q E st h => let ⟨⟨_, he⟩, _⟩ := st; wpAny_pyIter_enum he h
def iEnumT (K : PySem.W.Frag) (ta : TA) : TI := fun σ H R => ta σ H fun vs H1 => ∃ a xs, vs = [.ref a] ∧ SqT K H1 a xs ∧ R (ItE K a) H1
theorem pi_enumT {X : Cx} {e : Expr} {ta : TA} {p pos tpos : Pos} {elts : List Expr} {kk : Nat} (hg : Gl X "enumerate") (hm : X.mg "enumerate" = none) (ha : PA X [e] ta) (hs : starEach [e] X.env = [(false, eval e X.env)]) :
    PI X (.Tuple elts kk tpos) (.Call (.Name "enumerate" p) [e] [] pos) (iEnumT X.K ta) := by
  refine ⟨fun pins s σ H R I h => ?_⟩
  refine Call_ (ld_blt I hg hm boot_enumerate (PyProof.Rows.callWith_type1 (thn (ha.run pos pins s σ H _ I h) fun us s1 ⟨vs, H1, I1, r1, q1⟩ => ?_) hs rfl))
  obtain ⟨a, xs, ex, hq, q⟩ := q1
  subst ex
  cases r1 with
  | cons r rr =>
    cases rr
    cases r
    obtain ⟨its, rv, p', hz⟩ := I1.tuple hq
    refine enum_one (begins_tuple a its.toArray) p' fun h' he hit hsz hk => wpAny_pyIter_enum he ?_
    have hti : h'.IsTupleIter s1.heap.objs.size a 0 := ⟨_, hit, rfl, rfl⟩
    have I2 : Inv X pins σ H1 { s1 with heap := h' } := I1.kept (t' := s1.toks) hk
    refine ⟨s1.heap.objs.size + 1, [s1.heap.objs.size + 1, s1.heap.objs.size], _, _, H1, rfl, I2, turn_enumT a (s1.heap.objs.size + 1) s1.heap.objs.size, ⟨⟨.none, he⟩, hti, Nat.succ_ne_self _⟩, fun b hb => ?_, q⟩
    have e' : b = s1.heap.objs.size + 1 ∨ b = s1.heap.objs.size := by simpa using hb
    have hle : s1.heap.objs.size ≤ b := by
      rcases e' with z | z
      · rw [z]; exact Nat.le_add_right _ _
      · rw [z]; exact Nat.le_refl _
    exact I1.fpOk hle (I1.hok.fresh hle)
end MPS
end
section
set_option Elab.async false
set_option linter.all false
set_option autoImplicit false
set_option maxRecDepth 100000
set_option maxHeartbeats 2000000
/-! 12: targets, iterators, comprehensions. -/
namespace MPS
open PySem PySem.Spec L2
open PyProof.Rows hiding St
open MP (MV MO MH MSt Res G)
variable {S : Sc} {X : Cx} {W : WX} {k : Nat}

/-! ### targets -/
theorem wipe_get {σ : St} {j : Nat} : ∀ {vs : List Nat}, (L2.wipe σ vs)[j]? = if j ∈ vs then (σ[j]?).map fun _ => none else σ[j]?
  | [] => by simp [L2.wipe]
  | v :: vs => by
    unfold L2.wipe
    by_cases h : v = j
    · subst h
      rw [if_pos List.mem_cons_self]
      by_cases hv : v < σ.length
      · rw [List.getElem?_set_self (by rw [wipe_length]; exact hv), List.getElem?_eq_getElem hv]
        rfl
      · rw [List.getElem?_eq_none (by rw [List.length_set, wipe_length]; omega), List.getElem?_eq_none (Nat.not_lt.mp hv)]
        rfl
    · rw [List.getElem?_set_ne h, wipe_get (vs := vs)]
      by_cases hj : j ∈ vs
      · rw [if_pos hj, if_pos (List.mem_cons_of_mem _ hj)]
      · rw [if_neg hj, if_neg]
        intro hm
        rcases List.mem_cons.mp hm with e | e
        · exact h e.symm
        · exact hj e
theorem wipe_set {σ : St} {i : Nat} {o : Option V} {vs : List Nat} (h : i ∈ vs) : L2.wipe (σ.set i o) vs = L2.wipe σ vs := by
  apply List.ext_getElem?
  intro j
  rw [wipe_get, wipe_get]
  by_cases hj : j ∈ vs
  · rw [if_pos hj, if_pos hj]
    by_cases e : i = j
    · subst e
      by_cases hi : i < σ.length
      · rw [List.getElem?_set_self hi, List.getElem?_eq_getElem hi]
        rfl
      · rw [List.getElem?_eq_none (by simpa using hi), List.getElem?_eq_none (by simpa using hi)]
    · rw [List.getElem?_set_ne e]
  · rw [if_neg hj, if_neg hj, List.getElem?_set_ne (fun e : i = j => hj (by rw [← e]; exact h))]
theorem wipe_wipe {σ : St} {vs : List Nat} : L2.wipe (L2.wipe σ vs) vs = L2.wipe σ vs := by
  apply List.ext_getElem?
  intro j
  rw [wipe_get, wipe_get]
  by_cases hj : j ∈ vs
  · rw [if_pos hj, if_pos hj]
    cases σ[j]? <;> rfl
  · rw [if_neg hj, if_neg hj]
/-- a target -/
structure SG (S : Sc) (X : Cx) (tg : Expr) (sl : List Nat) (f : MV → MSt → Option MSt) : Prop where
  ex : ∃ t : TG, PG X tg t ∧ ∀ ι g ρ ρ' σ H v x Q, Sim S X.K ι g H → SimS S X.K ι g.length H ρ σ → RV S X.K ι g.length H v x → f v ρ = some ρ' →
    (∀ σ', SimS S X.K ι g.length H ρ' σ' → (∀ vs, (∀ i ∈ sl, i ∈ vs) → L2.wipe σ' vs = L2.wipe σ vs) → Q σ' H) → t x σ H Q
structure SGs (S : Sc) (X : Cx) (tgs : List Expr) (sl : List Nat) (f : List MV → MSt → Option MSt) : Prop where
  len : ∀ vs ρ ρ', f vs ρ = some ρ' → vs.length = tgs.length
  ex : ∃ t : TGs, PGs X tgs t ∧ ∀ ι g ρ ρ' σ H vs xs Q, Sim S X.K ι g H → SimS S X.K ι g.length H ρ σ → RVs S X.K ι g.length H vs xs → f vs ρ = some ρ' →
    (∀ σ', SimS S X.K ι g.length H ρ' σ' → (∀ vs, (∀ i ∈ sl, i ∈ vs) → L2.wipe σ' vs = L2.wipe σ vs) → Q σ' H) → t xs σ H Q
theorem store_ok' {N : List Str} {sc : Scope} {fnB : Str → Bool} {i : Nat} {x : Str} (h : storeB N sc fnB i x = true) : N[i]? = some x ∧ Loc sc x ∧ (fnB x = true ∨ sc.names.lookup x = some .local) := by
  unfold storeB at h
  simp only [Bool.and_eq_true, decide_eq_true_eq] at h
  obtain ⟨⟨h1, _⟩, h2⟩ := h
  split at h2
  · rename_i e
    exact ⟨h1, .inl e, .inr e⟩
  · rename_i e
    exact ⟨h1, .inr e, .inl h2⟩
  · cases h2
theorem SG.nm (C : Cq S X k W) {i : Nat} {x : Str} {pos : Pos} (h : storeB X.N X.env.scope X.fn i x = true) : SG S X (.Name x pos) [i] fun v ρ => some (ρ.set i (some v)) := by
  obtain ⟨h1, h2, h3⟩ := store_ok' h
  refine ⟨_, pg_name C.nd h1 h2 h3, fun ι g ρ ρ' σ H v x Q sm ss r e hQ => ?_⟩
  cases e
  exact hQ _ (ss.set r i) fun vs hvs => wipe_set (hvs i (by simp))
theorem asg_len {env : Env} : ∀ {es : List Expr}, (∀ e ∈ es, notStar e = true) → (assignEach es env).length = es.length ∧ (assignEach es env).findIdx? (·.1) = none
  | [], _ => ⟨rfl, rfl⟩
  | e :: es, h => by
    have hx : assignEach (e :: es) env = (false, assign e env) :: assignEach es env := by
      have := h e List.mem_cons_self
      cases e <;> first
        | rfl
        | exact absurd this Bool.false_ne_true
    obtain ⟨h1, h2⟩ := asg_len (env := env) (es := es) fun y hy => h y (List.mem_cons_of_mem _ hy)
    rw [hx]
    refine ⟨by rw [List.length_cons, List.length_cons, h1], ?_⟩
    rw [List.findIdx?_cons, h2]
    rfl
theorem SG.tup (C : Cq S X k W) {es : List Expr} {sl : List Nat} {f : List MV → MSt → Option MSt} {j : Nat} {pos : Pos} (h : SGs S X es sl f) (hn : ∀ e ∈ es, notStar e = true) : SG S X (.Tuple es j pos) sl fun v ρ => match v with
    | .tup xs => f xs ρ
    | _ => none := by
  obtain ⟨hl, t, p, q⟩ := h
  obtain ⟨a1, a2⟩ := asg_len (env := X.env) hn
  refine ⟨_, pg_tup C.calm p a1 a2, fun ι g ρ ρ' σ H v x Q sm ss r e hQ => ?_⟩
  cases r with
  | tup ha hr =>
    have e : f _ ρ = some ρ' := e
    exact ⟨_, _, rfl, ha, by rw [← hr.length, hl _ _ _ e], q ι g ρ ρ' σ H _ _ Q sm ss hr e hQ⟩
  | _ => cases e
theorem SGs.nil : SGs S X [] [] fun vs ρ => match vs with
    | [] => some ρ
    | _ :: _ => none := by
  refine ⟨fun vs ρ ρ' e => ?_, _, pgs_nil, fun ι g ρ ρ' σ H vs xs Q sm ss r e hQ => ?_⟩
  · cases vs with
    | nil => rfl
    | cons _ _ => cases e
  · cases r with
    | nil =>
      cases e
      exact ⟨rfl, hQ σ ss fun _ _ => rfl⟩
    | cons _ _ => cases e
theorem SGs.cons {e : Expr} {es : List Expr} {s1 s2 : List Nat} {f : MV → MSt → Option MSt} {fs : List MV → MSt → Option MSt} (h1 : SG S X e s1 f) (h2 : SGs S X es s2 fs) (hn : notStar e = true) : SGs S X (e :: es) (s1 ++ s2) fun vs ρ => match vs with
    | v :: vs => match f v ρ with
      | some ρ' => fs vs ρ'
      | none => none
    | [] => none := by
  obtain ⟨t1, p1, q1⟩ := h1
  obtain ⟨hl, t2, p2, q2⟩ := h2
  have hx : (assignEach (e :: es) X.env).map (·.2) = assign e X.env :: (assignEach es X.env).map (·.2) := by
    cases e <;> first
      | rfl
      | exact absurd hn Bool.false_ne_true
  refine ⟨fun vs ρ ρ' e => ?_, _, pgs_cons p1 p2 hx, fun ι g ρ ρ' σ H vs xs Q sm ss r e hQ => ?_⟩
  · cases vs with
    | nil => cases e
    | cons v vs =>
      have e : (match f v ρ with
        | some ρ' => fs vs ρ'
        | none => none) = some ρ' := e
      split at e
      · rw [List.length_cons, List.length_cons, hl _ _ _ e]
      · cases e
  · cases r with
    | nil => cases e
    | @cons v x vs xs rv rvs =>
      have e : (match f v ρ with
        | some ρ' => fs vs ρ'
        | none => none) = some ρ' := e
      split at e
      · rename_i ρ1 e1
        refine ⟨x, xs, rfl, ?_⟩
        refine q1 ι g ρ ρ1 σ H v x _ sm ss rv e1 fun σ1 ss1 w1 => ?_
        exact q2 ι g ρ1 ρ' σ1 H vs xs Q sm ss1 rvs e fun σ2 ss2 w2 => hQ σ2 ss2 fun us hus => by
          rw [w2 us fun i hi => hus i (List.mem_append_right _ hi), w1 us fun i hi => hus i (List.mem_append_left _ hi)]
      · cases e

/-! ### iterators -/
/-- what an iterator of the small language stands for -/
def RIt (S : Sc) (K : PySem.W.Frag) (ι : Nat → Addr) (g : MH) (H : Hp) (m : MP.MIt) (J : It) : Prop := ∀ ι' g' H', Fut S K ι g H ι' g' H' → ∀ i,
  (m.item i g' = some none → J.stop i H') ∧ ∀ v, m.item i g' = some (some v) → J.go i H' ∧ ∀ x H'', J.yld i H' x H'' → Fut S K ι' g' H' ι' g' H'' ∧ RV S K ι' g'.length H'' v x
/-- an iterable -/
structure SI (S : Sc) (X : Cx) (W : WX) (tg it : Expr) (f : MSt → MP.M MP.MIt) : Prop where
  ex : ∃ wi : TI, PI X tg it wi ∧ ∀ ι g ρ σ H R, Sim S X.K ι g H → SimS S X.K ι g.length H ρ σ →
    Good S X.K W σ ι g H (f ρ g) (fun ι' m g' H' => ∀ J, RIt S X.K ι' g' H' m J → R J H') → wi σ H R
theorem rit_tup {K : PySem.W.Frag} {ι : Nat → Addr} {g : MH} {H : Hp} {xs : List MV} {vs : List V} {a : Addr} (sm : Sim S K ι g H) (ha : SqT K H a vs) (r : RVs S K ι g.length H xs vs) : RIt S K ι g H (.seq xs) (Itt K a) := by
  intro ι' g' H' f i
  have r' := f.rvs sm r
  have ha' := f.tup sm ha
  refine ⟨fun e => ⟨vs, ha', ?_⟩, fun v e => ?_⟩
  · have e : xs[i]? = none := Option.some.inj e
    rw [← r.length]
    exact List.getElem?_eq_none_iff.mp e
  · have e : xs[i]? = some v := Option.some.inj e
    obtain ⟨x, h1, h2⟩ := r'.get e
    refine ⟨⟨vs, x, ha', h1⟩, fun y H'' ⟨eH, hy⟩ => ?_⟩
    subst eH
    have := hy vs ha'
    rw [h1] at this
    cases this
    exact ⟨Fut.refl f.sim, h2⟩
theorem rit_frl {K : PySem.W.Frag} {ι : Nat → Addr} {g : MH} {H : Hp} {xs : List MV} {vs : List V} {a : Addr} (sm : Sim S K ι g H) (ha : FzL K H a vs) (r : RVs S K ι g.length H xs vs) : RIt S K ι g H (.seq xs) (Itl K a) := by
  intro ι' g' H' f i
  have r' := f.rvs sm r
  have ha' := (f.frl sm ha).sq
  refine ⟨fun e => ⟨vs, ha', ?_⟩, fun v e => ?_⟩
  · have e : xs[i]? = none := Option.some.inj e
    rw [← r.length]
    exact List.getElem?_eq_none_iff.mp e
  · have e : xs[i]? = some v := Option.some.inj e
    obtain ⟨x, h1, h2⟩ := r'.get e
    refine ⟨⟨vs, x, ha', h1⟩, fun y H'' ⟨eH, hy⟩ => ?_⟩
    subst eH
    have := hy vs ha'
    rw [h1] at this
    cases this
    exact ⟨Fut.refl f.sim, h2⟩
/-- a list that nothing of the small heap is -/
theorem rit_own {K : PySem.W.Frag} {ι : Nat → Addr} {g : MH} {H : Hp} {xs : List MV} {vs : List V} {a : Addr} (sm : Sim S K ι g H) (ha : H a = some (.lst vs)) (ho : Out ι g a) (r : RVs S K ι g.length H xs vs) : RIt S K ι g H (.seq xs) (Itl K a) := by
  intro ι' g' H' f i
  have r' := f.rvs sm r
  have ha' : SqL K H' a vs := SqL.of (f.keep _ _ ha ho)
  refine ⟨fun e => ⟨vs, ha', ?_⟩, fun v e => ?_⟩
  · have e : xs[i]? = none := Option.some.inj e
    rw [← r.length]
    exact List.getElem?_eq_none_iff.mp e
  · have e : xs[i]? = some v := Option.some.inj e
    obtain ⟨x, h1, h2⟩ := r'.get e
    refine ⟨⟨vs, x, ha', h1⟩, fun y H'' ⟨eH, hy⟩ => ?_⟩
    subst eH
    have := hy vs ha'
    rw [h1] at this
    cases this
    exact ⟨Fut.refl f.sim, h2⟩
theorem rit_loc {K : PySem.W.Frag} {ι : Nat → Addr} {g : MH} {H : Hp} {l : Nat} (hl : l < g.length) : RIt S K ι g H (.lst l) (Itl K (ι l)) := by
  intro ι' g' H' f i
  have hx : ∀ xs, g'[l]? = some (.lst xs) → ∃ vs, RVs S K ι' g'.length H' xs vs ∧ H' (ι l) = some (.lst vs) := fun xs e => by
    obtain ⟨vs, r, e3⟩ := f.sim.obj l _ e
    rw [f.agree l hl] at e3
    exact ⟨vs, r, e3⟩
  refine ⟨fun e => ?_, fun v e => ?_⟩
  · have e : (match g'[l]? with
      | some (.lst xs) => some xs[i]?
      | _ => none) = some none := e
    split at e
    · rename_i xs eg
      obtain ⟨vs, r, e3⟩ := hx xs eg
      refine ⟨vs, SqL.of e3, ?_⟩
      rw [← r.length]
      exact List.getElem?_eq_none_iff.mp (Option.some.inj e)
    · cases e
  · have e : (match g'[l]? with
      | some (.lst xs) => some xs[i]?
      | _ => none) = some (some v) := e
    split at e
    · rename_i xs eg
      obtain ⟨vs, r, e3⟩ := hx xs eg
      obtain ⟨x, h1, h2⟩ := r.get (Option.some.inj e)
      refine ⟨⟨vs, x, SqL.of e3, h1⟩, fun y H'' ⟨eH, hy⟩ => ?_⟩
      subst eH
      have := hy vs (SqL.of e3)
      rw [h1] at this
      cases this
      exact ⟨Fut.refl f.sim, h2⟩
    · cases e
theorem rit_str {K : PySem.W.Frag} {ι : Nat → Addr} {g : MH} {H : Hp} {z : Str} : RIt S K ι g H (.seq (MP.charsOf z)) (Its z) := by
  intro ι' g' H' f i
  refine ⟨fun e => ?_, fun v e => ?_⟩
  · have e : (MP.charsOf z)[i]? = none := Option.some.inj e
    unfold MP.charsOf at e
    have := List.getElem?_eq_none_iff.mp e
    rw [List.length_map, Array.length_toList] at this
    exact this
  · have e : (MP.charsOf z)[i]? = some v := Option.some.inj e
    unfold MP.charsOf at e
    rw [List.getElem?_map] at e
    obtain ⟨c, hc, rfl⟩ := Option.map_eq_some_iff.mp e
    rw [Array.getElem?_toList] at hc
    refine ⟨(Array.getElem?_eq_some_iff.mp hc).1, fun y H'' ⟨eH, d, hd, ey⟩ => ?_⟩
    subst eH ey
    rw [hc] at hd
    cases hd
    exact ⟨Fut.refl f.sim, .str _⟩
theorem rit_rng {K : PySem.W.Frag} {ι : Nat → Addr} {g : MH} {H : Hp} {a b : Int} : RIt S K ι g H (.seq (MP.rangeL a b)) (Itr a (b - a).toNat) := by
  intro ι' g' H' f i
  refine ⟨fun e => ?_, fun v e => ?_⟩
  · have e : (MP.rangeL a b)[i]? = none := Option.some.inj e
    unfold MP.rangeL at e
    have := List.getElem?_eq_none_iff.mp e
    rw [List.length_map, List.length_range] at this
    exact this
  · have e : (MP.rangeL a b)[i]? = some v := Option.some.inj e
    unfold MP.rangeL at e
    rw [List.getElem?_map] at e
    obtain ⟨c, hc, rfl⟩ := Option.map_eq_some_iff.mp e
    obtain ⟨h1, h2⟩ := List.getElem?_eq_some_iff.mp hc
    rw [List.getElem_range] at h2
    rw [List.length_range] at h1
    subst h2
    refine ⟨h1, fun y H'' ⟨eH, ey⟩ => ?_⟩
    subst eH ey
    exact ⟨Fut.refl f.sim, .int _⟩
theorem rit_enum {K : PySem.W.Frag} {ι : Nat → Addr} {g : MH} {H : Hp} {xs : List MV} {vs : List V} {a : Addr} (sm : Sim S K ι g H) (ha : SqT K H a vs) (r : RVs S K ι g.length H xs vs) : RIt S K ι g H (.enum (.seq xs)) (ItE K a) := by
  intro ι' g' H' f i
  have r' := f.rvs sm r
  have ha' := f.tup sm ha
  refine ⟨fun e => ⟨vs, ha', ?_⟩, fun v e => ?_⟩
  · have e : (xs[i]?).map (fun v => MV.tup [.int i, v]) = none := Option.some.inj e
    rw [← r.length]
    exact List.getElem?_eq_none_iff.mp (Option.map_eq_none_iff.mp e)
  · have e : (xs[i]?).map (fun v => MV.tup [.int i, v]) = some v := Option.some.inj e
    obtain ⟨u, eu, rfl⟩ := Option.map_eq_some_iff.mp e
    obtain ⟨x, h1, h2⟩ := r'.get eu
    refine ⟨⟨vs, x, ha', h1⟩, fun y H'' ⟨T, z, ey, hT, eH, hy⟩ => ?_⟩
    subst eH ey
    have := hy vs ha'
    rw [h1] at this
    cases this
    have f2 := Fut.new f.sim (o := .tup [.int (i : Nat), x]) hT
    exact ⟨f2, .tup (SqT.of upd_same) (.cons (.int _) (.cons (f2.rv f.sim h2) .nil))⟩
end MPS
end
section
set_option Elab.async false
set_option linter.all false
set_option autoImplicit false
set_option maxRecDepth 100000
set_option maxHeartbeats 2000000
/-! 13: iterables, comprehensions. -/
namespace MPS
open PySem PySem.Spec L2
open PyProof.Rows hiding St
open MP (MV MO MH MSt Res G)
variable {S : Sc} {X : Cx} {W : WX} {k : Nat}

def iAny (K : PySem.W.Frag) (tl : TE) : TI := fun σ H R => tl σ H fun x H1 => (∃ a, x = .ref a ∧ (∃ xs, SqL K H1 a xs) ∧ R (Itl K a) H1) ∨ (∃ a, x = .ref a ∧ (∃ xs, SqT K H1 a xs) ∧ R (Itt K a) H1) ∨ ∃ z, x = .str z ∧ R (Its z) H1
theorem pi_any {tg l : Expr} {tl : TE} (hl : PE X l tl) : PI X tg l (iAny X.K tl) := by
  refine ⟨fun pins s σ H R I h => ?_⟩
  refine thn (hl.run pins s σ H _ I h) fun v s1 ⟨x, H1, I1, r1, q1⟩ => ?_
  rcases q1 with ⟨a, e, ⟨xs, hq⟩, q⟩ | ⟨a, e, ⟨xs, hq⟩, q⟩ | ⟨z, e, q⟩
  · subst e
    cases r1
    obtain ⟨its, rv, p, hz⟩ := I1.list hq
    exact wpAny_pyIter_list p.isList (pi_one (tk := s1.toks) I1 _ (turn_list a _) ⟨_, Heap.get?_push_size _ rfl, rfl, rfl⟩ q)
  · subst e
    cases r1
    obtain ⟨its, rv, p, hz⟩ := I1.tuple hq
    exact wpAny_pyIter_tuple (show s1.heap.IsTuple a its.toArray from p) (pi_one (tk := s1.toks) I1 _ (turn_tuple a _) ⟨_, Heap.get?_push_size _ rfl, rfl, rfl⟩ q)
  · subst e
    obtain ⟨t, rfl⟩ := r1
    cases ha : z.cps.all (· < 128)
    · exact wpAny_pyIter_wide ha (pi_one (tk := s1.toks) I1 _ (turn_str _ z t "str_iterator" (.inr rfl)) ⟨_, Heap.get?_push_size _ rfl, rfl, rfl⟩ q)
    · exact wpAny_pyIter_ascii ha (pi_one (tk := s1.toks) I1 _ (turn_str _ z t "str_ascii_iterator" (.inl rfl)) ⟨_, Heap.get?_push_size _ rfl, rfl, rfl⟩ q)
theorem SI.val {tg e : Expr} {fa : MSt → MP.M MV} (ha : SE S X W e fa) : SI S X W tg e fun ρ => MP.bnd (fa ρ) fun v => MP.look fun g => MP.itOf g v := by
  obtain ⟨ta, pa, qa⟩ := ha
  refine ⟨_, pi_any pa, fun ι g ρ σ H R sm ss hg => ?_⟩
  refine qa ι g ρ σ H _ sm ss ((hg.bnd sm).imp fun ι1 v g1 H1 f1 h1 x r1 => ?_)
  obtain ⟨m, em, q⟩ := h1.look f1.sim
  cases r1 with
  | tup hb hs =>
    cases em
    exact .inr (.inl ⟨_, rfl, ⟨_, hb⟩, q _ (rit_tup f1.sim hb hs)⟩)
  | frl hb hs =>
    cases em
    exact .inl ⟨_, rfl, ⟨_, hb.sq⟩, q _ (rit_frl f1.sim hb hs)⟩
  | str z =>
    cases em
    exact .inr (.inr ⟨z, rfl, q _ rit_str⟩)
  | @loc l hl =>
    have em : (match g1[l]? with
      | some (.lst _) => some (MP.MIt.lst l)
      | _ => none) = some m := em
    split at em
    · rename_i xs eg
      cases em
      obtain ⟨vs, rs, e3⟩ := f1.sim.obj l _ eg
      exact .inl ⟨_, rfl, ⟨_, SqL.of e3⟩, q _ (rit_loc hl)⟩
    · cases em
  | _ => cases em
theorem SI.lst {tg e : Expr} {fa : MSt → MP.M (List MV)} (ha : SL S X W e fa) : SI S X W tg e fun ρ => MP.bnd (fa ρ) fun xs => MP.ret (.seq xs) := by
  obtain ⟨ta, pa, qa⟩ := ha
  refine ⟨_, pi_any pa, fun ι g ρ σ H R sm ss hg => ?_⟩
  refine qa ι g ρ σ H _ sm ss ((hg.bnd sm).imp fun ι1 xs g1 H1 f1 h1 D vs r1 eD _ oD => ?_)
  exact .inl ⟨D, rfl, ⟨_, SqL.of eD⟩, h1.ret f1.sim _ (rit_own f1.sim eD oD r1)⟩
theorem SI.rng1 (C : Cq S X k W) {tg : Expr} {x : Str} {y : Expr} {fa : MSt → MP.M MV} {p pos : Pos} (hx : bltB S.nm X.env.scope x (Str.ofString "range") = true) (ha : SE S X W y fa) (hn : notStar y = true) :
    SI S X W tg (.Call (.Name x p) [y] [] pos) fun ρ => MP.bnd (fa ρ) fun v => match v with
      | .int j => if -(2 ^ 62) ≤ j ∧ j < 2 ^ 62 then MP.ret (.seq (MP.rangeL 0 j)) else MP.nope
      | _ => MP.nope := by
  obtain ⟨ta, pa, qa⟩ := ha
  obtain ⟨ex, h1, h2, h3, h4⟩ := blt_ok C.fc hx
  subst ex
  refine ⟨_, pi_range1 h1 h2 (pa_cons pa pa_nil (one_star hn)) (one_star hn), fun ι g ρ σ H R sm ss hg => ?_⟩
  refine qa ι g ρ σ H _ sm ss ((hg.bnd sm).imp fun ι1 v g1 H1 f1 h1 x r1 => ?_)
  cases r1 with
  | int j =>
    have h1 : Good S X.K W σ ι1 g1 H1 ((if -(2 ^ 62) ≤ j ∧ j < 2 ^ 62 then MP.ret (MP.MIt.seq (MP.rangeL 0 j)) else MP.nope) g1) _ := h1
    rcases h1.ite with ⟨⟨b1, b2⟩, h1⟩ | ⟨_, h1⟩
    · have q := rit_rng (S := S) (K := X.K) (ι := ι1) (g := g1) (H := H1) (a := 0) (b := j)
      rw [Int.sub_zero] at q
      exact ⟨j, rfl, b1, b2, h1.ret f1.sim _ q⟩
    · exact h1.nope.elim
  | _ => exact h1.nope.elim
theorem SI.rng2 (C : Cq S X k W) {tg : Expr} {x : Str} {y z : Expr} {fa fb : MSt → MP.M MV} {p pos : Pos} (hx : bltB S.nm X.env.scope x (Str.ofString "range") = true) (ha : SE S X W y fa) (hb : SE S X W z fb) (hn : notStar y = true) (hm : notStar z = true) :
    SI S X W tg (.Call (.Name x p) [y, z] [] pos) fun ρ => MP.bnd (fa ρ) fun v => MP.bnd (fb ρ) fun w => match v, w with
      | .int i, .int j => if -(2 ^ 62) ≤ i ∧ i < 2 ^ 62 ∧ -(2 ^ 62) ≤ j ∧ j < 2 ^ 62 then MP.ret (.seq (MP.rangeL i j)) else MP.nope
      | _, _ => MP.nope := by
  obtain ⟨ta, pa, qa⟩ := ha
  obtain ⟨tb, pb, qb⟩ := hb
  obtain ⟨ex, h1, h2, h3, h4⟩ := blt_ok C.fc hx
  subst ex
  have hs2 : starEach [y, z] X.env = [(false, eval y X.env), (false, eval z X.env)] := by rw [star_of hn, one_star hm]
  refine ⟨_, pi_range2 h1 h2 (pa_cons pa (pa_cons pb pa_nil (one_star hm)) (star_of hn)) hs2 (one_star hm), fun ι g ρ σ H R sm ss hg => ?_⟩
  refine qa ι g ρ σ H _ sm ss ((hg.bnd sm).imp fun ι1 v g1 H1 f1 h1 x r1 => ?_)
  refine qb ι1 g1 ρ σ H1 _ f1.sim (ss.fut sm f1) ((h1.bnd f1.sim).imp fun ι2 w g2 H2 f2 h2 y r2 => ?_)
  cases r1 with
  | int i =>
    cases r2 with
    | int j =>
      have h2 : Good S X.K W σ ι2 g2 H2 ((if -(2 ^ 62) ≤ i ∧ i < 2 ^ 62 ∧ -(2 ^ 62) ≤ j ∧ j < 2 ^ 62 then MP.ret (MP.MIt.seq (MP.rangeL i j)) else MP.nope) g2) _ := h2
      rcases h2.ite with ⟨b, h2⟩ | ⟨_, h2⟩
      · exact ⟨i, j, rfl, b, h2.ret f2.sim _ rit_rng⟩
      · exact h2.nope.elim
    | _ => exact h2.nope.elim
  | _ => cases r2 <;> exact h2.nope.elim
theorem SI.enum (C : Cq S X k W) {elts : List Expr} {kk : Nat} {tpos : Pos} {x : Str} {y : Expr} {fa : MSt → MP.M MV} {p pos : Pos} (hx : bltB S.nm X.env.scope x (Str.ofString "enumerate") = true) (ha : SE S X W y fa) (hn : notStar y = true) :
    SI S X W (.Tuple elts kk tpos) (.Call (.Name x p) [y] [] pos) fun ρ => MP.bnd (fa ρ) fun v => MP.look fun g => match v with
      | .tup xs => some (.enum (.seq xs))
      | _ => none := by
  obtain ⟨ta, pa, qa⟩ := ha
  obtain ⟨ex, h1, h2, h3, h4⟩ := blt_ok C.fc hx
  subst ex
  refine ⟨_, pi_enumT h1 h2 (pa_cons pa pa_nil (one_star hn)) (one_star hn), fun ι g ρ σ H R sm ss hg => ?_⟩
  refine qa ι g ρ σ H _ sm ss ((hg.bnd sm).imp fun ι1 v g1 H1 f1 h1 x r1 => ?_)
  obtain ⟨m, em, q⟩ := h1.look f1.sim
  cases r1 with
  | tup hb hs =>
    cases em
    exact ⟨_, _, rfl, hb, q _ (rit_enum f1.sim hb hs)⟩
  | _ => cases em

/-! ### comprehensions -/
/-- a list of one's own is changed -/
theorem Fut.side {K : PySem.W.Frag} {ι ι1 : Nat → Addr} {g g1 : MH} {H H1 : Hp} (f : Fut S K ι g H ι1 g1 H1) {D : Addr} {vs ws : List V} (h0 : H D = none) (ho : Out ι1 g1 D) (hD : H1 D = some (.lst vs)) :
    Fut S K ι g H ι1 g1 (upd H1 D (.lst ws)) ∧ ∀ xs us, RVs S K ι1 g1.length H1 xs us → RVs S K ι1 g1.length (upd H1 D (.lst ws)) xs us := by
  have nt : ∀ {a : Addr} {z : HO}, H1 a = some z → (∀ vs, z ≠ .lst vs) → upd H1 D (.lst ws) a = some z := fun {a z} e h1 => by
    rw [upd_ne (fun q => by rw [q, hD] at e; cases e; exact h1 _ rfl)]
    exact e
  have ht : ∀ a xs, SqT K H1 a xs → SqT K (upd H1 D (.lst ws)) a xs := fun a xs z => by
    rcases z with (z | ⟨o, z⟩) | z
    · exact .inl (.inl (nt z fun _ q => nomatch q))
    · exact .inl (.inr ⟨o, nt z fun _ q => nomatch q⟩)
    · exact .inr z
  have hf : ∀ a xs, FzL K H1 a xs → FzL K (upd H1 D (.lst ws)) a xs := fun a xs z => by
    rcases z with ⟨o, z⟩ | z
    · exact .inl ⟨o, nt z fun _ q => nomatch q⟩
    · exact .inr z
  have r1 : ∀ x v, RV S K ι1 g1.length H1 x v → RV S K ι1 g1.length (upd H1 D (.lst ws)) x v := fun _ _ r => r.mono (Nat.le_refl _) (fun _ _ => rfl) ht hf
  have r2 : ∀ x v, RVs S K ι1 g1.length H1 x v → RVs S K ι1 g1.length (upd H1 D (.lst ws)) x v := fun _ _ r => r.mono (Nat.le_refl _) (fun _ _ => rfl) ht hf
  refine ⟨⟨⟨fun l o e => ?_, f.sim.inj⟩, f.le, f.agree, f.fresh, fun b o e hb => ?_⟩, r2⟩
  · have hl : l < g1.length := (List.getElem?_eq_some_iff.mp e).1
    have q := f.sim.obj l o e
    have hne : ι1 l ≠ D := ho l hl
    exact q.mono r1 r2 fun u e' => by rw [upd_ne hne]; exact e'
  · rw [upd_ne (fun q => by rw [q, h0] at e; cases e)]
    exact f.keep b o e hb
/-- where a comprehension's loop stands -/
def LcW (S : Sc) (K : PySem.W.Frag) (it : MP.MIt) (asg : MV → Option MSt) (c : MSt → MP.M Bool) (e : MSt → MP.M MV) (W : WX) (σ : St) (ι1 : Nat → Addr) (g1 : MH) (H1 : Hp) (D : Addr) (Q : (Nat → Addr) → List MV → MH → Hp → Prop) (i m : Nat) (H : Hp) : Prop :=
  ∃ ι' g' acc vs, Fut S K ι1 g1 H1 ι' g' H ∧ RVs S K ι' g'.length H acc vs ∧ H D = some (.lst vs) ∧ Out ι' g' D ∧ Good S K W σ ι1 g1 H1 (MP.loopC it asg c e m i acc g') Q
/-- a list comprehension: a value, or stored at once -/
structure SLc (S : Sc) (X : Cx) (W : WX) (e : Expr) (f : MSt → MP.M (List MV)) : Prop where
  ex : ∃ t : TE, PE X e t ∧ (∀ (i : Nat) (y : Str) (py spos : Pos), X.N[i]? = some y → X.env.scope.names.lookup y = some .local → swapsWith e (some (.Name y py)) spos.line X.env = pure true → PS X (.Assign [.Name y py] e spos) (tAsg t (gName i))) ∧
    ∀ ι g ρ σ H Q, Sim S X.K ι g H → SimS S X.K ι g.length H ρ σ →
    Good S X.K W σ ι g H (f ρ g) (fun ι' vs g' H' => ∀ D xs, RVs S X.K ι' g'.length H' vs xs → H' D = some (.lst xs) → H D = none → Out ι' g' D → Q (.ref D) H') → t σ H Q
theorem SLc.sl {e : Expr} {f : MSt → MP.M (List MV)} (h : SLc S X W e f) : SL S X W e f := by
  obtain ⟨t, p, _, q⟩ := h
  exact ⟨t, p, q⟩
theorem SLc.comp (C : Cq S X k W) {elt tg it : Expr} {ifs : List Expr} {scope : Scope} {own : List (Str × Nat)} {pos : Pos} {gs : List Nat} {fi : MSt → MP.M MP.MIt} {fg : MV → MSt → Option MSt} {fc : MSt → MP.M Bool} {fe : MSt → MP.M MV}
    (hi : SI S X W tg it fi) (ok : BlkOk X.N X.env.scope scope own) (hs : notSet it = true)
    (hg : ∀ (s : Shared) (H : Hp) (A : Addr) (cl : List (Str × Addr)) (fp : List Addr), SG S (X.blk s H scope (compEnvC scope cl A X.env) fp) tg gs fg) (hgs : ∀ i ∈ gs, i ∈ own.map (·.2))
    (ht : ∀ (s : Shared) (H : Hp) (A : Addr) (cl : List (Str × Addr)) (fp : List Addr), (ifs = [] ∧ fc = fun _ => MP.ret true) ∨ ∃ y, ifs = [y] ∧ ST S (X.blk s H scope (compEnvC scope cl A X.env) fp) (fun _ _ _ _ => False) y fc)
    (he : ∀ (s : Shared) (H : Hp) (A : Addr) (cl : List (Str × Addr)) (fp : List Addr), SE S (X.blk s H scope (compEnvC scope cl A X.env) fp) (fun _ _ _ _ => False) elt fe) :
    SLc S X W (.ListComp elt [⟨tg, it, ifs, 0⟩] scope pos) fun ρ => MP.bnd (fi ρ) fun I => MP.loopC I (fun v => fg v (MP.wipe ρ (own.map (·.2)))) fc fe MP.FUEL 0 [] := by
  obtain ⟨wi, pi, qi⟩ := hi
  have pg : ∀ (s : Shared) (H : Hp) (A : Addr) (cl : List (Str × Addr)) (fp : List Addr), PG (X.blk s H scope (compEnvC scope cl A X.env) fp) tg (fun x σ H Q => ∃ ι g ρ ρ' v, Sim S X.K ι g H ∧ SimS S X.K ι g.length H ρ σ ∧ RV S X.K ι g.length H v x ∧ fg v ρ = some ρ' ∧
      ∀ σ', SimS S X.K ι g.length H ρ' σ' → (∀ vs, (∀ i ∈ gs, i ∈ vs) → L2.wipe σ' vs = L2.wipe σ vs) → Q σ' H) := fun s H A cl fp => by
    obtain ⟨t, p, q⟩ := hg s H A cl fp
    exact ⟨fun pins s σ H v u Q I r ⟨ι, g, ρ, ρ', y, sm, ss, rv, e, hQ⟩ => p.run pins s σ H v u Q I r (q ι g ρ ρ' σ H y v Q sm ss rv e hQ)⟩
  have pt : ∀ (s : Shared) (H : Hp) (A : Addr) (cl : List (Str × Addr)) (fp : List Addr), PTs (X.blk s H scope (compEnvC scope cl A X.env) fp) ifs (tOfT S X.K (fun _ _ _ _ => False) fc) := fun s H A cl fp => by
    rcases ht s H A cl fp with ⟨e1, e2⟩ | ⟨y, e1, h⟩
    · subst e1 e2
      refine ⟨fun pins s σ H Q I ⟨ι, g, ρ, sm, ss, hg⟩ => pts_nil.run pins s σ H Q I (hg.ret sm)⟩
    · subst e1
      exact pts_one h.pt
  have pe : ∀ (s : Shared) (H : Hp) (A : Addr) (cl : List (Str × Addr)) (fp : List Addr), PE (X.blk s H scope (compEnvC scope cl A X.env) fp) elt (tOf S X.K (fun _ _ _ _ => False) fe) := fun s H A cl fp => (he s H A cl fp).pe
  have hfs : ∀ x : Value, foldedSetIterable it X.env x = pure x := by
    intro x
    cases it <;> first
      | rfl
      | exact absurd hs Bool.false_ne_true
  refine ⟨_, pe_lc C.calm C.nd pi ok pg pt pe hfs, fun i y py spos h1 h2 h3 => ps_setLc C.calm C.nd h1 h2 h3 pi ok pg pt pe hfs, fun ι g ρ σ H Q sm ss hg => ?_⟩
  refine qi ι g ρ σ H _ sm ss ((hg.bnd sm).imp fun ι1 I g1 H1 f1 h1 J rJ => ?_)
  intro D hD
  refine ⟨LcW S X.K I (fun v => fg v (MP.wipe ρ (own.map (·.2)))) fc fe W σ ι1 g1 H1 D _, ⟨MP.FUEL, ι1, g1, [], [], Fut.new f1.sim hD, .nil, upd_same, fun l hl => f1.sim.neNone hl hD, h1⟩, ?_⟩
  intro i m H2 ⟨ι2, g2, acc, vs, f2, ra, eD, oD, h2⟩
  cases m with
  | zero => exact h2.elim
  | succ m =>
    have ss2 : SimS S X.K ι2 g2.length H2 (MP.wipe ρ (own.map (·.2))) (L2.wipe σ (own.map (·.2))) := ((ss.fut sm f1).fut f1.sim f2).wipe _
    obtain ⟨r1, r2⟩ := rJ ι2 g2 H2 f2 i
    unfold MP.loopC at h2
    split at h2
    · exact h2.elim
    · rename_i e
      refine .inl ⟨r1 e, ?_⟩
      exact h2 ι2 H2 f2 D vs ra eD (f1.was sm hD) oD
    · rename_i v e
      obtain ⟨go, yl⟩ := r2 v e
      refine .inr ⟨go, fun H' => ∃ m', m' < m + 1 ∧ LcW S X.K I (fun v => fg v (MP.wipe ρ (own.map (·.2)))) fc fe W σ ι1 g1 H1 D _ (i + 1) m' H', fun H' h => h, fun x H3 hy => ?_⟩
      obtain ⟨f3, rv⟩ := yl x H3 hy
      split at h2
      · exact h2.elim
      · rename_i ρ' eρ
        refine ⟨ι2, g2, _, ρ', v, f3.sim, ss2.fut f2.sim f3, rv, eρ, fun σ' ss' hw => ⟨by rw [hw _ hgs, wipe_wipe], ?_⟩⟩
        refine ⟨ι2, g2, ρ', f3.sim, ss', ?_⟩
        have f13 := f2.trans f1.sim f3
        cases ec : fc ρ' g2 with
        | exc cc fs gg =>
          rw [ec] at h2
          exact h2.elim
        | stuck =>
          rw [ec] at h2
          exact h2.elim
        | ok b g4 =>
          rw [ec] at h2
          intro ι4 H4 f4
          have f14 := f13.trans f1.sim f4
          have eD3 : H3 D = some (.lst vs) := f3.keep _ _ eD oD
          have oD3 : Out ι2 g2 D := oD
          have eD4 := f4.keep _ _ eD3 oD3
          have oD4 := f4.out eD3 oD3
          have ra4 := f4.rvs f3.sim (f3.rvs f2.sim ra)
          cases b with
          | false =>
            exact ⟨m, Nat.lt_succ_self _, ι4, g4, acc, vs, f14, ra4, eD4, oD4, h2⟩
          | true =>
            refine ⟨ι4, g4, ρ', f4.sim, ss'.fut f3.sim f4, ?_⟩
            have h2 : Good S X.K W σ ι1 g1 H1 (match fe ρ' g4 with
              | .ok y g2 => if acc.length < MP.SZ then MP.loopC I (fun v => fg v (MP.wipe ρ (own.map (·.2)))) fc fe m (i + 1) (acc ++ [y]) g2 else .stuck
              | _ => .stuck) _ := h2
            cases ee : fe ρ' g4 with
            | exc cc fs gg =>
              rw [ee] at h2
              exact h2.elim
            | stuck =>
              rw [ee] at h2
              exact h2.elim
            | ok y g5 =>
              rw [ee] at h2
              intro ι5 H5 f5 z rz
              have eD5 := f5.keep _ _ eD4 oD4
              have oD5 := f5.out eD4 oD4
              have h2 : Good S X.K W σ ι1 g1 H1 (if acc.length < MP.SZ then MP.loopC I (fun v => fg v (MP.wipe ρ (own.map (·.2)))) fc fe m (i + 1) (acc ++ [y]) g5 else .stuck) _ := h2
              split at h2
              · rename_i hz
                refine ⟨vs, eD5, by rw [← ra.length]; exact szlt hz, m, Nat.lt_succ_self _, ?_⟩
                obtain ⟨f6, mono⟩ := (f14.trans f1.sim f5).side (ws := vs ++ [z]) hD oD5 eD5
                exact ⟨ι5, g5, acc ++ [y], vs ++ [z], f6, mono _ _ ((f5.rvs f4.sim ra4).append (.cons rz .nil)), upd_same, oD5, h2⟩
              · exact h2.elim
end MPS
end
section
set_option Elab.async false
set_option linter.all false
set_option autoImplicit false
set_option maxRecDepth 100000
set_option maxHeartbeats 4000000
/-! 14: instances made; every expression. -/
namespace MPS
open PySem PySem.Spec L2
open PyProof.Rows hiding St
open MP (MV MO MH MSt Res G)
variable {S : Sc} {X : Cx} {W : WX} {k : Nat}

theorem SE.never {e : Expr} {f : MSt → MP.M MV} (h : ∀ ρ g, f ρ g = .stuck) : SE S X W e f :=
  ⟨fun _ _ _ => False, ⟨fun pins s σ H Q I h => h.elim⟩, fun ι g ρ σ H Q sm ss hg => by
    rw [h ρ g] at hg
    exact hg⟩
theorem SE.new (C : Cq S X k W) {c : Nat} {x : Str} {e : Expr} {es : List Expr} {fs : MSt → MP.M (List MV)} {p pos : Pos} (h : glB X.env.scope x = true) (hf : glCls S.nm x c = true) (hs : SA S X W (e :: es) fs) (hn : ∀ y ∈ e :: es, notStar y = true) :
    SE S X W (.Call (.Name x p) (e :: es) [] pos) fun ρ => if (evOf S.T k).deep then MP.bnd (MP.lift (MP.initOf S.T c)) fun f => MP.bnd (fs ρ) fun vs => MP.bnd (MP.alloc (.ins c [])) fun l => MP.bnd ((evOf S.T k).callm f (l :: vs)) fun r => match r with
      | .non => MP.ret l
      | _ => MP.nope
      else MP.nope := by
  cases k with
  | zero => exact SE.never fun _ _ => rfl
  | succ j =>
    obtain ⟨h1, h3⟩ := gl_ok h
    obtain ⟨n1, n2, n3⟩ := name_ok h3
    obtain ⟨kl, ek, hl, hm, mk⟩ := C.fc.cls x c (glCls_ok hf)
    obtain ⟨ts, ps, qs⟩ := hs
    refine ⟨_, pe_mk1 (k := j) mk (C.callm j rfl kl.init hl) C.room C.guards C.tk h1 hm ps n1 (star_of (hn _ List.mem_cons_self)) (back_any fun y hy => hn y (List.mem_cons_of_mem _ hy)), fun ι g ρ σ H Q sm ss hg => ?_⟩
    have hg : Good S X.K W σ ι g H (MP.bnd (MP.lift (MP.initOf S.T c)) (fun f => MP.bnd (fs ρ) fun vs => MP.bnd (MP.alloc (.ins c [])) fun l => MP.bnd (MP.callF S.T j f (l :: vs)) fun r => match r with
      | .non => MP.ret l
      | _ => MP.nope) g) _ := hg
    obtain ⟨f, ef, hg⟩ := (hg.bnd sm).lift sm
    have ef' : (S.T.cls[c]?).map (·.init) = some f := ef
    rw [ek] at ef'
    cases ef'
    refine qs ι g ρ σ H _ sm ss ((hg.bnd sm).imp fun ι1 vs g1 H1 f1 h1 xs r1 => ?_)
    intro a dx ha hdx hne
    have fa : Fut S X.K ι1 g1 H1 _ (g1 ++ [.ins c []]) (upd (upd H1 dx (.own a)) a (.ins (S.ca c) dx [])) := Fut.alloc f1.sim ha (fun b u e => by
      rw [upd_ne (ne_of_none e ha), upd_ne (ne_of_none e hdx)]
      exact e) ⟨_, upd_same⟩ fun ι' a1 a2 m1 m2 => ⟨dx, [], upd_same, .nil⟩
    have h2 : Good S X.K W σ ι1 g1 H1 (MP.bnd (MP.callF S.T j kl.init (.loc g1.length :: vs)) (fun r => match r with
      | .non => MP.ret (MV.loc g1.length)
      | _ => MP.nope) (g1 ++ [.ins c []])) _ := h1
    have h3 := h2.fut f1.sim fa
    refine ⟨_, _, .loc g1.length :: vs, fa.sim, .cons ?_ (fa.rvs f1.sim r1), ?_⟩
    · have z : RV S X.K (fun l => if l = g1.length then a else ι1 l) (g1 ++ [MO.ins c []]).length (upd (upd H1 dx (.own a)) a (.ins (S.ca c) dx [])) (.loc g1.length) (.ref ((fun l => if l = g1.length then a else ι1 l) g1.length)) := .loc (by simp)
      have e2 : (fun l => if l = g1.length then a else ι1 l) g1.length = a := if_pos rfl
      rw [e2] at z
      exact z
    · refine Good.reW (W := W) (σ := σ) ((h3.bnd fa.sim).imp fun ι3 v g3 H3 f3 h4 x rx => ?_)
      cases rx with
      | non =>
        refine ⟨rfl, ?_⟩
        have q := h4.ret f3.sim
        refine q _ ?_
        have hl3 : g1.length < (g1 ++ [MO.ins c []]).length := by simp
        have z : RV S X.K ι3 g3.length H3 (.loc g1.length) (.ref (ι3 g1.length)) := .loc (Nat.lt_of_lt_of_le hl3 f3.le)
        have e2 : ι3 g1.length = a := (f3.agree _ hl3).trans (if_pos rfl)
        rw [e2] at z
        exact z
      | _ => exact h4.nope.elim
theorem pw_of_pt {op : BoolOp} {es : List Expr} {pos : Pos} {t : TT} (h : PT X (.BoolOp op es pos) t) : PW X (.BoolOp op es pos) t :=
  ⟨fun whole pins s σ H Q I q => by
    have := h.run pins s σ H Q I q
    exact this⟩
theorem SW.of {op : BoolOp} {es : List Expr} {pos : Pos} {f : MSt → MP.M Bool} (h : ST S X W (.BoolOp op es pos) f) : SW S X W (.BoolOp op es pos) f := by
  obtain ⟨t, p, q⟩ := h
  exact ⟨t, pw_of_pt p, q⟩
end MPS
end
section
set_option Elab.async false
set_option linter.all false
set_option autoImplicit false
set_option maxRecDepth 100000
set_option maxHeartbeats 4000000
/-! X1: an own exception over ValueError whose __init__ says super().__init__(a, b); self.a = a; self.b = b. -/
namespace PySem
namespace MX
open PySem.W PySem.Calls PyProof.Rows PySem.HandSPX

def iB (n1 n2 : Str) (q0 q1 q2 q3 q4 q5 q6 q7 q8 q9 q10 q11 q12 q13 q14 : Pos) : List Stmt := [
  .Expr (.Call (.Attribute (.Call (.Name "super" q0) [] [] q1) "__init__" q2) [.Name n1 q3, .Name n2 q4] [] q5) q6,
  .Assign [.Attribute (.Name "self" q7) n1 q8] (.Name n1 q9) q10,
  .Assign [.Attribute (.Name "self" q11) n2 q12] (.Name n2 q13) q14]
/-- what the written part says of the class at C, of its __init__ at fI -/
structure Txt (P : Program) (K : Frag) (mg : Str → Option Value) (n1 n2 : Str) (C fI : Addr) : Prop where
  cls : ∃ nm q N bs bm sn sub ab col dd k0 k1 k2 k3 k5, K.lookup C = some (excClassObj nm q C N bs bm true sn sub ab col dd k0 k1 k2 k3 k5 "ValueError.__new__") ∧ refsVE bm = true
  sa : findIn K (.ref C) "__setattr__" = some (some (.builtin "object.__setattr__"))
  ga : findIn K (.ref C) "__getattribute__" = some (some (.builtin "BaseException.__getattribute__"))
  gg : findIn K (.ref C) "__getattr__" = some none
  no1 : findIn K (.ref C) n1 = some none
  no2 : findIn K (.ref C) n2 = some none
  iC : findIn K (.ref C) "__init__" = some (some (.ref fI))
  tC : typeIn K (.ref fI) = some (.type "function")
  kC : keepIn K (.ref C) = true
  exC : subIn K (.ref C) (.type "BaseException") = some true
  tyC : typeIn K (.ref C) = some (.type "type")
  hdC : hasDictIn K C = true
  exVE : subIn K (.ref C) (.type "ValueError") = some true
  sup : ks_superIn K C C "__init__" = some (some (.builtin "ValueError.__init__"))
  self : mroIn K C (.ref C) = some true
  gsup : mg "super" = none
  stat : nsIn K cStatics "thirdparty.any" = some none
  top : (P.main.scope.names.lookup ("super" : Str)).isSome = false
  fn : ∃ (oc : Value) (od : Option Addr) (qual : Str) (params : Arguments) (scope : Scope) (doc pm : Value) (an : Option Addr) (ct : Value) (osl : Array (Option Value)) (cc cda : Addr) (q0 q1 q2 q3 q4 q5 q6 q7 q8 q9 q10 q11 q12 q13 q14 : Pos),
    K.lookup fI = some ⟨oc, od, .func (ksFn "__init__" qual params (iB n1 n2 q0 q1 q2 q3 q4 q5 q6 q7 q8 q9 q10 q11 q12 q13 q14) scope .none .none doc pm an (.ref cda) ct cc), osl⟩ ∧ codeIn K (.ref cda) qual = true ∧
    (q2.endLine == q5.line) = true ∧
    (∃ ccl cdd vs ccs file tf, K.lookup cda = some ⟨ccl, cdd, .fields vs, ccs⟩ ∧ vs[2]? = some (.str file tf) ∧ ((P.main.file : Str) == file) = true) ∧
    (∃ cl cld csl, K.lookup cc = some ⟨cl, cld, .cell (some (.ref C)), csl⟩) ∧
    (∃ ar, (params.posonlyargs ++ params.args).head? = some ar ∧ ar.arg = "self") ∧
    scope.names.lookup ("self" : Str) = some .local ∧ scope.names.lookup n1 = some .local ∧ scope.names.lookup n2 = some .local ∧ scope.names.lookup ("super" : Str) = some .globalImplicit ∧ scope.names.lookup ("__class__" : Str) = some .free ∧
    (∀ x ∈ scope.names, x.2 ≠ .cell) ∧ scope.kind = .function ∧ scope.isCoroutine = false ∧ scope.isGenerator = false ∧
    ∀ (s : Shared) (x v1 v2 : Value), BindsTo s (ksFn "__init__" qual params (iB n1 n2 q0 q1 q2 q3 q4 q5 q6 q7 q8 q9 q10 q11 q12 q13 q14) scope .none .none doc pm an (.ref cda) ct cc) ⟨[x, v1, v2], []⟩ [(("self" : Str), x), (n1, v1), (n2, v2)]
  d12 : (n1 == n2) = false
  d1s : (n1 == ("self" : Str)) = false
  d2s : (n2 == ("self" : Str)) = false
  n1d : (n1 == ("__debug__" : Str)) = false
  n2d : (n2 == ("__debug__" : Str)) = false
theorem ldC {M : Model} {s : Shared} {env : Env} {m : Str → Option Value} {x : Str} {pos : Pos} {v : Value} {Q : Value → Shared → Prop} {A : Around} {E : Value → Shared → Prop} (hn : s.heap.Ns env.locals m) (hv : m x = some v) (h : Q v s)
    (hk : env.scope.kind = .function) (hl : env.kindOf x = some .local) (hd : (x == ("__debug__" : Str)) = false) :
    wpAny M A (eval (.Name x pos) env) Q E s := wpAny_Name (wpAny_loadName_local hk hl hn hv h) hd
/-- what __init__ leaves of a fresh exception at x -/
structure InitEnd (h h' : Heap) (n1 n2 : Str) (x C dx t1 : Addr) (v1 v2 : Value) : Prop where
  keep : ∀ b o, b ≠ x → h.get? b = some o → h'.get? b = some o
  obj : h'.get? x = some { cls := .ref C, dict := some dx, data := .fields #[.ref t1, .none, .none, .none, .bool false, .none] }
  dbig : h.objs.size ≤ dx
  dne : dx ≠ x
  ns : h'.Ns1 dx (fun y => if y = n2 then some v2 else if y = n1 then some v1 else none)
/-- a made one -/
structure Made (h h' : Heap) (n1 n2 : Str) (e C d : Addr) (v1 v2 : Value) : Prop where
  keep : ∀ b o, h.get? b = some o → h'.get? b = some o
  new : h.objs.size ≤ e
  obj : ∃ oe vs, h'.get? e = some oe ∧ oe.cls = .ref C ∧ oe.dict = some d ∧ oe.data = .fields vs ∧ vs[1]? = some .none
  dbig : h.objs.size ≤ d
  dne : d ≠ e
  ns : h'.Ns1 d (fun y => if y = n2 then some v2 else if y = n1 then some v1 else none)
section
variable {prog : Program} {w : World} {A : Around} {E : Value → Shared → Prop} {R : Result → Shared → Prop} {s : Shared} {K : Frag} {mg mb : Str → Option Value} {n1 n2 : Str} {C fI : Addr}
/-- super().__init__(..), by what it is bound to, called -/
theorem call_mw {h : Heap} {g : Array GenState} {d : Drawn} {t : Nat} {os : OsState} {nm q : Str} {N : Addr} {bs bm : List Value} {hdct : Bool} {sn : List Str} {sub : List Value} {ab : Bool} {col : Option Bool} {dd : Option Addr} {k0 k1 k2 k3 k5 : Option Value} {u e t0 : Addr} {rest : List Value} {Q : Value → Shared → Prop}
    (hC : h.get? C = some (excClassObj nm q C N bs bm hdct sn sub ab col dd k0 k1 k2 k3 k5 "ValueError.__new__")) (he : h.get? e = some (excO C t0)) (hu : h.get? u = some (kxs_mw "ValueError.__init__" e)) (hrest : rest.length ≤ sizeLine)
    (hq : ∀ h' t1, (∀ b o, b ≠ e → h.get? b = some o → h'.get? b = some o) → h'.get? e = some (excO C t1) → Q .none ⟨h', g, d, t, os⟩) :
    wpAny (model prog w) A (call (.ref u) rest) Q E ⟨h, g, d, t, os⟩ := by
  refine wpAny_call (codeAny_of_tree ?_)
  show wpAny _ A.in1 (callAny (.ref u) ⟨rest, []⟩) _ _ _
  simp only [callAny]
  refine wpAny_bind (wpAny_load hu ?_)
  simp only [kxs_mw, show (Value.type "method-wrapper" == Value.type "method" || Value.type "method-wrapper" == Value.type "builtin_function_or_method" || Value.type "method-wrapper" == Value.type "method-wrapper") = true by decide, if_true]
  refine KFB.if_so (by decide) ?_
  refine wpAny_bind (check_bound_init F.excBase_ValueError.toExcCallFacts hC he rfl ?_)
  refine wpAny_bind (wpAny_pure (wpAny_pure ?_))
  refine ⟨plainId_quiet F.excBase_ValueError.init.plain _, codeAny_builtin F.excBase_ValueError.initEntry ?_⟩
  refine exc_init_tree (cls := .ref C) (t0 := t0) (dv := none) (c2 := .none) (c3 := .none) (b4 := .bool false) he hrest fun h' k e' t' => hq h' _ k e'
theorem x_init (T : Txt prog K mg n1 n2 C fI) {x t0 : Addr} {v1 v2 : Value} (X : K.In s.heap) (G : s.heap.Ns mainGlobals mg) (B : s.heap.Ns builtinsNs mb) (hb : ∀ y : Str, y ≠ "__name__" → mb y = bootBuiltins y) (hlim : s.heap.NoLimit) (hx : s.heap.get? x = some (excO C t0)) (hnx : K.lookup x = none) (hroom : A.depth < recursionLimit)
    (hq : ∀ h' tk dx t1, InitEnd s.heap h' n1 n2 x C dx t1 v1 v2 → R (.ok (.ret .none)) { s with heap := h', toks := tk }) :
    codeAny (model prog w) A (.call (.ref fI) ⟨[.ref x, v1, v2], []⟩) R s := by
  obtain ⟨oc, od, qual, params, scope, doc, pm, an, ct, osl, cc, cda, q0, q1, q2, q3, q4, q5, q6, q7, q8, q9, q10, q11, q12, q13, q14, ho, hcd, hline, ⟨ccl, cdd, vs, ccs, file, tf, hcda, hvs, hfile⟩, ⟨cl, cld, csl, hcc⟩, ⟨ar, har, hself⟩, s1, s2, s3, s4, s5, s6, s7, s8, s9, hbind⟩ := T.fn
  obtain ⟨nm, q, N, bs, bm, sn, sub, ab, col, dd, k0, k1, k2, k3, k5, hC, hbm⟩ := T.cls
  have hcl : clsIn K C = some { name := nm, bases := bs, mro := .ref C :: bm, ns := N, qualname := q, hasDict := true, slotNames := sn, subclasses := sub, abstract := ab, collection := col, hasDel := false } := by unfold clsIn; rw [hC] <;> rfl
  refine ks_codeAny_call_defAt (fd := ksFn "__init__" qual params (iB n1 n2 q0 q1 q2 q3 q4 q5 q6 q7 q8 q9 q10 q11 q12 q13 q14) scope .none .none doc pm an (.ref cda) ct cc) (body := iB n1 n2 q0 q1 q2 q3 q4 q5 q6 q7 q8 q9 q10 q11 q12 q13 q14) (binds := [(("self" : Str), Value.ref x), (n1, v1), (n2, v2)]) hroom (X _ _ ho) rfl hlim (codeRec_of X hcd) rfl (hbind s (.ref x) v1 v2) s6 (fun y hy => ?_) (fun h₀ hns hk => ?_) s8 s9 s7
  · simp only [List.mem_cons, List.mem_nil_iff, or_false] at hy
    rcases hy with rfl | rfl | rfl
    · exact s1
    · exact s2
    · exact s3
  · obtain ⟨hp, g, d, tk, os⟩ := s
    replace hns : h₀.Ns hp.objs.size (fun y => [(("self" : Str), Value.ref x), (n1, v1), (n2, v2)].reverse.lookup y) := hns
    replace hk : ∀ b o, hp.get? b = some o → h₀.get? b = some o := hk
    generalize henv : callEnv (ksFn "__init__" qual params (iB n1 n2 q0 q1 q2 q3 q4 q5 q6 q7 q8 q9 q10 q11 q12 q13 q14) scope .none .none doc pm an (.ref cda) ct cc) hp.objs.size fI = env
    have e1 : env.scope = scope := by rw [← henv]; rfl
    have e2 : env.locals = hp.objs.size := by rw [← henv]; rfl
    have e3 : env.func = some fI := by rw [← henv]; rfl
    have e4 : env.code = .ref cda := by rw [← henv]; rfl
    have e5 : env.globals = mainGlobals := by rw [← henv]; rfl
    have e6 : env.builtins = builtinsNs := by rw [← henv]; rfl
    have e7 : env.cells.lookup ("__class__" : Str) = some cc := by rw [← henv]; rfl
    have ek : env.scope.kind = .function := by rw [e1]; exact s7
    have k1 : env.kindOf ("self" : Str) = some .local := by unfold Env.kindOf; rw [e1]; exact s1
    have k2 : env.kindOf n1 = some .local := by unfold Env.kindOf; rw [e1]; exact s2
    have k3 : env.kindOf n2 = some .local := by unfold Env.kindOf; rw [e1]; exact s3
    have k4 : env.kindOf ("super" : Str) = some .globalImplicit := by unfold Env.kindOf; rw [e1]; exact s4
    have k5' : env.kindOf ("__class__" : Str) = some .free := by unfold Env.kindOf; rw [e1]; exact s5
    have hint : interactive env = false := by simp [interactive, ek]
    have d12' : (n2 == n1) = false := by
      have := T.d12
      simp only [beq_eq_false_iff_ne] at this ⊢
      exact Ne.symm this
    have ds1 : (("self" : Str) == n1) = false := by
      have := T.d1s
      simp only [beq_eq_false_iff_ne] at this ⊢
      exact Ne.symm this
    have ds2 : (("self" : Str) == n2) = false := by
      have := T.d2s
      simp only [beq_eq_false_iff_ne] at this ⊢
      exact Ne.symm this
    have l0 : [(("self" : Str), Value.ref x), (n1, v1), (n2, v2)].reverse.lookup ("self" : Str) = some (.ref x) := by
      show List.lookup ("self" : Str) [(n2, v2), (n1, v1), (("self" : Str), Value.ref x)] = _
      simp only [List.lookup_cons, ds2, ds1, beq_self_eq_true]
    have l1 : [(("self" : Str), Value.ref x), (n1, v1), (n2, v2)].reverse.lookup n1 = some v1 := by
      show List.lookup n1 [(n2, v2), (n1, v1), (("self" : Str), Value.ref x)] = _
      simp only [List.lookup_cons, T.d12, beq_self_eq_true]
    have l2 : [(("self" : Str), Value.ref x), (n1, v1), (n2, v2)].reverse.lookup n2 = some v2 := by
      show List.lookup n2 [(n2, v2), (n1, v1), (("self" : Str), Value.ref x)] = _
      simp only [List.lookup_cons, beq_self_eq_true]
    have X0 : K.In h₀ := X.keeps hk
    have hx0 := hk _ _ hx
    have I0 : InstAt h₀ x (excO C t0) C none := ⟨hx0, rfl, rfl, trivial⟩
    have hD1 := X0 _ _ hC
    refine ks_wpAt_execs_cons (ks_wpAt_Expr_any (ks_wpAt_MethodCall (pl := do return (← importBound (.Call (.Name "super" q0) [] [] q1) env).getD true) ?_ ?_) hint rfl)
    · refine ks_wpAt_super_base k4 k5' (by decide) e3 (X0 _ _ ho) rfl har e4 (X0 _ _ hcda) rfl hvs hfile T.top ?_
      refine ks_loadName_global ek k4 (loadGlobal_builtin (by rw [e5]; exact G.keeps hk) T.gsup (by rw [e6]; exact B.keeps hk) ((hb _ (by decide)).trans (show bootBuiltins "super" = some (.type "super") by boot_by_name)) ⟨rfl, ?_⟩)
      refine wpAny_loadName_free ek k5' e7 ⟨_, X0 _ _ hcc, rfl⟩ ?_
      rw [hself]
      refine wpAny_loadName_local ek k1 (by rw [e2]; exact hns) l0 ?_
      refine ks_wpAny_isType_cls hD1 rfl ⟨rfl, ?_⟩
      refine ks_wpAny_call_super hD1 rfl hx0 rfl (fun c e => nomatch e) (looks_mroIn X0 T.self) (fun h1 hso hk1 => ?_)
      have X1 : K.In h1 := X0.keeps hk1
      have I1 : InstAt h1 x (excO C t0) C none := ⟨hk1 _ _ hx0, rfl, rfl, trivial⟩
      have hsup := T.sup
      unfold ks_superIn at hsup
      rw [hcl] at hsup
      refine kxs_getMethod kxs_ValueError hso (looks_opaque X1 T.stat) (l₀ := .ref C :: bm) (fun A Q E s k q => wpAny_bind ((looks_clsIn X1 hcl) A _ E s k (wpAny_pure q))) rfl X1 hsup (I1.type.andThen (looks_subIn X1 T.exVE)) (ks_ne X1 I1 hcl) (by decide) ?_
      have hn1 : h1.Ns hp.objs.size (fun y => [(("self" : Str), Value.ref x), (n1, v1), (n2, v2)].reverse.lookup y) := hns.keeps hk1
      have hk2 : ∀ b o, h1.get? b = some o → (h1.push (kxs_mw "ValueError.__init__" x)).get? b = some o := fun b o e => Heap.get?_push_of_some _ e
      have hu : (h1.push (kxs_mw "ValueError.__init__" x)).get? h1.objs.size = some (kxs_mw "ValueError.__init__" x) := Heap.get?_push_size _ rfl
      have hn2 := hn1.keeps hk2
      have st : starEach [Expr.Name n1 q3, .Name n2 q4] env = [(false, eval (.Name n1 q3) env), (false, eval (.Name n2 q4) env)] := rfl
      show wpAny _ _ (callWith q5 (.ref h1.objs.size) [] (backTo q5 (starEach [Expr.Name n1 q3, .Name n2 q4] env)) []) _ _ _
      refine kxs_callWith (i := "ValueError.__init__") (x := x) rfl ?_
      refine evalArgs_plain ?_
      refine args_cons (e := .Name n1 q3) (rest := [.Name n2 q4]) (pos := q5) ?_ rfl
      refine ldC (v := v1) (by rw [e2]; exact hn2) l1 ?_ ek k2 T.n1d
      refine args_cons (e := .Name n2 q4) (rest := []) (pos := q5) ?_ rfl
      refine ldC (v := v2) (by rw [e2]; exact hn2) l2 ?_ ek k3 T.n2d
      refine args_nil ⟨hu, ?_⟩
      refine call_mw (hk2 _ _ (hk1 _ _ hD1)) (hk2 _ _ (hk1 _ _ hx0)) hu (by rw [sizeLine_eq]; show 2 ≤ 16777216; omega) fun h3 t1 kk hx3 => ?_
      have hxL : hp.objs.size ≠ x := Nat.ne_of_gt (Heap.lt_size hx)
      have kall : ∀ b o, b ≠ x → hp.get? b = some o → h3.get? b = some o := fun b o hb e => kk b o hb (hk2 b o (hk1 b o (hk b o e)))
      have X3 : K.In h3 := fun a o e => kall a o (fun z => by rw [z, hnx] at e; cases e) (X a o e)
      have hn3 : h3.Ns hp.objs.size (fun y => [(("self" : Str), Value.ref x), (n1, v1), (n2, v2)].reverse.lookup y) := by
        obtain ⟨oL, es, ep, hL, r⟩ := hn2
        exact ⟨oL, es, ep, kk _ _ hxL hL, r⟩
      -- self.n1 = n1
      refine ks_wpAt_execs_cons (wpAt_of_wpAny (plainObj_wpAny_Assign_Attribute ?_ rfl))
      refine ldC (v := v1) (by rw [e2]; exact hn3) l1 (ldC (v := .ref x) (by rw [e2]; exact hn3) l0 ?_ ek k1 (by decide)) ek k2 T.n1d
      refine set_plain X3 (ox := excO C t1) (od := none) ⟨hx3, rfl, rfl, trivial⟩ T.sa ?_
      refine exc_osa X3 hx3 hcl (show refsVE (.ref C :: bm) = true from hbm) rfl T.no1 (fun h4 tk4 dx k4' dn dne hx4 hn4 => ?_)
      have X4 : K.In h4 := fun a o e => k4' a o (fun z => by rw [z, hnx] at e; cases e) (X3 a o e)
      have hn5 : h4.Ns hp.objs.size (fun y => [(("self" : Str), Value.ref x), (n1, v1), (n2, v2)].reverse.lookup y) := by
        obtain ⟨oL, es, ep, hL, r⟩ := hn3
        exact ⟨oL, es, ep, k4' _ _ hxL hL, r⟩
      -- self.n2 = n2
      refine ks_wpAt_execs_cons (wpAt_of_wpAny (plainObj_wpAny_Assign_Attribute ?_ rfl))
      refine ldC (v := v2) (by rw [e2]; exact hn5) l2 (ldC (v := .ref x) (by rw [e2]; exact hn5) l0 ?_ ek k1 (by decide)) ek k3 T.n2d
      have hw : Within (fun y => if y = n1 then some v1 else none) [n1] := fun y hy => by
        by_cases e : y = n1
        · rw [e]
          exact List.mem_cons_self
        · exact absurd (if_neg e) hy
      obtain ⟨oD, _, _, hoD, _, _⟩ := hn4.count hw
      refine set_plain X4 (ox := { cls := .ref C, dict := some dx, data := .fields #[.ref t1, .none, .none, .none, .bool false, .none] }) (od := some oD) ⟨hx4, rfl, rfl, hoD⟩ T.sa ?_
      refine OEX.osa_old X4 hx4 hn4 hw (by show 1 ≤ 1000; omega) hcl (show refsVE (.ref C :: bm) = true from hbm) rfl T.no2 (fun h5 tk5 k5'' hn6 => ?_)
      refine wpAt_of_wpAny (wpAny_execs_nil ?_)
      have z : hp.objs.size < h3.objs.size := hn3.lt
      exact hq h5 tk5 dx t1 ⟨fun b o hb e => k5'' b o (fun z2 => by
        have := Heap.lt_size (kall b o hb e)
        have y : b < hp.objs.size := Heap.lt_size e
        rw [z2] at y
        exact absurd (Nat.lt_of_lt_of_le y (Nat.le_of_lt z)) (Nat.not_lt.mpr dn)) (k4' b o hb (kall b o hb e)), k5'' x _ (Ne.symm dne) hx4, Nat.le_trans (Nat.le_of_lt z) dn, dne, hn6⟩
    · rw [arm_eval_Call]
      have hform : methodCallForm ([Expr.Name n1 q3, .Name n2 q4].length + ([] : List Keyword).length) (backTo q5 (starEach [Expr.Name n1 q3, .Name n2 q4] env)) (backToKw q5 (keywordEach [] env)) = true := rfl
      have hpos : methodCallPos true (.Call (.Name "super" q0) [] [] q1) env q2 q5 = pure q5 := by
        unfold methodCallPos
        simp [hline]
      unfold methodCall
      rw [hform, hpos]
      rfl
end
end MX
end PySem
end
section
set_option Elab.async false
set_option linter.all false
set_option autoImplicit false
set_option maxRecDepth 100000
set_option maxHeartbeats 4000000
/-! X2: own exceptions made; try with several clauses, each with a name or none. -/
namespace PySem
namespace MX
open PySem.W PySem.Calls PyProof.Rows PySem.HandSPX
section
variable {prog : Program} {w : World} {A : Around} {E : Value → Shared → Prop} {R : Result → Shared → Prop} {s : Shared} {K : Frag} {mg mb : Str → Option Value} {n1 n2 : Str} {C fI : Addr}
theorem x_made (T : Txt prog K mg n1 n2 C fI) {v1 v2 : Value} (X : K.In s.heap) (G : s.heap.Ns mainGlobals mg) (B : s.heap.Ns builtinsNs mb) (hb : ∀ y : Str, y ≠ "__name__" → mb y = bootBuiltins y) (hlim : s.heap.NoLimit) (hroom : A.depth + 1 < recursionLimit)
    (hq : ∀ h' tk e d, Made s.heap h' n1 n2 e C d v1 v2 → R (.ok (.ret (.ref e))) { s with heap := h', toks := tk }) :
    codeAny (model prog w) A (.call (.ref C) ⟨[v1, v2], []⟩) R s := by
  obtain ⟨nm, q, N, bs, bm, sn, sub, ab, col, dd, k0, k1, k2, k3, k5, hC, hbm⟩ := T.cls
  obtain ⟨hp, g, dr, tk, os⟩ := s
  have k : ∀ b o, hp.get? b = some o → ((hp.push (kdv_tup [v1, v2])).push (excO C hp.objs.size)).get? b = some o := fun b o e => Heap.get?_push_of_some _ (Heap.get?_push_of_some _ e)
  have hget : ((hp.push (kdv_tup [v1, v2])).push (excO C hp.objs.size)).get? (hp.objs.size + 1) = some (excO C hp.objs.size) := by heap_get
  have hnx : K.lookup (hp.objs.size + 1) = none := by
    cases e : K.lookup (hp.objs.size + 1) with
    | none => rfl
    | some o =>
      have z : hp.get? (hp.objs.size + 1) = some o := X _ _ e
      exact absurd (Nat.lt_of_succ_lt (Heap.lt_size z)) (Nat.lt_irrefl _)
  refine call_own F.excBase_ValueError (fun X => refsVE_contains X bm hbm) (X _ _ hC) (looks_findIn X T.iC) (fun self => bind_fn X self T.tC) (by rw [sizeLine_eq]; show 2 ≤ 16777216; omega) ?_
  refine x_init (s := ⟨(hp.push (kdv_tup [v1, v2])).push (excO C hp.objs.size), g, dr, tk, os⟩) T (X.keeps k) (G.keeps k) (B.keeps k) hb (hlim.keeps k) hget hnx ?_ fun h' tk' dx t1 ⟨k', hx, dn, dne, hns⟩ => ?_
  · show A.depth + 1 < recursionLimit
    exact hroom
  · have old : ∀ b o, hp.get? b = some o → h'.get? b = some o := fun b o e => k' b o (Nat.ne_of_lt (Nat.lt_succ_of_lt (Heap.lt_size e))) (k b o e)
    have z : hp.objs.size + 1 + 1 ≤ dx := by
      first
        | (simpa only [Heap.size_push] using dn)
        | exact dn
        | (have q := dn; rw [Heap.size_push, Heap.size_push] at q; exact q)
    exact ⟨rfl, hq h' tk' (hp.objs.size + 1) dx ⟨old, Nat.le_succ _, ⟨_, _, hx, rfl, rfl, rfl, rfl⟩, Nat.le_trans (Nat.le_trans (Nat.le_succ _) (Nat.le_succ _)) z, dne, hns⟩⟩
end
end MX
end PySem
namespace L2
open PySem PySem.Spec PyProof.Rows
theorem relO_two {n1 n2 : Str} (hd : (n1 == n2) = false) {v1 v2 : V} {u1 u2 : Value} (r1 : RelV v1 u1) (r2 : RelV v2 u2) (f : Str) : RelO (List.lookup f [(n1, v1), (n2, v2)]) (if f = n2 then some u2 else if f = n1 then some u1 else none) := by
  have hne : n1 ≠ n2 := by simpa using hd
  by_cases h2 : f = n2
  · subst h2
    rw [if_pos rfl]
    have : (f == n1) = false := by simpa using Ne.symm hne
    simp only [List.lookup_cons, this, beq_self_eq_true]
    exact r2
  · rw [if_neg h2]
    by_cases h1 : f = n1
    · subst h1
      rw [if_pos rfl]
      simp only [List.lookup_cons, beq_self_eq_true]
      exact r1
    · rw [if_neg h1]
      have e1 : (f == n1) = false := by simpa using h1
      have e2 : (f == n2) = false := by simpa using h2
      simp only [List.lookup_cons, e1, e2, List.lookup_nil]
      trivial
section
variable {X : Cx} {C fI : Addr} {n1 n2 : Str}
/-- C(a, b) -/
def tMkX (n1 n2 : Str) (C : Addr) (ta : TA) : St → Hp → XK → Prop := fun σ H Q => ta σ H fun vs H1 => ∃ v1 v2, vs = [v1, v2] ∧ ∀ d, H1 d = none → Q (.ref C) (some d) (upd H1 d (.xd [(n1, v1), (n2, v2)]))
theorem pmk_x {x : Str} {a b : Expr} {ta : TA} {p pos : Pos} {k : Nat} (T : PySem.MX.Txt X.prog X.K X.mg n1 n2 C fI) (hr : Room k X.A) (ha : PA X [a, b] ta) (hg : Gl X x) (gC : X.mg x = some (.ref C)) (hdb : (x == ("__debug__" : Str)) = false)
    (he : starEach (a :: [b]) X.env = (false, eval a X.env) :: starEach [b] X.env) (hpl : (backTo pos (starEach [b] X.env)).any (·.1) = false) :
    PMk X (.Call (.Name x p) [a, b] [] pos) (tMkX n1 n2 C ta) := by
  intro pins s σ H Q I h
  refine wpAny_Call_Name_kw (ld_glob I hg gC ?_ hdb)
  refine PySem.W.callWith_K (h₀ := X.base) I.ok.mod.kin T.kC (thn (ha.run pos pins s σ H _ I h) fun us s1 hh => ?_) he hpl
  obtain ⟨vs, H1, I1, r1, v1, v2, ev, q1⟩ := hh
  subst ev
  refine ⟨I1.kIn, ?_⟩
  cases r1 with
  | @cons _ u1 _ us1 rv1 rn =>
    cases rn with
    | @cons _ u2 _ us2 rv2 rn2 =>
      cases rn2
      show wpAny _ _ (call (.ref C) [u1, u2]) _ _ _
      have hlim := I1.nolimit
      have G := I1.mod.glob.keeps I1.bk
      obtain ⟨mb, B, hb⟩ := I1.mod.blt
      have B' := B.keeps I1.bk
      obtain ⟨hp, g, dr, tk, os⟩ := s1
      refine wpAny_call (PySem.MX.x_made T I1.kIn G B' hb hlim (by have := hr.dp; omega) fun h' tk' e d M => ?_)
      show MkP X pins σ Q (.ref e) ⟨h', g, dr, tk', os⟩
      obtain ⟨oe, fv, hoe, hc, hd, hdat, h1⟩ := M.obj
      have hns := M.ns
      obtain ⟨G', g1, g2⟩ := restrict h' fun b => decide (b ≠ e)
      have gk : ∀ b, b ≠ e → G'.get? b = h'.get? b := fun b hb => g1 b (decide_eq_true hb)
      have ge : G'.get? e = none := g2 e (by simp)
      have old : ∀ b o, hp.get? b = some o → G'.get? b = some o := fun b o q => (gk b (Nat.ne_of_lt (Nat.lt_of_lt_of_le (Heap.lt_size q) M.new))).trans (M.keep b o q)
      have ob : ObjOk X.prog X.w (upd H1 d (.xd [(n1, v1), (n2, v2)])) G' d (.xd [(n1, v1), (n2, v2)]) :=
        ⟨_, hns.at (fun o q => (gk d M.dne).trans q), fun f => relO_two T.d12 rv1 rv2 f⟩
      have J : Inv X pins σ (upd H1 d (.xd [(n1, v1), (n2, v2)])) ⟨G', g, dr, tk', os⟩ := I1.laid (t' := tk') old M.dbig ob
      refine ⟨e, oe, fv, ⟨G', g, dr, tk', os⟩, _, .ref C, some d, rfl, J, fun b o q => ?_, ge, hoe, ⟨hc, hd⟩, hdat, h1, ?_, rfl, I1.bare, raises_own T.exC T.tyC, q1 d (I1.hok.fresh M.dbig)⟩
      · by_cases hb : b = e
        · have q' : G'.get? b = some o := q
          rw [hb, ge] at q'; cases q'
        · exact (gk b hb).symm.trans q
      · rw [upd_ne (Ne.symm M.dne)]
        exact I1.hok.fresh M.new
/-- C(), C an own exception class without own __init__ -/
theorem pmk_none {bmB : List Value} {B newId initId : String} {x : Str} {p pos : Pos} (F : ExcBaseFacts B newId initId bmB) (q : PySem.W.excIn X.K C bmB newId = true) (gC : X.mg x = some (.ref C))
    (kC : PySem.W.keepIn X.K (.ref C) = true) (r : Raises X (.ref C)) (hg : Gl X x) (hdb : (x == ("__debug__" : Str)) = false) :
    PMk X (.Call (.Name x p) [] [] pos) (fun _ H Q => Q (.ref C) none H) := by
  intro pins s σ H Q I h
  refine wpAny_Call_Name_kw (ld_glob I hg gC ?_ hdb)
  refine PySem.W.callWith_K0 I.kIn kC ?_
  show wpAny _ _ (call (.ref C) []) _ _ _
  obtain ⟨bm, N, nm, qn, bs, hdct, sn, sub, ab, col, dd, k0, k1, k2, k3, k5, mN, hC, hN, hni, T⟩ := exc_obj I.kIn q
  refine wpAny_call_exc_subT F T hC hN hni (fun h' e hm => ?_) (Nat.zero_le _)
  exact mk_of I hm r h (I.hok.gone hm.new)
end

/-! ### several clauses, each with a name or none -/
abbrev Cl := Value × Option Nat × (Addr → Value → Option Addr → TS)
def wGen (K : PySem.W.Frag) (Wout : WX) (D : Ends) : List Cl → WX
  | [] => Wout
  | (c, none, ts) :: r => fun cls d σ H => ∃ b, PySem.W.exmOne K cls c = some b ∧ (b = true → ∀ a, H a = none → ts a cls d D σ H) ∧ (b = false → wGen K Wout D r cls d σ H)
  | (c, some i, ts) :: r => fun cls d σ H => ∃ b, PySem.W.exmOne K cls c = some b ∧ (b = true → ∀ a, H a = none → ts a cls d { nx := fun σ' H' => D.nx (σ'.set i none) H', rt := D.rt, bk := fun σ' H' => D.bk (σ'.set i none) H', ct := fun σ' H' => D.ct (σ'.set i none) H' } (σ.set i (some (.ref a))) H) ∧ (b = false → wGen K Wout D r cls d σ H)
inductive ClOk (X : Cx) : List ExceptHandler → List Cl → Prop
  | nil : ClOk X [] []
  | bare {x : Str} {c : Value} {ts : Addr → Value → Option Addr → TS} {b₀ : Stmt} {suite : List Stmt} {np pos' : Pos} {hds : List ExceptHandler} {l : List Cl} (hc : Names X x c)
      (hsu : ∀ (a : Addr) (oe : Obj) (cls : Value) (d : Option Addr) (pn : List (Addr × Obj)), Zc cls d oe → (∃ vs, oe.data = .fields vs) → PSs (X.suite a ((a, oe) :: pn)) (b₀ :: suite) (ts a cls d)) (r : ClOk X hds l) :
      ClOk X (.ExceptHandler (some (.Name x np)) none (b₀ :: suite) pos' :: hds) ((c, none, ts) :: l)
  | named {x n : Str} {c : Value} {i : Nat} {ts : Addr → Value → Option Addr → TS} {b₀ : Stmt} {suite : List Stmt} {np pos' : Pos} {hds : List ExceptHandler} {l : List Cl} (hc : Names X x c) (hi : X.N[i]? = some n) (hln : X.env.kindOf n = some .local)
      (hsu : ∀ (a : Addr) (oe : Obj) (cls : Value) (d : Option Addr) (pn : List (Addr × Obj)), Zc cls d oe → (∃ vs, oe.data = .fields vs) → PSs (X.suite a ((a, oe) :: pn)) (b₀ :: suite) (ts a cls d)) (r : ClOk X hds l) :
      ClOk X (.ExceptHandler (some (.Name x np)) (some n) (b₀ :: suite) pos' :: hds) ((c, some i, ts) :: l)
section
variable {X : Cx} {body : List Stmt} {h₀ : ExceptHandler} {hds : List ExceptHandler} {l : List Cl} {pos : Pos} {tb : WX → TS} {Wout : WX}
theorem ps_try_gen (hs : X.stack = X.env :: X.outer) (hf : X.env.frame = some X.env.locals) (hN : X.N.Nodup) (tk : Takes X Wout)
    (hb : ∀ (W : WX) (pn : List (Addr × Obj)) (xe : Value → Shared → Prop), Takes (X.tr pn xe) W → PassesOwn (model X.prog X.w) X.A X.env xe → PSs (X.tr pn xe) body (tb W))
    (hh : ClOk X (h₀ :: hds) l) : PS X (.Try body (h₀ :: hds) [] [] pos) (fun D σ H => tb (wGen X.K Wout D l) D σ H) := by
  refine ⟨fun pins s σ H D I h => ?_⟩
  have ok := I.ok
  have hfr : X.A.frames = some (X.env :: X.outer) := by rw [ok.frames, hs]
  refine wpAny_Try_except ?_
  refine wpAny_mono ((hb (wGen X.K Wout D l) (X.pn ++ pins) (fun e s₁ => wpAny (model X.prog X.w) X.A (noteFrame e X.env) (fun _ s₂ => wpAny (model X.prog X.w) X.A (setFlight e none) (fun _ s₃ =>
    wpAny (model X.prog X.w) X.A (handleBy e X.env (h₀ :: hds)) (SP X pins D) X.xe s₃) X.xe s₂) X.xe s₁) (fun u s' xx => ?_) PassesOwn.looking).run [] s σ H D (I.toTry _) h) (fun f s1 hsp => ?_) (fun e s1 he => he)
  · -- the catch
    obtain ⟨a, B, sI, pins', σ', H', cls, d, rfl, J', nb, up, sky, na, os, ag, w⟩ := xx
    have J : Inv X pins σ' H' sI := J'.ofTry ok
    have sky' : Sky B (X.env :: X.outer) a (Zc cls d) X.env.locals s'.heap := by rw [← hs]; exact sky
    show wpAny (model X.prog X.w) X.A (noteFrame (.ref a) X.env) _ _ _
    refine Sky.land Zc.steady hfr hf sky' fun h3 fl3 up3 => ?_
    have J3 : Inv X pins σ' H' { s' with heap := h3 } := J.landed nb fl3.1 (up.trans up3) os ag
    obtain ⟨oe3, vs3, he3, hz3, hd3⟩ := fl3.there
    have notFr : ∀ {h : Heap} {o : Obj} {vs : Array Value}, h.FunFrames B (X.env :: X.outer) → h.get? a = some o → o.data = .fields vs → a ∉ frs (X.env :: X.outer) := fun {h o vs} ff e dd hm => by
      obtain ⟨_, o', e', hnf⟩ := ff.mem hm
      rw [e] at e'; cases e'
      exact hnf _ dd
    have nfr := notFr fl3.2.2.1 he3 hd3
    have nL : a ≠ X.env.locals := fun z => nfr (List.mem_filterMap.mpr ⟨X.env, List.mem_cons_self, by rw [hf, z]⟩)
    have nF : a ∉ X.fs := fun hm => by
      obtain ⟨e, he, q⟩ := List.mem_filterMap.mp hm
      exact nfr (List.mem_filterMap.mpr ⟨e, List.mem_cons_of_mem _ he, q⟩)
    have S3 := J3.suite he3 hd3 na nL nF
    have test : ∀ {x : Str} {np : Pos} {c : Value} (hc : Names X x c) {Q : Value → Shared → Prop} {E : Value → Shared → Prop}, Q c { s' with heap := h3 } → wpAny (model X.prog X.w) (X.A.mark (some (.ref a))) (eval (.Name x np) X.env) Q E { s' with heap := h3 } := fun {x np c} hc {Q E} q => by
      obtain ⟨hg, hdbg, hm | ⟨hm, hv, hnn⟩⟩ := hc
      · exact ld_glob (X := X.suite a ((a, oe3) :: (X.pn ++ pins))) S3 hg hm q hdbg
      · exact ld_blt (X := X.suite a ((a, oe3) :: (X.pn ++ pins))) S3 hg hm hv q hnn hdbg
    have go : ∀ {hds' : List ExceptHandler} {l' : List Cl}, ClOk X hds' l' → wGen X.K Wout D l' cls d σ' H' →
        wpAny (model X.prog X.w) X.A (handleBy (.ref a) X.env hds') (SP X pins D) X.xe { s' with heap := h3 } := by
      intro hds' l' hk
      induction hk with
      | nil =>
        intro w
        refine wpAny_handleBy_nil ?_
        obtain ⟨k1, k2, k3, oe, vs, T, oT, ts', he, hz, hd, h1, hr⟩ := id fl3
        unfold PySem.passOn
        refine wpAny_bind (wpAny_field he hd h1 ?_)
        rw [if_neg (show ¬ ((Value.ref T == Value.none) = true) from by simp)]
        have fin : wpAny (model X.prog X.w) X.A (setFlight (.ref a) X.env.frame) (fun _ s4 => wpAny (model X.prog X.w) X.A (throw (.ref a) : Sem Flow) (SP X pins D) X.xe s4) X.xe { s' with heap := h3 } := by
          rw [hf]
          refine HandSPX.setFlight_upZ fl3 fun h4 hh4 up4 => wpAny_throw (tk _ _ ?_)
          exact ⟨a, B, sI, pins, σ', H', cls, d, rfl, J, nb, (up.trans up3).trans up4, .inr (.inr (by rw [hs]; exact hh4)), na, os, ag, w⟩
        first
          | exact wpAny_bind (wpAny_pure (wpAny_bind fin))
          | exact wpAny_bind fin
      | @bare x c ts b₀ suite np pos' hds2 l2 hc hsu r ih =>
        intro w
        obtain ⟨b, hb1, hyes, hno⟩ := w
        refine wpAny_handleBy_cons (codeAny_handlers_test ?_) (by intro q; cases q)
        have LT : PySem.W.Looks (model X.prog X.w) h3 (typeOf (.ref a)) cls := fun A Q E s k q => wpAny_typeOf_ref (k _ _ he3) (by rw [hz3.1]; exact q)
        have LM := PySem.W.exm_one (M := model X.prog X.w) (J3.kIn) LT hb1
        refine test hc (LM.here ?_)
        cases b with
        | true =>
          refine codeAny_handlers_suite ?_
          refine HandSPX.lands_againZ fl3 fun h4 fl4 up4 => ?_
          have J4 : Inv X pins σ' H' { s' with heap := h4 } := J.landed nb fl4.1 ((up.trans up3).trans up4) os ag
          obtain ⟨oe4, vs4, he4, hz4, hd4⟩ := fl4.there
          have S4 := J4.suite he4 hd4 na nL nF
          refine wpAny_mono ((hsu a oe4 cls d (X.pn ++ pins) hz4 ⟨_, hd4⟩).run [] _ _ H' _ S4 (hyes rfl a na)) (fun f s6 hsp => ?_) (fun _ _ z => False.elim z)
          cases f with
          | next =>
            obtain ⟨σ6, H6, S6, q6⟩ := hsp
            exact ⟨_, _, S6.unsuite ok, q6⟩
          | brk =>
            obtain ⟨σ6, H6, S6, q6⟩ := hsp
            exact ⟨_, _, S6.unsuite ok, q6⟩
          | cont =>
            obtain ⟨σ6, H6, S6, q6⟩ := hsp
            exact ⟨_, _, S6.unsuite ok, q6⟩
          | ret u =>
            obtain ⟨v6, σ6, H6, S6, r6, q6⟩ := hsp
            exact ⟨_, _, _, S6.unsuite ok, r6, q6⟩
        | false =>
          show wpAny _ X.A (handleBy (.ref a) X.env hds2) _ _ _
          exact ih (hno rfl)
      | @named x n c i ts b₀ suite np pos' hds2 l2 hc hi hln hsu r ih =>
        intro w
        obtain ⟨b, hb1, hyes, hno⟩ := w
        have hloc : Loc X.env.scope n := .inl hln
        refine wpAny_handleBy_cons (codeAny_handlers_test ?_) (by intro q; cases q)
        have LT : PySem.W.Looks (model X.prog X.w) h3 (typeOf (.ref a)) cls := fun A Q E s k q => wpAny_typeOf_ref (k _ _ he3) (by rw [hz3.1]; exact q)
        have LM := PySem.W.exm_one (M := model X.prog X.w) (J3.kIn) LT hb1
        refine test hc (LM.here ?_)
        cases b with
        | true =>
          refine codeAny_handlers_suite_as ?_
          refine HandSPX.lands_againZ fl3 fun h4 fl4 up4 => ?_
          have J4 : Inv X pins σ' H' { s' with heap := h4 } := J.landed nb fl4.1 ((up.trans up3).trans up4) os ag
          obtain ⟨oe4, vs4, he4, hz4, hd4⟩ := fl4.there
          have S4 := J4.suite he4 hd4 na nL nF
          refine store_ok (X := X.suite a ((a, oe4) :: (X.pn ++ pins))) (v := .ref a) S4 hN hi hloc rfl (fun s5 S5 => ?_) (.inr hln)
          refine wpAny_mono ((hsu a oe4 cls d (X.pn ++ pins) hz4 ⟨_, hd4⟩).run [] s5 _ H' _ S5 (hyes rfl a na)) (fun f s6 hsp => ?_) (fun _ _ z => False.elim z)
          have end_ : ∀ {σ6 : St} {H6 : Hp} {Q : Shared → Prop}, Inv (X.suite a ((a, oe4) :: (X.pn ++ pins))) [] σ6 H6 s6 → (∀ s7, Inv X pins (σ6.set i none) H6 s7 → Q s7) →
              wpAny (model X.prog X.w) X.A (do bindName X.env n .none; unbindBehindTheSuite X.env n pos') (fun _ s7 => Q s7) X.xe s6 := fun {σ6 H6 Q} S6 hq => gone_ok (S6.unsuite ok) hN hi hln hq
          cases f with
          | next =>
            obtain ⟨σ6, H6, S6, q6⟩ := hsp
            exact end_ S6 fun s7 J7 => ⟨_, _, J7, q6⟩
          | brk =>
            obtain ⟨σ6, H6, S6, q6⟩ := hsp
            exact end_ S6 fun s7 J7 => ⟨_, _, J7, q6⟩
          | cont =>
            obtain ⟨σ6, H6, S6, q6⟩ := hsp
            exact end_ S6 fun s7 J7 => ⟨_, _, J7, q6⟩
          | ret u =>
            obtain ⟨v6, σ6, H6, S6, r6, q6⟩ := hsp
            exact end_ S6 fun s7 J7 => ⟨_, _, _, J7, r6, q6⟩
        | false =>
          show wpAny _ X.A (handleBy (.ref a) X.env hds2) _ _ _
          exact ih (hno rfl)
    exact go hh w
  · cases f with
    | next =>
      obtain ⟨σ', H', J', q⟩ := hsp
      exact wpAny_execs_nil ⟨σ', H', J'.ofTry ok, q⟩
    | brk =>
      obtain ⟨σ', H', J', q⟩ := hsp
      exact ⟨σ', H', J'.ofTry ok, q⟩
    | cont =>
      obtain ⟨σ', H', J', q⟩ := hsp
      exact ⟨σ', H', J'.ofTry ok, q⟩
    | ret u =>
      obtain ⟨v, σ', H', J', r, q⟩ := hsp
      exact ⟨v, σ', H', J'.ofTry ok, r, q⟩
end
end L2
end
section
set_option Elab.async false
set_option linter.all false
set_option autoImplicit false
set_option maxRecDepth 100000
set_option maxHeartbeats 4000000
/-! 15: every expression. -/
namespace MPS
open PySem PySem.Spec L2
open PyProof.Rows hiding St
open MP (MV MO MH MSt Res G)
variable {S : Sc} {k : Nat}
theorem Cq.blk {X : Cx} {W : WX} (C : Cq S X k W) (s : Shared) (H : Hp) (scope : Scope) (cl : List (Str × Addr)) (A : Addr) (fp : List Addr) : Cq S (X.blk s H scope (compEnvC scope cl A X.env) fp) k (fun _ _ _ _ => False) :=
  ⟨C.room, C.guards, C.nd, C.calm, takes_none5, C.fc, C.call, C.callm⟩
theorem sG {X : Cx} {W : WX} (C : Cq S X k W) : (∀ (g : MP.G) (e : Expr), ckG X.N X.env.scope X.fn g e = true → SG S X e (MP.slotsG g) (MP.asgn g)) ∧ ∀ (g : MP.G) (es : List Expr), ckGs X.N X.env.scope X.fn g es = true → SGs S X es (MP.slotsG g) (MP.asgns g) ∧ ∀ e ∈ es, notStar e = true := by
  have both : ∀ g : MP.G, (∀ (e : Expr), ckG X.N X.env.scope X.fn g e = true → SG S X e (MP.slotsG g) (MP.asgn g)) ∧ ∀ (es : List Expr), ckGs X.N X.env.scope X.fn g es = true → SGs S X es (MP.slotsG g) (MP.asgns g) ∧ ∀ e ∈ es, notStar e = true := by
    intro g
    induction g with
    | nm i =>
      refine ⟨fun e h => ?_, fun es h => ?_⟩
      · unfold ckG at h
        split at h
        · rename_i j x p hh
          cases hh
          exact SG.nm C h
        · rename_i hh
          cases hh
        · cases h
      · simp only [ckGs] at h
        cases h
    | tup gs ih =>
      refine ⟨fun e h => ?_, fun es h => ?_⟩
      · unfold ckG at h
        split at h
        · rename_i hh
          cases hh
        · rename_i gs' es p1 p2 hh
          cases hh
          obtain ⟨h1, h2⟩ := ih.2 es h
          exact SG.tup C h1 h2
        · cases h
      · simp only [ckGs] at h
        cases h
    | nil =>
      refine ⟨fun e h => ?_, fun es h => ?_⟩
      · simp only [ckG] at h
        cases h
      · unfold ckGs at h
        split at h
        · exact ⟨SGs.nil, by simp⟩
        · rename_i hh; cases hh
        · cases h
    | cons g r ih1 ih2 =>
      refine ⟨fun e h => ?_, fun es h => ?_⟩
      · simp only [ckG] at h
        cases h
      · unfold ckGs at h
        split at h
        · rename_i hh; cases hh
        · rename_i g' r' e es hh
          cases hh
          simp only [Bool.and_eq_true] at h
          obtain ⟨⟨h1, h2⟩, h3⟩ := h
          obtain ⟨h4, h5⟩ := ih2.2 es h3
          refine ⟨SGs.cons (ih1.1 e h2) h4 h1, fun y hy => ?_⟩
          rcases List.mem_cons.mp hy with rfl | hy
          · exact h1
          · exact h5 y hy
        · cases h
  exact ⟨fun g => (both g).1, fun g => (both g).2⟩
mutual
theorem sE : ∀ (x : MP.X) {X : Cx} {W : WX} (C : Cq S X k W) (e : Expr), ckE S.nm X.N X.env.scope X.fn x e = true → SE S X W e (fun ρ => MP.evE (evOf S.T k) x ρ)
  | .loc i, X, W, C, e, h => by
    simp only [ckE] at h
    split at h
    · exact SE.loc h
    · cases h
  | .cst v, X, W, C, e, h => by
    simp only [ckE] at h
    split at h
    · exact SE.const h
    · simp only [Bool.and_eq_true] at h
      exact SE.glob C h.1 h.2
    · cases h
  | .tup as, X, W, C, e, h => by
    simp only [ckE] at h
    split at h
    · exact SE.tup (sA as C _ h)
    · cases h
  | .bin op a b, X, W, C, e, h => by
    simp only [ckE] at h
    split at h
    · simp only [Bool.and_eq_true] at h
      exact SE.bin h.1.1 (sE a C _ h.1.2) (sE b C _ h.2)
    · cases h
  | .neg a, X, W, C, e, h => by
    simp only [ckE] at h
    split at h
    · exact SE.neg (sE a C _ h)
    · cases h
  | .ite c a b, X, W, C, e, h => by
    simp only [ckE] at h
    split at h
    · simp only [Bool.and_eq_true] at h
      exact SE.ite (sT c C _ h.1.1) (sE a C _ h.1.2) (sE b C _ h.2)
    · cases h
  | .and_ a b, X, W, C, e, h => by
    simp only [ckE] at h
    split at h
    · simp only [Bool.and_eq_true] at h
      exact SE.and_ (sE a C _ h.1) (SE.one (sE b C _ h.2))
    · simp only [Bool.and_eq_true] at h
      exact SE.and_ (sE a C _ h.1) (sE b C _ h.2)
    · cases h
  | .or_ a b, X, W, C, e, h => by
    simp only [ckE] at h
    split at h
    · simp only [Bool.and_eq_true] at h
      exact SE.or_ (sE a C _ h.1) (SE.one (sE b C _ h.2))
    · simp only [Bool.and_eq_true] at h
      exact SE.or_ (sE a C _ h.1) (sE b C _ h.2)
    · cases h
  | .not_ a, X, W, C, e, h => by
    simp only [ckE] at h
    split at h
    · exact SE.not_ (sE a C _ h)
    · cases h
  | .cmp op a b, X, W, C, e, h => by
    simp only [ckE] at h
    split at h
    · simp only [Bool.and_eq_true] at h
      exact SE.cmp C h.1.1.1 h.2 (sE a C _ h.1.1.2) (sE b C _ h.1.2)
    · cases h
  | .isN neg a, X, W, C, e, h => by
    simp only [ckE] at h
    split at h
    · rw [Bool.and_eq_true] at h
      exact SE.isN h.1 (sE a C _ h.2)
    · cases h
  | .eqNil neg a, X, W, C, e, h => by
    simp only [ckE] at h
    split at h
    · rw [Bool.and_eq_true] at h
      exact SE.eqNil C h.1 (sE a C _ h.2)
    · cases h
  | .eqNilL neg a, X, W, C, e, h => by
    simp only [ckE] at h
    split at h
    · rw [Bool.and_eq_true] at h
      exact SE.eqNilL C h.1 (sL a C _ h.2)
    · cases h
  | .call f as, X, W, C, e, h => by
    simp only [ckE] at h
    split at h
    · rename_i x p es pos
      simp only [Bool.and_eq_true] at h
      have hs := sA as C _ h.2
      have hn := args_all h.2
      cases es with
      | nil =>
        have e0 : as = .nil := by
          have h2 := h.2
          cases as <;> first
            | rfl
            | (simp only [ckA] at h2; cases h2; done)
        subst e0
        exact SE.call0 C h.1.1 h.1.2
      | cons y ys => exact SE.call1 C h.1.1 h.1.2 hs hn
    · cases h
  | .callV i as, X, W, C, e, h => by
    simp only [ckE] at h
    split at h
    · simp only [Bool.and_eq_true] at h
      exact SE.callV C h.1 (sA as C _ h.2) (args_all h.2)
    · cases h
  | .meth o m as, X, W, C, e, h => by
    simp only [ckE] at h
    split at h
    · rename_i ov nm ap es p
      simp only [Bool.and_eq_true, decide_eq_true_eq] at h
      obtain ⟨⟨⟨⟨⟨h1, h2⟩, h3⟩, h4⟩, h5⟩, h6⟩ := h
      have hs := sA as C _ h3
      have hn := args_all h3
      cases es with
      | nil =>
        have e0 : as = .nil := by
          cases as <;> first
            | rfl
            | (simp only [ckA] at h3; cases h3; done)
        subst e0
        exact SE.meth0 C h1 (sE o C _ h2) h5 h4
      | cons y ys => exact SE.meth1 C h1 (sE o C _ h2) hs hn h6 h5 h4
    · cases h
  | .new c as, X, W, C, e, h => by
    simp only [ckE] at h
    split at h
    · simp only [Bool.and_eq_true] at h
      exact SE.new C h.1.1 h.1.2 (sA as C _ h.2) (args_all h.2)
    · cases h
  | .fld o a, X, W, C, e, h => by
    simp only [ckE] at h
    split at h
    · simp only [Bool.and_eq_true, decide_eq_true_eq] at h
      exact SE.fld C h.1.1 (sE o C _ h.1.2) h.2
    · cases h
  | .idx a i, X, W, C, e, h => by
    simp only [ckE] at h
    split at h
    · simp only [Bool.and_eq_true] at h
      exact SE.idx (sE a C _ h.1.1) (sE i C _ h.1.2) h.2
    · cases h
  | .sl a lo hi, X, W, C, e, h => by
    simp only [ckE] at h
    split at h
    · simp only [Bool.and_eq_true] at h
      exact SE.sl (sE a C _ h.1.1) (sO lo C _ h.1.2) (sO hi C _ h.2)
    · cases h
  | .rev a, X, W, C, e, h => by
    simp only [ckE] at h
    split at h
    · exact SE.rev (sE a C _ h)
    · cases h
  | .bi1 b a, X, W, C, e, h => by
    simp only [ckE] at h
    split at h
    · split at h
      · rename_i z ty hb
        simp only [Bool.and_eq_true] at h
        exact SE.bi1 C hb h.1.1 (sE a C _ h.1.2) h.2
      · cases h
    · split at h
      · simp only [Bool.and_eq_true] at h
        exact SE.inst C h.1.1.1 h.1.1.2 (sE a C _ h.1.2) h.2
      · cases h
    · cases h
  | .bi2 b a c, X, W, C, e, h => by
    simp only [ckE] at h
    split at h
    · simp only [Bool.and_eq_true] at h
      exact SE.bi2 C h.1.1.1.1 (sE a C _ h.1.1.1.2) (sE c C _ h.1.1.2) h.1.2 h.2
    · cases h
  | .fstr as, X, W, C, e, h => by
    simp only [ckE] at h
    split at h
    · rename_i es p
      rw [Bool.and_eq_true] at h
      have hs := sF as C _ h.2
      split at h
      · exact absurd h.1 Bool.false_ne_true
      · rename_i y a b c
        cases as with
        | cons x r =>
          have h2 := h.2
          simp only [ckF] at h2
          split at h2
          · rename_i y' p' ys' hh
            cases hh
            rw [Bool.and_eq_true] at h2
            have er : r = .nil := by
              have h3 := h2.2
              cases r <;> first
                | rfl
                | (simp only [ckF] at h3; cases h3; done)
            subst er
            exact SE.fstr1 (sE x C _ h2.1)
          · rename_i hh
            cases hh
          · cases h2
        | _ =>
          have h2 := h.2
          simp only [ckF] at h2
          cases h2
      · exact absurd h.1 Bool.false_ne_true
      · rename_i e1 e2 e3
        match es, e1, e2, e3, hs with
        | [], e1, _, _, _ => exact absurd rfl e1
        | [x], _, e2, e3, _ => exact absurd rfl (e3 x)
        | x :: y :: r, _, _, _, hs => exact SE.fstr hs
    · cases h
  | .lstOf l, X, W, C, e, h => by
    simp only [ckE] at h
    exact SE.lstOf (sL l C _ h)
  | .tupL l, X, W, C, e, h => by
    simp only [ckE] at h
    split at h
    · simp only [Bool.and_eq_true] at h
      exact SE.tupL C h.1.1 (sL l C _ h.1.2) h.2
    · cases h
  | .allL l, X, W, C, e, h => by
    simp only [ckE] at h
    split at h
    · simp only [Bool.and_eq_true] at h
      exact SE.allL C h.1.1 (sL l C _ h.1.2) h.2
    · cases h
  | .sumL l, X, W, C, e, h => by
    simp only [ckE] at h
    split at h
    · simp only [Bool.and_eq_true] at h
      exact SE.sumL C h.1.1 (sL l C _ h.1.2) h.2
    · cases h
  | .lenL l, X, W, C, e, h => by
    simp only [ckE] at h
    split at h
    · simp only [Bool.and_eq_true] at h
      exact SE.lenL C h.1.1 (sL l C _ h.1.2) h.2
    · cases h
  | .joinL s l, X, W, C, e, h => by
    simp only [ckE] at h
    split at h
    · simp only [Bool.and_eq_true, decide_eq_true_eq] at h
      exact SE.joinL h.1.1.1.1.1 (sE s C _ h.1.1.1.1.2) (sL l C _ h.1.1.1.2) h.1.1.2 h.1.2 h.2
    · cases h
  | .idxL l i, X, W, C, e, h => by
    simp only [ckE] at h
    split at h
    · simp only [Bool.and_eq_true] at h
      exact SE.idxL (sL l C _ h.1.1) (sE i C _ h.1.2) h.2
    · cases h
  | .app o a, X, W, C, e, h => by
    simp only [ckE] at h
    split at h
    · simp only [Bool.and_eq_true, decide_eq_true_eq] at h
      exact SE.app h.1.1.1.1.1 (sE o C _ h.1.1.1.1.2) (sE a C _ h.1.1.1.2) h.1.1.2 h.1.2 h.2
    · cases h
  | .ext o a, X, W, C, e, h => by
    simp only [ckE] at h
    split at h
    · simp only [Bool.and_eq_true, decide_eq_true_eq] at h
      exact SE.ext h.1.1.1.1.1 (sE o C _ h.1.1.1.1.2) (sL a C _ h.1.1.1.2) h.1.1.2 h.1.2 h.2
    · cases h
  | .pop o, X, W, C, e, h => by
    simp only [ckE] at h
    split at h
    · simp only [Bool.and_eq_true, decide_eq_true_eq] at h
      exact SE.pop h.1.1.1 (sE o C _ h.1.1.2) h.1.2 h.2
    · cases h
  | .dnew, X, W, C, e, h => by
    simp only [ckE] at h
    split at h
    · exact SE.dnew
    · cases h
  | .nil, X, W, C, e, h => by simp only [ckE] at h; cases h
  | .cons _ _, X, W, C, e, h => by simp only [ckE] at h; cases h
  | .disp _, X, W, C, e, h => by simp only [ckE] at h; cases h
  | .catL _ _, X, W, C, e, h => by simp only [ckE] at h; cases h
  | .catV _ _, X, W, C, e, h => by simp only [ckE] at h; cases h
  | .slL _ _ _, X, W, C, e, h => by simp only [ckE] at h; cases h
  | .repL _ _, X, W, C, e, h => by simp only [ckE] at h; cases h
  | .ofV _, X, W, C, e, h => by simp only [ckE] at h; cases h
  | .comp _ _ _ _ _, X, W, C, e, h => by simp only [ckE] at h; cases h
  | .itV _, X, W, C, e, h => by simp only [ckE] at h; cases h
  | .itL _, X, W, C, e, h => by simp only [ckE] at h; cases h
  | .rng1 _, X, W, C, e, h => by simp only [ckE] at h; cases h
  | .rng2 _ _, X, W, C, e, h => by simp only [ckE] at h; cases h
  | .enum _, X, W, C, e, h => by simp only [ckE] at h; cases h
  | .zip _ _, X, W, C, e, h => by simp only [ckE] at h; cases h
  | .err _, X, W, C, e, h => by simp only [ckE] at h; cases h
theorem sT : ∀ (x : MP.X) {X : Cx} {W : WX} (C : Cq S X k W) (e : Expr), ckT S.nm X.N X.env.scope X.fn x e = true → ST S X W e (fun ρ => MP.evT (evOf S.T k) x ρ)
  | .and_ a b, X, W, C, e, h => by
    simp only [ckT] at h
    split at h
    · simp only [Bool.and_eq_true] at h
      exact (SW.and_ (sT a C _ h.1) (SW.and1 (sT b C _ h.2))).t
    · simp only [Bool.and_eq_true] at h
      exact (SW.and_ (sT a C _ h.1) (SW.of (sT b C _ h.2))).t
    · cases h
  | .or_ a b, X, W, C, e, h => by
    simp only [ckT] at h
    split at h
    · simp only [Bool.and_eq_true] at h
      exact (SW.or_ (sT a C _ h.1) (SW.or1 (sT b C _ h.2))).t
    · simp only [Bool.and_eq_true] at h
      exact (SW.or_ (sT a C _ h.1) (SW.of (sT b C _ h.2))).t
    · cases h
  | .not_ a, X, W, C, e, h => by
    simp only [ckT] at h
    split at h
    · exact ST.not_ (sT a C _ h)
    · cases h
  | .cmp op a b, X, W, C, e, h => by
    simp only [ckT] at h
    split at h
    · simp only [Bool.and_eq_true] at h
      exact ST.cmp C h.1.1.1 h.2 (sE a C _ h.1.1.2) (sE b C _ h.1.2)
    · cases h
  | .isN neg a, X, W, C, e, h => by
    simp only [ckT] at h
    split at h
    · rw [Bool.and_eq_true] at h
      exact ST.isN h.1 (sE a C _ h.2)
    · cases h
  | .eqNil neg a, X, W, C, e, h => by
    simp only [ckT] at h
    split at h
    · rw [Bool.and_eq_true] at h
      exact ST.eqNil C h.1 (sE a C _ h.2)
    · cases h
  | .eqNilL neg a, X, W, C, e, h => by
    simp only [ckT] at h
    split at h
    · rw [Bool.and_eq_true] at h
      exact ST.eqNilL C h.1 (sL a C _ h.2)
    · cases h
  | .loc i, X, W, C, e, h => by
    simp only [ckT] at h
    split at h
    · exact ST.truth (SE.loc h) fun _ => rfl
    · cases h
  | .cst v, X, W, C, e, h => by
    simp only [ckT] at h
    split at h
    · exact ST.truth (SE.const h) fun _ => rfl
    · simp only [Bool.and_eq_true] at h
      exact ST.truth (SE.glob C h.1 h.2) fun _ => rfl
    · cases h
  | .call f as, X, W, C, e, h => by
    simp only [ckT] at h
    split at h
    · rename_i x p es pos
      simp only [Bool.and_eq_true] at h
      have hs := sA as C _ h.2
      have hn := args_all h.2
      cases es with
      | nil =>
        have e0 : as = .nil := by
          have h2 := h.2
          cases as <;> first
            | rfl
            | (simp only [ckA] at h2; cases h2; done)
        subst e0
        exact ST.truth (SE.call0 C h.1.1 h.1.2) fun _ => rfl
      | cons y ys => exact ST.truth (SE.call1 C h.1.1 h.1.2 hs hn) fun _ => rfl
    · cases h
  | .callV i as, X, W, C, e, h => by
    simp only [ckT] at h
    split at h
    · simp only [Bool.and_eq_true] at h
      exact ST.truth (SE.callV C h.1 (sA as C _ h.2) (args_all h.2)) fun _ => rfl
    · cases h
  | .meth o m as, X, W, C, e, h => by
    simp only [ckT] at h
    split at h
    · rename_i ov nm ap es p
      simp only [Bool.and_eq_true, decide_eq_true_eq] at h
      obtain ⟨⟨⟨⟨⟨h1, h2⟩, h3⟩, h4⟩, h5⟩, h6⟩ := h
      have hs := sA as C _ h3
      have hn := args_all h3
      cases es with
      | nil =>
        have e0 : as = .nil := by
          cases as <;> first
            | rfl
            | (simp only [ckA] at h3; cases h3; done)
        subst e0
        exact ST.truth (SE.meth0 C h1 (sE o C _ h2) h5 h4) fun _ => rfl
      | cons y ys => exact ST.truth (SE.meth1 C h1 (sE o C _ h2) hs hn h6 h5 h4) fun _ => rfl
    · cases h
  | .fld o a, X, W, C, e, h => by
    simp only [ckT] at h
    split at h
    · simp only [Bool.and_eq_true, decide_eq_true_eq] at h
      exact ST.truth (SE.fld C h.1.1 (sE o C _ h.1.2) h.2) fun _ => rfl
    · cases h
  | .idx a i, X, W, C, e, h => by
    simp only [ckT] at h
    split at h
    · simp only [Bool.and_eq_true] at h
      exact ST.truth (SE.idx (sE a C _ h.1.1) (sE i C _ h.1.2) h.2) fun _ => rfl
    · cases h
  | .bi1 b a, X, W, C, e, h => by
    simp only [ckT] at h
    split at h
    · split at h
      · rename_i z ty hb
        simp only [Bool.and_eq_true] at h
        exact ST.truth (SE.bi1 C hb h.1.1 (sE a C _ h.1.2) h.2) fun _ => rfl
      · cases h
    · split at h
      · simp only [Bool.and_eq_true] at h
        exact ST.truth (SE.inst C h.1.1.1 h.1.1.2 (sE a C _ h.1.2) h.2) fun _ => rfl
      · cases h
    · cases h
  | .allL l, X, W, C, e, h => by
    simp only [ckT] at h
    split at h
    · simp only [Bool.and_eq_true] at h
      exact ST.allL C h.1.1 (sL l C _ h.1.2) h.2
    · cases h
  | .nil, X, W, C, e, h => by simp only [ckT] at h; cases h
  | .cons _ _, X, W, C, e, h => by simp only [ckT] at h; cases h
  | .tup _, X, W, C, e, h => by simp only [ckT] at h; cases h
  | .bin _ _ _, X, W, C, e, h => by simp only [ckT] at h; cases h
  | .neg _, X, W, C, e, h => by simp only [ckT] at h; cases h
  | .ite _ _ _, X, W, C, e, h => by simp only [ckT] at h; cases h
  | .new _ _, X, W, C, e, h => by simp only [ckT] at h; cases h
  | .sl _ _ _, X, W, C, e, h => by simp only [ckT] at h; cases h
  | .rev _, X, W, C, e, h => by simp only [ckT] at h; cases h
  | .bi2 _ _ _, X, W, C, e, h => by simp only [ckT] at h; cases h
  | .fstr _, X, W, C, e, h => by simp only [ckT] at h; cases h
  | .lstOf _, X, W, C, e, h => by simp only [ckT] at h; cases h
  | .tupL _, X, W, C, e, h => by simp only [ckT] at h; cases h
  | .sumL _, X, W, C, e, h => by simp only [ckT] at h; cases h
  | .joinL _ _, X, W, C, e, h => by simp only [ckT] at h; cases h
  | .idxL _ _, X, W, C, e, h => by simp only [ckT] at h; cases h
  | .lenL _, X, W, C, e, h => by simp only [ckT] at h; cases h
  | .app _ _, X, W, C, e, h => by simp only [ckT] at h; cases h
  | .ext _ _, X, W, C, e, h => by simp only [ckT] at h; cases h
  | .pop _, X, W, C, e, h => by simp only [ckT] at h; cases h
  | .dnew, X, W, C, e, h => by simp only [ckT] at h; cases h
  | .disp _, X, W, C, e, h => by simp only [ckT] at h; cases h
  | .catL _ _, X, W, C, e, h => by simp only [ckT] at h; cases h
  | .catV _ _, X, W, C, e, h => by simp only [ckT] at h; cases h
  | .slL _ _ _, X, W, C, e, h => by simp only [ckT] at h; cases h
  | .repL _ _, X, W, C, e, h => by simp only [ckT] at h; cases h
  | .ofV _, X, W, C, e, h => by simp only [ckT] at h; cases h
  | .comp _ _ _ _ _, X, W, C, e, h => by simp only [ckT] at h; cases h
  | .itV _, X, W, C, e, h => by simp only [ckT] at h; cases h
  | .itL _, X, W, C, e, h => by simp only [ckT] at h; cases h
  | .rng1 _, X, W, C, e, h => by simp only [ckT] at h; cases h
  | .rng2 _ _, X, W, C, e, h => by simp only [ckT] at h; cases h
  | .enum _, X, W, C, e, h => by simp only [ckT] at h; cases h
  | .zip _ _, X, W, C, e, h => by simp only [ckT] at h; cases h
  | .err _, X, W, C, e, h => by simp only [ckT] at h; cases h
theorem sA (x : MP.X) {X : Cx} {W : WX} (C : Cq S X k W) (es : List Expr) (h : ckA S.nm X.N X.env.scope X.fn x es = true) : SA S X W es (fun ρ => MP.evA (evOf S.T k) x ρ) := by
  cases x with
  | nil =>
    simp only [ckA] at h
    split at h
    · exact SA.nil
    · cases h
  | cons e r =>
    simp only [ckA] at h
    split at h
    · simp only [Bool.and_eq_true] at h
      exact SA.cons (sE e C _ h.1.1) (sA r C _ h.2) h.1.2
    · cases h
  | _ => simp only [ckA] at h; cases h
theorem sF (x : MP.X) {X : Cx} {W : WX} (C : Cq S X k W) (es : List Expr) (h : ckF S.nm X.N X.env.scope X.fn x es = true) : SF S X W es (fun ρ acc => MP.evF (evOf S.T k) x ρ acc) := by
  cases x with
  | nil =>
    simp only [ckF] at h
    split at h
    · exact SF.nil
    · cases h
  | cons e r =>
    simp only [ckF] at h
    split at h
    · simp only [Bool.and_eq_true] at h
      exact SF.cons (sE e C _ h.1) (sF r C _ h.2)
    · rw [Bool.and_eq_true] at h
      have h1 := h.1
      split at h1
      · have e2 := of_decide_eq_true h1
        subst e2
        exact SF.cst (sF r C _ h.2)
      · cases h1
    · cases h
  | _ => simp only [ckF] at h; cases h
theorem sO (x : MP.X) {X : Cx} {W : WX} (C : Cq S X k W) (e : Option Expr) (h : ckO S.nm X.N X.env.scope X.fn x e = true) : SO S X W e (fun ρ => MP.evO (evOf S.T k) x ρ) := by
  cases x with
  | nil =>
    simp only [ckO] at h
    split at h
    · exact SO.none
    · cases h
  | cons y r =>
    simp only [ckO] at h
    split at h
    · exact SO.some (sE y C _ h)
    · cases h
  | _ => simp only [ckO] at h; cases h
theorem sL (x : MP.X) {X : Cx} {W : WX} (C : Cq S X k W) (e : Expr) (h : ckL S.nm X.N X.env.scope X.fn x e = true) : SL S X W e (fun ρ => MP.evL (evOf S.T k) x ρ) := by
  cases x with
  | disp as =>
    simp only [ckL] at h
    split at h
    · exact SL.disp (sA as C _ h)
    · cases h
  | catL a b =>
    simp only [ckL] at h
    split at h
    · simp only [Bool.and_eq_true] at h
      exact SL.catL (sL a C _ h.1) (sL b C _ h.2)
    · cases h
  | catV a b =>
    simp only [ckL] at h
    split at h
    · simp only [Bool.and_eq_true] at h
      exact SL.catV (sE a C _ h.1) (sL b C _ h.2)
    · cases h
  | slL a lo hi =>
    simp only [ckL] at h
    split at h
    · simp only [Bool.and_eq_true] at h
      exact SL.slL (sE a C _ h.1.1) (sO lo C _ h.1.2) (sO hi C _ h.2)
    · cases h
  | repL a b =>
    simp only [ckL] at h
    split at h
    · simp only [Bool.and_eq_true] at h
      exact SL.repL (sL a C _ h.1) (sE b C _ h.2)
    · cases h
  | ofV a =>
    simp only [ckL] at h
    split at h
    · simp only [Bool.and_eq_true] at h
      exact SL.ofV C h.1.1 (sE a C _ h.1.2) h.2
    · cases h
  | rng1 a =>
    simp only [ckL] at h
    split at h
    · simp only [Bool.and_eq_true] at h
      exact SL.rng1 C h.1.1.1 h.1.1.2 (sE a C _ h.1.2) h.2
    · cases h
  | comp sl tg it c x =>
    simp only [ckL] at h
    split at h
    · rename_i elt t i ifs scope pos
      simp only [Bool.and_eq_true] at h
      obtain ⟨⟨⟨⟨⟨⟨⟨h1, h2⟩, h3⟩, h4⟩, h5⟩, h6⟩, h7⟩, h8⟩ := h
      have h1 := of_decide_eq_true h1
      subst h1
      refine (SLc.comp (gs := MP.slotsG tg) (fc := fun r => match (generalizing := false) c with
        | .nil => MP.ret true
        | _ => MP.evT (evOf S.T k) c r) C (sI it C _ _ h5) (blkOk_by h3) h4 (fun s H A cl fp => (sG (C.blk s H scope cl A fp)).1 tg t h6) (fun j hj => ?_) (fun s H A cl fp => ?_) (fun s H A cl fp => sE x (C.blk s H scope cl A fp) elt h8)).sl
      · have := List.all_eq_true.mp h2 j hj
        simpa using this
      · split at h7
        · split at h7
          · exact .inl ⟨rfl, rfl⟩
          · cases h7
        · rename_i y
          rw [Bool.and_eq_true] at h7
          have h9 := sT c (C.blk s H scope cl A fp) y h7.2
          have h10 := h7.1
          refine .inr ⟨y, rfl, ?_⟩
          cases c <;> first
            | exact h9
            | exact absurd h10 Bool.false_ne_true
        · cases h7
    · cases h
  | _ => simp only [ckL] at h; cases h
theorem sI (x : MP.X) {X : Cx} {W : WX} (C : Cq S X k W) (t e : Expr) (h : ckI S.nm X.N X.env.scope X.fn x t e = true) : SI S X W t e (fun ρ => MP.evI (evOf S.T k) x ρ) := by
  cases x with
  | itV a =>
    simp only [ckI] at h
    exact SI.val (sE a C _ h)
  | itL l =>
    simp only [ckI] at h
    exact SI.lst (sL l C _ h)
  | rng1 a =>
    simp only [ckI] at h
    split at h
    · simp only [Bool.and_eq_true] at h
      exact SI.rng1 C h.1.1 (sE a C _ h.1.2) h.2
    · cases h
  | rng2 a b =>
    simp only [ckI] at h
    split at h
    · simp only [Bool.and_eq_true] at h
      exact SI.rng2 C h.1.1.1.1 (sE a C _ h.1.1.1.2) (sE b C _ h.1.1.2) h.1.2 h.2
    · cases h
  | enum a =>
    simp only [ckI] at h
    split at h
    · simp only [Bool.and_eq_true] at h
      exact SI.enum C h.1.1 (sE a C _ h.1.2) h.2
    · cases h
  | _ => simp only [ckI] at h; cases h
end
theorem sLc (sl : List Nat) (tg : G) (it c x : MP.X) {X : Cx} {W : WX} (C : Cq S X k W) (e : Expr) (h : ckL S.nm X.N X.env.scope X.fn (.comp sl tg it c x) e = true) : SLc S X W e (fun ρ => MP.evL (evOf S.T k) (.comp sl tg it c x) ρ) := by
  simp only [ckL] at h
  split at h
  · rename_i elt t i ifs scope pos
    simp only [Bool.and_eq_true] at h
    obtain ⟨⟨⟨⟨⟨⟨⟨h1, h2⟩, h3⟩, h4⟩, h5⟩, h6⟩, h7⟩, h8⟩ := h
    have h1 := of_decide_eq_true h1
    subst h1
    refine SLc.comp (gs := MP.slotsG tg) (fc := fun r => match (generalizing := false) c with
      | .nil => MP.ret true
      | _ => MP.evT (evOf S.T k) c r) C (sI it C _ _ h5) (blkOk_by h3) h4 (fun s H A cl fp => (sG (C.blk s H scope cl A fp)).1 tg t h6) (fun j hj => ?_) (fun s H A cl fp => ?_) (fun s H A cl fp => sE x (C.blk s H scope cl A fp) elt h8)
    · have := List.all_eq_true.mp h2 j hj
      simpa using this
    · split at h7
      · split at h7
        · exact .inl ⟨rfl, rfl⟩
        · cases h7
      · rename_i y
        rw [Bool.and_eq_true] at h7
        have h9 := sT c (C.blk s H scope cl A fp) y h7.2
        have h10 := h7.1
        refine .inr ⟨y, rfl, ?_⟩
        cases c <;> first
          | exact h9
          | exact absurd h10 Bool.false_ne_true
      · cases h7
  · cases h
end MPS
end
section
set_option Elab.async false
set_option linter.all false
set_option autoImplicit false
set_option maxRecDepth 100000
set_option maxHeartbeats 4000000
/-! 16: statements. -/
namespace MPS
open PySem PySem.Spec L2
open PyProof.Rows hiding St
open MP (MV MO MH MSt Res G SRes)
variable {S : Sc} {X : Cx} {W : WX} {k : Nat}

/-- what a statement's run has to bring -/
def GoodS (S : Sc) (K : PySem.W.Frag) (W : WX) (ι : Nat → Addr) (g : MH) (H : Hp) (r : SRes) (D : Ends) : Prop := match r with
  | .ok (.next ρ) g' => ∀ ι' H' σ', Fut S K ι g H ι' g' H' → SimS S K ι' g'.length H' ρ σ' → D.nx σ' H'
  | .ok (.brk ρ) g' => ∀ ι' H' σ', Fut S K ι g H ι' g' H' → SimS S K ι' g'.length H' ρ σ' → D.bk σ' H'
  | .ok (.cont ρ) g' => ∀ ι' H' σ', Fut S K ι g H ι' g' H' → SimS S K ι' g'.length H' ρ σ' → D.ct σ' H'
  | .ok (.ret v) g' => ∀ ι' H', Fut S K ι g H ι' g' H' → ∀ x, RV S K ι' g'.length H' v x → D.rt x H'
  | .exc c fs ρ g' => ∀ ι' cls d σ' H', Fut S K ι g H ι' g' H' → SimS S K ι' g'.length H' ρ σ' → RX S K ι' g'.length H' c fs cls d → W cls d σ' H'
  | .stuck => False
section
variable {K : PySem.W.Frag} {ι ι1 : Nat → Addr} {g g1 : MH} {H H1 : Hp} {D : Ends}
theorem GoodS.fut (s : Sim S K ι g H) (f : Fut S K ι g H ι1 g1 H1) {r : SRes} (h : GoodS S K W ι g H r D) : GoodS S K W ι1 g1 H1 r D := by
  cases r with
  | ok o g' =>
    cases o with
    | next ρ => exact fun ι' H' σ' f' => h ι' H' σ' (f.trans s f')
    | brk ρ => exact fun ι' H' σ' f' => h ι' H' σ' (f.trans s f')
    | cont ρ => exact fun ι' H' σ' f' => h ι' H' σ' (f.trans s f')
    | ret v => exact fun ι' H' f' => h ι' H' (f.trans s f')
  | exc c fs ρ g' => exact fun ι' cls d σ' H' f' => h ι' cls d σ' H' (f.trans s f')
  | stuck => exact h
theorem GoodS.bnd {α : Type} {σ : St} {ρ : MSt} (s : Sim S K ι g H) (ss : SimS S K ι g.length H ρ σ) {m : MP.M α} {j : α → MH → SRes} (h : GoodS S K W ι g H (MP.sbnd m ρ j g) D) : Good S K W σ ι g H (m g) fun ι1 a g1 H1 => GoodS S K W ι1 g1 H1 (j a g1) D := by
  unfold MP.sbnd at h
  cases e : m g with
  | ok a g' =>
    rw [e] at h
    exact fun ι' H' f => h.fut s f
  | exc c fs g' =>
    rw [e] at h
    exact fun ι' cls d H' f r => h ι' cls d σ H' f (ss.fut s f) r
  | stuck =>
    rw [e] at h
    exact h
theorem GoodS.next {σ : St} {ρ : MSt} (s : Sim S K ι g H) (ss : SimS S K ι g.length H ρ σ) (h : GoodS S K W ι g H (.ok (.next ρ) g) D) : D.nx σ H := h ι H σ (Fut.refl s) ss
end
/-- a statement -/
structure SS (S : Sc) (X : Cx) (W : WX) (st : Stmt) (f : MSt → MH → SRes) : Prop where
  ex : ∃ t : TS, PS X st t ∧ ∀ ι g ρ σ H D, Sim S X.K ι g H → SimS S X.K ι g.length H ρ σ → GoodS S X.K W ι g H (f ρ g) D → t D σ H
structure SSs (S : Sc) (X : Cx) (W : WX) (st : List Stmt) (f : MSt → MH → SRes) : Prop where
  ex : ∃ t : TS, PSs X st t ∧ ∀ ι g ρ σ H D, Sim S X.K ι g H → SimS S X.K ι g.length H ρ σ → GoodS S X.K W ι g H (f ρ g) D → t D σ H
/-- a class of one's own over ValueError, without __init__ -/
structure Ex0 (K : PySem.W.Frag) (C : Addr) : Prop where
  ex : PySem.W.excIn K C [.type "ValueError", .type "Exception", .type "BaseException", .type "object"] "ValueError.__new__" = true
  kC : PySem.W.keepIn K (.ref C) = true
  exC : PySem.W.subIn K (.ref C) (.type "BaseException") = some true
  tyC : PySem.W.typeIn K (.ref C) = some (.type "type")
/-- what the written part says of the exceptions -/
structure XFacts (S : Sc) (P : Program) (K : PySem.W.Frag) (mg : Str → Option Value) : Prop where
  exc : ∀ x c, S.nm.gl.lookup x = some (.exc c) → mg x = some (.ref (S.ea c)) ∧ ((S.efs c = [] ∧ Ex0 K (S.ea c)) ∨ ∃ f1 f2 fI, S.efs c = [f1, f2] ∧ PySem.MX.Txt P K mg f1 f2 (S.ea c) fI)
  exm : ∀ c c' b, S.nm.exm c c' = some b → PySem.W.exmOne K (.ref (S.ea c)) (.ref (S.ea c')) = some b
/-- where a statement stands -/
structure Cs (S : Sc) (X : Cx) (k : Nat) (W : WX) : Prop extends Cq S X k W where
  po : PassesOwn (model X.prog X.w) X.A X.env X.xe
  kind : X.env.scope.kind = .function
  stk : X.stack = X.env :: X.outer
  frm : X.env.frame = some X.env.locals
  xf : XFacts S X.prog X.K X.mg
theorem SSs.nil : SSs S X W [] fun ρ g => .ok (.next ρ) g := ⟨_, pss_nil, fun ι g ρ σ H D sm ss hg => hg.next sm ss⟩
theorem SSs.cons {st : Stmt} {rest : List Stmt} {f fr : MSt → MH → SRes} (h1 : SS S X W st f) (h2 : SSs S X W rest fr) : SSs S X W (st :: rest) fun ρ g => match f ρ g with
    | .ok (.next ρ') g' => fr ρ' g'
    | o => o := by
  obtain ⟨t, p, q⟩ := h1
  obtain ⟨u, p2, q2⟩ := h2
  refine ⟨_, pss_cons p p2, fun ι g ρ σ H D sm ss hg => ?_⟩
  refine q ι g ρ σ H _ sm ss ?_
  have hg : GoodS S X.K W ι g H (match f ρ g with
    | .ok (.next ρ') g' => fr ρ' g'
    | o => o) D := hg
  cases e : f ρ g with
  | ok o g' =>
    rw [e] at hg
    cases o with
    | next ρ' => exact fun ι' H' σ' f1 ss' => q2 ι' g' ρ' σ' H' D f1.sim ss' (GoodS.fut sm f1 hg)
    | brk ρ' => exact hg
    | cont ρ' => exact hg
    | ret v => exact hg
  | exc c fs ρ' g' =>
    rw [e] at hg
    exact hg
  | stuck =>
    rw [e] at hg
    exact hg
/-! ### stores -/
theorem sw_plain {e : Expr} {t : Option Expr} {l : Nat} {env : Env} (h : notComp e = true) : swapsWith e t l env = pure false := by
  cases e <;> first
    | rfl
    | exact absurd h Bool.false_ne_true
theorem SS.set (C : Cs S X k W) {i : Nat} {x : Str} {p pos : Pos} {e : Expr} {f : MSt → MP.M MV} (h : storeB X.N X.env.scope X.fn i x = true) (he : SE S X W e f) (hc : notComp e = true) :
    SS S X W (.Assign [.Name x p] e pos) fun ρ g => MP.sbnd (f ρ) ρ (fun v g => .ok (.next (ρ.set i (some v))) g) g := by
  obtain ⟨h1, h2, h3⟩ := store_ok' h
  obtain ⟨ta, pa, qa⟩ := he
  refine ⟨_, ps_set C.nd h1 h2 pa (sw_plain hc) h3, fun ι g ρ σ H D sm ss hg => ?_⟩
  refine qa ι g ρ σ H _ sm ss ((hg.bnd sm ss).imp fun ι1 v g1 H1 f1 h1 x r1 => ?_)
  exact h1.next f1.sim ((ss.fut sm f1).set r1 i)
theorem SS.setLc (C : Cs S X k W) {i : Nat} {x : Str} {p pos cp : Pos} {elt : Expr} {gs : List Comprehension} {scope : Scope} {f : MSt → MP.M (List MV)} (h : X.N[i]? = some x) (hl : X.env.scope.names.lookup x = some .local) (he : SLc S X W (.ListComp elt gs scope cp) f)
    (hp : (p.line == cp.line) = true) (ha : (scope.names.any fun (n, k) => n == x && (k == .local || k == .cell)) = false) :
    SS S X W (.Assign [.Name x p] (.ListComp elt gs scope cp) pos) fun ρ g => MP.sbnd (MP.bnd (f ρ) fun xs => MP.alloc (.lst xs)) ρ (fun v g => .ok (.next (ρ.set i (some v))) g) g := by
  obtain ⟨ta, pa, ps, qa⟩ := he
  have hv : SE S X W (.ListComp elt gs scope cp) fun ρ => MP.bnd (f ρ) fun xs => MP.alloc (.lst xs) := SE.lstOf ⟨ta, pa, qa⟩
  refine ⟨_, ps i x p pos h hl (sw_true C.kind hl hp ha), fun ι g ρ σ H D sm ss hg => ?_⟩
  refine lstOf_go qa sm ss ((hg.bnd sm ss).imp fun ι1 v g1 H1 f1 h1 x r1 => ?_)
  exact h1.next f1.sim ((ss.fut sm f1).set r1 i)
theorem SS.setT (C : Cs S X k W) {ts : List Expr} {sl : List Nat} {j : Nat} {p pos : Pos} {e : Expr} {f : MSt → MP.M MV} {fg : MV → MSt → Option MSt} (hg : SG S X (.Tuple ts j p) sl fg) (he : SE S X W e f) (hc : notComp e = true) (hw : (match (generalizing := false) e with | .Tuple vs _ _ => decide (vs.length ≠ ts.length) || !(ts.length == 2 || ts.length == 3) | _ => true) = true) :
    SS S X W (.Assign [.Tuple ts j p] e pos) fun ρ g => MP.sbnd (f ρ) ρ (fun v g => match fg v ρ with
      | some ρ' => .ok (.next ρ') g
      | none => .stuck) g := by
  obtain ⟨ta, pa, qa⟩ := he
  obtain ⟨tg, pg, qg⟩ := hg
  have hs : swapsWithSole [.Tuple ts j p] e pos.line X.env = pure false := sw_plain (t := some (.Tuple ts j p)) (l := pos.line) (env := X.env) hc
  have hsw : swappedStores [.Tuple ts j p] e X.env = pure none := by
    cases e <;> first
      | rfl
      | (rename_i vs j2 p2
         have hw : (decide (vs.length ≠ ts.length) || !(ts.length == 2 || ts.length == 3)) = true := hw
         show (if (!(ts.length == 2 || ts.length == 3) || vs.length != ts.length || X.env.blockKind != .function) = true then pure none else _ : Sem (Option (List Str))) = pure none
         rw [if_pos]
         rcases Bool.or_eq_true_iff.mp hw with h | h
         · have : (vs.length != ts.length) = true := by simpa using h
           rw [this]
           simp
         · rw [h]
           simp)
  refine ⟨_, ps_asg pa pg hs hsw rfl, fun ι g ρ σ H D sm ss hg => ?_⟩
  refine qa ι g ρ σ H _ sm ss ((hg.bnd sm ss).imp fun ι1 v g1 H1 f1 h1 x r1 => ?_)
  split at h1
  · rename_i ρ' eρ
    exact qg ι1 g1 ρ ρ' σ H1 v x _ f1.sim (ss.fut sm f1) r1 eρ fun σ' ss' _ => h1.next f1.sim ss'
  · exact h1.elim
theorem swC_ok (hk : X.env.scope.kind = .function) {ts vs : List Expr} {names : List Str} {k1 k2 : Nat} {p1 p2 : Pos} (h : swC X.env.scope ts vs names = true) : swappedStores [.Tuple ts k1 p1] (.Tuple vs k2 p2) X.env = pure (some names) := by
  unfold swC at h
  simp only [Bool.and_eq_true, Bool.not_eq_true'] at h
  obtain ⟨⟨⟨⟨⟨⟨⟨h1, h2⟩, h3⟩, h4⟩, h5⟩, h6⟩, h7⟩, h8⟩ := h
  have h4 := of_decide_eq_true h4
  have hb : X.env.blockKind = .function := by unfold Env.blockKind; rw [hk]; rfl
  have hne : (vs.length != ts.length) = false := by simpa using h2
  have n1 : (names.length != ts.length) = false := by simpa using h5
  have n2 : (names.eraseDups.length != names.length) = false := by simpa using h6
  show (if (!(ts.length == 2 || ts.length == 3) || vs.length != ts.length || X.env.blockKind != .function) = true then pure none
    else if (vs.any stC) = true then pure none
    else if ((ts.filterMap (nmC X.env.scope ((ts.head?.map (·.pos.line)).getD 0))).length != ts.length || (ts.filterMap (nmC X.env.scope ((ts.head?.map (·.pos.line)).getD 0))).eraseDups.length != (ts.filterMap (nmC X.env.scope ((ts.head?.map (·.pos.line)).getD 0))).length) = true then pure none
    else if (vs.all (foldedForSure 8)) = true then pure none
    else if (vs.all (constantsAlone 8)) = true then _
    else pure (some (ts.filterMap (nmC X.env.scope ((ts.head?.map (·.pos.line)).getD 0)))) : Sem (Option (List Str))) = pure (some names)
  rw [h4, h1, hne, hb, h3, n1, n2, h7, h8]
  rfl
theorem SS.par2 (C : Cs S X k W) {i j : Nat} {x y : Str} {a b : Expr} {f : MSt → MP.M (List MV)} {kt k2 : Nat} {px py pt pt2 pos : Pos} (hi : X.N[i]? = some x) (hj : X.N[j]? = some y) (hij : i ≠ j) (hx : X.env.scope.names.lookup x = some .local) (hy : X.env.scope.names.lookup y = some .local)
    (hw : swC X.env.scope [.Name x px, .Name y py] [a, b] [x, y] = true) (ha : SA S X W [a, b] f) :
    SS S X W (.Assign [.Tuple [.Name x px, .Name y py] kt pt] (.Tuple [a, b] k2 pt2) pos) fun ρ g => MP.sbnd (f ρ) ρ (fun vs g => match vs with
      | [v, w] => .ok (.next ((ρ.set i (some v)).set j (some w))) g
      | _ => .stuck) g := by
  obtain ⟨ta, pa, qa⟩ := ha
  refine ⟨_, ps_par C.calm C.nd hi hj hij hx hy pa (swC_ok C.kind hw) rfl, fun ι g ρ σ H D sm ss hg => ?_⟩
  refine qa ι g ρ σ H _ sm ss ((hg.bnd sm ss).imp fun ι1 vs g1 H1 f1 h1 xs r1 => ?_)
  cases r1 with
  | nil => exact h1.elim
  | cons rv t1 =>
    cases t1 with
    | nil => exact h1.elim
    | cons rw1 t2 =>
      cases t2 with
      | nil => exact ⟨_, _, rfl, GoodS.next f1.sim ((((ss.fut sm f1).set rv i)).set rw1 j) h1⟩
      | cons _ _ => exact h1.elim
theorem SS.par3 (C : Cs S X k W) {i j l : Nat} {x y z : Str} {a b c : Expr} {f : MSt → MP.M (List MV)} {kt k2 : Nat} {px py pz pt pt2 pos : Pos} (hi : X.N[i]? = some x) (hj : X.N[j]? = some y) (hl : X.N[l]? = some z) (hij : i ≠ j) (hil : i ≠ l) (hjl : j ≠ l) (hx : X.env.scope.names.lookup x = some .local) (hy : X.env.scope.names.lookup y = some .local) (hz : X.env.scope.names.lookup z = some .local)
    (hw : swC X.env.scope [.Name x px, .Name y py, .Name z pz] [a, b, c] [x, y, z] = true) (ha : SA S X W [a, b, c] f) :
    SS S X W (.Assign [.Tuple [.Name x px, .Name y py, .Name z pz] kt pt] (.Tuple [a, b, c] k2 pt2) pos) fun ρ g => MP.sbnd (f ρ) ρ (fun vs g => match vs with
      | [v, w, u] => .ok (.next (((ρ.set i (some v)).set j (some w)).set l (some u))) g
      | _ => .stuck) g := by
  obtain ⟨ta, pa, qa⟩ := ha
  refine ⟨_, ps_par3 C.calm C.nd hi hj hl hij hil hjl hx hy hz pa (swC_ok C.kind hw) rfl, fun ι g ρ σ H D sm ss hg => ?_⟩
  refine qa ι g ρ σ H _ sm ss ((hg.bnd sm ss).imp fun ι1 vs g1 H1 f1 h1 xs r1 => ?_)
  cases r1 with
  | nil => exact h1.elim
  | cons rv t1 =>
    cases t1 with
    | nil => exact h1.elim
    | cons rw1 t2 =>
      cases t2 with
      | nil => exact h1.elim
      | cons rz t3 =>
        cases t3 with
        | nil => exact ⟨_, _, _, rfl, GoodS.next f1.sim (((((ss.fut sm f1).set rv i)).set rw1 j).set rz l) h1⟩
        | cons _ _ => exact h1.elim
end MPS
end
section
set_option Elab.async false
set_option linter.all false
set_option autoImplicit false
set_option maxRecDepth 100000
set_option maxHeartbeats 4000000
/-! 17: statements, further. -/
namespace MPS
open PySem PySem.Spec L2
open PyProof.Rows hiding St
open MP (MV MO MH MSt Res G SRes)
variable {S : Sc} {X : Cx} {W : WX} {k : Nat}

/-! ### simple ones -/
theorem SS.pass {pos : Pos} : SS S X W (.Pass pos) fun ρ g => .ok (.next ρ) g := ⟨_, ps_pass, fun ι g ρ σ H D sm ss hg => hg.next sm ss⟩
theorem SS.brk {pos : Pos} : SS S X W (.Break pos) fun ρ g => .ok (.brk ρ) g := ⟨_, ps_break, fun ι g ρ σ H D sm ss hg => hg ι H σ (Fut.refl sm) ss⟩
theorem SS.cont {pos : Pos} : SS S X W (.Continue pos) fun ρ g => .ok (.cont ρ) g := ⟨_, ps_continue, fun ι g ρ σ H D sm ss hg => hg ι H σ (Fut.refl sm) ss⟩
theorem SS.retN {pos : Pos} : SS S X W (.Return none pos) fun ρ g => .ok (.ret .non) g := ⟨_, ps_retN, fun ι g ρ σ H D sm ss hg => hg ι H (Fut.refl sm) _ .non⟩
theorem SS.ret {e : Expr} {f : MSt → MP.M MV} {pos : Pos} (he : SE S X W e f) : SS S X W (.Return (some e) pos) fun ρ g => MP.sbnd (f ρ) ρ (fun v g => .ok (.ret v) g) g := by
  obtain ⟨ta, pa, qa⟩ := he
  refine ⟨_, ps_ret pa, fun ι g ρ σ H D sm ss hg => ?_⟩
  exact qa ι g ρ σ H _ sm ss ((hg.bnd sm ss).imp fun ι1 v g1 H1 f1 h1 x r1 => h1 ι1 H1 (Fut.refl f1.sim) x r1)
theorem SS.expr {e : Expr} {f : MSt → MP.M MV} {pos : Pos} (he : SE S X W e f) (hc : notComp e = true) : SS S X W (.Expr e pos) fun ρ g => MP.sbnd (f ρ) ρ (fun _ g => .ok (.next ρ) g) g := by
  obtain ⟨ta, pa, qa⟩ := he
  refine ⟨_, ps_expr pa (sw_plain hc), fun ι g ρ σ H D sm ss hg => ?_⟩
  exact qa ι g ρ σ H _ sm ss ((hg.bnd sm ss).imp fun ι1 v g1 H1 f1 h1 x r1 => h1.next f1.sim (ss.fut sm f1))
theorem SS.ife {c : Expr} {p q : List Stmt} {fc : MSt → MP.M Bool} {fa fb : MSt → MH → SRes} {pos : Pos} (hc : ST S X W c fc) (ha : SSs S X W p fa) (hb : SSs S X W q fb) : SS S X W (.If c p q pos) fun ρ g => MP.sbnd (fc ρ) ρ (fun k g => if k then fa ρ g else fb ρ g) g := by
  obtain ⟨tc, pc, qc⟩ := hc
  obtain ⟨ta, pa, qa⟩ := ha
  obtain ⟨tb, pb, qb⟩ := hb
  refine ⟨_, ps_if pc pa pb, fun ι g ρ σ H D sm ss hg => ?_⟩
  refine qc ι g ρ σ H _ sm ss ((hg.bnd sm ss).imp fun ι1 b g1 H1 f1 h1 => ?_)
  cases b with
  | true => exact qa ι1 g1 ρ σ H1 D f1.sim (ss.fut sm f1) h1
  | false => exact qb ι1 g1 ρ σ H1 D f1.sim (ss.fut sm f1) h1

/-! ### loops -/
theorem SS.whl (C : Cs S X k W) {c : Expr} {body : List Stmt} {fc : MSt → MP.M Bool} {fb : MSt → MH → SRes} {pos : Pos} (hc : ST S X W c fc) (hb : SSs S X W body fb) : SS S X W (.While c body [] pos) fun ρ g => MP.loopW fc fb MP.FUEL ρ g := by
  obtain ⟨tc, pc, qc⟩ := hc
  obtain ⟨tb, pb, qb⟩ := hb
  refine ⟨_, ps_while C.po pc pb, fun ι g ρ σ H D sm ss hg => ?_⟩
  refine ⟨fun m σ' H' => ∃ ι' g' ρ', Sim S X.K ι' g' H' ∧ SimS S X.K ι' g'.length H' ρ' σ' ∧ GoodS S X.K W ι' g' H' (MP.loopW fc fb m ρ' g') D, ⟨MP.FUEL, ι, g, ρ, sm, ss, hg⟩, ?_⟩
  intro m σ1 H1 ⟨ι1, g1, ρ1, sm1, ss1, h1⟩
  cases m with
  | zero => exact h1.elim
  | succ m =>
    refine qc ι1 g1 ρ1 σ1 H1 _ sm1 ss1 ?_
    unfold MP.loopW at h1
    cases e : fc ρ1 g1 with
    | exc cc fs g' =>
      rw [e] at h1
      exact fun ι' cls d H' f r => h1 ι' cls d σ1 H' f (ss1.fut sm1 f) r
    | stuck =>
      rw [e] at h1
      exact h1
    | ok b g2 =>
      rw [e] at h1
      intro ι2 H2 f2
      have ss2 := ss1.fut sm1 f2
      cases b with
      | false =>
        have h1 : GoodS S X.K W ι1 g1 H1 (.ok (.next ρ1) g2) D := h1
        exact h1 ι2 H2 σ1 f2 ss2
      | true =>
        rw [if_pos rfl]
        have h1 : GoodS S X.K W ι1 g1 H1 (match fb ρ1 g2 with
          | .ok (.next ρ') g2 => MP.loopW fc fb m ρ' g2
          | .ok (.cont ρ') g2 => MP.loopW fc fb m ρ' g2
          | .ok (.brk ρ') g2 => .ok (.next ρ') g2
          | .ok (.ret v) g2 => .ok (.ret v) g2
          | .exc k fs ρ' g2 => .exc k fs ρ' g2
          | .stuck => .stuck) D := h1
        refine ⟨fun σ' H' => ∃ m', m' < m + 1 ∧ ∃ ι' g' ρ', Sim S X.K ι' g' H' ∧ SimS S X.K ι' g'.length H' ρ' σ' ∧ GoodS S X.K W ι' g' H' (MP.loopW fc fb m' ρ' g') D, fun σ' H' h => h, ?_⟩
        refine qb ι2 g2 ρ1 σ1 H2 _ f2.sim ss2 ?_
        cases eb : fb ρ1 g2 with
        | exc cc fs ρ' g' =>
          rw [eb] at h1
          exact GoodS.fut sm1 f2 h1
        | stuck =>
          rw [eb] at h1
          exact h1
        | ok o g3 =>
          rw [eb] at h1
          cases o with
          | next ρ' => exact fun ι' H' σ' f' ss' => ⟨m, Nat.lt_succ_self _, ι', g3, ρ', f'.sim, ss', GoodS.fut sm1 (f2.trans sm1 f') h1⟩
          | cont ρ' => exact fun ι' H' σ' f' ss' => ⟨m, Nat.lt_succ_self _, ι', g3, ρ', f'.sim, ss', GoodS.fut sm1 (f2.trans sm1 f') h1⟩
          | brk ρ' =>
            have h2 : GoodS S X.K W ι1 g1 H1 (.ok (.next ρ') g3) D := h1
            exact fun ι' H' σ' f' ss' => h2 ι' H' σ' (f2.trans sm1 f') ss'
          | ret v =>
            have h2 : GoodS S X.K W ι1 g1 H1 (.ok (.ret v) g3) D := h1
            exact fun ι' H' f' => h2 ι' H' (f2.trans sm1 f')
theorem SS.for_ (C : Cs S X k W) {tg it : Expr} {body : List Stmt} {sl : List Nat} {fi : MSt → MP.M MP.MIt} {fg : MV → MSt → Option MSt} {fb : MSt → MH → SRes} {pos : Pos} (hi : SI S X W tg it fi) (hg : SG S X tg sl fg) (hb : SSs S X W body fb) (hs : notSet it = true) :
    SS S X W (.For tg it body [] pos) fun ρ g => MP.sbnd (fi ρ) ρ (fun I g => MP.loopF I fg fb MP.FUEL 0 ρ g) g := by
  obtain ⟨wi, pi, qi⟩ := hi
  obtain ⟨tg', pg, qg⟩ := hg
  obtain ⟨tb, pb, qb⟩ := hb
  have hfs : ∀ x : Value, foldedSetIterable it X.env x = pure x := by
    intro x
    cases it <;> first
      | rfl
      | exact absurd hs Bool.false_ne_true
  refine ⟨_, ps_for C.po C.calm pi pg pb hfs, fun ι g ρ σ H D sm ss hg => ?_⟩
  refine qi ι g ρ σ H _ sm ss ((hg.bnd sm ss).imp fun ι1 I g1 H1 f1 h1 J rJ => ?_)
  have ss1 := ss.fut sm f1
  refine ⟨fun i m σ' H' => ∃ ι' g' ρ', Fut S X.K ι1 g1 H1 ι' g' H' ∧ SimS S X.K ι' g'.length H' ρ' σ' ∧ GoodS S X.K W ι' g' H' (MP.loopF I fg fb m i ρ' g') D, ⟨MP.FUEL, ι1, g1, ρ, Fut.refl f1.sim, ss1, h1⟩, ?_⟩
  intro i m σ2 H2 ⟨ι2, g2, ρ2, f2, ss2, h2⟩
  cases m with
  | zero => exact h2.elim
  | succ m =>
    obtain ⟨r1, r2⟩ := rJ ι2 g2 H2 f2 i
    unfold MP.loopF at h2
    split at h2
    · exact h2.elim
    · rename_i e
      exact .inl ⟨r1 e, h2.next f2.sim ss2⟩
    · rename_i v e
      obtain ⟨go, yl⟩ := r2 v e
      refine .inr ⟨go, fun σ' H' => ∃ m', m' < m + 1 ∧ ∃ ι' g' ρ', Fut S X.K ι1 g1 H1 ι' g' H' ∧ SimS S X.K ι' g'.length H' ρ' σ' ∧ GoodS S X.K W ι' g' H' (MP.loopF I fg fb m' (i + 1) ρ' g') D, fun σ' H' h => h, fun x H3 hy => ?_⟩
      obtain ⟨f3, rv⟩ := yl x H3 hy
      split at h2
      · exact h2.elim
      · rename_i ρ' eρ
        refine qg ι2 g2 ρ2 ρ' σ2 H3 v x _ f3.sim (ss2.fut f2.sim f3) rv eρ fun σ' ss' _ => ?_
        refine qb ι2 g2 ρ' σ' H3 _ f3.sim ss' ?_
        have h3 := GoodS.fut f2.sim f3 h2
        have f13 := f2.trans f1.sim f3
        cases eb : fb ρ' g2 with
        | exc cc fs ρ' g' =>
          rw [eb] at h3
          exact h3
        | stuck =>
          rw [eb] at h3
          exact h3
        | ok o g3 =>
          rw [eb] at h3
          cases o with
          | next ρ' => exact fun ι' H' σ' f' ss' => ⟨m, Nat.lt_succ_self _, ι', g3, ρ', f13.trans f1.sim f', ss', GoodS.fut f3.sim f' h3⟩
          | cont ρ' => exact fun ι' H' σ' f' ss' => ⟨m, Nat.lt_succ_self _, ι', g3, ρ', f13.trans f1.sim f', ss', GoodS.fut f3.sim f' h3⟩
          | brk ρ' =>
            have h4 : GoodS S X.K W ι2 g2 H3 (.ok (.next ρ') g3) D := h3
            exact fun ι' H' σ' f' ss' => h4 ι' H' σ' f' ss'
          | ret v =>
            have h4 : GoodS S X.K W ι2 g2 H3 (.ok (.ret v) g3) D := h3
            exact fun ι' H' f' => h4 ι' H' f'

/-! ### fields, items, op= -/
theorem put_ok {K : PySem.W.Frag} {ι : Nat → Addr} {n : Nat} {H : Hp} (nd : S.attrs.Nodup) {a : Nat} {nm : Str} (ha : S.attrs[a]? = some nm) {v : MV} {x : V} (r : RV S K ι n H v x) : ∀ {fs : List (Nat × MV)} {vs : List (Str × V)}, Paired (fun (p : Nat × MV) (q : Str × V) => S.attrs[p.1]? = some q.1 ∧ RV S K ι n H p.2 q.2) fs vs → Paired (fun (p : Nat × MV) (q : Str × V) => S.attrs[p.1]? = some q.1 ∧ RV S K ι n H p.2 q.2) (MP.putF a v fs) (L2.putF nm x vs)
  | _, _, .nil => .cons ⟨ha, r⟩ .nil
  | (b, w) :: fs, (c, y) :: vs, .cons ⟨h1, h2⟩ t => by
    unfold MP.putF L2.putF
    by_cases e : b = a
    · subst e
      have e2 : c = nm := by
        have h1' : S.attrs[b]? = some c := h1
        rw [ha] at h1'
        exact (Option.some.inj h1').symm
      rw [if_pos rfl, if_pos e2]
      exact .cons ⟨h1, r⟩ t
    · have e2 : ¬ c = nm := fun z => by
        subst z
        exact e (at_inj nd h1 ha)
      rw [if_neg e, if_neg e2]
      exact .cons ⟨h1, h2⟩ (put_ok nd ha r t)
/-- what a field's store leads to -/
theorem fldPut_ok (C : Cs S X k W) {a : Nat} {nm : Str} (ha : S.attrs[a]? = some nm) {ι : Nat → Addr} {g g' : MH} {H : Hp} {v w : MV} {x y : V} (sm : Sim S X.K ι g H) (rv : RV S X.K ι g.length H v x) (rw_ : RV S X.K ι g.length H w y) (e : MP.fldPut S.T v a w g = some g') :
    ∃ p C dx fs, x = .ref p ∧ H p = some (.ins C dx fs) ∧ Cls X.K C ∧ NoAttr X.K C nm ∧ fs.length < 1000 ∧ Fut S X.K ι g H ι g' (upd H p (.ins C dx (L2.putF nm y fs))) := by
  unfold MP.fldPut at e
  split at e
  · rename_i l
    split at e
    · rename_i c fs eg
      split at e
      · rename_i hc
        cases e
        simp only [Bool.and_eq_true, decide_eq_true_eq] at hc
        obtain ⟨hf, hz⟩ := hc
        unfold MP.hasFld at hf
        split at hf
        · rename_i kl ek
          cases rv with
          | loc hl =>
            obtain ⟨dx, vs, e3, pr⟩ := sm.obj l _ eg
            refine ⟨_, _, dx, vs, rfl, e3, C.fc.clsC c kl ek, C.fc.noat c kl a ek hf nm ha, by rw [← Paired.length pr]; exact hz, ?_⟩
            exact Fut.write sm hl (.inr (.inl ⟨_, _, _, rfl⟩)) fun H' eH m1 m2 => ⟨dx, L2.putF nm y vs, by rw [eH]; exact upd_same, put_ok C.fc.nd ha (m1 _ _ rw_) (Paired.imp (fun _ _ z => ⟨z.1, m1 _ _ z.2⟩) pr)⟩
        · cases hf
      · cases e
    · cases e
  · cases e
theorem Good.chg1 {K : PySem.W.Frag} {σ : St} {ι : Nat → Addr} {g : MH} {H : Hp} {F : MH → Option MH} {Q : (Nat → Addr) → Unit → MH → Hp → Prop} (h : Good S K W σ ι g H (MP.chg F g) Q) : ∃ g3, F g = some g3 ∧ ∀ ι' H', Fut S K ι g H ι' g3 H' → Q ι' () g3 H' := by
  unfold MP.chg at h
  cases e : F g with
  | none =>
    rw [e] at h
    exact h.elim
  | some g3 =>
    rw [e] at h
    exact ⟨g3, rfl, h⟩
theorem SS.setF (C : Cs S X k W) {o e : Expr} {fo fe : MSt → MP.M MV} {a : Nat} {nm : Str} {p pos : Pos} (ha : S.attrs[a]? = some nm) (ho : SE S X W o fo) (he : SE S X W e fe) (hc : notComp e = true) :
    SS S X W (.Assign [.Attribute o nm p] e pos) fun ρ g => MP.sbnd (MP.bnd (fe ρ) fun w => MP.bnd (fo ρ) fun v => MP.chg (MP.fldPut S.T v a w)) ρ (fun _ g => .ok (.next ρ) g) g := by
  obtain ⟨to, po, qo⟩ := ho
  obtain ⟨te, pe, qe⟩ := he
  refine ⟨_, ps_fld po pe (sw_plain hc), fun ι g ρ σ H D sm ss hg => ?_⟩
  refine qe ι g ρ σ H _ sm ss (((hg.bnd sm ss).bnd sm).imp fun ι1 w g1 H1 f1 h1 y r1 => ?_)
  refine qo ι1 g1 ρ σ H1 _ f1.sim (ss.fut sm f1) ((h1.bnd f1.sim).imp fun ι2 v g2 H2 f2 h2 x r2 => ?_)
  obtain ⟨g3, e3, h3⟩ := h2.chg1
  obtain ⟨p, C', dx, fs, e4, e5, e6, e7, e8, f3⟩ := fldPut_ok C ha f2.sim r2 (f2.rv f1.sim r1) e3
  exact ⟨p, C', dx, fs, e4, e5, e6, e7, e8, GoodS.next f3.sim (((ss.fut sm f1).fut f1.sim f2).fut f2.sim f3) (h3 _ _ f3)⟩
theorem idxPut_ok {ι : Nat → Addr} {g g' : MH} {H : Hp} {v i w : MV} {x z y : V} (sm : Sim S X.K ι g H) (rv : RV S X.K ι g.length H v x) (ri : RV S X.K ι g.length H i z) (rw_ : RV S X.K ι g.length H w y) (e : MP.idxPut v i w g = some g') :
    ∃ p xs k j, x = .ref p ∧ z = .int k ∧ H p = some (.lst xs) ∧ L2.ixN xs.length k = some j ∧ Fut S X.K ι g H ι g' (upd H p (.lst (xs.set j y))) := by
  unfold MP.idxPut at e
  split at e
  · rename_i l k
    split at e
    · rename_i xs eg
      obtain ⟨j, ej, rfl⟩ := Option.map_eq_some_iff.mp e
      cases rv with
      | loc hl =>
        cases ri
        obtain ⟨vs, rs, e3⟩ := sm.obj l _ eg
        refine ⟨_, vs, k, j, rfl, rfl, e3, by rw [← rs.length]; exact ej, ?_⟩
        exact Fut.write sm hl (.inl ⟨_, rfl⟩) fun H' eH m1 m2 => ⟨vs.set j y, (m2 _ _ rs).set (m1 _ _ rw_) j, by rw [eH]; exact upd_same⟩
    · cases e
  · cases e
theorem SS.setI {o i e : Expr} {fo fi fe : MSt → MP.M MV} {p pos : Pos} (ho : SE S X W o fo) (hi : SE S X W i fi) (he : SE S X W e fe) (hc : notComp e = true) (hs : notSlice i = true) :
    SS S X W (.Assign [.Subscript o i p] e pos) fun ρ g => MP.sbnd (MP.bnd (fe ρ) fun w => MP.bnd (fo ρ) fun v => MP.bnd (fi ρ) fun j => MP.chg (MP.idxPut v j w)) ρ (fun _ g => .ok (.next ρ) g) g := by
  obtain ⟨to, po, qo⟩ := ho
  obtain ⟨ti, pi, qi⟩ := hi
  obtain ⟨te, pe, qe⟩ := he
  have pg : PG X (.Subscript o i p) (gSub to ti rSetL) := pg_sub po pi set_list (by
    intro v
    cases i <;> first
      | rfl
      | exact absurd hs Bool.false_ne_true)
  have hw : swappedStores [.Subscript o i p] e X.env = pure none := by cases e <;> rfl
  refine ⟨_, ps_asg pe pg (sw_plain (t := some (.Subscript o i p)) (l := pos.line) (env := X.env) hc) hw rfl, fun ι g ρ σ H D sm ss hg => ?_⟩
  refine qe ι g ρ σ H _ sm ss (((hg.bnd sm ss).bnd sm).imp fun ι1 w g1 H1 f1 h1 y r1 => ?_)
  have ss1 := ss.fut sm f1
  refine qo ι1 g1 ρ σ H1 _ f1.sim ss1 ((h1.bnd f1.sim).imp fun ι2 v g2 H2 f2 h2 x r2 => ?_)
  have ss2 := ss1.fut f1.sim f2
  refine qi ι2 g2 ρ σ H2 _ f2.sim ss2 ((h2.bnd f2.sim).imp fun ι3 j g3 H3 f3 h3 z r3 => ?_)
  obtain ⟨g4, e4, h4⟩ := h3.chg1
  obtain ⟨p, xs, kk, jj, e5, e6, e7, e8, f4⟩ := idxPut_ok f3.sim (f3.rv f2.sim r2) r3 (f3.rv f2.sim (f2.rv f1.sim r1)) e4
  exact ⟨p, xs, kk, jj, e5, e6, e7, e8, GoodS.next f4.sim ((ss2.fut f2.sim f3).fut f3.sim f4) (h4 _ _ f4)⟩
def augF : MP.BOp → Int → Int → Int
  | .sub, a, b => a - b
  | _, a, b => a + b
theorem aug_rule {op : MP.BOp} {o : Operator} (h : augB op o = true) : PIp X o (ipI (augF op)) := by
  cases op <;> cases o <;> first
    | exact ip_add
    | exact ip_sub
    | (cases h; done)
theorem augV_ok {op : MP.BOp} {v w z : MV} (h : MP.augV op v w = some z) : ∃ a b, v = .int a ∧ w = .int b ∧ z = .int (augF op a b) := by
  unfold MP.augV at h
  split at h
  · cases h
    exact ⟨_, _, rfl, rfl, rfl⟩
  · cases h
    exact ⟨_, _, rfl, rfl, rfl⟩
  · cases h
theorem SS.aug (C : Cs S X k W) {i : Nat} {x : Str} {p pos : Pos} {op : MP.BOp} {o : Operator} {e : Expr} {f : MSt → MP.M MV} (ho : augB op o = true) (h : storeB X.N X.env.scope X.fn i x = true) (he : SE S X W e f) :
    SS S X W (.AugAssign (.Name x p) o e pos) fun ρ g => MP.sbnd (MP.bnd (MP.lift (MP.getLoc ρ i)) fun v => MP.bnd (f ρ) fun w => MP.lift (MP.augV op v w)) ρ (fun v g => .ok (.next (ρ.set i (some v))) g) g := by
  obtain ⟨h1, h2, h3⟩ := store_ok' h
  obtain ⟨ta, pa, qa⟩ := he
  refine ⟨_, ps_aug C.nd h1 h2 pa (aug_rule ho) h3, fun ι g ρ σ H D sm ss hg => ?_⟩
  obtain ⟨v, e, q⟩ := ((hg.bnd sm ss).bnd sm).lift sm
  unfold MP.getLoc at e
  split at e
  · rename_i w ew
    cases e
    obtain ⟨x, e1, r⟩ := ss.2 i _ ew
    refine ⟨x, e1, ?_⟩
    refine qa ι g ρ σ H _ sm ss ((q.bnd sm).imp fun ι1 w g1 H1 f1 h1 y r1 => ?_)
    obtain ⟨z, ez, q2⟩ := h1.lift f1.sim
    obtain ⟨a, b, rfl, rfl, rfl⟩ := augV_ok ez
    cases r
    cases r1
    exact ⟨a, b, rfl, rfl, q2.next f1.sim ((ss.fut sm f1).set (.int _) i)⟩
  · cases e
def rGetL (K : PySem.W.Frag) : V → V → Hp → VK → Prop := fun x y H Q => ∃ p xs i v, x = .ref p ∧ y = .int i ∧ SqL K H p xs ∧ L2.atI xs i = some v ∧ Q v H
theorem get_list : PGet X (rGetL X.K) := by
  intro pins s σ H x y v u Q I rx ry h
  obtain ⟨p, xs, i, z, rfl, rfl, hq, he, q⟩ := h
  cases rx
  obtain ⟨t, rfl⟩ := ry
  obtain ⟨its, r, pl, hz⟩ := I.list hq
  obtain ⟨j, h1, h2, h3, h4, h5⟩ := atI_get he
  obtain ⟨w, ew, rw'⟩ := r.get h2
  have hl := r.length
  have hn := line63
  have fin : EP X pins σ Q w s := ⟨z, H, I, rw', q⟩
  by_cases h0 : 0 ≤ i
  · have hj : i.toNat = j := by
      rw [seqIndex_of h0 h5] at h1
      exact Option.some.inj h1
    exact wpAny_getItem_list pl.isList h0 (by omega) (by rw [hj]; simpa using ew) fin
  · have hj : (i + (its.toArray.size : Int)).toNat = j := by
      rw [seqIndex_neg (by omega) h4] at h1
      rw [List.size_toArray, ← hl]
      exact Option.some.inj h1
    exact wpAny_getItem_list_neg pl.isList (by omega) (by rw [List.size_toArray] <;> omega) (by omega) (by rw [hj]; simpa using ew) fin
theorem SS.augI {o i e : Expr} {fo fi fe : MSt → MP.M MV} {op : MP.BOp} {q : Operator} {p pos : Pos} (hop : augB op q = true) (ho : SE S X W o fo) (hi : SE S X W i fi) (he : SE S X W e fe) (hs : notSlice i = true) :
    SS S X W (.AugAssign (.Subscript o i p) q e pos) fun ρ g => MP.sbnd (MP.bnd (fo ρ) fun v => MP.bnd (fi ρ) fun j => MP.bnd (MP.look fun g => MP.idxG g v j) fun x => MP.bnd (fe ρ) fun w => MP.bnd (MP.lift (MP.augV op x w)) fun z => MP.chg (MP.idxPut v j z)) ρ (fun _ g => .ok (.next ρ) g) g := by
  obtain ⟨to, po, qo⟩ := ho
  obtain ⟨ti, pi, qi⟩ := hi
  obtain ⟨te, pe, qe⟩ := he
  refine ⟨_, ps_augS po pi get_list pe (aug_rule hop) set_list (by
    intro ov iv new
    cases i <;> first
      | rfl
      | exact absurd hs Bool.false_ne_true), fun ι g ρ σ H D sm ss hg => ?_⟩
  refine qo ι g ρ σ H _ sm ss (((hg.bnd sm ss).bnd sm).imp fun ι1 v g1 H1 f1 h1 x r1 => ?_)
  have ss1 := ss.fut sm f1
  refine qi ι1 g1 ρ σ H1 _ f1.sim ss1 ((h1.bnd f1.sim).imp fun ι2 j g2 H2 f2 h2 y r2 => ?_)
  have ss2 := ss1.fut f1.sim f2
  obtain ⟨u, eu, q3⟩ := (h2.bnd f2.sim).look f2.sim
  have rv2 := f2.rv f1.sim r1
  unfold MP.idxG at eu
  split at eu
  · rename_i l ii
    split at eu
    · rename_i xs eg
      cases r2
      cases rv2 with
      | loc hl =>
        obtain ⟨vs, rs, e3⟩ := f2.sim.obj l _ eg
        unfold MP.atI at eu
        obtain ⟨m, em, e4⟩ := Option.bind_eq_some_iff.mp eu
        obtain ⟨uu, e5, ru⟩ := rs.get e4
        refine ⟨_, vs, ii, uu, rfl, rfl, SqL.of e3, ?_, ?_⟩
        · unfold L2.atI
          have em' : L2.ixN vs.length ii = some m := by rw [← rs.length]; exact em
          rw [em', Option.bind_some]
          exact e5
        · refine qe ι2 g2 ρ σ H2 _ f2.sim ss2 ((q3.bnd f2.sim).imp fun ι3 w g3 H3 f3 h3 y3 r3 => ?_)
          obtain ⟨z, ez, q4⟩ := (h3.bnd f3.sim).lift f3.sim
          obtain ⟨a, b, rfl, rfl, rfl⟩ := augV_ok ez
          cases ru
          cases r3
          refine ⟨a, b, rfl, rfl, ?_⟩
          obtain ⟨g4, e6, h4⟩ := q4.chg1
          have rl3 := f3.rv f2.sim (S := S) (.loc (l := l) hl)
          obtain ⟨p', xs', kk, jj, e7, e8, e9, e10, f4⟩ := idxPut_ok f3.sim rl3 (.int ii) (.int _) e6
          exact ⟨p', xs', kk, jj, e7, e8, e9, e10, GoodS.next f4.sim ((ss2.fut f2.sim f3).fut f3.sim f4) (h4 _ _ f4)⟩
    · cases eu
  · cases eu
end MPS
end
section
set_option Elab.async false
set_option linter.all false
set_option autoImplicit false
set_option maxRecDepth 100000
set_option maxHeartbeats 4000000
/-! 18: raise, try. -/
namespace MPS
open PySem PySem.Spec L2
open PyProof.Rows hiding St
open MP (MV MO MH MSt Res G SRes)
variable {S : Sc} {X : Cx} {W : WX} {k : Nat}

theorem glExc_ok {M : Nm} {x : Str} {c : Nat} (h : glExc M x c = true) : M.gl.lookup x = some (.exc c) := by
  unfold glExc at h
  split at h
  · rename_i g e
    rw [e, of_decide_eq_true h]
  · cases h
theorem SS.raise0 (C : Cs S X k W) {c : Nat} {x : Str} {p pos pos2 : Pos} (h : glB X.env.scope x = true) (hx : glExc S.nm x c = true) (he : S.efs c = []) :
    SS S X W (.Raise (some (.Call (.Name x p) [] [] pos)) none pos2) fun ρ g => MP.sbnd (MP.ret []) ρ (fun vs g => .exc c vs ρ g) g := by
  obtain ⟨h1, h3⟩ := gl_ok h
  obtain ⟨n1, n2, n3⟩ := name_ok h3
  obtain ⟨gC, hk⟩ := C.xf.exc x c (glExc_ok hx)
  rcases hk with ⟨_, E⟩ | ⟨f1, f2, fI, e, _⟩
  · refine ⟨_, ps_raise C.calm C.tk (pmk_none F.excBase_ValueError E.ex gC E.kC (raises_own E.exC E.tyC) h1 n1), fun ι g ρ σ H D sm ss hg => ?_⟩
    have hg : GoodS S X.K W ι g H (.exc c [] ρ g) D := hg
    exact hg ι (.ref (S.ea c)) none σ H (Fut.refl sm) ss ⟨rfl, .inl ⟨he, rfl, rfl⟩⟩
  · rw [he] at e
    cases e
theorem SS.raise2 (C : Cs S X k W) {c : Nat} {x : Str} {y z : Expr} {fa fb : MSt → MP.M MV} {p pos pos2 : Pos} (h : glB X.env.scope x = true) (hx : glExc S.nm x c = true) (he : (S.efs c).length = 2) (ha : SE S X W y fa) (hb : SE S X W z fb) (hn : notStar y = true) (hm : notStar z = true) :
    SS S X W (.Raise (some (.Call (.Name x p) [y, z] [] pos)) none pos2) fun ρ g => MP.sbnd (MP.bnd (fa ρ) fun v => MP.bnd (MP.bnd (fb ρ) fun w => MP.bnd (MP.ret []) fun vs => MP.ret (w :: vs)) fun vs => MP.ret (v :: vs)) ρ (fun vs g => .exc c vs ρ g) g := by
  obtain ⟨h1, h3⟩ := gl_ok h
  obtain ⟨n1, n2, n3⟩ := name_ok h3
  obtain ⟨gC, hk⟩ := C.xf.exc x c (glExc_ok hx)
  rcases hk with ⟨e, _⟩ | ⟨f1, f2, fI, e, T⟩
  · rw [e] at he
    cases he
  · obtain ⟨ta, pa, qa⟩ := ha
    obtain ⟨tb, pb, qb⟩ := hb
    refine ⟨_, ps_raise C.calm C.tk (pmk_x T C.room (pa_cons pa (pa_cons pb pa_nil (one_star hm)) (star_of hn)) h1 gC n1 (star_of hn) (back_any (by simpa using hm))), fun ι g ρ σ H D sm ss hg => ?_⟩
    refine qa ι g ρ σ H _ sm ss (((hg.bnd sm ss).bnd sm).imp fun ι1 v g1 H1 f1' h1 y r1 => ?_)
    rw [bnd_assoc] at h1
    refine qb ι1 g1 ρ σ H1 _ f1'.sim (ss.fut sm f1') ((h1.bnd f1'.sim).imp fun ι2 w g2 H2 f2' h2 z r2 => ?_)
    have h2 : Good S X.K W σ ι2 g2 H2 (MP.ret [v, w] g2) fun ι3 vs g3 H3 => GoodS S X.K W ι3 g3 H3 (.exc c vs ρ g3) D := h2
    have h4 := h2.ret f2'.sim
    refine ⟨y, z, rfl, fun d hd => ?_⟩
    have f3 := Fut.new f2'.sim (o := .xd [(f1, y), (f2, z)]) hd
    have ss2 := ((ss.fut sm f1').fut f1'.sim f2').fut f2'.sim f3
    refine h4 ι2 (.ref (S.ea c)) (some d) σ _ f3 ss2 ⟨rfl, .inr ⟨d, [y, z], rfl, by rw [he]; rfl, ?_, ?_⟩⟩
    · rw [e]
      exact upd_same
    · exact f3.rvs f2'.sim (.cons (f2'.rv f1'.sim r1) (.cons r2 .nil))

/-! ### what a clause's suite returns -/
/-- the suite's expression, in the suite -/
def HE (S : Sc) (X : Cx) (oi : Option Nat) (cs : List Nat) (e : Expr) (f : List MV → Option MV) : Prop :=
  ∃ t : Addr → Value → Option Addr → TE, (∀ (a : Addr) (oe : Obj) (cls : Value) (d : Option Addr) (pn : List (Addr × Obj)), Zc cls d oe → (∃ vs, oe.data = .fields vs) → PE (X.suite a ((a, oe) :: pn)) e (t a cls d)) ∧
    ∀ a cls d ι g σ H fs c v Q, Sim S X.K ι g H → (∀ i, oi = some i → σ[i]? = some (some (.ref a))) → c ∈ cs → RX S X.K ι g.length H c fs cls d → f fs = some v → (∀ ι' H', Fut S X.K ι g H ι' g H' → ∀ x, RV S X.K ι' g.length H' v x → Q x H') → t a cls d σ H Q
def HA (S : Sc) (X : Cx) (oi : Option Nat) (cs : List Nat) (es : List Expr) (f : List MV → Option (List MV)) : Prop :=
  ∃ t : Addr → Value → Option Addr → TA, (∀ (a : Addr) (oe : Obj) (cls : Value) (d : Option Addr) (pn : List (Addr × Obj)), Zc cls d oe → (∃ vs, oe.data = .fields vs) → PA (X.suite a ((a, oe) :: pn)) es (t a cls d)) ∧
    ∀ a cls d ι g σ H fs c vs Q, Sim S X.K ι g H → (∀ i, oi = some i → σ[i]? = some (some (.ref a))) → c ∈ cs → RX S X.K ι g.length H c fs cls d → f fs = some vs → (∀ ι' H', Fut S X.K ι g H ι' g H' → ∀ xs, RVs S X.K ι' g.length H' vs xs → Q xs H') → t a cls d σ H Q
theorem RX.fut {K : PySem.W.Frag} {ι ι1 : Nat → Addr} {g g1 : MH} {H H1 : Hp} {c : Nat} {fs : List MV} {cls : Value} {d : Option Addr} (s : Sim S K ι g H) (f : Fut S K ι g H ι1 g1 H1) (r : RX S K ι g.length H c fs cls d) : RX S K ι1 g1.length H1 c fs cls d := by
  refine ⟨r.1, ?_⟩
  rcases r.2 with h | ⟨dd, vs, e1, e2, e3, e4⟩
  · exact .inl h
  · exact .inr ⟨dd, vs, e1, e2, f.keep _ _ e3 (fun l hl => s.ne hl e3 (fun _ q => nomatch q) (fun _ _ _ q => nomatch q) fun _ q => nomatch q), f.rvs s e4⟩
theorem HE.const {oi : Option Nat} {cs : List Nat} {v : MV} {c : Const} {j : Nat} {pos : Pos} (h : cstB v c = true) : HE S X oi cs (.Constant c j pos) fun _ => some v := by
  have gen : ∀ {y : V}, (∀ X : Cx, PE X (.Constant c j pos) (tC y)) → (∀ ι n H, RV S X.K ι n H v y) → HE S X oi cs (.Constant c j pos) fun _ => some v := fun {y} p r =>
    ⟨fun _ _ _ => tC y, fun a oe cls d pn _ _ => p _, fun a cls d ι g σ H fs c v Q sm _ _ _ e hQ => by
      cases e
      exact hQ ι H (Fut.refl sm) y (r _ _ _)⟩
  cases v <;> cases c <;> first
    | (cases h; done)
    | exact gen (fun _ => pe_non) fun _ _ _ => .non
    | (have e := eq_of_beq h; subst e; exact gen (fun _ => pe_bl) fun _ _ _ => .bl _)
    | (have e := of_decide_eq_true h; subst e; first | exact gen (fun _ => pe_int) fun _ _ _ => .int _ | exact gen (fun _ => pe_str) fun _ _ _ => .str _)
theorem zip_look {n1 n2 f : Str} (hd : (n1 == n2) = false) {j : Nat} (hj : [n1, n2][j]? = some f) {vs : List V} {x : V} (hl : vs.length = 2) (hx : vs[j]? = some x) : ([n1, n2].zip vs).lookup f = some x := by
  match vs, hl with
  | [a, b], _ =>
    show List.lookup f [(n1, a), (n2, b)] = some x
    match j, hj, hx with
    | 0, hj, hx =>
      cases hj
      cases hx
      simp [List.lookup_cons]
    | 1, hj, hx =>
      cases hj
      cases hx
      have : (n2 == n1) = false := by
        simp only [beq_eq_false_iff_ne] at hd ⊢
        exact Ne.symm hd
      simp [List.lookup_cons, this]
    | j + 2, hj, _ => cases hj
theorem HE.err (C : Cs S X k W) {i c : Nat} {x n f : Str} {j : Nat} {p1 p2 : Pos} (hc : S.nm.gl.lookup x = some (.exc c)) (h : locB X.N X.env.scope i n = true) (hf : (S.efs c)[j]? = some f) : HE S X (some i) [c] (.Attribute (.Name n p1) f p2) fun fs => fs[j]? := by
  obtain ⟨h1, h2, h3⟩ := loc_ok h
  obtain ⟨n1, n2, n3⟩ := name_ok h3
  rcases (C.xf.exc x c hc).2 with ⟨e, _⟩ | ⟨f1, f2, fI, e, T⟩
  · rw [e] at hf
    cases hf
  · rw [e] at hf
    have hno : PySem.W.findIn X.K (.ref (S.ea c)) f = some none := by
      match j, hf with
      | 0, hf => cases hf; exact T.no1
      | 1, hf => cases hf; exact T.no2
      | j + 2, hf => cases hf
    refine ⟨fun a cls d => tXf a cls d (S.ea c) f (tVar i), fun a oe cls d pn hz hd => ?_, fun a cls d ι g σ H fs c' v Q sm hi hc' r ev hQ => ?_⟩
    · exact pe_xf ⟨T.ga, T.gg, T.exC, T.hdC⟩ hno hz hd (pe_var (X := X.suite a ((a, oe) :: pn)) h1 h2 n1 n2) rfl
    · have ec : c' = c := by simpa using hc'
      subst ec
      obtain ⟨r1, r2⟩ := r
      refine ⟨.ref a, hi i rfl, rfl, r1, ?_⟩
      rcases r2 with ⟨z, _, _⟩ | ⟨dd, vs, e1, e2, e3, e4⟩
      · rw [e] at z
        cases z
      · obtain ⟨y, ey, ry⟩ := e4.get ev
        refine ⟨dd, _, y, e1, e3, ?_, hQ ι H (Fut.refl sm) y ry⟩
        have e2' : fs.length = 2 := by rw [e2, e]; rfl
        have e5 := e4.length
        rw [e]
        exact zip_look T.d12 hf (by rw [← e5]; exact e2') ey
theorem HA.nil {oi : Option Nat} {cs : List Nat} : HA S X oi cs [] fun _ => some [] :=
  ⟨fun _ _ _ => tNil, fun a oe cls d pn _ _ => pa_nil, fun a cls d ι g σ H fs c vs Q sm _ _ _ e hQ => by
    cases e
    exact hQ ι H (Fut.refl sm) _ .nil⟩
theorem HA.cons {oi : Option Nat} {cs : List Nat} {e : Expr} {es : List Expr} {f : List MV → Option MV} {fr : List MV → Option (List MV)} (h1 : HE S X oi cs e f) (h2 : HA S X oi cs es fr) (hn : notStar e = true) : HA S X oi cs (e :: es) fun fs => match f fs, fr fs with
    | some v, some vs => some (v :: vs)
    | _, _ => none := by
  obtain ⟨t, p, q⟩ := h1
  obtain ⟨u, p2, q2⟩ := h2
  refine ⟨fun a cls d => tCons (t a cls d) (u a cls d), fun a oe cls d pn hz hd => pa_cons (p a oe cls d pn hz hd) (p2 a oe cls d pn hz hd) (star_of hn), fun a cls d ι g σ H fs c vs Q sm hi hc r e hQ => ?_⟩
  replace e : (match f fs, fr fs with
    | some v, some vs => some (v :: vs)
    | _, _ => none) = some vs := e
  split at e
  · rename_i v vr e1 e2
    cases e
    refine q a cls d ι g σ H fs c v _ sm hi hc r e1 fun ι1 H1 f1 x rx => ?_
    refine q2 a cls d ι1 g σ H1 fs c vr _ f1.sim hi hc (r.fut sm f1) e2 fun ι2 H2 f2 xs rxs => ?_
    exact hQ ι2 H2 (f1.trans sm f2) _ (.cons (f2.rv f1.sim rx) rxs)
  · cases e
theorem HE.tup {oi : Option Nat} {cs : List Nat} {es : List Expr} {j : Nat} {pos : Pos} {f : List MV → Option (List MV)} (h : HA S X oi cs es f) (hl : es.length < 100) (hfl : ∀ fs vs, f fs = some vs → vs.length = es.length) : HE S X oi cs (.Tuple es j pos) fun fs => (f fs).map .tup := by
  obtain ⟨t, p, q⟩ := h
  refine ⟨fun a cls d => tTup (t a cls d), fun a oe cls d pn hz hd => pe_tup (p a oe cls d pn hz hd), fun a cls d ι g σ H fs c v Q sm hi hc r e hQ => ?_⟩
  obtain ⟨vs, e1, rfl⟩ := Option.map_eq_some_iff.mp e
  refine q a cls d ι g σ H fs c vs _ sm hi hc r e1 fun ι1 H1 f1 xs rxs => ?_
  have hlen := hfl fs vs e1
  have hl2 := rxs.length
  refine ⟨by rw [sizeLine_eq]; omega, fun pp hp => ?_⟩
  have f2 := Fut.new f1.sim (o := .tup xs) hp
  exact hQ ι1 _ (f1.trans sm f2) _ (.tup (SqT.of upd_same) (f2.rvs f1.sim rxs))
theorem hA_ok {e : MP.X} : ∀ {fs : List MV} {vs : List MV} {M : Nm} {N : List Str} {sc : Scope} {oi : Option Nat} {cs : List Nat} {es : List Expr}, ckHA M N sc oi cs e es = true → MP.evHA e fs = some vs → vs.length = es.length := by
  induction e with
  | nil =>
    intro fs vs M N sc oi cs es h ev
    simp only [ckHA] at h
    split at h
    · cases ev
      rfl
    · cases h
  | cons e r ih1 ih2 =>
    intro fs vs M N sc oi cs es h ev
    simp only [ckHA] at h
    split at h
    · simp only [Bool.and_eq_true] at h
      unfold MP.evHA at ev
      split at ev
      · rename_i v vr e1 e2
        cases ev
        rw [List.length_cons, List.length_cons, ih2 h.2 e2]
      · cases ev
    · cases h
  | _ =>
    intro fs vs M N sc oi cs es h ev
    simp only [ckHA] at h
    cases h
theorem sH (C : Cs S X k W) {oi : Option Nat} {cs : List Nat} (hcs : ∀ i c, oi = some i → cs = [c] → ∃ x, S.nm.gl.lookup x = some (.exc c)) (x : MP.X) (e : Expr) (h : ckH S.nm X.N X.env.scope oi cs x e = true) : HE S X oi cs e (MP.evH x) := by
  cases x with
  | cst v =>
    simp only [ckH] at h
    split at h
    · exact HE.const h
    · cases h
  | err j =>
    simp only [ckH] at h
    split at h
    · split at h
      · rename_i i c
        simp only [Bool.and_eq_true, decide_eq_true_eq] at h
        obtain ⟨x, hx⟩ := hcs i c rfl rfl
        exact HE.err C hx h.1 h.2
      · cases h
    · cases h
  | _ =>
    simp only [ckH] at h
    cases h
theorem sHA (C : Cs S X k W) {oi : Option Nat} {cs : List Nat} (hcs : ∀ i c, oi = some i → cs = [c] → ∃ x, S.nm.gl.lookup x = some (.exc c)) (x : MP.X) : ∀ (es : List Expr), ckHA S.nm X.N X.env.scope oi cs x es = true → HA S X oi cs es (MP.evHA x) := by
  induction x with
  | nil =>
    intro es h
    simp only [ckHA] at h
    split at h
    · exact HA.nil
    · cases h
  | cons e r ih1 ih2 =>
    intro es h
    simp only [ckHA] at h
    split at h
    · simp only [Bool.and_eq_true] at h
      exact HA.cons (sH C hcs e _ h.1.1) (ih2 _ h.2) h.1.2
    · cases h
  | _ =>
    intro es h
    simp only [ckHA] at h
    cases h
theorem sHT (C : Cs S X k W) {oi : Option Nat} {cs : List Nat} (hcs : ∀ i c, oi = some i → cs = [c] → ∃ x, S.nm.gl.lookup x = some (.exc c)) (x : MP.X) (e : Expr) (h : ckHT S.nm X.N X.env.scope oi cs x e = true) : HE S X oi cs e (MP.evHT x) := by
  cases x with
  | tup as =>
    simp only [ckHT] at h
    split at h
    · rename_i es j p
      rw [Bool.and_eq_true] at h
      exact HE.tup (sHA C hcs as es h.2) (of_decide_eq_true h.1) fun fs vs ev => hA_ok h.2 ev
    · cases h
  | cst v => exact sH C hcs (.cst v) e h
  | err j => exact sH C hcs (.err j) e h
  | _ =>
    simp only [ckHT, ckH] at h
    cases h
/-! ### the clauses -/
theorem sHs (C : Cs S X k W) : ∀ (hs : MP.XS) (hds : List ExceptHandler), ckHs S.nm X.N X.env.scope hs hds = true → ∃ l : List Cl, ClOk X hds l ∧
    ∀ ι g H ρ σ c fs cls d D, Sim S X.K ι g H → SimS S X.K ι g.length H ρ σ → RX S X.K ι g.length H c fs cls d → GoodS S X.K W ι g H (MP.hand c fs ρ g hs) D → wGen X.K W D l cls d σ H := by
  intro hs
  induction hs with
  | hnil =>
    intro hds h
    simp only [ckHs] at h
    split at h
    · refine ⟨[], .nil, fun ι g H ρ σ c fs cls d D sm ss r hg => ?_⟩
      have hg : GoodS S X.K W ι g H (.exc c fs ρ g) D := hg
      exact hg ι cls d σ H (Fut.refl sm) ss r
    · cases h
  | hcons cs ns oi e r ih =>
    intro hds h
    simp only [ckHs] at h
    split at h
    · rename_i x np on v rp pos' hds'
      simp only [Bool.and_eq_true] at h
      obtain ⟨⟨⟨⟨h1, h2⟩, h3⟩, h4⟩, h5⟩ := h
      split at h2
      · rename_i c' ec'
        simp only [Bool.and_eq_true, List.all_eq_true, beq_iff_eq] at h2
        obtain ⟨hcs, hns⟩ := h2
        have hcs1 : ∀ i c, oi = some i → cs = [c] → ∃ x, S.nm.gl.lookup x = some (.exc c) := fun i c e1 e2 => by
          subst e1 e2
          split at h3
          · exact absurd ‹some i = none› (by simp)
          · simp only [Bool.and_eq_true] at h3
            have h6 := h3.2
            rw [ec'] at h6
            have h7 := of_decide_eq_true h6
            cases h7
            exact ⟨x, ec'⟩
          · cases h3
        obtain ⟨t, pt, qt⟩ := sHT C hcs1 e v h4
        obtain ⟨l, cl, ql⟩ := ih hds' h5
        obtain ⟨g1, g3⟩ := gl_ok h1
        obtain ⟨n1, n2, n3⟩ := name_ok g3
        have gC := (C.xf.exc x c' ec').1
        have hnames : Names X x (.ref (S.ea c')) := ⟨g1, n1, .inl gC⟩
        have step : ∀ {ι g H ρ c fs cls d D}, RX S X.K ι g.length H c fs cls d → GoodS S X.K W ι g H (MP.hand c fs ρ g (.hcons cs ns oi e r)) D →
            (c ∈ cs ∧ MP.okSlot oi ρ = true ∧ (∃ v, MP.evHT e fs = some v ∧ GoodS S X.K W ι g H (.ok (.ret v) g) D) ∧ PySem.W.exmOne X.K cls (.ref (S.ea c')) = some true) ∨ (GoodS S X.K W ι g H (MP.hand c fs ρ g r) D ∧ PySem.W.exmOne X.K cls (.ref (S.ea c')) = some false) := by
          intro ι g H ρ c fs cls d D rx hg
          have hg : GoodS S X.K W ι g H (if cs.contains c then (if MP.okSlot oi ρ then (match MP.evHT e fs with
            | some v => .ok (.ret v) g
            | none => .stuck) else .stuck) else if ns.contains c then MP.hand c fs ρ g r else .stuck) D := hg
          by_cases e1 : cs.contains c = true
          · rw [if_pos e1] at hg
            have m1 : c ∈ cs := by simpa using e1
            by_cases e2 : MP.okSlot oi ρ = true
            · rw [if_pos e2] at hg
              split at hg
              · rename_i v ev
                exact .inl ⟨m1, e2, ⟨v, ev, hg⟩, by rw [rx.1]; exact C.xf.exm c c' true (hcs c m1)⟩
              · exact hg.elim
            · rw [if_neg e2] at hg
              exact hg.elim
          · rw [if_neg e1] at hg
            by_cases e3 : ns.contains c = true
            · rw [if_pos e3] at hg
              have m2 : c ∈ ns := by simpa using e3
              exact .inr ⟨hg, by rw [rx.1]; exact C.xf.exm c c' false (hns c m2)⟩
            · rw [if_neg e3] at hg
              exact hg.elim
        cases oi with
        | none =>
          cases on with
          | some n => cases h3
          | none =>
            refine ⟨(.ref (S.ea c'), none, fun a cls d => tRet (t a cls d)) :: l, .bare hnames (fun a oe cls d pn hz hd => pss_one (ps_ret (pt a oe cls d pn hz hd))) cl, fun ι g H ρ σ c fs cls d D sm ss rx hg => ?_⟩
            rcases step rx hg with ⟨m1, _, ⟨w, ew, hw⟩, ex⟩ | ⟨hg', ex⟩
            · refine ⟨true, ex, fun _ a ha => ?_, fun q => Bool.noConfusion q⟩
              exact qt a cls d ι g σ H fs c w _ sm (fun i q => nomatch q) m1 rx ew fun ι' H' f' x rx' => hw ι' H' f' x rx'
            · exact ⟨false, ex, fun q => Bool.noConfusion q, fun _ => ql ι g H ρ σ c fs cls d D sm ss rx hg'⟩
        | some i =>
          cases on with
          | none => cases h3
          | some n =>
            simp only [Bool.and_eq_true, decide_eq_true_eq] at h3
            obtain ⟨⟨⟨hn1, hn2⟩, hn3⟩, _⟩ := h3
            have hln : X.env.kindOf n = some .local := by
              unfold isLoc at hn2
              split at hn2
              · rename_i q
                exact q
              · cases hn2
            refine ⟨(.ref (S.ea c'), some i, fun a cls d => tRet (t a cls d)) :: l, .named hnames hn1 hln (fun a oe cls d pn hz hd => pss_one (ps_ret (pt a oe cls d pn hz hd))) cl, fun ι g H ρ σ c fs cls d D sm ss rx hg => ?_⟩
            rcases step rx hg with ⟨m1, ok, ⟨w, ew, hw⟩, ex⟩ | ⟨hg', ex⟩
            · refine ⟨true, ex, fun _ a ha => ?_, fun q => Bool.noConfusion q⟩
              have hi : i < ρ.length := of_decide_eq_true ok
              refine qt a cls d ι g (σ.set i (some (.ref a))) H fs c w _ sm (fun j q => ?_) m1 rx ew fun ι' H' f' x rx' => hw ι' H' f' x rx'
              cases q
              rw [List.getElem?_set_self (by rw [← ss.1]; exact hi)]
            · exact ⟨false, ex, fun q => Bool.noConfusion q, fun _ => ql ι g H ρ σ c fs cls d D sm ss rx hg'⟩
      · cases h2
    · cases h
  | _ =>
    intro hds h
    simp only [ckHs] at h
    cases h
/-! ### try -/
def tOfS (S : Sc) (K : PySem.W.Frag) (W : WX) (f : MSt → MH → SRes) : TS := fun D σ H => ∃ ι g ρ, Sim S K ι g H ∧ SimS S K ι g.length H ρ σ ∧ GoodS S K W ι g H (f ρ g) D
theorem SSs.pe {st : List Stmt} {f : MSt → MH → SRes} (h : SSs S X W st f) : PSs X st (tOfS S X.K W f) := by
  obtain ⟨t, p, q⟩ := h
  exact ⟨fun pins s σ H D I ⟨ι, g, ρ, sm, ss, hg⟩ => p.run pins s σ H D I (q ι g ρ σ H D sm ss hg)⟩
theorem SS.try_ (C : Cs S X k W) {body : List Stmt} {hs : MP.XS} {hd : ExceptHandler} {hds : List ExceptHandler} {f : MSt → MH → SRes} {pos : Pos}
    (hb : ∀ (W' : WX) (pn : List (Addr × Obj)) (xe : Value → Shared → Prop), Takes (X.tr pn xe) W' → PassesOwn (model X.prog X.w) X.A X.env xe → SSs S (X.tr pn xe) W' body f) (hh : ckHs S.nm X.N X.env.scope hs (hd :: hds) = true) :
    SS S X W (.Try body (hd :: hds) [] [] pos) fun ρ g => match f ρ g with
      | .exc c fs ρ' g' => MP.hand c fs ρ' g' hs
      | o => o := by
  obtain ⟨l, cl, ql⟩ := sHs C hs (hd :: hds) hh
  refine ⟨_, ps_try_gen (tb := fun W' => tOfS S X.K W' f) C.stk C.frm C.nd C.tk (fun W' pn xe tk po => (hb W' pn xe tk po).pe) cl, fun ι g ρ σ H D sm ss hg => ?_⟩
  refine ⟨ι, g, ρ, sm, ss, ?_⟩
  have hg : GoodS S X.K W ι g H (match f ρ g with
    | .exc c fs ρ' g' => MP.hand c fs ρ' g' hs
    | o => o) D := hg
  cases e : f ρ g with
  | ok o g' =>
    rw [e] at hg
    cases o <;> exact hg
  | stuck =>
    rw [e] at hg
    exact hg
  | exc c fs ρ' g' =>
    rw [e] at hg
    exact fun ι' cls d σ' H' f' ss' rx => ql ι' g' H' ρ' σ' c fs cls d D f'.sim ss' rx (GoodS.fut sm f' hg)
end MPS
end
section
set_option Elab.async false
set_option linter.all false
set_option autoImplicit false
set_option maxRecDepth 100000
set_option maxHeartbeats 4000000
/-! 19: every statement. -/
namespace MPS
open PySem PySem.Spec L2
open PyProof.Rows hiding St
open MP (MV MO MH MSt Res G SRes)
variable {S : Sc} {k : Nat}
theorem isLoc_ok {sc : Scope} {x : Str} (h : isLoc sc x = true) : sc.names.lookup x = some .local := by
  unfold isLoc at h
  split at h
  · rename_i q
    exact q
  · cases h
theorem Cs.tr {X : Cx} {W W' : WX} (C : Cs S X k W) {pn : List (Addr × Obj)} {xe : Value → Shared → Prop} (tk : Takes (X.tr pn xe) W') (po : PassesOwn (model X.prog X.w) X.A X.env xe) : Cs S (X.tr pn xe) k W' :=
  { room := C.room, guards := C.guards, nd := C.nd, calm := C.calm, tk := tk, fc := C.fc, call := C.call, callm := C.callm, po := po, kind := C.kind, stk := C.stk, frm := C.frm, xf := C.xf }
theorem setLc_ok {M : Nm} {N : List Str} {sc : Scope} {fnB : Str → Bool} {e : MP.X} {elt : Expr} {gs : List Comprehension} {scope : Scope} {cp : Pos} (h : (match e with
        | .lstOf (.comp _ _ _ _ _) => true
        | _ => false) = true) : ∃ a b c d f, e = .lstOf (.comp a b c d f) := by
  split at h
  · exact ⟨_, _, _, _, _, rfl⟩
  · cases h
set_option maxHeartbeats 8000000 in
theorem sS : ∀ s : MP.XS, (∀ {X : Cx} {W : WX} (C : Cs S X k W) (st : Stmt), ckS S.nm X.N X.env.scope X.fn s st = true → SS S X W st (fun ρ g => MP.exS (evOf S.T k) s ρ g)) ∧ ∀ {X : Cx} {W : WX} (C : Cs S X k W) (sts : List Stmt), ckSs S.nm X.N X.env.scope X.fn s sts = true → SSs S X W sts (fun ρ g => MP.exS (evOf S.T k) s ρ g) := by
  intro s
  induction s with
  | nil =>
    refine ⟨fun C st h => ?_, fun C sts h => ?_⟩
    · simp only [ckS] at h
      cases h
    · simp only [ckSs] at h
      split at h
      · exact SSs.nil
      · cases h
  | seq a r ih1 ih2 =>
    refine ⟨fun C st h => ?_, fun C sts h => ?_⟩
    · simp only [ckS] at h
      cases h
    · simp only [ckSs] at h
      split at h
      · rw [Bool.and_eq_true] at h
        exact SSs.cons (ih1.1 C _ h.1) (ih2.2 C _ h.2)
      · cases h
  | set i e =>
    refine ⟨fun {X W} C st h => ?_, fun C sts h => by simp only [ckSs] at h; cases h⟩
    simp only [ckS] at h
    split at h
    · rename_i x p v pos
      rw [Bool.and_eq_true, Bool.and_eq_true] at h
      obtain ⟨⟨h1, h2⟩, h3⟩ := h
      split at h1
      · rename_i elt gs scope cp
        rw [Bool.and_eq_true, Bool.and_eq_true, Bool.and_eq_true] at h1
        obtain ⟨⟨⟨h4, h5⟩, h6⟩, h7⟩ := h1
        obtain ⟨a, b, c, d, f, rfl⟩ := setLc_ok (M := S.nm) (N := X.N) (sc := X.env.scope) (fnB := X.fn) (elt := elt) (gs := gs) (scope := scope) (cp := cp) h4
        simp only [ckE] at h3
        exact SS.setLc C (store_ok' h2).1 (isLoc_ok h5) (sLc a b c d f C.toCq _ h3) h6 (by simpa using h7)
      · exact SS.set C h2 (sE e C.toCq _ h3) h1
    · cases h
  | setT g e =>
    refine ⟨fun {X W} C st h => ?_, fun C sts h => by simp only [ckSs] at h; cases h⟩
    simp only [ckS] at h
    split at h
    · rename_i ts j p v pos
      rw [Bool.and_eq_true, Bool.and_eq_true, Bool.and_eq_true] at h
      obtain ⟨⟨⟨h1, h2⟩, h3⟩, h4⟩ := h
      exact SS.setT C ((sG C.toCq).1 g _ h2) (sE e C.toCq _ h3) h1 h4
    · cases h
  | par2 i j as =>
    refine ⟨fun {X W} C st h => ?_, fun C sts h => by simp only [ckSs] at h; cases h⟩
    simp only [ckS] at h
    split at h
    · simp only [Bool.and_eq_true, decide_eq_true_eq] at h
      obtain ⟨⟨⟨⟨⟨⟨h1, h2⟩, h3⟩, h4⟩, h5⟩, h6⟩, h7⟩ := h
      exact SS.par2 C h1 h2 h3 (isLoc_ok h4) (isLoc_ok h5) h6 (sA as C.toCq _ h7)
    · cases h
  | par3 i j l as =>
    refine ⟨fun {X W} C st h => ?_, fun C sts h => by simp only [ckSs] at h; cases h⟩
    simp only [ckS] at h
    split at h
    · simp only [Bool.and_eq_true, decide_eq_true_eq] at h
      obtain ⟨⟨⟨⟨⟨⟨⟨⟨⟨⟨h1, h2⟩, h3⟩, h4⟩, h5⟩, h6⟩, h7⟩, h8⟩, h9⟩, h10⟩, h11⟩ := h
      exact SS.par3 C h1 h2 h3 h4 h5 h6 (isLoc_ok h7) (isLoc_ok h8) (isLoc_ok h9) h10 (sA as C.toCq _ h11)
    · cases h
  | setF o a e =>
    refine ⟨fun {X W} C st h => ?_, fun C sts h => by simp only [ckSs] at h; cases h⟩
    simp only [ckS] at h
    split at h
    · simp only [Bool.and_eq_true, decide_eq_true_eq] at h
      obtain ⟨⟨⟨h1, h2⟩, h3⟩, h4⟩ := h
      exact SS.setF C h1 (sE o C.toCq _ h2) (sE e C.toCq _ h3) h4
    · cases h
  | setI o i e =>
    refine ⟨fun {X W} C st h => ?_, fun C sts h => by simp only [ckSs] at h; cases h⟩
    simp only [ckS] at h
    split at h
    · simp only [Bool.and_eq_true] at h
      obtain ⟨⟨⟨⟨h1, h2⟩, h3⟩, h4⟩, h5⟩ := h
      exact SS.setI (sE o C.toCq _ h1) (sE i C.toCq _ h2) (sE e C.toCq _ h3) h4 h5
    · cases h
  | aug i op e =>
    refine ⟨fun {X W} C st h => ?_, fun C sts h => by simp only [ckSs] at h; cases h⟩
    simp only [ckS] at h
    split at h
    · simp only [Bool.and_eq_true] at h
      exact SS.aug C h.1.1 h.1.2 (sE e C.toCq _ h.2)
    · cases h
  | augI o i op e =>
    refine ⟨fun {X W} C st h => ?_, fun C sts h => by simp only [ckSs] at h; cases h⟩
    simp only [ckS] at h
    split at h
    · simp only [Bool.and_eq_true] at h
      obtain ⟨⟨⟨⟨h1, h2⟩, h3⟩, h4⟩, h5⟩ := h
      exact SS.augI h1 (sE o C.toCq _ h2) (sE i C.toCq _ h3) (sE e C.toCq _ h4) h5
    · cases h
  | augF o a op e =>
    refine ⟨fun {X W} C st h => ?_, fun C sts h => by simp only [ckSs] at h; cases h⟩
    simp only [ckS] at h
    cases h
  | ife c a b ih1 ih2 =>
    refine ⟨fun {X W} C st h => ?_, fun C sts h => by simp only [ckSs] at h; cases h⟩
    simp only [ckS] at h
    split at h
    · simp only [Bool.and_eq_true] at h
      exact SS.ife (sT c C.toCq _ h.1.1) (ih1.2 C _ h.1.2) (ih2.2 C _ h.2)
    · cases h
  | whl c b ih =>
    refine ⟨fun {X W} C st h => ?_, fun C sts h => by simp only [ckSs] at h; cases h⟩
    simp only [ckS] at h
    split at h
    · simp only [Bool.and_eq_true] at h
      exact SS.whl C (sT c C.toCq _ h.1) (ih.2 C _ h.2)
    · cases h
  | for_ g it b ih =>
    refine ⟨fun {X W} C st h => ?_, fun C sts h => by simp only [ckSs] at h; cases h⟩
    simp only [ckS] at h
    split at h
    · simp only [Bool.and_eq_true] at h
      obtain ⟨⟨⟨h1, h2⟩, h3⟩, h4⟩ := h
      exact SS.for_ C (sI it C.toCq _ _ h2) ((sG C.toCq).1 g _ h1) (ih.2 C _ h3) h4
    · cases h
  | ret e =>
    refine ⟨fun {X W} C st h => ?_, fun C sts h => by simp only [ckSs] at h; cases h⟩
    simp only [ckS] at h
    split at h
    · exact SS.ret (sE e C.toCq _ h)
    · cases h
  | retN =>
    refine ⟨fun {X W} C st h => ?_, fun C sts h => by simp only [ckSs] at h; cases h⟩
    simp only [ckS] at h
    split at h
    · exact SS.retN
    · cases h
  | ex e =>
    refine ⟨fun {X W} C st h => ?_, fun C sts h => by simp only [ckSs] at h; cases h⟩
    simp only [ckS] at h
    split at h
    · rw [Bool.and_eq_true] at h
      exact SS.expr (sE e C.toCq _ h.1) h.2
    · cases h
  | raise c as =>
    refine ⟨fun {X W} C st h => ?_, fun C sts h => by simp only [ckSs] at h; cases h⟩
    simp only [ckS] at h
    split at h
    · rw [Bool.and_eq_true, Bool.and_eq_true] at h
      obtain ⟨⟨h1, h2⟩, h3⟩ := h
      split at h3
      · exact SS.raise0 C h1 h2 (of_decide_eq_true h3)
      · simp only [Bool.and_eq_true, decide_eq_true_eq] at h3
        obtain ⟨⟨⟨⟨h4, h5⟩, h6⟩, h7⟩, h8⟩ := h3
        exact SS.raise2 C h1 h2 h4 (sE _ C.toCq _ h5) (sE _ C.toCq _ h6) h7 h8
      · cases h3
    · cases h
  | pass =>
    refine ⟨fun {X W} C st h => ?_, fun C sts h => by simp only [ckSs] at h; cases h⟩
    simp only [ckS] at h
    split at h
    · exact SS.pass
    · cases h
  | brk =>
    refine ⟨fun {X W} C st h => ?_, fun C sts h => by simp only [ckSs] at h; cases h⟩
    simp only [ckS] at h
    split at h
    · exact SS.brk
    · cases h
  | cont =>
    refine ⟨fun {X W} C st h => ?_, fun C sts h => by simp only [ckSs] at h; cases h⟩
    simp only [ckS] at h
    split at h
    · exact SS.cont
    · cases h
  | try_ b hs ih1 ih2 =>
    refine ⟨fun {X W} C st h => ?_, fun C sts h => by simp only [ckSs] at h; cases h⟩
    simp only [ckS] at h
    split at h
    · rw [Bool.and_eq_true] at h
      exact SS.try_ C (fun W' pn xe tk po => ih1.2 (C.tr tk po) _ h.1) h.2
    · cases h
  | hnil =>
    refine ⟨fun {X W} C st h => ?_, fun C sts h => by simp only [ckSs] at h; cases h⟩
    simp only [ckS] at h
    cases h
  | hcons cs ns i e r ih =>
    refine ⟨fun {X W} C st h => ?_, fun C sts h => by simp only [ckSs] at h; cases h⟩
    simp only [ckS] at h
    cases h
end MPS
end
section
set_option Elab.async false
set_option linter.all false
set_option autoImplicit false
set_option maxRecDepth 100000
set_option maxHeartbeats 4000000
/-! H1: every def keeps its promise; the law called. -/
namespace MPS
open PySem PySem.Spec L2
open PyProof.Rows hiding St
open MP (MV MO MH MSt Res G SRes)
variable {S : Sc}

/-- a def of the text and of the program -/
def DefOk (S : Sc) (K : PySem.W.Frag) (f : Nat) : Prop :=
  ∃ (x qual : Str) (params : Arguments) (body : List Stmt) (scope : Scope) (N ps : List Str) (fd : FuncData) (e : MP.FnE), S.T.fns[f]? = some e ∧ FunD K x qual params body scope [] [] (S.fa f) fd ∧ FnScope N ps scope ∧
    e.ps = ps.length ∧ e.nl = N.length ∧ ckSs S.nm N scope (fun _ => true) e.body body = true ∧ Binds K fd ps []
def Can (S : Sc) (P : Program) (w : World) (K : PySem.W.Frag) (mg : Str → Option Value) (base : Heap) (k f : Nat) : Prop := ∃ (fd : FuncData) (ps : List Str), FnG P w K mg base k (S.fa f) fd ps (spOf S K k f) ∧ Binds K fd ps []
theorem spOf_len {K : PySem.W.Frag} {k f : Nat} {e : MP.FnE} (he : S.T.fns[f]? = some e) {vs : List V} {H : Hp} {Q : VK} {E : XK} (h : spOf S K k f vs H Q E) : vs.length = e.ps := by
  obtain ⟨ι, g, xs, sm, r, hg⟩ := h
  cases k with
  | zero => exact hg.elim
  | succ k =>
    unfold MP.callF at hg
    rw [he] at hg
    by_cases hl : xs.length = e.ps
    · rw [← r.length]
      exact hl
    · exfalso
      have hg : Good S K (fun cls d _ H' => E cls d H') [] ι g H (MP.runF _ e xs g) _ := hg
      unfold MP.runF at hg
      rw [if_neg hl] at hg
      exact hg
theorem sims_start {K : PySem.W.Frag} {ι : Nat → Addr} {n : Nat} {H : Hp} {xs : List MV} {vs : List V} {N : List Str} (r : RVs S K ι n H xs vs) : SimS S K ι n H (xs.map some ++ List.replicate (N.length - xs.length) none) (L2.start N vs) := by
  have hl := r.length
  unfold L2.start
  refine ⟨by simp [hl], fun i v e => ?_⟩
  by_cases hi : i < xs.length
  · rw [List.getElem?_append_left (by simpa using hi), List.getElem?_map] at e
    obtain ⟨y, ey, e2⟩ := Option.map_eq_some_iff.mp e
    cases e2
    obtain ⟨x, ex, rx⟩ := r.get ey
    refine ⟨x, ?_, rx⟩
    rw [List.getElem?_append_left (by rw [List.length_map, ← hl]; exact hi), List.getElem?_map, ex]
    rfl
  · rw [List.getElem?_append_right (by simpa using hi), List.getElem?_replicate] at e
    split at e <;> cases e
theorem fn_step_x {P : Program} {w : World} {K : PySem.W.Frag} {mg : Str → Option Value} {base : Heap} {k f : Nat} (fc : Facts S K mg) (xf : XFacts S P K mg) (call : ∀ f, f < S.T.fns.length → Can S P w K mg base k f) (callm : ∀ j, k = j + 1 → ∀ f, f < S.T.fns.length → Can S P w K mg base j f) {x qual : Str} {params : Arguments} {body : List Stmt} {scope : Scope} {N ps : List Str} {fd : FuncData} {e : MP.FnE} (he : S.T.fns[f]? = some e) (F : FunD K x qual params body scope [] [] (S.fa f) fd) (Sx : FnScope N ps scope)
    (h1 : e.ps = ps.length) (h2 : e.nl = N.length) (hck : ckSs S.nm N scope (fun _ => true) e.body body = true) :
    FnG P w K mg base (k + 1) (S.fa f) fd ps (spOf S K (k + 1) f) := by
  refine fnG_of F Sx (fun vs H Q E h => (spOf_len he h).trans h1) fun cdv A outer s H vs Q E hr hgd hsp => ?_
  have C : Cs S (cxOf (CX P w) P w K mg base N qual scope (S.fa f) cdv A outer s H E) k (fun cls d _ H' => E cls d H') :=
    { room := hr, guards := hgd, nd := Sx.nd, calm := rfl, tk := takes_of rfl rfl rfl rfl, fc := fc, call := call, callm := callm, po := passes_of rfl, kind := Sx.kind, stk := rfl, frm := rfl, xf := xf }
  obtain ⟨t, pt, qt⟩ := (sS e.body).2 C body hck
  refine ⟨t, pt, ?_⟩
  have hlen := spOf_len he hsp
  obtain ⟨ι, g, xs, sm, r, hg⟩ := hsp
  have hxl : xs.length = e.ps := r.length.trans hlen
  refine qt ι g (xs.map some ++ List.replicate (e.nl - xs.length) none) _ H _ sm (by rw [h2]; exact sims_start r) ?_
  have hg : Good S K (fun cls d _ H' => E cls d H') [] ι g H (match MP.exS (evOf S.T k) e.body (xs.map some ++ List.replicate (e.nl - xs.length) none) g with
    | .ok (.next _) g' => .ok .non g'
    | .ok (.ret v) g' => .ok v g'
    | .exc c fs _ g' => .exc c fs g'
    | _ => .stuck) fun ι' v g' H' => ∀ x, RV S K ι' g'.length H' v x → Q x H' := by
    have hg2 := hg
    unfold MP.callF at hg2
    rw [he] at hg2
    have hg3 : Good S K (fun cls d _ H' => E cls d H') [] ι g H (MP.runF (evOf S.T k) e xs g) fun ι' v g' H' => ∀ x, RV S K ι' g'.length H' v x → Q x H' := hg2
    unfold MP.runF at hg3
    rw [if_pos hxl] at hg3
    exact hg3
  show GoodS S K (fun cls d _ H' => E cls d H') ι g H (MP.exS (evOf S.T k) e.body (xs.map some ++ List.replicate (e.nl - xs.length) none) g) _
  cases eq : MP.exS (evOf S.T k) e.body (xs.map some ++ List.replicate (e.nl - xs.length) none) g with
  | ok o g' =>
    rw [eq] at hg
    cases o with
    | next ρ => exact fun ι' H' σ' f' _ => hg ι' H' f' _ .non
    | ret v => exact fun ι' H' f' x rx => hg ι' H' f' x rx
    | brk ρ => exact hg.elim
    | cont ρ => exact hg.elim
  | exc c fs ρ g' =>
    rw [eq] at hg
    exact fun ι' cls d σ' H' f' _ rx => hg ι' cls d H' f' rx
  | stuck =>
    rw [eq] at hg
    exact hg
theorem fn_step {P : Program} {w : World} {K : PySem.W.Frag} {mg : Str → Option Value} {base : Heap} {k f : Nat} (fc : Facts S K mg) (xf : XFacts S P K mg) (call : ∀ f, f < S.T.fns.length → Can S P w K mg base k f) (callm : ∀ j, k = j + 1 → ∀ f, f < S.T.fns.length → Can S P w K mg base j f) (D : DefOk S K f) :
    Can S P w K mg base (k + 1) f := by
  obtain ⟨x, qual, params, body, scope, N, ps, fd, e, he, F, Sx, h1, h2, hck, hb⟩ := D
  exact ⟨fd, ps, fn_step_x fc xf call callm he F Sx h1 h2 hck, hb⟩
theorem all_fns {P : Program} {w : World} {K : PySem.W.Frag} {mg : Str → Option Value} {base : Heap} (fc : Facts S K mg) (xf : XFacts S P K mg) (D : ∀ f, f < S.T.fns.length → DefOk S K f) : ∀ k f, f < S.T.fns.length → Can S P w K mg base k f := by
  have both : ∀ k, (∀ f, f < S.T.fns.length → Can S P w K mg base k f) ∧ ∀ j, k = j + 1 → ∀ f, f < S.T.fns.length → Can S P w K mg base j f := by
    intro k
    induction k with
    | zero =>
      refine ⟨fun f hf => ?_, fun j e => by omega⟩
      obtain ⟨x, qual, params, body, scope, N, ps, fd, e, he, F, Sx, h1, h2, hck, hb⟩ := D f hf
      refine ⟨fd, ps, ⟨fun vs H Q E h => ?_, fun A outer s H args us vs Q E _ _ _ _ _ h => ?_⟩, hb⟩
      · obtain ⟨ι, g, xs, sm, r, hg⟩ := h
        exact hg.elim
      · obtain ⟨ι, g, xs, sm, r, hg⟩ := h
        exact hg.elim
    | succ k ih => exact ⟨fun f hf => fn_step fc xf ih.1 ih.2 (D f hf), fun j e f hf => by cases e; exact ih.1 f hf⟩
  exact fun k => (both k).1

/-! ### the law, called -/
theorem law_G {P : Program} {w : World} {K : PySem.W.Frag} {mg mb : Str → Option Value} {k : Nat} {fa a : Addr} {fd : FuncData} {x : Str} {sp : Sp} {s₁ : Shared} {vs : List Value} {ns : List Int}
    (KX : K.In s₁.heap) (hns : s₁.heap.Ns mainGlobals mg) (hb : s₁.heap.Ns builtinsNs mb) (hbb : ∀ x : Str, x ≠ "__name__" → mb x = bootBuiltins x) (hlim : s₁.heap.NoLimit) (hg : s₁.gens = #[])
    (ha : s₁.heap.get? a = some { cls := .type "list", data := .seq vs.toArray }) (hi : IntsAre vs ns) (hl : ns.length ≤ sizeLine) (hr : Room k callerA)
    (F : ∀ base : Heap, K.In base → base.Ns mainGlobals mg → FnG P w K mg base k fa fd [x] sp) (hbind : ∀ (s : Shared) (u : Value), BindsTo s fd ⟨[u], []⟩ [(x, u)])
    (hsp : ∀ H : Hp, FzL K H a (ns.map V.int) → sp [.ref a] H (fun v _ => v = .bl true) fun _ _ _ => False) :
    codeAny (model P w) callerA (.call (.ref fa) ⟨[.ref a], []⟩) (fun r s' => r = .ok (.ret (.bool true)) ∧ OldK s₁.heap s'.heap ∧ s'.os = s₁.os ∧ AllBare s'.gens) s₁ := by
  have rv := vals_ints hi
  have lenV := hi.length
  have core : ∀ H : Hp, Only H → FzL K H a (ns.map V.int) → HOk P w H s₁.heap → (∀ b, H b ≠ none → b = a) → (H a ≠ none → K.lookup a = none) →
      codeAny (model P w) callerA (.call (.ref fa) ⟨[.ref a], []⟩) (fun r s' => r = .ok (.ret (.bool true)) ∧ OldK s₁.heap s'.heap ∧ s'.os = s₁.os ∧ AllBare s'.gens) s₁ := by
    intro H hO hS hok hA hK
    have base_of : ∀ {b : Addr} {o : Obj}, s₁.heap.get? b = some o → H b = none → (hidT s₁.heap H).get? b = some o := fun e n => hidT_get e n
    have noA : ∀ {b : Addr} {o : Obj} {es : Array DictEntry} {ep : Nat}, s₁.heap.get? b = some o → o.data = .dict es ep → H b = none := fun {b o es ep} e d => by
      cases q : H b with
      | none => rfl
      | some u =>
        have e' : b = a := hA b (by rw [q]; simp)
        subst e'
        rw [ha] at e; cases e
        have d' : Data.seq vs.toArray _ = Data.dict es ep := d
        cases d'
    have nsK : ∀ {b : Addr} {m : Str → Option Value}, s₁.heap.Ns b m → (hidT s₁.heap H).Ns b m := fun {b m} ⟨o, es, ep, e, d, r⟩ => ⟨o, es, ep, base_of e (noA e d), d, r⟩
    have hKb : K.In (hidT s₁.heap H) := fun b o e => base_of (KX b o e) (by
      cases q : H b with
      | none => rfl
      | some u =>
        have e' : b = a := hA b (by rw [q]; simp)
        subst e'
        rw [hK (by rw [q]; simp)] at e; cases e)
    have hM : Mod K mg (hidT s₁.heap H) := ⟨hKb, nsK hns, ⟨mb, nsK hb, hbb⟩, let ⟨mc, h1, h2⟩ := hlim; ⟨mc, nsK h1, h2⟩⟩
    have e0 : Env0 P w K mg (hidT s₁.heap H) callerA [] s₁ H := ⟨rfl, hM, fun b o e => of_hidT e, Nat.le_of_eq (hidT_size _ _), trivial, fun b hb => absurd (show b ∈ ([] : List Addr) from hb) (by simp), hok, .of_eq hg⟩
    refine codeAny_mono ((F _ hKb (nsK hns)).run callerA [] s₁ H ⟨[.ref a], []⟩ [.ref a] [.ref a] _ _ hr rfl e0 (hbind s₁ (.ref a)) (.cons rfl .nil) (hsp H hS)) fun r s' h => ?_
    cases r with
    | error e =>
      obtain ⟨_, _, _, _, _, _, _, _, _, _, _, _, h⟩ := h
      exact h.elim
    | ok fl =>
      cases fl with
      | next => exact False.elim h
      | brk => exact False.elim h
      | cont => exact False.elim h
      | ret u =>
        obtain ⟨v, H', os, bare, un, hok', r', q⟩ := h
        have q' : v = .bl true := q
        subst q'
        obtain rfl : u = Value.bool true := r'
        refine ⟨rfl, OldK.of_keep fun b o e => ?_, os, bare⟩
        cases q : H b with
        | none => exact un.keep b o e q (by intro z; exact absurd (show b ∈ ([] : List Addr) from z) (by simp)) (by simp)
        | some u =>
          rcases hO b with z | ⟨ob, xs, z⟩
          · rw [q] at z; cases z
          · have z2 := un.frzs b ob _ z
            obtain ⟨e1, _⟩ := hok b _ z
            obtain ⟨e2, _⟩ := hok' b _ z2
            rw [e] at e1; cases e1
            exact e2
  cases hk : K.lookup a with
  | some o =>
    have e := KX a o hk
    rw [ha] at e
    cases e
    refine core (fun _ => none) (fun _ => .inl rfl) (.inr ⟨_, vs.toArray, _, hk, rfl, rfl, rfl, by rw [List.size_toArray, lenV]; exact hl, by simpa using rv⟩) (fun b u z => by have z' : (none : Option HO) = some u := z; cases z') (fun b z => absurd rfl z) fun z => absurd rfl z
  | none =>
    refine core (fun b => if b = a then some (.frz { cls := .type "list", data := .seq vs.toArray } (.lst (ns.map V.int))) else none) (fun b => ?_) (.inl ⟨{ cls := .type "list", data := .seq vs.toArray }, if_pos rfl⟩) (fun b u z => ?_) (fun b z => ?_) fun _ => hk
    · by_cases hb : b = a
      · exact .inr ⟨_, _, if_pos hb⟩
      · exact .inl (if_neg hb)
    · by_cases hb : b = a
      · have z' := (if_pos hb).symm.trans z
        cases z'
        subst hb
        exact ⟨ha, by rw [List.length_map]; exact hl, vs, _, rv, ha⟩
      · have z' := (if_neg hb).symm.trans z
        cases z'
    · by_cases hb : b = a
      · exact hb
      · exact absurd (if_neg hb) z
theorem walk_G {l : PySem.W.OpenLaw} {n k : Nat} {q : Program} {loose : List Str} {XP : (Str → Option Value) → Heap → Prop} {YP : World → Heap → Prop} {d : DefRec} {x : Str}
    (hn : l.most = some n) (hn2 : n ≤ sizeLine) (hdf : d.params.defaults = []) (hr : Room k callerA)
    (F : ∀ (w : World) (mg : Str → Option Value) (fa : Addr) (h : Heap), YP w h → h.Ns mainGlobals mg → mg d.name = some (.ref fa) →
      ∃ (K : PySem.W.Frag) (fd : FuncData) (sp : Sp), K.In h ∧ (∀ (s : Shared) (u : Value), BindsTo s fd ⟨[u], []⟩ [(x, u)]) ∧
        (∀ (H : Hp) (a : Addr) (ns : List Int), ns.length ≤ n → FzL K H a (ns.map V.int) → sp [.ref a] H (fun v _ => v = .bl true) fun _ _ _ => False) ∧
        ∀ base : Heap, K.In base → base.Ns mainGlobals mg → FnG l.prog w K mg base k fa fd [x] sp) :
    PySem.W.WalkO q loose XP YP l.row.toRowW d [] (fun f vs => PySem.call f vs) := by
  refine Att.attach_call hn hdf fun w s₀ s₁ mg mb fa o pm cd doc a vs ns G Y ho hd hcd hmg hobj hints hlen hg => ?_
  obtain ⟨K, fd, sp, KX, hb, hsp, hF⟩ := F w mg fa _ Y G.T.g hmg
  exact law_G KX G.T.g G.T.b G.T.builtins G.T.nolimit hg hobj hints (Nat.le_trans hlen hn2) hr hF hb fun H hS => hsp H a ns hlen hS
/-- the law's call in the small language -/
theorem sp_law {K : PySem.W.Frag} {k f : Nat} {H : Hp} {a : Addr} {ns : List Int} {g' : MH} (hS : FzL K H a (ns.map V.int)) (h : MP.callF S.T k f [.frl (ns.map .int)] [] = .ok (.bl true) g') : spOf S K k f [.ref a] H (fun v _ => v = .bl true) fun _ _ _ => False := by
  have ri : ∀ l : List Int, RVs S K (fun _ => 0) 0 H (l.map .int) (l.map V.int) := fun l => by
    induction l with
    | nil => exact .nil
    | cons i l ih => exact .cons (.int i) ih
  refine ⟨fun _ => 0, [], [.frl (ns.map .int)], ⟨fun l o e => by simp at e, fun i j hi _ _ => absurd hi (by simp)⟩, .cons (.frl hS (ri ns)) .nil, ?_⟩
  rw [h]
  intro ι' H' f' x r
  cases r
  rfl
end MPS
end
section
set_option Elab.async false
set_option linter.all false
set_option autoImplicit false
set_option maxRecDepth 100000
set_option maxHeartbeats 4000000
/-! H2: the facts of the written part, by one Bool; the head's Hook. -/
namespace MPS
open PySem PySem.Spec L2
open PyProof.Rows hiding St
open MP (MV MO MH MSt Res G SRes)

/-- an own exception with two fields: its class's name, its __init__'s qualified name, its fields, its __init__'s text -/
structure ExD where
  x : Str
  qual : Str
  n1 : Str
  n2 : Str
  params : Arguments
  body : List Stmt
  scope : Scope
/-- where the text's defs, classes, exceptions stand, by names -/
structure At where
  defs : List He.DefD
  cls : List Str
  exs : List (Str × Option ExD)
def At.fa (A : At) (K : PySem.W.Frag) (f : Nat) : Addr := match A.defs[f]? with
  | some d => He.fAd K d.at_
  | none => 0
def At.ca (A : At) (K : PySem.W.Frag) (c : Nat) : Addr := match A.cls[c]? with
  | some x => He.ga K x
  | none => 0
def At.ea (A : At) (K : PySem.W.Frag) (c : Nat) : Addr := match A.exs[c]? with
  | some x => He.ga K x.1
  | none => 0
def scOf (M : Nm) (A : At) (K : PySem.W.Frag) : Sc := ⟨M, A.fa K, A.ca K, A.ea K⟩
/-! ### an exception's class, by a Bool -/
def clsB (K : PySem.W.Frag) (C : Addr) : Bool := match K.lookup C with
  | some ⟨.type t, _, .cls cd, sl⟩ => decide (t = "type") && (match cd.mro, sl.toList with
    | .ref C' :: bm, [_, _, _, _, some (.builtin n), _] => decide (C' = C) && decide (n = "ValueError.__new__") && !cd.hasDel && cd.hasDict && HandSPX.refsVE bm
    | _, _ => false)
  | _ => false
theorem clsB_ok {K : PySem.W.Frag} {C : Addr} (h : clsB K C = true) : ∃ nm q N bs bm sn sub ab col dd k0 k1 k2 k3 k5, K.lookup C = some (excClassObj nm q C N bs bm true sn sub ab col dd k0 k1 k2 k3 k5 "ValueError.__new__") ∧ HandSPX.refsVE bm = true := by
  unfold clsB at h
  split at h
  · rename_i t dd cd sl ho
    rw [Bool.and_eq_true] at h
    obtain ⟨ht, h⟩ := h
    have ht := of_decide_eq_true ht
    subst ht
    split at h
    · rename_i C' bm k0 k1 k2 k3 n k5 hm hs
      simp only [Bool.and_eq_true, decide_eq_true_eq, Bool.not_eq_true'] at h
      obtain ⟨⟨⟨⟨h1, h2⟩, h3⟩, h4⟩, h5⟩ := h
      obtain ⟨nm, bs, mro, ns, qn, hd, sn, sub, ab, col, del⟩ := cd
      dsimp only at hm h3 h4
      subst h1 h2 h3 h4 hm
      have hsl : sl = #[k0, k1, k2, k3, some (.builtin "ValueError.__new__"), k5] := by
        obtain ⟨l⟩ := sl
        simp only at hs
        rw [hs]
      subst hsl
      exact ⟨_, _, _, _, _, _, _, _, _, _, _, _, _, _, _, ho, h5⟩
    · cases h
  · cases h
/-- an __init__ that closes over its class: what is told of it but its cell -/
abbrev FnX : Type := Option (Str × Str × Arguments × FuncBody × Scope × Addr × List Str × Addr)
def fnX (K : PySem.W.Frag) (f : Addr) : FnX := match K.lookup f with
  | some ⟨_, _, .func fd, _⟩ => some (fd.name, fd.qualname, fd.params, fd.body, fd.scope, fd.globals, fd.closure.map (·.1), fd.builtins)
  | _ => none
def noneB : Value → Bool
  | .none => true
  | _ => false
theorem noneB_ok {v : Value} (h : noneB v = true) : v = .none := by
  cases v <;> first
    | rfl
    | (cases h; done)
def initB (P : Program) (K : PySem.W.Frag) (C fI : Addr) (qual : Str) : Bool := match K.lookup fI with
  | some ⟨_, _, .func fd, _⟩ => noneB fd.defaults && noneB fd.kwdefaults && (match fd.code with
    | .ref cda => PySem.W.codeIn K (.ref cda) qual && (match K.lookup cda with
      | some ⟨_, _, .fields vs, _⟩ => (match (vs[2]? : Option Value) with
        | some (.str file _) => (P.main.file : Str) == file
        | _ => false)
      | _ => false)
    | _ => false) && (match fd.closure with
    | [(_, cc)] => (match K.lookup cc with
      | some ⟨_, _, .cell (some (.ref D)), _⟩ => decide (D = C)
      | _ => false)
    | _ => false)
  | _ => false
def ExD.val (d : ExD) : FnX := some ("__init__", d.qual, d.params, .stmts d.body, d.scope, mainGlobals, ["__class__"], builtinsNs)
/-- what must hold of the text -/
structure ExD.Ok (d : ExD) : Prop where
  body : ∃ q0 q1 q2 q3 q4 q5 q6 q7 q8 q9 q10 q11 q12 q13 q14 : Pos, d.body = MX.iB d.n1 d.n2 q0 q1 q2 q3 q4 q5 q6 q7 q8 q9 q10 q11 q12 q13 q14 ∧ (q2.endLine == q5.line) = true
  head : ∃ ar, (d.params.posonlyargs ++ d.params.args).head? = some ar ∧ ar.arg = "self"
  names : d.scope.names.lookup ("self" : Str) = some .local ∧ d.scope.names.lookup d.n1 = some .local ∧ d.scope.names.lookup d.n2 = some .local ∧ d.scope.names.lookup ("super" : Str) = some .globalImplicit ∧ d.scope.names.lookup ("__class__" : Str) = some .free
  kind : (∀ x ∈ d.scope.names, x.2 ≠ .cell) ∧ d.scope.kind = .function ∧ d.scope.isCoroutine = false ∧ d.scope.isGenerator = false
  binds : ∀ (doc pm : Value) (an : Option Addr) (cdv ct : Value) (cc : Addr) (s : Shared) (x v1 v2 : Value), BindsTo s (PySem.W.ksFn "__init__" d.qual d.params d.body d.scope .none .none doc pm an cdv ct cc) ⟨[x, v1, v2], []⟩ [(("self" : Str), x), (d.n1, v1), (d.n2, v2)]
  apart : (d.n1 == d.n2) = false ∧ (d.n1 == ("self" : Str)) = false ∧ (d.n2 == ("self" : Str)) = false ∧ (d.n1 == ("__debug__" : Str)) = false ∧ (d.n2 == ("__debug__" : Str)) = false
def txB (P : Program) (K : PySem.W.Frag) (d : ExD) : Bool :=
  clsB K (He.ga K d.x) && decide (PySem.W.findIn K (.ref (He.ga K d.x)) "__setattr__" = some (some (.builtin "object.__setattr__"))) && decide (PySem.W.findIn K (.ref (He.ga K d.x)) "__getattribute__" = some (some (.builtin "BaseException.__getattribute__"))) &&
  decide (PySem.W.findIn K (.ref (He.ga K d.x)) "__getattr__" = some none) && decide (PySem.W.findIn K (.ref (He.ga K d.x)) d.n1 = some none) && decide (PySem.W.findIn K (.ref (He.ga K d.x)) d.n2 = some none) &&
  decide (PySem.W.findIn K (.ref (He.ga K d.x)) "__init__" = some (some (.ref (He.ma K (He.ga K d.x) "__init__")))) && decide (PySem.W.typeIn K (.ref (He.ma K (He.ga K d.x) "__init__")) = some (.type "function")) && PySem.W.keepIn K (.ref (He.ga K d.x)) &&
  decide (PySem.W.subIn K (.ref (He.ga K d.x)) (.type "BaseException") = some true) && decide (PySem.W.typeIn K (.ref (He.ga K d.x)) = some (.type "type")) && PySem.W.hasDictIn K (He.ga K d.x) && decide (PySem.W.subIn K (.ref (He.ga K d.x)) (.type "ValueError") = some true) &&
  decide (PySem.W.ks_superIn K (He.ga K d.x) (He.ga K d.x) "__init__" = some (some (.builtin "ValueError.__init__"))) && decide (PySem.W.mroIn K (He.ga K d.x) (.ref (He.ga K d.x)) = some true) && He.eqO (PySem.W.nsIn K mainGlobals "super") (some none) &&
  He.eqO (PySem.W.nsIn K cStatics "thirdparty.any") (some none) && !(P.main.scope.names.lookup ("super" : Str)).isSome && initB P K (He.ga K d.x) (He.ma K (He.ga K d.x) "__init__") d.qual
theorem txB_ok {P : Program} {K : PySem.W.Frag} {h : Heap} {mg : Str → Option Value} {d : ExD} (ok : d.Ok) (X : K.In h) (G : h.Ns mainGlobals mg) (e : fnX K (He.ma K (He.ga K d.x) "__init__") = d.val) (c : txB P K d = true) : MX.Txt P K mg d.n1 d.n2 (He.ga K d.x) (He.ma K (He.ga K d.x) "__init__") := by
  unfold txB at c
  simp only [Bool.and_eq_true, decide_eq_true_eq, Bool.not_eq_true'] at c
  obtain ⟨⟨⟨⟨⟨⟨⟨⟨⟨⟨⟨⟨⟨⟨⟨⟨⟨⟨c1, c2⟩, c3⟩, c4⟩, c5⟩, c6⟩, c7⟩, c8⟩, c9⟩, c10⟩, c11⟩, c12⟩, c13⟩, c14⟩, c15⟩, c16⟩, c17⟩, c18⟩, c19⟩ := c
  obtain ⟨a1, a2, a3, a4, a5⟩ := ok.apart
  refine { cls := clsB_ok c1, sa := c2, ga := c3, gg := c4, no1 := c5, no2 := c6, iC := c7, tC := c8, kC := c9, exC := c10, tyC := c11, hdC := c12, exVE := c13, sup := c14, self := c15, gsup := PySem.W.mg_none_of X G (He.eqO_ok c16), stat := He.eqO_ok c17, top := c18, fn := ?_, d12 := a1, d1s := a2, d2s := a3, n1d := a4, n2d := a5 }
  unfold initB at c19
  unfold fnX at e
  split at c19
  · rename_i oc od fd osl lk
    rw [lk] at e
    obtain ⟨n1, n2, n3, n4, n5, n6, n7, n8, n9, n10, n11, n12, n13, n14, n15⟩ := fd
    have e2 : (some (n1, n2, n3, n4, n5, n6, n7.map (·.1), n15) : FnX) = some (("__init__" : Str), d.qual, d.params, FuncBody.stmts d.body, d.scope, mainGlobals, [("__class__" : Str)], builtinsNs) := e
    simp only [Option.some.injEq, Prod.mk.injEq] at e2
    obtain ⟨h1, h2, h3, h4, h5, h6, h7, h8⟩ := e2
    simp only [Bool.and_eq_true] at c19
    obtain ⟨⟨⟨k1, k2⟩, k3⟩, k4⟩ := c19
    have k1 : n8 = .none := noneB_ok k1
    have k2 : n9 = .none := noneB_ok k2
    split at k3
    · rename_i cda
      rw [Bool.and_eq_true] at k3
      obtain ⟨k5, k6⟩ := k3
      split at k6
      · rename_i ccl cdd vs ccs lkc
        split at k6
        · rename_i file tf ev
          split at k4
          · rename_i s0 cc
            split at k4
            · rename_i cl cld D csl lkcell
              have k4 := of_decide_eq_true k4
              subst k4
              obtain ⟨q0, q1, q2, q3, q4, q5, q6, q7, q8, q9, q10, q11, q12, q13, q14, eb, hl⟩ := ok.body
              subst h1 h2 h3 h4 h5 h6 h8 k1 k2
              have es : s0 = "__class__" := by
                have h7 : [s0] = [("__class__" : Str)] := h7
                injection h7
              subst es
              obtain ⟨m1, m2, m3, m4, m5⟩ := ok.names
              obtain ⟨m6, m7, m8, m9⟩ := ok.kind
              have hbind := ok.binds n10 n11 n12 (.ref cda) n14 cc
              rw [eb] at lk hbind
              exact ⟨oc, od, d.qual, d.params, d.scope, n10, n11, n12, n14, osl, cc, cda, q0, q1, q2, q3, q4, q5, q6, q7, q8, q9, q10, q11, q12, q13, q14, lk, k5, hl, ⟨ccl, cdd, vs, ccs, file, tf, lkc, ev, k6⟩, ⟨cl, cld, csl, lkcell⟩, ok.head, m1, m2, m3, m4, m5, m6, m7, m8, m9, hbind⟩
            · cases k4
          · cases k4
        · cases k6
      · cases k6
    · cases k3
  · cases c19
end MPS
end
section
set_option Elab.async false
set_option linter.all false
set_option autoImplicit false
set_option maxRecDepth 100000
set_option maxHeartbeats 4000000
/-! H3: all facts by one Bool; the Hook; a law's end. -/
namespace MPS
open PySem PySem.Spec L2
open PyProof.Rows hiding St
open MP (MV MO MH MSt Res G SRes)

def cstOkB (v : MV) (u : Value) : Bool := match v, u with
  | .int i, .int j _ => decide (j = i)
  | .str x, .str y _ => decide (y = x)
  | _, _ => false
def ex0B (K : PySem.W.Frag) (C : Addr) : Bool := PySem.W.excIn K C [.type "ValueError", .type "Exception", .type "BaseException", .type "object"] "ValueError.__new__" && PySem.W.keepIn K (.ref C) &&
  decide (PySem.W.subIn K (.ref C) (.type "BaseException") = some true) && decide (PySem.W.typeIn K (.ref C) = some (.type "type"))
def exOneB (P : Program) (M : Nm) (A : At) (K : PySem.W.Frag) (c : Nat) : Bool := match A.exs[c]? with
  | some (_, none) => decide (M.efs c = []) && ex0B K (A.ea K c)
  | some (x, some d) => decide (d.x = x) && decide (M.efs c = [d.n1, d.n2]) && txB P K d
  | none => false
def gvB (P : Program) (M : Nm) (A : At) (K : PySem.W.Frag) : Str × GV → Bool
  | (x, .fn f) => decide (f < M.T.fns.length) && He.eqO (PySem.W.nsIn K mainGlobals x) (some (some (.ref (A.fa K f)))) && PySem.W.keepIn K (.ref (A.fa K f))
  | (x, .cst v) => (match PySem.W.nsIn K mainGlobals x with
    | some (some u) => cstOkB v u
    | _ => false)
  | (x, .cls c) => (match M.T.cls[c]? with
    | some kl => decide (kl.init < M.T.fns.length) && He.eqO (PySem.W.nsIn K mainGlobals x) (some (some (.ref (A.ca K c)))) && PySem.W.makesIn K (A.ca K c) && He.eqO (PySem.W.findIn K (.ref (A.ca K c)) "__init__") (some (some (.ref (A.fa K kl.init)))) &&
      PySem.W.isFn K (.ref (A.fa K kl.init)) && PySem.W.keepIn K (.ref (A.ca K c))
    | none => false)
  | (x, .exc c) => He.eqO (PySem.W.nsIn K mainGlobals x) (some (some (.ref (A.ea K c)))) && exOneB P M A K c
def clB (M : Nm) (A : At) (K : PySem.W.Frag) (c : Nat) : Bool := match M.T.cls[c]? with
  | some kl => PySem.W.plainGet K (A.ca K c) Str.empty && PySem.W.hasDictIn K (A.ca K c) && PySem.W.plainOver K (A.ca K c) && He.eqO (PySem.W.findIn K (.ref (A.ca K c)) "__setattr__") (some (some (.builtin "object.__setattr__"))) &&
    (kl.meths.all fun q => decide (q.2 < M.T.fns.length) && (match M.attrs[q.1]? with
      | some nm => He.eqO (PySem.W.findIn K (.ref (A.ca K c)) nm) (some (some (.ref (A.fa K q.2)))) && PySem.W.isFn K (.ref (A.fa K q.2)) && PySem.W.keepIn K (.ref (A.fa K q.2))
      | none => true)) && kl.flds.all fun a => (match M.attrs[a]? with
      | some nm => He.eqO (PySem.W.findIn K (.ref (A.ca K c)) nm) (some none)
      | none => true)
  | none => true
def exmB (M : Nm) (A : At) (K : PySem.W.Frag) (c c' : Nat) : Bool := match M.exm c c' with
  | some b => decide (PySem.W.exmOne K (.ref (A.ea K c)) (.ref (A.ea K c')) = some b)
  | none => true
def facB (P : Program) (M : Nm) (A : At) (K : PySem.W.Frag) : Bool :=
  M.gl.all (gvB P M A K) && (M.free.all fun x => He.eqO (PySem.W.nsIn K mainGlobals x) (some none)) && ((List.range M.T.cls.length).all (clB M A K)) &&
  ((List.range M.exT.length).all fun c => (List.range M.exT.length).all (exmB M A K c)) && (List.range M.T.fns.length).all fun f => PySem.W.keepIn K (.ref (A.fa K f))
section
variable {P : Program} {M : Nm} {A : At} {K : PySem.W.Frag} {h : Heap} {mg : Str → Option Value}
theorem facts_ok (X : K.In h) (G : h.Ns mainGlobals mg) (nd : M.attrs.Nodup) (c : facB P M A K = true) : Facts (scOf M A K) K mg := by
  unfold facB at c
  simp only [Bool.and_eq_true] at c
  obtain ⟨⟨⟨⟨c1, c2⟩, c3⟩, c4⟩, c5⟩ := c
  have gv : ∀ x v, M.gl.lookup x = some v → gvB P M A K (x, v) = true := fun x v e => List.all_eq_true.mp c1 _ (lookup_mem e)
  refine { fn := fun x f e => ?_, cst := fun x v e => ?_, free := fun x e => ?_, cls := fun x c e => ?_, clsC := fun c kl e => ?_, meth := fun c kl m f e em => ?_, noat := fun c kl a e ea nm en => ?_, nd := nd, keep := fun f hf => ?_ }
  · have q := gv x _ e
    unfold gvB at q
    simp only [Bool.and_eq_true, decide_eq_true_eq] at q
    exact ⟨q.1.1, PySem.W.mg_of X G (He.eqO_ok q.1.2), q.2⟩
  · have q := gv x _ e
    simp only [gvB] at q
    split at q
    · rename_i u eu
      have hm := PySem.W.mg_of X G eu
      unfold cstOkB at q
      split at q
      · have := of_decide_eq_true q
        subst this
        exact ⟨.int _, _, fun _ _ _ => .int _, hm, ⟨_, rfl⟩⟩
      · have := of_decide_eq_true q
        subst this
        exact ⟨.str _, _, fun _ _ _ => .str _, hm, ⟨_, rfl⟩⟩
      · cases q
    · cases q
  · exact PySem.W.mg_none_of X G (He.eqO_ok (List.all_eq_true.mp c2 x (List.contains_iff_mem.mp e)))
  · have q := gv x _ e
    simp only [gvB] at q
    split at q
    · rename_i kl ek
      simp only [Bool.and_eq_true, decide_eq_true_eq] at q
      obtain ⟨⟨⟨⟨⟨q1, q2⟩, q3⟩, q4⟩, q5⟩, q6⟩ := q
      exact ⟨kl, ek, q1, PySem.W.mg_of X G (He.eqO_ok q2), ⟨q3, He.eqO_ok q4, q5, q6⟩⟩
    · cases q
  · have hc : c < M.T.cls.length := (List.getElem?_eq_some_iff.mp e).1
    have q := List.all_eq_true.mp c3 c (List.mem_range.mpr hc)
    unfold clB at q
    have e' : M.T.cls[c]? = some kl := e
    rw [e'] at q
    simp only [Bool.and_eq_true] at q
    obtain ⟨⟨⟨⟨⟨q1, q2⟩, q3⟩, q4⟩, q5⟩, q6⟩ := q
    exact ⟨q1, q2, q3, He.eqO_ok q4⟩
  · have hc : c < M.T.cls.length := (List.getElem?_eq_some_iff.mp e).1
    have q := List.all_eq_true.mp c3 c (List.mem_range.mpr hc)
    unfold clB at q
    have e' : M.T.cls[c]? = some kl := e
    rw [e'] at q
    simp only [Bool.and_eq_true] at q
    obtain ⟨⟨⟨⟨⟨q1, q2⟩, q3⟩, q4⟩, q5⟩, q6⟩ := q
    have q7 := List.all_eq_true.mp q5 (m, f) (lookup_mem em)
    simp only [Bool.and_eq_true, decide_eq_true_eq] at q7
    refine ⟨q7.1, fun nm en => ?_⟩
    have q8 := q7.2
    have en' : M.attrs[m]? = some nm := en
    rw [en'] at q8
    simp only [Bool.and_eq_true] at q8
    exact ⟨He.eqO_ok q8.1.1, q8.1.2, q8.2⟩
  · have hc : c < M.T.cls.length := (List.getElem?_eq_some_iff.mp e).1
    have q := List.all_eq_true.mp c3 c (List.mem_range.mpr hc)
    unfold clB at q
    have e' : M.T.cls[c]? = some kl := e
    rw [e'] at q
    simp only [Bool.and_eq_true] at q
    obtain ⟨⟨⟨⟨⟨q1, q2⟩, q3⟩, q4⟩, q5⟩, q6⟩ := q
    have q7 := List.all_eq_true.mp q6 a (by simpa using ea)
    have en' : M.attrs[a]? = some nm := en
    rw [en'] at q7
    exact He.eqO_ok q7
  · exact List.all_eq_true.mp c5 f (List.mem_range.mpr hf)
theorem xfacts_ok (X : K.In h) (G : h.Ns mainGlobals mg) (hsq : ∀ r ∈ M.exT, r.length = M.exT.length) (hok : ∀ (c : Nat) (x : Str) (d : ExD), A.exs[c]? = some (x, some d) → d.Ok) (hx : ∀ (c : Nat) (x : Str) (d : ExD), A.exs[c]? = some (x, some d) → fnX K (He.ma K (He.ga K d.x) "__init__") = d.val) (c : facB P M A K = true) : XFacts (scOf M A K) P K mg := by
  unfold facB at c
  simp only [Bool.and_eq_true] at c
  obtain ⟨⟨⟨⟨c1, c2⟩, c3⟩, c4⟩, c5⟩ := c
  refine ⟨fun x c e => ?_, fun c c' b e => ?_⟩
  · have q := List.all_eq_true.mp c1 _ (lookup_mem (show M.gl.lookup x = some (.exc c) from e))
    unfold gvB at q
    rw [Bool.and_eq_true] at q
    refine ⟨PySem.W.mg_of X G (He.eqO_ok q.1), ?_⟩
    have q2 := q.2
    unfold exOneB at q2
    split at q2
    · rename_i x' e'
      simp only [Bool.and_eq_true, decide_eq_true_eq] at q2
      have q3 := q2.2
      unfold ex0B at q3
      simp only [Bool.and_eq_true, decide_eq_true_eq] at q3
      exact .inl ⟨q2.1, ⟨q3.1.1.1, q3.1.1.2, q3.1.2, q3.2⟩⟩
    · rename_i x' d e'
      simp only [Bool.and_eq_true, decide_eq_true_eq] at q2
      obtain ⟨⟨h1, h2⟩, h3⟩ := q2
      have ea : (scOf M A K).ea c = He.ga K d.x := by
        show A.ea K c = _
        unfold At.ea
        rw [e', h1]
      refine .inr ⟨d.n1, d.n2, He.ma K (He.ga K d.x) "__init__", h2, ?_⟩
      rw [ea]
      exact txB_ok (hok c x' d e') X G (hx c x' d e') h3
    · cases q2
  · have e' : (M.exT[c]?).bind (fun r => r[c']?) = some b := e
    obtain ⟨r, e1, e2⟩ := Option.bind_eq_some_iff.mp e'
    have h1 : c < M.exT.length := (List.getElem?_eq_some_iff.mp e1).1
    have h2 : c' < r.length := (List.getElem?_eq_some_iff.mp e2).1
    rw [hsq r (List.mem_of_getElem? e1)] at h2
    have q := List.all_eq_true.mp (List.all_eq_true.mp c4 c (List.mem_range.mpr h1)) c' (List.mem_range.mpr h2)
    unfold exmB at q
    have e3 : M.exm c c' = some b := e
    rw [e3] at q
    exact of_decide_eq_true q
end
noncomputable section
/-! ### the Hook -/
def asM (g : Addr → Option Obj) : Nat → List Addr
  | 0 => [mainGlobals, cStatics]
  | n + 1 => He.growD g (asM g n)
abbrev AlM : Type := Bool × List He.FnW × List FnX
def At.xds (A : At) : List ExD := A.exs.filterMap (·.2)
def obsK (P : Program) (M : Nm) (A : At) (K : PySem.W.Frag) : AlM := (facB P M A K && A.defs.all fun d => d.ok K, A.defs.map fun d => He.fnW K d.at_, A.xds.map fun d => fnX K (He.ma K (He.ga K d.x) "__init__"))
def valM (A : At) : AlM := (true, A.defs.map He.DefD.val, A.xds.map ExD.val)
def SaysM (P : Program) (M : Nm) (A : At) (K : PySem.W.Frag) : Prop := obsK P M A K = valM A
def obsM (P : Program) (M : Nm) (A : At) (n : Nat) (g : Addr → Option Obj) : AlM := obsK P M A (He.frG g (asM g n))
def hookM (P : Program) (M : Nm) (A : At) (n : Nat) : PySem.W.Hook where
  α := AlM
  obs := fun s => obsM P M A n s.heap.get?
  val := fun _ => valM A
  says := fun _ h => ∃ K : PySem.W.Frag, K.In h ∧ SaysM P M A K
  of := fun _ _ e => ⟨_, He.frG_in, e⟩
  keeps := fun _ _ _ ⟨K, hK, c⟩ k => ⟨K, PySem.W.Frag.In.keeps hK k, c⟩
def obM (P : Program) (M : Nm) (A : At) (n : Nat) (s : PySem.W.SharedT) : AlM := obsM P M A n (HandSHeadRun.getT s)
theorem obM_eq {P : Program} {M : Nm} {A : At} {n : Nat} (s : PySem.W.SharedT) : obM P M A n s = (hookM P M A n).obs s.abs := by
  have e : HandSHeadRun.getT s = s.abs.heap.get? := funext (HandSHeadRun.getT_eq s)
  unfold obM
  rw [e] <;> rfl
section
variable {P : Program} {M : Nm} {A : At} {K : PySem.W.Frag} {h : Heap} {mg : Str → Option Value}
theorem SaysM.fac (c : SaysM P M A K) : facB P M A K = true := (Bool.and_eq_true_iff.mp (show (facB P M A K && A.defs.all fun d => d.ok K) = true from congrArg (fun z : AlM => z.1) c)).1
theorem SaysM.def_ (c : SaysM P M A K) {i : Nat} {d : He.DefD} (h : A.defs[i]? = some d) : ∃ fd, FunD K d.name d.qual d.params d.body d.scope (d.dvs K) (d.kws K) (He.fAd K d.at_) fd := by
  have c2 := (Bool.and_eq_true_iff.mp (show (facB P M A K && A.defs.all fun d => d.ok K) = true from congrArg (fun z : AlM => z.1) c)).2
  have e : A.defs.map (fun d => He.fnW K d.at_) = A.defs.map He.DefD.val := congrArg (fun z : AlM => z.2.1) c
  have e2 : (A.defs.map fun d => He.fnW K d.at_)[i]? = (A.defs.map He.DefD.val)[i]? := by rw [e]
  rw [List.getElem?_map, List.getElem?_map, h] at e2
  exact He.DefD.funD (Option.some.inj e2) (List.all_eq_true.mp c2 d (List.mem_of_getElem? h))
theorem SaysM.xd (c : SaysM P M A K) {i : Nat} {x : Str} {d : ExD} (h : A.exs[i]? = some (x, some d)) : fnX K (He.ma K (He.ga K d.x) "__init__") = d.val := by
  have hm : d ∈ A.xds := List.mem_filterMap.mpr ⟨_, List.mem_of_getElem? h, rfl⟩
  have e : A.xds.map (fun d => fnX K (He.ma K (He.ga K d.x) "__init__")) = A.xds.map ExD.val := congrArg (fun z : AlM => z.2.2) c
  obtain ⟨j, hj, ej⟩ := List.mem_iff_getElem.mp hm
  have e2 : (A.xds.map fun d => fnX K (He.ma K (He.ga K d.x) "__init__"))[j]? = (A.xds.map ExD.val)[j]? := by rw [e]
  rw [List.getElem?_map, List.getElem?_map, List.getElem?_eq_getElem hj, ej] at e2
  exact Option.some.inj e2
/-- one def's row: its names, its parameters -/
structure Row where
  N : List Str
  ps : List Str
/-- what is checked of one def -/
def RowOk (M : Nm) (d : He.DefD) (r : Row) (e : MP.FnE) : Prop := d.dfl = [] ∧ d.kwd = [] ∧ FnScope r.N r.ps d.scope ∧ e.ps = r.ps.length ∧ e.nl = r.N.length ∧ ckSs M r.N d.scope (fun _ => true) e.body d.body = true ∧
  ∀ (kV doc pm : Value) (an : Option Addr) (cdv ct : Value) (us : List Value), us.length = r.ps.length → bindArgs (PySem.W.fnOf d.name d.qual d.params d.body d.scope .none kV doc pm an cdv ct) ⟨us, []⟩ = pure (r.ps.zip us)
theorem defOk_of (c : SaysM P M A K) {f : Nat} {d : He.DefD} {r : Row} {e : MP.FnE} (hd : A.defs[f]? = some d) (he : M.T.fns[f]? = some e) (ok : RowOk M d r e) : DefOk (scOf M A K) K f := by
  obtain ⟨h1, h2, h3, h4, h5, h6, h7⟩ := ok
  obtain ⟨fd, F⟩ := c.def_ hd
  have e1 : d.dvs K = [] := by unfold He.DefD.dvs; rw [h1]; rfl
  have e2 : d.kws K = [] := by unfold He.DefD.kws; rw [h2]; rfl
  rw [e1, e2] at F
  have ea : (scOf M A K).fa f = He.fAd K d.at_ := by
    show A.fa K f = _
    unfold At.fa
    rw [hd]
  rw [← ea] at F
  exact ⟨d.name, d.qual, d.params, d.body, d.scope, r.N, r.ps, fd, e, he, F, h3, h4, h5, h6, FunD.bindsN F h7⟩
end
end
end MPS
end
section
set_option Elab.async false
set_option linter.all false
set_option autoImplicit false
set_option maxRecDepth 100000
set_option maxHeartbeats 4000000
/-! H4: a law's end. -/
namespace MPS
open PySem PySem.Spec L2
open PyProof.Rows hiding St
open MP (MV MO MH MSt Res G SRes)
theorem law_F {P : Program} {M : Nm} {A : At} {h : Heap} {mg : Str → Option Value} {w : World} {n k f : Nat} {x nm : Str} {fa : Addr} {d : He.DefD} {r : Row} {e : MP.FnE}
    (Y : ∃ K : PySem.W.Frag, K.In h ∧ SaysM P M A K) (G : h.Ns mainGlobals mg) (hmg : mg nm = some (.ref fa)) (nd : M.attrs.Nodup) (sq : ∀ r ∈ M.exT, r.length = M.exT.length)
    (exs : ∀ (c : Nat) (x : Str) (d : ExD), A.exs[c]? = some (x, some d) → d.Ok) (defs : ∀ K, SaysM P M A K → ∀ f, f < M.T.fns.length → DefOk (scOf M A K) K f)
    (hd : A.defs[f]? = some d) (he : M.T.fns[f]? = some e) (ok : RowOk M d r e) (hps : r.ps = [x]) (hgl : M.gl.lookup nm = some (.fn f))
    (plain : ∀ ns : List Int, ns.length ≤ n → ∃ g', MP.callF M.T (k + 1) f [.frl (ns.map .int)] [] = .ok (.bl true) g') :
    ∃ (K : PySem.W.Frag) (fd : FuncData) (sp : Sp), K.In h ∧ (∀ (s : Shared) (u : Value), BindsTo s fd ⟨[u], []⟩ [(x, u)]) ∧
        (∀ (H : Hp) (a : Addr) (ns : List Int), ns.length ≤ n → FzL K H a (ns.map V.int) → sp [.ref a] H (fun v _ => v = .bl true) fun _ _ _ => False) ∧
        ∀ base : Heap, K.In base → base.Ns mainGlobals mg → FnG P w K mg base (k + 1) fa fd [x] sp := by
  obtain ⟨K, KX, c⟩ := Y
  have fc := facts_ok KX G nd c.fac
  have xf := xfacts_ok KX G sq exs (fun _ _ _ h => c.xd h) c.fac
  obtain ⟨o1, o2, o3, o4, o5, o6, o7⟩ := ok
  obtain ⟨fd, F⟩ := c.def_ hd
  have e1 : d.dvs K = [] := by unfold He.DefD.dvs; rw [o1]; rfl
  have e2 : d.kws K = [] := by unfold He.DefD.kws; rw [o2]; rfl
  rw [e1, e2] at F
  have ea : (scOf M A K).fa f = He.fAd K d.at_ := by
    show A.fa K f = _
    unfold At.fa
    rw [hd]
  rw [← ea] at F
  have hfa : fa = (scOf M A K).fa f := by
    have q := (fc.fn nm f hgl).2.1
    rw [hmg] at q
    cases q
    rfl
  subst hfa
  have b := FunD.bindsN F o7
  rw [hps] at b o3
  have b' : ∀ (s : Shared) (u : Value), BindsTo s fd ⟨[u], []⟩ [(x, u)] := by
    have b2 := FunD.bindsA (ps := [x]) F (by rw [← hps]; exact o7)
    exact fun s v => b2 s [v] rfl
  refine ⟨K, fd, spOf (scOf M A K) K (k + 1) f, KX, b', fun H a ns hl hS => ?_, fun base hb hn => ?_⟩
  · obtain ⟨g', hg⟩ := plain ns hl
    exact sp_law hS hg
  · exact fn_step_x fc xf (all_fns fc xf (defs K c) k) (fun j _ => all_fns fc xf (defs K c) j) he F o3 (by rw [o4, hps]) o5 o6
end MPS
end
section
set_option Elab.async false
set_option linter.all false
set_option autoImplicit false
set_option maxRecDepth 100000
set_option maxHeartbeats 4000000
/-! K88: the law's text in the small language, by gen.py. -/
namespace K88
open PySem PySem.Spec
open MP (MV MO MH MSt Res X XS G)
abbrev PR : Program := PySem.Challenge.pw_fixwright_k88_plain_values_and_their_tex
def top (i : Nat) : Stmt := PR.main.body.getD i (.Pass ⟨0, 0, 0, 0⟩)
def clsBody : Stmt → List Stmt
  | .ClassDef (body := b) .. => b
  | _ => []
def inC (i j : Nat) : Stmt := (clsBody (top i)).getD j (.Pass ⟨0, 0, 0, 0⟩)
def r_is_number : MPS.Row := ⟨[("thing" : PySem.Str)], [("thing" : PySem.Str)]⟩
def d_is_number : He.DefD := ⟨(("is_number" : PySem.Str), none), ("is_number" : PySem.Str), ("is_number" : PySem.Str), L2.defArgs (top 8), L2.defBody (top 8), L2.defScope (top 8), [], []⟩
def r_is_index : MPS.Row := ⟨[("thing" : PySem.Str)], [("thing" : PySem.Str)]⟩
def d_is_index : He.DefD := ⟨(("is_index" : PySem.Str), none), ("is_index" : PySem.Str), ("is_index" : PySem.Str), L2.defArgs (top 9), L2.defBody (top 9), L2.defScope (top 9), [], []⟩
def r_is_word : MPS.Row := ⟨[("thing" : PySem.Str), ("sign" : PySem.Str)], [("thing" : PySem.Str)]⟩
def d_is_word : He.DefD := ⟨(("is_word" : PySem.Str), none), ("is_word" : PySem.Str), ("is_word" : PySem.Str), L2.defArgs (top 13), L2.defBody (top 13), L2.defScope (top 13), [], []⟩
def r_is_plain : MPS.Row := ⟨[("thing" : PySem.Str), ("levels" : PySem.Str), ("part" : PySem.Str)], [("thing" : PySem.Str), ("levels" : PySem.Str)]⟩
def d_is_plain : He.DefD := ⟨(("is_plain" : PySem.Str), none), ("is_plain" : PySem.Str), ("is_plain" : PySem.Str), L2.defArgs (top 14), L2.defBody (top 14), L2.defScope (top 14), [], []⟩
def r_is_plain_value : MPS.Row := ⟨[("thing" : PySem.Str)], [("thing" : PySem.Str)]⟩
def d_is_plain_value : He.DefD := ⟨(("is_plain_value" : PySem.Str), none), ("is_plain_value" : PySem.Str), ("is_plain_value" : PySem.Str), L2.defArgs (top 15), L2.defBody (top 15), L2.defScope (top 15), [], []⟩
def r_shown : MPS.Row := ⟨[("value" : PySem.Str), ("parts" : PySem.Str), ("part" : PySem.Str)], [("value" : PySem.Str)]⟩
def d_shown : He.DefD := ⟨(("shown" : PySem.Str), none), ("shown" : PySem.Str), ("shown" : PySem.Str), L2.defArgs (top 16), L2.defBody (top 16), L2.defScope (top 16), [], []⟩
def r_value_text : MPS.Row := ⟨[("thing" : PySem.Str)], [("thing" : PySem.Str)]⟩
def d_value_text : He.DefD := ⟨(("value_text" : PySem.Str), none), ("value_text" : PySem.Str), ("value_text" : PySem.Str), L2.defArgs (top 17), L2.defBody (top 17), L2.defScope (top 17), [], []⟩
def r_run_value : MPS.Row := ⟨[("run" : PySem.Str), ("sign" : PySem.Str)], [("run" : PySem.Str)]⟩
def d_run_value : He.DefD := ⟨(("run_value" : PySem.Str), none), ("run_value" : PySem.Str), ("run_value" : PySem.Str), L2.defArgs (top 18), L2.defBody (top 18), L2.defScope (top 18), [], []⟩
def r_Valuesd__initd_ : MPS.Row := ⟨[("self" : PySem.Str), ("text" : PySem.Str)], [("self" : PySem.Str), ("text" : PySem.Str)]⟩
def d_Valuesd__initd_ : He.DefD := ⟨(("Values" : PySem.Str), some ("__init__" : PySem.Str)), ("__init__" : PySem.Str), ("Values.__init__" : PySem.Str), L2.defArgs (inC 19 0), L2.defBody (inC 19 0), L2.defScope (inC 19 0), [], []⟩
def r_Values_fail : MPS.Row := ⟨[("self" : PySem.Str)], [("self" : PySem.Str)]⟩
def d_Values_fail : He.DefD := ⟨(("Values" : PySem.Str), some ("fail" : PySem.Str)), ("fail" : PySem.Str), ("Values.fail" : PySem.Str), L2.defArgs (inC 19 1), L2.defBody (inC 19 1), L2.defScope (inC 19 1), [], []⟩
def r_Values_is_next : MPS.Row := ⟨[("self" : PySem.Str), ("sign" : PySem.Str)], [("self" : PySem.Str), ("sign" : PySem.Str)]⟩
def d_Values_is_next : He.DefD := ⟨(("Values" : PySem.Str), some ("is_next" : PySem.Str)), ("is_next" : PySem.Str), ("Values.is_next" : PySem.Str), L2.defArgs (inC 19 2), L2.defBody (inC 19 2), L2.defScope (inC 19 2), [], []⟩
def r_Values_run : MPS.Row := ⟨[("self" : PySem.Str), ("end" : PySem.Str)], [("self" : PySem.Str)]⟩
def d_Values_run : He.DefD := ⟨(("Values" : PySem.Str), some ("run" : PySem.Str)), ("run" : PySem.Str), ("Values.run" : PySem.Str), L2.defArgs (inC 19 3), L2.defBody (inC 19 3), L2.defScope (inC 19 3), [], []⟩
def r_Values_value : MPS.Row := ⟨[("self" : PySem.Str), ("levels" : PySem.Str), ("found" : PySem.Str)], [("self" : PySem.Str), ("levels" : PySem.Str)]⟩
def d_Values_value : He.DefD := ⟨(("Values" : PySem.Str), some ("value" : PySem.Str)), ("value" : PySem.Str), ("Values.value" : PySem.Str), L2.defArgs (inC 19 4), L2.defBody (inC 19 4), L2.defScope (inC 19 4), [], []⟩
def r_read_value : MPS.Row := ⟨[("text" : PySem.Str), ("reader" : PySem.Str), ("found" : PySem.Str)], [("text" : PySem.Str)]⟩
def d_read_value : He.DefD := ⟨(("read_value" : PySem.Str), none), ("read_value" : PySem.Str), ("read_value" : PySem.Str), L2.defArgs (top 20), L2.defBody (top 20), L2.defScope (top 20), [], []⟩
def r_l_bag : MPS.Row := ⟨[("script" : PySem.Str), ("cell" : PySem.Str)], [("script" : PySem.Str)]⟩
def d_l_bag : He.DefD := ⟨(("_law_bag" : PySem.Str), none), ("_law_bag" : PySem.Str), ("_law_bag" : PySem.Str), L2.defArgs (top 22), L2.defBody (top 22), L2.defScope (top 22), [], []⟩
def r_l_take : MPS.Row := ⟨[("bag" : PySem.Str), ("many" : PySem.Str), ("cell" : PySem.Str), ("stirred" : PySem.Str), ("drawn" : PySem.Str), ("begin" : PySem.Str), ("second" : PySem.Str)], [("bag" : PySem.Str), ("many" : PySem.Str)]⟩
def d_l_take : He.DefD := ⟨(("_law_take" : PySem.Str), none), ("_law_take" : PySem.Str), ("_law_take" : PySem.Str), L2.defArgs (top 23), L2.defBody (top 23), L2.defScope (top 23), [], []⟩
def r_l_some : MPS.Row := ⟨[("bag" : PySem.Str), ("things" : PySem.Str)], [("bag" : PySem.Str), ("things" : PySem.Str)]⟩
def d_l_some : He.DefD := ⟨(("_law_some" : PySem.Str), none), ("_law_some" : PySem.Str), ("_law_some" : PySem.Str), L2.defArgs (top 24), L2.defBody (top 24), L2.defScope (top 24), [], []⟩
def r_l_paths : MPS.Row := ⟨[("thing" : PySem.Str), ("most" : PySem.Str), ("found" : PySem.Str), ("line" : PySem.Str), ("path" : PySem.Str), ("part" : PySem.Str), ("k" : PySem.Str), ("one" : PySem.Str)], [("thing" : PySem.Str), ("most" : PySem.Str)]⟩
def d_l_paths : He.DefD := ⟨(("_law_paths" : PySem.Str), none), ("_law_paths" : PySem.Str), ("_law_paths" : PySem.Str), L2.defArgs (top 25), L2.defBody (top 25), L2.defScope (top 25), [], []⟩
def r_l_part_of : MPS.Row := ⟨[("thing" : PySem.Str), ("path" : PySem.Str), ("k" : PySem.Str)], [("thing" : PySem.Str), ("path" : PySem.Str)]⟩
def d_l_part_of : He.DefD := ⟨(("_law_part_of" : PySem.Str), none), ("_law_part_of" : PySem.Str), ("_law_part_of" : PySem.Str), L2.defArgs (top 26), L2.defBody (top 26), L2.defScope (top 26), [], []⟩
def r_l_with_part : MPS.Row := ⟨[("thing" : PySem.Str), ("path" : PySem.Str), ("new" : PySem.Str), ("k" : PySem.Str)], [("thing" : PySem.Str), ("path" : PySem.Str), ("new" : PySem.Str)]⟩
def d_l_with_part : He.DefD := ⟨(("_law_with_part" : PySem.Str), none), ("_law_with_part" : PySem.Str), ("_law_with_part" : PySem.Str), L2.defArgs (top 27), L2.defBody (top 27), L2.defScope (top 27), [], []⟩
def r_l_alike : MPS.Row := ⟨[("found" : PySem.Str), ("due" : PySem.Str)], [("found" : PySem.Str), ("due" : PySem.Str)]⟩
def d_l_alike : He.DefD := ⟨(("_law_alike" : PySem.Str), none), ("_law_alike" : PySem.Str), ("_law_alike" : PySem.Str), L2.defArgs (top 28), L2.defBody (top 28), L2.defScope (top 28), [], []⟩
def r_l_is_index : MPS.Row := ⟨[("thing" : PySem.Str)], [("thing" : PySem.Str)]⟩
def d_l_is_index : He.DefD := ⟨(("_law_is_index" : PySem.Str), none), ("_law_is_index" : PySem.Str), ("_law_is_index" : PySem.Str), L2.defArgs (top 29), L2.defBody (top 29), L2.defScope (top 29), [], []⟩
def r_l_odd : MPS.Row := ⟨[("bag" : PySem.Str), ("some" : PySem.Str)], [("bag" : PySem.Str)]⟩
def d_l_odd : He.DefD := ⟨(("_law_odd" : PySem.Str), none), ("_law_odd" : PySem.Str), ("_law_odd" : PySem.Str), L2.defArgs (top 30), L2.defBody (top 30), L2.defScope (top 30), [], []⟩
def r_l_spoilt : MPS.Row := ⟨[("bag" : PySem.Str), ("thing" : PySem.Str), ("path" : PySem.Str), ("part" : PySem.Str), ("way" : PySem.Str)], [("bag" : PySem.Str), ("thing" : PySem.Str)]⟩
def d_l_spoilt : He.DefD := ⟨(("_law_spoilt" : PySem.Str), none), ("_law_spoilt" : PySem.Str), ("_law_spoilt" : PySem.Str), L2.defArgs (top 31), L2.defBody (top 31), L2.defScope (top 31), [], []⟩
def r_l_is_word : MPS.Row := ⟨[("thing" : PySem.Str), ("letters" : PySem.Str), ("sign" : PySem.Str)], [("thing" : PySem.Str)]⟩
def d_l_is_word : He.DefD := ⟨(("_law_is_word" : PySem.Str), none), ("_law_is_word" : PySem.Str), ("_law_is_word" : PySem.Str), L2.defArgs (top 32), L2.defBody (top 32), L2.defScope (top 32), [], []⟩
def r_l_is_plain : MPS.Row := ⟨[("thing" : PySem.Str), ("deep" : PySem.Str), ("one" : PySem.Str)], [("thing" : PySem.Str), ("deep" : PySem.Str)]⟩
def d_l_is_plain : He.DefD := ⟨(("_law_is_plain" : PySem.Str), none), ("_law_is_plain" : PySem.Str), ("_law_is_plain" : PySem.Str), L2.defArgs (top 33), L2.defBody (top 33), L2.defScope (top 33), [], []⟩
def r_l_text : MPS.Row := ⟨[("thing" : PySem.Str), ("one" : PySem.Str)], [("thing" : PySem.Str)]⟩
def d_l_text : He.DefD := ⟨(("_law_text" : PySem.Str), none), ("_law_text" : PySem.Str), ("_law_text" : PySem.Str), L2.defArgs (top 34), L2.defBody (top 34), L2.defScope (top 34), [], []⟩
def r_l_value_of : MPS.Row := ⟨[("run" : PySem.Str), ("sign" : PySem.Str)], [("run" : PySem.Str)]⟩
def d_l_value_of : He.DefD := ⟨(("_law_value_of" : PySem.Str), none), ("_law_value_of" : PySem.Str), ("_law_value_of" : PySem.Str), L2.defArgs (top 35), L2.defBody (top 35), L2.defScope (top 35), [], []⟩
def r_l_read : MPS.Row := ⟨[("text" : PySem.Str), ("line" : PySem.Str), ("done" : PySem.Str), ("at" : PySem.Str), ("value" : PySem.Str), ("lap" : PySem.Str), ("sign" : PySem.Str), ("begin" : PySem.Str), ("good" : PySem.Str)], [("text" : PySem.Str)]⟩
def d_l_read : He.DefD := ⟨(("_law_read" : PySem.Str), none), ("_law_read" : PySem.Str), ("_law_read" : PySem.Str), L2.defArgs (top 36), L2.defBody (top 36), L2.defScope (top 36), [], []⟩
def r_l_come_to : MPS.Row := ⟨[("way" : PySem.Str), ("thing" : PySem.Str), ("error" : PySem.Str)], [("way" : PySem.Str), ("thing" : PySem.Str)]⟩
def d_l_come_to : He.DefD := ⟨(("_law_come_to" : PySem.Str), none), ("_law_come_to" : PySem.Str), ("_law_come_to" : PySem.Str), L2.defArgs (top 37), L2.defBody (top 37), L2.defScope (top 37), [], []⟩
def r_l_drawn : MPS.Row := ⟨[("bag" : PySem.Str), ("deep" : PySem.Str), ("way" : PySem.Str), ("k" : PySem.Str)], [("bag" : PySem.Str), ("deep" : PySem.Str)]⟩
def d_l_drawn : He.DefD := ⟨(("_law_drawn" : PySem.Str), none), ("_law_drawn" : PySem.Str), ("_law_drawn" : PySem.Str), L2.defArgs (top 38), L2.defBody (top 38), L2.defScope (top 38), [], []⟩
def r_law : MPS.Row := ⟨[("script" : PySem.Str), ("bag" : PySem.Str), ("turn" : PySem.Str), ("thing" : PySem.Str), ("text" : PySem.Str), ("other" : PySem.Str), ("good" : PySem.Str), ("at" : PySem.Str), ("bent" : PySem.Str), ("due" : PySem.Str), ("found" : PySem.Str), ("nested" : PySem.Str), ("lap" : PySem.Str), ("one" : PySem.Str)], [("script" : PySem.Str)]⟩
def d_law : He.DefD := ⟨(("law" : PySem.Str), none), ("law" : PySem.Str), ("law" : PySem.Str), L2.defArgs (top 39), L2.defBody (top 39), L2.defScope (top 39), [], []⟩
def efs : Nat → List Str
  | 0 => []
  | 1 => [("line" : PySem.Str), ("column" : PySem.Str)]
  | 2 => []
  | _ => []
def M : MPS.Nm where
  T := T
  attrs := [("text" : PySem.Str), ("at" : PySem.Str), ("is_next" : PySem.Str), ("run" : PySem.Str), ("fail" : PySem.Str), ("value" : PySem.Str), ("__init__" : PySem.Str)]
  efs := efs
  gl := [(("is_number" : PySem.Str), .fn 0), (("LETTERS" : PySem.Str), .cst (.str ("abcdefghijklmnopqrstuvwxyz" : PySem.Str))), (("DIGITS" : PySem.Str), .cst (.str ("0123456789" : PySem.Str))), (("is_word" : PySem.Str), .fn 2), (("is_index" : PySem.Str), .fn 1), (("is_plain" : PySem.Str), .fn 3), (("MOST_LEVELS" : PySem.Str), .cst (.int 60)), (("shown" : PySem.Str), .fn 5), (("is_plain_value" : PySem.Str), .fn 4), (("Nothing" : PySem.Str), .exc 2), (("MOST_FIGURES" : PySem.Str), .cst (.int 30)), (("BadText" : PySem.Str), .exc 1), (("run_value" : PySem.Str), .fn 7), (("Values" : PySem.Str), .cls 0), (("_law_take" : PySem.Str), .fn 15), (("_law_with_part" : PySem.Str), .fn 19), (("_law_some" : PySem.Str), .fn 16), (("_law_paths" : PySem.Str), .fn 17), (("_law_part_of" : PySem.Str), .fn 18), (("_law_is_index" : PySem.Str), .fn 21), (("_law_odd" : PySem.Str), .fn 22), (("_law_is_plain" : PySem.Str), .fn 25), (("_law_is_word" : PySem.Str), .fn 24), (("_law_text" : PySem.Str), .fn 26), (("_law_value_of" : PySem.Str), .fn 27), (("value_text" : PySem.Str), .fn 6), (("read_value" : PySem.Str), .fn 13), (("_law_drawn" : PySem.Str), .fn 30), (("_law_bag" : PySem.Str), .fn 14), (("_law_alike" : PySem.Str), .fn 20), (("_law_spoilt" : PySem.Str), .fn 23), (("_law_come_to" : PySem.Str), .fn 29), (("_law_read" : PySem.Str), .fn 28), (("law" : PySem.Str), .fn 31)]
  free := [("isinstance" : PySem.Str), ("bool" : PySem.Str), ("int" : PySem.Str), ("str" : PySem.Str), ("all" : PySem.Str), ("tuple" : PySem.Str), ("len" : PySem.Str), ("abs" : PySem.Str), ("enumerate" : PySem.Str), ("repr" : PySem.Str), ("list" : PySem.Str), ("max" : PySem.Str), ("range" : PySem.Str)]
  exT := [[true, false, false], [true, true, false], [true, false, true]]
def x_BadText : MPS.ExD := ⟨("BadText" : PySem.Str), ("BadText.__init__" : PySem.Str), ("line" : PySem.Str), ("column" : PySem.Str), L2.defArgs (inC 3 0), L2.defBody (inC 3 0), L2.defScope (inC 3 0)⟩
def A : MPS.At where
  defs := [d_is_number, d_is_index, d_is_word, d_is_plain, d_is_plain_value, d_shown, d_value_text, d_run_value, d_Valuesd__initd_, d_Values_fail, d_Values_is_next, d_Values_run, d_Values_value, d_read_value, d_l_bag, d_l_take, d_l_some, d_l_paths, d_l_part_of, d_l_with_part, d_l_alike, d_l_is_index, d_l_odd, d_l_spoilt, d_l_is_word, d_l_is_plain, d_l_text, d_l_value_of, d_l_read, d_l_come_to, d_l_drawn, d_law]
  cls := [("Values" : PySem.Str)]
  exs := [(("FixError" : PySem.Str), none), (("BadText" : PySem.Str), some x_BadText), (("Nothing" : PySem.Str), none)]
theorem ndM : M.attrs.Nodup := by decide +kernel
theorem sq : ∀ r ∈ M.exT, r.length = M.exT.length := by decide +kernel
theorem ok_is_number : MPS.RowOk M d_is_number r_is_number e_is_number := ⟨rfl, rfl, ⟨rfl, rfl, rfl, by decide +kernel, rfl, by decide +kernel, by decide +kernel⟩, rfl, rfl, by kernel_rfl, fun _ _ _ _ _ _ us hl => match us, hl with | [_], _ => rfl⟩
theorem ok_is_index : MPS.RowOk M d_is_index r_is_index e_is_index := ⟨rfl, rfl, ⟨rfl, rfl, rfl, by decide +kernel, rfl, by decide +kernel, by decide +kernel⟩, rfl, rfl, by kernel_rfl, fun _ _ _ _ _ _ us hl => match us, hl with | [_], _ => rfl⟩
theorem ok_is_word : MPS.RowOk M d_is_word r_is_word e_is_word := ⟨rfl, rfl, ⟨rfl, rfl, rfl, by decide +kernel, rfl, by decide +kernel, by decide +kernel⟩, rfl, rfl, by kernel_rfl, fun _ _ _ _ _ _ us hl => match us, hl with | [_], _ => rfl⟩
theorem ok_is_plain : MPS.RowOk M d_is_plain r_is_plain e_is_plain := ⟨rfl, rfl, ⟨rfl, rfl, rfl, by decide +kernel, rfl, by decide +kernel, by decide +kernel⟩, rfl, rfl, by kernel_rfl, fun _ _ _ _ _ _ us hl => match us, hl with | [_, _], _ => rfl⟩
theorem ok_is_plain_value : MPS.RowOk M d_is_plain_value r_is_plain_value e_is_plain_value := ⟨rfl, rfl, ⟨rfl, rfl, rfl, by decide +kernel, rfl, by decide +kernel, by decide +kernel⟩, rfl, rfl, by kernel_rfl, fun _ _ _ _ _ _ us hl => match us, hl with | [_], _ => rfl⟩
theorem ok_shown : MPS.RowOk M d_shown r_shown e_shown := ⟨rfl, rfl, ⟨rfl, rfl, rfl, by decide +kernel, rfl, by decide +kernel, by decide +kernel⟩, rfl, rfl, by kernel_rfl, fun _ _ _ _ _ _ us hl => match us, hl with | [_], _ => rfl⟩
theorem ok_value_text : MPS.RowOk M d_value_text r_value_text e_value_text := ⟨rfl, rfl, ⟨rfl, rfl, rfl, by decide +kernel, rfl, by decide +kernel, by decide +kernel⟩, rfl, rfl, by kernel_rfl, fun _ _ _ _ _ _ us hl => match us, hl with | [_], _ => rfl⟩
theorem ok_run_value : MPS.RowOk M d_run_value r_run_value e_run_value := ⟨rfl, rfl, ⟨rfl, rfl, rfl, by decide +kernel, rfl, by decide +kernel, by decide +kernel⟩, rfl, rfl, by kernel_rfl, fun _ _ _ _ _ _ us hl => match us, hl with | [_], _ => rfl⟩
theorem ok_Valuesd__initd_ : MPS.RowOk M d_Valuesd__initd_ r_Valuesd__initd_ e_Valuesd__initd_ := ⟨rfl, rfl, ⟨rfl, rfl, rfl, by decide +kernel, rfl, by decide +kernel, by decide +kernel⟩, rfl, rfl, by kernel_rfl, fun _ _ _ _ _ _ us hl => match us, hl with | [_, _], _ => rfl⟩
theorem ok_Values_fail : MPS.RowOk M d_Values_fail r_Values_fail e_Values_fail := ⟨rfl, rfl, ⟨rfl, rfl, rfl, by decide +kernel, rfl, by decide +kernel, by decide +kernel⟩, rfl, rfl, by kernel_rfl, fun _ _ _ _ _ _ us hl => match us, hl with | [_], _ => rfl⟩
theorem ok_Values_is_next : MPS.RowOk M d_Values_is_next r_Values_is_next e_Values_is_next := ⟨rfl, rfl, ⟨rfl, rfl, rfl, by decide +kernel, rfl, by decide +kernel, by decide +kernel⟩, rfl, rfl, by kernel_rfl, fun _ _ _ _ _ _ us hl => match us, hl with | [_, _], _ => rfl⟩
theorem ok_Values_run : MPS.RowOk M d_Values_run r_Values_run e_Values_run := ⟨rfl, rfl, ⟨rfl, rfl, rfl, by decide +kernel, rfl, by decide +kernel, by decide +kernel⟩, rfl, rfl, by kernel_rfl, fun _ _ _ _ _ _ us hl => match us, hl with | [_], _ => rfl⟩
theorem ok_Values_value : MPS.RowOk M d_Values_value r_Values_value e_Values_value := ⟨rfl, rfl, ⟨rfl, rfl, rfl, by decide +kernel, rfl, by decide +kernel, by decide +kernel⟩, rfl, rfl, by kernel_rfl, fun _ _ _ _ _ _ us hl => match us, hl with | [_, _], _ => rfl⟩
theorem ok_read_value : MPS.RowOk M d_read_value r_read_value e_read_value := ⟨rfl, rfl, ⟨rfl, rfl, rfl, by decide +kernel, rfl, by decide +kernel, by decide +kernel⟩, rfl, rfl, by kernel_rfl, fun _ _ _ _ _ _ us hl => match us, hl with | [_], _ => rfl⟩
theorem ok_l_bag : MPS.RowOk M d_l_bag r_l_bag e_l_bag := ⟨rfl, rfl, ⟨rfl, rfl, rfl, by decide +kernel, rfl, by decide +kernel, by decide +kernel⟩, rfl, rfl, by kernel_rfl, fun _ _ _ _ _ _ us hl => match us, hl with | [_], _ => rfl⟩
theorem ok_l_take : MPS.RowOk M d_l_take r_l_take e_l_take := ⟨rfl, rfl, ⟨rfl, rfl, rfl, by decide +kernel, rfl, by decide +kernel, by decide +kernel⟩, rfl, rfl, by kernel_rfl, fun _ _ _ _ _ _ us hl => match us, hl with | [_, _], _ => rfl⟩
theorem ok_l_some : MPS.RowOk M d_l_some r_l_some e_l_some := ⟨rfl, rfl, ⟨rfl, rfl, rfl, by decide +kernel, rfl, by decide +kernel, by decide +kernel⟩, rfl, rfl, by kernel_rfl, fun _ _ _ _ _ _ us hl => match us, hl with | [_, _], _ => rfl⟩
theorem ok_l_paths : MPS.RowOk M d_l_paths r_l_paths e_l_paths := ⟨rfl, rfl, ⟨rfl, rfl, rfl, by decide +kernel, rfl, by decide +kernel, by decide +kernel⟩, rfl, rfl, by kernel_rfl, fun _ _ _ _ _ _ us hl => match us, hl with | [_, _], _ => rfl⟩
theorem ok_l_part_of : MPS.RowOk M d_l_part_of r_l_part_of e_l_part_of := ⟨rfl, rfl, ⟨rfl, rfl, rfl, by decide +kernel, rfl, by decide +kernel, by decide +kernel⟩, rfl, rfl, by kernel_rfl, fun _ _ _ _ _ _ us hl => match us, hl with | [_, _], _ => rfl⟩
theorem ok_l_with_part : MPS.RowOk M d_l_with_part r_l_with_part e_l_with_part := ⟨rfl, rfl, ⟨rfl, rfl, rfl, by decide +kernel, rfl, by decide +kernel, by decide +kernel⟩, rfl, rfl, by kernel_rfl, fun _ _ _ _ _ _ us hl => match us, hl with | [_, _, _], _ => rfl⟩
theorem ok_l_alike : MPS.RowOk M d_l_alike r_l_alike e_l_alike := ⟨rfl, rfl, ⟨rfl, rfl, rfl, by decide +kernel, rfl, by decide +kernel, by decide +kernel⟩, rfl, rfl, by kernel_rfl, fun _ _ _ _ _ _ us hl => match us, hl with | [_, _], _ => rfl⟩
theorem ok_l_is_index : MPS.RowOk M d_l_is_index r_l_is_index e_l_is_index := ⟨rfl, rfl, ⟨rfl, rfl, rfl, by decide +kernel, rfl, by decide +kernel, by decide +kernel⟩, rfl, rfl, by kernel_rfl, fun _ _ _ _ _ _ us hl => match us, hl with | [_], _ => rfl⟩
theorem ok_l_odd : MPS.RowOk M d_l_odd r_l_odd e_l_odd := ⟨rfl, rfl, ⟨rfl, rfl, rfl, by decide +kernel, rfl, by decide +kernel, by decide +kernel⟩, rfl, rfl, by kernel_rfl, fun _ _ _ _ _ _ us hl => match us, hl with | [_], _ => rfl⟩
theorem ok_l_spoilt : MPS.RowOk M d_l_spoilt r_l_spoilt e_l_spoilt := ⟨rfl, rfl, ⟨rfl, rfl, rfl, by decide +kernel, rfl, by decide +kernel, by decide +kernel⟩, rfl, rfl, by kernel_rfl, fun _ _ _ _ _ _ us hl => match us, hl with | [_, _], _ => rfl⟩
theorem ok_l_is_word : MPS.RowOk M d_l_is_word r_l_is_word e_l_is_word := ⟨rfl, rfl, ⟨rfl, rfl, rfl, by decide +kernel, rfl, by decide +kernel, by decide +kernel⟩, rfl, rfl, by kernel_rfl, fun _ _ _ _ _ _ us hl => match us, hl with | [_], _ => rfl⟩
theorem ok_l_is_plain : MPS.RowOk M d_l_is_plain r_l_is_plain e_l_is_plain := ⟨rfl, rfl, ⟨rfl, rfl, rfl, by decide +kernel, rfl, by decide +kernel, by decide +kernel⟩, rfl, rfl, by kernel_rfl, fun _ _ _ _ _ _ us hl => match us, hl with | [_, _], _ => rfl⟩
theorem ok_l_text : MPS.RowOk M d_l_text r_l_text e_l_text := ⟨rfl, rfl, ⟨rfl, rfl, rfl, by decide +kernel, rfl, by decide +kernel, by decide +kernel⟩, rfl, rfl, by kernel_rfl, fun _ _ _ _ _ _ us hl => match us, hl with | [_], _ => rfl⟩
theorem ok_l_value_of : MPS.RowOk M d_l_value_of r_l_value_of e_l_value_of := ⟨rfl, rfl, ⟨rfl, rfl, rfl, by decide +kernel, rfl, by decide +kernel, by decide +kernel⟩, rfl, rfl, by kernel_rfl, fun _ _ _ _ _ _ us hl => match us, hl with | [_], _ => rfl⟩
theorem ok_l_read : MPS.RowOk M d_l_read r_l_read e_l_read := ⟨rfl, rfl, ⟨rfl, rfl, rfl, by decide +kernel, rfl, by decide +kernel, by decide +kernel⟩, rfl, rfl, by kernel_rfl, fun _ _ _ _ _ _ us hl => match us, hl with | [_], _ => rfl⟩
theorem ok_l_come_to : MPS.RowOk M d_l_come_to r_l_come_to e_l_come_to := ⟨rfl, rfl, ⟨rfl, rfl, rfl, by decide +kernel, rfl, by decide +kernel, by decide +kernel⟩, rfl, rfl, by kernel_rfl, fun _ _ _ _ _ _ us hl => match us, hl with | [_, _], _ => rfl⟩
theorem ok_l_drawn : MPS.RowOk M d_l_drawn r_l_drawn e_l_drawn := ⟨rfl, rfl, ⟨rfl, rfl, rfl, by decide +kernel, rfl, by decide +kernel, by decide +kernel⟩, rfl, rfl, by kernel_rfl, fun _ _ _ _ _ _ us hl => match us, hl with | [_, _], _ => rfl⟩
theorem ok_law : MPS.RowOk M d_law r_law e_law := ⟨rfl, rfl, ⟨rfl, rfl, rfl, by decide +kernel, rfl, by decide +kernel, by decide +kernel⟩, rfl, rfl, by kernel_rfl, fun _ _ _ _ _ _ us hl => match us, hl with | [_], _ => rfl⟩
end K88
end
section
set_option Elab.async false
set_option linter.all false
set_option autoImplicit false
set_option maxRecDepth 100000
set_option maxHeartbeats 0
/-! K88H: the head of k88: the run of its top. -/
namespace K88
open PySem PySem.Spec PyProof.Rows L2
abbrev R : PySem.W.OpenRow := PySem.W.OpenLaw.row PySem.Challenge.rw_fixwright_k88_plain_values_and_their_tex
def l1 : List Str := ["_wall", "FixError", "BadText", "Nothing", "__name__", "LETTERS", "DIGITS", "is_number", "is_index", "MOST_LEVELS", "MOST_FIGURES", "is_word", "is_plain", "is_plain_value", "shown", "value_text", "run_value", "Values", "read_value"]
def l2 : List Str := ["_law_bag", "_law_take", "_law_some", "_law_paths", "_law_part_of", "_law_with_part", "_law_alike", "_law_is_index", "_law_odd", "_law_spoilt", "_law_is_word", "_law_is_plain", "_law_text", "_law_value_of", "_law_read", "_law_come_to", "_law_drawn"]
abbrev loose : List Str := l1 ++ l2
theorem xok : x_BadText.Ok := by
  refine ⟨⟨_, _, _, _, _, _, _, _, _, _, _, _, _, _, _, rfl, rfl⟩, ⟨_, rfl, rfl⟩, ⟨rfl, rfl, rfl, rfl, rfl⟩, ⟨by decide +kernel, rfl, rfl, rfl⟩, fun _ _ _ _ _ _ _ _ _ _ => ?_, ⟨by decide +kernel, by decide +kernel, by decide +kernel, by decide +kernel, by decide +kernel⟩⟩
  exact BindsTo.of_eq rfl
theorem runH (w : World) : HandSHeadRun.RunEq R (PySem.W.view R.prog [39]) (MPS.hookM R.prog M A 6) (MPS.obM R.prog M A 6) 3000 loose w := by
  intro os
  kernel_rfl
abbrev kk : Nat := 90
theorem exsOk : ∀ (c : Nat) (x : Str) (d : MPS.ExD), A.exs[c]? = some (x, some d) → d.Ok := by
  intro c x d h
  match c, h with
  | 0, h => cases h
  | 1, h =>
    have e : x_BadText = d := by
      have := Option.some.inj h
      exact Option.some.inj (congrArg Prod.snd this)
    exact e ▸ xok
  | 2, h => cases h
  | n + 3, h => cases h
theorem defsOk {K : PySem.W.Frag} (c : MPS.SaysM R.prog M A K) : ∀ f, f < M.T.fns.length → MPS.DefOk (MPS.scOf M A K) K f := by
  intro f hf
  have go : ∀ (e : MP.FnE) (d : He.DefD) (r : MPS.Row), M.T.fns[f]? = some e → A.defs[f]? = some d → MPS.RowOk M d r e → MPS.DefOk (MPS.scOf M A K) K f := fun e d r he hd ok => MPS.defOk_of c hd he ok
  match f, hf, go with
  | 0, hf, go => exact go _ _ _ rfl rfl ok_is_number
  | 1, hf, go => exact go _ _ _ rfl rfl ok_is_index
  | 2, hf, go => exact go _ _ _ rfl rfl ok_is_word
  | 3, hf, go => exact go _ _ _ rfl rfl ok_is_plain
  | 4, hf, go => exact go _ _ _ rfl rfl ok_is_plain_value
  | 5, hf, go => exact go _ _ _ rfl rfl ok_shown
  | 6, hf, go => exact go _ _ _ rfl rfl ok_value_text
  | 7, hf, go => exact go _ _ _ rfl rfl ok_run_value
  | 8, hf, go => exact go _ _ _ rfl rfl ok_Valuesd__initd_
  | 9, hf, go => exact go _ _ _ rfl rfl ok_Values_fail
  | 10, hf, go => exact go _ _ _ rfl rfl ok_Values_is_next
  | 11, hf, go => exact go _ _ _ rfl rfl ok_Values_run
  | 12, hf, go => exact go _ _ _ rfl rfl ok_Values_value
  | 13, hf, go => exact go _ _ _ rfl rfl ok_read_value
  | 14, hf, go => exact go _ _ _ rfl rfl ok_l_bag
  | 15, hf, go => exact go _ _ _ rfl rfl ok_l_take
  | 16, hf, go => exact go _ _ _ rfl rfl ok_l_some
  | 17, hf, go => exact go _ _ _ rfl rfl ok_l_paths
  | 18, hf, go => exact go _ _ _ rfl rfl ok_l_part_of
  | 19, hf, go => exact go _ _ _ rfl rfl ok_l_with_part
  | 20, hf, go => exact go _ _ _ rfl rfl ok_l_alike
  | 21, hf, go => exact go _ _ _ rfl rfl ok_l_is_index
  | 22, hf, go => exact go _ _ _ rfl rfl ok_l_odd
  | 23, hf, go => exact go _ _ _ rfl rfl ok_l_spoilt
  | 24, hf, go => exact go _ _ _ rfl rfl ok_l_is_word
  | 25, hf, go => exact go _ _ _ rfl rfl ok_l_is_plain
  | 26, hf, go => exact go _ _ _ rfl rfl ok_l_text
  | 27, hf, go => exact go _ _ _ rfl rfl ok_l_value_of
  | 28, hf, go => exact go _ _ _ rfl rfl ok_l_read
  | 29, hf, go => exact go _ _ _ rfl rfl ok_l_come_to
  | 30, hf, go => exact go _ _ _ rfl rfl ok_l_drawn
  | 31, hf, go => exact go _ _ _ rfl rfl ok_law
  | n + 32, hf, go => exact absurd hf (by have e : M.T.fns.length = 32 := rfl; rw [e]; omega)
end K88
open PySem PySem.W PySem.Calls PyProof.Rows
theorem K88.main (plain : ∀ ns : List Int, ns.length ≤ 63 → ∃ g', MP.callF K88.T K88.kk K88.f_law [.frl (ns.map .int)] [] = .ok (.bl true) g') : PySem.Challenge.rw_fixwright_k88_plain_values_and_their_tex.Holds := by
  w_on; o_law
  refine HandSHeadRun.head_any (r := OpenLaw.row PySem.Challenge.rw_fixwright_k88_plain_values_and_their_tex) (q := view (OpenLaw.row PySem.Challenge.rw_fixwright_k88_plain_values_and_their_tex).prog [39]) (H := MPS.hookM K88.R.prog K88.M K88.A 6) (ob := MPS.obM K88.R.prog K88.M K88.A 6) (M := 3000) (loose := K88.loose) (d := HandSHeadRun.topDef (OpenLaw.row PySem.Challenge.rw_fixwright_k88_plain_values_and_their_tex).prog 39) (kwd := []) MPS.obM_eq
    (by kernel_rfl) (fun s => by kernel_rfl) K88.runH (by kernel_rfl) (by kernel_rfl) (by kernel_rfl) (by rfl) (by first | assumption | decide +kernel) (by decide +kernel) ⟨rfl, rfl, rfl, rfl, rfl, by decide +kernel⟩ ?hw ?hc
  case hw => w_witness2
  case hc =>
    refine MPS.walk_G (l := PySem.Challenge.rw_fixwright_k88_plain_values_and_their_tex) (n := 63) (k := K88.kk) (x := "script") rfl (by decide) (by kernel_rfl) ⟨rfl, by decide, by decide⟩ ?F
    intro w mg fa h Y G hmg0
    obtain ⟨K, KX, c⟩ := Y
    have hmg : mg ("law" : PySem.Str) = some (.ref fa) := by
      have e : (HandSHeadRun.topDef (OpenLaw.row PySem.Challenge.rw_fixwright_k88_plain_values_and_their_tex).prog 39).name = ("law" : PySem.Str) := by kernel_rfl
      rw [← e]
      exact hmg0
    exact MPS.law_F ⟨K, KX, c⟩ G hmg K88.ndM K88.sq K88.exsOk (fun K c => K88.defsOk c) (f := K88.f_law) rfl rfl K88.ok_law rfl rfl plain
end
set_option Elab.async false
set_option maxRecDepth 100000 in
set_option maxHeartbeats 8000000 in
theorem PySem.Challenge.cw_fixwright_k88_plain_values_and_their_tex_holds : PySem.Challenge.rw_fixwright_k88_plain_values_and_their_tex.Holds := by
  exact K88.main (fun ns h => K88.plain ns h)
