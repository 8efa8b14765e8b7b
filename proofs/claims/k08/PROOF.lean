import PyProof.Rows.All
import Wide.All
import OpenK.AllK
import Wide.FinOn
import KE.KStateDown
import Lean
import HandS.ForMost
import HandS.Wide
import HandS.Zip
import HandS.Style
import HandS.IsInst
import PyProof.ReprRoads
import HandS.Defaults
import HandS.Ends
import HandS.Head0
import HandS.Head1
import HandS.Head2
import HandS.HeadEnd
import HandS.HeadHook1
import HandS.HeadHook2
import HandS.TupSets
import HandS.Deep
import HandS.More
import HandS.Conv
import PyProof.ListOps
import PyProof.SumWalkG
import PySem.Challenge.RW_nearerstill_k08_whole_shapes
set_option Elab.async false
set_option linter.all false
set_option maxRecDepth 100000
/-! MP, part a: a small deterministic machine for a part of Python: values, heap of lists, expressions, statements. -/
namespace MP
open PySem

/-- a small value; a tuple is its items, a list is a number in the small heap, kls a list that is never written -/
inductive MV where
  | non | bl (b : Bool) | int (i : Int) | str (s : Str) | tup (xs : List MV) | lst (n : Nat) | kls (xs : List MV) | dct
abbrev MH := List (List MV)
abbrev Sl := List (Option MV)

/-- what a run ends in -/
inductive Re (α : Type) where
  | bad | exc (c : Nat) (v : MV) (M : MH) | ok (a : α) (M : MH)
def Re.bnd {α β : Type} (x : Re α) (f : α → MH → Re β) : Re β := match x with
  | .bad => .bad
  | .exc c v M => .exc c v M
  | .ok a M => f a M

/-- the most items of a list -/
def lim : Nat := 1000000

/-! ### data, for repr, ==, in -/
def pd : Nat → MH → MV → Option PyData
  | 0, _, _ => none
  | n + 1, M, v => match v with
    | .non => some .none
    | .bl b => some (.bool b)
    | .int i => some (.int i)
    | .str s => some (.str s)
    | .tup xs => (xs.mapM (pd n M)).map .tuple
    | .kls xs => (xs.mapM (pd n M)).map .list
    | .lst k => match M[k]? with
      | some xs => (xs.mapM (pd n M)).map .list
      | none => none
    | .dct => none
def pdDepth : Nat := 30

/-- the items of a list value -/
def itemsL (M : MH) : MV → Option (List MV)
  | .lst n => M[n]?
  | .kls xs => some xs
  | _ => none
def itemsT : MV → Option (List MV)
  | .tup xs => some xs
  | _ => none
def newL (xs : List MV) (M : MH) : Re MV := .ok (.lst M.length) (M ++ [xs])

def b2 (b : Bool) (M : MH) : Re MV := .ok (.bl b) M

/-! ### operators -/
inductive BOp | add | sub | mul | fdv | mod | pow
inductive COp | eq | ne | lt | le | gt | ge | is | isn | inn | nin
inductive Ty | int | bool | str | list | tuple | dict
  deriving DecidableEq
inductive Bt | len | abs | int | str | repr | all | sum | list | tuple | max | min
inductive Mt | append | pop | insert | extend

def binop (o : BOp) (u v : MV) (M : MH) : Re MV := match o, u, v with
  | .add, .int i, .int j => .ok (.int (i + j)) M
  | .add, .lst a, .lst b => match M[a]?, M[b]? with
    | some xs, some ys => if xs.length + ys.length ≤ lim then newL (xs ++ ys) M else .bad
    | _, _ => .bad
  | .add, .str a, .str b => if a.length + b.length ≤ lim then .ok (.str (a ++ b)) M else .bad
  | .sub, .int i, .int j => .ok (.int (i - j)) M
  | .mul, .int i, .int j => if i.natAbs.log2 + j.natAbs.log2 < 1000000 then .ok (.int (i * j)) M else .bad
  | .mul, .lst a, .int j => match M[a]? with
    | some xs => if -1000 ≤ j ∧ j ≤ 1000 ∧ xs.length * j.toNat ≤ lim then newL (List.replicate j.toNat xs).flatten M else .bad
    | none => .bad
  | .fdv, .int i, .int j => if j ≠ 0 ∧ j.natAbs.log2 < 9000 then .ok (.int (i.fdiv j)) M else .bad
  | .mod, .int i, .int j => if j ≠ 0 then .ok (.int (i.fmod j)) M else .bad
  | .pow, .int i, .int j => if 0 ≤ j ∧ j ≤ 1000 ∧ i.natAbs < 2 ^ 64 then .ok (.int (i ^ j.toNat)) M else .bad
  | _, _, _ => .bad

/-- x == y -/
def eqM (M : MH) (u v : MV) : Option Bool := match u, v with
  | .int i, .int j => some (i == j)
  | .str a, .str b => some (decide (a = b))
  | _, _ => match pd pdDepth M u, pd pdDepth M v with
    | some d, some e => if SeqAt.shaped d = true ∧ SeqAt.shaped e = true then some (PyData.eqv d e) else none
    | _, _ => none

/-- u in v, v a list -/
def inM (M : MH) (u v : MV) : Option Bool := match pd pdDepth M u, pd pdDepth M v with
  | some d, some (.list ds) => if SeqAt.shaped d = true ∧ SeqAt.shaped (.list ds) = true then some (ds.any fun z => PyData.eqv z d) else none
  | _, _ => none
def isM (u v : MV) : Option Bool := match u, v with
  | .non, .non => some true
  | .bl a, .bl b => some (a == b)
  | .non, .bl _ => some false
  | .bl _, .non => some false
  | .int _, .bl _ => some false
  | .str _, .bl _ => some false
  | .tup _, .bl _ => some false
  | .lst _, .bl _ => some false
  | .kls _, .bl _ => some false
  | .dct, .bl _ => some false
  | .int _, .non => some false
  | .str _, .non => some false
  | .tup _, .non => some false
  | .lst _, .non => some false
  | .kls _, .non => some false
  | .dct, .non => some false
  | _, _ => none

def ofO (M : MH) (o : Option Bool) : Re MV := match o with
  | some b => .ok (.bl b) M
  | none => .bad
def cmpop (o : COp) (u v : MV) (M : MH) : Re MV := match o with
  | .eq => ofO M (eqM M u v)
  | .ne => ofO M ((eqM M u v).map (!·))
  | .lt => match u, v with
    | .int i, .int j => b2 (decide (i < j)) M
    | _, _ => .bad
  | .le => match u, v with
    | .int i, .int j => b2 (decide (i ≤ j)) M
    | _, _ => .bad
  | .gt => match u, v with
    | .int i, .int j => b2 (decide (j < i)) M
    | _, _ => .bad
  | .ge => match u, v with
    | .int i, .int j => b2 (decide (j ≤ i)) M
    | _, _ => .bad
  | .is => ofO M (isM u v)
  | .isn => ofO M ((isM u v).map (!·))
  | .inn => ofO M (inM M u v)
  | .nin => ofO M ((inM M u v).map (!·))

def tyOfM : MV → Option Ty
  | .non => none
  | .bl _ => some .bool
  | .int _ => some .int
  | .str _ => some .str
  | .tup _ => some .tuple
  | .lst _ => some .list
  | .kls _ => some .list
  | .dct => some .dict
/-- isinstance(v, (t, ..)) -/
def isiM (v : MV) (ts : List Ty) : Bool := match tyOfM v with
  | none => false
  | some t => ts.any fun c => c == t || (c == .int && t == .bool)

/-- x[i] -/
def idxop (u v : MV) (M : MH) : Re MV := match v with
  | .int i => match u with
    | .tup xs => match L2.atI xs i with
      | some x => .ok x M
      | none => .bad
    | _ => match itemsL M u with
      | some xs => match L2.atI xs i with
        | some x => .ok x M
        | none => .bad
      | none => .bad
  | _ => .bad
def cutM (xs : List MV) (lo hi : Option Int) : List MV := (xs.drop (HT.sIx xs.length 0 lo)).take (HT.sIx xs.length xs.length hi - HT.sIx xs.length 0 lo)
def slcop (u : MV) (lo hi : Option Int) (M : MH) : Re MV := match itemsL M u with
  | some xs => newL (cutM xs lo hi) M
  | none => .bad
def asBnd (v : MV) (M : MH) : Re (Option Int) := match v with
  | .int i => .ok (some i) M
  | _ => .bad
def revop (u : MV) (M : MH) : Re MV := match itemsL M u with
  | some xs => newL xs.reverse M
  | none => .bad

def lenM (M : MH) : MV → Option Nat
  | .tup xs => some xs.length
  | .lst n => (M[n]?).map List.length
  | .kls xs => some xs.length
  | .str s => if s.length ≤ lim then some s.length else none
  | _ => none
def boolsOf : List MV → Option (List Bool)
  | [] => some []
  | .bl b :: r => (boolsOf r).map (b :: ·)
  | _ :: _ => none
def intsOf : List MV → Option (List Int)
  | [] => some []
  | .int b :: r => (intsOf r).map (b :: ·)
  | _ :: _ => none
def lstsOf (M : MH) : List MV → Option (List (List MV))
  | [] => some []
  | x :: r => match x with
    | .lst k => match M[k]?, lstsOf M r with
      | some xs, some ls => some (xs :: ls)
      | _, _ => none
    | _ => none
/-- sum(xs, []) -/
def sumM (n t : Nat) (M : MH) : Re MV := match M[n]?, M[t]? with
  | some xs, some [] => if n = t then .bad else match lstsOf M xs with
    | some ls => if ls.flatten.length ≤ lim then (match xs with
        | [] => .ok (.lst t) M
        | _ :: _ => newL ls.flatten M) else .bad
    | none => .bad
  | _, _ => .bad
def reprM (M : MH) (v : MV) : Option Str := match v with
  | .dct => some "{}"
  | _ => match pd pdDepth M v with
    | some d => if d.showable = true ∧ d.hasDict = false ∧ d.depth ≤ 100 ∧ d.shown.length ≤ sizeLine then some d.shown else none
    | none => none

def btop (b : Bt) (vs : List MV) (M : MH) : Re MV := match b, vs with
  | .len, [v] => match lenM M v with
    | some n => .ok (.int n) M
    | none => .bad
  | .abs, [.int i] => .ok (.int (if i < 0 then -i else i)) M
  | .int, [.int i] => .ok (.int i) M
  | .int, [.bl k] => .ok (.int (if k then 1 else 0)) M
  | .str, [.int i] => if i.natAbs.log2 < 1920 then .ok (.str (toString i)) M else .bad
  | .repr, [v] => match reprM M v with
    | some x => .ok (.str x) M
    | none => .bad
  | .all, [v] => match (itemsL M v).bind boolsOf with
    | some bs => .ok (.bl (bs.all id)) M
    | none => .bad
  | .sum, [v] => match (itemsL M v).bind intsOf with
    | some ns => .ok (.int ns.sum) M
    | none => .bad
  | .sum, [.lst n, .lst t] => sumM n t M
  | .list, [v] => match itemsT v with
    | some xs => newL xs M
    | none => match itemsL M v with
      | some xs => newL xs M
      | none => .bad
  | .tuple, [v] => match itemsT v with
    | some xs => .ok (.tup xs) M
    | none => match itemsL M v with
      | some xs => .ok (.tup xs) M
      | none => .bad
  | _, _ => .bad

def mtop (b : Mt) (u : MV) (vs : List MV) (M : MH) : Re MV := match b, u, vs with
  | .append, .lst n, [v] => match M[n]? with
    | some xs => if xs.length < lim then .ok .non (M.set n (xs ++ [v])) else .bad
    | none => .bad
  | .pop, .lst n, [] => match M[n]? with
    | some xs => match xs[xs.length - 1]? with
      | some y => .ok y (M.set n xs.dropLast)
      | none => .bad
    | none => .bad
  | .pop, .lst n, [.int i] => match M[n]? with
    | some xs => match L2.ixN xs.length i with
      | some j => match xs[j]? with
        | some y => if xs.length ≤ lim then .ok y (M.set n (xs.eraseIdx j)) else .bad
        | none => .bad
      | none => .bad
    | none => .bad
  | .insert, .lst n, [.int i, v] => match M[n]? with
    | some xs => if xs.length < lim ∧ 0 ≤ i ∧ i < 1000000 then .ok .non (M.set n (xs.take i.toNat ++ [v] ++ xs.drop i.toNat)) else .bad
    | none => .bad
  | .extend, .lst n, [.lst k] => match M[n]?, M[k]? with
    | some xs, some ys => if xs.length + ys.length ≤ lim then .ok .non (M.set n (xs ++ ys)) else .bad
    | _, _ => .bad
  | _, _, _ => .bad

/-! ### the text -/
inductive Tg | nm (i : Nat) | tp (is : List Nat)
/-- a parameter's value: the i-th written one, or a default -/
inductive Ar | at (i : Nat) | df (v : MV)
mutual
inductive E where
  | var (i : Nat) | cst (v : MV) | glo (k : Nat) | dnw
  | bin (o : BOp) (a b : E) | cmp (o : COp) (a b : E) | chn (o p : COp) (a b c : E)
  | and (a b : E) | or (a b : E) | not (a : E) | neg (a : E) | ife (c a b : E)
  | idx (a i : E) | slc (a : E) (lo hi : Option E) | rev (a : E)
  | tup (es : Es) | lst (es : Es)
  | cal (f sh : Nat) (es ks : Es)
  | blt (b : Bt) (es : Es) | isi (a : E) (ts : List Ty) (many : Bool)
  | mth (m : Mt) (a : E) (es : Es)
  | com (t : Tg) (it : It) (c : Option E) (e : E)
  | lr1 (a : E) | lr2 (a b : E) | lset (a : E)
inductive Es where
  | nil | cons (e : E) (es : Es)
inductive It where
  | seq (e : E) | rg1 (a : E) | rg2 (a b : E) | zip (a b : E) | enu (a : E)
end
mutual
inductive S where
  | exp (e : E) | asg (t : Tg) (e : E) | put (a i e : E) | aug (i : Nat) (o : BOp) (e : E) | agi (a i : E) (o : BOp) (e : E)
  | iff (c : E) (a b : Ss) | whl (c : E) (b : Ss) | for (t : Tg) (it : It) (b : Ss)
  | ret (e : E) | rtn | brk | cnt | pas | rai (c : Nat) (e : E)
inductive Ss where
  | nil | cons (s : S) (ss : Ss)
end

/-! ### running -/
structure Cf where
  call : Nat → List MV → MH → Re MV
  glo : Nat → Option MV
  arr : Nat → Nat → Option (List Ar)
  most : Nat
def argAt (vs : List MV) : Ar → Option MV
  | .at i => vs[i]?
  | .df v => some v

/-- what is walked -/
inductive Src where
  | ls (v : MV) | tp (xs : List MV) | rg (lo : Int) (n : Nat) | zl (u v : MV) | zt (xs ys : List MV) | en (v : MV)
def Src.stop (M : MH) (i : Nat) : Src → Bool
  | .ls v => match itemsL M v with
    | some xs => decide (xs.length ≤ i)
    | none => false
  | .tp xs => decide (xs.length ≤ i)
  | .rg _ n => decide (n ≤ i)
  | .zl u v => match itemsL M u, itemsL M v with
    | some xs, some ys => decide (xs.length ≤ i) || decide (ys.length ≤ i)
    | _, _ => false
  | .zt xs ys => decide (xs.length ≤ i) || decide (ys.length ≤ i)
  | .en v => match itemsL M v with
    | some xs => decide (xs.length ≤ i)
    | none => false
def Src.item (M : MH) (i : Nat) : Src → Option MV
  | .ls v => (itemsL M v).bind (·[i]?)
  | .tp xs => xs[i]?
  | .rg lo n => if i < n then some (.int (lo + i)) else none
  | .zl u v => match (itemsL M u).bind (·[i]?), (itemsL M v).bind (·[i]?) with
    | some x, some y => some (.tup [x, y])
    | _, _ => none
  | .zt xs ys => match xs[i]?, ys[i]? with
    | some x, some y => some (.tup [x, y])
    | _, _ => none
  | .en v => match (itemsL M v).bind (·[i]?) with
    | some x => some (.tup [.int i, x])
    | _ => none
def srcOf (M : MH) (v : MV) : Option Src := match v with
  | .tup xs => some (.tp xs)
  | _ => (itemsL M v).map fun _ => .ls v
def zipOf (M : MH) (u v : MV) : Option Src := match u, v with
  | .tup xs, .tup ys => some (.zt xs ys)
  | _, _ => match itemsL M u, itemsL M v with
    | some _, some _ => some (.zl u v)
    | _, _ => none
def setAll : List Nat → List MV → Sl → Option Sl
  | [], [], m => some m
  | i :: is, v :: vs, m => setAll is vs (m.set i (some v))
  | _, _, _ => none
def Tg.set (t : Tg) (v : MV) (m : Sl) : Option Sl := match t with
  | .nm i => some (m.set i (some v))
  | .tp is => match v with
    | .tup xs => setAll is xs m
    | _ => none
def Tg.own : Tg → List Nat
  | .nm i => [i]
  | .tp is => is
/-- slots forgotten -/
def wip (m : Sl) : List Nat → Sl
  | [] => m
  | i :: is => (wip m is).set i none

/-- a comprehension's turns -/
def comL (s : Src) (f : MV → MH → Re (Option MV)) : Nat → Nat → List MV → MH → Re (List MV)
  | 0, _, _, _ => .bad
  | k + 1, i, acc, M => if s.stop M i = true then .ok acc M else match s.item M i with
    | none => .bad
    | some x => (f x M).bnd fun o M' => match o with
      | none => comL s f k (i + 1) acc M'
      | some y => if acc.length < lim then comL s f k (i + 1) (acc ++ [y]) M' else .bad
/-- each one once -/
def ddup : List (List Int) → List (List Int)
  | [] => []
  | x :: l => if x ∈ ddup l then ddup l else x :: ddup l
/-- how many different ones -/
def dcount (l : List (List Int)) : Nat := (ddup l).length
def tupsOf : List MV → Option (List (List Int))
  | [] => some []
  | x :: r => match x with
    | .tup us => match intsOf us, tupsOf r with
      | some ns, some ls => some (ns :: ls)
      | _, _ => none
    | _ => none
/-- the ints from lo on -/
def rgL (lo : Int) (n : Nat) : List MV := (List.range n).map fun i => .int (lo + (i : Nat))
/-- exceptions don't pass -/
def Re.nox {α : Type} (x : Re α) : Re α := match x with
  | .ok a M => .ok a M
  | _ => .bad

mutual
def ev (C : Cf) : E → Sl → MH → Re MV
  | .var i, m, M => match m[i]? with
    | some (some v) => .ok v M
    | _ => .bad
  | .cst v, _, M => .ok v M
  | .glo k, _, M => match C.glo k with
    | some v => .ok v M
    | none => .bad
  | .dnw, _, M => .ok .dct M
  | .bin o a b, m, M => (ev C a m M).bnd fun u M1 => (ev C b m M1).bnd fun v M2 => binop o u v M2
  | .cmp o a b, m, M => (ev C a m M).bnd fun u M1 => (ev C b m M1).bnd fun v M2 => cmpop o u v M2
  | .chn o p a b c, m, M => (ev C a m M).bnd fun u M1 => (ev C b m M1).bnd fun v M2 => (cmpop o u v M2).bnd fun x M3 => match x with
    | .bl true => (ev C c m M3).bnd fun z M4 => cmpop p v z M4
    | .bl false => .ok (.bl false) M3
    | _ => .bad
  | .and a b, m, M => (ev C a m M).bnd fun u M1 => match u with
    | .bl true => ev C b m M1
    | .bl false => .ok (.bl false) M1
    | _ => .bad
  | .or a b, m, M => (ev C a m M).bnd fun u M1 => match u with
    | .bl false => ev C b m M1
    | .bl true => .ok (.bl true) M1
    | _ => .bad
  | .not a, m, M => (ev C a m M).bnd fun u M1 => match u with
    | .bl b => .ok (.bl (!b)) M1
    | _ => .bad
  | .neg a, m, M => (ev C a m M).bnd fun u M1 => match u with
    | .int i => .ok (.int (-i)) M1
    | _ => .bad
  | .ife c a b, m, M => (ev C c m M).bnd fun u M1 => match u with
    | .bl true => ev C a m M1
    | .bl false => ev C b m M1
    | _ => .bad
  | .idx a i, m, M => (ev C a m M).bnd fun u M1 => (ev C i m M1).bnd fun v M2 => idxop u v M2
  | .slc a lo hi, m, M => (ev C a m M).bnd fun u M1 =>
    (match lo with
      | none => Re.ok none M1
      | some l => (ev C l m M1).bnd asBnd).bnd fun v M2 =>
    (match hi with
      | none => Re.ok none M2
      | some l => (ev C l m M2).bnd asBnd).bnd fun x M3 => slcop u v x M3
  | .rev a, m, M => (ev C a m M).bnd fun u M1 => revop u M1
  | .tup es, m, M => (evs C es m M).bnd fun vs M1 => .ok (.tup vs) M1
  | .lst es, m, M => (evs C es m M).bnd fun vs M1 => newL vs M1
  | .cal f sh es ks, m, M => (evs C es m M).bnd fun vs M1 => (evs C ks m M1).bnd fun ws M2 => match C.arr f sh with
    | some ar => match ar.mapM (argAt (vs ++ ws)) with
      | some args => C.call f args M2
      | none => .bad
    | none => .bad
  | .blt b es, m, M => (evs C es m M).bnd fun vs M1 => btop b vs M1
  | .isi a ts _, m, M => (ev C a m M).bnd fun u M1 => .ok (.bl (isiM u ts)) M1
  | .mth b a es, m, M => (ev C a m M).bnd fun u M1 => (evs C es m M1).bnd fun vs M2 => mtop b u vs M2
  | .com t it c e, m, M => (evI C it m M).bnd fun s M1 =>
    (comL s (fun x M => match t.set x (wip m t.own) with
      | none => .bad
      | some m' => match c with
        | none => ((ev C e m' M).nox).bnd fun y M' => .ok (some y) M'
        | some c => ((ev C c m' M).nox).bnd fun k M' => match k with
          | .bl true => ((ev C e m' M').nox).bnd fun y M'' => .ok (some y) M''
          | .bl false => .ok none M'
          | _ => .bad) C.most 0 [] M1).bnd fun ys M2 => newL ys M2
  | .lr1 a, m, M => (ev C a m M).bnd fun v M1 => match v with
    | .int j => if -1000000 ≤ j ∧ j ≤ 1000000 then newL (rgL 0 j.toNat) M1 else .bad
    | _ => .bad
  | .lr2 a b, m, M => (ev C a m M).bnd fun u M1 => (ev C b m M1).bnd fun v M2 => match u, v with
    | .int i, .int j => if -1000000 ≤ i ∧ i ≤ 1000000 ∧ -1000000 ≤ j ∧ j ≤ 1000000 then newL (rgL i (j - i).toNat) M2 else .bad
    | _, _ => .bad
  | .lset a, m, M => (ev C a m M).bnd fun v M1 => match itemsL M1 v with
    | some xs => match tupsOf xs with
      | some ls => if ls.length < 64 then .ok (.int (dcount ls)) M1 else .bad
      | none => .bad
    | none => .bad
def evs (C : Cf) : Es → Sl → MH → Re (List MV)
  | .nil, _, M => .ok [] M
  | .cons e es, m, M => (ev C e m M).bnd fun v M1 => (evs C es m M1).bnd fun vs M2 => .ok (v :: vs) M2
def evI (C : Cf) : It → Sl → MH → Re Src
  | .seq e, m, M => (ev C e m M).bnd fun v M1 => match srcOf M1 v with
    | some s => .ok s M1
    | none => .bad
  | .rg1 a, m, M => (ev C a m M).bnd fun v M1 => match v with
    | .int j => if -1000000 ≤ j ∧ j ≤ 1000000 then .ok (.rg 0 j.toNat) M1 else .bad
    | _ => .bad
  | .rg2 a b, m, M => (ev C a m M).bnd fun u M1 => (ev C b m M1).bnd fun v M2 => match u, v with
    | .int i, .int j => if -1000000 ≤ i ∧ i ≤ 1000000 ∧ -1000000 ≤ j ∧ j ≤ 1000000 then .ok (.rg i (j - i).toNat) M2 else .bad
    | _, _ => .bad
  | .zip a b, m, M => (ev C a m M).bnd fun u M1 => (ev C b m M1).bnd fun v M2 => match zipOf M2 u v with
    | some s => .ok s M2
    | none => .bad
  | .enu a, m, M => (ev C a m M).bnd fun v M1 => match itemsL M1 v with
    | some _ => .ok (.en v) M1
    | none => .bad
end

/-- how a statement ends -/
inductive Fl | nx | bk | cn | rt (v : MV)
def forL (s : Src) (f : MV → Sl → MH → Re (Fl × Sl)) : Nat → Nat → Sl → MH → Re (Fl × Sl)
  | 0, _, _, _ => .bad
  | k + 1, i, m, M => if s.stop M i = true then .ok (.nx, m) M else match s.item M i with
    | none => .bad
    | some x => (f x m M).bnd fun p M' => match p.1 with
      | .nx => forL s f k (i + 1) p.2 M'
      | .cn => forL s f k (i + 1) p.2 M'
      | .bk => .ok (.nx, p.2) M'
      | .rt v => .ok (.rt v, p.2) M'
def whlL (c : Sl → MH → Re MV) (f : Sl → MH → Re (Fl × Sl)) : Nat → Sl → MH → Re (Fl × Sl)
  | 0, _, _ => .bad
  | k + 1, m, M => (c m M).bnd fun u M1 => match u with
    | .bl false => .ok (.nx, m) M1
    | .bl true => (f m M1).bnd fun p M' => match p.1 with
      | .nx => whlL c f k p.2 M'
      | .cn => whlL c f k p.2 M'
      | .bk => .ok (.nx, p.2) M'
      | .rt v => .ok (.rt v, p.2) M'
    | _ => .bad
/-- x[i] = v -/
def putop (u i v : MV) (M : MH) : Re Unit := match u, i with
  | .lst n, .int k => match M[n]? with
    | some xs => match L2.ixN xs.length k with
      | some j => .ok () (M.set n (xs.set j v))
      | none => .bad
    | none => .bad
  | _, _ => .bad
/-- x[i] ahead of x[i] op= v -/
def getop (u i : MV) (M : MH) : Re MV := match u, i with
  | .lst n, .int k => match M[n]? with
    | some xs => if 0 ≤ k ∧ k < 1000000 then match xs[k.toNat]? with
        | some x => .ok x M
        | none => .bad
      else .bad
    | none => .bad
  | _, _ => .bad
/-- x op= v of ints -/
def augop (o : BOp) (u v : MV) (M : MH) : Re MV := match o, u, v with
  | .add, .int i, .int j => .ok (.int (i + j)) M
  | .sub, .int i, .int j => .ok (.int (i - j)) M
  | _, _, _ => .bad

mutual
def ex (C : Cf) : S → Sl → MH → Re (Fl × Sl)
  | .exp e, m, M => (ev C e m M).bnd fun _ M1 => .ok (.nx, m) M1
  | .asg t e, m, M => (ev C e m M).bnd fun v M1 => match t.set v m with
    | some m' => .ok (.nx, m') M1
    | none => .bad
  | .put a i e, m, M => (ev C e m M).bnd fun v M1 => (ev C a m M1).bnd fun u M2 => (ev C i m M2).bnd fun k M3 => (putop u k v M3).bnd fun _ M4 => .ok (.nx, m) M4
  | .aug i o e, m, M => match m[i]? with
    | some (some u) => (ev C e m M).bnd fun v M1 => (augop o u v M1).bnd fun w M2 => .ok (.nx, m.set i (some w)) M2
    | _ => .bad
  | .agi a i o e, m, M => (ev C a m M).bnd fun u M1 => (ev C i m M1).bnd fun k M2 => (getop u k M2).bnd fun x M3 => (ev C e m M3).bnd fun v M4 => (augop o x v M4).bnd fun z M5 =>
    (putop u k z M5).bnd fun _ M6 => .ok (.nx, m) M6
  | .iff c a b, m, M => (ev C c m M).bnd fun u M1 => match u with
    | .bl true => exs C a m M1
    | .bl false => exs C b m M1
    | _ => .bad
  | .whl c b, m, M => whlL (fun m M => ev C c m M) (fun m M => exs C b m M) C.most m M
  | .for t it b, m, M => (evI C it m M).bnd fun s M1 => forL s (fun x m M => match t.set x m with
      | some m' => exs C b m' M
      | none => .bad) C.most 0 m M1
  | .ret e, m, M => (ev C e m M).bnd fun v M1 => .ok (.rt v, m) M1
  | .rtn, m, M => .ok (.rt .non, m) M
  | .brk, m, M => .ok (.bk, m) M
  | .cnt, m, M => .ok (.cn, m) M
  | .pas, m, M => .ok (.nx, m) M
  | .rai c e, m, M => (ev C e m M).bnd fun v M1 => .exc c v M1
def exs (C : Cf) : Ss → Sl → MH → Re (Fl × Sl)
  | .nil, m, M => .ok (.nx, m) M
  | .cons s ss, m, M => (ex C s m M).bnd fun p M1 => match p.1 with
    | .nx => exs C ss p.2 M1
    | f => .ok (f, p.2) M1
end

/-- a def: its name, its slots' names (parameters first), how many parameters, its body, how it is called (values by place, names of keywords, what each parameter gets) -/
structure Fd where
  name : Str
  N : List Str
  np : Nat
  body : Ss
  shapes : List (Nat × List Str × List Ar)
structure Pg where
  fs : List Fd
  cs : List (Str × MV)
  most : Nat
/-- the def f called with so many calls one in another -/
def run (P : Pg) : Nat → Nat → List MV → MH → Re MV
  | 0, _, _, _ => .bad
  | n + 1, f, args, M => match P.fs[f]? with
    | none => .bad
    | some d => if args.length = d.np then
        (exs { call := run P n, glo := fun k => (P.cs[k]?).map (·.2), arr := fun g sh => (P.fs[g]?).bind fun e => (e.shapes[sh]?).map (·.2.2), most := P.most } d.body (args.map some ++ List.replicate (d.N.length - d.np) none) M).bnd fun p M1 => match p.1 with
          | .nx => .ok .non M1
          | .rt v => .ok v M1
          | _ => .bad
      else .bad
end MP

set_option Elab.async false
set_option linter.all false
set_option maxRecDepth 100000
set_option autoImplicit false
set_option maxHeartbeats 1000000
/-! MP, part b: how the small machine's values and heap lie in the layer's heap; the operators' rules. -/
namespace MP
open PySem PySem.Spec PyProof.Rows L2

/-- a list that is never written: locked, or of the written part -/
def KL (K : PySem.W.Frag) (H : Hp) (a : Addr) (vs : List V) : Prop :=
  (∃ o, H a = some (.frz o (.lst vs))) ∨
    ∃ (o : Obj) (its : Array Value) (n : Nat), K.lookup a = some o ∧ o.cls = .type "list" ∧ o.dict = none ∧ o.data = .seq its n ∧ its.size ≤ sizeLine ∧ Vals vs its.toList
theorem KL.sq {K : PySem.W.Frag} {H : Hp} {a : Addr} {vs : List V} (h : KL K H a vs) : SqL K H a vs := by
  rcases h with ⟨o, h⟩ | h
  · exact .inl (.inr ⟨o, h⟩)
  · exact .inr h

mutual
inductive VR (K : PySem.W.Frag) (ρ : List Addr) (H : Hp) : MV → V → Prop
  | non : VR K ρ H .non .non
  | bl (b : Bool) : VR K ρ H (.bl b) (.bl b)
  | int (i : Int) : VR K ρ H (.int i) (.int i)
  | str (x : Str) : VR K ρ H (.str x) (.str x)
  | tup {a : Addr} {us : List MV} {vs : List V} : SqT K H a vs → VRs K ρ H us vs → VR K ρ H (.tup us) (.ref a)
  | lst {n : Nat} {a : Addr} : ρ[n]? = some a → VR K ρ H (.lst n) (.ref a)
  | kls {a : Addr} {us : List MV} {vs : List V} : KL K H a vs → VRs K ρ H us vs → VR K ρ H (.kls us) (.ref a)
  | dct {a : Addr} : H a = some (.dK []) → VR K ρ H .dct (.ref a)
inductive VRs (K : PySem.W.Frag) (ρ : List Addr) (H : Hp) : List MV → List V → Prop
  | nil : VRs K ρ H [] []
  | cons {u : MV} {us : List MV} {v : V} {vs : List V} : VR K ρ H u v → VRs K ρ H us vs → VRs K ρ H (u :: us) (v :: vs)
end

/-- the small heap in the layer's: the list n lies at ρ[n] -/
structure HR (K : PySem.W.Frag) (ρ : List Addr) (M : MH) (H : Hp) : Prop where
  nd : ρ.Nodup
  len : ρ.length = M.length
  lies : ∀ (n : Nat) (us : List MV), M[n]? = some us → ∃ (a : Addr) (vs : List V), ρ[n]? = some a ∧ H a = some (.lst vs) ∧ VRs K ρ H us vs
/-- what a run may change: the lists of ρ; new ones come behind -/
structure Pst (ρ : List Addr) (H : Hp) (ρ' : List Addr) (H' : Hp) : Prop where
  pre : ∃ τ, ρ' = ρ ++ τ
  keep : ∀ a o, a ∉ ρ → H a = some o → H' a = some o
  fresh : ∀ a, a ∈ ρ' → a ∉ ρ → H a = none

section
variable {K : PySem.W.Frag} {ρ ρ' ρ1 ρ2 : List Addr} {M M' : MH} {H H' H1 H2 : Hp} {u : MV} {v : V} {us ws : List MV} {vs : List V}
theorem Pst.refl : Pst ρ H ρ H := ⟨⟨[], (List.append_nil ρ).symm⟩, fun _ _ _ h => h, fun a h1 h2 => absurd h1 h2⟩
theorem Pst.trans (p : Pst ρ H ρ1 H1) (q : Pst ρ1 H1 ρ2 H2) : Pst ρ H ρ2 H2 := by
  obtain ⟨τ, e1⟩ := p.pre
  obtain ⟨τ', e2⟩ := q.pre
  refine ⟨⟨τ ++ τ', by rw [e2, e1, List.append_assoc]⟩, fun a o ha h => ?_, fun a h1 h2 => ?_⟩
  · refine q.keep a o (fun z => ?_) (p.keep a o ha h)
    have := p.fresh a z ha
    rw [h] at this
    cases this
  · by_cases z : a ∈ ρ1
    · exact p.fresh a z h2
    · have e := q.fresh a h1 z
      cases h : H a with
      | none => rfl
      | some o =>
        have w := p.keep a o h2 h
        rw [e] at w
        cases w
theorem Pst.get (p : Pst ρ H ρ' H') {n : Nat} {a : Addr} (h : ρ[n]? = some a) : ρ'[n]? = some a := by
  obtain ⟨τ, e⟩ := p.pre
  rw [e, List.getElem?_append_left (List.getElem?_eq_some_iff.mp h).1]
  exact h
theorem HR.mem (h : HR K ρ M H) {a : Addr} (ha : a ∈ ρ) : ∃ vs, H a = some (.lst vs) := by
  obtain ⟨n, hn, e⟩ := List.mem_iff_getElem.mp ha
  have hm : n < M.length := h.len ▸ hn
  obtain ⟨b, vs, e1, e2, _⟩ := h.lies n M[n] (List.getElem?_eq_getElem hm)
  rw [List.getElem?_eq_getElem hn, e] at e1
  cases e1
  exact ⟨vs, e2⟩
theorem HR.out (h : HR K ρ M H) {a : Addr} {o : HO} (e : H a = some o) (n : ∀ vs, o ≠ .lst vs) : a ∉ ρ := fun z => by
  obtain ⟨vs, e2⟩ := h.mem z
  rw [e] at e2
  cases e2
  exact n vs rfl
theorem HR.sqt (h : HR K ρ M H) (p : Pst ρ H ρ' H') {a : Addr} (s : SqT K H a vs) : SqT K H' a vs := by
  rcases s with (s | ⟨o, s⟩) | s
  · exact .inl (.inl (p.keep _ _ (h.out s fun _ z => nomatch z) s))
  · exact .inl (.inr ⟨o, p.keep _ _ (h.out s fun _ z => nomatch z) s⟩)
  · exact .inr s
theorem HR.kl (h : HR K ρ M H) (p : Pst ρ H ρ' H') {a : Addr} (s : KL K H a vs) : KL K H' a vs := by
  rcases s with ⟨o, s⟩ | s
  · exact .inl ⟨o, p.keep _ _ (h.out s fun _ z => nomatch z) s⟩
  · exact .inr s
mutual
theorem VR.mono (h : HR K ρ M H) (p : Pst ρ H ρ' H') : ∀ (u : MV) (v : V), VR K ρ H u v → VR K ρ' H' u v
  | _, _, .non => .non
  | _, _, .bl b => .bl b
  | _, _, .int i => .int i
  | _, _, .str x => .str x
  | _, _, .tup s r => .tup (h.sqt p s) (VRs.mono h p _ _ r)
  | _, _, .lst e => .lst (p.get e)
  | _, _, .kls s r => .kls (h.kl p s) (VRs.mono h p _ _ r)
  | _, _, .dct e => .dct (p.keep _ _ (h.out e fun _ z => nomatch z) e)
theorem VRs.mono (h : HR K ρ M H) (p : Pst ρ H ρ' H') : ∀ (us : List MV) (vs : List V), VRs K ρ H us vs → VRs K ρ' H' us vs
  | _, _, .nil => .nil
  | _, _, .cons r t => .cons (VR.mono h p _ _ r) (VRs.mono h p _ _ t)
end
theorem VR.mo (h : HR K ρ M H) (p : Pst ρ H ρ' H') (r : VR K ρ H u v) : VR K ρ' H' u v := VR.mono h p _ _ r
theorem VRs.mo (h : HR K ρ M H) (p : Pst ρ H ρ' H') (r : VRs K ρ H us vs) : VRs K ρ' H' us vs := VRs.mono h p _ _ r
theorem VRs.length : ∀ {us : List MV} {vs : List V}, VRs K ρ H us vs → us.length = vs.length
  | _, _, .nil => rfl
  | _, _, .cons _ t => congrArg Nat.succ (VRs.length t)
theorem VRs.get : ∀ {us : List MV} {vs : List V} {i : Nat} {u : MV}, VRs K ρ H us vs → us[i]? = some u → ∃ v, vs[i]? = some v ∧ VR K ρ H u v
  | _, _, _, _, .nil, e => by simp at e
  | _, _, 0, _, .cons r _, e => by simp at e; subst e; exact ⟨_, rfl, r⟩
  | _, _, i + 1, u, .cons _ t, e => by
    obtain ⟨v, h1, h2⟩ := VRs.get (i := i) (u := u) t (by simpa using e)
    exact ⟨v, by simpa using h1, h2⟩
theorem VRs.getV : ∀ {us : List MV} {vs : List V} {i : Nat} {v : V}, VRs K ρ H us vs → vs[i]? = some v → ∃ u, us[i]? = some u ∧ VR K ρ H u v
  | _, _, _, _, .nil, e => by simp at e
  | _, _, 0, _, .cons r _, e => by simp at e; subst e; exact ⟨_, rfl, r⟩
  | _, _, i + 1, v, .cons _ t, e => by
    obtain ⟨u, h1, h2⟩ := VRs.getV (i := i) (v := v) t (by simpa using e)
    exact ⟨u, by simpa using h1, h2⟩
theorem VRs.app : ∀ {us us' : List MV} {vs vs' : List V}, VRs K ρ H us vs → VRs K ρ H us' vs' → VRs K ρ H (us ++ us') (vs ++ vs')
  | _, _, _, _, .nil, s => s
  | _, _, _, _, .cons r t, s => .cons r (VRs.app t s)
theorem VRs.take : ∀ {us : List MV} {vs : List V} (n : Nat), VRs K ρ H us vs → VRs K ρ H (us.take n) (vs.take n)
  | _, _, 0, _ => .nil
  | _, _, _ + 1, .nil => .nil
  | _, _, n + 1, .cons r t => .cons r (VRs.take n t)
theorem VRs.drop : ∀ {us : List MV} {vs : List V} (n : Nat), VRs K ρ H us vs → VRs K ρ H (us.drop n) (vs.drop n)
  | _, _, 0, r => r
  | _, _, _ + 1, .nil => .nil
  | _, _, n + 1, .cons _ t => VRs.drop n t
theorem VRs.set {u : MV} {v : V} (r : VR K ρ H u v) : ∀ {us : List MV} {vs : List V} (i : Nat), VRs K ρ H us vs → VRs K ρ H (us.set i u) (vs.set i v)
  | _, _, _, .nil => .nil
  | _, _, 0, .cons _ t => .cons r t
  | _, _, i + 1, .cons q t => .cons q (VRs.set r i t)
theorem VRs.reverse : ∀ {us : List MV} {vs : List V}, VRs K ρ H us vs → VRs K ρ H us.reverse vs.reverse
  | _, _, .nil => .nil
  | _, _, .cons r t => by
    rw [List.reverse_cons, List.reverse_cons]
    exact (VRs.reverse t).app (.cons r .nil)
theorem VRs.dropLast : ∀ {us : List MV} {vs : List V}, VRs K ρ H us vs → VRs K ρ H us.dropLast vs.dropLast := fun {us vs} r => by
  rw [List.dropLast_eq_take, List.dropLast_eq_take, r.length]
  exact r.take _
theorem VRs.rep {us : List MV} {vs : List V} (r : VRs K ρ H us vs) : ∀ k : Nat, VRs K ρ H (List.replicate k us).flatten (List.replicate k vs).flatten
  | 0 => .nil
  | k + 1 => by
    rw [List.replicate_succ, List.replicate_succ, List.flatten_cons, List.flatten_cons]
    exact r.app (VRs.rep r k)
theorem VRs.atI {us : List MV} {vs : List V} {i : Int} {u : MV} (r : VRs K ρ H us vs) (e : L2.atI us i = some u) : ∃ v, L2.atI vs i = some v ∧ VR K ρ H u v := by
  unfold L2.atI at e ⊢
  rw [← r.length]
  cases q : L2.ixN us.length i with
  | none => rw [q] at e; cases e
  | some j =>
    rw [q] at e
    exact r.get e

/-- a new list -/
theorem HR.new {p : Addr} (h : HR K ρ M H) (hp : H p = none) (r : VRs K ρ H us vs) : HR K (ρ ++ [p]) (M ++ [us]) (upd H p (.lst vs)) ∧ Pst ρ H (ρ ++ [p]) (upd H p (.lst vs)) ∧ VR K (ρ ++ [p]) (upd H p (.lst vs)) (.lst M.length) (.ref p) := by
  have pp : p ∉ ρ := fun z => by
    obtain ⟨ws, e⟩ := h.mem z
    rw [hp] at e
    cases e
  have P : Pst ρ H (ρ ++ [p]) (upd H p (.lst vs)) := by
    refine ⟨⟨[p], rfl⟩, fun a o _ e => ?_, fun a h1 h2 => ?_⟩
    · rw [upd_ne (ne_of_none e hp)]
      exact e
    · rcases List.mem_append.mp h1 with z | z
      · exact absurd z h2
      · rw [List.mem_singleton.mp z]
        exact hp
  have at' : (ρ ++ [p])[M.length]? = some p := by
    rw [← h.len, List.getElem?_append_right (Nat.le_refl _), Nat.sub_self]
    rfl
  refine ⟨⟨?_, ?_, fun n xs e => ?_⟩, P, .lst at'⟩
  · exact List.nodup_append.mpr ⟨h.nd, by simp, fun a ha b hb => by rw [List.mem_singleton.mp hb]; exact fun z => pp (z ▸ ha)⟩
  · rw [List.length_append, List.length_append, h.len]
    rfl
  · by_cases hn : n < M.length
    · rw [List.getElem?_append_left hn] at e
      obtain ⟨a, ws, e1, e2, e3⟩ := h.lies n xs e
      refine ⟨a, ws, P.get e1, ?_, e3.mo h P⟩
      rw [upd_ne (ne_of_none e2 hp)]
      exact e2
    · have hn2 : n = M.length := by
        have := (List.getElem?_eq_some_iff.mp e).1
        rw [List.length_append] at this
        have : n < M.length + 1 := this
        omega
      subst hn2
      rw [List.getElem?_append_right (Nat.le_refl _), Nat.sub_self] at e
      cases e
      exact ⟨p, vs, at', upd_same, r.mo h P⟩
/-- another new object -/
theorem HR.newO {p : Addr} {o : HO} (h : HR K ρ M H) (hp : H p = none) : HR K ρ M (upd H p o) ∧ Pst ρ H ρ (upd H p o) := by
  have P : Pst ρ H ρ (upd H p o) := by
    refine ⟨⟨[], (List.append_nil ρ).symm⟩, fun a u _ e => ?_, fun a h1 h2 => absurd h1 h2⟩
    rw [upd_ne (ne_of_none e hp)]
    exact e
  refine ⟨⟨h.nd, h.len, fun n xs e => ?_⟩, P⟩
  obtain ⟨a, ws, e1, e2, e3⟩ := h.lies n xs e
  refine ⟨a, ws, e1, ?_, e3.mo h P⟩
  rw [upd_ne (ne_of_none e2 hp)]
  exact e2
/-- a list written -/
theorem HR.set {n : Nat} {a : Addr} (h : HR K ρ M H) (hn : ρ[n]? = some a) (r : VRs K ρ H us vs) : HR K ρ (M.set n us) (upd H a (.lst vs)) ∧ Pst ρ H ρ (upd H a (.lst vs)) := by
  have am : a ∈ ρ := List.mem_of_getElem? hn
  have P : Pst ρ H ρ (upd H a (.lst vs)) := by
    refine ⟨⟨[], (List.append_nil ρ).symm⟩, fun b u hb e => ?_, fun a h1 h2 => absurd h1 h2⟩
    rw [upd_ne (fun z => hb (by rw [z]; exact am))]
    exact e
  refine ⟨⟨h.nd, by rw [List.length_set]; exact h.len, fun k xs e => ?_⟩, P⟩
  by_cases hk : k = n
  · subst hk
    have hl : k < M.length := by
      have := (List.getElem?_eq_some_iff.mp e).1
      rwa [List.length_set] at this
    rw [List.getElem?_set_self hl] at e
    cases e
    exact ⟨a, vs, hn, upd_same, r.mo h P⟩
  · rw [List.getElem?_set_ne (fun z => hk z.symm)] at e
    obtain ⟨b, ws, e1, e2, e3⟩ := h.lies k xs e
    refine ⟨b, ws, e1, ?_, e3.mo h P⟩
    rw [upd_ne (fun z => hk ?_)]
    · exact e2
    · subst z
      have l1 := (List.getElem?_eq_some_iff.mp e1)
      have l2 := (List.getElem?_eq_some_iff.mp hn)
      exact (List.getElem_inj h.nd).mp (l1.2.trans l2.2.symm)

/-- the items that are read -/
theorem VR.items (h : HR K ρ M H) (r : VR K ρ H u v) (e : itemsL M u = some us) : ∃ a vs, v = .ref a ∧ SqL K H a vs ∧ VRs K ρ H us vs := by
  cases r with
  | lst hn =>
    obtain ⟨a, vs, e1, e2, e3⟩ := h.lies _ us e
    rw [hn] at e1
    cases e1
    exact ⟨_, vs, rfl, .of e2, e3⟩
  | kls s t =>
    cases e
    exact ⟨_, _, rfl, s.sq, t⟩
  | _ => cases e
theorem VR.lstAt {n : Nat} (h : HR K ρ M H) (r : VR K ρ H (.lst n) v) (e : M[n]? = some us) : ∃ a vs, v = .ref a ∧ ρ[n]? = some a ∧ H a = some (.lst vs) ∧ VRs K ρ H us vs := by
  cases r with
  | lst hn =>
    obtain ⟨a, vs, e1, e2, e3⟩ := h.lies _ us e
    rw [hn] at e1
    cases e1
    exact ⟨_, vs, rfl, hn, e2, e3⟩
end

/-! ### data -/
section
variable {K : PySem.W.Frag} {ρ : List Addr} {M : MH} {H : Hp}
theorem pd_dp (h : HR K ρ M H) : ∀ (n : Nat) (u : MV) (v : V) (d : PyData), pd n M u = some d → VR K ρ H u v → Dp K H v d
  | 0, _, _, _, e, _ => by cases e
  | n + 1, u, v, d, e, r => by
    have all : ∀ (us : List MV) (vs : List V) (ds : List PyData), us.mapM (pd n M) = some ds → VRs K ρ H us vs → DpAll K H vs ds := by
      intro us
      induction us with
      | nil =>
        intro vs ds e r
        cases r
        simp at e
        subst e
        exact .nil
      | cons x xs ih =>
        intro vs ds e r
        cases r with
        | cons r t =>
          rw [List.mapM_cons] at e
          cases e1 : pd n M x with
          | none => rw [e1] at e; cases e
          | some d1 =>
            rw [e1] at e
            cases e2 : xs.mapM (pd n M) with
            | none => simp [e2] at e
            | some ds' =>
              simp [e2] at e
              subst e
              exact .cons (pd_dp h n _ _ _ e1 r) (ih _ _ e2 t)
    cases r with
    | non => cases e; exact .non
    | bl b => cases e; exact .bl b
    | int i => cases e; exact .int i
    | str x => cases e; exact .str x
    | @tup a us vs s t =>
      cases e1 : us.mapM (pd n M) with
      | none => simp [pd, e1] at e
      | some ds =>
        simp [pd, e1] at e
        subst e
        exact .tup s (all _ _ _ e1 t)
    | @lst k a hn =>
      cases e0 : M[k]? with
      | none => simp [pd, e0] at e
      | some us =>
        obtain ⟨b, vs, e1, e2, e3⟩ := h.lies _ us e0
        rw [hn] at e1
        cases e1
        cases e4 : us.mapM (pd n M) with
        | none => simp [pd, e0, e4] at e
        | some ds =>
          simp [pd, e0, e4] at e
          subst e
          exact .lst (.of e2) (all _ _ _ e4 e3)
    | @kls a us vs s t =>
      cases e1 : us.mapM (pd n M) with
      | none => simp [pd, e1] at e
      | some ds =>
        simp [pd, e1] at e
        subst e
        exact .lst s.sq (all _ _ _ e1 t)
    | dct _ => cases e
end

/-! ### what a run's end asks -/
abbrev KQ (K : PySem.W.Frag) (ρ : List Addr) (H : Hp) (v : MV) (M' : MH) (Q : VK) : Prop := ∀ x H' ρ', HR K ρ' M' H' → Pst ρ H ρ' H' → VR K ρ' H' v x → Q x H'
abbrev KQs (K : PySem.W.Frag) (ρ : List Addr) (H : Hp) (vs : List MV) (M' : MH) (Q : List V → Hp → Prop) : Prop := ∀ xs H' ρ', HR K ρ' M' H' → Pst ρ H ρ' H' → VRs K ρ' H' vs xs → Q xs H'
abbrev KQu (K : PySem.W.Frag) (ρ : List Addr) (H : Hp) (M' : MH) (Q : Hp → Prop) : Prop := ∀ H' ρ', HR K ρ' M' H' → Pst ρ H ρ' H' → Q H'
def RO (K : PySem.W.Frag) (r : R2) (f : MV → MV → MH → Re MV) : Prop := ∀ ρ M H u v x y w M' Q, HR K ρ M H → VR K ρ H u x → VR K ρ H v y → f u v M = .ok w M' → KQ K ρ H w M' Q → r x y H Q
def RU1 (K : PySem.W.Frag) (r : V → Hp → VK → Prop) (f : MV → MH → Re MV) : Prop := ∀ ρ M H u x w M' Q, HR K ρ M H → VR K ρ H u x → f u M = .ok w M' → KQ K ρ H w M' Q → r x H Q
def RC1 (K : PySem.W.Frag) (r : List V → Hp → VK → Prop) (f : List MV → MH → Re MV) : Prop := ∀ ρ M H us xs w M' Q, HR K ρ M H → VRs K ρ H us xs → f us M = .ok w M' → KQ K ρ H w M' Q → r xs H Q
def RM1 (K : PySem.W.Frag) (r : V → List V → Hp → VK → Prop) (f : MV → List MV → MH → Re MV) : Prop := ∀ ρ M H u us x xs w M' Q, HR K ρ M H → VR K ρ H u x → VRs K ρ H us xs → f u us M = .ok w M' → KQ K ρ H w M' Q → r x xs H Q

theorem lim_line {n : Nat} (h : n ≤ lim) : n ≤ sizeLine := Nat.le_trans h (by decide)
theorem lim_lt {n : Nat} (h : n < lim) : n < sizeLine := Nat.lt_of_lt_of_le h (by decide)
theorem ok_inj {α : Type} {a b : α} {M N : MH} (h : Re.ok a M = Re.ok b N) : a = b ∧ M = N := by
  injection h with h1 h2
  exact ⟨h1, h2⟩
theorem bnd_ok {α β : Type} {x : Re α} {f : α → MH → Re β} {b : β} {N : MH} (h : x.bnd f = .ok b N) : ∃ a M, x = .ok a M ∧ f a M = .ok b N := by
  cases x with
  | bad => cases h
  | exc c v M => cases h
  | ok a M => exact ⟨a, M, rfl, h⟩
theorem nox_ok {α : Type} {x : Re α} {a : α} {M : MH} (h : x.nox = .ok a M) : x = .ok a M := by
  cases x with
  | bad => cases h
  | exc c v M => cases h
  | ok b N => exact h

section
variable {X : Cx} {K : PySem.W.Frag}
/-! ### arithmetic -/
def rAddM : R2 := fun x y H Q => rI0 (fun i j => .int (i + j)) x y H Q ∨ rCat x y H Q ∨ (∃ i j, x = .str i ∧ y = .str j ∧ i.length + j.length ≤ sizeLine ∧ Q (.str (i ++ j)) H)
theorem op_addM : OpR X (binaryOp .Add) rAddM := op_add.or (op_cat.or op_add_str)
theorem ro_add : RO K rAddM (binop .add) := by
  intro ρ M H u v x y w M' Q h ru rv e q
  cases ru <;> cases rv <;> try (cases e; done)
  · rename_i i j
    obtain ⟨rfl, rfl⟩ := ok_inj e
    exact .inl ⟨i, j, rfl, rfl, q _ _ _ h .refl (.int _)⟩
  · rename_i i j
    simp only [binop] at e
    split at e
    · rename_i hl
      obtain ⟨rfl, rfl⟩ := ok_inj e
      exact .inr (.inr ⟨i, j, rfl, rfl, lim_line hl, q _ _ _ h .refl (.str _)⟩)
    · cases e
  · rename_i n a hn k b hk
    simp only [binop] at e
    split at e
    · rename_i us ws e1 e2
      split at e
      · rename_i hl
        obtain ⟨a', vs, e3, e4, e5⟩ := h.lies _ _ e1
        rw [hn] at e3
        cases e3
        obtain ⟨b', vs', e6, e7, e8⟩ := h.lies _ _ e2
        rw [hk] at e6
        cases e6
        obtain ⟨rfl, rfl⟩ := ok_inj e
        refine .inr (.inl ⟨_, _, vs, vs', rfl, rfl, e4, e7, ?_, fun p hp => ?_⟩)
        · rw [← e5.length, ← e8.length]
          exact lim_line hl
        · obtain ⟨h1, h2, h3⟩ := h.new hp (e5.app e8)
          exact q _ _ _ h1 h2 h3
      · cases e
    · cases e
theorem ro_sub : RO K (rI0 fun i j => .int (i - j)) (binop .sub) := by
  intro ρ M H u v x y w M' Q h ru rv e q
  cases ru <;> cases rv <;> try (cases e; done)
  rename_i i j
  obtain ⟨rfl, rfl⟩ := ok_inj e
  exact ⟨i, j, rfl, rfl, q _ _ _ h .refl (.int _)⟩
def rMulM : R2 := fun x y H Q => rI CMulW (fun i j => .int (i * j)) x y H Q ∨ rRep x y H Q
theorem op_mulM : OpR X (binaryOp .Mult) rMulM := op_mulW.or op_rep
theorem ro_mul : RO K rMulM (binop .mul) := by
  intro ρ M H u v x y w M' Q h ru rv e q
  cases ru <;> cases rv <;> try (cases e; done)
  · rename_i i j
    simp only [binop] at e
    split at e
    · rename_i hc
      obtain ⟨rfl, rfl⟩ := ok_inj e
      exact .inl ⟨i, j, rfl, rfl, hc, q _ _ _ h .refl (.int _)⟩
    · cases e
  · rename_i n a hn k
    simp only [binop] at e
    split at e
    · rename_i us e1
      split at e
      · rename_i hl
        obtain ⟨a', vs, e3, e4, e5⟩ := h.lies _ _ e1
        rw [hn] at e3
        cases e3
        obtain ⟨rfl, rfl⟩ := ok_inj e
        refine .inr ⟨_, _, vs, rfl, rfl, e4, by omega, by omega, ?_, fun p hp => ?_⟩
        · rw [← e5.length]
          exact lim_line hl.2.2
        · obtain ⟨h1, h2, h3⟩ := h.new hp (e5.rep k.toNat)
          exact q _ _ _ h1 h2 h3
      · cases e
    · cases e
theorem op_fdivZ {X : Cx} : OpR X (binaryOp .FloorDiv) (rI (fun _ j => j ≠ 0 ∧ j.natAbs.log2 < 9000) fun i j => .int (i.fdiv j)) := opI fun _ _ _ _ _ _ _ hc q => floordiv_int hc.1 q (.inl (PyProof.noPylong_of_log2 hc.2))
theorem ro_fdv : RO K (rI (fun _ j => j ≠ 0 ∧ j.natAbs.log2 < 9000) fun i j => .int (i.fdiv j)) (binop .fdv) := by
  intro ρ M H u v x y w M' Q h ru rv e q
  cases ru <;> cases rv <;> try (cases e; done)
  rename_i i j
  simp only [binop] at e
  split at e
  · rename_i hc
    obtain ⟨rfl, rfl⟩ := ok_inj e
    exact ⟨i, j, rfl, rfl, hc, q _ _ _ h .refl (.int _)⟩
  · cases e
theorem ro_mod : RO K (rI (fun _ j => j ≠ 0) fun i j => .int (i.fmod j)) (binop .mod) := by
  intro ρ M H u v x y w M' Q h ru rv e q
  cases ru <;> cases rv <;> try (cases e; done)
  rename_i i j
  simp only [binop] at e
  split at e
  · rename_i hc
    obtain ⟨rfl, rfl⟩ := ok_inj e
    exact ⟨i, j, rfl, rfl, hc, q _ _ _ h .refl (.int _)⟩
  · cases e
theorem ro_pow : RO K (rI CPow fun i j => .int (i ^ j.toNat)) (binop .pow) := by
  intro ρ M H u v x y w M' Q h ru rv e q
  cases ru <;> cases rv <;> try (cases e; done)
  rename_i i j
  simp only [binop] at e
  split at e
  · rename_i hc
    obtain ⟨rfl, rfl⟩ := ok_inj e
    exact ⟨i, j, rfl, rfl, ⟨hc.1, by omega, hc.2.2⟩, q _ _ _ h .refl (.int _)⟩
  · cases e

/-! ### comparisons -/
theorem ro_int {p : Int → Int → Bool} {o : COp} (hp : ∀ u v M w M', cmpop o u v M = .ok w M' → ∃ i j, u = .int i ∧ v = .int j ∧ w = .bl (p i j) ∧ M' = M) : RO K (rI0 fun i j => .bl (p i j)) (cmpop o) := by
  intro ρ M H u v x y w M' Q h ru rv e q
  obtain ⟨i, j, rfl, rfl, rfl, rfl⟩ := hp _ _ _ _ _ e
  cases ru
  cases rv
  exact ⟨i, j, rfl, rfl, q _ _ _ h .refl (.bl _)⟩
theorem int_of {o : COp} {p : Int → Int → Bool} (ho : ∀ u v M, cmpop o u v M = match u, v with
    | .int i, .int j => b2 (p i j) M
    | _, _ => .bad) : ∀ u v M w M', cmpop o u v M = .ok w M' → ∃ i j, u = .int i ∧ v = .int j ∧ w = .bl (p i j) ∧ M' = M := by
  intro u v M w M' e
  rw [ho] at e
  split at e
  · obtain ⟨rfl, rfl⟩ := ok_inj e
    exact ⟨_, _, rfl, rfl, rfl, rfl⟩
  · cases e
theorem ro_lt : RO K (rI0 fun i j => .bl (decide (i < j))) (cmpop .lt) := ro_int (int_of fun _ _ _ => rfl)
theorem ro_le : RO K (rI0 fun i j => .bl (decide (i ≤ j))) (cmpop .le) := ro_int (int_of fun _ _ _ => rfl)
theorem ro_gt : RO K (rI0 fun i j => .bl (decide (j < i))) (cmpop .gt) := ro_int (int_of fun _ _ _ => rfl)
theorem ro_ge : RO K (rI0 fun i j => .bl (decide (j ≤ i))) (cmpop .ge) := ro_int (int_of fun _ _ _ => rfl)
def rEqM (K : PySem.W.Frag) : R2 := fun x y H Q => rEq x y H Q ∨ rEqD K x y H Q
def rNeM (K : PySem.W.Frag) : R2 := fun x y H Q => rNe x y H Q ∨ rNeD K x y H Q
theorem op_eqM (hu : X.A.units + 64 < cLine) : OpR X (compareOp .Eq) (rEqM X.K) := op_eq.or (op_eqD hu)
theorem op_neM (hu : X.A.units + 64 < cLine) : OpR X (compareOp .NotEq) (rNeM X.K) := op_ne.or (op_neD hu)
theorem eqM_cases {M : MH} {u v : MV} {b : Bool} (e : eqM M u v = some b) : (∃ i j, u = .int i ∧ v = .int j ∧ b = (i == j)) ∨ (∃ i j, u = .str i ∧ v = .str j ∧ b = decide (i = j)) ∨ ∃ d d', pd pdDepth M u = some d ∧ pd pdDepth M v = some d' ∧ SeqAt.shaped d = true ∧ SeqAt.shaped d' = true ∧ b = PyData.eqv d d' := by
  unfold eqM at e
  split at e
  · cases e
    exact .inl ⟨_, _, rfl, rfl, rfl⟩
  · cases e
    exact .inr (.inl ⟨_, _, rfl, rfl, rfl⟩)
  · split at e
    · rename_i d d' e1 e2
      split at e
      · rename_i hs
        cases e
        exact .inr (.inr ⟨d, d', e1, e2, hs.1, hs.2, rfl⟩)
      · cases e
    · cases e
theorem dec_str {a b : Str} : decide (a = b) = decide (V.str a = V.str b) := by
  by_cases h : a = b
  · rw [h, decide_eq_true rfl, decide_eq_true rfl]
  · rw [decide_eq_false h, decide_eq_false fun z => h (V.str.inj z)]
theorem ofO_ok {M : MH} {o : Option Bool} {w : MV} {M' : MH} (e : ofO M o = .ok w M') : ∃ b, o = some b ∧ w = .bl b ∧ M' = M := by
  cases o with
  | none => cases e
  | some b =>
    obtain ⟨rfl, rfl⟩ := ok_inj e
    exact ⟨b, rfl, rfl, rfl⟩
theorem ro_eq : RO K (rEqM K) (cmpop .eq) := by
  intro ρ M H u v x y w M' Q h ru rv e q
  obtain ⟨b, e1, rfl, rfl⟩ := ofO_ok e
  rcases eqM_cases e1 with ⟨i, j, rfl, rfl, rfl⟩ | ⟨i, j, rfl, rfl, rfl⟩ | ⟨d, d', h1, h2, h3, h4, rfl⟩
  · cases ru
    cases rv
    refine .inl ⟨rfl, ?_⟩
    rw [dec_int]
    exact q _ _ _ h .refl (.bl _)
  · cases ru
    cases rv
    refine .inl ⟨rfl, ?_⟩
    rw [dec_str] at q
    exact q _ _ _ h .refl (.bl _)
  · exact .inr ⟨d, d', pd_dp h _ _ _ _ h1 ru, pd_dp h _ _ _ _ h2 rv, h3, h4, q _ _ _ h .refl (.bl _)⟩
theorem ro_ne : RO K (rNeM K) (cmpop .ne) := by
  intro ρ M H u v x y w M' Q h ru rv e q
  obtain ⟨b, e1, rfl, rfl⟩ := ofO_ok e
  obtain ⟨c, e2, rfl⟩ := Option.map_eq_some_iff.mp e1
  rcases eqM_cases e2 with ⟨i, j, rfl, rfl, rfl⟩ | ⟨i, j, rfl, rfl, rfl⟩ | ⟨d, d', h1, h2, h3, h4, rfl⟩
  · cases ru
    cases rv
    refine .inl ⟨rfl, ?_⟩
    rw [dec_int]
    exact q _ _ _ h .refl (.bl _)
  · cases ru
    cases rv
    refine .inl ⟨rfl, ?_⟩
    rw [dec_str] at q
    exact q _ _ _ h .refl (.bl _)
  · exact .inr ⟨d, d', pd_dp h _ _ _ _ h1 ru, pd_dp h _ _ _ _ h2 rv, h3, h4, q _ _ _ h .refl (.bl _)⟩
theorem inM_cases {M : MH} {u v : MV} {b : Bool} (e : inM M u v = some b) : ∃ d ds, pd pdDepth M u = some d ∧ pd pdDepth M v = some (.list ds) ∧ SeqAt.shaped d = true ∧ SeqAt.shaped (.list ds) = true ∧ b = ds.any fun z => PyData.eqv z d := by
  unfold inM at e
  split at e
  · rename_i d ds e1 e2
    split at e
    · rename_i hs
      cases e
      exact ⟨d, ds, e1, e2, hs.1, hs.2, rfl⟩
    · cases e
  · cases e
theorem ro_in : RO K (rInD K) (cmpop .inn) := by
  intro ρ M H u v x y w M' Q h ru rv e q
  obtain ⟨b, e1, rfl, rfl⟩ := ofO_ok e
  obtain ⟨d, ds, h1, h2, h3, h4, rfl⟩ := inM_cases e1
  exact ⟨d, ds, pd_dp h _ _ _ _ h1 ru, pd_dp h _ _ _ _ h2 rv, h3, h4, q _ _ _ h .refl (.bl _)⟩
theorem ro_nin : RO K (rNotInD K) (cmpop .nin) := by
  intro ρ M H u v x y w M' Q h ru rv e q
  obtain ⟨b, e1, rfl, rfl⟩ := ofO_ok e
  obtain ⟨c, e2, rfl⟩ := Option.map_eq_some_iff.mp e1
  obtain ⟨d, ds, h1, h2, h3, h4, rfl⟩ := inM_cases e2
  exact ⟨d, ds, pd_dp h _ _ _ _ h1 ru, pd_dp h _ _ _ _ h2 rv, h3, h4, q _ _ _ h .refl (.bl _)⟩
/-- is, of None or a bool on the right -/
def rIsM : R2 := fun x y H Q => (y = .non ∨ ∃ b, y = .bl b) ∧ Q (.bl (decide (x = y))) H
def rIsnM : R2 := fun x y H Q => (y = .non ∨ ∃ b, y = .bl b) ∧ Q (.bl (!decide (x = y))) H
theorem plain_is {x y : V} {v u : Value} (rx : RelV x v) (ry : RelV y u) (hy : y = .non ∨ ∃ b, y = .bl b) : plainIs v u = true ∧ (v == u) = decide (x = y) := by
  rcases hy with rfl | ⟨b, rfl⟩
  · cases ry
    cases x with
    | non => cases rx; exact ⟨rfl, by simp⟩
    | bl c => cases rx; exact ⟨rfl, by simp⟩
    | int i => obtain ⟨t, rfl⟩ := rx; exact ⟨rfl, by simp⟩
    | str z => obtain ⟨t, rfl⟩ := rx; exact ⟨rfl, by simp⟩
    | byt z => obtain ⟨t, rfl⟩ := rx; exact ⟨rfl, by simp⟩
    | flt z => obtain ⟨t, rfl⟩ := rx; exact ⟨rfl, by simp⟩
    | ref a => cases rx; exact ⟨rfl, by simp⟩
    | ty n => cases rx; exact ⟨rfl, by simp⟩
  · cases ry
    cases x with
    | non => cases rx; exact ⟨rfl, by simp⟩
    | bl c => cases rx; exact ⟨rfl, by cases b <;> cases c <;> rfl⟩
    | int i => obtain ⟨t, rfl⟩ := rx; exact ⟨rfl, by simp⟩
    | str z => obtain ⟨t, rfl⟩ := rx; exact ⟨rfl, by simp⟩
    | byt z => obtain ⟨t, rfl⟩ := rx; exact ⟨rfl, by simp⟩
    | flt z => obtain ⟨t, rfl⟩ := rx; exact ⟨rfl, by simp⟩
    | ref a => cases rx; exact ⟨rfl, by simp⟩
    | ty n => cases rx; exact ⟨rfl, by simp⟩
theorem op_isM : OpR X (compareOp .Is) rIsM := by
  intro pins s σ H x y v u Q I rx ry h
  obtain ⟨hy, q⟩ := h
  obtain ⟨h1, h2⟩ := plain_is rx ry hy
  refine wpAny_is_plain h1 ⟨_, H, I, ?_, q⟩
  rw [h2]
  rfl
theorem op_isnM : OpR X (compareOp .IsNot) rIsnM := by
  intro pins s σ H x y v u Q I rx ry h
  obtain ⟨hy, q⟩ := h
  obtain ⟨h1, h2⟩ := plain_is rx ry hy
  refine wpAny_isNot_plain h1 ⟨_, H, I, ?_, q⟩
  rw [h2]
  rfl
theorem isM_of {ρ : List Addr} {H : Hp} {u v : MV} {x y : V} {b : Bool} (e : isM u v = some b) (ru : VR K ρ H u x) (rv : VR K ρ H v y) : (y = .non ∨ ∃ b, y = .bl b) ∧ b = decide (x = y) := by
  cases rv with
  | non =>
    refine ⟨.inl rfl, ?_⟩
    cases ru <;> cases e <;> simp
  | bl c =>
    refine ⟨.inr ⟨_, rfl⟩, ?_⟩
    cases ru with
    | bl d => cases e; cases c <;> cases d <;> rfl
    | _ => cases e; simp
  | _ => cases ru <;> cases e
theorem ro_is : RO K rIsM (cmpop .is) := by
  intro ρ M H u v x y w M' Q h ru rv e q
  obtain ⟨b, e1, rfl, rfl⟩ := ofO_ok e
  obtain ⟨h1, rfl⟩ := isM_of e1 ru rv
  exact ⟨h1, q _ _ _ h .refl (.bl _)⟩
theorem ro_isn : RO K rIsnM (cmpop .isn) := by
  intro ρ M H u v x y w M' Q h ru rv e q
  obtain ⟨b, e1, rfl, rfl⟩ := ofO_ok e
  obtain ⟨c, e2, rfl⟩ := Option.map_eq_some_iff.mp e1
  obtain ⟨h1, rfl⟩ := isM_of e2 ru rv
  exact ⟨h1, q _ _ _ h .refl (.bl _)⟩

/-! ### items, slices -/
def rIxM (K : PySem.W.Frag) : R2 := fun x y H Q => rIxT K x y H Q ∨ rIxL K x y H Q
theorem ix_M : IxR X (rIxM X.K) := ix_tup.or ix_list
theorem ro_idx : RO K (rIxM K) idxop := by
  intro ρ M H u v x y w M' Q h ru rv e q
  cases rv <;> try (cases e; done)
  rename_i i
  by_cases ht : ∃ us, u = .tup us
  · obtain ⟨us, rfl⟩ := ht
    simp only [idxop] at e
    split at e
    · rename_i z e1
      obtain ⟨rfl, rfl⟩ := ok_inj e
      cases ru with
      | tup s t =>
        obtain ⟨z', e2, r2⟩ := t.atI e1
        exact .inl ⟨_, _, i, z', rfl, rfl, s, e2, q _ _ _ h .refl r2⟩
    · cases e
  · have e' : (match itemsL M u with
        | some xs => match L2.atI xs i with
          | some x => Re.ok x M
          | none => .bad
        | none => .bad) = .ok w M' := by
      cases u <;> first
        | exact e
        | exact absurd ⟨_, rfl⟩ ht
    split at e'
    · rename_i us e0
      split at e'
      · rename_i z e1
        obtain ⟨rfl, rfl⟩ := ok_inj e'
        obtain ⟨a, vs, rfl, s, t⟩ := ru.items h e0
        obtain ⟨z', e2, r2⟩ := t.atI e1
        exact .inr ⟨_, _, i, z', rfl, rfl, s, e2, q _ _ _ h .refl r2⟩
      · cases e'
    · cases e'
theorem cut_rel {ρ : List Addr} {H : Hp} {us : List MV} {vs : List V} (r : VRs K ρ H us vs) (lo hi : Option Int) : VRs K ρ H (cutM us lo hi) (cutV vs lo hi) := by
  unfold cutM cutV
  rw [r.length]
  exact (r.drop _).take _
end
end MP

set_option Elab.async false
set_option linter.all false
set_option maxRecDepth 100000
set_option autoImplicit false
set_option maxHeartbeats 1000000
/-! MP, part c: rules of slices, built-ins, methods. -/
namespace MP
open PySem PySem.Spec PyProof.Rows L2
section
variable {X : Cx} {K : PySem.W.Frag}
theorem slc_ok {ρ : List Addr} {M M' : MH} {H : Hp} {u w : MV} {x : V} {lo hi : Option Int} {Q : VK} (h : HR K ρ M H) (ru : VR K ρ H u x) (e : slcop u lo hi M = .ok w M') (q : KQ K ρ H w M' Q) : rSlL K x lo hi H Q := by
  unfold slcop at e
  split at e
  · rename_i us e0
    obtain ⟨a, vs, rfl, s, t⟩ := ru.items h e0
    obtain ⟨rfl, rfl⟩ := ok_inj e
    refine ⟨a, vs, rfl, s, fun p hp => ?_⟩
    obtain ⟨h1, h2, h3⟩ := h.new hp (cut_rel t lo hi)
    exact q _ _ _ h1 h2 h3
  · cases e
theorem rev_ok {ρ : List Addr} {M M' : MH} {H : Hp} {u w : MV} {x : V} {Q : VK} (h : HR K ρ M H) (ru : VR K ρ H u x) (e : revop u M = .ok w M') (q : KQ K ρ H w M' Q) :
    ∃ a xs, x = .ref a ∧ SqL K H a xs ∧ ∀ p, H p = none → Q (.ref p) (upd H p (.lst xs.reverse)) := by
  unfold revop at e
  split at e
  · rename_i us e0
    obtain ⟨a, vs, rfl, s, t⟩ := ru.items h e0
    obtain ⟨rfl, rfl⟩ := ok_inj e
    refine ⟨a, vs, rfl, s, fun p hp => ?_⟩
    obtain ⟨h1, h2, h3⟩ := h.new hp t.reverse
    exact q _ _ _ h1 h2 h3
  · cases e

/-! ### built-in functions -/
theorem vrs1 {ρ : List Addr} {H : Hp} {u : MV} {xs : List V} (r : VRs K ρ H [u] xs) : ∃ x, xs = [x] ∧ VR K ρ H u x := by
  cases r with
  | cons r t =>
    cases t
    exact ⟨_, rfl, r⟩
theorem vrs0 {ρ : List Addr} {H : Hp} {xs : List V} (r : VRs K ρ H [] xs) : xs = [] := by
  cases r
  rfl
def rLenM (K : PySem.W.Frag) : List V → Hp → VK → Prop := fun xs H Q => ∃ x n, xs = [x] ∧ LenV K x H n ∧ Q (.int n) H
theorem rc_len : RC1 K (rLenM K) (btop .len) := by
  intro ρ M H us xs w M' Q h r e q
  unfold btop at e
  split at e <;> first | (cases e; done) | skip
  all_goals (try (rename_i hh; cases hh; done))
  rename_i v
  split at e <;> first | (cases e; done) | skip
  rename_i n e1
  obtain ⟨rfl, rfl⟩ := ok_inj e
  obtain ⟨x, rfl, rx⟩ := vrs1 r
  refine ⟨x, n, rfl, ?_, q _ _ _ h .refl (.int _)⟩
  cases rx with
  | tup s t =>
    cases e1
    exact .inr ⟨_, s, t.length⟩
  | lst hn =>
    obtain ⟨us, e2, rfl⟩ := Option.map_eq_some_iff.mp e1
    obtain ⟨a, vs, e3, e4, e5⟩ := h.lies _ _ e2
    rw [hn] at e3
    cases e3
    exact .inl ⟨_, .of e4, e5.length⟩
  | kls s t =>
    cases e1
    exact .inl ⟨_, s.sq, t.length⟩
  | str z =>
    simp only [lenM] at e1
    split at e1
    · rename_i hl
      cases e1
      exact ⟨lim_line hl, rfl⟩
    · cases e1
  | _ => cases e1
theorem rc_abs : RC1 K (fun xs H Q => ∃ i, xs = [.int i] ∧ Q (.int (if i < 0 then -i else i)) H) (btop .abs) := by
  intro ρ M H us xs w M' Q h r e q
  unfold btop at e
  split at e <;> first | (cases e; done) | skip
  all_goals (try (rename_i hh; cases hh; done))
  obtain ⟨rfl, rfl⟩ := ok_inj e
  obtain ⟨x, rfl, rx⟩ := vrs1 r
  cases rx
  exact ⟨_, rfl, q _ _ _ h .refl (.int _)⟩
theorem rc_int : RC1 K (fun xs H Q => (∃ i, xs = [.int i] ∧ Q (.int i) H) ∨ ∃ k, xs = [.bl k] ∧ Q (.int (if k then 1 else 0)) H) (btop .int) := by
  intro ρ M H us xs w M' Q h r e q
  unfold btop at e
  split at e <;> first | (cases e; done) | skip
  all_goals (try (rename_i hh; cases hh; done))
  · obtain ⟨rfl, rfl⟩ := ok_inj e
    obtain ⟨x, rfl, rx⟩ := vrs1 r
    cases rx
    exact .inl ⟨_, rfl, q _ _ _ h .refl (.int _)⟩
  · obtain ⟨rfl, rfl⟩ := ok_inj e
    obtain ⟨x, rfl, rx⟩ := vrs1 r
    cases rx
    exact .inr ⟨_, rfl, q _ _ _ h .refl (.int _)⟩
theorem rc_str : RC1 K (fun xs H Q => ∃ i, xs = [.int i] ∧ i.natAbs.log2 < 1920 ∧ Q (.str (toString i)) H) (btop .str) := by
  intro ρ M H us xs w M' Q h r e q
  unfold btop at e
  split at e <;> first | (cases e; done) | skip
  all_goals (try (rename_i hh; cases hh; done))
  split at e
  · rename_i hc
    obtain ⟨rfl, rfl⟩ := ok_inj e
    obtain ⟨x, rfl, rx⟩ := vrs1 r
    cases rx
    exact ⟨_, rfl, hc, q _ _ _ h .refl (.str _)⟩
  · cases e
theorem bools_map {ρ : List Addr} {H : Hp} : ∀ {us : List MV} {vs : List V} {bs : List Bool}, boolsOf us = some bs → VRs K ρ H us vs → vs = bs.map V.bl
  | [], _, _, e, .nil => by cases e; rfl
  | .bl b :: us, _, bs, e, .cons r t => by
    obtain ⟨cs, e1, rfl⟩ := Option.map_eq_some_iff.mp e
    cases r
    rw [bools_map e1 t]
    rfl
theorem ints_map {ρ : List Addr} {H : Hp} : ∀ {us : List MV} {vs : List V} {bs : List Int}, intsOf us = some bs → VRs K ρ H us vs → vs = bs.map V.int
  | [], _, _, e, .nil => by cases e; rfl
  | .int b :: us, _, bs, e, .cons r t => by
    obtain ⟨cs, e1, rfl⟩ := Option.map_eq_some_iff.mp e
    cases r
    rw [ints_map e1 t]
    rfl
theorem rc_all : RC1 K (rAll K) (btop .all) := by
  intro ρ M H us xs w M' Q h r e q
  unfold btop at e
  split at e <;> first | (cases e; done) | skip
  all_goals (try (rename_i hh; cases hh; done))
  split at e <;> first | (cases e; done) | skip
  rename_i bs e1
  obtain ⟨rfl, rfl⟩ := ok_inj e
  obtain ⟨x, rfl, rx⟩ := vrs1 r
  obtain ⟨us, e2, e3⟩ := Option.bind_eq_some_iff.mp e1
  obtain ⟨a, vs, rfl, s, t⟩ := rx.items h e2
  have := bools_map e3 t
  subst this
  exact ⟨a, bs, rfl, s, q _ _ _ h .refl (.bl _)⟩
def rSumL (K : PySem.W.Frag) : List V → Hp → VK → Prop := fun xs H Q => ∃ (l T : Addr) (ps : List (Addr × List V)), xs = [.ref l, .ref T] ∧ H l = some (.lst (ps.map fun p => V.ref p.1)) ∧ (∀ p ∈ ps, H p.1 = some (.lst p.2)) ∧ H T = some (.lst []) ∧ T ≠ l ∧ (ps.map (·.2)).flatten.length ≤ lim ∧ (ps = [] → Q (.ref T) H) ∧ (ps ≠ [] → ∀ p, H p = none → Q (.ref p) (upd H p (.lst (ps.map (·.2)).flatten)))
theorem lsts_map {ρ : List Addr} {M : MH} {H : Hp} (h : HR K ρ M H) : ∀ {us : List MV} {vs : List V} {ls : List (List MV)}, lstsOf M us = some ls → VRs K ρ H us vs → ∃ ps : List (Addr × List V), vs = ps.map (fun p => V.ref p.1) ∧ (∀ p ∈ ps, H p.1 = some (.lst p.2)) ∧ VRs K ρ H ls.flatten (ps.map (·.2)).flatten
  | [], _, _, e, .nil => by
    cases e
    exact ⟨[], rfl, (fun p hp => nomatch hp), .nil⟩
  | u :: us, _, ls, e, .cons r t => by
    unfold lstsOf at e
    split at e <;> first | (cases e; done) | skip
    split at e <;> first | (cases e; done) | skip
    rename_i xs ls' e1 e2
    cases e
    obtain ⟨ps, h1, h2, h3⟩ := lsts_map h e2 t
    obtain ⟨a, vs, rfl, e3, e4, e5⟩ := r.lstAt h e1
    refine ⟨(a, vs) :: ps, by rw [h1]; rfl, fun p hp => ?_, ?_⟩
    · rcases List.mem_cons.mp hp with rfl | hp
      · exact e4
      · exact h2 p hp
    · simp only [List.flatten_cons, List.map_cons]
      exact e5.app h3
theorem rc_sum : RC1 K (fun xs H Q => rSum K xs H Q ∨ rSumL K xs H Q) (btop .sum) := by
  intro ρ M H us xs w M' Q h r e q
  unfold btop at e
  split at e <;> first | (cases e; done) | skip
  all_goals (try (rename_i hh; cases hh; done))
  · split at e <;> first | (cases e; done) | skip
    rename_i bs e1
    obtain ⟨rfl, rfl⟩ := ok_inj e
    obtain ⟨x, rfl, rx⟩ := vrs1 r
    obtain ⟨us, e2, e3⟩ := Option.bind_eq_some_iff.mp e1
    obtain ⟨a, vs, rfl, s, t⟩ := rx.items h e2
    have := ints_map e3 t
    subst this
    exact .inl ⟨a, bs, rfl, s, q _ _ _ h .refl (.int _)⟩
  · rename_i n t
    unfold sumM at e
    split at e <;> first | (cases e; done) | skip
    rename_i ms e1 e2
    split at e <;> first | (cases e; done) | skip
    rename_i hnt
    split at e <;> first | (cases e; done) | skip
    rename_i ls e3
    split at e <;> first | (cases e; done) | skip
    rename_i hlim
    cases r with
    | cons r1 r =>
      cases r with
      | cons r2 r =>
        cases r
        have r2' := r2
        obtain ⟨l, vs, rfl, a1, a2, a3⟩ := r1.lstAt h e1
        obtain ⟨T, ws, rfl, b1, b2, b3⟩ := r2.lstAt h e2
        cases b3
        obtain ⟨ps, rfl, h2, h3⟩ := lsts_map h e3 a3
        have hlen : (ps.map (·.2)).flatten.length ≤ lim := by
          rw [← h3.length]
          exact hlim
        refine .inr ⟨l, T, ps, rfl, a2, h2, b2, fun z => hnt ?_, hlen, fun hp => ?_, fun hp p hf => ?_⟩
        · subst z
          exact (List.getElem?_inj (List.getElem?_eq_some_iff.mp a1).1 h.nd).mp (a1.trans b1.symm)
        · subst hp
          cases a3
          obtain ⟨rfl, rfl⟩ := ok_inj e
          exact q _ _ _ h .refl r2'
        · cases ms with
          | nil =>
            have := a3.length
            rw [List.length_map, List.length_nil] at this
            exact absurd (List.eq_nil_of_length_eq_zero this.symm) hp
          | cons x y =>
            obtain ⟨rfl, rfl⟩ := ok_inj e
            obtain ⟨h1, h2, h3⟩ := h.new hf h3
            exact q _ _ _ h1 h2 h3

/-! ### repr -/
def rReprM (K : PySem.W.Frag) : List V → Hp → VK → Prop := fun xs H Q =>
  (∃ x d, xs = [x] ∧ Dp K H x d ∧ d.showable = true ∧ d.hasDict = false ∧ d.depth ≤ 100 ∧ d.shown.length ≤ sizeLine ∧ Q (.str d.shown) H) ∨ ∃ a, xs = [.ref a] ∧ H a = some (.dK []) ∧ Q (.str "{}") H
theorem dict_shown : (PyData.dict []).shown = "{}" := by decide +kernel
theorem call_reprM {k : Nat} (hg : X.A.guards = some []) (hr : Room k X.A) : CallR X (.builtin "repr") (rReprM X.K) := by
  intro pins s σ H xs us Q I r h
  have hu := hr.un
  rcases h with ⟨x, d, rfl, hd, h1, h2, h3, h4, q⟩ | ⟨a, rfl, ha, q⟩
  · obtain ⟨u, rfl, rx⟩ := vals1 r
    obtain ⟨as, rd⟩ := Dp.reads I d x u hd rx
    cases hd with
    | non => cases rx; exact PySem.P.repr_of_none ⟨V.str _, H, I.tok _, ⟨_, rfl⟩, q⟩
    | bl b => cases rx; exact PySem.P.repr_of_bool ⟨V.str _, H, I.tok _, ⟨_, rfl⟩, q⟩
    | int i => obtain ⟨t, rfl⟩ := rx; exact PySem.P.repr_of_int (by simpa [PyData.showable] using h1) ⟨V.str _, H, I.tok _, ⟨_, rfl⟩, q⟩
    | str z => obtain ⟨t, rfl⟩ := rx; exact PySem.P.repr_of_str ⟨V.str _, H, I.tok _, ⟨_, rfl⟩, q⟩ h4
    | lst s t =>
      cases rx
      exact repr_of_reads' rd h1 (PyData.noDict_hsm h2) hg (by omega) (fun _ _ e => e) (fun h' u tk hk => ⟨V.str _, H, I.kept hk, ⟨u, rfl⟩, q⟩) h4
    | tup s t =>
      cases rx
      exact repr_of_reads' rd h1 (PyData.noDict_hsm h2) hg (by omega) (fun _ _ e => e) (fun h' u tk hk => ⟨V.str _, H, I.kept hk, ⟨u, rfl⟩, q⟩) h4
  · obtain ⟨u, rfl, rx⟩ := vals1 r
    cases rx
    obtain ⟨_, hs, vs, rv, o, es, ep, e1, e2, e3, _, e5, _⟩ := (show ObjOk X.prog X.w H s.heap a (.dK []) from I.hok a _ ha)
    cases rv
    have he : es.toList = [] := by
      cases z : es.toList with
      | nil => rfl
      | cons y l => rw [z] at e5; cases e5
    have rd : Reads s.heap (.ref a) (.dict []) (a :: [] ++ []) := Reads.dict e1 e2.1 e3 (by rw [he]; exact .nil) (by rw [he]; exact .nil)
    refine repr_of_reads' rd rfl (fun _ => ?_) hg (by show X.A.units + (1 + 1) < cLine; omega) (fun _ _ e => e) (fun h' u tk hk => ⟨V.str _, H, I.kept hk, ⟨u, rfl⟩, (by rw [dict_shown]; exact q)⟩) (by decide +kernel)
    intro z
    have z' : sysModules = a := by simpa using z
    rw [z'] at hs
    simp at hs
theorem rc_repr : RC1 K (rReprM K) (btop .repr) := by
  intro ρ M H us xs w M' Q h r e q
  unfold btop at e
  split at e <;> first | (cases e; done) | skip
  all_goals (try (rename_i hh; cases hh; done))
  rename_i v
  split at e <;> first | (cases e; done) | skip
  rename_i x e1
  obtain ⟨rfl, rfl⟩ := ok_inj e
  obtain ⟨y, rfl, ry⟩ := vrs1 r
  unfold reprM at e1
  split at e1
  · cases e1
    cases ry with
    | dct ha => exact .inr ⟨_, rfl, ha, q _ _ _ h .refl (.str _)⟩
  · split at e1
    · rename_i d e2
      split at e1
      · rename_i hc
        cases e1
        exact .inl ⟨_, d, rfl, pd_dp h _ _ _ _ e2 ry, hc.1, hc.2.1, hc.2.2.1, hc.2.2.2, q _ _ _ h .refl (.str _)⟩
      · cases e1
    · cases e1

/-! ### isinstance -/
def tyS : Ty → String
  | .int => "int"
  | .bool => "bool"
  | .str => "str"
  | .list => "list"
  | .tuple => "tuple"
  | .dict => "dict"
def tyN : Option Ty → String
  | none => "NoneType"
  | some t => tyS t
def isT (t : Option Ty) (c : Ty) : Bool := match t with
  | none => false
  | some t => c == t || (c == .int && t == .bool)
theorem kit_table (t : Option Ty) (c : Ty) : PySem.W.kitOne K (.type (tyN t)) (.type (tyS c)) = some (isT t c) := by
  rcases t with _ | t
  · cases c <;> exact kit_ty (by decide +kernel)
  · cases t <;> cases c <;> exact kit_ty (by decide +kernel)
theorem VR.ty {ρ : List Addr} {M : MH} {H : Hp} {u : MV} {x : V} (h : HR K ρ M H) (hm : ∀ n, u = .lst n → n < M.length) (r : VR K ρ H u x) : TyX K H x (.type (tyN (tyOfM u))) := by
  cases r with
  | non => exact .base .non
  | bl b => exact .base (.bl b)
  | int i => exact .base (.int i)
  | str z => exact .base (.str z)
  | tup s t =>
    rcases s with (s | ⟨o, s⟩) | ⟨o, its, n, e, c, _⟩
    · exact .base (.tup s)
    · exact .fTuple s
    · exact .kTuple e c
  | @lst n a hn =>
    have hl : n < M.length := hm n rfl
    obtain ⟨b, vs, e1, e2, _⟩ := h.lies n M[n] (List.getElem?_eq_getElem hl)
    rw [hn] at e1
    cases e1
    exact .base (.lst e2)
  | kls s t =>
    rcases s with ⟨o, s⟩ | ⟨o, its, n, e, c, _⟩
    · exact .base (.frz s)
    · exact .kList e c
  | dct e => exact .base (.dK e)
theorem VR.lt {ρ : List Addr} {M : MH} {H : Hp} {n : Nat} {x : V} (h : HR K ρ M H) (r : VR K ρ H (.lst n) x) : n < M.length := by
  cases r with
  | lst hn =>
    have := (List.getElem?_eq_some_iff.mp hn).1
    rw [h.len] at this
    exact this
theorem isi_any (v : MV) (ts : List Ty) : isiM v ts = ts.any (isT (tyOfM v)) := by
  unfold isiM isT
  cases tyOfM v with
  | none => simp
  | some t => rfl
theorem kit_any (t : Option Ty) : ∀ ts : List Ty, PySem.W.kitAny K (.type (tyN t)) (ts.map fun c => .type (tyS c)) = some (ts.any (isT t))
  | [] => rfl
  | c :: ts => by
    refine kitAny_cons (kit_table t c) (fun hb => ?_) fun hb => ?_
    · rw [List.any_cons, hb, Bool.false_or]
      exact kit_any t ts
    · rw [List.any_cons, hb, Bool.true_or]
theorem isi_one {ρ : List Addr} {M : MH} {H : Hp} {u : MV} {x : V} {c : Ty} {Q : VK} (h : HR K ρ M H) (r : VR K ρ H u x) (q : Q (.bl (isiM u [c])) H) : rIsi K [x, .ty (tyS c)] H Q := by
  refine ⟨x, .ty (tyS c), _, _, isiM u [c], rfl, .ty _, VR.ty h (fun n e => by subst e; exact r.lt h) r, ?_, q⟩
  rw [isi_any, kit_table]
  simp
theorem cls_all : ∀ ts : List Ty, Paired ClsV (ts.map fun c => V.ty (tyS c)) (ts.map fun c => Value.type (tyS c))
  | [] => .nil
  | _ :: ts => .cons (.ty _) (cls_all ts)
theorem isi_many {ρ : List Addr} {M : MH} {H : Hp} {u : MV} {x : V} {ts : List Ty} {tp : Addr} {Q : VK} (h : HR K ρ M H) (r : VR K ρ H u x) (ht : H tp = some (.tup (ts.map fun c => V.ty (tyS c)))) (q : Q (.bl (isiM u ts)) H) : rIsiT K [x, .ref tp] H Q := by
  refine ⟨x, tp, _, _, _, isiM u ts, rfl, ht, cls_all ts, VR.ty h (fun n e => by subst e; exact r.lt h) r, ?_, q⟩
  rw [isi_any]
  exact kit_any _ ts

/-! ### methods, stores -/
theorem rm_append : RM1 K rAppend (mtop .append) := by
  intro ρ M H u us x xs w M' Q h ru r e q
  unfold mtop at e
  split at e <;> first | (cases e; done) | skip
  all_goals (try (rename_i hh; cases hh; done))
  rename_i n v
  split at e <;> first | (cases e; done) | skip
  rename_i ys e1
  split at e <;> first | (cases e; done) | skip
  rename_i hl
  obtain ⟨rfl, rfl⟩ := ok_inj e
  obtain ⟨y, rfl, ry⟩ := vrs1 r
  obtain ⟨a, vs, rfl, hn, ha, t⟩ := ru.lstAt h e1
  refine ⟨a, vs, y, rfl, rfl, ha, ?_, ?_⟩
  · rw [← t.length]
    exact lim_lt hl
  · obtain ⟨h1, h2⟩ := h.set hn (t.app (.cons ry .nil))
    exact q _ _ _ h1 h2 .non
theorem VRs.erase {ρ : List Addr} {H : Hp} : ∀ {us : List MV} {vs : List V} (i : Nat), VRs K ρ H us vs → VRs K ρ H (us.eraseIdx i) (vs.eraseIdx i)
  | _, _, _, .nil => .nil
  | _, _, 0, .cons _ t => t
  | _, _, i + 1, .cons r t => .cons r (VRs.erase i t)
def rPopM : V → List V → Hp → VK → Prop := fun x vs H Q => rPop x vs H Q ∨ rPopAt x vs H Q
theorem mt_popM : MtR X "list.pop" rPopM := by
  intro pins s σ H x xs v us Q I rx rs q
  rcases q with q | q
  · exact mt_pop pins s σ H x xs v us Q I rx rs q
  · exact mt_popAt pins s σ H x xs v us Q I rx rs q
theorem vrs2 {ρ : List Addr} {H : Hp} {u v : MV} {xs : List V} (r : VRs K ρ H [u, v] xs) : ∃ x y, xs = [x, y] ∧ VR K ρ H u x ∧ VR K ρ H v y := by
  cases r with
  | cons r t =>
    obtain ⟨y, rfl, ry⟩ := vrs1 t
    exact ⟨_, _, rfl, r, ry⟩
theorem rm_pop : RM1 K rPopM (mtop .pop) := by
  intro ρ M H u us x xs w M' Q h ru r e q
  unfold mtop at e
  split at e <;> first | (cases e; done) | skip
  all_goals (try (rename_i hh; cases hh; done))
  · rename_i n
    split at e <;> first | (cases e; done) | skip
    rename_i ys e1
    split at e <;> first | (cases e; done) | skip
    rename_i z e2
    obtain ⟨rfl, rfl⟩ := ok_inj e
    cases vrs0 r
    obtain ⟨a, vs, rfl, hn, ha, t⟩ := ru.lstAt h e1
    obtain ⟨y, e3, ry⟩ := t.get e2
    rw [t.length] at e3
    obtain ⟨h1, h2⟩ := h.set hn t.dropLast
    exact .inl ⟨a, vs, y, rfl, rfl, ha, e3, q _ _ _ h1 h2 (ry.mo h h2)⟩
  · rename_i n i hm
    split at e <;> first | (cases e; done) | skip
    rename_i ys e1
    split at e <;> first | (cases e; done) | skip
    rename_i j e2
    split at e <;> first | (cases e; done) | skip
    rename_i z e3
    split at e <;> first | (cases e; done) | skip
    rename_i hl
    obtain ⟨rfl, rfl⟩ := ok_inj e
    obtain ⟨y', rfl, ry'⟩ := vrs1 r
    cases ry'
    obtain ⟨a, vs, rfl, hn, ha, t⟩ := ru.lstAt h e1
    obtain ⟨y, e4, ry⟩ := t.get e3
    obtain ⟨h1, h2⟩ := h.set hn (t.erase j)
    rw [t.length] at e2 hl
    obtain ⟨s1, s2, s3, s4⟩ := ixN_seq e2
    have hl' : vs.length ≤ 1000000 := hl
    exact .inr ⟨a, vs, i, j, y, rfl, rfl, ha, by omega, by omega, s1, e4, q _ _ _ h1 h2 (ry.mo h h2)⟩
def rInsertM : V → List V → Hp → VK → Prop := fun x vs H Q => ∃ (l : Addr) (xs : List V) (i : Int) (y : V), x = .ref l ∧ vs = [.int i, y] ∧ H l = some (.lst xs) ∧ xs.length < sizeLine ∧ 0 ≤ i ∧ i < 2 ^ 63 ∧
    Q .non (upd H l (.lst (xs.take i.toNat ++ [y] ++ xs.drop i.toNat)))
theorem rm_insert : RM1 K rInsertM (mtop .insert) := by
  intro ρ M H u us x xs w M' Q h ru r e q
  unfold mtop at e
  split at e <;> first | (cases e; done) | skip
  all_goals (try (rename_i hh; cases hh; done))
  rename_i n i v hm
  split at e <;> first | (cases e; done) | skip
  rename_i ys e1
  split at e <;> first | (cases e; done) | skip
  rename_i hl
  obtain ⟨rfl, rfl⟩ := ok_inj e
  obtain ⟨y1, y2, rfl, r1, r2⟩ := vrs2 r
  cases r1
  obtain ⟨a, vs, rfl, hn, ha, t⟩ := ru.lstAt h e1
  obtain ⟨h1, h2⟩ := h.set hn (((t.take i.toNat).app (.cons r2 .nil)).app (t.drop i.toNat))
  refine ⟨a, vs, i, y2, rfl, rfl, ha, ?_, hl.2.1, by omega, q _ _ _ h1 h2 .non⟩
  rw [← t.length]
  exact lim_lt hl.1
theorem rm_extend : RM1 K rExtend (mtop .extend) := by
  intro ρ M H u us x xs w M' Q h ru r e q
  unfold mtop at e
  split at e <;> first | (cases e; done) | skip
  all_goals (try (rename_i hh; cases hh; done))
  rename_i n k
  split at e <;> first | (cases e; done) | skip
  rename_i ys zs e1 e2
  split at e <;> first | (cases e; done) | skip
  rename_i hl
  obtain ⟨rfl, rfl⟩ := ok_inj e
  obtain ⟨y, rfl, ry⟩ := vrs1 r
  obtain ⟨a, vs, rfl, hn, ha, t⟩ := ru.lstAt h e1
  obtain ⟨b, ws, rfl, hm, hb, t2⟩ := ry.lstAt h e2
  obtain ⟨h1, h2⟩ := h.set hn (t.app t2)
  refine ⟨a, b, vs, ws, rfl, rfl, ha, hb, ?_, q _ _ _ h1 h2 .non⟩
  rw [← t.length, ← t2.length]
  exact lim_line hl
def rListM (K : PySem.W.Frag) : List V → Hp → VK → Prop := fun xs H Q => ∃ p ys, xs = [.ref p] ∧ (SqL K H p ys ∨ SqT K H p ys) ∧ ∀ l, H l = none → Q (.ref l) (upd H l (.lst ys))
def rTupleM (K : PySem.W.Frag) : List V → Hp → VK → Prop := fun xs H Q => ∃ p ys, xs = [.ref p] ∧ ((SqL K H p ys ∧ ∀ l, H l = none → Q (.ref l) (upd H l (.tup ys))) ∨ (SqT K H p ys ∧ Q (.ref p) H))
theorem itemsT_ok {v : MV} {us : List MV} (e : itemsT v = some us) : v = .tup us := by
  cases v <;> first
    | (cases e; done)
    | skip
  cases e
  rfl
theorem rc_list : RC1 K (rListM K) (btop .list) := by
  intro ρ M H us xs w M' Q h r e q
  unfold btop at e
  split at e <;> first | (cases e; done) | skip
  all_goals (try (rename_i hh; cases hh; done))
  rename_i v
  obtain ⟨x, rfl, rx⟩ := vrs1 r
  split at e
  · rename_i ys e1
    obtain rfl := itemsT_ok e1
    obtain ⟨rfl, rfl⟩ := ok_inj e
    cases rx with
    | tup s t =>
      refine ⟨_, _, rfl, .inr s, fun p hp => ?_⟩
      obtain ⟨h1, h2, h3⟩ := h.new hp t
      exact q _ _ _ h1 h2 h3
  · split at e <;> first | (cases e; done) | skip
    rename_i ys e2
    obtain ⟨a, vs, rfl, s, t⟩ := rx.items h e2
    obtain ⟨rfl, rfl⟩ := ok_inj e
    refine ⟨a, vs, rfl, .inl s, fun p hp => ?_⟩
    obtain ⟨h1, h2, h3⟩ := h.new hp t
    exact q _ _ _ h1 h2 h3
theorem rc_tuple : RC1 K (rTupleM K) (btop .tuple) := by
  intro ρ M H us xs w M' Q h r e q
  unfold btop at e
  split at e <;> first | (cases e; done) | skip
  all_goals (try (rename_i hh; cases hh; done))
  rename_i v
  obtain ⟨x, rfl, rx⟩ := vrs1 r
  split at e
  · rename_i ys e1
    obtain rfl := itemsT_ok e1
    obtain ⟨rfl, rfl⟩ := ok_inj e
    cases rx with
    | tup s t => exact ⟨_, _, rfl, .inr ⟨s, q _ _ _ h .refl (.tup s t)⟩⟩
  · split at e <;> first | (cases e; done) | skip
    rename_i ys e2
    obtain ⟨a, vs, rfl, s, t⟩ := rx.items h e2
    obtain ⟨rfl, rfl⟩ := ok_inj e
    refine ⟨a, vs, rfl, .inl ⟨s, fun p hp => ?_⟩⟩
    obtain ⟨h1, h2⟩ := h.newO (o := .tup vs) hp
    exact q _ _ _ h1 h2 (.tup (.inl (.inl upd_same)) (t.mo h h2))
theorem put_ok {ρ : List Addr} {M M' : MH} {H : Hp} {u k v : MV} {x y z : V} {Q : Hp → Prop} {un : Unit} (h : HR K ρ M H) (ru : VR K ρ H u x) (rk : VR K ρ H k y) (rv : VR K ρ H v z) (e : putop u k v M = .ok un M') (q : KQu K ρ H M' Q) : rSetL x y z H Q := by
  unfold putop at e
  split at e <;> first | (cases e; done) | skip
  rename_i n i
  split at e <;> first | (cases e; done) | skip
  rename_i us e1
  split at e <;> first | (cases e; done) | skip
  rename_i j e2
  obtain ⟨_, rfl⟩ := ok_inj e
  obtain ⟨a, vs, rfl, hn, ha, t⟩ := ru.lstAt h e1
  cases rk
  obtain ⟨h1, h2⟩ := h.set hn (VRs.set rv j t)
  refine ⟨a, vs, i, j, rfl, rfl, ha, ?_, q _ _ h1 h2⟩
  rw [← t.length]
  exact e2
def ipM : BOp → TIp
  | .add => ipI fun i j => i + j
  | .sub => ipI fun i j => i - j
  | _ => fun _ _ _ _ => False
theorem ip_ok {ρ : List Addr} {M M' : MH} {H : Hp} {o : BOp} {u v w : MV} {x y : V} {Q : VK} (h : HR K ρ M H) (ru : VR K ρ H u x) (rv : VR K ρ H v y) (e : augop o u v M = .ok w M') (q : KQ K ρ H w M' Q) : ipM o x y H Q := by
  unfold augop at e
  split at e <;> first | (cases e; done) | skip
  · obtain ⟨rfl, rfl⟩ := ok_inj e
    cases ru
    cases rv
    exact ⟨_, _, rfl, rfl, q _ _ _ h .refl (.int _)⟩
  · obtain ⟨rfl, rfl⟩ := ok_inj e
    cases ru
    cases rv
    exact ⟨_, _, rfl, rfl, q _ _ _ h .refl (.int _)⟩
end
end MP

set_option Elab.async false
set_option linter.all false
set_option maxRecDepth 100000
set_option autoImplicit false
set_option maxHeartbeats 1000000
/-! MP: sum(xs, []) of a list of lists. -/
namespace MP
open PySem PySem.Spec PyProof.Rows L2
section
variable {prog : Program} {w : World} {A : Around} {R : Result → Shared → Prop} {I : Addr} {fp wr : List Addr} {n : Nat} {P : Nat → Value → Prop} {St : Nat → Heap → Prop}
theorem sumL_loop (W : Walks prog w A.in1 I fp wr n P St) (pt : Nat → Addr) (hpt : ∀ i v, P i v → v = .ref (pt i)) (its pre : Nat → List Value) (S : Addr) (hfS : ∀ b ∈ fp, b < S) (hpS : ∀ j, j < n → pt j < S ∧ pt j ∉ wr)
    (hpre : ∀ i, i < n → pre (i + 1) = pre i ++ its i) (hsz : ∀ i, i < n → (pre i).length + (its i).length ≤ sizeLine) :
    ∀ (k i : Nat) (s : Shared) (T c nT : Nat), n - i = k → i ≤ n → St i s.heap → s.heap.get? S = some { cls := .type "list", dict := none, data := .seq #[.ref T] c, slots := #[] } → T ≠ S → T ∉ fp → IsL s.heap T (pre i).toArray nT → (∀ j, j < n → ∃ m, IsL s.heap (pt j) (its j).toArray m) →
      (∀ h' tk T' m, (∀ b o, b ∉ wr → b ≠ S → s.heap.get? b = some o → h'.get? b = some o) → IsL h' T' (pre n).toArray m → (i = n ∧ T' = T ∨ i < n ∧ S < T') → R (.ok (.ret (.ref T'))) { s with heap := h', toks := tk }) →
      codeAny (model prog w) A (.builtin "sum.loop" ⟨[.ref I, .ref S, rawInt 2, rawInt 0], []⟩) R s := by
  have hSf : S ∉ fp := fun h => Nat.lt_irrefl _ (hfS _ h)
  have hSw : S ∉ wr := fun h => hSf (W.sub _ h)
  intro k
  induction k with
  | zero =>
    intro i s T c nT hk hi hst hS hTS hTf hT hI hR
    have hin : i = n := by omega
    subst hin
    refine codeAny_builtin F.entry_sum_loop ?_
    rw [Around.under_plainId F.plain_sum_loop _]
    show wpAny _ A.in1 (seqItems? (.ref S) >>= _) _ _ s
    refine wpAny_bind (wpAny_seqItems hS rfl ?_)
    show wpAny _ A.in1 (tryCatch (pyNext (.ref I)) _ >>= _) _ _ s
    refine wpAny_bind (wpAny_tryCatch (W.done s _ _ hst fun h' tk hk' => ?_))
    exact wpAny_pure (hR h' tk T nT (fun b o hbw _ e => hk' b o hbw e) (hk' _ _ (fun h => hTf (W.sub _ h)) hT) (.inl ⟨rfl, rfl⟩))
  | succ k ih =>
    intro i s T c nT hk hi hst hS hTS hTf hT hI hR
    have hlt : i < n := by omega
    refine codeAny_builtin F.entry_sum_loop ?_
    rw [Around.under_plainId F.plain_sum_loop _]
    show wpAny _ A.in1 (seqItems? (.ref S) >>= _) _ _ s
    refine wpAny_bind (wpAny_seqItems hS rfl ?_)
    show wpAny _ A.in1 (tryCatch (pyNext (.ref I)) _ >>= _) _ _ s
    refine wpAny_bind (wpAny_tryCatch (W.item i s _ _ hlt hst fun v h' tk hP hst' hk' => ?_))
    obtain rfl := hpt i v hP
    have hS' := hk' S _ hSw hS
    have hT' := hk' _ _ (fun h => hTf (W.sub _ h)) hT
    obtain ⟨m, hm⟩ := hI i hlt
    have hm' := hk' _ _ (hpS i hlt).2 hm
    have hSlt : S < h'.objs.size := Heap.lt_size hS'
    show wpAny _ A.in1 ((holding [Value.ref (pt i)] (binaryOp .Add (.ref T) (.ref (pt i)))).attempt >>= _) _ _ _
    refine wpAny_bind (wpAny_attempt (wpAny_holding (PySem.P.add_list hT' hm' ?_ (by rw [List.size_toArray, List.size_toArray]; exact hsz i hlt))))
    have e0 : (pre i).toArray ++ (its i).toArray = (pre (i + 1)).toArray := by
      rw [hpre i hlt]
      simp
    rw [e0]
    show wpAny _ A.in1 (updateSeq S (fun _ => #[.ref h'.objs.size]) >>= _) _ _ _
    have hS2 := Heap.get?_push_of_some { cls := .type "list", data := .seq (pre (i + 1)).toArray } hS'
    refine wpAny_bind ?_
    refine wpAny_updateSeq hS2 rfl ?_
    have hS3 := Heap.get?_update_self (Obj.mapSeq fun _ => #[Value.ref h'.objs.size]) hS2 rfl
    refine wpAny_bind (wpAny_letGo ?_)
    refine wpAny_bind ?_
    have old : ∀ b o, b ∉ wr → b ≠ S → s.heap.get? b = some o → ((((h'.push { cls := .type "list", data := .seq (pre (i + 1)).toArray }).update S (Obj.mapSeq fun _ => #[Value.ref h'.objs.size]))).update S (Obj.mapSeq fun _ => #[Value.ref h'.objs.size])).get? b = some o := by
      intro b o hbw hbS e
      exact (Heap.get?_update_other _ _ (Ne.symm hbS)).trans ((Heap.get?_update_other _ _ (Ne.symm hbS)).trans (Heap.get?_push_of_some _ (hk' b o hbw e)))
    refine wpAny_updateSeq hS3 rfl (wpAny_pure ⟨plainId_quiet F.plain_sum_loop _, ih (i + 1) _ h'.objs.size _ 0 (by omega) hlt (W.frame _ _ _ hst' fun b hb o e => ?_) (Heap.get?_update_self _ hS3 rfl) (Nat.ne_of_gt hSlt) (fun h => Nat.lt_asymm (hfS _ h) hSlt) ?_ (fun j hj => ?_) fun h'' tk'' T'' m'' hk'' hT'' hor => ?_⟩)
    · have hbS : S ≠ b := fun h => hSf (h ▸ hb)
      exact (Heap.get?_update_other _ _ hbS).trans ((Heap.get?_update_other _ _ hbS).trans (Heap.get?_push_of_some _ e))
    · exact (Heap.get?_update_other _ _ (Nat.ne_of_lt hSlt)).trans ((Heap.get?_update_other _ _ (Nat.ne_of_lt hSlt)).trans (Heap.get?_push_size _ rfl))
    · obtain ⟨m2, hm2⟩ := hI j hj
      exact ⟨m2, old _ _ (hpS j hj).2 (Nat.ne_of_lt (hpS j hj).1) hm2⟩
    · refine hR h'' tk'' T'' m'' (fun b o hbw hbS e => hk'' b o hbw hbS (old b o hbw hbS e)) hT'' (.inr ⟨hlt, ?_⟩)
      rcases hor with ⟨_, rfl⟩ | ⟨_, h⟩
      · exact hSlt
      · exact h
theorem args_sum2 (a b : Value) : argsOk "sum" ⟨[a, b], []⟩ := by unfold argsOk; kernel_rfl
theorem call_sumL {E : Value → Shared → Prop} {s : Shared} {l T nT : Nat} {ks : List Nat} {its : List (List Value)} {Q : Value → Shared → Prop} (hh : A.handled = none) (hl : s.heap.IsList l (ks.map Value.ref).toArray) (hlen : its.length = ks.length)
    (hI : ∀ j, j < ks.length → ∃ m, IsL s.heap (ks.getD j 0) (its.getD j []).toArray m) (hT : IsL s.heap T #[] nT) (hTl : T ≠ l) (hsz : its.flatten.length ≤ sizeLine)
    (h : ∀ h' tk T' m, (∀ b o, s.heap.get? b = some o → h'.get? b = some o) → IsL h' T' its.flatten.toArray m → (ks = [] ∧ T' = T ∨ ks ≠ [] ∧ s.heap.objs.size ≤ T') → Q (.ref T') { s with heap := h', toks := tk }) :
    wpAny (model prog w) A (call (.builtin "sum") [.ref l, .ref T]) Q E s := by
  have hlt : @LT.lt Nat instLTNat l s.heap.objs.size := by obtain ⟨_, e, _⟩ := hl; exact Heap.lt_size e
  have hTlt : @LT.lt Nat instLTNat T s.heap.objs.size := Heap.lt_size hT
  refine call_function_tree F.kind_sum F.plain_sum F.entry_sum (args_sum2 _ _) ?_
  unfold Builtin.«sum»
  simp only [List.length_cons, List.length_nil]
  rw [if_neg (by decide)]
  refine wpAny_bind (wpAny_of_eq (show Builtin.Builtins.bindParams "sum" ["start"] 0 ⟨[Value.ref T], []⟩ = pure [some (.ref T)] from rfl) ?_)
  refine wpAny_bind (wpAny_pyIter_list hl ?_)
  refine wpAny_bind (wpAny_pure ?_)
  have hT2 : IsL (s.heap.push { cls := .type "list_iterator", data := .fields #[.ref l, .int 0 0] }) T #[] nT := Heap.get?_push_of_some _ hT
  simp only [List.forIn_cons, List.forIn_nil]
  refine wpAny_bind (wpAny_bind (wpAny_bind (wpAny_isInstance (T := "list") (b := false) ⟨_, hT2, rfl⟩ F.sub_list_str ?_)))
  simp only [Bool.false_eq_true, if_false]
  refine wpAny_pure (wpAny_bind (wpAny_bind (wpAny_isInstance (T := "list") (b := false) ⟨_, hT2, rfl⟩ F.sub_list_bytes ?_)))
  simp only [Bool.false_eq_true, if_false]
  refine wpAny_pure (wpAny_bind (wpAny_bind (wpAny_isInstance (T := "list") (b := false) ⟨_, hT2, rfl⟩ F.sub_list_bytearray ?_)))
  simp only [Bool.false_eq_true, if_false]
  refine wpAny_pure (wpAny_pure ?_)
  refine wpAny_bind (wpAny_newObj_type ?_)
  have hIt : @LT.lt Nat instLTNat s.heap.objs.size (s.heap.push { cls := .type "list_iterator", data := .fields #[.ref l, .int 0 0] }).objs.size := by
    rw [Heap.size_push]
    exact Nat.lt_succ_self _
  have hn : (ks.map Value.ref).toArray.size = ks.length := by simp
  have hfl : ∀ i, ((its.take i).flatten).length ≤ its.flatten.length := by
    intro i
    conv => rhs; rw [← List.take_append_drop i its]
    rw [List.flatten_append, List.length_append]
    exact Nat.le_add_right _ _
  have hpre : ∀ i, i < ks.length → (its.take (i + 1)).flatten = (its.take i).flatten ++ its.getD i [] := by
    intro i hi
    have hi' : i < its.length := by omega
    rw [List.take_succ, List.flatten_append, List.getElem?_eq_getElem hi', List.getD_eq_getElem?_getD, List.getElem?_eq_getElem hi']
    simp
  have hne : l ≠ s.heap.objs.size := Nat.ne_of_lt hlt
  refine wpAny_pure ⟨plainId_quiet F.plain_sum_loop _, sumL_loop (Walks.list (A := A.in1) hh s.heap.objs.size l hne (ks.map Value.ref).toArray) (fun i => ks.getD i 0) (fun i v hv => ?_) (fun i => its.getD i []) (fun i => (its.take i).flatten) (s.heap.push { cls := .type "list_iterator", data := .fields #[.ref l, .int 0 0] }).objs.size (fun b hb => ?_) (fun j hj => ?_) (fun i hi => hpre i (hn ▸ hi)) (fun i hi => ?_) _ 0 _ T 0 nT rfl (Nat.zero_le _) ?_ (Heap.get?_push_size _ rfl) (Nat.ne_of_lt (Nat.lt_trans hTlt hIt)) (fun hm => ?_) (Heap.get?_push_of_some _ hT2) (fun j hj => ?_) fun h' tk T' m hk hT' hor => ?_⟩
  · have hv' : (ks.map Value.ref).toArray[i]? = some v := hv
    rw [List.getElem?_toArray, List.getElem?_map] at hv'
    obtain ⟨x, hx, rfl⟩ := Option.map_eq_some_iff.mp hv'
    rw [List.getD_eq_getElem?_getD, hx]
    rfl
  · rcases List.mem_cons.mp hb with rfl | hb
    · exact hIt
    · rw [List.mem_singleton.mp hb]
      exact Nat.lt_trans hlt hIt
  · obtain ⟨m, hm⟩ := hI j (hn ▸ hj)
    have h1 : @LT.lt Nat instLTNat (ks.getD j 0) s.heap.objs.size := Heap.lt_size hm
    refine ⟨Nat.lt_trans h1 hIt, fun hb => ?_⟩
    have h2 : ks.getD j 0 = s.heap.objs.size := List.mem_singleton.mp hb
    omega
  · have := hfl (i + 1)
    rw [hpre i (hn ▸ hi), List.length_append] at this
    show ((its.take i).flatten).length + (its.getD i []).length ≤ sizeLine
    omega
  · exact ⟨⟨_, Heap.get?_push_of_some _ (Heap.get?_push_size _ rfl), rfl, rfl⟩, (hl.push _).push _⟩
  · rcases List.mem_cons.mp hm with e | hm
    · exact Nat.ne_of_lt hTlt e
    · exact hTl (List.mem_singleton.mp hm)
  · obtain ⟨m, hm⟩ := hI j (hn ▸ hj)
    exact ⟨m, Heap.get?_push_of_some _ (Heap.get?_push_of_some _ hm)⟩
  · refine h h' tk T' m (fun b o e => ?_) ?_ ?_
    · have hb : @LT.lt Nat instLTNat b s.heap.objs.size := Heap.lt_size e
      exact hk b o (fun hb' => Nat.ne_of_lt hb (List.mem_singleton.mp hb')) (Nat.ne_of_lt (Nat.lt_trans hb hIt)) (Heap.get?_push_of_some _ (Heap.get?_push_of_some _ e))
    · rw [hn] at hT'
      have e : its.take ks.length = its := by rw [← hlen, List.take_length]
      rw [e] at hT'
      exact hT'
    · rw [hn] at hor
      rcases hor with ⟨h0, rfl⟩ | ⟨h0, h1⟩
      · exact .inl ⟨List.eq_nil_of_length_eq_zero h0.symm, rfl⟩
      · refine .inr ⟨fun z => ?_, Nat.le_of_lt (Nat.lt_trans hIt h1)⟩
        rw [z] at h0
        cases h0
end
section
variable {X : Cx}
theorem vals_append : ∀ {xs ys : List V} {us vs : List Value}, Vals xs us → Vals ys vs → Vals (xs ++ ys) (us ++ vs)
  | [], _, _, _, .nil, h => h
  | _ :: _, _, _, _, .cons r t, h => .cons r (vals_append t h)
theorem refs2 : ∀ {ps : List (Addr × List V)} {us : List Value}, Vals (ps.map fun p => V.ref p.1) us → us = (ps.map (·.1)).map Value.ref
  | [], _, .nil => rfl
  | p :: ps, _, .cons r t => by
    cases r
    rw [refs2 t]
    rfl
theorem lsts_its {pins : List (Addr × Obj)} {σ : List (Option V)} {H : Hp} {s : Shared} (I : Inv X pins σ H s) : ∀ (ps : List (Addr × List V)), (∀ p ∈ ps, H p.1 = some (.lst p.2)) → ∃ itss : List (List Value), itss.length = ps.length ∧ (∀ j, j < ps.length → ∃ m, IsL s.heap ((ps.map (·.1)).getD j 0) (itss.getD j []).toArray m) ∧ Vals (ps.map (·.2)).flatten itss.flatten
  | [], _ => ⟨[], rfl, fun j hj => by simp at hj, .nil⟩
  | p :: ps, h => by
    obtain ⟨itss, h1, h2, h3⟩ := lsts_its I ps fun q hq => h q (List.mem_cons_of_mem _ hq)
    obtain ⟨_, its, n, hv, _, hg⟩ := I.lstM (h p List.mem_cons_self)
    refine ⟨its :: itss, by simp [h1], fun j hj => ?_, ?_⟩
    · cases j with
      | zero => exact ⟨n, hg⟩
      | succ j =>
        have := h2 j (by simpa using hj)
        simpa using this
    · simp only [List.map_cons, List.flatten_cons]
      exact vals_append hv h3
theorem call_sumLR (hc : X.calm = true) : CallR X (.builtin "sum") (rSumL X.K) := by
  intro pins s σ H xs us Q I r h
  obtain ⟨l, T, ps, rfl, hl, hps, hT, hTl, hlim, q1, q2⟩ := h
  have hu : us = [.ref l, .ref T] := by
    cases r with
    | cons a r =>
      cases r with
      | cons b r =>
        cases r
        cases a
        cases b
        rfl
  subst hu
  obtain ⟨hln, its0, n0, hv0, _, hg0⟩ := I.lstM hl
  obtain ⟨_, itsT, nT, hvT, _, hgT⟩ := I.lstM hT
  cases hvT
  rw [refs2 hv0] at hg0
  obtain ⟨itss, i1, i2, i3⟩ := lsts_its I ps hps
  have hfl : itss.flatten.length = (ps.map (·.2)).flatten.length := i3.length.symm
  refine call_sumL (its := itss) (ks := ps.map (·.1)) (nT := nT) (I.ok.hd hc) ⟨_, hg0, rfl, _, rfl⟩ (by rw [i1, List.length_map]) (fun j hj => i2 j (by rwa [List.length_map] at hj)) hgT hTl (by rw [hfl]; exact lim_line hlim) fun h' tk T' m hk hT' hor => ?_
  rcases hor with ⟨e1, rfl⟩ | ⟨e1, e2⟩
  · exact ⟨.ref T', H, I.kept hk, rfl, q1 (List.map_eq_nil_iff.mp e1)⟩
  · have hn : H T' = none := I.hok.fresh e2
    exact ⟨.ref T', _, I.laid (o := .lst (ps.map (·.2)).flatten) hk e2 ⟨lim_line hlim, itss.flatten, m, i3, hT'⟩, rfl, q2 (fun z => e1 (by rw [z]; rfl)) T' hn⟩
end
end MP

set_option Elab.async false
set_option linter.all false
set_option maxRecDepth 100000
set_option autoImplicit false
set_option maxHeartbeats 1000000
/-! MP, part d: the small machine's expressions as readings of the layer. -/
namespace MP
open PySem PySem.Spec PyProof.Rows L2

/-- the slots: what the small machine knows of a slot stands there -/
structure SR (K : PySem.W.Frag) (ρ : List Addr) (H : Hp) (m : Sl) (σ : L2.St) : Prop where
  len : m.length = σ.length
  knows : ∀ (i : Nat) (u : MV), m[i]? = some (some u) → ∃ v : V, σ[i]? = some (some v) ∧ VR K ρ H u v
def SE (K : PySem.W.Frag) (C : Cf) (t : TE) (e : E) : Prop := ∀ σ H ρ m M v M' Q, HR K ρ M H → SR K ρ H m σ → ev C e m M = .ok v M' → KQ K ρ H v M' Q → t σ H Q
def SA (K : PySem.W.Frag) (C : Cf) (t : TA) (e : Es) : Prop := ∀ σ H ρ m M v M' Q, HR K ρ M H → SR K ρ H m σ → evs C e m M = .ok v M' → KQs K ρ H v M' Q → t σ H Q
def ST (K : PySem.W.Frag) (C : Cf) (t : TT) (e : E) : Prop := ∀ σ H ρ m M b M' Q, HR K ρ M H → SR K ρ H m σ → ev C e m M = .ok (.bl b) M' → KQu K ρ H M' (Q b) → t σ H Q
section
variable {K : PySem.W.Frag} {C : Cf} {ρ ρ' : List Addr} {M : MH} {H H' : Hp} {m m' : Sl} {σ σ' : L2.St} {ta tb tc : TE} {tA tB tC' : TT} {a b c : E} {es ks : Es} {r r' : R2}
theorem SR.mo (s : SR K ρ H m σ) (h : HR K ρ M H) (p : Pst ρ H ρ' H') : SR K ρ' H' m σ := ⟨s.len, fun i u e => by
  obtain ⟨v, h1, h2⟩ := s.knows i u e
  exact ⟨v, h1, h2.mo h p⟩⟩
theorem SR.set {i : Nat} {u : MV} {v : V} (s : SR K ρ H m σ) (r : VR K ρ H u v) : SR K ρ H (m.set i (some u)) (σ.set i (some v)) := by
  refine ⟨by rw [List.length_set, List.length_set]; exact s.len, fun k w e => ?_⟩
  by_cases hk : i = k
  · subst hk
    have hl : i < m.length := by
      have := (List.getElem?_eq_some_iff.mp e).1
      rwa [List.length_set] at this
    rw [List.getElem?_set_self hl] at e
    cases e
    exact ⟨v, List.getElem?_set_self (by rw [← s.len]; exact hl), r⟩
  · rw [List.getElem?_set_ne hk] at e
    obtain ⟨x, h1, h2⟩ := s.knows k w e
    exact ⟨x, by rw [List.getElem?_set_ne hk]; exact h1, h2⟩
theorem wip_length (m : Sl) : ∀ is : List Nat, (wip m is).length = m.length
  | [] => rfl
  | i :: is => by
    unfold wip
    rw [List.length_set, wip_length m is]
theorem wip_some {i : Nat} {u : MV} : ∀ {is : List Nat}, (wip m is)[i]? = some (some u) → m[i]? = some (some u) ∧ i ∉ is
  | [], h => ⟨h, List.not_mem_nil⟩
  | j :: is, h => by
    unfold wip at h
    by_cases hj : j = i
    · subst hj
      have hl : j < (wip m is).length := by
        have := (List.getElem?_eq_some_iff.mp h).1
        rwa [List.length_set] at this
      rw [List.getElem?_set_self hl] at h
      cases h
    · rw [List.getElem?_set_ne hj] at h
      obtain ⟨h1, h2⟩ := wip_some h
      exact ⟨h1, fun z => (List.mem_cons.mp z).elim (fun q => hj q.symm) h2⟩
theorem wipe_get (σ : L2.St) (k : Nat) : ∀ is : List Nat, (wipe σ is)[k]? = if k ∈ is then (σ[k]?).map (fun _ => none) else σ[k]?
  | [] => by
    unfold wipe
    rw [if_neg (by simp)]
  | j :: is => by
    unfold wipe
    by_cases hj : j = k
    · subst hj
      rw [if_pos (by simp)]
      by_cases hl : j < (wipe σ is).length
      · rw [List.getElem?_set_self hl]
        rw [wipe_length] at hl
        rw [List.getElem?_eq_getElem hl]
        rfl
      · rw [List.getElem?_eq_none (by rw [List.length_set]; omega)]
        rw [wipe_length] at hl
        rw [List.getElem?_eq_none (by omega)]
        rfl
    · rw [List.getElem?_set_ne hj, wipe_get σ k is]
      have e : k ∈ j :: is ↔ k ∈ is := by
        rw [List.mem_cons]
        exact ⟨fun z => z.elim (fun q => absurd q.symm hj) id, .inr⟩
      by_cases hk : k ∈ is
      · rw [if_pos hk, if_pos (e.mpr hk)]
      · rw [if_neg hk, if_neg (fun z => hk (e.mp z))]
theorem SR.wip (s : SR K ρ H m σ) (is : List Nat) : SR K ρ H (wip m is) (wipe σ is) := by
  refine ⟨by rw [wip_length, wipe_length]; exact s.len, fun i u e => ?_⟩
  obtain ⟨h1, h2⟩ := wip_some e
  obtain ⟨v, h3, h4⟩ := s.knows i u h1
  exact ⟨v, by rw [wipe_get, if_neg h2]; exact h3, h4⟩
/-- two states that part at most at these slots -/
structure Alike (is : List Nat) (σ σ' : L2.St) : Prop where
  len : σ'.length = σ.length
  out : ∀ k, k ∉ is → σ'[k]? = σ[k]?
theorem Alike.wipe_eq {is : List Nat} (h : Alike is (wipe σ is) σ') : wipe σ' is = wipe σ is := by
  apply List.ext_getElem?
  intro k
  rw [wipe_get, wipe_get]
  have hl := h.len
  rw [wipe_length] at hl
  by_cases hk : k ∈ is
  · rw [if_pos hk, if_pos hk]
    by_cases hk2 : k < σ.length
    · rw [List.getElem?_eq_getElem (by omega), List.getElem?_eq_getElem hk2]
      rfl
    · rw [List.getElem?_eq_none (by omega), List.getElem?_eq_none (by omega)]
  · rw [if_neg hk, if_neg hk, h.out k hk, wipe_get, if_neg hk]

/-! ### expressions -/
theorem se_var {i : Nat} : SE K C (tVar i) (.var i) := by
  intro σ H ρ m M v M' Q h s e q
  simp only [ev] at e
  split at e
  · rename_i u e1
    obtain ⟨rfl, rfl⟩ := ok_inj e
    obtain ⟨x, h1, h2⟩ := s.knows i _ e1
    exact ⟨x, h1, q _ _ _ h .refl h2⟩
  · cases e
theorem se_cst {v : MV} {x : V} (hv : ∀ ρ H, VR K ρ H v x) : SE K C (tC x) (.cst v) := by
  intro σ H ρ m M w M' Q h s e q
  simp only [ev] at e
  obtain ⟨rfl, rfl⟩ := ok_inj e
  exact q _ _ _ h .refl (hv _ _)
theorem se_glo {k : Nat} {v : MV} {x : V} (hg : C.glo k = some v) (hv : ∀ ρ H, VR K ρ H v x) : SE K C (tC x) (.glo k) := by
  intro σ H ρ m M w M' Q h s e q
  simp only [ev, hg] at e
  obtain ⟨rfl, rfl⟩ := ok_inj e
  exact q _ _ _ h .refl (hv _ _)
theorem se_dnw : SE K C tDNewK .dnw := by
  intro σ H ρ m M w M' Q h s e q
  simp only [ev] at e
  obtain ⟨rfl, rfl⟩ := ok_inj e
  intro p hp
  obtain ⟨h1, h2⟩ := h.newO (o := .dK []) hp
  exact q _ _ _ h1 h2 (.dct upd_same)
/-- two in a row -/
theorem two {v : MV} {M' : MH} {R : V → V → Hp → Prop} {f : MV → MV → MH → Re MV} (ha : SE K C ta a) (hb : SE K C tb b) (h : HR K ρ M H) (s : SR K ρ H m σ) (e : ((ev C a m M).bnd fun u M1 => (ev C b m M1).bnd fun v M2 => f u v M2) = .ok v M')
    (k : ∀ u w M2 x y H2 ρ2, HR K ρ2 M2 H2 → Pst ρ H ρ2 H2 → VR K ρ2 H2 u x → VR K ρ2 H2 w y → f u w M2 = .ok v M' → R x y H2) : ta σ H fun x H1 => tb σ H1 fun y H2 => R x y H2 := by
  obtain ⟨u, M1, e1, e⟩ := bnd_ok e
  obtain ⟨w, M2, e2, e3⟩ := bnd_ok e
  refine ha σ H ρ m M u M1 _ h s e1 fun x H1 ρ1 h1 p1 r1 => ?_
  refine hb σ H1 ρ1 m M1 w M2 _ h1 (s.mo h p1) e2 fun y H2 ρ2 h2 p2 r2 => ?_
  exact k u w M2 x y H2 ρ2 h2 (p1.trans p2) (r1.mo h1 p2) r2 e3
theorem KQ.of {v : MV} {M' : MH} {Q : VK} (q : KQ K ρ H v M' Q) (p : Pst ρ H ρ' H') : KQ K ρ' H' v M' Q := fun x H2 ρ2 h2 p2 r => q x H2 ρ2 h2 (p.trans p2) r
theorem se_bin {o : BOp} (hr : RO K r (binop o)) (ha : SE K C ta a) (hb : SE K C tb b) : SE K C (tOp r ta tb) (.bin o a b) := by
  intro σ H ρ m M v M' Q h s e q
  simp only [ev] at e
  exact two ha hb h s e fun u w M2 x y H2 ρ2 h2 p2 ru rw e3 => hr _ _ _ _ _ _ _ _ _ _ h2 ru rw e3 (KQ.of q p2)
theorem se_cmp {o : COp} (hr : RO K r (cmpop o)) (ha : SE K C ta a) (hb : SE K C tb b) : SE K C (tOp r ta tb) (.cmp o a b) := by
  intro σ H ρ m M v M' Q h s e q
  simp only [ev] at e
  exact two ha hb h s e fun u w M2 x y H2 ρ2 h2 p2 ru rw e3 => hr _ _ _ _ _ _ _ _ _ _ h2 ru rw e3 (KQ.of q p2)
theorem st_of_se (ha : SE K C ta a) : ST K C (tTest ta) a := by
  intro σ H ρ m M v M' Q h s e q
  refine ha σ H ρ m M _ M' _ h s e fun x H1 ρ1 h1 p1 r1 => ?_
  cases r1
  exact ⟨v, rfl, q _ _ h1 p1⟩
theorem se_idx (ha : SE K C ta a) (hb : SE K C tb b) : SE K C (tOp (rIxM K) ta tb) (.idx a b) := by
  intro σ H ρ m M v M' Q h s e q
  simp only [ev] at e
  exact two ha hb h s e fun u w M2 x y H2 ρ2 h2 p2 ru rw e3 => ro_idx _ _ _ _ _ _ _ _ _ _ h2 ru rw e3 (KQ.of q p2)
theorem bl_cases {x : MV} {N : MH} {β : Type} {f g : Re β} {z : β} {N' : MH} (e : (match x with
    | .bl true => f
    | .bl false => g
    | _ => Re.bad) = .ok z N') : (x = .bl true ∧ f = .ok z N') ∨ (x = .bl false ∧ g = .ok z N') := by
  split at e
  · exact .inl ⟨rfl, e⟩
  · exact .inr ⟨rfl, e⟩
  · cases e
theorem bl_cases' {x : MV} {N : MH} {β : Type} {f g : Re β} {z : β} {N' : MH} (e : (match x with
    | .bl false => g
    | .bl true => f
    | _ => Re.bad) = .ok z N') : (x = .bl true ∧ f = .ok z N') ∨ (x = .bl false ∧ g = .ok z N') := by
  split at e
  · exact .inr ⟨rfl, e⟩
  · exact .inl ⟨rfl, e⟩
  · cases e
theorem se_chn {o p : COp} (hr : RO K r (cmpop o)) (hr' : RO K r' (cmpop p)) (ha : SE K C ta a) (hb : SE K C tb b) (hc : SE K C tc c) : SE K C (tChain r r' ta tb tc) (.chn o p a b c) := by
  intro σ H ρ m M v M' Q h s e q
  simp only [ev] at e
  refine two (R := fun x y H2 => r x y H2 fun z H3 => ∃ k, z = .bl k ∧ if k = true then tc σ H3 fun w H4 => r' y w H4 Q else Q (.bl false) H3) (f := fun u v M2 => (cmpop o u v M2).bnd fun x M3 => match x with
    | .bl true => (ev C c m M3).bnd fun z M4 => cmpop p v z M4
    | .bl false => .ok (.bl false) M3
    | _ => .bad) ha hb h s e fun u w M2 x y H2 ρ2 h2 p2 ru rw e3 => ?_
  obtain ⟨z, M3, e4, e5⟩ := bnd_ok e3
  refine hr _ _ _ _ _ _ _ _ _ _ h2 ru rw e4 fun zz H3 ρ3 h3 p3 rz => ?_
  rcases bl_cases (N := M3) e5 with ⟨rfl, e5⟩ | ⟨rfl, e5⟩
  · cases rz
    refine ⟨true, rfl, ?_⟩
    rw [if_pos rfl]
    obtain ⟨w2, M4, e6, e7⟩ := bnd_ok e5
    refine hc σ H3 ρ3 m M3 w2 M4 _ h3 (s.mo h (p2.trans p3)) e6 fun y2 H4 ρ4 h4 p4 r4 => ?_
    exact hr' _ _ _ _ _ _ _ _ _ _ h4 (rw.mo h2 (p3.trans p4)) r4 e7 (KQ.of q ((p2.trans p3).trans p4))
  · cases rz
    refine ⟨false, rfl, ?_⟩
    rw [if_neg (by decide)]
    obtain ⟨rfl, rfl⟩ := ok_inj e5
    exact q _ _ _ h3 (p2.trans p3) (.bl _)
theorem se_and (ha : SE K C ta a) (hb : SE K C tb b) : SE K C (tAndV ta tb) (.and a b) := by
  intro σ H ρ m M v M' Q h s e q
  simp only [ev] at e
  obtain ⟨u, M1, e1, e⟩ := bnd_ok e
  refine ha σ H ρ m M u M1 _ h s e1 fun x H1 ρ1 h1 p1 r1 => ?_
  rcases bl_cases (N := M1) e with ⟨rfl, e⟩ | ⟨rfl, e⟩
  · cases r1
    refine ⟨true, rfl, ?_⟩
    rw [if_pos rfl]
    exact hb σ H1 ρ1 m M1 v M' _ h1 (s.mo h p1) e (KQ.of q p1)
  · cases r1
    refine ⟨false, rfl, ?_⟩
    rw [if_neg (by decide)]
    obtain ⟨rfl, rfl⟩ := ok_inj e
    exact q _ _ _ h1 p1 (.bl _)
theorem se_or (ha : SE K C ta a) (hb : SE K C tb b) : SE K C (tOrV ta tb) (.or a b) := by
  intro σ H ρ m M v M' Q h s e q
  simp only [ev] at e
  obtain ⟨u, M1, e1, e⟩ := bnd_ok e
  refine ha σ H ρ m M u M1 _ h s e1 fun x H1 ρ1 h1 p1 r1 => ?_
  rcases bl_cases' (N := M1) e with ⟨rfl, e⟩ | ⟨rfl, e⟩
  · cases r1
    refine ⟨true, rfl, ?_⟩
    rw [if_pos rfl]
    obtain ⟨rfl, rfl⟩ := ok_inj e
    exact q _ _ _ h1 p1 (.bl _)
  · cases r1
    refine ⟨false, rfl, ?_⟩
    rw [if_neg (by decide)]
    exact hb σ H1 ρ1 m M1 v M' _ h1 (s.mo h p1) e (KQ.of q p1)
theorem not_ok {u v : MV} {M1 M' : MH} (e : (match u with
    | .bl b => Re.ok (MV.bl (!b)) M1
    | _ => Re.bad) = .ok v M') : ∃ b, u = .bl b ∧ v = .bl (!b) ∧ M' = M1 := by
  split at e
  · obtain ⟨rfl, rfl⟩ := ok_inj e
    exact ⟨_, rfl, rfl, rfl⟩
  · cases e
theorem se_not (ha : SE K C ta a) : SE K C (tNotV ta) (.not a) := by
  intro σ H ρ m M v M' Q h s e q
  simp only [ev] at e
  obtain ⟨u, M1, e1, e⟩ := bnd_ok e
  obtain ⟨b, rfl, rfl, rfl⟩ := not_ok e
  refine ha σ H ρ m M _ _ _ h s e1 fun x H1 ρ1 h1 p1 r1 => ?_
  cases r1
  exact ⟨b, rfl, q _ _ _ h1 p1 (.bl _)⟩
theorem neg_ok {u v : MV} {M M' : MH} (e : (match u with
    | .int i => Re.ok (.int (-i)) M
    | _ => .bad) = Re.ok v M') : ∃ i, u = .int i ∧ v = .int (-i) ∧ M = M' := by
  cases u <;> first
    | (cases e; done)
    | skip
  obtain ⟨h1, h2⟩ := ok_inj e
  exact ⟨_, rfl, h1.symm, h2⟩
theorem se_neg (ha : SE K C ta a) : SE K C (tUn (rU fun i => .int (-i)) ta) (.neg a) := by
  intro σ H ρ m M v M' Q h s e q
  simp only [ev] at e
  obtain ⟨u, M1, e1, e⟩ := bnd_ok e
  obtain ⟨b, rfl, rfl, rfl⟩ := neg_ok e
  refine ha σ H ρ m M _ _ _ h s e1 fun x H1 ρ1 h1 p1 r1 => ?_
  cases r1
  exact ⟨b, rfl, q _ _ _ h1 p1 (.int _)⟩
theorem se_ife (hc : ST K C tA c) (ha : SE K C ta a) (hb : SE K C tb b) : SE K C (tIf tA ta tb) (.ife c a b) := by
  intro σ H ρ m M v M' Q h s e q
  simp only [ev] at e
  obtain ⟨u, M1, e1, e⟩ := bnd_ok e
  rcases bl_cases (N := M1) e with ⟨rfl, e⟩ | ⟨rfl, e⟩
  · refine hc σ H ρ m M true M1 _ h s e1 fun H1 ρ1 h1 p1 => ?_
    rw [if_pos rfl]
    exact ha σ H1 ρ1 m M1 v M' _ h1 (s.mo h p1) e (KQ.of q p1)
  · refine hc σ H ρ m M false M1 _ h s e1 fun H1 ρ1 h1 p1 => ?_
    rw [if_neg (by decide)]
    exact hb σ H1 ρ1 m M1 v M' _ h1 (s.mo h p1) e (KQ.of q p1)
/-! ### tests -/
theorem st_and (ha : ST K C tA a) (hb : ST K C tB b) : ST K C (tAnd tA tB) (.and a b) := by
  intro σ H ρ m M v M' Q h s e q
  simp only [ev] at e
  obtain ⟨u, M1, e1, e⟩ := bnd_ok e
  rcases bl_cases (N := M1) e with ⟨rfl, e⟩ | ⟨rfl, e⟩
  · refine ha σ H ρ m M true M1 _ h s e1 fun H1 ρ1 h1 p1 => ?_
    rw [if_pos rfl]
    exact hb σ H1 ρ1 m M1 v M' _ h1 (s.mo h p1) e fun H2 ρ2 h2 p2 => q _ _ h2 (p1.trans p2)
  · refine ha σ H ρ m M false M1 _ h s e1 fun H1 ρ1 h1 p1 => ?_
    rw [if_neg (by decide)]
    obtain ⟨e2, rfl⟩ := ok_inj e
    cases e2
    exact q _ _ h1 p1
theorem st_or (ha : ST K C tA a) (hb : ST K C tB b) : ST K C (tOr tA tB) (.or a b) := by
  intro σ H ρ m M v M' Q h s e q
  simp only [ev] at e
  obtain ⟨u, M1, e1, e⟩ := bnd_ok e
  rcases bl_cases' (N := M1) e with ⟨rfl, e⟩ | ⟨rfl, e⟩
  · refine ha σ H ρ m M true M1 _ h s e1 fun H1 ρ1 h1 p1 => ?_
    rw [if_pos rfl]
    obtain ⟨e2, rfl⟩ := ok_inj e
    cases e2
    exact q _ _ h1 p1
  · refine ha σ H ρ m M false M1 _ h s e1 fun H1 ρ1 h1 p1 => ?_
    rw [if_neg (by decide)]
    exact hb σ H1 ρ1 m M1 v M' _ h1 (s.mo h p1) e fun H2 ρ2 h2 p2 => q _ _ h2 (p1.trans p2)
theorem st_not (ha : ST K C tA a) : ST K C (tNot tA) (.not a) := by
  intro σ H ρ m M v M' Q h s e q
  simp only [ev] at e
  obtain ⟨u, M1, e1, e⟩ := bnd_ok e
  obtain ⟨b, rfl, e2, rfl⟩ := not_ok e
  cases e2
  exact ha σ H ρ m M b _ _ h s e1 fun H1 ρ1 h1 p1 => q _ _ h1 p1

/-! ### lists of expressions -/
theorem sa_nil : SA K C tNil .nil := by
  intro σ H ρ m M v M' Q h s e q
  simp only [evs] at e
  obtain ⟨rfl, rfl⟩ := ok_inj e
  exact q _ _ _ h .refl .nil
theorem sa_cons {ts : TA} (ha : SE K C ta a) (hs : SA K C ts es) : SA K C (tCons ta ts) (.cons a es) := by
  intro σ H ρ m M v M' Q h s e q
  simp only [evs] at e
  obtain ⟨u, M1, e1, e⟩ := bnd_ok e
  obtain ⟨us, M2, e2, e3⟩ := bnd_ok e
  obtain ⟨rfl, rfl⟩ := ok_inj e3
  refine ha σ H ρ m M u M1 _ h s e1 fun x H1 ρ1 h1 p1 r1 => ?_
  refine hs σ H1 ρ1 m M1 us M2 _ h1 (s.mo h p1) e2 fun xs H2 ρ2 h2 p2 r2 => ?_
  exact q _ _ _ h2 (p1.trans p2) (.cons (r1.mo h1 p2) r2)
theorem se_tup {ts : TA} (hl : ∀ m M v M', evs C es m M = .ok v M' → v.length ≤ sizeLine) (hs : SA K C ts es) : SE K C (tTup ts) (.tup es) := by
  intro σ H ρ m M v M' Q h s e q
  simp only [ev] at e
  obtain ⟨us, M1, e1, e⟩ := bnd_ok e
  obtain ⟨rfl, rfl⟩ := ok_inj e
  refine hs σ H ρ m M us _ _ h s e1 fun xs H1 ρ1 h1 p1 r1 => ⟨by rw [← r1.length]; exact hl _ _ _ _ e1, fun p hp => ?_⟩
  obtain ⟨h2, p2⟩ := h1.newO (o := .tup xs) hp
  exact q _ _ _ h2 (p1.trans p2) (.tup (.of upd_same) (r1.mo h1 p2))
theorem se_lst {ts : TA} (hl : ∀ m M v M', evs C es m M = .ok v M' → v.length ≤ sizeLine) (hs : SA K C ts es) : SE K C (tLst ts) (.lst es) := by
  intro σ H ρ m M v M' Q h s e q
  simp only [ev] at e
  obtain ⟨us, M1, e1, e⟩ := bnd_ok e
  obtain ⟨rfl, rfl⟩ := ok_inj e
  refine hs σ H ρ m M us _ _ h s e1 fun xs H1 ρ1 h1 p1 r1 => ⟨by rw [← r1.length]; exact hl _ _ _ _ e1, fun p hp => ?_⟩
  obtain ⟨h2, p2, r2⟩ := h1.new hp r1
  exact q _ _ _ h2 (p1.trans p2) r2
def Es.len : Es → Nat
  | .nil => 0
  | .cons _ es => es.len + 1
theorem evs_len : ∀ (es : Es) (m : Sl) (M : MH) (v : List MV) (M' : MH), evs C es m M = .ok v M' → v.length = es.len
  | .nil, m, M, v, M', e => by
    simp only [evs] at e
    obtain ⟨rfl, rfl⟩ := ok_inj e
    rfl
  | .cons a es, m, M, v, M', e => by
    simp only [evs] at e
    obtain ⟨u, M1, e1, e⟩ := bnd_ok e
    obtain ⟨us, M2, e2, e3⟩ := bnd_ok e
    obtain ⟨rfl, rfl⟩ := ok_inj e3
    rw [List.length_cons, evs_len es _ _ _ _ e2]
    rfl
theorem se_blt {ts : TA} {o : Bt} {r : List V → Hp → VK → Prop} (hr : RC1 K r (btop o)) (hs : SA K C ts es) : SE K C (tCB r ts) (.blt o es) := by
  intro σ H ρ m M v M' Q h s e q
  simp only [ev] at e
  obtain ⟨us, M1, e1, e⟩ := bnd_ok e
  exact hs σ H ρ m M us M1 _ h s e1 fun xs H1 ρ1 h1 p1 r1 => hr _ _ _ _ _ _ _ _ h1 r1 e (KQ.of q p1)
theorem se_isi1 {t : Ty} (ha : SE K C ta a) : SE K C (tCB (rIsi K) (tCons ta (tCons (tC (.ty (tyS t))) tNil))) (.isi a [t] false) := by
  intro σ H ρ m M v M' Q h s e q
  simp only [ev] at e
  obtain ⟨u, M1, e1, e⟩ := bnd_ok e
  obtain ⟨rfl, rfl⟩ := ok_inj e
  exact ha σ H ρ m M u _ _ h s e1 fun x H1 ρ1 h1 p1 r1 => isi_one h1 r1 (q _ _ _ h1 p1 (.bl _))
def tTys : List Ty → TA
  | [] => tNil
  | t :: ts => tCons (tC (.ty (tyS t))) (tTys ts)
theorem tTys_run : ∀ (ts : List Ty) {σ : L2.St} {H : Hp} {Q : List V → Hp → Prop}, Q (ts.map fun c => V.ty (tyS c)) H → tTys ts σ H Q
  | [], _, _, _, q => q
  | _ :: ts, _, _, _, q => tTys_run ts q
theorem se_isiT {ts : List Ty} (hl : ts.length ≤ sizeLine) (ha : SE K C ta a) : SE K C (tCB (rIsiT K) (tCons ta (tCons (tTup (tTys ts)) tNil))) (.isi a ts true) := by
  intro σ H ρ m M v M' Q h s e q
  simp only [ev] at e
  obtain ⟨u, M1, e1, e⟩ := bnd_ok e
  obtain ⟨rfl, rfl⟩ := ok_inj e
  refine ha σ H ρ m M u _ _ h s e1 fun x H1 ρ1 h1 p1 r1 => ?_
  refine tTys_run ts ⟨by rw [List.length_map]; exact hl, fun p hp => ?_⟩
  obtain ⟨h2, p2⟩ := h1.newO (o := .tup (ts.map fun c => V.ty (tyS c))) hp
  exact isi_many h2 (r1.mo h1 p2) upd_same (q _ _ _ h2 (p1.trans p2) (.bl _))
theorem se_rev (ha : SE K C ta a) : SE K C (tRevL K ta) (.rev a) := by
  intro σ H ρ m M v M' Q h s e q
  simp only [ev] at e
  obtain ⟨u, M1, e1, e⟩ := bnd_ok e
  exact ha σ H ρ m M u _ _ h s e1 fun x H1 ρ1 h1 p1 r1 => rev_ok h1 r1 e (KQ.of q p1)
/-- a slice's bound -/
def SO (K : PySem.W.Frag) (C : Cf) (t : TO) (o : Option E) : Prop := ∀ σ H ρ m M v M' (Q : Option Int → Hp → Prop), HR K ρ M H → SR K ρ H m σ → (match o with
  | none => Re.ok none M
  | some l => (ev C l m M).bnd asBnd) = .ok v M' → KQu K ρ H M' (Q v) → t σ H Q
theorem so_none : SO K C tNoPart none := by
  intro σ H ρ m M v M' Q h s e q
  obtain ⟨rfl, rfl⟩ := ok_inj e
  exact q _ _ h .refl
theorem so_some (ha : SE K C ta a) : SO K C (tPart ta) (some a) := by
  intro σ H ρ m M v M' Q h s e q
  obtain ⟨u, M1, e1, e⟩ := bnd_ok e
  refine ha σ H ρ m M u _ _ h s e1 fun x H1 ρ1 h1 p1 r1 => ?_
  cases r1 <;> try (cases e; done)
  obtain ⟨rfl, rfl⟩ := ok_inj e
  exact ⟨_, rfl, q _ _ h1 p1⟩
theorem se_slc {lo hi : Option E} {tl th : TO} (ha : SE K C ta a) (hl : SO K C tl lo) (hh : SO K C th hi) : SE K C (tSl (rSlL K) ta tl th) (.slc a lo hi) := by
  intro σ H ρ m M v M' Q h s e q
  simp only [ev] at e
  obtain ⟨u, M1, e1, e⟩ := bnd_ok e
  obtain ⟨l, M2, e2, e⟩ := bnd_ok e
  obtain ⟨k, M3, e3, e⟩ := bnd_ok e
  refine ha σ H ρ m M u _ _ h s e1 fun x H1 ρ1 h1 p1 r1 => ?_
  refine hl σ H1 ρ1 m M1 l M2 _ h1 (s.mo h p1) e2 fun H2 ρ2 h2 p2 => ?_
  refine hh σ H2 ρ2 m M2 k M3 _ h2 (s.mo h (p1.trans p2)) e3 fun H3 ρ3 h3 p3 => ?_
  exact slc_ok h3 (r1.mo h1 (p2.trans p3)) e (KQ.of q ((p1.trans p2).trans p3))
theorem se_mth {o : Mt} {ts : TA} {r : V → List V → Hp → VK → Prop} (hr : RM1 K r (mtop o)) (hty : ∀ u us M v M', mtop o u us M = .ok v M' → ∃ n, u = .lst n) (ha : SE K C ta a) (hs : SA K C ts es) : SE K C (tBM K "list" r ta ts) (.mth o a es) := by
  intro σ H ρ m M v M' Q h s e q
  simp only [ev] at e
  obtain ⟨u, M1, e1, e⟩ := bnd_ok e
  obtain ⟨us, M2, e2, e3⟩ := bnd_ok e
  refine ha σ H ρ m M u _ _ h s e1 fun x H1 ρ1 h1 p1 r1 => ⟨?_, ?_⟩
  · obtain ⟨n, rfl⟩ := hty _ _ _ _ _ e3
    have hl := r1.lt h1
    obtain ⟨b, vs, q1, q2, _⟩ := h1.lies n M1[n] (List.getElem?_eq_getElem hl)
    cases r1 with
    | lst hn =>
      rw [hn] at q1
      cases q1
      exact .inl ⟨rfl, _, .of q2⟩
  · refine hs σ H1 ρ1 m M1 us M2 _ h1 (s.mo h p1) e2 fun xs H2 ρ2 h2 p2 r2 => ?_
    exact hr _ _ _ _ _ _ _ _ _ _ h2 (r1.mo h1 p2) r2 e3 (KQ.of q (p1.trans p2))
theorem vrs_rg {ρ : List Addr} {H : Hp} (lo : Int) : ∀ l : List Nat, VRs K ρ H (l.map fun i => MV.int (lo + (i : Nat))) (l.map fun i => V.int (lo + (i : Nat)))
  | [] => .nil
  | _ :: l => .cons (.int _) (vrs_rg lo l)
theorem se_lr1 (ha : SE K C ta a) : SE K C (tLstRg (tRg1 ta)) (.lr1 a) := by
  intro σ H ρ m M v M' Q h s e q
  simp only [ev] at e
  obtain ⟨u, M1, e1, e⟩ := bnd_ok e
  split at e <;> first | (cases e; done) | skip
  rename_i j
  split at e <;> first | (cases e; done) | skip
  rename_i hj
  obtain ⟨rfl, rfl⟩ := ok_inj e
  refine ha σ H ρ m M _ _ _ h s e1 fun x H1 ρ1 h1 p1 r1 => ?_
  cases r1
  refine ⟨j, rfl, ⟨by omega, by omega, by omega, by omega, by omega⟩, fun p hp => ?_⟩
  have r : VRs K ρ1 H1 (rgL 0 j.toNat) (rgV 0 j) := by
    unfold rgL rgV
    rw [Int.sub_zero]
    exact vrs_rg 0 _
  obtain ⟨k1, k2, k3⟩ := h1.new hp r
  exact q _ _ _ k1 (p1.trans k2) k3
theorem se_lr2 (ha : SE K C ta a) (hb : SE K C tb b) : SE K C (tLstRg (tRg2 ta tb)) (.lr2 a b) := by
  intro σ H ρ m M v M' Q h s e q
  simp only [ev] at e
  obtain ⟨u, M1, e1, e⟩ := bnd_ok e
  obtain ⟨w, M2, e2, e⟩ := bnd_ok e
  split at e <;> first | (cases e; done) | skip
  rename_i i j eij
  split at e <;> first | (cases e; done) | skip
  rename_i hj
  obtain ⟨rfl, rfl⟩ := ok_inj e
  refine ha σ H ρ m M _ _ _ h s e1 fun x H1 ρ1 h1 p1 r1 => ?_
  refine hb σ H1 ρ1 m M1 _ _ _ h1 (s.mo h p1) e2 fun y H2 ρ2 h2 p2 r2 => ?_
  cases r1
  cases r2
  refine ⟨i, j, rfl, rfl, ⟨by omega, by omega, by omega, by omega, by omega⟩, fun p hp => ?_⟩
  have r : VRs K ρ2 H2 (rgL i (j - i).toNat) (rgV i j) := by
    unfold rgL rgV
    exact vrs_rg i _
  obtain ⟨k1, k2, k3⟩ := h2.new hp r
  exact q _ _ _ k1 ((p1.trans p2).trans k2) k3
end
end MP

set_option Elab.async false
set_option linter.all false
set_option maxRecDepth 100000
set_option autoImplicit false
set_option maxHeartbeats 1000000
/-! MP, part e: what is walked; targets; comprehensions. -/
namespace MP
open PySem PySem.Spec PyProof.Rows L2

/-- a small source walks as the layer's iterator does -/
structure SJ (K : PySem.W.Frag) (s : Src) (J : L2.It) (ρ0 : List Addr) (H0 : Hp) : Prop where
  stop : ∀ (ρ : List Addr) (M : MH) (H : Hp) (i : Nat), HR K ρ M H → Pst ρ0 H0 ρ H → s.stop M i = true → J.stop i H
  go : ∀ (ρ : List Addr) (M : MH) (H : Hp) (i : Nat) (x : MV), HR K ρ M H → Pst ρ0 H0 ρ H → s.item M i = some x → J.go i H ∧ ∀ v H', J.yld i H v H' → HR K ρ M H' ∧ Pst ρ H ρ H' ∧ VR K ρ H' x v
section
variable {K : PySem.W.Frag} {C : Cf} {ρ ρ' ρ0 : List Addr} {M M0 : MH} {H H' H0 : Hp} {m m' : Sl} {σ σ' : L2.St}
theorem items_ref {u : MV} {us : List MV} {a : Addr} (h : HR K ρ M H) (r : VR K ρ H u (.ref a)) (e : itemsL M u = some us) : ∃ vs, SqL K H a vs ∧ VRs K ρ H us vs := by
  obtain ⟨b, vs, e1, s, t⟩ := r.items h e
  cases e1
  exact ⟨vs, s, t⟩
theorem sj_ls {u : MV} {a : Addr} (h0 : HR K ρ0 M0 H0) (r : VR K ρ0 H0 u (.ref a)) : SJ K (.ls u) (Itl K a) ρ0 H0 where
  stop := fun ρ M H i h p e => by
    simp only [Src.stop] at e
    split at e
    · rename_i us e1
      obtain ⟨vs, s, t⟩ := items_ref h (r.mo h0 p) e1
      exact ⟨vs, s, by rw [← t.length]; exact of_decide_eq_true e⟩
    · cases e
  go := fun ρ M H i x h p e => by
    obtain ⟨us, e1, e2⟩ := Option.bind_eq_some_iff.mp e
    obtain ⟨vs, s, t⟩ := items_ref h (r.mo h0 p) e1
    obtain ⟨v, e3, rv⟩ := t.get e2
    refine ⟨⟨vs, v, s, e3⟩, fun w H' y => ?_⟩
    obtain ⟨rfl, y⟩ := y
    have e4 := y vs s
    rw [e3] at e4
    cases e4
    exact ⟨h, .refl, rv⟩
theorem sj_tp {us : List MV} {vs : List V} {a : Addr} (h0 : HR K ρ0 M0 H0) (s : SqT K H0 a vs) (t : VRs K ρ0 H0 us vs) : SJ K (.tp us) (Itt K a) ρ0 H0 where
  stop := fun ρ M H i h p e => ⟨vs, h0.sqt p s, by rw [← t.length]; exact of_decide_eq_true e⟩
  go := fun ρ M H i x h p e => by
    obtain ⟨v, e3, rv⟩ := (t.mo h0 p).get e
    refine ⟨⟨vs, v, h0.sqt p s, e3⟩, fun w H' y => ?_⟩
    obtain ⟨rfl, y⟩ := y
    have e4 := y vs (h0.sqt p s)
    rw [e3] at e4
    cases e4
    exact ⟨h, .refl, rv⟩
theorem sj_rg {lo : Int} {n : Nat} : SJ K (.rg lo n) (Itr lo n) ρ0 H0 where
  stop := fun ρ M H i h p e => (show n ≤ i from of_decide_eq_true e)
  go := fun ρ M H i x h p e => by
    simp only [Src.item] at e
    split at e
    · rename_i hl
      cases e
      refine ⟨hl, fun w H' y => ?_⟩
      obtain ⟨rfl, rfl⟩ := y
      exact ⟨h, .refl, .int _⟩
    · cases e
theorem pair_new {x y : MV} {v w : V} {T : Addr} (h : HR K ρ M H) (hT : H T = none) (rx : VR K ρ H x v) (ry : VR K ρ H y w) : HR K ρ M (upd H T (.tup [v, w])) ∧ Pst ρ H ρ (upd H T (.tup [v, w])) ∧ VR K ρ (upd H T (.tup [v, w])) (.tup [x, y]) (.ref T) := by
  obtain ⟨h1, p1⟩ := h.newO (o := .tup [v, w]) hT
  exact ⟨h1, p1, .tup (.of upd_same) (.cons (rx.mo h p1) (.cons (ry.mo h p1) .nil))⟩
theorem sj_zl {u w : MV} {a b : Addr} (h0 : HR K ρ0 M0 H0) (r : VR K ρ0 H0 u (.ref a)) (r2 : VR K ρ0 H0 w (.ref b)) : SJ K (.zl u w) (Itz K a b) ρ0 H0 where
  stop := fun ρ M H i h p e => by
    simp only [Src.stop] at e
    split at e
    · rename_i us ws e1 e2
      obtain ⟨vs, s, t⟩ := items_ref h (r.mo h0 p) e1
      obtain ⟨zs, s2, t2⟩ := items_ref h (r2.mo h0 p) e2
      refine ⟨vs, zs, s, s2, ?_⟩
      rw [← t.length, ← t2.length]
      rcases Bool.or_eq_true_iff.mp e with e | e
      · exact .inl (of_decide_eq_true e)
      · exact .inr (of_decide_eq_true e)
    · cases e
  go := fun ρ M H i x h p e => by
    simp only [Src.item] at e
    split at e
    · rename_i x1 y1 e1 e2
      cases e
      obtain ⟨us, q1, q2⟩ := Option.bind_eq_some_iff.mp e1
      obtain ⟨ws, q3, q4⟩ := Option.bind_eq_some_iff.mp e2
      obtain ⟨vs, s, t⟩ := items_ref h (r.mo h0 p) q1
      obtain ⟨zs, s2, t2⟩ := items_ref h (r2.mo h0 p) q3
      obtain ⟨v, e3, rv⟩ := t.get q2
      obtain ⟨z, e4, rz⟩ := t2.get q4
      refine ⟨⟨vs, zs, v, z, s, s2, e3, e4⟩, fun w' H' y => ?_⟩
      obtain ⟨T, v', z', rfl, hT, rfl, f1, f2⟩ := y
      have g1 := f1 vs s
      have g2 := f2 zs s2
      rw [e3] at g1
      rw [e4] at g2
      cases g1
      cases g2
      exact pair_new h hT rv rz
    · cases e
theorem sj_zt {us ws : List MV} {vs zs : List V} {a b : Addr} (h0 : HR K ρ0 M0 H0) (s : SqT K H0 a vs) (t : VRs K ρ0 H0 us vs) (s2 : SqT K H0 b zs) (t2 : VRs K ρ0 H0 ws zs) : SJ K (.zt us ws) (RZ.ItzT K a b) ρ0 H0 where
  stop := fun ρ M H i h p e => by
    refine ⟨vs, zs, h0.sqt p s, h0.sqt p s2, ?_⟩
    rw [← t.length, ← t2.length]
    rcases Bool.or_eq_true_iff.mp e with e | e
    · exact .inl (of_decide_eq_true e)
    · exact .inr (of_decide_eq_true e)
  go := fun ρ M H i x h p e => by
    simp only [Src.item] at e
    split at e
    · rename_i x1 y1 q2 q4
      cases e
      obtain ⟨v, e3, rv⟩ := (t.mo h0 p).get q2
      obtain ⟨z, e4, rz⟩ := (t2.mo h0 p).get q4
      refine ⟨⟨vs, zs, v, z, h0.sqt p s, h0.sqt p s2, e3, e4⟩, fun w' H' y => ?_⟩
      obtain ⟨T, v', z', rfl, hT, rfl, f1, f2⟩ := y
      have g1 := f1 vs (h0.sqt p s)
      have g2 := f2 zs (h0.sqt p s2)
      rw [e3] at g1
      rw [e4] at g2
      cases g1
      cases g2
      exact pair_new h hT rv rz
    · cases e
theorem sj_en {u : MV} {a : Addr} (h0 : HR K ρ0 M0 H0) (r : VR K ρ0 H0 u (.ref a)) : SJ K (.en u) (Ite K a) ρ0 H0 where
  stop := fun ρ M H i h p e => by
    simp only [Src.stop] at e
    split at e
    · rename_i us e1
      obtain ⟨vs, s, t⟩ := items_ref h (r.mo h0 p) e1
      exact ⟨vs, s, by rw [← t.length]; exact of_decide_eq_true e⟩
    · cases e
  go := fun ρ M H i x h p e => by
    simp only [Src.item] at e
    split at e
    · rename_i x1 e1
      cases e
      obtain ⟨us, q1, q2⟩ := Option.bind_eq_some_iff.mp e1
      obtain ⟨vs, s, t⟩ := items_ref h (r.mo h0 p) q1
      obtain ⟨v, e3, rv⟩ := t.get q2
      refine ⟨⟨vs, v, s, e3⟩, fun w' H' y => ?_⟩
      obtain ⟨T, v', rfl, hT, rfl, f1⟩ := y
      have g1 := f1 vs s
      rw [e3] at g1
      cases g1
      exact pair_new h hT (.int _) rv
    · cases e

/-! ### the walked expressions -/
def SI (K : PySem.W.Frag) (C : Cf) (wi : TI) (it : MP.It) : Prop := ∀ σ H ρ m M s M' (R : L2.It → Hp → Prop), HR K ρ M H → SR K ρ H m σ → evI C it m M = .ok s M' →
  (∀ J H' ρ', HR K ρ' M' H' → Pst ρ H ρ' H' → SJ K s J ρ' H' → R J H') → wi σ H R
variable {ta tb : TE} {a b : E}
def iSeqM (K : PySem.W.Frag) (tl : TE) : TI := fun σ H R => iList K tl σ H R ∨ iTup K tl σ H R
theorem pi_seqM {X : Cx} {tg l : Expr} {tl : TE} (hl : PE X l tl) : PI X tg l (iSeqM X.K tl) := ⟨fun pins s σ H R I h => h.elim (fun h => (pi_list hl).run pins s σ H R I h) fun h => (pi_tup hl).run pins s σ H R I h⟩
theorem si_seq (ha : SE K C ta a) : SI K C (iSeqM K ta) (.seq a) := by
  intro σ H ρ m M s M' R h sr e q
  simp only [evI] at e
  obtain ⟨u, M1, e1, e⟩ := bnd_ok e
  have hs : ∃ z, srcOf M1 u = some z ∧ z = s ∧ M' = M1 := by
    split at e
    · rename_i z e2
      obtain ⟨e3, e4⟩ := ok_inj e
      exact ⟨z, e2, e3, e4.symm⟩
    · cases e
  obtain ⟨z, e2, rfl, rfl⟩ := hs
  by_cases ht : ∃ us, u = .tup us
  · obtain ⟨us, rfl⟩ := ht
    cases e2
    refine .inr (ha σ H ρ m M _ _ _ h sr e1 fun x H1 ρ1 h1 p1 r1 => ?_)
    cases r1 with
    | tup s t => exact ⟨_, rfl, ⟨_, s⟩, q _ _ _ h1 p1 (sj_tp h1 s t)⟩
  · have e3 : ∃ us, itemsL M' u = some us ∧ z = .ls u := by
      unfold srcOf at e2
      split at e2
      · exact absurd ⟨_, rfl⟩ ht
      · obtain ⟨us, q1, q2⟩ := Option.map_eq_some_iff.mp e2
        exact ⟨us, q1, q2.symm⟩
    obtain ⟨us, e4, rfl⟩ := e3
    refine .inl (ha σ H ρ m M _ _ _ h sr e1 fun x H1 ρ1 h1 p1 r1 => ?_)
    obtain ⟨c, vs, rfl, s, t⟩ := r1.items h1 e4
    exact ⟨c, rfl, ⟨_, s⟩, q _ _ _ h1 p1 (sj_ls h1 r1)⟩
theorem si_rg1 (ha : SE K C ta a) : SI K C (iRng1 (tCons ta tNil)) (.rg1 a) := by
  intro σ H ρ m M s M' R h sr e q
  simp only [evI] at e
  obtain ⟨u, M1, e1, e⟩ := bnd_ok e
  refine ha σ H ρ m M u M1 _ h sr e1 fun x H1 ρ1 h1 p1 r1 => ?_
  cases r1 <;> try (cases e; done)
  rename_i j
  simp only at e
  split at e
  · rename_i hb
    obtain ⟨rfl, rfl⟩ := ok_inj e
    exact ⟨j, rfl, by omega, by omega, q _ _ _ h1 p1 sj_rg⟩
  · cases e
theorem si_rg2 (ha : SE K C ta a) (hb : SE K C tb b) : SI K C (iRng2 (tCons ta (tCons tb tNil))) (.rg2 a b) := by
  intro σ H ρ m M s M' R h sr e q
  simp only [evI] at e
  obtain ⟨u, M1, e1, e⟩ := bnd_ok e
  obtain ⟨w, M2, e2, e⟩ := bnd_ok e
  refine ha σ H ρ m M u M1 _ h sr e1 fun x H1 ρ1 h1 p1 r1 => ?_
  refine hb σ H1 ρ1 m M1 w M2 _ h1 (sr.mo h p1) e2 fun y H2 ρ2 h2 p2 r2 => ?_
  cases r1 <;> cases r2 <;> try (cases e; done)
  simp only at e
  split at e
  · rename_i hb
    obtain ⟨rfl, rfl⟩ := ok_inj e
    exact ⟨_, _, rfl, ⟨by omega, by omega, by omega, by omega⟩, q _ _ _ h2 (p1.trans p2) sj_rg⟩
  · cases e
theorem si_zip (ha : SE K C ta a) (hb : SE K C tb b) : SI K C (RZ.iZipA K (tCons ta (tCons tb tNil))) (.zip a b) := by
  intro σ H ρ m M s M' R h sr e q
  simp only [evI] at e
  obtain ⟨u, M1, e1, e⟩ := bnd_ok e
  obtain ⟨w, M2, e2, e⟩ := bnd_ok e
  refine ha σ H ρ m M u M1 _ h sr e1 fun x H1 ρ1 h1 p1 r1 => ?_
  refine hb σ H1 ρ1 m M1 w M2 _ h1 (sr.mo h p1) e2 fun y H2 ρ2 h2 p2 r2 => ?_
  have r1' := r1.mo h1 p2
  have hs : ∃ z, zipOf M2 u w = some z ∧ z = s ∧ M' = M2 := by
    split at e
    · rename_i z e2
      obtain ⟨e3, e4⟩ := ok_inj e
      exact ⟨z, e2, e3, e4.symm⟩
    · cases e
  obtain ⟨z, e3, rfl, rfl⟩ := hs
  unfold zipOf at e3
  split at e3
  · cases e3
    cases r1' with
    | tup s t =>
      cases r2 with
      | tup s2 t2 => exact ⟨_, _, _, _, rfl, .inr ⟨s, s2, q _ _ _ h2 (p1.trans p2) (sj_zt h2 s t s2 t2)⟩⟩
  · split at e3
    · rename_i us ws q1 q2
      cases e3
      obtain ⟨c, vs, rfl, s, t⟩ := r1'.items h2 q1
      obtain ⟨d, zs, rfl, s2, t2⟩ := r2.items h2 q2
      exact ⟨_, _, _, _, rfl, .inl ⟨s, s2, q _ _ _ h2 (p1.trans p2) (sj_zl h2 r1' r2)⟩⟩
    · cases e3
theorem si_enu (ha : SE K C ta a) : SI K C (iEnum K (tCons ta tNil)) (.enu a) := by
  intro σ H ρ m M s M' R h sr e q
  simp only [evI] at e
  obtain ⟨u, M1, e1, e⟩ := bnd_ok e
  refine ha σ H ρ m M u M1 _ h sr e1 fun x H1 ρ1 h1 p1 r1 => ?_
  split at e
  · rename_i us e2
    obtain ⟨rfl, rfl⟩ := ok_inj e
    obtain ⟨c, vs, rfl, s, t⟩ := r1.items h1 e2
    exact ⟨c, vs, rfl, s, q _ _ _ h1 p1 (sj_en h1 r1)⟩
  · cases e

/-! ### targets -/
def SG (K : PySem.W.Frag) (g : TG) (t : Tg) : Prop := ∀ ρ M H u v σ m m' (Q : L2.St → Hp → Prop), HR K ρ M H → VR K ρ H u v → SR K ρ H m σ → t.set u m = some m' → (∀ σ', SR K ρ H m' σ' → Alike t.own σ σ' → Q σ' H) → g v σ H Q
theorem sg_nm {i : Nat} : SG K (gName i) (.nm i) := by
  intro ρ M H u v σ m m' Q h r s e q
  cases e
  refine q _ (s.set r) ⟨List.length_set, fun k hk => ?_⟩
  rw [List.getElem?_set_ne (fun z => hk (by rw [z]; exact List.mem_singleton_self _))]
def gNames : List Nat → TGs
  | [] => gNil
  | i :: is => gCons (gName i) (gNames is)
theorem gNames_run : ∀ (is : List Nat) {ρ : List Addr} {M : MH} {H : Hp} {us : List MV} {vs : List V} {σ : L2.St} {m m' : Sl} {Q : L2.St → Hp → Prop}, HR K ρ M H → VRs K ρ H us vs → SR K ρ H m σ → setAll is us m = some m' →
    (∀ σ', SR K ρ H m' σ' → Alike is σ σ' → Q σ' H) → gNames is vs σ H Q
  | [], ρ, M, H, us, vs, σ, m, m', Q, h, r, s, e, q => by
    cases r with
    | nil =>
      cases e
      exact ⟨rfl, q _ s ⟨rfl, fun _ _ => rfl⟩⟩
    | cons _ _ => cases e
  | i :: is, ρ, M, H, us, vs, σ, m, m', Q, h, r, s, e, q => by
    cases r with
    | nil => cases e
    | cons r t =>
      refine ⟨_, _, rfl, gNames_run is h t (s.set r) e fun σ' s' al => q σ' s' ⟨al.len.trans List.length_set, fun k hk => ?_⟩⟩
      rw [al.out k (fun z => hk (List.mem_cons_of_mem _ z)), List.getElem?_set_ne (fun z => hk (by rw [z]; exact List.mem_cons_self))]
theorem setAll_len : ∀ (is : List Nat) {us : List MV} {m m' : Sl}, setAll is us m = some m' → us.length = is.length
  | [], [], _, _, _ => rfl
  | [], _ :: _, _, _, e => by cases e
  | _ :: _, [], _, _, e => by cases e
  | i :: is, u :: us, m, m', e => congrArg Nat.succ (setAll_len is (us := us) (m := m.set i (some u)) (m' := m') e)
theorem sg_tp {is : List Nat} : SG K (gTup K is.length (gNames is)) (.tp is) := by
  intro ρ M H u v σ m m' Q h r s e q
  cases r <;> try (cases e; done)
  rename_i a us vs sq t
  exact ⟨a, vs, rfl, sq, by rw [← t.length]; exact setAll_len is e, gNames_run is h t s e q⟩

/-! ### comprehensions -/
/-- an object beside the small heap is written -/
theorem upd_out {D : Addr} {xs ys : List V} (h : HR K ρ M H) (hD : H D = some (.lst xs)) (ho : D ∉ ρ) :
    (∀ u v, VR K ρ H u v → VR K ρ (upd H D (.lst ys)) u v) ∧ (∀ us vs, VRs K ρ H us vs → VRs K ρ (upd H D (.lst ys)) us vs) ∧ HR K ρ M (upd H D (.lst ys)) := by
  have far : ∀ {b : Addr} {o : HO}, H b = some o → (∀ vs, o ≠ .lst vs) → upd H D (.lst ys) b = some o := fun {b o} e n => by
    by_cases hb : b = D
    · subst hb
      rw [hD] at e
      cases e
      exact absurd rfl (n xs)
    · rw [upd_ne hb]
      exact e
  have sq : ∀ {b : Addr} {vs : List V}, SqT K H b vs → SqT K (upd H D (.lst ys)) b vs := fun {b vs} s => by
    rcases s with (s | ⟨o, s⟩) | s
    · exact .inl (.inl (far s fun _ z => nomatch z))
    · exact .inl (.inr ⟨o, far s fun _ z => nomatch z⟩)
    · exact .inr s
  have kl : ∀ {b : Addr} {vs : List V}, KL K H b vs → KL K (upd H D (.lst ys)) b vs := fun {b vs} s => by
    rcases s with ⟨o, s⟩ | s
    · exact .inl ⟨o, far s fun _ z => nomatch z⟩
    · exact .inr s
  have vr : (∀ u v, VR K ρ H u v → VR K ρ (upd H D (.lst ys)) u v) ∧ (∀ us vs, VRs K ρ H us vs → VRs K ρ (upd H D (.lst ys)) us vs) := by
    constructor
    · intro u v r
      induction r using VR.rec (motive_2 := fun us vs _ => VRs K ρ (upd H D (.lst ys)) us vs) with
      | non => exact .non
      | bl b => exact .bl b
      | int i => exact .int i
      | str x => exact .str x
      | tup s _ ih => exact .tup (sq s) ih
      | lst e => exact .lst e
      | kls s _ ih => exact .kls (kl s) ih
      | dct e => exact .dct (far e fun _ z => nomatch z)
      | nil => exact .nil
      | cons _ _ h1 h2 => exact .cons h1 h2
    · intro us vs r
      induction r using VRs.rec (motive_1 := fun u v _ => VR K ρ (upd H D (.lst ys)) u v) with
      | non => exact .non
      | bl b => exact .bl b
      | int i => exact .int i
      | str x => exact .str x
      | tup s _ ih => exact .tup (sq s) ih
      | lst e => exact .lst e
      | kls s _ ih => exact .kls (kl s) ih
      | dct e => exact .dct (far e fun _ z => nomatch z)
      | nil => exact .nil
      | cons _ _ h1 h2 => exact .cons h1 h2
  refine ⟨vr.1, vr.2, ⟨h.nd, h.len, fun n us e => ?_⟩⟩
  obtain ⟨b, vs, e1, e2, e3⟩ := h.lies n us e
  refine ⟨b, vs, e1, ?_, vr.2 _ _ e3⟩
  rw [upd_ne (fun z => ho (by rw [← z]; exact List.mem_of_getElem? e1))]
  exact e2
/-- an object beside the small heap becomes its newest list -/
theorem adopt {D : Addr} {us : List MV} {vs : List V} (h : HR K ρ M H) (hD : H D = some (.lst vs)) (ho : D ∉ ρ) (r : VRs K ρ H us vs) :
    HR K (ρ ++ [D]) (M ++ [us]) H ∧ VR K (ρ ++ [D]) H (.lst M.length) (.ref D) := by
  have vr : (∀ u v, VR K ρ H u v → VR K (ρ ++ [D]) H u v) ∧ (∀ us vs, VRs K ρ H us vs → VRs K (ρ ++ [D]) H us vs) := by
    constructor
    · intro u v r
      induction r using VR.rec (motive_2 := fun us vs _ => VRs K (ρ ++ [D]) H us vs) with
      | non => exact .non
      | bl b => exact .bl b
      | int i => exact .int i
      | str x => exact .str x
      | tup s _ ih => exact .tup s ih
      | lst e => exact .lst (by rw [List.getElem?_append_left (List.getElem?_eq_some_iff.mp e).1]; exact e)
      | kls s _ ih => exact .kls s ih
      | dct e => exact .dct e
      | nil => exact .nil
      | cons _ _ h1 h2 => exact .cons h1 h2
    · intro us vs r
      induction r using VRs.rec (motive_1 := fun u v _ => VR K (ρ ++ [D]) H u v) with
      | non => exact .non
      | bl b => exact .bl b
      | int i => exact .int i
      | str x => exact .str x
      | tup s _ ih => exact .tup s ih
      | lst e => exact .lst (by rw [List.getElem?_append_left (List.getElem?_eq_some_iff.mp e).1]; exact e)
      | kls s _ ih => exact .kls s ih
      | dct e => exact .dct e
      | nil => exact .nil
      | cons _ _ h1 h2 => exact .cons h1 h2
  have at' : (ρ ++ [D])[M.length]? = some D := by
    rw [← h.len, List.getElem?_append_right (Nat.le_refl _), Nat.sub_self]
    rfl
  refine ⟨⟨?_, ?_, fun n xs e => ?_⟩, .lst at'⟩
  · exact List.nodup_append.mpr ⟨h.nd, by simp, fun a ha b hb => by rw [List.mem_singleton.mp hb]; exact fun z => ho (z ▸ ha)⟩
  · rw [List.length_append, List.length_append, h.len]
    rfl
  · by_cases hn : n < M.length
    · rw [List.getElem?_append_left hn] at e
      obtain ⟨a, ws, e1, e2, e3⟩ := h.lies n xs e
      exact ⟨a, ws, by rw [List.getElem?_append_left (List.getElem?_eq_some_iff.mp e1).1]; exact e1, e2, vr.2 _ _ e3⟩
    · have hn2 : n = M.length := by
        have := (List.getElem?_eq_some_iff.mp e).1
        rw [List.length_append] at this
        have : n < M.length + 1 := this
        omega
      subst hn2
      rw [List.getElem?_append_right (Nat.le_refl _), Nat.sub_self] at e
      cases e
      exact ⟨D, vs, at', hD, vr.2 _ _ r⟩

/-- a comprehension's turn in the small machine -/
def comF (C : Cf) (t : Tg) (m : Sl) (c : Option E) (e : E) : MV → MH → Re (Option MV) := fun x M => match t.set x (wip m t.own) with
  | none => .bad
  | some m' => match c with
    | none => ((ev C e m' M).nox).bnd fun y M' => .ok (some y) M'
    | some c => ((ev C c m' M).nox).bnd fun k M' => match k with
      | .bl true => ((ev C e m' M').nox).bnd fun y M'' => .ok (some y) M''
      | .bl false => .ok none M'
      | _ => .bad
/-- the condition's test: none is always true -/
def SCo (K : PySem.W.Frag) (C : Cf) (tt : TT) (c : Option E) : Prop := match c with
  | none => tt = tYes
  | some c => ST K C tt c
theorem turn_ok {t : Tg} {c : Option E} {e : E} {tt : TT} {te : TE} {x : MV} {o : Option MV} {M' : MH} {σ2 : L2.St} {Q : Bool → Hp → Prop} (hc : SCo K C tt c) (he : SE K C te e) (ht : t.set x (wip m t.own) = some m') (h : HR K ρ M H) (s : SR K ρ H m' σ2) (hf : comF C t m c e x M = .ok o M')
    (no : o = none → ∀ H' ρ', HR K ρ' M' H' → Pst ρ H ρ' H' → Q false H') (yes : ∀ y, o = some y → ∀ H1 ρ1, Pst ρ H ρ1 H1 → (∀ Q' : VK, (∀ v H' ρ', HR K ρ' M' H' → Pst ρ H ρ' H' → VR K ρ' H' y v → Q' v H') → te σ2 H1 Q') → Q true H1) : tt σ2 H Q := by
  unfold comF at hf
  rw [ht] at hf
  simp only at hf
  cases c with
  | none =>
    obtain ⟨y, M1, e1, e2⟩ := bnd_ok hf
    obtain ⟨rfl, rfl⟩ := ok_inj e2
    have hc : tt = tYes := hc
    subst hc
    refine yes y rfl H ρ .refl fun Q' q => ?_
    exact he σ2 H ρ m' M y M1 _ h s (nox_ok e1) fun v H' ρ' h' p' r' => q v H' ρ' h' p' r'
  | some c =>
    obtain ⟨k, M1, e1, e2⟩ := bnd_ok hf
    have e1 := nox_ok e1
    rcases bl_cases (N := M1) e2 with ⟨rfl, e3⟩ | ⟨rfl, e3⟩
    · obtain ⟨y, M2, e4, e5⟩ := bnd_ok e3
      obtain ⟨rfl, rfl⟩ := ok_inj e5
      refine (show ST K C tt c from hc) σ2 H ρ m' M true M1 Q h s e1 fun H1 ρ1 h1 p1 => ?_
      refine yes y rfl H1 ρ1 p1 fun Q' q => ?_
      exact he σ2 H1 ρ1 m' M1 y M2 _ h1 (s.mo h p1) (nox_ok e4) fun v H' ρ' h' p' r' => q v H' ρ' h' (p1.trans p') r'
    · obtain ⟨rfl, rfl⟩ := ok_inj e3
      exact (show ST K C tt c from hc) σ2 H ρ m' M false M1 Q h s e1 fun H1 ρ1 h1 p1 => no rfl H1 ρ1 h1 p1
theorem Pst.none {M' : MH} (p : Pst ρ H ρ' H') (h' : HR K ρ' M' H') {D : Addr} (h : H' D = .none) : H D = .none := by
  cases e : H D with
  | none => rfl
  | some o =>
    by_cases hd : D ∈ ρ
    · obtain ⟨τ, e1⟩ := p.pre
      obtain ⟨vs, e2⟩ := h'.mem (a := D) (by rw [e1]; exact List.mem_append_left _ hd)
      rw [h] at e2
      cases e2
    · have := p.keep D o hd e
      rw [h] at this
      cases this
theorem Pst.out (p : Pst ρ H ρ' H') {D : Addr} {o : HO} (e : H D = some o) (ho : D ∉ ρ) : D ∉ ρ' ∧ H' D = some o := by
  refine ⟨fun z => ?_, p.keep D o ho e⟩
  have := p.fresh D z ho
  rw [e] at this
  cases this
theorem HR.off (h : HR K ρ M H) {D : Addr} (e : H D = .none) : D ∉ ρ := fun z => by
  obtain ⟨vs, e2⟩ := h.mem z
  rw [e] at e2
  cases e2
theorem se_com {wi : TI} {g : TG} {tt : TT} {te : TE} {t : Tg} {it : MP.It} {c : Option E} {e : E} (hi : SI K C wi it) (hg : SG K g t) (hc : SCo K C tt c) (he : SE K C te e) : SE K C (tLc wi g tt te t.own) (.com t it c e) := by
  intro σ H ρ m M v M' Q h sr e0 q
  simp only [ev] at e0
  obtain ⟨s, M1, e1, e0⟩ := bnd_ok e0
  obtain ⟨ys, M2, e2, e3⟩ := bnd_ok e0
  have e2 : comL s (comF C t m c e) C.most 0 [] M1 = .ok ys M2 := e2
  obtain ⟨rfl, rfl⟩ := ok_inj e3
  refine hi σ H ρ m M s M1 _ h sr e1 fun J H1 ρ1 h1 p1 sj => ?_
  intro D hD
  obtain ⟨h1', p1'⟩ := h1.newO (o := .lst []) hD
  have key : ∃ W : Nat → Nat → Hp → Prop, W = fun i k H2 => ∃ (ρ2 : List Addr) (M3 : MH) (acc : List MV) (vacc : List V), HR K ρ2 M3 H2 ∧ Pst ρ1 H1 ρ2 H2 ∧ H2 D = some (.lst vacc) ∧ D ∉ ρ2 ∧ VRs K ρ2 H2 acc vacc ∧ comL s (comF C t m c e) k i acc M3 = .ok ys M2 := ⟨_, rfl⟩
  obtain ⟨W, hW⟩ := key
  refine ⟨W, ⟨C.most, ?_⟩, ?_⟩
  · rw [hW]
    exact ⟨ρ1, M1, [], [], h1', p1', upd_same, h1.off hD, .nil, e2⟩
  · intro i k H2 hw
    rw [hW] at hw
    obtain ⟨ρ2, M3, acc, vacc, h2, p2, hd, ho, ra, ec⟩ := hw
    cases k with
    | zero => cases ec
    | succ k =>
      unfold comL at ec
      split at ec
      · rename_i hs
        obtain ⟨rfl, rfl⟩ := ok_inj ec
        refine .inl ⟨sj.stop ρ2 M3 H2 i h2 p2 hs, ?_⟩
        obtain ⟨a1, a2⟩ := adopt h2 hd ho ra
        refine q _ _ _ a1 (p1.trans ?_) a2
        obtain ⟨τ, e5⟩ := p2.pre
        refine ⟨⟨τ ++ [D], by rw [e5, List.append_assoc]⟩, p2.keep, fun a ha hn => ?_⟩
        rcases List.mem_append.mp ha with z | z
        · exact p2.fresh a z hn
        · rw [List.mem_singleton.mp z]
          exact hD
      · split at ec
        · cases ec
        · rename_i x ex
          obtain ⟨o, M4, e4, e5⟩ := bnd_ok ec
          obtain ⟨g1, g2⟩ := sj.go ρ2 M3 H2 i x h2 p2 ex
          have ht : ∃ m', t.set x (wip m t.own) = some m' := by
            cases z : t.set x (wip m t.own) with
            | none =>
              unfold comF at e4
              rw [z] at e4
              cases e4
            | some m' => exact ⟨m', rfl⟩
          obtain ⟨m', ht⟩ := ht
          refine .inr ⟨g1, W (i + 1) k, fun H' n => ⟨k, Nat.lt_succ_self k, n⟩, fun x' H3 y => ?_⟩
          obtain ⟨h3, p3, rx⟩ := g2 x' H3 y
          obtain ⟨ho3, hd3⟩ := p3.out hd ho
          have sr3 : SR K ρ2 H3 m σ := (sr.mo h p1).mo h1 (p2.trans p3)
          refine hg ρ2 M3 H3 x x' (wipe σ t.own) (wip m t.own) m' _ h3 rx (sr3.wip t.own) ht fun σ2 s2 al => ⟨al.wipe_eq, ?_⟩
          refine turn_ok hc he ht h3 s2 e4 (fun on H4 ρ4 h4 p4 => ?_) fun y oy H4 ρ4 p4 k4 => ?_
          · rw [if_neg (by decide)]
            subst on
            rw [hW]
            obtain ⟨ho4, hd4⟩ := p4.out hd3 ho3
            exact ⟨ρ4, M4, acc, vacc, h4, p2.trans (p3.trans p4), hd4, ho4, ra.mo h2 (p3.trans p4), e5⟩
          · rw [if_pos rfl]
            subst oy
            simp only at e5
            split at e5
            · rename_i hl
              refine k4 _ fun z H5 ρ5 h5 p5 rz => ?_
              obtain ⟨ho5, hd5⟩ := p5.out hd3 ho3
              have ra5 := ra.mo h2 (p3.trans p5)
              refine ⟨vacc, hd5, by rw [← ra.length]; exact lim_lt hl, ?_⟩
              rw [hW]
              obtain ⟨u1, u2, u3⟩ := upd_out (ys := vacc ++ [z]) h5 hd5 ho5
              refine ⟨ρ5, M4, acc ++ [y], vacc ++ [z], u3, ⟨((p2.trans p3).trans p5).pre, fun a o ha e6 => ?_, ((p2.trans p3).trans p5).fresh⟩, upd_same, ho5, u2 _ _ (ra5.app (.cons rz .nil)), e5⟩
              rw [upd_ne (ne_of_none e6 hD)]
              exact ((p2.trans p3).trans p5).keep a o ha e6
            · cases e5
end
end MP

set_option Elab.async false
set_option linter.all false
set_option maxRecDepth 100000
set_option autoImplicit false
set_option maxHeartbeats 1000000
/-! MP, part f: statements. -/
namespace MP
open PySem PySem.Spec PyProof.Rows L2

/-- behind a statement that ended so -/
def Ff (K : PySem.W.Frag) (D : Ends) (ρ : List Addr) (H : Hp) (p : Fl × Sl) (M' : MH) : Prop := ∀ σ' H' ρ', HR K ρ' M' H' → Pst ρ H ρ' H' → SR K ρ' H' p.2 σ' → match p.1 with
  | .nx => D.nx σ' H'
  | .bk => D.bk σ' H'
  | .cn => D.ct σ' H'
  | .rt v => ∀ x, VR K ρ' H' v x → D.rt x H'
def SS (K : PySem.W.Frag) (C : Cf) (t : TS) (s : S) : Prop := ∀ D σ H ρ m M p M', HR K ρ M H → SR K ρ H m σ → ex C s m M = .ok p M' → Ff K D ρ H p M' → t D σ H
def SB (K : PySem.W.Frag) (C : Cf) (t : TS) (s : Ss) : Prop := ∀ D σ H ρ m M p M', HR K ρ M H → SR K ρ H m σ → exs C s m M = .ok p M' → Ff K D ρ H p M' → t D σ H
section
variable {K : PySem.W.Frag} {C : Cf} {ρ ρ' : List Addr} {M M' : MH} {H H' : Hp} {m m' : Sl} {σ σ' : L2.St} {ta tb tc : TE} {a b c e : E} {D : Ends} {p : Fl × Sl} {A B : Ss} {tA tB : TS} {tt : TT}
theorem Ff.of (f : Ff K D ρ H p M') (q : Pst ρ H ρ' H') : Ff K D ρ' H' p M' := fun σ2 H2 ρ2 h2 p2 s2 => f σ2 H2 ρ2 h2 (q.trans p2) s2
theorem sb_nil : SB K C tNext .nil := by
  intro D σ H ρ m M p M' h s e q
  simp only [exs] at e
  obtain ⟨rfl, rfl⟩ := ok_inj e
  exact q σ H ρ h .refl s
theorem sb_cons {t u : TS} {s : S} {ss : Ss} (h1 : SS K C t s) (h2 : SB K C u ss) : SB K C (tSeq t u) (.cons s ss) := by
  intro D σ H ρ m M p M' h sr e q
  simp only [exs] at e
  obtain ⟨r, M1, e1, e2⟩ := bnd_ok e
  refine h1 _ σ H ρ m M r M1 h sr e1 fun σ1 H1 ρ1 h1' p1 s1 => ?_
  obtain ⟨f, m1⟩ := r
  cases f with
  | nx => exact h2 D σ1 H1 ρ1 m1 M1 p M' h1' s1 e2 (Ff.of q p1)
  | bk =>
    obtain ⟨rfl, rfl⟩ := ok_inj e2
    exact q σ1 H1 ρ1 h1' p1 s1
  | cn =>
    obtain ⟨rfl, rfl⟩ := ok_inj e2
    exact q σ1 H1 ρ1 h1' p1 s1
  | rt v =>
    obtain ⟨rfl, rfl⟩ := ok_inj e2
    exact q σ1 H1 ρ1 h1' p1 s1
theorem ss_exp (ha : SE K C ta a) : SS K C (tDrop ta) (.exp a) := by
  intro D σ H ρ m M p M' h sr e q
  simp only [ex] at e
  obtain ⟨u, M1, e1, e2⟩ := bnd_ok e
  obtain ⟨rfl, rfl⟩ := ok_inj e2
  exact ha σ H ρ m M u _ _ h sr e1 fun x H1 ρ1 h1 p1 r1 => q σ H1 ρ1 h1 p1 (sr.mo h p1)
theorem asg_ok {u : MV} {t : Tg} {M1 : MH} (e : (match t.set u m with
    | some m' => Re.ok (Fl.nx, m') M1
    | none => .bad) = .ok p M') : ∃ m', t.set u m = some m' ∧ p = (.nx, m') ∧ M' = M1 := by
  split at e
  · rename_i m' e1
    obtain ⟨rfl, rfl⟩ := ok_inj e
    exact ⟨m', e1, rfl, rfl⟩
  · cases e
theorem ss_asg {t : Tg} {g : TG} (ha : SE K C ta a) (hg : SG K g t) : SS K C (tAsg ta g) (.asg t a) := by
  intro D σ H ρ m M p M' h sr e q
  simp only [ex] at e
  obtain ⟨u, M1, e1, e2⟩ := bnd_ok e
  obtain ⟨m', e3, rfl, rfl⟩ := asg_ok e2
  refine ha σ H ρ m M u _ _ h sr e1 fun x H1 ρ1 h1 p1 r1 => ?_
  exact hg ρ1 _ H1 u x σ m m' _ h1 r1 (sr.mo h p1) e3 fun σ1 s1 _ => q σ1 H1 ρ1 h1 p1 s1
theorem ss_par2 {i j : Nat} {ts : TA} {es : Es} (ha : SA K C ts es) : SS K C (tPar i j ts) (.asg (.tp [i, j]) (.tup es)) := by
  intro D σ H ρ m M p M' h sr e q
  simp only [ex, ev] at e
  obtain ⟨u, M1, e1, e2⟩ := bnd_ok e
  obtain ⟨us, M2, e4, e5⟩ := bnd_ok e1
  obtain ⟨rfl, rfl⟩ := ok_inj e5
  obtain ⟨m', e3, rfl, rfl⟩ := asg_ok e2
  refine ha σ H ρ m M us _ _ h sr e4 fun xs H1 ρ1 h1 p1 r1 => ?_
  have s1 := sr.mo h p1
  cases r1 with
  | nil => cases e3
  | cons r1 t1 =>
    cases t1 with
    | nil => cases e3
    | cons r2 t2 =>
      cases t2 with
      | cons _ _ => cases e3
      | nil =>
        cases e3
        exact ⟨_, _, rfl, q _ H1 ρ1 h1 p1 ((s1.set r1).set r2)⟩
theorem ss_par3 {i j k : Nat} {ts : TA} {es : Es} (ha : SA K C ts es) : SS K C (tPar3 i j k ts) (.asg (.tp [i, j, k]) (.tup es)) := by
  intro D σ H ρ m M p M' h sr e q
  simp only [ex, ev] at e
  obtain ⟨u, M1, e1, e2⟩ := bnd_ok e
  obtain ⟨us, M2, e4, e5⟩ := bnd_ok e1
  obtain ⟨rfl, rfl⟩ := ok_inj e5
  obtain ⟨m', e3, rfl, rfl⟩ := asg_ok e2
  refine ha σ H ρ m M us _ _ h sr e4 fun xs H1 ρ1 h1 p1 r1 => ?_
  have s1 := sr.mo h p1
  cases r1 with
  | nil => cases e3
  | cons r1 t1 =>
    cases t1 with
    | nil => cases e3
    | cons r2 t2 =>
      cases t2 with
      | nil => cases e3
      | cons r3 t3 =>
        cases t3 with
        | cons _ _ => cases e3
        | nil =>
          cases e3
          exact ⟨_, _, _, rfl, q _ H1 ρ1 h1 p1 (((s1.set r1).set r2).set r3)⟩
theorem ss_put (he : SE K C tc e) (ha : SE K C ta a) (hb : SE K C tb b) : SS K C (tAsg tc (gSub ta tb rSetL)) (.put a b e) := by
  intro D σ H ρ m M p M' h sr e0 q
  simp only [ex] at e0
  obtain ⟨v, M1, e1, e0⟩ := bnd_ok e0
  obtain ⟨u, M2, e2, e0⟩ := bnd_ok e0
  obtain ⟨k, M3, e3, e0⟩ := bnd_ok e0
  obtain ⟨un, M4, e4, e0⟩ := bnd_ok e0
  obtain ⟨rfl, rfl⟩ := ok_inj e0
  refine he σ H ρ m M v _ _ h sr e1 fun x H1 ρ1 h1 p1 r1 => ?_
  refine ha σ H1 ρ1 m M1 u _ _ h1 (sr.mo h p1) e2 fun y H2 ρ2 h2 p2 r2 => ?_
  refine hb σ H2 ρ2 m M2 k _ _ h2 (sr.mo h (p1.trans p2)) e3 fun z H3 ρ3 h3 p3 r3 => ?_
  refine put_ok h3 (r2.mo h2 p3) r3 (r1.mo h1 (p2.trans p3)) e4 fun H4 ρ4 h4 p4 => ?_
  have p5 := p1.trans (p2.trans (p3.trans p4))
  exact q σ H4 ρ4 h4 p5 (sr.mo h p5)
theorem ss_aug {i : Nat} {o : BOp} (ha : SE K C ta a) : SS K C (tAug i ta (ipM o)) (.aug i o a) := by
  intro D σ H ρ m M p M' h sr e q
  simp only [ex] at e
  split at e
  · rename_i u e0
    obtain ⟨v, M1, e1, e⟩ := bnd_ok e
    obtain ⟨w, M2, e2, e⟩ := bnd_ok e
    obtain ⟨rfl, rfl⟩ := ok_inj e
    obtain ⟨x, h3, r3⟩ := sr.knows i _ e0
    refine ⟨x, h3, ha σ H ρ m M v _ _ h sr e1 fun y H1 ρ1 h1 p1 r1 => ?_⟩
    exact ip_ok h1 (r3.mo h p1) r1 e2 fun z H2 ρ2 h2 p2 r2 => q _ H2 ρ2 h2 (p1.trans p2) ((sr.mo h (p1.trans p2)).set r2)
  · cases e
/-- a list's item that is there -/
def rGetL (K : PySem.W.Frag) : V → V → Hp → VK → Prop := fun x y H Q => ∃ (p : Addr) (xs : List V) (i : Int) (v : V), x = .ref p ∧ y = .int i ∧ 0 ≤ i ∧ i < 2 ^ 63 ∧ SqL K H p xs ∧ xs[i.toNat]? = some v ∧ Q v H
theorem pget {X : Cx} : PGet X (rGetL X.K) := by
  intro pins s σ H o i ov iv Q I ro ri h
  obtain ⟨p, xs, k, v, rfl, rfl, h0, h1, hq, hx, q⟩ := h
  cases ro
  obtain ⟨t, rfl⟩ := ri
  obtain ⟨its, r, pl, hz⟩ := I.list hq
  obtain ⟨u, hu, ru⟩ := r.get hx
  refine wpAny_getItem_list (x := u) (Q := EP X pins σ Q) pl.isList h0 h1 (by simpa using hu) ?_
  exact ⟨v, H, I, ru, q⟩
theorem ss_agi {o : BOp} (ha : SE K C ta a) (hb : SE K C tb b) (hc : SE K C tc c) : SS K C (tAugS ta tb tc (rGetL K) (ipM o) rSetL) (.agi a b o c) := by
  intro D σ H ρ m M p M' h sr e0 q
  simp only [ex] at e0
  obtain ⟨u, M1, e1, e0⟩ := bnd_ok e0
  obtain ⟨k, M2, e2, e0⟩ := bnd_ok e0
  obtain ⟨x, M3, e3, e0⟩ := bnd_ok e0
  obtain ⟨v, M4, e4, e0⟩ := bnd_ok e0
  obtain ⟨z, M5, e5, e0⟩ := bnd_ok e0
  obtain ⟨un, M6, e6, e0⟩ := bnd_ok e0
  obtain ⟨rfl, rfl⟩ := ok_inj e0
  refine ha σ H ρ m M u _ _ h sr e1 fun x1 H1 ρ1 h1 p1 r1 => ?_
  refine hb σ H1 ρ1 m M1 k _ _ h1 (sr.mo h p1) e2 fun y1 H2 ρ2 h2 p2 r2 => ?_
  have hs : ∃ n i us, u = .lst n ∧ k = .int i ∧ M2[n]? = some us ∧ us[i.toNat]? = some x ∧ M3 = M2 ∧ 0 ≤ i ∧ i < 1000000 := by
    unfold getop at e3
    split at e3 <;> first | (cases e3; done) | skip
    split at e3 <;> first | (cases e3; done) | skip
    rename_i us e7
    split at e3 <;> first | (cases e3; done) | skip
    rename_i hb
    split at e3 <;> first | (cases e3; done) | skip
    rename_i w e8
    obtain ⟨rfl, rfl⟩ := ok_inj e3
    exact ⟨_, _, us, rfl, rfl, e7, e8, rfl, hb.1, hb.2⟩
  obtain ⟨n, i, us, rfl, rfl, e7, e8, rfl, b0, b1⟩ := hs
  have r1' := r1.mo h1 p2
  obtain ⟨A1, vs, rfl, hn, hA, t⟩ := r1'.lstAt h2 e7
  cases r2
  obtain ⟨w, e9, rw⟩ := t.get e8
  refine ⟨A1, vs, i, w, rfl, rfl, b0, by omega, .of hA, e9, ?_⟩
  refine hc σ H2 ρ2 m M3 v _ _ h2 (sr.mo h (p1.trans p2)) e4 fun z1 H3 ρ3 h3 p3 r3 => ?_
  refine ip_ok h3 (rw.mo h2 p3) r3 e5 fun z2 H4 ρ4 h4 p4 r4 => ?_
  refine put_ok h4 (r1'.mo h2 (p3.trans p4)) (.int i) r4 e6 fun H5 ρ5 h5 p5 => ?_
  have p6 := p1.trans (p2.trans (p3.trans (p4.trans p5)))
  exact q σ H5 ρ5 h5 p6 (sr.mo h p6)
theorem ss_if {c : E} (hc : ST K C tt c) (ha : SB K C tA A) (hb : SB K C tB B) : SS K C (tIfS tt tA tB) (.iff c A B) := by
  intro D σ H ρ m M p M' h sr e q
  simp only [ex] at e
  obtain ⟨u, M1, e1, e⟩ := bnd_ok e
  rcases bl_cases (N := M1) e with ⟨rfl, e⟩ | ⟨rfl, e⟩
  · refine hc σ H ρ m M true M1 _ h sr e1 fun H1 ρ1 h1 p1 => ?_
    rw [if_pos rfl]
    exact ha D σ H1 ρ1 m M1 p M' h1 (sr.mo h p1) e (Ff.of q p1)
  · refine hc σ H ρ m M false M1 _ h sr e1 fun H1 ρ1 h1 p1 => ?_
    rw [if_neg (by decide)]
    exact hb D σ H1 ρ1 m M1 p M' h1 (sr.mo h p1) e (Ff.of q p1)
theorem ss_ret (ha : SE K C ta a) : SS K C (tRet ta) (.ret a) := by
  intro D σ H ρ m M p M' h sr e q
  simp only [ex] at e
  obtain ⟨u, M1, e1, e2⟩ := bnd_ok e
  obtain ⟨rfl, rfl⟩ := ok_inj e2
  exact ha σ H ρ m M u _ _ h sr e1 fun x H1 ρ1 h1 p1 r1 => q σ H1 ρ1 h1 p1 (sr.mo h p1) x r1
theorem ss_rtn : SS K C tRetN .rtn := by
  intro D σ H ρ m M p M' h sr e q
  simp only [ex] at e
  obtain ⟨rfl, rfl⟩ := ok_inj e
  exact q σ H ρ h .refl sr .non .non
theorem ss_brk : SS K C tBreak .brk := by
  intro D σ H ρ m M p M' h sr e q
  simp only [ex] at e
  obtain ⟨rfl, rfl⟩ := ok_inj e
  exact q σ H ρ h .refl sr
theorem ss_cnt : SS K C tCont .cnt := by
  intro D σ H ρ m M p M' h sr e q
  simp only [ex] at e
  obtain ⟨rfl, rfl⟩ := ok_inj e
  exact q σ H ρ h .refl sr
theorem ss_pas : SS K C tNext .pas := by
  intro D σ H ρ m M p M' h sr e q
  simp only [ex] at e
  obtain ⟨rfl, rfl⟩ := ok_inj e
  exact q σ H ρ h .refl sr
theorem ss_rai {k : Nat} {a : E} : SS K C tNever (.rai k a) := by
  intro D σ H ρ m M p M' h sr e q
  simp only [ex] at e
  obtain ⟨u, M1, e1, e2⟩ := bnd_ok e
  cases e2
/-- how a loop goes on behind a turn -/
theorem ff_turn {f : Fl × Sl} {M4 : MH} {N : L2.St → Hp → Prop} {H0 : Hp} {ρ0 : List Addr} (q : Ff K D ρ0 H0 p M') (p0 : Pst ρ0 H0 ρ H) {go : Sl → MH → Re (Fl × Sl)} (e : (match f.1 with
      | .nx => go f.2 M4
      | .cn => go f.2 M4
      | .bk => .ok (.nx, f.2) M4
      | .rt v => .ok (.rt v, f.2) M4) = .ok p M')
    (hN : ∀ σ' H' ρ', HR K ρ' M4 H' → Pst ρ H ρ' H' → SR K ρ' H' f.2 σ' → go f.2 M4 = .ok p M' → N σ' H') : Ff K { D with nx := N, ct := N, bk := D.nx } ρ H f M4 := by
  intro σ' H' ρ' h' p' s'
  obtain ⟨fl, m2⟩ := f
  cases fl with
  | nx => exact hN σ' H' ρ' h' p' s' e
  | cn => exact hN σ' H' ρ' h' p' s' e
  | bk =>
    obtain ⟨rfl, rfl⟩ := ok_inj e
    exact q σ' H' ρ' h' (p0.trans p') s'
  | rt v =>
    obtain ⟨rfl, rfl⟩ := ok_inj e
    exact q σ' H' ρ' h' (p0.trans p') s'
theorem ss_whl {c : E} (hc : ST K C tt c) (ha : SB K C tA A) : SS K C (tWhile tt tA) (.whl c A) := by
  intro D σ H ρ m M p M' h sr e q
  simp only [ex] at e
  refine ⟨fun k σ1 H1 => ∃ (ρ1 : List Addr) (m1 : Sl) (M1 : MH), HR K ρ1 M1 H1 ∧ Pst ρ H ρ1 H1 ∧ SR K ρ1 H1 m1 σ1 ∧ whlL (fun m M => ev C c m M) (fun m M => exs C A m M) k m1 M1 = .ok p M', ⟨C.most, ρ, m, M, h, .refl, sr, e⟩, ?_⟩
  rintro k σ1 H1 ⟨ρ1, m1, M1, h1, p1, s1, e1⟩
  cases k with
  | zero => cases e1
  | succ k =>
    unfold whlL at e1
    obtain ⟨u, M2, e2, e3⟩ := bnd_ok e1
    rcases bl_cases' (N := M2) e3 with ⟨rfl, e3⟩ | ⟨rfl, e3⟩
    · refine hc σ1 H1 ρ1 m1 M1 true M2 _ h1 s1 e2 fun H2 ρ2 h2 p2 => ?_
      rw [if_pos rfl]
      obtain ⟨f, M3, e4, e5⟩ := bnd_ok e3
      refine ⟨fun σ3 H3 => ∃ (ρ3 : List Addr) (m3 : Sl) (M3 : MH), HR K ρ3 M3 H3 ∧ Pst ρ H ρ3 H3 ∧ SR K ρ3 H3 m3 σ3 ∧ whlL (fun m M => ev C c m M) (fun m M => exs C A m M) k m3 M3 = .ok p M', fun σ' H' n => ⟨k, Nat.lt_succ_self k, n⟩, ?_⟩
      refine ha _ σ1 H2 ρ2 m1 M2 f M3 h2 (s1.mo h1 p2) e4 ?_
      refine ff_turn (go := fun m M => whlL (fun m M => ev C c m M) (fun m M => exs C A m M) k m M) q (p1.trans p2) e5 fun σ' H' ρ' h' p' s' e6 => ?_
      exact ⟨ρ', f.2, M3, h', (p1.trans p2).trans p', s', e6⟩
    · refine hc σ1 H1 ρ1 m1 M1 false M2 _ h1 s1 e2 fun H2 ρ2 h2 p2 => ?_
      rw [if_neg (by decide)]
      obtain ⟨rfl, rfl⟩ := ok_inj e3
      exact q σ1 H2 ρ2 h2 (p1.trans p2) (s1.mo h1 p2)
/-- a for's turn in the small machine -/
def forF (C : Cf) (t : Tg) (b : Ss) : MV → Sl → MH → Re (Fl × Sl) := fun x m M => match t.set x m with
  | some m' => exs C b m' M
  | none => .bad
theorem ss_for {wi : TI} {g : TG} {t : Tg} {it : MP.It} (hi : SI K C wi it) (hg : SG K g t) (ha : SB K C tA A) : SS K C (tFor wi g tA) (.for t it A) := by
  intro D σ H ρ m M p M' h sr e q
  simp only [ex] at e
  obtain ⟨s, M1, e1, e2⟩ := bnd_ok e
  have e2 : forL s (forF C t A) C.most 0 m M1 = .ok p M' := e2
  refine hi σ H ρ m M s M1 _ h sr e1 fun J H1 ρ1 h1 p1 sj => ?_
  have key : ∃ W : Nat → Nat → L2.St → Hp → Prop, W = fun i k σ2 H2 => ∃ (ρ2 : List Addr) (m2 : Sl) (M2 : MH), HR K ρ2 M2 H2 ∧ Pst ρ1 H1 ρ2 H2 ∧ SR K ρ2 H2 m2 σ2 ∧ forL s (forF C t A) k i m2 M2 = .ok p M' := ⟨_, rfl⟩
  obtain ⟨W, hW⟩ := key
  refine ⟨W, ⟨C.most, ?_⟩, ?_⟩
  · rw [hW]
    exact ⟨ρ1, m, M1, h1, .refl, sr.mo h p1, e2⟩
  · intro i k σ2 H2 hw
    rw [hW] at hw
    obtain ⟨ρ2, m2, M2, h2, p2, s2, e3⟩ := hw
    cases k with
    | zero => cases e3
    | succ k =>
      unfold forL at e3
      split at e3
      · rename_i hs
        obtain ⟨rfl, rfl⟩ := ok_inj e3
        exact .inl ⟨sj.stop ρ2 M2 H2 i h2 p2 hs, q σ2 H2 ρ2 h2 (p1.trans p2) s2⟩
      · split at e3
        · cases e3
        · rename_i x ex'
          obtain ⟨f, M3, e4, e5⟩ := bnd_ok e3
          obtain ⟨g1, g2⟩ := sj.go ρ2 M2 H2 i x h2 p2 ex'
          have ht : ∃ m3, t.set x m2 = some m3 ∧ exs C A m3 M2 = .ok f M3 := by
            unfold forF at e4
            split at e4
            · rename_i m3 e6
              exact ⟨m3, e6, e4⟩
            · cases e4
          obtain ⟨m3, e6, e7⟩ := ht
          refine .inr ⟨g1, W (i + 1) k, fun σ' H' n => ⟨k, Nat.lt_succ_self k, n⟩, fun x' H3 y => ?_⟩
          obtain ⟨h3, p3, rx⟩ := g2 x' H3 y
          refine hg ρ2 M2 H3 x x' σ2 m2 m3 _ h3 rx (s2.mo h2 p3) e6 fun σ3 s3 _ => ?_
          refine ha _ σ3 H3 ρ2 m3 M2 f M3 h3 s3 e7 ?_
          refine ff_turn (go := fun m M => forL s (forF C t A) k (i + 1) m M) q (p1.trans (p2.trans p3)) e5 fun σ' H' ρ' h' p' s' e8 => ?_
          rw [hW]
          exact ⟨ρ', f.2, M3, h', (p2.trans p3).trans p', s', e8⟩
end
end MP

set_option Elab.async false
set_option linter.all false
set_option maxRecDepth 100000
set_option autoImplicit false
set_option maxHeartbeats 1000000
/-! MP, part g: defs and their calls; what the top holds. -/
namespace MP
open PySem PySem.Spec PyProof.Rows L2

/-- a def keeps its promise wherever no guard is under way; nothing is raised out of it -/
structure FnG (P : Program) (w : World) (K : PySem.W.Frag) (mg : Str → Option Value) (base : Heap) (k : Nat) (f : Addr) (fd : FuncData) (ps : List Str) (sp : List V → Hp → VK → Prop) : Prop where
  len : ∀ vs H Q, sp vs H Q → vs.length = ps.length
  run : ∀ (A : Around) (outer : List Env) (s : Shared) (H : Hp) (args : Args) (us : List Value) (vs : List V) (Q : VK),
    Room k A → A.guards = some [] → Env0 P w K mg base A outer s H → BindsTo s fd args (ps.zip us) → Vals vs us → sp vs H Q →
    codeAny (model P w) A (.call (.ref f) args) (CR CX0 outer P w H s Q E0) s
section
variable {P : Program} {w : World} {K : PySem.W.Frag} {mg : Str → Option Value} {base : Heap} {k : Nat} {f : Addr} {fd : FuncData} {ps : List Str} {sp : List V → Hp → VK → Prop}
theorem FnG.mono {j : Nat} (F : FnG P w K mg base j f fd ps sp) (h : j ≤ k) : FnG P w K mg base k f fd ps sp :=
  ⟨F.len, fun A o s H args us vs Q r => F.run A o s H args us vs Q (r.mono h)⟩
/-- a def by its body -/
theorem fn_g {name qual : Str} {params : Arguments} {body : List Stmt} {scope : Scope} {dV kV doc pm cdv ct oc : Value} {an od : Option Addr} {osl : Array (Option Value)} {N : List Str}
    (lk : K.lookup f = some ⟨oc, od, .func (PySem.W.fnOf name qual params body scope dV kV doc pm an cdv ct), osl⟩) (hcd : PySem.W.codeIn K cdv qual = true) (S : FnScope N ps scope)
    (len : ∀ vs H Q, sp vs H Q → vs.length = ps.length)
    (hb : ∀ (A : Around) (outer : List Env) (s : Shared) (H : Hp) (vs : List V) (Q : VK), Room k (A.deeper (envOfC qual scope s.heap.objs.size f cdv)) → (A.deeper (envOfC qual scope s.heap.objs.size f cdv)).guards = some [] → sp vs H Q →
      ∃ t, PSs (cxOf CX0 P w K mg base N qual scope f cdv A outer s H E0).nox body t ∧ t { nx := fun _ H' => Q .non H', rt := Q } (start N vs) H) :
    FnG P w K mg base (k + 1) f (PySem.W.fnOf name qual params body scope dV kV doc pm an cdv ct) ps sp := by
  constructor
  · exact len
  · intro A outer s H args us vs Q room gd e0 bind vals hsp
    have hl := len _ _ _ hsp
    have hK : K.In s.heap := e0.mod.kin.keeps (fun b o e => (e0.bs b o e).1)
    have hlim : s.heap.NoLimit := e0.mod.nolimit.keeps (fun b o e => (e0.bs b o e).1)
    have kinds : ∀ y ∈ ps.zip us, scope.names.lookup y.1 = some .local ∨ (scope.names.lookup y.1 = some .cell ∧ ((cellsFrom (s.heap.objs.size + 1) scope.names []).lookup y.1).isSome = true) := by
      rintro ⟨n, v⟩ hy
      cases S.par n (List.of_mem_zip hy).1 with
      | inl q => exact .inl q
      | inr q => exact .inr ⟨q, PySem.W.cellsFrom_some _ _ _ (.inl q)⟩
    apply codeAny_call_function room.depth (hK _ _ lk) rfl S.co S.gen rfl (PySem.W.codeRec_of hK hcd)
    apply bind
    apply wpAny_newFunctionEnv_cells S.kind kinds
    intro env he s1 x
    subst he
    refine ⟨hlim.keeps x.toInCall.keep, codeAny_func ?_⟩
    obtain ⟨t, ht, hq⟩ := hb A outer s H vs Q (room.deeper _) gd hsp
    have I := inv_start (E := E0) (CX := CX0) S room.hd e0 hl vals x
    refine wpAny_mono (ht.nox.run [] s1 (start N vs) H _ I hq) (fun fl s' hs => ?_) (fun e s' hs => hs)
    cases fl with
    | ret u =>
      obtain ⟨v, σ', H', J, rv, q⟩ := hs
      exact ⟨v, H', J.os, J.bare, J.base, J.hok, rv, q⟩
    | next =>
      obtain ⟨σ', H', J, q⟩ := hs
      exact ⟨V.non, H', J.os, J.bare, J.base, J.hok, rfl, q⟩
    | brk => exact hs.elim fun _ z => z.elim fun _ z => z.2.elim
    | cont => exact hs.elim fun _ z => z.elim fun _ z => z.2.elim
end

/-! ### calls -/
/-- f(.., k = ..): n values by place, m by keywords, arranged by g -/
def tCalG (n m : Nat) (sp : List V → Hp → VK → Prop) (g : List V → List V → List V) (t tk : TA) : TE := fun σ H Q => t σ H fun vs H1 => tk σ H1 fun zs H2 => vs.length = n ∧ zs.length = m ∧ sp (g vs zs) H2 Q
section
variable {X : Cx}
theorem kw_names (pos : Pos) (env : Env) : ∀ kws : List Keyword, kws.all (·.arg.isSome) = true →
    (backToKw pos (keywordEach kws env)).all (·.1.isSome) = true ∧ (backToKw pos (keywordEach kws env)).filterMap (·.1) = kws.filterMap (·.arg) ∧ (backToKw pos (keywordEach kws env)).any (·.1.isNone) = false
  | [], _ => ⟨rfl, rfl, rfl⟩
  | ⟨nm, e, p⟩ :: kws, h => by
    rw [List.all_cons, Bool.and_eq_true] at h
    obtain ⟨h1, h2⟩ := h
    obtain ⟨a, b, c⟩ := kw_names pos env kws h2
    have e1 : backToKw pos (keywordEach (⟨nm, e, p⟩ :: kws) env) = (nm, (do let v ← eval e env; standAt pos; pure v)) :: backToKw pos (keywordEach kws env) := rfl
    cases nm with
    | none => cases h1
    | some z =>
      rw [e1]
      refine ⟨?_, ?_, ?_⟩
      · rw [List.all_cons, a]
        rfl
      · rw [List.filterMap_cons, b, List.filterMap_cons]
      · rw [List.any_cons, c]
        rfl
/-- an expression that is no star -/
def noStar : Expr → Bool
  | .Starred .. => false
  | _ => true
theorem star_cons {e : Expr} {es : List Expr} {env : Env} (h : noStar e = true) : starEach (e :: es) env = (false, eval e env) :: starEach es env := by
  cases e <;> first
    | rfl
    | cases h
theorem star_any (pos : Pos) (env : Env) : ∀ es : List Expr, es.all noStar = true → (backTo pos (starEach es env)).any (·.1) = false
  | [], _ => rfl
  | e :: es, h => by
    rw [List.all_cons, Bool.and_eq_true] at h
    rw [star_cons h.1]
    exact star_any pos env es h.2
theorem star_all (pos : Pos) (env : Env) : ∀ es : List Expr, es.all noStar = true → (backTo pos (starEach es env)).all (fun x => !x.1) = true
  | [], _ => rfl
  | e :: es, h => by
    rw [List.all_cons, Bool.and_eq_true] at h
    rw [star_cons h.1]
    exact star_all pos env es h.2
theorem run_g {k n : Nat} {f : Addr} {fd : FuncData} {ps ks : List Str} {sp : List V → Hp → VK → Prop} {g : List V → List V → List V} {gU : List Value → List Value → List Value} {pins : List (Addr × Obj)} {σ : L2.St} {H : Hp} {s : Shared} {Q : VK} {us ws : List Value} {vs zs : List V}
    (F : FnG X.prog X.w X.K X.mg X.base k f fd ps sp) (hr : Room k X.A) (hg : X.A.guards = some []) (hx : X.xe = fun _ _ => False)
    (hb : ∀ (s : Shared) (us ws : List Value), X.K.In s.heap → us.length = n → ws.length = ks.length → BindsTo s fd ⟨us, ks.zip ws⟩ (ps.zip (gU us ws)))
    (hrel : ∀ {vs : List V} {us : List Value} {zs : List V} {ws : List Value}, Vals vs us → Vals zs ws → Vals (g vs zs) (gU us ws))
    (I : Inv X pins σ H s) (r : Vals vs us) (rz : Vals zs ws) (l1 : vs.length = n) (l2 : zs.length = ks.length) (h : sp (g vs zs) H Q) : wpAny (model X.prog X.w) X.A (call (.ref f) us (ks.zip ws)) (EP X pins σ Q) X.xe s := by
  have r2 := hrel r rz
  have b2 := hb s us ws I.kIn (r.length.symm.trans l1) (rz.length.symm.trans l2)
  refine wpAny_call (codeAny_mono (F.run X.A X.stack s H _ _ _ Q hr hg I.env0 b2 r2 h) fun res s' hq => ?_)
  cases res with
  | error e => exact hq.elim
  | ok fl =>
    cases fl with
    | ret u => exact I.after hq
    | next => exact hq.elim
    | brk => exact hq.elim
    | cont => exact hq.elim
theorem pe_calG {k n : Nat} {f : Addr} {fd : FuncData} {ps ks : List Str} {sp : List V → Hp → VK → Prop} {g : List V → List V → List V} {gU : List Value → List Value → List Value} {x : Str} {p pos : Pos} {e : Expr} {es : List Expr} {kws : List Keyword} {t tk : TA}
    (F : FnG X.prog X.w X.K X.mg X.base k f fd ps sp) (hr : Room k X.A) (hg : X.A.guards = some []) (hx : X.xe = fun _ _ => False)
    (hgl : Gl X x) (hm : X.mg x = some (.ref f)) (hk : PySem.W.keepIn X.K (.ref f) = true) (hdb : (x == ("__debug__" : Str)) = false)
    (hb : ∀ (s : Shared) (us ws : List Value), X.K.In s.heap → us.length = n → ws.length = ks.length → BindsTo s fd ⟨us, ks.zip ws⟩ (ps.zip (gU us ws)))
    (hrel : ∀ {vs : List V} {us : List Value} {zs : List V} {ws : List Value}, Vals vs us → Vals zs ws → Vals (g vs zs) (gU us ws))
    (ha : PA X (e :: es) t) (hkw : PK X kws tk) (hst : (e :: es).all noStar = true) (hkn : kws.all (·.arg.isSome) = true) (hks : kws.filterMap (·.arg) = ks) :
    PE X (.Call (.Name x p) (e :: es) kws pos) (tCalG n ks.length sp g t tk) := by
  refine ⟨fun pins s σ H Q I h => ?_⟩
  obtain ⟨n1, n2, n3⟩ := kw_names pos X.env kws hkn
  apply wpAny_Call_Name_kw
  apply ld_glob I hgl hm _ hdb
  have hst' := hst
  rw [List.all_cons, Bool.and_eq_true] at hst'
  refine PySem.W.callWith_KW (h₀ := X.base) I.ok.mod.kin hk n1 (thn (ha.run pos pins s σ H _ I h) fun us s1 hu => ?_) ?_ (star_cons hst'.1)
  · obtain ⟨vs, H1, I1, r, q⟩ := hu
    refine thn (hkw.run pos pins s1 σ H1 _ I1 q) fun ws s2 hw => ?_
    obtain ⟨zs, H2, I2, rz, l1, l2, q2⟩ := hw
    refine ⟨I2.kIn, ?_⟩
    rw [n2, hks]
    exact run_g F hr hg hx hb hrel I2 r rz l1 l2 q2
  · rw [n3, star_any pos X.env _ hst]
    rfl
theorem pe_calG0 {k : Nat} {f : Addr} {fd : FuncData} {ps ks : List Str} {sp : List V → Hp → VK → Prop} {g : List V → List V → List V} {gU : List Value → List Value → List Value} {x : Str} {p pos : Pos} {kws : List Keyword} {tk : TA}
    (F : FnG X.prog X.w X.K X.mg X.base k f fd ps sp) (hr : Room k X.A) (hg : X.A.guards = some []) (hx : X.xe = fun _ _ => False)
    (hgl : Gl X x) (hm : X.mg x = some (.ref f)) (hk : PySem.W.keepIn X.K (.ref f) = true) (hdb : (x == ("__debug__" : Str)) = false)
    (hb : ∀ (s : Shared) (us ws : List Value), X.K.In s.heap → us.length = 0 → ws.length = ks.length → BindsTo s fd ⟨us, ks.zip ws⟩ (ps.zip (gU us ws)))
    (hrel : ∀ {vs : List V} {us : List Value} {zs : List V} {ws : List Value}, Vals vs us → Vals zs ws → Vals (g vs zs) (gU us ws))
    (hkw : PK X kws tk) (hkn : kws.all (·.arg.isSome) = true) (hks : kws.filterMap (·.arg) = ks) :
    PE X (.Call (.Name x p) [] kws pos) (tCalG 0 ks.length sp g tNil tk) := by
  refine ⟨fun pins s σ H Q I h => ?_⟩
  obtain ⟨n1, n2, n3⟩ := kw_names pos X.env kws hkn
  apply wpAny_Call_Name_kw
  apply ld_glob I hgl hm _ hdb
  refine PySem.W.callWith_KW0 (h₀ := X.base) I.ok.mod.kin hk n1 (thn (hkw.run pos pins s σ H _ I h) fun ws s2 hw => ?_) ?_
  · obtain ⟨zs, H2, I2, rz, l1, l2, q2⟩ := hw
    refine ⟨I2.kIn, ?_⟩
    rw [n2, hks]
    exact run_g F hr hg hx hb hrel I2 .nil rz l1 l2 q2
  · rw [n3]
    rfl
end

/-! ### what the top holds -/
/-- everything about the program as it stands behind its top: the defs of pg lie at addr, as fd -/
structure Gi where
  P : Program
  w : World
  K : PySem.W.Frag
  mg : Str → Option Value
  base : Heap
  pg : Pg
  addr : Nat → Addr
  fd : Nat → FuncData
def Fd.ps (d : Fd) : List Str := d.N.take d.np
/-- a way to call d: n values by place, keywords ks, arranged as ar says -/
def Shp (K : PySem.W.Frag) (fd : FuncData) (ps : List Str) (n : Nat) (ks : List Str) (ar : List Ar) : Prop := ∃ (gU : List Value → List Value → List Value) (g : List V → List V → List V),
  (∀ (s : Shared) (us ws : List Value), K.In s.heap → us.length = n → ws.length = ks.length → BindsTo s fd ⟨us, ks.zip ws⟩ (ps.zip (gU us ws))) ∧
  (∀ {vs : List V} {us : List Value} {zs : List V} {ws : List Value}, Vals vs us → Vals zs ws → Vals (g vs zs) (gU us ws)) ∧
  ∀ (ρ : List Addr) (H : Hp) (a b args : List MV) (vs zs : List V), VRs K ρ H a vs → VRs K ρ H b zs → ar.mapM (argAt (a ++ b)) = some args → VRs K ρ H args (g vs zs)
/-- the built-in names that the machine knows -/
def bltNames : List Str := ["len", "abs", "int", "str", "repr", "all", "sum", "list", "tuple", "max", "min", "isinstance", "range", "zip", "enumerate", "bool", "dict", "set", "sorted"]
structure Lk (G : Gi) : Prop where
  blt : ∀ b, b ∈ bltNames → G.mg b = none
  fn : ∀ (i : Nat) (d : Fd), G.pg.fs[i]? = some d → G.mg d.name = some (.ref (G.addr i)) ∧ PySem.W.keepIn G.K (.ref (G.addr i)) = true
  shp : ∀ (i : Nat) (d : Fd) (sh n : Nat) (ks : List Str) (ar : List Ar), G.pg.fs[i]? = some d → d.shapes[sh]? = some (n, ks, ar) → Shp G.K (G.fd i) d.ps n ks ar
  glo : ∀ (k : Nat) (nm : Str) (v : MV), G.pg.cs[k]? = some (nm, v) → ∃ (x : V) (u : Value), G.mg nm = some u ∧ RelV x u ∧ ∀ ρ H, VR G.K ρ H v x
/-- the small machine with so many calls left -/
def cfg (pg : Pg) (n : Nat) : Cf := { call := run pg n, glo := fun k => (pg.cs[k]?).map (·.2), arr := fun g sh => (pg.fs[g]?).bind fun e => (e.shapes[sh]?).map (·.2.2), most := pg.most }
theorem run_succ (P : Pg) (n f : Nat) (args : List MV) (M : MH) : run P (n + 1) f args M = match P.fs[f]? with
    | none => .bad
    | some d => if args.length = d.np then
        (exs (cfg P n) d.body (args.map some ++ List.replicate (d.N.length - d.np) none) M).bnd fun p M1 => match p.1 with
          | .nx => .ok .non M1
          | .rt v => .ok v M1
          | _ => .bad
      else .bad := rfl
/-- the promise of the def i with n calls left -/
def spG (G : Gi) (n i : Nat) : List V → Hp → VK → Prop := fun vs H Q => ∃ (ρ : List Addr) (M : MH) (args : List MV) (r : MV) (M' : MH), HR G.K ρ M H ∧ VRs G.K ρ H args vs ∧ run G.pg n i args M = .ok r M' ∧ KQ G.K ρ H r M' Q
theorem spG_len {G : Gi} {n i : Nat} {d : Fd} (hd : G.pg.fs[i]? = some d) (hp : d.np ≤ d.N.length) {vs : List V} {H : Hp} {Q : VK} (h : spG G n i vs H Q) : vs.length = d.ps.length := by
  obtain ⟨ρ, M, args, r, M', h1, h2, h3, _⟩ := h
  cases n with
  | zero => cases h3
  | succ n =>
    rw [run_succ, hd] at h3
    simp only at h3
    split at h3
    · rename_i e
      rw [← h2.length, e]
      unfold Fd.ps
      rw [List.length_take]
      omega
    · cases h3
/-- the defs as they may be called with n calls left -/
def Fns (G : Gi) (n : Nat) : Prop := ∀ (i : Nat) (d : Fd), G.pg.fs[i]? = some d → FnG G.P G.w G.K G.mg G.base n (G.addr i) (G.fd i) d.ps (spG G n i)
/-- a call in the small machine -/
theorem se_cal {G : Gi} {n i sh np : Nat} {d : Fd} {ks' : List Str} {ar : List Ar} {es ks : Es} {t tk : TA} {g : List V → List V → List V} (hd : G.pg.fs[i]? = some d) (hs : d.shapes[sh]? = some (np, ks', ar)) (ha : SA G.K (cfg G.pg n) t es) (hk : SA G.K (cfg G.pg n) tk ks)
    (h1 : es.len = np) (h2 : ks.len = ks'.length)
    (hg : ∀ (ρ : List Addr) (H : Hp) (a b args : List MV) (vs zs : List V), VRs G.K ρ H a vs → VRs G.K ρ H b zs → ar.mapM (argAt (a ++ b)) = some args → VRs G.K ρ H args (g vs zs)) :
    SE G.K (cfg G.pg n) (tCalG np ks'.length (spG G n i) g t tk) (.cal i sh es ks) := by
  intro σ H ρ m M v M' Q h s e q
  simp only [ev] at e
  obtain ⟨a, M1, e1, e⟩ := bnd_ok e
  obtain ⟨b, M2, e2, e⟩ := bnd_ok e
  have har : (cfg G.pg n).arr i sh = some ar := by
    show ((G.pg.fs[i]?).bind fun e => (e.shapes[sh]?).map (·.2.2)) = some ar
    rw [hd]
    show (d.shapes[sh]?).map (·.2.2) = some ar
    rw [hs]
    rfl
  rw [har] at e
  simp only at e
  split at e
  · rename_i args e3
    refine ha σ H ρ m M a M1 _ h s e1 fun vs H1 ρ1 h1' p1 r1 => ?_
    refine hk σ H1 ρ1 m M1 b M2 _ h1' (s.mo h p1) e2 fun zs H2 ρ2 h2' p2 r2 => ⟨?_, ?_, ?_⟩
    · rw [← r1.length, evs_len es _ _ _ _ e1]
      exact h1
    · rw [← r2.length, evs_len ks _ _ _ _ e2]
      exact h2
    · exact ⟨ρ2, M2, args, v, M', h2', hg _ _ _ _ _ _ _ (r1.mo h1' p2) r2 e3, e, KQ.of q (p1.trans p2)⟩
  · cases e
end MP

set_option Elab.async false
set_option linter.all false
set_option maxRecDepth 100000
set_option autoImplicit false
set_option maxHeartbeats 2000000
/-! MP, part h: a text is looked at by a program: does it say the same as a small expression? If so, the small machine tells what it does. -/
namespace MP
open PySem PySem.Spec PyProof.Rows L2

/-- a body's place: its names, its scope, room for n calls, no exception passes -/
structure Gd (G : Gi) (n : Nat) (N : List Str) (sc : Scope) (X : Cx) : Prop where
  nd : N.Nodup
  eP : X.prog = G.P
  eW : X.w = G.w
  eK : X.K = G.K
  eM : X.mg = G.mg
  eB : X.base = G.base
  eN : X.N = N
  eS : X.env.scope = sc
  calm : X.calm = true
  room : Room n X.A
  gd : X.A.guards = some []
  xe : X.xe = fun _ _ => False

/-! ### names -/
def visB (sc : Scope) (x : Str) : Bool := match sc.names.lookup x with
  | some .local => true
  | some .cell => true
  | some .free => true
  | _ => false
def glB (sc : Scope) (x : Str) : Bool := match sc.names.lookup x with
  | some .globalImplicit => true
  | _ => false
def locB (sc : Scope) (x : Str) : Bool := match sc.names.lookup x with
  | some .local => true
  | some .cell => true
  | _ => false
theorem visB_ok {sc : Scope} {x : Str} (h : visB sc x = true) : Vis sc x := by
  unfold visB at h
  split at h
  · rename_i e; exact .inl e
  · rename_i e; exact .inr (.inl e)
  · rename_i e; exact .inr (.inr e)
  · cases h
theorem locB_ok {sc : Scope} {x : Str} (h : locB sc x = true) : sc.names.lookup x = some .local ∨ sc.names.lookup x = some .cell := by
  unfold locB at h
  split at h
  · rename_i e; exact .inl e
  · rename_i e; exact .inr e
  · cases h
theorem glB_ok {sc : Scope} {x : Str} (h : glB sc x = true) : sc.names.lookup x = some .globalImplicit := by
  unfold glB at h
  split at h
  · rename_i e; exact e
  · cases h
/-- a name that no rule of its own speaks of -/
def plainN (x : Str) : Bool := !(x == ("__debug__" : Str)) && !(x == ("__classdict__" : Str))
theorem plainN_ok {x : Str} (h : plainN x = true) : (x == ("__debug__" : Str)) = false ∧ (x == ("__classdict__" : Str)) = false := by
  unfold plainN at h
  rw [Bool.and_eq_true, Bool.not_eq_true', Bool.not_eq_true'] at h
  exact h

/-! ### operators -/
def bopOf : BOp → Operator
  | .add => .Add
  | .sub => .Sub
  | .mul => .Mult
  | .fdv => .FloorDiv
  | .mod => .Mod
  | .pow => .Pow
def binR : BOp → R2
  | .add => rAddM
  | .sub => rI0 fun i j => .int (i - j)
  | .mul => rMulM
  | .fdv => rI (fun _ j => j ≠ 0 ∧ j.natAbs.log2 < 9000) fun i j => .int (i.fdiv j)
  | .mod => rI (fun _ j => j ≠ 0) fun i j => .int (i.fmod j)
  | .pow => rI CPow fun i j => .int (i ^ j.toNat)
theorem bin_op {X : Cx} (o : BOp) : OpR X (binaryOp (bopOf o)) (binR o) := by
  cases o
  · exact op_addM
  · exact op_sub
  · exact op_mulM
  · exact op_fdivZ
  · exact op_modN
  · exact op_pow
theorem ro_bin {K : PySem.W.Frag} (o : BOp) : RO K (binR o) (binop o) := by
  cases o
  · exact ro_add
  · exact ro_sub
  · exact ro_mul
  · exact ro_fdv
  · exact ro_mod
  · exact ro_pow
def copOf : COp → CmpOp
  | .eq => .Eq
  | .ne => .NotEq
  | .lt => .Lt
  | .le => .LtE
  | .gt => .Gt
  | .ge => .GtE
  | .is => .Is
  | .isn => .IsNot
  | .inn => .In
  | .nin => .NotIn
def cmpR (K : PySem.W.Frag) : COp → R2
  | .eq => rEqM K
  | .ne => rNeM K
  | .lt => rI0 fun i j => .bl (decide (i < j))
  | .le => rI0 fun i j => .bl (decide (i ≤ j))
  | .gt => rI0 fun i j => .bl (decide (j < i))
  | .ge => rI0 fun i j => .bl (decide (j ≤ i))
  | .is => rIsM
  | .isn => rIsnM
  | .inn => rInD K
  | .nin => rNotInD K
theorem cmp_op {X : Cx} (hu : X.A.units + 65 < cLine) (o : COp) : OpR X (compareOp (copOf o)) (cmpR X.K o) := by
  cases o
  · exact op_eqM (by omega)
  · exact op_neM (by omega)
  · exact op_lt
  · exact op_le
  · exact op_gt
  · exact op_ge
  · exact op_isM
  · exact op_isnM
  · exact op_inD hu
  · exact op_notInD hu
theorem ro_cmp {K : PySem.W.Frag} (o : COp) : RO K (cmpR K o) (cmpop o) := by
  cases o
  · exact ro_eq
  · exact ro_ne
  · exact ro_lt
  · exact ro_le
  · exact ro_gt
  · exact ro_ge
  · exact ro_is
  · exact ro_isn
  · exact ro_in
  · exact ro_nin
def noSet : Expr → Bool
  | .Set .. => false
  | _ => true
theorem no_mark {op : CmpOp} {e : Expr} (h : noSet e = true) : behindInMarks op e = false := by
  cases e <;> first
    | rfl
    | cases h

/-! ### built-ins -/
def btName : Bt → Str
  | .len => "len"
  | .abs => "abs"
  | .int => "int"
  | .str => "str"
  | .repr => "repr"
  | .all => "all"
  | .sum => "sum"
  | .list => "list"
  | .tuple => "tuple"
  | .max => "max"
  | .min => "min"
def btKnown : Bt → Bool
  | .len => true
  | .abs => true
  | .int => true
  | .str => true
  | .repr => true
  | .all => true
  | .sum => true
  | .list => true
  | .tuple => true
  | _ => false
def btR (K : PySem.W.Frag) : Bt → List V → Hp → VK → Prop
  | .len => rLenM K
  | .abs => fun xs H Q => ∃ i, xs = [.int i] ∧ Q (.int (if i < 0 then -i else i)) H
  | .int => fun xs H Q => (∃ i, xs = [.int i] ∧ Q (.int i) H) ∨ ∃ k, xs = [.bl k] ∧ Q (.int (if k then 1 else 0)) H
  | .str => fun xs H Q => ∃ i, xs = [.int i] ∧ i.natAbs.log2 < 1920 ∧ Q (.str (toString i)) H
  | .repr => rReprM K
  | .all => rAll K
  | .sum => fun xs H Q => rSum K xs H Q ∨ rSumL K xs H Q
  | .list => rListM K
  | .tuple => rTupleM K
  | _ => fun _ _ _ => False
theorem rc_bt {K : PySem.W.Frag} (b : Bt) (h : btKnown b = true) : RC1 K (btR K b) (btop b) := by
  cases b <;> first
    | exact rc_len
    | exact rc_abs
    | exact rc_int
    | exact rc_str
    | exact rc_repr
    | exact rc_all
    | exact rc_sum
    | exact rc_list
    | exact rc_tuple
    | cases h
theorem bt_in (b : Bt) : btName b ∈ bltNames := by cases b <;> decide +kernel
theorem pe_bt {X : Cx} {k : Nat} {b : Bt} {e : Expr} {es : List Expr} {t : TA} {p pos : Pos} (hk : btKnown b = true) (hr : Room k X.A) (hgd : X.A.guards = some []) (hc : X.calm = true) (hg : Gl X (btName b)) (hm : X.mg (btName b) = none) (ha : PA X (e :: es) t)
    (hst : (e :: es).all noStar = true) : PE X (.Call (.Name (btName b) p) (e :: es) [] pos) (tCB (btR X.K b) t) := by
  have h1 := hst
  rw [List.all_cons, Bool.and_eq_true] at h1
  have s1 : starEach (e :: es) X.env = (false, eval e X.env) :: starEach es X.env := star_cons h1.1
  have s2 := star_any pos X.env es h1.2
  cases b <;> first
    | (cases hk; done)
    | skip
  · exact pe_callB call_len hg hm (by decide +kernel) ha (by decide) (by decide) s1 s2
  · exact pe_callB call_abs hg hm (by decide +kernel) ha (by decide) (by decide) s1 s2
  · exact pe_callTy call_int1 hg hm (by decide +kernel) ha (by decide) (by decide) s1 s2
  · exact pe_callTy call_str_int hg hm (by decide +kernel) ha (by decide) (by decide) s1 s2
  · exact pe_callB (call_reprM hgd hr) hg hm (by decide +kernel) ha (by decide) (by decide) s1 s2
  · exact pe_callB (cr_all hc) hg hm (by decide +kernel) ha (by decide) (by decide) s1 s2
  · exact pe_callB (fun pins s σ H xs us Q I r h => h.elim (fun h => cr_sum hc pins s σ H xs us Q I r h) (fun h => call_sumLR hc pins s σ H xs us Q I r h)) hg hm (by decide +kernel) ha (by decide) (by decide) s1 s2
  · exact pe_callTy call_list_of hg hm (by decide +kernel) ha (by decide) (by decide) s1 s2
  · exact pe_callTy call_tuple_of hg hm (by decide +kernel) ha (by decide) (by decide) s1 s2
def tyName : Ty → Str
  | .int => "int"
  | .bool => "bool"
  | .str => "str"
  | .list => "list"
  | .tuple => "tuple"
  | .dict => "dict"
theorem ty_in (t : Ty) : tyName t ∈ bltNames := by cases t <;> decide +kernel
theorem pe_ty {X : Cx} {t : Ty} {p : Pos} (hg : Gl X (tyName t)) (hm : X.mg (tyName t) = none) : PE X (.Name (tyName t) p) (tC (.ty (tyS t))) := by
  cases t
  · exact pe_bltn hg hm (u := .type "int") (by decide +kernel) rfl (by decide) (by decide)
  · exact pe_bltn hg hm (u := .type "bool") (by decide +kernel) rfl (by decide) (by decide)
  · exact pe_bltn hg hm (u := .type "str") (by decide +kernel) rfl (by decide) (by decide)
  · exact pe_bltn hg hm (u := .type "list") (by decide +kernel) rfl (by decide) (by decide)
  · exact pe_bltn hg hm (u := .type "tuple") (by decide +kernel) rfl (by decide) (by decide)
  · exact pe_bltn hg hm (u := .type "dict") (by decide +kernel) rfl (by decide) (by decide)
/-- names of types, as an isinstance's tuple writes them -/
def tysB (sc : Scope) : List Ty → List Expr → Bool
  | [], [] => true
  | t :: ts, .Name x _ :: es => decide (x = tyName t) && glB sc x && tysB sc ts es
  | _, _ => false
theorem pa_tys {X : Cx} {sc : Scope} (hsc : X.env.scope = sc) (hm : ∀ b, b ∈ bltNames → X.mg b = none) : ∀ (ts : List Ty) (es : List Expr), tysB sc ts es = true → PA X es (tTys ts)
  | [], [], _ => pa_nil
  | [], _ :: _, h => by cases h
  | t :: ts, [], h => by cases h
  | t :: ts, e :: es, h => by
    cases e <;> try (cases h; done)
    rename_i x p
    simp only [tysB, Bool.and_eq_true, decide_eq_true_eq] at h
    obtain ⟨⟨rfl, h2⟩, h3⟩ := h
    refine pa_cons (pe_ty ?_ (hm _ (ty_in t))) (pa_tys hsc hm ts es h3)
    show X.env.scope.names.lookup _ = _
    rw [hsc]
    exact glB_ok h2
def mtName : Mt → Str
  | .append => "append"
  | .pop => "pop"
  | .insert => "insert"
  | .extend => "extend"
def mtR : Mt → V → List V → Hp → VK → Prop
  | .append => rAppend
  | .pop => rPopM
  | .insert => rInsertM
  | .extend => rExtend
theorem rm_mt {K : PySem.W.Frag} (b : Mt) : RM1 K (mtR b) (mtop b) := by
  cases b
  · exact rm_append
  · exact rm_pop
  · exact rm_insert
  · exact rm_extend
theorem mt_list (b : Mt) (u : MV) (us : List MV) (M : MH) (v : MV) (M' : MH) (e : mtop b u us M = .ok v M') : ∃ n, u = .lst n := by
  unfold mtop at e
  split at e <;> first
    | exact ⟨_, rfl⟩
    | cases e
def noCall : Expr → Bool
  | .Call .. => false
  | _ => true
theorem base_ok {o : Expr} {nm : Str} {env : Env} {whole : Sem Value} (h : noCall o = true) : attributeBase o nm env whole = whole := by
  cases o <;> first
    | rfl
    | cases h
theorem pe_mt {X : Cx} {b : Mt} {o e : Expr} {es : List Expr} {to : TE} {t : TA} {apos cpos : Pos} (ho : PE X o to) (ha : PA X (e :: es) t) (hn : noCall o = true) (hst : (e :: es).all noStar = true) (hl : es.length < 20) (hline : (apos.endLine == cpos.line) = true) :
    PE X (.Call (.Attribute o (mtName b) apos) (e :: es) [] cpos) (tBM X.K "list" (mtR b) to t) := by
  have h1 := hst
  rw [List.all_cons, Bool.and_eq_true] at h1
  have s1 : starEach (e :: es) X.env = (false, eval e X.env) :: starEach es X.env := star_cons h1.1
  have s2 := star_any cpos X.env es h1.2
  have s3 := star_all cpos X.env (e :: es) hst
  have hfew : ((backTo cpos (starEach (e :: es) X.env)).all (fun x => !x.1) && (backToKw cpos (keywordEach [] X.env)).all (fun x => x.1.isSome)
      && decide ((e :: es).length + ([] : List Keyword).length + (if ([] : List Keyword).isEmpty then 0 else 1) < 30)) = true := by
    rw [s3]
    show (true && true && decide ((e :: es).length + 0 + 0 < 30)) = true
    rw [List.length_cons, decide_eq_true (by omega)]
    rfl
  cases b
  · exact pe_bm PySem.F.plainAttrs_list PySem.F.slot_list_append PySem.F.type_list_append mt_append ho ha (base_ok hn) hfew hline s1 s2
  · exact pe_bm PySem.F.plainAttrs_list PySem.F.slot_list_pop PySem.F.type_list_pop mt_popM ho ha (base_ok hn) hfew hline s1 s2
  · exact pe_bm PySem.F.plainAttrs_list PySem.F.slot_list_insert PySem.F.type_list_insert mt_insert ho ha (base_ok hn) hfew hline s1 s2
  · exact pe_bm PySem.F.plainAttrs_list PySem.F.slot_list_extend PySem.F.type_list_extend mt_extend ho ha (base_ok hn) hfew hline s1 s2
theorem pe_mt0 {X : Cx} {b : Mt} {o : Expr} {to : TE} {apos cpos : Pos} (ho : PE X o to) (hn : noCall o = true) (hline : (apos.endLine == cpos.line) = true) (hb : b = .pop) :
    PE X (.Call (.Attribute o (mtName b) apos) [] [] cpos) (tBM X.K "list" (mtR b) to tNil) := by
  subst hb
  exact pe_bm0 PySem.F.plainAttrs_list PySem.F.slot_list_pop PySem.F.type_list_pop mt_popM ho (base_ok hn) hline

/-! ### targets -/
def tgsB (N : List Str) (sc : Scope) : List Nat → List Expr → Bool
  | [], [] => true
  | i :: is, .Name y _ :: es => decide (N[i]? = some y) && locB sc y && tgsB N sc is es
  | _, _ => false
def tgB (N : List Str) (sc : Scope) : Tg → Expr → Bool
  | .nm i, .Name y _ => decide (N[i]? = some y) && locB sc y
  | .tp is, .Tuple es _ _ => tgsB N sc is es
  | _, _ => false
def tgG (K : PySem.W.Frag) : Tg → TG
  | .nm i => gName i
  | .tp is => gTup K is.length (gNames is)
theorem sg_tg {K : PySem.W.Frag} (t : Tg) : SG K (tgG K t) t := by
  cases t
  · exact sg_nm
  · exact sg_tp
theorem pg_tgs {X : Cx} {N : List Str} {sc : Scope} (hN : X.N = N) (nd : N.Nodup) (hl : ∀ y, locB sc y = true → Loc X.env.scope y ∧ (X.fn y = true ∨ X.env.scope.names.lookup y = some .local)) :
    ∀ (is : List Nat) (es : List Expr), tgsB N sc is es = true → PGs X es (gNames is) ∧ (assignEach es X.env).length = is.length ∧ (assignEach es X.env).findIdx? (·.1) = none
  | [], [], _ => ⟨pgs_nil, rfl, rfl⟩
  | [], _ :: _, h => by cases h
  | i :: is, [], h => by cases h
  | i :: is, e :: es, h => by
    cases e <;> try (cases h; done)
    rename_i y p
    simp only [tgsB, Bool.and_eq_true, decide_eq_true_eq] at h
    obtain ⟨⟨h1, h2⟩, h3⟩ := h
    obtain ⟨a, b, c⟩ := pg_tgs hN nd hl is es h3
    obtain ⟨l1, l2⟩ := hl y h2
    subst hN
    refine ⟨pgs_cons (pg_name nd h1 l1 l2) a rfl, ?_, ?_⟩
    · show (assignEach es X.env).length + 1 = _
      rw [b]
      rfl
    · show ((false, assign (Expr.Name y p) X.env) :: assignEach es X.env).findIdx? (·.1) = none
      rw [List.findIdx?_cons, c]
      rfl
theorem pg_tg {X : Cx} {N : List Str} {sc : Scope} (hN : X.N = N) (nd : N.Nodup) (hc : X.calm = true) (hl : ∀ y, locB sc y = true → Loc X.env.scope y ∧ (X.fn y = true ∨ X.env.scope.names.lookup y = some .local)) {t : Tg} {e : Expr} (h : tgB N sc t e = true) : PG X e (tgG X.K t) := by
  cases t with
  | nm i =>
    cases e <;> try (cases h; done)
    rename_i y p
    simp only [tgB, Bool.and_eq_true, decide_eq_true_eq] at h
    obtain ⟨l1, l2⟩ := hl y h.2
    subst hN
    exact pg_name nd h.1 l1 l2
  | tp is =>
    cases e <;> try (cases h; done)
    rename_i es k p
    obtain ⟨a, b, c⟩ := pg_tgs hN nd hl is es h
    exact pg_tup hc a b c
end MP

set_option Elab.async false
set_option linter.all false
set_option maxRecDepth 100000
set_option autoImplicit false
set_option maxHeartbeats 1000000
/-! MP: len(set(..)) of tuples of ints. -/
namespace MP
open PySem PySem.Spec PyProof.Rows L2
theorem mem_ddup {x : List Int} : ∀ l : List (List Int), x ∈ ddup l ↔ x ∈ l
  | [] => Iff.rfl
  | y :: l => by
    unfold ddup
    split
    · rename_i h
      rw [mem_ddup l, List.mem_cons]
      constructor
      · exact .inr
      · rintro (rfl | h')
        · exact (mem_ddup l).mp h
        · exact h'
    · rw [List.mem_cons, List.mem_cons, mem_ddup l]
theorem nodup_ddup : ∀ l : List (List Int), (ddup l).Nodup
  | [] => List.nodup_nil
  | y :: l => by
    unfold ddup
    split
    · exact nodup_ddup l
    · rename_i h
      exact List.nodup_cons.mpr ⟨h, nodup_ddup l⟩
theorem nodup_len {l L : List (List Int)} (hn : L.Nodup) (h1 : ∀ x ∈ L, x ∈ l) (h2 : ∀ x ∈ l, x ∈ L) : L.length = dcount l := by
  have p : L.Perm (ddup l) := by
    refine (List.perm_ext_iff_of_nodup hn (nodup_ddup l)).mpr fun x => ?_
    rw [mem_ddup]
    exact ⟨h1 x, h2 x⟩
  exact p.length_eq
section
variable {X : Cx}
def tLenSetT (K : PySem.W.Frag) (ta : TE) : TE := fun σ H Q => ta σ H fun x H1 => ∃ (l : Addr) (ks : List (Addr × List Int)), x = V.ref l ∧ SqL K H1 l (ks.map fun p => V.ref p.1) ∧ (∀ p ∈ ks, SqT K H1 p.1 (p.2.map V.int)) ∧ ks.length < 64 ∧ Q (.int (dcount (ks.map (·.2)))) H1
theorem pe_lenSetT {a : Expr} {ta : TE} {p p2 q pos : Pos} (hc : X.calm = true) (hu : X.A.units + 64 < cLine) (hg : Gl X "len") (hm : X.mg "len" = none) (hg2 : Gl X "set") (hm2 : X.mg "set" = none) (ha : PE X a ta)
    (na : starEach [a] X.env = (false, eval a X.env) :: starEach [] X.env := by rfl) : PE X (.Call (.Name "len" p) [.Call (.Name "set" p2) [a] [] q] [] pos) (tLenSetT X.K ta) := by
  refine ⟨fun pins s σ H Q I h => ?_⟩
  refine Call_ (ld_blt I hg hm PySem.boot_len ?_)
  refine PyProof.Rows.callWith_builtin1 (PyProof.Rows.args_cons ?_ rfl) rfl rfl
  refine Call_ (ld_blt I hg2 hm2 PyProof.Rows.boot_set ?_)
  refine PyProof.Rows.callWith_type1 (PyProof.Rows.args_cons (thn (ha.run pins s σ H _ I h) fun v s1 ⟨x, H1, I1, r1, q1⟩ => PyProof.Rows.args_nil ?_) na) na rfl
  obtain ⟨l, ks, rfl, hl, hk, hf, q1⟩ := q1
  cases r1
  obtain ⟨its, rv, pl, hz⟩ := I1.list hl
  refine call_set_tups (P := X.prog) (w := X.w) ks (I1.ok.hd hc) pl.isList (by simpa using refs_of_vals rv) (fun p hp => I1.isT (hk p hp)) hf (by omega) fun h' tk L es ep t R g k => ?_
  refine PyProof.Rows.args_nil ?_
  obtain ⟨o, ho, hex, hd⟩ := R.ob
  have I2 : Inv X pins σ H1 { s1 with heap := h', toks := tk } := I1.kept k
  have hs : es.size = L.length := by
    have h := congrArg List.length R.rows
    unfold rowsOf at h
    rw [Array.length_toList, List.length_map] at h
    exact h
  have hn := R.nd
  have hlen : L.length = dcount (ks.map (·.2)) := by
    have e := nodup_len (l := ks.map (·.2)) hn (fun x hx => by
      obtain ⟨p, hp, rfl⟩ := List.mem_map.mp hx
      exact List.mem_map.mpr ⟨p, List.mem_of_mem_take (g.sub p hp), rfl⟩) (fun x hx => by
      obtain ⟨p, hp, rfl⟩ := List.mem_map.mp hx
      exact g.all p (by rw [List.take_length]; exact hp))
    rw [← e, List.length_map]
  have hfew := R.few
  refine call_len_set ho hex hd (SetTR.fits (s := { s1 with heap := h', toks := tk }) R) (by omega) ⟨.int es.size, H1, I2.tok _, ⟨_, rfl⟩, ?_⟩
  rw [hs, hlen]
  exact q1
theorem tups_map {K : PySem.W.Frag} {ρ : List Addr} {H : Hp} : ∀ {xs : List MV} {vs : List V} {ls : List (List Int)}, tupsOf xs = some ls → VRs K ρ H xs vs → ∃ ks : List (Addr × List Int), vs = ks.map (fun p => V.ref p.1) ∧ ks.map (·.2) = ls ∧ ∀ p ∈ ks, SqT K H p.1 (p.2.map V.int)
  | [], _, ls, e, .nil => by
    cases e
    exact ⟨[], rfl, rfl, fun p hp => by cases hp⟩
  | x :: xs, _, ls, e, .cons r t => by
    unfold tupsOf at e
    split at e <;> first | (cases e; done) | skip
    · rename_i us
      split at e <;> first | (cases e; done) | skip
      rename_i ns ls' e1 e2
      cases e
      obtain ⟨ks, h1, h2, h3⟩ := tups_map e2 t
      cases r with
      | tup sq rt =>
        rename_i a vs0
        have := ints_map e1 rt
        subst this
        subst h1
        refine ⟨(a, ns) :: ks, rfl, by rw [List.map_cons, h2], fun p hp => ?_⟩
        rcases List.mem_cons.mp hp with rfl | hp
        · exact sq
        · exact h3 p hp
theorem se_lset {K : PySem.W.Frag} {C : Cf} {ta : TE} {a : E} (ha : SE K C ta a) : SE K C (tLenSetT K ta) (.lset a) := by
  intro σ H ρ m M v M' Q h s e q
  simp only [ev] at e
  obtain ⟨u, M1, e1, e⟩ := bnd_ok e
  split at e <;> first | (cases e; done) | skip
  rename_i xs e2
  split at e <;> first | (cases e; done) | skip
  rename_i ls e3
  split at e <;> first | (cases e; done) | skip
  rename_i hl
  obtain ⟨rfl, rfl⟩ := ok_inj e
  refine ha σ H ρ m M _ _ _ h s e1 fun x H1 ρ1 h1 p1 r1 => ?_
  obtain ⟨l, vs, rfl, sq, t⟩ := r1.items h1 e2
  obtain ⟨ks, rfl, rfl, hk⟩ := tups_map e3 t
  refine ⟨l, ks, rfl, sq, hk, ?_, q _ _ _ h1 p1 (.int _)⟩
  rw [List.length_map] at hl
  exact hl
end
end MP

set_option Elab.async false
set_option linter.all false
set_option maxRecDepth 100000
set_option autoImplicit false
set_option maxHeartbeats 4000000
/-! MP, part i: the look at expressions, and that it is right. -/
namespace MP
open PySem PySem.Spec PyProof.Rows L2

def cstB : MV → Const → Bool
  | .non, .none => true
  | .bl b, .bool c => b == c
  | .int i, .int j => decide (i = j)
  | .str s, .str t => decide (s = t)
  | _, _ => false
/-- tests of these forms have rules of their own -/
def plainT : Expr → Bool
  | .UnaryOp .Not _ _ => false
  | .BoolOp .. => false
  | .IfExp .. => false
  | .Compare .. => false
  | _ => true
def tstB : Expr → Bool
  | .IfExp .. => false
  | _ => true
def isTupB : Expr → Bool
  | .Tuple .. => true
  | _ => false
def ownB (N : List Str) (t : Tg) : List (Str × Nat) := t.own.map fun i => ((N[i]?).getD ⟨#[]⟩, i)
section
variable (pg : Pg) (N : List Str)
mutual
def chkE : E → Scope → Expr → Bool
  | .var i, sc, x => match x with
    | .Name y _ => decide (N[i]? = some y) && (visB sc y && plainN y)
    | _ => false
  | .cst v, _, x => match x with
    | .Constant c _ _ => cstB v c
    | _ => false
  | .glo k, sc, x => match x with
    | .Name y _ => (match pg.cs[k]? with
      | some p => decide (p.1 = y)
      | none => false) && (glB sc y && plainN y)
    | _ => false
  | .dnw, _, x => match x with
    | .Dict [] [] _ => true
    | _ => false
  | .bin o a b, sc, x => match x with
    | .BinOp y op z _ => decide (op = bopOf o) && (chkE a sc y && chkE b sc z)
    | _ => false
  | .cmp o a b, sc, x => match x with
    | .Compare y [op] [z] _ => (decide (op = copOf o) && noSet z) && (chkE a sc y && chkE b sc z)
    | _ => false
  | .chn o p a b c, sc, x => match x with
    | .Compare y [op, op'] [z, w] _ => (decide (op = copOf o) && decide (op' = copOf p) && (noSet z && noSet w)) && (chkE a sc y && chkE b sc z && chkE c sc w)
    | _ => false
  | .and a b, sc, x => match x with
    | .BoolOp .And (y :: z :: rest) p => chkE a sc y && (match rest with
      | [] => chkE b sc z && (tstB y && tstB z)
      | _ => chkE b sc (.BoolOp .And (z :: rest) p) && tstB y)
    | _ => false
  | .or a b, sc, x => match x with
    | .BoolOp .Or (y :: z :: rest) p => chkE a sc y && (match rest with
      | [] => chkE b sc z && (tstB y && tstB z)
      | _ => chkE b sc (.BoolOp .Or (z :: rest) p) && tstB y)
    | _ => false
  | .not a, sc, x => match x with
    | .UnaryOp .Not y _ => chkE a sc y && tstB y
    | _ => false
  | .neg a, sc, x => match x with
    | .UnaryOp .USub y _ => chkE a sc y
    | _ => false
  | .ife c a b, sc, x => match x with
    | .IfExp y z w _ => (chkE c sc y && tstB y) && (chkE a sc z && chkE b sc w)
    | _ => false
  | .idx a i, sc, x => match x with
    | .Subscript y z _ => (match z with
      | .Slice .. => false
      | _ => true) && (chkE a sc y && chkE i sc z)
    | _ => false
  | .slc a lo hi, sc, x => match x with
    | .Subscript y (.Slice l h none _) _ => chkE a sc y && (match lo, l with
        | none, none => true
        | some e, some z => chkE e sc z
        | _, _ => false) && (match hi, h with
        | none, none => true
        | some e, some z => chkE e sc z
        | _, _ => false)
    | _ => false
  | .rev a, sc, x => match x with
    | .Subscript y (.Slice none none (some (.UnaryOp .USub (.Constant (.int 1) _ _) _)) _) _ => chkE a sc y
    | _ => false
  | .tup es, sc, x => match x with
    | .Tuple xs _ _ => decide (es.len ≤ 1000) && chkEs es sc xs
    | _ => false
  | .lst es, sc, x => match x with
    | .List xs _ => decide (es.len ≤ 1000) && chkEs es sc xs
    | _ => false
  | .cal f sh es ks, sc, x => match x with
    | .Call (.Name y _) xs kws _ => match pg.fs[f]? with
      | some d => match d.shapes[sh]? with
        | some (np, kn, ar) => (decide (d.name = y) && glB sc y && plainN y && decide (es.len = np) && decide (ks.len = kn.length) && kws.all (·.arg.isSome) && decide (kws.filterMap (·.arg) = kn)) && (chkEs es sc xs && chkEs ks sc (kws.map (·.value)))
        | none => false
      | none => false
    | _ => false
  | .blt b es, sc, x => match x with
    | .Call (.Name y _) (z :: xs) [] _ => (decide (y = btName b) && glB sc y && btKnown b) && chkEs es sc (z :: xs)
    | _ => false
  | .isi a ts many, sc, x => match x with
    | .Call (.Name y _) [z, w] [] _ => (decide (y = "isinstance") && glB sc y && noStar z && decide (ts.length ≤ 100)) && chkE a sc z && (match many, w with
      | false, .Name u _ => (match ts with
        | [t] => decide (u = tyName t) && glB sc u
        | _ => false)
      | true, .Tuple us _ _ => tysB sc ts us
      | _, _ => false)
    | _ => false
  | .mth m a es, sc, x => match x with
    | .Call (.Attribute o nm apos) xs [] cpos => (decide (nm = mtName m) && noCall o && (apos.endLine == cpos.line)) && chkE a sc o && (match xs with
      | [] => (match m, es with
        | .pop, .nil => true
        | _, _ => false)
      | z :: zs => decide (zs.length < 20) && chkEs es sc (z :: zs))
    | _ => false
  | .com t it c e, sc, x => match x with
    | .ListComp elt [⟨tg, iter, ifs, 0⟩] scope _ => (tgB N scope t tg && blkC N sc scope (ownB N t) && noSet iter) && (chkI it sc tg iter && (match c, ifs with
      | none, [] => true
      | some c, [y] => chkE c (relS scope sc) y && tstB y
      | _, _ => false) && chkE e (relS scope sc) elt)
    | _ => false
  | .lr1 a, sc, x => match x with
    | .Call (.Name y _) [.Call (.Name z _) [w] [] _] [] _ => (decide (y = "list") && glB sc y && decide (z = "range") && glB sc z && noStar w) && chkE a sc w
    | _ => false
  | .lr2 a b, sc, x => match x with
    | .Call (.Name y _) [.Call (.Name z _) [v, w] [] _] [] _ => (decide (y = "list") && glB sc y && decide (z = "range") && glB sc z && noStar v && noStar w) && (chkE a sc v && chkE b sc w)
    | _ => false
  | .lset a, sc, x => match x with
    | .Call (.Name y _) [.Call (.Name z _) [w] [] _] [] _ => (decide (y = "len") && glB sc y && decide (z = "set") && glB sc z && noStar w) && chkE a sc w
    | _ => false
def chkEs : Es → Scope → List Expr → Bool
  | .nil, _, xs => match xs with
    | [] => true
    | _ => false
  | .cons e es, sc, xs => match xs with
    | y :: ys => noStar y && (chkE e sc y && chkEs es sc ys)
    | [] => false
def chkI : MP.It → Scope → Expr → Expr → Bool
  | .seq e, sc, _, x => chkE e sc x
  | .rg1 a, sc, _, x => match x with
    | .Call (.Name y _) [z] [] _ => (decide (y = "range") && glB sc y && noStar z) && chkE a sc z
    | _ => false
  | .rg2 a b, sc, _, x => match x with
    | .Call (.Name y _) [z, w] [] _ => (decide (y = "range") && glB sc y && noStar z && noStar w) && (chkE a sc z && chkE b sc w)
    | _ => false
  | .zip a b, sc, tg, x => match x with
    | .Call (.Name y _) [z, w] [] _ => (decide (y = "zip") && glB sc y && noStar z && noStar w && isTupB tg) && (chkE a sc z && chkE b sc w)
    | _ => false
  | .enu a, sc, tg, x => match x with
    | .Call (.Name y _) [z] [] _ => (decide (y = "enumerate") && glB sc y && noStar z && isTupB tg) && chkE a sc z
    | _ => false
end
end

/-! ### what the look says -/
def PEx (G : Gi) (n : Nat) (N : List Str) (sc : Scope) (x : Expr) (e : E) : Prop := ∃ t, SE G.K (cfg G.pg n) t e ∧ ∀ X, Gd G n N sc X → PE X x t
def PTx (G : Gi) (n : Nat) (N : List Str) (sc : Scope) (x : Expr) (e : E) : Prop := ∃ t, ST G.K (cfg G.pg n) t e ∧ ∀ X, Gd G n N sc X → PT X x t
def PWx (G : Gi) (n : Nat) (N : List Str) (sc : Scope) (x : Expr) (e : E) : Prop := ∃ t, ST G.K (cfg G.pg n) t e ∧ ∀ X, Gd G n N sc X → PW X x t
def PAx (G : Gi) (n : Nat) (N : List Str) (sc : Scope) (xs : List Expr) (es : Es) : Prop := ∃ t, SA G.K (cfg G.pg n) t es ∧ ∀ X, Gd G n N sc X → PA X xs t ∧ ∀ kws : List Keyword, kws.map (·.value) = xs → PK X kws t
def PIx (G : Gi) (n : Nat) (N : List Str) (sc : Scope) (tg x : Expr) (it : MP.It) : Prop := ∃ t, SI G.K (cfg G.pg n) t it ∧ ∀ X, Gd G n N sc X → PI X tg x t
structure EOk (G : Gi) (n : Nat) (N : List Str) (sc : Scope) (x : Expr) (e : E) : Prop where
  pe : PEx G n N sc x e
  pt : tstB x = true → PTx G n N sc x e
  pw : (∃ op vs p, x = .BoolOp op vs p) → PWx G n N sc x e
section
variable {G : Gi} {n : Nat} {N : List Str} {sc : Scope} {x y z w : Expr} {e a b c : E}
theorem pt_plain {X : Cx} {t : TE} (h : PE X x t) (hx : plainT x = true) : PT X x (tTest t) := by
  cases x <;> first
    | exact pt_val h (by intro _; rfl)
    | (rename_i op v p; cases op <;> first
        | exact pt_val h (by intro _; rfl)
        | cases hx)
    | cases hx
theorem EOk.plain (h : PEx G n N sc x e) (hx : plainT x = true) : EOk G n N sc x e := by
  refine ⟨h, fun _ => ?_, fun hb => ?_⟩
  · obtain ⟨t, h1, h2⟩ := h
    exact ⟨_, st_of_se h1, fun X g => pt_plain (h2 X g) hx⟩
  · obtain ⟨op, vs, p, rfl⟩ := hb
    cases hx
theorem Gd.gl {X : Cx} (g : Gd G n N sc X) {nm : Str} (h : glB sc nm = true) : Gl X nm := by
  show X.env.scope.names.lookup nm = _
  rw [g.eS]
  exact glB_ok h
theorem Gd.no {X : Cx} (g : Gd G n N sc X) (L : Lk G) {nm : Str} (h : nm ∈ bltNames) : X.mg nm = none := by
  rw [g.eM]
  exact L.blt nm h
theorem Gd.run {X : Cx} {f : Addr} {fd : FuncData} {ps : List Str} {sp : List V → Hp → VK → Prop} (g : Gd G n N sc X) (F : FnG G.P G.w G.K G.mg G.base n f fd ps sp) : FnG X.prog X.w X.K X.mg X.base n f fd ps sp := by
  rw [g.eP, g.eW, g.eK, g.eM, g.eB]
  exact F
theorem ok_var {i : Nat} {nm : Str} {p : Pos} (h1 : N[i]? = some nm) (h2 : visB sc nm = true) (h3 : plainN nm = true) : EOk G n N sc (.Name nm p) (.var i) := by
  refine .plain ⟨_, se_var, fun X g => ?_⟩ rfl
  refine pe_var ?_ ?_ (plainN_ok h3).1 (plainN_ok h3).2
  · rw [g.eN]
    exact h1
  · rw [g.eS]
    exact visB_ok h2
theorem ok_cst {v : MV} {k : Const} {j : Nat} {p : Pos} (h : cstB v k = true) : EOk G n N sc (.Constant k j p) (.cst v) := by
  cases v <;> cases k <;> try (cases h; done)
  · exact .plain ⟨_, se_cst fun _ _ => .non, fun X g => pe_non⟩ rfl
  · rename_i b d
    have e : b = d := by simpa [cstB] using h
    subst e
    exact .plain ⟨_, se_cst fun _ _ => .bl b, fun X g => pe_bl⟩ rfl
  · rename_i b d
    have e : b = d := of_decide_eq_true h
    subst e
    exact .plain ⟨_, se_cst fun _ _ => .int b, fun X g => pe_int⟩ rfl
  · rename_i b d
    have e : b = d := of_decide_eq_true h
    subst e
    exact .plain ⟨_, se_cst fun _ _ => .str b, fun X g => pe_str⟩ rfl
theorem ok_glo (L : Lk G) {k : Nat} {q : Str × MV} {nm : Str} {p : Pos} (h0 : G.pg.cs[k]? = some q) (h1 : q.1 = nm) (h2 : glB sc nm = true) (h3 : plainN nm = true) : EOk G n N sc (.Name nm p) (.glo k) := by
  obtain ⟨x, u, e1, e2, e3⟩ := L.glo k q.1 q.2 h0
  have hg : (cfg G.pg n).glo k = some q.2 := by
    show (G.pg.cs[k]?).map (·.2) = some q.2
    rw [h0]
    rfl
  refine .plain ⟨_, se_glo hg e3, fun X g => ?_⟩ rfl
  refine pe_glob (g.gl h2) ?_ e2 (plainN_ok h3).1
  rw [g.eM, ← h1]
  exact e1
theorem ok_bin {o : BOp} {p : Pos} (ha : EOk G n N sc y a) (hb : EOk G n N sc z b) : EOk G n N sc (.BinOp y (bopOf o) z p) (.bin o a b) := by
  obtain ⟨ta, a1, a2⟩ := ha.pe
  obtain ⟨tb, b1, b2⟩ := hb.pe
  exact .plain ⟨_, se_bin (ro_bin o) a1 b1, fun X g => pe_op (bin_op o) (a2 X g) (b2 X g)⟩ rfl
theorem Gd.units {X : Cx} (g : Gd G n N sc X) : X.A.units + 65 < cLine := by
  have := g.room.un
  omega
theorem cmp_opG {X : Cx} (g : Gd G n N sc X) (o : COp) : OpR X (compareOp (copOf o)) (cmpR G.K o) := by
  rw [← g.eK]
  exact cmp_op g.units o
theorem ok_cmp {o : COp} {p : Pos} (hs : noSet z = true) (ha : EOk G n N sc y a) (hb : EOk G n N sc z b) : EOk G n N sc (.Compare y [copOf o] [z] p) (.cmp o a b) := by
  obtain ⟨ta, a1, a2⟩ := ha.pe
  obtain ⟨tb, b1, b2⟩ := hb.pe
  refine ⟨⟨_, se_cmp (ro_cmp o) a1 b1, fun X g => pe_cmpR (cmp_opG g o) (a2 X g) (b2 X g) (no_mark hs)⟩, fun _ => ⟨_, st_of_se (se_cmp (ro_cmp o) a1 b1), fun X g => pt_cmpR (cmp_opG g o) (a2 X g) (b2 X g) (no_mark hs)⟩, fun hb => ?_⟩
  obtain ⟨op, vs, q, e⟩ := hb
  cases e
theorem last_mark {op op' : CmpOp} (h : noSet w = true) : lastMarks [op, op'] [z, w] = false := no_mark h
theorem ok_chn {o o' : COp} {p : Pos} (hs : noSet z = true) (hs2 : noSet w = true) (ha : EOk G n N sc y a) (hb : EOk G n N sc z b) (hc : EOk G n N sc w c) : EOk G n N sc (.Compare y [copOf o, copOf o'] [z, w] p) (.chn o o' a b c) := by
  obtain ⟨ta, a1, a2⟩ := ha.pe
  obtain ⟨tb, b1, b2⟩ := hb.pe
  obtain ⟨tc, c1, c2⟩ := hc.pe
  refine ⟨⟨_, se_chn (ro_cmp o) (ro_cmp o') a1 b1 c1, fun X g => pe_chain (cmp_opG g o) (cmp_opG g o') (a2 X g) (b2 X g) (c2 X g) (last_mark hs2)⟩, fun _ => ?_, fun hb => ?_⟩
  · exact ⟨_, st_of_se (se_chn (ro_cmp o) (ro_cmp o') a1 b1 c1), fun X g => pt_chain (cmp_opG g o) (cmp_opG g o') (a2 X g) (b2 X g) (c2 X g) (last_mark hs2)⟩
  · obtain ⟨op, vs, q, e⟩ := hb
    cases e
theorem ok_and2 {p : Pos} (hy : tstB y = true) (hz : tstB z = true) (ha : EOk G n N sc y a) (hb : EOk G n N sc z b) : EOk G n N sc (.BoolOp .And [y, z] p) (.and a b) := by
  obtain ⟨ta, a1, a2⟩ := ha.pe
  obtain ⟨tb, b1, b2⟩ := hb.pe
  obtain ⟨qa, a3, a4⟩ := ha.pt hy
  obtain ⟨qb, b3, b4⟩ := hb.pt hz
  have k : PWx G n N sc (.BoolOp .And [y, z] p) (.and a b) := ⟨_, st_and a3 b3, fun X g => pw_and (a4 X g) (pw_and1 (b4 X g))⟩
  refine ⟨⟨_, se_and a1 b1, fun X g => pe_and (a2 X g) (pe_one (b2 X g))⟩, fun _ => ?_, fun _ => k⟩
  obtain ⟨t, k1, k2⟩ := k
  exact ⟨t, k1, fun X g => (k2 X g).pt⟩
theorem ok_andM {r : List Expr} {p : Pos} (hy : tstB y = true) (ha : EOk G n N sc y a) (hb : EOk G n N sc (.BoolOp .And (z :: r) p) b) : EOk G n N sc (.BoolOp .And (y :: z :: r) p) (.and a b) := by
  obtain ⟨ta, a1, a2⟩ := ha.pe
  obtain ⟨tb, b1, b2⟩ := hb.pe
  obtain ⟨qa, a3, a4⟩ := ha.pt hy
  obtain ⟨qb, b3, b4⟩ := hb.pw ⟨_, _, _, rfl⟩
  have k : PWx G n N sc (.BoolOp .And (y :: z :: r) p) (.and a b) := ⟨_, st_and a3 b3, fun X g => pw_and (a4 X g) (b4 X g)⟩
  refine ⟨⟨_, se_and a1 b1, fun X g => pe_and (a2 X g) (b2 X g)⟩, fun _ => ?_, fun _ => k⟩
  obtain ⟨t, k1, k2⟩ := k
  exact ⟨t, k1, fun X g => (k2 X g).pt⟩
theorem ok_or2 {p : Pos} (hy : tstB y = true) (hz : tstB z = true) (ha : EOk G n N sc y a) (hb : EOk G n N sc z b) : EOk G n N sc (.BoolOp .Or [y, z] p) (.or a b) := by
  obtain ⟨ta, a1, a2⟩ := ha.pe
  obtain ⟨tb, b1, b2⟩ := hb.pe
  obtain ⟨qa, a3, a4⟩ := ha.pt hy
  obtain ⟨qb, b3, b4⟩ := hb.pt hz
  have k : PWx G n N sc (.BoolOp .Or [y, z] p) (.or a b) := ⟨_, st_or a3 b3, fun X g => pw_or (a4 X g) (pw_or1 (b4 X g))⟩
  refine ⟨⟨_, se_or a1 b1, fun X g => pe_or (a2 X g) (pe_one (b2 X g))⟩, fun _ => ?_, fun _ => k⟩
  obtain ⟨t, k1, k2⟩ := k
  exact ⟨t, k1, fun X g => (k2 X g).pt⟩
theorem ok_orM {r : List Expr} {p : Pos} (hy : tstB y = true) (ha : EOk G n N sc y a) (hb : EOk G n N sc (.BoolOp .Or (z :: r) p) b) : EOk G n N sc (.BoolOp .Or (y :: z :: r) p) (.or a b) := by
  obtain ⟨ta, a1, a2⟩ := ha.pe
  obtain ⟨tb, b1, b2⟩ := hb.pe
  obtain ⟨qa, a3, a4⟩ := ha.pt hy
  obtain ⟨qb, b3, b4⟩ := hb.pw ⟨_, _, _, rfl⟩
  have k : PWx G n N sc (.BoolOp .Or (y :: z :: r) p) (.or a b) := ⟨_, st_or a3 b3, fun X g => pw_or (a4 X g) (b4 X g)⟩
  refine ⟨⟨_, se_or a1 b1, fun X g => pe_or (a2 X g) (b2 X g)⟩, fun _ => ?_, fun _ => k⟩
  obtain ⟨t, k1, k2⟩ := k
  exact ⟨t, k1, fun X g => (k2 X g).pt⟩
theorem ok_not {p : Pos} (hy : tstB y = true) (ha : EOk G n N sc y a) : EOk G n N sc (.UnaryOp .Not y p) (.not a) := by
  obtain ⟨ta, a1, a2⟩ := ha.pe
  obtain ⟨qa, a3, a4⟩ := ha.pt hy
  refine ⟨⟨_, se_not a1, fun X g => pe_not (a2 X g)⟩, fun _ => ⟨_, st_not a3, fun X g => pt_not (a4 X g)⟩, fun hb => ?_⟩
  obtain ⟨op, vs, q, e⟩ := hb
  cases e
theorem ok_neg {p : Pos} (ha : EOk G n N sc y a) : EOk G n N sc (.UnaryOp .USub y p) (.neg a) := by
  obtain ⟨ta, a1, a2⟩ := ha.pe
  exact .plain ⟨_, se_neg a1, fun X g => pe_un un_neg (a2 X g)⟩ rfl
theorem ok_ife {p : Pos} (hy : tstB y = true) (hc : EOk G n N sc y c) (ha : EOk G n N sc z a) (hb : EOk G n N sc w b) : EOk G n N sc (.IfExp y z w p) (.ife c a b) := by
  obtain ⟨ta, a1, a2⟩ := ha.pe
  obtain ⟨tb, b1, b2⟩ := hb.pe
  obtain ⟨qc, c1, c2⟩ := hc.pt hy
  refine ⟨⟨_, se_ife c1 a1 b1, fun X g => pe_ifExp (c2 X g) (a2 X g) (b2 X g)⟩, fun h => ?_, fun hb => ?_⟩
  · cases h
  · obtain ⟨op, vs, q, e⟩ := hb
    cases e
theorem ok_idx {p : Pos} (hz : (match z with
      | .Slice .. => false
      | _ => true) = true) (ha : EOk G n N sc y a) (hb : EOk G n N sc z b) : EOk G n N sc (.Subscript y z p) (.idx a b) := by
  obtain ⟨ta, a1, a2⟩ := ha.pe
  obtain ⟨tb, b1, b2⟩ := hb.pe
  refine .plain ⟨_, se_idx a1 b1, fun X g => ?_⟩ rfl
  have hp : PlainIx z := by
    intro o i
    cases z <;> first
      | rfl
      | cases hz
  have hi : IxR X (rIxM G.K) := by
    rw [← g.eK]
    exact ix_M
  exact pe_ix hi (a2 X g) (b2 X g) hp
theorem ok_part {lo : Option E} {l : Option Expr} (h : (match lo, l with
    | none, none => True
    | some e, some z => EOk G n N sc z e
    | _, _ => False)) : ∃ t, SO G.K (cfg G.pg n) t lo ∧ ∀ X, Gd G n N sc X → PO X l t := by
  cases lo <;> cases l <;> try (exact h.elim)
  · exact ⟨_, so_none, fun X g => po_none⟩
  · rename_i e z
    obtain ⟨t, h1, h2⟩ := (show EOk G n N sc z e from h).pe
    exact ⟨_, so_some h1, fun X g => po_some (h2 X g)⟩
theorem ok_slc {lo hi : Option E} {l h : Option Expr} {p q : Pos} (ha : EOk G n N sc y a) (h1 : ∃ t, SO G.K (cfg G.pg n) t lo ∧ ∀ X, Gd G n N sc X → PO X l t) (h2 : ∃ t, SO G.K (cfg G.pg n) t hi ∧ ∀ X, Gd G n N sc X → PO X h t) :
    EOk G n N sc (.Subscript y (.Slice l h none p) q) (.slc a lo hi) := by
  obtain ⟨ta, a1, a2⟩ := ha.pe
  obtain ⟨tl, l1, l2⟩ := h1
  obtain ⟨th, u1, u2⟩ := h2
  refine .plain ⟨_, se_slc a1 l1 u1, fun X g => ?_⟩ rfl
  have hs : SlR X (rSlL G.K) := by
    rw [← g.eK]
    exact sl_list
  exact pe_slice hs (a2 X g) (l2 X g) (u2 X g)
theorem ok_rev {k : Nat} {p1 p2 p3 p : Pos} (ha : EOk G n N sc y a) : EOk G n N sc (.Subscript y (.Slice none none (some (.UnaryOp .USub (.Constant (.int 1) k p1) p2)) p3) p) (.rev a) := by
  obtain ⟨ta, a1, a2⟩ := ha.pe
  refine .plain ⟨_, se_rev a1, fun X g => ?_⟩ rfl
  rw [← g.eK]
  exact pe_revL (a2 X g)
theorem few_line {C : Cf} {es : Es} (h : es.len ≤ 1000) : ∀ m M v M', evs C es m M = .ok v M' → v.length ≤ sizeLine := fun m M v M' e => by
  rw [evs_len es m M v M' e]
  exact Nat.le_trans h (by decide)
theorem ok_tup {es : Es} {xs : List Expr} {k : Nat} {p : Pos} (hl : es.len ≤ 1000) (ha : PAx G n N sc xs es) : EOk G n N sc (.Tuple xs k p) (.tup es) := by
  obtain ⟨t, a1, a2⟩ := ha
  exact .plain ⟨_, se_tup (few_line hl) a1, fun X g => pe_tup (a2 X g).1⟩ rfl
theorem ok_lst {es : Es} {xs : List Expr} {p : Pos} (hl : es.len ≤ 1000) (ha : PAx G n N sc xs es) : EOk G n N sc (.List xs p) (.lst es) := by
  obtain ⟨t, a1, a2⟩ := ha
  exact .plain ⟨_, se_lst (few_line hl) a1, fun X g => pe_lst (a2 X g).1⟩ rfl
theorem ok_blt (L : Lk G) {o : Bt} {es : Es} {xs : List Expr} {p q : Pos} (hk : btKnown o = true) (hg : glB sc (btName o) = true) (hst : (z :: xs).all noStar = true) (ha : PAx G n N sc (z :: xs) es) : EOk G n N sc (.Call (.Name (btName o) p) (z :: xs) [] q) (.blt o es) := by
  obtain ⟨t, a1, a2⟩ := ha
  refine .plain ⟨_, se_blt (rc_bt o hk) a1, fun X g => ?_⟩ rfl
  rw [← g.eK]
  exact pe_bt hk g.room g.gd g.calm (g.gl hg) (g.no L (bt_in o)) (a2 X g).1 hst
theorem ok_isi1 (L : Lk G) {t : Ty} {p q r : Pos} (hg : glB sc "isinstance" = true) (hg2 : glB sc (tyName t) = true) (hz : noStar z = true) (ha : EOk G n N sc z a) : EOk G n N sc (.Call (.Name "isinstance" p) [z, .Name (tyName t) q] [] r) (.isi a [t] false) := by
  obtain ⟨ta, a1, a2⟩ := ha.pe
  refine .plain ⟨_, se_isi1 a1, fun X g => ?_⟩ rfl
  rw [← g.eK]
  exact pe_callB call_isi (g.gl hg) (g.no L (by decide +kernel)) (by decide +kernel) (pa_cons (a2 X g) (pa_cons (pe_ty (g.gl hg2) (g.no L (ty_in t))) pa_nil rfl) (star_cons hz)) (by decide) (by decide) (star_cons hz) rfl
theorem ok_isiT (L : Lk G) {ts : List Ty} {us : List Expr} {k : Nat} {p q r : Pos} (hl : ts.length ≤ 100) (hg : glB sc "isinstance" = true) (hu : tysB sc ts us = true) (hz : noStar z = true) (ha : EOk G n N sc z a) : EOk G n N sc (.Call (.Name "isinstance" p) [z, .Tuple us k q] [] r) (.isi a ts true) := by
  obtain ⟨ta, a1, a2⟩ := ha.pe
  refine .plain ⟨_, se_isiT (Nat.le_trans hl (by decide)) a1, fun X g => ?_⟩ rfl
  rw [← g.eK]
  exact pe_callB call_isiT (g.gl hg) (g.no L (by decide +kernel)) (by decide +kernel) (pa_cons (a2 X g) (pa_cons (pe_tup (pa_tys g.eS (fun b hb => g.no L hb) ts us hu)) pa_nil rfl) (star_cons hz)) (by decide) (by decide) (star_cons hz) rfl
theorem ok_app {m : Mt} {es : Es} {o : Expr} {zs : List Expr} {ap cp : Pos} (hn : noCall o = true) (hl : (ap.endLine == cp.line) = true) (hst : (z :: zs).all noStar = true) (hz : zs.length < 20) (ho : EOk G n N sc o a) (ha : PAx G n N sc (z :: zs) es) :
    EOk G n N sc (.Call (.Attribute o (mtName m) ap) (z :: zs) [] cp) (.mth m a es) := by
  obtain ⟨to, o1, o2⟩ := ho.pe
  obtain ⟨t, a1, a2⟩ := ha
  refine .plain ⟨_, se_mth (rm_mt m) (mt_list m) o1 a1, fun X g => ?_⟩ rfl
  rw [← g.eK]
  exact pe_mt (o2 X g) (a2 X g).1 hn hst hz hl
theorem ok_pop {o : Expr} {ap cp : Pos} (hn : noCall o = true) (hl : (ap.endLine == cp.line) = true) (ho : EOk G n N sc o a) : EOk G n N sc (.Call (.Attribute o (mtName .pop) ap) [] [] cp) (.mth .pop a .nil) := by
  obtain ⟨to, o1, o2⟩ := ho.pe
  refine .plain ⟨_, se_mth (rm_mt .pop) (mt_list .pop) o1 sa_nil, fun X g => ?_⟩ rfl
  rw [← g.eK]
  exact pe_mt0 (o2 X g) hn hl rfl
theorem len_of : ∀ (es : Es) (xs : List Expr) (pg : Pg) (N : List Str) (sc : Scope), chkEs pg N es sc xs = true → xs.all noStar = true ∧ es.len = xs.length
  | .nil, [], _, _, _, _ => ⟨rfl, rfl⟩
  | .nil, _ :: _, _, _, _, h => by cases h
  | .cons _ _, [], _, _, _, h => by cases h
  | .cons e es, x :: xs, pg, N, sc, h => by
    simp only [chkEs, Bool.and_eq_true] at h
    obtain ⟨h1, h2⟩ := len_of es xs pg N sc h.2.2
    refine ⟨?_, congrArg Nat.succ h2⟩
    rw [List.all_cons, h.1, h1]
    rfl
theorem ok_cal (L : Lk G) (F : Fns G n) {f sh np : Nat} {d : Fd} {kn : List Str} {ar : List Ar} {es ks : Es} {nm : Str} {xs : List Expr} {kws : List Keyword} {p q : Pos} (hd : G.pg.fs[f]? = some d) (hs : d.shapes[sh]? = some (np, kn, ar)) (h0 : d.name = nm) (hg : glB sc nm = true) (hp : plainN nm = true)
    (h1 : es.len = np) (h2 : ks.len = kn.length) (h3 : kws.all (·.arg.isSome) = true) (h4 : kws.filterMap (·.arg) = kn) (hst : xs.all noStar = true) (hxs : es.len = xs.length) (ha : PAx G n N sc xs es) (hk : PAx G n N sc (kws.map (·.value)) ks) :
    EOk G n N sc (.Call (.Name nm p) xs kws q) (.cal f sh es ks) := by
  obtain ⟨t, a1, a2⟩ := ha
  obtain ⟨tk, k1, k2⟩ := hk
  obtain ⟨gU, gV, b1, b2, b3⟩ := L.shp f d sh np kn ar hd hs
  obtain ⟨m1, m2⟩ := L.fn f d hd
  subst h0
  cases xs with
  | nil =>
    have hn0 : np = 0 := by rw [← h1, hxs]; rfl
    subst hn0
    have he : es = .nil := by
      cases es with
      | nil => rfl
      | cons _ _ => cases h1
    subst he
    refine .plain ⟨_, se_cal hd hs sa_nil k1 h1 h2 b3, fun X g => ?_⟩ rfl
    exact pe_calG0 (g.run (F f d hd)) g.room g.gd g.xe (g.gl hg) (by rw [g.eM]; exact m1) (by rw [g.eK]; exact m2) (plainN_ok hp).1 (by rw [g.eK]; exact b1) b2 ((k2 X g).2 kws rfl) h3 h4
  | cons y ys =>
    refine .plain ⟨_, se_cal hd hs a1 k1 h1 h2 b3, fun X g => ?_⟩ rfl
    exact pe_calG (g.run (F f d hd)) g.room g.gd g.xe (g.gl hg) (by rw [g.eM]; exact m1) (by rw [g.eK]; exact m2) (plainN_ok hp).1 (by rw [g.eK]; exact b1) b2 (a2 X g).1 ((k2 X g).2 kws rfl) hst h3 h4
/-! ### a comprehension's block -/
theorem gd_blk {X : Cx} {scope : Scope} {C : Addr} {cl : List (Str × Addr)} {s : Shared} {H : Hp} {fp : List Addr} (g : Gd G n N sc X) : Gd G n N (relS scope sc) (X.blk s H scope (compEnvC scope cl C X.env) fp) := by
  refine ⟨g.nd, g.eP, g.eW, g.eK, g.eM, g.eB, g.eN, ?_, g.calm, g.room, g.gd, rfl⟩
  show relS scope X.env.scope = _
  rw [g.eS]
theorem loc_blk {X : Cx} {scope : Scope} {C : Addr} {cl : List (Str × Addr)} {s : Shared} {H : Hp} {fp : List Addr} (g : Gd G n N sc X) {nm : Str} (h : locB scope nm = true) :
    Loc (X.blk s H scope (compEnvC scope cl C X.env) fp).env.scope nm ∧ ((X.blk s H scope (compEnvC scope cl C X.env) fp).fn nm = true ∨ (X.blk s H scope (compEnvC scope cl C X.env) fp).env.scope.names.lookup nm = some .local) := by
  have e : (X.blk s H scope (compEnvC scope cl C X.env) fp).env.scope = relS scope X.env.scope := rfl
  rw [e]
  rcases locB_ok h with h | h
  · have h2 : (relS scope X.env.scope).names.lookup nm = some .local := lookup_relS_keep (by decide) h
    exact ⟨.inl h2, .inr h2⟩
  · have h2 : (relS scope X.env.scope).names.lookup nm = some .cell := lookup_relS_keep (by decide) h
    refine ⟨.inr h2, .inl ?_⟩
    show (scope.names.lookup nm == some NameKind.cell) = true
    rw [h]
    rfl
theorem own_fst (t : Tg) : (ownB N t).map (·.2) = t.own := by
  unfold ownB
  rw [List.map_map]
  exact List.map_id _
theorem no_fold {e : Expr} {env : Env} (h : noSet e = true) : ∀ v, foldedSetIterable e env v = pure v := by
  intro v
  cases e <;> first
    | rfl
    | cases h
theorem ok_com {t : Tg} {it : MP.It} {c : Option E} {e : E} {elt tg iter : Expr} {ifs : List Expr} {scope : Scope} {p : Pos} (h1 : tgB N scope t tg = true) (h2 : blkC N sc scope (ownB N t) = true) (h3 : noSet iter = true) (hi : PIx G n N sc tg iter it)
    (hc : ∃ tt, SCo G.K (cfg G.pg n) tt c ∧ ∀ X, Gd G n N (relS scope sc) X → PTs X ifs tt) (he : EOk G n N (relS scope sc) elt e) : EOk G n N sc (.ListComp elt [⟨tg, iter, ifs, 0⟩] scope p) (.com t it c e) := by
  obtain ⟨wi, i1, i2⟩ := hi
  obtain ⟨tt, c1, c2⟩ := hc
  obtain ⟨te, e1, e2⟩ := he.pe
  refine .plain ⟨_, se_com i1 (sg_tg t) c1 e1, fun X g => ?_⟩ rfl
  have hb : BlkOk X.N X.env.scope scope (ownB N t) := by
    rw [g.eN, g.eS]
    exact blkOk_by h2
  have q := pe_lc (pos := p) g.calm (by rw [g.eN]; exact g.nd) (i2 X g) hb (g := tgG G.K t) (tt := tt) (te := te) (elt := elt) (ifs := ifs)
    (fun s H C cl fp => by rw [← g.eK]; exact pg_tg (show (X.blk s H scope (compEnvC scope cl C X.env) fp).N = N from g.eN) g.nd g.calm (fun y hy => loc_blk g hy) h1)
    (fun s H C cl fp => c2 _ (gd_blk g)) (fun s H C cl fp => e2 _ (gd_blk g)) (no_fold h3)
  rw [own_fst] at q
  exact q
theorem ok_seq {tg : Expr} (ha : EOk G n N sc y a) : PIx G n N sc tg y (.seq a) := by
  obtain ⟨ta, a1, a2⟩ := ha.pe
  refine ⟨_, si_seq a1, fun X g => ?_⟩
  rw [← g.eK]
  exact pi_seqM (a2 X g)
theorem ok_lr1 (L : Lk G) {p1 p2 q1 q2 : Pos} (hg : glB sc "list" = true) (hg2 : glB sc "range" = true) (hz : noStar z = true) (ha : EOk G n N sc z a) : EOk G n N sc (.Call (.Name "list" p1) [.Call (.Name "range" p2) [z] [] q2] [] q1) (.lr1 a) := by
  obtain ⟨ta, a1, a2⟩ := ha.pe
  exact .plain ⟨_, se_lr1 a1, fun X g => pe_listRg g.calm (g.gl hg) (g.no L (by decide +kernel)) (prg_1 (g.gl hg2) (g.no L (by decide +kernel)) (a2 X g) (star_cons hz))⟩ rfl
theorem ok_lr2 (L : Lk G) {p1 p2 q1 q2 : Pos} (hg : glB sc "list" = true) (hg2 : glB sc "range" = true) (hz : noStar z = true) (hw : noStar w = true) (ha : EOk G n N sc z a) (hb : EOk G n N sc w b) : EOk G n N sc (.Call (.Name "list" p1) [.Call (.Name "range" p2) [z, w] [] q2] [] q1) (.lr2 a b) := by
  obtain ⟨ta, a1, a2⟩ := ha.pe
  obtain ⟨tb, b1, b2⟩ := hb.pe
  refine .plain ⟨_, se_lr2 a1 b1, fun X g => ?_⟩ rfl
  refine pe_listRg g.calm (g.gl hg) (g.no L (by decide +kernel)) (prg_2 (g.gl hg2) (g.no L (by decide +kernel)) (a2 X g) (b2 X g) (star_cons hz) (star_cons hw) ?_)
  exact star_any q2 X.env [w] (by rw [List.all_cons, hw]; rfl)
theorem ok_lset (L : Lk G) {p1 p2 q1 q2 : Pos} (hg : glB sc "len" = true) (hg2 : glB sc "set" = true) (hz : noStar z = true) (ha : EOk G n N sc z a) : EOk G n N sc (.Call (.Name "len" p1) [.Call (.Name "set" p2) [z] [] q2] [] q1) (.lset a) := by
  obtain ⟨ta, a1, a2⟩ := ha.pe
  refine .plain ⟨_, se_lset a1, fun X g => ?_⟩ rfl
  rw [← g.eK]
  have hu := g.units
  exact pe_lenSetT g.calm (by omega) (g.gl hg) (g.no L (by decide +kernel)) (g.gl hg2) (g.no L (by decide +kernel)) (a2 X g) (star_cons hz)
theorem ok_rg1 (L : Lk G) {tg : Expr} {p q : Pos} (hg : glB sc "range" = true) (hz : noStar z = true) (ha : EOk G n N sc z a) : PIx G n N sc tg (.Call (.Name "range" p) [z] [] q) (.rg1 a) := by
  obtain ⟨ta, a1, a2⟩ := ha.pe
  exact ⟨_, si_rg1 a1, fun X g => pi_range1 (g.gl hg) (g.no L (by decide +kernel)) (pa_cons (a2 X g) pa_nil (star_cons hz)) (star_cons hz)⟩
theorem ok_rg2 (L : Lk G) {tg : Expr} {p q : Pos} (hg : glB sc "range" = true) (hz : noStar z = true) (hw : noStar w = true) (ha : EOk G n N sc z a) (hb : EOk G n N sc w b) : PIx G n N sc tg (.Call (.Name "range" p) [z, w] [] q) (.rg2 a b) := by
  obtain ⟨ta, a1, a2⟩ := ha.pe
  obtain ⟨tb, b1, b2⟩ := hb.pe
  refine ⟨_, si_rg2 a1 b1, fun X g => ?_⟩
  refine pi_range2 (g.gl hg) (g.no L (by decide +kernel)) (pa_cons (a2 X g) (pa_cons (b2 X g) pa_nil (star_cons hw)) (star_cons hz)) ?_ (star_cons hw)
  rw [star_cons hz, star_cons hw]
  rfl
theorem ok_zip (L : Lk G) {tg : Expr} {p q : Pos} (hg : glB sc "zip" = true) (hz : noStar z = true) (hw : noStar w = true) (ht : isTupB tg = true) (ha : EOk G n N sc z a) (hb : EOk G n N sc w b) : PIx G n N sc tg (.Call (.Name "zip" p) [z, w] [] q) (.zip a b) := by
  obtain ⟨ta, a1, a2⟩ := ha.pe
  obtain ⟨tb, b1, b2⟩ := hb.pe
  refine ⟨_, si_zip a1 b1, fun X g => ?_⟩
  cases tg <;> try (cases ht; done)
  rw [← g.eK]
  exact RZ.pi_zipA (g.gl hg) (g.no L (by decide +kernel)) (pa_cons (a2 X g) (pa_cons (b2 X g) pa_nil (star_cons hw)) (star_cons hz)) (star_cons hz) (by rw [star_cons hw]; rfl)
theorem ok_enu (L : Lk G) {tg : Expr} {p q : Pos} (hg : glB sc "enumerate" = true) (hz : noStar z = true) (ht : isTupB tg = true) (ha : EOk G n N sc z a) : PIx G n N sc tg (.Call (.Name "enumerate" p) [z] [] q) (.enu a) := by
  obtain ⟨ta, a1, a2⟩ := ha.pe
  refine ⟨_, si_enu a1, fun X g => ?_⟩
  cases tg <;> try (cases ht; done)
  rw [← g.eK]
  exact pi_enum (g.gl hg) (g.no L (by decide +kernel)) (pa_cons (a2 X g) pa_nil (star_cons hz)) (star_cons hz)
theorem ok_cond {c : E} (h : tstB y = true) (ha : EOk G n N sc y c) : ∃ tt, SCo G.K (cfg G.pg n) tt (some c) ∧ ∀ X, Gd G n N sc X → PTs X [y] tt := by
  obtain ⟨t, a1, a2⟩ := ha.pt h
  exact ⟨t, a1, fun X g => pts_one (a2 X g)⟩
end

section
variable {G : Gi} {n : Nat} {N : List Str} (L : Lk G) (F : Fns G n)
include L F
mutual
theorem chkE_ok : ∀ (e : E) (sc : Scope) (x : Expr), chkE G.pg N e sc x = true → EOk G n N sc x e
  | .var i, sc, x, h => by
    simp only [chkE] at h
    split at h <;> first | (cases h; done) | skip
    simp only [Bool.and_eq_true, decide_eq_true_eq] at h
    exact ok_var h.1 h.2.1 h.2.2
  | .cst v, sc, x, h => by
    simp only [chkE] at h
    split at h <;> first | (cases h; done) | skip
    exact ok_cst h
  | .glo k, sc, x, h => by
    simp only [chkE] at h
    split at h <;> first | (cases h; done) | skip
    rw [Bool.and_eq_true, Bool.and_eq_true] at h
    obtain ⟨h1, h2, h3⟩ := h
    split at h1 <;> first | (cases h1; done) | skip
    rename_i q e0
    exact ok_glo L e0 (of_decide_eq_true h1) h2 h3
  | .dnw, sc, x, h => by
    simp only [chkE] at h
    split at h <;> first | (cases h; done) | skip
    exact .plain ⟨_, se_dnw, fun X g => pe_dnewK⟩ rfl
  | .bin o a b, sc, x, h => by
    simp only [chkE] at h
    split at h <;> first | (cases h; done) | skip
    simp only [Bool.and_eq_true, decide_eq_true_eq] at h
    obtain ⟨rfl, h1, h2⟩ := h
    exact ok_bin (chkE_ok a sc _ h1) (chkE_ok b sc _ h2)
  | .cmp o a b, sc, x, h => by
    simp only [chkE] at h
    split at h <;> first | (cases h; done) | skip
    simp only [Bool.and_eq_true, decide_eq_true_eq] at h
    obtain ⟨⟨rfl, h0⟩, h1, h2⟩ := h
    exact ok_cmp h0 (chkE_ok a sc _ h1) (chkE_ok b sc _ h2)
  | .chn o p a b c, sc, x, h => by
    simp only [chkE] at h
    split at h <;> first | (cases h; done) | skip
    simp only [Bool.and_eq_true, decide_eq_true_eq] at h
    obtain ⟨⟨⟨rfl, rfl⟩, h3, h4⟩, ⟨h1, h2⟩, h5⟩ := h
    exact ok_chn h3 h4 (chkE_ok a sc _ h1) (chkE_ok b sc _ h2) (chkE_ok c sc _ h5)
  | .and a b, sc, x, h => by
    simp only [chkE] at h
    split at h <;> first | (cases h; done) | skip
    rw [Bool.and_eq_true] at h
    obtain ⟨h1, h2⟩ := h
    split at h2
    · simp only [Bool.and_eq_true] at h2
      exact ok_and2 h2.2.1 h2.2.2 (chkE_ok a sc _ h1) (chkE_ok b sc _ h2.1)
    · rw [Bool.and_eq_true] at h2
      exact ok_andM h2.2 (chkE_ok a sc _ h1) (chkE_ok b sc _ h2.1)
  | .or a b, sc, x, h => by
    simp only [chkE] at h
    split at h <;> first | (cases h; done) | skip
    rw [Bool.and_eq_true] at h
    obtain ⟨h1, h2⟩ := h
    split at h2
    · simp only [Bool.and_eq_true] at h2
      exact ok_or2 h2.2.1 h2.2.2 (chkE_ok a sc _ h1) (chkE_ok b sc _ h2.1)
    · rw [Bool.and_eq_true] at h2
      exact ok_orM h2.2 (chkE_ok a sc _ h1) (chkE_ok b sc _ h2.1)
  | .not a, sc, x, h => by
    simp only [chkE] at h
    split at h <;> first | (cases h; done) | skip
    rw [Bool.and_eq_true] at h
    exact ok_not h.2 (chkE_ok a sc _ h.1)
  | .neg a, sc, x, h => by
    simp only [chkE] at h
    split at h <;> first | (cases h; done) | skip
    exact ok_neg (chkE_ok a sc _ h)
  | .ife c a b, sc, x, h => by
    simp only [chkE] at h
    split at h <;> first | (cases h; done) | skip
    simp only [Bool.and_eq_true] at h
    exact ok_ife h.1.2 (chkE_ok c sc _ h.1.1) (chkE_ok a sc _ h.2.1) (chkE_ok b sc _ h.2.2)
  | .idx a i, sc, x, h => by
    simp only [chkE] at h
    split at h <;> first | (cases h; done) | skip
    rw [Bool.and_eq_true, Bool.and_eq_true] at h
    exact ok_idx h.1 (chkE_ok a sc _ h.2.1) (chkE_ok i sc _ h.2.2)
  | .slc a none none, sc, x, h => by
    unfold chkE at h
    split at h <;> first | (cases h; done) | skip
    rename_i y l r p q
    rw [Bool.and_eq_true, Bool.and_eq_true] at h
    obtain ⟨⟨h1, h2⟩, h3⟩ := h
    cases l <;> first | (exact Bool.noConfusion h2) | skip
    cases r <;> first | (exact Bool.noConfusion h3) | skip
    exact ok_slc (chkE_ok a sc _ h1) ⟨_, so_none, fun X g => po_none⟩ ⟨_, so_none, fun X g => po_none⟩
  | .slc a none (some f), sc, x, h => by
    unfold chkE at h
    split at h <;> first | (cases h; done) | skip
    rename_i y l r p q
    rw [Bool.and_eq_true, Bool.and_eq_true] at h
    obtain ⟨⟨h1, h2⟩, h3⟩ := h
    cases l <;> first | (exact Bool.noConfusion h2) | skip
    cases r <;> first | (exact Bool.noConfusion h3) | skip
    exact ok_slc (chkE_ok a sc _ h1) ⟨_, so_none, fun X g => po_none⟩ (ok_part (lo := some f) (l := some _) (chkE_ok f sc _ h3))
  | .slc a (some e) none, sc, x, h => by
    unfold chkE at h
    split at h <;> first | (cases h; done) | skip
    rename_i y l r p q
    rw [Bool.and_eq_true, Bool.and_eq_true] at h
    obtain ⟨⟨h1, h2⟩, h3⟩ := h
    cases l <;> first | (exact Bool.noConfusion h2) | skip
    cases r <;> first | (exact Bool.noConfusion h3) | skip
    exact ok_slc (chkE_ok a sc _ h1) (ok_part (lo := some e) (l := some _) (chkE_ok e sc _ h2)) ⟨_, so_none, fun X g => po_none⟩
  | .slc a (some e) (some f), sc, x, h => by
    unfold chkE at h
    split at h <;> first | (cases h; done) | skip
    rename_i y l r p q
    rw [Bool.and_eq_true, Bool.and_eq_true] at h
    obtain ⟨⟨h1, h2⟩, h3⟩ := h
    cases l <;> first | (exact Bool.noConfusion h2) | skip
    cases r <;> first | (exact Bool.noConfusion h3) | skip
    exact ok_slc (chkE_ok a sc _ h1) (ok_part (lo := some e) (l := some _) (chkE_ok e sc _ h2)) (ok_part (lo := some f) (l := some _) (chkE_ok f sc _ h3))
  | .rev a, sc, x, h => by
    simp only [chkE] at h
    split at h <;> first | (cases h; done) | skip
    exact ok_rev (chkE_ok a sc _ h)
  | .tup es, sc, x, h => by
    simp only [chkE] at h
    split at h <;> first | (cases h; done) | skip
    simp only [Bool.and_eq_true, decide_eq_true_eq] at h
    exact ok_tup h.1 (chkEs_ok es sc _ h.2)
  | .lst es, sc, x, h => by
    simp only [chkE] at h
    split at h <;> first | (cases h; done) | skip
    simp only [Bool.and_eq_true, decide_eq_true_eq] at h
    exact ok_lst h.1 (chkEs_ok es sc _ h.2)
  | .cal f sh es ks, sc, x, h => by
    simp only [chkE] at h
    split at h <;> first | (cases h; done) | skip
    split at h <;> first | (cases h; done) | skip
    rename_i d hd
    split at h <;> first | (cases h; done) | skip
    rename_i np kn ar hs
    simp only [Bool.and_eq_true, decide_eq_true_eq] at h
    obtain ⟨⟨⟨⟨⟨⟨⟨h1, h2⟩, h3⟩, h4⟩, h5⟩, h6⟩, h7⟩, h8, h9⟩ := h
    obtain ⟨l1, l2⟩ := len_of _ _ _ _ _ h8
    exact ok_cal L F hd hs h1 h2 h3 h4 h5 h6 h7 l1 l2 (chkEs_ok es sc _ h8) (chkEs_ok ks sc _ h9)
  | .blt b es, sc, x, h => by
    simp only [chkE] at h
    split at h <;> first | (cases h; done) | skip
    simp only [Bool.and_eq_true, decide_eq_true_eq] at h
    obtain ⟨⟨⟨rfl, h2⟩, h3⟩, h4⟩ := h
    exact ok_blt L h3 h2 (len_of _ _ _ _ _ h4).1 (chkEs_ok es sc _ h4)
  | .isi a ts many, sc, x, h => by
    simp only [chkE] at h
    split at h <;> first | (cases h; done) | skip
    simp only [Bool.and_eq_true, decide_eq_true_eq] at h
    obtain ⟨⟨⟨⟨⟨rfl, h2⟩, h3⟩, h4⟩, h5⟩, h6⟩ := h
    split at h6 <;> first | (cases h6; done) | skip
    · split at h6 <;> first | (cases h6; done) | skip
      simp only [Bool.and_eq_true, decide_eq_true_eq] at h6
      obtain ⟨rfl, h7⟩ := h6
      exact ok_isi1 L h2 h7 h3 (chkE_ok a sc _ h5)
    · exact ok_isiT L h4 h2 h6 h3 (chkE_ok a sc _ h5)
  | .mth m a es, sc, x, h => by
    simp only [chkE] at h
    split at h <;> first | (cases h; done) | skip
    simp only [Bool.and_eq_true, decide_eq_true_eq] at h
    obtain ⟨⟨⟨⟨rfl, h2⟩, h3⟩, h4⟩, h5⟩ := h
    split at h5
    · split at h5 <;> first | (cases h5; done) | skip
      exact ok_pop h2 h3 (chkE_ok a sc _ h4)
    · simp only [Bool.and_eq_true, decide_eq_true_eq] at h5
      obtain ⟨h7, h8⟩ := h5
      exact ok_app h2 h3 (len_of _ _ _ _ _ h8).1 h7 (chkE_ok a sc _ h4) (chkEs_ok es sc _ h8)
  | .com t it none e, sc, x, h => by
    unfold chkE at h
    split at h <;> first | (cases h; done) | skip
    rename_i elt tg iter ifs scope p
    simp only [Bool.and_eq_true] at h
    obtain ⟨⟨⟨h1, h2⟩, h3⟩, ⟨h4, h5⟩, h6⟩ := h
    cases ifs <;> first | (exact Bool.noConfusion h5) | skip
    exact ok_com (c := none) h1 h2 h3 (chkI_ok it sc _ _ h4) ⟨tYes, rfl, fun X g => pts_nil⟩ (chkE_ok e _ _ h6)
  | .com t it (some c) e, sc, x, h => by
    unfold chkE at h
    split at h <;> first | (cases h; done) | skip
    rename_i elt tg iter ifs scope p
    simp only [Bool.and_eq_true] at h
    obtain ⟨⟨⟨h1, h2⟩, h3⟩, ⟨h4, h5⟩, h6⟩ := h
    cases ifs with
    | nil => exact Bool.noConfusion h5
    | cons y r =>
      cases r with
      | cons _ _ => exact Bool.noConfusion h5
      | nil =>
        have h5' : (chkE G.pg N c (relS scope sc) y && tstB y) = true := h5
        rw [Bool.and_eq_true] at h5'
        exact ok_com (c := some c) h1 h2 h3 (chkI_ok it sc _ _ h4) (ok_cond h5'.2 (chkE_ok c _ _ h5'.1)) (chkE_ok e _ _ h6)
  | .lr1 a, sc, x, h => by
    simp only [chkE] at h
    split at h <;> first | (cases h; done) | skip
    simp only [Bool.and_eq_true, decide_eq_true_eq] at h
    obtain ⟨⟨⟨⟨⟨rfl, h2⟩, rfl⟩, h4⟩, h5⟩, h6⟩ := h
    exact ok_lr1 L h2 h4 h5 (chkE_ok a sc _ h6)
  | .lr2 a b, sc, x, h => by
    simp only [chkE] at h
    split at h <;> first | (cases h; done) | skip
    simp only [Bool.and_eq_true, decide_eq_true_eq] at h
    obtain ⟨⟨⟨⟨⟨⟨rfl, h2⟩, rfl⟩, h4⟩, h5⟩, h6⟩, h7, h8⟩ := h
    exact ok_lr2 L h2 h4 h5 h6 (chkE_ok a sc _ h7) (chkE_ok b sc _ h8)
  | .lset a, sc, x, h => by
    simp only [chkE] at h
    split at h <;> first | (cases h; done) | skip
    simp only [Bool.and_eq_true, decide_eq_true_eq] at h
    obtain ⟨⟨⟨⟨⟨rfl, h2⟩, rfl⟩, h4⟩, h5⟩, h6⟩ := h
    exact ok_lset L h2 h4 h5 (chkE_ok a sc _ h6)
theorem chkEs_ok : ∀ (es : Es) (sc : Scope) (xs : List Expr), chkEs G.pg N es sc xs = true → PAx G n N sc xs es
  | .nil, sc, [], h => ⟨_, sa_nil, fun X g => ⟨pa_nil, fun kws e => by
      cases kws with
      | nil => exact pk_nil
      | cons _ _ => cases e⟩⟩
  | .nil, sc, _ :: _, h => by cases h
  | .cons _ _, sc, [], h => by cases h
  | .cons e es, sc, y :: ys, h => by
    simp only [chkEs, Bool.and_eq_true] at h
    obtain ⟨t, a1, a2⟩ := (chkE_ok e sc y h.2.1).pe
    obtain ⟨ts, b1, b2⟩ := chkEs_ok es sc ys h.2.2
    refine ⟨_, sa_cons a1 b1, fun X g => ⟨pa_cons (a2 X g) (b2 X g).1 (star_cons h.1), fun kws e => ?_⟩⟩
    cases kws with
    | nil => cases e
    | cons k kws =>
      obtain ⟨nm, v, p⟩ := k
      cases e
      exact pk_cons (a2 X g) ((b2 X g).2 kws rfl)
theorem chkI_ok : ∀ (it : MP.It) (sc : Scope) (tg x : Expr), chkI G.pg N it sc tg x = true → PIx G n N sc tg x it
  | .seq e, sc, tg, x, h => ok_seq (chkE_ok e sc x h)
  | .rg1 a, sc, tg, x, h => by
    simp only [chkI] at h
    split at h <;> first | (cases h; done) | skip
    simp only [Bool.and_eq_true, decide_eq_true_eq] at h
    obtain ⟨⟨⟨rfl, h1⟩, h2⟩, h3⟩ := h
    exact ok_rg1 L h1 h2 (chkE_ok a sc _ h3)
  | .rg2 a b, sc, tg, x, h => by
    simp only [chkI] at h
    split at h <;> first | (cases h; done) | skip
    simp only [Bool.and_eq_true, decide_eq_true_eq] at h
    obtain ⟨⟨⟨⟨rfl, h1⟩, h2⟩, h3⟩, h4, h5⟩ := h
    exact ok_rg2 L h1 h2 h3 (chkE_ok a sc _ h4) (chkE_ok b sc _ h5)
  | .zip a b, sc, tg, x, h => by
    simp only [chkI] at h
    split at h <;> first | (cases h; done) | skip
    simp only [Bool.and_eq_true, decide_eq_true_eq] at h
    obtain ⟨⟨⟨⟨⟨rfl, h1⟩, h2⟩, h3⟩, h6⟩, h4, h5⟩ := h
    exact ok_zip L h1 h2 h3 h6 (chkE_ok a sc _ h4) (chkE_ok b sc _ h5)
  | .enu a, sc, tg, x, h => by
    simp only [chkI] at h
    split at h <;> first | (cases h; done) | skip
    simp only [Bool.and_eq_true, decide_eq_true_eq] at h
    obtain ⟨⟨⟨⟨rfl, h1⟩, h2⟩, h6⟩, h4⟩ := h
    exact ok_enu L h1 h2 h6 (chkE_ok a sc _ h4)
end
end
end MP

set_option Elab.async false
set_option linter.all false
set_option maxRecDepth 100000
set_option autoImplicit false
set_option maxHeartbeats 4000000
/-! MP, part j: the look at statements and defs, and that it is right. -/
namespace MP
open PySem PySem.Spec PyProof.Rows L2

/-! ### when the stores of a pair are swapped -/
theorem blk_fn {env : Env} (h : env.scope.kind = .function) : env.blockKind = .function := by
  unfold Env.blockKind
  rw [h]
  rfl
theorem kind_loc {env : Env} {x : Str} (h : env.scope.names.lookup x = some .local) : (env.kindOf x == some NameKind.local) = true := by
  unfold Env.kindOf
  rw [h]
  rfl
theorem kind_cell {env : Env} {x : Str} (h : env.scope.names.lookup x = some .cell) : (env.kindOf x == some NameKind.local) = false := by
  unfold Env.kindOf
  rw [h]
  rfl
theorem swap2 {env : Env} {x y : Str} {px py p q : Pos} {a b : Expr} {k j : Nat} (hk : env.scope.kind = .function) (hx : env.scope.names.lookup x = some .local) (hy : env.scope.names.lookup y = some .local) (hl : (py.line == px.line) = true) (hn : (x == y) = false)
    (ha : noStar a = true) (hb : noStar b = true) (hf : ([a, b].all (foldedForSure 8)) = false) (hc : ([a, b].all (constantsAlone 8)) = false) :
    swappedStores [.Tuple [.Name x px, .Name y py] k p] (.Tuple [a, b] j q) env = pure (some [x, y]) := by
  have ed : ([x, y] : List Str).eraseDups = [x, y] := by
    have hn' : (y == x) = false := by
      have : x ≠ y := by simpa using hn
      simpa using fun z => this z.symm
    simp [List.eraseDups_cons, List.filter, hn']
  unfold swappedStores
  simp only [List.filterMap_cons, List.filterMap_nil, kind_loc hx, kind_loc hy, hl, blk_fn hk, hf, hc, ed, List.length_cons, List.length_nil, List.head?_cons, Option.map_some, Option.getD_some, Expr.pos]
  simp
  rw [if_neg, ed]
  · rfl
  · rintro (h | h)
    · cases a <;> first | (exact Bool.noConfusion ha) | (exact Bool.noConfusion h)
    · cases b <;> first | (exact Bool.noConfusion hb) | (exact Bool.noConfusion h)
theorem swap3 {env : Env} {x y z : Str} {px py pz p q : Pos} {a b c : Expr} {k j : Nat} (hk : env.scope.kind = .function) (hx : env.scope.names.lookup x = some .local) (hy : env.scope.names.lookup y = some .local) (hz : env.scope.names.lookup z = some .local)
    (hl : (py.line == px.line) = true) (hl2 : (pz.line == px.line) = true) (hn : x ≠ y) (hn2 : x ≠ z) (hn3 : y ≠ z)
    (ha : noStar a = true) (hb : noStar b = true) (hc' : noStar c = true) (hf : ([a, b, c].all (foldedForSure 8)) = false) (hc : ([a, b, c].all (constantsAlone 8)) = false) :
    swappedStores [.Tuple [.Name x px, .Name y py, .Name z pz] k p] (.Tuple [a, b, c] j q) env = pure (some [x, y, z]) := by
  have ed : ([x, y, z] : List Str).eraseDups = [x, y, z] := by
    have h1 : (y == x) = false := by simpa using fun w => hn w.symm
    have h2 : (z == x) = false := by simpa using fun w => hn2 w.symm
    have h3 : (z == y) = false := by simpa using fun w => hn3 w.symm
    simp [List.eraseDups_cons, List.filter, h1, h2, h3]
  unfold swappedStores
  simp only [List.filterMap_cons, List.filterMap_nil, kind_loc hx, kind_loc hy, kind_loc hz, hl, hl2, blk_fn hk, hf, hc, ed, List.length_cons, List.length_nil, List.head?_cons, Option.map_some, Option.getD_some, Expr.pos]
  simp
  rw [if_neg, ed]
  · rfl
  · rintro (h | h | h)
    · cases a <;> first | (exact Bool.noConfusion ha) | (exact Bool.noConfusion h)
    · cases b <;> first | (exact Bool.noConfusion hb) | (exact Bool.noConfusion h)
    · cases c <;> first | (exact Bool.noConfusion hc') | (exact Bool.noConfusion h)
theorem swap_len {env : Env} {ts vs : List Expr} {p q : Pos} {k j : Nat} (h : (ts.length == 2 || ts.length == 3) = false) : swappedStores [.Tuple ts k p] (.Tuple vs j q) env = pure none := by
  unfold swappedStores
  simp only []
  rw [if_pos (by rw [h]; rfl)]
theorem swap_fold {env : Env} {ts vs : List Expr} {p q : Pos} {k j : Nat} (h : (vs.all (foldedForSure 8)) = true) : swappedStores [.Tuple ts k p] (.Tuple vs j q) env = pure none := by
  unfold swappedStores
  simp only []
  split
  · rfl
  · split
    · rfl
    · split
      · rfl
      · rfl
/-- a name among them is no local one -/
theorem swap_cell {env : Env} {ts vs : List Expr} {p q : Pos} {k j : Nat} {x : Str} {px : Pos} (hm : Expr.Name x px ∈ ts) (h : (env.kindOf x == some NameKind.local) = false) : swappedStores [.Tuple ts k p] (.Tuple vs j q) env = pure none := by
  unfold swappedStores
  simp only []
  split
  · rfl
  · split
    · rfl
    · rw [if_pos]
      rw [Bool.or_eq_true]
      left
      have key : ∀ f : Expr → Option Str, f (.Name x px) = none → ((ts.filterMap f).length != ts.length) = true := fun f e => by
        have := List.length_filterMap_lt_length_iff_exists.mpr ⟨_, hm, e⟩
        simpa using Nat.ne_of_lt this
      apply key
      simp [h]
/-- no pair on the right -/
theorem swap_other {env : Env} {tg e : Expr} (h : (match e with
    | .Tuple .. => false
    | _ => true) = true) : swappedStores [tg] e env = pure none := by
  unfold swappedStores
  cases tg <;> cases e <;> first | rfl | exact Bool.noConfusion h

/-! ### the look -/
def noComp : Expr → Bool
  | .ListComp .. => false
  | .SetComp .. => false
  | .DictComp .. => false
  | _ => true
def noTup : Expr → Bool
  | .Tuple .. => false
  | _ => true
def augB : BOp → Bool
  | .add => true
  | .sub => true
  | _ => false
/-- a comprehension's value goes straight into the name -/
def sweB (sc : Scope) (nm : Str) (py : Pos) : Expr → Bool
  | .ListComp _ _ scope p => decide (sc.names.lookup nm = some .local) && ((py.line == p.line) && !(scope.names.any fun (n, k) => n == nm && (k == .local || k == .cell)))
  | _ => false
/-- a, b = x, y; a, b, c = x, y, z with plain local names -/
def parB (sc : Scope) : List Expr → List Expr → Bool
  | [.Name x px, .Name y py], [a, b] => decide (sc.names.lookup x = some .local) && decide (sc.names.lookup y = some .local) && ((py.line == px.line) && !(x == y)) && (noStar a && noStar b) && (!([a, b].all (foldedForSure 8)) && !([a, b].all (constantsAlone 8)))
  | [.Name x px, .Name y py, .Name z pz], [a, b, c] => decide (sc.names.lookup x = some .local) && decide (sc.names.lookup y = some .local) && decide (sc.names.lookup z = some .local) && ((py.line == px.line) && (pz.line == px.line)) && (decide (x ≠ y) && decide (x ≠ z) && decide (y ≠ z)) &&
    (noStar a && noStar b && noStar c) && (!([a, b, c].all (foldedForSure 8)) && !([a, b, c].all (constantsAlone 8)))
  | _, _ => false
/-- no swap -/
def nopB (sc : Scope) (ts vs : List Expr) : Bool := !(ts.length == 2 || ts.length == 3) || vs.all (foldedForSure 8) || ts.any fun t => match t with
  | .Name x _ => decide (sc.names.lookup x = some .cell)
  | _ => false
/-- what an assignment's sides must be -/
def asgB (sc : Scope) (tg y : Expr) : Bool := match tg with
  | .Name nm py => noComp y || sweB sc nm py y
  | .Tuple ts _ _ => match y with
    | .Tuple vs _ _ => parB sc ts vs || nopB sc ts vs
    | _ => true
  | _ => false
section
variable (pg : Pg) (N : List Str)
mutual
def chkS : S → Scope → Stmt → Bool
  | .exp e, sc, x => match x with
    | .Expr y _ => noComp y && chkE pg N e sc y
    | _ => false
  | .asg t e, sc, x => match x with
    | .Assign [tg] y p => tgB N sc t tg && (chkE pg N e sc y && asgB sc tg y)
    | _ => false
  | .put a i e, sc, x => match x with
    | .Assign [.Subscript y z _] w _ => (match z with
      | .Slice .. => false
      | _ => true) && (chkE pg N e sc w && (chkE pg N a sc y && chkE pg N i sc z))
    | _ => false
  | .aug i o e, sc, x => match x with
    | .AugAssign (.Name nm _) op y _ => (decide (N[i]? = some nm) && locB sc nm && decide (op = bopOf o) && augB o) && chkE pg N e sc y
    | _ => false
  | .agi a i o e, sc, x => match x with
    | .AugAssign (.Subscript y z _) op w _ => ((match z with
      | .Slice .. => false
      | _ => true) && decide (op = bopOf o) && augB o) && (chkE pg N a sc y && (chkE pg N i sc z && chkE pg N e sc w))
    | _ => false
  | .iff c a b, sc, x => match x with
    | .If y as bs _ => (chkE pg N c sc y && tstB y) && (chkSs a sc as && chkSs b sc bs)
    | _ => false
  | .whl c b, sc, x => match x with
    | .While y bs [] _ => (chkE pg N c sc y && tstB y) && chkSs b sc bs
    | _ => false
  | .for t it b, sc, x => match x with
    | .For tg iter bs [] _ => (tgB N sc t tg && noSet iter) && (chkI pg N it sc tg iter && chkSs b sc bs)
    | _ => false
  | .ret e, sc, x => match x with
    | .Return (some y) _ => chkE pg N e sc y
    | _ => false
  | .rtn, _, x => match x with
    | .Return none _ => true
    | _ => false
  | .brk, _, x => match x with
    | .Break _ => true
    | _ => false
  | .cnt, _, x => match x with
    | .Continue _ => true
    | _ => false
  | .pas, _, x => match x with
    | .Pass _ => true
    | _ => false
  | .rai _ _, _, x => match x with
    | .Raise _ _ _ => true
    | _ => false
def chkSs : Ss → Scope → List Stmt → Bool
  | .nil, _, xs => match xs with
    | [] => true
    | _ => false
  | .cons s ss, sc, xs => match xs with
    | y :: ys => chkS s sc y && chkSs ss sc ys
    | [] => false
end
end

structure GdS (G : Gi) (n : Nat) (N : List Str) (sc : Scope) (X : Cx) : Prop extends Gd G n N sc X where
  fnT : ∀ y, X.fn y = true
  kind : sc.kind = .function
def PSx (G : Gi) (n : Nat) (N : List Str) (sc : Scope) (x : Stmt) (s : S) : Prop := ∃ t, SS G.K (cfg G.pg n) t s ∧ ∀ X, GdS G n N sc X → PS X x t
def PBx (G : Gi) (n : Nat) (N : List Str) (sc : Scope) (xs : List Stmt) (ss : Ss) : Prop := ∃ t, SB G.K (cfg G.pg n) t ss ∧ ∀ X, GdS G n N sc X → PSs X xs t
section
variable {G : Gi} {n : Nat} {N : List Str} {sc : Scope} {x y z w : Expr} {e a b c : E}
theorem GdS.loc {X : Cx} (g : GdS G n N sc X) {nm : Str} (h : locB sc nm = true) : Loc X.env.scope nm ∧ (X.fn nm = true ∨ X.env.scope.names.lookup nm = some .local) := by
  rw [g.eS]
  exact ⟨locB_ok h, .inl (g.fnT nm)⟩
theorem GdS.tg {X : Cx} (g : GdS G n N sc X) {t : Tg} (h : tgB N sc t x = true) : PG X x (tgG G.K t) := by
  rw [← g.eK]
  exact pg_tg g.eN g.nd g.calm (fun y hy => g.loc hy) h
theorem GdS.kindX {X : Cx} (g : GdS G n N sc X) : X.env.scope.kind = .function := by
  rw [g.eS]
  exact g.kind
theorem no_swe {t : Option Expr} {l : Nat} {env : Env} (h : noComp y = true) : swapsWith y t l env = pure false := by
  cases y <;> first
    | (exact Bool.noConfusion h)
    | rfl
theorem sw_tup {ts : List Expr} {k l : Nat} {p : Pos} {env : Env} : swapsWithSole [.Tuple ts k p] y l env = pure false := by
  cases y <;> rfl
theorem sw_sub {l : Nat} {p : Pos} {env : Env} : swapsWithSole [.Subscript x z p] y l env = pure false := by
  cases y <;> rfl
theorem PassesOwn.of {X : Cx} (h : X.xe = fun _ _ => False) : PassesOwn (model X.prog X.w) X.A X.env X.xe := by
  rw [h]
  exact PassesOwn.never
theorem ok_exp {p : Pos} (h : noComp y = true) (ha : EOk G n N sc y a) : PSx G n N sc (.Expr y p) (.exp a) := by
  obtain ⟨t, a1, a2⟩ := ha.pe
  exact ⟨_, ss_exp a1, fun X g => ps_expr (a2 X g.toGd) (no_swe h)⟩
theorem ok_asgN {nm : Str} {py p : Pos} {i : Nat} (hi : N[i]? = some nm) (hl : locB sc nm = true) (h : noComp y = true) (ha : EOk G n N sc y a) : PSx G n N sc (.Assign [.Name nm py] y p) (.asg (.nm i) a) := by
  obtain ⟨t, a1, a2⟩ := ha.pe
  refine ⟨_, ss_asg a1 sg_nm, fun X g => ?_⟩
  obtain ⟨l1, l2⟩ := g.loc hl
  exact ps_set (by rw [g.eN]; exact g.nd) (by rw [g.eN]; exact hi) l1 (a2 X g.toGd) (no_swe h) l2
theorem ok_asgC {nm : Str} {py p q : Pos} {i : Nat} {t : Tg} {it : MP.It} {c : Option E} {elt tg iter : Expr} {ifs : List Expr} {scope : Scope} (hi : N[i]? = some nm) (hs : sweB sc nm py (.ListComp elt [⟨tg, iter, ifs, 0⟩] scope q) = true)
    (h1 : tgB N scope t tg = true) (h2 : blkC N sc scope (ownB N t) = true) (h3 : noSet iter = true) (hit : PIx G n N sc tg iter it)
    (hc : ∃ tt, SCo G.K (cfg G.pg n) tt c ∧ ∀ X, Gd G n N (relS scope sc) X → PTs X ifs tt) (he : EOk G n N (relS scope sc) elt e) : PSx G n N sc (.Assign [.Name nm py] (.ListComp elt [⟨tg, iter, ifs, 0⟩] scope q) p) (.asg (.nm i) (.com t it c e)) := by
  obtain ⟨wi, i1, i2⟩ := hit
  obtain ⟨tt, c1, c2⟩ := hc
  obtain ⟨te, e1, e2⟩ := he.pe
  refine ⟨_, ss_asg (se_com i1 (sg_tg t) c1 e1) sg_nm, fun X g => ?_⟩
  have hb : BlkOk X.N X.env.scope scope (ownB N t) := by
    rw [g.eN, g.eS]
    exact blkOk_by h2
  simp only [sweB, Bool.and_eq_true, decide_eq_true_eq, Bool.not_eq_true'] at hs
  obtain ⟨s1, s2, s3⟩ := hs
  have lk : X.env.scope.names.lookup nm = some .local := by
    rw [g.eS]
    exact s1
  have q := ps_setLc (pos := q) (spos := p) (py := py) g.calm (by rw [g.eN]; exact g.nd) (by rw [g.eN]; exact hi) lk (sw_true g.kindX lk s2 s3) (i2 X g.toGd) hb (g := tgG G.K t) (tt := tt) (te := te) (elt := elt) (ifs := ifs)
    (fun s H C cl fp => by rw [← g.eK]; exact pg_tg (show (X.blk s H scope (compEnvC scope cl C X.env) fp).N = N from g.eN) g.nd g.calm (fun y hy => loc_blk g.toGd hy) h1)
    (fun s H C cl fp => c2 _ (gd_blk g.toGd)) (fun s H C cl fp => e2 _ (gd_blk g.toGd)) (no_fold h3)
  rw [own_fst] at q
  exact q
theorem ok_asgT {ts : List Expr} {k : Nat} {tp p : Pos} {t : Tg} (ht : tgB N sc t (.Tuple ts k tp) = true) (hw : ∀ env : Env, env.scope = sc → swappedStores [.Tuple ts k tp] y env = pure none) (ha : EOk G n N sc y a) : PSx G n N sc (.Assign [.Tuple ts k tp] y p) (.asg t a) := by
  obtain ⟨ta, a1, a2⟩ := ha.pe
  exact ⟨_, ss_asg a1 (sg_tg t), fun X g => ps_asg (a2 X g.toGd) (g.tg ht) sw_tup (hw _ g.eS) rfl⟩
theorem nop_ok {ts vs : List Expr} {k j : Nat} {p q : Pos} (h : nopB sc ts vs = true) : ∀ env : Env, env.scope = sc → swappedStores [.Tuple ts k p] (.Tuple vs j q) env = pure none := by
  intro env he
  unfold nopB at h
  rw [Bool.or_eq_true, Bool.or_eq_true] at h
  rcases h with (h | h) | h
  · exact swap_len (by simpa using h)
  · exact swap_fold h
  · obtain ⟨t, h1, h2⟩ := List.any_eq_true.mp h
    cases t <;> first
      | (exact Bool.noConfusion h2)
      | (rename_i nm pn
         exact swap_cell h1 (kind_cell (by rw [he]; exact of_decide_eq_true h2)))
theorem ok_par2 {nm nm2 : Str} {px py tp q p : Pos} {k j : Nat} {u v : Expr} {i l : Nat} {es : Es} (hi : N[i]? = some nm) (hl : N[l]? = some nm2) (hp : parB sc [.Name nm px, .Name nm2 py] [u, v] = true) (ha : PAx G n N sc [u, v] es) :
    PSx G n N sc (.Assign [.Tuple [.Name nm px, .Name nm2 py] k tp] (.Tuple [u, v] j q) p) (.asg (.tp [i, l]) (.tup es)) := by
  obtain ⟨ta, a1, a2⟩ := ha
  simp only [parB, Bool.and_eq_true, decide_eq_true_eq, Bool.not_eq_true'] at hp
  obtain ⟨⟨⟨⟨h1, h2⟩, h3, h4⟩, h5, h6⟩, h7, h8⟩ := hp
  refine ⟨_, ss_par2 a1, fun X g => ?_⟩
  have l1 : X.env.scope.names.lookup nm = some .local := by rw [g.eS]; exact h1
  have l2 : X.env.scope.names.lookup nm2 = some .local := by rw [g.eS]; exact h2
  have ne : i ≠ l := by
    intro z
    subst z
    rw [hi] at hl
    cases hl
    simp at h4
  exact ps_par g.calm (by rw [g.eN]; exact g.nd) (by rw [g.eN]; exact hi) (by rw [g.eN]; exact hl) ne l1 l2 (a2 X g.toGd).1 (swap2 g.kindX l1 l2 h3 h4 h5 h6 h7 h8) sw_tup
theorem ok_par3 {nm nm2 nm3 : Str} {px py pz tp q p : Pos} {k j : Nat} {u v w : Expr} {i l o : Nat} {es : Es} (hi : N[i]? = some nm) (hl : N[l]? = some nm2) (ho : N[o]? = some nm3) (hp : parB sc [.Name nm px, .Name nm2 py, .Name nm3 pz] [u, v, w] = true) (ha : PAx G n N sc [u, v, w] es) :
    PSx G n N sc (.Assign [.Tuple [.Name nm px, .Name nm2 py, .Name nm3 pz] k tp] (.Tuple [u, v, w] j q) p) (.asg (.tp [i, l, o]) (.tup es)) := by
  obtain ⟨ta, a1, a2⟩ := ha
  simp only [parB, Bool.and_eq_true, decide_eq_true_eq, Bool.not_eq_true'] at hp
  obtain ⟨⟨⟨⟨⟨⟨h1, h2⟩, h3⟩, h4, h5⟩, ⟨n1, n2⟩, n3⟩, ⟨s1, s2⟩, s3⟩, h7, h8⟩ := hp
  refine ⟨_, ss_par3 a1, fun X g => ?_⟩
  have l1 : X.env.scope.names.lookup nm = some .local := by rw [g.eS]; exact h1
  have l2 : X.env.scope.names.lookup nm2 = some .local := by rw [g.eS]; exact h2
  have l3 : X.env.scope.names.lookup nm3 = some .local := by rw [g.eS]; exact h3
  have e1 : i ≠ l := by
    intro z
    subst z
    rw [hi] at hl
    cases hl
    exact n1 rfl
  have e2 : i ≠ o := by
    intro z
    subst z
    rw [hi] at ho
    cases ho
    exact n2 rfl
  have e3 : l ≠ o := by
    intro z
    subst z
    rw [hl] at ho
    cases ho
    exact n3 rfl
  exact ps_par3 g.calm (by rw [g.eN]; exact g.nd) (by rw [g.eN]; exact hi) (by rw [g.eN]; exact hl) (by rw [g.eN]; exact ho) e1 e2 e3 l1 l2 l3 (a2 X g.toGd).1 (swap3 g.kindX l1 l2 l3 h4 h5 n1 n2 n3 s1 s2 s3 h7 h8) sw_tup
theorem ok_put {p1 p : Pos} (hz : (match z with
      | .Slice .. => false
      | _ => true) = true) (he : EOk G n N sc w e) (ha : EOk G n N sc y a) (hb : EOk G n N sc z b) : PSx G n N sc (.Assign [.Subscript y z p1] w p) (.put a b e) := by
  obtain ⟨te, e1, e2⟩ := he.pe
  obtain ⟨ta, a1, a2⟩ := ha.pe
  obtain ⟨tb, b1, b2⟩ := hb.pe
  refine ⟨_, ss_put e1 a1 b1, fun X g => ps_asg (e2 X g.toGd) (pg_sub (a2 X g.toGd) (b2 X g.toGd) set_list ?_) sw_sub ?_ rfl⟩
  · intro v
    cases z <;> first
      | (exact Bool.noConfusion hz)
      | rfl
  · unfold swappedStores
    cases w <;> rfl
theorem ip_op {X : Cx} {o : BOp} (h : augB o = true) : PIp X (bopOf o) (ipM o) := by
  cases o <;> first
    | exact ip_add
    | exact ip_sub
    | (exact Bool.noConfusion h)
theorem ok_aug {nm : Str} {pn p : Pos} {i : Nat} {o : BOp} (hi : N[i]? = some nm) (hl : locB sc nm = true) (ho : augB o = true) (ha : EOk G n N sc y a) : PSx G n N sc (.AugAssign (.Name nm pn) (bopOf o) y p) (.aug i o a) := by
  obtain ⟨ta, a1, a2⟩ := ha.pe
  refine ⟨_, ss_aug a1, fun X g => ?_⟩
  obtain ⟨l1, l2⟩ := g.loc hl
  exact ps_aug (by rw [g.eN]; exact g.nd) (by rw [g.eN]; exact hi) l1 (a2 X g.toGd) (ip_op ho) l2
theorem ok_agi {p1 p : Pos} {o : BOp} (hz : (match z with
      | .Slice .. => false
      | _ => true) = true) (ho : augB o = true) (ha : EOk G n N sc y a) (hb : EOk G n N sc z b) (hc : EOk G n N sc w c) : PSx G n N sc (.AugAssign (.Subscript y z p1) (bopOf o) w p) (.agi a b o c) := by
  obtain ⟨ta, a1, a2⟩ := ha.pe
  obtain ⟨tb, b1, b2⟩ := hb.pe
  obtain ⟨tc, c1, c2⟩ := hc.pe
  refine ⟨_, ss_agi a1 b1 c1, fun X g => ?_⟩
  have hg : PGet X (rGetL G.K) := by
    rw [← g.eK]
    exact pget
  refine ps_augS (a2 X g.toGd) (b2 X g.toGd) hg (c2 X g.toGd) (ip_op ho) set_list ?_
  intro ov iv new
  cases z <;> first
    | (exact Bool.noConfusion hz)
    | rfl
theorem ok_if {A B : Ss} {as bs : List Stmt} {p : Pos} (hy : tstB y = true) (hc : EOk G n N sc y c) (ha : PBx G n N sc as A) (hb : PBx G n N sc bs B) : PSx G n N sc (.If y as bs p) (.iff c A B) := by
  obtain ⟨tc, c1, c2⟩ := hc.pt hy
  obtain ⟨ta, a1, a2⟩ := ha
  obtain ⟨tb, b1, b2⟩ := hb
  exact ⟨_, ss_if c1 a1 b1, fun X g => ps_if (c2 X g.toGd) (a2 X g) (b2 X g)⟩
theorem ok_whl {A : Ss} {as : List Stmt} {p : Pos} (hy : tstB y = true) (hc : EOk G n N sc y c) (ha : PBx G n N sc as A) : PSx G n N sc (.While y as [] p) (.whl c A) := by
  obtain ⟨tc, c1, c2⟩ := hc.pt hy
  obtain ⟨ta, a1, a2⟩ := ha
  exact ⟨_, ss_whl c1 a1, fun X g => ps_while (PassesOwn.of g.xe) (c2 X g.toGd) (a2 X g)⟩
theorem ok_for {A : Ss} {as : List Stmt} {tg iter : Expr} {t : Tg} {it : MP.It} {p : Pos} (ht : tgB N sc t tg = true) (hs : noSet iter = true) (hi : PIx G n N sc tg iter it) (ha : PBx G n N sc as A) : PSx G n N sc (.For tg iter as [] p) (.for t it A) := by
  obtain ⟨wi, i1, i2⟩ := hi
  obtain ⟨ta, a1, a2⟩ := ha
  exact ⟨_, ss_for i1 (sg_tg t) a1, fun X g => ps_for (PassesOwn.of g.xe) g.calm (i2 X g.toGd) (g.tg ht) (a2 X g) (no_fold hs)⟩
theorem ok_ret {p : Pos} (ha : EOk G n N sc y a) : PSx G n N sc (.Return (some y) p) (.ret a) := by
  obtain ⟨ta, a1, a2⟩ := ha.pe
  exact ⟨_, ss_ret a1, fun X g => ps_ret (a2 X g.toGd)⟩
end
section
variable {G : Gi} {n : Nat} {N : List Str} (L : Lk G) (F : Fns G n)
include L F
theorem com_parts {t : Tg} {it : MP.It} {c : Option E} {e : E} {sc : Scope} {x : Expr} (h : chkE G.pg N (.com t it c e) sc x = true) : ∃ elt tg iter ifs scope p, x = .ListComp elt [⟨tg, iter, ifs, 0⟩] scope p ∧ tgB N scope t tg = true ∧ blkC N sc scope (ownB N t) = true ∧ noSet iter = true ∧
    PIx G n N sc tg iter it ∧ (∃ tt, SCo G.K (cfg G.pg n) tt c ∧ ∀ X, Gd G n N (relS scope sc) X → PTs X ifs tt) ∧ EOk G n N (relS scope sc) elt e := by
  cases c with
  | none =>
    unfold chkE at h
    split at h <;> first | (cases h; done) | skip
    rename_i elt tg iter ifs scope p
    simp only [Bool.and_eq_true] at h
    obtain ⟨⟨⟨h1, h2⟩, h3⟩, ⟨h4, h5⟩, h6⟩ := h
    cases ifs <;> first | (exact Bool.noConfusion h5) | skip
    exact ⟨elt, tg, iter, [], scope, p, rfl, h1, h2, h3, chkI_ok L F it sc _ _ h4, ⟨tYes, rfl, fun X g => pts_nil⟩, chkE_ok L F e _ _ h6⟩
  | some c =>
    unfold chkE at h
    split at h <;> first | (cases h; done) | skip
    rename_i elt tg iter ifs scope p
    simp only [Bool.and_eq_true] at h
    obtain ⟨⟨⟨h1, h2⟩, h3⟩, ⟨h4, h5⟩, h6⟩ := h
    cases ifs with
    | nil => exact Bool.noConfusion h5
    | cons y r =>
      cases r with
      | cons _ _ => exact Bool.noConfusion h5
      | nil =>
        have h5' : (chkE G.pg N c (relS scope sc) y && tstB y) = true := h5
        rw [Bool.and_eq_true] at h5'
        exact ⟨elt, tg, iter, [y], scope, p, rfl, h1, h2, h3, chkI_ok L F it sc _ _ h4, ok_cond h5'.2 (chkE_ok L F c _ _ h5'.1), chkE_ok L F e _ _ h6⟩
theorem is_com {e : E} {sc : Scope} {x : Expr} {nm : Str} {py : Pos} (h : chkE G.pg N e sc x = true) (hs : sweB sc nm py x = true) : ∃ t it c b, e = .com t it c b := by
  cases x <;> first
    | (exact Bool.noConfusion hs)
    | skip
  rename_i elt gens scope p
  cases e <;> first
    | exact ⟨_, _, _, _, rfl⟩
    | (unfold chkE at h; exact Bool.noConfusion h)
theorem asg_ok' {t : Tg} {e : E} {sc : Scope} {tg y : Expr} {p : Pos} (h1 : tgB N sc t tg = true) (h2 : chkE G.pg N e sc y = true) (h3 : asgB sc tg y = true) : PSx G n N sc (.Assign [tg] y p) (.asg t e) := by
  cases tg <;> first
    | (exact Bool.noConfusion h3)
    | skip
  · -- a name
    rename_i nm py
    cases t with
    | tp is => exact Bool.noConfusion h1
    | nm i =>
      simp only [tgB, Bool.and_eq_true, decide_eq_true_eq] at h1
      have h3' : (noComp y || sweB sc nm py y) = true := h3
      rw [Bool.or_eq_true] at h3'
      rcases h3' with h3' | h3'
      · exact ok_asgN h1.1 h1.2 h3' (chkE_ok L F e sc y h2)
      · obtain ⟨t, it, c, b, rfl⟩ := is_com L F h2 h3'
        obtain ⟨elt, tg, iter, ifs, scope, q, rfl, a1, a2, a3, a4, a5, a6⟩ := com_parts L F h2
        exact ok_asgC h1.1 h3' a1 a2 a3 a4 a5 a6
  · -- a tuple
    rename_i ts k tp
    by_cases hy : ∃ vs j q, y = .Tuple vs j q
    · obtain ⟨vs, j, q, rfl⟩ := hy
      have h3' : (parB sc ts vs || nopB sc ts vs) = true := h3
      rw [Bool.or_eq_true] at h3'
      rcases h3' with h3' | h3'
      · have hp := h3'
        have he : ∃ es, e = .tup es ∧ chkEs G.pg N es sc vs = true := by
          cases e <;> first
            | (unfold chkE at h2; exact Bool.noConfusion h2)
            | skip
          simp only [chkE, Bool.and_eq_true] at h2
          exact ⟨_, rfl, h2.2⟩
        obtain ⟨es, rfl, he⟩ := he
        have pa := chkEs_ok L F es sc vs he
        unfold parB at hp
        split at hp <;> first | (exact Bool.noConfusion hp) | skip
        · cases t with
          | nm i => exact Bool.noConfusion h1
          | tp is =>
            have h1' : tgsB N sc is _ = true := h1
            match is, h1' with
            | [i, l], h1' =>
              simp only [tgsB, Bool.and_eq_true, decide_eq_true_eq] at h1'
              exact ok_par2 h1'.1.1 h1'.2.1.1 h3' pa
            | [], h1' => exact Bool.noConfusion h1'
            | [i], h1' => simp [tgsB] at h1'
            | i :: l :: o :: r, h1' => simp [tgsB] at h1'
        · cases t with
          | nm i => exact Bool.noConfusion h1
          | tp is =>
            have h1' : tgsB N sc is _ = true := h1
            match is, h1' with
            | [i, l, o], h1' =>
              simp only [tgsB, Bool.and_eq_true, decide_eq_true_eq] at h1'
              exact ok_par3 h1'.1.1 h1'.2.1.1 h1'.2.2.1.1 h3' pa
            | [], h1' => exact Bool.noConfusion h1'
            | [i], h1' => simp [tgsB] at h1'
            | [i, l], h1' => simp [tgsB] at h1'
            | i :: l :: o :: u :: r, h1' => simp [tgsB] at h1'
      · exact ok_asgT h1 (nop_ok h3') (chkE_ok L F e sc _ h2)
    · refine ok_asgT h1 (fun env he => swap_other ?_) (chkE_ok L F e sc _ h2)
      cases y <;> first
        | rfl
        | exact absurd ⟨_, _, _, rfl⟩ hy
mutual
theorem chkS_ok : ∀ (s : S) (sc : Scope) (x : Stmt), chkS G.pg N s sc x = true → PSx G n N sc x s
  | .exp e, sc, x, h => by
    simp only [chkS] at h
    split at h <;> first | (cases h; done) | skip
    rw [Bool.and_eq_true] at h
    exact ok_exp h.1 (chkE_ok L F e sc _ h.2)
  | .asg t e, sc, x, h => by
    simp only [chkS] at h
    split at h <;> first | (cases h; done) | skip
    rw [Bool.and_eq_true, Bool.and_eq_true] at h
    exact asg_ok' L F h.1 h.2.1 h.2.2
  | .put a i e, sc, x, h => by
    simp only [chkS] at h
    split at h <;> first | (cases h; done) | skip
    rw [Bool.and_eq_true, Bool.and_eq_true, Bool.and_eq_true] at h
    exact ok_put h.1 (chkE_ok L F e sc _ h.2.1) (chkE_ok L F a sc _ h.2.2.1) (chkE_ok L F i sc _ h.2.2.2)
  | .aug i o e, sc, x, h => by
    simp only [chkS] at h
    split at h <;> first | (cases h; done) | skip
    simp only [Bool.and_eq_true, decide_eq_true_eq] at h
    obtain ⟨⟨⟨⟨h1, h2⟩, rfl⟩, h4⟩, h5⟩ := h
    exact ok_aug h1 h2 h4 (chkE_ok L F e sc _ h5)
  | .agi a i o e, sc, x, h => by
    simp only [chkS] at h
    split at h <;> first | (cases h; done) | skip
    rw [Bool.and_eq_true, Bool.and_eq_true, Bool.and_eq_true, Bool.and_eq_true, Bool.and_eq_true, decide_eq_true_eq] at h
    obtain ⟨⟨⟨h1, rfl⟩, h3⟩, h4, h5, h6⟩ := h
    exact ok_agi h1 h3 (chkE_ok L F a sc _ h4) (chkE_ok L F i sc _ h5) (chkE_ok L F e sc _ h6)
  | .iff c a b, sc, x, h => by
    simp only [chkS] at h
    split at h <;> first | (cases h; done) | skip
    simp only [Bool.and_eq_true] at h
    exact ok_if h.1.2 (chkE_ok L F c sc _ h.1.1) (chkSs_ok a sc _ h.2.1) (chkSs_ok b sc _ h.2.2)
  | .whl c b, sc, x, h => by
    simp only [chkS] at h
    split at h <;> first | (cases h; done) | skip
    simp only [Bool.and_eq_true] at h
    exact ok_whl h.1.2 (chkE_ok L F c sc _ h.1.1) (chkSs_ok b sc _ h.2)
  | .for t it b, sc, x, h => by
    simp only [chkS] at h
    split at h <;> first | (cases h; done) | skip
    simp only [Bool.and_eq_true] at h
    exact ok_for h.1.1 h.1.2 (chkI_ok L F it sc _ _ h.2.1) (chkSs_ok b sc _ h.2.2)
  | .ret e, sc, x, h => by
    simp only [chkS] at h
    split at h <;> first | (cases h; done) | skip
    exact ok_ret (chkE_ok L F e sc _ h)
  | .rtn, sc, x, h => by
    simp only [chkS] at h
    split at h <;> first | (cases h; done) | skip
    exact ⟨_, ss_rtn, fun X g => ps_retN⟩
  | .brk, sc, x, h => by
    simp only [chkS] at h
    split at h <;> first | (cases h; done) | skip
    exact ⟨_, ss_brk, fun X g => ps_break⟩
  | .cnt, sc, x, h => by
    simp only [chkS] at h
    split at h <;> first | (cases h; done) | skip
    exact ⟨_, ss_cnt, fun X g => ps_continue⟩
  | .pas, sc, x, h => by
    simp only [chkS] at h
    split at h <;> first | (cases h; done) | skip
    exact ⟨_, ss_pas, fun X g => ps_pass⟩
  | .rai c e, sc, x, h => by
    simp only [chkS] at h
    split at h <;> first | (cases h; done) | skip
    exact ⟨_, ss_rai, fun X g => ps_never⟩
theorem chkSs_ok : ∀ (ss : Ss) (sc : Scope) (xs : List Stmt), chkSs G.pg N ss sc xs = true → PBx G n N sc xs ss
  | .nil, sc, [], _ => ⟨_, sb_nil, fun X g => pss_nil⟩
  | .nil, sc, _ :: _, h => by cases h
  | .cons _ _, sc, [], h => by cases h
  | .cons s ss, sc, y :: ys, h => by
    simp only [chkSs, Bool.and_eq_true] at h
    obtain ⟨t, a1, a2⟩ := chkS_ok s sc y h.1
    obtain ⟨ts, b1, b2⟩ := chkSs_ok ss sc ys h.2
    exact ⟨_, sb_cons a1 b1, fun X g => pss_cons (a2 X g) (b2 X g)⟩
end
end

/-! ### defs -/
def chkD (pg : Pg) (d : Fd) (st : Stmt) : Bool :=
  let sc := defScope st
  decide (sc.kind = .function) && !sc.isCoroutine && !sc.isGenerator && decide d.N.Nodup && decide (d.np ≤ d.N.length) && (d.N.take d.np).all (locB sc) && (sc.names.all fun y => decide (y.2 ≠ .free)) && chkSs pg d.N d.body sc (defBody st)
/-- the def's text, as it stands behind the top -/
def DefAt (K : PySem.W.Frag) (d : Fd) (st : Stmt) (f : Addr) (fd : FuncData) : Prop := ∃ (oc : Value) (od : Option Addr) (dV kV doc pm : Value) (an : Option Addr) (cdv ct : Value) (osl : Array (Option Value)),
  fd = PySem.W.fnOf d.name d.name (defArgs st) (defBody st) (defScope st) dV kV doc pm an cdv ct ∧ K.lookup f = some ⟨oc, od, .func fd, osl⟩ ∧ PySem.W.codeIn K cdv d.name = true
def Dfs (G : Gi) : Prop := ∀ (i : Nat) (d : Fd), G.pg.fs[i]? = some d → ∃ st, chkD G.pg d st = true ∧ DefAt G.K d st (G.addr i) (G.fd i)
theorem ok_def {G : Gi} {n i : Nat} {d : Fd} {st : Stmt} (L : Lk G) (F : Fns G n) (hd : G.pg.fs[i]? = some d) (hc : chkD G.pg d st = true) (ha : DefAt G.K d st (G.addr i) (G.fd i)) : FnG G.P G.w G.K G.mg G.base (n + 1) (G.addr i) (G.fd i) d.ps (spG G (n + 1) i) := by
  obtain ⟨oc, od, dV, kV, doc, pm, an, cdv, ct, osl, e1, e2, e3⟩ := ha
  unfold chkD at hc
  simp only [Bool.and_eq_true, decide_eq_true_eq, Bool.not_eq_true', List.all_eq_true] at hc
  obtain ⟨⟨⟨⟨⟨⟨⟨k1, k2⟩, k3⟩, k4⟩, k5⟩, k6⟩, k7⟩, k8⟩ := hc
  have hlen : d.ps.length = d.np := by
    unfold Fd.ps
    rw [List.length_take]
    omega
  have S : FnScope d.N d.ps (defScope st) := ⟨k1, k2, k3, k4, by rw [hlen]; rfl, fun x hx => locB_ok (k6 x hx), fun y hy => k7 y hy⟩
  rw [e1] at e2 ⊢
  refine fn_g e2 e3 S (fun vs H Q h => spG_len hd k5 h) fun A outer s H vs Q room gd hsp => ?_
  obtain ⟨t, b1, b2⟩ := chkSs_ok L F d.body (defScope st) (defBody st) k8
  obtain ⟨ρ, M, args, r, M', h1, h2, h3, h4⟩ := hsp
  rw [run_succ, hd] at h3
  simp only at h3
  split at h3
  · rename_i hn
    refine ⟨t, b2 _ ⟨⟨k4, rfl, rfl, rfl, rfl, rfl, rfl, rfl, rfl, room, gd, rfl⟩, fun _ => rfl, k1⟩, ?_⟩
    obtain ⟨p, M1, e4, e5⟩ := bnd_ok h3
    have hv := h2.length
    refine b1 _ (L2.start d.N vs) H ρ (args.map some ++ List.replicate (d.N.length - d.np) none) M p M1 h1 ⟨?_, fun j u e => ?_⟩ e4 ?_
    · unfold L2.start
      rw [List.length_append, List.length_append, List.length_map, List.length_map, List.length_replicate, List.length_replicate, ← hv, hn]
    · have hj : j < args.length := by
        by_cases hj : j < args.length
        · exact hj
        · rw [List.getElem?_append_right (by rw [List.length_map]; omega), List.getElem?_replicate] at e
          split at e <;> cases e
      rw [List.getElem?_append_left (by rw [List.length_map]; exact hj), List.getElem?_map, Option.map_eq_some_iff] at e
      obtain ⟨u', e6, e7⟩ := e
      cases e7
      obtain ⟨v, e8, e9⟩ := h2.get e6
      refine ⟨v, ?_, e9⟩
      unfold L2.start
      rw [List.getElem?_append_left (by rw [List.length_map, ← hv]; exact hj), List.getElem?_map, e8]
      rfl
    · intro σ' H' ρ' h' p' s'
      obtain ⟨fl, m'⟩ := p
      cases fl with
      | nx =>
        obtain ⟨rfl, rfl⟩ := ok_inj e5
        exact h4 _ _ _ h' p' .non
      | bk => cases e5
      | cn => cases e5
      | rt v =>
        obtain ⟨rfl, rfl⟩ := ok_inj e5
        exact fun x rx => h4 _ _ _ h' p' rx
  · cases h3
/-- each def keeps its promise, however many calls are left -/
theorem fns_all {G : Gi} (L : Lk G) (D : Dfs G) : ∀ n, Fns G n
  | 0 => fun i d hd => by
    constructor
    · intro vs H Q h
      obtain ⟨_, _, _, _, _, _, _, e, _⟩ := h
      cases e
    · intro A outer s H args us vs Q _ _ _ _ _ h
      obtain ⟨_, _, _, _, _, _, _, e, _⟩ := h
      cases e
  | n + 1 => fun i d hd => by
    obtain ⟨st, hc, ha⟩ := D i d hd
    exact ok_def L (fns_all L D n) hd hc ha
end MP

set_option Elab.async false
set_option linter.all false
set_option maxRecDepth 100000
set_option autoImplicit false
set_option maxHeartbeats 2000000
/-! MP, part k: a law's end over the small machine. -/
namespace MP
open PySem PySem.Spec PyProof.Rows L2

/-! ### the call of the law -/
section
variable {P : Program} {w : World} {K : PySem.W.Frag} {mg mb : Str → Option Value} {k : Nat} {fa a : Addr} {fd : FuncData} {x : Str} {sp : List V → Hp → VK → Prop} {z : Shared} {us : List Value} {ns : List Int}
/-- the script's object -/
def scr (us : List Value) : Obj := { cls := .type "list", data := .seq us.toArray }
/-- nothing is tracked but the script, where it is no object of the module -/
def OneAt (K : PySem.W.Frag) (H : Hp) (a : Addr) (us : List Value) (ns : List Int) : Prop := ∀ b u, H b = some u → b = a ∧ u = .frz (scr us) (.lst (ns.map V.int)) ∧ K.lookup a = none
theorem law_one {H : Hp} (hH : OneAt K H a us ns) (hS : KL K H a (ns.map V.int)) (hok : HOk P w H z.heap) (KX : K.In z.heap) (gl : z.heap.Ns mainGlobals mg) (bl : z.heap.Ns builtinsNs mb) (bb : ∀ y : Str, y ≠ "__name__" → mb y = bootBuiltins y) (nl : z.heap.NoLimit)
    (gens : z.gens = #[]) (ha : z.heap.get? a = some (scr us)) (hr : Room k callerA) (F : ∀ base : Heap, K.In base → base.Ns mainGlobals mg → FnG P w K mg base k fa fd [x] sp) (bind : ∀ (s : Shared) (u : Value), BindsTo s fd ⟨[u], []⟩ [(x, u)])
    (hsp : sp [.ref a] H fun v _ => v = .bl true) :
    codeAny (model P w) callerA (.call (.ref fa) ⟨[.ref a], []⟩) (fun r s' => r = .ok (.ret (.bool true)) ∧ OldK z.heap s'.heap ∧ s'.os = z.os ∧ AllBare s'.gens) z := by
  have none_of : ∀ {b : Addr} {o : Obj}, z.heap.get? b = some o → (b = a → False) → (hidT z.heap H).get? b = some o := by
    intro b o e n
    refine hidT_get e ?_
    cases q : H b with
    | none => rfl
    | some u => exact (n (hH b u q).1).elim
  have dictT : ∀ {b : Addr} {m : Str → Option Value}, z.heap.Ns b m → (hidT z.heap H).Ns b m := by
    rintro b m ⟨o, es, ep, e, dt, r⟩
    refine ⟨o, es, ep, none_of e ?_, dt, r⟩
    rintro rfl
    rw [ha] at e
    cases e
    cases dt
  have KB : K.In (hidT z.heap H) := by
    intro b o e
    refine hidT_get (KX b o e) ?_
    cases q : H b with
    | none => rfl
    | some u =>
      obtain ⟨rfl, _, n⟩ := hH b u q
      rw [n] at e
      cases e
  have md : Mod K mg (hidT z.heap H) := by
    refine ⟨KB, dictT gl, ⟨mb, dictT bl, bb⟩, ?_⟩
    obtain ⟨mc, c1, c2⟩ := nl
    exact ⟨mc, dictT c1, c2⟩
  have nofr : ∀ b, b ∉ frs ([] : List Env) := fun b hb => by
    have hb' : b ∈ ([] : List Addr) := hb
    cases hb'
  have e0 : Env0 P w K mg (hidT z.heap H) callerA [] z H := by
    constructor
    · rfl
    · exact md
    · exact fun b o e => of_hidT e
    · rw [hidT_size]
      exact Nat.le_refl _
    · trivial
    · exact fun b hb => (nofr b hb).elim
    · exact hok
    · rw [gens]
      exact .of_eq rfl
  have run := (F _ KB (dictT gl)).run callerA [] z H ⟨[.ref a], []⟩ [.ref a] [.ref a] _ hr rfl e0 (bind z (.ref a)) (.cons rfl .nil) hsp
  refine codeAny_mono run ?_
  intro r s' h
  match r, h with
  | .ok (.ret u), h =>
    obtain ⟨v, H', os, bare, un, hok', rv, q⟩ := h
    have q' : v = .bl true := q
    rw [q'] at rv
    have rv' : u = Value.bool true := rv
    rw [rv']
    refine ⟨rfl, .of_keep ?_, os, bare⟩
    intro b o e
    cases hb : H b with
    | none => exact un.keep b o e hb (nofr b) (by simp)
    | some y =>
      obtain ⟨rfl, rfl, _⟩ := hH b y hb
      obtain ⟨h1, _⟩ := hok' b _ (un.frzs b _ _ hb)
      rw [ha] at e
      cases e
      exact h1
theorem law_callG (KX : K.In z.heap) (gl : z.heap.Ns mainGlobals mg) (bl : z.heap.Ns builtinsNs mb) (bb : ∀ y : Str, y ≠ "__name__" → mb y = bootBuiltins y) (nl : z.heap.NoLimit)
    (gens : z.gens = #[]) (ha : z.heap.get? a = some (scr us)) (hi : IntsAre us ns) (len : ns.length ≤ sizeLine) (hr : Room k callerA) (F : ∀ base : Heap, K.In base → base.Ns mainGlobals mg → FnG P w K mg base k fa fd [x] sp) (bind : ∀ (s : Shared) (u : Value), BindsTo s fd ⟨[u], []⟩ [(x, u)])
    (hsp : ∀ H : Hp, KL K H a (ns.map V.int) → sp [.ref a] H fun v _ => v = .bl true) :
    codeAny (model P w) callerA (.call (.ref fa) ⟨[.ref a], []⟩) (fun r s' => r = .ok (.ret (.bool true)) ∧ OldK z.heap s'.heap ∧ s'.os = z.os ∧ AllBare s'.gens) z := by
  have rv := vals_ints hi
  have ll := hi.length
  cases hk : K.lookup a with
  | some o =>
    have e := KX a o hk
    rw [ha] at e
    cases e
    have hS : KL K (fun _ => none) a (ns.map V.int) := by
      refine .inr ⟨_, us.toArray, _, hk, rfl, rfl, rfl, ?_, ?_⟩
      · rw [List.size_toArray, ll]
        exact len
      · rw [List.toList_toArray]
        exact rv
    refine law_one (H := fun _ => none) ?_ hS ?_ KX gl bl bb nl gens ha hr F bind (hsp _ hS)
    · intro b u e
      cases e
    · intro b u e
      cases e
  | none =>
    have e1 : (fun b => if b = a then some (HO.frz (scr us) (.lst (ns.map V.int))) else none) a = some (.frz (scr us) (.lst (ns.map V.int))) := if_pos rfl
    have hS : KL K (fun b => if b = a then some (HO.frz (scr us) (.lst (ns.map V.int))) else none) a (ns.map V.int) := .inl ⟨_, e1⟩
    refine law_one (H := fun b => if b = a then some (HO.frz (scr us) (.lst (ns.map V.int))) else none) ?_ hS ?_ KX gl bl bb nl gens ha hr F bind (hsp _ hS)
    · intro b u (e : (if b = a then some (HO.frz (scr us) (.lst (ns.map V.int))) else none) = some u)
      by_cases hb : b = a
      · rw [if_pos hb] at e
        cases e
        exact ⟨hb, rfl, hk⟩
      · rw [if_neg hb] at e
        cases e
    · intro b u (e : (if b = a then some (HO.frz (scr us) (.lst (ns.map V.int))) else none) = some u)
      by_cases hb : b = a
      · rw [if_pos hb] at e
        cases e
        rw [hb]
        refine ⟨ha, ?_, us, _, rv, ha⟩
        rw [List.length_map]
        exact len
      · rw [if_neg hb] at e
        cases e
end
/-- the end of a law from its def's promise -/
theorem walk_G {l : PySem.W.OpenLaw} {n k : Nat} {q : Program} {loose : List Str} {XP : (Str → Option Value) → Heap → Prop} {YP : World → Heap → Prop} {d : DefRec} {x : Str} (hn : l.most = some n) (hn2 : n ≤ sizeLine) (hdf : d.params.defaults = []) (hr : Room k callerA)
    (F : ∀ (w : World) (mg : Str → Option Value) (fa : Addr) (h : Heap), YP w h → h.Ns mainGlobals mg → mg d.name = some (.ref fa) →
      ∃ (K : PySem.W.Frag) (fd : FuncData) (sp : List V → Hp → VK → Prop), K.In h ∧ (∀ (s : Shared) (u : Value), BindsTo s fd ⟨[u], []⟩ [(x, u)]) ∧
        (∀ (H : Hp) (a : Addr) (ns : List Int), ns.length ≤ n → KL K H a (ns.map V.int) → sp [.ref a] H fun v _ => v = .bl true) ∧
        ∀ base : Heap, K.In base → base.Ns mainGlobals mg → FnG l.prog w K mg base k fa fd [x] sp) :
    PySem.W.WalkO q loose XP YP l.row.toRowW d [] (fun f vs => PySem.call f vs) := by
  refine Att.attach_call hn hdf fun w s₀ s₁ mg mb fa o pm cd doc a vs ns G Y ho hd hcd hmg hobj hints hlen hg => ?_
  obtain ⟨K, fd, sp, h1, h2, h3, h4⟩ := F w mg fa _ Y G.T.g hmg
  exact law_callG h1 G.T.g G.T.b G.T.builtins G.T.nolimit hg hobj hints (Nat.le_trans hlen hn2) hr h4 h2 fun H hS => h3 H a ns hlen hS

/-! ### ways to call -/
/-- the values at the places ix -/
def pick {α : Type} (ix : List Nat) (l : List α) : List α := ix.filterMap (l[·]?)
theorem vals_get : ∀ {vs : List V} {us : List Value} (i : Nat), Vals vs us → (vs[i]? = none ∧ us[i]? = none) ∨ ∃ v u, vs[i]? = some v ∧ us[i]? = some u ∧ RelV v u
  | _, _, _, .nil => by simp
  | _, _, 0, .cons r t => .inr ⟨_, _, rfl, rfl, r⟩
  | _, _, i + 1, .cons r t => by simpa using vals_get i t
theorem pick_vals {vs : List V} {us : List Value} (h : Vals vs us) : ∀ ix : List Nat, Vals (pick ix vs) (pick ix us)
  | [] => .nil
  | i :: ix => by
    have t := pick_vals h ix
    unfold pick at t ⊢
    rw [List.filterMap_cons, List.filterMap_cons]
    rcases vals_get i h with ⟨e1, e2⟩ | ⟨v, u, e1, e2, r⟩
    · rw [e1, e2]
      exact t
    · rw [e1, e2]
      exact .cons r t
theorem vrs_app {K : PySem.W.Frag} {ρ : List Addr} {H : Hp} : ∀ {a b : List MV} {vs zs : List V}, VRs K ρ H a vs → VRs K ρ H b zs → VRs K ρ H (a ++ b) (vs ++ zs)
  | _, _, _, _, .nil, h => h
  | _, _, _, _, .cons r t, h => .cons r (vrs_app t h)
theorem pick_args {K : PySem.W.Frag} {ρ : List Addr} {H : Hp} {a : List MV} {vs : List V} (h : VRs K ρ H a vs) : ∀ (ix : List Nat) (args : List MV), (ix.map Ar.at).mapM (argAt a) = some args → VRs K ρ H args (pick ix vs)
  | [], args, e => by
    simp at e
    subst e
    exact .nil
  | i :: ix, args, e => by
    rw [List.map_cons, List.mapM_cons] at e
    simp only [Option.bind_eq_bind, Option.bind_eq_some_iff, Option.pure_def, Option.some.injEq] at e
    obtain ⟨u, e1, us, e2, rfl⟩ := e
    obtain ⟨v, e3, r⟩ := h.get (show a[i]? = some u from e1)
    unfold pick
    rw [List.filterMap_cons, e3]
    exact .cons r (pick_args h ix us e2)
/-- all parameters are written -/
theorem shp_mk {K : PySem.W.Frag} {x qual : Str} {params : Arguments} {body : List Stmt} {scope : Scope} {dvs : List V} {f : Addr} {fd : FuncData} {ps ks : List Str} {n : Nat} {ix : List Nat} (F : FunD K x qual params body scope dvs [] f fd)
    (h : ∀ (kV doc pm : Value) (an : Option Addr) (cdv ct : Value) (us ws : List Value), us.length = n → ws.length = ks.length →
      bindArgs (PySem.W.fnOf x qual params body scope .none kV doc pm an cdv ct) ⟨us, ks.zip ws⟩ = pure (ps.zip (pick ix (us ++ ws)))) (hd : dvs = []) : Shp K fd ps n ks (ix.map Ar.at) := by
  obtain ⟨oc, od, dV, kV, doc, pm, an, cdv, ct, osl, rfl, lk, hcd, hD, _⟩ := F.ex
  subst hd
  rcases hD with ⟨_, rfl⟩ | ⟨e, _⟩
  · refine ⟨fun us ws => pick ix (us ++ ws), fun vs zs => pick ix (vs ++ zs), fun s us ws X l1 l2 => .of_eq (h _ _ _ _ _ _ us ws l1 l2), fun r1 r2 => pick_vals (r1.append r2) ix, fun ρ H a b args vs zs r1 r2 e => pick_args (vrs_app r1 r2) ix args e⟩
  · exact absurd rfl e

/-- the values at the places ix of l; behind m those of the defaults -/
def pick2 {α : Type} (m : Nat) (ix : List Nat) (l d : List α) : List α := ix.filterMap fun i => if i < m then l[i]? else d[i - m]?
theorem pick2_vals {m : Nat} {vs ds : List V} {us its : List Value} (h : Vals vs us) (hd : Vals ds its) : ∀ ix : List Nat, Vals (pick2 m ix vs ds) (pick2 m ix us its)
  | [] => .nil
  | i :: ix => by
    have t := pick2_vals (m := m) h hd ix
    unfold pick2 at t ⊢
    rw [List.filterMap_cons, List.filterMap_cons]
    by_cases hi : i < m
    · rw [if_pos hi, if_pos hi]
      rcases vals_get i h with ⟨e1, e2⟩ | ⟨v, u, e1, e2, r⟩
      · rw [e1, e2]
        exact t
      · rw [e1, e2]
        exact .cons r t
    · rw [if_neg hi, if_neg hi]
      rcases vals_get (i - m) hd with ⟨e1, e2⟩ | ⟨v, u, e1, e2, r⟩
      · rw [e1, e2]
        exact t
      · rw [e1, e2]
        exact .cons r t
def arOf (m : Nat) (dms : List MV) (ix : List Nat) : List Ar := ix.map fun i => if i < m then .at i else .df ((dms[i - m]?).getD .non)
theorem pick2_args {K : PySem.W.Frag} {ρ : List Addr} {H : Hp} {m : Nat} {a dms : List MV} {vs ds : List V} (h : VRs K ρ H a vs) (hd : VRs K ρ H dms ds) : ∀ (ix : List Nat) (args : List MV), (ix.all fun i => decide (i < m + dms.length)) = true → (arOf m dms ix).mapM (argAt a) = some args → VRs K ρ H args (pick2 m ix vs ds)
  | [], args, _, e => by
    simp [arOf] at e
    subst e
    exact .nil
  | i :: ix, args, hl, e => by
    rw [List.all_cons, Bool.and_eq_true, decide_eq_true_eq] at hl
    unfold arOf at e
    rw [List.map_cons, List.mapM_cons] at e
    simp only [Option.bind_eq_bind, Option.bind_eq_some_iff, Option.pure_def, Option.some.injEq] at e
    obtain ⟨u, e1, us, e2, rfl⟩ := e
    have t := pick2_args h hd ix us hl.2 e2
    unfold pick2 at t ⊢
    rw [List.filterMap_cons]
    by_cases hi : i < m
    · rw [if_pos hi] at e1 ⊢
      obtain ⟨v, e3, r⟩ := h.get (show a[i]? = some u from e1)
      rw [e3]
      exact .cons r t
    · rw [if_neg hi] at e1 ⊢
      have hj : i - m < dms.length := by omega
      have e4 : some ((dms[i - m]?).getD .non) = some u := e1
      rw [List.getElem?_eq_getElem hj] at e4
      obtain ⟨v, e3, r⟩ := hd.get (show dms[i - m]? = some u from by rw [List.getElem?_eq_getElem hj]; exact e4)
      rw [e3]
      exact .cons r t
/-- some parameters may be left to their defaults dms -/
theorem shp_df {K : PySem.W.Frag} {x qual : Str} {params : Arguments} {body : List Stmt} {scope : Scope} {dvs : List V} {f : Addr} {fd : FuncData} {ps ks : List Str} {n : Nat} {ix : List Nat} {dms : List MV} (F : FunD K x qual params body scope dvs [] f fd)
    (hr : ∀ ρ H, VRs K ρ H dms dvs) (hd : dms ≠ []) (hx : (ix.all fun i => decide (i < n + ks.length + dms.length)) = true)
    (h : ∀ (T : Addr) (kV doc pm : Value) (an : Option Addr) (cdv ct : Value) (us ws its : List Value), us.length = n → ws.length = ks.length → its.length = dms.length →
      ∃ k, bindArgs (PySem.W.fnOf x qual params body scope (.ref T) kV doc pm an cdv ct) ⟨us, ks.zip ws⟩ = seqItems? (.ref T) >>= k ∧ k (some its.toArray) = pure (ps.zip (pick2 (n + ks.length) ix (us ++ ws) its))) : Shp K fd ps n ks (arOf (n + ks.length) dms ix) := by
  obtain ⟨oc, od, dV, kV, doc, pm, an, cdv, ct, osl, rfl, lk, hcd, hD, _⟩ := F.ex
  have hl : dms.length = dvs.length := (hr [] (fun _ => none)).length
  rcases hD with ⟨e, _⟩ | ⟨_, T, o, its, mm, rfl, lT, oT, rT⟩
  · rw [e] at hl
    exact absurd (List.eq_nil_of_length_eq_zero hl) hd
  · refine ⟨fun us ws => pick2 (n + ks.length) ix (us ++ ws) its, fun vs zs => pick2 (n + ks.length) ix (vs ++ zs) dvs, fun s us ws X l1 l2 => ?_, fun r1 r2 => pick2_vals (r1.append r2) rT ix, fun ρ H a b args vs zs r1 r2 e => pick2_args (vrs_app r1 r2) (hr ρ H) ix args hx e⟩
    obtain ⟨k, e1, e2⟩ := h T kV doc pm an cdv ct us ws its l1 l2 (rT.length.symm.trans hl.symm)
    refine BindsTo.of_looks fun M => ?_
    rw [e1]
    exact looks_items X lT oT (.of_pure e2)

/-! ### constants -/
def mvBs (f : MV → Value → Bool) : List MV → List Value → Bool
  | [], [] => true
  | v :: vs, u :: us => f v u && mvBs f vs us
  | _, _ => false
def mvB (K : PySem.W.Frag) : Nat → MV → Value → Bool
  | 0, _, _ => false
  | n + 1, v, u => match v, u with
    | .non, .none => true
    | .bl b, .bool c => b == c
    | .int i, .int j _ => decide (i = j)
    | .str x, .str y _ => decide (x = y)
    | .tup vs, .ref a => match K.lookup a with
      | some ⟨.type c, _, .seq its _, _⟩ => decide (c = "tuple") && (decide (its.size ≤ sizeLine) && mvBs (mvB K n) vs its.toList)
      | _ => false
    | .kls vs, .ref a => match K.lookup a with
      | some ⟨.type c, none, .seq its _, _⟩ => decide (c = "list") && (decide (its.size ≤ sizeLine) && mvBs (mvB K n) vs its.toList)
      | _ => false
    | _, _ => false
theorem mvBs_ok {K : PySem.W.Frag} {f : MV → Value → Bool} (hf : ∀ v u, f v u = true → ∃ x, RelV x u ∧ ∀ ρ H, VR K ρ H v x) : ∀ (vs : List MV) (us : List Value), mvBs f vs us = true → ∃ xs, Vals xs us ∧ ∀ ρ H, VRs K ρ H vs xs
  | [], [], _ => ⟨[], .nil, fun _ _ => .nil⟩
  | [], _ :: _, h => by cases h
  | _ :: _, [], h => by cases h
  | v :: vs, u :: us, h => by
    have h' : (f v u && mvBs f vs us) = true := h
    rw [Bool.and_eq_true] at h'
    obtain ⟨x, r1, r2⟩ := hf v u h'.1
    obtain ⟨xs, t1, t2⟩ := mvBs_ok hf vs us h'.2
    exact ⟨x :: xs, .cons r1 t1, fun ρ H => .cons (r2 ρ H) (t2 ρ H)⟩
theorem mvB_ok {K : PySem.W.Frag} : ∀ (n : Nat) (v : MV) (u : Value), mvB K n v u = true → ∃ x, RelV x u ∧ ∀ ρ H, VR K ρ H v x
  | 0, _, _, h => by cases h
  | n + 1, v, u, h => by
    unfold mvB at h
    split at h
    · exact ⟨.non, rfl, fun _ _ => .non⟩
    · rename_i b c
      have e : b = c := eq_of_beq h
      subst e
      exact ⟨.bl b, rfl, fun _ _ => .bl b⟩
    · rename_i i j t
      have e : i = j := of_decide_eq_true h
      subst e
      exact ⟨.int i, ⟨t, rfl⟩, fun _ _ => .int i⟩
    · rename_i i j t
      have e : i = j := of_decide_eq_true h
      subst e
      exact ⟨.str i, ⟨t, rfl⟩, fun _ _ => .str i⟩
    · rename_i vs a
      split at h
      · rename_i c od its m sl lk
        simp only [Bool.and_eq_true, decide_eq_true_eq] at h
        obtain ⟨rfl, h2, h3⟩ := h
        obtain ⟨xs, r1, r2⟩ := mvBs_ok (mvB_ok n) vs its.toList h3
        exact ⟨.ref a, rfl, fun ρ H => .tup (.inr ⟨_, its, m, lk, rfl, rfl, h2, r1⟩) (r2 ρ H)⟩
      · cases h
    · rename_i vs a
      split at h
      · rename_i c its m sl lk
        simp only [Bool.and_eq_true, decide_eq_true_eq] at h
        obtain ⟨rfl, h2, h3⟩ := h
        obtain ⟨xs, r1, r2⟩ := mvBs_ok (mvB_ok n) vs its.toList h3
        exact ⟨.ref a, rfl, fun ρ H => .kls (.inr ⟨_, its, m, lk, rfl, rfl, rfl, h2, r1⟩) (r2 ρ H)⟩
      · cases h
    · cases h

/-! ### what the top holds, looked at -/
abbrev Tx := Stmt × List He.Dv
def ckM (pg : Pg) (K : PySem.W.Frag) : Bool := (bltNames.all fun b => (He.Fa.free b).ok K) && ((pg.fs.all fun d => (He.Fa.glo d.name).ok K) && pg.cs.all fun c => match PySem.W.nsIn K mainGlobals c.1 with
  | some (some u) => mvB K 20 c.2 u
  | _ => false)
def dd (d : Fd) (t : Tx) : He.DefD := { at_ := (d.name, none), name := d.name, qual := d.name, params := defArgs t.1, body := defBody t.1, scope := defScope t.1, dfl := t.2, kwd := [] }
def dds (pg : Pg) (ts : List Tx) : List He.DefD := List.zipWith dd pg.fs ts
abbrev AlM : Type := Bool × He.AlD
def SaysM (pg : Pg) (ts : List Tx) (K : PySem.W.Frag) : Prop := ckM pg K = true ∧ He.SaysD [] (dds pg ts) K
def obsMK (pg : Pg) (ts : List Tx) (K : PySem.W.Frag) : AlM := (ckM pg K, He.obsD [] (dds pg ts) K)
def obsM (n : Nat) (pg : Pg) (ts : List Tx) (g : Addr → Option Obj) : AlM := obsMK pg ts (He.frG g (He.asD g n))
def hookM (n : Nat) (pg : Pg) (ts : List Tx) : PySem.W.Hook where
  α := AlM
  obs := fun s => obsM n pg ts s.heap.get?
  val := fun _ => (true, He.valD (dds pg ts))
  says := fun _ h => ∃ K : PySem.W.Frag, K.In h ∧ SaysM pg ts K
  of := fun _ _ e => ⟨_, He.frG_in, congrArg (fun y : AlM => y.1) e, congrArg (fun y : AlM => y.2) e⟩
  keeps := fun _ _ _ ⟨K, hK, c⟩ k => ⟨K, PySem.W.Frag.In.keeps hK k, c⟩
theorem obsM_eq {n : Nat} {pg : Pg} {ts : List Tx} {g : Addr → Option Obj} {s : Shared} (h : ∀ a, g a = s.heap.get? a) : obsM n pg ts g = (hookM n pg ts).obs s := by
  have e : g = s.heap.get? := funext h
  rw [e] <;> rfl
/-- each way to call a def, shown from its text -/
def ShpL (K : PySem.W.Frag) (fd : FuncData) (ps : List Str) : List (Nat × List Str × List Ar) → Prop
  | [] => True
  | s :: r => Shp K fd ps s.1 s.2.1 s.2.2 ∧ ShpL K fd ps r
def ShD (d : Fd) (t : Tx) : Prop := ∀ (K : PySem.W.Frag) (f : Addr) (fd : FuncData), FunD K d.name d.name (defArgs t.1) (defBody t.1) (defScope t.1) (t.2.map (He.Dv.v K)) [] f fd → ShpL K fd d.ps d.shapes
def ShA : List Fd → List Tx → Prop
  | [], _ => True
  | _ :: _, [] => False
  | d :: ds, t :: ts => ShD d t ∧ ShA ds ts
theorem ShpL.at {K : PySem.W.Frag} {fd : FuncData} {ps : List Str} : ∀ {l : List (Nat × List Str × List Ar)} {i n : Nat} {ks : List Str} {ar : List Ar}, ShpL K fd ps l → l[i]? = some (n, ks, ar) → Shp K fd ps n ks ar
  | [], i, _, _, _, _, e => by simp at e
  | s :: r, 0, _, _, _, h, e => by
    simp at e
    subst e
    exact h.1
  | s :: r, i + 1, _, _, _, h, e => ShpL.at (i := i) h.2 (by simpa using e)
theorem ShA.at : ∀ {ds : List Fd} {ts : List Tx} {i : Nat} {d : Fd}, ShA ds ts → ds[i]? = some d → ∃ t, ts[i]? = some t ∧ ShD d t
  | [], _, i, _, _, e => by simp at e
  | _ :: _, [], _, _, h, _ => h.elim
  | d :: ds, t :: ts, 0, _, h, e => by
    simp at e
    subst e
    exact ⟨t, rfl, h.1⟩
  | d :: ds, t :: ts, i + 1, _, h, e => by
    obtain ⟨t', e1, e2⟩ := ShA.at (i := i) h.2 (by simpa using e)
    exact ⟨t', by simpa using e1, e2⟩
/-- each def's body is as the look wants it -/
def chkA (pg : Pg) : List Fd → List Tx → Bool
  | [], _ => true
  | _ :: _, [] => false
  | d :: ds, t :: ts => chkD pg d t.1 && chkA pg ds ts
theorem chkA_at {pg : Pg} : ∀ {ds : List Fd} {ts : List Tx} {i : Nat} {d : Fd} {t : Tx}, chkA pg ds ts = true → ds[i]? = some d → ts[i]? = some t → chkD pg d t.1 = true
  | [], _, i, _, _, _, e, _ => by simp at e
  | _ :: _, [], _, _, _, h, _, _ => by cases h
  | d :: ds, t :: ts, 0, _, _, h, e, e' => by
    simp at e e'
    subst e e'
    have h' : (chkD pg d t.1 && chkA pg ds ts) = true := h
    exact (Bool.and_eq_true_iff.mp h').1
  | d :: ds, t :: ts, i + 1, _, _, h, e, e' => by
    have h' : (chkD pg d t.1 && chkA pg ds ts) = true := h
    exact chkA_at (i := i) (Bool.and_eq_true_iff.mp h').2 (by simpa using e) (by simpa using e')
def fdOf (K : PySem.W.Frag) (a : Addr) : FuncData := match K.lookup a with
  | some ⟨_, _, .func fd, _⟩ => fd
  | _ => PySem.W.fnOf "" "" (defArgs (.Pass ⟨0, 0, 0, 0⟩)) [] (defScope (.Pass ⟨0, 0, 0, 0⟩)) .none .none .none .none none .none .none
def giOf (pg : Pg) (P : Program) (w : World) (K : PySem.W.Frag) (mg : Str → Option Value) (base : Heap) : Gi :=
  { P := P, w := w, K := K, mg := mg, base := base, pg := pg, addr := fun i => match pg.fs[i]? with
      | some d => He.ga K d.name
      | none => 0,
    fd := fun i => match pg.fs[i]? with
      | some d => fdOf K (He.ga K d.name)
      | none => fdOf K 0 }
section
variable {pg : Pg} {ts : List Tx} {P : Program} {w : World} {K : PySem.W.Frag} {mg : Str → Option Value} {base h : Heap}
theorem gi_addr {i : Nat} {d : Fd} (e : pg.fs[i]? = some d) : (giOf pg P w K mg base).addr i = He.ga K d.name := by
  show (match pg.fs[i]? with
      | some d => He.ga K d.name
      | none => 0) = _
  rw [e]
theorem gi_fd {i : Nat} {d : Fd} (e : pg.fs[i]? = some d) : (giOf pg P w K mg base).fd i = fdOf K (He.ga K d.name) := by
  show (match pg.fs[i]? with
      | some d => fdOf K (He.ga K d.name)
      | none => fdOf K 0) = _
  rw [e]
theorem fun_at (S : He.SaysD [] (dds pg ts) K) {i : Nat} {d : Fd} {t : Tx} (e : pg.fs[i]? = some d) (e' : ts[i]? = some t) : FunD K d.name d.name (defArgs t.1) (defBody t.1) (defScope t.1) (t.2.map (He.Dv.v K)) [] (He.ga K d.name) (fdOf K (He.ga K d.name)) := by
  have e2 : (dds pg ts)[i]? = some (dd d t) := by
    unfold dds
    rw [List.getElem?_zipWith, e, e']
  obtain ⟨fd, F⟩ := S.def_ i e2
  have F' : FunD K d.name d.name (defArgs t.1) (defBody t.1) (defScope t.1) (t.2.map (He.Dv.v K)) [] (He.ga K d.name) fd := F
  have q : fdOf K (He.ga K d.name) = fd := by
    obtain ⟨oc, od, dV, kV, doc, pm, an, cdv, ct, osl, _, lk, _⟩ := F'.ex
    unfold fdOf
    rw [lk]
  rw [q]
  exact F'
theorem gi_lk (A : ShA pg.fs ts) (C : ckM pg K = true) (S : He.SaysD [] (dds pg ts) K) (X : K.In h) (g : h.Ns mainGlobals mg) : Lk (giOf pg P w K mg base) := by
  unfold ckM at C
  simp only [Bool.and_eq_true, List.all_eq_true] at C
  obtain ⟨c1, c2, c3⟩ := C
  constructor
  · exact fun b hb => He.free_ok X g (c1 b hb)
  · intro i d (e : pg.fs[i]? = some d)
    obtain ⟨t, e', _⟩ := A.at e
    rw [gi_addr e]
    exact ⟨He.glo_ok X g (c2 d (List.mem_of_getElem? e)), (fun_at S e e').kp⟩
  · intro i d sh n ks ar (e : pg.fs[i]? = some d) es
    obtain ⟨t, e', hd⟩ := A.at e
    rw [gi_fd e]
    exact (hd K _ _ (fun_at S e e')).at es
  · intro k nm v e
    have q := c3 (nm, v) (List.mem_of_getElem? e)
    simp only at q
    split at q
    · rename_i u hu
      obtain ⟨x, r1, r2⟩ := mvB_ok 20 v u q
      exact ⟨x, u, PySem.W.mg_of X g hu, r1, r2⟩
    · cases q
theorem gi_df (A : ShA pg.fs ts) (C : chkA pg pg.fs ts = true) (S : He.SaysD [] (dds pg ts) K) : Dfs (giOf pg P w K mg base) := by
  intro i d (e : pg.fs[i]? = some d)
  obtain ⟨t, e', _⟩ := A.at e
  refine ⟨t.1, chkA_at C e e', ?_⟩
  rw [gi_addr e, gi_fd e]
  obtain ⟨oc, od, dV, kV, doc, pm, an, cdv, ct, osl, q, lk, hcd, _⟩ := (fun_at S e e').ex
  exact ⟨oc, od, dV, kV, doc, pm, an, cdv, ct, osl, q, lk, hcd⟩
end
/-- THE END of a law over the small machine: pg its defs and constants, ts their texts, iL the law's def -/
theorem walk_mp {l : PySem.W.OpenLaw} {n k m : Nat} {q : Program} {loose : List Str} {XP : (Str → Option Value) → Heap → Prop} {d : DefRec} {x : Str} (pg : Pg) (ts : List Tx) (iL : Nat) (dl : Fd) (hL : pg.fs[iL]? = some dl) (hnm : dl.name = d.name) (hps : dl.ps = [x])
    (hn : l.most = some n) (hn2 : n ≤ sizeLine) (hdf : d.params.defaults = []) (hr : Room k callerA) (hA : ShA pg.fs ts) (hC : chkA pg pg.fs ts = true) (h1 : ∀ (t : Tx) (K : PySem.W.Frag) (f : Addr) (fd : FuncData), ts[iL]? = some t → FunD K dl.name dl.name (defArgs t.1) (defBody t.1) (defScope t.1) (t.2.map (He.Dv.v K)) [] f fd → ∀ (s : Shared) (u : Value), BindsTo s fd ⟨[u], []⟩ [(x, u)])
    (hP : ∀ ns : List Int, ns.length ≤ n → ∃ M, run pg k iL [.kls (ns.map MV.int)] [] = .ok (.bl true) M) : PySem.W.WalkO q loose XP (hookM m pg ts).says l.row.toRowW d [] (fun f vs => PySem.call f vs) := by
  refine walk_G (k := k) (x := x) hn hn2 hdf hr ?_
  intro w mg fa h Y g hmg
  obtain ⟨K, KX, C, S⟩ := Y
  obtain ⟨t, e', hsd⟩ := hA.at hL
  have F := fun_at S hL e'
  have hfa : fa = He.ga K dl.name := by
    have c2 := C
    unfold ckM at c2
    simp only [Bool.and_eq_true, List.all_eq_true] at c2
    have q := He.glo_ok KX g (c2.2.1 dl (List.mem_of_getElem? hL))
    rw [hnm] at q ⊢
    rw [hmg] at q
    cases q
    rfl
  refine ⟨K, fdOf K fa, spG (giOf pg l.prog w K mg h) k iL, KX, ?_, ?_, ?_⟩
  · intro s u
    rw [hfa]
    exact h1 t K _ _ e' F s u
  · intro H a ns hl hS
    obtain ⟨M, e⟩ := hP ns hl
    refine ⟨[], [], [.kls (ns.map MV.int)], .bl true, M, ⟨List.nodup_nil, rfl, fun n us e => by simp at e⟩, .cons (.kls hS ?_) .nil, e, ?_⟩
    · clear e hP hl hS
      induction ns with
      | nil => exact .nil
      | cons i r ih => exact .cons (.int i) ih
    · intro v H' ρ' h' p' r
      cases r
      rfl
  · intro base KB gb
    have L : Lk (giOf pg l.prog w K mg base) := gi_lk hA C S KB gb
    have D : Dfs (giOf pg l.prog w K mg base) := gi_df hA hC S
    have q := fns_all L D k iL dl hL
    rw [gi_addr hL, gi_fd hL, hps, ← hfa] at q
    exact q
end MP

set_option Elab.async false
set_option linter.all false
set_option maxRecDepth 100000
set_option autoImplicit false
set_option maxHeartbeats 4000000
/-! MP, part l: running the small machine by rules. -/
namespace MP
open PySem

/-! ### ends -/
def Re.fin (x : Re (Fl × Sl)) : Re MV := x.bnd fun p M1 => match p.1 with
  | .nx => .ok .non M1
  | .rt v => .ok v M1
  | _ => .bad
@[simp] theorem bnd_ok_ {α β : Type} (a : α) (M : MH) (f : α → MH → Re β) : (Re.ok a M).bnd f = f a M := rfl
@[simp] theorem fin_rt (v : MV) (m : Sl) (M : MH) : (Re.ok (Fl.rt v, m) M).fin = .ok v M := rfl
@[simp] theorem fin_nx (m : Sl) (M : MH) : (Re.ok (Fl.nx, m) M).fin = .ok .non M := rfl
@[simp] theorem nox_ok_ {α : Type} (a : α) (M : MH) : (Re.ok a M).nox = .ok a M := rfl

/-- the def i: its parameters' number, its slots' number, its body -/
def IsD (P : Pg) (i np nl : Nat) (body : Ss) : Prop := ∃ d, P.fs[i]? = some d ∧ d.np = np ∧ d.N.length = nl ∧ d.body = body
theorem IsD.go {P : Pg} {i np nl n : Nat} {body : Ss} {args : List MV} {M : MH} (h : IsD P i np nl body) (hl : args.length = np) : MP.run P (n + 1) i args M = (exs (cfg P n) body (args.map some ++ List.replicate (nl - np) none) M).fin := by
  obtain ⟨d, h1, rfl, rfl, rfl⟩ := h
  rw [run_succ, h1]
  simp only
  rw [if_pos hl]
  rfl
/-- the way sh to call f -/
def Arr (P : Pg) (f sh : Nat) (ar : List Ar) : Prop := ∃ d, P.fs[f]? = some d ∧ (d.shapes[sh]?).map (·.2.2) = some ar
theorem Arr.cfg {P : Pg} {f sh : Nat} {ar : List Ar} (h : Arr P f sh ar) (n : Nat) : (cfg P n).arr f sh = some ar := by
  obtain ⟨d, h1, h2⟩ := h
  show ((P.fs[f]?).bind fun e => (e.shapes[sh]?).map (·.2.2)) = _
  rw [h1]
  exact h2
@[simp] theorem cfg_call (P : Pg) (n : Nat) : (cfg P n).call = run P n := rfl
@[simp] theorem cfg_most (P : Pg) (n : Nat) : (cfg P n).most = P.most := rfl

/-! ### steps: each form's way on behind its first part -/
theorem bnd_cong {α β : Type} {x y : Re α} {f : α → MH → Re β} (h : x = y) : x.bnd f = y.bnd f := by rw [h]
theorem fin_cong {x y : Re (Fl × Sl)} (h : x = y) : x.fin = y.fin := by rw [h]
theorem nox_cong {α : Type} {x y : Re α} (h : x = y) : x.nox = y.nox := by rw [h]
def kvr (M : MH) : Option (Option MV) → Re MV
  | some (some v) => .ok v M
  | _ => .bad
def kop {α : Type} (C : Cf) (b : E) (m : Sl) (f : MV → MV → MH → Re α) (u : MV) (M : MH) : Re α := (ev C b m M).bnd (f u)
def kand (C : Cf) (b : E) (m : Sl) : MV → MH → Re MV
  | .bl true, M => ev C b m M
  | .bl false, M => .ok (.bl false) M
  | _, _ => .bad
def kor (C : Cf) (b : E) (m : Sl) : MV → MH → Re MV
  | .bl false, M => ev C b m M
  | .bl true, M => .ok (.bl true) M
  | _, _ => .bad
def knot : MV → MH → Re MV
  | .bl b, M => .ok (.bl (!b)) M
  | _, _ => .bad
def kneg : MV → MH → Re MV
  | .int b, M => .ok (.int (-b)) M
  | _, _ => .bad
def kife (C : Cf) (a b : E) (m : Sl) : MV → MH → Re MV
  | .bl true, M => ev C a m M
  | .bl false, M => ev C b m M
  | _, _ => .bad
def kchn (C : Cf) (o p : COp) (b c : E) (m : Sl) (u : MV) (M : MH) : Re MV := (ev C b m M).bnd fun v M2 => (cmpop o u v M2).bnd fun x M3 => match x with
    | .bl true => (ev C c m M3).bnd fun z M4 => cmpop p v z M4
    | .bl false => .ok (.bl false) M3
    | _ => .bad
def kchn2 (C : Cf) (p : COp) (c : E) (m : Sl) (v : MV) : MV → MH → Re MV
  | .bl true, M3 => (ev C c m M3).bnd (cmpop p v)
  | .bl false, M3 => .ok (.bl false) M3
  | _, _ => .bad
def kslc (C : Cf) (lo hi : Option E) (m : Sl) (u : MV) (M1 : MH) : Re MV := (match lo with
      | none => Re.ok none M1
      | some l => (ev C l m M1).bnd asBnd).bnd fun v M2 =>
    (match hi with
      | none => Re.ok none M2
      | some l => (ev C l m M2).bnd asBnd).bnd fun x M3 => slcop u v x M3
def ktup (vs : List MV) (M : MH) : Re MV := .ok (.tup vs) M
def kcal (C : Cf) (f sh : Nat) (ks : Es) (m : Sl) (vs : List MV) (M1 : MH) : Re MV := (evs C ks m M1).bnd fun ws M2 => match C.arr f sh with
    | some ar => match ar.mapM (argAt (vs ++ ws)) with
      | some args => C.call f args M2
      | none => .bad
    | none => .bad
def kcl2 (C : Cf) (f : Nat) (o : Option (List Ar)) (vs ws : List MV) (M2 : MH) : Re MV := match o with
    | some ar => match ar.mapM (argAt (vs ++ ws)) with
      | some args => C.call f args M2
      | none => .bad
    | none => .bad
def kcl3 (C : Cf) (f : Nat) (M2 : MH) : Option (List MV) → Re MV
  | some args => C.call f args M2
  | none => .bad
def kisi (ts : List Ty) (u : MV) (M : MH) : Re MV := .ok (.bl (isiM u ts)) M
def kmth (C : Cf) (b : Mt) (es : Es) (m : Sl) (u : MV) (M : MH) : Re MV := (evs C es m M).bnd (mtop b u)
def kcons (C : Cf) (es : Es) (m : Sl) (v : MV) (M1 : MH) : Re (List MV) := (evs C es m M1).bnd fun vs M2 => .ok (v :: vs) M2
def kcn (v : MV) (vs : List MV) (M2 : MH) : Re (List MV) := .ok (v :: vs) M2
def turn (C : Cf) (t : Tg) (c : Option E) (e : E) (m : Sl) (x : MV) (M : MH) : Re (Option MV) := match t.set x (wip m t.own) with
      | none => .bad
      | some m' => match c with
        | none => ((ev C e m' M).nox).bnd fun y M' => .ok (some y) M'
        | some c => ((ev C c m' M).nox).bnd fun k M' => match k with
          | .bl true => ((ev C e m' M').nox).bnd fun y M'' => .ok (some y) M''
          | .bl false => .ok none M'
          | _ => .bad
def kcom (C : Cf) (t : Tg) (c : Option E) (e : E) (m : Sl) (s : Src) (M1 : MH) : Re MV := (comL s (turn C t c e m) C.most 0 [] M1).bnd newL
def kseq (v : MV) (M : MH) : Re Src := match srcOf M v with
    | some s => .ok s M
    | none => .bad
def krg1 : MV → MH → Re Src
  | .int j, M => if -1000000 ≤ j ∧ j ≤ 1000000 then .ok (.rg 0 j.toNat) M else .bad
  | _, _ => .bad
def krg2 (u v : MV) (M : MH) : Re Src := match u, v with
    | .int i, .int j => if -1000000 ≤ i ∧ i ≤ 1000000 ∧ -1000000 ≤ j ∧ j ≤ 1000000 then .ok (.rg i (j - i).toNat) M else .bad
    | _, _ => .bad
def kzip (u v : MV) (M : MH) : Re Src := match zipOf M u v with
    | some s => .ok s M
    | none => .bad
def kenu (v : MV) (M : MH) : Re Src := match itemsL M v with
    | some _ => .ok (.en v) M
    | none => .bad
def klr1 : MV → MH → Re MV
  | .int j, M => if -1000000 ≤ j ∧ j ≤ 1000000 then newL (rgL 0 j.toNat) M else .bad
  | _, _ => .bad
def klr2 (u v : MV) (M : MH) : Re MV := match u, v with
  | .int i, .int j => if -1000000 ≤ i ∧ i ≤ 1000000 ∧ -1000000 ≤ j ∧ j ≤ 1000000 then newL (rgL i (j - i).toNat) M else .bad
  | _, _ => .bad
def klset (v : MV) (M : MH) : Re MV := match itemsL M v with
    | some xs => match tupsOf xs with
      | some ls => if ls.length < 64 then .ok (.int (dcount ls)) M else .bad
      | none => .bad
    | none => .bad
def kss (C : Cf) (ss : Ss) : Fl × Sl → MH → Re (Fl × Sl)
  | (.nx, m), M => exs C ss m M
  | (f, m), M => .ok (f, m) M
def kexp (m : Sl) (_ : MV) (M : MH) : Re (Fl × Sl) := .ok (.nx, m) M
def kasg (t : Tg) (m : Sl) (v : MV) (M : MH) : Re (Fl × Sl) := match t.set v m with
    | some m' => .ok (.nx, m') M
    | none => .bad
def kput (C : Cf) (a i : E) (m : Sl) (v : MV) (M : MH) : Re (Fl × Sl) := (ev C a m M).bnd fun u M2 => (ev C i m M2).bnd fun k M3 => (putop u k v M3).bnd fun _ M4 => .ok (.nx, m) M4
def kput2 (C : Cf) (i : E) (m : Sl) (v u : MV) (M : MH) : Re (Fl × Sl) := (ev C i m M).bnd fun k M3 => (putop u k v M3).bnd fun _ M4 => .ok (.nx, m) M4
def kput3 (m : Sl) (v u k : MV) (M : MH) : Re (Fl × Sl) := (putop u k v M).bnd fun _ M4 => .ok (.nx, m) M4
def kput4 (m : Sl) (_ : Unit) (M : MH) : Re (Fl × Sl) := .ok (.nx, m) M
def kaug (i : Nat) (o : BOp) (m : Sl) (u v : MV) (M : MH) : Re (Fl × Sl) := (augop o u v M).bnd fun w M2 => .ok (.nx, m.set i (some w)) M2
def kaug2 (i : Nat) (m : Sl) (w : MV) (M2 : MH) : Re (Fl × Sl) := .ok (.nx, m.set i (some w)) M2
def kagi (C : Cf) (i : E) (o : BOp) (e : E) (m : Sl) (u : MV) (M : MH) : Re (Fl × Sl) := (ev C i m M).bnd fun k M2 => (getop u k M2).bnd fun x M3 => (ev C e m M3).bnd fun v M4 => (augop o x v M4).bnd fun z M5 =>
    (putop u k z M5).bnd fun _ M6 => .ok (.nx, m) M6
def kagi2 (C : Cf) (o : BOp) (e : E) (m : Sl) (u k : MV) (M2 : MH) : Re (Fl × Sl) := (getop u k M2).bnd fun x M3 => (ev C e m M3).bnd fun v M4 => (augop o x v M4).bnd fun z M5 =>
    (putop u k z M5).bnd fun _ M6 => .ok (.nx, m) M6
def kagi3 (C : Cf) (o : BOp) (e : E) (m : Sl) (u k x : MV) (M3 : MH) : Re (Fl × Sl) := (ev C e m M3).bnd fun v M4 => (augop o x v M4).bnd fun z M5 =>
    (putop u k z M5).bnd fun _ M6 => .ok (.nx, m) M6
def kagi4 (o : BOp) (m : Sl) (u k x v : MV) (M4 : MH) : Re (Fl × Sl) := (augop o x v M4).bnd fun z M5 =>
    (putop u k z M5).bnd fun _ M6 => .ok (.nx, m) M6
def kagi5 (m : Sl) (u k z : MV) (M5 : MH) : Re (Fl × Sl) := (putop u k z M5).bnd fun _ M6 => .ok (.nx, m) M6
def kif (C : Cf) (a b : Ss) (m : Sl) : MV → MH → Re (Fl × Sl)
  | .bl true, M => exs C a m M
  | .bl false, M => exs C b m M
  | _, _ => .bad
def fturn (C : Cf) (t : Tg) (b : Ss) (x : MV) (m : Sl) (M : MH) : Re (Fl × Sl) := match t.set x m with
      | some m' => exs C b m' M
      | none => .bad
def kfor (C : Cf) (t : Tg) (b : Ss) (m : Sl) (s : Src) (M : MH) : Re (Fl × Sl) := forL s (fturn C t b) C.most 0 m M
def kret (m : Sl) (v : MV) (M : MH) : Re (Fl × Sl) := .ok (.rt v, m) M
section
variable (C : Cf) (m : Sl) (M : MH)
@[simp] theorem kvr_s (v : MV) : kvr M (some (some v)) = .ok v M := rfl
@[simp] theorem e_var (i : Nat) : ev C (.var i) m M = kvr M m[i]? := by
  simp only [ev]
  cases h : m[i]? with
  | none => rfl
  | some o => cases o <;> rfl
@[simp] theorem e_cst (v : MV) : ev C (.cst v) m M = .ok v M := by simp only [ev]
theorem e_glo {k : Nat} {v : MV} (h : C.glo k = some v) : ev C (.glo k) m M = .ok v M := by simp only [ev, h]
@[simp] theorem e_dnw : ev C .dnw m M = .ok .dct M := by simp only [ev]
@[simp] theorem e_bin (o : BOp) (a b : E) : ev C (.bin o a b) m M = (ev C a m M).bnd (kop C b m (binop o)) := by
  simp only [ev]
  rfl
@[simp] theorem e_cmp (o : COp) (a b : E) : ev C (.cmp o a b) m M = (ev C a m M).bnd (kop C b m (cmpop o)) := by
  simp only [ev]
  rfl
@[simp] theorem e_idx (a b : E) : ev C (.idx a b) m M = (ev C a m M).bnd (kop C b m idxop) := by
  simp only [ev]
  rfl
@[simp] theorem k_op {α : Type} (b : E) (f : MV → MV → MH → Re α) (u : MV) : kop C b m f u M = (ev C b m M).bnd (f u) := rfl
@[simp] theorem e_chn (o p : COp) (a b c : E) : ev C (.chn o p a b c) m M = (ev C a m M).bnd (kchn C o p b c m) := by
  simp only [ev]
  rfl
def kchn1 (C : Cf) (o p : COp) (c : E) (m : Sl) (u v : MV) (M2 : MH) : Re MV := (cmpop o u v M2).bnd (kchn2 C p c m v)
@[simp] theorem k_chn (o p : COp) (b c : E) (u : MV) : kchn C o p b c m u M = (ev C b m M).bnd (kchn1 C o p c m u) := by
  unfold kchn kchn1
  congr 1
  funext v M2
  congr 1
  funext x M3
  cases x <;> first
    | rfl
    | (rename_i b; cases b <;> rfl)
@[simp] theorem k_chn1 (o p : COp) (c : E) (u v : MV) : kchn1 C o p c m u v M = (cmpop o u v M).bnd (kchn2 C p c m v) := rfl
@[simp] theorem k_chn2t (p : COp) (c : E) (v : MV) : kchn2 C p c m v (.bl true) M = (ev C c m M).bnd (cmpop p v) := rfl
@[simp] theorem k_chn2f (p : COp) (c : E) (v : MV) : kchn2 C p c m v (.bl false) M = .ok (.bl false) M := rfl
@[simp] theorem e_and (a b : E) : ev C (.and a b) m M = (ev C a m M).bnd (kand C b m) := by
  simp only [ev]
  congr 1
  funext u M1
  cases u <;> first
    | rfl
    | (rename_i b; cases b <;> rfl)
@[simp] theorem k_andt (b : E) : kand C b m (.bl true) M = ev C b m M := rfl
@[simp] theorem k_andf (b : E) : kand C b m (.bl false) M = .ok (.bl false) M := rfl
@[simp] theorem e_or (a b : E) : ev C (.or a b) m M = (ev C a m M).bnd (kor C b m) := by
  simp only [ev]
  congr 1
  funext u M1
  cases u <;> first
    | rfl
    | (rename_i b; cases b <;> rfl)
@[simp] theorem k_orf (b : E) : kor C b m (.bl false) M = ev C b m M := rfl
@[simp] theorem k_ort (b : E) : kor C b m (.bl true) M = .ok (.bl true) M := rfl
@[simp] theorem e_not (a : E) : ev C (.not a) m M = (ev C a m M).bnd knot := by
  simp only [ev]
  congr 1
  funext u M1
  cases u <;> rfl
@[simp] theorem k_not (b : Bool) : knot (.bl b) M = .ok (.bl (!b)) M := rfl
@[simp] theorem e_neg (a : E) : ev C (.neg a) m M = (ev C a m M).bnd kneg := by
  simp only [ev]
  congr 1
  funext u M1
  cases u <;> rfl
@[simp] theorem k_neg (b : Int) : kneg (.int b) M = .ok (.int (-b)) M := rfl
@[simp] theorem e_ife (c a b : E) : ev C (.ife c a b) m M = (ev C c m M).bnd (kife C a b m) := by
  simp only [ev]
  congr 1
  funext u M1
  cases u <;> first
    | rfl
    | (rename_i b; cases b <;> rfl)
@[simp] theorem k_ifet (a b : E) : kife C a b m (.bl true) M = ev C a m M := rfl
@[simp] theorem k_ifef (a b : E) : kife C a b m (.bl false) M = ev C b m M := rfl
@[simp] theorem e_slc (a : E) (lo hi : Option E) : ev C (.slc a lo hi) m M = (ev C a m M).bnd (kslc C lo hi m) := by
  simp only [ev]
  rfl
@[simp] theorem e_rev (a : E) : ev C (.rev a) m M = (ev C a m M).bnd revop := by
  simp only [ev]
@[simp] theorem e_tup (es : Es) : ev C (.tup es) m M = (evs C es m M).bnd ktup := by
  simp only [ev]
  rfl
@[simp] theorem k_tup (vs : List MV) : ktup vs M = .ok (.tup vs) M := rfl
@[simp] theorem e_lst (es : Es) : ev C (.lst es) m M = (evs C es m M).bnd newL := by
  simp only [ev]
@[simp] theorem k_newL (vs : List MV) : newL vs M = .ok (.lst M.length) (M ++ [vs]) := rfl
@[simp] theorem e_cal (f sh : Nat) (es ks : Es) : ev C (.cal f sh es ks) m M = (evs C es m M).bnd (kcal C f sh ks m) := by
  simp only [ev]
  rfl
@[simp] theorem k_cal (f sh : Nat) (ks : Es) (vs : List MV) : kcal C f sh ks m vs M = (evs C ks m M).bnd (kcl2 C f (C.arr f sh) vs) := rfl
@[simp] theorem k_cl2 (f : Nat) (ar : List Ar) (vs ws : List MV) : kcl2 C f (some ar) vs ws M = kcl3 C f M (ar.mapM (argAt (vs ++ ws))) := by
  show (match ar.mapM (argAt (vs ++ ws)) with
      | some args => C.call f args M
      | none => .bad) = _
  cases ar.mapM (argAt (vs ++ ws)) <;> rfl
@[simp] theorem k_cl3 (f : Nat) (args : List MV) : kcl3 C f M (some args) = C.call f args M := rfl
@[simp] theorem e_blt (b : Bt) (es : Es) : ev C (.blt b es) m M = (evs C es m M).bnd (btop b) := by
  simp only [ev]
@[simp] theorem e_isi (a : E) (ts : List Ty) (y : Bool) : ev C (.isi a ts y) m M = (ev C a m M).bnd (kisi ts) := by
  simp only [ev]
  rfl
@[simp] theorem k_isi (ts : List Ty) (u : MV) : kisi ts u M = .ok (.bl (isiM u ts)) M := rfl
@[simp] theorem e_mth (b : Mt) (a : E) (es : Es) : ev C (.mth b a es) m M = (ev C a m M).bnd (kmth C b es m) := by
  simp only [ev]
  rfl
@[simp] theorem k_mth (b : Mt) (es : Es) (u : MV) : kmth C b es m u M = (evs C es m M).bnd (mtop b u) := rfl
@[simp] theorem e_com (t : Tg) (it : MP.It) (c : Option E) (e : E) : ev C (.com t it c e) m M = (evI C it m M).bnd (kcom C t c e m) := by
  simp only [ev]
  rfl
@[simp] theorem e_lr1 (a : E) : ev C (.lr1 a) m M = (ev C a m M).bnd klr1 := by
  simp only [ev]
  congr 1
  funext u M1
  cases u <;> rfl
@[simp] theorem k_lr1 (j : Int) (h : -1000000 ≤ j ∧ j ≤ 1000000) : klr1 (.int j) M = .ok (.lst M.length) (M ++ [rgL 0 j.toNat]) := if_pos h
@[simp] theorem e_lr2 (a b : E) : ev C (.lr2 a b) m M = (ev C a m M).bnd (kop C b m klr2) := by
  simp only [ev]
  rfl
@[simp] theorem k_lr2 (i j : Int) (h : -1000000 ≤ i ∧ i ≤ 1000000 ∧ -1000000 ≤ j ∧ j ≤ 1000000) : klr2 (.int i) (.int j) M = .ok (.lst M.length) (M ++ [rgL i (j - i).toNat]) := if_pos h
@[simp] theorem e_lset (a : E) : ev C (.lset a) m M = (ev C a m M).bnd klset := by
  simp only [ev]
  rfl
theorem k_lset {p : Nat} {xs : List MV} {ls : List (List Int)} (h : M[p]? = some xs) (h2 : tupsOf xs = some ls) (h3 : ls.length < 64) : klset (.lst p) M = .ok (.int (dcount ls)) M := by
  simp [klset, itemsL, h, h2, h3]
@[simp] theorem es_nil : evs C .nil m M = .ok [] M := by simp only [evs]
@[simp] theorem es_cons (e : E) (es : Es) : evs C (.cons e es) m M = (ev C e m M).bnd (kcons C es m) := by
  simp only [evs]
  rfl
@[simp] theorem k_cons (es : Es) (v : MV) : kcons C es m v M = (evs C es m M).bnd (kcn v) := rfl
@[simp] theorem k_cn (v : MV) (vs : List MV) : kcn v vs M = .ok (v :: vs) M := rfl
@[simp] theorem i_seq (e : E) : evI C (.seq e) m M = (ev C e m M).bnd kseq := by
  simp only [evI]
  rfl
@[simp] theorem i_rg1 (e : E) : evI C (.rg1 e) m M = (ev C e m M).bnd krg1 := by
  simp only [evI]
  congr 1
  funext u M1
  cases u <;> rfl
@[simp] theorem i_rg2 (a b : E) : evI C (.rg2 a b) m M = (ev C a m M).bnd (kop C b m krg2) := by
  simp only [evI]
  rfl
@[simp] theorem i_zip (a b : E) : evI C (.zip a b) m M = (ev C a m M).bnd (kop C b m kzip) := by
  simp only [evI]
  rfl
@[simp] theorem i_enu (e : E) : evI C (.enu e) m M = (ev C e m M).bnd kenu := by
  simp only [evI]
  rfl
@[simp] theorem s_nil : exs C .nil m M = .ok (.nx, m) M := by simp only [exs]
@[simp] theorem s_cons (s : S) (ss : Ss) : exs C (.cons s ss) m M = (ex C s m M).bnd (kss C ss) := by
  simp only [exs]
  congr 1
  funext p M1
  obtain ⟨f, m'⟩ := p
  cases f <;> rfl
@[simp] theorem k_nx (ss : Ss) : kss C ss (.nx, m) M = exs C ss m M := rfl
@[simp] theorem k_rt (ss : Ss) (v : MV) : kss C ss (.rt v, m) M = .ok (.rt v, m) M := rfl
@[simp] theorem k_bk (ss : Ss) : kss C ss (.bk, m) M = .ok (.bk, m) M := rfl
@[simp] theorem k_ct (ss : Ss) : kss C ss (.cn, m) M = .ok (.cn, m) M := rfl
@[simp] theorem s_exp (e : E) : ex C (.exp e) m M = (ev C e m M).bnd (kexp m) := by
  simp only [ex]
  rfl
@[simp] theorem k_exp (v : MV) : kexp m v M = .ok (.nx, m) M := rfl
@[simp] theorem s_asg (t : Tg) (e : E) : ex C (.asg t e) m M = (ev C e m M).bnd (kasg t m) := by
  simp only [ex]
  rfl
theorem k_asg {t : Tg} {v : MV} {m' : Sl} (h : t.set v m = some m') : kasg t m v M = .ok (.nx, m') M := by
  unfold kasg
  rw [h]
@[simp] theorem k_asgN (i : Nat) (v : MV) : kasg (.nm i) m v M = .ok (.nx, m.set i (some v)) M := rfl
@[simp] theorem k_asg2 (i j : Nat) (u v : MV) : kasg (.tp [i, j]) m (.tup [u, v]) M = .ok (.nx, (m.set i (some u)).set j (some v)) M := rfl
@[simp] theorem k_asg3 (i j l : Nat) (u v w : MV) : kasg (.tp [i, j, l]) m (.tup [u, v, w]) M = .ok (.nx, ((m.set i (some u)).set j (some v)).set l (some w)) M := rfl
@[simp] theorem k_asg4 (i j l k : Nat) (u v w x : MV) : kasg (.tp [i, j, l, k]) m (.tup [u, v, w, x]) M = .ok (.nx, (((m.set i (some u)).set j (some v)).set l (some w)).set k (some x)) M := rfl
@[simp] theorem s_put (a i e : E) : ex C (.put a i e) m M = (ev C e m M).bnd (kput C a i m) := by
  simp only [ex]
  rfl
@[simp] theorem k_put (a i : E) (v : MV) : kput C a i m v M = (ev C a m M).bnd (kput2 C i m v) := rfl
@[simp] theorem k_put2 (i : E) (v u : MV) : kput2 C i m v u M = (ev C i m M).bnd (kput3 m v u) := rfl
@[simp] theorem k_put3 (v u k : MV) : kput3 m v u k M = (putop u k v M).bnd (kput4 m) := rfl
@[simp] theorem k_put4 (z : Unit) : kput4 m z M = .ok (.nx, m) M := rfl
@[simp] theorem s_aug (i : Nat) (o : BOp) (e : E) (u : MV) (h : m[i]? = some (some u)) : ex C (.aug i o e) m M = (ev C e m M).bnd (kaug i o m u) := by
  simp only [ex, h]
  rfl
@[simp] theorem k_aug (i : Nat) (o : BOp) (u v : MV) : kaug i o m u v M = (augop o u v M).bnd (kaug2 i m) := rfl
@[simp] theorem k_aug2 (i : Nat) (w : MV) : kaug2 i m w M = .ok (.nx, m.set i (some w)) M := rfl
@[simp] theorem s_agi (a i : E) (o : BOp) (e : E) : ex C (.agi a i o e) m M = (ev C a m M).bnd (kagi C i o e m) := by
  simp only [ex]
  rfl
@[simp] theorem k_agi (i : E) (o : BOp) (e : E) (u : MV) : kagi C i o e m u M = (ev C i m M).bnd (kagi2 C o e m u) := rfl
@[simp] theorem k_agi2 (o : BOp) (e : E) (u k : MV) : kagi2 C o e m u k M = (getop u k M).bnd (kagi3 C o e m u k) := rfl
@[simp] theorem k_agi3 (o : BOp) (e : E) (u k x : MV) : kagi3 C o e m u k x M = (ev C e m M).bnd (kagi4 o m u k x) := rfl
@[simp] theorem k_agi4 (o : BOp) (u k x v : MV) : kagi4 o m u k x v M = (augop o x v M).bnd (kagi5 m u k) := rfl
@[simp] theorem k_agi5 (u k z : MV) : kagi5 m u k z M = (putop u k z M).bnd (kput4 m) := rfl
@[simp] theorem s_iff (c : E) (a b : Ss) : ex C (.iff c a b) m M = (ev C c m M).bnd (kif C a b m) := by
  simp only [ex]
  congr 1
  funext u M1
  cases u <;> first
    | rfl
    | (rename_i b; cases b <;> rfl)
@[simp] theorem k_ift (a b : Ss) : kif C a b m (.bl true) M = exs C a m M := rfl
@[simp] theorem k_iff (a b : Ss) : kif C a b m (.bl false) M = exs C b m M := rfl
def wcon (C : Cf) (c : E) (m : Sl) (M : MH) : Re MV := ev C c m M
def wbod (C : Cf) (b : Ss) (m : Sl) (M : MH) : Re (Fl × Sl) := exs C b m M
@[simp] theorem s_whl (c : E) (b : Ss) : ex C (.whl c b) m M = whlL (wcon C c) (wbod C b) C.most m M := by
  simp only [ex]
  rfl
@[simp] theorem s_for (t : Tg) (it : MP.It) (b : Ss) : ex C (.for t it b) m M = (evI C it m M).bnd (kfor C t b m) := by
  simp only [ex]
  rfl
@[simp] theorem s_ret (e : E) : ex C (.ret e) m M = (ev C e m M).bnd (kret m) := by
  simp only [ex]
  rfl
@[simp] theorem k_ret (v : MV) : kret m v M = .ok (.rt v, m) M := rfl
@[simp] theorem s_rtn : ex C .rtn m M = .ok (.rt .non, m) M := by simp only [ex]
@[simp] theorem s_brk : ex C .brk m M = .ok (.bk, m) M := by simp only [ex]
@[simp] theorem s_cnt : ex C .cnt m M = .ok (.cn, m) M := by simp only [ex]
@[simp] theorem s_pas : ex C .pas m M = .ok (.nx, m) M := by simp only [ex]
/-! operators -/
@[simp] theorem o_add (i j : Int) : binop .add (.int i) (.int j) M = .ok (.int (i + j)) M := rfl
@[simp] theorem o_sub (i j : Int) : binop .sub (.int i) (.int j) M = .ok (.int (i - j)) M := rfl
theorem o_mul {i j : Int} (h : i.natAbs.log2 + j.natAbs.log2 < 1000000) : binop .mul (.int i) (.int j) M = .ok (.int (i * j)) M := if_pos h
theorem o_fdv {i j : Int} (h : j ≠ 0) (h2 : j.natAbs.log2 < 9000) : binop .fdv (.int i) (.int j) M = .ok (.int (i.fdiv j)) M := if_pos ⟨h, h2⟩
theorem o_mod {i j : Int} (h : j ≠ 0) : binop .mod (.int i) (.int j) M = .ok (.int (i.fmod j)) M := if_pos h
theorem o_pow {i j : Int} (h : 0 ≤ j ∧ j ≤ 1000 ∧ i.natAbs < 2 ^ 64) : binop .pow (.int i) (.int j) M = .ok (.int (i ^ j.toNat)) M := if_pos h
@[simp] theorem o_eq (u v : MV) : cmpop .eq u v M = ofO M (eqM M u v) := rfl
@[simp] theorem o_ne (u v : MV) : cmpop .ne u v M = ofO M ((eqM M u v).map (!·)) := rfl
@[simp] theorem o_lt (i j : Int) : cmpop .lt (.int i) (.int j) M = .ok (.bl (decide (i < j))) M := rfl
@[simp] theorem o_le (i j : Int) : cmpop .le (.int i) (.int j) M = .ok (.bl (decide (i ≤ j))) M := rfl
@[simp] theorem o_gt (i j : Int) : cmpop .gt (.int i) (.int j) M = .ok (.bl (decide (j < i))) M := rfl
@[simp] theorem o_ge (i j : Int) : cmpop .ge (.int i) (.int j) M = .ok (.bl (decide (j ≤ i))) M := rfl
@[simp] theorem o_is (u v : MV) : cmpop .is u v M = ofO M (isM u v) := rfl
@[simp] theorem o_isn (u v : MV) : cmpop .isn u v M = ofO M ((isM u v).map (!·)) := rfl
@[simp] theorem o_in (u v : MV) : cmpop .inn u v M = ofO M (inM M u v) := rfl
@[simp] theorem o_nin (u v : MV) : cmpop .nin u v M = ofO M ((inM M u v).map (!·)) := rfl
@[simp] theorem b_listT (xs : List MV) : btop .list [.tup xs] M = .ok (.lst M.length) (M ++ [xs]) := rfl
@[simp] theorem b_listL {xs : List MV} {p : Nat} (h : M[p]? = some xs) : btop .list [.lst p] M = .ok (.lst M.length) (M ++ [xs]) := by
  simp [btop, itemsT, itemsL, h, newL]
@[simp] theorem b_tupT (xs : List MV) : btop .tuple [.tup xs] M = .ok (.tup xs) M := rfl
@[simp] theorem b_tupL {xs : List MV} {p : Nat} (h : M[p]? = some xs) : btop .tuple [.lst p] M = .ok (.tup xs) M := by
  simp [btop, itemsT, itemsL, h]
@[simp] theorem p_ins {p : Nat} {xs : List MV} {i : Int} {v : MV} (h : M[p]? = some xs) (h2 : xs.length < lim) (h3 : 0 ≤ i ∧ i < 1000000) : mtop .insert (.lst p) [.int i, v] M = .ok .non (M.set p (xs.take i.toNat ++ [v] ++ xs.drop i.toNat)) := by
  simp [mtop, h, h2, h3]
@[simp] theorem p_ext {p q : Nat} {xs ys : List MV} (h : M[p]? = some xs) (h2 : M[q]? = some ys) (h3 : xs.length + ys.length ≤ lim) : mtop .extend (.lst p) [.lst q] M = .ok .non (M.set p (xs ++ ys)) := by
  simp [mtop, h, h2, h3]
@[simp] theorem p_popAt {p j : Nat} {xs : List MV} {i : Int} {y : MV} (h : M[p]? = some xs) (h2 : L2.ixN xs.length i = some j) (h3 : xs[j]? = some y) (h4 : xs.length ≤ lim) : mtop .pop (.lst p) [.int i] M = .ok y (M.set p (xs.eraseIdx j)) := by
  simp [mtop, h, h2, h3, h4]
@[simp] theorem ofO_s (b : Bool) : ofO M (some b) = .ok (.bl b) M := rfl
@[simp] theorem eqM_int (i j : Int) : eqM M (.int i) (.int j) = some (i == j) := rfl
@[simp] theorem eqM_str (i : Str) : eqM M (.str i) (.str i) = some true := by
  show some (decide (i = i)) = _
  rw [decide_eq_true rfl]
@[simp] theorem ixL {xs : List MV} {p : Nat} {x : MV} (i : Int) (h : M[p]? = some xs) (h2 : L2.atI xs i = some x) : idxop (.lst p) (.int i) M = .ok x M := by
  simp [idxop, itemsL, h, h2]
@[simp] theorem ixT0 (a : MV) (xs : List MV) : idxop (.tup (a :: xs)) (.int 0) M = .ok a M := by
  simp [idxop, L2.atI, L2.ixN]
@[simp] theorem ixT1 (a b : MV) (xs : List MV) : idxop (.tup (a :: b :: xs)) (.int 1) M = .ok b M := by
  have : ((1 : Int) < (xs.length : Int) + 1 + 1) := by omega
  simp [idxop, L2.atI, L2.ixN, this]
@[simp] theorem ixT2 (a b c : MV) (xs : List MV) : idxop (.tup (a :: b :: c :: xs)) (.int 2) M = .ok c M := by
  have : ((2 : Int) < (xs.length : Int) + 1 + 1 + 1) := by omega
  simp [idxop, L2.atI, L2.ixN, this]
@[simp] theorem b_abs (i : Int) : btop .abs [.int i] M = .ok (.int (i.natAbs : Int)) M := by
  have e : (if i < 0 then -i else i) = (i.natAbs : Int) := by
    split <;> omega
  rw [← e]
  rfl
@[simp] theorem b_int (i : Int) : btop .int [.int i] M = .ok (.int i) M := rfl
@[simp] theorem b_lenT (xs : List MV) : btop .len [.tup xs] M = .ok (.int xs.length) M := rfl
@[simp] theorem b_lenL {xs : List MV} {p : Nat} (h : M[p]? = some xs) : btop .len [.lst p] M = .ok (.int xs.length) M := by
  simp [btop, lenM, h]
@[simp] theorem p_put {p : Nat} {xs : List MV} {i : Int} {j : Nat} {v : MV} (h : M[p]? = some xs) (h2 : L2.ixN xs.length i = some j) : putop (.lst p) (.int i) v M = .ok () (M.set p (xs.set j v)) := by
  simp [putop, h, h2]
@[simp] theorem p_get {p : Nat} {xs : List MV} {i : Int} {v : MV} (h : M[p]? = some xs) (h2 : 0 ≤ i ∧ i < 1000000) (h3 : xs[i.toNat]? = some v) : getop (.lst p) (.int i) M = .ok v M := by
  simp [getop, h, h2, h3]
@[simp] theorem a_add (i j : Int) : augop .add (.int i) (.int j) M = .ok (.int (i + j)) M := rfl
@[simp] theorem a_sub (i j : Int) : augop .sub (.int i) (.int j) M = .ok (.int (i - j)) M := rfl
@[simp] theorem p_app {p : Nat} {xs : List MV} {v : MV} (h : M[p]? = some xs) (h2 : xs.length < lim) : mtop .append (.lst p) [v] M = .ok .non (M.set p (xs ++ [v])) := by
  simp [mtop, h, h2]
end
@[simp] def tyNo : Ty → Nat
  | .int => 0
  | .bool => 1
  | .str => 2
  | .list => 3
  | .tuple => 4
  | .dict => 5
@[simp] theorem ty_beq (a b : Ty) : (a == b) = (tyNo a == tyNo b) := by cases a <;> cases b <;> rfl
theorem fin_cons {C : Cf} {m m' : Sl} {M M1 : MH} {s : S} {ss : Ss} {X : Re MV} (h : ex C s m M = .ok (.nx, m') M1) (k : (exs C ss m' M1).fin = X) : (exs C (.cons s ss) m M).fin = X := by
  rw [s_cons, h, bnd_ok_, k_nx]
  exact k
theorem fin_ret {C : Cf} {m m' : Sl} {M M1 : MH} {s : S} {ss : Ss} {v : MV} (h : ex C s m M = .ok (.rt v, m') M1) : (exs C (.cons s ss) m M).fin = .ok v M1 := by
  rw [s_cons, h, bnd_ok_, k_rt]
  rfl
theorem mul_l2 {M : MH} {a : Nat} {v : MV} (h : M[a]? = some [v]) : binop .mul (.lst a) (.int 2) M = newL [v, v] M := by
  simp [binop, h, lim, List.replicate]
theorem tgN (i : Nat) (v : MV) (m : Sl) : Tg.set (.nm i) v m = some (m.set i (some v)) := rfl
theorem tg2 (i j : Nat) (u v : MV) (m : Sl) : Tg.set (.tp [i, j]) (.tup [u, v]) m = some ((m.set i (some u)).set j (some v)) := rfl

/-! ### heaps that grow -/
/-- everything but the list p stands -/
structure Ext (p : Nat) (M M' : MH) : Prop where
  le : M.length ≤ M'.length
  at_ : ∀ j, j ≠ p → j < M.length → M'[j]? = M[j]?
def App (M M' : MH) : Prop := ∃ X, M' = M ++ X
theorem App.refl {M : MH} : App M M := ⟨[], (List.append_nil M).symm⟩
theorem App.trans {M M1 M2 : MH} (h : App M M1) (k : App M1 M2) : App M M2 := by
  obtain ⟨X, rfl⟩ := h
  obtain ⟨Y, rfl⟩ := k
  exact ⟨X ++ Y, List.append_assoc ..⟩
theorem App.one {M : MH} {xs : List MV} : App M (M ++ [xs]) := ⟨[xs], rfl⟩
theorem App.get {M M' : MH} {j : Nat} {xs : List MV} (h : App M M') (e : M[j]? = some xs) : M'[j]? = some xs := by
  obtain ⟨X, rfl⟩ := h
  rw [List.getElem?_append_left (List.getElem?_eq_some_iff.mp e).1]
  exact e
theorem App.ext {M M' : MH} {p : Nat} (h : App M M') : Ext p M M' := by
  obtain ⟨X, rfl⟩ := h
  refine ⟨by simp, fun j _ hj => List.getElem?_append_left hj⟩
theorem Ext.refl {p : Nat} {M : MH} : Ext p M M := ⟨Nat.le_refl _, fun _ _ _ => rfl⟩
theorem Ext.trans {p : Nat} {M M1 M2 : MH} (h : Ext p M M1) (k : Ext p M1 M2) : Ext p M M2 :=
  ⟨Nat.le_trans h.le k.le, fun j hj hl => (k.at_ j hj (Nat.lt_of_lt_of_le hl h.le)).trans (h.at_ j hj hl)⟩
theorem Ext.get {p : Nat} {M M' : MH} {j : Nat} {xs : List MV} (h : Ext p M M') (hj : j ≠ p) (e : M[j]? = some xs) : M'[j]? = some xs :=
  (h.at_ j hj (List.getElem?_eq_some_iff.mp e).1).trans e
theorem Ext.set {p : Nat} {M : MH} {xs : List MV} : Ext p M (M.set p xs) :=
  ⟨by simp, fun j hj _ => List.getElem?_set_ne (Ne.symm hj)⟩
theorem get_new {M : MH} {xs : List MV} : (M ++ [xs])[M.length]? = some xs := by simp
theorem get_set {M : MH} {p : Nat} {xs ys : List MV} (h : M[p]? = some ys) : (M.set p xs)[p]? = some xs :=
  List.getElem?_set_self (List.getElem?_eq_some_iff.mp h).1

/-! ### the purse of draws -/
/-- the purse at p (its great cells at g), drawn from less than d times -/
structure Purse (p g d : Nat) (M : MH) : Prop where
  ne : p ≠ g
  ex : ∃ (xs : List Int) (i c : Nat) (b s : Int), M[p]? = some [.lst g, .int i, .int b, .int c, .int s] ∧ M[g]? = some (xs.map MV.int) ∧ c ≤ d ∧ 0 ≤ s ∧ s < 2147483647
theorem Purse.mono {p g d d' : Nat} {M : MH} (h : Purse p g d M) (hd : d ≤ d') : Purse p g d' M := by
  obtain ⟨xs, i, c, b, s, h1, h2, h3, h4⟩ := h.ex
  exact ⟨h.ne, xs, i, c, b, s, h1, h2, Nat.le_trans h3 hd, h4⟩
theorem Purse.app {p g d : Nat} {M M' : MH} (h : Purse p g d M) (e : App M M') : Purse p g d M' := by
  obtain ⟨xs, i, c, b, s, h1, h2, h3⟩ := h.ex
  exact ⟨h.ne, xs, i, c, b, s, e.get h1, e.get h2, h3⟩
theorem Purse.lt {p g d : Nat} {M : MH} (h : Purse p g d M) : p < M.length := by
  obtain ⟨xs, i, c, b, s, h1, _⟩ := h.ex
  exact (List.getElem?_eq_some_iff.mp h1).1
def bDraw : Ss :=
    (.cons (.iff (.and (.cmp .lt (.idx (.var 0) (.cst (.int 2))) (.var 1)) (.cmp .lt (.idx (.var 0) (.cst (.int 1))) (.blt .len (.cons (.idx (.var 0) (.cst (.int 0))) .nil))))
      (.cons (.put (.var 0) (.cst (.int 2)) (.idx (.idx (.var 0) (.cst (.int 0))) (.idx (.var 0) (.cst (.int 1)))))
      (.cons (.agi (.var 0) (.cst (.int 1)) .add (.cst (.int 1))) .nil)) .nil)
    (.cons (.iff (.cmp .ge (.idx (.var 0) (.cst (.int 2))) (.var 1))
      (.cons (.asg (.nm 2) (.bin .mod (.blt .int (.cons (.idx (.var 0) (.cst (.int 2))) .nil)) (.var 1)))
      (.cons (.put (.var 0) (.cst (.int 2)) (.bin .fdv (.idx (.var 0) (.cst (.int 2))) (.var 1)))
      (.cons (.ret (.var 2)) .nil))) .nil)
    (.cons (.agi (.var 0) (.cst (.int 3)) .add (.cst (.int 1)))
    (.cons (.asg (.nm 3) (.bin .mod (.blt .int (.cons (.bin .mul (.bin .add (.bin .mul (.idx (.var 0) (.cst (.int 3))) (.idx (.var 0) (.cst (.int 3)))) (.idx (.var 0) (.cst (.int 4)))) (.cst (.int 48271))) .nil)) (.cst (.int 2147483629))))
    (.cons (.ret (.bin .mod (.blt .int (.cons (.bin .mod (.blt .int (.cons (.bin .mul (.var 3) (.var 3)) .nil)) (.cst (.int 2147483587))) .nil)) (.var 1))) .nil)))))
theorem log_lt {i : Int} {k : Nat} (h : i.natAbs < 2 ^ k) (hk : 0 < k) : i.natAbs.log2 < k := by
  by_cases h0 : i.natAbs = 0
  · rw [h0]
    simpa using hk
  · exact (Nat.log2_lt h0).mpr h
theorem mul_b {i j : Int} {a b : Nat} (h : i.natAbs < 2 ^ a) (h2 : j.natAbs < 2 ^ b) (ha : 0 < a) (hb : 0 < b) (hab : a + b ≤ 1000000) : i.natAbs.log2 + j.natAbs.log2 < 1000000 := by
  have := log_lt h ha
  have := log_lt h2 hb
  omega
/-- a draw of many -/
theorem draw_ok {P : Pg} {iD n p g d : Nat} {k : Int} {M : MH} (hf : IsD P iD 2 4 bDraw) (hp : Purse p g d M) (hd : d < 1000000) (k0 : 0 < k) (kl : k.natAbs.log2 < 9000) :
    ∃ t M', run P (n + 1) iD [.lst p, .int k] M = .ok (.int t) M' ∧ 0 ≤ t ∧ t < k ∧ Purse p g (d + 1) M' ∧ Ext p M M' ∧ M'.length = M.length := by
  obtain ⟨xs, i, c, b, s, h, hg, hc, s0, s1⟩ := hp.ex
  have kz : k ≠ 0 := by omega
  rw [hf.go rfl]
  -- the second half
  have half : ∀ (N : MH) (i : Int) (b : Int), N[p]? = some [.lst g, .int i, .int b, .int c, .int s] → ∃ (t : Int) (m' : Sl) (b' c' : Int), exs (cfg P n) (.cons (.iff (.cmp .ge (.idx (.var 0) (.cst (.int 2))) (.var 1))
      (.cons (.asg (.nm 2) (.bin .mod (.blt .int (.cons (.idx (.var 0) (.cst (.int 2))) .nil)) (.var 1)))
      (.cons (.put (.var 0) (.cst (.int 2)) (.bin .fdv (.idx (.var 0) (.cst (.int 2))) (.var 1)))
      (.cons (.ret (.var 2)) .nil))) .nil)
    (.cons (.agi (.var 0) (.cst (.int 3)) .add (.cst (.int 1)))
    (.cons (.asg (.nm 3) (.bin .mod (.blt .int (.cons (.bin .mul (.bin .add (.bin .mul (.idx (.var 0) (.cst (.int 3))) (.idx (.var 0) (.cst (.int 3)))) (.idx (.var 0) (.cst (.int 4)))) (.cst (.int 48271))) .nil)) (.cst (.int 2147483629))))
    (.cons (.ret (.bin .mod (.blt .int (.cons (.bin .mod (.blt .int (.cons (.bin .mul (.var 3) (.var 3)) .nil)) (.cst (.int 2147483587))) .nil)) (.var 1))) .nil)))) [some (.lst p), some (.int k), none, none] N = .ok (.rt (.int t), m') (N.set p [.lst g, .int i, .int b', .int c', .int s]) ∧ 0 ≤ t ∧ t < k ∧ 0 ≤ c' ∧ c' ≤ d + 1 := by
    intro N i b h
    have e2 : L2.atI [MV.lst g, .int i, .int b, .int c, .int s] 2 = some (.int b) := rfl
    have x2 : L2.ixN 5 2 = some 2 := rfl
    have x3 : L2.ixN 5 3 = some 3 := rfl
    by_cases hb : b < k
    · have h' : (N.set p [.lst g, .int i, .int b, .int (c + 1), .int s])[p]? = some [.lst g, .int i, .int b, .int (c + 1), .int s] := get_set h
      have e3 : L2.atI [MV.lst g, .int i, .int b, .int (c + 1), .int s] 3 = some (.int (c + 1)) := rfl
      have e4 : L2.atI [MV.lst g, .int i, .int b, .int (c + 1), .int s] 4 = some (.int s) := rfl
      have b1 : ((c : Int) + 1).natAbs < 2 ^ 20 := by omega
      have m1 := mul_b b1 b1 (by omega) (by omega) (by omega)
      have hcc : ((c : Int) + 1) * ((c : Int) + 1) ≤ 1000001 * 1000001 := Int.mul_le_mul (by omega) (by omega) (by omega) (by omega)
      have hc0 : (0 : Int) ≤ ((c : Int) + 1) * ((c : Int) + 1) := Int.mul_nonneg (by omega) (by omega)
      have m2 := mul_b (i := ((c : Int) + 1) * ((c : Int) + 1) + s) (j := 48271) (a := 50) (b := 20) (by omega) (by decide) (by omega) (by omega) (by omega)
      have r0 := Int.fmod_nonneg_of_pos ((((c : Int) + 1) * ((c : Int) + 1) + s) * 48271) (show (0 : Int) < 2147483629 by decide)
      have r1 := Int.fmod_lt_of_pos ((((c : Int) + 1) * ((c : Int) + 1) + s) * 48271) (show (0 : Int) < 2147483629 by decide)
      generalize hz : ((((c : Int) + 1) * ((c : Int) + 1) + s) * 48271).fmod 2147483629 = z at r0 r1
      have b2 : z.natAbs < 2 ^ 32 := by omega
      have m3 := mul_b b2 b2 (by omega) (by omega) (by omega)
      refine ⟨((z * z).fmod 2147483587).fmod k, ?_⟩
      have hb2 : ¬ k ≤ b := by omega
      have t3 : (0 : Int) ≤ 3 ∧ (3 : Int) < 1000000 := by decide
      have y3 : [MV.lst g, .int i, .int b, .int c, .int s][(3 : Int).toNat]? = some (.int c) := rfl
      refine ⟨?_, b, c + 1, ?_, Int.fmod_nonneg_of_pos _ k0, Int.fmod_lt_of_pos _ k0, by omega, by omega⟩
      rotate_left
      · simp [h, ixL (i := 2) N h e2, hb2, o_mod _ kz, p_put N h x3, p_get N h t3 y3, ixL (i := 3) _ h' e3, ixL (i := 4) _ h' e4, o_mul _ m1, o_mul _ m2, o_mul _ m3, o_mod _ (show (2147483629 : Int) ≠ 0 by decide), o_mod _ (show (2147483587 : Int) ≠ 0 by decide), hz]
        rfl
    · refine ⟨b.fmod k, ?_, b.fdiv k, c, ?_, Int.fmod_nonneg_of_pos _ k0, Int.fmod_lt_of_pos _ k0, by omega, by omega⟩
      rotate_left
      · simp [h, ixL (i := 2) N h e2, Int.not_lt.mp hb, o_mod _ kz, o_fdv _ kz kl, p_put N h x2]
        rfl
  have fin : ∀ (N : MH) (i : Nat) (b : Int), N[p]? = some [.lst g, .int i, .int b, .int c, .int s] → Ext p M N → N.length = M.length → exs (cfg P n) bDraw ([MV.lst p, .int k].map some ++ List.replicate (4 - 2) none) M = exs (cfg P n) (.cons (.iff (.cmp .ge (.idx (.var 0) (.cst (.int 2))) (.var 1))
      (.cons (.asg (.nm 2) (.bin .mod (.blt .int (.cons (.idx (.var 0) (.cst (.int 2))) .nil)) (.var 1)))
      (.cons (.put (.var 0) (.cst (.int 2)) (.bin .fdv (.idx (.var 0) (.cst (.int 2))) (.var 1)))
      (.cons (.ret (.var 2)) .nil))) .nil)
    (.cons (.agi (.var 0) (.cst (.int 3)) .add (.cst (.int 1)))
    (.cons (.asg (.nm 3) (.bin .mod (.blt .int (.cons (.bin .mul (.bin .add (.bin .mul (.idx (.var 0) (.cst (.int 3))) (.idx (.var 0) (.cst (.int 3)))) (.idx (.var 0) (.cst (.int 4)))) (.cst (.int 48271))) .nil)) (.cst (.int 2147483629))))
    (.cons (.ret (.bin .mod (.blt .int (.cons (.bin .mod (.blt .int (.cons (.bin .mul (.var 3) (.var 3)) .nil)) (.cst (.int 2147483587))) .nil)) (.var 1))) .nil)))) [some (.lst p), some (.int k), none, none] N →
      ∃ t M', (exs (cfg P n) bDraw ([MV.lst p, .int k].map some ++ List.replicate (4 - 2) none) M).fin = .ok (.int t) M' ∧ 0 ≤ t ∧ t < k ∧ Purse p g (d + 1) M' ∧ Ext p M M' ∧ M'.length = M.length := by
    intro N i b hN hE hL e
    obtain ⟨t, m', b', c', h1, h2, h3, h4, h5⟩ := half N i b hN
    refine ⟨t, N.set p [.lst g, .int i, .int b', .int c', .int s], ?_, h2, h3, ⟨hp.ne, xs, i, c'.toNat, b', s, ?_, ?_, by omega, s0, s1⟩, hE.trans Ext.set, by simp [hL]⟩
    · rw [e, h1, fin_rt]
    · have : ((c'.toNat : Nat) : Int) = c' := by omega
      rw [get_set hN, this]
    · rw [List.getElem?_set_ne hp.ne]
      exact hE.get (Ne.symm hp.ne) hg
  have e0 : L2.atI [MV.lst g, .int i, .int b, .int c, .int s] 0 = some (.lst g) := rfl
  have e1 : L2.atI [MV.lst g, .int i, .int b, .int c, .int s] 1 = some (.int i) := rfl
  have e2 : L2.atI [MV.lst g, .int i, .int b, .int c, .int s] 2 = some (.int b) := rfl
  have x2 : L2.ixN 5 2 = some 2 := rfl
  have x1 : L2.ixN 5 1 = some 1 := rfl
  by_cases hb : b < k
  · by_cases hi : i < xs.length
    · have ei : L2.atI (xs.map MV.int) (i : Int) = some (.int xs[i]) := by
        unfold L2.atI L2.ixN
        simp [hi]
      have h' : (M.set p [.lst g, .int i, .int xs[i], .int c, .int s])[p]? = some [.lst g, .int i, .int xs[i], .int c, .int s] := get_set h
      have t1 : (0 : Int) ≤ 1 ∧ (1 : Int) < 1000000 := by decide
      have y1 : [MV.lst g, .int i, .int xs[i], .int c, .int s][(1 : Int).toNat]? = some (.int i) := rfl
      have h'' : ((M.set p [.lst g, .int i, .int xs[i], .int c, .int s]).set p [.lst g, .int (i + 1), .int xs[i], .int c, .int s])[p]? = some [.lst g, .int (i + 1), .int xs[i], .int c, .int s] := get_set h'
      refine fin _ (i + 1) xs[i] h'' (Ext.set.trans Ext.set) (by simp) ?_
      simp [bDraw, h, ixL (i := 2) M h e2, ixL (i := 1) M h e1, ixL (i := 0) M h e0, hb, b_lenL M hg, hi, ixL (i := (i : Int)) M hg ei, p_put M h x2, p_get _ h' t1 y1, p_put _ h' x1]
    · refine fin M i b h Ext.refl rfl ?_
      have hi' : ¬ ((i : Int) < xs.length) := by omega
      simp only [bDraw, List.map_cons, List.map_nil, List.replicate, List.cons_append, List.nil_append, s_cons, s_iff, e_and, e_cmp, e_idx, e_var, e_cst, k_op, kvr_s, bnd_ok_, ixL (i := 2) M h e2, ixL (i := 1) M h e1, ixL (i := 0) M h e0, o_lt, hb, decide_true, k_andt, e_blt, es_cons, es_nil, k_cons, k_cn, b_lenL M hg, List.length_map, hi', decide_false, k_iff, s_nil, k_nx,
        List.getElem?_cons_zero, List.getElem?_cons_succ]
  · refine fin M i b h Ext.refl rfl ?_
    simp only [bDraw, List.map_cons, List.map_nil, List.replicate, List.cons_append, List.nil_append, s_cons, s_iff, e_and, e_cmp, e_idx, e_var, e_cst, k_op, kvr_s, bnd_ok_, ixL (i := 2) M h e2, ixL (i := 1) M h e1, ixL (i := 0) M h e0, o_lt, hb, decide_false, k_andf, k_iff, s_nil, k_nx,
        List.getElem?_cons_zero, List.getElem?_cons_succ]
end MP

set_option Elab.async false
set_option linter.all false
set_option maxRecDepth 100000
set_option autoImplicit false
set_option maxHeartbeats 4000000
/-! MP, part m: loops; fractions. -/
namespace MP
open PySem

/-! ### loops -/
theorem comL_inv {s : Src} {f : MV → MH → Re (Option MV)} {N : Nat} (inv : Nat → List MV → MH → Prop)
    (step : ∀ i acc M, i < N → inv i acc M → s.stop M i = false ∧ ∃ x o M', s.item M i = some x ∧ f x M = .ok o M' ∧ acc.length < lim ∧ inv (i + 1) (acc ++ o.toList) M')
    (stop : ∀ acc M, inv N acc M → s.stop M N = true) : ∀ (k i : Nat) (acc : List MV) (M : MH), N < k + i → i ≤ N → inv i acc M → ∃ acc' M', comL s f k i acc M = .ok acc' M' ∧ inv N acc' M'
  | 0, i, acc, M, h1, h2, _ => by omega
  | k + 1, i, acc, M, h1, h2, h => by
    by_cases hi : i < N
    · obtain ⟨e1, x, o, M', e2, e3, e4, e5⟩ := step i acc M hi h
      obtain ⟨acc', M'', r1, r2⟩ := comL_inv inv step stop k (i + 1) (acc ++ o.toList) M' (by omega) (by omega) e5
      refine ⟨acc', M'', ?_, r2⟩
      unfold comL
      rw [e1, e2]
      simp only [Bool.false_eq_true, if_false, e3, bnd_ok_]
      cases o with
      | none =>
        simp only [Option.toList_none, List.append_nil] at r1
        exact r1
      | some y =>
        simp only [Option.toList_some] at r1
        simp only
        rw [if_pos e4]
        exact r1
    · have e : i = N := by omega
      subst e
      refine ⟨acc, M, ?_, h⟩
      unfold comL
      rw [stop acc M h, if_pos rfl]
theorem forL_inv {s : Src} {f : MV → Sl → MH → Re (Fl × Sl)} {N : Nat} (inv : Nat → Sl → MH → Prop)
    (step : ∀ i m M, i < N → inv i m M → s.stop M i = false ∧ ∃ x m' M', s.item M i = some x ∧ f x m M = .ok (.nx, m') M' ∧ inv (i + 1) m' M')
    (stop : ∀ m M, inv N m M → s.stop M N = true) : ∀ (k i : Nat) (m : Sl) (M : MH), N < k + i → i ≤ N → inv i m M → ∃ m' M', forL s f k i m M = .ok (.nx, m') M' ∧ inv N m' M'
  | 0, i, m, M, h1, h2, _ => by omega
  | k + 1, i, m, M, h1, h2, h => by
    by_cases hi : i < N
    · obtain ⟨e1, x, m', M', e2, e3, e5⟩ := step i m M hi h
      obtain ⟨m'', M'', r1, r2⟩ := forL_inv inv step stop k (i + 1) m' M' (by omega) (by omega) e5
      refine ⟨m'', M'', ?_, r2⟩
      unfold forL
      rw [e1, e2]
      simp only [Bool.false_eq_true, if_false, e3, bnd_ok_]
      exact r1
    · have e : i = N := by omega
      subst e
      refine ⟨m, M, ?_, h⟩
      unfold forL
      rw [stop m M h, if_pos rfl]
section
variable {c : Sl → MH → Re MV} {f : Sl → MH → Re (Fl × Sl)} {k : Nat} {m m' : Sl} {M M1 M2 : MH}
theorem whl_f (h : c m M = .ok (.bl false) M1) : whlL c f (k + 1) m M = .ok (.nx, m) M1 := by
  unfold whlL
  rw [h]
  rfl
theorem whl_t (h : c m M = .ok (.bl true) M1) (h2 : f m M1 = .ok (.nx, m') M2) : whlL c f (k + 1) m M = whlL c f k m' M2 := by
  rw [whlL, h]
  simp only [bnd_ok_, h2]
theorem whl_b (h : c m M = .ok (.bl true) M1) (h2 : f m M1 = .ok (.bk, m') M2) : whlL c f (k + 1) m M = .ok (.nx, m') M2 := by
  rw [whlL, h]
  simp only [bnd_ok_, h2]
end
@[simp] theorem r_rg1 {M : MH} (j : Int) (h : -1000000 ≤ j ∧ j ≤ 1000000) : krg1 (.int j) M = .ok (.rg 0 j.toNat) M := if_pos h
theorem rg_stop (M : MH) (lo : Int) (n i : Nat) : (Src.rg lo n).stop M i = decide (n ≤ i) := rfl
theorem rg_item (M : MH) (lo : Int) {n i : Nat} (h : i < n) : (Src.rg lo n).item M i = some (.int (lo + i)) := if_pos h
theorem tp_stop (M : MH) (xs : List MV) (i : Nat) : (Src.tp xs).stop M i = decide (xs.length ≤ i) := rfl
theorem tp_item (M : MH) (xs : List MV) (i : Nat) : (Src.tp xs).item M i = xs[i]? := rfl
theorem ls_stop {M : MH} {p i : Nat} {xs : List MV} (h : M[p]? = some xs) : (Src.ls (.lst p)).stop M i = decide (xs.length ≤ i) := by
  simp [Src.stop, itemsL, h]
theorem ls_item {M : MH} {p i : Nat} {xs : List MV} (h : M[p]? = some xs) : (Src.ls (.lst p)).item M i = xs[i]? := by
  simp [Src.item, itemsL, h]
theorem seqL {M : MH} {p : Nat} {xs : List MV} (h : M[p]? = some xs) : kseq (.lst p) M = .ok (.ls (.lst p)) M := by
  simp [kseq, srcOf, itemsL, h]
theorem seqT {M : MH} {xs : List MV} : kseq (.tup xs) M = .ok (.tp xs) M := rfl

/-! ### the greatest common divisor -/
theorem fmod_nat (x y : Nat) : Int.fmod (x : Int) (y : Int) = ((x % y : Nat) : Int) := by
  rw [Int.fmod_eq_emod_of_nonneg _ (Int.natCast_nonneg y)]
  exact (Int.natCast_emod x y).symm
theorem fdiv_nat (x y : Nat) : Int.fdiv (x : Int) (y : Int) = ((x / y : Nat) : Int) := by
  rw [Int.fdiv_eq_ediv_of_nonneg _ (Int.natCast_nonneg y)]
  exact (Int.natCast_ediv x y).symm
/-- two numbers taken one from another until nothing is left -/
theorem gcd_whl {c : Sl → MH → Re MV} {f : Sl → MH → Re (Fl × Sl)} {M : MH} (hc : ∀ x y : Nat, c [some (.int x), some (.int y)] M = .ok (.bl (decide (y ≠ 0))) M)
    (hf : ∀ x y : Nat, y ≠ 0 → f [some (.int x), some (.int y)] M = .ok (.nx, [some (.int y), some (.int (x % y : Nat))]) M) : ∀ (k j x y : Nat), y ≤ x → x * y < 2 ^ k → k < j → whlL c f j [some (.int x), some (.int y)] M = .ok (.nx, [some (.int (Nat.gcd x y)), some (.int 0)]) M
  | 0, j + 1, x, y, h1, h2, _ => by
    have y0 : y = 0 := by
      cases y with
      | zero => rfl
      | succ y =>
        have : 1 ≤ x * (y + 1) := Nat.mul_pos (by omega) (by omega)
        simp at h2
        omega
    subst y0
    rw [whl_f (hc x 0)]
    simp
  | k + 1, j + 1, x, y, h1, h2, h3 => by
    by_cases y0 : y = 0
    · subst y0
      rw [whl_f (hc x 0)]
      simp
    · have hlt := Nat.mod_lt x (Nat.pos_of_ne_zero y0)
      rw [whl_t (by rw [hc x y, decide_eq_true y0]) (hf x y y0), gcd_whl hc hf k j y (x % y) (by omega) ?_ (by omega)]
      · rw [Nat.gcd_comm x y, Nat.gcd_rec y x, Nat.gcd_comm y]
      · have h4 : 2 * (x % y) ≤ x := by
          have e := Nat.div_add_mod x y
          have : 1 ≤ x / y := Nat.div_pos h1 (Nat.pos_of_ne_zero y0)
          have : y ≤ y * (x / y) := Nat.le_mul_of_pos_right y this
          omega
        have h5 : 2 * (y * (x % y)) ≤ x * y := by
          calc 2 * (y * (x % y)) = y * (2 * (x % y)) := by rw [Nat.mul_left_comm]
            _ ≤ y * x := Nat.mul_le_mul_left y h4
            _ = x * y := Nat.mul_comm y x
        rw [Nat.pow_succ] at h2
        omega
theorem gcd_whl' {c : Sl → MH → Re MV} {f : Sl → MH → Re (Fl × Sl)} {M : MH} (hc : ∀ x y : Nat, c [some (.int x), some (.int y)] M = .ok (.bl (decide (y ≠ 0))) M)
    (hf : ∀ x y : Nat, y ≠ 0 → f [some (.int x), some (.int y)] M = .ok (.nx, [some (.int y), some (.int (x % y : Nat))]) M) {k j x y : Nat} (h2 : x * y < 2 ^ k) (h : k + 1 < j) : whlL c f j [some (.int x), some (.int y)] M = .ok (.nx, [some (.int (Nat.gcd x y)), some (.int 0)]) M := by
  by_cases h1 : y ≤ x
  · exact gcd_whl hc hf k j x y h1 h2 (by omega)
  · obtain ⟨j, rfl⟩ : ∃ i, j = i + 1 := ⟨j - 1, by omega⟩
    have y0 : y ≠ 0 := by omega
    rw [whl_t (by rw [hc x y, decide_eq_true y0]) (hf x y y0), Nat.mod_eq_of_lt (by omega), gcd_whl hc hf k j y x (by omega) (by rw [Nat.mul_comm]; exact h2) (by omega), Nat.gcd_comm]
def bGcd : Ss :=
    (.cons (.whl (.cmp .ne (.var 1) (.cst (.int 0)))
      (.cons (.asg (.tp [0, 1]) (.tup (.cons (.var 1) (.cons (.bin .mod (.var 0) (.var 1)) .nil)))) .nil))
    (.cons (.ret (.var 0)) .nil))
def bGcdI : Ss :=
    (.cons (.whl (.cmp .ne (.var 1) (.cst (.int 0)))
      (.cons (.asg (.tp [0, 1]) (.tup (.cons (.var 1) (.cons (.bin .mod (.blt .int (.cons (.var 0) .nil)) (.var 1)) .nil)))) .nil))
    (.cons (.ret (.var 0)) .nil))
/-- less than a power of two -/
def Sz (k : Nat) (x : Int) : Prop := x.natAbs < 2 ^ k
theorem gcd_ok {P : Pg} {i n : Nat} {body : Ss} {M : MH} {a b : Int} (hf : IsD P i 2 2 body) (hb : body = bGcd ∨ body = bGcdI) (a0 : 0 ≤ a) (b0 : 0 ≤ b) (ha : Sz 4000 a) (hbz : Sz 4000 b) (hm : 10000 ≤ P.most) : run P (n + 1) i [.int a, .int b] M = .ok (.int (Int.gcd a b)) M := by
  obtain ⟨x, rfl⟩ : ∃ x : Nat, a = x := ⟨a.toNat, by omega⟩
  obtain ⟨y, rfl⟩ : ∃ x : Nat, b = x := ⟨b.toNat, by omega⟩
  have hxy : x * y < 2 ^ 8000 := by
    have h1 : x < 2 ^ 4000 := by simpa [Sz] using ha
    have h2 : y < 2 ^ 4000 := by simpa [Sz] using hbz
    have := Nat.mul_lt_mul'' h1 h2
    rw [← Nat.pow_add] at this
    exact this
  have hc : ∀ x y : Nat, wcon (cfg P n) (.cmp .ne (.var 1) (.cst (.int 0))) [some (.int x), some (.int y)] M = .ok (.bl (decide (y ≠ 0))) M := by
    intro x y
    unfold wcon
    simp
    by_cases hy : y = 0 <;> simp [hy]
  rw [hf.go rfl]
  rcases hb with rfl | rfl
  · have w := gcd_whl' (c := wcon (cfg P n) (.cmp .ne (.var 1) (.cst (.int 0)))) (f := wbod (cfg P n) (.cons (.asg (.tp [0, 1]) (.tup (.cons (.var 1) (.cons (.bin .mod (.var 0) (.var 1)) .nil)))) .nil)) hc (by
      intro x y hy
      have : (y : Int) ≠ 0 := by omega
      unfold wbod
      simp [o_mod _ this, fmod_nat]) hxy (show 8000 + 1 < P.most by omega)
    simp [bGcd, w]
  · have w := gcd_whl' (c := wcon (cfg P n) (.cmp .ne (.var 1) (.cst (.int 0)))) (f := wbod (cfg P n) (.cons (.asg (.tp [0, 1]) (.tup (.cons (.var 1) (.cons (.bin .mod (.blt .int (.cons (.var 0) .nil)) (.var 1)) .nil)))) .nil)) hc (by
      intro x y hy
      have : (y : Int) ≠ 0 := by omega
      unfold wbod
      simp [o_mod _ this, fmod_nat]) hxy (show 8000 + 1 < P.most by omega)
    simp [bGcdI, w]

/-! ### fractions -/
abbrev Fr := Int × Int
def Fr.mv (x : Fr) : MV := .tup [.int x.1, .int x.2]
/-- a/b, lowest, the under above nought -/
def nf (a b : Int) : Fr := if 0 < b then (a / (Int.gcd a b : Int), b / (Int.gcd a b : Int)) else (-a / (Int.gcd a b : Int), -b / (Int.gcd a b : Int))
/-- lowest, the under above nought, both less than 2 ^ k -/
structure Fk (k : Nat) (x : Fr) : Prop where
  top : Sz k x.1
  und : Sz k x.2
  pos : 0 < x.2
  low : Int.gcd x.1 x.2 = 1
theorem Sz.mono {k l : Nat} {x : Int} (h : Sz k x) (hl : k ≤ l) : Sz l x := Nat.lt_of_lt_of_le h (Nat.pow_le_pow_right (by omega) hl)
theorem Sz.mul {k l : Nat} {x y : Int} (h : Sz k x) (g : Sz l y) : Sz (k + l) (x * y) := by
  unfold Sz
  rw [Int.natAbs_mul, Nat.pow_add]
  exact Nat.mul_lt_mul'' h g
theorem Sz.add {k l j : Nat} {x y : Int} (h : Sz k x) (g : Sz l y) (hk : k < j) (hl : l < j) : Sz j (x + y) := by
  have h1 : Sz (j - 1) x := h.mono (by omega)
  have h2 : Sz (j - 1) y := g.mono (by omega)
  obtain ⟨i, rfl⟩ : ∃ i, j = i + 1 := ⟨j - 1, by omega⟩
  unfold Sz at *
  rw [Nat.pow_succ]
  simp only [Nat.add_sub_cancel] at h1 h2
  have := Int.natAbs_add_le x y
  omega
theorem Sz.neg {k : Nat} {x : Int} (h : Sz k x) : Sz k (-x) := by
  unfold Sz
  rw [Int.natAbs_neg]
  exact h
theorem Sz.sub {k l j : Nat} {x y : Int} (h : Sz k x) (g : Sz l y) (hk : k < j) (hl : l < j) : Sz j (x - y) := by
  rw [Int.sub_eq_add_neg]
  exact h.add g.neg hk hl
theorem Sz.div {k : Nat} {x : Int} {g : Nat} (h : Sz k x) (hg : (g : Int) ∣ x) : Sz k (x / g) := by
  unfold Sz at *
  rw [Int.natAbs_ediv_of_dvd hg]
  exact Nat.lt_of_le_of_lt (Nat.div_le_self _ _) h
theorem Sz.mulOk {k l : Nat} {x y : Int} (h : Sz k x) (g : Sz l y) (hk : k + l + 2 ≤ 1000000) : x.natAbs.log2 + y.natAbs.log2 < 1000000 :=
  mul_b (a := k + 1) (b := l + 1) (h.mono (by omega)) (g.mono (by omega)) (by omega) (by omega) (by omega)
theorem Sz.fdvOk {k : Nat} {x : Int} (h : Sz k x) (hk : k < 9000) : x.natAbs.log2 < 9000 := by
  have := log_lt (k := k + 1) (h.mono (by omega)) (by omega)
  omega
theorem nf_dvd {a b : Int} : ((Int.gcd a b : Nat) : Int) ∣ a ∧ ((Int.gcd a b : Nat) : Int) ∣ b := ⟨Int.gcd_dvd_left .., Int.gcd_dvd_right ..⟩
theorem nf_fk {k : Nat} {a b : Int} (hb : b ≠ 0) (h1 : Sz k a) (h2 : Sz k b) : Fk k (nf a b) := by
  have hg : 0 < Int.gcd a b := Int.gcd_pos_of_ne_zero_right a hb
  obtain ⟨d1, d2⟩ := nf_dvd (a := a) (b := b)
  have d3 : ((Int.gcd a b : Nat) : Int) ∣ -a := Int.dvd_neg.mpr d1
  have d4 : ((Int.gcd a b : Nat) : Int) ∣ -b := Int.dvd_neg.mpr d2
  unfold nf
  split
  · rename_i h
    refine ⟨h1.div d1, h2.div d2, Int.ediv_pos_of_pos_of_dvd h (by omega) d2, ?_⟩
    exact Int.gcd_ediv_gcd_ediv_gcd hg
  · rename_i h
    refine ⟨h1.neg.div d3, h2.neg.div d4, Int.ediv_pos_of_pos_of_dvd (by omega) (by omega) d4, ?_⟩
    have e : Int.gcd a b = Int.gcd (-a) (-b) := by rw [Int.gcd_neg, Int.neg_gcd]
    simp only
    rw [e] at hg ⊢
    exact Int.gcd_ediv_gcd_ediv_gcd hg
/-- a lowest fraction stays -/
theorem nf_low {a b : Int} (hb : 0 < b) (h : Int.gcd a b = 1) : nf a b = (a, b) := by
  unfold nf
  rw [if_pos hb, h]
  simp
theorem nf_cross {a b : Int} : (nf a b).1 * b = (nf a b).2 * a := by
  obtain ⟨d1, d2⟩ := nf_dvd (a := a) (b := b)
  have h1 := Int.mul_ediv_cancel' d1
  have h2 := Int.mul_ediv_cancel' d2
  have h3 := Int.mul_ediv_cancel' (Int.dvd_neg.mpr d1)
  have h4 := Int.mul_ediv_cancel' (Int.dvd_neg.mpr d2)
  unfold nf
  generalize (Int.gcd a b : Int) = G at *
  split
  · show a / G * b = b / G * a
    calc a / G * b = a / G * (G * (b / G)) := by rw [h2]
      _ = b / G * (G * (a / G)) := by rw [Int.mul_left_comm, Int.mul_comm (a / G), ← Int.mul_assoc, Int.mul_comm G, Int.mul_assoc]
      _ = b / G * a := by rw [h1]
  · show -a / G * b = -b / G * a
    have e : -a / G * -b = -b / G * -a := by
      calc -a / G * -b = -a / G * (G * (-b / G)) := by rw [h4]
        _ = -b / G * (G * (-a / G)) := by rw [Int.mul_left_comm, Int.mul_comm (-a / G), ← Int.mul_assoc, Int.mul_comm G, Int.mul_assoc]
        _ = -b / G * -a := by rw [h3]
    rw [Int.mul_neg, Int.mul_neg] at e
    omega
theorem fdiv_pos_ex {a : Int} {G : Nat} (hG : 0 < G) : a.fdiv (G : Int) = a / (G : Int) := Int.fdiv_eq_ediv_of_nonneg _ (Int.natCast_nonneg G)
theorem fdiv_neg_ex {a : Int} {G : Nat} (hG : 0 < G) (h : (G : Int) ∣ a) : a.fdiv (-(G : Int)) = -a / (G : Int) := by
  obtain ⟨x, rfl⟩ := h
  have : ((G : Nat) : Int) ≠ 0 := by omega
  rw [show (G : Int) * x = (-(G : Int)) * (-x) by rw [Int.neg_mul_neg], Int.mul_fdiv_cancel_left _ (by omega), Int.neg_mul, Int.neg_neg, Int.mul_ediv_cancel_left _ this]
theorem neg_ediv_ex {a : Int} {G : Nat} (hG : 0 < G) (h : (G : Int) ∣ a) : 0 - a / (G : Int) = -a / (G : Int) := by
  obtain ⟨x, rfl⟩ := h
  have : ((G : Nat) : Int) ≠ 0 := by omega
  rw [Int.mul_ediv_cancel_left _ this, show -((G : Int) * x) = G * (-x) by rw [Int.mul_neg], Int.mul_ediv_cancel_left _ this]
  omega
/-- the def g reckons the greatest common divisor -/
structure GcdAt (P : Pg) (g : Nat) : Prop where
  arr : Arr P g 0 [.at 0, .at 1]
  run : ∀ n M (a b : Int), 0 ≤ a → 0 ≤ b → Sz 4000 a → Sz 4000 b → MP.run P (n + 1) g [.int a, .int b] M = .ok (.int (Int.gcd a b)) M
def bByLow (g : Nat) : Ss :=
    (.cons (.asg (.nm 2) (.cal g 0 (.cons (.blt .abs (.cons (.var 0) .nil)) (.cons (.blt .abs (.cons (.var 1) .nil)) .nil)) .nil))
    (.cons (.iff (.cmp .lt (.var 1) (.cst (.int 0)))
      (.cons (.asg (.nm 2) (.bin .sub (.cst (.int 0)) (.var 2))) .nil) .nil)
    (.cons (.ret (.tup (.cons (.bin .fdv (.var 0) (.var 2)) (.cons (.bin .fdv (.var 1) (.var 2)) .nil)))) .nil)))
def bLawBy (g : Nat) : Ss :=
    (.cons (.asg (.nm 2) (.cal g 0 (.cons (.blt .abs (.cons (.var 0) .nil)) (.cons (.blt .abs (.cons (.var 1) .nil)) .nil)) .nil))
    (.cons (.ret (.ife (.cmp .gt (.var 1) (.cst (.int 0))) (.tup (.cons (.bin .fdv (.var 0) (.var 2)) (.cons (.bin .fdv (.var 1) (.var 2)) .nil))) (.tup (.cons (.bin .sub (.cst (.int 0)) (.bin .fdv (.var 0) (.var 2))) (.cons (.bin .sub (.cst (.int 0)) (.bin .fdv (.var 1) (.var 2))) .nil))))) .nil))
theorem Sz.nat {k : Nat} {i : Int} (h : Sz k i) : Sz k (i.natAbs : Int) := by
  unfold Sz
  rw [Int.natAbs_natCast]
  exact h
theorem gcd_sz {k : Nat} {a b : Int} (hb : b ≠ 0) (h : Sz k b) : Sz k (Int.gcd a b : Int) := by
  unfold Sz at *
  rw [Int.natAbs_natCast]
  have := Nat.gcd_le_right a.natAbs (show 0 < b.natAbs by omega)
  exact Nat.lt_of_le_of_lt this h
section
variable {P : Pg} {i g n : Nat} {M : MH} {a b : Int}
theorem gcd_abs (G : GcdAt P g) (h1 : Sz 4000 a) (h2 : Sz 4000 b) : run P (n + 1) g [.int (a.natAbs : Int), .int (b.natAbs : Int)] M = .ok (.int (Int.gcd a b)) M := by
  rw [G.run n M _ _ (Int.natCast_nonneg _) (Int.natCast_nonneg _) h1.nat h2.nat]
  rfl
theorem byLow_ok (hf : IsD P i 2 3 (bByLow g)) (G : GcdAt P g) (hb : b ≠ 0) (h1 : Sz 4000 a) (h2 : Sz 4000 b) : run P (n + 2) i [.int a, .int b] M = .ok (nf a b).mv M := by
  have hg : 0 < Int.gcd a b := Int.gcd_pos_of_ne_zero_right a hb
  obtain ⟨d1, d2⟩ := nf_dvd (a := a) (b := b)
  have gs : Sz 4000 (Int.gcd a b : Int) := gcd_sz hb h2
  have gz : (Int.gcd a b : Int) ≠ 0 := by omega
  have gz' : -(Int.gcd a b : Int) ≠ 0 := by omega
  rw [hf.go rfl]
  unfold nf Fr.mv
  by_cases h : b < 0
  · have h' : ¬ 0 < b := by omega
    simp [bByLow, G.arr.cfg, argAt, gcd_abs G h1 h2, h, o_fdv M gz' (gs.neg.fdvOk (by omega)), fdiv_neg_ex hg d1, fdiv_neg_ex hg d2, h']
  · have h' : 0 < b := by omega
    simp [bByLow, G.arr.cfg, argAt, gcd_abs G h1 h2, h, o_fdv M gz (gs.fdvOk (by omega)), fdiv_pos_ex hg, h']
theorem lawBy_ok (hf : IsD P i 2 3 (bLawBy g)) (G : GcdAt P g) (hb : b ≠ 0) (h1 : Sz 4000 a) (h2 : Sz 4000 b) : run P (n + 2) i [.int a, .int b] M = .ok (nf a b).mv M := by
  have hg : 0 < Int.gcd a b := Int.gcd_pos_of_ne_zero_right a hb
  obtain ⟨d1, d2⟩ := nf_dvd (a := a) (b := b)
  have gs : Sz 4000 (Int.gcd a b : Int) := gcd_sz hb h2
  have gz : (Int.gcd a b : Int) ≠ 0 := by omega
  rw [hf.go rfl]
  unfold nf Fr.mv
  by_cases h : 0 < b
  · simp [bLawBy, G.arr.cfg, argAt, gcd_abs G h1 h2, h, o_fdv M gz (gs.fdvOk (by omega)), fdiv_pos_ex hg]
  · have e1 := neg_ediv_ex hg d1
    have e2 := neg_ediv_ex hg d2
    simp only [Int.zero_sub] at e1 e2
    simp [bLawBy, G.arr.cfg, argAt, gcd_abs G h1 h2, h, o_fdv M gz (gs.fdvOk (by omega)), fdiv_pos_ex hg, e1, e2]
end
end MP

set_option Elab.async false
set_option linter.all false
set_option maxRecDepth 100000
set_option autoImplicit false
set_option maxHeartbeats 4000000
/-! MP, part n: _law_same, _law_purse, _law_pick. -/
namespace MP
open PySem

/-! ### told is like due -/
def Like (M : MH) : Nat → MV → MV → Prop
  | 0, _, _ => False
  | n + 1, u, v => match v with
    | .non => u = .non
    | .bl b => u = .bl b
    | .int i => u = .int i
    | .tup vs => ∃ us, u = .tup us ∧ us.length = vs.length ∧ vs.length ≤ 1000 ∧ ∀ (i : Nat) (x y : MV), us[i]? = some x → vs[i]? = some y → Like M n x y
    | .lst b => ∃ a us vs, u = .lst a ∧ M[a]? = some us ∧ M[b]? = some vs ∧ us.length = vs.length ∧ vs.length ≤ 1000 ∧ ∀ (i : Nat) (x y : MV), us[i]? = some x → vs[i]? = some y → Like M n x y
    | _ => False
theorem Like.app {M M' : MH} (h : App M M') : ∀ (n : Nat) (u v : MV), Like M n u v → Like M' n u v
  | 0, _, _, e => e.elim
  | n + 1, u, v, e => by
    unfold Like at e ⊢
    cases v <;> first
      | exact e
      | skip
    · obtain ⟨us, e1, e2, e3, e4⟩ := e
      exact ⟨us, e1, e2, e3, fun i x y h1 h2 => Like.app h n x y (e4 i x y h1 h2)⟩
    · obtain ⟨a, us, vs, e1, e2, e3, e4, e5, e6⟩ := e
      exact ⟨a, us, vs, e1, h.get e2, h.get e3, e4, e5, fun i x y h1 h2 => Like.app h n x y (e6 i x y h1 h2)⟩
theorem Like.fr {M : MH} {n : Nat} (x : Fr) : Like M (n + 2) x.mv x.mv := by
  refine ⟨_, rfl, rfl, by simp, fun i u v h1 h2 => ?_⟩
  match i, h1, h2 with
  | 0, h1, h2 => cases h1; cases h2; rfl
  | 1, h1, h2 => cases h1; cases h2; rfl
  | i + 2, h1, h2 => simp at h1
theorem Like.mono {M : MH} : ∀ (n : Nat) (u v : MV), Like M n u v → Like M (n + 1) u v
  | 0, _, _, e => e.elim
  | n + 1, u, v, e => by
    unfold Like at e ⊢
    cases v <;> first
      | exact e
      | skip
    · obtain ⟨us, e1, e2, e3, e4⟩ := e
      exact ⟨us, e1, e2, e3, fun i x y h1 h2 => Like.mono n x y (e4 i x y h1 h2)⟩
    · obtain ⟨a, us, vs, e1, e2, e3, e4, e5, e6⟩ := e
      exact ⟨a, us, vs, e1, e2, e3, e4, e5, fun i x y h1 h2 => Like.mono n x y (e6 i x y h1 h2)⟩
def bSame (f : Nat) : Ss :=
    (.cons (.iff (.cmp .is (.var 1) (.cst (.non)))
      (.cons (.ret (.cmp .is (.var 0) (.cst (.non)))) .nil) .nil)
    (.cons (.iff (.cmp .is (.var 1) (.cst (.bl true)))
      (.cons (.ret (.cmp .is (.var 0) (.cst (.bl true)))) .nil) .nil)
    (.cons (.iff (.cmp .is (.var 1) (.cst (.bl false)))
      (.cons (.ret (.cmp .is (.var 0) (.cst (.bl false)))) .nil) .nil)
    (.cons (.iff (.isi (.var 1) [.list, .tuple] true)
      (.cons (.asg (.nm 2) (.ife (.isi (.var 1) [.list] false) (.isi (.var 0) [.list] false) (.isi (.var 0) [.tuple] false)))
      (.cons (.ret (.and (.var 2) (.and (.cmp .eq (.blt .len (.cons (.var 0) .nil)) (.blt .len (.cons (.var 1) .nil))) (.blt .all (.cons (.com (.tp [3, 4]) (.zip (.var 0) (.var 1)) none (.cal f 0 (.cons (.var 3) (.cons (.var 4) .nil)) .nil)) .nil))))) .nil)) .nil)
    (.cons (.iff (.isi (.var 1) [.int] false)
      (.cons (.ret (.and (.isi (.var 0) [.int] false) (.and (.not (.isi (.var 0) [.bool] false)) (.cmp .eq (.var 0) (.var 1))))) .nil) .nil)
    (.cons (.ret (.and (.isi (.var 0) [.str] false) (.cmp .eq (.var 0) (.var 1)))) .nil))))))
theorem boolsOf_rep : ∀ k : Nat, boolsOf (List.replicate k (.bl true)) = some (List.replicate k true)
  | 0 => rfl
  | k + 1 => by
    rw [List.replicate_succ, List.replicate_succ]
    unfold boolsOf
    rw [boolsOf_rep k]
    rfl
theorem all_rep {M : MH} {q k : Nat} (h : M[q]? = some (List.replicate k (.bl true))) : btop .all [.lst q] M = .ok (.bl true) M := by
  simp [btop, itemsL, h, boolsOf_rep]
theorem same_ok {P : Pg} {f : Nat} (hf : IsD P f 2 5 (bSame f)) (ha : Arr P f 0 [.at 0, .at 1]) (hm : 10000 ≤ P.most) : ∀ (d n : Nat) (M : MH) (u v : MV), Like M d u v → ∃ M', run P (n + d) f [u, v] M = .ok (.bl true) M' ∧ App M M'
  | 0, _, _, _, _, e => e.elim
  | d + 1, n, M, u, v, e => by
    rw [show n + (d + 1) = (n + d) + 1 from rfl, hf.go rfl]
    -- the parts, one by one
    have walk : ∀ (us vs : List MV) (s : Src) (N : MH) (m : Sl), us.length = vs.length → vs.length ≤ 1000 → (∀ (i : Nat) (x y : MV), us[i]? = some x → vs[i]? = some y → Like M d x y) → (∀ N, App M N → ∀ i, s.stop N i = decide (us.length ≤ i)) → (∀ N, App M N → ∀ (i : Nat) (x y : MV), us[i]? = some x → vs[i]? = some y → s.item N i = some (.tup [x, y])) → App M N →
        (∀ x y, (Tg.tp [3, 4]).set (.tup [x, y]) (wip m [3, 4]) = some [some u, some v, m[2]?.getD none, some x, some y]) →
        ∃ N', kcom (cfg P (n + d)) (.tp [3, 4]) none (.cal f 0 (.cons (.var 3) (.cons (.var 4) .nil)) .nil) m s N = .ok (.lst N'.length) (N' ++ [List.replicate us.length (.bl true)]) ∧ App M N' := by
      intro us vs s N m hl hv hlk hst hit hN hm'
      obtain ⟨acc, N', r1, r2, r3⟩ := comL_inv (s := s) (f := turn (cfg P (n + d)) (.tp [3, 4]) none (.cal f 0 (.cons (.var 3) (.cons (.var 4) .nil)) .nil) m) (N := us.length) (fun i acc N => App M N ∧ acc = List.replicate i (.bl true)) (by
          rintro i acc N hi ⟨hA, rfl⟩
          have h1 : us[i]? = some us[i] := List.getElem?_eq_getElem hi
          have h2 : vs[i]? = some vs[i] := List.getElem?_eq_getElem (by omega)
          obtain ⟨N2, q1, q2⟩ := same_ok hf ha hm d n N us[i] vs[i] (Like.app hA d _ _ (hlk i _ _ h1 h2))
          refine ⟨?_, .tup [us[i], vs[i]], some (.bl true), N2, hit N hA i _ _ h1 h2, ?_, ?_, hA.trans q2, ?_⟩
          · rw [hst N hA i]
            exact decide_eq_false (by omega)
          · unfold turn
            rw [show (Tg.tp [3, 4]).own = [3, 4] from rfl, hm']
            simp [ha.cfg, argAt, q1]
          · rw [List.length_replicate]
            unfold lim
            omega
          · rw [List.replicate_succ']
            rfl) (by
          rintro acc N ⟨hA, _⟩
          rw [hst N hA]
          exact decide_eq_true (Nat.le_refl _)) P.most 0 [] N (by omega) (by omega) ⟨hN, rfl⟩
      refine ⟨N', ?_, r2⟩
      unfold kcom
      rw [cfg_most, r1, r3]
      simp
    unfold Like at e
    cases v with
    | non =>
      subst e
      exact ⟨M, by simp [bSame, isM], App.refl⟩
    | bl b =>
      subst e
      refine ⟨M, ?_, App.refl⟩
      cases b <;> simp [bSame, isM]
    | int i =>
      subst e
      exact ⟨M, by simp [bSame, isM, isiM, tyOfM], App.refl⟩
    | tup vs =>
      obtain ⟨us, rfl, h1, h2, h3⟩ := e
      obtain ⟨N', w1, w2⟩ := walk us vs (.zt us vs) M [some (.tup us), some (.tup vs), some (.bl true), none, none] h1 h2 h3 (fun N _ i => by simp [Src.stop, h1]) (fun N _ i x y e1 e2 => by simp [Src.item, e1, e2]) App.refl (fun x y => rfl)
      refine ⟨N' ++ [List.replicate us.length (.bl true)], ?_, w2.trans App.one⟩
      simp [bSame, isM, isiM, tyOfM, h1, kzip, zipOf, w1, all_rep get_new]
    | lst b =>
      obtain ⟨a, us, vs, rfl, e1, e2, h1, h2, h3⟩ := e
      obtain ⟨N', w1, w2⟩ := walk us vs (.zl (.lst a) (.lst b)) M [some (.lst a), some (.lst b), some (.bl true), none, none] h1 h2 h3 (fun N hN i => by simp [Src.stop, itemsL, hN.get e1, hN.get e2, h1]) (fun N hN i x y q1 q2 => by simp [Src.item, itemsL, hN.get e1, hN.get e2, q1, q2]) App.refl (fun x y => rfl)
      refine ⟨N' ++ [List.replicate us.length (.bl true)], ?_, w2.trans App.one⟩
      simp [bSame, isM, isiM, tyOfM, h1, kzip, zipOf, itemsL, e1, e2, w1, all_rep get_new, b_lenL M e1, b_lenL M e2]
    | str s => exact e.elim
    | kls xs => exact e.elim
    | dct => exact e.elim

/-! ### picks -/
def bPick (iD : Nat) : Ss :=
    (.cons (.ret (.idx (.var 1) (.cal iD 0 (.cons (.var 0) (.cons (.blt .len (.cons (.var 1) .nil)) .nil)) .nil))) .nil)
theorem nat_log {n k : Nat} (h : n < 2 ^ k) (hk : 0 < k) : (n : Int).natAbs.log2 < k := log_lt (i := n) (by rw [Int.natAbs_natCast]; exact h) hk
theorem pick_ok {P : Pg} {iP iD n p g d q : Nat} {M : MH} {xs : List MV} (hf : IsD P iP 2 2 (bPick iD)) (hd : IsD P iD 2 4 bDraw) (ha : Arr P iD 0 [.at 0, .at 1]) (hp : Purse p g d M) (hdd : d < 1000000) (hq : M[q]? = some xs) (hqp : q ≠ p) (h0 : xs ≠ []) (hl : xs.length ≤ 1000) :
    ∃ x M', run P (n + 2) iP [.lst p, .lst q] M = .ok x M' ∧ x ∈ xs ∧ Purse p g (d + 1) M' ∧ Ext p M M' ∧ M'.length = M.length := by
  have hpos : 0 < xs.length := List.length_pos_iff.mpr h0
  obtain ⟨t, M', h1, h2, h3, h4, h5, h6⟩ := draw_ok (n := n) (k := (xs.length : Int)) hd hp hdd (by omega) (Nat.lt_of_lt_of_le (nat_log (k := 10) (by omega) (by omega)) (by omega))
  have ht : t.toNat < xs.length := by omega
  have e : L2.atI xs t = some xs[t.toNat] := by
    have h3' : t < xs.length := h3
    unfold L2.atI L2.ixN
    simp [h2, h3', ht]
  refine ⟨xs[t.toNat], M', ?_, List.getElem_mem ht, h4, h5, h6⟩
  rw [hf.go rfl]
  simp [bPick, b_lenL M hq, ha.cfg, argAt, h1, ixL M' t (h5.get hqp hq) e]

/-! ### the purse -/
def bPurse : Ss :=
    (.cons (.asg (.nm 1) (.cst (.int 7)))
    (.cons (.for (.nm 2) (.seq (.slc (.var 0) none (some (.cst (.int 63)))))
      (.cons (.asg (.nm 1) (.bin .mod (.blt .int (.cons (.bin .add (.bin .mul (.var 1) (.cst (.int 31))) (.var 2)) .nil)) (.cst (.int 2147483647)))) .nil))
    (.cons (.ret (.lst (.cons (.com (.nm 2) (.seq (.slc (.var 0) none (some (.cst (.int 63))))) (some (.cmp .ge (.var 2) (.bin .pow (.cst (.int 10)) (.cst (.int 18))))) (.var 2)) (.cons (.cst (.int 0)) (.cons (.cst (.int 0)) (.cons (.cst (.int 0)) (.cons (.var 1) .nil))))))) .nil)))
theorem slc_all {C : Cf} {m : Sl} {M : MH} {ns : List Int} (hl : ns.length ≤ 63) : kslc C none (some (.cst (.int 63))) m (.kls (ns.map .int)) M = .ok (.lst M.length) (M ++ [ns.map .int]) := by
  unfold kslc
  simp only [bnd_ok_, e_cst, asBnd, slcop, itemsL, newL, cutM]
  have e : (List.map MV.int ns).length = ns.length := List.length_map ..
  have e1 : HT.sIx (List.map MV.int ns).length 0 none = 0 := rfl
  have e2 : HT.sIx (List.map MV.int ns).length (List.map MV.int ns).length (some 63) = ns.length := by
    rw [e]
    unfold HT.sIx
    simp
    omega
  rw [e1, e2]
  have e3 : List.take (ns.length - 0) (List.drop 0 (List.map MV.int ns)) = List.map MV.int ns := by
    simp
    rw [← e, List.take_length]
  rw [e3]
theorem purse_ok {P : Pg} {iU n : Nat} {ns : List Int} (hf : IsD P iU 1 3 bPurse) (hm : 10000 ≤ P.most) (hl : ns.length ≤ 63) : ∃ p g M, run P (n + 1) iU [.kls (ns.map .int)] [] = .ok (.lst p) M ∧ Purse p g 0 M := by
  rw [hf.go rfl]
  -- the seed
  obtain ⟨m', M', w1, sd, w2, w3, w4, w5, w6⟩ := forL_inv (s := .ls (.lst 0)) (f := fturn (cfg P n) (.nm 2) (.cons (.asg (.nm 1) (.bin .mod (.blt .int (.cons (.bin .add (.bin .mul (.var 1) (.cst (.int 31))) (.var 2)) .nil)) (.cst (.int 2147483647)))) .nil)) (N := ns.length)
    (fun i m N => ∃ s x, m = [some (.kls (ns.map .int)), some (.int s), x] ∧ 0 ≤ s ∧ s < 2147483647 ∧ N = [ns.map .int]) (by
      rintro i m N hi ⟨s, x, rfl, h1, h2, rfl⟩
      have e : ([ns.map MV.int] : MH)[0]? = some (ns.map .int) := rfl
      have h3 : Sz 40 s := by unfold Sz; omega
      have m1 := h3.mulOk (y := 31) (l := 5) (by unfold Sz; decide) (by omega)
      refine ⟨?_, .int ns[i], [some (.kls (ns.map .int)), some (.int ((s * 31 + ns[i]).fmod 2147483647)), some (.int ns[i])], _, ?_, ?_, _, _, rfl, Int.fmod_nonneg_of_pos _ (by decide), Int.fmod_lt_of_pos _ (by decide), rfl⟩
      · rw [ls_stop e]
        exact decide_eq_false (by rw [List.length_map]; omega)
      · rw [ls_item e, List.getElem?_map, List.getElem?_eq_getElem hi]
        rfl
      · unfold fturn
        rw [tgN]
        simp [o_mul _ m1, o_mod _ (show (2147483647 : Int) ≠ 0 by decide)]) (by
      rintro m N ⟨s, x, rfl, h1, h2, rfl⟩
      have e : ([ns.map MV.int] : MH)[0]? = some (ns.map .int) := rfl
      rw [ls_stop e]
      exact decide_eq_true (by simp)) P.most 0 [some (.kls (ns.map .int)), some (.int 7), none] [ns.map .int] (by omega) (by omega) ⟨7, none, rfl, by decide, by decide, rfl⟩
  subst w3 w6
  obtain ⟨acc, M'', r1, r2, r3, xs, r4⟩ := comL_inv (s := .ls (.lst 1)) (f := turn (cfg P n) (.nm 2) (some (.cmp .ge (.var 2) (.bin .pow (.cst (.int 10)) (.cst (.int 18))))) (.var 2) [some (.kls (ns.map .int)), some (.int sd), w2]) (N := ns.length)
      (fun i acc N => N = [ns.map .int, ns.map .int] ∧ acc.length ≤ i ∧ ∃ xs : List Int, acc = xs.map .int) (by
      rintro i acc N hi ⟨rfl, h1, xs, rfl⟩
      have e : ([ns.map MV.int, ns.map MV.int] : MH)[1]? = some (ns.map .int) := rfl
      have hpow : (0 : Int) ≤ 18 ∧ (18 : Int) ≤ 1000 ∧ (10 : Int).natAbs < 2 ^ 64 := by decide
      refine ⟨?_, .int ns[i], if (10 : Int) ^ 18 ≤ ns[i] then some (.int ns[i]) else none, _, ?_, ?_, ?_, rfl, ?_, ?_⟩
      · rw [ls_stop e]
        exact decide_eq_false (by rw [List.length_map]; omega)
      · rw [ls_item e, List.getElem?_map, List.getElem?_eq_getElem hi]
        rfl
      · unfold turn
        rw [tgN]
        by_cases h : (10 : Int) ^ 18 ≤ ns[i]
        · simp at h
          simp [Tg.own, wip, o_pow _ hpow, h]
        · simp at h
          simp [Tg.own, wip, o_pow _ hpow, Int.not_le.mpr h]
      · unfold lim
        omega
      · split <;> simp <;> simp at h1 <;> omega
      · split
        · exact ⟨xs ++ [ns[i]], by simp⟩
        · exact ⟨xs, by simp⟩) (by
      rintro acc N ⟨rfl, h1, h2⟩
      have e : ([ns.map MV.int, ns.map MV.int] : MH)[1]? = some (ns.map .int) := rfl
      rw [ls_stop e]
      exact decide_eq_true (by simp)) P.most 0 [] [ns.map .int, ns.map .int] (by omega) (by omega) ⟨rfl, by simp, [], rfl⟩
  subst r2 r4
  refine ⟨3, 2, [ns.map .int, ns.map .int, xs.map .int, [.lst 2, .int (0 : Nat), .int 0, .int (0 : Nat), .int sd]], ?_, by decide, xs, 0, 0, 0, sd, rfl, rfl, by omega, w4, w5⟩
  have k1 := slc_all (C := cfg P n) (m := [some (.kls (ns.map .int)), some (.int 7), none]) (M := []) hl
  have k2 := slc_all (C := cfg P n) (m := [some (.kls (ns.map .int)), some (.int sd), w2]) (M := [ns.map .int]) hl
  simp only [List.length_nil, List.nil_append] at k1
  simp [bPurse, k1, seqL, kfor, w1, k2, kcom, r1]
end MP

set_option Elab.async false
set_option linter.all false
set_option maxRecDepth 100000
set_option autoImplicit false
set_option maxHeartbeats 4000000
/-! MP, part o: what repr shows. -/
namespace MP
open PySem

/-- data of small leaves -/
structure Rg (d : PyData) (w : Nat) : Prop where
  lv : d.leavesShort 3000 = true
  sh : d.showable = true
  nd : d.hasDict = false
  dp : d.depth ≤ 20
  wt : d.weight ≤ w
structure Rgs (ds : List PyData) (w : Nat) : Prop where
  lv : PyData.leavesShortAll 3000 ds = true
  sh : PyData.showableAll ds = true
  nd : PyData.hasDictAll ds = false
  dp : PyData.depthAll ds ≤ 19
  wt : PyData.weightAll ds ≤ w
theorem Rg.fits {d : PyData} {w : Nat} (h : Rg d w) (hw : w ≤ 5000) : d.shown.length ≤ sizeLine := by
  have e := PyData.shown_le 3000 (by decide) d h.lv
  have := h.wt
  rw [sizeLine_eq]
  omega
/-- the value's data, whatever the heap is grown by -/
def Rv (k : Nat) (M : MH) (v : MV) (w : Nat) : Prop := ∃ d, (∀ n M', k ≤ n → App M M' → pd n M' v = some d) ∧ d.depth + 1 ≤ k ∧ Rg d w
def Rvs (k : Nat) (M : MH) (vs : List MV) (w : Nat) : Prop := ∃ ds, (∀ n M', k ≤ n → App M M' → vs.mapM (pd n M') = some ds) ∧ PyData.depthAll ds + 1 ≤ k ∧ Rgs ds w
theorem pos_of {n : Nat} (h : 1 ≤ n) : ∃ m, n = m + 1 := ⟨n - 1, by omega⟩
theorem atom {M : MH} {v : MV} {d : PyData} {w : Nat} (h : ∀ n M', pd (n + 1) M' v = some d) (g : Rg d w) (h0 : d.depth = 0) : Rv 1 M v w := by
  refine ⟨d, fun n M' hn _ => ?_, by omega, g⟩
  obtain ⟨m, rfl⟩ := pos_of hn
  exact h m M'
theorem rv_non {M : MH} : Rv 1 M .non 0 := atom (fun _ _ => rfl) ⟨by simp [PyData.leavesShort], by simp [PyData.showable], by simp [PyData.hasDict], by simp [PyData.depth], by simp [PyData.weight]⟩ (by simp [PyData.depth])
theorem rv_bl {M : MH} (b : Bool) : Rv 1 M (.bl b) 0 := atom (fun _ _ => rfl) ⟨by simp [PyData.leavesShort], by simp [PyData.showable], by simp [PyData.hasDict], by simp [PyData.depth], by simp [PyData.weight]⟩ (by simp [PyData.depth])
theorem int_short {i : Int} {k : Nat} (h : Sz k i) (hk : k ≤ 1500) : (PyData.int i).leavesShort 3000 = true := by
  have := int_text_length_le (k := k + 1) (by omega) (log_lt (k := k + 1) (h.mono (by omega)) (by omega))
  have e : (PyData.int i).shown.length = (toString i).length := by
    simp only [PyData.shown]
    exact ofString_length _
  unfold PyData.leavesShort
  exact decide_eq_true (by rw [e]; omega)
theorem rv_int {M : MH} {i : Int} {k : Nat} (h : Sz k i) (hk : k ≤ 1500) : Rv 1 M (.int i) (k + 1) := by
  have hl := log_lt (k := k + 1) (h.mono (by omega)) (by omega)
  refine atom (fun _ _ => rfl) ⟨int_short h hk, ?_, by simp [PyData.hasDict], by simp [PyData.depth], ?_⟩ (by simp [PyData.depth])
  · simp only [PyData.showable, decide_eq_true_eq]
    omega
  · by_cases h0 : i = 0
    · subst h0
      simp [PyData.weight]
    · have hn : i.natAbs ≠ 0 := by omega
      have h2 : i.natAbs < 2 ^ k := h
      have h3 := (Nat.log2_lt hn).mpr h2
      simp only [PyData.weight]
      split <;> omega
theorem cps_small (s : String) : (Str.ofString s).cps.toList.all (fun c => decide (c < 16 ^ 8)) = true := by
  rw [List.all_eq_true]
  intro c hc
  rw [Str.ofString_eq_toList] at hc
  simp only [List.toList_toArray, List.mem_map] at hc
  obtain ⟨x, _, rfl⟩ := hc
  have h := x.val.toNat_lt
  exact decide_eq_true (show x.val.toNat < 16 ^ 8 by omega)
theorem rv_str {M : MH} (s : String) {k : Nat} (h : s.length ≤ k) : Rv 1 M (.str (Str.ofString s)) k := by
  refine atom (fun _ _ => rfl) ⟨?_, by simp [PyData.showable], by simp [PyData.hasDict], by simp [PyData.depth], ?_⟩ (by simp [PyData.depth])
  · simp only [PyData.leavesShort]
    exact cps_small s
  · simp only [PyData.weight]
    rw [show (Str.ofString s).cps.size = (Str.ofString s).length from rfl, ofString_length]
    exact h
theorem rvs_nil {M : MH} : Rvs 1 M [] 0 := ⟨[], fun _ _ _ _ => rfl, by simp [PyData.depthAll], by simp [PyData.leavesShortAll], by simp [PyData.showableAll], by simp [PyData.hasDictAll], by simp [PyData.depthAll], by simp [PyData.weightAll]⟩
theorem rvs_cons {M : MH} {v : MV} {vs : List MV} {k w w' : Nat} (h : Rv k M v w) (hs : Rvs k M vs w') (hk : k ≤ 20) : Rvs k M (v :: vs) (w + 1 + w') := by
  obtain ⟨d, h1, h2, h3⟩ := h
  obtain ⟨ds, g1, g2, g3⟩ := hs
  refine ⟨d :: ds, fun n M' hn ha => ?_, ?_, ?_, ?_, ?_, ?_, ?_⟩
  · rw [List.mapM_cons, h1 n M' hn ha, g1 n M' hn ha]
    rfl
  · simp only [PyData.depthAll]
    omega
  · simp [PyData.leavesShortAll, h3.lv, g3.lv]
  · simp [PyData.showableAll, h3.sh, g3.sh]
  · simp [PyData.hasDictAll, h3.nd, g3.nd]
  · simp only [PyData.depthAll]
    omega
  · simp only [PyData.weightAll]
    have := h3.wt
    have := g3.wt
    omega
theorem Rv.up {M : MH} {v : MV} {k l w : Nat} (h : Rv k M v w) (hk : k ≤ l) : Rv l M v w := by
  obtain ⟨d, h1, h2, h3⟩ := h
  exact ⟨d, fun n M' hn ha => h1 n M' (by omega) ha, by omega, h3⟩
theorem Rvs.up {M : MH} {v : List MV} {k l w : Nat} (h : Rvs k M v w) (hk : k ≤ l) : Rvs l M v w := by
  obtain ⟨d, h1, h2, h3⟩ := h
  exact ⟨d, fun n M' hn ha => h1 n M' (by omega) ha, by omega, h3⟩
theorem Rv.app {M M' : MH} {v : MV} {k w : Nat} (h : Rv k M v w) (a : App M M') : Rv k M' v w := by
  obtain ⟨d, h1, h2⟩ := h
  exact ⟨d, fun n M'' hn ha => h1 n M'' hn (a.trans ha), h2⟩
theorem rv_tup {M : MH} {vs : List MV} {k w : Nat} (h : Rvs k M vs w) : Rv (k + 1) M (.tup vs) w := by
  obtain ⟨ds, g1, g2, g3⟩ := h
  refine ⟨.tuple ds, fun n M' hn ha => ?_, ?_, ?_, ?_, ?_, ?_, ?_⟩
  · obtain ⟨m, rfl⟩ := pos_of (show 1 ≤ n by omega)
    simp only [pd]
    rw [g1 m M' (by omega) ha]
    rfl
  · simp only [PyData.depth]
    omega
  · simp [PyData.leavesShort, g3.lv]
  · simp [PyData.showable, g3.sh]
  · simp [PyData.hasDict, g3.nd]
  · simp only [PyData.depth]
    have := g3.dp
    omega
  · simp only [PyData.weight]
    exact g3.wt
theorem rv_lst {M : MH} {vs : List MV} {k w a : Nat} (hM : M[a]? = some vs) (h : Rvs k M vs w) : Rv (k + 1) M (.lst a) w := by
  obtain ⟨ds, g1, g2, g3⟩ := h
  refine ⟨.list ds, fun n M' hn ha => ?_, ?_, ?_, ?_, ?_, ?_, ?_⟩
  · obtain ⟨m, rfl⟩ := pos_of (show 1 ≤ n by omega)
    simp only [pd, ha.get hM]
    rw [g1 m M' (by omega) ha]
    rfl
  · simp only [PyData.depth]
    omega
  · simp [PyData.leavesShort, g3.lv]
  · simp [PyData.showable, g3.sh]
  · simp [PyData.hasDict, g3.nd]
  · simp only [PyData.depth]
    have := g3.dp
    omega
  · simp only [PyData.weight]
    exact g3.wt
/-- a value's text, whatever the heap is grown by -/
def Txt (M : MH) (v : MV) (s : Str) : Prop := ∀ M', App M M' → reprM M' v = some s
theorem Rv.txt {M : MH} {v : MV} {k w : Nat} (h : Rv k M v w) (hk : k ≤ 30) (hw : w ≤ 5000) : ∃ s, Txt M v s := by
  obtain ⟨d, h1, h2, h3⟩ := h
  refine ⟨d.shown, fun M' ha => ?_⟩
  have e := h1 pdDepth M' hk ha
  have hc : d.showable = true ∧ d.hasDict = false ∧ d.depth ≤ 100 ∧ d.shown.length ≤ sizeLine := ⟨h3.sh, h3.nd, by have := h3.dp; omega, h3.fits hw⟩
  unfold reprM
  cases v <;> first
    | (simp only [e, if_pos hc]; done)
    | (unfold pdDepth pd at e; cases e)
theorem txt_dct {M : MH} : Txt M .dct "{}" := fun _ _ => rfl
theorem Txt.app {M M' : MH} {v : MV} {s : Str} (h : Txt M v s) (a : App M M') : Txt M' v s := fun M'' b => h M'' (a.trans b)
theorem b_repr {M M' : MH} {v : MV} {s : Str} (h : Txt M v s) (a : App M M') : btop .repr [v] M' = .ok (.str s) M' := by
  simp [btop, h M' a]
end MP

set_option Elab.async false
set_option linter.all false
set_option maxRecDepth 100000
set_option autoImplicit false
set_option maxHeartbeats 1000000
/-! TM, part a: the small machine MP once more, over trees in place of a heap. A value bears a grade: s shared, r its root is held here alone, d all of its lists are held here alone. -/
namespace TM
open PySem MP

inductive TV where
  | non | bl (b : Bool) | int (i : Int) | str (s : Str) | tup (xs : List TV) | lst (xs : List TV) | dct | pur
inductive G | s | r | d
  deriving DecidableEq
mutual
def noL : TV → Bool
  | .tup xs => noLs xs
  | .lst _ => false
  | _ => true
def noLs : List TV → Bool
  | [] => true
  | x :: xs => noL x && noLs xs
end
/-- a value without lists is held alone -/
def gr (g : G) (t : TV) : G := if noL t = true then .d else g
/-- the grade of a new list -/
def gl (g : G) (xs : List TV) : G := if noLs xs = true then .d else match g with
  | .d => .d
  | _ => .r
def gsub : G → G
  | .d => .d
  | _ => .s
def gm : G → G → G
  | .d, .d => .d
  | _, _ => .s
abbrev GV := G × TV
def gall : List GV → G
  | [] => .d
  | x :: xs => gm x.1 (gall xs)
abbrev TSl := List (Option GV)

inductive TR (S α : Type) where
  | bad | ok (a : α) (s : S)
def TR.bnd {S α β : Type} (x : TR S α) (f : α → S → TR S β) : TR S β := match x with
  | .bad => .bad
  | .ok a s => f a s
def TR.of {S α : Type} (s : S) : Option α → TR S α
  | some a => .ok a s
  | none => .bad

mutual
/-- a constant's tree -/
def tcv : MV → Option TV
  | .non => some .non
  | .bl b => some (.bl b)
  | .int i => some (.int i)
  | .str s => some (.str s)
  | .tup xs => (tcvs xs).map .tup
  | .kls _ => none
  | .lst _ => none
  | .dct => some .dct
def tcvs : List MV → Option (List TV)
  | [] => some []
  | x :: xs => match tcv x, tcvs xs with
    | some t, some ts => some (t :: ts)
    | _, _ => none
end

mutual
/-- the data of a tree; n: more than its depth -/
def pdT : Nat → TV → Option PyData
  | 0, _ => none
  | _ + 1, .non => some .none
  | _ + 1, .bl b => some (.bool b)
  | _ + 1, .int i => some (.int i)
  | _ + 1, .str s => some (.str s)
  | n + 1, .tup xs => (pdTs n xs).map .tuple
  | n + 1, .lst xs => (pdTs n xs).map .list
  | _ + 1, .dct => none
  | _ + 1, .pur => none
def pdTs : Nat → List TV → Option (List PyData)
  | _, [] => some []
  | n, x :: xs => match pdT n x, pdTs n xs with
    | some d, some ds => some (d :: ds)
    | _, _ => none
end

def tbin (o : BOp) (u v : GV) : Option GV := match o, u.2, v.2 with
  | .add, .int i, .int j => some (.d, .int (i + j))
  | .add, .lst a, .lst b => if a.length + b.length ≤ lim then some (gl (gm u.1 v.1) (a ++ b), .lst (a ++ b)) else none
  | .add, .str a, .str b => if a.length + b.length ≤ lim then some (.d, .str (a ++ b)) else none
  | .sub, .int i, .int j => some (.d, .int (i - j))
  | .mul, .int i, .int j => if i.natAbs.log2 + j.natAbs.log2 < 1000000 then some (.d, .int (i * j)) else none
  | .mul, .lst a, .int j => if -1000 ≤ j ∧ j ≤ 1000 ∧ a.length * j.toNat ≤ lim then some (gl .s (List.replicate j.toNat a).flatten, .lst (List.replicate j.toNat a).flatten) else none
  | .fdv, .int i, .int j => if j ≠ 0 ∧ j.natAbs.log2 < 9000 then some (.d, .int (i.fdiv j)) else none
  | .mod, .int i, .int j => if j ≠ 0 then some (.d, .int (i.fmod j)) else none
  | .pow, .int i, .int j => if 0 ≤ j ∧ j ≤ 1000 ∧ i.natAbs < 2 ^ 64 then some (.d, .int (i ^ j.toNat)) else none
  | _, _, _ => none
def teq (u v : TV) : Option Bool := match u, v with
  | .int i, .int j => some (i == j)
  | .str a, .str b => some (decide (a = b))
  | _, _ => match pdT pdDepth u, pdT pdDepth v with
    | some d, some e => if SeqAt.shaped d = true ∧ SeqAt.shaped e = true then some (PyData.eqv d e) else none
    | _, _ => none
def tin (u v : TV) : Option Bool := match pdT pdDepth u, pdT pdDepth v with
  | some d, some (.list ds) => if SeqAt.shaped d = true ∧ SeqAt.shaped (.list ds) = true then some (ds.any fun z => PyData.eqv z d) else none
  | _, _ => none
def tis (u v : TV) : Option Bool := match u, v with
  | .non, .non => some true
  | .bl a, .bl b => some (a == b)
  | _, .bl _ => some false
  | _, .non => some false
  | _, _ => none
def tcmp (o : COp) (u v : TV) : Option Bool := match o with
  | .eq => teq u v
  | .ne => (teq u v).map (!·)
  | .lt => match u, v with
    | .int i, .int j => some (decide (i < j))
    | _, _ => none
  | .le => match u, v with
    | .int i, .int j => some (decide (i ≤ j))
    | _, _ => none
  | .gt => match u, v with
    | .int i, .int j => some (decide (j < i))
    | _, _ => none
  | .ge => match u, v with
    | .int i, .int j => some (decide (j ≤ i))
    | _, _ => none
  | .is => tis u v
  | .isn => (tis u v).map (!·)
  | .inn => tin u v
  | .nin => (tin u v).map (!·)
def tTy : TV → Option Ty
  | .non => none
  | .bl _ => some .bool
  | .int _ => some .int
  | .str _ => some .str
  | .tup _ => some .tuple
  | .lst _ => some .list
  | .pur => some .list
  | .dct => some .dict
def tisi (v : TV) (ts : List Ty) : Bool := match tTy v with
  | none => false
  | some t => ts.any fun c => c == t || (c == .int && t == .bool)
def tidx (u v : GV) : Option GV := match v.2 with
  | .int i => match u.2 with
    | .tup xs => (L2.atI xs i).map fun x => (gr (gsub u.1) x, x)
    | .lst xs => (L2.atI xs i).map fun x => (gr (gsub u.1) x, x)
    | _ => none
  | _ => none
def tcut {α : Type} (xs : List α) (lo hi : Option Int) : List α := (xs.drop (HT.sIx xs.length 0 lo)).take (HT.sIx xs.length xs.length hi - HT.sIx xs.length 0 lo)
def tslc (u : GV) (lo hi : Option Int) : Option GV := match u.2 with
  | .lst xs => some (gl u.1 (tcut xs lo hi), .lst (tcut xs lo hi))
  | _ => none
def trev (u : GV) : Option GV := match u.2 with
  | .lst xs => some (gl u.1 xs.reverse, .lst xs.reverse)
  | _ => none
def tlen : TV → Option Nat
  | .tup xs => some xs.length
  | .lst xs => some xs.length
  | .str s => if s.length ≤ lim then some s.length else none
  | _ => none
def tbools : List TV → Option (List Bool)
  | [] => some []
  | .bl b :: r => (tbools r).map (b :: ·)
  | _ :: _ => none
def tints : List TV → Option (List Int)
  | [] => some []
  | .int b :: r => (tints r).map (b :: ·)
  | _ :: _ => none
def ttups : List TV → Option (List (List Int))
  | [] => some []
  | x :: r => match x with
    | .tup us => match tints us, ttups r with
      | some ns, some ls => some (ns :: ls)
      | _, _ => none
    | _ => none
def tlsts : List TV → Option (List (List TV))
  | [] => some []
  | x :: r => match x with
    | .lst us => match tlsts r with
      | some ls => some (us :: ls)
      | none => none
    | _ => none
def tsumL (v w : GV) : Option GV := match v.2, w.2, w.1 with
  | .lst xs, .lst [], .d => match tlsts xs with
    | some ls => if ls.flatten.length ≤ lim then (match xs with
      | [] => some (.d, .lst [])
      | _ :: _ => some (gl (gsub v.1) ls.flatten, .lst ls.flatten)) else none
    | none => none
  | _, _, _ => none
def trepr (v : TV) : Option Str := match v with
  | .dct => some "{}"
  | _ => match pdT pdDepth v with
    | some d => if d.showable = true ∧ d.hasDict = false ∧ d.depth ≤ 100 ∧ d.shown.length ≤ sizeLine then some d.shown else none
    | none => none
def tbt (b : Bt) (vs : List GV) : Option GV := match b, vs with
  | .len, [v] => match tlen v.2 with
    | some n => some (.d, .int n)
    | none => none
  | .abs, [v] => match v.2 with
    | .int i => some (.d, .int (i.natAbs : Int))
    | _ => none
  | .int, [v] => match v.2 with
    | .int i => some (.d, .int i)
    | .bl k => some (.d, .int (if k then 1 else 0))
    | _ => none
  | .str, [v] => match v.2 with
    | .int i => if i.natAbs.log2 < 1920 then some (.d, .str (toString i)) else none
    | _ => none
  | .repr, [v] => (trepr v.2).map fun x => (.d, .str x)
  | .all, [v] => match v.2 with
    | .lst xs => (tbools xs).map fun bs => (.d, .bl (bs.all id))
    | _ => none
  | .sum, [v] => match v.2 with
    | .lst xs => (tints xs).map fun ns => (.d, .int ns.sum)
    | _ => none
  | .sum, [v, w] => tsumL v w
  | .list, [v] => match v.2 with
    | .tup xs => some (gl v.1 xs, .lst xs)
    | .lst xs => some (gl v.1 xs, .lst xs)
    | _ => none
  | .tuple, [v] => match v.2 with
    | .tup xs => some (gr (gsub v.1) (.tup xs), .tup xs)
    | .lst xs => some (gr (gsub v.1) (.tup xs), .tup xs)
    | _ => none
  | _, _ => none

/-! ### variables that an expression reads -/
mutual
def fvE : E → List Nat
  | .var i => [i]
  | .cst _ => []
  | .glo _ => []
  | .dnw => []
  | .bin _ a b => fvE a ++ fvE b
  | .cmp _ a b => fvE a ++ fvE b
  | .chn _ _ a b c => fvE a ++ (fvE b ++ fvE c)
  | .and a b => fvE a ++ fvE b
  | .or a b => fvE a ++ fvE b
  | .not a => fvE a
  | .neg a => fvE a
  | .ife c a b => fvE c ++ (fvE a ++ fvE b)
  | .idx a i => fvE a ++ fvE i
  | .slc a lo hi => fvE a ++ ((match lo with | none => [] | some l => fvE l) ++ (match hi with | none => [] | some l => fvE l))
  | .rev a => fvE a
  | .tup es => fvEs es
  | .lst es => fvEs es
  | .cal _ _ es ks => fvEs es ++ fvEs ks
  | .blt _ es => fvEs es
  | .isi a _ _ => fvE a
  | .mth _ a es => fvE a ++ fvEs es
  | .com _ it c e => fvI it ++ ((match c with | none => [] | some l => fvE l) ++ fvE e)
  | .lr1 a => fvE a
  | .lr2 a b => fvE a ++ fvE b
  | .lset a => fvE a
def fvEs : Es → List Nat
  | .nil => []
  | .cons e es => fvE e ++ fvEs es
def fvI : MP.It → List Nat
  | .seq e => fvE e
  | .rg1 a => fvE a
  | .rg2 a b => fvE a ++ fvE b
  | .zip a b => fvE a ++ fvE b
  | .enu a => fvE a
end

structure TCf (S : Type) where
  call : Nat → List TV → S → TR S GV
  glo : Nat → Option MV
  arr : Nat → Nat → Option (List Ar)
  spo : Nat → Bool

def targ (vs : List TV) : Ar → Option TV
  | .at i => vs[i]?
  | .df v => tcv v
def tsetAll (g : G) : List Nat → List TV → TSl → Option TSl
  | [], [], m => some m
  | i :: is, v :: vs, m => tsetAll g is vs (m.set i (some (gr g v, v)))
  | _, _, _ => none
def tset (t : Tg) (g : G) (v : TV) (m : TSl) : Option TSl := match t with
  | .nm i => some (m.set i (some (g, v)))
  | .tp is => match v with
    | .tup xs => tsetAll (gsub g) is xs m
    | _ => none
def twip (m : TSl) : List Nat → TSl
  | [] => m
  | i :: is => (twip m is).set i none
def tcomL {S : Type} (f : TV → S → TR S (Option GV)) : List TV → S → TR S (List GV)
  | [], s => .ok [] s
  | x :: xs, s => (f x s).bnd fun o s1 => (tcomL f xs s1).bnd fun r s2 => .ok (o.toList ++ r) s2
/-- a list is not longer than may be -/
def tlim {S : Type} (xs : List TV) (s : S) (g : G) : TR S (G × List TV) := if xs.length ≤ lim then .ok (g, xs) s else .bad
def trg (lo : Int) (n : Nat) : List TV := (List.range n).map fun i => .int (lo + (i : Nat))
def tenu : Nat → List TV → List TV
  | _, [] => []
  | n, x :: xs => .tup [.int n, x] :: tenu (n + 1) xs
def tzip : List TV → List TV → List TV
  | x :: xs, y :: ys => .tup [x, y] :: tzip xs ys
  | _, _ => []
def bnd1 (x : GV) : Option (Option Int) := match x.2 with
  | .int i => some (some i)
  | _ => none

/-- a comprehension's turn -/
def tturn {S : Type} (t : Tg) (m : TSl) (c : Option (TSl → S → TR S GV)) (e : TSl → S → TR S GV) (x : TV) (s : S) : TR S (Option GV) := match tset t (gr .s x) x (twip m t.own) with
  | none => .bad
  | some m' => match c with
    | none => (e m' s).bnd fun y s' => .ok (some y) s'
    | some c => (c m' s).bnd fun k s' => match k.2 with
      | .bl true => (e m' s').bnd fun y s'' => .ok (some y) s''
      | .bl false => .ok none s'
      | _ => .bad
mutual
def tev {S : Type} (C : TCf S) : E → TSl → S → TR S GV
  | .var i, m, s => match m[i]? with
    | some (some v) => .ok (gr .s v.2, v.2) s
    | _ => .bad
  | .cst v, _, s => match tcv v with
    | some t => .ok (gr .s t, t) s
    | none => .bad
  | .glo k, _, s => match (C.glo k).bind tcv with
    | some t => .ok (gr .s t, t) s
    | none => .bad
  | .dnw, _, s => .ok (.d, .dct) s
  | .bin o a b, m, s => (tev C a m s).bnd fun u s1 => (tev C b m s1).bnd fun v s2 => .of s2 (tbin o u v)
  | .cmp o a b, m, s => (tev C a m s).bnd fun u s1 => (tev C b m s1).bnd fun v s2 => .of s2 ((tcmp o u.2 v.2).map fun b => (.d, .bl b))
  | .chn o p a b c, m, s => (tev C a m s).bnd fun u s1 => (tev C b m s1).bnd fun v s2 => match tcmp o u.2 v.2 with
    | some true => (tev C c m s2).bnd fun z s3 => .of s3 ((tcmp p v.2 z.2).map fun b => (.d, .bl b))
    | some false => .ok (.d, .bl false) s2
    | none => .bad
  | .and a b, m, s => (tev C a m s).bnd fun u s1 => match u.2 with
    | .bl true => tev C b m s1
    | .bl false => .ok (.d, .bl false) s1
    | _ => .bad
  | .or a b, m, s => (tev C a m s).bnd fun u s1 => match u.2 with
    | .bl false => tev C b m s1
    | .bl true => .ok (.d, .bl true) s1
    | _ => .bad
  | .not a, m, s => (tev C a m s).bnd fun u s1 => match u.2 with
    | .bl b => .ok (.d, .bl (!b)) s1
    | _ => .bad
  | .neg a, m, s => (tev C a m s).bnd fun u s1 => match u.2 with
    | .int b => .ok (.d, .int (-b)) s1
    | _ => .bad
  | .ife c a b, m, s => (tev C c m s).bnd fun u s1 => match u.2 with
    | .bl true => tev C a m s1
    | .bl false => tev C b m s1
    | _ => .bad
  | .idx a i, m, s => (tev C a m s).bnd fun u s1 => (tev C i m s1).bnd fun v s2 => .of s2 (tidx u v)
  | .slc a lo hi, m, s => (tev C a m s).bnd fun u s1 =>
    (match lo with
      | none => TR.ok none s1
      | some l => (tev C l m s1).bnd fun x s => .of s (bnd1 x)).bnd fun v s2 =>
    (match hi with
      | none => TR.ok none s2
      | some l => (tev C l m s2).bnd fun x s => .of s (bnd1 x)).bnd fun x s3 => .of s3 (tslc u v x)
  | .rev a, m, s => (tev C a m s).bnd fun u s1 => .of s1 (trev u)
  | .tup es, m, s => (tevs C es m s).bnd fun vs s1 => .ok (gr (gall vs) (.tup (vs.map (·.2))), .tup (vs.map (·.2))) s1
  | .lst es, m, s => (tevs C es m s).bnd fun vs s1 => .ok (gl (gall vs) (vs.map (·.2)), .lst (vs.map (·.2))) s1
  | .cal f sh es ks, m, s => (tevs C es m s).bnd fun vs s1 => (tevs C ks m s1).bnd fun ws s2 => match C.arr f sh with
    | some ar => match ar.mapM (targ (vs.map (·.2) ++ ws.map (·.2))) with
      | some args => C.call f args s2
      | none => .bad
    | none => .bad
  | .blt b es, m, s => (tevs C es m s).bnd fun vs s1 => .of s1 (tbt b vs)
  | .isi a ts _, m, s => (tev C a m s).bnd fun u s1 => .ok (.d, .bl (tisi u.2 ts)) s1
  | .mth _ _ _, _, _ => .bad
  | .com t it c e, m, s => (tevI C it m s).bnd fun x s1 =>
    (tcomL (tturn t m (match c with | none => none | some c => some (tev C c)) (tev C e)) x.2 s1).bnd fun ys s2 => .ok (gl (gall ys) (ys.map (·.2)), .lst (ys.map (·.2))) s2
  | .lr1 a, m, s => (tev C a m s).bnd fun v s1 => match v.2 with
    | .int j => if -1000000 ≤ j ∧ j ≤ 1000000 then .ok (.d, .lst (trg 0 j.toNat)) s1 else .bad
    | _ => .bad
  | .lr2 a b, m, s => (tev C a m s).bnd fun u s1 => (tev C b m s1).bnd fun v s2 => match u.2, v.2 with
    | .int i, .int j => if -1000000 ≤ i ∧ i ≤ 1000000 ∧ -1000000 ≤ j ∧ j ≤ 1000000 then .ok (.d, .lst (trg i (j - i).toNat)) s2 else .bad
    | _, _ => .bad
  | .lset a, m, s => (tev C a m s).bnd fun v s1 => match v.2 with
    | .lst xs => match ttups xs with
      | some ls => if ls.length < 64 then .ok (.d, .int (dcount ls)) s1 else .bad
      | none => .bad
    | _ => .bad
def tevs {S : Type} (C : TCf S) : Es → TSl → S → TR S (List GV)
  | .nil, _, s => .ok [] s
  | .cons e es, m, s => (tev C e m s).bnd fun v s1 => (tevs C es m s1).bnd fun vs s2 => .ok (v :: vs) s2
def tevI {S : Type} (C : TCf S) : MP.It → TSl → S → TR S (G × List TV)
  | .seq e, m, s => (tev C e m s).bnd fun v s1 => match v.2 with
    | .tup xs => tlim xs s1 v.1
    | .lst xs => tlim xs s1 v.1
    | _ => .bad
  | .rg1 a, m, s => (tev C a m s).bnd fun v s1 => match v.2 with
    | .int j => if -1000000 ≤ j ∧ j ≤ 1000000 then .ok (.d, trg 0 j.toNat) s1 else .bad
    | _ => .bad
  | .rg2 a b, m, s => (tev C a m s).bnd fun u s1 => (tev C b m s1).bnd fun v s2 => match u.2, v.2 with
    | .int i, .int j => if -1000000 ≤ i ∧ i ≤ 1000000 ∧ -1000000 ≤ j ∧ j ≤ 1000000 ∧ (j - i).toNat ≤ lim then .ok (.d, trg i (j - i).toNat) s2 else .bad
    | _, _ => .bad
  | .zip a b, m, s => (tev C a m s).bnd fun u s1 => (tev C b m s1).bnd fun v s2 => match u.2, v.2 with
    | .tup xs, .tup ys => tlim (tzip xs ys) s2 (gm u.1 v.1)
    | .lst xs, .lst ys => tlim (tzip xs ys) s2 (gm u.1 v.1)
    | _, _ => .bad
  | .enu a, m, s => (tev C a m s).bnd fun v s1 => match v.2 with
    | .lst xs => tlim (tenu 0 xs) s1 v.1
    | _ => .bad
end

def fvO : Option E → List Nat
  | none => []
  | some l => fvE l
theorem fv_slc (a : E) (lo hi : Option E) : fvE (.slc a lo hi) = fvE a ++ (fvO lo ++ fvO hi) := by cases lo <;> cases hi <;> rfl
theorem fv_com (t : Tg) (it : MP.It) (c : Option E) (e : E) : fvE (.com t it c e) = fvI it ++ (fvO c ++ fvE e) := by cases c <;> rfl
def tbO {S : Type} (C : TCf S) (o : Option E) (m : TSl) (s : S) : TR S (Option Int) := match o with
  | none => .ok none s
  | some l => (tev C l m s).bnd fun x s => .of s (bnd1 x)
def tcO {S : Type} (C : TCf S) (c : Option E) : Option (TSl → S → TR S GV) := match c with
  | none => none
  | some c => some (tev C c)
theorem tev_slc {S : Type} (C : TCf S) (a : E) (lo hi : Option E) (m : TSl) (s : S) : tev C (.slc a lo hi) m s = (tev C a m s).bnd fun u s1 => (tbO C lo m s1).bnd fun v s2 => (tbO C hi m s2).bnd fun x s3 => .of s3 (tslc u v x) := by
  cases lo <;> cases hi <;> rfl
theorem tev_com {S : Type} (C : TCf S) (t : Tg) (it : MP.It) (c : Option E) (e : E) (m : TSl) (s : S) : tev C (.com t it c e) m s = (tevI C it m s).bnd fun x s1 => (tcomL (tturn t m (tcO C c) (tev C e)) x.2 s1).bnd fun ys s2 => .ok (gl (gall ys) (ys.map (·.2)), .lst (ys.map (·.2))) s2 := by
  cases c <;> rfl

/-! ### statements -/
inductive TFl | nx | bk | cn | rt (v : GV)
/-! ### a value made of slots that are not read again -/
@[simp] def mvItem : E → Bool
  | .idx a i => match a, i with
    | .var _, .cst _ => true
    | _, _ => false
  | _ => false
@[simp] def isMvs : Es → Bool
  | .nil => false
  | .cons e es => mvItem e || isMvs es
@[simp] def isMv : E → Bool
  | .tup es => isMvs es
  | .ife _ a b => isMv a || isMv b
  | .bin o a b => match o, a, b with
    | .add, .var _, .lst _ => true
    | _, _, _ => false
  | _ => false
mutual
@[simp] def mvF : E → List Nat
  | .var x => [x]
  | .idx a i => match a, i with
    | .var x, .cst _ => [x]
    | _, _ => []
  | .bin o a b => match o with
    | .add => mvF a ++ mvF b
    | _ => []
  | .tup es => mvFs es
  | .lst es => mvFs es
  | .ife _ a b => mvF a ++ mvF b
  | _ => []
@[simp] def mvFs : Es → List Nat
  | .nil => []
  | .cons e es => mvF e ++ mvFs es
end
@[simp] def dj (xs ys : List Nat) : Bool := xs.all fun i => !ys.contains i
def onlyD {S : Type} (v : GV) (s : S) : TR S TV := match v.1 with
  | .d => .ok v.2 s
  | _ => .bad
mutual
def tmv {S : Type} (C : TCf S) : E → TSl → S → TR S TV
  | .var x, m, s => match m[x]? with
    | some (some v) => onlyD v s
    | _ => .bad
  | .idx a i, m, s => match a, i with
    | .var x, .cst k => match m[x]?, tcv k with
      | some (some v), some k => (TR.of s (tidx v (.d, k))).bnd onlyD
      | _, _ => .bad
    | _, _ => (tev C (.idx a i) m s).bnd onlyD
  | .bin o a b, m, s => match o with
    | .add => if dj (mvF a) (mvF b) = true then (tmv C a m s).bnd fun u s1 => (tmv C b m s1).bnd fun v s2 => (TR.of s2 (tbin .add (.d, u) (.d, v))).bnd onlyD else .bad
    | o => (tev C (.bin o a b) m s).bnd onlyD
  | .tup es, m, s => (tmvs C es m s).bnd fun ts s1 => .ok (.tup ts) s1
  | .lst es, m, s => (tmvs C es m s).bnd fun ts s1 => .ok (.lst ts) s1
  | .ife c a b, m, s => (tev C c m s).bnd fun u s1 => match u.2 with
    | .bl true => tmv C a m s1
    | .bl false => tmv C b m s1
    | _ => .bad
  | .cst v, m, s => (tev C (.cst v) m s).bnd onlyD
  | .glo k, m, s => (tev C (.glo k) m s).bnd onlyD
  | .cal f sh es ks, m, s => (tev C (.cal f sh es ks) m s).bnd onlyD
  | .blt b es, m, s => (tev C (.blt b es) m s).bnd onlyD
  | .com t it c e, m, s => (tev C (.com t it c e) m s).bnd onlyD
  | _, _, _ => .bad
def tmvs {S : Type} (C : TCf S) : Es → TSl → S → TR S (List TV)
  | .nil, _, s => .ok [] s
  | .cons e es, m, s => if dj (mvF e) (mvFs es) = true then (tmv C e m s).bnd fun v s1 => (tmvs C es m s1).bnd fun vs s2 => .ok (v :: vs) s2 else .bad
end
/-- a list held alone goes from one slot to another -/
def mvAs (i j : Nat) (m : TSl) : Option (Option GV) → Option TSl
  | some (some v) => match v.1, noL v.2 with
    | .d, false => some ((m.set j none).set i (some (.d, v.2)))
    | _, _ => none
  | _ => none
def mvA (t : Tg) (e : E) (m : TSl) : Option TSl := match t, e with
  | .nm i, .var j => mvAs i j m m[j]?
  | _, _ => none
/-- what is moved, else the plain way -/
def kmv {S : Type} (m : TSl) (x : TR S TV) (y : TR S (TFl × TSl)) : TR S (TFl × TSl) := match x with
  | .ok t s => .ok (.rt (.d, t), m) s
  | .bad => y
def clr1 : Option GV → Option GV
  | some v => some (gr .s v.2, v.2)
  | none => none
/-- these slots are held elsewhere, too -/
def clr (ts : TSl) : List Nat → TSl
  | [] => ts
  | i :: is => (clr ts is).modify i clr1
def leak (g : G) (is : List Nat) (ts : TSl) : TSl := match g with
  | .d => ts
  | _ => clr ts is
/-- a written list's new grade: what it had, what comes into it -/
def gput (g g' : G) (xs : List TV) : Option (G × TV) := match g with
  | .s => none
  | .r => some (gl .s xs, .lst xs)
  | .d => some (gl g' xs, .lst xs)
/-- a method that writes the list of a slot -/
def tmth (b : Mt) (u : GV) (vs : List GV) : Option (GV × GV) := match b, u.2, vs with
  | .append, .lst xs, [v] => if xs.length < lim then (gput u.1 v.1 (xs ++ [v.2])).map fun w => (w, (.d, .non)) else none
  | .insert, .lst xs, [i, v] => match i.2 with
    | .int i => if xs.length < lim ∧ 0 ≤ i ∧ i < 1000000 then (gput u.1 v.1 (xs.take i.toNat ++ [v.2] ++ xs.drop i.toNat)).map fun w => (w, (.d, .non)) else none
    | _ => none
  | .extend, .lst xs, [v] => match v.2 with
    | .lst ys => if xs.length + ys.length ≤ lim then (gput u.1 (gsub v.1) (xs ++ ys)).map fun w => (w, (.d, .non)) else none
    | _ => none
  | .pop, .lst xs, [] => match xs[xs.length - 1]? with
    | some y => (gput u.1 .d xs.dropLast).map fun w => (w, (gr (gsub u.1) y, y))
    | none => none
  | .pop, .lst xs, [i] => match i.2 with
    | .int i => match L2.ixN xs.length i with
      | some j => match xs[j]? with
        | some y => if xs.length ≤ lim then (gput u.1 .d (xs.eraseIdx j)).map fun w => (w, (gr (gsub u.1) y, y)) else none
        | none => none
      | none => none
    | _ => none
  | _, _, _ => none
def taug (o : BOp) (u v : TV) : Option TV := match o, u, v with
  | .add, .int i, .int j => some (.int (i + j))
  | .sub, .int i, .int j => some (.int (i - j))
  | _, _, _ => none
def tforL {S : Type} (f : TV → TSl → S → TR S (TFl × TSl)) : List TV → TSl → S → TR S (TFl × TSl)
  | [], m, s => .ok (.nx, m) s
  | x :: xs, m, s => (f x m s).bnd fun p s' => match p.1 with
      | .nx => tforL f xs p.2 s'
      | .cn => tforL f xs p.2 s'
      | .bk => .ok (.nx, p.2) s'
      | .rt v => .ok (.rt v, p.2) s'
def twhlL {S : Type} (c : TSl → S → TR S GV) (f : TSl → S → TR S (TFl × TSl)) : Nat → TSl → S → TR S (TFl × TSl)
  | 0, _, _ => .bad
  | k + 1, m, s => (c m s).bnd fun u s1 => match u.2 with
    | .bl false => .ok (.nx, m) s1
    | .bl true => (f m s1).bnd fun p s' => match p.1 with
      | .nx => twhlL c f k p.2 s'
      | .cn => twhlL c f k p.2 s'
      | .bk => .ok (.nx, p.2) s'
      | .rt v => .ok (.rt v, p.2) s'
    | _ => .bad
def tfturn {S : Type} (t : Tg) (b : TSl → S → TR S (TFl × TSl)) (y : TV) (m : TSl) (s : S) : TR S (TFl × TSl) := match tset t (gr .s y) y m with
  | some m' => b m' s
  | none => .bad
def isSpoilt (t : TV) : Bool := match t with
  | .str s => decide (s = "spoilt")
  | _ => false
/-- no list ends with the sign -/
def unsp : Nat → TV → Bool
  | 0, _ => false
  | _ + 1, .pur => false
  | n + 1, .tup xs => decide (xs.length < lim) && xs.all (unsp n)
  | n + 1, .lst xs => decide (xs.length < lim ∧ teq (.lst xs) (.lst []) = some xs.isEmpty) && (xs.all (unsp n) && (match xs[xs.length - 1]? with
    | some t => !isSpoilt t
    | none => true))
  | _ + 1, _ => true
def kcnd {S : Type} (m : TSl) (u : GV) (s1 : S) : TR S (Bool × TSl) := match u.2 with
  | .bl b => .ok (b, m) s1
  | _ => .bad
def tcond {S : Type} (C : TCf S) : E → TSl → S → TR S (Bool × TSl)
  | .and a b, m, s => (tcond C a m s).bnd fun p s1 => if p.1 = true then tcond C b p.2 s1 else .ok (false, p.2) s1
  | .or a b, m, s => (tcond C a m s).bnd fun p s1 => if p.1 = true then .ok (true, p.2) s1 else tcond C b p.2 s1
  | .not a, m, s => (tcond C a m s).bnd fun p s1 => .ok (!p.1, p.2) s1
  | .cal f sh es ks, m, s => if C.spo f = true then (match ks, C.arr f sh, es with
      | .nil, some [.at 0], .cons e .nil => (tmv C e m s).bnd fun t s1 => if unsp 20 t = true then .ok (true, twip m (mvF e)) s1 else .bad
      | _, _, _ => .bad) else (tev C (.cal f sh es ks) m s).bnd (kcnd m)
  | e, m, s => (tev C e m s).bnd (kcnd m)
/-- x[k].append(v) -/
def tapp2 (m : TSl) (x : Nat) (k v : GV) : Option TSl := match m[x]?, k.2, v.1 with
  | some (some (.d, .lst xs)), .int k, .d => match L2.ixN xs.length k with
    | some j => match xs[j]? with
      | some (.lst ys) => if ys.length < lim then some (m.set x (some (.d, .lst (xs.set j (.lst (ys ++ [v.2])))))) else none
      | _ => none
    | none => none
  | _, _, _ => none
/-- x.append(y.pop(i)) -/
def popArg (b : Mt) (es : Es) : Option (Nat × E) := match b, es with
  | .append, .cons (.mth .pop (.var y) (.cons i .nil)) .nil => some (y, i)
  | _, _ => none
def tpopapp (x y : Nat) (k : GV) (m : TSl) : Option TSl := match m[y]? with
  | some (some u) => match tmth .pop u [(.d, k.2)] with
    | some (w, v) => if noL v.2 = true ∨ u.1 = .r then match (m.set y (some w))[x]? with
      | some (some u2) => match tmth .append u2 [(gr .s v.2, v.2)] with
        | some (w2, _) => some ((m.set y (some w)).set x (some w2))
        | none => none
      | _ => none else none
    | none => none
  | _ => none
/-- a tuple's items go each into its own slot -/
def gn (w : GV) : GV := (gr w.1 w.2, w.2)
def tsets : List Nat → List GV → TSl → Option TSl
  | [], [], m => some m
  | i :: is, w :: ws, m => tsets is ws (m.set i (some w))
  | _, _, _ => none
def isTT (t : Tg) (e : E) : Option (List Nat × Es) := match t, e with
  | .tp is, .tup es => some (is, es)
  | _, _ => none
def isCond : E → Bool
  | .and _ _ => true
  | .or _ _ => true
  | _ => false

mutual
def tex {S : Type} (C : TCf S) (most : Nat) : MP.S → TSl → S → TR S (TFl × TSl)
  | .exp e, m, s => match e with
    | .mth b (.var x) es => match popArg b es with
      | some (y, i) => (tev C i m s).bnd fun k s1 => match tpopapp x y k m with
        | some m' => .ok (.nx, m') s1
        | none => .bad
      | none => (tevs C es m s).bnd fun vs s1 => match (leak (gall vs) (fvEs es) m)[x]? with
        | some (some u) => match tmth b u vs with
          | some (w, _) => .ok (.nx, (leak (gall vs) (fvEs es) m).set x (some w)) s1
          | none => .bad
        | _ => .bad
    | .mth .append (.idx (.var x) i) (.cons e .nil) => (tev C i m s).bnd fun k s1 => (tev C e m s1).bnd fun v s2 => match tapp2 m x k v with
      | some m' => .ok (.nx, m') s2
      | none => .bad
    | e => (tev C e m s).bnd fun _ s1 => .ok (.nx, m) s1
  | .asg t e, m, s => match isTT t e with
    | some (is, es) => (tevs C es m s).bnd fun vs s1 => match tsets is (vs.map gn) (leak (gall (vs.map gn)) (fvEs es) m) with
      | some m' => .ok (.nx, m') s1
      | none => .bad
    | none => (tev C e m s).bnd fun v s1 => match mvA t e m with
      | some m' => .ok (.nx, m') s1
      | none => match tset t v.1 v.2 (leak v.1 (fvE e) m) with
        | some m' => .ok (.nx, m') s1
        | none => .bad
  | .put a i e, m, s => match a with
    | .var x => (tev C e m s).bnd fun v s1 => (tev C i m s1).bnd fun k s2 => match (leak v.1 (fvE e) m)[x]?, k.2 with
      | some (some (g, .lst xs)), .int k => match L2.ixN xs.length k with
        | some j => match gput g v.1 (xs.set j v.2) with
          | some w => .ok (.nx, (leak v.1 (fvE e) m).set x (some w)) s2
          | none => .bad
        | none => .bad
      | _, _ => .bad
    | _ => .bad
  | .aug i o e, m, s => match m[i]? with
    | some (some u) => (tev C e m s).bnd fun v s1 => match taug o u.2 v.2 with
      | some w => .ok (.nx, m.set i (some (.d, w))) s1
      | none => .bad
    | _ => .bad
  | .agi a i o e, m, s => match a with
    | .var x => (tev C i m s).bnd fun k s2 => match m[x]?, k.2 with
      | some (some (g, .lst xs)), .int k => if 0 ≤ k ∧ k < 1000000 then match xs[k.toNat]? with
          | some u => (tev C e m s2).bnd fun v s3 => match taug o u v.2 with
            | some z => match gput g .d (xs.set k.toNat z) with
              | some w => .ok (.nx, m.set x (some w)) s3
              | none => .bad
            | none => .bad
          | none => .bad
        else .bad
      | _, _ => .bad
    | _ => .bad
  | .iff c a b, m, s => (tcond C c m s).bnd fun p s1 => if p.1 = true then texs C most a p.2 s1 else texs C most b p.2 s1
  | .whl c b, m, s => twhlL (fun m s => tev C c m s) (fun m s => texs C most b m s) most m s
  | .for t it b, m, s => (tevI C it m s).bnd fun x s1 => tforL (tfturn t (texs C most b)) x.2 (leak x.1 (fvI it) m) s1
  | .ret e, m, s => match e with
    | .var x => match m[x]? with
      | some (some v) => .ok (.rt v, m) s
      | _ => .bad
    | e => if isCond e = true then (tcond C e m s).bnd fun p s1 => .ok (.rt (.d, .bl p.1), p.2) s1 else if isMv e = true then kmv m (tmv C e m s) ((tev C e m s).bnd fun v s1 => .ok (.rt v, m) s1) else (tev C e m s).bnd fun v s1 => .ok (.rt v, m) s1
  | .rtn, m, s => .ok (.rt (.d, .non), m) s
  | .brk, m, s => .ok (.bk, m) s
  | .cnt, m, s => .ok (.cn, m) s
  | .pas, m, s => .ok (.nx, m) s
  | .rai _ _, _, _ => .bad
def texs {S : Type} (C : TCf S) (most : Nat) : Ss → TSl → S → TR S (TFl × TSl)
  | .nil, m, s => .ok (.nx, m) s
  | .cons st ss, m, s => (tex C most st m s).bnd fun p s1 => match p.1 with
    | .nx => texs C most ss p.2 s1
    | f => .ok (f, p.2) s1
end

/-- defs that are told by hand: with so many calls left they may be used -/
structure Pri (S : Type) where
  f : Nat → Option (List TV → S → TR S GV)
  deep : Nat
  spo : Nat → Bool
def trun {S : Type} (P : Pg) (pr : Pri S) : Nat → Nat → List TV → S → TR S GV
  | 0, _, _, _ => .bad
  | n + 1, f, args, s => match pr.f f with
    | some h => if pr.deep ≤ n then h args s else .bad
    | none => match P.fs[f]? with
      | none => .bad
      | some d => if args.length = d.np then
          (texs { call := trun P pr n, glo := fun k => (P.cs[k]?).map (·.2), arr := fun g sh => (P.fs[g]?).bind fun e => (e.shapes[sh]?).map (·.2.2), spo := fun f => pr.spo f && decide (pr.deep ≤ n) } P.most d.body (args.map (fun v => some (gr .s v, v)) ++ List.replicate (d.N.length - d.np) none) s).bnd fun p s1 => match p.1 with
            | .nx => .ok (.d, .non) s1
            | .rt v => .ok v s1
            | _ => .bad
        else .bad
end TM

set_option Elab.async false
set_option linter.all false
set_option maxRecDepth 100000
set_option autoImplicit false
set_option maxHeartbeats 1000000
/-! TM, part b: how trees lie in the small heap. -/
namespace TM
open PySem MP

/-- the purse: its cells, its value, its state in the heap -/
structure Wd (S : Type) where
  Q : Nat → Prop
  tok : MV
  St : S → MH → Prop
  keep : ∀ s M M', St s M → (∀ a, Q a → M'[a]? = M[a]?) → St s M'
  lt : ∀ s M a, St s M → Q a → a < M.length
  tokL : ∃ p, tok = .lst p
section
variable {S : Type} (W : Wd S)
mutual
def rep (M : MH) : TV → MV → Prop
  | .non, v => v = .non
  | .bl b, v => v = .bl b
  | .int i, v => v = .int i
  | .str s, v => v = .str s
  | .dct, v => v = .dct
  | .pur, v => v = W.tok
  | .tup ts, v => ∃ vs, v = .tup vs ∧ reps M ts vs
  | .lst ts, v => ∃ a vs, v = .lst a ∧ ¬ W.Q a ∧ M[a]? = some vs ∧ reps M ts vs
def reps (M : MH) : List TV → List MV → Prop
  | [], vs => vs = []
  | t :: ts, vs => ∃ v vs', vs = v :: vs' ∧ rep M t v ∧ reps M ts vs'
end
end
mutual
/-- the lists that a value is made of -/
def ads (M : MH) : TV → MV → List Nat
  | .tup ts, v => match v with
    | .tup vs => adss M ts vs
    | _ => []
  | .lst ts, v => match v with
    | .lst a => a :: adss M ts (M[a]?.getD [])
    | _ => []
  | _, _ => []
def adss (M : MH) : List TV → List MV → List Nat
  | [], _ => []
  | t :: ts, vs => match vs with
    | v :: vs' => ads M t v ++ adss M ts vs'
    | [] => []
end
section
variable {S : Type} {W : Wd S} {M M' : MH}
mutual
theorem rep_same : ∀ (t : TV) (v : MV), rep W M t v → (∀ a ∈ ads M t v, M'[a]? = M[a]?) → rep W M' t v ∧ ads M' t v = ads M t v
  | .non, v, h, _ => ⟨h, rfl⟩
  | .bl b, v, h, _ => ⟨h, rfl⟩
  | .int i, v, h, _ => ⟨h, rfl⟩
  | .str s, v, h, _ => ⟨h, rfl⟩
  | .dct, v, h, _ => ⟨h, rfl⟩
  | .pur, v, h, _ => ⟨h, rfl⟩
  | .tup ts, v, h, e => by
    unfold rep at h
    obtain ⟨vs, rfl, h⟩ := h
    obtain ⟨h1, h2⟩ := reps_same ts vs h (by simpa [ads] using e)
    exact ⟨by unfold rep; exact ⟨vs, rfl, h1⟩, by simpa [ads] using h2⟩
  | .lst ts, v, h, e => by
    unfold rep at h
    obtain ⟨a, vs, rfl, hq, hm, h⟩ := h
    have ea : M'[a]? = M[a]? := e a (by simp [ads])
    obtain ⟨h1, h2⟩ := reps_same ts vs h (fun b hb => e b (by simp [ads, hm, hb]))
    exact ⟨by unfold rep; exact ⟨a, vs, rfl, hq, ea.trans hm, h1⟩, by simp [ads, ea, hm, h2]⟩
theorem reps_same : ∀ (ts : List TV) (vs : List MV), reps W M ts vs → (∀ a ∈ adss M ts vs, M'[a]? = M[a]?) → reps W M' ts vs ∧ adss M' ts vs = adss M ts vs
  | [], vs, h, _ => ⟨h, rfl⟩
  | t :: ts, vs, h, e => by
    unfold reps at h
    obtain ⟨v, vs', rfl, h1, h2⟩ := h
    obtain ⟨a1, a2⟩ := rep_same t v h1 (fun a ha => e a (by simp [adss, ha]))
    obtain ⟨b1, b2⟩ := reps_same ts vs' h2 (fun a ha => e a (by simp [adss, ha]))
    exact ⟨by unfold reps; exact ⟨v, vs', rfl, a1, b1⟩, by simp [adss, a2, b2]⟩
end
mutual
theorem ads_lt : ∀ (t : TV) (v : MV), rep W M t v → ∀ a ∈ ads M t v, a < M.length ∧ ¬ W.Q a
  | .tup ts, v, h, a, ha => by
    unfold rep at h
    obtain ⟨vs, rfl, h⟩ := h
    exact adss_lt ts vs h a (by simpa [ads] using ha)
  | .lst ts, v, h, a, ha => by
    unfold rep at h
    obtain ⟨b, vs, rfl, hq, hm, h⟩ := h
    simp [ads, hm] at ha
    rcases ha with rfl | ha
    · exact ⟨(List.getElem?_eq_some_iff.mp hm).1, hq⟩
    · exact adss_lt ts vs h a ha
  | .non, v, h, a, ha => by simp [ads] at ha
  | .bl _, v, h, a, ha => by simp [ads] at ha
  | .int _, v, h, a, ha => by simp [ads] at ha
  | .str _, v, h, a, ha => by simp [ads] at ha
  | .dct, v, h, a, ha => by simp [ads] at ha
  | .pur, v, h, a, ha => by simp [ads] at ha
theorem adss_lt : ∀ (ts : List TV) (vs : List MV), reps W M ts vs → ∀ a ∈ adss M ts vs, a < M.length ∧ ¬ W.Q a
  | [], vs, h, a, ha => by simp [adss] at ha
  | t :: ts, vs, h, a, ha => by
    unfold reps at h
    obtain ⟨v, vs', rfl, h1, h2⟩ := h
    simp [adss] at ha
    rcases ha with ha | ha
    · exact ads_lt t v h1 a ha
    · exact adss_lt ts vs' h2 a ha
end
mutual
theorem noL_ads : ∀ (t : TV) (v : MV), noL t = true → ads M t v = []
  | .tup ts, v, h => by
    cases v <;> simp [ads]
    exact noLs_adss ts _ (by simpa [noL] using h)
  | .lst ts, v, h => by simp [noL] at h
  | .non, v, h => by simp [ads]
  | .bl _, v, h => by simp [ads]
  | .int _, v, h => by simp [ads]
  | .str _, v, h => by simp [ads]
  | .dct, v, h => by simp [ads]
  | .pur, v, h => by simp [ads]
theorem noLs_adss : ∀ (ts : List TV) (vs : List MV), noLs ts = true → adss M ts vs = []
  | [], vs, h => by simp [adss]
  | t :: ts, vs, h => by
    simp [noLs] at h
    cases vs with
    | nil => simp [adss]
    | cons v vs =>
      have := noL_ads t v h.1
      have := noLs_adss ts vs h.2
      simp_all [adss]
end
theorem reps_len : ∀ {ts : List TV} {vs : List MV}, reps W M ts vs → ts.length = vs.length
  | [], vs, h => by
    unfold reps at h
    simp [h]
  | t :: ts, vs, h => by
    unfold reps at h
    obtain ⟨v, vs', rfl, _, h2⟩ := h
    simp [reps_len h2]
theorem reps_get : ∀ {ts : List TV} {vs : List MV} {i : Nat} {t : TV}, reps W M ts vs → ts[i]? = some t → ∃ v, vs[i]? = some v ∧ rep W M t v
  | [], vs, i, t, h, e => by simp at e
  | t' :: ts, vs, i, t, h, e => by
    unfold reps at h
    obtain ⟨v, vs', rfl, h1, h2⟩ := h
    cases i with
    | zero =>
      simp at e
      subst e
      exact ⟨v, rfl, h1⟩
    | succ i =>
      obtain ⟨w, e1, e2⟩ := reps_get (i := i) h2 (by simpa using e)
      exact ⟨w, by simpa using e1, e2⟩
theorem reps_cons {t : TV} {ts : List TV} {v : MV} {vs : List MV} (h1 : rep W M t v) (h2 : reps W M ts vs) : reps W M (t :: ts) (v :: vs) := by
  unfold reps
  exact ⟨v, vs, rfl, h1, h2⟩
theorem reps_nil : reps W M [] [] := by
  unfold reps
  rfl
theorem reps_nil' {vs : List MV} (h : reps W M [] vs) : vs = [] := by
  unfold reps at h
  exact h
theorem reps_cons' {t : TV} {ts : List TV} {vs : List MV} (h : reps W M (t :: ts) vs) : ∃ v vs', vs = v :: vs' ∧ rep W M t v ∧ reps W M ts vs' := by
  unfold reps at h
  exact h
theorem reps_append : ∀ {ts ts' : List TV} {vs vs' : List MV}, reps W M ts vs → reps W M ts' vs' → reps W M (ts ++ ts') (vs ++ vs')
  | [], ts', vs, vs', h, h' => by
    rw [reps_nil' h]
    exact h'
  | t :: ts, ts', vs, vs', h, h' => by
    obtain ⟨v, ws, rfl, h1, h2⟩ := reps_cons' h
    exact reps_cons h1 (reps_append h2 h')
theorem adss_append : ∀ {ts ts' : List TV} {vs vs' : List MV}, ts.length = vs.length → adss M (ts ++ ts') (vs ++ vs') = adss M ts vs ++ adss M ts' vs'
  | [], ts', vs, vs', h => by
    have : vs = [] := List.eq_nil_of_length_eq_zero h.symm
    subst this
    simp [adss]
  | t :: ts, ts', [], vs', h => by simp at h
  | t :: ts, ts', v :: vs, vs', h => by
    simp at h
    simp [adss, adss_append h]
theorem reps_split : ∀ (k : Nat) {ts : List TV} {vs : List MV}, reps W M ts vs → reps W M (ts.take k) (vs.take k) ∧ reps W M (ts.drop k) (vs.drop k)
  | 0, ts, vs, h => by simpa [reps] using h
  | k + 1, [], vs, h => by
    rw [reps_nil' h]
    simp [reps]
  | k + 1, t :: ts, vs, h => by
    obtain ⟨v, ws, rfl, h1, h2⟩ := reps_cons' h
    obtain ⟨a, b⟩ := reps_split k h2
    exact ⟨reps_cons h1 a, b⟩
theorem adss_split (k : Nat) {ts : List TV} {vs : List MV} (h : reps W M ts vs) : adss M ts vs = adss M (ts.take k) (vs.take k) ++ adss M (ts.drop k) (vs.drop k) := by
  have hl := reps_len h
  rw [← adss_append (by simp [hl]), List.take_append_drop, List.take_append_drop]
theorem reps_rev : ∀ {ts : List TV} {vs : List MV}, reps W M ts vs → reps W M ts.reverse vs.reverse ∧ (adss M ts.reverse vs.reverse).Perm (adss M ts vs)
  | [], vs, h => by
    rw [reps_nil' h]
    simp [reps, adss]
  | t :: ts, vs, h => by
    obtain ⟨v, ws, rfl, h1, h2⟩ := reps_cons' h
    obtain ⟨a, b⟩ := reps_rev h2
    rw [List.reverse_cons, List.reverse_cons]
    have hl : ts.reverse.length = ws.reverse.length := by simp [reps_len h2]
    refine ⟨reps_append a (reps_cons h1 reps_nil), ?_⟩
    rw [adss_append hl]
    simp only [adss, List.append_nil]
    exact List.perm_append_comm.trans (List.Perm.append_left _ b)
theorem adss_get {ts : List TV} {vs : List MV} {i : Nat} {t : TV} {v : MV} (h : reps W M ts vs) (h1 : ts[i]? = some t) (h2 : vs[i]? = some v) : adss M ts vs = adss M (ts.take i) (vs.take i) ++ (ads M t v ++ adss M (ts.drop (i + 1)) (vs.drop (i + 1))) := by
  obtain ⟨l1, rfl⟩ := List.getElem?_eq_some_iff.mp h1
  obtain ⟨l2, rfl⟩ := List.getElem?_eq_some_iff.mp h2
  rw [adss_split i h, List.drop_eq_getElem_cons l1, List.drop_eq_getElem_cons l2]
  rfl
/-! ### what is held alone -/
def ow (g : G) (M : MH) (t : TV) (v : MV) (a : Nat) : Prop := match g with
  | .s => False
  | .r => ∃ ts, t = .lst ts ∧ v = .lst a
  | .d => a ∈ ads M t v
def Own (g : G) (M : MH) (t : TV) (v : MV) : Prop := match g with
  | .s => True
  | .r => ∀ ts, t = .lst ts → ∃ a, v = .lst a ∧ a ∉ adss M ts (M[a]?.getD [])
  | .d => (ads M t v).Nodup
theorem ow_ads {g : G} {t : TV} {v : MV} {a : Nat} (h : ow g M t v a) : a ∈ ads M t v := by
  cases g with
  | s => exact h.elim
  | r =>
    obtain ⟨ts, rfl, rfl⟩ := h
    simp [ads]
  | d => exact h
theorem own_gr {g : G} {t : TV} {v : MV} (h : Own g M t v) : Own (gr g t) M t v := by
  unfold gr
  split
  · rename_i e
    have := noL_ads (M := M) t v e
    show (ads M t v).Nodup
    simp [this]
  · exact h
theorem ow_gr {g : G} {t : TV} {v : MV} {a : Nat} (h : ow (gr g t) M t v a) : ow g M t v a := by
  unfold gr at h
  split at h
  · rename_i e
    have := noL_ads (M := M) t v e
    simp [ow, this] at h
  · exact h
theorem own_gsub {g : G} {t : TV} {v : MV} (h : Own g M t v) : Own (gsub g) M t v := by
  cases g <;> first | trivial | exact h
theorem ow_gsub {g : G} {t : TV} {v : MV} {a : Nat} (h : ow (gsub g) M t v a) : ow g M t v a := by
  cases g <;> first | exact h | exact h.elim
theorem own_same {g : G} {t : TV} {v : MV} (hr : rep W M t v) (h : Own g M t v) (e : ∀ a ∈ ads M t v, M'[a]? = M[a]?) : Own g M' t v := by
  obtain ⟨h1, h2⟩ := rep_same t v hr e
  cases g with
  | s => trivial
  | r =>
    intro ts ht
    subst ht
    obtain ⟨a, rfl, ha⟩ := h ts rfl
    refine ⟨a, rfl, ?_⟩
    simp only [ads] at h2
    have := List.tail_eq_of_cons_eq h2
    rw [this]
    exact ha
  | d =>
    show (ads M' t v).Nodup
    rw [h2]
    exact h
theorem ow_same {g : G} {t : TV} {v : MV} {a : Nat} (hr : rep W M t v) (e : ∀ a ∈ ads M t v, M'[a]? = M[a]?) : ow g M' t v a ↔ ow g M t v a := by
  obtain ⟨h1, h2⟩ := rep_same t v hr e
  cases g <;> simp [ow, h2]

/-- a result: from R or new from N on; what is held alone is new -/
structure VOK (W : Wd S) (R : Nat → Prop) (N : Nat) (M : MH) (g : G) (t : TV) (v : MV) : Prop where
  rep : rep W M t v
  adr : ∀ a ∈ ads M t v, R a ∨ N ≤ a
  own : Own g M t v
  new : ∀ a, ow g M t v a → N ≤ a
theorem VOK.lt {R : Nat → Prop} {N : Nat} {g : G} {t : TV} {v : MV} (h : VOK W R N M g t v) : ∀ a ∈ ads M t v, a < M.length := fun a ha => (ads_lt t v h.rep a ha).1
theorem VOK.mono {R R' : Nat → Prop} {N N' : Nat} {g : G} {t : TV} {v : MV} (h : VOK W R' N' M g t v) (hR : ∀ a, R' a → R a ∨ N ≤ a) (hN : N ≤ N') : VOK W R N M g t v :=
  ⟨h.rep, fun a ha => (h.adr a ha).elim (hR a) fun k => .inr (Nat.le_trans hN k), h.own, fun a ha => Nat.le_trans hN (h.new a ha)⟩
/-- everything but the purse stands -/
structure Gro (W : Wd S) (M M' : MH) : Prop where
  le : M.length ≤ M'.length
  at_ : ∀ a, a < M.length → ¬ W.Q a → M'[a]? = M[a]?
theorem Gro.refl : Gro W M M := ⟨Nat.le_refl _, fun _ _ _ => rfl⟩
theorem Gro.trans {M1 : MH} (h : Gro W M M1) (k : Gro W M1 M') : Gro W M M' :=
  ⟨Nat.le_trans h.le k.le, fun a h1 h2 => (k.at_ a (Nat.lt_of_lt_of_le h1 h.le) h2).trans (h.at_ a h1 h2)⟩
theorem Gro.one {xs : List MV} : Gro W M (M ++ [xs]) := ⟨by simp, fun a h _ => List.getElem?_append_left h⟩
theorem Gro.st {s : S} {xs : List MV} (h : W.St s M) : W.St s (M ++ [xs]) := W.keep _ _ _ h fun a ha => List.getElem?_append_left (W.lt _ _ a h ha)
theorem Gro.same (h : Gro W M M') {t : TV} {v : MV} (hr : TM.rep W M t v) : ∀ a ∈ ads M t v, M'[a]? = M[a]? := fun a ha => h.at_ a (ads_lt t v hr a ha).1 (ads_lt t v hr a ha).2
theorem Gro.sames (h : Gro W M M') {t : List TV} {v : List MV} (hr : TM.reps W M t v) : ∀ a ∈ adss M t v, M'[a]? = M[a]? := fun a ha => h.at_ a (adss_lt t v hr a ha).1 (adss_lt t v hr a ha).2
theorem VOK.gro {R : Nat → Prop} {N : Nat} {g : G} {t : TV} {v : MV} (h : VOK W R N M g t v) (k : Gro W M M') : VOK W R N M' g t v := by
  have e := k.same h.rep
  obtain ⟨h1, h2⟩ := rep_same t v h.rep e
  exact ⟨h1, fun a ha => h.adr a (h2 ▸ ha), own_same h.rep h.own e, fun a ha => h.new a ((ow_same h.rep e).mp ha)⟩
/-- a value without lists -/
theorem VOK.of {R : Nat → Prop} {N : Nat} {g : G} {t : TV} {v : MV} (h : TM.rep W M t v) (hn : noL t = true) : VOK W R N M g t v := by
  have e := noL_ads (M := M) t v hn
  refine ⟨h, fun a ha => by simp [e] at ha, ?_, fun a ha => by
    have := ow_ads ha
    simp [e] at this⟩
  cases g with
  | s => trivial
  | r =>
    intro ts ht
    subst ht
    simp [noL] at hn
  | d =>
    show (ads M t v).Nodup
    simp [e]
theorem VOK.gr {R : Nat → Prop} {N : Nat} {g : G} {t : TV} {v : MV} (h : VOK W R N M g t v) : VOK W R N M (TM.gr g t) t v := ⟨h.rep, h.adr, own_gr h.own, fun a ha => h.new a (ow_gr ha)⟩
theorem VOK.gsub {R : Nat → Prop} {N : Nat} {g : G} {t : TV} {v : MV} (h : VOK W R N M g t v) : VOK W R N M (TM.gsub g) t v := ⟨h.rep, h.adr, own_gsub h.own, fun a ha => h.new a (ow_gsub ha)⟩
theorem VOK.sh {R : Nat → Prop} {N : Nat} {g : G} {t : TV} {v : MV} (h : VOK W R N M g t v) : VOK W R N M .s t v := ⟨h.rep, h.adr, trivial, fun a ha => ha.elim⟩

/-- results one by one, none of them holding what another holds alone -/
def VsOK (W : Wd S) (R : Nat → Prop) (N : Nat) (M : MH) : List GV → List MV → Prop
  | [], vs => vs = []
  | x :: xs, vs => ∃ v vs', vs = v :: vs' ∧ VOK W R N M x.1 x.2 v ∧ VsOK W R N M xs vs' ∧ (∀ a, ow x.1 M x.2 v a → a ∉ adss M (xs.map (·.2)) vs') ∧ (gall xs = .d → ∀ a ∈ adss M (xs.map (·.2)) vs', a ∉ ads M x.2 v)
theorem VsOK.reps {R : Nat → Prop} {N : Nat} : ∀ {xs : List GV} {vs : List MV}, VsOK W R N M xs vs → TM.reps W M (xs.map (·.2)) vs ∧ (∀ a ∈ adss M (xs.map (·.2)) vs, R a ∨ N ≤ a) ∧ (gall xs = .d → (adss M (xs.map (·.2)) vs).Nodup ∧ ∀ a ∈ adss M (xs.map (·.2)) vs, N ≤ a)
  | [], vs, h => by
    unfold VsOK at h
    subst h
    simp [TM.reps, adss]
  | x :: xs, vs, h => by
    unfold VsOK at h
    obtain ⟨v, vs', rfl, h1, h2, h3, h4⟩ := h
    obtain ⟨a1, a2, a3⟩ := VsOK.reps h2
    refine ⟨reps_cons h1.rep a1, ?_, ?_⟩
    · intro a ha
      simp only [List.map_cons, adss, List.mem_append] at ha
      exact ha.elim (h1.adr a) (a2 a)
    · intro hg
      unfold gall at hg
      have hx : x.1 = .d := by
        cases e : x.1 <;> simp [e, gm] at hg
        rfl
      have hxs : gall xs = .d := by
        rw [hx] at hg
        cases e : gall xs <;> simp [e, gm] at hg
        rfl
      obtain ⟨b2, b3⟩ := a3 hxs
      have o := h1.own
      have n := h1.new
      rw [hx] at o n h3
      refine ⟨?_, ?_⟩
      · simp only [List.map_cons, adss]
        rw [List.nodup_append]
        exact ⟨o, b2, fun a ha b hb e => h3 a ha (e ▸ hb)⟩
      · intro a ha
        simp only [List.map_cons, adss, List.mem_append] at ha
        exact ha.elim (fun k => n a k) (b3 a)
/-- a new list -/
theorem VOK.newl {R : Nat → Prop} {N : Nat} {ts : List TV} {vs : List MV} {g : G} (hr : TM.reps W M ts vs) (ha : ∀ a ∈ adss M ts vs, R a ∨ N ≤ a) (hd : g = .d → (adss M ts vs).Nodup ∧ ∀ a ∈ adss M ts vs, N ≤ a) (hN : N ≤ M.length) {s : S} (hs : W.St s M) : VOK W R N (M ++ [vs]) (gl g ts) (.lst ts) (.lst M.length) := by
  have e := (Gro.one (W := W) (M := M) (xs := vs)).sames hr
  obtain ⟨h1, h2⟩ := reps_same ts vs hr e
  have eg : (M ++ [vs])[M.length]? = some vs := by simp
  have hq : ¬ W.Q M.length := fun h => Nat.lt_irrefl _ (W.lt _ _ _ hs h)
  have nin : M.length ∉ adss M ts vs := fun h => Nat.lt_irrefl _ (adss_lt ts vs hr _ h).1
  refine ⟨by unfold TM.rep; exact ⟨_, vs, rfl, hq, eg, h1⟩, ?_, ?_, ?_⟩
  · intro a h
    simp only [ads, eg, Option.getD_some, h2, List.mem_cons] at h
    rcases h with rfl | h
    · exact .inr hN
    · exact ha a h
  · unfold gl
    split
    · rename_i hn
      have := noLs_adss (M := M ++ [vs]) ts vs hn
      simp [Own, ads, this]
    · split
      · obtain ⟨d2, d3⟩ := hd rfl
        show (ads _ _ _).Nodup
        simp only [ads, eg, Option.getD_some, h2, List.nodup_cons]
        exact ⟨nin, d2⟩
      · intro us hu
        cases hu
        refine ⟨_, rfl, ?_⟩
        rw [eg, Option.getD_some, h2]
        exact nin
  · intro a h
    unfold gl at h
    split at h
    · rename_i hn
      have := noLs_adss (M := M ++ [vs]) ts vs hn
      simp [ow, ads, this] at h
      omega
    · split at h
      · obtain ⟨d2, d3⟩ := hd rfl
        simp only [ow, ads, eg, Option.getD_some, h2, List.mem_cons] at h
        rcases h with rfl | h
        · exact hN
        · exact d3 a h
      · obtain ⟨us, e1, e2⟩ := h
        cases e2
        exact hN
end
end TM

set_option Elab.async false
set_option linter.all false
set_option maxRecDepth 100000
set_option autoImplicit false
set_option maxHeartbeats 1000000
/-! TM, part c: the operators over trees are those over the small heap. -/
namespace TM
open PySem MP
section
variable {S : Type} {W : Wd S} {M M' : MH} {R : Nat → Prop} {N : Nat} {s : S}
/-- an expression's run over the small heap is the run over trees -/
def Out (W : Wd S) (R : Nat → Prop) (N : Nat) (s : S) (M : MH) (x : Re MV) (w : GV) : Prop := ∃ z M', x = .ok z M' ∧ Gro W M M' ∧ W.St s M' ∧ VOK W R N M' w.1 w.2 z
theorem Out.here {x : Re MV} {z : MV} {g : G} {t : TV} (hs : W.St s M) (h : x = .ok z M) (hr : rep W M t z) (hn : noL t = true) : Out W R N s M x (g, t) := ⟨z, M, h, Gro.refl, hs, VOK.of hr hn⟩
theorem Out.newl {x : Re MV} {ts : List TV} {vs : List MV} {g : G} (hs : W.St s M) (h : x = newL vs M) (hr : reps W M ts vs) (ha : ∀ a ∈ adss M ts vs, R a ∨ N ≤ a) (hd : g = .d → (adss M ts vs).Nodup ∧ ∀ a ∈ adss M ts vs, N ≤ a) (hN : N ≤ M.length) : Out W R N s M x (gl g ts, .lst ts) :=
  ⟨.lst M.length, M ++ [vs], h, Gro.one, Gro.st hs, VOK.newl hr ha hd hN hs⟩
theorem rep_int {i : Int} {v : MV} (h : rep W M (.int i) v) : v = .int i := by
  unfold rep at h
  exact h
theorem rep_bl {b : Bool} {v : MV} (h : rep W M (.bl b) v) : v = .bl b := by
  unfold rep at h
  exact h
theorem rep_str {b : Str} {v : MV} (h : rep W M (.str b) v) : v = .str b := by
  unfold rep at h
  exact h
theorem rep_tup {ts : List TV} {v : MV} (h : rep W M (.tup ts) v) : ∃ vs, v = .tup vs ∧ reps W M ts vs := by
  unfold rep at h
  exact h
theorem rep_tup' {ts : List TV} {vs : List MV} (h : reps W M ts vs) : rep W M (.tup ts) (.tup vs) := by
  unfold rep
  exact ⟨vs, rfl, h⟩
theorem rep_lst {ts : List TV} {v : MV} (h : rep W M (.lst ts) v) : ∃ a vs, v = .lst a ∧ ¬ W.Q a ∧ M[a]? = some vs ∧ reps W M ts vs ∧ ads M (.lst ts) v = a :: adss M ts vs := by
  unfold rep at h
  obtain ⟨a, vs, rfl, hq, hm, h⟩ := h
  exact ⟨a, vs, rfl, hq, hm, h, by simp [ads, hm]⟩
theorem pd_tup (n : Nat) (M : MH) (xs : List MV) : pd (n + 1) M (.tup xs) = (xs.mapM (pd n M)).map .tuple := rfl
theorem pd_lst {n : Nat} {M : MH} {a : Nat} {xs : List MV} (h : M[a]? = some xs) : pd (n + 1) M (.lst a) = (xs.mapM (pd n M)).map .list := by
  simp [pd, h]
mutual
theorem pd_rep : ∀ (n : Nat) (t : TV) (v : MV) (d : PyData), rep W M t v → pdT n t = some d → pd n M v = some d
  | 0, _, _, _, _, e => by simp [pdT] at e
  | n + 1, .non, v, d, h, e => by
    unfold rep at h
    subst h
    simpa [pdT, pd] using e
  | n + 1, .bl _, v, d, h, e => by
    unfold rep at h
    subst h
    simpa [pdT, pd] using e
  | n + 1, .int _, v, d, h, e => by
    unfold rep at h
    subst h
    simpa [pdT, pd] using e
  | n + 1, .str _, v, d, h, e => by
    unfold rep at h
    subst h
    simpa [pdT, pd] using e
  | n + 1, .dct, v, d, h, e => by simp [pdT] at e
  | n + 1, .pur, v, d, h, e => by simp [pdT] at e
  | n + 1, .tup ts, v, d, h, e => by
    obtain ⟨vs, rfl, h'⟩ := rep_tup h
    simp only [pdT, Option.map_eq_some_iff] at e
    obtain ⟨ds, e1, rfl⟩ := e
    rw [pd_tup, pds_rep n ts vs ds h' e1]
    rfl
  | n + 1, .lst ts, v, d, h, e => by
    simp only [pdT, Option.map_eq_some_iff] at e
    obtain ⟨ds, e1, rfl⟩ := e
    obtain ⟨a, vs, rfl, hq, hm, h, _⟩ := rep_lst h
    rw [pd_lst hm, pds_rep n ts vs ds h e1]
    rfl
theorem pds_rep : ∀ (n : Nat) (ts : List TV) (vs : List MV) (ds : List PyData), reps W M ts vs → pdTs n ts = some ds → vs.mapM (pd n M) = some ds
  | n, [], vs, ds, h, e => by
    rw [reps_nil' h]
    simpa [pdTs] using e
  | n, t :: ts, vs, ds, h, e => by
    obtain ⟨v, vs', rfl, h1, h2⟩ := reps_cons' h
    unfold pdTs at e
    split at e <;> first | (cases e; done) | skip
    rename_i d ds' e1 e2
    cases e
    rw [List.mapM_cons, pd_rep n t v d h1 e1, pds_rep n ts vs' ds' h2 e2]
    rfl
end
theorem int_rep {t : TV} {i : Int} (h : rep W M t (.int i)) : t = .int i := by
  obtain ⟨p, hp⟩ := W.tokL
  cases t <;> unfold rep at h
  case int j =>
    cases h
    rfl
  case pur =>
    rw [hp] at h
    cases h
  case tup ts =>
    obtain ⟨vs, e, _⟩ := h
    cases e
  case lst ts =>
    obtain ⟨a, vs, e, _⟩ := h
    cases e
  all_goals cases h
theorem str_rep {t : TV} {i : Str} (h : rep W M t (.str i)) : t = .str i := by
  obtain ⟨p, hp⟩ := W.tokL
  cases t <;> unfold rep at h
  case str j =>
    cases h
    rfl
  case pur =>
    rw [hp] at h
    cases h
  case tup ts =>
    obtain ⟨vs, e, _⟩ := h
    cases e
  case lst ts =>
    obtain ⟨a, vs, e, _⟩ := h
    cases e
  all_goals cases h
theorem teq_ok {t u : TV} {x y : MV} {b : Bool} (h : teq t u = some b) (h1 : rep W M t x) (h2 : rep W M u y) : eqM M x y = some b := by
  unfold teq at h
  split at h
  · rw [rep_int h1, rep_int h2]
    exact h
  · rw [rep_str h1, rep_str h2]
    exact h
  · rename_i n1 n2
    split at h <;> first | (cases h; done) | skip
    rename_i d e e1 e2
    have p1 := pd_rep _ _ _ _ h1 e1
    have p2 := pd_rep _ _ _ _ h2 e2
    unfold eqM
    split
    · exact (n1 _ _ (int_rep h1) (int_rep h2)).elim
    · exact (n2 _ _ (str_rep h1) (str_rep h2)).elim
    · rw [p1, p2]
      exact h
theorem tin_ok {t u : TV} {x y : MV} {b : Bool} (h : tin t u = some b) (h1 : rep W M t x) (h2 : rep W M u y) : inM M x y = some b := by
  unfold tin at h
  split at h <;> first | (cases h; done) | skip
  rename_i d e e1 e2
  unfold inM
  rw [pd_rep _ _ _ _ h1 e1, pd_rep _ _ _ _ h2 e2]
  exact h
theorem tis_ok {t u : TV} {x y : MV} {b : Bool} (h : tis t u = some b) (h1 : rep W M t x) (h2 : rep W M u y) : isM x y = some b := by
  obtain ⟨p, hp⟩ := W.tokL
  cases u <;> simp only [tis] at h <;> first | (cases t <;> cases h; done) | skip
  · unfold rep at h2
    subst h2
    cases t <;> unfold rep at h1
    case tup ts =>
      obtain ⟨vs, rfl, _⟩ := h1
      exact h
    case lst ts =>
      obtain ⟨a, vs, rfl, _⟩ := h1
      exact h
    case pur =>
      rw [hp] at h1
      subst h1
      exact h
    all_goals (subst h1; exact h)
  · unfold rep at h2
    subst h2
    cases t <;> unfold rep at h1
    case tup ts =>
      obtain ⟨vs, rfl, _⟩ := h1
      exact h
    case lst ts =>
      obtain ⟨a, vs, rfl, _⟩ := h1
      exact h
    case pur =>
      rw [hp] at h1
      subst h1
      exact h
    all_goals (subst h1; exact h)
theorem tcmp_ok {o : COp} {t u : TV} {x y : MV} {b : Bool} (h : tcmp o t u = some b) (h1 : rep W M t x) (h2 : rep W M u y) : cmpop o x y M = .ok (.bl b) M := by
  cases o <;> simp only [tcmp] at h
  case eq => simp [teq_ok h h1 h2]
  case ne =>
    simp only [Option.map_eq_some_iff] at h
    obtain ⟨c, e, rfl⟩ := h
    simp [teq_ok e h1 h2]
  case is => simp [tis_ok h h1 h2]
  case isn =>
    simp only [Option.map_eq_some_iff] at h
    obtain ⟨c, e, rfl⟩ := h
    simp [tis_ok e h1 h2]
  case inn => simp [tin_ok h h1 h2]
  case nin =>
    simp only [Option.map_eq_some_iff] at h
    obtain ⟨c, e, rfl⟩ := h
    simp [tin_ok e h1 h2]
  all_goals
    split at h <;> first | (cases h; done) | skip
    cases h
    rw [rep_int h1, rep_int h2]
    simp
theorem tisi_ok {t : TV} {x : MV} (h : rep W M t x) (ts : List Ty) : isiM x ts = tisi t ts := by
  obtain ⟨p, hp⟩ := W.tokL
  have : tyOfM x = tTy t := by
    cases t <;> unfold rep at h
    case tup ts =>
      obtain ⟨vs, rfl, _⟩ := h
      rfl
    case lst ts =>
      obtain ⟨a, vs, rfl, _⟩ := h
      rfl
    case pur =>
      rw [hp] at h
      subst h
      rfl
    all_goals (subst h; rfl)
  unfold isiM tisi
  revert this
  generalize tyOfM x = y
  intro this
  subst this
  cases tTy t <;> rfl
theorem tcut_reps {ts : List TV} {vs : List MV} (h : reps W M ts vs) (lo hi : Option Int) : reps W M (tcut ts lo hi) (cutM vs lo hi) ∧ ∃ A B, adss M ts vs = A ++ (adss M (tcut ts lo hi) (cutM vs lo hi) ++ B) := by
  have hl := reps_len h
  unfold tcut cutM
  rw [hl]
  generalize HT.sIx vs.length 0 lo = i
  generalize HT.sIx vs.length vs.length hi - i = j
  obtain ⟨a1, a2⟩ := reps_split i h
  obtain ⟨b1, b2⟩ := reps_split j a2
  refine ⟨b1, adss M (ts.take i) (vs.take i), adss M ((ts.drop i).drop j) ((vs.drop i).drop j), ?_⟩
  rw [adss_split i h, adss_split j a2]
theorem nd_mid {A B C : List Nat} (h : (A ++ (B ++ C)).Nodup) : B.Nodup := (List.nodup_append.mp (List.nodup_append.mp h).2.1).1

theorem reps_rep {ts : List TV} {vs : List MV} (h : reps W M ts vs) : ∀ k : Nat, reps W M (List.replicate k ts).flatten (List.replicate k vs).flatten ∧ ∀ a ∈ adss M (List.replicate k ts).flatten (List.replicate k vs).flatten, a ∈ adss M ts vs
  | 0 => by simp [reps, adss]
  | k + 1 => by
    obtain ⟨a, b⟩ := reps_rep h k
    rw [List.replicate_succ, List.replicate_succ, List.flatten_cons, List.flatten_cons]
    refine ⟨reps_append h a, fun z hz => ?_⟩
    rw [adss_append (reps_len h), List.mem_append] at hz
    exact hz.elim id (b z)
theorem ixN_lt {n j : Nat} {i : Int} (h : L2.ixN n i = some j) : j < n := by
  unfold L2.ixN at h
  split at h
  · split at h <;> cases h
    omega
  · split at h <;> cases h
    omega
theorem atI_reps {ts : List TV} {vs : List MV} {i : Int} {t : TV} (h : reps W M ts vs) (e : L2.atI ts i = some t) : ∃ (j : Nat) (v : MV), L2.atI vs i = some v ∧ ts[j]? = some t ∧ vs[j]? = some v ∧ rep W M t v := by
  unfold L2.atI at e ⊢
  rw [← reps_len h]
  cases hj : L2.ixN ts.length i with
  | none => simp [hj] at e
  | some j =>
    rw [hj] at e
    have e' : ts[j]? = some t := e
    obtain ⟨v, h1, h2⟩ := reps_get h e'
    exact ⟨j, v, h1, e', h1, h2⟩
/-- a part of a value is a result -/
theorem VOK.part {g : G} {t : TV} {v : MV} {t' : TV} {v' : MV} (h : VOK W R N M g t v) (hr : TM.rep W M t' v') (hs : ∀ a ∈ ads M t' v', a ∈ ads M t v) (hd : (ads M t v).Nodup → (ads M t' v').Nodup) : VOK W R N M (TM.gsub g) t' v' := by
  refine ⟨hr, fun a ha => h.adr a (hs a ha), ?_, fun a ha => ?_⟩
  · cases g with
    | s => trivial
    | r => trivial
    | d => exact hd h.own
  · cases g with
    | s => exact ha.elim
    | r => exact ha.elim
    | d => exact h.new a (hs a ha)
theorem part_of {ts : List TV} {vs : List MV} {j : Nat} {t : TV} {v : MV} (h : reps W M ts vs) (h1 : ts[j]? = some t) (h2 : vs[j]? = some v) : (∀ a ∈ ads M t v, a ∈ adss M ts vs) ∧ ((adss M ts vs).Nodup → (ads M t v).Nodup) := by
  have e := adss_get h h1 h2
  rw [e]
  exact ⟨fun a ha => by simp [ha], nd_mid⟩
theorem tidx_ok {u v w : GV} {x y : MV} (h : tidx u v = some w) (hu : VOK W R N M u.1 u.2 x) (hv : TM.rep W M v.2 y) (hs : W.St s M) : Out W R N s M (idxop x y M) w := by
  obtain ⟨g1, t1⟩ := u
  obtain ⟨g2, t2⟩ := v
  simp only at hu hv
  unfold tidx at h
  simp only at h
  split at h <;> first | (cases h; done) | skip
  rename_i i
  rw [rep_int hv]
  split at h <;> first | (cases h; done) | skip
  · rename_i xs
    simp only [Option.map_eq_some_iff] at h
    obtain ⟨t, e, rfl⟩ := h
    obtain ⟨vs, rfl, hr⟩ := rep_tup hu.rep
    obtain ⟨j, z, e1, e2, e3, e4⟩ := atI_reps hr e
    obtain ⟨p1, p2⟩ := part_of hr e2 e3
    exact ⟨z, M, by simp [idxop, e1], Gro.refl, hs, (hu.part e4 (by simpa [ads] using p1) (by simpa [ads] using p2)).gr⟩
  · rename_i xs
    simp only [Option.map_eq_some_iff] at h
    obtain ⟨t, e, rfl⟩ := h
    obtain ⟨a, vs, rfl, hq, hm, hr, he⟩ := rep_lst hu.rep
    obtain ⟨j, z, e1, e2, e3, e4⟩ := atI_reps hr e
    obtain ⟨p1, p2⟩ := part_of hr e2 e3
    exact ⟨z, M, by simp [idxop, itemsL, hm, e1], Gro.refl, hs, (hu.part e4 (fun b hb => by rw [he]; exact List.mem_cons_of_mem _ (p1 b hb)) (fun hn => p2 (List.nodup_cons.mp (he ▸ hn)).2)).gr⟩
/-- a new list of parts of a list -/
theorem newl_part {g : G} {xs ts : List TV} {a : Nat} {vs ws : List MV} {z : Re MV} (hu : VOK W R N M g (.lst xs) (.lst a)) (he : ads M (.lst xs) (.lst a) = a :: adss M xs vs) (hr : reps W M ts ws) (hz : z = newL ws M) (h1 : ∀ b ∈ adss M ts ws, b ∈ adss M xs vs) (h2 : (adss M xs vs).Nodup → (adss M ts ws).Nodup) (hs : W.St s M) (hN : N ≤ M.length) : Out W R N s M z (gl g ts, .lst ts) := by
  refine Out.newl hs hz hr (fun b hb => hu.adr b (by rw [he]; exact List.mem_cons_of_mem _ (h1 b hb))) (fun hg => ?_) hN
  subst hg
  have o : (ads M (.lst xs) (.lst a)).Nodup := hu.own
  rw [he] at o
  exact ⟨h2 (List.nodup_cons.mp o).2, fun b hb => hu.new b (show b ∈ ads _ _ _ by rw [he]; exact List.mem_cons_of_mem _ (h1 b hb))⟩
theorem tslc_ok {u w : GV} {x : MV} {lo hi : Option Int} (h : tslc u lo hi = some w) (hu : VOK W R N M u.1 u.2 x) (hs : W.St s M) (hN : N ≤ M.length) : Out W R N s M (slcop x lo hi M) w := by
  obtain ⟨g1, t1⟩ := u
  simp only at hu
  unfold tslc at h
  simp only at h
  split at h <;> cases h
  rename_i xs
  obtain ⟨a, vs, rfl, hq, hm, hr, he⟩ := rep_lst hu.rep
  obtain ⟨r, A, B, e⟩ := tcut_reps hr lo hi
  refine newl_part hu he r (by simp [slcop, itemsL, hm]) (fun b hb => by rw [e]; simp [hb]) (fun hn => nd_mid (e ▸ hn)) hs hN
theorem trev_ok {u w : GV} {x : MV} (h : trev u = some w) (hu : VOK W R N M u.1 u.2 x) (hs : W.St s M) (hN : N ≤ M.length) : Out W R N s M (revop x M) w := by
  obtain ⟨g1, t1⟩ := u
  simp only at hu
  unfold trev at h
  simp only at h
  split at h <;> cases h
  rename_i xs
  obtain ⟨a, vs, rfl, hq, hm, hr, he⟩ := rep_lst hu.rep
  obtain ⟨r, p⟩ := reps_rev hr
  exact newl_part hu he r (by simp [revop, itemsL, hm]) (fun b hb => p.mem_iff.mp hb) (fun hn => p.nodup_iff.mpr hn) hs hN
theorem tlen_ok {t : TV} {x : MV} {n : Nat} (h : tlen t = some n) (hr : rep W M t x) : lenM M x = some n := by
  unfold tlen at h
  split at h <;> first | (cases h; done) | skip
  · cases h
    obtain ⟨vs, rfl, r⟩ := rep_tup hr
    simp [lenM, reps_len r]
  · cases h
    obtain ⟨a, vs, rfl, hq, hm, r, he⟩ := rep_lst hr
    simp [lenM, hm, reps_len r]
  · rw [rep_str hr]
    exact h
theorem tbools_ok : ∀ {ts : List TV} {vs : List MV} {bs : List Bool}, reps W M ts vs → tbools ts = some bs → boolsOf vs = some bs
  | [], vs, bs, h, e => by
    rw [reps_nil' h]
    exact e
  | t :: ts, vs, bs, h, e => by
    obtain ⟨v, ws, rfl, h1, h2⟩ := reps_cons' h
    unfold tbools at e
    split at e <;> first | (cases e; done) | skip
    all_goals (rename_i heq; cases heq)
    simp only [Option.map_eq_some_iff] at e
    obtain ⟨cs, e1, rfl⟩ := e
    rw [rep_bl h1]
    simp [boolsOf, tbools_ok h2 e1]
theorem tints_ok : ∀ {ts : List TV} {vs : List MV} {bs : List Int}, reps W M ts vs → tints ts = some bs → intsOf vs = some bs
  | [], vs, bs, h, e => by
    rw [reps_nil' h]
    exact e
  | t :: ts, vs, bs, h, e => by
    obtain ⟨v, ws, rfl, h1, h2⟩ := reps_cons' h
    unfold tints at e
    split at e <;> first | (cases e; done) | skip
    all_goals (rename_i heq; cases heq)
    simp only [Option.map_eq_some_iff] at e
    obtain ⟨cs, e1, rfl⟩ := e
    rw [rep_int h1]
    simp [intsOf, tints_ok h2 e1]
theorem ttups_ok : ∀ {ts : List TV} {vs : List MV} {bs : List (List Int)}, reps W M ts vs → ttups ts = some bs → tupsOf vs = some bs
  | [], vs, bs, h, e => by
    rw [reps_nil' h]
    exact e
  | t :: ts, vs, bs, h, e => by
    obtain ⟨v, ws, rfl, h1, h2⟩ := reps_cons' h
    unfold ttups at e
    split at e <;> first | (cases e; done) | skip
    rename_i us
    split at e <;> first | (cases e; done) | skip
    rename_i ns ls e1 e2
    cases e
    obtain ⟨xs, rfl, r⟩ := rep_tup h1
    simp [tupsOf, tints_ok r e1, ttups_ok h2 e2]
theorem trepr_ok {t : TV} {x : MV} {y : Str} (h : trepr t = some y) (hr : rep W M t x) : reprM M x = some y := by
  unfold trepr at h
  split at h
  · unfold rep at hr
    subst hr
    exact h
  · split at h <;> first | (cases h; done) | skip
    rename_i d e
    have p := pd_rep _ _ _ _ hr e
    unfold reprM
    split
    · simp [pdDepth, pd] at p
    · rw [p]
      exact h
theorem int_val {t : TV} {x : MV} {i : Int} (h : rep W M t x) (e : t = .int i) : x = .int i := by
  subst e
  exact rep_int h
theorem tlsts_ok : ∀ {ts : List TV} {vs : List MV} {ls : List (List TV)}, reps W M ts vs → tlsts ts = some ls → ∃ ls', lstsOf M vs = some ls' ∧ reps W M ls.flatten ls'.flatten ∧ (adss M ls.flatten ls'.flatten).Sublist (adss M ts vs)
  | [], vs, ls, h, e => by
    rw [reps_nil' h]
    cases e
    exact ⟨[], rfl, reps_nil, List.Sublist.refl _⟩
  | t :: ts, vs, ls, h, e => by
    obtain ⟨v, ws, rfl, h1, h2⟩ := reps_cons' h
    unfold tlsts at e
    split at e <;> first | (cases e; done) | skip
    rename_i us
    split at e <;> first | (cases e; done) | skip
    rename_i ls0 e1
    cases e
    obtain ⟨ls', f1, f2, f3⟩ := tlsts_ok h2 e1
    obtain ⟨a, xs, rfl, hq, hm, r, he⟩ := rep_lst h1
    refine ⟨xs :: ls', by simp [lstsOf, hm, f1], reps_append r f2, ?_⟩
    simp only [List.flatten_cons]
    rw [adss_append (reps_len r)]
    simp only [adss]
    rw [he]
    exact List.Sublist.append (List.sublist_cons_self _ _) f3
theorem tsumL_ok {u1 u2 w : GV} {x1 x2 : MV} (h : tsumL u1 u2 = some w) (h1 : VOK W R N M u1.1 u1.2 x1) (h2 : VOK W R N M u2.1 u2.2 x2) (sp : u2.1 = .d → ∀ a ∈ ads M u2.2 x2, a ∉ ads M u1.2 x1) (hs : W.St s M) (hN : N ≤ M.length) : Out W R N s M (btop .sum [x1, x2] M) w := by
  obtain ⟨g1, t1⟩ := u1
  obtain ⟨g2, t2⟩ := u2
  simp only at h1 h2 sp
  unfold tsumL at h
  simp only at h
  split at h <;> first | (cases h; done) | skip
  rename_i xs
  split at h <;> first | (cases h; done) | skip
  rename_i ls e1
  split at h <;> first | (cases h; done) | skip
  rename_i hl
  obtain ⟨n, us, rfl, hq, hm, r, he⟩ := rep_lst h1.rep
  obtain ⟨t, ws, rfl, hq2, hm2, r2, he2⟩ := rep_lst h2.rep
  rw [reps_nil' r2] at hm2
  obtain ⟨ls', f1, f2, f3⟩ := tlsts_ok r e1
  have hnt : n ≠ t := fun z => sp rfl t (by rw [he2]; simp) (by rw [he, z]; simp)
  have hl' : ls'.flatten.length ≤ lim := by rw [← reps_len f2]; exact hl
  split at h
  · cases h
    have : us = [] := reps_nil' r
    subst this
    exact ⟨.lst t, M, by simp [btop, sumM, hm, hm2, hnt, lstsOf], Gro.refl, hs, h2⟩
  · cases h
    rename_i x xs'
    obtain ⟨u, us', rfl, _, _⟩ := reps_cons' r
    refine Out.newl hs (vs := ls'.flatten) ?_ f2 (fun a ha => h1.adr a (by rw [he]; exact List.mem_cons_of_mem _ (f3.subset ha))) (fun hg => ?_) hN
    · simp only [btop, sumM, hm, hm2, if_neg hnt, f1, if_pos hl']
    · have hg : g1 = .d := by cases g1 <;> simp [gsub] at hg <;> rfl
      subst hg
      have o : (ads M (.lst (x :: xs')) (.lst n)).Nodup := h1.own
      rw [he] at o
      exact ⟨((List.nodup_cons.mp o).2).sublist f3, fun a ha => h1.new a (show a ∈ ads _ _ _ by rw [he]; exact List.mem_cons_of_mem _ (f3.subset ha))⟩
theorem tbt_ok {b : Bt} {us : List GV} {vs : List MV} {w : GV} (h : tbt b us = some w) (hu : VsOK W R N M us vs) (hs : W.St s M) (hN : N ≤ M.length) : Out W R N s M (btop b vs M) w := by
  have one : ∀ (u : GV), VsOK W R N M [u] vs → ∃ x, vs = [x] ∧ VOK W R N M u.1 u.2 x := by
    intro u hu
    unfold VsOK at hu
    obtain ⟨v, vs', rfl, h1, h2, _⟩ := hu
    unfold VsOK at h2
    subst h2
    exact ⟨v, rfl, h1⟩
  unfold tbt at h
  split at h
  · obtain ⟨x, rfl, hx⟩ := one _ hu
    split at h <;> cases h
    rename_i n e
    exact Out.here hs (z := .int n) (by simp [btop, tlen_ok e hx.rep]) rfl rfl
  · obtain ⟨x, rfl, hx⟩ := one _ hu
    split at h <;> cases h
    rename_i i e
    rw [int_val hx.rep e]
    exact Out.here hs (z := .int (i.natAbs : Int)) (b_abs M i) rfl rfl
  · obtain ⟨x, rfl, hx⟩ := one _ hu
    split at h <;> cases h
    · rename_i i e
      rw [int_val hx.rep e]
      exact Out.here hs rfl rfl rfl
    · rename_i k e
      have hr := hx.rep
      rw [e] at hr
      rw [rep_bl hr]
      exact Out.here hs (z := .int (if k then 1 else 0)) rfl rfl rfl
  · obtain ⟨x, rfl, hx⟩ := one _ hu
    split at h <;> first | (cases h; done) | skip
    rename_i i e
    split at h <;> cases h
    rename_i hl
    rw [int_val hx.rep e]
    exact Out.here hs (z := .str (toString i)) (if_pos hl) rfl rfl
  · obtain ⟨x, rfl, hx⟩ := one _ hu
    simp only [Option.map_eq_some_iff] at h
    obtain ⟨n, e, rfl⟩ := h
    exact Out.here hs (z := .str n) (by simp [btop, trepr_ok e hx.rep]) rfl rfl
  · obtain ⟨x, rfl, hx⟩ := one _ hu
    split at h <;> first | (cases h; done) | skip
    rename_i xs e
    simp only [Option.map_eq_some_iff] at h
    obtain ⟨bs, e1, rfl⟩ := h
    have hr := hx.rep
    rw [e] at hr
    obtain ⟨a, ys, rfl, hq, hm, r, he⟩ := rep_lst hr
    exact Out.here hs (z := .bl (bs.all id)) (by simp [btop, itemsL, hm, tbools_ok r e1]) rfl rfl
  · obtain ⟨x, rfl, hx⟩ := one _ hu
    split at h <;> first | (cases h; done) | skip
    rename_i xs e
    simp only [Option.map_eq_some_iff] at h
    obtain ⟨bs, e1, rfl⟩ := h
    have hr := hx.rep
    rw [e] at hr
    obtain ⟨a, ys, rfl, hq, hm, r, he⟩ := rep_lst hr
    exact Out.here hs (z := .int bs.sum) (by simp [btop, itemsL, hm, tints_ok r e1]) rfl rfl
  · rename_i v1 v2
    unfold VsOK at hu
    obtain ⟨x1, vs', rfl, h1, hu2, h3, h4⟩ := hu
    have r2 := hu2
    unfold VsOK at hu2
    obtain ⟨x2, vs', rfl, h2, hu2, _⟩ := hu2
    unfold VsOK at hu2
    subst hu2
    refine tsumL_ok h h1 h2 (fun hd a ha hb => h4 ?_ a ?_ hb) hs hN
    · simp [gall, hd, gm]
    · simp [adss, ha]
  · obtain ⟨x, rfl, hx⟩ := one _ hu
    split at h <;> cases h
    · rename_i g xs e
      rw [e] at hx
      obtain ⟨ys, rfl, r⟩ := rep_tup hx.rep
      refine Out.newl hs (vs := ys) rfl r (fun b hb => hx.adr b (by simpa [ads] using hb)) (fun hg => ?_) hN
      have o := hx.own
      have n := hx.new
      rw [hg] at o n
      exact ⟨by simpa [Own, ads] using o, fun b hb => n b (by simpa [ow, ads] using hb)⟩
    · rename_i g xs e
      rw [e] at hx
      obtain ⟨a, ys, rfl, hq, hm, r, he⟩ := rep_lst hx.rep
      exact newl_part hx he r (by simp [btop, itemsT, itemsL, hm]) (fun _ h => h) id hs hN
  · obtain ⟨x, rfl, hx⟩ := one _ hu
    split at h <;> cases h
    · rename_i g xs e
      rw [e] at hx
      obtain ⟨ys, rfl, r⟩ := rep_tup hx.rep
      exact ⟨.tup ys, M, rfl, Gro.refl, hs, hx.gsub.gr⟩
    · rename_i g xs e
      rw [e] at hx
      obtain ⟨a, ys, rfl, hq, hm, r, he⟩ := rep_lst hx.rep
      refine ⟨.tup ys, M, by simp [btop, itemsT, itemsL, hm], Gro.refl, hs, (hx.part (rep_tup' r) (fun b hb => ?_) fun hn => ?_).gr⟩
      · rw [he]
        exact List.mem_cons_of_mem _ (by simpa [ads] using hb)
      · have := (List.nodup_cons.mp (he ▸ hn)).2
        simpa [ads] using this
  · cases h

/-! ### ops -/
theorem tbin_ok {o : BOp} {u v w : GV} {x y : MV} (h : tbin o u v = some w) (hu : VOK W R N M u.1 u.2 x) (hv : VOK W R N M v.1 v.2 y) (hd : gm u.1 v.1 = .d → ∀ a ∈ ads M u.2 x, a ∉ ads M v.2 y) (hs : W.St s M) (hN : N ≤ M.length) : Out W R N s M (binop o x y M) w := by
  obtain ⟨g1, t1⟩ := u
  obtain ⟨g2, t2⟩ := v
  simp only at hu hv hd
  unfold tbin at h
  simp only at h
  split at h
  · cases h
    refine Out.here hs (z := _) ?_ rfl rfl
    rw [rep_int hu.rep, rep_int hv.rep]
    rfl
  · rename_i a b
    split at h <;> cases h
    rename_i hlen
    obtain ⟨p, xs, rfl, q1, m1, r1, e1⟩ := rep_lst hu.rep
    obtain ⟨q, ys, rfl, q2, m2, r2, e2⟩ := rep_lst hv.rep
    have l1 := reps_len r1
    have l2 := reps_len r2
    refine Out.newl hs (vs := xs ++ ys) ?_ (reps_append r1 r2) ?_ (fun hg => ?_) hN
    · show (match M[p]?, M[q]? with
        | some xs, some ys => if xs.length + ys.length ≤ lim then newL (xs ++ ys) M else .bad
        | _, _ => .bad) = _
      rw [m1, m2]
      exact if_pos (by omega)
    · intro z hz
      rw [adss_append l1, List.mem_append] at hz
      rcases hz with hz | hz
      · exact hu.adr z (by rw [e1]; exact List.mem_cons_of_mem _ hz)
      · exact hv.adr z (by rw [e2]; exact List.mem_cons_of_mem _ hz)
    · have hd' := hd hg
      have g1' : g1 = .d ∧ g2 = .d := by
        cases g1 <;> cases g2 <;> simp [gm] at hg <;> exact ⟨rfl, rfl⟩
      obtain ⟨rfl, rfl⟩ := g1'
      have o1 : (ads M (.lst a) (.lst p)).Nodup := hu.own
      have o2 : (ads M (.lst b) (.lst q)).Nodup := hv.own
      rw [e1] at o1 hd'
      rw [e2] at o2 hd'
      rw [adss_append l1]
      refine ⟨List.nodup_append.mpr ⟨(List.nodup_cons.mp o1).2, (List.nodup_cons.mp o2).2, fun z hz w hw e => hd' z (List.mem_cons_of_mem _ hz) (e ▸ List.mem_cons_of_mem _ hw)⟩, fun z hz => ?_⟩
      rcases List.mem_append.mp hz with hz | hz
      · exact hu.new z (show z ∈ ads _ _ _ by rw [e1]; exact List.mem_cons_of_mem _ hz)
      · exact hv.new z (show z ∈ ads _ _ _ by rw [e2]; exact List.mem_cons_of_mem _ hz)
  · rename_i a b
    split at h <;> cases h
    rename_i hl
    refine Out.here hs (z := _) ?_ rfl rfl
    rw [rep_str hu.rep, rep_str hv.rep]
    exact if_pos hl
  · cases h
    refine Out.here hs (z := _) ?_ rfl rfl
    rw [rep_int hu.rep, rep_int hv.rep]
    rfl
  · rename_i a b
    split at h <;> cases h
    rename_i hl
    refine Out.here hs (z := _) ?_ rfl rfl
    rw [rep_int hu.rep, rep_int hv.rep]
    exact if_pos hl
  · rename_i a j
    split at h <;> cases h
    rename_i hl
    obtain ⟨p, xs, rfl, q1, m1, r1, e1⟩ := rep_lst hu.rep
    have l1 := reps_len r1
    obtain ⟨f1, f2⟩ := reps_rep r1 j.toNat
    refine Out.newl hs (vs := (List.replicate j.toNat xs).flatten) ?_ f1 (fun z hz => hu.adr z (by rw [e1]; exact List.mem_cons_of_mem _ (f2 z hz))) (fun hg => by cases hg) hN
    rw [rep_int hv.rep]
    show (match M[p]? with
    | some xs => if -1000 ≤ j ∧ j ≤ 1000 ∧ xs.length * j.toNat ≤ lim then newL (List.replicate j.toNat xs).flatten M else .bad
    | none => .bad) = _
    rw [m1]
    exact if_pos (by rw [← l1]; exact hl)
  · split at h <;> cases h
    rename_i hl
    refine Out.here hs (z := _) ?_ rfl rfl
    rw [rep_int hu.rep, rep_int hv.rep]
    exact if_pos hl
  · split at h <;> cases h
    rename_i hl
    refine Out.here hs (z := _) ?_ rfl rfl
    rw [rep_int hu.rep, rep_int hv.rep]
    exact if_pos hl
  · split at h <;> cases h
    rename_i hl
    refine Out.here hs (z := _) ?_ rfl rfl
    rw [rep_int hu.rep, rep_int hv.rep]
    exact if_pos hl
  · cases h
end
end TM

set_option Elab.async false
set_option linter.all false
set_option maxRecDepth 100000
set_option autoImplicit false
set_option maxHeartbeats 2000000
/-! TM, part d: expressions over trees are those over the small heap. -/
namespace TM
open PySem MP
section
variable {S : Type} {W : Wd S} {M M' M1 : MH} {R : Nat → Prop} {N : Nat} {s : S}
structure Ctx (W : Wd S) (C : Cf) (D : TCf S) : Prop where
  most : lim < C.most
  glo : ∀ k, D.glo k = C.glo k
  arr : ∀ f sh, D.arr f sh = C.arr f sh
  call : ∀ f args s w s', D.call f args s = .ok w s' → ∀ (M : MH) (vs : List MV), reps W M args vs → W.St s M → Out W (fun a => a ∈ adss M args vs) M.length s' M (C.call f vs M) w
/-- the slots of trees and those of the small heap -/
def SR (W : Wd S) (M : MH) (ts : TSl) (m : Sl) : Prop := ts.length = m.length ∧ ∀ (i : Nat) (g : G) (t : TV), ts[i]? = some (some (g, t)) → ∃ v, m[i]? = some (some v) ∧ rep W M t v
def Cov (R : Nat → Prop) (M : MH) (ts : TSl) (m : Sl) (is : List Nat) : Prop := ∀ i ∈ is, ∀ (g : G) (t : TV) (v : MV), ts[i]? = some (some (g, t)) → m[i]? = some (some v) → ∀ a ∈ ads M t v, R a
theorem SR.gro {ts : TSl} {m : Sl} (h : SR W M ts m) (k : Gro W M M1) : SR W M1 ts m := ⟨h.1, fun i g t e => by
  obtain ⟨v, e1, e2⟩ := h.2 i g t e
  exact ⟨v, e1, (rep_same t v e2 (k.same e2)).1⟩⟩
theorem Cov.gro {ts : TSl} {m : Sl} {is : List Nat} (h : Cov R M ts m is) (hr : SR W M ts m) (k : Gro W M M1) : Cov R M1 ts m is := fun i hi g t v e1 e2 a ha => by
  obtain ⟨v', e3, e4⟩ := hr.2 i g t e1
  rw [e2] at e3
  cases e3
  rw [(rep_same t v e4 (k.same e4)).2] at ha
  exact h i hi g t v e1 e2 a ha
theorem Cov.sub {ts : TSl} {m : Sl} {is js : List Nat} (h : Cov R M ts m is) (hs : ∀ i ∈ js, i ∈ is) : Cov R M ts m js := fun i hi => h i (hs i hi)
theorem Cov.mono {R' : Nat → Prop} {ts : TSl} {m : Sl} {is : List Nat} (h : Cov R M ts m is) (hs : ∀ a, R a → R' a) : Cov R' M ts m is := fun i hi g t v e1 e2 a ha => hs a (h i hi g t v e1 e2 a ha)
theorem TR.bnd_ok {α β : Type} {x : TR S α} {f : α → S → TR S β} {w : β} {s' : S} (h : x.bnd f = .ok w s') : ∃ a s1, x = .ok a s1 ∧ f a s1 = .ok w s' := by
  cases x with
  | bad => cases h
  | ok a s1 => exact ⟨a, s1, rfl, h⟩
theorem TR.of_ok {α : Type} {o : Option α} {w : α} {s' : S} (h : TR.of s o = .ok w s') : o = some w ∧ s' = s := by
  cases o with
  | none => cases h
  | some a =>
    cases h
    exact ⟨rfl, rfl⟩
theorem Out.step {x : Re MV} {f : MV → MH → Re MV} {z : MV} {w : GV} (h : x = .ok z M1) (k : Gro W M M1) (o : Out W R N s M1 (f z M1) w) : Out W R N s M (x.bnd f) w := by
  obtain ⟨y, M2, e, k2, st, v⟩ := o
  exact ⟨y, M2, by rw [h]; exact e, k.trans k2, st, v⟩
theorem Out.low {N' : Nat} {x : Re MV} {w : GV} (h : Out W R N' s M x w) (hN : N ≤ N') : Out W R N s M x w := by
  obtain ⟨y, M2, e, k2, st, v⟩ := h
  exact ⟨y, M2, e, k2, st, v.mono (fun a h => .inl h) hN⟩
theorem bnd_id {α : Type} {x : Re α} {a : α} (h : x = .ok a M) {β : Type} (f : α → MH → Re β) : x.bnd f = f a M := by rw [h]; rfl
theorem tcv_rep : ∀ (v : MV) (t : TV), tcv v = some t → rep W M t v ∧ ads M t v = []
  | .non, t, h => by cases h; exact ⟨by unfold rep; rfl, by simp [ads]⟩
  | .bl _, t, h => by cases h; exact ⟨by unfold rep; rfl, by simp [ads]⟩
  | .int _, t, h => by cases h; exact ⟨by unfold rep; rfl, by simp [ads]⟩
  | .str _, t, h => by cases h; exact ⟨by unfold rep; rfl, by simp [ads]⟩
  | .dct, t, h => by cases h; exact ⟨by unfold rep; rfl, by simp [ads]⟩
  | .lst _, t, h => by simp [tcv] at h
  | .kls _, t, h => by simp [tcv] at h
  | .tup xs, t, h => by
    simp only [tcv, Option.map_eq_some_iff] at h
    obtain ⟨ts, e, rfl⟩ := h
    have := tcvs_rep xs ts e
    exact ⟨rep_tup' this.1, by simp [ads, this.2]⟩
where
  tcvs_rep : ∀ (vs : List MV) (ts : List TV), tcvs vs = some ts → reps W M ts vs ∧ adss M ts vs = []
  | [], ts, h => by cases h; simp [reps, adss]
  | v :: vs, ts, h => by
    unfold tcvs at h
    split at h <;> first | (cases h; done) | skip
    rename_i t ts' e1 e2
    cases h
    have h1 := tcv_rep v t e1
    have h2 := tcvs_rep vs ts' e2
    exact ⟨reps_cons h1.1 h2.1, by simp [adss, h1.2, h2.2]⟩
theorem cst_ok {v : MV} {t : TV} (h : tcv v = some t) : VOK W R N M (gr .s t) t v := by
  obtain ⟨h1, h2⟩ := tcv_rep (W := W) (M := M) v t h
  exact VOK.gr ⟨h1, fun a ha => by simp [h2] at ha, trivial, fun a ha => ha.elim⟩
theorem targs_ok {ts : List TV} {vs : List MV} (h : reps W M ts vs) : ∀ (ar : List Ar) (args : List TV), ar.mapM (targ ts) = some args → ∃ ws, ar.mapM (argAt vs) = some ws ∧ reps W M args ws ∧ ∀ a ∈ adss M args ws, a ∈ adss M ts vs
  | [], args, e => by
    cases e
    exact ⟨[], rfl, reps_nil, fun a ha => by simp [adss] at ha⟩
  | x :: ar, args, e => by
    rw [List.mapM_cons] at e
    simp only [Option.bind_eq_bind, Option.bind_eq_some_iff] at e
    obtain ⟨t, e1, us, e2, e3⟩ := e
    cases e3
    obtain ⟨ws, f1, f2, f3⟩ := targs_ok h ar us e2
    have : ∃ v, argAt vs x = some v ∧ rep W M t v ∧ ∀ a ∈ ads M t v, a ∈ adss M ts vs := by
      match x, e1 with
      | .at i, e1 =>
        obtain ⟨v, g1, g2⟩ := reps_get h (show ts[i]? = some t from e1)
        exact ⟨v, g1, g2, (part_of h (show ts[i]? = some t from e1) g1).1⟩
      | .df v, e1 =>
        obtain ⟨h1, h2⟩ := tcv_rep (W := W) (M := M) v t e1
        exact ⟨v, rfl, h1, fun a ha => by simp [h2] at ha⟩
    obtain ⟨v, g1, g2, g3⟩ := this
    refine ⟨v :: ws, by rw [List.mapM_cons, g1, f1]; rfl, reps_cons g2 f2, fun a ha => ?_⟩
    simp only [adss, List.mem_append] at ha
    exact ha.elim (g3 a) (f3 a)
theorem VsOK.gro {xs : List GV} {vs : List MV} (k : Gro W M M1) : ∀ {xs : List GV} {vs : List MV}, VsOK W R N M xs vs → VsOK W R N M1 xs vs
  | [], vs, h => by
    unfold VsOK at h ⊢
    exact h
  | x :: xs, vs, h => by
    unfold VsOK at h ⊢
    obtain ⟨v, vs', rfl, h1, h2, h3, h4⟩ := h
    have r := h2.reps.1
    have e1 := rep_same x.2 v h1.rep (k.same h1.rep)
    have e2 := reps_same _ vs' r (k.sames r)
    refine ⟨v, vs', rfl, h1.gro k, VsOK.gro (xs := xs) (vs := vs') k h2, fun a ha => ?_, fun hg a ha => ?_⟩
    · rw [e2.2]
      exact h3 a ((ow_same h1.rep (k.same h1.rep)).mp ha)
    · rw [e2.2] at ha
      rw [e1.2]
      exact h4 hg a ha
theorem VsOK.low {R' : Nat → Prop} {N' : Nat} (hR : ∀ a, R' a → R a ∨ N ≤ a) (hN : N ≤ N') : ∀ {xs : List GV} {vs : List MV}, VsOK W R' N' M xs vs → VsOK W R N M xs vs
  | [], vs, h => by
    unfold VsOK at h ⊢
    exact h
  | x :: xs, vs, h => by
    unfold VsOK at h ⊢
    obtain ⟨v, vs', rfl, h1, h2, h3, h4⟩ := h
    exact ⟨v, vs', rfl, h1.mono hR hN, VsOK.low hR hN h2, h3, h4⟩
theorem gall_snoc : ∀ (xs : List GV) (y : GV), gall (xs ++ [y]) = .d → gall xs = .d ∧ y.1 = .d
  | [], y, h => by
    simp only [List.nil_append, gall] at h
    refine ⟨rfl, ?_⟩
    cases e : y.1 <;> simp [e, gm] at h
    rfl
  | x :: xs, y, h => by
    simp only [List.cons_append, gall] at h ⊢
    have h1 : x.1 = .d := by
      cases e : x.1 <;> simp [e, gm] at h
      rfl
    have h2 : gall (xs ++ [y]) = .d := by
      rw [h1] at h
      cases e : gall (xs ++ [y]) <;> simp [e, gm] at h
      rfl
    obtain ⟨a, b⟩ := gall_snoc xs y h2
    rw [h1, a]
    exact ⟨rfl, b⟩
theorem VsOK.snoc {y : GV} {v : MV} (hv : VOK W R N M y.1 y.2 v) : ∀ {xs : List GV} {vs : List MV}, VsOK W R N M xs vs → (∀ a, ow y.1 M y.2 v a → a ∉ adss M (xs.map (·.2)) vs) → (∀ a, N ≤ a → a ∈ adss M (xs.map (·.2)) vs → a ∉ ads M y.2 v) → VsOK W R N M (xs ++ [y]) (vs ++ [v])
  | [], vs, h, _, _ => by
    unfold VsOK at h
    subst h
    simp only [List.nil_append]
    unfold VsOK
    exact ⟨v, [], rfl, hv, by unfold VsOK; rfl, fun a _ => by simp [adss], fun _ a ha => by simp [adss] at ha⟩
  | x :: xs, vs, h, s1, s2 => by
    unfold VsOK at h
    obtain ⟨w, vs', rfl, h1, h2, h3, h4⟩ := h
    have hl := reps_len h2.reps.1
    have ih := VsOK.snoc hv h2 (fun a ha h => s1 a ha (by simp [adss, h])) (fun a hN ha => s2 a hN (by simp [adss, ha]))
    simp only [List.cons_append]
    unfold VsOK
    refine ⟨w, vs' ++ [v], rfl, h1, ih, fun a ha hb => ?_, fun hg a ha hb => ?_⟩
    · rw [List.map_append, adss_append hl, List.mem_append] at hb
      rcases hb with hb | hb
      · exact h3 a ha hb
      · simp [adss] at hb
        exact s2 a (h1.new a ha) (by simp [adss, ow_ads ha]) hb
    · obtain ⟨g1, g2⟩ := gall_snoc xs y hg
      rw [List.map_append, adss_append hl, List.mem_append] at ha
      rcases ha with ha | ha
      · exact h4 g1 a ha hb
      · simp [adss] at ha
        have o : ow y.1 M y.2 v a := by
          rw [g2]
          exact ha
        exact s1 a o (by simp [adss, hb])

/-! ### what is walked -/
def SrcOK (W : Wd S) (R : Nat → Prop) (N : Nat) (M : MH) (g : G) (ts : List TV) (src : Src) : Prop := ∃ (xs : List MV) (F : List Nat), reps W M ts xs ∧ ts.length ≤ lim ∧
  (∀ M' : MH, (∀ a ∈ F, M'[a]? = M[a]?) → ∀ i, src.stop M' i = decide (xs.length ≤ i) ∧ src.item M' i = xs[i]?) ∧
  ∀ a, a ∈ F ∨ a ∈ adss M ts xs → (R a ∨ N ≤ a) ∧ a < M.length ∧ ¬ W.Q a ∧ (g = .d → N ≤ a)
theorem com_sim {C : MV → MH → Re (Option MV)} {src : Src} {xs : List MV} {F : List Nat} {F' : TV → S → TR S (Option GV)} {M0 : MH} {R1 : Nat → Prop} {N1 : Nat} {ts : List TV}
    (hR1 : ∀ a, R1 a → a < N1) (hr : reps W M0 ts xs) (hF : ∀ a ∈ F, a < M0.length ∧ ¬ W.Q a)
    (hsrc : ∀ M' : MH, (∀ a ∈ F, M'[a]? = M0[a]?) → ∀ i, src.stop M' i = decide (xs.length ≤ i) ∧ src.item M' i = xs[i]?)
    (step : ∀ (M : MH) (i : Nat) (t : TV) (v : MV) (s s' : S) (o : Option GV), Gro W M0 M → ts[i]? = some t → xs[i]? = some v → W.St s M → F' t s = .ok o s' → ∃ (o' : Option MV) (M' : MH), C v M = .ok o' M' ∧ Gro W M M' ∧ W.St s' M' ∧ match o, o' with
      | none, none => True
      | some w, some z => VOK W R1 M.length M' w.1 w.2 z
      | _, _ => False) :
    ∀ (j i : Nat) (k : Nat) (s s' : S) (ys : List GV) (accT : List GV) (acc : List MV) (M : MH), i + j = ts.length → tcomL F' (ts.drop i) s = .ok ys s' → Gro W M0 M → N1 ≤ M.length → W.St s M → VsOK W R1 N1 M accT acc → accT.length ≤ i → ts.length ≤ lim → j < k →
      ∃ acc' M', comL src C k i acc M = .ok acc' M' ∧ Gro W M M' ∧ W.St s' M' ∧ VsOK W R1 N1 M' (accT ++ ys) acc'
  | 0, i, k + 1, s, s', ys, accT, acc, M, hij, h, hg, hN, hs, ha, hl, hlim, hk => by
    have : ts.drop i = [] := List.drop_eq_nil_of_le (by omega)
    rw [this] at h
    simp only [tcomL] at h
    cases h
    have e := hsrc M (fun a ha => hg.at_ a (hF a ha).1 (hF a ha).2) i
    refine ⟨acc, M, ?_, Gro.refl, hs, by simpa using ha⟩
    unfold comL
    rw [e.1, if_pos (decide_eq_true (by rw [← reps_len hr]; omega))]
  | j + 1, i, k + 1, s, s', ys, accT, acc, M, hij, h, hg, hN, hs, ha, hl, hlim, hk => by
    have hi : i < ts.length := by omega
    rw [List.drop_eq_getElem_cons hi] at h
    simp only [tcomL] at h
    obtain ⟨o, s1, h1, h2⟩ := TR.bnd_ok h
    obtain ⟨r, s2, h3, h4⟩ := TR.bnd_ok h2
    cases h4
    have hti : ts[i]? = some ts[i] := List.getElem?_eq_getElem hi
    obtain ⟨v, hv, hrv⟩ := reps_get hr hti
    have hvl : i < xs.length := (List.getElem?_eq_some_iff.mp hv).1
    obtain ⟨o', M2, c1, c2, c3, c4⟩ := step M i ts[i] v s s1 o hg hti hv hs h1
    have e := hsrc M (fun a ha => hg.at_ a (hF a ha).1 (hF a ha).2) i
    have hacc : acc.length = accT.length := by
      have := reps_len ha.reps.1
      rw [List.length_map] at this
      exact this.symm
    have run : ∀ acc2 accT2, VsOK W R1 N1 M2 accT2 acc2 → accT2.length ≤ i + 1 → ∃ acc' M', comL src C k (i + 1) acc2 M2 = .ok acc' M' ∧ Gro W M2 M' ∧ W.St s' M' ∧ VsOK W R1 N1 M' (accT2 ++ r) acc' :=
      fun acc2 accT2 hv2 hl2 => com_sim hR1 hr hF hsrc step j (i + 1) k s1 s' r accT2 acc2 M2 (by omega) h3 (hg.trans c2) (Nat.le_trans hN c2.le) c3 hv2 hl2 hlim (by omega)
    cases o with
    | none =>
      cases o' with
      | some z => exact c4.elim
      | none =>
        obtain ⟨acc', M', r1, r2, r3, r4⟩ := run acc accT (ha.gro (xs := accT) (vs := acc) c2) (by omega)
        refine ⟨acc', M', ?_, c2.trans r2, r3, by simpa using r4⟩
        unfold comL
        rw [e.1, if_neg (by simp; omega), e.2, hv]
        simp only [c1, bnd_ok_]
        exact r1
    | some w =>
      cases o' with
      | none => exact c4.elim
      | some z =>
        have c4 : VOK W R1 M.length M2 w.1 w.2 z := c4
        have ha2 := ha.gro (xs := accT) (vs := acc) c2
        have rr := ha.reps.1
        have ead := (reps_same _ acc rr (c2.sames rr)).2
        have q1 : ∀ a, ow w.1 M2 w.2 z a → a ∉ adss M2 (accT.map (·.2)) acc := by
          intro a ho hm
          rw [ead] at hm
          have := (adss_lt _ _ rr a hm).1
          have := c4.new a ho
          omega
        have q2 : ∀ a, N1 ≤ a → a ∈ adss M2 (accT.map (·.2)) acc → a ∉ ads M2 w.2 z := by
          intro a hNa hm hb
          rw [ead] at hm
          have := (adss_lt _ _ rr a hm).1
          rcases c4.adr a hb with h | h
          · have := hR1 a h
            omega
          · omega
        obtain ⟨acc', M', r1, r2, r3, r4⟩ := run (acc ++ [z]) (accT ++ [w]) (VsOK.snoc (c4.mono (fun a h => .inl h) hN) ha2 q1 q2) (by simp; omega)
        refine ⟨acc', M', ?_, c2.trans r2, r3, by simpa using r4⟩
        unfold comL
        rw [e.1, if_neg (by simp; omega), e.2, hv]
        simp only [c1, bnd_ok_]
        rw [if_pos (by omega)]
        exact r1
end
end TM

set_option Elab.async false
set_option linter.all false
set_option maxRecDepth 100000
set_option autoImplicit false
set_option maxHeartbeats 2000000
/-! TM, part e: expressions over trees are those over the small heap. -/
namespace TM
open PySem MP
section
variable {S : Type} {W : Wd S} {M M' M1 M2 : MH} {R : Nat → Prop} {N : Nat} {s : S}
theorem SR.set {ts : TSl} {m : Sl} (h : SR W M ts m) {g : G} {t : TV} {v : MV} (hr : rep W M t v) (i : Nat) : SR W M (ts.set i (some (g, t))) (m.set i (some v)) := by
  refine ⟨by simp [h.1], fun j g' t' e => ?_⟩
  by_cases hij : i = j
  · subst hij
    by_cases hl : i < ts.length
    · rw [List.getElem?_set_self hl] at e
      cases e
      exact ⟨v, by rw [List.getElem?_set_self (h.1 ▸ hl)], hr⟩
    · rw [List.getElem?_eq_none (by simp; omega)] at e
      cases e
  · rw [List.getElem?_set_ne hij] at e ⊢
    exact h.2 j g' t' e
theorem Cov.set {ts : TSl} {m : Sl} {is : List Nat} (h : Cov R M ts m is) {g : G} {t : TV} {v : MV} (hr : ∀ a ∈ ads M t v, R a) (i : Nat) : Cov R M (ts.set i (some (g, t))) (m.set i (some v)) is := by
  intro j hj g' t' v' e1 e2
  by_cases hij : i = j
  · subst hij
    by_cases hl : i < ts.length
    · rw [List.getElem?_set_self hl] at e1
      cases e1
      by_cases hl2 : i < m.length
      · rw [List.getElem?_set_self hl2] at e2
        cases e2
        exact hr
      · rw [List.getElem?_eq_none (by simp; omega)] at e2
        cases e2
    · rw [List.getElem?_eq_none (by simp; omega)] at e1
      cases e1
  · rw [List.getElem?_set_ne hij] at e1 e2
    exact h j hj g' t' v' e1 e2
theorem SR.wip {ts : TSl} {m : Sl} (h : SR W M ts m) : ∀ is : List Nat, SR W M (twip ts is) (MP.wip m is)
  | [] => h
  | i :: is => by
    have k := SR.wip h is
    refine ⟨by simp [twip, MP.wip, k.1], fun j g t e => ?_⟩
    simp only [twip, MP.wip] at e ⊢
    by_cases hij : i = j
    · subst hij
      by_cases hl : i < (twip ts is).length
      · rw [List.getElem?_set_self hl] at e
        cases e
      · rw [List.getElem?_eq_none (by simp; omega)] at e
        cases e
    · rw [List.getElem?_set_ne hij] at e ⊢
      exact k.2 j g t e
theorem Cov.wip {ts : TSl} {m : Sl} {js : List Nat} (h : Cov R M ts m js) : ∀ is : List Nat, Cov R M (twip ts is) (MP.wip m is) js
  | [] => h
  | i :: is => by
    have k := Cov.wip h is
    intro j hj g t v e1 e2
    simp only [twip, MP.wip] at e1 e2
    by_cases hij : i = j
    · subst hij
      by_cases hl : i < (twip ts is).length
      · rw [List.getElem?_set_self hl] at e1
        cases e1
      · rw [List.getElem?_eq_none (by simp; omega)] at e1
        cases e1
    · rw [List.getElem?_set_ne hij] at e1 e2
      exact k j hj g t v e1 e2
theorem tsetAll_ok {g : G} {js : List Nat} : ∀ (is : List Nat) (xs : List TV) (vs : List MV) (ts ts' : TSl) (m : Sl), tsetAll g is xs ts = some ts' → reps W M xs vs → SR W M ts m → Cov R M ts m js → (∀ a ∈ adss M xs vs, R a) → ∃ m', setAll is vs m = some m' ∧ SR W M ts' m' ∧ Cov R M ts' m' js
  | [], [], vs, ts, ts', m, h, hr, h1, h2, h3 => by
    rw [reps_nil' hr]
    cases h
    exact ⟨m, rfl, h1, h2⟩
  | i :: is, x :: xs, vs, ts, ts', m, h, hr, h1, h2, h3 => by
    obtain ⟨v, ws, rfl, r1, r2⟩ := reps_cons' hr
    exact tsetAll_ok is xs ws _ ts' (m.set i (some v)) h r2 (h1.set r1 i) (h2.set (fun a ha => h3 a (by simp [adss, ha])) i) (fun a ha => h3 a (by simp [adss, ha]))
  | [], x :: xs, vs, ts, ts', m, h, _, _, _, _ => by cases h
  | i :: is, [], vs, ts, ts', m, h, _, _, _, _ => by cases h
theorem tset_ok {tg : Tg} {g : G} {x : TV} {v : MV} {ts ts' : TSl} {m : Sl} {js : List Nat} (h : tset tg g x ts = some ts') (hr : rep W M x v) (h1 : SR W M ts m) (h2 : Cov R M ts m js) (h3 : ∀ a ∈ ads M x v, R a) : ∃ m', tg.set v m = some m' ∧ SR W M ts' m' ∧ Cov R M ts' m' js := by
  cases tg with
  | nm i =>
    cases h
    exact ⟨_, rfl, h1.set hr i, h2.set h3 i⟩
  | tp is =>
    simp only [tset] at h
    split at h <;> first | (cases h; done) | skip
    obtain ⟨vs, rfl, r⟩ := rep_tup hr
    exact tsetAll_ok is _ vs ts ts' m h r h1 h2 (by simpa [ads] using h3)
theorem sep12 {g1 g2 : G} {t1 t2 : TV} {x y : MV} {R' : Nat → Prop} {N' : Nat} (v1 : VOK W R N M1 g1 t1 x) (v2 : VOK W R' M1.length M2 g2 t2 y) (k : Gro W M1 M2) : gm g1 g2 = .d → ∀ a ∈ ads M2 t1 x, a ∉ ads M2 t2 y := by
  intro hg a ha hb
  have hd : g2 = .d := by cases g1 <;> cases g2 <;> simp [gm] at hg <;> rfl
  rw [(rep_same t1 x v1.rep (k.same v1.rep)).2] at ha
  have h1 := (ads_lt t1 x v1.rep a ha).1
  have h2 := v2.new a (by rw [hd]; exact hb)
  omega
theorem Out.cong {x y : Re MV} {w : GV} (h : Out W R N s M y w) (e : x = y) : Out W R N s M x w := e ▸ h
theorem bnd_ok2 {α β : Type} {x : Re α} {a : α} {f : α → MH → Re β} (h : x = .ok a M1) : x.bnd f = f a M1 := by rw [h]; rfl
theorem rg_reps (lo : Int) (n : Nat) : reps W M (trg lo n) (rgL lo n) ∧ adss M (trg lo n) (rgL lo n) = [] := by
  have : ∀ l : List Nat, reps W M (l.map fun i => TV.int (lo + (i : Nat))) (l.map fun i => MV.int (lo + (i : Nat))) ∧ adss M (l.map fun i => TV.int (lo + (i : Nat))) (l.map fun i => MV.int (lo + (i : Nat))) = [] := by
    intro l
    induction l with
    | nil => simp [reps, adss]
    | cons i l ih =>
      simp only [List.map_cons]
      exact ⟨reps_cons (by unfold rep; rfl) ih.1, by simp [adss, ads, ih.2]⟩
  exact this _
theorem noLs_rg (lo : Int) (n : Nat) : noLs (trg lo n) = true := by
  have : ∀ l : List Nat, noLs (l.map fun i => TV.int (lo + (i : Nat))) = true := by
    intro l
    induction l with
    | nil => rfl
    | cons i l ih => simp [noLs, noL, ih]
  exact this _
theorem lr_out {x : Re MV} {lo : Int} {n : Nat} (hs : W.St s M) (h : x = newL (rgL lo n) M) (hN : N ≤ M.length) : Out W R N s M x (.d, .lst (trg lo n)) := by
  obtain ⟨r, e⟩ := rg_reps (W := W) (M := M) lo n
  have := Out.newl (R := R) (N := N) (g := .s) hs h r (fun a ha => by simp [e] at ha) (fun h => by cases h) hN
  unfold gl at this
  rw [if_pos (noLs_rg lo n)] at this
  exact this
theorem zip_reps : ∀ {xs ys : List TV} {us vs : List MV}, reps W M xs us → reps W M ys vs → reps W M (tzip xs ys) (List.zipWith (fun x y => MV.tup [x, y]) us vs) ∧ ∀ a ∈ adss M (tzip xs ys) (List.zipWith (fun x y => MV.tup [x, y]) us vs), a ∈ adss M xs us ∨ a ∈ adss M ys vs
  | [], ys, us, vs, h1, h2 => by
    rw [reps_nil' h1]
    simp [tzip, reps, adss]
  | x :: xs, [], us, vs, h1, h2 => by
    rw [reps_nil' h2]
    simp [tzip, reps, adss]
  | x :: xs, y :: ys, us, vs, h1, h2 => by
    obtain ⟨u, us, rfl, a1, a2⟩ := reps_cons' h1
    obtain ⟨v, vs, rfl, b1, b2⟩ := reps_cons' h2
    obtain ⟨c1, c2⟩ := zip_reps a2 b2
    refine ⟨reps_cons (rep_tup' (reps_cons a1 (reps_cons b1 reps_nil))) c1, fun a ha => ?_⟩
    simp only [tzip, List.zipWith_cons_cons, adss, ads, List.append_nil, List.mem_append] at ha ⊢
    rcases ha with (ha | ha) | ha
    · exact .inl (.inl ha)
    · exact .inr (.inl ha)
    · exact (c2 a ha).elim (fun h => .inl (.inr h)) fun h => .inr (.inr h)
theorem enu_reps : ∀ {xs : List TV} {us : List MV} (n : Nat), reps W M xs us → reps W M (tenu n xs) (us.zipIdx n |>.map fun p => MV.tup [.int p.2, p.1]) ∧ ∀ a ∈ adss M (tenu n xs) (us.zipIdx n |>.map fun p => MV.tup [.int p.2, p.1]), a ∈ adss M xs us
  | [], us, n, h1 => by
    rw [reps_nil' h1]
    simp [tenu, reps, adss]
  | x :: xs, us, n, h1 => by
    obtain ⟨u, us, rfl, a1, a2⟩ := reps_cons' h1
    obtain ⟨c1, c2⟩ := enu_reps (n + 1) a2
    simp only [tenu, List.zipIdx_cons, List.map_cons]
    refine ⟨reps_cons (rep_tup' (reps_cons (by unfold rep; rfl) (reps_cons a1 reps_nil))) c1, fun a ha => ?_⟩
    simp only [adss, ads, List.append_nil, List.nil_append, List.mem_append] at ha ⊢
    exact ha.elim .inl fun h => .inr (c2 a h)
theorem tlim_ok {xs ys : List TV} {g g' : G} {s' : S} (h : tlim xs s g = .ok (g', ys) s') : xs.length ≤ lim ∧ g' = g ∧ ys = xs ∧ s' = s := by
  unfold tlim at h
  split at h
  · cases h
    rename_i h
    exact ⟨h, rfl, rfl, rfl⟩
  · cases h
def bO (C : Cf) (o : Option E) (m : Sl) (M : MH) : Re (Option Int) := match o with
  | none => Re.ok none M
  | some l => (ev C l m M).bnd asBnd
theorem kslc_eq (C : Cf) (lo hi : Option E) (m : Sl) (u : MV) (M : MH) : kslc C lo hi m u M = (bO C lo m M).bnd fun v M2 => (bO C hi m M2).bnd fun x M3 => slcop u v x M3 := by
  cases lo <;> cases hi <;> rfl
mutual
theorem ev_sim {C : Cf} {D : TCf S} (X : Ctx W C D) : ∀ (e : E) (ts : TSl) (m : Sl) (s s' : S) (M : MH) (R : Nat → Prop) (w : GV), tev D e ts s = .ok w s' → SR W M ts m → Cov R M ts m (fvE e) → (∀ a, R a → a < M.length) → W.St s M → Out W R M.length s' M (ev C e m M) w
  | .var i, ts, m, s, s', M, R, w, h, hr, hc, hR, hs => by
    simp only [tev] at h
    split at h <;> cases h
    rename_i v e
    obtain ⟨x, e1, e2⟩ := hr.2 i v.1 v.2 e
    refine ⟨x, M, by simp [e1], Gro.refl, hs, VOK.gr ⟨e2, fun a ha => .inl (hc i (by simp [fvE]) v.1 v.2 x e e1 a ha), trivial, fun a ha => ha.elim⟩⟩
  | .cst v, ts, m, s, s', M, R, w, h, hr, hc, hR, hs => by
    simp only [tev] at h
    split at h <;> cases h
    rename_i t e
    exact ⟨v, M, by simp, Gro.refl, hs, cst_ok e⟩
  | .glo k, ts, m, s, s', M, R, w, h, hr, hc, hR, hs => by
    simp only [tev] at h
    split at h <;> cases h
    rename_i t e
    rw [X.glo] at e
    cases hk : C.glo k with
    | none => simp [hk] at e
    | some v =>
      rw [hk] at e
      exact ⟨v, M, e_glo C m M hk, Gro.refl, hs, cst_ok e⟩
  | .dnw, ts, m, s, s', M, R, w, h, hr, hc, hR, hs => by
    simp only [tev] at h
    cases h
    exact ⟨.dct, M, by simp, Gro.refl, hs, VOK.of (by unfold rep; rfl) rfl⟩
  | .bin o a b, ts, m, s, s', M, R, w, h, hr, hc, hR, hs => by
    simp only [tev] at h
    obtain ⟨u, s1, h1, h⟩ := TR.bnd_ok h
    obtain ⟨v, s2, h2, h⟩ := TR.bnd_ok h
    obtain ⟨h3, rfl⟩ := TR.of_ok h
    simp only [fvE] at hc
    obtain ⟨x, M1, e1, k1, st1, v1⟩ := ev_sim X a ts m s s1 M R u h1 hr (hc.sub fun i hi => List.mem_append_left _ hi) hR hs
    obtain ⟨y, M2, e2, k2, st2, v2⟩ := ev_sim X b ts m s1 s' M1 R v h2 (hr.gro k1) ((hc.gro hr k1).sub fun i hi => List.mem_append_right _ hi) (fun a ha => Nat.lt_of_lt_of_le (hR a ha) k1.le) st1
    rw [e_bin, bnd_ok2 e1, k_op]
    exact Out.step e2 (k1.trans k2) (tbin_ok h3 (v1.gro k2) (v2.mono (fun a h => .inl h) k1.le) (sep12 (N' := 0) v1 v2 k2) st2 (k1.trans k2).le)
  | .cmp o a b, ts, m, s, s', M, R, w, h, hr, hc, hR, hs => by
    simp only [tev] at h
    obtain ⟨u, s1, h1, h⟩ := TR.bnd_ok h
    obtain ⟨v, s2, h2, h⟩ := TR.bnd_ok h
    obtain ⟨h3, rfl⟩ := TR.of_ok h
    simp only [Option.map_eq_some_iff] at h3
    obtain ⟨c, h3, rfl⟩ := h3
    simp only [fvE] at hc
    obtain ⟨x, M1, e1, k1, st1, v1⟩ := ev_sim X a ts m s s1 M R u h1 hr (hc.sub fun i hi => List.mem_append_left _ hi) hR hs
    obtain ⟨y, M2, e2, k2, st2, v2⟩ := ev_sim X b ts m s1 s' M1 R v h2 (hr.gro k1) ((hc.gro hr k1).sub fun i hi => List.mem_append_right _ hi) (fun a ha => Nat.lt_of_lt_of_le (hR a ha) k1.le) st1
    rw [e_cmp, bnd_ok2 e1, k_op, bnd_ok2 e2]
    exact ⟨.bl c, M2, tcmp_ok h3 (v1.gro k2).rep v2.rep, k1.trans k2, st2, VOK.of (by unfold rep; rfl) rfl⟩
  | .chn o p a b c, ts, m, s, s', M, R, w, h, hr, hc, hR, hs => by
    simp only [tev] at h
    obtain ⟨u, s1, h1, h⟩ := TR.bnd_ok h
    obtain ⟨v, s2, h2, h⟩ := TR.bnd_ok h
    simp only [fvE] at hc
    obtain ⟨x, M1, e1, k1, st1, v1⟩ := ev_sim X a ts m s s1 M R u h1 hr (hc.sub fun i hi => List.mem_append_left _ hi) hR hs
    obtain ⟨y, M2, e2, k2, st2, v2⟩ := ev_sim X b ts m s1 s2 M1 R v h2 (hr.gro k1) ((hc.gro hr k1).sub fun i hi => List.mem_append_right _ (List.mem_append_left _ hi)) (fun a ha => Nat.lt_of_lt_of_le (hR a ha) k1.le) st1
    have k12 := k1.trans k2
    rw [e_chn, bnd_ok2 e1, k_chn, bnd_ok2 e2, k_chn1]
    split at h <;> first | (cases h; done) | skip
    · rename_i q
      obtain ⟨z, s3, h3, h⟩ := TR.bnd_ok h
      obtain ⟨h4, rfl⟩ := TR.of_ok h
      simp only [Option.map_eq_some_iff] at h4
      obtain ⟨d, h4, rfl⟩ := h4
      obtain ⟨z', M3, e3, k3, st3, v3⟩ := ev_sim X c ts m s2 s' M2 R z h3 (hr.gro k12) ((hc.gro hr k12).sub fun i hi => List.mem_append_right _ (List.mem_append_right _ hi)) (fun a ha => Nat.lt_of_lt_of_le (hR a ha) k12.le) st2
      rw [bnd_ok2 (tcmp_ok q (v1.gro k2).rep v2.rep), k_chn2t, bnd_ok2 e3]
      exact ⟨.bl d, M3, tcmp_ok h4 (v2.gro k3).rep v3.rep, k12.trans k3, st3, VOK.of (by unfold rep; rfl) rfl⟩
    · rename_i q
      cases h
      rw [bnd_ok2 (tcmp_ok q (v1.gro k2).rep v2.rep), k_chn2f]
      exact ⟨.bl false, M2, rfl, k12, st2, VOK.of (by unfold rep; rfl) rfl⟩
  | .and a b, ts, m, s, s', M, R, w, h, hr, hc, hR, hs => by
    simp only [tev] at h
    obtain ⟨u, s1, h1, h⟩ := TR.bnd_ok h
    simp only [fvE] at hc
    obtain ⟨x, M1, e1, k1, st1, v1⟩ := ev_sim X a ts m s s1 M R u h1 hr (hc.sub fun i hi => List.mem_append_left _ hi) hR hs
    rw [e_and]
    split at h <;> first | (cases h; done) | skip
    · rename_i q
      have r1 := v1.rep
      rw [q] at r1
      rw [rep_bl r1] at e1
      exact Out.step e1 k1 ((ev_sim X b ts m s1 s' M1 R w h (hr.gro k1) ((hc.gro hr k1).sub fun i hi => List.mem_append_right _ hi) (fun a ha => Nat.lt_of_lt_of_le (hR a ha) k1.le) st1).low k1.le)
    · rename_i q
      cases h
      have r1 := v1.rep
      rw [q] at r1
      rw [rep_bl r1] at e1
      rw [bnd_ok2 e1, k_andf]
      exact ⟨.bl false, M1, rfl, k1, st1, VOK.of (by unfold rep; rfl) rfl⟩
  | .or a b, ts, m, s, s', M, R, w, h, hr, hc, hR, hs => by
    simp only [tev] at h
    obtain ⟨u, s1, h1, h⟩ := TR.bnd_ok h
    simp only [fvE] at hc
    obtain ⟨x, M1, e1, k1, st1, v1⟩ := ev_sim X a ts m s s1 M R u h1 hr (hc.sub fun i hi => List.mem_append_left _ hi) hR hs
    rw [e_or]
    split at h <;> first | (cases h; done) | skip
    · rename_i q
      have r1 := v1.rep
      rw [q] at r1
      rw [rep_bl r1] at e1
      exact Out.step e1 k1 ((ev_sim X b ts m s1 s' M1 R w h (hr.gro k1) ((hc.gro hr k1).sub fun i hi => List.mem_append_right _ hi) (fun a ha => Nat.lt_of_lt_of_le (hR a ha) k1.le) st1).low k1.le)
    · rename_i q
      cases h
      have r1 := v1.rep
      rw [q] at r1
      rw [rep_bl r1] at e1
      rw [bnd_ok2 e1, k_ort]
      exact ⟨.bl true, M1, rfl, k1, st1, VOK.of (by unfold rep; rfl) rfl⟩
  | .not a, ts, m, s, s', M, R, w, h, hr, hc, hR, hs => by
    simp only [tev] at h
    obtain ⟨u, s1, h1, h⟩ := TR.bnd_ok h
    obtain ⟨x, M1, e1, k1, st1, v1⟩ := ev_sim X a ts m s s1 M R u h1 hr hc hR hs
    split at h <;> cases h
    rename_i b q
    have r1 := v1.rep
    rw [q] at r1
    rw [rep_bl r1] at e1
    rw [e_not, bnd_ok2 e1, k_not]
    exact ⟨_, M1, rfl, k1, st1, VOK.of (by unfold rep; rfl) rfl⟩
  | .neg a, ts, m, s, s', M, R, w, h, hr, hc, hR, hs => by
    simp only [tev] at h
    obtain ⟨u, s1, h1, h⟩ := TR.bnd_ok h
    obtain ⟨x, M1, e1, k1, st1, v1⟩ := ev_sim X a ts m s s1 M R u h1 hr hc hR hs
    split at h <;> cases h
    rename_i b q
    have r1 := v1.rep
    rw [q] at r1
    rw [rep_int r1] at e1
    rw [e_neg, bnd_ok2 e1, k_neg]
    exact ⟨_, M1, rfl, k1, st1, VOK.of (by unfold rep; rfl) rfl⟩
  | .ife c a b, ts, m, s, s', M, R, w, h, hr, hc, hR, hs => by
    simp only [tev] at h
    obtain ⟨u, s1, h1, h⟩ := TR.bnd_ok h
    simp only [fvE] at hc
    obtain ⟨x, M1, e1, k1, st1, v1⟩ := ev_sim X c ts m s s1 M R u h1 hr (hc.sub fun i hi => List.mem_append_left _ hi) hR hs
    rw [e_ife]
    split at h <;> first | (cases h; done) | skip
    · rename_i q
      have r1 := v1.rep
      rw [q] at r1
      rw [rep_bl r1] at e1
      exact Out.step e1 k1 ((ev_sim X a ts m s1 s' M1 R w h (hr.gro k1) ((hc.gro hr k1).sub fun i hi => List.mem_append_right _ (List.mem_append_left _ hi)) (fun a ha => Nat.lt_of_lt_of_le (hR a ha) k1.le) st1).low k1.le)
    · rename_i q
      have r1 := v1.rep
      rw [q] at r1
      rw [rep_bl r1] at e1
      exact Out.step e1 k1 ((ev_sim X b ts m s1 s' M1 R w h (hr.gro k1) ((hc.gro hr k1).sub fun i hi => List.mem_append_right _ (List.mem_append_right _ hi)) (fun a ha => Nat.lt_of_lt_of_le (hR a ha) k1.le) st1).low k1.le)
  | .idx a i, ts, m, s, s', M, R, w, h, hr, hc, hR, hs => by
    simp only [tev] at h
    obtain ⟨u, s1, h1, h⟩ := TR.bnd_ok h
    obtain ⟨v, s2, h2, h⟩ := TR.bnd_ok h
    obtain ⟨h3, rfl⟩ := TR.of_ok h
    simp only [fvE] at hc
    obtain ⟨x, M1, e1, k1, st1, v1⟩ := ev_sim X a ts m s s1 M R u h1 hr (hc.sub fun i hi => List.mem_append_left _ hi) hR hs
    obtain ⟨y, M2, e2, k2, st2, v2⟩ := ev_sim X i ts m s1 s' M1 R v h2 (hr.gro k1) ((hc.gro hr k1).sub fun i hi => List.mem_append_right _ hi) (fun a ha => Nat.lt_of_lt_of_le (hR a ha) k1.le) st1
    rw [e_idx, bnd_ok2 e1, k_op]
    exact Out.step e2 (k1.trans k2) (tidx_ok h3 (v1.gro k2) v2.rep st2)
  | .rev a, ts, m, s, s', M, R, w, h, hr, hc, hR, hs => by
    simp only [tev] at h
    obtain ⟨u, s1, h1, h⟩ := TR.bnd_ok h
    obtain ⟨h3, rfl⟩ := TR.of_ok h
    obtain ⟨x, M1, e1, k1, st1, v1⟩ := ev_sim X a ts m s s' M R u h1 hr hc hR hs
    rw [e_rev]
    exact Out.step e1 k1 (trev_ok h3 v1 st1 k1.le)
  | .isi a tys y, ts, m, s, s', M, R, w, h, hr, hc, hR, hs => by
    simp only [tev] at h
    obtain ⟨u, s1, h1, h⟩ := TR.bnd_ok h
    cases h
    obtain ⟨x, M1, e1, k1, st1, v1⟩ := ev_sim X a ts m s s' M R u h1 hr hc hR hs
    rw [e_isi, bnd_ok2 e1, k_isi, tisi_ok v1.rep]
    exact ⟨_, M1, rfl, k1, st1, VOK.of (by unfold rep; rfl) rfl⟩
  | .slc a lo hi, ts, m, s, s', M, R, w, h, hr, hc, hR, hs => by
    rw [tev_slc] at h
    rw [fv_slc] at hc
    obtain ⟨u, s1, h1, h⟩ := TR.bnd_ok h
    obtain ⟨bl, s2, h2, h⟩ := TR.bnd_ok h
    obtain ⟨bh, s3, h3, h⟩ := TR.bnd_ok h
    obtain ⟨h4, rfl⟩ := TR.of_ok h
    obtain ⟨x, M1, e1, k1, st1, v1⟩ := ev_sim X a ts m s s1 M R u h1 hr (hc.sub fun i hi => List.mem_append_left _ hi) hR hs
    have low : ∃ M2, bO C lo m M1 = .ok bl M2 ∧ Gro W M1 M2 ∧ W.St s2 M2 := by
      cases lo with
      | none =>
        cases h2
        exact ⟨M1, rfl, Gro.refl, st1⟩
      | some l =>
        obtain ⟨y, s4, q1, q2⟩ := TR.bnd_ok (show (tev D l ts s1).bnd (fun x s => TR.of s (bnd1 x)) = .ok bl s2 from h2)
        obtain ⟨q3, rfl⟩ := TR.of_ok q2
        obtain ⟨z, M2, e2, k2, st2, v2⟩ := ev_sim X l ts m s1 s2 M1 R y q1 (hr.gro k1) ((hc.gro hr k1).sub fun i hi => List.mem_append_right _ (List.mem_append_left _ hi)) (fun a ha => Nat.lt_of_lt_of_le (hR a ha) k1.le) st1
        unfold bnd1 at q3
        split at q3 <;> first | (cases q3; done) | skip
        rename_i i q
        cases q3
        rw [int_val v2.rep q] at e2
        exact ⟨M2, by unfold bO; simp only [bnd_ok2 e2]; rfl, k2, st2⟩
    obtain ⟨M2, e2, k2, st2⟩ := low
    have k12 := k1.trans k2
    have high : ∃ M3, bO C hi m M2 = .ok bh M3 ∧ Gro W M2 M3 ∧ W.St s' M3 := by
      cases hi with
      | none =>
        cases h3
        exact ⟨M2, rfl, Gro.refl, st2⟩
      | some l =>
        obtain ⟨y, s4, q1, q2⟩ := TR.bnd_ok (show (tev D l ts s2).bnd (fun x s => TR.of s (bnd1 x)) = .ok bh s' from h3)
        obtain ⟨q3, rfl⟩ := TR.of_ok q2
        obtain ⟨z, M3, e3, k3, st3, v3⟩ := ev_sim X l ts m s2 s' M2 R y q1 (hr.gro k12) ((hc.gro hr k12).sub fun i hi => List.mem_append_right _ (List.mem_append_right _ hi)) (fun a ha => Nat.lt_of_lt_of_le (hR a ha) k12.le) st2
        unfold bnd1 at q3
        split at q3 <;> first | (cases q3; done) | skip
        rename_i i q
        cases q3
        rw [int_val v3.rep q] at e3
        exact ⟨M3, by unfold bO; simp only [bnd_ok2 e3]; rfl, k3, st3⟩
    obtain ⟨M3, e3, k3, st3⟩ := high
    rw [e_slc, bnd_ok2 e1, kslc_eq, bnd_ok2 e2, bnd_ok2 e3]
    obtain ⟨z, M4, e4, k4, st4, v4⟩ := tslc_ok (N := M.length) h4 (v1.gro (k2.trans k3)) st3 (k12.trans k3).le
    exact ⟨z, M4, e4, (k12.trans k3).trans k4, st4, v4⟩
  | .tup es, ts, m, s, s', M, R, w, h, hr, hc, hR, hs => by
    simp only [tev] at h
    obtain ⟨u, s1, h1, h⟩ := TR.bnd_ok h
    cases h
    obtain ⟨vs, M1, e1, k1, st1, v1⟩ := evs_sim X es ts m s s' M R u h1 hr hc hR hs
    obtain ⟨r1, r2, r3⟩ := v1.reps
    rw [e_tup, bnd_ok2 e1, k_tup]
    refine ⟨_, M1, rfl, k1, st1, VOK.gr ⟨rep_tup' r1, fun a ha => r2 a (by simpa [ads] using ha), ?_, fun a ha => ?_⟩⟩
    · cases hg : gall u with
      | s => trivial
      | r =>
        intro ts ht
        cases ht
      | d => simpa [Own, ads] using (r3 hg).1
    · cases hg : gall u with
      | s =>
        rw [hg] at ha
        exact ha.elim
      | r =>
        rw [hg] at ha
        obtain ⟨ts, ht, _⟩ := ha
        cases ht
      | d =>
        rw [hg] at ha
        exact (r3 hg).2 a (by simpa [ow, ads] using ha)
  | .lst es, ts, m, s, s', M, R, w, h, hr, hc, hR, hs => by
    simp only [tev] at h
    obtain ⟨u, s1, h1, h⟩ := TR.bnd_ok h
    cases h
    obtain ⟨vs, M1, e1, k1, st1, v1⟩ := evs_sim X es ts m s s' M R u h1 hr hc hR hs
    obtain ⟨r1, r2, r3⟩ := v1.reps
    rw [e_lst, bnd_ok2 e1]
    obtain ⟨z, M2, e2, k2, st2, v2⟩ := Out.newl (g := gall u) st1 rfl r1 r2 r3 k1.le
    exact ⟨z, M2, e2, k1.trans k2, st2, v2⟩
  | .cal f sh es ks, ts, m, s, s', M, R, w, h, hr, hc, hR, hs => by
    simp only [tev] at h
    obtain ⟨u, s1, h1, h⟩ := TR.bnd_ok h
    obtain ⟨v, s2, h2, h⟩ := TR.bnd_ok h
    simp only [fvE] at hc
    obtain ⟨vs, M1, e1, k1, st1, v1⟩ := evs_sim X es ts m s s1 M R u h1 hr (hc.sub fun i hi => List.mem_append_left _ hi) hR hs
    obtain ⟨ws, M2, e2, k2, st2, v2⟩ := evs_sim X ks ts m s1 s2 M1 R v h2 (hr.gro k1) ((hc.gro hr k1).sub fun i hi => List.mem_append_right _ hi) (fun a ha => Nat.lt_of_lt_of_le (hR a ha) k1.le) st1
    obtain ⟨a1, a2, a3⟩ := (VsOK.gro (xs := u) (vs := vs) k2 v1).reps
    obtain ⟨b1, b2, b3⟩ := v2.reps
    split at h <;> first | (cases h; done) | skip
    rename_i ar har
    split at h <;> first | (cases h; done) | skip
    rename_i args hargs
    obtain ⟨xs, c1, c2, c3⟩ := targs_ok (reps_append a1 b1) ar args hargs
    rw [X.arr] at har
    rw [e_cal, bnd_ok2 e1, k_cal, bnd_ok2 e2, har, k_cl2, c1, k_cl3]
    obtain ⟨z, M3, e3, k3, st3, v3⟩ := X.call f args s2 w s' h M2 xs c2 st2
    refine ⟨z, M3, e3, (k1.trans k2).trans k3, st3, v3.mono (fun a ha => ?_) (k1.trans k2).le⟩
    have := c3 a ha
    rw [adss_append (reps_len a1), List.mem_append] at this
    rcases this with h | h
    · exact a2 a h
    · exact (b2 a h).elim .inl fun h => .inr (Nat.le_trans k1.le h)
  | .blt b es, ts, m, s, s', M, R, w, h, hr, hc, hR, hs => by
    simp only [tev] at h
    obtain ⟨u, s1, h1, h⟩ := TR.bnd_ok h
    obtain ⟨h2, rfl⟩ := TR.of_ok h
    obtain ⟨vs, M1, e1, k1, st1, v1⟩ := evs_sim X es ts m s s' M R u h1 hr hc hR hs
    rw [e_blt, bnd_ok2 e1]
    obtain ⟨z, M2, e2, k2, st2, v2⟩ := tbt_ok h2 v1 st1 k1.le
    exact ⟨z, M2, e2, k1.trans k2, st2, v2⟩
  | .mth _ _ _, ts, m, s, s', M, R, w, h, hr, hc, hR, hs => by
    simp only [tev] at h
    cases h
  | .lr1 a, ts, m, s, s', M, R, w, h, hr, hc, hR, hs => by
    simp only [tev] at h
    obtain ⟨u, s1, h1, h⟩ := TR.bnd_ok h
    obtain ⟨x, M1, e1, k1, st1, v1⟩ := ev_sim X a ts m s s1 M R u h1 hr hc hR hs
    split at h <;> first | (cases h; done) | skip
    rename_i j q
    by_cases hj : -1000000 ≤ j ∧ j ≤ 1000000
    rotate_left
    · rw [if_neg hj] at h
      cases h
    rw [if_pos hj] at h
    cases h
    rw [int_val v1.rep q] at e1
    rw [e_lr1, bnd_ok2 e1]
    obtain ⟨z, M2, e2, k2, st2, v2⟩ := lr_out (R := R) (N := M.length) st1 (if_pos hj : klr1 (.int j) M1 = _) k1.le
    exact ⟨z, M2, e2, k1.trans k2, st2, v2⟩
  | .lr2 a b, ts, m, s, s', M, R, w, h, hr, hc, hR, hs => by
    simp only [tev] at h
    obtain ⟨u, s1, h1, h⟩ := TR.bnd_ok h
    obtain ⟨v, s2, h2, h⟩ := TR.bnd_ok h
    simp only [fvE] at hc
    obtain ⟨x, M1, e1, k1, st1, v1⟩ := ev_sim X a ts m s s1 M R u h1 hr (hc.sub fun i hi => List.mem_append_left _ hi) hR hs
    obtain ⟨y, M2, e2, k2, st2, v2⟩ := ev_sim X b ts m s1 s2 M1 R v h2 (hr.gro k1) ((hc.gro hr k1).sub fun i hi => List.mem_append_right _ hi) (fun a ha => Nat.lt_of_lt_of_le (hR a ha) k1.le) st1
    split at h <;> first | (cases h; done) | skip
    rename_i i j q1 q2
    by_cases hj : -1000000 ≤ i ∧ i ≤ 1000000 ∧ -1000000 ≤ j ∧ j ≤ 1000000
    rotate_left
    · rw [if_neg hj] at h
      cases h
    rw [if_pos hj] at h
    cases h
    rw [int_val v1.rep q1] at e1
    rw [int_val v2.rep q2] at e2
    rw [e_lr2, bnd_ok2 e1, k_op, bnd_ok2 e2]
    obtain ⟨z, M3, e3, k3, st3, v3⟩ := lr_out (R := R) (N := M.length) st2 (if_pos hj : klr2 (.int i) (.int j) M2 = _) (k1.trans k2).le
    exact ⟨z, M3, e3, (k1.trans k2).trans k3, st3, v3⟩
  | .lset a, ts, m, s, s', M, R, w, h, hr, hc, hR, hs => by
    simp only [tev] at h
    obtain ⟨u, s1, h1, h⟩ := TR.bnd_ok h
    obtain ⟨x, M1, e1, k1, st1, v1⟩ := ev_sim X a ts m s s1 M R u h1 hr hc hR hs
    split at h <;> first | (cases h; done) | skip
    rename_i xs q
    split at h <;> first | (cases h; done) | skip
    rename_i ls q2
    split at h <;> cases h
    rename_i hl
    have r1 := v1.rep
    rw [q] at r1
    obtain ⟨p, ys, rfl, _, hm, r, _⟩ := rep_lst r1
    rw [e_lset, bnd_ok2 e1]
    exact ⟨_, M1, k_lset M1 hm (ttups_ok r q2) hl, k1, st1, VOK.of (by unfold rep; rfl) rfl⟩
  | .com t it c e, ts, m, s, s', M, R, w, h, hr, hc, hR, hs => by
    rw [tev_com] at h
    rw [fv_com] at hc
    obtain ⟨u, s1, h1, h⟩ := TR.bnd_ok h
    obtain ⟨ys, s2, h2, h⟩ := TR.bnd_ok h
    cases h
    obtain ⟨src, M1, e1, k1, st1, xs, F, q1, q2, q3, q4⟩ := evI_sim X it ts m s s1 M R u.1 u.2 h1 hr (hc.sub fun i hi => List.mem_append_left _ hi) hR hs
    rw [e_com, bnd_ok2 e1]
    unfold kcom
    obtain ⟨acc, M2, r1, r2, r3, r4⟩ := com_sim (W := W) (C := turn C t c e m) (src := src) (R1 := fun a => a < M1.length ∧ (R a ∨ M.length ≤ a)) (N1 := M1.length) (M0 := M1) (fun a ha => ha.1) q1 (fun a ha => ⟨(q4 a (.inl ha)).2.1, (q4 a (.inl ha)).2.2.1⟩) q3 (F' := tturn t ts (tcO D c) (tev D e)) (by
      intro Mi i x v sa sb o hg hx hv hsa ho
      unfold tturn at ho
      obtain ⟨v', g1, g2⟩ := reps_get q1 hx
      rw [hv] at g1
      cases g1
      have hrx := (rep_same x v g2 (hg.same g2))
      have hcx : ∀ a ∈ ads Mi x v, a < M1.length ∧ (R a ∨ M.length ≤ a) := by
        intro a ha
        rw [hrx.2] at ha
        have := q4 a (.inr ((part_of q1 hx hv).1 a ha))
        exact ⟨this.2.1, this.1⟩
      have kM := k1.trans hg
      have hR1 : ∀ a, (a < M1.length ∧ (R a ∨ M.length ≤ a)) → a < Mi.length := fun a ha => Nat.lt_of_lt_of_le ha.1 hg.le
      have hcM : Cov (fun a => a < M1.length ∧ (R a ∨ M.length ≤ a)) Mi ts m (fvO c ++ fvE e) := ((hc.gro hr kM).sub fun i hi => List.mem_append_right _ hi).mono fun a ha => ⟨Nat.lt_of_lt_of_le (hR a ha) k1.le, .inl ha⟩
      split at ho <;> first | (cases ho; done) | skip
      rename_i m' hset
      obtain ⟨m2, f1, f2, f3⟩ := tset_ok hset hrx.1 ((hr.gro kM).wip t.own) (hcM.wip t.own) hcx
      unfold turn
      rw [f1]
      cases c with
      | none =>
        simp only [tcO] at ho ⊢
        obtain ⟨y, sc, p1, p2⟩ := TR.bnd_ok ho
        cases p2
        obtain ⟨z, M3, e3, k3, st3, v3⟩ := ev_sim X e m' m2 sa sb Mi _ y p1 f2 (f3.sub fun i hi => List.mem_append_right _ hi) hR1 hsa
        refine ⟨some z, M3, by rw [e3]; rfl, k3, st3, v3⟩
      | some c =>
        simp only [tcO] at ho ⊢
        obtain ⟨k, sc, p1, p2⟩ := TR.bnd_ok ho
        obtain ⟨z, M3, e3, k3, st3, v3⟩ := ev_sim X c m' m2 sa sc Mi _ k p1 f2 (f3.sub fun i hi => List.mem_append_left _ hi) hR1 hsa
        split at p2 <;> first | (cases p2; done) | skip
        · rename_i hk
          have rk := v3.rep
          rw [hk] at rk
          rw [rep_bl rk] at e3
          obtain ⟨y, sd, p3, p4⟩ := TR.bnd_ok p2
          cases p4
          obtain ⟨z4, M4, e4, k4, st4, v4⟩ := ev_sim X e m' m2 sc sb M3 _ y p3 (f2.gro k3) ((f3.gro f2 k3).sub fun i hi => List.mem_append_right _ hi) (fun a ha => Nat.lt_of_lt_of_le (hR1 a ha) k3.le) st3
          refine ⟨some z4, M4, by rw [e3]; simp only [nox_ok_, bnd_ok_, e4], k3.trans k4, st4, v4.mono (fun a h => .inl h) k3.le⟩
        · rename_i hk
          have rk := v3.rep
          rw [hk] at rk
          rw [rep_bl rk] at e3
          cases p2
          exact ⟨none, M3, by rw [e3]; rfl, k3, st3, trivial⟩) u.2.length 0 C.most s1 s' ys [] [] M1 (by omega) (by simpa using h2) Gro.refl (Nat.le_refl _) st1 (by unfold VsOK; rfl) (by simp) q2 (by have := X.most; omega)
    rw [bnd_ok2 r1]
    simp only [List.nil_append] at r4
    have r5 := VsOK.low (R := R) (N := M.length) (fun a ha => ha.2) k1.le r4
    obtain ⟨a1, a2, a3⟩ := r5.reps
    obtain ⟨z, M3, e3, k3, st3, v3⟩ := Out.newl (g := gall ys) r3 rfl a1 a2 a3 (k1.trans r2).le
    exact ⟨z, M3, e3, (k1.trans r2).trans k3, st3, v3⟩
theorem evs_sim {C : Cf} {D : TCf S} (X : Ctx W C D) : ∀ (es : Es) (ts : TSl) (m : Sl) (s s' : S) (M : MH) (R : Nat → Prop) (ws : List GV), tevs D es ts s = .ok ws s' → SR W M ts m → Cov R M ts m (fvEs es) → (∀ a, R a → a < M.length) → W.St s M → ∃ vs M', evs C es m M = .ok vs M' ∧ Gro W M M' ∧ W.St s' M' ∧ VsOK W R M.length M' ws vs
  | .nil, ts, m, s, s', M, R, ws, h, hr, hc, hR, hs => by
    simp only [tevs] at h
    cases h
    exact ⟨[], M, by simp, Gro.refl, hs, by unfold VsOK; rfl⟩
  | .cons e es, ts, m, s, s', M, R, ws, h, hr, hc, hR, hs => by
    simp only [tevs] at h
    obtain ⟨u, s1, h1, h⟩ := TR.bnd_ok h
    obtain ⟨us, s2, h2, h⟩ := TR.bnd_ok h
    cases h
    simp only [fvEs] at hc
    obtain ⟨x, M1, e1, k1, st1, v1⟩ := ev_sim X e ts m s s1 M R u h1 hr (hc.sub fun i hi => List.mem_append_left _ hi) hR hs
    obtain ⟨vs, M2, e2, k2, st2, v2⟩ := evs_sim X es ts m s1 s' M1 R us h2 (hr.gro k1) ((hc.gro hr k1).sub fun i hi => List.mem_append_right _ hi) (fun a ha => Nat.lt_of_lt_of_le (hR a ha) k1.le) st1
    have lt1 : ∀ a ∈ ads M2 u.2 x, a < M1.length := by
      intro a ha
      rw [(rep_same _ _ v1.rep (k2.same v1.rep)).2] at ha
      exact (ads_lt _ _ v1.rep a ha).1
    have w1 := v1.gro k2
    refine ⟨x :: vs, M2, by rw [es_cons, bnd_ok2 e1, k_cons, bnd_ok2 e2]; rfl, k1.trans k2, st2, ?_⟩
    unfold VsOK
    refine ⟨x, vs, rfl, w1, VsOK.low (fun a h => .inl h) k1.le v2, fun a ha hb => ?_, fun hg a ha hb => ?_⟩
    · have p1 := w1.new a ha
      have p2 := lt1 a (ow_ads ha)
      rcases v2.reps.2.1 a hb with h | h
      · have := hR a h
        omega
      · omega
    · have := (v2.reps.2.2 hg).2 a ha
      have := lt1 a hb
      omega
theorem evI_sim {C : Cf} {D : TCf S} (X : Ctx W C D) : ∀ (it : MP.It) (ts : TSl) (m : Sl) (s s' : S) (M : MH) (R : Nat → Prop) (g : G) (xs : List TV), tevI D it ts s = .ok (g, xs) s' → SR W M ts m → Cov R M ts m (fvI it) → (∀ a, R a → a < M.length) → W.St s M → ∃ src M', evI C it m M = .ok src M' ∧ Gro W M M' ∧ W.St s' M' ∧ SrcOK W R M.length M' g xs src
  | .seq e, ts, m, s, s', M, R, g, xs, h, hr, hc, hR, hs => by
    simp only [tevI] at h
    obtain ⟨u, s1, h1, h⟩ := TR.bnd_ok h
    obtain ⟨x, M1, e1, k1, st1, v1⟩ := ev_sim X e ts m s s1 M R u h1 hr hc hR hs
    split at h <;> first | (cases h; done) | skip
    · rename_i us q
      obtain ⟨l1, rfl, rfl, rfl⟩ := tlim_ok h
      have ad := v1.adr
      have nw := v1.new
      have r1 := v1.rep
      rw [q] at r1 ad nw
      obtain ⟨vs, rfl, r⟩ := rep_tup r1
      refine ⟨.tp vs, M1, by rw [i_seq, bnd_ok2 e1, seqT], k1, st1, vs, [], r, l1, fun M' _ i => ⟨rfl, rfl⟩, fun a ha => ?_⟩
      have ha : a ∈ adss M1 xs vs := ha.elim (fun h => by simp at h) id
      have := adss_lt _ _ r a ha
      exact ⟨ad a (by simpa [ads] using ha), this.1, this.2, fun hd => nw a (by rw [hd]; simpa [ow, ads] using ha)⟩
    · rename_i us q
      obtain ⟨l1, rfl, rfl, rfl⟩ := tlim_ok h
      have ad := v1.adr
      have nw := v1.new
      have r1 := v1.rep
      rw [q] at r1 ad nw
      obtain ⟨p, vs, rfl, hq, hm, r, he⟩ := rep_lst r1
      refine ⟨.ls (.lst p), M1, by rw [i_seq, bnd_ok2 e1, seqL hm], k1, st1, vs, [p], r, l1, fun M' hM i => ?_, fun a ha => ?_⟩
      · have hm' : M'[p]? = some vs := (hM p (by simp)).trans hm
        exact ⟨ls_stop hm', ls_item hm'⟩
      · have ha : a ∈ ads M1 (.lst xs) (.lst p) := by
          rw [he]
          exact ha.elim (fun h => by simp at h; simp [h]) fun h => List.mem_cons_of_mem _ h
        have := ads_lt _ _ r1 a ha
        exact ⟨ad a ha, this.1, this.2, fun hd => nw a (by rw [hd]; exact ha)⟩
  | .rg1 a, ts, m, s, s', M, R, g, xs, h, hr, hc, hR, hs => by
    simp only [tevI] at h
    obtain ⟨u, s1, h1, h⟩ := TR.bnd_ok h
    obtain ⟨x, M1, e1, k1, st1, v1⟩ := ev_sim X a ts m s s1 M R u h1 hr hc hR hs
    split at h <;> first | (cases h; done) | skip
    rename_i j q
    by_cases hj : -1000000 ≤ j ∧ j ≤ 1000000
    rotate_left
    · rw [if_neg hj] at h
      cases h
    rw [if_pos hj] at h
    cases h
    rw [int_val v1.rep q] at e1
    obtain ⟨r, er⟩ := rg_reps (W := W) (M := M1) 0 j.toNat
    refine ⟨.rg 0 j.toNat, M1, by rw [i_rg1, bnd_ok2 e1]; exact if_pos hj, k1, st1, _, [], r, by simp [trg, lim]; omega, fun M' _ i => ?_, fun a ha => by simp [er] at ha⟩
    refine ⟨by simp [rg_stop, rgL], ?_⟩
    by_cases hi : i < j.toNat
    · rw [rg_item _ _ hi]
      simp [rgL, hi]
    · simp [Src.item, rgL, hi]
  | .rg2 a b, ts, m, s, s', M, R, g, xs, h, hr, hc, hR, hs => by
    simp only [tevI] at h
    obtain ⟨u, s1, h1, h⟩ := TR.bnd_ok h
    obtain ⟨v, s2, h2, h⟩ := TR.bnd_ok h
    simp only [fvI] at hc
    obtain ⟨x, M1, e1, k1, st1, v1⟩ := ev_sim X a ts m s s1 M R u h1 hr (hc.sub fun i hi => List.mem_append_left _ hi) hR hs
    obtain ⟨y, M2, e2, k2, st2, v2⟩ := ev_sim X b ts m s1 s2 M1 R v h2 (hr.gro k1) ((hc.gro hr k1).sub fun i hi => List.mem_append_right _ hi) (fun a ha => Nat.lt_of_lt_of_le (hR a ha) k1.le) st1
    split at h <;> first | (cases h; done) | skip
    rename_i i j q1 q2
    by_cases hj : -1000000 ≤ i ∧ i ≤ 1000000 ∧ -1000000 ≤ j ∧ j ≤ 1000000 ∧ (j - i).toNat ≤ lim
    rotate_left
    · rw [if_neg hj] at h
      cases h
    rw [if_pos hj] at h
    cases h
    rw [int_val v1.rep q1] at e1
    rw [int_val v2.rep q2] at e2
    obtain ⟨r, er⟩ := rg_reps (W := W) (M := M2) i (j - i).toNat
    refine ⟨.rg i (j - i).toNat, M2, by rw [i_rg2, bnd_ok2 e1, k_op, bnd_ok2 e2]; exact if_pos ⟨hj.1, hj.2.1, hj.2.2.1, hj.2.2.2.1⟩, k1.trans k2, st2, _, [], r, by simpa [trg] using hj.2.2.2.2, fun M' _ n => ?_, fun a ha => by simp [er] at ha⟩
    refine ⟨by simp [rg_stop, rgL], ?_⟩
    by_cases hi : n < (j - i).toNat
    · rw [rg_item _ _ hi]
      simp [rgL, hi]
    · simp [Src.item, rgL, hi]
  | .zip a b, ts, m, s, s', M, R, g, xs, h, hr, hc, hR, hs => by
    simp only [tevI] at h
    obtain ⟨u, s1, h1, h⟩ := TR.bnd_ok h
    obtain ⟨v, s2, h2, h⟩ := TR.bnd_ok h
    simp only [fvI] at hc
    obtain ⟨x, M1, e1, k1, st1, v1⟩ := ev_sim X a ts m s s1 M R u h1 hr (hc.sub fun i hi => List.mem_append_left _ hi) hR hs
    obtain ⟨y, M2, e2, k2, st2, v2⟩ := ev_sim X b ts m s1 s2 M1 R v h2 (hr.gro k1) ((hc.gro hr k1).sub fun i hi => List.mem_append_right _ hi) (fun a ha => Nat.lt_of_lt_of_le (hR a ha) k1.le) st1
    have w1 := v1.gro k2
    have w2 := v2.mono (R := R) (N := M.length) (fun a h => .inl h) k1.le
    have hgd : ∀ {g1 g2 : G}, gm g1 g2 = .d → g1 = .d ∧ g2 = .d := by
      intro g1 g2 h
      cases g1 <;> cases g2 <;> simp [gm] at h <;> exact ⟨rfl, rfl⟩
    split at h <;> first | (cases h; done) | skip
    · rename_i us vs q1 q2
      obtain ⟨l1, rfl, rfl, rfl⟩ := tlim_ok h
      have a1 := w1.adr
      have n1 := w1.new
      have r1 := w1.rep
      rw [q1] at r1 a1 n1
      have a2 := w2.adr
      have n2 := w2.new
      have r2 := w2.rep
      rw [q2] at r2 a2 n2
      obtain ⟨ms, rfl, rr1⟩ := rep_tup r1
      obtain ⟨ns, rfl, rr2⟩ := rep_tup r2
      obtain ⟨z1, z2⟩ := zip_reps rr1 rr2
      refine ⟨.zt ms ns, M2, by rw [i_zip, bnd_ok2 e1, k_op, bnd_ok2 e2]; rfl, k1.trans k2, st2, _, [], z1, l1, fun M' _ i => ⟨?_, ?_⟩, fun a ha => ?_⟩
      · simp only [Src.stop, List.length_zipWith]
        rw [← Bool.decide_or]
        exact decide_eq_decide.mpr (by omega)
      · simp only [Src.item, List.getElem?_zipWith]
        cases ms[i]? <;> cases ns[i]? <;> rfl
      · have ha := ha.elim (fun h => by simp at h) id
        rcases z2 a ha with h | h
        · have := adss_lt _ _ rr1 a h
          exact ⟨a1 a (by simpa [ads] using h), this.1, this.2, fun hd => n1 a (by rw [(hgd hd).1]; simpa [ow, ads] using h)⟩
        · have := adss_lt _ _ rr2 a h
          exact ⟨a2 a (by simpa [ads] using h), this.1, this.2, fun hd => n2 a (by rw [(hgd hd).2]; simpa [ow, ads] using h)⟩
    · rename_i us vs q1 q2
      obtain ⟨l1, rfl, rfl, rfl⟩ := tlim_ok h
      have a1 := w1.adr
      have n1 := w1.new
      have r1 := w1.rep
      rw [q1] at r1 a1 n1
      have a2 := w2.adr
      have n2 := w2.new
      have r2 := w2.rep
      rw [q2] at r2 a2 n2
      obtain ⟨p, ms, rfl, hq1, hm1, rr1, he1⟩ := rep_lst r1
      obtain ⟨q, ns, rfl, hq2, hm2, rr2, he2⟩ := rep_lst r2
      obtain ⟨z1, z2⟩ := zip_reps rr1 rr2
      have zz : zipOf M2 (.lst p) (.lst q) = some (.zl (.lst p) (.lst q)) := by
        simp [zipOf, itemsL, hm1, hm2]
      refine ⟨.zl (.lst p) (.lst q), M2, by rw [i_zip, bnd_ok2 e1, k_op, bnd_ok2 e2]; unfold kzip; rw [zz], k1.trans k2, st2, _, [p, q], z1, l1, fun M' hM i => ?_, fun a ha => ?_⟩
      · have hp : M'[p]? = some ms := (hM p (by simp)).trans hm1
        have hq : M'[q]? = some ns := (hM q (by simp)).trans hm2
        refine ⟨?_, ?_⟩
        · simp only [Src.stop, itemsL, hp, hq, List.length_zipWith]
          rw [← Bool.decide_or]
          exact decide_eq_decide.mpr (by omega)
        · simp only [Src.item, itemsL, hp, hq, Option.bind_some, List.getElem?_zipWith]
          cases ms[i]? <;> cases ns[i]? <;> rfl
      · have hh : a ∈ ads M2 (.lst us) (.lst p) ∨ a ∈ ads M2 (.lst vs) (.lst q) := by
          rw [he1, he2]
          rcases ha with ha | ha
          · simp at ha
            rcases ha with rfl | rfl
            · exact .inl (by simp)
            · exact .inr (by simp)
          · exact (z2 a ha).imp (List.mem_cons_of_mem _) (List.mem_cons_of_mem _)
        rcases hh with h | h
        · have := ads_lt _ _ r1 a h
          exact ⟨a1 a h, this.1, this.2, fun hd => n1 a (by rw [(hgd hd).1]; exact h)⟩
        · have := ads_lt _ _ r2 a h
          exact ⟨a2 a h, this.1, this.2, fun hd => n2 a (by rw [(hgd hd).2]; exact h)⟩
  | .enu e, ts, m, s, s', M, R, g, xs, h, hr, hc, hR, hs => by
    simp only [tevI] at h
    obtain ⟨u, s1, h1, h⟩ := TR.bnd_ok h
    obtain ⟨x, M1, e1, k1, st1, v1⟩ := ev_sim X e ts m s s1 M R u h1 hr hc hR hs
    split at h <;> first | (cases h; done) | skip
    rename_i us q
    obtain ⟨l1, rfl, rfl, rfl⟩ := tlim_ok h
    have ad := v1.adr
    have nw := v1.new
    have r1 := v1.rep
    rw [q] at r1 ad nw
    obtain ⟨p, vs, rfl, hq, hm, r, he⟩ := rep_lst r1
    obtain ⟨z1, z2⟩ := enu_reps 0 r
    refine ⟨.en (.lst p), M1, by rw [i_enu, bnd_ok2 e1]; simp [kenu, itemsL, hm], k1, st1, _, [p], z1, l1, fun M' hM i => ?_, fun a ha => ?_⟩
    · have hm' : M'[p]? = some vs := (hM p (by simp)).trans hm
      refine ⟨by simp [Src.stop, itemsL, hm'], ?_⟩
      simp only [Src.item, itemsL, hm', Option.bind_some, List.getElem?_map, List.getElem?_zipIdx]
      cases vs[i]? <;> simp
    · have ha : a ∈ ads M1 (.lst us) (.lst p) := by
        rw [he]
        exact ha.elim (fun h => by simp at h; simp [h]) fun h => List.mem_cons_of_mem _ (z2 a h)
      have := ads_lt _ _ r1 a ha
      exact ⟨ad a ha, this.1, this.2, fun hd => nw a (by rw [hd]; exact ha)⟩
end
end
end TM

set_option Elab.async false
set_option linter.all false
set_option maxRecDepth 100000
set_option autoImplicit false
set_option maxHeartbeats 2000000
/-! TM, part f: slots that are written. -/
namespace TM
open PySem MP
section
variable {S : Type} {W : Wd S} {M M' M1 M2 : MH} {R Fr Re : Nat → Prop} {N : Nat} {s : S} {ts : TSl} {m : Sl}
def At (ts : TSl) (m : Sl) (i : Nat) (g : G) (t : TV) (v : MV) : Prop := ts[i]? = some (some (g, t)) ∧ m[i]? = some (some v)
/-- the slots of a def that began with N lists: what is from elsewhere is of R; what is held alone is new, and not of Fr -/
structure SOK (W : Wd S) (R : Nat → Prop) (N : Nat) (Fr : Nat → Prop) (M : MH) (ts : TSl) (m : Sl) : Prop where
  sr : SR W M ts m
  adr : ∀ i g t v, At ts m i g t v → ∀ a ∈ ads M t v, R a ∨ N ≤ a
  own : ∀ i g t v, At ts m i g t v → Own g M t v
  new : ∀ i g t v, At ts m i g t v → ∀ a, ow g M t v a → N ≤ a ∧ ¬ Fr a
  dis : ∀ i j g t v g' t' v', i ≠ j → At ts m i g t v → At ts m j g' t' v' → ∀ a, ow g M t v a → a ∉ ads M t' v'
def Sep (M : MH) (ts : TSl) (m : Sl) (g : G) (t : TV) (v : MV) : Prop := ∀ j g' t' v', At ts m j g' t' v' → (∀ a, ow g M t v a → a ∉ ads M t' v') ∧ ∀ a, ow g' M t' v' a → a ∉ ads M t v
theorem SR.at_ (h : SR W M ts m) {i : Nat} {g : G} {t : TV} {v : MV} (k : At ts m i g t v) : rep W M t v := by
  obtain ⟨v', e, r⟩ := h.2 i g t k.1
  rw [k.2] at e
  cases e
  exact r
theorem SOK.same (h : SOK W R N Fr M ts m) (e : ∀ i g t v, At ts m i g t v → ∀ a ∈ ads M t v, M'[a]? = M[a]?) : SOK W R N Fr M' ts m := by
  have same : ∀ i g t v, At ts m i g t v → rep W M' t v ∧ ads M' t v = ads M t v := fun i g t v k => rep_same t v (h.sr.at_ k) (e i g t v k)
  have ows : ∀ i g t v, At ts m i g t v → ∀ a, ow g M' t v a → ow g M t v a := fun i g t v k a ha => (ow_same (h.sr.at_ k) (e i g t v k)).mp ha
  refine ⟨⟨h.sr.1, fun i g t k => ?_⟩, fun i g t v k a ha => ?_, fun i g t v k => own_same (h.sr.at_ k) (h.own i g t v k) (e i g t v k), fun i g t v k a ha => h.new i g t v k a (ows i g t v k a ha), fun i j g t v g' t' v' hij k k' a ha hb => ?_⟩
  · obtain ⟨v, e1, e2⟩ := h.sr.2 i g t k
    exact ⟨v, e1, (same i g t v ⟨k, e1⟩).1⟩
  · rw [(same i g t v k).2] at ha
    exact h.adr i g t v k a ha
  · rw [(same j g' t' v' k').2] at hb
    exact h.dis i j g t v g' t' v' hij k k' a (ows i g t v k a ha) hb
theorem SOK.gro (h : SOK W R N Fr M ts m) (k : Gro W M M1) : SOK W R N Fr M1 ts m := h.same fun i g t v e => k.same (h.sr.at_ e)
theorem SOK.fr {Fr' : Nat → Prop} (h : SOK W R N Fr M ts m) (k : ∀ i g t v, At ts m i g t v → ∀ a, ow g M t v a → ¬ Fr' a) : SOK W R N Fr' M ts m :=
  ⟨h.sr, h.adr, h.own, fun i g t v e a ha => ⟨(h.new i g t v e a ha).1, k i g t v e a ha⟩, h.dis⟩
theorem at_set {i j : Nat} {g g' : G} {t t' : TV} {v v' : MV} (h : At (ts.set i (some (g, t))) (m.set i (some v)) j g' t' v') : (i = j ∧ g' = g ∧ t' = t ∧ v' = v) ∨ (i ≠ j ∧ At ts m j g' t' v') := by
  obtain ⟨h1, h2⟩ := h
  by_cases hij : i = j
  · subst hij
    by_cases hl : i < ts.length
    · rw [List.getElem?_set_self hl] at h1
      cases h1
      by_cases hm : i < m.length
      · rw [List.getElem?_set_self hm] at h2
        cases h2
        exact .inl ⟨rfl, rfl, rfl, rfl⟩
      · rw [List.getElem?_eq_none (by simp; omega)] at h2
        cases h2
    · rw [List.getElem?_eq_none (by simp; omega)] at h1
      cases h1
  · rw [List.getElem?_set_ne hij] at h1 h2
    exact .inr ⟨hij, h1, h2⟩
theorem SOK.set (h : SOK W R N Fr M ts m) {g : G} {t : TV} {v : MV} (k : VOK W R N M g t v) (hf : ∀ a, ow g M t v a → ¬ Fr a) (i : Nat) (sp : ∀ j g' t' v', i ≠ j → At ts m j g' t' v' → (∀ a, ow g M t v a → a ∉ ads M t' v') ∧ ∀ a, ow g' M t' v' a → a ∉ ads M t v) : SOK W R N Fr M (ts.set i (some (g, t))) (m.set i (some v)) := by
  refine ⟨h.sr.set k.rep i, fun j g' t' v' e => ?_, fun j g' t' v' e => ?_, fun j g' t' v' e => ?_, fun j l g' t' v' g2 t2 v2 hjl e e2 a ha => ?_⟩
  · rcases at_set e with ⟨rfl, rfl, rfl, rfl⟩ | ⟨_, e⟩
    · exact k.adr
    · exact h.adr j _ _ _ e
  · rcases at_set e with ⟨rfl, rfl, rfl, rfl⟩ | ⟨_, e⟩
    · exact k.own
    · exact h.own j _ _ _ e
  · rcases at_set e with ⟨rfl, rfl, rfl, rfl⟩ | ⟨_, e⟩
    · exact fun a ha => ⟨k.new a ha, hf a ha⟩
    · exact h.new j _ _ _ e
  · rcases at_set e with ⟨rfl, rfl, rfl, rfl⟩ | ⟨n1, e3⟩ <;> rcases at_set e2 with ⟨rfl, rfl, rfl, rfl⟩ | ⟨n2, e4⟩
    · exact (hjl rfl).elim
    · exact (sp l _ _ _ n2 e4).1 a ha
    · exact (sp j _ _ _ n1 e3).2 a ha
    · exact h.dis j l _ _ _ _ _ _ hjl e3 e4 a ha
theorem SOK.drop (h : SOK W R N Fr M ts m) (i : Nat) : SOK W R N Fr M (ts.set i none) m := by
  have at_ : ∀ j g t v, At (ts.set i none) m j g t v → i ≠ j ∧ At ts m j g t v := by
    rintro j g t v ⟨h1, h2⟩
    by_cases hij : i = j
    · subst hij
      by_cases hl : i < ts.length
      · rw [List.getElem?_set_self hl] at h1
        cases h1
      · rw [List.getElem?_eq_none (by simp; omega)] at h1
        cases h1
    · rw [List.getElem?_set_ne hij] at h1
      exact ⟨hij, h1, h2⟩
  refine ⟨⟨by simp [h.sr.1], fun j g t e => ?_⟩, fun j g t v e => h.adr j g t v (at_ _ _ _ _ e).2, fun j g t v e => h.own j g t v (at_ _ _ _ _ e).2, fun j g t v e => h.new j g t v (at_ _ _ _ _ e).2, fun j l g t v g' t' v' hjl e e' => h.dis j l _ _ _ _ _ _ hjl (at_ _ _ _ _ e).2 (at_ _ _ _ _ e').2⟩
  by_cases hij : i = j
  · subst hij
    by_cases hl : i < ts.length
    · rw [List.getElem?_set_self hl] at e
      cases e
    · rw [List.getElem?_eq_none (by simp; omega)] at e
      cases e
  · rw [List.getElem?_set_ne hij] at e
    exact h.sr.2 j g t e
theorem clr_get : ∀ (is : List Nat) (i : Nat), (clr ts is)[i]? = if i ∈ is then ts[i]?.map clr1 else ts[i]?
  | [], i => by simp [clr]
  | j :: is, i => by
    simp only [clr, List.getElem?_modify, clr_get is i]
    by_cases hij : j = i
    · subst hij
      simp only [List.mem_cons, true_or, if_true]
      split
      · cases ts[j]? with
        | none => rfl
        | some o =>
          cases o with
          | none => rfl
          | some v => rfl
      · cases ts[j]? <;> rfl
    · have : ¬ i = j := fun h => hij h.symm
      simp only [if_neg hij, List.mem_cons, this, false_or]
      split <;> simp
theorem clr_at {is : List Nat} {i : Nat} {g : G} {t : TV} {v : MV} (h : At (clr ts is) m i g t v) : (i ∈ is ∧ (∃ g0, At ts m i g0 t v) ∧ g = gr .s t) ∨ (i ∉ is ∧ At ts m i g t v) := by
  obtain ⟨h1, h2⟩ := h
  rw [clr_get] at h1
  split at h1
  · rename_i hi
    cases e : ts[i]? with
    | none => simp [e] at h1
    | some o =>
      cases o with
      | none => simp [e, clr1] at h1
      | some x =>
        obtain ⟨g0, t0⟩ := x
        simp [e, clr1] at h1
        obtain ⟨rfl, rfl⟩ := h1
        exact .inl ⟨hi, ⟨g0, e, h2⟩, rfl⟩
  · rename_i hi
    exact .inr ⟨hi, h1, h2⟩
theorem no_ow {t : TV} {v : MV} {a : Nat} (h : ow (gr .s t) M t v a) : False := ow_gr h
theorem SOK.clr (h : SOK W R N Fr M ts m) (is : List Nat) : SOK W R N Fr M (TM.clr ts is) m := by
  refine ⟨⟨?_, fun i g t e => ?_⟩, fun i g t v e => ?_, fun i g t v e => ?_, fun i g t v e a ha => ?_, fun i j g t v g' t' v' hij e e' a ha => ?_⟩
  · have : ∀ is : List Nat, (TM.clr ts is).length = ts.length := by
      intro is
      induction is with
      | nil => rfl
      | cons i is ih => simp [TM.clr, ih]
    rw [this, h.sr.1]
  · rw [clr_get] at e
    split at e
    · cases e2 : ts[i]? with
      | none => simp [e2] at e
      | some o =>
        cases o with
        | none => simp [e2, clr1] at e
        | some x =>
          obtain ⟨g0, t0⟩ := x
          simp [e2, clr1] at e
          obtain ⟨rfl, rfl⟩ := e
          exact h.sr.2 i g0 t0 e2
    · exact h.sr.2 i g t e
  · rcases clr_at e with ⟨_, ⟨g0, e3⟩, rfl⟩ | ⟨_, e3⟩
    · exact h.adr i _ _ _ e3
    · exact h.adr i _ _ _ e3
  · rcases clr_at e with ⟨_, ⟨g0, e3⟩, rfl⟩ | ⟨_, e3⟩
    · exact own_gr trivial
    · exact h.own i _ _ _ e3
  · rcases clr_at e with ⟨_, ⟨g0, e3⟩, rfl⟩ | ⟨_, e3⟩
    · exact (no_ow ha).elim
    · exact h.new i _ _ _ e3 a ha
  · rcases clr_at e with ⟨_, ⟨g0, e3⟩, rfl⟩ | ⟨_, e3⟩
    · exact (no_ow ha).elim
    · rcases clr_at e' with ⟨_, ⟨g1, e4⟩, rfl⟩ | ⟨_, e4⟩ <;> exact h.dis i j _ _ _ _ _ _ hij e3 e4 a ha
theorem SOK.leak (h : SOK W R N Fr M ts m) (g : G) (is : List Nat) : SOK W R N Fr M (TM.leak g is ts) m := by
  cases g <;> first | exact h.clr is | exact h
/-- what the slots of is are made of -/
def Rd (M : MH) (ts : TSl) (m : Sl) (is : List Nat) (a : Nat) : Prop := ∃ i ∈ is, ∃ g t v, At ts m i g t v ∧ a ∈ ads M t v
theorem SOK.cov (is : List Nat) : Cov (Rd M ts m is) M ts m is := fun i hi g t v e1 e2 a ha => ⟨i, hi, g, t, v, ⟨e1, e2⟩, ha⟩
theorem SOK.rd (h : SOK W R N Fr M ts m) {is : List Nat} {a : Nat} (k : Rd M ts m is a) : R a ∨ N ≤ a := by
  obtain ⟨i, _, g, t, v, e, ha⟩ := k
  exact h.adr i g t v e a ha
theorem SOK.rdlt (h : SOK W R N Fr M ts m) {is : List Nat} {a : Nat} (k : Rd M ts m is a) : a < M.length := by
  obtain ⟨i, _, g, t, v, e, ha⟩ := k
  exact (ads_lt t v (h.sr.at_ e) a ha).1
/-- slots' own lists don't lie in what was read, once these slots are cleared -/
theorem leak_sep (h : SOK W R N Fr M ts m) (k : Gro W M M1) {gk : G} {is : List Nat} {j : Nat} {g' : G} {t' : TV} {v' : MV} (e : At (TM.leak gk is ts) m j g' t' v') {a : Nat} (ha : ow g' M1 t' v' a) : a < M.length ∧ (gk ≠ .d → ¬ Rd M ts m is a) ∧ At ts m j g' t' v' := by
  have base : At ts m j g' t' v' → ow g' M t' v' a := fun e => (ow_same (h.sr.at_ e) (k.same (h.sr.at_ e))).mp ha
  by_cases hd : gk = .d
  · subst hd
    exact ⟨(ads_lt _ _ (h.sr.at_ e) a (ow_ads (base e))).1, fun h => (h rfl).elim, e⟩
  · have e : At (TM.clr ts is) m j g' t' v' := by
      cases gk <;> first | exact e | exact (hd rfl).elim
    rcases clr_at e with ⟨_, ⟨g0, e3⟩, rfl⟩ | ⟨hj, e3⟩
    · exact (no_ow ha).elim
    · refine ⟨(ads_lt _ _ (h.sr.at_ e3) a (ow_ads (base e3))).1, fun _ => ?_, e3⟩
      rintro ⟨i, hi, g2, t2, v2, e2, ha2⟩
      exact h.dis j i _ _ _ _ _ _ (fun z => hj (z ▸ hi)) e3 e2 a (base e3) ha2
theorem leak_ok (h : SOK W R N Fr M ts m) (k : Gro W M M1) {is : List Nat} {gk g : G} {t : TV} {v : MV} (hv : VOK W (Rd M ts m is) M.length M1 g t v) (hk : gk = .d → ∀ a ∈ ads M1 t v, M.length ≤ a) : Sep M1 (TM.leak gk is ts) m g t v := by
  intro j g' t' v' e
  have hs := (h.leak gk is).gro k
  have h0 := h.leak gk is
  refine ⟨fun a ha hb => ?_, fun a ha hb => ?_⟩
  · have h1 := hv.new a ha
    rw [(rep_same _ _ (h0.sr.at_ e) (k.same (h0.sr.at_ e))).2] at hb
    have := (ads_lt _ _ (h0.sr.at_ e) a hb).1
    omega
  · obtain ⟨h1, h2, h3⟩ := leak_sep h k e ha
    by_cases hd : gk = .d
    · have := hk hd a hb
      omega
    · rcases hv.adr a hb with q | q
      · exact h2 hd q
      · omega
/-- an expression among slots -/
theorem ev_st {C : Cf} {D : TCf S} (X : Ctx W C D) {e : E} {s' : S} {w : GV} (h : tev D e ts s = .ok w s') (k : SOK W R N Fr M ts m) (hs : W.St s M) (hN : N ≤ M.length) : ∃ v M1, ev C e m M = .ok v M1 ∧ Gro W M M1 ∧ W.St s' M1 ∧ VOK W R N M1 w.1 w.2 v ∧ (∀ a, ow w.1 M1 w.2 v a → M.length ≤ a) ∧ SOK W R N Fr M1 (TM.leak w.1 (fvE e) ts) m ∧ Sep M1 (TM.leak w.1 (fvE e) ts) m w.1 w.2 v := by
  obtain ⟨v, M1, e1, k1, st1, v1⟩ := ev_sim X e ts m s s' M (Rd M ts m (fvE e)) w h k.sr (SOK.cov _) (fun a ha => k.rdlt ha) hs
  refine ⟨v, M1, e1, k1, st1, v1.mono (fun a ha => k.rd ha) hN, v1.new, (k.leak _ _).gro k1, leak_ok k k1 v1 fun hd a ha => v1.new a (by rw [hd]; exact ha)⟩
theorem VsOK.each : ∀ {ws : List GV} {vs : List MV}, VsOK W R N M ws vs → ∀ (i : Nat) (w : GV) (v : MV), ws[i]? = some w → vs[i]? = some v → VOK W R N M w.1 w.2 v
  | [], vs, h, i, w, v, h1, h2 => by simp at h1
  | x :: xs, vs, h, i, w, v, h1, h2 => by
    unfold VsOK at h
    obtain ⟨u, us, rfl, a1, a2, _, _⟩ := h
    cases i with
    | zero =>
      simp at h1 h2
      subst h1 h2
      exact a1
    | succ i => exact VsOK.each a2 i w v (by simpa using h1) (by simpa using h2)
theorem gall_each : ∀ {ws : List GV} (i : Nat) (w : GV), gall ws = .d → ws[i]? = some w → w.1 = .d
  | [], i, w, _, h => by simp at h
  | x :: xs, i, w, hg, h => by
    simp only [gall] at hg
    have h1 : x.1 = .d ∧ gall xs = .d := by
      cases e : x.1 <;> cases e2 : gall xs <;> simp [e, e2, gm] at hg <;> exact ⟨rfl, rfl⟩
    cases i with
    | zero =>
      simp at h
      subst h
      exact h1.1
    | succ i => exact gall_each i w h1.2 (by simpa using h)
theorem evs_st {C : Cf} {D : TCf S} (X : Ctx W C D) {es : Es} {s' : S} {ws : List GV} (h : tevs D es ts s = .ok ws s') (k : SOK W R N Fr M ts m) (hs : W.St s M) (hN : N ≤ M.length) : ∃ vs M1, evs C es m M = .ok vs M1 ∧ Gro W M M1 ∧ W.St s' M1 ∧ VsOK W R N M1 ws vs ∧ SOK W R N Fr M1 (TM.leak (gall ws) (fvEs es) ts) m ∧ ∀ (i : Nat) (w : GV) (v : MV), ws[i]? = some w → vs[i]? = some v → Sep M1 (TM.leak (gall ws) (fvEs es) ts) m w.1 w.2 v ∧ ∀ a, ow w.1 M1 w.2 v a → M.length ≤ a := by
  obtain ⟨vs, M1, e1, k1, st1, v1⟩ := evs_sim X es ts m s s' M (Rd M ts m (fvEs es)) ws h k.sr (SOK.cov _) (fun a ha => k.rdlt ha) hs
  refine ⟨vs, M1, e1, k1, st1, VsOK.low (fun a ha => k.rd ha) hN v1, (k.leak _ _).gro k1, fun i w v h1 h2 => ?_⟩
  have hv := VsOK.each v1 i w v h1 h2
  exact ⟨leak_ok k k1 hv fun hd a ha => hv.new a (by rw [gall_each i w hd h1]; exact ha), hv.new⟩
/-- none of them holds what is another one's -/
def Prs (M : MH) (ws : List GV) (vs : List MV) : Prop := ∀ (i j : Nat) (w w' : GV) (v v' : MV), i ≠ j → ws[i]? = some w → vs[i]? = some v → ws[j]? = some w' → vs[j]? = some v' → ∀ a, ow w.1 M w.2 v a → a ∉ ads M w'.2 v'
theorem ads_each : ∀ {ts : List TV} {vs : List MV} {i : Nat} {t : TV} {v : MV}, ts[i]? = some t → vs[i]? = some v → ∀ a ∈ ads M t v, a ∈ adss M ts vs
  | [], _, i, t, v, h, _, a, ha => by simp at h
  | _ :: _, [], i, t, v, _, h, a, ha => by simp at h
  | x :: ts, y :: vs, 0, t, v, h, h2, a, ha => by
    cases h
    cases h2
    simp only [adss, List.mem_append]
    exact .inl ha
  | x :: ts, y :: vs, i + 1, t, v, h, h2, a, ha => by
    simp only [adss, List.mem_append]
    exact .inr (ads_each (i := i) (by simpa using h) (by simpa using h2) a ha)
theorem evs_sim2 {C : Cf} {D : TCf S} (X : Ctx W C D) : ∀ (es : Es) (ts : TSl) (m : Sl) (s s' : S) (M : MH) (R : Nat → Prop) (ws : List GV), tevs D es ts s = .ok ws s' → SR W M ts m → Cov R M ts m (fvEs es) → (∀ a, R a → a < M.length) → W.St s M → ∃ vs M', evs C es m M = .ok vs M' ∧ Gro W M M' ∧ W.St s' M' ∧ VsOK W R M.length M' ws vs ∧ Prs M' ws vs
  | .nil, ts, m, s, s', M, R, ws, h, hr, hc, hR, hs => by
    simp only [tevs] at h
    cases h
    exact ⟨[], M, by simp, Gro.refl, hs, by unfold VsOK; rfl, fun i j w w' v v' _ h => by simp at h⟩
  | .cons e es, ts, m, s, s', M, R, ws, h, hr, hc, hR, hs => by
    have h0 := h
    simp only [tevs] at h
    obtain ⟨u, s1, h1, h⟩ := TR.bnd_ok h
    obtain ⟨us, s2, h2, h⟩ := TR.bnd_ok h
    cases h
    have hc0 := hc
    simp only [fvEs] at hc
    obtain ⟨x, M1, e1, k1, st1, v1⟩ := ev_sim X e ts m s s1 M R u h1 hr (hc.sub fun i hi => List.mem_append_left _ hi) hR hs
    obtain ⟨vs, M2, e2, k2, st2, v2, pr⟩ := evs_sim2 X es ts m s1 s' M1 R us h2 (hr.gro k1) ((hc.gro hr k1).sub fun i hi => List.mem_append_right _ hi) (fun a ha => Nat.lt_of_lt_of_le (hR a ha) k1.le) st1
    obtain ⟨vs0, M0, f1, f2, f3, f4⟩ := evs_sim X (.cons e es) ts m s s' M R _ h0 hr hc0 hR hs
    have ee : evs C (.cons e es) m M = .ok (x :: vs) M2 := by rw [es_cons, bnd_ok2 e1, k_cons, bnd_ok2 e2]; rfl
    rw [ee] at f1
    cases f1
    have lt1 : ∀ a ∈ ads M2 u.2 x, a < M1.length := by
      intro a ha
      rw [(rep_same _ _ v1.rep (k2.same v1.rep)).2] at ha
      exact (ads_lt _ _ v1.rep a ha).1
    have w1 := v1.gro k2
    refine ⟨x :: vs, M2, ee, f2, f3, f4, ?_⟩
    intro i j w w' v v' hij a1 a2 a3 a4 a ha hb
    match i, j with
    | 0, 0 => exact hij rfl
    | 0, j + 1 =>
      cases a1
      cases a2
      have p1 := w1.new a ha
      have p2 := lt1 a (ow_ads ha)
      have hb' := ads_each (ts := us.map (·.2)) (vs := vs) (i := j) (t := w'.2) (v := v') (by simp at a3; simp [a3]) (by simpa using a4) a hb
      rcases v2.reps.2.1 a hb' with h | h
      · have := hR a h
        omega
      · omega
    | i + 1, 0 =>
      cases a3
      cases a4
      have hv := VsOK.each v2 i w v (by simpa using a1) (by simpa using a2)
      have := hv.new a ha
      have := lt1 a hb
      omega
    | i + 1, j + 1 => exact pr i j w w' v v' (by omega) (by simpa using a1) (by simpa using a2) (by simpa using a3) (by simpa using a4) a ha hb
theorem evs_st2 {C : Cf} {D : TCf S} (X : Ctx W C D) {es : Es} {s' : S} {ws : List GV} (h : tevs D es ts s = .ok ws s') (k : SOK W R N Fr M ts m) (hs : W.St s M) (hN : N ≤ M.length) : ∃ vs M1, evs C es m M = .ok vs M1 ∧ Gro W M M1 ∧ W.St s' M1 ∧ (ws.map gn).length = vs.length ∧ SOK W R N Fr M1 (TM.leak (gall (ws.map gn)) (fvEs es) ts) m ∧ Prs M1 (ws.map gn) vs ∧ ∀ (i : Nat) (w : GV) (v : MV), (ws.map gn)[i]? = some w → vs[i]? = some v → VOK W R N M1 w.1 w.2 v ∧ (∀ a, ow w.1 M1 w.2 v a → M.length ≤ a) ∧ Sep M1 (TM.leak (gall (ws.map gn)) (fvEs es) ts) m w.1 w.2 v := by
  obtain ⟨vs, M1, e1, k1, st1, v1, pr⟩ := evs_sim2 X es ts m s s' M (Rd M ts m (fvEs es)) ws h k.sr (SOK.cov _) (fun a ha => k.rdlt ha) hs
  have un : ∀ (i : Nat) (w : GV), (ws.map gn)[i]? = some w → ∃ w0, ws[i]? = some w0 ∧ w = gn w0 := by
    intro i w h
    simp only [List.getElem?_map, Option.map_eq_some_iff] at h
    obtain ⟨w0, h1, h2⟩ := h
    exact ⟨w0, h1, h2.symm⟩
  refine ⟨vs, M1, e1, k1, st1, ?_, (k.leak _ _).gro k1, ?_, fun i w v h1 h2 => ?_⟩
  · have := reps_len v1.reps.1
    simpa using this
  · intro i j w w' v v' hij a1 a2 a3 a4 a ha
    obtain ⟨w0, b1, rfl⟩ := un i w a1
    obtain ⟨w1, b2, rfl⟩ := un j w' a3
    exact pr i j w0 w1 v v' hij b1 a2 b2 a4 a (ow_gr ha)
  · obtain ⟨w0, b1, rfl⟩ := un i w h1
    have hv := (VsOK.each v1 i w0 v b1 h2).gr
    exact ⟨hv.mono (fun a ha => k.rd ha) hN, hv.new, leak_ok k k1 hv fun hd a ha => hv.new a (by
      have := gall_each i _ hd h1
      simp only [gn] at this
      rw [this]
      exact ha)⟩
theorem tsets_st : ∀ (is : List Nat) (ws : List GV) (vs : List MV) (ts ts' : TSl) (m : Sl), tsets is ws ts = some ts' → SOK W R N Fr M ts m → ws.length = vs.length → Prs M ws vs → (∀ (i : Nat) (w : GV) (v : MV), ws[i]? = some w → vs[i]? = some v → VOK W R N M w.1 w.2 v ∧ (∀ a, ow w.1 M w.2 v a → ¬ Fr a) ∧ Sep M ts m w.1 w.2 v) → ∃ m', setAll is vs m = some m' ∧ SOK W R N Fr M ts' m'
  | [], [], [], ts, ts', m, h, k, hl, pr, hv => by
    cases h
    exact ⟨m, rfl, k⟩
  | [], [], _ :: _, ts, ts', m, h, k, hl, pr, hv => by simp at hl
  | [], _ :: _, _, ts, ts', m, h, k, hl, pr, hv => by cases h
  | _ :: _, [], _, ts, ts', m, h, k, hl, pr, hv => by cases h
  | _ :: _, _ :: _, [], ts, ts', m, h, k, hl, pr, hv => by simp at hl
  | i :: is, w :: ws, v :: vs, ts, ts', m, h, k, hl, pr, hv => by
    simp only [tsets] at h
    obtain ⟨b1, b2, b3⟩ := hv 0 w v rfl rfl
    have k2 : SOK W R N Fr M (ts.set i (some (w.1, w.2))) (m.set i (some v)) := k.set b1 b2 i fun j g' t' v' _ e => b3 j g' t' v' e
    obtain ⟨m', c1, c2⟩ := tsets_st is ws vs _ ts' _ h k2 (by simpa using hl) (fun i j w w' v v' hij a1 a2 a3 a4 => pr (i + 1) (j + 1) w w' v v' (by omega) (by simpa using a1) (by simpa using a2) (by simpa using a3) (by simpa using a4)) (fun n w' v' a1 a2 => by
      obtain ⟨d1, d2, d3⟩ := hv (n + 1) w' v' (by simpa using a1) (by simpa using a2)
      refine ⟨d1, d2, fun j g2 t2 v2 e => ?_⟩
      by_cases hij : i = j
      · subst hij
        obtain ⟨f1, f2⟩ := e
        have hl1 : i < ts.length := by
          have := (List.getElem?_eq_some_iff.mp f1).1
          simpa using this
        have hl2 : i < m.length := by
          have := (List.getElem?_eq_some_iff.mp f2).1
          simpa using this
        rw [List.getElem?_set_self hl1] at f1
        rw [List.getElem?_set_self hl2] at f2
        cases f1
        cases f2
        exact ⟨fun a ha => pr (n + 1) 0 w' _ v' _ (by omega) (by simpa using a1) (by simpa using a2) rfl rfl a ha, fun a ha => pr 0 (n + 1) _ w' _ v' (by omega) rfl rfl (by simpa using a1) (by simpa using a2) a ha⟩
      · refine d3 j g2 t2 v2 ⟨?_, ?_⟩
        · rw [← e.1, List.getElem?_set_ne hij]
        · rw [← e.2, List.getElem?_set_ne hij])
    exact ⟨m', c1, c2⟩
theorem tsetAll_st {g : G} : ∀ (is : List Nat) (xs : List TV) (vs : List MV) (ts ts' : TSl) (m : Sl), tsetAll g is xs ts = some ts' → g ≠ .r → SOK W R N Fr M ts m → reps W M xs vs → (∀ a ∈ adss M xs vs, R a ∨ N ≤ a) → (g = .d → (adss M xs vs).Nodup ∧ ∀ a ∈ adss M xs vs, N ≤ a ∧ ¬ Fr a) →
    (∀ j g' t' v', At ts m j g' t' v' → (g = .d → ∀ a ∈ adss M xs vs, a ∉ ads M t' v') ∧ ∀ a, ow g' M t' v' a → a ∉ adss M xs vs) → ∃ m', setAll is vs m = some m' ∧ SOK W R N Fr M ts' m'
  | [], [], vs, ts, ts', m, h, hg, k, hr, ha, hd, sp => by
    rw [reps_nil' hr]
    cases h
    exact ⟨m, rfl, k⟩
  | i :: is, x :: xs, vs, ts, ts', m, h, hg, k, hr, ha, hd, sp => by
    obtain ⟨v, ws, rfl, r1, r2⟩ := reps_cons' hr
    have owx : ∀ a, ow (gr g x) M x v a → g = .d ∧ a ∈ ads M x v := by
      intro a h
      have h := ow_gr h
      cases g with
      | s => exact h.elim
      | r => exact (hg rfl).elim
      | d => exact ⟨rfl, h⟩
    have vx : VOK W R N M (gr g x) x v := by
      refine VOK.gr ⟨r1, fun a h => ha a (by simp [adss, h]), ?_, fun a h => ?_⟩
      · cases g with
        | s => trivial
        | r => exact (hg rfl).elim
        | d =>
          have := (hd rfl).1
          simp only [adss] at this
          exact (List.nodup_append.mp this).1
      · cases g with
        | s => exact h.elim
        | r => exact (hg rfl).elim
        | d => exact ((hd rfl).2 a (by simp only [adss]; exact List.mem_append_left _ h)).1
    have k2 := k.set vx (fun a h => by
      obtain ⟨h1, h2⟩ := owx a h
      exact ((hd h1).2 a (by simp [adss, h2])).2) i (fun j g' t' v' hij e => by
      obtain ⟨s1, s2⟩ := sp j g' t' v' e
      refine ⟨fun a h => ?_, fun a h hb => s2 a h (by simp [adss, hb])⟩
      obtain ⟨h1, h2⟩ := owx a h
      exact s1 h1 a (by simp [adss, h2]))
    refine tsetAll_st is xs ws _ ts' (m.set i (some v)) h hg k2 r2 (fun a h => ha a (by simp [adss, h])) (fun h => ?_) (fun j g' t' v' e => ?_)
    · obtain ⟨n1, n2⟩ := hd h
      simp only [adss] at n1
      exact ⟨(List.nodup_append.mp n1).2.1, fun a h => n2 a (by simp [adss, h])⟩
    · rcases at_set e with ⟨rfl, rfl, rfl, rfl⟩ | ⟨_, e⟩
      · refine ⟨fun h a ha hb => ?_, fun a h hb => ?_⟩
        · have n1 := (hd h).1
          simp only [adss] at n1
          exact (List.nodup_append.mp n1).2.2 a hb a ha rfl
        · obtain ⟨h1, h2⟩ := owx a h
          have n1 := (hd h1).1
          simp only [adss] at n1
          exact (List.nodup_append.mp n1).2.2 a h2 a hb rfl
      · obtain ⟨s1, s2⟩ := sp j g' t' v' e
        exact ⟨fun h a ha => s1 h a (by simp [adss, ha]), fun a h hb => s2 a h (by simp [adss, hb])⟩
  | [], x :: xs, vs, ts, ts', m, h, _, _, _, _, _, _ => by cases h
  | i :: is, [], vs, ts, ts', m, h, _, _, _, _, _, _ => by cases h
theorem tset_st {tg : Tg} {g : G} {t : TV} {v : MV} {ts' : TSl} (h : tset tg g t ts = some ts') (k : SOK W R N Fr M ts m) (hv : VOK W R N M g t v) (hf : ∀ a, ow g M t v a → ¬ Fr a) (sp : Sep M ts m g t v) : ∃ m', tg.set v m = some m' ∧ SOK W R N Fr M ts' m' := by
  cases tg with
  | nm i =>
    cases h
    exact ⟨_, rfl, k.set hv hf i fun j g' t' v' _ e => sp j g' t' v' e⟩
  | tp is =>
    simp only [tset] at h
    split at h <;> first | (cases h; done) | skip
    rename_i us
    obtain ⟨vs, rfl, r⟩ := rep_tup hv.rep
    have had : ∀ a, a ∈ adss M us vs ↔ a ∈ ads M (.tup us) (.tup vs) := fun a => by simp [ads]
    refine tsetAll_st is _ vs ts ts' m h (by cases g <;> simp [gsub]) k r (fun a ha => hv.adr a ((had a).mp ha)) (fun hd => ?_) (fun j g' t' v' e => ?_)
    · have hg : g = .d := by cases g <;> simp [gsub] at hd <;> rfl
      subst hg
      have o : (ads M (.tup us) (.tup vs)).Nodup := hv.own
      simp only [ads] at o
      exact ⟨o, fun a ha => ⟨hv.new a ((had a).mp ha), hf a ((had a).mp ha)⟩⟩
    · obtain ⟨s1, s2⟩ := sp j g' t' v' e
      refine ⟨fun hd a ha => ?_, fun a ha hb => s2 a ha ((had a).mp hb)⟩
      have hg : g = .d := by cases g <;> simp [gsub] at hd <;> rfl
      subst hg
      exact s1 a ((had a).mp ha)

/-! ### writing a list -/
theorem get_set_ne {p a : Nat} {us : List MV} (h : a ≠ p) : (M.set p us)[a]? = M[a]? := List.getElem?_set_ne (Ne.symm h)
theorem mut_ok (k : SOK W R N Fr M ts m) {x p : Nat} {g g' : G} {xs xs' : List TV} {us us' : List MV} (e : At ts m x g (.lst xs) (.lst p)) (hg : g ≠ .s) (hm : M[p]? = some us) (hr : reps W M xs' us') (c1 : p ∉ adss M xs' us') (c2 : ∀ a ∈ adss M xs' us', R a ∨ N ≤ a) (c3 : g' = .d → (adss M xs' us').Nodup ∧ ∀ a ∈ adss M xs' us', N ≤ a ∧ ¬ Fr a)
    (c4 : ∀ j g2 t2 v2, x ≠ j → At ts m j g2 t2 v2 → (∀ a, ow g2 M t2 v2 a → a ∉ adss M xs' us') ∧ (g' = .d → ∀ a ∈ adss M xs' us', a ∉ ads M t2 v2)) (hs : W.St s M) : SOK W R N Fr (M.set p us') (ts.set x (some (g', .lst xs'))) m ∧ (∀ a, Fr a → (M.set p us')[a]? = M[a]?) ∧ W.St s (M.set p us') := by
  have r0 := k.sr.at_ e
  obtain ⟨p', us0, e0, hq, hm0, rr, he⟩ := rep_lst r0
  cases e0
  have op : ow g M (.lst xs) (.lst p) p := by
    cases g with
    | s => exact (hg rfl).elim
    | r => exact ⟨xs, rfl, rfl⟩
    | d =>
      show p ∈ ads _ _ _
      rw [he]
      simp
  have np := k.new x _ _ _ e p op
  have lp : p < M.length := (List.getElem?_eq_some_iff.mp hm).1
  have e1 : ∀ a ∈ adss M xs' us', (M.set p us')[a]? = M[a]? := fun a ha => get_set_ne fun z => c1 (z ▸ ha)
  obtain ⟨q1, q2⟩ := reps_same xs' us' hr e1
  have hp : (M.set p us')[p]? = some us' := List.getElem?_set_self lp
  have hrep : rep W (M.set p us') (.lst xs') (.lst p) := by
    unfold rep
    exact ⟨p, us', rfl, hq, hp, q1⟩
  have hads : ads (M.set p us') (.lst xs') (.lst p) = p :: adss M xs' us' := by simp [ads, hp, q2]
  -- the other slots
  have kd := k.drop x
  have at_d : ∀ j g t v, At (ts.set x none) m j g t v → x ≠ j ∧ At ts m j g t v := by
    rintro j g t v ⟨h1, h2⟩
    by_cases hij : x = j
    · subst hij
      rw [List.getElem?_set_self (List.getElem?_eq_some_iff.mp e.1).1] at h1
      cases h1
    · rw [List.getElem?_set_ne hij] at h1
      exact ⟨hij, h1, h2⟩
  have sm : ∀ j g t v, At (ts.set x none) m j g t v → ∀ a ∈ ads M t v, (M.set p us')[a]? = M[a]? := by
    intro j g2 t2 v2 ej a ha
    obtain ⟨h1, h2⟩ := at_d _ _ _ _ ej
    exact get_set_ne fun z => k.dis x j _ _ _ _ _ _ h1 e h2 p op (z ▸ ha)
  have kd2 := kd.same (M' := M.set p us') sm
  have hv : VOK W R N (M.set p us') g' (.lst xs') (.lst p) := by
    refine ⟨hrep, fun a ha => ?_, ?_, fun a ha => ?_⟩
    · rw [hads] at ha
      rcases List.mem_cons.mp ha with rfl | ha
      · exact .inr np.1
      · exact c2 a ha
    · cases g' with
      | s => trivial
      | r =>
        intro ts' ht
        cases ht
        refine ⟨p, rfl, ?_⟩
        rw [hp, Option.getD_some, q2]
        exact c1
      | d =>
        show (ads _ _ _).Nodup
        rw [hads]
        exact List.nodup_cons.mpr ⟨c1, (c3 rfl).1⟩
    · have := ow_ads ha
      rw [hads] at this
      rcases List.mem_cons.mp this with rfl | hb
      · exact np.1
      · cases g' with
        | s => exact ha.elim
        | r =>
          obtain ⟨ts', h1, h2⟩ := ha
          cases h2
          exact np.1
        | d => exact ((c3 rfl).2 a hb).1
  have kk := kd2.set hv (fun a ha => by
    have := ow_ads ha
    rw [hads] at this
    rcases List.mem_cons.mp this with rfl | hb
    · exact np.2
    · cases g' with
      | s => exact ha.elim
      | r =>
        obtain ⟨ts', h1, h2⟩ := ha
        cases h2
        exact np.2
      | d => exact ((c3 rfl).2 a hb).2) x (fun j g2 t2 v2 hj ej => by
    have ej' := ej
    obtain ⟨h1, h2⟩ := at_d _ _ _ _ ej
    have rs := rep_same t2 v2 (k.sr.at_ h2) (sm j g2 t2 v2 ej)
    obtain ⟨d1, d2⟩ := c4 j g2 t2 v2 h1 h2
    refine ⟨fun a ha hb => ?_, fun a ha hb => ?_⟩
    · rw [rs.2] at hb
      have := ow_ads ha
      rw [hads] at this
      rcases List.mem_cons.mp this with rfl | hc
      · exact k.dis x j _ _ _ _ _ _ h1 e h2 _ op hb
      · cases g' with
        | s => exact ha.elim
        | r =>
          obtain ⟨ts', h1', h2'⟩ := ha
          cases h2'
          exact c1 hc
        | d => exact d2 rfl a hc hb
    · have ha' := (ow_same (k.sr.at_ h2) (sm j g2 t2 v2 ej)).mp ha
      rw [hads] at hb
      rcases List.mem_cons.mp hb with rfl | hb
      · exact k.dis x j _ _ _ _ _ _ h1 e h2 _ op (ow_ads ha')
      · exact d1 a ha' hb)
  have em : m.set x (some (.lst p)) = m := by
    obtain ⟨l, el⟩ := List.getElem?_eq_some_iff.mp e.2
    rw [← el]
    exact List.set_getElem_self l
  rw [em] at kk
  have et : (ts.set x none).set x (some (g', TV.lst xs')) = ts.set x (some (g', TV.lst xs')) := List.set_set ..
  rw [et] at kk
  exact ⟨kk, fun a ha => get_set_ne fun z => np.2 (z ▸ ha), W.keep _ _ _ hs fun a ha => get_set_ne fun z => hq (z ▸ ha)⟩
end
end TM

set_option Elab.async false
set_option linter.all false
set_option maxRecDepth 100000
set_option autoImplicit false
set_option maxHeartbeats 2000000
/-! TM, part g: statements over trees are those over the small heap. -/
namespace TM
open PySem MP
section
variable {S : Type} {W : Wd S} {M M' M1 M2 : MH} {R Fr Re : Nat → Prop} {N : Nat} {s : S} {ts : TSl} {m : Sl}
theorem gput_ok {g g' : G} {xs : List TV} {w : G × TV} (h : gput g g' xs = some w) : g ≠ .s ∧ w.2 = .lst xs ∧ (w.1 = .d → noLs xs = true ∨ (g = .d ∧ g' = .d)) := by
  unfold gput gl at h
  cases g with
  | s => cases h
  | r =>
    cases h
    refine ⟨by simp, rfl, fun e => ?_⟩
    by_cases hn : noLs xs = true
    · exact .inl hn
    · simp [hn] at e
  | d =>
    cases h
    refine ⟨by simp, rfl, fun e => ?_⟩
    by_cases hn : noLs xs = true
    · exact .inl hn
    · cases g' <;> simp [hn] at e
      exact .inr ⟨rfl, rfl⟩
/-- the list of the slot x written; zs: what comes in -/
theorem mut_gen (k : SOK W R N Fr M ts m) {x p : Nat} {g g'' : G} {xs xs' zs : List TV} {us us' ys : List MV} {w : G × TV} (e : At ts m x g (.lst xs) (.lst p)) (hg : gput g g'' xs' = some w) (hm : M[p]? = some us) (hr0 : reps W M xs us) (hr : reps W M xs' us') (hp : ∃ l, (adss M xs us ++ adss M zs ys).Perm (adss M xs' us' ++ l))
    (z1 : ∀ a ∈ adss M zs ys, R a ∨ N ≤ a) (z2 : g'' = .d → (adss M zs ys).Nodup ∧ ∀ a ∈ adss M zs ys, N ≤ a ∧ ¬ Fr a) (z3 : ∀ j g2 t2 v2, At ts m j g2 t2 v2 → (g'' = .d → ∀ a ∈ adss M zs ys, a ∉ ads M t2 v2) ∧ ∀ a, ow g2 M t2 v2 a → a ∉ adss M zs ys) (hs : W.St s M) :
    SOK W R N Fr (M.set p us') (ts.set x (some w)) m ∧ (∀ a, Fr a → (M.set p us')[a]? = M[a]?) ∧ W.St s (M.set p us') := by
  obtain ⟨h1, h2, h3⟩ := gput_ok hg
  obtain ⟨l, hp⟩ := hp
  have hw : w = (w.1, .lst xs') := by rw [← h2]
  have he : ads M (.lst xs) (.lst p) = p :: adss M xs us := by simp [ads, hm]
  have mem : ∀ a ∈ adss M xs' us', a ∈ adss M xs us ∨ a ∈ adss M zs ys := fun a ha => List.mem_append.mp (hp.symm.subset (List.mem_append_left _ ha))
  have op : ow g M (.lst xs) (.lst p) p := by
    cases g with
    | s => exact (h1 rfl).elim
    | r => exact ⟨xs, rfl, rfl⟩
    | d =>
      show p ∈ ads _ _ _
      rw [he]
      simp
  have pn : p ∉ adss M xs us := by
    have o := k.own x _ _ _ e
    cases g with
    | s => exact (h1 rfl).elim
    | r =>
      obtain ⟨a, ea, o⟩ := o xs rfl
      cases ea
      rw [hm] at o
      exact o
    | d =>
      have o : (ads M (.lst xs) (.lst p)).Nodup := o
      rw [he] at o
      exact (List.nodup_cons.mp o).1
  rw [hw]
  refine mut_ok k e h1 hm hr (fun hq => ?_) (fun a ha => ?_) (fun hd => ?_) (fun j g2 t2 v2 hj ej => ⟨fun a ha hb => ?_, fun hd a ha hb => ?_⟩) hs
  · exact (mem p hq).elim pn ((z3 x _ _ _ e).2 p op)
  · exact (mem a ha).elim (fun h => k.adr x _ _ _ e a (by rw [he]; exact List.mem_cons_of_mem _ h)) (z1 a)
  · rcases h3 hd with hn | ⟨rfl, rfl⟩
    · have := noLs_adss (M := M) xs' us' hn
      rw [this]
      exact ⟨List.nodup_nil, fun a ha => by simp at ha⟩
    · have o : (ads M (.lst xs) (.lst p)).Nodup := k.own x _ _ _ e
      rw [he] at o
      obtain ⟨n1, n2⟩ := z2 rfl
      refine ⟨(List.nodup_append.mp (hp.nodup_iff.mp (List.nodup_append.mpr ⟨(List.nodup_cons.mp o).2, n1, fun a ha b hb hab => ?_⟩))).1, fun a ha => ?_⟩
      · subst hab
        exact (z3 x _ _ _ e).1 rfl a hb (by rw [he]; exact List.mem_cons_of_mem _ ha)
      · exact (mem a ha).elim (fun h => k.new x _ _ _ e a (show a ∈ ads _ _ _ by rw [he]; exact List.mem_cons_of_mem _ h)) (n2 a)
  · exact (mem a hb).elim (fun h => k.dis j x _ _ _ _ _ _ (Ne.symm hj) ej e a ha (by rw [he]; exact List.mem_cons_of_mem _ h)) ((z3 j _ _ _ ej).2 a ha)
  · rcases h3 hd with hn | ⟨rfl, rfl⟩
    · rw [noLs_adss (M := M) xs' us' hn] at ha
      simp at ha
    · exact (mem a ha).elim (fun h => k.dis x j _ _ _ _ _ _ hj e ej a (show a ∈ ads _ _ _ by rw [he]; exact List.mem_cons_of_mem _ h) hb) fun h => (z3 j _ _ _ ej).1 rfl a h hb
theorem one_in {g : G} {t : TV} {v : MV} (hv : VOK W R N M g t v) (hf : ∀ a, ow g M t v a → ¬ Fr a) (sp : Sep M ts m g t v) : (∀ a ∈ adss M [t] [v], R a ∨ N ≤ a) ∧ (g = .d → (adss M [t] [v]).Nodup ∧ ∀ a ∈ adss M [t] [v], N ≤ a ∧ ¬ Fr a) ∧ (∀ j g2 t2 v2, At ts m j g2 t2 v2 → (g = .d → ∀ a ∈ adss M [t] [v], a ∉ ads M t2 v2) ∧ ∀ a, ow g2 M t2 v2 a → a ∉ adss M [t] [v]) := by
  have e : adss M [t] [v] = ads M t v := by simp [adss]
  rw [e]
  refine ⟨hv.adr, fun hg => ?_, fun j g2 t2 v2 ej => ?_⟩
  · subst hg
    exact ⟨hv.own, fun a ha => ⟨hv.new a ha, hf a ha⟩⟩
  · refine ⟨fun hg => ?_, (sp j _ _ _ ej).2⟩
    subst hg
    exact (sp j _ _ _ ej).1
theorem none_in : (∀ a ∈ adss M [] [], R a ∨ N ≤ a) ∧ (G.d = .d → (adss M [] []).Nodup ∧ ∀ a ∈ adss M [] [], N ≤ a ∧ ¬ Fr a) ∧ (∀ j g2 t2 v2, At ts m j g2 t2 v2 → (G.d = .d → ∀ a ∈ adss M [] [], a ∉ ads M t2 v2) ∧ ∀ a, ow g2 M t2 v2 a → a ∉ adss M [] []) := by
  have e : adss M [] [] = [] := rfl
  rw [e]
  simp
theorem perm1 {A B C : List Nat} : ((A ++ B) ++ C).Perm ((A ++ (C ++ B)) ++ []) := by
  rw [List.append_nil, List.append_assoc]
  exact List.Perm.append_left _ List.perm_append_comm
theorem perm2 {A B C V : List Nat} : ((A ++ (B ++ C)) ++ V).Perm ((A ++ (V ++ C)) ++ B) :=
  List.perm_iff_count.mpr fun a => by
    simp only [List.count_append]
    omega
theorem reps_mid {ts us : List TV} {xs ys : List MV} {j : Nat} (h : reps W M ts xs) (h2 : reps W M us ys) (k : Nat) : reps W M (ts.take j ++ us ++ ts.drop k) (xs.take j ++ ys ++ xs.drop k) ∧ adss M (ts.take j ++ us ++ ts.drop k) (xs.take j ++ ys ++ xs.drop k) = adss M (ts.take j) (xs.take j) ++ (adss M us ys ++ adss M (ts.drop k) (xs.drop k)) := by
  have a1 := (reps_split j h).1
  have a2 := (reps_split k h).2
  refine ⟨reps_append (reps_append a1 h2) a2, ?_⟩
  rw [adss_append (by simp [reps_len h, reps_len h2]), adss_append (reps_len a1), List.append_assoc]
theorem tmth_ok {b : Mt} {u : GV} {ws : List GV} {vs : List MV} {w y : GV} {x L : Nat} {v : MV} (h : tmth b u ws = some (w, y)) (k : SOK W R N Fr M ts m) (e : At ts m x u.1 u.2 v) (hv : VsOK W R N M ws vs) (sp : ∀ (i : Nat) (w : GV) (v : MV), ws[i]? = some w → vs[i]? = some v → Sep M ts m w.1 w.2 v ∧ ∀ a, ow w.1 M w.2 v a → L ≤ a) (hL : ∀ a, Fr a → a < L) (hs : W.St s M) :
    ∃ r M2, mtop b v vs M = .ok r M2 ∧ M2.length = M.length ∧ (∀ a, Fr a → M2[a]? = M[a]?) ∧ W.St s M2 ∧ SOK W R N Fr M2 (ts.set x (some w)) m ∧ (noL y.2 = true → rep W M2 y.2 r) := by
  have keep : ∀ {t : TV} {z : MV} {M2 : MH}, rep W M t z → noL t = true → rep W M2 t z := fun hr hn => (rep_same _ _ hr (by rw [noL_ads _ _ hn]; simp)).1
  obtain ⟨g, t⟩ := u
  have nf : ∀ (i : Nat) (w : GV) (v : MV), ws[i]? = some w → vs[i]? = some v → ∀ a, ow w.1 M w.2 v a → ¬ Fr a := fun i w v h1 h2 a ha hf => by
    have := (sp i w v h1 h2).2 a ha
    have := hL a hf
    omega
  have one : ∀ (u : GV), VsOK W R N M [u] vs → ∃ x, vs = [x] ∧ VOK W R N M u.1 u.2 x := by
    intro u hu
    unfold VsOK at hu
    obtain ⟨v, vs', rfl, h1, h2, _⟩ := hu
    unfold VsOK at h2
    subst h2
    exact ⟨v, rfl, h1⟩
  unfold tmth at h
  simp only at h e
  split at h
  · rename_i xs vw
    split at h <;> first | (cases h; done) | skip
    rename_i hlim
    simp only [Option.map_eq_some_iff] at h
    obtain ⟨w', hg, ew⟩ := h
    cases ew
    obtain ⟨z, rfl, hz⟩ := one _ hv
    obtain ⟨p, us, rfl, hq, hm, r, he⟩ := rep_lst (k.sr.at_ e)
    obtain ⟨s1, s2⟩ := sp 0 vw z rfl rfl
    obtain ⟨i1, i2, i3⟩ := one_in hz (nf 0 vw z rfl rfl) s1
    have rz : reps W M [vw.2] [z] := reps_cons hz.rep reps_nil
    obtain ⟨q1, q2, q3⟩ := mut_gen k e hg hm r (reps_append r rz) ⟨[], by rw [adss_append (reps_len r), List.append_nil]⟩ i1 i2 i3 hs
    exact ⟨.non, _, p_app M hm (by rw [← reps_len r]; exact hlim), by simp, q2, q3, q1, fun _ => by unfold rep; rfl⟩
  · rename_i xs iw vw
    split at h <;> first | (cases h; done) | skip
    rename_i i hi
    split at h <;> first | (cases h; done) | skip
    rename_i hlim
    simp only [Option.map_eq_some_iff] at h
    obtain ⟨w', hg, ew⟩ := h
    cases ew
    have hv' := hv
    unfold VsOK at hv'
    obtain ⟨z0, vs', rfl, hz0, hv', _⟩ := hv'
    unfold VsOK at hv'
    obtain ⟨z, vs', rfl, hz, hv', _⟩ := hv'
    unfold VsOK at hv'
    subst hv'
    obtain ⟨p, us, rfl, hq, hm, r, he⟩ := rep_lst (k.sr.at_ e)
    obtain ⟨s1, s2⟩ := sp 1 vw z rfl rfl
    obtain ⟨i1, i2, i3⟩ := one_in hz (nf 1 vw z rfl rfl) s1
    have rz : reps W M [vw.2] [z] := reps_cons hz.rep reps_nil
    obtain ⟨m1, m2⟩ := reps_mid (j := i.toNat) r rz i.toNat
    obtain ⟨q1, q2, q3⟩ := mut_gen k e hg hm r m1 ⟨[], by
      rw [m2, adss_split i.toNat r]
      exact perm1⟩ i1 i2 i3 hs
    rw [int_val hz0.rep hi]
    exact ⟨.non, _, p_ins M hm (by rw [← reps_len r]; exact hlim.1) hlim.2, by simp, q2, q3, q1, fun _ => by unfold rep; rfl⟩
  · rename_i xs vw
    split at h <;> first | (cases h; done) | skip
    rename_i ys hy
    split at h <;> first | (cases h; done) | skip
    rename_i hlim
    simp only [Option.map_eq_some_iff] at h
    obtain ⟨w', hg, ew⟩ := h
    cases ew
    obtain ⟨z, rfl, hz⟩ := one _ hv
    obtain ⟨p, us, rfl, hq, hm, r, he⟩ := rep_lst (k.sr.at_ e)
    obtain ⟨s1, s2⟩ := sp 0 vw z rfl rfl
    have nfz := nf 0 vw z rfl rfl
    obtain ⟨gv, tv⟩ := vw
    simp only at hy
    subst hy
    simp only at hz s1 nfz hg
    obtain ⟨q, vs, rfl, hq', hm', r', he'⟩ := rep_lst hz.rep
    have sub : ∀ a ∈ adss M ys vs, a ∈ ads M (.lst ys) (.lst q) := fun a ha => by rw [he']; exact List.mem_cons_of_mem _ ha
    have gd : gsub gv = .d → gv = .d := by cases gv <;> simp [gsub]
    obtain ⟨q1, q2, q3⟩ := mut_gen (zs := ys) (ys := vs) k e hg hm r (reps_append r r') ⟨[], by rw [adss_append (reps_len r), List.append_nil]⟩ (fun a ha => hz.adr a (sub a ha)) (fun hd => by
      have hd := gd hd
      subst hd
      have o : (ads M (.lst ys) (.lst q)).Nodup := hz.own
      rw [he'] at o
      exact ⟨(List.nodup_cons.mp o).2, fun a ha => ⟨hz.new a (sub a ha), nfz a (sub a ha)⟩⟩) (fun j g2 t2 v2 ej => by
      refine ⟨fun hd a ha => ?_, fun a ha hb => (s1 j _ _ _ ej).2 a ha (sub a hb)⟩
      have hd := gd hd
      subst hd
      exact (s1 j _ _ _ ej).1 a (sub a ha)) hs
    exact ⟨.non, _, p_ext M hm hm' (by rw [← reps_len r, ← reps_len r']; exact hlim), by simp, q2, q3, q1, fun _ => by unfold rep; rfl⟩
  · rename_i xs
    split at h <;> first | (cases h; done) | skip
    rename_i y hy
    simp only [Option.map_eq_some_iff] at h
    obtain ⟨w', hg, ew⟩ := h
    cases ew
    unfold VsOK at hv
    subst hv
    obtain ⟨p, us, rfl, hq, hm, r, he⟩ := rep_lst (k.sr.at_ e)
    obtain ⟨i1, i2, i3⟩ := none_in (M := M) (R := R) (N := N) (Fr := Fr) (ts := ts) (m := m)
    obtain ⟨z, hz, rzz⟩ := reps_get r hy
    have hl := reps_len r
    have e1 : xs.dropLast = xs.take (xs.length - 1) := List.dropLast_eq_take
    have e2 : us.dropLast = us.take (xs.length - 1) := by rw [List.dropLast_eq_take, hl]
    rw [e1] at hg
    obtain ⟨q1, q2, q3⟩ := mut_gen k e hg hm r (reps_split _ r).1 ⟨adss M (xs.drop (xs.length - 1)) (us.drop (xs.length - 1)), by
      rw [adss_split (xs.length - 1) r]
      simp [adss]⟩ i1 i2 i3 hs
    refine ⟨z, M.set p (us.take (xs.length - 1)), ?_, by simp, q2, q3, q1, fun hn => keep rzz hn⟩
    rw [← e2]
    rw [hl] at hz
    simp [mtop, hm, hz]
  · rename_i xs iw
    split at h <;> first | (cases h; done) | skip
    rename_i i hi
    split at h <;> first | (cases h; done) | skip
    rename_i j hj
    split at h <;> first | (cases h; done) | skip
    rename_i y hy
    split at h <;> first | (cases h; done) | skip
    rename_i hlim
    simp only [Option.map_eq_some_iff] at h
    obtain ⟨w', hg, ew⟩ := h
    cases ew
    obtain ⟨z0, rfl, hz0⟩ := one _ hv
    obtain ⟨p, us, rfl, hq, hm, r, he⟩ := rep_lst (k.sr.at_ e)
    obtain ⟨i1, i2, i3⟩ := none_in (M := M) (R := R) (N := N) (Fr := Fr) (ts := ts) (m := m)
    obtain ⟨z, hz, rzz⟩ := reps_get r hy
    have hl := reps_len r
    have e1 : xs.eraseIdx j = xs.take j ++ [] ++ xs.drop (j + 1) := by rw [List.append_nil, List.eraseIdx_eq_take_drop_succ]
    have e2 : us.eraseIdx j = us.take j ++ [] ++ us.drop (j + 1) := by rw [List.append_nil, List.eraseIdx_eq_take_drop_succ]
    rw [e1] at hg
    obtain ⟨m1, m2⟩ := reps_mid (j := j) r (reps_nil (W := W) (M := M)) (j + 1)
    obtain ⟨q1, q2, q3⟩ := mut_gen k e hg hm r m1 ⟨ads M y z, by
      rw [m2, adss_get r hy hz]
      exact perm2⟩ i1 i2 i3 hs
    rw [int_val hz0.rep hi]
    rw [← e2] at q1 q2 q3
    exact ⟨z, M.set p (us.eraseIdx j), p_popAt M hm (by rw [← hl]; exact hj) hz (by rw [← hl]; exact hlim), by simp, q2, q3, q1, fun hn => keep rzz hn⟩
  · cases h
/-- what is popped from a list whose root is held alone -/
theorem pop_r {u : GV} {iw : TV} {vs : List MV} {w y : GV} {x L : Nat} {v : MV} (h : tmth .pop u [(.d, iw)] = some (w, y)) (hu : u.1 = .r) (k : SOK W R N Fr M ts m) (e : At ts m x u.1 u.2 v) (hv : VsOK W R N M [(.d, iw)] vs) (hs : W.St s M) :
    ∃ r M2, mtop .pop v vs M = .ok r M2 ∧ M2.length = M.length ∧ (∀ a, Fr a → M2[a]? = M[a]?) ∧ W.St s M2 ∧ SOK W R N Fr M2 (ts.set x (some w)) m ∧ VOK W R N M2 .s y.2 r ∧ Sep M2 (ts.set x (some w)) m .s y.2 r := by
  obtain ⟨g, t⟩ := u
  simp only at hu
  subst hu
  unfold tmth at h
  simp only at h e
  split at h <;> first | (cases h; done) | skip
  all_goals first
    | (rename_i h0 _ _; cases h0; done)
    | (rename_i h0 _; cases h0; done)
    | (rename_i h0; cases h0; done)
    | skip
  rename_i xs iw' _ hiw
  cases hiw
  split at h <;> first | (cases h; done) | skip
  rename_i i hi
  split at h <;> first | (cases h; done) | skip
  rename_i j hj
  split at h <;> first | (cases h; done) | skip
  rename_i y hy
  split at h <;> first | (cases h; done) | skip
  rename_i hlim
  simp only [Option.map_eq_some_iff] at h
  obtain ⟨w', hg, ew⟩ := h
  cases ew
  have hv' := hv
  unfold VsOK at hv'
  obtain ⟨z0, vs', rfl, hz0, hv', _⟩ := hv'
  unfold VsOK at hv'
  subst hv'
  obtain ⟨p, us, rfl, hq, hm, r, he⟩ := rep_lst (k.sr.at_ e)
  obtain ⟨i1, i2, i3⟩ := none_in (M := M) (R := R) (N := N) (Fr := Fr) (ts := ts) (m := m)
  obtain ⟨z, hz, rzz⟩ := reps_get r hy
  have hl := reps_len r
  have e1 : xs.eraseIdx j = xs.take j ++ [] ++ xs.drop (j + 1) := by rw [List.append_nil, List.eraseIdx_eq_take_drop_succ]
  have e2 : us.eraseIdx j = us.take j ++ [] ++ us.drop (j + 1) := by rw [List.append_nil, List.eraseIdx_eq_take_drop_succ]
  have hg0 := hg
  rw [e1] at hg
  obtain ⟨m1, m2⟩ := reps_mid (j := j) r (reps_nil (W := W) (M := M)) (j + 1)
  obtain ⟨q1, q2, q3⟩ := mut_gen k e hg hm r m1 ⟨ads M y z, by
    rw [m2, adss_get r hy hz]
    exact perm2⟩ i1 i2 i3 hs
  rw [int_val hz0.rep hi]
  rw [← e2] at q1 q2 q3
  have he' : ads M (.lst xs) (.lst p) = p :: adss M xs us := by simp [ads, hm]
  have sub : ∀ a ∈ ads M y z, a ∈ adss M xs us := fun a ha => by
    rw [adss_get r hy hz]
    exact List.mem_append_right _ (List.mem_append_left _ ha)
  have pn : p ∉ adss M xs us := by
    obtain ⟨a, ea, o⟩ := k.own x _ _ _ e xs rfl
    cases ea
    rw [hm] at o
    exact o
  have op : ow .r M (.lst xs) (.lst p) p := ⟨xs, rfl, rfl⟩
  have same : ∀ a ∈ ads M y z, (M.set p (us.eraseIdx j))[a]? = M[a]? := fun a ha => List.getElem?_set_ne fun ea => pn (by rw [ea]; exact sub a ha)
  obtain ⟨r1, r2⟩ := rep_same y z rzz same
  refine ⟨z, M.set p (us.eraseIdx j), p_popAt M hm (by rw [← hl]; exact hj) hz (by rw [← hl]; exact hlim), by simp, q2, q3, q1, ⟨r1, fun a ha => ?_, trivial, fun a ha => ha.elim⟩, fun i' g' t' v' ej => ⟨fun a ha => ha.elim, fun a ha hb => ?_⟩⟩
  · rw [r2] at ha
    exact k.adr x _ _ _ e a (by rw [he']; exact List.mem_cons_of_mem _ (sub a ha))
  · rw [r2] at hb
    have hsub := sub a hb
    by_cases hx : x = i'
    · subst hx
      have hlx : x < ts.length := (List.getElem?_eq_some_iff.mp e.1).1
      obtain ⟨h1, h2⟩ := ej
      rw [List.getElem?_set_self hlx] at h1
      cases h1
      rw [e.2] at h2
      cases h2
      obtain ⟨_, c2, c3⟩ := gput_ok hg0
      have ap : a = p := by
        simp only at c2 c3
        cases hw : g' with
        | s =>
          subst hw
          exact ha.elim
        | r =>
          subst hw
          obtain ⟨_, _, ea⟩ := ha
          cases ea
          rfl
        | d =>
          subst hw
          have hn : noLs (xs.eraseIdx j) = true := (c3 rfl).elim id fun h => by cases h.1
          have ha : a ∈ ads (M.set p (us.eraseIdx j)) t' (.lst p) := ha
          have hp : p < M.length := (List.getElem?_eq_some_iff.mp hm).1
          have hp2 : (M.set p (us.eraseIdx j))[p]? = some (us.eraseIdx j) := List.getElem?_set_self hp
          rw [c2] at ha
          simp only [ads, hp2, noLs_adss _ _ hn, List.mem_cons, List.not_mem_nil, or_false, Option.getD_some] at ha
          exact ha
      rw [ap] at hsub
      exact pn hsub
    · have ej' : At ts m i' g' t' v' := ⟨by rw [← ej.1]; exact (List.getElem?_set_ne hx).symm, ej.2⟩
      have pnj : p ∉ ads M t' v' := k.dis x i' _ _ _ _ _ _ hx e ej' p op
      have ha' : ow g' M t' v' a := (ow_same (k.sr.at_ ej') fun b hb => List.getElem?_set_ne fun eb => pnj (by rw [eb]; exact hb)).mp ha
      exact k.dis i' x _ _ _ _ _ _ (Ne.symm hx) ej' e a ha' (by rw [he']; exact List.mem_cons_of_mem _ hsub)
end
end TM

set_option Elab.async false
set_option linter.all false
set_option maxRecDepth 100000
set_option autoImplicit false
set_option maxHeartbeats 4000000
/-! TM, part q: values made of slots that are not read again. -/
namespace TM
open PySem MP
variable {S : Type} {W : Wd S} {M M0 M1 M2 : MH} {R Fr : Nat → Prop} {N : Nat} {ts : TSl} {m : Sl} {s : S}
/-- slots that are held alone -/
def Rq (M : MH) (ts : TSl) (m : Sl) (is : List Nat) (a : Nat) : Prop := ∃ i ∈ is, ∃ t v, At ts m i .d t v ∧ a ∈ ads M t v
/-- a value held alone, made of slots' parts and new lists -/
structure Mo (W : Wd S) (M : MH) (ts : TSl) (m : Sl) (N : Nat) (is : List Nat) (M1 : MH) (t : TV) (z : MV) : Prop where
  rep : rep W M1 t z
  nd : (ads M1 t z).Nodup
  lo : ∀ a ∈ ads M1 t z, N ≤ a
  co : ∀ a ∈ ads M1 t z, Rq M ts m is a ∨ M.length ≤ a
structure Mos (W : Wd S) (M : MH) (ts : TSl) (m : Sl) (N : Nat) (is : List Nat) (M1 : MH) (t : List TV) (z : List MV) : Prop where
  rep : reps W M1 t z
  nd : (adss M1 t z).Nodup
  lo : ∀ a ∈ adss M1 t z, N ≤ a
  co : ∀ a ∈ adss M1 t z, Rq M ts m is a ∨ M.length ≤ a
theorem Mo.vok {is : List Nat} {t : TV} {z : MV} (h : Mo W M ts m N is M1 t z) : VOK W R N M1 .d t z := ⟨h.rep, fun a ha => .inr (h.lo a ha), h.nd, fun a ha => h.lo a ha⟩
theorem Mo.vos {is : List Nat} {t : TV} {z : MV} (h : Mo W M ts m N is M1 t z) : VOK W (Rq M ts m is) M.length M1 .s t z := ⟨h.rep, h.co, trivial, fun a ha => ha.elim⟩
theorem Mo.mk2 {is : List Nat} {g : G} {t : TV} {z : MV} (h1 : VOK W R N M1 .d t z) (h2 : VOK W (Rq M ts m is) M.length M1 g t z) : Mo W M ts m N is M1 t z := ⟨h1.rep, h1.own, fun a ha => h1.new a ha, h2.adr⟩
theorem Mo.gro {is : List Nat} {t : TV} {z : MV} (h : Mo W M ts m N is M1 t z) (k : Gro W M1 M2) : Mo W M ts m N is M2 t z := by
  obtain ⟨h1, h2⟩ := rep_same t z h.rep (k.same h.rep)
  exact ⟨h1, by rw [h2]; exact h.nd, fun a ha => h.lo a (h2 ▸ ha), fun a ha => h.co a (h2 ▸ ha)⟩
theorem Rq.gro {is : List Nat} {a : Nat} (k : SOK W R N Fr M ts m) (g : Gro W M M1) (h : Rq M1 ts m is a) : Rq M ts m is a := by
  obtain ⟨i, hi, t, v, e, ha⟩ := h
  rw [(rep_same t v (k.sr.at_ e) (g.same (k.sr.at_ e))).2] at ha
  exact ⟨i, hi, t, v, e, ha⟩
theorem Rq.lt {is : List Nat} {a : Nat} (k : SOK W R N Fr M ts m) (h : Rq M ts m is a) : a < M.length := by
  obtain ⟨i, _, t, v, e, ha⟩ := h
  exact (ads_lt t v (k.sr.at_ e) a ha).1
theorem Mo.low {is : List Nat} {t : TV} {z : MV} (k : SOK W R N Fr M ts m) (g : Gro W M M1) (h : Mo W M1 ts m N is M2 t z) : Mo W M ts m N is M2 t z :=
  ⟨h.rep, h.nd, h.lo, fun a ha => (h.co a ha).elim (fun r => .inl (Rq.gro k g r)) fun r => .inr (Nat.le_trans g.le r)⟩
theorem Mos.low {is : List Nat} {t : List TV} {z : List MV} (k : SOK W R N Fr M ts m) (g : Gro W M M1) (h : Mos W M1 ts m N is M2 t z) : Mos W M ts m N is M2 t z :=
  ⟨h.rep, h.nd, h.lo, fun a ha => (h.co a ha).elim (fun r => .inl (Rq.gro k g r)) fun r => .inr (Nat.le_trans g.le r)⟩
theorem Mo.wide {is js : List Nat} {t : TV} {z : MV} (h : Mo W M ts m N is M1 t z) (k : ∀ i ∈ is, i ∈ js) : Mo W M ts m N js M1 t z :=
  ⟨h.rep, h.nd, h.lo, fun a ha => (h.co a ha).elim (fun ⟨i, hi, r⟩ => .inl ⟨i, k i hi, r⟩) .inr⟩
theorem dj_not {xs ys : List Nat} (h : dj xs ys = true) {i : Nat} (h1 : i ∈ xs) (h2 : i ∈ ys) : False := by
  simp only [dj, List.all_eq_true] at h
  have := h i h1
  simp [h2] at this
theorem mo_dis {is js : List Nat} {a : Nat} (k : SOK W R N Fr M ts m) (g : Gro W M M1) (h : dj is js = true) (lt : a < M1.length) (h1 : Rq M ts m is a ∨ M.length ≤ a) (h2 : Rq M1 ts m js a ∨ M1.length ≤ a) : False := by
  rcases h2 with h2 | h2
  · have h2 := Rq.gro k g h2
    rcases h1 with ⟨i, hi, t, v, e, ha⟩ | h1
    · obtain ⟨j, hj, t', v', e', ha'⟩ := h2
      exact k.dis i j .d t v .d t' v' (fun c => dj_not h (c ▸ hi) hj) e e' a ha ha'
    · have := h2.lt k
      omega
  · omega
theorem onlyD_ok {v : GV} {s s' : S} {t : TV} (h : onlyD v s = .ok t s') : v = (.d, t) ∧ s = s' := by
  obtain ⟨g, v⟩ := v
  cases g <;> simp only [onlyD] at h <;> cases h
  exact ⟨rfl, rfl⟩
/-- the plain way -/
theorem mv_plain {C : Cf} {D : TCf S} (X : Ctx W C D) {e : E} {s' : S} {t : TV} (h : (tev D e ts s).bnd onlyD = .ok t s') (k : SOK W R N Fr M ts m) (hs : W.St s M) (hN : N ≤ M.length) {is : List Nat} : ∃ z M1, ev C e m M = .ok z M1 ∧ Gro W M M1 ∧ W.St s' M1 ∧ Mo W M ts m N is M1 t z := by
  obtain ⟨w, s1, h1, h2⟩ := TR.bnd_ok h
  obtain ⟨rfl, rfl⟩ := onlyD_ok h2
  obtain ⟨z, M1, e1, k1, st1, v1, n1, _⟩ := ev_st X h1 k hs hN
  exact ⟨z, M1, e1, k1, st1, v1.rep, v1.own, fun a ha => v1.new a ha, fun a ha => .inr (n1 a ha)⟩
theorem Mo.slot {i : Nat} {t : TV} {z : MV} (k : SOK W R N Fr M ts m) (e : At ts m i .d t z) : Mo W M ts m N [i] M t z :=
  ⟨k.sr.at_ e, k.own i _ _ _ e, fun a ha => (k.new i _ _ _ e a ha).1, fun a ha => .inl ⟨i, by simp, t, z, e, ha⟩⟩
theorem out_both {is : List Nat} {X : Re MV} {g : G} {t : TV} {s' : S} (h1 : Out W R N s' M1 X (.d, t)) (h2 : Out W (Rq M ts m is) M.length s' M1 X (g, t)) : ∃ z M2, X = .ok z M2 ∧ Gro W M1 M2 ∧ W.St s' M2 ∧ Mo W M ts m N is M2 t z := by
  obtain ⟨z, M2, e1, k1, st1, v1⟩ := h1
  obtain ⟨z', M2', e2, k2, st2, v2⟩ := h2
  rw [e1] at e2
  cases e2
  exact ⟨z, M2, e1, k1, st1, Mo.mk2 v1 v2⟩
theorem tbin_s {u v t : TV} {g : G} (h : tbin .add (.d, u) (.d, v) = some (g, t)) : ∃ g', tbin .add (.s, u) (.s, v) = some (g', t) := by
  cases u <;> cases v <;> first
    | (cases h; done)
    | (cases h; exact ⟨_, rfl⟩)
    | (unfold tbin at h ⊢; simp only at h ⊢; split at h <;> cases h; rename_i q; exact ⟨_, if_pos q⟩)
theorem tidx_s {u v t : TV} {g : G} (h : tidx (.d, u) (.d, v) = some (g, t)) : ∃ g', tidx (.s, u) (.s, v) = some (g', t) := by
  unfold tidx at h ⊢
  simp only at h ⊢
  split at h <;> first | (cases h; done) | skip
  split at h <;> first | (cases h; done) | skip
  all_goals
    simp only [Option.map_eq_some_iff] at h
    obtain ⟨a, e, h⟩ := h
    cases h
    exact ⟨_, congrArg (Option.map fun x => (gr (gsub G.s) x, x)) e⟩
theorem tidx_noL {g : G} {u v t : TV} (h : tidx (g, u) (.d, v) = some (.d, t)) (hg : g ≠ .d) : noL t = true := by
  have gs : gsub g = .s := by cases g <;> first | rfl | exact absurd rfl hg
  unfold tidx at h
  simp only [gs] at h
  split at h <;> first | (cases h; done) | skip
  split at h <;> first | (cases h; done) | skip
  all_goals
    simp only [Option.map_eq_some_iff] at h
    obtain ⟨a, e, h⟩ := h
    simp only [Prod.mk.injEq] at h
    obtain ⟨h1, rfl⟩ := h
    unfold gr at h1
    split at h1 <;> first | assumption | cases h1
mutual
theorem mv_sim {C : Cf} {D : TCf S} (X : Ctx W C D) : ∀ (e : E) (ts : TSl) (m : Sl) (s s' : S) (M : MH) (t : TV), tmv D e ts s = .ok t s' → SOK W R N Fr M ts m → W.St s M → N ≤ M.length → ∃ z M1, ev C e m M = .ok z M1 ∧ Gro W M M1 ∧ W.St s' M1 ∧ Mo W M ts m N (mvF e) M1 t z
  | .var x, ts, m, s, s', M, t, h, k, hs, hN => by
    simp only [tmv] at h
    split at h <;> first | (cases h; done) | skip
    rename_i v hv
    obtain ⟨rfl, rfl⟩ := onlyD_ok h
    obtain ⟨z, em, hr⟩ := k.sr.2 x _ _ hv
    have at_ : At ts m x .d t z := ⟨hv, em⟩
    exact ⟨z, M, by simp [em], Gro.refl, hs, Mo.slot k at_⟩
  | .idx a i, ts, m, s, s', M, t, h, k, hs, hN => by
    simp only [tmv] at h
    split at h
    · rename_i x c
      split at h <;> first | (cases h; done) | skip
      rename_i v kk hv hk
      obtain ⟨w, s1, h1, h2⟩ := TR.bnd_ok h
      obtain ⟨h3, rfl⟩ := TR.of_ok h1
      obtain ⟨rfl, rfl⟩ := onlyD_ok h2
      obtain ⟨g, u⟩ := v
      obtain ⟨z, em, hr⟩ := k.sr.2 x _ _ hv
      obtain ⟨c1, c2⟩ := tcv_rep (W := W) (M := M) c kk hk
      by_cases hg : g = .d
      · subst hg
        have at_ : At ts m x .d u z := ⟨hv, em⟩
        have mo := Mo.slot k at_
        have e1 : ev C (.idx (.var x) (.cst c)) m M = idxop z c M := by simp [em]
        obtain ⟨g', h4⟩ := tidx_s h3
        have o1 := tidx_ok (R := R) h3 mo.vok c1 hs
        have o2 := tidx_ok h4 mo.vos c1 hs
        obtain ⟨y, M2, e2, k2, st2, v2⟩ := out_both o1 o2
        exact ⟨y, M2, e1.trans e2, k2, st2, v2⟩
      · have at_ : At ts m x g u z := ⟨hv, em⟩
        have nl := tidx_noL h3 hg
        have vk : VOK W R N M g u z := ⟨hr, k.adr x _ _ _ at_, k.own x _ _ _ at_, fun a ha => (k.new x _ _ _ at_ a ha).1⟩
        have e1 : ev C (.idx (.var x) (.cst c)) m M = idxop z c M := by simp [em]
        obtain ⟨y, M2, e2, k2, st2, v2⟩ := tidx_ok h3 vk c1 hs
        have no := noL_ads (M := M2) t y nl
        refine ⟨y, M2, e1.trans e2, k2, st2, v2.rep, v2.own, fun a ha => v2.new a ha, fun a ha => ?_⟩
        rw [no] at ha
        cases ha
    · exact mv_plain X h k hs hN
  | .bin o a b, ts, m, s, s', M, t, h, k, hs, hN => by
    cases o
    case add =>
      simp only [tmv] at h
      split at h <;> first | (cases h; done) | skip
      rename_i hdj
      obtain ⟨u, s1, h1, h⟩ := TR.bnd_ok h
      obtain ⟨v, s2, h2, h⟩ := TR.bnd_ok h
      obtain ⟨w, s3, h3, h4⟩ := TR.bnd_ok h
      obtain ⟨h5, rfl⟩ := TR.of_ok h3
      obtain ⟨rfl, rfl⟩ := onlyD_ok h4
      obtain ⟨x, M1, e1, k1, st1, v1⟩ := mv_sim X a ts m s s1 M u h1 k hs hN
      obtain ⟨y, M2, e2, k2, st2, v2⟩ := mv_sim X b ts m s1 _ M1 v h2 (k.gro k1) st1 (Nat.le_trans hN k1.le)
      have dis : ∀ a ∈ ads M2 u x, a ∉ ads M2 v y := fun a ha hb => by
        rw [(rep_same u x v1.rep (k2.same v1.rep)).2] at ha
        exact mo_dis k k1 hdj (ads_lt u x v1.rep a ha).1 (v1.co a ha) (v2.co a hb)
      have w1 := (v1.gro k2).wide (js := mvF a ++ mvF b) fun i hi => List.mem_append_left _ hi
      have w2 := (v2.low k k1).wide (js := mvF a ++ mvF b) fun i hi => List.mem_append_right _ hi
      obtain ⟨g', h4⟩ := tbin_s h5
      have le := (k1.trans k2).le
      have o1 := tbin_ok (R := R) h5 w1.vok w2.vok (fun _ => dis) st2 (Nat.le_trans hN le)
      have o2 := tbin_ok h4 w1.vos w2.vos (fun h => by cases h) st2 le
      obtain ⟨z, M3, e3, k3, st3, v3⟩ := out_both o1 o2
      refine ⟨z, M3, ?_, (k1.trans k2).trans k3, st3, v3⟩
      rw [e_bin, bnd_ok2 e1, k_op, bnd_ok2 e2]
      exact e3
    all_goals exact mv_plain X h k hs hN
  | .tup es, ts, m, s, s', M, t, h, k, hs, hN => by
    simp only [tmv] at h
    obtain ⟨us, s1, h1, h⟩ := TR.bnd_ok h
    cases h
    obtain ⟨vs, M1, e1, k1, st1, v1⟩ := mvs_sim X es ts m s s' M us h1 k hs hN
    refine ⟨.tup vs, M1, by rw [e_tup, bnd_ok2 e1, k_tup], k1, st1, rep_tup' v1.rep, ?_, fun a ha => ?_, fun a ha => ?_⟩
    · simpa [ads] using v1.nd
    · exact v1.lo a (by simpa [ads] using ha)
    · exact v1.co a (by simpa [ads] using ha)
  | .lst es, ts, m, s, s', M, t, h, k, hs, hN => by
    simp only [tmv] at h
    obtain ⟨us, s1, h1, h⟩ := TR.bnd_ok h
    cases h
    obtain ⟨vs, M1, e1, k1, st1, v1⟩ := mvs_sim X es ts m s s' M us h1 k hs hN
    rw [e_lst, bnd_ok2 e1]
    have o1 : Out W R N s' M1 (newL vs M1) (gl .d us, .lst us) := Out.newl st1 rfl v1.rep (fun a ha => .inr (v1.lo a ha)) (fun _ => ⟨v1.nd, v1.lo⟩) (Nat.le_trans hN k1.le)
    have o2 : Out W (Rq M ts m (mvFs es)) M.length s' M1 (newL vs M1) (gl .s us, .lst us) := Out.newl st1 rfl v1.rep v1.co (fun h => by cases h) k1.le
    have gd : gl .d us = .d := by unfold gl; split <;> rfl
    rw [gd] at o1
    obtain ⟨z, M2, e2, k2, st2, v2⟩ := out_both o1 o2
    exact ⟨z, M2, e2, k1.trans k2, st2, v2⟩
  | .ife c a b, ts, m, s, s', M, t, h, k, hs, hN => by
    simp only [tmv] at h
    obtain ⟨u, s1, h1, h⟩ := TR.bnd_ok h
    obtain ⟨z, M1, e1, k1, st1, v1, _⟩ := ev_st X h1 k hs hN
    rw [e_ife]
    split at h <;> first | (cases h; done) | skip
    · rename_i q
      have r1 := v1.rep
      rw [q] at r1
      rw [rep_bl r1] at e1
      obtain ⟨y, M2, e2, k2, st2, v2⟩ := mv_sim X a ts m s1 s' M1 t h (k.gro k1) st1 (Nat.le_trans hN k1.le)
      exact ⟨y, M2, by rw [bnd_ok2 e1]; exact e2, k1.trans k2, st2, (v2.low k k1).wide fun i hi => List.mem_append_left _ hi⟩
    · rename_i q
      have r1 := v1.rep
      rw [q] at r1
      rw [rep_bl r1] at e1
      obtain ⟨y, M2, e2, k2, st2, v2⟩ := mv_sim X b ts m s1 s' M1 t h (k.gro k1) st1 (Nat.le_trans hN k1.le)
      exact ⟨y, M2, by rw [bnd_ok2 e1]; exact e2, k1.trans k2, st2, (v2.low k k1).wide fun i hi => List.mem_append_right _ hi⟩
  | .cst c, ts, m, s, s', M, t, h, k, hs, hN => mv_plain X h k hs hN
  | .glo c, ts, m, s, s', M, t, h, k, hs, hN => mv_plain X h k hs hN
  | .cal f sh es ks, ts, m, s, s', M, t, h, k, hs, hN => mv_plain X h k hs hN
  | .blt f es, ts, m, s, s', M, t, h, k, hs, hN => mv_plain X h k hs hN
  | .com _ _ _ _, ts, m, s, s', M, t, h, k, hs, hN => mv_plain X h k hs hN
  | .dnw, ts, m, s, s', M, t, h, k, hs, hN => by cases h
  | .cmp _ _ _, ts, m, s, s', M, t, h, k, hs, hN => by cases h
  | .chn _ _ _ _ _, ts, m, s, s', M, t, h, k, hs, hN => by cases h
  | .and _ _, ts, m, s, s', M, t, h, k, hs, hN => by cases h
  | .or _ _, ts, m, s, s', M, t, h, k, hs, hN => by cases h
  | .not _, ts, m, s, s', M, t, h, k, hs, hN => by cases h
  | .neg _, ts, m, s, s', M, t, h, k, hs, hN => by cases h
  | .slc _ _ _, ts, m, s, s', M, t, h, k, hs, hN => by cases h
  | .rev _, ts, m, s, s', M, t, h, k, hs, hN => by cases h
  | .isi _ _ _, ts, m, s, s', M, t, h, k, hs, hN => by cases h
  | .mth _ _ _, ts, m, s, s', M, t, h, k, hs, hN => by cases h
  | .lr1 _, ts, m, s, s', M, t, h, k, hs, hN => by cases h
  | .lr2 _ _, ts, m, s, s', M, t, h, k, hs, hN => by cases h
  | .lset _, ts, m, s, s', M, t, h, k, hs, hN => by cases h
theorem mvs_sim {C : Cf} {D : TCf S} (X : Ctx W C D) : ∀ (es : Es) (ts : TSl) (m : Sl) (s s' : S) (M : MH) (t : List TV), tmvs D es ts s = .ok t s' → SOK W R N Fr M ts m → W.St s M → N ≤ M.length → ∃ z M1, evs C es m M = .ok z M1 ∧ Gro W M M1 ∧ W.St s' M1 ∧ Mos W M ts m N (mvFs es) M1 t z
  | .nil, ts, m, s, s', M, t, h, k, hs, hN => by
    simp only [tmvs] at h
    cases h
    exact ⟨[], M, by simp, Gro.refl, hs, by unfold reps; rfl, by simp [adss], fun a ha => by simp [adss] at ha, fun a ha => by simp [adss] at ha⟩
  | .cons e es, ts, m, s, s', M, t, h, k, hs, hN => by
    simp only [tmvs] at h
    split at h <;> first | (cases h; done) | skip
    rename_i hdj
    obtain ⟨u, s1, h1, h⟩ := TR.bnd_ok h
    obtain ⟨us, s2, h2, h⟩ := TR.bnd_ok h
    cases h
    obtain ⟨x, M1, e1, k1, st1, v1⟩ := mv_sim X e ts m s s1 M u h1 k hs hN
    obtain ⟨y, M2, e2, k2, st2, v2⟩ := mvs_sim X es ts m s1 s' M1 us h2 (k.gro k1) st1 (Nat.le_trans hN k1.le)
    have same := rep_same u x v1.rep (k2.same v1.rep)
    have v1' := v1.gro k2
    have v2' := v2.low k k1
    refine ⟨x :: y, M2, ?_, k1.trans k2, st2, by unfold reps; exact ⟨x, y, rfl, v1'.rep, v2.rep⟩, ?_, fun a ha => ?_, fun a ha => ?_⟩
    · rw [es_cons, bnd_ok2 e1, k_cons, bnd_ok2 e2]
      rfl
    · simp only [adss]
      refine List.nodup_append.mpr ⟨v1'.nd, v2.nd, fun a ha b hb c => ?_⟩
      subst c
      have ha' := same.2 ▸ ha
      exact mo_dis k k1 hdj (ads_lt u x v1.rep a ha').1 (v1.co a ha') (v2.co a hb)
    · simp only [adss, List.mem_append] at ha
      exact ha.elim (v1'.lo a) (v2.lo a)
    · simp only [adss, List.mem_append] at ha
      rcases ha with ha | ha
      · exact (v1'.co a ha).elim (fun ⟨i, hi, r⟩ => .inl ⟨i, by simp [mvFs, hi], r⟩) .inr
      · exact (v2'.co a ha).elim (fun ⟨i, hi, r⟩ => .inl ⟨i, by simp [mvFs, hi], r⟩) .inr
end
theorem at_twip : ∀ {is : List Nat} {j : Nat} {g : G} {t : TV} {v : MV}, At (twip ts is) m j g t v → At ts m j g t v ∧ j ∉ is
  | [], j, g, t, v, h => ⟨h, by simp⟩
  | i :: is, j, g, t, v, h => by
    obtain ⟨h1, h2⟩ := h
    simp only [twip] at h1
    by_cases hij : i = j
    · subst hij
      by_cases hl : i < (twip ts is).length
      · rw [List.getElem?_set_self hl] at h1
        cases h1
      · rw [List.getElem?_eq_none (by simp; omega)] at h1
        cases h1
    · rw [List.getElem?_set_ne hij] at h1
      obtain ⟨k1, k2⟩ := at_twip ⟨h1, h2⟩
      exact ⟨k1, by simp [k2, Ne.symm hij]⟩
theorem twip_len : ∀ (is : List Nat), (twip ts is).length = ts.length
  | [] => rfl
  | i :: is => by simp [twip, twip_len is]
theorem twip_get : ∀ {is : List Nat} {j : Nat} {x : GV}, (twip ts is)[j]? = some (some x) → ts[j]? = some (some x)
  | [], j, x, h => h
  | i :: is, j, x, h => by
    simp only [twip] at h
    by_cases hij : i = j
    · subst hij
      by_cases hl : i < (twip ts is).length
      · rw [List.getElem?_set_self hl] at h
        cases h
      · rw [List.getElem?_eq_none (by simp; omega)] at h
        cases h
    · rw [List.getElem?_set_ne hij] at h
      exact twip_get h
theorem SOK.wipt (k : SOK W R N Fr M ts m) (is : List Nat) : SOK W R N Fr M (twip ts is) m :=
  ⟨⟨(twip_len is).trans k.sr.1, fun i g t e => k.sr.2 i g t (twip_get e)⟩, fun i g t v e => k.adr i g t v (at_twip e).1, fun i g t v e => k.own i g t v (at_twip e).1, fun i g t v e => k.new i g t v (at_twip e).1, fun i j g t v g' t' v' hij e e' => k.dis i j g t v g' t' v' hij (at_twip e).1 (at_twip e').1⟩
theorem Mo.nfr {is : List Nat} {t : TV} {z : MV} (k : SOK W R N Fr M ts m) (hF : ∀ a, Fr a → a < M.length ∧ ¬ W.Q a) (h : Mo W M ts m N is M1 t z) : ∀ a ∈ ads M1 t z, ¬ Fr a := by
  intro a ha hf
  rcases h.co a ha with ⟨i, hi, t', v', e, ha'⟩ | h1
  · exact (k.new i .d t' v' e a ha').2 hf
  · have := (hF a hf).1
    omega
theorem Mo.sep {is : List Nat} {t : TV} {z : MV} (k : SOK W R N Fr M ts m) (g : Gro W M M1) (h : Mo W M ts m N is M1 t z) {j : Nat} {g' : G} {t' : TV} {v' : MV} (e : At (twip ts is) m j g' t' v') : ∀ a ∈ ads M1 t z, a ∉ ads M1 t' v' := by
  intro a ha hb
  obtain ⟨e1, e2⟩ := at_twip e
  rw [(rep_same t' v' (k.sr.at_ e1) (g.same (k.sr.at_ e1))).2] at hb
  rcases h.co a ha with ⟨i, hi, t1, v1, e3, ha'⟩ | h1
  · exact k.dis i j .d t1 v1 g' t' v' (fun c => e2 (c ▸ hi)) e3 e1 a ha' hb
  · have := (ads_lt t' v' (k.sr.at_ e1) a hb).1
    omega
end TM

set_option Elab.async false
set_option linter.all false
set_option maxRecDepth 100000
set_option autoImplicit false
set_option maxHeartbeats 2000000
/-! TM, part h: statements over trees are those over the small heap. -/
namespace TM
open PySem MP
section
variable {S : Type} {W : Wd S} {M M' M1 M2 : MH} {R Fr : Nat → Prop} {N : Nat} {s : S} {ts : TSl} {m : Sl}
theorem mut2_ok (k : SOK W R N Fr M ts m) {x p q j : Nat} {xs ys : List TV} {us zs : List MV} {t : TV} {z : MV} (e : At ts m x .d (.lst xs) (.lst p)) (hm : M[p]? = some us) (hr : reps W M xs us) (hx : xs[j]? = some (.lst ys)) (hu : us[j]? = some (.lst q)) (hz : M[q]? = some zs) (hrz : reps W M ys zs) (hv : VOK W R N M .d t z) (hf : ∀ a, ow .d M t z a → ¬ Fr a) (sp : Sep M ts m .d t z) (hs : W.St s M) :
    SOK W R N Fr (M.set q (zs ++ [z])) (ts.set x (some (.d, .lst (xs.set j (.lst (ys ++ [t])))))) m ∧ (∀ a, Fr a → (M.set q (zs ++ [z]))[a]? = M[a]?) ∧ W.St s (M.set q (zs ++ [z])) := by
  have r0 := k.sr.at_ e
  have he : ads M (.lst xs) (.lst p) = p :: adss M xs us := by simp [ads, hm]
  have hq : ads M (.lst ys) (.lst q) = q :: adss M ys zs := by simp [ads, hz]
  have hall := adss_get hr hx hu
  rw [hq] at hall
  have o : (ads M (.lst xs) (.lst p)).Nodup := k.own x _ _ _ e
  have hsep := fun a (ha : a ∈ ads M t z) => (sp x _ _ _ e).1 a ha
  rw [he, hall] at o hsep
  have nw : ∀ a ∈ ads M (.lst xs) (.lst p), N ≤ a ∧ ¬ Fr a := fun a ha => k.new x _ _ _ e a ha
  rw [he, hall] at nw
  have lq : q < M.length := (List.getElem?_eq_some_iff.mp hz).1
  have lj : j < xs.length := (List.getElem?_eq_some_iff.mp hx).1
  have lj2 : j < us.length := (List.getElem?_eq_some_iff.mp hu).1
  have hq' : (M.set q (zs ++ [z]))[q]? = some (zs ++ [z]) := List.getElem?_set_self lq
  have nq : q ≠ p ∧ q ∉ adss M (xs.take j) (us.take j) ∧ q ∉ adss M ys zs ∧ q ∉ adss M (xs.drop (j + 1)) (us.drop (j + 1)) := by
    simp only [List.cons_append, List.nodup_cons, List.mem_append, List.mem_cons, not_or, List.nodup_append] at o
    refine ⟨fun h => o.1.2.1 h.symm, fun h => o.2.2.2 q h q (by simp) rfl, o.2.2.1.1.1, o.2.2.1.1.2⟩
  have qz : q ∉ ads M t z := fun h => hsep q h (by simp)
  obtain ⟨ra1, ra2⟩ := reps_split j hr
  have rd := (reps_split (j + 1) hr).2
  have sa := reps_same _ _ ra1 (M' := M.set q (zs ++ [z])) (fun a ha => get_set_ne fun h => nq.2.1 (h ▸ ha))
  have sy := reps_same _ _ hrz (M' := M.set q (zs ++ [z])) (fun a ha => get_set_ne fun h => nq.2.2.1 (h ▸ ha))
  have sd := reps_same _ _ rd (M' := M.set q (zs ++ [z])) (fun a ha => get_set_ne fun h => nq.2.2.2 (h ▸ ha))
  have st := rep_same t z hv.rep (M' := M.set q (zs ++ [z])) (fun a ha => get_set_ne fun h => qz (h ▸ ha))
  obtain ⟨p', us0, e0, hpQ, hm0, _, _⟩ := rep_lst r0
  cases e0
  obtain ⟨v', e1, rq⟩ := reps_get hr hx
  rw [hu] at e1
  cases e1
  obtain ⟨q', zs0, e0, hqQ, hz0, _, _⟩ := rep_lst rq
  cases e0
  have hp' : (M.set q (zs ++ [z]))[p]? = some us := (get_set_ne (Ne.symm nq.1)).trans hm
  have rzz : reps W (M.set q (zs ++ [z])) (ys ++ [t]) (zs ++ [z]) := reps_append sy.1 (reps_cons st.1 reps_nil)
  have rnew : rep W (M.set q (zs ++ [z])) (.lst (ys ++ [t])) (.lst q) := by
    unfold rep
    exact ⟨q, _, rfl, hqQ, hq', rzz⟩
  have anew : ads (M.set q (zs ++ [z])) (.lst (ys ++ [t])) (.lst q) = q :: (adss M ys zs ++ ads M t z) := by
    simp only [ads, hq', Option.getD_some]
    rw [adss_append (reps_len hrz), sy.2]
    simp [adss, st.2]
  have ex : xs.set j (.lst (ys ++ [t])) = xs.take j ++ (.lst (ys ++ [t]) :: xs.drop (j + 1)) := List.set_eq_take_append_cons_drop .. |>.trans (by rw [if_pos lj])
  have eu : us = us.take j ++ (.lst q :: us.drop (j + 1)) := by
    obtain ⟨l, el⟩ := List.getElem?_eq_some_iff.mp hu
    rw [← el, ← List.drop_eq_getElem_cons l, List.take_append_drop]
  have rr : reps W (M.set q (zs ++ [z])) (xs.set j (.lst (ys ++ [t]))) us := by
    rw [ex, eu]
    exact reps_append sa.1 (reps_cons rnew sd.1)
  have aa : adss (M.set q (zs ++ [z])) (xs.set j (.lst (ys ++ [t]))) us = adss M (xs.take j) (us.take j) ++ ((q :: (adss M ys zs ++ ads M t z)) ++ adss M (xs.drop (j + 1)) (us.drop (j + 1))) := by
    have e1 : adss (M.set q (zs ++ [z])) (xs.set j (.lst (ys ++ [t]))) us = adss (M.set q (zs ++ [z])) (xs.take j ++ (.lst (ys ++ [t]) :: xs.drop (j + 1))) (us.take j ++ (.lst q :: us.drop (j + 1))) := by rw [ex, ← eu]
    rw [e1, adss_append (reps_len ra1), sa.2]
    simp only [adss]
    rw [anew, sd.2]
  have hrep : rep W (M.set q (zs ++ [z])) (.lst (xs.set j (.lst (ys ++ [t])))) (.lst p) := by
    unfold rep
    exact ⟨p, us, rfl, hpQ, hp', rr⟩
  have hads : ads (M.set q (zs ++ [z])) (.lst (xs.set j (.lst (ys ++ [t])))) (.lst p) = p :: (adss M (xs.take j) (us.take j) ++ ((q :: (adss M ys zs ++ ads M t z)) ++ adss M (xs.drop (j + 1)) (us.drop (j + 1)))) := by
    simp only [ads, hp', Option.getD_some, aa]
  have perm : (p :: (adss M (xs.take j) (us.take j) ++ ((q :: (adss M ys zs ++ ads M t z)) ++ adss M (xs.drop (j + 1)) (us.drop (j + 1))))).Perm ((p :: (adss M (xs.take j) (us.take j) ++ ((q :: adss M ys zs) ++ adss M (xs.drop (j + 1)) (us.drop (j + 1))))) ++ ads M t z) := List.perm_iff_count.mpr fun a => by
    simp only [List.count_append, List.count_cons]
    omega
  have mem : ∀ a, a ∈ ads (M.set q (zs ++ [z])) (.lst (xs.set j (.lst (ys ++ [t])))) (.lst p) → a ∈ ads M (.lst xs) (.lst p) ∨ a ∈ ads M t z := by
    intro a ha
    rw [hads] at ha
    rw [he, hall]
    exact List.mem_append.mp (perm.subset ha)
  have nd : (p :: (adss M (xs.take j) (us.take j) ++ ((q :: (adss M ys zs ++ ads M t z)) ++ adss M (xs.drop (j + 1)) (us.drop (j + 1))))).Nodup := by
    refine perm.nodup_iff.mpr (List.nodup_append.mpr ⟨o, hv.own, fun a ha b hb hab => ?_⟩)
    subst hab
    exact hsep a hb ha
  have oq : q ∈ ads M (.lst xs) (.lst p) := by
    rw [he, hall]
    simp
  have kd := k.drop x
  have at_d : ∀ j g t v, At (ts.set x none) m j g t v → x ≠ j ∧ At ts m j g t v := by
    rintro j g t v ⟨h1, h2⟩
    by_cases hij : x = j
    · subst hij
      rw [List.getElem?_set_self (List.getElem?_eq_some_iff.mp e.1).1] at h1
      cases h1
    · rw [List.getElem?_set_ne hij] at h1
      exact ⟨hij, h1, h2⟩
  have sm : ∀ j g t v, At (ts.set x none) m j g t v → ∀ a ∈ ads M t v, (M.set q (zs ++ [z]))[a]? = M[a]? := by
    intro j g2 t2 v2 ej a ha
    obtain ⟨h1, h2⟩ := at_d _ _ _ _ ej
    exact get_set_ne fun w => k.dis x j _ _ _ _ _ _ h1 e h2 q oq (w ▸ ha)
  have kd2 := kd.same (M' := M.set q (zs ++ [z])) sm
  have hvv : VOK W R N (M.set q (zs ++ [z])) .d (.lst (xs.set j (.lst (ys ++ [t])))) (.lst p) := by
    refine ⟨hrep, fun a ha => ?_, by show (ads _ _ _).Nodup; rw [hads]; exact nd, fun a ha => ?_⟩
    · exact (mem a ha).elim (k.adr x _ _ _ e a) (hv.adr a)
    · exact (mem a ha).elim (fun h => (k.new x _ _ _ e a h).1) (hv.new a)
  have kk := kd2.set hvv (fun a ha => (mem a ha).elim (fun h => (k.new x _ _ _ e a h).2) (hf a)) x (fun l g2 t2 v2 hl el => by
    obtain ⟨h1, h2⟩ := at_d _ _ _ _ el
    have rs := rep_same t2 v2 (k.sr.at_ h2) (sm l g2 t2 v2 el)
    refine ⟨fun a ha hb => ?_, fun a ha hb => ?_⟩
    · rw [rs.2] at hb
      exact (mem a ha).elim (fun h => k.dis x l _ _ _ _ _ _ h1 e h2 a h hb) (fun h => (sp l _ _ _ h2).1 a h hb)
    · have ha' := (ow_same (k.sr.at_ h2) (sm l g2 t2 v2 el)).mp ha
      exact (mem a hb).elim (fun h => k.dis l x _ _ _ _ _ _ (Ne.symm h1) h2 e a ha' h) (fun h => (sp l _ _ _ h2).2 a ha' h))
  have em : m.set x (some (.lst p)) = m := by
    obtain ⟨l, el⟩ := List.getElem?_eq_some_iff.mp e.2
    rw [← el]
    exact List.set_getElem_self l
  rw [em] at kk
  have et : (ts.set x none).set x (some (G.d, TV.lst (xs.set j (.lst (ys ++ [t]))))) = ts.set x (some (G.d, TV.lst (xs.set j (.lst (ys ++ [t]))))) := List.set_set ..
  rw [et] at kk
  exact ⟨kk, fun a ha => get_set_ne fun w => (k.new x _ _ _ e q oq).2 (w ▸ ha), W.keep _ _ _ hs fun a ha => get_set_ne fun w => hqQ (w ▸ ha)⟩
/-- what may be spoilt -/
def SpOK (W : Wd S) (C : Cf) (f : Nat) : Prop := ∀ (M : MH) (s : S) (t : TV) (v : MV), W.St s M → rep W M t v → (ads M t v).Nodup → unsp 20 t = true → ∃ M', C.call f [v] M = .ok (.bl true) M' ∧ M.length ≤ M'.length ∧ ∀ a, a < M.length → a ∉ ads M t v → M'[a]? = M[a]?
/-- what a run of statements gives -/
structure Ends (W : Wd S) (R : Nat → Prop) (N : Nat) (Fr : Nat → Prop) (s' : S) (M : MH) (ts' : TSl) (m' : Sl) (M' : MH) : Prop where
  le : M.length ≤ M'.length
  fr : ∀ a, Fr a → M'[a]? = M[a]?
  st : W.St s' M'
  sok : SOK W R N Fr M' ts' m'
theorem Ends.trans {s1 s2 : S} {ts1 ts2 : TSl} {m1 m2 : Sl} (h : Ends W R N Fr s1 M ts1 m1 M1) (k : Ends W R N Fr s2 M1 ts2 m2 M2) : Ends W R N Fr s2 M ts2 m2 M2 :=
  ⟨Nat.le_trans h.le k.le, fun a ha => (k.fr a ha).trans (h.fr a ha), k.st, k.sok⟩
theorem Gro.fr (h : Gro W M M1) (hF : ∀ a, Fr a → a < M.length ∧ ¬ W.Q a) : ∀ a, Fr a → M1[a]? = M[a]? := fun a ha => h.at_ a (hF a ha).1 (hF a ha).2
theorem cond_gen {C : Cf} {D : TCf S} (X : Ctx W C D) {e : E} {s' : S} {b : Bool} {ts' : TSl} (h : (tev D e ts s).bnd (kcnd ts) = .ok (b, ts') s') (k : SOK W R N Fr M ts m) (hs : W.St s M) (hN : N ≤ M.length) (hF : ∀ a, Fr a → a < M.length ∧ ¬ W.Q a) : ∃ M', ev C e m M = .ok (.bl b) M' ∧ Ends W R N Fr s' M ts' m M' := by
  obtain ⟨u, s1, h1, h⟩ := TR.bnd_ok h
  obtain ⟨v, M1, e1, k1, st1, v1, _⟩ := ev_st X h1 k hs hN
  unfold kcnd at h
  split at h <;> cases h
  rename_i q
  have r := v1.rep
  rw [q] at r
  rw [rep_bl r] at e1
  exact ⟨M1, e1, k1.le, k1.fr hF, st1, k.gro k1⟩
theorem cond_sim {C : Cf} {D : TCf S} (X : Ctx W C D) (hsp : ∀ f, D.spo f = true → SpOK W C f) : ∀ (e : E) (ts ts' : TSl) (s s' : S) (b : Bool) (M : MH), tcond D e ts s = .ok (b, ts') s' → SOK W R N Fr M ts m → W.St s M → N ≤ M.length → (∀ a, Fr a → a < M.length ∧ ¬ W.Q a) → ∃ M', ev C e m M = .ok (.bl b) M' ∧ Ends W R N Fr s' M ts' m M' := by
  intro e
  induction e using E.rec (motive_2 := fun _ => True) (motive_3 := fun _ => True) (motive_4 := fun _ => True)
  case and a c iha ihc =>
    intro ts ts' s s' b M h k hs hN hF
    simp only [tcond] at h
    obtain ⟨p, s1, h1, h⟩ := TR.bnd_ok h
    obtain ⟨M1, e1, k1⟩ := iha ts p.2 s s1 p.1 M h1 k hs hN hF
    rw [e_and, bnd_ok2 e1]
    split at h
    · rename_i q
      obtain ⟨M2, e2, k2⟩ := ihc p.2 ts' s1 s' b M1 h k1.sok k1.st (Nat.le_trans hN k1.le) (fun a ha => ⟨Nat.lt_of_lt_of_le (hF a ha).1 k1.le, (hF a ha).2⟩)
      rw [q, k_andt]
      exact ⟨M2, e2, k1.trans k2⟩
    · rename_i q
      cases h
      rw [Bool.eq_false_iff.mpr q, k_andf]
      exact ⟨M1, rfl, k1⟩
  case or a c iha ihc =>
    intro ts ts' s s' b M h k hs hN hF
    simp only [tcond] at h
    obtain ⟨p, s1, h1, h⟩ := TR.bnd_ok h
    obtain ⟨M1, e1, k1⟩ := iha ts p.2 s s1 p.1 M h1 k hs hN hF
    rw [e_or, bnd_ok2 e1]
    split at h
    · rename_i q
      cases h
      rw [q, k_ort]
      exact ⟨M1, rfl, k1⟩
    · rename_i q
      obtain ⟨M2, e2, k2⟩ := ihc p.2 ts' s1 s' b M1 h k1.sok k1.st (Nat.le_trans hN k1.le) (fun a ha => ⟨Nat.lt_of_lt_of_le (hF a ha).1 k1.le, (hF a ha).2⟩)
      rw [Bool.eq_false_iff.mpr q, k_orf]
      exact ⟨M2, e2, k1.trans k2⟩
  case not a iha =>
    intro ts ts' s s' b M h k hs hN hF
    simp only [tcond] at h
    obtain ⟨p, s1, h1, h⟩ := TR.bnd_ok h
    cases h
    obtain ⟨M1, e1, k1⟩ := iha ts p.2 s s' p.1 M h1 k hs hN hF
    rw [e_not, bnd_ok2 e1, k_not]
    exact ⟨M1, rfl, k1⟩
  case cal f sh es ks _ _ =>
    intro ts ts' s s' b M h k hs hN hF
    simp only [tcond] at h
    split at h
    · rename_i hf
      split at h <;> first | (cases h; done) | skip
      rename_i e har
      obtain ⟨t, s1, h1, h⟩ := TR.bnd_ok h
      split at h <;> cases h
      rename_i hu
      obtain ⟨v, M1, e1, k1, st1, mo⟩ := mv_sim X e ts m s s' M t h1 k hs hN
      obtain ⟨M2, c1, c2, c3⟩ := hsp f hf M1 s' t v st1 mo.rep mo.nd hu
      rw [X.arr] at har
      have nfr := mo.nfr k hF
      have kw := (k.wipt (mvF e)).gro k1
      refine ⟨M2, by simp [e1, har, argAt, c1], Nat.le_trans k1.le c2, fun a ha => (c3 a (Nat.lt_of_lt_of_le (hF a ha).1 k1.le) fun z => nfr a z ha).trans (k1.fr hF a ha), W.keep _ _ _ st1 fun a ha => c3 a (W.lt _ _ a st1 ha) fun z => (ads_lt t v mo.rep a z).2 ha, kw.same fun j g' t' v' ej a ha => ?_⟩
      exact c3 a (ads_lt t' v' (kw.sr.at_ ej) a ha).1 fun z => mo.sep k k1 ej a z ha
    · exact cond_gen X h k hs hN hF
  all_goals first
    | trivial
    | (intros
       rename_i h k hs hN hF
       exact cond_gen X (by simpa only [tcond] using h) k hs hN hF)
/-- how runs of statements end, over trees and over the small heap -/
def FlR (W : Wd S) (R : Nat → Prop) (N : Nat) (M : MH) : TFl → Fl → Prop
  | .nx, f => f = .nx
  | .bk, f => f = .bk
  | .cn, f => f = .cn
  | .rt w, f => ∃ v, f = .rt v ∧ VOK W R N M w.1 w.2 v
def flK (g : Sl → MH → Re (Fl × Sl)) (m : Sl) (M : MH) : Fl → Re (Fl × Sl)
  | .nx => g m M
  | .cn => g m M
  | .bk => .ok (.nx, m) M
  | .rt v => .ok (.rt v, m) M
theorem for_sim {C : MV → Sl → MH → Re (Fl × Sl)} {F : TV → TSl → S → TR S (TFl × TSl)} {src : Src} {items : List TV} {xs : List MV} {F0 : List Nat} {M0 : MH}
    (hr : reps W M0 items xs) (hF : ∀ a ∈ F0, Fr a) (hF2 : ∀ a ∈ adss M0 items xs, Fr a)
    (hsrc : ∀ M' : MH, (∀ a ∈ F0, M'[a]? = M0[a]?) → ∀ i, src.stop M' i = decide (xs.length ≤ i) ∧ src.item M' i = xs[i]?)
    (step : ∀ (M : MH) (t : TV) (v : MV) (ts ts' : TSl) (m : Sl) (s s' : S) (fl : TFl), M0.length ≤ M.length → rep W M t v → (∀ a ∈ ads M t v, a ∈ adss M0 items xs) → (∀ a, Fr a → M[a]? = M0[a]?) → SOK W R N Fr M ts m → W.St s M → F t ts s = .ok (fl, ts') s' → ∃ fl' m' M', C v m M = .ok (fl', m') M' ∧ Ends W R N Fr s' M ts' m' M' ∧ FlR W R N M' fl fl') :
    ∀ (j i k : Nat) (ts ts' : TSl) (m : Sl) (s s' : S) (fl : TFl) (M : MH), i + j = items.length → tforL F (items.drop i) ts s = .ok (fl, ts') s' → M0.length ≤ M.length → (∀ a, Fr a → M[a]? = M0[a]?) → SOK W R N Fr M ts m → W.St s M → j < k →
      ∃ fl' m' M', forL src C k i m M = .ok (fl', m') M' ∧ Ends W R N Fr s' M ts' m' M' ∧ FlR W R N M' fl fl'
  | 0, i, k + 1, ts, ts', m, s, s', fl, M, hij, h, hl, hfr, hk, hs, hjk => by
    have : items.drop i = [] := List.drop_eq_nil_of_le (by omega)
    rw [this] at h
    simp only [tforL] at h
    cases h
    have e := hsrc M (fun a ha => hfr a (hF a ha)) i
    refine ⟨.nx, m, M, ?_, ⟨Nat.le_refl _, fun _ _ => rfl, hs, hk⟩, rfl⟩
    unfold forL
    rw [e.1, if_pos (decide_eq_true (by rw [← reps_len hr]; omega))]
  | j + 1, i, k + 1, ts, ts', m, s, s', fl, M, hij, h, hl, hfr, hk, hs, hjk => by
    have hi : i < items.length := by omega
    rw [List.drop_eq_getElem_cons hi] at h
    simp only [tforL] at h
    obtain ⟨p, s1, h1, h⟩ := TR.bnd_ok h
    have hti : items[i]? = some items[i] := List.getElem?_eq_getElem hi
    obtain ⟨v, hv, hrv⟩ := reps_get hr hti
    have hvl : i < xs.length := (List.getElem?_eq_some_iff.mp hv).1
    have pa := (part_of hr hti hv).1
    have e := hsrc M (fun a ha => hfr a (hF a ha)) i
    have rs := rep_same items[i] v hrv (M' := M) (fun a ha => hfr a (hF2 a (pa a ha)))
    obtain ⟨fl1, m1, M1, c1, c2, c3⟩ := step M items[i] v ts p.2 m s s1 p.1 hl rs.1 (fun a ha => pa a (rs.2 ▸ ha)) hfr hk hs h1
    have fr1 : ∀ a, Fr a → M1[a]? = M0[a]? := fun a ha => (c2.fr a ha).trans (hfr a ha)
    have run : forL src C (k + 1) i m M = flK (fun m M => forL src C k (i + 1) m M) m1 M1 fl1 := by
      rw [forL, e.1, if_neg (by simp; omega), e.2, hv]
      simp only [c1, bnd_ok_]
      cases fl1 <;> rfl
    rw [run]
    have nxt : tforL F (items.drop (i + 1)) p.2 s1 = .ok (fl, ts') s' → ∃ fl' m' M', forL src C k (i + 1) m1 M1 = .ok (fl', m') M' ∧ Ends W R N Fr s' M ts' m' M' ∧ FlR W R N M' fl fl' := by
      intro h
      obtain ⟨fl', m', M', a1, a2, a3⟩ := for_sim hr hF hF2 hsrc step j (i + 1) k p.2 ts' m1 s1 s' fl M1 (by omega) h (Nat.le_trans hl c2.le) fr1 c2.sok c2.st (by omega)
      exact ⟨fl', m', M', a1, c2.trans a2, a3⟩
    cases hp : p.1 with
    | nx =>
      rw [hp] at c3 h
      cases c3
      exact nxt h
    | cn =>
      rw [hp] at c3 h
      cases c3
      exact nxt h
    | bk =>
      rw [hp] at c3 h
      cases c3
      cases h
      exact ⟨.nx, m1, M1, rfl, c2, rfl⟩
    | rt w =>
      rw [hp] at c3 h
      obtain ⟨v, rfl, hv⟩ := c3
      cases h
      exact ⟨.rt v, m1, M1, rfl, c2, v, rfl, hv⟩
theorem whl_sim {c : Sl → MH → Re MV} {f : Sl → MH → Re (Fl × Sl)} {c' : TSl → S → TR S GV} {f' : TSl → S → TR S (TFl × TSl)} {L : Nat}
    (hc : ∀ (M : MH) (ts : TSl) (m : Sl) (s s' : S) (b : Bool) (u : GV), L ≤ M.length → SOK W R N Fr M ts m → W.St s M → c' ts s = .ok u s' → u.2 = .bl b → ∃ M', c m M = .ok (.bl b) M' ∧ Ends W R N Fr s' M ts m M')
    (hf : ∀ (M : MH) (ts ts' : TSl) (m : Sl) (s s' : S) (fl : TFl), L ≤ M.length → SOK W R N Fr M ts m → W.St s M → f' ts s = .ok (fl, ts') s' → ∃ fl' m' M', f m M = .ok (fl', m') M' ∧ Ends W R N Fr s' M ts' m' M' ∧ FlR W R N M' fl fl') :
    ∀ (k : Nat) (ts ts' : TSl) (m : Sl) (s s' : S) (fl : TFl) (M : MH), twhlL c' f' k ts s = .ok (fl, ts') s' → L ≤ M.length → SOK W R N Fr M ts m → W.St s M → ∃ fl' m' M', whlL c f k m M = .ok (fl', m') M' ∧ Ends W R N Fr s' M ts' m' M' ∧ FlR W R N M' fl fl'
  | 0, ts, ts', m, s, s', fl, M, h, _, _, _ => by cases h
  | k + 1, ts, ts', m, s, s', fl, M, h, hL, hk, hs => by
    simp only [twhlL] at h
    obtain ⟨u, s1, h1, h⟩ := TR.bnd_ok h
    split at h <;> first | (cases h; done) | skip
    · rename_i q
      cases h
      obtain ⟨M1, e1, k1⟩ := hc M ts m s s' false u hL hk hs h1 q
      exact ⟨.nx, m, M1, whl_f e1, k1, rfl⟩
    · rename_i q
      obtain ⟨M1, e1, k1⟩ := hc M ts m s s1 true u hL hk hs h1 q
      obtain ⟨p, s2, h2, h⟩ := TR.bnd_ok h
      obtain ⟨fl1, m1, M2, e2, k2, c3⟩ := hf M1 ts p.2 m s1 s2 p.1 (Nat.le_trans hL k1.le) k1.sok k1.st h2
      have run : whlL c f (k + 1) m M = flK (fun m M => whlL c f k m M) m1 M2 fl1 := by
        rw [whlL, e1]
        simp only [bnd_ok_, e2]
        cases fl1 <;> rfl
      rw [run]
      have nxt : twhlL c' f' k p.2 s2 = .ok (fl, ts') s' → ∃ fl' m' M', whlL c f k m1 M2 = .ok (fl', m') M' ∧ Ends W R N Fr s' M ts' m' M' ∧ FlR W R N M' fl fl' := by
        intro h
        obtain ⟨fl', m', M', a1, a2, a3⟩ := whl_sim hc hf k p.2 ts' m1 s2 s' fl M2 h (Nat.le_trans hL (k1.trans k2).le) k2.sok k2.st
        exact ⟨fl', m', M', a1, (k1.trans k2).trans a2, a3⟩
      cases hp : p.1 with
      | nx =>
        rw [hp] at c3 h
        cases c3
        exact nxt h
      | cn =>
        rw [hp] at c3 h
        cases c3
        exact nxt h
      | bk =>
        rw [hp] at c3 h
        cases c3
        cases h
        exact ⟨.nx, m1, M2, rfl, k1.trans k2, rfl⟩
      | rt w =>
        rw [hp] at c3 h
        obtain ⟨v, rfl, hv⟩ := c3
        cases h
        exact ⟨.rt v, m1, M2, rfl, k1.trans k2, v, rfl, hv⟩
end
end TM

set_option Elab.async false
set_option linter.all false
set_option maxRecDepth 100000
set_option autoImplicit false
set_option maxHeartbeats 2000000
/-! TM, part i: a run over trees is a run over the small heap. -/
namespace TM
open PySem MP
section
variable {S : Type} {W : Wd S}
theorem SrcOK.fr {M M1 : MH} {R Fr : Nat → Prop} {N : Nat} {ts : TSl} {m : Sl} {g : G} {is : List Nat} (k : SOK W R N Fr M ts m) (kg : Gro W M M1) {F : List Nat} {xs : List TV} {vs : List MV} (q : ∀ a, a ∈ F ∨ a ∈ adss M1 xs vs → (Rd M ts m is a ∨ M.length ≤ a) ∧ a < M1.length ∧ ¬ W.Q a ∧ (g = .d → M.length ≤ a)) :
    SOK W R N (fun a => Fr a ∨ a ∈ F ∨ a ∈ adss M1 xs vs) M1 (TM.leak g is ts) m := by
  refine ((k.leak g is).gro kg).fr fun i g' t v e a ha hf => ?_
  have h1 := leak_sep k kg e ha
  rcases hf with hf | hf
  · exact (((k.leak g is).gro kg).new i g' t v e a ha).2 hf
  · obtain ⟨q1, q2, q3, q4⟩ := q a hf
    by_cases hd : g = .d
    · have := q4 hd
      omega
    · rcases q1 with q1 | q1
      · exact h1.2.1 hd q1
      · omega
theorem taug_ok {o : BOp} {u v w : TV} {x y : MV} {M : MH} (h : taug o u v = some w) (hu : rep W M u x) (hv : rep W M v y) : ∃ z, augop o x y M = .ok z M ∧ rep W M w z ∧ noL w = true := by
  unfold taug at h
  split at h <;> first | (cases h; done) | skip
  all_goals
    cases h
    rw [rep_int hu, rep_int hv]
    exact ⟨_, rfl, by unfold rep; rfl, rfl⟩
theorem put_ok {M : MH} {R Fr : Nat → Prop} {N : Nat} {s : S} {ts : TSl} {m : Sl} (k : SOK W R N Fr M ts m) {x j : Nat} {g gv : G} {xs : List TV} {t : TV} {z v : MV} {w : G × TV} {i : Int} (e : At ts m x g (.lst xs) v) (hg : gput g gv (xs.set j t) = some w) (hj : L2.ixN xs.length i = some j) (hz : VOK W R N M gv t z) (hf : ∀ a, ow gv M t z a → ¬ Fr a) (sp : Sep M ts m gv t z) (hs : W.St s M) :
    ∃ M2, putop v (.int i) z M = .ok () M2 ∧ Ends W R N Fr s M (ts.set x (some w)) m M2 := by
  obtain ⟨p, us, rfl, hq, hm, r, he⟩ := rep_lst (k.sr.at_ e)
  have lj := ixN_lt hj
  have hl := reps_len r
  have e1 : xs.set j t = xs.take j ++ [t] ++ xs.drop (j + 1) := by
    rw [List.set_eq_take_append_cons_drop, if_pos lj]
    simp
  have e2 : us.set j z = us.take j ++ [z] ++ us.drop (j + 1) := by
    rw [List.set_eq_take_append_cons_drop, if_pos (by omega)]
    simp
  obtain ⟨i1, i2, i3⟩ := one_in hz hf sp
  obtain ⟨m1, m2⟩ := reps_mid (j := j) r (reps_cons hz.rep (reps_nil (W := W) (M := M))) (j + 1)
  obtain ⟨v', hv1, _⟩ := reps_get r (List.getElem?_eq_getElem lj)
  rw [e1] at hg
  obtain ⟨q1, q2, q3⟩ := mut_gen k e hg hm r m1 ⟨ads M xs[j] v', by
    rw [m2, adss_get r (List.getElem?_eq_getElem lj) hv1]
    exact perm2⟩ i1 i2 i3 hs
  rw [← e2] at q1 q2 q3
  exact ⟨_, p_put M hm (by rw [← hl]; exact hj), ⟨by simp, q2, q3, q1⟩⟩
theorem fr_le {M M1 : MH} {Fr : Nat → Prop} (h : M.length ≤ M1.length) (hF : ∀ a, Fr a → a < M.length ∧ ¬ W.Q a) : ∀ a, Fr a → a < M1.length ∧ ¬ W.Q a := fun a ha => ⟨Nat.lt_of_lt_of_le (hF a ha).1 h, (hF a ha).2⟩
theorem not_fr {M M1 : MH} {Fr : Nat → Prop} {g : G} {t : TV} {v : MV} (hF : ∀ a, Fr a → a < M.length ∧ ¬ W.Q a) (h : ∀ a, ow g M1 t v a → M.length ≤ a) : ∀ a, ow g M1 t v a → ¬ Fr a := fun a ha hf => by
  have := h a ha
  have := (hF a hf).1
  omega
theorem vs_one {M : MH} {R : Nat → Prop} {N : Nat} {t : TV} {z : MV} (hr : rep W M t z) (hn : noL t = true) : VsOK W R N M [(.d, t)] [z] := by
  unfold VsOK
  refine ⟨z, [], rfl, VOK.of hr hn, by unfold VsOK; rfl, fun a ha hb => by simp [adss] at hb, fun _ a ha hb => by simp [adss] at ha⟩
theorem sp_one {M : MH} {ts : TSl} {m : Sl} {L : Nat} {t : TV} {z : MV} (hn : noL t = true) : ∀ (i : Nat) (w : GV) (v : MV), [(G.d, t)][i]? = some w → [z][i]? = some v → Sep M ts m w.1 w.2 v ∧ ∀ a, ow w.1 M w.2 v a → L ≤ a := by
  intro i w v h1 h2
  match i with
  | 0 =>
    cases h1
    cases h2
    have e := noL_ads (M := M) t z hn
    have no : ∀ a, a ∉ ads M t z := fun a ha => by
      rw [e] at ha
      cases ha
    exact ⟨fun j g' t' v' _ => ⟨fun a ha => (no a (ow_ads ha)).elim, fun a _ hb => no a hb⟩, fun a ha => (no a (ow_ads (g := .d) ha)).elim⟩
  | i + 1 => simp at h1
theorem pop_int {u : GV} {t : TV} {p : GV × GV} (h : tmth .pop u [(.d, t)] = some p) : noL t = true := by
  obtain ⟨g, l⟩ := u
  cases t with
  | tup xs => cases l <;> cases h
  | lst xs => cases l <;> cases h
  | _ => rfl
theorem gr_noL' {g : G} {t : TV} (h : noL t = true) : gr g t = .d := if_pos h
mutual
theorem ex_sim {C : Cf} {D : TCf S} (X : Ctx W C D) (hsp : ∀ f, D.spo f = true → SpOK W C f) : ∀ (st : MP.S) (ts ts' : TSl) (m : Sl) (s s' : S) (M : MH) (R Fr : Nat → Prop) (N : Nat) (fl : TFl), tex D C.most st ts s = .ok (fl, ts') s' → SOK W R N Fr M ts m → W.St s M → N ≤ M.length → (∀ a, Fr a → a < M.length ∧ ¬ W.Q a) → ∃ fl' m' M', ex C st m M = .ok (fl', m') M' ∧ Ends W R N Fr s' M ts' m' M' ∧ FlR W R N M' fl fl'
  | .exp e, ts, ts', m, s, s', M, R, Fr, N, fl, h, k, hs, hN, hF => by
    have plain : (tev D e ts s).bnd (fun _ s1 => TR.ok (TFl.nx, ts) s1) = .ok (fl, ts') s' → ∃ fl' m' M', ex C (.exp e) m M = .ok (fl', m') M' ∧ Ends W R N Fr s' M ts' m' M' ∧ FlR W R N M' fl fl' := by
      intro h
      obtain ⟨u, s1, h1, h⟩ := TR.bnd_ok h
      cases h
      obtain ⟨v, M1, e1, k1, st1, v1, _⟩ := ev_st X h1 k hs hN
      exact ⟨.nx, m, M1, by rw [s_exp, bnd_ok2 e1, k_exp], ⟨k1.le, k1.fr hF, st1, k.gro k1⟩, rfl⟩
    unfold tex at h
    split at h
    · rename_i b x es
      split at h
      · rename_i y i hpa
        obtain ⟨kk, s1, h1, h⟩ := TR.bnd_ok h
        split at h <;> cases h
        rename_i hpop
        unfold popArg at hpa
        split at hpa <;> cases hpa
        unfold tpopapp at hpop
        split at hpop <;> first | (cases hpop; done) | skip
        rename_i u hu
        split at hpop <;> first | (cases hpop; done) | skip
        rename_i w v hw
        split at hpop <;> first | (cases hpop; done) | skip
        rename_i hc
        split at hpop <;> first | (cases hpop; done) | skip
        rename_i u2 hu2
        split at hpop <;> first | (cases hpop; done) | skip
        rename_i w2 y2 hw2
        cases hpop
        obtain ⟨z1, M1, e1, k1, st1, v1, _⟩ := ev_st X h1 k hs hN
        have kg := k.gro k1
        obtain ⟨v0, em, _⟩ := k.sr.2 y u.1 u.2 hu
        have nk := pop_int hw
        by_cases hn : noL v.2 = true
        · rw [gr_noL' hn] at hw2
          obtain ⟨r, M2, c1, c2, c3, c4, c5, c6⟩ := tmth_ok (L := M1.length) hw kg ⟨hu, em⟩ (vs_one v1.rep nk) (sp_one nk) (fun a ha => (fr_le k1.le hF a ha).1) st1
          obtain ⟨v3, em3, _⟩ := c5.sr.2 x u2.1 u2.2 hu2
          obtain ⟨r', M3, d1, d2, d3, d4, d5, _⟩ := tmth_ok (L := M1.length) hw2 c5 ⟨hu2, em3⟩ (vs_one (c6 hn) hn) (sp_one hn) (fun a ha => (fr_le k1.le hF a ha).1) c4
          refine ⟨.nx, m, M3, by simp [em, em3, e1, c1, d1], ⟨by rw [d2, c2]; exact k1.le, fun a ha => (d3 a ha).trans ((c3 a ha).trans (k1.fr hF a ha)), d4, d5⟩, rfl⟩
        · have hu' := hc.resolve_left hn
          have hgs : gr .s v.2 = .s := if_neg hn
          rw [hgs] at hw2
          obtain ⟨r, M2, c1, c2, c3, c4, c5, c6, c7⟩ := pop_r (L := M1.length) hw hu' kg ⟨hu, em⟩ (vs_one v1.rep nk) st1
          obtain ⟨v3, em3, _⟩ := c5.sr.2 x u2.1 u2.2 hu2
          obtain ⟨r', M3, d1, d2, d3, d4, d5, _⟩ := tmth_ok (L := M1.length) (vs := [r]) hw2 c5 ⟨hu2, em3⟩ (by unfold VsOK; exact ⟨r, [], rfl, c6, by unfold VsOK; rfl, fun a ha hb => by simp [adss] at hb, fun _ a ha hb => by simp [adss] at ha⟩) (fun i w v h1 h2 => by
            match i with
            | 0 =>
              cases h1
              cases h2
              exact ⟨c7, fun a ha => ha.elim⟩
            | i + 1 => simp at h1) (fun a ha => (fr_le k1.le hF a ha).1) c4
          refine ⟨.nx, m, M3, by simp [em, em3, e1, c1, d1], ⟨by rw [d2, c2]; exact k1.le, fun a ha => (d3 a ha).trans ((c3 a ha).trans (k1.fr hF a ha)), d4, d5⟩, rfl⟩
      · obtain ⟨vs, s1, h1, h⟩ := TR.bnd_ok h
        split at h <;> first | (cases h; done) | skip
        rename_i u hu
        split at h <;> first | (cases h; done) | skip
        rename_i w y hw
        cases h
        obtain ⟨ws, M1, e1, k1, st1, v1, sok, sp⟩ := evs_st X h1 k hs hN
        obtain ⟨v, em, _⟩ := sok.sr.2 x u.1 u.2 hu
        obtain ⟨r, M2, c1, c2, c3, c4, c5, _⟩ := tmth_ok hw sok ⟨hu, em⟩ v1 sp (fun a ha => (hF a ha).1) st1
        exact ⟨.nx, m, M2, by simp [em, e1, c1], ⟨by rw [c2]; exact k1.le, fun a ha => (c3 a ha).trans (k1.fr hF a ha), c4, c5⟩, rfl⟩
    · rename_i x i e
      obtain ⟨ki, s1, h1, h⟩ := TR.bnd_ok h
      obtain ⟨v, s2, h2, h⟩ := TR.bnd_ok h
      split at h <;> first | (cases h; done) | skip
      rename_i m' hm'
      cases h
      unfold tapp2 at hm'
      split at hm' <;> first | (cases hm'; done) | skip
      rename_i xs kk hx hk hd
      split at hm' <;> first | (cases hm'; done) | skip
      rename_i j hj
      split at hm' <;> first | (cases hm'; done) | skip
      rename_i ys hy
      split at hm' <;> first | (cases hm'; done) | skip
      rename_i hlim
      cases hm'
      obtain ⟨z1, M1, e1, k1, st1, v1, _⟩ := ev_st X h1 k hs hN
      have kg := k.gro k1
      obtain ⟨z2, M2, e2, k2, st2, v2, n2, sok, sp⟩ := ev_st X h2 kg st1 (Nat.le_trans hN k1.le)
      rw [hd] at v2 n2 sok sp
      have sok : SOK W R N Fr M2 ts m := sok
      have sp : Sep M2 ts m .d v.2 z2 := sp
      obtain ⟨vx, em, rx0⟩ := k.sr.2 x .d (.lst xs) hx
      obtain ⟨p, us1, rfl, hq, hm1, r1, _⟩ := rep_lst (kg.sr.at_ ⟨hx, em⟩)
      have hm2 : M2[p]? = some us1 := (k2.at_ p (List.getElem?_eq_some_iff.mp hm1).1 hq).trans hm1
      obtain ⟨p', us, e0, _, hm, r, _⟩ := rep_lst (sok.sr.at_ ⟨hx, em⟩)
      cases e0
      rw [hm2] at hm
      cases hm
      obtain ⟨vj, hv, hrv⟩ := reps_get r hy
      obtain ⟨q, zs, rfl, _, hmq, rz, _⟩ := rep_lst hrv
      obtain ⟨a1, a2, a3⟩ := mut2_ok sok ⟨hx, em⟩ hm2 r hy hv hmq rz v2 (not_fr (fr_le k1.le hF) n2) sp st2
      have hat : L2.atI us1 kk = some (.lst q) := by
        unfold L2.atI
        rw [← reps_len r, hj]
        exact hv
      rw [int_val v1.rep hk] at e1
      refine ⟨.nx, m, _, ?_, ⟨by simp; exact (k1.trans k2).le, fun a ha => (a2 a ha).trans ((k1.trans k2).fr hF a ha), a3, a1⟩, rfl⟩
      have hlz : zs.length < lim := by
        rw [← reps_len rz]
        exact hlim
      rw [s_exp, e_mth, e_idx, e_var, em, kvr_s, bnd_ok_, k_op, bnd_ok2 e1, ixL M1 kk hm1 hat, bnd_ok_, k_mth, es_cons, bnd_ok2 e2, k_cons, es_nil, bnd_ok_, k_cn, bnd_ok_, p_app M2 hmq hlz, bnd_ok_, k_exp]
    · exact plain h
  | .asg t e, ts, ts', m, s, s', M, R, Fr, N, fl, h, k, hs, hN, hF => by
    simp only [tex] at h
    split at h
    · rename_i is es htt
      unfold isTT at htt
      split at htt <;> cases htt
      obtain ⟨ws, s1, h1, h⟩ := TR.bnd_ok h
      split at h <;> cases h
      rename_i hset
      obtain ⟨vs, M1, e1, k1, st1, hl, sok, pr, ea⟩ := evs_st2 X h1 k hs hN
      obtain ⟨m', c1, c2⟩ := tsets_st is _ vs _ _ m hset sok hl pr fun i w v a1 a2 => by
        obtain ⟨b1, b2, b3⟩ := ea i w v a1 a2
        exact ⟨b1, not_fr hF b2, b3⟩
      refine ⟨.nx, m', M1, ?_, ⟨k1.le, k1.fr hF, st1, c2⟩, rfl⟩
      have et : ev C (.tup es) m M = .ok (.tup vs) M1 := by simp [e1]
      have cs : Tg.set (.tp is) (.tup vs) m = some m' := c1
      rw [s_asg, bnd_ok2 et, k_asg m M1 cs]
    obtain ⟨u, s1, h1, h⟩ := TR.bnd_ok h
    split at h
    · rename_i tm hm
      cases h
      unfold mvA at hm
      split at hm <;> first | (cases hm; done) | skip
      rename_i i j _
      unfold mvAs at hm
      split at hm <;> first | (cases hm; done) | skip
      rename_i v hv
      split at hm <;> first | (cases hm; done) | skip
      rename_i hd hn
      cases hm
      obtain ⟨g, t⟩ := v
      simp only at hd
      subst hd
      simp only [tev, hv] at h1
      cases h1
      obtain ⟨z, em, hr⟩ := k.sr.2 j _ _ hv
      have at_ : At ts m j .d t z := ⟨hv, em⟩
      have mo := Mo.slot k at_
      have kw : SOK W R N Fr M (ts.set j none) m := k.wipt [j]
      refine ⟨.nx, m.set i (some z), M, by simp [em], ⟨Nat.le_refl _, fun _ _ => rfl, hs, ?_⟩, rfl⟩
      exact kw.set mo.vok (fun a ha => mo.nfr k hF a ha) i fun l g' t' v' _ e => ⟨fun a ha => mo.sep k Gro.refl (is := [j]) e a ha, fun a ha hb => mo.sep k Gro.refl (is := [j]) e a hb (ow_ads ha)⟩
    · split at h <;> cases h
      rename_i hset
      obtain ⟨v, M1, e1, k1, st1, v1, n1, sok, sp⟩ := ev_st X h1 k hs hN
      obtain ⟨m', c1, c2⟩ := tset_st hset sok v1 (not_fr hF n1) sp
      exact ⟨.nx, m', M1, by rw [s_asg, bnd_ok2 e1, k_asg m M1 c1], ⟨k1.le, k1.fr hF, st1, c2⟩, rfl⟩
  | .put a i e, ts, ts', m, s, s', M, R, Fr, N, fl, h, k, hs, hN, hF => by
    unfold tex at h
    split at h <;> first | (cases h; done) | skip
    rename_i x
    obtain ⟨v, s1, h1, h⟩ := TR.bnd_ok h
    obtain ⟨ki, s2, h2, h⟩ := TR.bnd_ok h
    split at h <;> first | (cases h; done) | skip
    rename_i g xs kk hx hk
    split at h <;> first | (cases h; done) | skip
    rename_i j hj
    split at h <;> first | (cases h; done) | skip
    rename_i w hw
    cases h
    obtain ⟨z, M1, e1, k1, st1, v1, n1, sok, sp⟩ := ev_st X h1 k hs hN
    obtain ⟨z2, M2, e2, k2, st2, v2, _⟩ := ev_st X h2 (k.gro k1) st1 (Nat.le_trans hN k1.le)
    have sok2 := sok.gro k2
    have sp2 : Sep M2 (leak v.1 (fvE e) ts) m v.1 v.2 z := by
      intro j g' t' v' ej
      have a1 := rep_same _ _ v1.rep (k2.same v1.rep)
      have a2 := rep_same _ _ (sok.sr.at_ ej) (k2.same (sok.sr.at_ ej))
      rw [a1.2, a2.2]
      exact ⟨fun a ha => (sp j _ _ _ ej).1 a ((ow_same v1.rep (k2.same v1.rep)).mp ha), fun a ha => (sp j _ _ _ ej).2 a ((ow_same (sok.sr.at_ ej) (k2.same (sok.sr.at_ ej))).mp ha)⟩
    obtain ⟨vx, em, _⟩ := sok2.sr.2 x g (.lst xs) hx
    rw [int_val v2.rep hk] at e2
    obtain ⟨M3, c1, c2⟩ := put_ok sok2 ⟨hx, em⟩ hw hj (v1.gro k2) (fun a ha hf => not_fr hF n1 a ((ow_same v1.rep (k2.same v1.rep)).mp ha) hf) sp2 st2
    exact ⟨.nx, m, M3, by rw [s_put, bnd_ok2 e1, k_put, e_var, em, kvr_s, bnd_ok_, k_put2, bnd_ok2 e2, k_put3, bnd_ok2 c1, k_put4], (Ends.mk (k1.trans k2).le ((k1.trans k2).fr hF) st2 sok2).trans c2, rfl⟩
  | .aug i o e, ts, ts', m, s, s', M, R, Fr, N, fl, h, k, hs, hN, hF => by
    simp only [tex] at h
    split at h <;> first | (cases h; done) | skip
    rename_i u hu
    obtain ⟨v, s1, h1, h⟩ := TR.bnd_ok h
    split at h <;> cases h
    rename_i w hw
    obtain ⟨x, em, hx⟩ := k.sr.2 i u.1 u.2 hu
    obtain ⟨z, M1, e1, k1, st1, v1, _⟩ := ev_st X h1 k hs hN
    have kg := k.gro k1
    obtain ⟨y, c1, c2, c3⟩ := taug_ok hw (rep_same _ _ hx (k1.same hx)).1 v1.rep
    have e0 := noL_ads (M := M1) w y c3
    have sk := kg.set (g := .d) (VOK.of c2 c3) (fun a ha => by
      have := ow_ads ha
      simp [e0] at this) i (fun j g' t' v' _ _ => ⟨fun a ha => by
      have := ow_ads ha
      simp [e0] at this, fun a _ => by simp [e0]⟩)
    exact ⟨.nx, m.set i (some y), M1, by rw [s_aug C m M i o e x em, bnd_ok2 e1, k_aug, bnd_ok2 c1, k_aug2], ⟨k1.le, k1.fr hF, st1, sk⟩, rfl⟩
  | .agi a i o e, ts, ts', m, s, s', M, R, Fr, N, fl, h, k, hs, hN, hF => by
    unfold tex at h
    split at h <;> first | (cases h; done) | skip
    rename_i x
    obtain ⟨ki, s1, h1, h⟩ := TR.bnd_ok h
    split at h <;> first | (cases h; done) | skip
    rename_i g xs kk hx hk
    split at h <;> first | (cases h; done) | skip
    rename_i hkk
    split at h <;> first | (cases h; done) | skip
    rename_i u hu
    obtain ⟨v, s2, h2, h⟩ := TR.bnd_ok h
    split at h <;> first | (cases h; done) | skip
    rename_i z hz
    split at h <;> first | (cases h; done) | skip
    rename_i w hw
    cases h
    obtain ⟨z1, M1, e1, k1, st1, v1, _⟩ := ev_st X h1 k hs hN
    have kg := k.gro k1
    obtain ⟨vx, em, _⟩ := k.sr.2 x g (.lst xs) hx
    obtain ⟨p, us, rfl, hq, hm, r, _⟩ := rep_lst (kg.sr.at_ ⟨hx, em⟩)
    obtain ⟨y, hy, hry⟩ := reps_get r hu
    obtain ⟨z2, M2, e2, k2, st2, v2, _⟩ := ev_st X h2 kg st1 (Nat.le_trans hN k1.le)
    have kg2 := kg.gro k2
    obtain ⟨y2, c1, c2, c3⟩ := taug_ok hz (rep_same _ _ hry (k2.same hry)).1 v2.rep
    have lj := (List.getElem?_eq_some_iff.mp hu).1
    have hj : L2.ixN xs.length kk = some kk.toNat := by
      unfold L2.ixN
      rw [if_pos hkk.1, if_pos (by omega)]
    have e0 := noL_ads (M := M2) z y2 c3
    obtain ⟨M3, d1, d2⟩ := put_ok kg2 ⟨hx, em⟩ hw hj (VOK.of c2 c3) (fun a ha => by
      have := ow_ads ha
      simp [e0] at this) (fun j g' t' v' _ => ⟨fun a ha => by
      have := ow_ads ha
      simp [e0] at this, fun a _ => by simp [e0]⟩) st2
    rw [int_val v1.rep hk] at e1
    exact ⟨.nx, m, M3, by rw [s_agi, e_var, em, kvr_s, bnd_ok_, k_agi, bnd_ok2 e1, k_agi2, p_get M1 hm hkk hy, bnd_ok_, k_agi3, bnd_ok2 e2, k_agi4, bnd_ok2 c1, k_agi5, bnd_ok2 d1, k_put4], (Ends.mk (k1.trans k2).le ((k1.trans k2).fr hF) st2 kg2).trans d2, rfl⟩
  | .iff c a b, ts, ts', m, s, s', M, R, Fr, N, fl, h, k, hs, hN, hF => by
    simp only [tex] at h
    obtain ⟨p, s1, h1, h⟩ := TR.bnd_ok h
    obtain ⟨M1, e1, k1⟩ := cond_sim X hsp c ts p.2 s s1 p.1 M h1 k hs hN hF
    rw [s_iff, bnd_ok2 e1]
    split at h
    · rename_i q
      rw [q, k_ift]
      obtain ⟨fl', m', M', a1, a2, a3⟩ := exs_sim X hsp a p.2 ts' m s1 s' M1 R Fr N fl h k1.sok k1.st (Nat.le_trans hN k1.le) (fr_le k1.le hF)
      exact ⟨fl', m', M', a1, k1.trans a2, a3⟩
    · rename_i q
      rw [Bool.eq_false_iff.mpr q, k_iff]
      obtain ⟨fl', m', M', a1, a2, a3⟩ := exs_sim X hsp b p.2 ts' m s1 s' M1 R Fr N fl h k1.sok k1.st (Nat.le_trans hN k1.le) (fr_le k1.le hF)
      exact ⟨fl', m', M', a1, k1.trans a2, a3⟩
  | .whl c b, ts, ts', m, s, s', M, R, Fr, N, fl, h, k, hs, hN, hF => by
    simp only [tex] at h
    rw [s_whl]
    refine whl_sim (L := M.length) ?_ ?_ C.most ts ts' m s s' fl M h (Nat.le_refl _) k hs
    · intro M ts m s s' b u hL k hs h hb
      obtain ⟨v, M1, e1, k1, st1, v1, _⟩ := ev_st X h k hs (Nat.le_trans hN hL)
      have r := v1.rep
      rw [hb] at r
      rw [rep_bl r] at e1
      exact ⟨M1, e1, k1.le, k1.fr (fr_le hL hF), st1, k.gro k1⟩
    · intro M ts ts' m s s' fl hL k hs h
      exact exs_sim X hsp b ts ts' m s s' M R Fr N fl h k hs (Nat.le_trans hN hL) (fr_le hL hF)
  | .for t it b, ts, ts', m, s, s', M, R, Fr, N, fl, h, k, hs, hN, hF => by
    simp only [tex] at h
    obtain ⟨u, s1, h1, h⟩ := TR.bnd_ok h
    obtain ⟨src, M1, e1, k1, st1, xs, F, q1, q2, q3, q4⟩ := evI_sim X it ts m s s1 M (Rd M ts m (fvI it)) u.1 u.2 h1 k.sr (SOK.cov _) (fun a ha => k.rdlt ha) hs
    have sok := SrcOK.fr k k1 q4
    rw [s_for, bnd_ok2 e1]
    unfold kfor
    have hF1 : ∀ a, (Fr a ∨ a ∈ F ∨ a ∈ adss M1 u.2 xs) → a < M1.length ∧ ¬ W.Q a := fun a ha => ha.elim (fun h => fr_le k1.le hF a h) fun h => ⟨(q4 a h).2.1, (q4 a h).2.2.1⟩
    obtain ⟨fl', m', M', a1, a2, a3⟩ := for_sim (W := W) (R := R) (N := N) (Fr := fun a => Fr a ∨ a ∈ F ∨ a ∈ adss M1 u.2 xs) (C := fturn C t b) (F := tfturn t (texs D C.most b)) q1 (fun a ha => .inr (.inl ha)) (fun a ha => .inr (.inr ha)) q3 (by
      intro Mi y v ts ts' m s s' fl hL hr hsub hfr kk hs h
      unfold tfturn at h
      split at h <;> first | (cases h; done) | skip
      rename_i m' hset
      have vy : VOK W R N Mi (gr .s y) y v := VOK.gr ⟨hr, fun a ha => ((q4 a (.inr (hsub a ha))).1).elim (fun h => k.rd h) fun h => .inr (Nat.le_trans hN h), trivial, fun a ha => ha.elim⟩
      obtain ⟨m2, c1, c2⟩ := tset_st hset kk vy (fun a ha => (no_ow ha).elim) (fun j g' t' v' ej => ⟨fun a ha => (no_ow ha).elim, fun a ha hb => (kk.new j _ _ _ ej a ha).2 (.inr (.inr (hsub a hb)))⟩)
      unfold fturn
      rw [c1]
      exact exs_sim X hsp b m' ts' m2 s s' Mi R _ N fl h c2 hs (Nat.le_trans hN (Nat.le_trans k1.le hL)) (fr_le hL hF1)) u.2.length 0 C.most (leak u.1 (fvI it) ts) ts' m s1 s' fl M1 (by omega) (by simpa using h) (Nat.le_refl _) (fun _ _ => rfl) sok st1 (by have := X.most; omega)
    exact ⟨fl', m', M', a1, ⟨Nat.le_trans k1.le a2.le, fun a ha => (a2.fr a (.inl ha)).trans (k1.fr hF a ha), a2.st, a2.sok.fr fun i g t v e a ha hf => (a2.sok.new i g t v e a ha).2 (.inl hf)⟩, a3⟩
  | .ret e, ts, ts', m, s, s', M, R, Fr, N, fl, h, k, hs, hN, hF => by
    unfold tex at h
    split at h
    · rename_i x
      split at h <;> cases h
      rename_i v hv
      obtain ⟨z, em, hr⟩ := k.sr.2 x v.1 v.2 hv
      have at_ : At ts m x v.1 v.2 z := ⟨hv, em⟩
      exact ⟨.rt z, m, M, by simp [em], ⟨Nat.le_refl _, fun _ _ => rfl, hs, k⟩, z, rfl, ⟨hr, k.adr x _ _ _ at_, k.own x _ _ _ at_, fun a ha => (k.new x _ _ _ at_ a ha).1⟩⟩
    · split at h
      · obtain ⟨p, s1, h1, h⟩ := TR.bnd_ok h
        cases h
        obtain ⟨M1, e1, k1⟩ := cond_sim X hsp e ts p.2 s s' p.1 M h1 k hs hN hF
        exact ⟨.rt (.bl p.1), m, M1, by rw [s_ret, bnd_ok2 e1, k_ret], k1, .bl p.1, rfl, VOK.of (by unfold rep; rfl) rfl⟩
      · have plain : ∀ {fl : TFl} {ts' : TSl} {s' : S}, ((tev D e ts s).bnd fun v s1 => TR.ok (TFl.rt v, ts) s1) = .ok (fl, ts') s' → ∃ fl' m' M', ex C (.ret e) m M = .ok (fl', m') M' ∧ Ends W R N Fr s' M ts' m' M' ∧ FlR W R N M' fl fl' := by
          intro fl ts' s' h
          obtain ⟨v, s1, h1, h⟩ := TR.bnd_ok h
          cases h
          obtain ⟨z, M1, e1, k1, st1, v1, _⟩ := ev_st X h1 k hs hN
          exact ⟨.rt z, m, M1, by rw [s_ret, bnd_ok2 e1, k_ret], ⟨k1.le, k1.fr hF, st1, k.gro k1⟩, z, rfl, v1⟩
        split at h
        · unfold kmv at h
          split at h
          · rename_i t s1 h1
            cases h
            obtain ⟨z, M1, e1, k1, st1, v1⟩ := mv_sim X e ts m s s' M t h1 k hs hN
            exact ⟨.rt z, m, M1, by rw [s_ret, bnd_ok2 e1, k_ret], ⟨k1.le, k1.fr hF, st1, k.gro k1⟩, z, rfl, v1.vok⟩
          · exact plain h
        · exact plain h
  | .rtn, ts, ts', m, s, s', M, R, Fr, N, fl, h, k, hs, hN, hF => by
    simp only [tex] at h
    cases h
    exact ⟨.rt .non, m, M, by simp, ⟨Nat.le_refl _, fun _ _ => rfl, hs, k⟩, .non, rfl, VOK.of (by unfold rep; rfl) rfl⟩
  | .brk, ts, ts', m, s, s', M, R, Fr, N, fl, h, k, hs, hN, hF => by
    simp only [tex] at h
    cases h
    exact ⟨.bk, m, M, by simp, ⟨Nat.le_refl _, fun _ _ => rfl, hs, k⟩, rfl⟩
  | .cnt, ts, ts', m, s, s', M, R, Fr, N, fl, h, k, hs, hN, hF => by
    simp only [tex] at h
    cases h
    exact ⟨.cn, m, M, by simp, ⟨Nat.le_refl _, fun _ _ => rfl, hs, k⟩, rfl⟩
  | .pas, ts, ts', m, s, s', M, R, Fr, N, fl, h, k, hs, hN, hF => by
    simp only [tex] at h
    cases h
    exact ⟨.nx, m, M, by simp, ⟨Nat.le_refl _, fun _ _ => rfl, hs, k⟩, rfl⟩
  | .rai _ _, ts, ts', m, s, s', M, R, Fr, N, fl, h, k, hs, hN, hF => by
    simp only [tex] at h
    cases h
theorem exs_sim {C : Cf} {D : TCf S} (X : Ctx W C D) (hsp : ∀ f, D.spo f = true → SpOK W C f) : ∀ (st : Ss) (ts ts' : TSl) (m : Sl) (s s' : S) (M : MH) (R Fr : Nat → Prop) (N : Nat) (fl : TFl), texs D C.most st ts s = .ok (fl, ts') s' → SOK W R N Fr M ts m → W.St s M → N ≤ M.length → (∀ a, Fr a → a < M.length ∧ ¬ W.Q a) → ∃ fl' m' M', exs C st m M = .ok (fl', m') M' ∧ Ends W R N Fr s' M ts' m' M' ∧ FlR W R N M' fl fl'
  | .nil, ts, ts', m, s, s', M, R, Fr, N, fl, h, k, hs, hN, hF => by
    simp only [texs] at h
    cases h
    exact ⟨.nx, m, M, by simp, ⟨Nat.le_refl _, fun _ _ => rfl, hs, k⟩, rfl⟩
  | .cons st ss, ts, ts', m, s, s', M, R, Fr, N, fl, h, k, hs, hN, hF => by
    simp only [texs] at h
    obtain ⟨p, s1, h1, h⟩ := TR.bnd_ok h
    obtain ⟨fl1, m1, M1, e1, k1, f1⟩ := ex_sim X hsp st ts p.2 m s s1 M R Fr N p.1 h1 k hs hN hF
    rw [s_cons, bnd_ok2 e1]
    cases hp : p.1 with
    | nx =>
      rw [hp] at h f1
      cases f1
      rw [k_nx]
      obtain ⟨fl', m', M', a1, a2, a3⟩ := exs_sim X hsp ss p.2 ts' m1 s1 s' M1 R Fr N fl h k1.sok k1.st (Nat.le_trans hN k1.le) (fr_le k1.le hF)
      exact ⟨fl', m', M', a1, k1.trans a2, a3⟩
    | bk =>
      rw [hp] at h f1
      cases f1
      cases h
      exact ⟨.bk, m1, M1, by rw [k_bk], k1, rfl⟩
    | cn =>
      rw [hp] at h f1
      cases f1
      cases h
      exact ⟨.cn, m1, M1, by rw [k_ct], k1, rfl⟩
    | rt w =>
      rw [hp] at h f1
      obtain ⟨v, rfl, hv⟩ := f1
      cases h
      exact ⟨.rt v, m1, M1, by rw [k_rt], k1, v, rfl, hv⟩
end
/-- defs told by hand are told rightly -/
structure PrOK (W : Wd S) (P : Pg) (pr : Pri S) : Prop where
  f : ∀ f h, pr.f f = some h → ∀ n, pr.deep ≤ n → ∀ args s w s', h args s = .ok w s' → ∀ (M : MH) (vs : List MV), reps W M args vs → W.St s M → Out W (fun a => a ∈ adss M args vs) M.length s' M (run P (n + 1) f vs M) w
  spo : ∀ f, pr.spo f = true → ∀ n, pr.deep ≤ n → SpOK W (cfg P n) f
theorem run_sim {P : Pg} {pr : Pri S} (hp : PrOK W P pr) (hm : lim < P.most) : ∀ (n f : Nat) (args : List TV) (s s' : S) (w : GV), trun P pr n f args s = .ok w s' → ∀ (M : MH) (vs : List MV), reps W M args vs → W.St s M → Out W (fun a => a ∈ adss M args vs) M.length s' M (run P n f vs M) w
  | 0, f, args, s, s', w, h, M, vs, hr, hs => by cases h
  | n + 1, f, args, s, s', w, h, M, vs, hr, hs => by
    unfold trun at h
    split at h
    · rename_i g hg
      split at h <;> first | (cases h; done) | skip
      rename_i hn
      exact hp.f f g hg n hn args s w s' h M vs hr hs
    · split at h <;> first | (cases h; done) | skip
      rename_i d hd
      split at h <;> first | (cases h; done) | skip
      rename_i hl
      obtain ⟨p, s1, h1, h⟩ := TR.bnd_ok h
      have X : Ctx W (cfg P n) { call := trun P pr n, glo := fun k => (P.cs[k]?).map (·.2), arr := fun g sh => (P.fs[g]?).bind fun e => (e.shapes[sh]?).map (·.2.2), spo := fun f => pr.spo f && decide (pr.deep ≤ n) } :=
        ⟨hm, fun _ => rfl, fun _ _ => rfl, fun f args s w s' h M vs hr hs => run_sim hp hm n f args s s' w h M vs hr hs⟩
      have hvl := reps_len hr
      -- the slots at first
      have at0 : ∀ i g t v, At (args.map (fun v => some (gr .s v, v)) ++ List.replicate (d.N.length - d.np) none) (vs.map some ++ List.replicate (d.N.length - d.np) none) i g t v → args[i]? = some t ∧ vs[i]? = some v ∧ g = gr .s t := by
        rintro i g t v ⟨h1, h2⟩
        by_cases hi : i < args.length
        · rw [List.getElem?_append_left (by simpa using hi), List.getElem?_map] at h1
          rw [List.getElem?_append_left (by simp; omega), List.getElem?_map] at h2
          cases e1 : args[i]? with
          | none => simp [e1] at h1
          | some a =>
            cases e2 : vs[i]? with
            | none => simp [e2] at h2
            | some b =>
              simp [e1] at h1
              simp [e2] at h2
              obtain ⟨rfl, rfl⟩ := h1
              subst h2
              exact ⟨rfl, rfl, rfl⟩
        · rw [List.getElem?_append_right (by simp; omega), List.getElem?_replicate] at h1
          split at h1 <;> cases h1
      have sok : SOK W (fun a => a ∈ adss M args vs) M.length (fun a => a < M.length ∧ ¬ W.Q a) M (args.map (fun v => some (gr .s v, v)) ++ List.replicate (d.N.length - d.np) none) (vs.map some ++ List.replicate (d.N.length - d.np) none) := by
        refine ⟨⟨by simp [hvl], fun i g t e => ?_⟩, fun i g t v e a ha => ?_, fun i g t v e => ?_, fun i g t v e a ha => ?_, fun i j g t v g' t' v' _ e _ a ha => ?_⟩
        · by_cases hi : i < args.length
          · rw [List.getElem?_append_left (by simpa using hi), List.getElem?_map] at e
            cases e1 : args[i]? with
            | none => simp [e1] at e
            | some a =>
              simp [e1] at e
              obtain ⟨rfl, rfl⟩ := e
              obtain ⟨v, h1, h2⟩ := reps_get hr e1
              refine ⟨v, ?_, h2⟩
              rw [List.getElem?_append_left (by simp; omega), List.getElem?_map, h1]
              rfl
          · rw [List.getElem?_append_right (by simp; omega), List.getElem?_replicate] at e
            split at e <;> cases e
        · obtain ⟨h1, h2, _⟩ := at0 i g t v e
          exact .inl ((part_of hr h1 h2).1 a ha)
        · obtain ⟨h1, h2, rfl⟩ := at0 i g t v e
          exact own_gr trivial
        · obtain ⟨h1, h2, rfl⟩ := at0 i g t v e
          exact (no_ow ha).elim
        · obtain ⟨h1, h2, rfl⟩ := at0 i g t v e
          exact (no_ow ha).elim
      obtain ⟨fl', m', M', a1, a2, a3⟩ := exs_sim X (fun f hf => by
        simp only [Bool.and_eq_true, decide_eq_true_eq] at hf
        exact hp.spo f hf.1 n hf.2) d.body _ p.2 _ s s1 M _ _ M.length p.1 h1 sok hs (Nat.le_refl _) (fun a ha => ha)
      have gro : Gro W M M' := ⟨a2.le, fun a h1 h2 => a2.fr a ⟨h1, h2⟩⟩
      have run_eq : run P (n + 1) f vs M = (exs (cfg P n) d.body (vs.map some ++ List.replicate (d.N.length - d.np) none) M).fin := by
        rw [run_succ, hd]
        simp only
        rw [if_pos (by omega)]
        rfl
      rw [run_eq, a1]
      cases hpf : p.1 with
      | nx =>
        rw [hpf] at h a3
        cases a3
        cases h
        exact ⟨.non, M', rfl, gro, a2.st, VOK.of (by unfold rep; rfl) rfl⟩
      | bk =>
        rw [hpf] at h
        cases h
      | cn =>
        rw [hpf] at h
        cases h
      | rt v =>
        rw [hpf] at h a3
        obtain ⟨z, rfl, hz⟩ := a3
        cases h
        exact ⟨z, M', rfl, gro, a2.st, hz⟩
end
end TM

set_option Elab.async false
set_option linter.all false
set_option maxRecDepth 100000
set_option autoImplicit false
set_option maxHeartbeats 4000000
/-! TM, part j: running over trees by rules. -/
namespace TM
open PySem MP
section
variable {S : Type}
def tcf (P : Pg) (pr : Pri S) (n : Nat) : TCf S := { call := trun P pr n, glo := fun k => (P.cs[k]?).map (·.2), arr := fun g sh => (P.fs[g]?).bind fun e => (e.shapes[sh]?).map (·.2.2), spo := fun f => pr.spo f && decide (pr.deep ≤ n) }
def TR.fin (x : TR S (TFl × TSl)) : TR S GV := x.bnd fun p s1 => match p.1 with
  | .nx => .ok (.d, .non) s1
  | .rt v => .ok v s1
  | _ => .bad
@[simp] theorem t_bnd {α β : Type} (a : α) (s : S) (f : α → S → TR S β) : (TR.ok a s).bnd f = f a s := rfl
@[simp] theorem t_of {α : Type} (a : α) (s : S) : TR.of s (some a) = .ok a s := rfl
@[simp] theorem t_fin_rt (v : GV) (m : TSl) (s : S) : (TR.ok (TFl.rt v, m) s).fin = .ok v s := rfl
@[simp] theorem t_fin_nx (m : TSl) (s : S) : (TR.ok (TFl.nx, m) s).fin = .ok (.d, .non) s := rfl
@[simp] theorem tcf_call (P : Pg) (pr : Pri S) (n : Nat) : (tcf P pr n).call = trun P pr n := rfl
/-- the slots that a def begins with -/
def tin0 (args : List TV) (k : Nat) : TSl := args.map (fun v => some (gr .s v, v)) ++ List.replicate k none
theorem trun_go {P : Pg} {pr : Pri S} {i np nl n : Nat} {body : Ss} {args : List TV} {s : S} (h : IsD P i np nl body) (hp : pr.f i = none) (hl : args.length = np) : trun P pr (n + 1) i args s = (texs (tcf P pr n) P.most body (tin0 args (nl - np)) s).fin := by
  obtain ⟨d, h1, rfl, rfl, rfl⟩ := h
  show (match pr.f i with
    | some h => if pr.deep ≤ n then h args s else .bad
    | none => _) = _
  rw [hp]
  simp only [h1]
  rw [if_pos hl]
  rfl
theorem trun_pr {P : Pg} {pr : Pri S} {i n : Nat} {h : List TV → S → TR S GV} {args : List TV} {s : S} (hp : pr.f i = some h) (hn : pr.deep ≤ n) : trun P pr (n + 1) i args s = h args s := by
  show (match pr.f i with
    | some h => if pr.deep ≤ n then h args s else .bad
    | none => _) = _
  rw [hp]
  exact if_pos hn

def kvr (s : S) : Option (Option GV) → TR S GV
  | some (some v) => .ok (gr .s v.2, v.2) s
  | _ => .bad
def kcv (s : S) : Option TV → TR S GV
  | some t => .ok (gr .s t, t) s
  | none => .bad
def k1 (f : GV → GV → Option GV) (u v : GV) (s : S) : TR S GV := .of s (f u v)
def k2 (C : TCf S) (b : E) (m : TSl) (f : GV → GV → Option GV) (u : GV) (s : S) : TR S GV := (tev C b m s).bnd (k1 f u)
def kB (s : S) : Option Bool → TR S GV
  | some b => .ok (.d, .bl b) s
  | none => .bad
def kc1 (o : COp) (u v : GV) (s : S) : TR S GV := kB s (tcmp o u.2 v.2)
def kc2 (C : TCf S) (b : E) (m : TSl) (o : COp) (u : GV) (s : S) : TR S GV := (tev C b m s).bnd (kc1 o u)
def kh3 (C : TCf S) (c : E) (m : TSl) (p : COp) (v : GV) (s : S) : Option Bool → TR S GV
  | some true => (tev C c m s).bnd (kc1 p v)
  | some false => .ok (.d, .bl false) s
  | none => .bad
def kh2 (C : TCf S) (c : E) (m : TSl) (o p : COp) (u v : GV) (s : S) : TR S GV := kh3 C c m p v s (tcmp o u.2 v.2)
def kh1 (C : TCf S) (b c : E) (m : TSl) (o p : COp) (u : GV) (s : S) : TR S GV := (tev C b m s).bnd (kh2 C c m o p u)
def kand (C : TCf S) (b : E) (m : TSl) (u : GV) (s : S) : TR S GV := match u.2 with
  | .bl true => tev C b m s
  | .bl false => .ok (.d, .bl false) s
  | _ => .bad
def kor (C : TCf S) (b : E) (m : TSl) (u : GV) (s : S) : TR S GV := match u.2 with
  | .bl false => tev C b m s
  | .bl true => .ok (.d, .bl true) s
  | _ => .bad
def knot (u : GV) (s : S) : TR S GV := match u.2 with
  | .bl b => .ok (.d, .bl (!b)) s
  | _ => .bad
def kneg (u : GV) (s : S) : TR S GV := match u.2 with
  | .int b => .ok (.d, .int (-b)) s
  | _ => .bad
def kife (C : TCf S) (a b : E) (m : TSl) (u : GV) (s : S) : TR S GV := match u.2 with
  | .bl true => tev C a m s
  | .bl false => tev C b m s
  | _ => .bad
def ks3 (u : GV) (lo : Option Int) (hi : Option Int) (s : S) : TR S GV := .of s (tslc u lo hi)
def ks2 (C : TCf S) (hi : Option E) (m : TSl) (u : GV) (lo : Option Int) (s : S) : TR S GV := (tbO C hi m s).bnd (ks3 u lo)
def ks1 (C : TCf S) (lo hi : Option E) (m : TSl) (u : GV) (s : S) : TR S GV := (tbO C lo m s).bnd (ks2 C hi m u)
def kbd (x : GV) (s : S) : TR S (Option Int) := .of s (bnd1 x)
def krev (u : GV) (s : S) : TR S GV := .of s (trev u)
def ktup (vs : List GV) (s : S) : TR S GV := .ok (gr (gall vs) (.tup (vs.map (·.2))), .tup (vs.map (·.2))) s
def klst (vs : List GV) (s : S) : TR S GV := .ok (gl (gall vs) (vs.map (·.2)), .lst (vs.map (·.2))) s
def kcl3 (C : TCf S) (f : Nat) (s : S) : Option (List TV) → TR S GV
  | some args => C.call f args s
  | none => .bad
def kcl2 (C : TCf S) (f : Nat) (s : S) (vs : List TV) : Option (List Ar) → TR S GV
  | some ar => kcl3 C f s (ar.mapM (targ vs))
  | none => .bad
def kcl1 (C : TCf S) (f sh : Nat) (vs ws : List GV) (s : S) : TR S GV := kcl2 C f s (vs.map (·.2) ++ ws.map (·.2)) (C.arr f sh)
def kcal (C : TCf S) (f sh : Nat) (ks : Es) (m : TSl) (vs : List GV) (s : S) : TR S GV := (tevs C ks m s).bnd (kcl1 C f sh vs)
def kbt (b : Bt) (vs : List GV) (s : S) : TR S GV := .of s (tbt b vs)
def kisi (ts : List Ty) (u : GV) (s : S) : TR S GV := .ok (.d, .bl (tisi u.2 ts)) s
def kcm2 (ys : List GV) (s : S) : TR S GV := .ok (gl (gall ys) (ys.map (·.2)), .lst (ys.map (·.2))) s
def kcom (C : TCf S) (t : Tg) (c : Option E) (e : E) (m : TSl) (x : G × List TV) (s : S) : TR S GV := (tcomL (tturn t m (tcO C c) (tev C e)) x.2 s).bnd kcm2
def klr1 (v : GV) (s : S) : TR S GV := match v.2 with
    | .int j => if -1000000 ≤ j ∧ j ≤ 1000000 then .ok (.d, .lst (trg 0 j.toNat)) s else .bad
    | _ => .bad
def klr2 (u v : GV) (s : S) : TR S GV := match u.2, v.2 with
    | .int i, .int j => if -1000000 ≤ i ∧ i ≤ 1000000 ∧ -1000000 ≤ j ∧ j ≤ 1000000 then .ok (.d, .lst (trg i (j - i).toNat)) s else .bad
    | _, _ => .bad
def klr (C : TCf S) (b : E) (m : TSl) (u : GV) (s : S) : TR S GV := (tev C b m s).bnd (klr2 u)
def klset (v : GV) (s : S) : TR S GV := match v.2 with
    | .lst xs => match ttups xs with
      | some ls => if ls.length < 64 then .ok (.d, .int (dcount ls)) s else .bad
      | none => .bad
    | _ => .bad
def kcn (v : GV) (vs : List GV) (s : S) : TR S (List GV) := .ok (v :: vs) s
def kcons (C : TCf S) (es : Es) (m : TSl) (v : GV) (s : S) : TR S (List GV) := (tevs C es m s).bnd (kcn v)
def kseq (v : GV) (s : S) : TR S (G × List TV) := match v.2 with
    | .tup xs => tlim xs s v.1
    | .lst xs => tlim xs s v.1
    | _ => .bad
def krg1 (v : GV) (s : S) : TR S (G × List TV) := match v.2 with
    | .int j => if -1000000 ≤ j ∧ j ≤ 1000000 then .ok (.d, trg 0 j.toNat) s else .bad
    | _ => .bad
def krg2 (u v : GV) (s : S) : TR S (G × List TV) := match u.2, v.2 with
    | .int i, .int j => if -1000000 ≤ i ∧ i ≤ 1000000 ∧ -1000000 ≤ j ∧ j ≤ 1000000 ∧ (j - i).toNat ≤ lim then .ok (.d, trg i (j - i).toNat) s else .bad
    | _, _ => .bad
def kzip (u v : GV) (s : S) : TR S (G × List TV) := match u.2, v.2 with
    | .tup xs, .tup ys => tlim (tzip xs ys) s (gm u.1 v.1)
    | .lst xs, .lst ys => tlim (tzip xs ys) s (gm u.1 v.1)
    | _, _ => .bad
def kI2 (C : TCf S) (b : E) (m : TSl) (f : GV → GV → S → TR S (G × List TV)) (u : GV) (s : S) : TR S (G × List TV) := (tev C b m s).bnd (f u)
def kenu (v : GV) (s : S) : TR S (G × List TV) := match v.2 with
    | .lst xs => tlim (tenu 0 xs) s v.1
    | _ => .bad
section
variable (C : TCf S) (m : TSl) (s : S)
@[simp] theorem kvr_s (v : GV) : kvr s (some (some v)) = .ok (gr .s v.2, v.2) s := rfl
@[simp] theorem te_var (i : Nat) : tev C (.var i) m s = kvr s m[i]? := by
  simp only [tev]
  cases h : m[i]? with
  | none => rfl
  | some o => cases o <;> rfl
@[simp] theorem kcv_s (v : TV) : kcv s (some v) = .ok (gr .s v, v) s := rfl
@[simp] theorem te_cst (v : MV) : tev C (.cst v) m s = kcv s (tcv v) := by
  simp only [tev]
  cases tcv v <;> rfl
theorem te_glo {k : Nat} {v : MV} {t : TV} (h : C.glo k = some v) (h2 : tcv v = some t) : tev C (.glo k) m s = .ok (gr .s t, t) s := by simp only [tev, h, Option.bind_some, h2]
@[simp] theorem te_dnw : tev C .dnw m s = .ok (.d, .dct) s := by simp only [tev]
@[simp] theorem te_bin (o : BOp) (a b : E) : tev C (.bin o a b) m s = (tev C a m s).bnd (k2 C b m (tbin o)) := by
  simp only [tev]
  rfl
@[simp] theorem te_idx (a b : E) : tev C (.idx a b) m s = (tev C a m s).bnd (k2 C b m tidx) := by
  simp only [tev]
  rfl
@[simp] theorem k_2 (b : E) (f : GV → GV → Option GV) (u : GV) : k2 C b m f u s = (tev C b m s).bnd (k1 f u) := rfl
@[simp] theorem k_1 (f : GV → GV → Option GV) (u v : GV) : k1 f u v s = .of s (f u v) := rfl
@[simp] theorem k_B (b : Bool) : kB s (some b) = .ok (.d, .bl b) s := rfl
theorem ofB (o : Option Bool) : TR.of s (o.map fun b => ((G.d, TV.bl b) : GV)) = kB s o := by cases o <;> rfl
@[simp] theorem te_cmp (o : COp) (a b : E) : tev C (.cmp o a b) m s = (tev C a m s).bnd (kc2 C b m o) := by
  simp only [tev, ofB]
  rfl
@[simp] theorem k_c2 (b : E) (o : COp) (u : GV) : kc2 C b m o u s = (tev C b m s).bnd (kc1 o u) := rfl
@[simp] theorem k_c1 (o : COp) (u v : GV) : kc1 o u v s = kB s (tcmp o u.2 v.2) := rfl
@[simp] theorem te_chn (o p : COp) (a b c : E) : tev C (.chn o p a b c) m s = (tev C a m s).bnd (kh1 C b c m o p) := by
  simp only [tev, ofB]
  congr 1
@[simp] theorem k_h1 (o p : COp) (b c : E) (u : GV) : kh1 C b c m o p u s = (tev C b m s).bnd (kh2 C c m o p u) := rfl
@[simp] theorem k_h2 (o p : COp) (c : E) (u v : GV) : kh2 C c m o p u v s = kh3 C c m p v s (tcmp o u.2 v.2) := rfl
@[simp] theorem k_h3t (p : COp) (c : E) (v : GV) : kh3 C c m p v s (some true) = (tev C c m s).bnd (kc1 p v) := rfl
@[simp] theorem k_h3f (p : COp) (c : E) (v : GV) : kh3 C c m p v s (some false) = .ok (.d, .bl false) s := rfl
@[simp] theorem te_and (a b : E) : tev C (.and a b) m s = (tev C a m s).bnd (kand C b m) := by
  simp only [tev]
  rfl
@[simp] theorem k_andt (b : E) (g : G) : kand C b m (g, .bl true) s = tev C b m s := rfl
@[simp] theorem k_andf (b : E) (g : G) : kand C b m (g, .bl false) s = .ok (.d, .bl false) s := rfl
@[simp] theorem te_or (a b : E) : tev C (.or a b) m s = (tev C a m s).bnd (kor C b m) := by
  simp only [tev]
  rfl
@[simp] theorem k_orf (b : E) (g : G) : kor C b m (g, .bl false) s = tev C b m s := rfl
@[simp] theorem k_ort (b : E) (g : G) : kor C b m (g, .bl true) s = .ok (.d, .bl true) s := rfl
@[simp] theorem te_not (a : E) : tev C (.not a) m s = (tev C a m s).bnd knot := by
  simp only [tev]
  rfl
@[simp] theorem k_not (b : Bool) (g : G) : knot (g, .bl b) s = .ok (.d, .bl (!b)) s := rfl
@[simp] theorem te_neg (a : E) : tev C (.neg a) m s = (tev C a m s).bnd kneg := by
  simp only [tev]
  rfl
@[simp] theorem k_neg (b : Int) (g : G) : kneg (g, .int b) s = .ok (.d, .int (-b)) s := rfl
@[simp] theorem te_ife (c a b : E) : tev C (.ife c a b) m s = (tev C c m s).bnd (kife C a b m) := by
  simp only [tev]
  rfl
@[simp] theorem k_ifet (a b : E) (g : G) : kife C a b m (g, .bl true) s = tev C a m s := rfl
@[simp] theorem k_ifef (a b : E) (g : G) : kife C a b m (g, .bl false) s = tev C b m s := rfl
@[simp] theorem te_slc (a : E) (lo hi : Option E) : tev C (.slc a lo hi) m s = (tev C a m s).bnd (ks1 C lo hi m) := tev_slc C a lo hi m s
@[simp] theorem k_s1 (lo hi : Option E) (u : GV) : ks1 C lo hi m u s = (tbO C lo m s).bnd (ks2 C hi m u) := rfl
@[simp] theorem k_s2 (hi : Option E) (u : GV) (lo : Option Int) : ks2 C hi m u lo s = (tbO C hi m s).bnd (ks3 u lo) := rfl
@[simp] theorem k_s3 (u : GV) (lo hi : Option Int) : ks3 u lo hi s = .of s (tslc u lo hi) := rfl
@[simp] theorem tbO_n : tbO C none m s = .ok none s := rfl
@[simp] theorem tbO_s (l : E) : tbO C (some l) m s = (tev C l m s).bnd kbd := rfl
@[simp] theorem k_bd (i : Int) (g : G) : kbd (g, .int i) s = .ok (some i) s := rfl
@[simp] theorem te_rev (a : E) : tev C (.rev a) m s = (tev C a m s).bnd krev := by
  simp only [tev]
  rfl
@[simp] theorem k_rev (u : GV) : krev u s = .of s (trev u) := rfl
@[simp] theorem te_tup (es : Es) : tev C (.tup es) m s = (tevs C es m s).bnd ktup := by
  simp only [tev]
  rfl
@[simp] theorem k_tup (vs : List GV) : ktup vs s = .ok (gr (gall vs) (.tup (vs.map (·.2))), .tup (vs.map (·.2))) s := rfl
@[simp] theorem te_lst (es : Es) : tev C (.lst es) m s = (tevs C es m s).bnd klst := by
  simp only [tev]
  rfl
@[simp] theorem k_lst (vs : List GV) : klst vs s = .ok (gl (gall vs) (vs.map (·.2)), .lst (vs.map (·.2))) s := rfl
@[simp] theorem te_cal (f sh : Nat) (es ks : Es) : tev C (.cal f sh es ks) m s = (tevs C es m s).bnd (kcal C f sh ks m) := by
  simp only [tev]
  congr 1
@[simp] theorem k_cal (f sh : Nat) (ks : Es) (vs : List GV) : kcal C f sh ks m vs s = (tevs C ks m s).bnd (kcl1 C f sh vs) := rfl
@[simp] theorem k_cl1 (f sh : Nat) (vs ws : List GV) : kcl1 C f sh vs ws s = kcl2 C f s (vs.map (·.2) ++ ws.map (·.2)) (C.arr f sh) := rfl
@[simp] theorem k_cl2 (f : Nat) (vs : List TV) (ar : List Ar) : kcl2 C f s vs (some ar) = kcl3 C f s (ar.mapM (targ vs)) := rfl
@[simp] theorem k_cl3 (f : Nat) (args : List TV) : kcl3 C f s (some args) = C.call f args s := rfl
@[simp] theorem targ_at (vs : List TV) (i : Nat) : targ vs (.at i) = vs[i]? := rfl
@[simp] theorem targ_df (vs : List TV) (v : MV) : targ vs (.df v) = tcv v := rfl
@[simp] theorem te_blt (b : Bt) (es : Es) : tev C (.blt b es) m s = (tevs C es m s).bnd (kbt b) := by
  simp only [tev]
  rfl
@[simp] theorem k_bt (b : Bt) (vs : List GV) : kbt b vs s = .of s (tbt b vs) := rfl
@[simp] theorem te_isi (a : E) (ts : List Ty) (y : Bool) : tev C (.isi a ts y) m s = (tev C a m s).bnd (kisi ts) := by
  simp only [tev]
  rfl
@[simp] theorem k_isi (ts : List Ty) (u : GV) : kisi ts u s = .ok (.d, .bl (tisi u.2 ts)) s := rfl
@[simp] theorem te_com (t : Tg) (it : MP.It) (c : Option E) (e : E) : tev C (.com t it c e) m s = (tevI C it m s).bnd (kcom C t c e m) := tev_com C t it c e m s
@[simp] theorem te_lr1 (a : E) : tev C (.lr1 a) m s = (tev C a m s).bnd klr1 := by
  simp only [tev]
  rfl
theorem k_lr1 {j : Int} (g : G) (h : -1000000 ≤ j ∧ j ≤ 1000000) : klr1 (g, .int j) s = .ok (.d, .lst (trg 0 j.toNat)) s := if_pos h
@[simp] theorem te_lr2 (a b : E) : tev C (.lr2 a b) m s = (tev C a m s).bnd (klr C b m) := by
  simp only [tev]
  rfl
@[simp] theorem te_lset (a : E) : tev C (.lset a) m s = (tev C a m s).bnd klset := by
  simp only [tev]
  rfl
theorem k_lset {g : G} {xs : List TV} {ls : List (List Int)} (h : ttups xs = some ls) (h2 : ls.length < 64) : klset (g, .lst xs) s = .ok (.d, .int (dcount ls)) s := by
  simp [klset, h, h2]
@[simp] theorem tes_nil : tevs C .nil m s = .ok [] s := by simp only [tevs]
@[simp] theorem tes_cons (e : E) (es : Es) : tevs C (.cons e es) m s = (tev C e m s).bnd (kcons C es m) := by
  simp only [tevs]
  rfl
@[simp] theorem k_cons (es : Es) (v : GV) : kcons C es m v s = (tevs C es m s).bnd (kcn v) := rfl
@[simp] theorem k_cn (v : GV) (vs : List GV) : kcn v vs s = .ok (v :: vs) s := rfl
@[simp] theorem ti_seq (e : E) : tevI C (.seq e) m s = (tev C e m s).bnd kseq := by
  simp only [tevI]
  rfl
theorem tlim_le {xs : List TV} {g : G} (h : xs.length ≤ lim) : tlim xs s g = .ok (g, xs) s := if_pos h
@[simp] theorem k_seqL (g : G) (xs : List TV) : kseq (g, .lst xs) s = tlim xs s g := rfl
@[simp] theorem k_seqT (g : G) (xs : List TV) : kseq (g, .tup xs) s = tlim xs s g := rfl
@[simp] theorem ti_rg1 (e : E) : tevI C (.rg1 e) m s = (tev C e m s).bnd krg1 := by
  simp only [tevI]
  rfl
theorem k_rg1 {j : Int} (g : G) (h : -1000000 ≤ j ∧ j ≤ 1000000) : krg1 (g, .int j) s = .ok (.d, trg 0 j.toNat) s := if_pos h
@[simp] theorem ti_rg2 (a b : E) : tevI C (.rg2 a b) m s = (tev C a m s).bnd (kI2 C b m krg2) := by
  simp only [tevI]
  rfl
@[simp] theorem k_I2 (b : E) (f : GV → GV → S → TR S (G × List TV)) (u : GV) : kI2 C b m f u s = (tev C b m s).bnd (f u) := rfl
@[simp] theorem ti_zip (a b : E) : tevI C (.zip a b) m s = (tev C a m s).bnd (kI2 C b m kzip) := by
  simp only [tevI]
  rfl
@[simp] theorem k_zipL (g g' : G) (xs ys : List TV) : kzip (g, .lst xs) (g', .lst ys) s = tlim (tzip xs ys) s (gm g g') := rfl
@[simp] theorem k_zipT (g g' : G) (xs ys : List TV) : kzip (g, .tup xs) (g', .tup ys) s = tlim (tzip xs ys) s (gm g g') := rfl
@[simp] theorem ti_enu (e : E) : tevI C (.enu e) m s = (tev C e m s).bnd kenu := by
  simp only [tevI]
  rfl
@[simp] theorem k_enuL (g : G) (xs : List TV) : kenu (g, .lst xs) s = tlim (tenu 0 xs) s g := rfl
end
/-! ### statements -/
def kss (C : TCf S) (mo : Nat) (ss : Ss) : TFl × TSl → S → TR S (TFl × TSl)
  | (.nx, m), s => texs C mo ss m s
  | (f, m), s => .ok (f, m) s
def kas2 (s : S) : Option TSl → TR S (TFl × TSl)
  | some m' => .ok (.nx, m') s
  | none => .bad
def kas3 (s : S) (y : Option TSl) : Option TSl → TR S (TFl × TSl)
  | some m' => .ok (.nx, m') s
  | none => kas2 s y
def kasg (C : TCf S) (t : Tg) (e : E) (m : TSl) (v : GV) (s : S) : TR S (TFl × TSl) := kas3 s (tset t v.1 v.2 (leak v.1 (fvE e) m)) (mvA t e m)
def kexp (m : TSl) (_ : GV) (s : S) : TR S (TFl × TSl) := .ok (.nx, m) s
def kau2 (i : Nat) (m : TSl) (s : S) : Option TV → TR S (TFl × TSl)
  | some w => .ok (.nx, m.set i (some (.d, w))) s
  | none => .bad
def kaug (i : Nat) (o : BOp) (m : TSl) (u : TV) (v : GV) (s : S) : TR S (TFl × TSl) := kau2 i m s (taug o u v.2)
def kif (C : TCf S) (mo : Nat) (a b : Ss) (p : Bool × TSl) (s : S) : TR S (TFl × TSl) := if p.1 = true then texs C mo a p.2 s else texs C mo b p.2 s
def kfor (C : TCf S) (mo : Nat) (t : Tg) (it : MP.It) (b : Ss) (m : TSl) (x : G × List TV) (s : S) : TR S (TFl × TSl) := tforL (tfturn t (texs C mo b)) x.2 (leak x.1 (fvI it) m) s
def kret (m : TSl) (v : GV) (s : S) : TR S (TFl × TSl) := .ok (.rt v, m) s
def krtv (m : TSl) (s : S) : Option (Option GV) → TR S (TFl × TSl)
  | some (some v) => .ok (.rt v, m) s
  | _ => .bad
def krtc (p : Bool × TSl) (s : S) : TR S (TFl × TSl) := .ok (.rt (.d, .bl p.1), p.2) s
def kcnA (C : TCf S) (b : E) (p : Bool × TSl) (s : S) : TR S (Bool × TSl) := if p.1 = true then tcond C b p.2 s else .ok (false, p.2) s
def kcnO (C : TCf S) (b : E) (p : Bool × TSl) (s : S) : TR S (Bool × TSl) := if p.1 = true then .ok (true, p.2) s else tcond C b p.2 s
def kcnN (p : Bool × TSl) (s : S) : TR S (Bool × TSl) := .ok (!p.1, p.2) s
def kapp (C : TCf S) (b : Mt) (x : Nat) (es : Es) (m : TSl) (vs : List GV) (s : S) : TR S (TFl × TSl) := match (leak (gall vs) (fvEs es) m)[x]? with
      | some (some u) => match tmth b u vs with
        | some (w, _) => .ok (.nx, (leak (gall vs) (fvEs es) m).set x (some w)) s
        | none => .bad
      | _ => .bad
def kap2 (x : Nat) (m : TSl) (k v : GV) (s : S) : TR S (TFl × TSl) := kas2 s (tapp2 m x k v)
def kap1 (C : TCf S) (x : Nat) (e : E) (m : TSl) (k : GV) (s : S) : TR S (TFl × TSl) := (tev C e m s).bnd (kap2 x m k)
section
variable (C : TCf S) (mo : Nat) (m : TSl) (s : S)
@[simp] theorem ts_nil : texs C mo .nil m s = .ok (.nx, m) s := by simp only [texs]
@[simp] theorem ts_cons (st : MP.S) (ss : Ss) : texs C mo (.cons st ss) m s = (tex C mo st m s).bnd (kss C mo ss) := by
  simp only [texs]
  congr 1
  funext p s1
  obtain ⟨f, m'⟩ := p
  cases f <;> rfl
@[simp] theorem k_nx (ss : Ss) : kss C mo ss (.nx, m) s = texs C mo ss m s := rfl
@[simp] theorem k_rt (ss : Ss) (v : GV) : kss C mo ss (.rt v, m) s = .ok (.rt v, m) s := rfl
@[simp] theorem k_bk (ss : Ss) : kss C mo ss (.bk, m) s = .ok (.bk, m) s := rfl
@[simp] theorem k_ct (ss : Ss) : kss C mo ss (.cn, m) s = .ok (.cn, m) s := rfl
theorem ts_asg' (t : Tg) (e : E) (h : isTT t e = none) : tex C mo (.asg t e) m s = (tev C e m s).bnd (kasg C t e m) := by
  simp only [tex, h]
  congr 1
@[simp] theorem ts_asg (i : Nat) (e : E) : tex C mo (.asg (.nm i) e) m s = (tev C e m s).bnd (kasg C (.nm i) e m) := ts_asg' C mo m s _ _ rfl
def katt (C : TCf S) (is : List Nat) (es : Es) (m : TSl) (vs : List GV) (s : S) : TR S (TFl × TSl) := kas2 s (tsets is (vs.map gn) (leak (gall (vs.map gn)) (fvEs es) m))
@[simp] theorem ts_asg_tt (is : List Nat) (es : Es) : tex C mo (.asg (.tp is) (.tup es)) m s = (tevs C es m s).bnd (katt C is es m) := by
  simp only [tex, isTT]
  congr 1
@[simp] theorem k_att (is : List Nat) (es : Es) (vs : List GV) : katt C is es m vs s = kas2 s (tsets is (vs.map gn) (leak (gall (vs.map gn)) (fvEs es) m)) := rfl
@[simp] theorem ts_asg_var (is : List Nat) (i : Nat) : tex C mo (.asg (.tp is) (.var i)) m s = (tev C (.var i) m s).bnd (kasg C (.tp is) (.var i) m) := ts_asg' C mo m s _ _ rfl
@[simp] theorem ts_asg_cst (is : List Nat) (v : MV) : tex C mo (.asg (.tp is) (.cst v)) m s = (tev C (.cst v) m s).bnd (kasg C (.tp is) (.cst v) m) := ts_asg' C mo m s _ _ rfl
@[simp] theorem ts_asg_glo (is : List Nat) (k : Nat) : tex C mo (.asg (.tp is) (.glo k)) m s = (tev C (.glo k) m s).bnd (kasg C (.tp is) (.glo k) m) := ts_asg' C mo m s _ _ rfl
@[simp] theorem ts_asg_dnw (is : List Nat)  : tex C mo (.asg (.tp is) (.dnw)) m s = (tev C (.dnw) m s).bnd (kasg C (.tp is) (.dnw) m) := ts_asg' C mo m s _ _ rfl
@[simp] theorem ts_asg_bin (is : List Nat) (o : BOp) (a b : E) : tex C mo (.asg (.tp is) (.bin o a b)) m s = (tev C (.bin o a b) m s).bnd (kasg C (.tp is) (.bin o a b) m) := ts_asg' C mo m s _ _ rfl
@[simp] theorem ts_asg_cmp (is : List Nat) (o : COp) (a b : E) : tex C mo (.asg (.tp is) (.cmp o a b)) m s = (tev C (.cmp o a b) m s).bnd (kasg C (.tp is) (.cmp o a b) m) := ts_asg' C mo m s _ _ rfl
@[simp] theorem ts_asg_chn (is : List Nat) (o p : COp) (a b c : E) : tex C mo (.asg (.tp is) (.chn o p a b c)) m s = (tev C (.chn o p a b c) m s).bnd (kasg C (.tp is) (.chn o p a b c) m) := ts_asg' C mo m s _ _ rfl
@[simp] theorem ts_asg_and (is : List Nat) (a b : E) : tex C mo (.asg (.tp is) (.and a b)) m s = (tev C (.and a b) m s).bnd (kasg C (.tp is) (.and a b) m) := ts_asg' C mo m s _ _ rfl
@[simp] theorem ts_asg_or (is : List Nat) (a b : E) : tex C mo (.asg (.tp is) (.or a b)) m s = (tev C (.or a b) m s).bnd (kasg C (.tp is) (.or a b) m) := ts_asg' C mo m s _ _ rfl
@[simp] theorem ts_asg_not (is : List Nat) (a : E) : tex C mo (.asg (.tp is) (.not a)) m s = (tev C (.not a) m s).bnd (kasg C (.tp is) (.not a) m) := ts_asg' C mo m s _ _ rfl
@[simp] theorem ts_asg_neg (is : List Nat) (a : E) : tex C mo (.asg (.tp is) (.neg a)) m s = (tev C (.neg a) m s).bnd (kasg C (.tp is) (.neg a) m) := ts_asg' C mo m s _ _ rfl
@[simp] theorem ts_asg_ife (is : List Nat) (c a b : E) : tex C mo (.asg (.tp is) (.ife c a b)) m s = (tev C (.ife c a b) m s).bnd (kasg C (.tp is) (.ife c a b) m) := ts_asg' C mo m s _ _ rfl
@[simp] theorem ts_asg_idx (is : List Nat) (a b : E) : tex C mo (.asg (.tp is) (.idx a b)) m s = (tev C (.idx a b) m s).bnd (kasg C (.tp is) (.idx a b) m) := ts_asg' C mo m s _ _ rfl
@[simp] theorem ts_asg_slc (is : List Nat) (a : E) (b c : Option E) : tex C mo (.asg (.tp is) (.slc a b c)) m s = (tev C (.slc a b c) m s).bnd (kasg C (.tp is) (.slc a b c) m) := ts_asg' C mo m s _ _ rfl
@[simp] theorem ts_asg_rev (is : List Nat) (a : E) : tex C mo (.asg (.tp is) (.rev a)) m s = (tev C (.rev a) m s).bnd (kasg C (.tp is) (.rev a) m) := ts_asg' C mo m s _ _ rfl
@[simp] theorem ts_asg_lst (is : List Nat) (es : Es) : tex C mo (.asg (.tp is) (.lst es)) m s = (tev C (.lst es) m s).bnd (kasg C (.tp is) (.lst es) m) := ts_asg' C mo m s _ _ rfl
@[simp] theorem ts_asg_cal (is : List Nat) (f sh : Nat) (es ks : Es) : tex C mo (.asg (.tp is) (.cal f sh es ks)) m s = (tev C (.cal f sh es ks) m s).bnd (kasg C (.tp is) (.cal f sh es ks) m) := ts_asg' C mo m s _ _ rfl
@[simp] theorem ts_asg_blt (is : List Nat) (b : Bt) (es : Es) : tex C mo (.asg (.tp is) (.blt b es)) m s = (tev C (.blt b es) m s).bnd (kasg C (.tp is) (.blt b es) m) := ts_asg' C mo m s _ _ rfl
@[simp] theorem ts_asg_isi (is : List Nat) (a : E) (ts : List Ty) (y : Bool) : tex C mo (.asg (.tp is) (.isi a ts y)) m s = (tev C (.isi a ts y) m s).bnd (kasg C (.tp is) (.isi a ts y) m) := ts_asg' C mo m s _ _ rfl
@[simp] theorem ts_asg_mth (is : List Nat) (b : Mt) (a : E) (es : Es) : tex C mo (.asg (.tp is) (.mth b a es)) m s = (tev C (.mth b a es) m s).bnd (kasg C (.tp is) (.mth b a es) m) := ts_asg' C mo m s _ _ rfl
@[simp] theorem ts_asg_com (is : List Nat) (t : Tg) (it : MP.It) (c : Option E) (e : E) : tex C mo (.asg (.tp is) (.com t it c e)) m s = (tev C (.com t it c e) m s).bnd (kasg C (.tp is) (.com t it c e) m) := ts_asg' C mo m s _ _ rfl
@[simp] theorem ts_asg_lr1 (is : List Nat) (a : E) : tex C mo (.asg (.tp is) (.lr1 a)) m s = (tev C (.lr1 a) m s).bnd (kasg C (.tp is) (.lr1 a) m) := ts_asg' C mo m s _ _ rfl
@[simp] theorem ts_asg_lr2 (is : List Nat) (a b : E) : tex C mo (.asg (.tp is) (.lr2 a b)) m s = (tev C (.lr2 a b) m s).bnd (kasg C (.tp is) (.lr2 a b) m) := ts_asg' C mo m s _ _ rfl
@[simp] theorem ts_asg_lset (is : List Nat) (a : E) : tex C mo (.asg (.tp is) (.lset a)) m s = (tev C (.lset a) m s).bnd (kasg C (.tp is) (.lset a) m) := ts_asg' C mo m s _ _ rfl
@[simp] theorem k_as3 (y : Option TSl) (m' : TSl) : kas3 s y (some m') = .ok (.nx, m') s := rfl
@[simp] theorem k_as3n (y : Option TSl) : kas3 s y none = kas2 s y := rfl
@[simp] theorem mvA_v (i j : Nat) : mvA (.nm i) (.var j) m = mvAs i j m m[j]? := rfl
@[simp] theorem mvA_t (is : List Nat) (e : E) : mvA (.tp is) e m = none := rfl
@[simp] theorem mvA_s (i j : Nat) (t : TV) : mvAs i j m (some (some (.s, t))) = none := rfl
@[simp] theorem mvA_r (i j : Nat) (t : TV) : mvAs i j m (some (some (.r, t))) = none := rfl
@[simp] theorem mvA_d (i j : Nat) (t : TV) : mvAs i j m (some (some (.d, t))) = if noL t = true then none else some ((m.set j none).set i (some (.d, t))) := by
  unfold mvAs
  by_cases h : noL t = true
  · simp [h]
  · simp [Bool.eq_false_iff.mpr h]
@[simp] theorem mvA_dnw (i : Nat) : mvA (.nm i) .dnw m = none := rfl
@[simp] theorem mvA_cst (i : Nat) (v : MV) : mvA (.nm i) (.cst v) m = none := rfl
@[simp] theorem mvA_glo (i : Nat) (k : Nat) : mvA (.nm i) (.glo k) m = none := rfl
@[simp] theorem mvA_bin (i : Nat) (o : BOp) (a b : E) : mvA (.nm i) (.bin o a b) m = none := rfl
@[simp] theorem mvA_cmp (i : Nat) (o : COp) (a b : E) : mvA (.nm i) (.cmp o a b) m = none := rfl
@[simp] theorem mvA_chn (i : Nat) (o p : COp) (a b c : E) : mvA (.nm i) (.chn o p a b c) m = none := rfl
@[simp] theorem mvA_and (i : Nat) (a b : E) : mvA (.nm i) (.and a b) m = none := rfl
@[simp] theorem mvA_or (i : Nat) (a b : E) : mvA (.nm i) (.or a b) m = none := rfl
@[simp] theorem mvA_not (i : Nat) (a : E) : mvA (.nm i) (.not a) m = none := rfl
@[simp] theorem mvA_neg (i : Nat) (a : E) : mvA (.nm i) (.neg a) m = none := rfl
@[simp] theorem mvA_ife (i : Nat) (c a b : E) : mvA (.nm i) (.ife c a b) m = none := rfl
@[simp] theorem mvA_idx (i : Nat) (a b : E) : mvA (.nm i) (.idx a b) m = none := rfl
@[simp] theorem mvA_slc (i : Nat) (a : E) (b c : Option E) : mvA (.nm i) (.slc a b c) m = none := rfl
@[simp] theorem mvA_rev (i : Nat) (a : E) : mvA (.nm i) (.rev a) m = none := rfl
@[simp] theorem mvA_tup (i : Nat) (es : Es) : mvA (.nm i) (.tup es) m = none := rfl
@[simp] theorem mvA_lst (i : Nat) (es : Es) : mvA (.nm i) (.lst es) m = none := rfl
@[simp] theorem mvA_cal (i : Nat) (f sh : Nat) (es ks : Es) : mvA (.nm i) (.cal f sh es ks) m = none := rfl
@[simp] theorem mvA_blt (i : Nat) (b : Bt) (es : Es) : mvA (.nm i) (.blt b es) m = none := rfl
@[simp] theorem mvA_isi (i : Nat) (a : E) (ts : List Ty) (y : Bool) : mvA (.nm i) (.isi a ts y) m = none := rfl
@[simp] theorem mvA_mth (i : Nat) (b : Mt) (a : E) (es : Es) : mvA (.nm i) (.mth b a es) m = none := rfl
@[simp] theorem mvA_com (i : Nat) (t : Tg) (it : MP.It) (c : Option E) (e : E) : mvA (.nm i) (.com t it c e) m = none := rfl
@[simp] theorem mvA_lr1 (i : Nat) (a : E) : mvA (.nm i) (.lr1 a) m = none := rfl
@[simp] theorem mvA_lr2 (i : Nat) (a b : E) : mvA (.nm i) (.lr2 a b) m = none := rfl
@[simp] theorem mvA_lset (i : Nat) (a : E) : mvA (.nm i) (.lset a) m = none := rfl
@[simp] theorem k_asg (t : Tg) (e : E) (v : GV) : kasg C t e m v s = kas3 s (tset t v.1 v.2 (leak v.1 (fvE e) m)) (mvA t e m) := rfl
@[simp] theorem k_as2 (m' : TSl) : kas2 s (some m') = .ok (.nx, m') s := rfl
@[simp] theorem ts_cal (f sh : Nat) (es ks : Es) : tex C mo (.exp (.cal f sh es ks)) m s = (tev C (.cal f sh es ks) m s).bnd (kexp m) := by
  simp only [tex]
  rfl
@[simp] theorem k_exp (v : GV) : kexp m v s = .ok (.nx, m) s := rfl
theorem ts_mth (b : Mt) (x : Nat) (es : Es) (h : popArg b es = none) : tex C mo (.exp (.mth b (.var x) es)) m s = (tevs C es m s).bnd (kapp C b x es m) := by
  simp only [tex, h]
  rfl
@[simp] theorem ts_mins (z : Nat) (es' : Es) : tex C mo (.exp (.mth .insert (.var z) es')) m s = (tevs C es' m s).bnd (kapp C .insert z es' m) := ts_mth C mo m s .insert z es' rfl
@[simp] theorem ts_mext (z : Nat) (es' : Es) : tex C mo (.exp (.mth .extend (.var z) es')) m s = (tevs C es' m s).bnd (kapp C .extend z es' m) := ts_mth C mo m s .extend z es' rfl
@[simp] theorem ts_mpop (z : Nat) (es' : Es) : tex C mo (.exp (.mth .pop (.var z) es')) m s = (tevs C es' m s).bnd (kapp C .pop z es' m) := ts_mth C mo m s .pop z es' rfl
@[simp] theorem ts_app_var (z : Nat) (x : Nat) (es' : Es) : tex C mo (.exp (.mth .append (.var z) (.cons (.var x) es'))) m s = (tevs C (.cons (.var x) es') m s).bnd (kapp C .append z (.cons (.var x) es') m) := ts_mth C mo m s .append z (.cons (.var x) es') rfl
@[simp] theorem ts_app_cst (z : Nat) (v : MV) (es' : Es) : tex C mo (.exp (.mth .append (.var z) (.cons (.cst v) es'))) m s = (tevs C (.cons (.cst v) es') m s).bnd (kapp C .append z (.cons (.cst v) es') m) := ts_mth C mo m s .append z (.cons (.cst v) es') rfl
@[simp] theorem ts_app_glo (z : Nat) (k : Nat) (es' : Es) : tex C mo (.exp (.mth .append (.var z) (.cons (.glo k) es'))) m s = (tevs C (.cons (.glo k) es') m s).bnd (kapp C .append z (.cons (.glo k) es') m) := ts_mth C mo m s .append z (.cons (.glo k) es') rfl
@[simp] theorem ts_app_bin (z : Nat) (o : BOp) (a b : E) (es' : Es) : tex C mo (.exp (.mth .append (.var z) (.cons (.bin o a b) es'))) m s = (tevs C (.cons (.bin o a b) es') m s).bnd (kapp C .append z (.cons (.bin o a b) es') m) := ts_mth C mo m s .append z (.cons (.bin o a b) es') rfl
@[simp] theorem ts_app_cmp (z : Nat) (o : COp) (a b : E) (es' : Es) : tex C mo (.exp (.mth .append (.var z) (.cons (.cmp o a b) es'))) m s = (tevs C (.cons (.cmp o a b) es') m s).bnd (kapp C .append z (.cons (.cmp o a b) es') m) := ts_mth C mo m s .append z (.cons (.cmp o a b) es') rfl
@[simp] theorem ts_app_chn (z : Nat) (o p : COp) (a b c : E) (es' : Es) : tex C mo (.exp (.mth .append (.var z) (.cons (.chn o p a b c) es'))) m s = (tevs C (.cons (.chn o p a b c) es') m s).bnd (kapp C .append z (.cons (.chn o p a b c) es') m) := ts_mth C mo m s .append z (.cons (.chn o p a b c) es') rfl
@[simp] theorem ts_app_and (z : Nat) (a b : E) (es' : Es) : tex C mo (.exp (.mth .append (.var z) (.cons (.and a b) es'))) m s = (tevs C (.cons (.and a b) es') m s).bnd (kapp C .append z (.cons (.and a b) es') m) := ts_mth C mo m s .append z (.cons (.and a b) es') rfl
@[simp] theorem ts_app_or (z : Nat) (a b : E) (es' : Es) : tex C mo (.exp (.mth .append (.var z) (.cons (.or a b) es'))) m s = (tevs C (.cons (.or a b) es') m s).bnd (kapp C .append z (.cons (.or a b) es') m) := ts_mth C mo m s .append z (.cons (.or a b) es') rfl
@[simp] theorem ts_app_not (z : Nat) (a : E) (es' : Es) : tex C mo (.exp (.mth .append (.var z) (.cons (.not a) es'))) m s = (tevs C (.cons (.not a) es') m s).bnd (kapp C .append z (.cons (.not a) es') m) := ts_mth C mo m s .append z (.cons (.not a) es') rfl
@[simp] theorem ts_app_neg (z : Nat) (a : E) (es' : Es) : tex C mo (.exp (.mth .append (.var z) (.cons (.neg a) es'))) m s = (tevs C (.cons (.neg a) es') m s).bnd (kapp C .append z (.cons (.neg a) es') m) := ts_mth C mo m s .append z (.cons (.neg a) es') rfl
@[simp] theorem ts_app_ife (z : Nat) (c a b : E) (es' : Es) : tex C mo (.exp (.mth .append (.var z) (.cons (.ife c a b) es'))) m s = (tevs C (.cons (.ife c a b) es') m s).bnd (kapp C .append z (.cons (.ife c a b) es') m) := ts_mth C mo m s .append z (.cons (.ife c a b) es') rfl
@[simp] theorem ts_app_idx (z : Nat) (a b : E) (es' : Es) : tex C mo (.exp (.mth .append (.var z) (.cons (.idx a b) es'))) m s = (tevs C (.cons (.idx a b) es') m s).bnd (kapp C .append z (.cons (.idx a b) es') m) := ts_mth C mo m s .append z (.cons (.idx a b) es') rfl
@[simp] theorem ts_app_slc (z : Nat) (a : E) (b c : Option E) (es' : Es) : tex C mo (.exp (.mth .append (.var z) (.cons (.slc a b c) es'))) m s = (tevs C (.cons (.slc a b c) es') m s).bnd (kapp C .append z (.cons (.slc a b c) es') m) := ts_mth C mo m s .append z (.cons (.slc a b c) es') rfl
@[simp] theorem ts_app_rev (z : Nat) (a : E) (es' : Es) : tex C mo (.exp (.mth .append (.var z) (.cons (.rev a) es'))) m s = (tevs C (.cons (.rev a) es') m s).bnd (kapp C .append z (.cons (.rev a) es') m) := ts_mth C mo m s .append z (.cons (.rev a) es') rfl
@[simp] theorem ts_app_tup (z : Nat) (es : Es) (es' : Es) : tex C mo (.exp (.mth .append (.var z) (.cons (.tup es) es'))) m s = (tevs C (.cons (.tup es) es') m s).bnd (kapp C .append z (.cons (.tup es) es') m) := ts_mth C mo m s .append z (.cons (.tup es) es') rfl
@[simp] theorem ts_app_lst (z : Nat) (es : Es) (es' : Es) : tex C mo (.exp (.mth .append (.var z) (.cons (.lst es) es'))) m s = (tevs C (.cons (.lst es) es') m s).bnd (kapp C .append z (.cons (.lst es) es') m) := ts_mth C mo m s .append z (.cons (.lst es) es') rfl
@[simp] theorem ts_app_cal (z : Nat) (f sh : Nat) (es ks : Es) (es' : Es) : tex C mo (.exp (.mth .append (.var z) (.cons (.cal f sh es ks) es'))) m s = (tevs C (.cons (.cal f sh es ks) es') m s).bnd (kapp C .append z (.cons (.cal f sh es ks) es') m) := ts_mth C mo m s .append z (.cons (.cal f sh es ks) es') rfl
@[simp] theorem ts_app_blt (z : Nat) (b : Bt) (es : Es) (es' : Es) : tex C mo (.exp (.mth .append (.var z) (.cons (.blt b es) es'))) m s = (tevs C (.cons (.blt b es) es') m s).bnd (kapp C .append z (.cons (.blt b es) es') m) := ts_mth C mo m s .append z (.cons (.blt b es) es') rfl
@[simp] theorem ts_app_isi (z : Nat) (a : E) (ts : List Ty) (y : Bool) (es' : Es) : tex C mo (.exp (.mth .append (.var z) (.cons (.isi a ts y) es'))) m s = (tevs C (.cons (.isi a ts y) es') m s).bnd (kapp C .append z (.cons (.isi a ts y) es') m) := ts_mth C mo m s .append z (.cons (.isi a ts y) es') rfl
@[simp] theorem ts_app_com (z : Nat) (t : Tg) (it : MP.It) (c : Option E) (e : E) (es' : Es) : tex C mo (.exp (.mth .append (.var z) (.cons (.com t it c e) es'))) m s = (tevs C (.cons (.com t it c e) es') m s).bnd (kapp C .append z (.cons (.com t it c e) es') m) := ts_mth C mo m s .append z (.cons (.com t it c e) es') rfl
@[simp] theorem ts_app_lr1 (z : Nat) (a : E) (es' : Es) : tex C mo (.exp (.mth .append (.var z) (.cons (.lr1 a) es'))) m s = (tevs C (.cons (.lr1 a) es') m s).bnd (kapp C .append z (.cons (.lr1 a) es') m) := ts_mth C mo m s .append z (.cons (.lr1 a) es') rfl
@[simp] theorem ts_app_lr2 (z : Nat) (a b : E) (es' : Es) : tex C mo (.exp (.mth .append (.var z) (.cons (.lr2 a b) es'))) m s = (tevs C (.cons (.lr2 a b) es') m s).bnd (kapp C .append z (.cons (.lr2 a b) es') m) := ts_mth C mo m s .append z (.cons (.lr2 a b) es') rfl
@[simp] theorem ts_app_lset (z : Nat) (a : E) (es' : Es) : tex C mo (.exp (.mth .append (.var z) (.cons (.lset a) es'))) m s = (tevs C (.cons (.lset a) es') m s).bnd (kapp C .append z (.cons (.lset a) es') m) := ts_mth C mo m s .append z (.cons (.lset a) es') rfl
def kpop (x y : Nat) (m : TSl) (k : GV) (s : S) : TR S (TFl × TSl) := kas2 s (tpopapp x y k m)
@[simp] theorem ts_popapp (x y : Nat) (i : E) : tex C mo (.exp (.mth .append (.var x) (.cons (.mth .pop (.var y) (.cons i .nil)) .nil))) m s = (tev C i m s).bnd (kpop x y m) := by
  simp only [tex, popArg]
  congr 1
@[simp] theorem k_pop (x y : Nat) (k : GV) : kpop x y m k s = kas2 s (tpopapp x y k m) := rfl
theorem k_app {b : Mt} {x : Nat} {es : Es} {vs : List GV} {u w y : GV} {m' : TSl} (h0 : leak (gall vs) (fvEs es) m = m') (h : m'[x]? = some (some u)) (h2 : tmth b u vs = some (w, y)) : kapp C b x es m vs s = .ok (.nx, m'.set x (some w)) s := by
  unfold kapp
  simp only [h0, h, h2]
@[simp] theorem ts_ap2 (x : Nat) (i e : E) : tex C mo (.exp (.mth .append (.idx (.var x) i) (.cons e .nil))) m s = (tev C i m s).bnd (kap1 C x e m) := by
  simp only [tex]
  congr 1
@[simp] theorem k_ap1 (x : Nat) (e : E) (k : GV) : kap1 C x e m k s = (tev C e m s).bnd (kap2 x m k) := rfl
@[simp] theorem k_ap2 (x : Nat) (k v : GV) : kap2 x m k v s = kas2 s (tapp2 m x k v) := rfl
theorem ts_aug {i : Nat} {o : BOp} {e : E} {u : GV} (h : m[i]? = some (some u)) : tex C mo (.aug i o e) m s = (tev C e m s).bnd (kaug i o m u.2) := by
  simp only [tex, h]
  congr 1
@[simp] theorem k_aug (i : Nat) (o : BOp) (u : TV) (v : GV) : kaug i o m u v s = kau2 i m s (taug o u v.2) := rfl
@[simp] theorem k_au2 (i : Nat) (w : TV) : kau2 i m s (some w) = .ok (.nx, m.set i (some (.d, w))) s := rfl
@[simp] theorem taug_add (i j : Int) : taug .add (.int i) (.int j) = some (.int (i + j)) := rfl
@[simp] theorem taug_sub (i j : Int) : taug .sub (.int i) (.int j) = some (.int (i - j)) := rfl
@[simp] theorem ts_iff (c : E) (a b : Ss) : tex C mo (.iff c a b) m s = (tcond C c m s).bnd (kif C mo a b) := by
  simp only [tex]
  rfl
@[simp] theorem k_ift (a b : Ss) : kif C mo a b (true, m) s = texs C mo a m s := rfl
@[simp] theorem k_iff (a b : Ss) : kif C mo a b (false, m) s = texs C mo b m s := rfl
@[simp] theorem tc_and (a b : E) : tcond C (.and a b) m s = (tcond C a m s).bnd (kcnA C b) := by
  simp only [tcond]
  rfl
@[simp] theorem k_cnAt (b : E) : kcnA C b (true, m) s = tcond C b m s := rfl
@[simp] theorem k_cnAf (b : E) : kcnA C b (false, m) s = .ok (false, m) s := rfl
@[simp] theorem tc_or (a b : E) : tcond C (.or a b) m s = (tcond C a m s).bnd (kcnO C b) := by
  simp only [tcond]
  rfl
@[simp] theorem k_cnOt (b : E) : kcnO C b (true, m) s = .ok (true, m) s := rfl
@[simp] theorem k_cnOf (b : E) : kcnO C b (false, m) s = tcond C b m s := rfl
@[simp] theorem tc_not (a : E) : tcond C (.not a) m s = (tcond C a m s).bnd kcnN := by
  simp only [tcond]
  rfl
@[simp] theorem k_cnN (b : Bool) : kcnN (b, m) s = .ok (!b, m) s := rfl
@[simp] theorem k_cnd (b : Bool) (g : G) : kcnd m (g, .bl b) s = .ok (b, m) s := rfl
@[simp] theorem tc_cmp (o : COp) (a b : E) : tcond C (.cmp o a b) m s = (tev C (.cmp o a b) m s).bnd (kcnd m) := by simp only [tcond]
@[simp] theorem tc_chn (o p : COp) (a b c : E) : tcond C (.chn o p a b c) m s = (tev C (.chn o p a b c) m s).bnd (kcnd m) := by simp only [tcond]
@[simp] theorem tc_isi (a : E) (ts : List Ty) (y : Bool) : tcond C (.isi a ts y) m s = (tev C (.isi a ts y) m s).bnd (kcnd m) := by simp only [tcond]
@[simp] theorem tc_var (i : Nat) : tcond C (.var i) m s = (tev C (.var i) m s).bnd (kcnd m) := by simp only [tcond]
@[simp] theorem tc_blt (b : Bt) (es : Es) : tcond C (.blt b es) m s = (tev C (.blt b es) m s).bnd (kcnd m) := by simp only [tcond]
@[simp] theorem tc_idx (a i : E) : tcond C (.idx a i) m s = (tev C (.idx a i) m s).bnd (kcnd m) := by simp only [tcond]
@[simp] theorem tc_cst (v : MV) : tcond C (.cst v) m s = (tev C (.cst v) m s).bnd (kcnd m) := by simp only [tcond]
theorem tc_cal {f sh : Nat} {es ks : Es} (h : C.spo f = false) : tcond C (.cal f sh es ks) m s = (tev C (.cal f sh es ks) m s).bnd (kcnd m) := by
  simp only [tcond, h]
  rfl
@[simp] theorem ts_for (t : Tg) (it : MP.It) (b : Ss) : tex C mo (.for t it b) m s = (tevI C it m s).bnd (kfor C mo t it b m) := by
  simp only [tex]
  rfl
@[simp] theorem k_for (t : Tg) (it : MP.It) (b : Ss) (x : G × List TV) : kfor C mo t it b m x s = tforL (tfturn t (texs C mo b)) x.2 (leak x.1 (fvI it) m) s := rfl
def twc (C : TCf S) (c : E) (m : TSl) (s : S) : TR S GV := tev C c m s
def twb (C : TCf S) (mo : Nat) (b : Ss) (m : TSl) (s : S) : TR S (TFl × TSl) := texs C mo b m s
@[simp] theorem ts_whl (c : E) (b : Ss) : tex C mo (.whl c b) m s = twhlL (twc C c) (twb C mo b) mo m s := by
  simp only [tex]
  rfl
@[simp] theorem ts_retv (x : Nat) : tex C mo (.ret (.var x)) m s = krtv m s m[x]? := by
  simp only [tex]
  cases m[x]? with
  | none => rfl
  | some o => cases o <;> rfl
@[simp] theorem k_rtv (v : GV) : krtv m s (some (some v)) = .ok (.rt v, m) s := rfl
@[simp] theorem ts_reta (a b : E) : tex C mo (.ret (.and a b)) m s = (tcond C (.and a b) m s).bnd krtc := by
  simp only [tex]
  rfl
@[simp] theorem ts_reto (a b : E) : tex C mo (.ret (.or a b)) m s = (tcond C (.or a b) m s).bnd krtc := by
  simp only [tex]
  rfl
@[simp] theorem k_rtc (b : Bool) : krtc (b, m) s = .ok (.rt (.d, .bl b), m) s := rfl
theorem ts_ret {e : E} (h : isCond e = false) (h2 : ∀ x, e ≠ .var x) (h3 : isMv e = false) : tex C mo (.ret e) m s = (tev C e m s).bnd (kret m) := by
  unfold tex
  split
  · exact (h2 _ rfl).elim
  · rw [h, h3]
    rfl
theorem ts_mv {e : E} (h : isCond e = false) (h2 : ∀ x, e ≠ .var x) (h3 : isMv e = true) : tex C mo (.ret e) m s = kmv m (tmv C e m s) ((tev C e m s).bnd (kret m)) := by
  unfold tex
  split
  · exact (h2 _ rfl).elim
  · rw [h, h3]
    rfl
@[simp] theorem k_mv (t : TV) (y : TR S (TFl × TSl)) : kmv m (.ok t s) y = .ok (.rt (.d, t), m) s := rfl
@[simp] theorem k_mvb (y : TR S (TFl × TSl)) : kmv m .bad y = y := rfl
@[simp] theorem od_s (t : TV) : onlyD (.s, t) s = .bad := rfl
@[simp] theorem od_r (t : TV) : onlyD (.r, t) s = .bad := rfl
@[simp] theorem t_bad {α β : Type} (f : α → S → TR S β) : (TR.bad).bnd f = TR.bad := rfl
@[simp] theorem od_d (t : TV) : onlyD (.d, t) s = .ok t s := rfl
def kmvv (s : S) : Option (Option GV) → TR S TV
  | some (some v) => onlyD v s
  | _ => .bad
def kmvi (s : S) (k : Option TV) : Option (Option GV) → TR S TV
  | some (some v) => match k with
    | some k => (TR.of s (tidx v (.d, k))).bnd onlyD
    | none => .bad
  | _ => .bad
def kma2 (u v : TV) (s : S) : TR S TV := (TR.of s (tbin .add (.d, u) (.d, v))).bnd onlyD
def kma1 (C : TCf S) (b : E) (m : TSl) (u : TV) (s : S) : TR S TV := (tmv C b m s).bnd (kma2 u)
def kmt (ts : List TV) (s : S) : TR S TV := .ok (.tup ts) s
def kml (ts : List TV) (s : S) : TR S TV := .ok (.lst ts) s
def kmif (C : TCf S) (a b : E) (m : TSl) (u : GV) (s : S) : TR S TV := match u.2 with
  | .bl true => tmv C a m s
  | .bl false => tmv C b m s
  | _ => .bad
def kmc2 (v : TV) (vs : List TV) (s : S) : TR S (List TV) := .ok (v :: vs) s
def kmc1 (C : TCf S) (es : Es) (m : TSl) (v : TV) (s : S) : TR S (List TV) := (tmvs C es m s).bnd (kmc2 v)
@[simp] theorem k_mvv (v : GV) : kmvv s (some (some v)) = onlyD v s := rfl
@[simp] theorem k_mvi (v : GV) (k : TV) : kmvi s (some k) (some (some v)) = (TR.of s (tidx v (.d, k))).bnd onlyD := rfl
@[simp] theorem k_ma2 (u v : TV) : kma2 u v s = (TR.of s (tbin .add (.d, u) (.d, v))).bnd onlyD := rfl
@[simp] theorem k_ma1 (b : E) (u : TV) : kma1 C b m u s = (tmv C b m s).bnd (kma2 u) := rfl
@[simp] theorem k_mt (ts : List TV) : kmt ts s = .ok (.tup ts) s := rfl
@[simp] theorem k_ml (ts : List TV) : kml ts s = .ok (.lst ts) s := rfl
@[simp] theorem k_mift (a b : E) (g : G) : kmif C a b m (g, .bl true) s = tmv C a m s := rfl
@[simp] theorem k_miff (a b : E) (g : G) : kmif C a b m (g, .bl false) s = tmv C b m s := rfl
@[simp] theorem k_mc2 (v : TV) (vs : List TV) : kmc2 v vs s = .ok (v :: vs) s := rfl
@[simp] theorem k_mc1 (es : Es) (v : TV) : kmc1 C es m v s = (tmvs C es m s).bnd (kmc2 v) := rfl
@[simp] theorem tm_var (x : Nat) : tmv C (.var x) m s = kmvv s m[x]? := by
  simp only [tmv]
  cases m[x]? with
  | none => rfl
  | some o => cases o <;> rfl
@[simp] theorem tm_idx (x : Nat) (c : MV) : tmv C (.idx (.var x) (.cst c)) m s = kmvi s (tcv c) m[x]? := by
  simp only [tmv]
  cases m[x]? with
  | none => rfl
  | some o => cases o <;> cases tcv c <;> rfl
@[simp] theorem tm_add (a b : E) (h : dj (mvF a) (mvF b) = true) : tmv C (.bin .add a b) m s = (tmv C a m s).bnd (kma1 C b m) := by
  simp only [tmv, h, if_true]
  rfl
@[simp] theorem tm_tup (es : Es) : tmv C (.tup es) m s = (tmvs C es m s).bnd kmt := by
  simp only [tmv]
  rfl
@[simp] theorem tm_lst (es : Es) : tmv C (.lst es) m s = (tmvs C es m s).bnd kml := by
  simp only [tmv]
  rfl
@[simp] theorem tm_ife (c a b : E) : tmv C (.ife c a b) m s = (tev C c m s).bnd (kmif C a b m) := by
  simp only [tmv]
  rfl
@[simp] theorem tm_cst (v : MV) : tmv C (.cst v) m s = (tev C (.cst v) m s).bnd onlyD := by simp only [tmv]
@[simp] theorem tm_glo (v : Nat) : tmv C (.glo v) m s = (tev C (.glo v) m s).bnd onlyD := by simp only [tmv]
@[simp] theorem tm_cal (f sh : Nat) (es ks : Es) : tmv C (.cal f sh es ks) m s = (tev C (.cal f sh es ks) m s).bnd onlyD := by simp only [tmv]
@[simp] theorem tm_blt (b : Bt) (es : Es) : tmv C (.blt b es) m s = (tev C (.blt b es) m s).bnd onlyD := by simp only [tmv]
@[simp] theorem tm_com (t : Tg) (it : MP.It) (c : Option E) (e : E) : tmv C (.com t it c e) m s = (tev C (.com t it c e) m s).bnd onlyD := by simp only [tmv]
theorem tc_spo {f sh i : Nat} {t : TV} (h : C.spo f = true) (ha : C.arr f sh = some [.at 0]) (hm : m[i]? = some (some (.d, t))) (hu : unsp 20 t = true) : tcond C (.cal f sh (.cons (.var i) .nil) .nil) m s = .ok (true, m.set i none) s := by
  simp [tcond, h, ha, hm, hu, twip]
theorem tc_spo2 {f sh : Nat} {e : E} {t : TV} {s1 : S} (h : C.spo f = true) (ha : C.arr f sh = some [.at 0]) (hm : tmv C e m s = .ok t s1) (hu : unsp 20 t = true) : tcond C (.cal f sh (.cons e .nil) .nil) m s = .ok (true, twip m (mvF e)) s1 := by
  simp [tcond, h, ha, hm, hu]
@[simp] theorem tms_nil : tmvs C .nil m s = .ok [] s := by simp only [tmvs]
@[simp] theorem tms_cons (e : E) (es : Es) (h : dj (mvF e) (mvFs es) = true) : tmvs C (.cons e es) m s = (tmv C e m s).bnd (kmc1 C es m) := by
  simp only [tmvs, h, if_true]
  rfl
@[simp] theorem ts_ret_cst (v : MV) : tex C mo (.ret (.cst v)) m s = (tev C (.cst v) m s).bnd (kret m) := ts_ret C mo m s rfl (fun _ h => by cases h) rfl
@[simp] theorem ts_mv_addvl (x : Nat) (es : Es) : tex C mo (.ret (.bin .add (.var x) (.lst es))) m s = kmv m (tmv C (.bin .add (.var x) (.lst es)) m s) ((tev C (.bin .add (.var x) (.lst es)) m s).bnd (kret m)) := ts_mv C mo m s rfl (fun _ h => by cases h) rfl
@[simp] theorem ts_ret_b_sub (a b : E) : tex C mo (.ret (.bin .sub a b)) m s = (tev C (.bin .sub a b) m s).bnd (kret m) := ts_ret C mo m s rfl (fun _ h => by cases h) rfl
@[simp] theorem ts_ret_b_mul (a b : E) : tex C mo (.ret (.bin .mul a b)) m s = (tev C (.bin .mul a b) m s).bnd (kret m) := ts_ret C mo m s rfl (fun _ h => by cases h) rfl
@[simp] theorem ts_ret_b_fdv (a b : E) : tex C mo (.ret (.bin .fdv a b)) m s = (tev C (.bin .fdv a b) m s).bnd (kret m) := ts_ret C mo m s rfl (fun _ h => by cases h) rfl
@[simp] theorem ts_ret_b_mod (a b : E) : tex C mo (.ret (.bin .mod a b)) m s = (tev C (.bin .mod a b) m s).bnd (kret m) := ts_ret C mo m s rfl (fun _ h => by cases h) rfl
@[simp] theorem ts_ret_b_pow (a b : E) : tex C mo (.ret (.bin .pow a b)) m s = (tev C (.bin .pow a b) m s).bnd (kret m) := ts_ret C mo m s rfl (fun _ h => by cases h) rfl
@[simp] theorem ts_ret_bv_var (x : Nat) (i : Nat) : tex C mo (.ret (.bin .add (.var x) (.var i))) m s = (tev C (.bin .add (.var x) (.var i)) m s).bnd (kret m) := ts_ret C mo m s rfl (fun _ h => by cases h) rfl
@[simp] theorem ts_ret_ba_cst (v : MV) (b : E) : tex C mo (.ret (.bin .add (.cst v) b)) m s = (tev C (.bin .add (.cst v) b) m s).bnd (kret m) := ts_ret C mo m s rfl (fun _ h => by cases h) rfl
@[simp] theorem ts_ret_bv_cst (x : Nat) (v : MV) : tex C mo (.ret (.bin .add (.var x) (.cst v))) m s = (tev C (.bin .add (.var x) (.cst v)) m s).bnd (kret m) := ts_ret C mo m s rfl (fun _ h => by cases h) rfl
@[simp] theorem ts_ret_ba_glo (k : Nat) (b : E) : tex C mo (.ret (.bin .add (.glo k) b)) m s = (tev C (.bin .add (.glo k) b) m s).bnd (kret m) := ts_ret C mo m s rfl (fun _ h => by cases h) rfl
@[simp] theorem ts_ret_bv_glo (x : Nat) (k : Nat) : tex C mo (.ret (.bin .add (.var x) (.glo k))) m s = (tev C (.bin .add (.var x) (.glo k)) m s).bnd (kret m) := ts_ret C mo m s rfl (fun _ h => by cases h) rfl
@[simp] theorem ts_ret_ba_dnw  (b : E) : tex C mo (.ret (.bin .add (.dnw) b)) m s = (tev C (.bin .add (.dnw) b) m s).bnd (kret m) := ts_ret C mo m s rfl (fun _ h => by cases h) rfl
@[simp] theorem ts_ret_bv_dnw (x : Nat)  : tex C mo (.ret (.bin .add (.var x) (.dnw))) m s = (tev C (.bin .add (.var x) (.dnw)) m s).bnd (kret m) := ts_ret C mo m s rfl (fun _ h => by cases h) rfl
@[simp] theorem ts_ret_ba_bin (o : BOp) (a2 b2 : E) (b : E) : tex C mo (.ret (.bin .add (.bin o a2 b2) b)) m s = (tev C (.bin .add (.bin o a2 b2) b) m s).bnd (kret m) := ts_ret C mo m s rfl (fun _ h => by cases h) rfl
@[simp] theorem ts_ret_bv_bin (x : Nat) (o : BOp) (a2 b2 : E) : tex C mo (.ret (.bin .add (.var x) (.bin o a2 b2))) m s = (tev C (.bin .add (.var x) (.bin o a2 b2)) m s).bnd (kret m) := ts_ret C mo m s rfl (fun _ h => by cases h) rfl
@[simp] theorem ts_ret_ba_cmp (o : COp) (a2 b2 : E) (b : E) : tex C mo (.ret (.bin .add (.cmp o a2 b2) b)) m s = (tev C (.bin .add (.cmp o a2 b2) b) m s).bnd (kret m) := ts_ret C mo m s rfl (fun _ h => by cases h) rfl
@[simp] theorem ts_ret_bv_cmp (x : Nat) (o : COp) (a2 b2 : E) : tex C mo (.ret (.bin .add (.var x) (.cmp o a2 b2))) m s = (tev C (.bin .add (.var x) (.cmp o a2 b2)) m s).bnd (kret m) := ts_ret C mo m s rfl (fun _ h => by cases h) rfl
@[simp] theorem ts_ret_ba_chn (o p : COp) (a2 b2 c2 : E) (b : E) : tex C mo (.ret (.bin .add (.chn o p a2 b2 c2) b)) m s = (tev C (.bin .add (.chn o p a2 b2 c2) b) m s).bnd (kret m) := ts_ret C mo m s rfl (fun _ h => by cases h) rfl
@[simp] theorem ts_ret_bv_chn (x : Nat) (o p : COp) (a2 b2 c2 : E) : tex C mo (.ret (.bin .add (.var x) (.chn o p a2 b2 c2))) m s = (tev C (.bin .add (.var x) (.chn o p a2 b2 c2)) m s).bnd (kret m) := ts_ret C mo m s rfl (fun _ h => by cases h) rfl
@[simp] theorem ts_ret_ba_and (a2 b2 : E) (b : E) : tex C mo (.ret (.bin .add (.and a2 b2) b)) m s = (tev C (.bin .add (.and a2 b2) b) m s).bnd (kret m) := ts_ret C mo m s rfl (fun _ h => by cases h) rfl
@[simp] theorem ts_ret_bv_and (x : Nat) (a2 b2 : E) : tex C mo (.ret (.bin .add (.var x) (.and a2 b2))) m s = (tev C (.bin .add (.var x) (.and a2 b2)) m s).bnd (kret m) := ts_ret C mo m s rfl (fun _ h => by cases h) rfl
@[simp] theorem ts_ret_ba_or (a2 b2 : E) (b : E) : tex C mo (.ret (.bin .add (.or a2 b2) b)) m s = (tev C (.bin .add (.or a2 b2) b) m s).bnd (kret m) := ts_ret C mo m s rfl (fun _ h => by cases h) rfl
@[simp] theorem ts_ret_bv_or (x : Nat) (a2 b2 : E) : tex C mo (.ret (.bin .add (.var x) (.or a2 b2))) m s = (tev C (.bin .add (.var x) (.or a2 b2)) m s).bnd (kret m) := ts_ret C mo m s rfl (fun _ h => by cases h) rfl
@[simp] theorem ts_ret_ba_not (a2 : E) (b : E) : tex C mo (.ret (.bin .add (.not a2) b)) m s = (tev C (.bin .add (.not a2) b) m s).bnd (kret m) := ts_ret C mo m s rfl (fun _ h => by cases h) rfl
@[simp] theorem ts_ret_bv_not (x : Nat) (a2 : E) : tex C mo (.ret (.bin .add (.var x) (.not a2))) m s = (tev C (.bin .add (.var x) (.not a2)) m s).bnd (kret m) := ts_ret C mo m s rfl (fun _ h => by cases h) rfl
@[simp] theorem ts_ret_ba_neg (a2 : E) (b : E) : tex C mo (.ret (.bin .add (.neg a2) b)) m s = (tev C (.bin .add (.neg a2) b) m s).bnd (kret m) := ts_ret C mo m s rfl (fun _ h => by cases h) rfl
@[simp] theorem ts_ret_bv_neg (x : Nat) (a2 : E) : tex C mo (.ret (.bin .add (.var x) (.neg a2))) m s = (tev C (.bin .add (.var x) (.neg a2)) m s).bnd (kret m) := ts_ret C mo m s rfl (fun _ h => by cases h) rfl
@[simp] theorem ts_ret_ba_ife (c2 a2 b2 : E) (b : E) : tex C mo (.ret (.bin .add (.ife c2 a2 b2) b)) m s = (tev C (.bin .add (.ife c2 a2 b2) b) m s).bnd (kret m) := ts_ret C mo m s rfl (fun _ h => by cases h) rfl
@[simp] theorem ts_ret_bv_ife (x : Nat) (c2 a2 b2 : E) : tex C mo (.ret (.bin .add (.var x) (.ife c2 a2 b2))) m s = (tev C (.bin .add (.var x) (.ife c2 a2 b2)) m s).bnd (kret m) := ts_ret C mo m s rfl (fun _ h => by cases h) rfl
@[simp] theorem ts_ret_ba_idx (a2 b2 : E) (b : E) : tex C mo (.ret (.bin .add (.idx a2 b2) b)) m s = (tev C (.bin .add (.idx a2 b2) b) m s).bnd (kret m) := ts_ret C mo m s rfl (fun _ h => by cases h) rfl
@[simp] theorem ts_ret_bv_idx (x : Nat) (a2 b2 : E) : tex C mo (.ret (.bin .add (.var x) (.idx a2 b2))) m s = (tev C (.bin .add (.var x) (.idx a2 b2)) m s).bnd (kret m) := ts_ret C mo m s rfl (fun _ h => by cases h) rfl
@[simp] theorem ts_ret_ba_slc (a2 : E) (b2 c2 : Option E) (b : E) : tex C mo (.ret (.bin .add (.slc a2 b2 c2) b)) m s = (tev C (.bin .add (.slc a2 b2 c2) b) m s).bnd (kret m) := ts_ret C mo m s rfl (fun _ h => by cases h) rfl
@[simp] theorem ts_ret_bv_slc (x : Nat) (a2 : E) (b2 c2 : Option E) : tex C mo (.ret (.bin .add (.var x) (.slc a2 b2 c2))) m s = (tev C (.bin .add (.var x) (.slc a2 b2 c2)) m s).bnd (kret m) := ts_ret C mo m s rfl (fun _ h => by cases h) rfl
@[simp] theorem ts_ret_ba_rev (a2 : E) (b : E) : tex C mo (.ret (.bin .add (.rev a2) b)) m s = (tev C (.bin .add (.rev a2) b) m s).bnd (kret m) := ts_ret C mo m s rfl (fun _ h => by cases h) rfl
@[simp] theorem ts_ret_bv_rev (x : Nat) (a2 : E) : tex C mo (.ret (.bin .add (.var x) (.rev a2))) m s = (tev C (.bin .add (.var x) (.rev a2)) m s).bnd (kret m) := ts_ret C mo m s rfl (fun _ h => by cases h) rfl
@[simp] theorem ts_ret_ba_tup (es : Es) (b : E) : tex C mo (.ret (.bin .add (.tup es) b)) m s = (tev C (.bin .add (.tup es) b) m s).bnd (kret m) := ts_ret C mo m s rfl (fun _ h => by cases h) rfl
@[simp] theorem ts_ret_bv_tup (x : Nat) (es : Es) : tex C mo (.ret (.bin .add (.var x) (.tup es))) m s = (tev C (.bin .add (.var x) (.tup es)) m s).bnd (kret m) := ts_ret C mo m s rfl (fun _ h => by cases h) rfl
@[simp] theorem ts_ret_ba_lst (es : Es) (b : E) : tex C mo (.ret (.bin .add (.lst es) b)) m s = (tev C (.bin .add (.lst es) b) m s).bnd (kret m) := ts_ret C mo m s rfl (fun _ h => by cases h) rfl
@[simp] theorem ts_ret_ba_cal (f sh : Nat) (es ks : Es) (b : E) : tex C mo (.ret (.bin .add (.cal f sh es ks) b)) m s = (tev C (.bin .add (.cal f sh es ks) b) m s).bnd (kret m) := ts_ret C mo m s rfl (fun _ h => by cases h) rfl
@[simp] theorem ts_ret_bv_cal (x : Nat) (f sh : Nat) (es ks : Es) : tex C mo (.ret (.bin .add (.var x) (.cal f sh es ks))) m s = (tev C (.bin .add (.var x) (.cal f sh es ks)) m s).bnd (kret m) := ts_ret C mo m s rfl (fun _ h => by cases h) rfl
@[simp] theorem ts_ret_ba_blt (b2 : Bt) (es : Es) (b : E) : tex C mo (.ret (.bin .add (.blt b2 es) b)) m s = (tev C (.bin .add (.blt b2 es) b) m s).bnd (kret m) := ts_ret C mo m s rfl (fun _ h => by cases h) rfl
@[simp] theorem ts_ret_bv_blt (x : Nat) (b2 : Bt) (es : Es) : tex C mo (.ret (.bin .add (.var x) (.blt b2 es))) m s = (tev C (.bin .add (.var x) (.blt b2 es)) m s).bnd (kret m) := ts_ret C mo m s rfl (fun _ h => by cases h) rfl
@[simp] theorem ts_ret_ba_isi (a2 : E) (ts : List Ty) (y : Bool) (b : E) : tex C mo (.ret (.bin .add (.isi a2 ts y) b)) m s = (tev C (.bin .add (.isi a2 ts y) b) m s).bnd (kret m) := ts_ret C mo m s rfl (fun _ h => by cases h) rfl
@[simp] theorem ts_ret_bv_isi (x : Nat) (a2 : E) (ts : List Ty) (y : Bool) : tex C mo (.ret (.bin .add (.var x) (.isi a2 ts y))) m s = (tev C (.bin .add (.var x) (.isi a2 ts y)) m s).bnd (kret m) := ts_ret C mo m s rfl (fun _ h => by cases h) rfl
@[simp] theorem ts_ret_ba_mth (b2 : Mt) (a2 : E) (es : Es) (b : E) : tex C mo (.ret (.bin .add (.mth b2 a2 es) b)) m s = (tev C (.bin .add (.mth b2 a2 es) b) m s).bnd (kret m) := ts_ret C mo m s rfl (fun _ h => by cases h) rfl
@[simp] theorem ts_ret_bv_mth (x : Nat) (b2 : Mt) (a2 : E) (es : Es) : tex C mo (.ret (.bin .add (.var x) (.mth b2 a2 es))) m s = (tev C (.bin .add (.var x) (.mth b2 a2 es)) m s).bnd (kret m) := ts_ret C mo m s rfl (fun _ h => by cases h) rfl
@[simp] theorem ts_ret_ba_com (t : Tg) (it : MP.It) (c : Option E) (e : E) (b : E) : tex C mo (.ret (.bin .add (.com t it c e) b)) m s = (tev C (.bin .add (.com t it c e) b) m s).bnd (kret m) := ts_ret C mo m s rfl (fun _ h => by cases h) rfl
@[simp] theorem ts_ret_bv_com (x : Nat) (t : Tg) (it : MP.It) (c : Option E) (e : E) : tex C mo (.ret (.bin .add (.var x) (.com t it c e))) m s = (tev C (.bin .add (.var x) (.com t it c e)) m s).bnd (kret m) := ts_ret C mo m s rfl (fun _ h => by cases h) rfl
@[simp] theorem ts_ret_ba_lr1 (a2 : E) (b : E) : tex C mo (.ret (.bin .add (.lr1 a2) b)) m s = (tev C (.bin .add (.lr1 a2) b) m s).bnd (kret m) := ts_ret C mo m s rfl (fun _ h => by cases h) rfl
@[simp] theorem ts_ret_bv_lr1 (x : Nat) (a2 : E) : tex C mo (.ret (.bin .add (.var x) (.lr1 a2))) m s = (tev C (.bin .add (.var x) (.lr1 a2)) m s).bnd (kret m) := ts_ret C mo m s rfl (fun _ h => by cases h) rfl
@[simp] theorem ts_ret_ba_lr2 (a2 b2 : E) (b : E) : tex C mo (.ret (.bin .add (.lr2 a2 b2) b)) m s = (tev C (.bin .add (.lr2 a2 b2) b) m s).bnd (kret m) := ts_ret C mo m s rfl (fun _ h => by cases h) rfl
@[simp] theorem ts_ret_bv_lr2 (x : Nat) (a2 b2 : E) : tex C mo (.ret (.bin .add (.var x) (.lr2 a2 b2))) m s = (tev C (.bin .add (.var x) (.lr2 a2 b2)) m s).bnd (kret m) := ts_ret C mo m s rfl (fun _ h => by cases h) rfl
@[simp] theorem ts_ret_ba_lset (a2 : E) (b : E) : tex C mo (.ret (.bin .add (.lset a2) b)) m s = (tev C (.bin .add (.lset a2) b) m s).bnd (kret m) := ts_ret C mo m s rfl (fun _ h => by cases h) rfl
@[simp] theorem ts_ret_bv_lset (x : Nat) (a2 : E) : tex C mo (.ret (.bin .add (.var x) (.lset a2))) m s = (tev C (.bin .add (.var x) (.lset a2)) m s).bnd (kret m) := ts_ret C mo m s rfl (fun _ h => by cases h) rfl
@[simp] theorem ts_ret_cmp (o : COp) (a b : E) : tex C mo (.ret (.cmp o a b)) m s = (tev C (.cmp o a b) m s).bnd (kret m) := ts_ret C mo m s rfl (fun _ h => by cases h) rfl
@[simp] theorem ts_ret_not (a : E) : tex C mo (.ret (.not a)) m s = (tev C (.not a) m s).bnd (kret m) := ts_ret C mo m s rfl (fun _ h => by cases h) rfl
@[simp] theorem ts_ret_ife (a b c : E) (h : isMv (.ife a b c) = false) : tex C mo (.ret (.ife a b c)) m s = (tev C (.ife a b c) m s).bnd (kret m) := ts_ret C mo m s rfl (fun _ h => by cases h) h
@[simp] theorem ts_mv_ife (a b c : E) (h : isMv (.ife a b c) = true) : tex C mo (.ret (.ife a b c)) m s = kmv m (tmv C (.ife a b c) m s) ((tev C (.ife a b c) m s).bnd (kret m)) := ts_mv C mo m s rfl (fun _ h => by cases h) h
@[simp] theorem ts_ret_idx (a b : E) : tex C mo (.ret (.idx a b)) m s = (tev C (.idx a b) m s).bnd (kret m) := ts_ret C mo m s rfl (fun _ h => by cases h) rfl
@[simp] theorem ts_ret_slc (a : E) (b c : Option E) : tex C mo (.ret (.slc a b c)) m s = (tev C (.slc a b c) m s).bnd (kret m) := ts_ret C mo m s rfl (fun _ h => by cases h) rfl
@[simp] theorem ts_ret_tup (es : Es) (h : isMv (.tup es) = false) : tex C mo (.ret (.tup es)) m s = (tev C (.tup es) m s).bnd (kret m) := ts_ret C mo m s rfl (fun _ h => by cases h) h
@[simp] theorem ts_mv_tup (es : Es) (h : isMv (.tup es) = true) : tex C mo (.ret (.tup es)) m s = kmv m (tmv C (.tup es) m s) ((tev C (.tup es) m s).bnd (kret m)) := ts_mv C mo m s rfl (fun _ h => by cases h) h
@[simp] theorem ts_ret_lst (es : Es) : tex C mo (.ret (.lst es)) m s = (tev C (.lst es) m s).bnd (kret m) := ts_ret C mo m s rfl (fun _ h => by cases h) rfl
@[simp] theorem ts_ret_cal (f sh : Nat) (es ks : Es) : tex C mo (.ret (.cal f sh es ks)) m s = (tev C (.cal f sh es ks) m s).bnd (kret m) := ts_ret C mo m s rfl (fun _ h => by cases h) rfl
@[simp] theorem ts_ret_blt (b : Bt) (es : Es) : tex C mo (.ret (.blt b es)) m s = (tev C (.blt b es) m s).bnd (kret m) := ts_ret C mo m s rfl (fun _ h => by cases h) rfl
@[simp] theorem ts_ret_com (t : Tg) (it : MP.It) (c : Option E) (e : E) : tex C mo (.ret (.com t it c e)) m s = (tev C (.com t it c e) m s).bnd (kret m) := ts_ret C mo m s rfl (fun _ h => by cases h) rfl
@[simp] theorem ts_ret_glo (k : Nat) : tex C mo (.ret (.glo k)) m s = (tev C (.glo k) m s).bnd (kret m) := ts_ret C mo m s rfl (fun _ h => by cases h) rfl
@[simp] theorem ts_ret_isi (a : E) (ts : List Ty) (y : Bool) : tex C mo (.ret (.isi a ts y)) m s = (tev C (.isi a ts y) m s).bnd (kret m) := ts_ret C mo m s rfl (fun _ h => by cases h) rfl
@[simp] theorem k_ret (v : GV) : kret m v s = .ok (.rt v, m) s := rfl
@[simp] theorem ts_rtn : tex C mo .rtn m s = .ok (.rt (.d, .non), m) s := by simp only [tex]
@[simp] theorem ts_brk : tex C mo .brk m s = .ok (.bk, m) s := by simp only [tex]
@[simp] theorem ts_cnt : tex C mo .cnt m s = .ok (.cn, m) s := by simp only [tex]
@[simp] theorem ts_pas : tex C mo .pas m s = .ok (.nx, m) s := by simp only [tex]
end
/-! ### operators, grades, slots -/
@[simp] theorem gr_non (g : G) : gr g .non = .d := rfl
@[simp] theorem gr_bl (g : G) (b : Bool) : gr g (.bl b) = .d := rfl
@[simp] theorem gr_int (g : G) (b : Int) : gr g (.int b) = .d := rfl
@[simp] theorem gr_str (g : G) (b : Str) : gr g (.str b) = .d := rfl
@[simp] theorem gr_dct (g : G) : gr g .dct = .d := rfl
@[simp] theorem gr_pur (g : G) : gr g .pur = .d := rfl
@[simp] theorem gr_lst (g : G) (xs : List TV) : gr g (.lst xs) = g := rfl
@[simp] theorem gr_d (t : TV) : gr .d t = .d := by unfold gr; split <;> rfl
theorem gr_noL {g : G} {t : TV} (h : noL t = true) : gr g t = .d := if_pos h
@[simp] theorem gsub_d : gsub .d = .d := rfl
@[simp] theorem gsub_s : gsub .s = .s := rfl
@[simp] theorem gsub_r : gsub .r = .s := rfl
@[simp] theorem gm_dd : gm .d .d = .d := rfl
@[simp] theorem gm_s (g : G) : gm .s g = .s := by cases g <;> rfl
@[simp] theorem gm_r (g : G) : gm .r g = .s := by cases g <;> rfl
@[simp] theorem gm_ds : gm .d .s = .s := rfl
@[simp] theorem gm_dr : gm .d .r = .s := rfl
@[simp] theorem gall_nil : gall [] = .d := rfl
@[simp] theorem gall_cons (x : GV) (xs : List GV) : gall (x :: xs) = gm x.1 (gall xs) := rfl
@[simp] theorem gl_d (xs : List TV) : gl .d xs = .d := by unfold gl; split <;> rfl
theorem gl_noL {g : G} {xs : List TV} (h : noLs xs = true) : gl g xs = .d := if_pos h
@[simp] theorem leak_d (is : List Nat) (m : TSl) : leak .d is m = m := rfl
@[simp] theorem leak_s (is : List Nat) (m : TSl) : leak .s is m = clr m is := rfl
@[simp] theorem leak_r (is : List Nat) (m : TSl) : leak .r is m = clr m is := rfl
@[simp] theorem clr_nil (m : TSl) : clr m [] = m := rfl
@[simp] theorem clr_cons (m : TSl) (i : Nat) (is : List Nat) : clr m (i :: is) = (clr m is).modify i clr1 := rfl
@[simp] theorem clr1_s (v : GV) : clr1 (some v) = some (gr .s v.2, v.2) := rfl
@[simp] theorem clr1_n : clr1 none = none := rfl
@[simp] theorem gn_mk (g : G) (t : TV) : gn (g, t) = (gr g t, t) := rfl
@[simp] theorem tsets_nil (m : TSl) : tsets [] [] m = some m := rfl
@[simp] theorem tsets_cons (i : Nat) (is : List Nat) (w : GV) (ws : List GV) (m : TSl) : tsets (i :: is) (w :: ws) m = tsets is ws (m.set i (some w)) := rfl
@[simp] theorem tset_nm (i : Nat) (g : G) (v : TV) (m : TSl) : tset (.nm i) g v m = some (m.set i (some (g, v))) := rfl
@[simp] theorem tset_tp (is : List Nat) (g : G) (vs : List TV) (m : TSl) : tset (.tp is) g (.tup vs) m = tsetAll (gsub g) is vs m := rfl
@[simp] theorem tsetAll_nil (g : G) (m : TSl) : tsetAll g [] [] m = some m := rfl
@[simp] theorem tsetAll_cons (g : G) (i : Nat) (is : List Nat) (v : TV) (vs : List TV) (m : TSl) : tsetAll g (i :: is) (v :: vs) m = tsetAll g is vs (m.set i (some (gr g v, v))) := rfl
@[simp] theorem tcv_non : tcv .non = some .non := by simp only [tcv]
@[simp] theorem tcv_bl (b : Bool) : tcv (.bl b) = some (.bl b) := by simp only [tcv]
@[simp] theorem tcv_int (b : Int) : tcv (.int b) = some (.int b) := by simp only [tcv]
@[simp] theorem tcv_str (b : Str) : tcv (.str b) = some (.str b) := by simp only [tcv]
@[simp] theorem tb_add (g g' : G) (i j : Int) : tbin .add (g, .int i) (g', .int j) = some (.d, .int (i + j)) := rfl
@[simp] theorem tb_sub (g g' : G) (i j : Int) : tbin .sub (g, .int i) (g', .int j) = some (.d, .int (i - j)) := rfl
theorem tb_mul {i j : Int} (g g' : G) (h : i.natAbs.log2 + j.natAbs.log2 < 1000000) : tbin .mul (g, .int i) (g', .int j) = some (.d, .int (i * j)) := if_pos h
theorem tb_fdv {i j : Int} (g g' : G) (h : j ≠ 0) (h2 : j.natAbs.log2 < 9000) : tbin .fdv (g, .int i) (g', .int j) = some (.d, .int (i.fdiv j)) := if_pos ⟨h, h2⟩
theorem tb_mod {i j : Int} (g g' : G) (h : j ≠ 0) : tbin .mod (g, .int i) (g', .int j) = some (.d, .int (i.fmod j)) := if_pos h
theorem tb_pow {i j : Int} (g g' : G) (h : 0 ≤ j ∧ j ≤ 1000 ∧ i.natAbs < 2 ^ 64) : tbin .pow (g, .int i) (g', .int j) = some (.d, .int (i ^ j.toNat)) := if_pos h
theorem tb_addL {a b : List TV} (g g' : G) (h : a.length + b.length ≤ lim) : tbin .add (g, .lst a) (g', .lst b) = some (gl (gm g g') (a ++ b), .lst (a ++ b)) := if_pos h
theorem tb_mulL {a : List TV} {j : Int} (g g' : G) (h : -1000 ≤ j ∧ j ≤ 1000 ∧ a.length * j.toNat ≤ lim) : tbin .mul (g, .lst a) (g', .int j) = some (gl .s (List.replicate j.toNat a).flatten, .lst (List.replicate j.toNat a).flatten) := if_pos h
@[simp] theorem tc_lt (i j : Int) : tcmp .lt (.int i) (.int j) = some (decide (i < j)) := rfl
@[simp] theorem tc_le (i j : Int) : tcmp .le (.int i) (.int j) = some (decide (i ≤ j)) := rfl
@[simp] theorem tc_gt (i j : Int) : tcmp .gt (.int i) (.int j) = some (decide (j < i)) := rfl
@[simp] theorem tc_ge (i j : Int) : tcmp .ge (.int i) (.int j) = some (decide (j ≤ i)) := rfl
@[simp] theorem tc_eq (u v : TV) : tcmp .eq u v = teq u v := rfl
@[simp] theorem tc_ne (u v : TV) : tcmp .ne u v = (teq u v).map (!·) := rfl
@[simp] theorem tc_is (u v : TV) : tcmp .is u v = tis u v := rfl
@[simp] theorem tc_isn (u v : TV) : tcmp .isn u v = (tis u v).map (!·) := rfl
@[simp] theorem tc_in (u v : TV) : tcmp .inn u v = tin u v := rfl
@[simp] theorem tc_nin (u v : TV) : tcmp .nin u v = (tin u v).map (!·) := rfl
@[simp] theorem teq_int (i j : Int) : teq (.int i) (.int j) = some (i == j) := rfl
@[simp] theorem teq_str (i j : Str) : teq (.str i) (.str j) = some (decide (i = j)) := rfl
@[simp] theorem tx_t (g g' : G) (xs : List TV) (i : Int) : tidx (g, .tup xs) (g', .int i) = (L2.atI xs i).map fun x => (gr (gsub g) x, x) := rfl
@[simp] theorem tx_l (g g' : G) (xs : List TV) (i : Int) : tidx (g, .lst xs) (g', .int i) = (L2.atI xs i).map fun x => (gr (gsub g) x, x) := rfl
@[simp] theorem at_0 {α : Type} (a : α) (xs : List α) : L2.atI (a :: xs) 0 = some a := by simp [L2.atI, L2.ixN]
@[simp] theorem at_1 {α : Type} (a b : α) (xs : List α) : L2.atI (a :: b :: xs) 1 = some b := by
  have : ((1 : Int) < (xs.length : Int) + 1 + 1) := by omega
  simp [L2.atI, L2.ixN, this]
@[simp] theorem at_2 {α : Type} (a b c : α) (xs : List α) : L2.atI (a :: b :: c :: xs) 2 = some c := by
  have : ((2 : Int) < (xs.length : Int) + 1 + 1 + 1) := by omega
  simp [L2.atI, L2.ixN, this]
theorem at_nat {α : Type} {xs : List α} {i : Nat} (h : i < xs.length) : L2.atI xs (i : Int) = some xs[i] := by
  have : ((i : Int) < (xs.length : Int)) := by omega
  simp [L2.atI, L2.ixN, this, h]
theorem at_last {α : Type} {xs : List α} (h : xs ≠ []) : L2.atI xs (-1) = some (xs.getLast h) := by
  have hl : 0 < xs.length := List.length_pos_iff.mpr h
  have h1 : ¬ ((0 : Int) ≤ -1) := by omega
  have h2 : -(xs.length : Int) ≤ -1 := by omega
  have h3 : (-1 + (xs.length : Int)).toNat = xs.length - 1 := by omega
  simp only [L2.atI, L2.ixN, if_neg h1, if_pos h2, Option.bind_some, h3]
  rw [List.getLast_eq_getElem, List.getElem?_eq_getElem (by omega)]
@[simp] theorem tbt_lenL (g : G) (xs : List TV) : tbt .len [(g, .lst xs)] = some (.d, .int xs.length) := rfl
@[simp] theorem tbt_lenT (g : G) (xs : List TV) : tbt .len [(g, .tup xs)] = some (.d, .int xs.length) := rfl
@[simp] theorem tbt_abs (g : G) (i : Int) : tbt .abs [(g, .int i)] = some (.d, .int (i.natAbs : Int)) := rfl
@[simp] theorem tbt_int (g : G) (i : Int) : tbt .int [(g, .int i)] = some (.d, .int i) := rfl
@[simp] theorem tbt_intb (g : G) (b : Bool) : tbt .int [(g, .bl b)] = some (.d, .int (if b then 1 else 0)) := rfl
theorem tbt_repr {g : G} {t : TV} {x : Str} (h : trepr t = some x) : tbt .repr [(g, t)] = some (.d, .str x) := by
  simp [tbt, h]
theorem tbt_all {g : G} {xs : List TV} {bs : List Bool} (h : tbools xs = some bs) : tbt .all [(g, .lst xs)] = some (.d, .bl (bs.all id)) := by
  simp [tbt, h]
theorem tbt_sum {g : G} {xs : List TV} {bs : List Int} (h : tints xs = some bs) : tbt .sum [(g, .lst xs)] = some (.d, .int bs.sum) := by
  simp [tbt, h]
@[simp] theorem tbt_list (g : G) (xs : List TV) : tbt .list [(g, .lst xs)] = some (gl g xs, .lst xs) := rfl
@[simp] theorem tbt_tup (g : G) (xs : List TV) : tbt .tuple [(g, .lst xs)] = some (gr (gsub g) (.tup xs), .tup xs) := rfl
@[simp] theorem tslc_l (g : G) (xs : List TV) (lo hi : Option Int) : tslc (g, .lst xs) lo hi = some (gl g (tcut xs lo hi), .lst (tcut xs lo hi)) := rfl
@[simp] theorem trev_l (g : G) (xs : List TV) : trev (g, .lst xs) = some (gl g xs.reverse, .lst xs.reverse) := rfl
@[simp] theorem tyb (a b : Ty) : (a == b) = decide (a = b) := rfl
theorem tmth_app {g g' : G} {xs : List TV} {v : TV} {w : GV} (h : xs.length < lim) (h2 : gput g g' (xs ++ [v]) = some w) : tmth .append (g, .lst xs) [(g', v)] = some (w, (.d, .non)) := by
  simp [tmth, h, h2]
@[simp] theorem gput_dd (xs : List TV) : gput .d .d xs = some (.d, .lst xs) := by simp [gput]
/-! ### loops -/
section
variable {c : TSl → S → TR S GV} {f : TSl → S → TR S (TFl × TSl)} {k : Nat} {m m' : TSl} {s s1 s2 : S} {g : G}
theorem twhl_f (h : c m s = .ok (g, .bl false) s1) : twhlL c f (k + 1) m s = .ok (.nx, m) s1 := by
  unfold twhlL
  rw [h]
  rfl
theorem twhl_t (h : c m s = .ok (g, .bl true) s1) (h2 : f m s1 = .ok (.nx, m') s2) : twhlL c f (k + 1) m s = twhlL c f k m' s2 := by
  rw [twhlL, h]
  simp only [t_bnd, h2]
theorem tcomL_map {F : TV → S → TR S (Option GV)} {α : Type} {enc : α → TV} {h : α → GV} {s : S} : ∀ {l : List α}, (∀ x ∈ l, F (enc x) s = .ok (some (h x)) s) → tcomL F (l.map enc) s = .ok (l.map h) s
  | [], _ => rfl
  | x :: l, hl => by
    simp only [List.map_cons, tcomL]
    rw [hl x (List.mem_cons_self ..), t_bnd, tcomL_map fun y hy => hl y (List.mem_cons_of_mem _ hy)]
    rfl
theorem tcomL_filter {F : TV → S → TR S (Option GV)} {α : Type} {enc : α → TV} {p : α → Bool} {h : α → GV} {s : S} : ∀ {l : List α}, (∀ x ∈ l, F (enc x) s = .ok (if p x then some (h x) else none) s) → tcomL F (l.map enc) s = .ok ((l.filter p).map h) s
  | [], _ => rfl
  | x :: l, hl => by
    simp only [List.map_cons, tcomL]
    rw [hl x (List.mem_cons_self ..), t_bnd, tcomL_filter fun y hy => hl y (List.mem_cons_of_mem _ hy)]
    by_cases hp : p x = true <;> simp [hp]
/-- a loop by its invariant -/
theorem tforL_inv {F : TV → TSl → S → TR S (TFl × TSl)} {α : Type} {enc : α → TV} (inv : List α → TSl → S → Prop) : ∀ {l : List α} {pre : List α} {m : TSl} {s : S}, (∀ (q : List α) (x : α) (m : TSl) (s : S), x ∈ l → inv q m s → ∃ m' s', F (enc x) m s = .ok (.nx, m') s' ∧ inv (q ++ [x]) m' s') → inv pre m s → ∃ m' s', tforL F (l.map enc) m s = .ok (.nx, m') s' ∧ inv (pre ++ l) m' s'
  | [], pre, m, s, _, h => ⟨m, s, rfl, by simpa using h⟩
  | x :: l, pre, m, s, step, h => by
    obtain ⟨m1, s1, e1, i1⟩ := step pre x m s (List.mem_cons_self ..) h
    obtain ⟨m2, s2, e2, i2⟩ := tforL_inv inv (l := l) (pre := pre ++ [x]) (fun q y m s hy => step q y m s (List.mem_cons_of_mem _ hy)) i1
    refine ⟨m2, s2, ?_, by simpa using i2⟩
    simp only [List.map_cons, tforL]
    rw [e1]
    exact e2
/-- a loop that reckons on -/
theorem tforL_fold {F : TV → TSl → S → TR S (TFl × TSl)} {α β : Type} {enc : α → TV} (g : β → α → β) (st : β → TSl → Prop) {s : S} : ∀ {l : List α} {b : β} {m : TSl}, (∀ b x m, x ∈ l → st b m → ∃ m', F (enc x) m s = .ok (.nx, m') s ∧ st (g b x) m') → st b m → ∃ m', tforL F (l.map enc) m s = .ok (.nx, m') s ∧ st (l.foldl g b) m'
  | [], b, m, _, h => ⟨m, rfl, h⟩
  | x :: l, b, m, step, h => by
    obtain ⟨m1, e1, i1⟩ := step b x m (List.mem_cons_self ..) h
    obtain ⟨m2, e2, i2⟩ := tforL_fold g st (l := l) (fun b y m hy => step b y m (List.mem_cons_of_mem _ hy)) i1
    refine ⟨m2, ?_, i2⟩
    simp only [List.map_cons, tforL]
    rw [e1]
    exact e2
end
theorem tfin_cons {C : TCf S} {mo : Nat} {m m' : TSl} {s s1 : S} {st : MP.S} {ss : Ss} {X : TR S GV} (h : tex C mo st m s = .ok (.nx, m') s1) (k : (texs C mo ss m' s1).fin = X) : (texs C mo (.cons st ss) m s).fin = X := by
  rw [ts_cons, h, t_bnd, k_nx]
  exact k
theorem tfin_ret {C : TCf S} {mo : Nat} {m m' : TSl} {s s1 : S} {st : MP.S} {ss : Ss} {v : GV} (h : tex C mo st m s = .ok (.rt v, m') s1) : (texs C mo (.cons st ss) m s).fin = .ok v s1 := by
  rw [ts_cons, h, t_bnd, k_rt]
  rfl
@[simp] theorem tin0_nil (k : Nat) : tin0 [] k = List.replicate k none := rfl
@[simp] theorem tin0_cons (v : TV) (vs : List TV) (k : Nat) : tin0 (v :: vs) k = some (gr .s v, v) :: tin0 vs k := rfl
end
end TM

set_option Elab.async false
set_option linter.all false
set_option maxRecDepth 100000
set_option autoImplicit false
set_option maxHeartbeats 4000000
/-! TM, part k: the purse, what is spoilt. -/
namespace TM
open PySem MP

structure PS where
  xs : List Int
  i : Nat
  b : Int
  c : Nat
  s : Int
def PS.cell (g : Nat) (σ : PS) : List MV := [.lst g, .int σ.i, .int σ.b, .int σ.c, .int σ.s]
def PW (p g : Nat) (h : p ≠ g) : Wd PS where
  Q a := a = p ∨ a = g
  tok := .lst p
  St σ M := M[p]? = some (σ.cell g) ∧ M[g]? = some (σ.xs.map MV.int)
  keep σ M M' h k := ⟨(k p (.inl rfl)).trans h.1, (k g (.inr rfl)).trans h.2⟩
  lt σ M a h k := by
    rcases k with rfl | rfl
    · exact (List.getElem?_eq_some_iff.mp h.1).1
    · exact (List.getElem?_eq_some_iff.mp h.2).1
  tokL := ⟨p, rfl⟩
def fill (σ : PS) (k : Int) : PS := if σ.b < k ∧ σ.i < σ.xs.length then { σ with b := σ.xs.getD σ.i 0, i := σ.i + 1 } else σ
def stir (σ : PS) : Int := ((((σ.c : Int) + 1) * ((σ.c : Int) + 1) + σ.s) * 48271).fmod 2147483629
def spend (σ : PS) (k : Int) : Int × PS := if k ≤ σ.b then (σ.b.fmod k, { σ with b := σ.b.fdiv k }) else (((stir σ * stir σ).fmod 2147483587).fmod k, { σ with c := σ.c + 1 })
def tdraw (σ : PS) (k : Int) : Int × PS := spend (fill σ k) k
theorem draw_ex {P : Pg} {iD n p g : Nat} {σ : PS} {k : Int} {M : MH} (hf : IsD P iD 2 4 bDraw) (hpg : p ≠ g) (hM : M[p]? = some (σ.cell g)) (hg : M[g]? = some (σ.xs.map MV.int)) (hcc : σ.c < 1000000) (s0 : 0 ≤ σ.s) (s1 : σ.s < 2147483647) (k0 : 0 < k) (kl : k.natAbs.log2 < 9000) :
    ∃ M', run P (n + 1) iD [.lst p, .int k] M = .ok (.int (tdraw σ k).1) M' ∧ M'.length = M.length ∧ (∀ a, a ≠ p → M'[a]? = M[a]?) ∧ M'[p]? = some ((tdraw σ k).2.cell g) := by
  have kz : k ≠ 0 := by omega
  rw [hf.go rfl]
  have half : ∀ (N : MH) (τ : PS), τ.c = σ.c → τ.s = σ.s → N[p]? = some (τ.cell g) → ∃ (m' : Sl), exs (cfg P n) (.cons (.iff (.cmp .ge (.idx (.var 0) (.cst (.int 2))) (.var 1))
      (.cons (.asg (.nm 2) (.bin .mod (.blt .int (.cons (.idx (.var 0) (.cst (.int 2))) .nil)) (.var 1)))
      (.cons (.put (.var 0) (.cst (.int 2)) (.bin .fdv (.idx (.var 0) (.cst (.int 2))) (.var 1)))
      (.cons (.ret (.var 2)) .nil))) .nil)
    (.cons (.agi (.var 0) (.cst (.int 3)) .add (.cst (.int 1)))
    (.cons (.asg (.nm 3) (.bin .mod (.blt .int (.cons (.bin .mul (.bin .add (.bin .mul (.idx (.var 0) (.cst (.int 3))) (.idx (.var 0) (.cst (.int 3)))) (.idx (.var 0) (.cst (.int 4)))) (.cst (.int 48271))) .nil)) (.cst (.int 2147483629))))
    (.cons (.ret (.bin .mod (.blt .int (.cons (.bin .mod (.blt .int (.cons (.bin .mul (.var 3) (.var 3)) .nil)) (.cst (.int 2147483587))) .nil)) (.var 1))) .nil)))) [some (.lst p), some (.int k), none, none] N = .ok (.rt (.int (spend τ k).1), m') (N.set p ((spend τ k).2.cell g)) := by
    intro N τ ec es h
    obtain ⟨txs, i, b, c, s⟩ := τ
    simp only at ec es
    subst ec es
    simp only [PS.cell] at h
    have e2 : L2.atI [MV.lst g, .int i, .int b, .int σ.c, .int σ.s] 2 = some (.int b) := rfl
    have x2 : L2.ixN 5 2 = some 2 := rfl
    have x3 : L2.ixN 5 3 = some 3 := rfl
    by_cases hb : b < k
    · have h' : (N.set p [.lst g, .int i, .int b, .int (σ.c + 1), .int σ.s])[p]? = some [.lst g, .int i, .int b, .int (σ.c + 1), .int σ.s] := get_set h
      have e3 : L2.atI [MV.lst g, .int i, .int b, .int (σ.c + 1), .int σ.s] 3 = some (.int (σ.c + 1)) := rfl
      have e4 : L2.atI [MV.lst g, .int i, .int b, .int (σ.c + 1), .int σ.s] 4 = some (.int σ.s) := rfl
      have b1 : ((σ.c : Int) + 1).natAbs < 2 ^ 20 := by omega
      have m1 := mul_b b1 b1 (by omega) (by omega) (by omega)
      have hcc : ((σ.c : Int) + 1) * ((σ.c : Int) + 1) ≤ 1000001 * 1000001 := Int.mul_le_mul (by omega) (by omega) (by omega) (by omega)
      have hc0 : (0 : Int) ≤ ((σ.c : Int) + 1) * ((σ.c : Int) + 1) := Int.mul_nonneg (by omega) (by omega)
      have m2 := mul_b (i := ((σ.c : Int) + 1) * ((σ.c : Int) + 1) + σ.s) (j := 48271) (a := 50) (b := 20) (by omega) (by decide) (by omega) (by omega) (by omega)
      have r0 := Int.fmod_nonneg_of_pos ((((σ.c : Int) + 1) * ((σ.c : Int) + 1) + σ.s) * 48271) (show (0 : Int) < 2147483629 by decide)
      have r1 := Int.fmod_lt_of_pos ((((σ.c : Int) + 1) * ((σ.c : Int) + 1) + σ.s) * 48271) (show (0 : Int) < 2147483629 by decide)
      have hst : stir ⟨txs, i, b, σ.c, σ.s⟩ = ((((σ.c : Int) + 1) * ((σ.c : Int) + 1) + σ.s) * 48271).fmod 2147483629 := rfl
      have hb2 : ¬ k ≤ b := by omega
      have hsp : spend ⟨txs, i, b, σ.c, σ.s⟩ k = (((stir ⟨txs, i, b, σ.c, σ.s⟩ * stir ⟨txs, i, b, σ.c, σ.s⟩).fmod 2147483587).fmod k, ⟨txs, i, b, σ.c + 1, σ.s⟩) := by
        unfold spend
        rw [if_neg hb2]
      rw [hsp, hst]
      generalize hz : ((((σ.c : Int) + 1) * ((σ.c : Int) + 1) + σ.s) * 48271).fmod 2147483629 = z at r0 r1
      have b2 : z.natAbs < 2 ^ 32 := by omega
      have m3 := mul_b b2 b2 (by omega) (by omega) (by omega)
      have t3 : (0 : Int) ≤ 3 ∧ (3 : Int) < 1000000 := by decide
      have y3 : [MV.lst g, .int i, .int b, .int σ.c, .int σ.s][(3 : Int).toNat]? = some (.int σ.c) := rfl
      refine ⟨?_, ?_⟩
      rotate_left
      simp [h, ixL (i := 2) N h e2, hb2, o_mod _ kz, p_put N h x3, p_get N h t3 y3, ixL (i := 3) _ h' e3, ixL (i := 4) _ h' e4, o_mul _ m1, o_mul _ m2, o_mul _ m3, o_mod _ (show (2147483629 : Int) ≠ 0 by decide), o_mod _ (show (2147483587 : Int) ≠ 0 by decide), hz, PS.cell]
      rfl
    · have hsp : spend ⟨txs, i, b, σ.c, σ.s⟩ k = (b.fmod k, ⟨txs, i, b.fdiv k, σ.c, σ.s⟩) := by
        unfold spend
        rw [if_pos (show k ≤ b by omega)]
      rw [hsp]
      refine ⟨?_, ?_⟩
      rotate_left
      simp [h, ixL (i := 2) N h e2, Int.not_lt.mp hb, o_mod _ kz, o_fdv _ kz kl, p_put N h x2, PS.cell]
      rfl
  have fin : ∀ (N : MH) (τ : PS), fill σ k = τ → τ.c = σ.c → τ.s = σ.s → N[p]? = some (τ.cell g) → (∀ a, a ≠ p → N[a]? = M[a]?) → N.length = M.length → exs (cfg P n) bDraw ([MV.lst p, .int k].map some ++ List.replicate (4 - 2) none) M = exs (cfg P n) (.cons (.iff (.cmp .ge (.idx (.var 0) (.cst (.int 2))) (.var 1))
      (.cons (.asg (.nm 2) (.bin .mod (.blt .int (.cons (.idx (.var 0) (.cst (.int 2))) .nil)) (.var 1)))
      (.cons (.put (.var 0) (.cst (.int 2)) (.bin .fdv (.idx (.var 0) (.cst (.int 2))) (.var 1)))
      (.cons (.ret (.var 2)) .nil))) .nil)
    (.cons (.agi (.var 0) (.cst (.int 3)) .add (.cst (.int 1)))
    (.cons (.asg (.nm 3) (.bin .mod (.blt .int (.cons (.bin .mul (.bin .add (.bin .mul (.idx (.var 0) (.cst (.int 3))) (.idx (.var 0) (.cst (.int 3)))) (.idx (.var 0) (.cst (.int 4)))) (.cst (.int 48271))) .nil)) (.cst (.int 2147483629))))
    (.cons (.ret (.bin .mod (.blt .int (.cons (.bin .mod (.blt .int (.cons (.bin .mul (.var 3) (.var 3)) .nil)) (.cst (.int 2147483587))) .nil)) (.var 1))) .nil)))) [some (.lst p), some (.int k), none, none] N →
      ∃ M', (exs (cfg P n) bDraw ([MV.lst p, .int k].map some ++ List.replicate (4 - 2) none) M).fin = .ok (.int (tdraw σ k).1) M' ∧ M'.length = M.length ∧ (∀ a, a ≠ p → M'[a]? = M[a]?) ∧ M'[p]? = some ((tdraw σ k).2.cell g) := by
    intro N τ hfill ec es hN hE hL e
    obtain ⟨m', h1⟩ := half N τ ec es hN
    unfold tdraw
    rw [hfill]
    exact ⟨N.set p ((spend τ k).2.cell g), by rw [e, h1, fin_rt], by simp [hL], fun a ha => (List.getElem?_set_ne (Ne.symm ha)).trans (hE a ha), get_set hN⟩
  obtain ⟨xs, i, b, c, s⟩ := σ
  simp only [PS.cell] at hM hg hcc s0 s1
  have h := hM
  have e0 : L2.atI [MV.lst g, .int i, .int b, .int c, .int s] 0 = some (.lst g) := rfl
  have e1 : L2.atI [MV.lst g, .int i, .int b, .int c, .int s] 1 = some (.int i) := rfl
  have e2 : L2.atI [MV.lst g, .int i, .int b, .int c, .int s] 2 = some (.int b) := rfl
  have x2 : L2.ixN 5 2 = some 2 := rfl
  have x1 : L2.ixN 5 1 = some 1 := rfl
  by_cases hb : b < k
  · by_cases hi : i < xs.length
    · have ei : L2.atI (xs.map MV.int) (i : Int) = some (.int xs[i]) := by
        unfold L2.atI L2.ixN
        simp [hi]
      have h' : (M.set p [.lst g, .int i, .int xs[i], .int c, .int s])[p]? = some [.lst g, .int i, .int xs[i], .int c, .int s] := get_set h
      have t1 : (0 : Int) ≤ 1 ∧ (1 : Int) < 1000000 := by decide
      have y1 : [MV.lst g, .int i, .int xs[i], .int c, .int s][(1 : Int).toNat]? = some (.int i) := rfl
      have h'' : ((M.set p [.lst g, .int i, .int xs[i], .int c, .int s]).set p [.lst g, .int (i + 1), .int xs[i], .int c, .int s])[p]? = some [.lst g, .int (i + 1), .int xs[i], .int c, .int s] := get_set h'
      refine fin _ ⟨xs, i + 1, xs[i], c, s⟩ ?_ rfl rfl h'' (fun a ha => (List.getElem?_set_ne (Ne.symm ha)).trans (List.getElem?_set_ne (Ne.symm ha))) (by simp) ?_
      · unfold fill
        rw [if_pos ⟨hb, hi⟩]
        simp [hi]
      simp [bDraw, h, ixL (i := 2) M h e2, ixL (i := 1) M h e1, ixL (i := 0) M h e0, hb, b_lenL M hg, hi, ixL (i := (i : Int)) M hg ei, p_put M h x2, p_get _ h' t1 y1, p_put _ h' x1]
    · refine fin M ⟨xs, i, b, c, s⟩ ?_ rfl rfl h (fun _ _ => rfl) rfl ?_
      · unfold fill
        rw [if_neg (fun z => hi z.2)]
      have hi' : ¬ ((i : Int) < xs.length) := by omega
      simp only [bDraw, List.map_cons, List.map_nil, List.replicate, List.cons_append, List.nil_append, s_cons, s_iff, e_and, e_cmp, e_idx, e_var, e_cst, k_op, MP.kvr_s, bnd_ok_, ixL (i := 2) M h e2, ixL (i := 1) M h e1, ixL (i := 0) M h e0, o_lt, hb, decide_true, MP.k_andt, e_blt, es_cons, es_nil, MP.k_cons, MP.k_cn, b_lenL M hg, List.length_map, hi', decide_false, MP.k_iff, s_nil, MP.k_nx,
        List.getElem?_cons_zero, List.getElem?_cons_succ]
  · refine fin M ⟨xs, i, b, c, s⟩ ?_ rfl rfl h (fun _ _ => rfl) rfl ?_
    · unfold fill
      rw [if_neg (fun z => hb z.1)]
    simp only [bDraw, List.map_cons, List.map_nil, List.replicate, List.cons_append, List.nil_append, s_cons, s_iff, e_and, e_cmp, e_idx, e_var, e_cst, k_op, MP.kvr_s, bnd_ok_, ixL (i := 2) M h e2, ixL (i := 1) M h e1, ixL (i := 0) M h e0, o_lt, hb, decide_false, MP.k_andf, MP.k_iff, s_nil, MP.k_nx,
        List.getElem?_cons_zero, List.getElem?_cons_succ]
/-- _law_draw over trees -/
def hdraw : List TV → PS → TR PS GV
  | [.pur, .int k], σ => if σ.c < 1000000 ∧ 0 ≤ σ.s ∧ σ.s < 2147483647 ∧ 0 < k ∧ k.natAbs.log2 < 9000 then .ok (.d, .int (tdraw σ k).1) (tdraw σ k).2 else .bad
  | _, _ => .bad
theorem hdraw_ok {P : Pg} {iD n p g : Nat} {hpg : p ≠ g} (hf : IsD P iD 2 4 bDraw) {args : List TV} {s s' : PS} {w : GV} (h : hdraw args s = .ok w s') {M : MH} {vs : List MV} (hr : reps (PW p g hpg) M args vs) (hs : (PW p g hpg).St s M) : Out (PW p g hpg) (fun a => a ∈ adss M args vs) M.length s' M (run P (n + 1) iD vs M) w := by
  unfold hdraw at h
  split at h <;> first | (cases h; done) | skip
  rename_i k
  split at h <;> cases h
  rename_i hc
  obtain ⟨v, vs1, rfl, r1, hr⟩ := reps_cons' hr
  obtain ⟨v2, vs2, rfl, r2, hr⟩ := reps_cons' hr
  rw [reps_nil' hr]
  have e1 : v = .lst p := by
    unfold rep at r1
    exact r1
  rw [e1, rep_int r2]
  have hxs : (tdraw s k).2.xs = s.xs := by
    unfold tdraw spend fill
    split <;> split <;> rfl
  obtain ⟨M', a1, a2, a3, a4⟩ := draw_ex (n := n) (k := k) hf hpg hs.1 hs.2 hc.1 hc.2.1 hc.2.2.1 hc.2.2.2.1 hc.2.2.2.2
  exact ⟨_, M', a1, ⟨by omega, fun a _ ha => a3 a fun z => ha (.inl z)⟩, ⟨a4, by rw [hxs]; exact (a3 g (Ne.symm hpg)).trans hs.2⟩, VOK.of (by unfold rep; rfl) rfl⟩
/-- a purse that may be drawn from -/
structure Pu (d : Nat) (σ : PS) : Prop where
  c : σ.c ≤ d
  s0 : 0 ≤ σ.s
  s1 : σ.s < 2147483647
theorem Pu.mono {d d' : Nat} {σ : PS} (h : Pu d σ) (hd : d ≤ d') : Pu d' σ := ⟨Nat.le_trans h.c hd, h.s0, h.s1⟩
theorem Pu.draw {d : Nat} {σ : PS} {k : Int} (h : Pu d σ) (hd : d < 1000000) (k0 : 0 < k) (kl : k.natAbs.log2 < 9000) : ∃ t σ', hdraw [.pur, .int k] σ = .ok (.d, .int t) σ' ∧ 0 ≤ t ∧ t < k ∧ Pu (d + 1) σ' := by
  refine ⟨_, _, if_pos ⟨by have := h.c; omega, h.s0, h.s1, k0, kl⟩, ?_, ?_, ?_⟩
  · unfold tdraw spend
    split
    · exact Int.fmod_nonneg_of_pos _ k0
    · exact Int.fmod_nonneg_of_pos _ k0
  · unfold tdraw spend
    split
    · exact Int.fmod_lt_of_pos _ k0
    · exact Int.fmod_lt_of_pos _ k0
  · have hc := h.c
    have h0 := h.s0
    have h1 := h.s1
    unfold tdraw spend fill
    split <;> split <;> exact ⟨by simp only; omega, h0, h1⟩

/-! ### spoilt -/
def bSpoil (f : Nat) : Ss :=
    (.cons (.iff (.isi (.var 0) [.tuple] false)
      (.cons (.ret (.blt .all (.cons (.com (.nm 1) (.seq (.var 0)) none (.cal f 0 (.cons (.var 1) .nil) .nil)) .nil))) .nil) .nil)
    (.cons (.iff (.not (.isi (.var 0) [.list] false))
      (.cons (.ret (.cst (.bl true))) .nil) .nil)
    (.cons (.iff (.and (.cmp .ne (.var 0) (.lst .nil)) (.and (.isi (.idx (.var 0) (.neg (.cst (.int 1)))) [.str] false) (.cmp .eq (.idx (.var 0) (.neg (.cst (.int 1)))) (.cst (.str "spoilt")))))
      (.cons (.ret (.cst (.bl false))) .nil) .nil)
    (.cons (.asg (.nm 2) (.com (.nm 1) (.seq (.var 0)) none (.cal f 0 (.cons (.var 1) .nil) .nil)))
    (.cons (.exp (.mth .append (.var 0) (.cons (.cst (.str "spoilt")) .nil)))
    (.cons (.ret (.blt .all (.cons (.var 2) .nil))) .nil))))))
section
variable {S : Type} {W : Wd S} {P : Pg} {f : Nat}
def SpRun (W : Wd S) (P : Pg) (f n D : Nat) : Prop := ∀ (M : MH) (s : S) (t : TV) (v : MV), W.St s M → rep W M t v → (ads M t v).Nodup → unsp D t = true → ∃ M', run P n f [v] M = .ok (.bl true) M' ∧ M.length ≤ M'.length ∧ ∀ a, a < M.length → a ∉ ads M t v → M'[a]? = M[a]?
theorem spo_parts {n D : Nat} (ih : SpRun W P f n D) (ha : Arr P f 0 [.at 0]) {M : MH} {s : S} {ts : List TV} {vs : List MV} {src : Src} {m : Sl} (hm : lim < P.most) (hs : W.St s M) (hr : reps W M ts vs) (hn : (adss M ts vs).Nodup) (hu : ts.all (unsp D) = true) (hl : ts.length < lim) (h1 : 1 < m.length)
    (hsrc : ∀ N : MH, M.length ≤ N.length → (∀ a, a < M.length → a ∉ adss M ts vs → N[a]? = M[a]?) → ∀ i, src.stop N i = decide (vs.length ≤ i) ∧ src.item N i = vs[i]?) :
    ∃ N, comL src (turn (cfg P n) (.nm 1) none (.cal f 0 (.cons (.var 1) .nil) .nil) m) P.most 0 [] M = .ok (List.replicate vs.length (.bl true)) N ∧ M.length ≤ N.length ∧ ∀ a, a < M.length → a ∉ adss M ts vs → N[a]? = M[a]? := by
  have hlen := reps_len hr
  obtain ⟨acc, N, r1, r2, r3, r4⟩ := comL_inv (s := src) (f := turn (cfg P n) (.nm 1) none (.cal f 0 (.cons (.var 1) .nil) .nil) m) (N := vs.length)
    (fun i acc N => acc = List.replicate i (.bl true) ∧ M.length ≤ N.length ∧ ∀ a, a < M.length → a ∉ adss M (ts.take i) (vs.take i) → N[a]? = M[a]?) (by
      rintro i acc N hi ⟨rfl, hle, hN⟩
      have hti : ts[i]? = some ts[i] := List.getElem?_eq_getElem (by omega)
      have hvi : vs[i]? = some vs[i] := List.getElem?_eq_getElem hi
      have sp := adss_get hr hti hvi
      have hri : rep W M ts[i] vs[i] := by
        obtain ⟨v, e1, e2⟩ := reps_get hr hti
        rw [hvi] at e1
        cases e1
        exact e2
      have nd := hn
      rw [sp] at nd
      have ndi : (ads M ts[i] vs[i]).Nodup := nd_mid nd
      have dis : ∀ a ∈ ads M ts[i] vs[i], a ∉ adss M (ts.take i) (vs.take i) := fun a ha hb => (List.nodup_append.mp nd).2.2 a hb a (List.mem_append_left _ ha) rfl
      have sm : ∀ a ∈ ads M ts[i] vs[i], N[a]? = M[a]? := fun a ha => hN a (ads_lt _ _ hri a ha).1 (dis a ha)
      obtain ⟨q1, q2⟩ := rep_same _ _ hri sm
      have hsN : W.St s N := W.keep _ _ _ hs fun a ha => hN a (W.lt _ _ a hs ha) fun hb => (adss_lt _ _ (reps_split i hr).1 a hb).2 ha
      obtain ⟨N2, w1, w2, w3⟩ := ih N s ts[i] vs[i] hsN q1 (by rw [q2]; exact ndi) (List.all_eq_true.mp hu _ (List.getElem_mem _))
      have h0 := hsrc N hle (fun a ha hb => hN a ha fun hc => hb (by rw [adss_split i hr]; exact List.mem_append_left _ hc)) i
      refine ⟨by rw [h0.1]; exact decide_eq_false (by omega), vs[i], some (.bl true), N2, by rw [h0.2]; exact hvi, ?_, by rw [List.length_replicate]; omega, by rw [List.replicate_succ']; rfl, Nat.le_trans hle w2, fun a ha hb => ?_⟩
      · unfold turn
        rw [tgN]
        have : (MP.wip m (Tg.nm 1).own).length = m.length := by simp [MP.wip, Tg.own]
        simp [ha.cfg, argAt, w1, this, h1]
      · have hb' : a ∉ adss M (ts.take i) (vs.take i) ∧ a ∉ ads M ts[i] vs[i] := by
          rw [List.take_succ, List.take_succ, hti, hvi, adss_append (by simp [hlen])] at hb
          simp [adss] at hb
          exact hb
        exact (w3 a (Nat.lt_of_lt_of_le ha hle) (by rw [q2]; exact hb'.2)).trans (hN a ha hb'.1)) (by
      rintro acc N ⟨_, hle, hN⟩
      have h0 := hsrc N hle (fun a ha hb => hN a ha (by rw [← hlen, List.take_length, hlen, List.take_length]; exact hb)) vs.length
      rw [h0.1]
      exact decide_eq_true (Nat.le_refl _)) P.most 0 [] M (by omega) (by omega) ⟨rfl, Nat.le_refl _, fun _ _ _ => rfl⟩
  subst r2
  refine ⟨N, r1, r3, fun a ha hb => r4 a ha ?_⟩
  rw [← hlen, List.take_length, hlen, List.take_length]
  exact hb
theorem spo_run (hf : IsD P f 1 3 (bSpoil f)) (ha : Arr P f 0 [.at 0]) (hm : lim < P.most) : ∀ (D n : Nat), SpRun W P f (n + D) D
  | 0, n, M, s, t, v, hs, hr, hn, hu => by cases t <;> cases hu
  | D + 1, n, M, s, t, v, hs, hr, hn, hu => by
    rw [show n + (D + 1) = (n + D) + 1 from rfl, hf.go rfl]
    have plain : isiM v [.tuple] = false → isiM v [.list] = false → ∃ M', (exs (cfg P (n + D)) (bSpoil f) ([v].map some ++ List.replicate (3 - 1) none) M).fin = .ok (.bl true) M' ∧ M.length ≤ M'.length ∧ ∀ a, a < M.length → a ∉ ads M t v → M'[a]? = M[a]? :=
      fun h1 h2 => ⟨M, by simp [bSpoil, h1, h2], Nat.le_refl _, fun _ _ _ => rfl⟩
    obtain ⟨p, hp⟩ := W.tokL
    cases t with
    | tup ts =>
      obtain ⟨vs, rfl, r⟩ := rep_tup hr
      simp only [unsp, Bool.and_eq_true, decide_eq_true_eq] at hu
      have e : ads M (.tup ts) (.tup vs) = adss M ts vs := by simp [ads]
      rw [e] at hn ⊢
      obtain ⟨N, c1, c2, c3⟩ := spo_parts (spo_run hf ha hm D n) ha (src := .tp vs) (m := [some (.tup vs), none, none]) hm hs r hn hu.2 hu.1 (by simp) (fun N _ _ i => ⟨rfl, rfl⟩)
      refine ⟨N ++ [List.replicate vs.length (.bl true)], ?_, by simp; omega, fun a h1 h2 => (List.getElem?_append_left (Nat.lt_of_lt_of_le h1 c2)).trans (c3 a h1 h2)⟩
      simp [bSpoil, isiM, tyOfM, seqT, MP.kcom, c1, all_rep get_new]
    | lst ts =>
      obtain ⟨q, vs, rfl, hq, hM, r, he⟩ := rep_lst hr
      rw [he] at hn ⊢
      simp only [unsp, Bool.and_eq_true, decide_eq_true_eq] at hu
      obtain ⟨⟨hl, hteq⟩, hall, hlast⟩ := hu
      have hlen := reps_len r
      have qn := (List.nodup_cons.mp hn).1
      -- a new empty list is laid for the look
      have g1 : Gro W M (M ++ [[]]) := Gro.one
      have hM1 : (M ++ [[]])[q]? = some vs := (g1.at_ q (List.getElem?_eq_some_iff.mp hM).1 hq).trans hM
      have r1 := reps_same _ _ r (g1.sames r)
      have hr1 := rep_same _ _ hr (g1.same hr)
      have hemp : rep W (M ++ [[]]) (.lst []) (.lst M.length) := by
        unfold rep
        exact ⟨M.length, [], rfl, fun h => Nat.lt_irrefl _ (W.lt _ _ _ hs h), by simp, reps_nil⟩
      have heq := teq_ok hteq hr1.1 hemp
      have hs1 : W.St s (M ++ [[]]) := Gro.st hs
      have cond : ev (cfg P (n + D)) (.and (.cmp .ne (.var 0) (.lst .nil)) (.and (.isi (.idx (.var 0) (.neg (.cst (.int 1)))) [.str] false) (.cmp .eq (.idx (.var 0) (.neg (.cst (.int 1)))) (.cst (.str "spoilt"))))) [some (.lst q), none, none] M = .ok (.bl false) (M ++ [[]]) := by
        by_cases h0 : ts = []
        · subst h0
          simp [heq]
        · have hv0 : vs ≠ [] := fun h => h0 (List.eq_nil_of_length_eq_zero (by rw [hlen, h]; rfl))
          have hx : ts[ts.length - 1]? = some (ts.getLast h0) := by
            rw [List.getLast_eq_getElem]
            exact List.getElem?_eq_getElem _
          obtain ⟨y, hy, hry⟩ := reps_get r1.1 hx
          rw [hx] at hlast
          simp only at hlast
          have hat : L2.atI vs (-1) = some y := by
            rw [at_last hv0, List.getLast_eq_getElem, ← List.getElem?_eq_getElem, ← hlen]
            exact hy
          have hne : ts.isEmpty = false := by cases ts <;> first | rfl | exact (h0 rfl).elim
          rw [hne] at heq
          have hys : isiM y [.str] = false ∨ ∃ z, y = .str z ∧ z ≠ "spoilt" := by
            rw [tisi_ok hry]
            cases hg : ts.getLast h0 with
            | str z =>
              rw [hg] at hry hlast
              exact .inr ⟨z, rep_str hry, by simpa [isSpoilt] using hlast⟩
            | _ => exact .inl (by simp [tisi, tTy])
          rcases hys with hy1 | ⟨z, rfl, hz⟩
          · simp [heq, ixL _ _ hM1 hat, hy1]
          · have : eqM (M ++ [[]]) (.str z) (.str "spoilt") = some false := by
              show some (decide (z = "spoilt")) = some false
              rw [decide_eq_false hz]
            simp [heq, ixL _ _ hM1 hat, isiM, tyOfM, this]
      have hn1 : (adss (M ++ [[]]) ts vs).Nodup := by
        rw [r1.2]
        exact (List.nodup_cons.mp hn).2
      obtain ⟨N, c1, c2, c3⟩ := spo_parts (spo_run hf ha hm D n) ha (src := .ls (.lst q)) (m := [some (.lst q), none, none]) hm hs1 r1.1 hn1 hall hl (by simp) (fun N hle hN i => by
        have hNq : N[q]? = some vs := (hN q (List.getElem?_eq_some_iff.mp hM1).1 (by rw [r1.2]; exact qn)).trans hM1
        exact ⟨ls_stop hNq, ls_item hNq⟩)
      have hNq : N[q]? = some vs := (c3 q (List.getElem?_eq_some_iff.mp hM1).1 (by rw [r1.2]; exact qn)).trans hM1
      have lq : q < N.length := (List.getElem?_eq_some_iff.mp hNq).1
      have hNq2 : (N ++ [List.replicate vs.length (MV.bl true)])[q]? = some vs := (List.getElem?_append_left lq).trans hNq
      have lM : M.length ≤ N.length := Nat.le_trans g1.le c2
      have hall2 : ((N ++ [List.replicate vs.length (MV.bl true)]).set q (vs ++ [MV.str "spoilt"]))[N.length]? = some (List.replicate vs.length (MV.bl true)) := by
        rw [List.getElem?_set_ne (by omega)]
        simp
      refine ⟨(N ++ [List.replicate vs.length (MV.bl true)]).set q (vs ++ [MV.str "spoilt"]), ?_, by simp; omega, fun a h1 h2 => ?_⟩
      · refine MP.fin_cons (m' := [some (.lst q), none, none]) (M1 := M) (by simp [isiM, tyOfM]) ?_
        refine MP.fin_cons (m' := [some (.lst q), none, none]) (M1 := M) (by simp [isiM, tyOfM]) ?_
        refine MP.fin_cons (m' := [some (.lst q), none, none]) (M1 := M ++ [[]]) (by rw [s_iff, cond]; simp) ?_
        refine MP.fin_cons (m' := [some (.lst q), none, some (.lst N.length)]) (M1 := N ++ [List.replicate vs.length (MV.bl true)]) (by simp [seqL hM1, MP.kcom, c1]) ?_
        refine MP.fin_cons (m' := [some (.lst q), none, some (.lst N.length)]) (M1 := (N ++ [List.replicate vs.length (MV.bl true)]).set q (vs ++ [MV.str "spoilt"])) (by simp [p_app _ hNq2 (show vs.length < lim by omega)]) ?_
        refine MP.fin_ret (m' := [some (.lst q), none, some (.lst N.length)]) ?_
        simp [all_rep hall2]
      · have hqa : q ≠ a := fun z => h2 (z ▸ List.mem_cons_self ..)
        rw [List.getElem?_set_ne hqa, List.getElem?_append_left (by omega)]
        exact (c3 a (Nat.lt_of_lt_of_le h1 g1.le) (by rw [r1.2]; exact fun h => h2 (List.mem_cons_of_mem _ h))).trans (List.getElem?_append_left h1)
    | non =>
      unfold rep at hr
      subst hr
      exact plain rfl rfl
    | bl b =>
      unfold rep at hr
      subst hr
      exact plain rfl rfl
    | int b =>
      unfold rep at hr
      subst hr
      exact plain rfl rfl
    | str b =>
      unfold rep at hr
      subst hr
      exact plain rfl rfl
    | dct =>
      unfold rep at hr
      subst hr
      exact plain rfl rfl
    | pur => cases hu
theorem spo_ok (hf : IsD P f 1 3 (bSpoil f)) (ha : Arr P f 0 [.at 0]) (hm : lim < P.most) {n : Nat} (hn : 20 ≤ n) : SpOK W (cfg P n) f := by
  intro M s t v hs hr hnd hu
  have := spo_run (W := W) hf ha hm 20 (n - 20)
  rw [show n - 20 + 20 = n by omega] at this
  exact this M s t v hs hr hnd hu
end
end TM

set_option Elab.async false
set_option linter.all false
set_option maxRecDepth 100000
set_option autoImplicit false
set_option maxHeartbeats 4000000
/-! TM, part l: data: ==, in, repr, what is not spoilt, _law_same. -/
namespace TM
open PySem MP

/-- data no deeper than n; b: truths in it, s: texts in it -/
def pq (b s : Bool) : Nat → TV → Bool
  | _, .non => true
  | _, .bl _ => b
  | _, .int _ => true
  | _, .str x => s && PyData.strOk x
  | n + 1, .tup xs => decide (xs.length < lim) && xs.all (pq b s n)
  | n + 1, .lst xs => decide (xs.length < lim) && xs.all (pq b s n)
  | _, _ => false
theorem pq_up {b s : Bool} : ∀ (n : Nat) (t : TV), pq b s n t = true → pq b s (n + 1) t = true
  | 0, t, h => by cases t <;> simp_all [pq]
  | n + 1, t, h => by
    cases t <;> simp only [pq, Bool.and_eq_true] at h ⊢ <;> first
      | exact h
      | exact ⟨h.1, List.all_eq_true.mpr fun x hx => pq_up n x (List.all_eq_true.mp h.2 x hx)⟩
      | skip
theorem pq_le {b s : Bool} {n m : Nat} {t : TV} (h : pq b s n t = true) (hm : n ≤ m) : pq b s m t = true := by
  induction m with
  | zero =>
    have : n = 0 := by omega
    subst this
    exact h
  | succ m ih =>
    by_cases e : n = m + 1
    · subst e
      exact h
    · exact pq_up m t (ih (by omega))
theorem pq_imp {b s b' s' : Bool} (hb : b = true → b' = true) (hs : s = true → s' = true) : ∀ (n : Nat) (t : TV), pq b s n t = true → pq b' s' n t = true
  | 0, t, h => by
    cases t <;> simp only [pq, Bool.and_eq_true] at h ⊢ <;> first
      | exact hb h
      | exact ⟨hs h.1, h.2⟩
      | exact h
      | (cases h; done)
      | skip
  | n + 1, t, h => by
    cases t <;> simp only [pq, Bool.and_eq_true] at h ⊢ <;> first
      | exact hb h
      | exact ⟨hs h.1, h.2⟩
      | exact ⟨h.1, List.all_eq_true.mpr fun x hx => pq_imp hb hs n x (List.all_eq_true.mp h.2 x hx)⟩
      | (cases h; done)
      | skip
theorem pq_lst {b s : Bool} {n : Nat} {α : Type} {f : α → TV} {l : List α} (h : ∀ x ∈ l, pq b s n (f x) = true) (hl : l.length < lim) : pq b s (n + 1) (.lst (l.map f)) = true := by
  simp only [pq, Bool.and_eq_true, decide_eq_true_eq, List.length_map, List.all_map]
  exact ⟨hl, List.all_eq_true.mpr h⟩
/-- a tree's data -/
def toD : Nat → TV → PyData
  | _, .bl b => .bool b
  | _, .int i => .int i
  | _, .str s => .str s
  | n + 1, .tup xs => .tuple (xs.map (toD n))
  | n + 1, .lst xs => .list (xs.map (toD n))
  | _, _ => .none
theorem pdTs_map {n : Nat} {f : TV → PyData} : ∀ {xs : List TV}, (∀ x ∈ xs, pdT n x = some (f x)) → pdTs n xs = some (xs.map f)
  | [], _ => by simp [pdTs]
  | x :: xs, h => by
    unfold pdTs
    rw [h x (List.mem_cons_self ..), pdTs_map fun y hy => h y (List.mem_cons_of_mem _ hy)]
    rfl
theorem pd_pq {b s : Bool} : ∀ (n k : Nat) (t : TV), pq b s n t = true → n < k → pdT k t = some (toD n t)
  | 0, k + 1, t, h, hk => by cases t <;> simp_all [pq, pdT, toD]
  | n + 1, k + 1, t, h, hk => by
    cases t <;> simp_all only [pq, pdT, toD, Bool.and_eq_true]
    all_goals first
      | rfl
      | (cases h; done)
      | (rw [pdTs_map fun x hx => pd_pq n k x (List.all_eq_true.mp h.2 x hx) (by omega)]
         rfl)
theorem canLay_map {f : TV → PyData} : ∀ {xs : List TV}, (∀ x ∈ xs, (f x).canLay0 = true) → PyData.canLayAll0 (xs.map f) = true
  | [], _ => by simp [PyData.canLayAll0]
  | x :: xs, h => by
    simp only [List.map_cons, PyData.canLayAll0, Bool.and_eq_true]
    exact ⟨h x (List.mem_cons_self ..), canLay_map fun y hy => h y (List.mem_cons_of_mem _ hy)⟩
theorem depth_map {f : TV → PyData} {n : Nat} : ∀ {xs : List TV}, (∀ x ∈ xs, (f x).depth ≤ n) → PyData.depthAll (xs.map f) ≤ n
  | [], _ => by simp [PyData.depthAll]
  | x :: xs, h => by
    simp only [List.map_cons, PyData.depthAll]
    have := h x (List.mem_cons_self ..)
    have := depth_map (n := n) (f := f) (xs := xs) fun y hy => h y (List.mem_cons_of_mem _ hy)
    omega
theorem shaped_pq {b s : Bool} : ∀ (n : Nat) (t : TV), pq b s n t = true → (toD n t).canLay0 = true ∧ (toD n t).depth ≤ n
  | 0, t, h => by cases t <;> simp_all [pq, toD, PyData.canLay0, PyData.depth]
  | n + 1, t, h => by
    cases t <;> simp_all only [pq, toD, PyData.canLay0, PyData.depth, Bool.and_eq_true] <;> first
      | exact ⟨trivial, Nat.zero_le _⟩
      | exact ⟨h.2, Nat.zero_le _⟩
      | (cases h; done)
      | skip
    all_goals
      refine ⟨canLay_map fun x hx => (shaped_pq n x (List.all_eq_true.mp h.2 x hx)).1, ?_⟩
      have := depth_map (n := n) (f := toD n) fun x hx => (shaped_pq n x (List.all_eq_true.mp h.2 x hx)).2
      omega
theorem eqvAll_pq {s : Bool} {n : Nat} (ih : ∀ t u : TV, pq false s n t = true → pq false s n u = true → (PyData.eqv (toD n t) (toD n u) = true ↔ t = u)) : ∀ {xs ys : List TV}, xs.all (pq false s n) = true → ys.all (pq false s n) = true → (PyData.eqvAll (xs.map (toD n)) (ys.map (toD n)) = true ↔ xs = ys)
  | [], [], _, _ => by simp [PyData.eqvAll]
  | [], _ :: _, _, _ => by simp [PyData.eqvAll]
  | _ :: _, [], _, _ => by simp [PyData.eqvAll]
  | x :: xs, y :: ys, h1, h2 => by
    simp only [List.all_cons, Bool.and_eq_true] at h1 h2
    simp only [List.map_cons, PyData.eqvAll, Bool.and_eq_true, List.cons.injEq]
    rw [ih x y h1.1 h2.1, eqvAll_pq ih h1.2 h2.2]
theorem eqv_pq {s : Bool} : ∀ (n : Nat) (t u : TV), pq false s n t = true → pq false s n u = true → (PyData.eqv (toD n t) (toD n u) = true ↔ t = u)
  | 0, t, u, h1, h2 => by
    cases t <;> cases u <;> simp_all [pq, toD, PyData.eqv]
  | n + 1, t, u, h1, h2 => by
    cases t <;> cases u <;> simp only [pq, Bool.and_eq_true] at h1 h2 <;> first
      | (cases h1; done)
      | (cases h2; done)
      | (simp [toD, PyData.eqv]; done)
      | (simp only [toD, PyData.eqv]
         rw [eqvAll_pq (fun t u => eqv_pq n t u) h1.2 h2.2]
         simp)
theorem teq_gen {s : Bool} {t u : TV} (h1 : pq false s 20 t = true) (h2 : pq false s 20 u = true) : ∃ b, teq t u = some b ∧ (b = true ↔ t = u) := by
  have p1 := pd_pq 20 pdDepth t h1 (by decide)
  have p2 := pd_pq 20 pdDepth u h2 (by decide)
  have s1 := shaped_pq 20 t h1
  have s2 := shaped_pq 20 u h2
  have sh : SeqAt.shaped (toD 20 t) = true ∧ SeqAt.shaped (toD 20 u) = true := by
    unfold SeqAt.shaped
    simp only [Bool.and_eq_true, decide_eq_true_eq]
    exact ⟨⟨s1.1, by omega⟩, s2.1, by omega⟩
  unfold teq
  split
  · exact ⟨_, rfl, by simp⟩
  · exact ⟨_, rfl, by simp⟩
  · rw [p1, p2]
    simp only
    rw [if_pos sh]
    exact ⟨_, rfl, eqv_pq 20 t u h1 h2⟩
theorem teq_t {s : Bool} {t : TV} (h1 : pq false s 20 t = true) : teq t t = some true := by
  obtain ⟨b, e, hb⟩ := teq_gen h1 h1
  rw [e, hb.mpr rfl]
theorem teq_f {s : Bool} {t u : TV} (h1 : pq false s 20 t = true) (h2 : pq false s 20 u = true) (h : t ≠ u) : teq t u = some false := by
  obtain ⟨b, e, hb⟩ := teq_gen h1 h2
  rw [e]
  cases b
  · rfl
  · exact (h (hb.mp rfl)).elim
theorem tin_gen {s : Bool} {t : TV} {us : List TV} (h1 : pq false s 19 t = true) (h2 : pq false s 20 (.lst us) = true) : ∃ b, tin t (.lst us) = some b ∧ (b = true ↔ t ∈ us) := by
  have p1 := pd_pq 19 pdDepth t h1 (by decide)
  have p2 := pd_pq 20 pdDepth _ h2 (by decide)
  have s1 := shaped_pq 19 t h1
  have s2 := shaped_pq 20 _ h2
  have sh : SeqAt.shaped (toD 19 t) = true ∧ SeqAt.shaped (toD 20 (.lst us)) = true := by
    unfold SeqAt.shaped
    simp only [Bool.and_eq_true, decide_eq_true_eq]
    exact ⟨⟨s1.1, by omega⟩, s2.1, by omega⟩
  simp only [pq, Bool.and_eq_true] at h2
  unfold tin
  rw [p1, p2]
  simp only [toD] at sh ⊢
  rw [if_pos sh]
  refine ⟨_, rfl, ?_⟩
  rw [List.any_map, List.any_eq_true]
  constructor
  · rintro ⟨x, hx, e⟩
    have := (eqv_pq 19 x t (List.all_eq_true.mp h2.2 x hx) h1).mp e
    exact this ▸ hx
  · intro hx
    exact ⟨t, hx, (eqv_pq 19 t t h1 h1).mpr rfl⟩
theorem tin_t {s : Bool} {t : TV} {us : List TV} (h1 : pq false s 19 t = true) (h2 : pq false s 20 (.lst us) = true) (h : t ∈ us) : tin t (.lst us) = some true := by
  obtain ⟨b, e, hb⟩ := tin_gen h1 h2
  rw [e, hb.mpr h]
theorem tin_f {s : Bool} {t : TV} {us : List TV} (h1 : pq false s 19 t = true) (h2 : pq false s 20 (.lst us) = true) (h : t ∉ us) : tin t (.lst us) = some false := by
  obtain ⟨b, e, hb⟩ := tin_gen h1 h2
  rw [e]
  cases b
  · rfl
  · exact (h (hb.mp rfl)).elim
theorem unsp_pq : ∀ (n : Nat) (t : TV), pq false false n t = true → n ≤ 19 → unsp (n + 1) t = true
  | 0, t, h, _ => by cases t <;> simp_all [pq, unsp]
  | n + 1, t, h, hn => by
    have h0 := h
    cases t <;> simp only [pq, Bool.and_eq_true] at h <;> first
      | (cases h; done)
      | rfl
      | skip
    · rename_i xs
      have ha : xs.all (unsp (n + 1)) = true := List.all_eq_true.mpr fun x hx => unsp_pq n x (List.all_eq_true.mp h.2 x hx) (by omega)
      simp only [unsp, Bool.and_eq_true]
      exact ⟨h.1, ha⟩
    · rename_i xs
      have ha : xs.all (unsp (n + 1)) = true := List.all_eq_true.mpr fun x hx => unsp_pq n x (List.all_eq_true.mp h.2 x hx) (by omega)
      have e1 : pq false false 20 (.lst xs) = true := pq_le h0 (by omega)
      have e2 : pq false false 20 (.lst []) = true := by decide
      have et : teq (.lst xs) (.lst []) = some xs.isEmpty := by
        cases xs with
        | nil => exact teq_t e2
        | cons x xs => exact teq_f e1 e2 (by simp)
      simp only [unsp, Bool.and_eq_true, decide_eq_true_eq]
      refine ⟨⟨by simpa using h.1, et⟩, ha, ?_⟩
      cases hl : xs[xs.length - 1]? with
      | none => rfl
      | some y =>
        have hy := List.all_eq_true.mp h.2 y (List.mem_of_getElem? hl)
        cases y <;> first
          | rfl
          | (cases n <;> simp [pq] at hy)
theorem unsp20 {n : Nat} {t : TV} (h : pq false false n t = true) (hn : n ≤ 19) : unsp 20 t = true := unsp_pq 19 t (pq_le h hn) (Nat.le_refl _)

/-! ### repr -/
def Rk (D w : Nat) (t : TV) : Prop := ∃ d, (∀ n, D < n → pdT n t = some d) ∧ d.depth ≤ D ∧ d.leavesShort 3000 = true ∧ d.showable = true ∧ d.hasDict = false ∧ d.weight ≤ w
theorem rk_int {i : Int} {k : Nat} (h : Sz k i) (hk : k ≤ 1500) : Rk 0 (k + 1) (.int i) := by
  have hl := log_lt (k := k + 1) (h.mono (by omega)) (by omega)
  refine ⟨.int i, fun n hn => ?_, by simp [PyData.depth], int_short h hk, ?_, by simp [PyData.hasDict], ?_⟩
  · obtain ⟨m, rfl⟩ := pos_of (show 1 ≤ n by omega)
    rfl
  · simp only [PyData.showable, decide_eq_true_eq]
    omega
  · by_cases h0 : i = 0
    · subst h0
      simp [PyData.weight]
    · have hn : i.natAbs ≠ 0 := by omega
      have h2 : i.natAbs < 2 ^ k := h
      have h3 := (Nat.log2_lt hn).mpr h2
      simp only [PyData.weight]
      split <;> omega
theorem rk_str (s : String) {k : Nat} (h : s.length ≤ k) : Rk 0 k (.str (Str.ofString s)) := by
  refine ⟨.str (Str.ofString s), fun n hn => ?_, by simp [PyData.depth], ?_, by simp [PyData.showable], by simp [PyData.hasDict], ?_⟩
  · obtain ⟨m, rfl⟩ := pos_of (show 1 ≤ n by omega)
    rfl
  · simp only [PyData.leavesShort]
    exact cps_small s
  · simp only [PyData.weight]
    rw [show (Str.ofString s).cps.size = (Str.ofString s).length from rfl, ofString_length]
    exact h
def Rks (D w : Nat) (ts : List TV) : Prop := ∃ ds, (∀ n, D < n → pdTs n ts = some ds) ∧ PyData.depthAll ds ≤ D ∧ PyData.leavesShortAll 3000 ds = true ∧ PyData.showableAll ds = true ∧ PyData.hasDictAll ds = false ∧ PyData.weightAll ds ≤ w
theorem rks_nil (D w : Nat) : Rks D w [] := ⟨[], fun n _ => by simp [pdTs], by simp [PyData.depthAll], by simp [PyData.leavesShortAll], by simp [PyData.showableAll], by simp [PyData.hasDictAll], by simp [PyData.weightAll]⟩
theorem rks_cons {D w w' W : Nat} {t : TV} {ts : List TV} (h : Rk D w t) (hs : Rks D w' ts) (hw : w + 1 + w' ≤ W) : Rks D W (t :: ts) := by
  obtain ⟨d, a1, a2, a3, a4, a5, a6⟩ := h
  obtain ⟨ds, b1, b2, b3, b4, b5, b6⟩ := hs
  refine ⟨d :: ds, fun n hn => ?_, ?_, by simp [PyData.leavesShortAll, a3, b3], by simp [PyData.showableAll, a4, b4], by simp [PyData.hasDictAll, a5, b5], ?_⟩
  · unfold pdTs
    rw [a1 n hn, b1 n hn]
  · simp only [PyData.depthAll]
    omega
  · simp only [PyData.weightAll]
    omega
theorem rks_map {D w : Nat} {α : Type} {f : α → TV} : ∀ {l : List α}, (∀ x ∈ l, Rk D w (f x)) → Rks D (l.length * (w + 1)) (l.map f)
  | [], _ => rks_nil _ _
  | x :: l, h => rks_cons (h x (List.mem_cons_self ..)) (rks_map fun y hy => h y (List.mem_cons_of_mem _ hy)) (by rw [List.length_cons, Nat.add_mul]; omega)
theorem Rk.mono {D w D' w' : Nat} {t : TV} (h : Rk D w t) (hD : D ≤ D') (hw : w ≤ w') : Rk D' w' t := by
  obtain ⟨d, a1, a2, a3, a4, a5, a6⟩ := h
  exact ⟨d, fun n hn => a1 n (by omega), by omega, a3, a4, a5, by omega⟩
theorem rk_lst {D w : Nat} {ts : List TV} (h : Rks D w ts) : Rk (D + 1) w (.lst ts) := by
  obtain ⟨ds, b1, b2, b3, b4, b5, b6⟩ := h
  refine ⟨.list ds, fun n hn => ?_, by simp only [PyData.depth]; omega, by simp [PyData.leavesShort, b3], by simp [PyData.showable, b4], by simp [PyData.hasDict, b5], by simp only [PyData.weight]; exact b6⟩
  obtain ⟨m, rfl⟩ := pos_of (show 1 ≤ n by omega)
  simp only [pdT]
  rw [b1 m (by omega)]
  rfl
theorem rk_tup {D w : Nat} {ts : List TV} (h : Rks D w ts) : Rk (D + 1) w (.tup ts) := by
  obtain ⟨ds, b1, b2, b3, b4, b5, b6⟩ := h
  refine ⟨.tuple ds, fun n hn => ?_, by simp only [PyData.depth]; omega, by simp [PyData.leavesShort, b3], by simp [PyData.showable, b4], by simp [PyData.hasDict, b5], by simp only [PyData.weight]; exact b6⟩
  obtain ⟨m, rfl⟩ := pos_of (show 1 ≤ n by omega)
  simp only [pdT]
  rw [b1 m (by omega)]
  rfl
theorem Rk.repr {D w : Nat} {t : TV} (h : Rk D w t) (hD : D ≤ 19) (hw : w ≤ 5000) : ∃ x, trepr t = some x := by
  obtain ⟨d, a1, a2, a3, a4, a5, a6⟩ := h
  have e := a1 pdDepth (by unfold pdDepth; omega)
  have fits : d.shown.length ≤ sizeLine := by
    have e := PyData.shown_le 3000 (by decide) d a3
    rw [sizeLine_eq]
    omega
  unfold trepr
  split
  · exact ⟨_, rfl⟩
  · rw [e]
    simp only
    rw [if_pos ⟨a4, a5, by omega, fits⟩]
    exact ⟨_, rfl⟩

/-! ### lists -/
theorem noLs_map {α : Type} {f : α → TV} : ∀ {l : List α}, (∀ x ∈ l, noL (f x) = true) → noLs (l.map f) = true
  | [], _ => rfl
  | x :: l, h => by
    simp only [List.map_cons, noLs, Bool.and_eq_true]
    exact ⟨h x (List.mem_cons_self ..), noLs_map fun y hy => h y (List.mem_cons_of_mem _ hy)⟩
theorem tbools_map {α : Type} (f : α → Bool) : ∀ l : List α, tbools (l.map fun x => TV.bl (f x)) = some (l.map f)
  | [] => rfl
  | x :: l => by
    simp only [List.map_cons, tbools]
    rw [tbools_map f l]
    rfl
theorem tints_map {α : Type} (f : α → Int) : ∀ l : List α, tints (l.map fun x => TV.int (f x)) = some (l.map f)
  | [] => rfl
  | x :: l => by
    simp only [List.map_cons, tints]
    rw [tints_map f l]
    rfl
theorem tzip_map {α β : Type} (f : α → TV) (g : β → TV) : ∀ (l : List α) (l' : List β), tzip (l.map f) (l'.map g) = (l.zip l').map fun p => .tup [f p.1, g p.2]
  | [], _ => by simp [tzip]
  | _ :: _, [] => by simp [tzip]
  | x :: l, y :: l' => by simp [tzip, tzip_map f g l l']
theorem tenu_map {α : Type} (f : α → TV) : ∀ (l : List α) (n : Nat), tenu n (l.map f) = (l.zipIdx n).map fun p => .tup [.int p.2, f p.1]
  | [], _ => rfl
  | x :: l, n => by
    simp only [List.map_cons, tenu, List.zipIdx_cons]
    rw [tenu_map f l (n + 1)]
theorem tlsts_map {α : Type} (f : α → List TV) : ∀ l : List α, tlsts (l.map fun x => TV.lst (f x)) = some (l.map f)
  | [] => rfl
  | x :: l => by
    simp only [List.map_cons, tlsts]
    rw [tlsts_map f l]
theorem trg_eq (lo : Int) (n : Nat) : trg lo n = (List.range n).map fun i => TV.int (lo + (i : Nat)) := rfl
theorem trg0 (n : Nat) : trg 0 n = (List.range n).map fun i => TV.int (i : Nat) := by simp [trg]
theorem gall_map {α : Type} {f : α → TV} : ∀ l : List α, gall (l.map fun x => (G.d, f x)) = .d
  | [] => rfl
  | x :: l => by
    simp only [List.map_cons, gall_cons]
    rw [gall_map l]
    rfl
end TM

set_option Elab.async false
set_option linter.all false
set_option maxRecDepth 100000
set_option autoImplicit false
set_option maxHeartbeats 4000000
/-! TM, part m: fractions. -/
namespace TM
open PySem MP

def frT (q : Rat) : TV := .tup [.int q.num, .int q.den]
/-- top and under less than 2 ^ k -/
structure Qz (k : Nat) (q : Rat) : Prop where
  num : Sz k q.num
  den : Sz k (q.den : Int)
theorem Qz.mono {k l : Nat} {q : Rat} (h : Qz k q) (hl : k ≤ l) : Qz l q := ⟨h.num.mono hl, h.den.mono hl⟩
theorem frT_int (n : Int) : frT (n : Rat) = .tup [.int n, .int 1] := by simp [frT]
@[simp] theorem noL_fr (q : Rat) : noL (frT q) = true := rfl
@[simp] theorem gr_fr (g : G) (q : Rat) : gr g (frT q) = .d := rfl
@[simp] theorem tx_fr0 (g g' : G) (q : Rat) : tidx (g, frT q) (g', .int 0) = some (.d, .int q.num) := by simp [frT]
@[simp] theorem tx_fr1 (g g' : G) (q : Rat) : tidx (g, frT q) (g', .int 1) = some (.d, .int q.den) := by simp [frT]
@[simp] theorem tisi_fr (q : Rat) (ts : List Ty) : tisi (frT q) ts = ts.any fun c => c == Ty.tuple || (c == Ty.int && Ty.tuple == Ty.bool) := rfl
@[simp] theorem tlen_fr (g : G) (q : Rat) : tbt .len [(g, frT q)] = some (.d, .int 2) := rfl
theorem frT_inj {a b : Rat} (h : frT a = frT b) : a = b := by
  simp [frT] at h
  exact Rat.ext h.1 (Int.ofNat.inj h.2)
theorem pq_fr {b s : Bool} (q : Rat) : pq b s 1 (frT q) = true := by
  simp [frT, pq, lim]
theorem den_pos (q : Rat) : (0 : Int) < q.den := by
  have := q.den_pos
  omega
theorem nf_rat {a b : Int} (hb : b ≠ 0) : (Rat.divInt a b).num = (nf a b).1 ∧ ((Rat.divInt a b).den : Int) = (nf a b).2 := by
  rw [Rat.num_divInt, Rat.den_divInt, if_neg hb, Int.gcd_comm b a]
  have hd := nf_dvd (a := a) (b := b)
  unfold nf
  split
  · rename_i h
    refine ⟨by rw [Int.sign_eq_one_of_pos h, Int.one_mul], ?_⟩
    simp only [Int.natCast_ediv]
    rw [Int.natAbs_of_nonneg (by omega)]
  · rename_i h
    have hs : b.sign = -1 := Int.sign_eq_neg_one_of_neg (by omega)
    refine ⟨by rw [hs, Int.neg_mul, Int.one_mul], ?_⟩
    simp only [Int.natCast_ediv]
    rw [Int.ofNat_natAbs_of_nonpos (by omega)]
theorem fr_nf {a b : Int} (hb : b ≠ 0) : frT (Rat.divInt a b) = .tup [.int (nf a b).1, .int (nf a b).2] := by
  obtain ⟨h1, h2⟩ := nf_rat (a := a) hb
  unfold frT
  rw [h1, h2]
theorem Qz.divInt {k : Nat} {a b : Int} (hb : b ≠ 0) (h1 : Sz k a) (h2 : Sz k b) : Qz k (Rat.divInt a b) := by
  obtain ⟨e1, e2⟩ := nf_rat (a := a) hb
  have f := nf_fk hb h1 h2
  exact ⟨by rw [e1]; exact f.top, by rw [e2]; exact f.und⟩
theorem rat_gcd (q : Rat) : Int.gcd q.num q.den = 1 := q.reduced
/-- a sum's, difference's, product's top and under -/
theorem add_divInt (x y : Rat) : x + y = Rat.divInt (x.num * y.den + y.num * x.den) (x.den * y.den) := by
  rw [Rat.add_def']
  rfl
theorem sub_divInt (x y : Rat) : x - y = Rat.divInt (x.num * y.den - y.num * x.den) (x.den * y.den) := by
  rw [Rat.sub_def']
  rfl
theorem mul_divInt (x y : Rat) : x * y = Rat.divInt (x.num * y.num) (x.den * y.den) := by
  rw [Rat.mul_def']
  rfl
theorem den_ne (x y : Rat) : (x.den : Int) * y.den ≠ 0 := Int.ne_of_gt (Int.mul_pos (den_pos x) (den_pos y))
theorem Qz.add {k l : Nat} {x y : Rat} (h : Qz k x) (g : Qz l y) : Sz (k + l + 1) (x.num * y.den + y.num * x.den) := (h.num.mul g.den).add (g.num.mul h.den) (by omega) (by omega)
theorem Qz.sub {k l : Nat} {x y : Rat} (h : Qz k x) (g : Qz l y) : Sz (k + l + 1) (x.num * y.den - y.num * x.den) := (h.num.mul g.den).sub (g.num.mul h.den) (by omega) (by omega)
theorem Qz.plus {k l : Nat} {x y : Rat} (h : Qz k x) (g : Qz l y) : Qz (k + l + 1) (x + y) := by
  rw [add_divInt]
  exact Qz.divInt (den_ne x y) (h.add g) ((h.den.mul g.den).mono (by omega))
theorem Qz.minus {k l : Nat} {x y : Rat} (h : Qz k x) (g : Qz l y) : Qz (k + l + 1) (x - y) := by
  rw [sub_divInt]
  exact Qz.divInt (den_ne x y) (h.sub g) ((h.den.mul g.den).mono (by omega))
theorem Qz.times {k l : Nat} {x y : Rat} (h : Qz k x) (g : Qz l y) : Qz (k + l) (x * y) := by
  rw [mul_divInt]
  exact Qz.divInt (den_ne x y) (h.num.mul g.num) (h.den.mul g.den)
theorem Qz.ofInt {k : Nat} {i : Int} (h : Sz k i) (hk : 1 ≤ k) : Qz k (i : Rat) := by
  refine ⟨by simpa using h, ?_⟩
  unfold Sz
  simp
  omega
theorem qz_zero : Qz 1 0 := ⟨by unfold Sz; decide, by unfold Sz; decide⟩
theorem Qz.fold {k : Nat} : ∀ {l : List Rat} {j : Nat} {b : Rat}, (∀ x ∈ l, Qz k x) → Qz j b → Qz (j + l.length * (k + 1)) (l.foldl (· + ·) b)
  | [], j, b, _, h => by simpa using h
  | x :: l, j, b, hl, h => by
    have := Qz.fold (l := l) (fun y hy => hl y (List.mem_cons_of_mem _ hy)) (h.plus (hl x (List.mem_cons_self ..)))
    simp only [List.foldl_cons, List.length_cons, Nat.add_mul, Nat.one_mul]
    exact this.mono (by omega)
/-- the same, as the machine's loops do it -/
theorem tgcd_whl {S : Type} {c : TSl → S → TR S GV} {f : TSl → S → TR S (TFl × TSl)} {s : S} (hc : ∀ x y : Nat, c [some (.d, .int x), some (.d, .int y)] s = .ok (.d, .bl (decide (y ≠ 0))) s)
    (hf : ∀ x y : Nat, y ≠ 0 → f [some (.d, .int x), some (.d, .int y)] s = .ok (.nx, [some (.d, .int y), some (.d, .int (x % y : Nat))]) s) : ∀ (k j x y : Nat), y ≤ x → x * y < 2 ^ k → k < j → twhlL c f j [some (.d, .int x), some (.d, .int y)] s = .ok (.nx, [some (.d, .int (Nat.gcd x y)), some (.d, .int 0)]) s
  | 0, j + 1, x, y, h1, h2, _ => by
    have y0 : y = 0 := by
      cases y with
      | zero => rfl
      | succ y =>
        have : 1 ≤ x * (y + 1) := Nat.mul_pos (by omega) (by omega)
        simp at h2
        omega
    subst y0
    rw [twhl_f (hc x 0)]
    simp
  | k + 1, j + 1, x, y, h1, h2, h3 => by
    by_cases y0 : y = 0
    · subst y0
      rw [twhl_f (hc x 0)]
      simp
    · have hlt := Nat.mod_lt x (Nat.pos_of_ne_zero y0)
      rw [twhl_t (g := .d) (by rw [hc x y, decide_eq_true y0]) (hf x y y0), tgcd_whl hc hf k j y (x % y) (by omega) ?_ (by omega)]
      · rw [Nat.gcd_comm x y, Nat.gcd_rec y x, Nat.gcd_comm y]
      · have h4 : 2 * (x % y) ≤ x := by
          have e := Nat.div_add_mod x y
          have : 1 ≤ x / y := Nat.div_pos h1 (Nat.pos_of_ne_zero y0)
          have : y ≤ y * (x / y) := Nat.le_mul_of_pos_right y this
          omega
        have h5 : 2 * (y * (x % y)) ≤ x * y := by
          calc 2 * (y * (x % y)) = y * (2 * (x % y)) := by rw [Nat.mul_left_comm]
            _ ≤ y * x := Nat.mul_le_mul_left y h4
            _ = x * y := Nat.mul_comm y x
        rw [Nat.pow_succ] at h2
        omega
theorem tgcd {S : Type} {c : TSl → S → TR S GV} {f : TSl → S → TR S (TFl × TSl)} {s : S} (hc : ∀ x y : Nat, c [some (.d, .int x), some (.d, .int y)] s = .ok (.d, .bl (decide (y ≠ 0))) s)
    (hf : ∀ x y : Nat, y ≠ 0 → f [some (.d, .int x), some (.d, .int y)] s = .ok (.nx, [some (.d, .int y), some (.d, .int (x % y : Nat))]) s) {a b : Int} {j : Nat} (a0 : 0 ≤ a) (b0 : 0 ≤ b) (ha : Sz 4000 a) (hb : Sz 4000 b) (h : 10000 < j) : twhlL c f j [some (.d, .int a), some (.d, .int b)] s = .ok (.nx, [some (.d, .int (Int.gcd a b)), some (.d, .int 0)]) s := by
  obtain ⟨x, rfl⟩ : ∃ x : Nat, a = x := ⟨a.toNat, by omega⟩
  obtain ⟨y, rfl⟩ : ∃ x : Nat, b = x := ⟨b.toNat, by omega⟩
  have hxy : x * y < 2 ^ 8000 := by
    have h1 : x < 2 ^ 4000 := by simpa [Sz] using ha
    have h2 : y < 2 ^ 4000 := by simpa [Sz] using hb
    have := Nat.mul_lt_mul'' h1 h2
    rw [← Nat.pow_add] at this
    exact this
  show _ = TR.ok (TFl.nx, [some (G.d, TV.int (Nat.gcd x y : Nat)), some (G.d, TV.int 0)]) s
  by_cases h1 : y ≤ x
  · exact tgcd_whl hc hf 8000 j x y h1 hxy (by omega)
  · obtain ⟨j, rfl⟩ : ∃ i, j = i + 1 := ⟨j - 1, by omega⟩
    have y0 : y ≠ 0 := by omega
    rw [twhl_t (g := .d) (by rw [hc x y, decide_eq_true y0]) (hf x y y0), Nat.mod_eq_of_lt (by omega), tgcd_whl hc hf 8000 j y x (by omega) (by rw [Nat.mul_comm]; exact hxy) (by omega), Nat.gcd_comm]

/-! ### points, places, stores -/
def ptT (p : List Int) : TV := .lst (p.map .int)
def plT (x : List Rat) : TV := .lst (x.map frT)
def psT (ps : List (List Int)) : TV := .lst (ps.map ptT)
def stT (d : Int) (ps : List (List Int)) : TV := .tup [.str "store", .int d, psT ps]
def atQ (p : List Int) : List Rat := p.map fun (i : Int) => (i : Rat)
def apartQ (x y : List Rat) : List Rat := (x.zip y).map fun p => p.1 - p.2
def innerQ (x y : List Rat) : Rat := ((x.zip y).map fun p => p.1 * p.2).foldl (· + ·) 0
def sqQ (x y : List Rat) : Rat := innerQ (apartQ x y) (apartQ x y)
def Qzs (k : Nat) (x : List Rat) : Prop := ∀ q ∈ x, Qz k q
theorem pq_pt {b s : Bool} {p : List Int} (h : p.length < lim) : pq b s 1 (ptT p) = true := pq_lst (n := 0) (fun _ _ => rfl) h
theorem pq_pl {b s : Bool} {x : List Rat} (h : x.length < lim) : pq b s 2 (plT x) = true := pq_lst (n := 1) (fun q _ => pq_fr q) h
theorem pq_ps {b s : Bool} {ps : List (List Int)} (h : ps.length < lim) (h2 : ∀ p ∈ ps, p.length < lim) : pq b s 2 (psT ps) = true := pq_lst (n := 1) (fun p hp => pq_pt (h2 p hp)) h
theorem Qzs.apart {k l : Nat} {x y : List Rat} (h : Qzs k x) (g : Qzs l y) : Qzs (k + l + 1) (apartQ x y) := by
  intro q hq
  obtain ⟨p, hp, rfl⟩ := List.mem_map.mp hq
  exact (h _ (List.of_mem_zip hp).1).minus (g _ (List.of_mem_zip hp).2)
theorem Qzs.prods {k l : Nat} {x y : List Rat} (h : Qzs k x) (g : Qzs l y) : Qzs (k + l) ((x.zip y).map fun p => p.1 * p.2) := by
  intro q hq
  obtain ⟨p, hp, rfl⟩ := List.mem_map.mp hq
  exact (h _ (List.of_mem_zip hp).1).times (g _ (List.of_mem_zip hp).2)
theorem Qzs.fold' {k : Nat} {x : List Rat} (h : Qzs k x) (hx : x.length ≤ 3) : Qz (3 * k + 4) (x.foldl (· + ·) 0) := by
  refine (Qz.fold h qz_zero).mono ?_
  have : x.length * (k + 1) ≤ 3 * (k + 1) := Nat.mul_le_mul_right _ hx
  omega
theorem Qzs.inner {k l : Nat} {x y : List Rat} (h : Qzs k x) (g : Qzs l y) (hx : x.length ≤ 3) : Qz (3 * (k + l) + 4) (innerQ x y) :=
  Qzs.fold' (Qzs.prods h g) (by simp; omega)
theorem apart_len {x y : List Rat} : (apartQ x y).length = min x.length y.length := by simp [apartQ]
theorem Qzs.sq {k l : Nat} {x y : List Rat} (h : Qzs k x) (g : Qzs l y) (hx : x.length ≤ 3) : Qz (6 * (k + l) + 10) (sqQ x y) :=
  ((h.apart g).inner (h.apart g) (by rw [apart_len]; omega)).mono (by omega)
end TM
namespace TM
open PySem MP
section
variable {S : Type} {C : TCf S} {t : Tg} {c : Option E} {e : E} {m : TSl} {s : S} {α : Type} {enc : α → TV} {l : List α} {g : G}
theorem kcom_map {h : α → TV} (hF : ∀ x ∈ l, tturn t m (tcO C c) (tev C e) (enc x) s = .ok (some (.d, h x)) s) : TM.kcom C t c e m (g, l.map enc) s = .ok (.d, .lst (l.map h)) s := by
  unfold TM.kcom
  simp only
  rw [tcomL_map (h := fun x => (G.d, h x)) hF, t_bnd]
  simp [kcm2, gall_map, Function.comp_def]
theorem kcom_filter {p : α → Bool} {h : α → TV} (hF : ∀ x ∈ l, tturn t m (tcO C c) (tev C e) (enc x) s = .ok (if p x then some (.d, h x) else none) s) : TM.kcom C t c e m (g, l.map enc) s = .ok (.d, .lst ((l.filter p).map h)) s := by
  unfold TM.kcom
  simp only
  rw [tcomL_filter (h := fun x => (G.d, h x)) hF, t_bnd]
  simp [kcm2, gall_map, Function.comp_def]
theorem tlim_map {f : α → TV} (h : l.length ≤ 100000) : tlim (l.map f) s g = .ok (g, l.map f) s := tlim_le s (by rw [List.length_map]; exact Nat.le_trans h (by decide))
end
theorem all_true {α : Type} (l : List α) : (l.map fun _ => true).all id = true := by simp
theorem tbt_allm {α : Type} {g : G} {l : List α} {f : α → Bool} : tbt .all [(g, .lst (l.map fun x => .bl (f x)))] = some (.d, .bl (l.all f)) := by
  rw [tbt_all (tbools_map f l)]
  simp [List.all_map, Function.comp_def]
theorem tbt_allt {α : Type} {g : G} {l : List α} : tbt .all [(g, .lst (l.map fun _ => .bl true))] = some (.d, .bl true) := by
  rw [tbt_allm (f := fun _ => true)]
  simp
end TM
namespace TM
open PySem MP
/-- a store's d and points -/
structure StOK (d : Nat) (ps : List (List Int)) : Prop where
  d1 : 1 ≤ d
  d3 : d ≤ 3
  ne : ps ≠ []
  few : ps.length ≤ 12
  len : ∀ p ∈ ps, p.length = d
  sz : ∀ p ∈ ps, ∀ i ∈ p, Sz 11 i
  nd : ps.Nodup
theorem ddup_nodup : ∀ {l : List (List Int)}, l.Nodup → ddup l = l
  | [], _ => rfl
  | x :: l, h => by
    obtain ⟨h1, h2⟩ := List.nodup_cons.mp h
    unfold ddup
    rw [ddup_nodup h2, if_neg h1]
theorem dcount_nodup {l : List (List Int)} (h : l.Nodup) : dcount l = l.length := by
  unfold dcount
  rw [ddup_nodup h]
theorem tints_id : ∀ p : List Int, tints (p.map .int) = some p
  | [] => rfl
  | i :: p => by
    simp only [List.map_cons, tints]
    rw [tints_id p]
    rfl
theorem ttups_id : ∀ ps : List (List Int), ttups (ps.map fun p => .tup (p.map .int)) = some ps
  | [] => rfl
  | p :: ps => by
    simp only [List.map_cons, ttups]
    rw [tints_id p, ttups_id ps]
theorem noL_ints (p : List Int) : noL (.tup (p.map .int)) = true := noLs_map fun _ _ => rfl
theorem StOK.lens {d : Nat} {ps : List (List Int)} (h : StOK d ps) : ∀ p ∈ ps, p.length < lim := fun p hp => by
  rw [h.len p hp]
  have := h.d3
  exact Nat.lt_of_le_of_lt this (by decide)
theorem StOK.pqs {b s : Bool} {d : Nat} {ps : List (List Int)} (h : StOK d ps) : pq b s 2 (psT ps) = true := pq_ps (Nat.lt_of_le_of_lt h.few (by decide)) h.lens
end TM

set_option Elab.async false
set_option linter.all false
set_option maxRecDepth 100000
set_option autoImplicit false
set_option maxHeartbeats 4000000
/-! TM, part n: numbers in blocks of equal fractions, the least ones first. -/
namespace TM
open PySem MP
def bks (N : Nat) (q : Nat → Rat) (vs : List Rat) : List (List Nat) := vs.map fun v => (List.range N).filter fun i => decide (q i = v)
structure IsOrd (N : Nat) (q : Nat → Rat) (vs : List Rat) : Prop where
  inc : vs.Pairwise (· < ·)
  mem : ∀ v, v ∈ vs ↔ ∃ i, i < N ∧ q i = v
theorem inc_unique : ∀ {vs ws : List Rat}, vs.Pairwise (· < ·) → ws.Pairwise (· < ·) → (∀ v, v ∈ vs ↔ v ∈ ws) → vs = ws
  | [], ws, _, _, h => by
    cases ws with
    | nil => rfl
    | cons w ws => exact absurd ((h w).mpr (List.mem_cons_self ..)) (by simp)
  | v :: vs, [], _, _, h => absurd ((h v).mp (List.mem_cons_self ..)) (by simp)
  | v :: vs, w :: ws, h1, h2, h => by
    obtain ⟨a1, a2⟩ := List.pairwise_cons.mp h1
    obtain ⟨b1, b2⟩ := List.pairwise_cons.mp h2
    have e : v = w := by
      have x1 := (h v).mp (List.mem_cons_self ..)
      have x2 := (h w).mpr (List.mem_cons_self ..)
      rcases List.mem_cons.mp x1 with e | x1
      · exact e
      · rcases List.mem_cons.mp x2 with e | x2
        · exact e.symm
        · have := b1 v x1
          have := a1 w x2
          grind
    subst e
    congr 1
    refine inc_unique a2 b2 fun u => ⟨fun hu => ?_, fun hu => ?_⟩
    · rcases List.mem_cons.mp ((h u).mp (List.mem_cons_of_mem _ hu)) with e | k
      · subst e
        have := a1 u hu
        grind
      · exact k
    · rcases List.mem_cons.mp ((h u).mpr (List.mem_cons_of_mem _ hu)) with e | k
      · subst e
        have := b1 u hu
        grind
      · exact k
theorem IsOrd.unique {N : Nat} {q : Nat → Rat} {vs ws : List Rat} (h : IsOrd N q vs) (k : IsOrd N q ws) : vs = ws :=
  inc_unique h.inc k.inc fun v => (h.mem v).trans (k.mem v).symm
theorem bks_get {N : Nat} {q : Nat → Rat} {vs : List Rat} {j : Nat} (h : j < vs.length) : (bks N q vs)[j]? = some ((List.range N).filter fun i => decide (q i = vs[j])) := by
  simp [bks, h]
theorem IsOrd.ne {N : Nat} {q : Nat → Rat} {vs : List Rat} (h : IsOrd N q vs) {v : Rat} (hv : v ∈ vs) : (List.range N).filter (fun i => decide (q i = v)) ≠ [] := by
  obtain ⟨i, h1, h2⟩ := (h.mem v).mp hv
  intro e
  have : i ∈ (List.range N).filter (fun i => decide (q i = v)) := List.mem_filter.mpr ⟨List.mem_range.mpr h1, decide_eq_true h2⟩
  rw [e] at this
  simp at this
theorem mem_bk {N : Nat} {q : Nat → Rat} {v : Rat} {i : Nat} : i ∈ (List.range N).filter (fun i => decide (q i = v)) ↔ i < N ∧ q i = v := by
  rw [List.mem_filter, List.mem_range, decide_eq_true_eq]
theorem bks_mem {N : Nat} {q : Nat → Rat} {vs : List Rat} {b : List Nat} (h : b ∈ bks N q vs) : ∀ i ∈ b, i < N := by
  obtain ⟨v, _, rfl⟩ := List.mem_map.mp h
  exact fun i hi => (mem_bk.mp hi).1
/-- all numbers, in blocks, are all numbers -/
theorem IsOrd.perm {N : Nat} {q : Nat → Rat} {vs : List Rat} (h : IsOrd N q vs) : (bks N q vs).flatten.Perm (List.range N) := by
  refine (List.perm_ext_iff_of_nodup ?_ List.nodup_range).mpr fun i => ?_
  · refine List.pairwise_flatten.mpr ⟨fun b hb => ?_, ?_⟩
    · obtain ⟨v, _, rfl⟩ := List.mem_map.mp hb
      exact List.nodup_range.filter _
    · unfold bks
      rw [List.pairwise_map]
      refine h.inc.imp fun {a b} hab => fun i hi j hj e => ?_
      subst e
      have := (mem_bk.mp hi).2
      have := (mem_bk.mp hj).2
      grind
  · rw [List.mem_flatten, List.mem_range]
    constructor
    · rintro ⟨b, hb, hi⟩
      exact bks_mem hb i hi
    · intro hi
      exact ⟨_, List.mem_map.mpr ⟨q i, (h.mem _).mpr ⟨i, hi, rfl⟩, rfl⟩, mem_bk.mpr ⟨hi, rfl⟩⟩
theorem IsOrd.flat_len {N : Nat} {q : Nat → Rat} {vs : List Rat} (h : IsOrd N q vs) : (bks N q vs).flatten.length = N := by
  rw [h.perm.length_eq, List.length_range]

theorem len_flatten {α : Type} : ∀ {L : List (List α)}, (∀ b ∈ L, b ≠ []) → L.length ≤ L.flatten.length
  | [], _ => Nat.le_refl _
  | b :: L, h => by
    have h1 := h b (List.mem_cons_self ..)
    have h2 := len_flatten (L := L) fun c hc => h c (List.mem_cons_of_mem _ hc)
    have : 0 < b.length := List.length_pos_iff.mpr h1
    simp only [List.length_cons, List.flatten_cons, List.length_append]
    omega
theorem IsOrd.bne {N : Nat} {q : Nat → Rat} {vs : List Rat} (h : IsOrd N q vs) : ∀ b ∈ bks N q vs, b ≠ [] := by
  intro b hb
  obtain ⟨v, hv, rfl⟩ := List.mem_map.mp hb
  exact h.ne hv
theorem IsOrd.len {N : Nat} {q : Nat → Rat} {vs : List Rat} (h : IsOrd N q vs) : vs.length ≤ N := by
  have := len_flatten h.bne
  rw [h.flat_len] at this
  simpa [bks] using this

/-! ### putting a number in -/
def posn : List Rat → Rat → Nat
  | [], _ => 0
  | w :: vs, v => if w < v then posn vs v + 1 else 0
theorem posn_le : ∀ (vs : List Rat) (v : Rat), posn vs v ≤ vs.length
  | [], _ => Nat.le_refl _
  | w :: vs, v => by
    unfold posn
    have := posn_le vs v
    split <;> simp <;> omega
theorem posn_lt : ∀ {vs : List Rat} {v : Rat} {i : Nat} (h : i < posn vs v) (h2 : i < vs.length), vs[i] < v
  | [], v, i, h, h2 => by simp at h2
  | w :: vs, v, i, h, h2 => by
    unfold posn at h
    split at h
    · cases i with
      | zero => assumption
      | succ i => exact posn_lt (i := i) (by omega) (by simpa using h2)
    · omega
theorem posn_ge : ∀ {vs : List Rat} {v : Rat} (h : posn vs v < vs.length), ¬ vs[posn vs v] < v
  | [], v, h => by simp at h
  | w :: vs, v, h => by
    unfold posn at h
    by_cases hw : w < v
    · rw [if_pos hw] at h
      have := posn_ge (vs := vs) (v := v) (by simpa using h)
      simp only [posn, if_pos hw, List.getElem_cons_succ]
      exact this
    · simp only [posn, if_neg hw, List.getElem_cons_zero]
      exact hw
theorem fil_succ (N : Nat) (q : Nat → Rat) (v : Rat) : ((List.range (N + 1)).filter fun i => decide (q i = v)) = ((List.range N).filter fun i => decide (q i = v)) ++ (if q N = v then [N] else []) := by
  rw [List.range_succ, List.filter_append]
  congr 1
  by_cases h : q N = v <;> simp [h]
/-- one number more, its fraction known -/
theorem ord_old {N : Nat} {q : Nat → Rat} {vs : List Rat} (h : IsOrd N q vs) {j : Nat} (hj : j < vs.length) (he : vs[j] = q N) : IsOrd (N + 1) q vs ∧ bks (N + 1) q vs = (bks N q vs).set j (((List.range N).filter fun i => decide (q i = vs[j])) ++ [N]) := by
  refine ⟨⟨h.inc, fun v => ?_⟩, ?_⟩
  · rw [h.mem]
    constructor
    · rintro ⟨i, h1, h2⟩
      exact ⟨i, by omega, h2⟩
    · rintro ⟨i, h1, h2⟩
      by_cases hi : i = N
      · subst hi
        rw [← h2, ← he]
        exact (h.mem _).mp (List.getElem_mem hj)
      · exact ⟨i, by omega, h2⟩
  · refine List.ext_getElem (by simp [bks]) fun k h1 h2 => ?_
    have hk : k < vs.length := by simpa [bks] using h1
    rw [List.getElem_set]
    simp only [bks, List.getElem_map]
    refine (fil_succ N q vs[k]).trans ?_
    by_cases hkj : j = k
    · subst hkj
      simp [he]
    · rw [if_neg hkj]
      have hne : ¬ q N = vs[k] := by
        intro z
        have e2 : vs[j] = vs[k] := by rw [he, z]
        rcases Nat.lt_or_gt_of_ne hkj with hl | hl
        · have := List.pairwise_iff_getElem.mp h.inc j k hj hk hl
          grind
        · have := List.pairwise_iff_getElem.mp h.inc k j hk hj hl
          grind
      simp [hne]
theorem ord_new {N : Nat} {q : Nat → Rat} {vs : List Rat} (h : IsOrd N q vs) (hn : ∀ hj : posn vs (q N) < vs.length, vs[posn vs (q N)] ≠ q N) :
    IsOrd (N + 1) q (vs.take (posn vs (q N)) ++ [q N] ++ vs.drop (posn vs (q N))) ∧ bks (N + 1) q (vs.take (posn vs (q N)) ++ [q N] ++ vs.drop (posn vs (q N))) = (bks N q vs).take (posn vs (q N)) ++ [[N]] ++ (bks N q vs).drop (posn vs (q N)) := by
  have lo : ∀ a ∈ vs.take (posn vs (q N)), a < q N := by
    intro a ha
    obtain ⟨i, hi, rfl⟩ := List.mem_iff_getElem.mp ha
    rw [List.getElem_take]
    exact posn_lt (by simp at hi; omega) _
  have hi : ∀ a ∈ vs.drop (posn vs (q N)), q N < a := by
    intro a ha
    obtain ⟨i, hi, rfl⟩ := List.mem_iff_getElem.mp ha
    rw [List.getElem_drop]
    have hl : posn vs (q N) < vs.length := by simp at hi; omega
    have h1 := posn_ge hl
    have h2 := hn hl
    by_cases h0 : i = 0
    · subst h0
      simp only [Nat.add_zero]
      grind
    · have := List.pairwise_iff_getElem.mp h.inc (posn vs (q N)) (posn vs (q N) + i) hl (by simp at hi; omega) (by omega)
      grind
  have nin : q N ∉ vs := by
    intro hq
    rw [← List.take_append_drop (posn vs (q N)) vs] at hq
    rcases List.mem_append.mp hq with hq | hq
    · have := lo _ hq
      grind
    · have := hi _ hq
      grind
  have fil : ∀ v ∈ vs, ((List.range (N + 1)).filter fun i => decide (q i = v)) = (List.range N).filter fun i => decide (q i = v) := by
    intro v hv
    rw [List.range_succ, List.filter_append]
    have : ¬ q N = v := fun z => nin (z ▸ hv)
    simp [this]
  refine ⟨⟨?_, fun v => ?_⟩, ?_⟩
  · rw [List.append_assoc, List.pairwise_append]
    have p := h.inc
    rw [← List.take_append_drop (posn vs (q N)) vs, List.pairwise_append] at p
    refine ⟨p.1, List.pairwise_cons.mpr ⟨fun a ha => hi a ha, p.2.1⟩, fun a ha b hb => ?_⟩
    rcases List.mem_cons.mp hb with rfl | hb
    · exact lo a ha
    · exact p.2.2 a ha b hb
  · have e : v ∈ vs.take (posn vs (q N)) ++ [q N] ++ vs.drop (posn vs (q N)) ↔ v = q N ∨ v ∈ vs := by
      conv => rhs; rw [← List.take_append_drop (posn vs (q N)) vs]
      simp only [List.mem_append, List.mem_singleton]
      constructor
      · rintro ((h | h) | h)
        · exact .inr (.inl h)
        · exact .inl h
        · exact .inr (.inr h)
      · rintro (h | h | h)
        · exact .inl (.inr h)
        · exact .inl (.inl h)
        · exact .inr h
    rw [e, h.mem]
    constructor
    · rintro (rfl | ⟨i, h1, h2⟩)
      · exact ⟨N, by omega, rfl⟩
      · exact ⟨i, by omega, h2⟩
    · rintro ⟨i, h1, h2⟩
      by_cases hi : i = N
      · subst hi
        exact .inl h2.symm
      · exact .inr ⟨i, by omega, h2⟩
  · have single : ((List.range (N + 1)).filter fun i => decide (q i = q N)) = [N] := by
      rw [List.range_succ, List.filter_append]
      have : (List.range N).filter (fun i => decide (q i = q N)) = [] := by
        rw [List.filter_eq_nil_iff]
        intro i hi
        simp only [decide_eq_true_eq]
        intro z
        exact nin ((h.mem _).mpr ⟨i, List.mem_range.mp hi, z⟩)
      rw [this]
      simp
    unfold bks
    rw [List.map_append, List.map_append, List.map_take, List.map_drop]
    congr 1
    · congr 1
      · congr 1
        exact List.map_congr_left fil
      · simp [single]
    · congr 1
      exact List.map_congr_left fil
end TM
namespace TM
open PySem MP
def nbT (b : List Nat) : TV := .lst (b.map fun (i : Nat) => .int (i : Int))
def bkT (bs : List (List Nat)) : TV := .lst (bs.map nbT)
def qf (qs : List Rat) (i : Nat) : Rat := qs.getD i 0
theorem qf_get {qs : List Rat} {i : Nat} (h : i < qs.length) : qf qs i = qs[i] := by simp [qf, h]
@[simp] theorem gr_nb (g : G) (b : List Nat) : gr g (nbT b) = g := rfl
@[simp] theorem gr_bk (g : G) (b : List (List Nat)) : gr g (bkT b) = g := rfl
theorem tforL_idx {S : Type} {F : TV → TSl → S → TR S (TFl × TSl)} {α : Type} {enc : α → TV} {l : List α} (inv : Nat → TSl → S → Prop) (step : ∀ (i : Nat) (h : i < l.length) (m : TSl) (s : S), inv i m s → ∃ m' s', F (enc l[i]) m s = .ok (.nx, m') s' ∧ inv (i + 1) m' s') : ∀ {m : TSl} {s : S}, inv 0 m s → ∃ m' s', tforL F (l.map enc) m s = .ok (.nx, m') s' ∧ inv l.length m' s' := by
  have go : ∀ (j i : Nat) (m : TSl) (s : S), i + j = l.length → inv i m s → ∃ m' s', tforL F ((l.drop i).map enc) m s = .ok (.nx, m') s' ∧ inv l.length m' s' := by
    intro j
    induction j with
    | zero =>
      intro i m s hij h
      have : i = l.length := by omega
      subst this
      rw [List.drop_length]
      exact ⟨m, s, rfl, h⟩
    | succ j ih =>
      intro i m s hij h
      have hi : i < l.length := by omega
      obtain ⟨m1, s1, e1, h1⟩ := step i hi m s h
      obtain ⟨m2, s2, e2, h2⟩ := ih (i + 1) m1 s1 (by omega) h1
      refine ⟨m2, s2, ?_, h2⟩
      rw [List.drop_eq_getElem_cons hi]
      simp only [List.map_cons, tforL]
      rw [e1, t_bnd]
      exact e2
  intro m s h
  have := go l.length 0 m s (by omega) h
  rwa [List.drop_zero] at this
theorem bk_head {N : Nat} {q : Nat → Rat} {vs : List Rat} (h : IsOrd N q vs) {j : Nat} (hj : j < vs.length) : ∃ i r, (List.range N).filter (fun i => decide (q i = vs[j])) = i :: r ∧ i < N ∧ q i = vs[j] := by
  cases e : (List.range N).filter (fun i => decide (q i = vs[j])) with
  | nil => exact (h.ne (List.getElem_mem hj) e).elim
  | cons i r =>
    have : i ∈ (List.range N).filter (fun i => decide (q i = vs[j])) := by
      rw [e]
      exact List.mem_cons_self ..
    exact ⟨i, r, rfl, mem_bk.mp this⟩
theorem bks_len (N : Nat) (q : Nat → Rat) (vs : List Rat) : (bks N q vs).length = vs.length := by simp [bks]
theorem bks_at {N : Nat} {q : Nat → Rat} {vs : List Rat} {j : Nat} (h : j < (bks N q vs).length) (h2 : j < vs.length) : (bks N q vs)[j] = (List.range N).filter fun i => decide (q i = vs[j]) := by simp [bks]
end TM
namespace TM
open PySem MP
theorem tcut_take {α : Type} (xs : List α) (m : Nat) : tcut xs none (some (m : Int)) = xs.take m := by
  unfold tcut
  rw [HT.sIx_none, HT.sIx_nat, List.drop_zero, Nat.sub_zero]
  by_cases h : m ≤ xs.length
  · rw [Nat.min_eq_left h]
  · rw [Nat.min_eq_right (by omega), List.take_of_length_le (Nat.le_refl _), List.take_of_length_le (by omega)]
theorem tsum_bk {B : List (List Nat)} {g : G} (hB : B ≠ []) (hl : B.flatten.length ≤ 1000) : tbt .sum [(.d, .lst (B.map nbT)), (.d, .lst [])] = some (.d, nbT B.flatten) := by
  have e : tlsts (B.map nbT) = some (B.map fun b => b.map fun (i : Nat) => TV.int (i : Int)) := tlsts_map (fun b : List Nat => b.map fun (i : Nat) => TV.int (i : Int)) B
  have f : (B.map fun b => b.map fun (i : Nat) => TV.int (i : Int)).flatten = B.flatten.map fun (i : Nat) => TV.int (i : Int) := by rw [List.map_flatten]
  cases B with
  | nil => exact (hB rfl).elim
  | cons b B =>
    simp only [tbt, tsumL]
    rw [e]
    simp only
    rw [f, if_pos (by rw [List.length_map]; exact Nat.le_trans hl (by decide))]
    simp [nbT]
theorem pq_nb {b s : Bool} {l : List Nat} (h : l.length < 1000) : pq b s 1 (nbT l) = true := pq_lst (n := 0) (fun _ _ => rfl) (Nat.lt_trans h (by decide))
theorem pq_bk {b s : Bool} {B : List (List Nat)} (h : B.length < 1000) (h2 : ∀ l ∈ B, l.length < 1000) : pq b s 2 (bkT B) = true := pq_lst (n := 1) (fun l hl => pq_nb (h2 l hl)) (Nat.lt_trans h (by decide))
theorem tin_nb {l : List Nat} {i : Nat} (h : l.length < 1000) : tin (.int i) (nbT l) = some (decide (i ∈ l)) := by
  have h2 : pq false false 20 (nbT l) = true := pq_le (pq_nb h) (by omega)
  by_cases hi : i ∈ l
  · rw [decide_eq_true hi]
    exact tin_t (s := false) rfl h2 (List.mem_map.mpr ⟨i, hi, rfl⟩)
  · rw [decide_eq_false hi]
    refine tin_f (s := false) rfl h2 fun z => ?_
    obtain ⟨j, hj, e⟩ := List.mem_map.mp z
    have : j = i := by
      simp at e
      omega
    exact hi (this ▸ hj)
theorem bk_len {N : Nat} {q : Nat → Rat} {vs : List Rat} {b : List Nat} (h : b ∈ bks N q vs) : b.length ≤ N := by
  obtain ⟨v, _, rfl⟩ := List.mem_map.mp h
  have := List.length_filter_le (fun i => decide (q i = v)) (List.range N)
  rwa [List.length_range] at this
end TM
namespace TM
theorem at_head {α : Type} {xs : List α} (h : xs ≠ []) : L2.atI xs 0 = some (xs.head h) := by
  cases xs with
  | nil => exact (h rfl).elim
  | cons x xs => simp
end TM
namespace TM
open PySem MP
theorem teq_fr (a b : Rat) : teq (frT a) (frT b) = some (decide (a = b)) := by
  by_cases h : a = b
  · subst h
    rw [decide_eq_true rfl]
    exact teq_t (s := false) (pq_le (pq_fr _) (by omega))
  · rw [decide_eq_false h]
    exact teq_f (s := false) (pq_le (pq_fr _) (by omega)) (pq_le (pq_fr _) (by omega)) fun z => h (frT_inj z)
/-! the least one first -/
def leastOf (q : Nat → Rat) (v : Rat) (i : Nat) : Rat := if q i < v then q i else v
theorem least_le (q : Nat → Rat) : ∀ (l : List Nat) (v : Rat), l.foldl (leastOf q) v ≤ v ∧ (∀ i ∈ l, l.foldl (leastOf q) v ≤ q i) ∧ (l.foldl (leastOf q) v = v ∨ ∃ i ∈ l, l.foldl (leastOf q) v = q i)
  | [], v => ⟨Rat.le_refl, by simp, .inl rfl⟩
  | i :: l, v => by
    obtain ⟨h1, h2, h3⟩ := least_le q l (leastOf q v i)
    simp only [List.foldl_cons]
    have e : leastOf q v i ≤ v ∧ leastOf q v i ≤ q i ∧ (leastOf q v i = v ∨ leastOf q v i = q i) := by
      unfold leastOf
      split <;> grind
    refine ⟨by grind, fun j hj => ?_, ?_⟩
    · rcases List.mem_cons.mp hj with rfl | hj
      · grind
      · exact h2 j hj
    · rcases h3 with h3 | ⟨j, hj, h3⟩
      · rcases e.2.2 with e2 | e2
        · exact .inl (h3.trans e2)
        · exact .inr ⟨i, List.mem_cons_self .., h3.trans e2⟩
      · exact .inr ⟨j, List.mem_cons_of_mem _ hj, h3⟩
structure Sel (N : Nat) (q : Nat → Rat) (vs : List Rat) (left : List Nat) : Prop where
  inc : vs.Pairwise (· < ·)
  eq : left = (List.range N).filter fun i => decide (q i ∉ vs)
  mem : ∀ v ∈ vs, ∃ i, i < N ∧ q i = v
  sep : ∀ v ∈ vs, ∀ i ∈ left, v < q i
  cnt : vs.length + left.length ≤ N
theorem Sel.init (N : Nat) (q : Nat → Rat) : Sel N q [] (List.range N) := ⟨List.Pairwise.nil, (List.filter_eq_self.mpr (by simp)).symm, by simp, by simp, by simp⟩
theorem Sel.done {N : Nat} {q : Nat → Rat} {vs : List Rat} (h : Sel N q vs []) : IsOrd N q vs := by
  refine ⟨h.inc, fun v => ⟨h.mem v, ?_⟩⟩
  rintro ⟨i, hi, rfl⟩
  have := h.eq
  have h2 : i ∉ (List.range N).filter fun i => decide (q i ∉ vs) := by rw [← this]; simp
  rw [List.mem_filter] at h2
  simp only [List.mem_range, hi, true_and, decide_eq_true_eq, Decidable.not_not] at h2
  exact h2
theorem Sel.next {N : Nat} {q : Nat → Rat} {vs : List Rat} {i : Nat} {l : List Nat} (h : Sel N q vs (i :: l)) {v : Rat} (hv : v = (i :: l).foldl (leastOf q) (q i)) :
    Sel N q (vs ++ [v]) ((i :: l).filter fun j => !decide (q j = v)) ∧ bks N q (vs ++ [v]) = bks N q vs ++ [(i :: l).filter fun j => decide (q j = v)] ∧ ((i :: l).filter fun j => !decide (q j = v)).length < (i :: l).length := by
  obtain ⟨h1, h2, h3⟩ := least_le q (i :: l) (q i)
  rw [← hv] at h1 h2 h3
  have hin : ∃ j ∈ i :: l, v = q j := by
    rcases h3 with h3 | h3
    · exact ⟨i, List.mem_cons_self .., h3⟩
    · exact h3
  obtain ⟨j, hj, hjv⟩ := hin
  have hvs : v ∉ vs := by
    intro hm
    have := h.sep v hm j hj
    grind
  have hjN : j < N := by
    have := h.eq ▸ hj
    exact List.mem_range.mp (List.mem_filter.mp this).1
  have lt : ((i :: l).filter fun j => !decide (q j = v)).length < (i :: l).length := List.length_filter_lt_length_iff_exists.mpr ⟨j, hj, by simp [hjv]⟩
  refine ⟨⟨?_, ?_, ?_, ?_, by have := h.cnt; simp only [List.length_append, List.length_singleton]; omega⟩, ?_, lt⟩
  · rw [List.pairwise_append]
    refine ⟨h.inc, List.pairwise_singleton .., fun a ha b hb => ?_⟩
    rw [List.mem_singleton.mp hb, hjv]
    exact h.sep a ha j hj
  · rw [h.eq, List.filter_filter]
    refine List.filter_congr fun k _ => ?_
    simp only [List.mem_append, List.mem_singleton, not_or]
    by_cases a : q k ∈ vs <;> by_cases b : q k = v <;> simp [a, b]
  · intro w hw
    rcases List.mem_append.mp hw with hw | hw
    · exact h.mem w hw
    · rw [List.mem_singleton.mp hw]
      exact ⟨j, hjN, hjv.symm⟩
  · intro w hw k hk
    obtain ⟨k1, k2⟩ := List.mem_filter.mp hk
    rcases List.mem_append.mp hw with hw | hw
    · exact h.sep w hw k k1
    · rw [List.mem_singleton.mp hw]
      have := h2 k k1
      have : ¬ q k = v := by simpa using k2
      grind
  · unfold bks
    rw [List.map_append]
    congr 1
    simp only [List.map_cons, List.map_nil]
    congr 1
    rw [h.eq, List.filter_filter]
    refine List.filter_congr fun k _ => ?_
    by_cases b : q k = v
    · simp [b, hvs]
    · simp [b]
end TM
namespace TM
open PySem MP
/-- a comprehension that draws -/
theorem tcom_draw {F : TV → PS → TR PS (Option GV)} {α β : Type} {enc : α → TV} {dec : β → TV} {P : β → Prop} {k : Nat} (hF : ∀ (x : α) (c : Nat) (σ : PS), c < 900000 → Pu c σ → ∃ y σ', F (enc x) σ = .ok (some (.d, dec y)) σ' ∧ P y ∧ Pu (c + k) σ') : ∀ (l : List α) (c : Nat) (σ : PS), Pu c σ → c + k * l.length < 900000 → ∃ (ys : List β) (σ' : PS), tcomL F (l.map enc) σ = .ok (ys.map fun y => (G.d, dec y)) σ' ∧ ys.length = l.length ∧ (∀ y ∈ ys, P y) ∧ Pu (c + k * l.length) σ'
  | [], c, σ, h, _ => ⟨[], σ, rfl, rfl, by simp, by simpa using h⟩
  | x :: l, c, σ, h, hc => by
    simp only [List.length_cons, Nat.mul_add, Nat.mul_one] at hc
    obtain ⟨y, σ1, e1, p1, u1⟩ := hF x c σ (by omega) h
    obtain ⟨ys, σ2, e2, l2, p2, u2⟩ := tcom_draw hF l (c + k) σ1 u1 (by omega)
    refine ⟨y :: ys, σ2, ?_, by simp [l2], ?_, ?_⟩
    · simp only [List.map_cons, tcomL]
      rw [e1, t_bnd, e2]
      rfl
    · intro z hz
      rcases List.mem_cons.mp hz with rfl | hz
      · exact p1
      · exact p2 z hz
    · simp only [List.length_cons, Nat.mul_add, Nat.mul_one]
      exact u2.mono (by omega)
theorem kcom_draw {C : TCf PS} {t : Tg} {e : E} {m : TSl} {g : G} {α β : Type} {enc : α → TV} {dec : β → TV} {P : β → Prop} {k : Nat} {l : List α} {c : Nat} {σ : PS} (hF : ∀ (x : α) (c : Nat) (σ : PS), c < 900000 → Pu c σ → ∃ y σ', tturn t m (tcO C none) (tev C e) (enc x) σ = .ok (some (.d, dec y)) σ' ∧ P y ∧ Pu (c + k) σ') (h : Pu c σ) (hc : c + k * l.length < 900000) :
    ∃ (ys : List β) (σ' : PS), TM.kcom C t none e m (g, l.map enc) σ = .ok (.d, .lst (ys.map dec)) σ' ∧ ys.length = l.length ∧ (∀ y ∈ ys, P y) ∧ Pu (c + k * l.length) σ' := by
  obtain ⟨ys, σ', e1, e2, e3, e4⟩ := tcom_draw (F := tturn t m (tcO C none) (tev C e)) hF l c σ h hc
  refine ⟨ys, σ', ?_, e2, e3, e4⟩
  unfold TM.kcom
  simp only
  rw [e1, t_bnd]
  simp [kcm2, gall_map, Function.comp_def]
theorem tin_ps {ps : List (List Int)} {p : List Int} (h : ps.length ≤ 100) (h2 : ∀ q ∈ ps, q.length ≤ 100) (hp : p.length ≤ 100) : tin (ptT p) (psT ps) = some (decide (p ∈ ps)) := by
  have e1 : pq false false 19 (ptT p) = true := pq_le (pq_pt (by unfold lim; omega)) (by omega)
  have e2 : pq false false 20 (psT ps) = true := pq_le (pq_ps (by unfold lim; omega) fun q hq => by have := h2 q hq; unfold lim; omega) (by omega)
  have inj : ∀ {q r : List Int}, ptT q = ptT r → q = r := by
    intro q r e
    simp only [ptT, TV.lst.injEq] at e
    exact (List.map_inj_right (fun a b h => by cases h; rfl)).mp e
  by_cases hm : p ∈ ps
  · rw [decide_eq_true hm]
    exact tin_t e1 e2 (List.mem_map.mpr ⟨p, hm, rfl⟩)
  · rw [decide_eq_false hm]
    refine tin_f e1 e2 fun z => ?_
    obtain ⟨q, hq, e⟩ := List.mem_map.mp z
    exact hm (inj e ▸ hq)
theorem gl_pts : ∀ {l : List (List Int)}, l ≠ [] → gl .s (l.map fun p => TV.lst (p.map .int)) = .r
  | [], h => (h rfl).elim
  | p :: l, _ => rfl
theorem tb_mul0 (g g' : G) (x : TV) : tbin .mul (g, .lst [x]) (g', .int 0) = some (.d, .lst []) := by simp [tbin, gl, noLs, lim]
theorem tb_mul1 (g g' : G) (x : TV) : tbin .mul (g, .lst [x]) (g', .int 1) = some (gl .s [x], .lst [x]) := by simp [tbin, lim]
@[simp] theorem gl_l1 (l : List TV) : gl .s [TV.lst l] = .r := rfl
@[simp] theorem gl_n (g : G) : gl g [] = .d := rfl
end TM
namespace TM
open PySem MP
theorem tsum_bk' {B : List (List Nat)} {g : G} (hB : B ≠ []) (hl : B.flatten.length ≤ 1000) : tbt .sum [(g, .lst (B.map nbT)), (.d, .lst [])] = some (.d, nbT B.flatten) := by
  have e : tlsts (B.map nbT) = some (B.map fun b => b.map fun (i : Nat) => TV.int (i : Int)) := tlsts_map (fun b : List Nat => b.map fun (i : Nat) => TV.int (i : Int)) B
  have f : (B.map fun b => b.map fun (i : Nat) => TV.int (i : Int)).flatten = B.flatten.map fun (i : Nat) => TV.int (i : Int) := by rw [List.map_flatten]
  cases B with
  | nil => exact (hB rfl).elim
  | cons b B =>
    simp only [tbt, tsumL]
    rw [e]
    simp only
    rw [f, if_pos (by rw [List.length_map]; exact Nat.le_trans hl (by decide)), gl_noL (noLs_map fun _ _ => rfl)]
    rfl
theorem noLs_nb (b : List Nat) : noLs (b.map fun (i : Nat) => TV.int (i : Int)) = true := noLs_map fun _ _ => rfl
theorem teq_nil (b : List Nat) (h : b.length < 1000) : teq (nbT b) (.lst []) = some (decide (b = [])) := by
  cases b with
  | nil => exact teq_t (s := false) (by simp [pq, nbT, lim])
  | cons i b => exact teq_f (s := false) (pq_le (pq_nb h) (by omega)) (by simp [pq, lim]) (by simp [nbT])
section
variable {S : Type} {C : TCf S} {t : Tg} {c : Option E} {e : E} {m : TSl} {s : S} {α : Type} {enc : α → TV} {l : List α} {g g0 : G}
theorem kcom_filter' {p : α → Bool} {h : α → TV} (hF : ∀ x ∈ l, tturn t m (tcO C c) (tev C e) (enc x) s = .ok (if p x then some (g0, h x) else none) s) : ∃ g', TM.kcom C t c e m (g, l.map enc) s = .ok (g', .lst ((l.filter p).map h)) s := by
  unfold TM.kcom
  simp only
  rw [tcomL_filter (h := fun x => (g0, h x)) hF, t_bnd]
  simp [kcm2, Function.comp_def]
end
theorem erase_zip {α : Type} (L : Nat) : ∀ (l : List α) (k : Nat), ((l.zipIdx k).filter fun p => !decide (p.2 = k + L)).map (·.1) = l.eraseIdx L
  | [], k => by simp
  | x :: l, k => by
    cases L with
    | zero =>
      have : ∀ (l : List α) (j : Nat), k < j → ((l.zipIdx j).filter fun p => !decide (p.2 = k + 0)).map (·.1) = l := by
        intro l
        induction l with
        | nil => simp
        | cons y l ih =>
          intro j hj
          have : ¬ j = k := by omega
          simp only [List.zipIdx_cons, List.filter_cons]
          simp only [Nat.add_zero] at ih ⊢
          simp [this, ih (j + 1) (by omega)]
      simp only [List.zipIdx_cons, List.filter_cons, Nat.add_zero, decide_true, Bool.not_true]
      have := this l (k + 1) (by omega)
      simpa using this
    | succ L =>
      have : ¬ k = k + (L + 1) := by omega
      have ih := erase_zip L l (k + 1)
      simp only [List.zipIdx_cons, List.filter_cons, this, decide_false, Bool.not_false, if_true, List.map_cons, List.eraseIdx_cons_succ]
      rw [← ih]
      simp only [show k + 1 + L = k + (L + 1) by omega]
theorem nat_unique : ∀ {vs ws : List Nat}, vs.Pairwise (· < ·) → ws.Pairwise (· < ·) → (∀ v, v ∈ vs ↔ v ∈ ws) → vs = ws
  | [], ws, _, _, h => by
    cases ws with
    | nil => rfl
    | cons w ws => exact absurd ((h w).mpr (List.mem_cons_self ..)) (by simp)
  | v :: vs, [], _, _, h => absurd ((h v).mp (List.mem_cons_self ..)) (by simp)
  | v :: vs, w :: ws, h1, h2, h => by
    obtain ⟨a1, a2⟩ := List.pairwise_cons.mp h1
    obtain ⟨b1, b2⟩ := List.pairwise_cons.mp h2
    have e : v = w := by
      have x1 := (h v).mp (List.mem_cons_self ..)
      have x2 := (h w).mpr (List.mem_cons_self ..)
      rcases List.mem_cons.mp x1 with e | x1
      · exact e
      · rcases List.mem_cons.mp x2 with e | x2
        · exact e.symm
        · have := b1 v x1
          have := a1 w x2
          omega
    subst e
    congr 1
    refine nat_unique a2 b2 fun u => ⟨fun hu => ?_, fun hu => ?_⟩
    · rcases List.mem_cons.mp ((h u).mp (List.mem_cons_of_mem _ hu)) with e | k
      · subst e
        have := a1 u hu
        omega
      · exact k
    · rcases List.mem_cons.mp ((h u).mpr (List.mem_cons_of_mem _ hu)) with e | k
      · subst e
        have := b1 u hu
        omega
      · exact k
/-- the numbers but one, renumbered -/
def upN (L i : Nat) : Nat := if i < L then i else i + 1
def dnN (L i : Nat) : Nat := i - (if L < i then 1 else 0)
theorem dn_up (L i : Nat) : dnN L (upN L i) = i := by
  unfold dnN upN
  split <;> split <;> omega
theorem range_but {N L : Nat} (h : L < N) : ((List.range N).filter fun i => !decide (i = L)) = (List.range (N - 1)).map (upN L) := by
  refine nat_unique (List.pairwise_lt_range.filter _) ?_ fun v => ?_
  · rw [List.pairwise_map]
    refine List.pairwise_lt_range.imp fun {a b} hab => ?_
    unfold upN
    split <;> split <;> omega
  · simp only [List.mem_filter, List.mem_range, List.mem_map, Bool.not_eq_eq_eq_not, Bool.not_true, decide_eq_false_iff_not]
    constructor
    · rintro ⟨h1, h2⟩
      refine ⟨dnN L v, ?_, ?_⟩
      · unfold dnN
        split <;> omega
      · unfold dnN upN
        split <;> split <;> omega
    · rintro ⟨i, h1, rfl⟩
      unfold upN
      split <;> omega
theorem qf_erase (qs : List Rat) (L i : Nat) : qf (qs.eraseIdx L) i = qf qs (upN L i) := by
  unfold qf upN
  simp only [List.getD_eq_getElem?_getD, List.getElem?_eraseIdx]
  split <;> rfl
theorem fil_but {N L : Nat} (h : L < N) (q : Nat → Rat) (v : Rat) : (((List.range N).filter fun i => decide (q i = v)).filter fun i => !decide (i = L)).map (dnN L) = (List.range (N - 1)).filter fun i => decide (q (upN L i) = v) := by
  rw [List.filter_filter]
  have : ((List.range N).filter fun a => !decide (a = L) && decide (q a = v)) = ((List.range N).filter fun i => !decide (i = L)).filter fun i => decide (q i = v) := by
    rw [List.filter_filter]
    refine List.filter_congr fun a _ => ?_
    rw [Bool.and_comm]
  rw [this, range_but h, List.filter_map, List.map_map]
  have e : (dnN L ∘ upN L) = id := funext fun i => dn_up L i
  rw [e, List.map_id]
  rfl
/-- the order without one -/
theorem ord_but {N L : Nat} (h : L < N) {qs vs : List Rat} (o : IsOrd N (qf qs) vs) : ∃ ws, IsOrd (N - 1) (qf (qs.eraseIdx L)) ws ∧ bks (N - 1) (qf (qs.eraseIdx L)) ws = ((bks N (qf qs) vs).map fun b => (b.filter fun i => !decide (i = L)).map (dnN L)).filter fun b => !decide (b = []) := by
  have key : ∀ v, (((List.range N).filter fun i => decide (qf qs i = v)).filter fun i => !decide (i = L)).map (dnN L) = (List.range (N - 1)).filter fun i => decide (qf (qs.eraseIdx L) i = v) := by
    intro v
    rw [fil_but h]
    refine List.filter_congr fun i _ => ?_
    rw [qf_erase]
  refine ⟨vs.filter fun v => !decide (((List.range (N - 1)).filter fun i => decide (qf (qs.eraseIdx L) i = v)) = []), ⟨o.inc.filter _, fun v => ?_⟩, ?_⟩
  · rw [List.mem_filter, o.mem]
    simp only [Bool.not_eq_eq_eq_not, Bool.not_true, decide_eq_false_iff_not]
    constructor
    · rintro ⟨_, h2⟩
      obtain ⟨i, hi⟩ := List.exists_mem_of_ne_nil _ h2
      obtain ⟨h3, h4⟩ := mem_bk.mp hi
      exact ⟨i, h3, h4⟩
    · rintro ⟨i, h1, h2⟩
      refine ⟨⟨upN L i, ?_, ?_⟩, ?_⟩
      · unfold upN
        split <;> omega
      · rw [← qf_erase]
        exact h2
      · intro e
        have : i ∈ (List.range (N - 1)).filter fun i => decide (qf (qs.eraseIdx L) i = v) := mem_bk.mpr ⟨h1, h2⟩
        rw [e] at this
        simp at this
  · unfold bks
    rw [List.map_map, List.filter_map]
    have e1 : ((fun b : List Nat => (b.filter fun i => !decide (i = L)).map (dnN L)) ∘ fun v => (List.range N).filter fun i => decide (qf qs i = v)) = fun v => (List.range (N - 1)).filter fun i => decide (qf (qs.eraseIdx L) i = v) := funext key
    rw [e1]
    rfl
end TM
namespace TM
open PySem MP
section
variable {S : Type} (s : S) (g g' : G)
@[simp] theorem kenu_pl (x : List Rat) : kenu (g, plT x) s = tlim (tenu 0 (x.map frT)) s g := rfl
@[simp] theorem kenu_ps (x : List (List Int)) : kenu (g, psT x) s = tlim (tenu 0 (x.map ptT)) s g := rfl
@[simp] theorem kseq_bk (B : List (List Nat)) : kseq (g, bkT B) s = tlim (B.map nbT) s g := rfl
@[simp] theorem kseq_nb (b : List Nat) : kseq (g, nbT b) s = tlim (b.map fun (i : Nat) => TV.int (i : Int)) s g := rfl
@[simp] theorem tx_pl (x : List Rat) (i : Int) : tidx (g, plT x) (g', .int i) = (L2.atI (x.map frT) i).map fun x => (gr (gsub g) x, x) := rfl
@[simp] theorem tx_bk (x : List (List Nat)) (i : Int) : tidx (g, bkT x) (g', .int i) = (L2.atI (x.map nbT) i).map fun x => (gr (gsub g) x, x) := rfl
@[simp] theorem tx_nb (x : List Nat) (i : Int) : tidx (g, nbT x) (g', .int i) = (L2.atI (x.map fun (i : Nat) => TV.int (i : Int)) i).map fun x => (gr (gsub g) x, x) := rfl
@[simp] theorem tlen_nb (x : List Nat) : tbt .len [(g, nbT x)] = some (.d, .int x.length) := by simp [nbT]
@[simp] theorem tlen_bk (x : List (List Nat)) : tbt .len [(g, bkT x)] = some (.d, .int x.length) := by simp [bkT]
@[simp] theorem tlen_pl (x : List Rat) : tbt .len [(g, plT x)] = some (.d, .int x.length) := by simp [plT]
theorem tslc_nb (x : List Nat) (m : Nat) : tslc (g, nbT x) none (some (m : Int)) = some (.d, nbT (x.take m)) := by
  show some (gl g _, _) = _
  rw [tcut_take, ← List.map_take, gl_noL (noLs_nb _)]
  rfl
end
end TM
namespace TM
theorem bnd_of {S α β : Type} {x : TR S α} {a : α} {s1 : S} (h : x = .ok a s1) (f : α → S → TR S β) : x.bnd f = f a s1 := by rw [h]; rfl
end TM
namespace TM
theorem map_erase {α β : Type} (f : α → β) : ∀ (l : List α) (L : Nat), (l.eraseIdx L).map f = (l.map f).eraseIdx L
  | [], L => by simp
  | x :: l, 0 => by simp
  | x :: l, L + 1 => by simp [map_erase f l L]
theorem dn_int (L i : Nat) : (i : Int) - (if (L : Int) < i then 1 else 0) = ((dnN L i : Nat) : Int) := by
  unfold dnN
  by_cases h : L < i
  · have h2 : (L : Int) < i := by omega
    rw [if_pos h, if_pos h2]
    omega
  · have h2 : ¬ (L : Int) < i := by omega
    rw [if_neg h, if_neg h2]
    omega
end TM

set_option Elab.async false
set_option linter.all false
set_option maxRecDepth 100000
set_option autoImplicit false
set_option maxHeartbeats 4000000
/-! TM, part o: from the trees' law to the law. -/
namespace TM
open PySem MP

theorem at_pur {k i : Nat} {g : G} {t : TV} {v : MV} {x y : MV} (h : At ([none, some (.d, .pur)] ++ List.replicate k none) ([some x, some y] ++ List.replicate k none) i g t v) : g = .d ∧ t = .pur ∧ v = y ∧ i = 1 := by
  obtain ⟨h1, h2⟩ := h
  match i with
  | 0 => cases h1
  | 1 =>
    cases h1
    cases h2
    exact ⟨rfl, rfl, rfl, rfl⟩
  | i + 2 =>
    simp [List.getElem?_replicate] at h1
theorem law_sim {P : Pg} {pr : Pri PS} {iL iU nl n : Nat} {rest : Ss} (hL : IsD P iL 1 (nl + 2) (.cons (.asg (.nm 1) (.cal iU 0 (.cons (.var 0) .nil) .nil)) rest)) (hU : IsD P iU 1 3 bPurse) (hA : Arr P iU 0 [.at 0]) (hm : lim < P.most) (hp : ∀ p g h, PrOK (PW p g h) P pr)
    (hs : ∀ σ, Pu 0 σ → ∃ m' σ', texs (tcf P pr (n + 1)) P.most rest ([none, some (.d, .pur)] ++ List.replicate nl none) σ = .ok (.rt (.d, .bl true), m') σ') {ns : List Int} (hl : ns.length ≤ 63) : ∃ M, run P (n + 2) iL [.kls (ns.map MV.int)] [] = .ok (.bl true) M := by
  obtain ⟨p, g, M, e, pp⟩ := purse_ok (n := n) (ns := ns) hU (by unfold lim at hm; omega) hl
  obtain ⟨xs, i, c, b, s, h1, h2, h3, h4, h5⟩ := pp.ex
  have ne := pp.ne
  let σ : PS := ⟨xs, i, b, c, s⟩
  obtain ⟨ts', σ', et⟩ := hs σ ⟨h3, h4, h5⟩
  have st : (PW p g ne).St σ M := ⟨h1, h2⟩
  have X : Ctx (PW p g ne) (cfg P (n + 1)) (tcf P pr (n + 1)) :=
    ⟨hm, fun _ => rfl, fun _ _ => rfl, fun f args s w s' h M vs hr hs => run_sim (hp p g ne) hm (n + 1) f args s s' w h M vs hr hs⟩
  have sok : SOK (PW p g ne) (fun _ => True) 0 (fun _ => False) M ([none, some (.d, .pur)] ++ List.replicate nl none) ([some (.kls (ns.map MV.int)), some (.lst p)] ++ List.replicate nl none) := by
    refine ⟨⟨by simp, fun i g' t e => ?_⟩, fun i g t v e a ha => .inl trivial, fun i g t v e => ?_, fun i g t v e a ha => ?_, fun i j g t v g' t' v' ne e _ a ha => ?_⟩
    · match i with
      | 0 => cases e
      | 1 =>
        cases e
        exact ⟨.lst p, rfl, by unfold rep; rfl⟩
      | i + 2 => simp [List.getElem?_replicate] at e
    · obtain ⟨rfl, rfl, rfl, rfl⟩ := at_pur e
      exact List.nodup_nil
    · obtain ⟨rfl, rfl, rfl, rfl⟩ := at_pur e
      cases ha
    · obtain ⟨rfl, rfl, rfl, rfl⟩ := at_pur e
      cases ha
  obtain ⟨fl', m', M', a1, a2, a3⟩ := exs_sim X (fun f hf => by
    simp only [tcf, Bool.and_eq_true, decide_eq_true_eq] at hf
    exact (hp p g ne).spo f hf.1 (n + 1) hf.2) rest _ ts' _ σ σ' M _ _ 0 _ et sok st (Nat.zero_le _) (fun a ha => ha.elim)
  obtain ⟨z, rfl, hz⟩ := a3
  have hz' := hz.rep
  unfold rep at hz'
  subst hz'
  refine ⟨M', ?_⟩
  rw [hL.go rfl]
  refine fin_cons (m' := [some (.kls (ns.map MV.int)), some (.lst p)] ++ List.replicate nl none) (M1 := M) ?_ ?_
  · have ha : (cfg P (n + 1)).arr iU 0 = some [.at 0] := hA.cfg _
    simp [argAt, ha, e]
    rfl
  · have a1 : exs (cfg P (n + 1)) rest _ M = _ := a1
    rw [a1]
    rfl
end TM

set_option Elab.async false
set_option linter.all false
set_option maxRecDepth 100000
set_option autoImplicit false
set_option maxHeartbeats 4000000
/-! TM, part w: what a run comes to, said forwards. -/
namespace TM
open PySem MP
/-- the run ends well, with what is said -/
def WP {S α : Type} (x : TR S α) (Q : α → S → Prop) : Prop := ∃ a s, x = .ok a s ∧ Q a s
section
variable {S α β : Type}
@[simp] theorem wp_ok {a : α} {s : S} {Q : α → S → Prop} : WP (.ok a s) Q ↔ Q a s := ⟨fun ⟨_, _, e, h⟩ => by cases e; exact h, fun h => ⟨_, _, rfl, h⟩⟩
theorem wp_eq {x z : TR S α} {Q : α → S → Prop} (h : x = z) (w : WP x Q) : WP z Q := h ▸ w
theorem wp_of {x : TR S α} {Q : α → S → Prop} {a : α} {s : S} (h : x = .ok a s) (q : Q a s) : WP x Q := ⟨a, s, h, q⟩
theorem WP.mono {x : TR S α} {Q R : α → S → Prop} (h : WP x Q) (k : ∀ a s, Q a s → R a s) : WP x R := by
  obtain ⟨a, s, e, q⟩ := h
  exact ⟨a, s, e, k a s q⟩
theorem wp_bnd {x : TR S α} {f : α → S → TR S β} {Q : β → S → Prop} (h : WP x fun a s => WP (f a s) Q) : WP (x.bnd f) Q := by
  obtain ⟨a, s, e, b, t, e2, q⟩ := h
  exact ⟨b, t, by rw [e]; exact e2, q⟩
theorem wp_fin {x : TR S (TFl × TSl)} {Q : GV → S → Prop} (h : WP x fun p s => match p.1 with | .nx => Q (.d, .non) s | .rt v => Q v s | _ => False) : WP x.fin Q := by
  obtain ⟨⟨f, m⟩, s, e, q⟩ := h
  refine ⟨_, s, by rw [e]; exact (by cases f <;> first | rfl | exact q.elim : (TR.ok (f, m) s).fin = .ok (match f with | .nx => (G.d, TV.non) | .rt v => v | _ => (G.d, TV.non)) s), ?_⟩
  cases f <;> first | exact q | exact q.elim
/-- a loop without a way out, its turns numbered -/
theorem wfor {F : TV → TSl → S → TR S (TFl × TSl)} {enc : α → TV} {l : List α} {m : TSl} {s : S} {z : TR S (TFl × TSl)} (hz : tforL F (l.map enc) m s = z) (inv : Nat → TSl → S → Prop) (init : inv 0 m s)
    (step : ∀ (i : Nat) (h : i < l.length) (m : TSl) (s : S), inv i m s → WP (F (enc l[i]) m s) fun p s' => p.1 = .nx ∧ inv (i + 1) p.2 s') : ∃ m' s', z = .ok (.nx, m') s' ∧ inv l.length m' s' := by
  subst hz
  refine tforL_idx inv (fun i h m s hi => ?_) init
  obtain ⟨⟨f, m'⟩, s', e, hf, h2⟩ := step i h m s hi
  simp only at hf h2
  subst hf
  exact ⟨m', s', e, h2⟩
/-- a comprehension's turns, numbered -/
theorem wcom {C : TCf S} {t : Tg} {c : Option E} {e : E} {m : TSl} {g : G} {enc : α → TV} {dec : β → TV} {l : List α} {s : S} {z : TR S GV} (hz : TM.kcom C t c e m (g, l.map enc) s = z) (inv : Nat → List β → S → Prop) (init : inv 0 [] s)
    (step : ∀ (i : Nat) (h : i < l.length) (ys : List β) (s : S), inv i ys s → WP (tturn t m (tcO C c) (tev C e) (enc l[i]) s) fun o s' => ∃ ys', o = (match ys' with | none => none | some y => some (.d, dec y)) ∧ inv (i + 1) (ys ++ ys'.toList) s') : ∃ ys s', z = .ok (.d, .lst (ys.map dec)) s' ∧ inv l.length ys s' := by
  subst hz
  have go : ∀ (j i : Nat) (ys : List β) (s : S), i + j = l.length → inv i ys s → ∃ zs s', tcomL (tturn t m (tcO C c) (tev C e)) ((l.drop i).map enc) s = .ok (zs.map fun y => (G.d, dec y)) s' ∧ inv l.length (ys ++ zs) s' := by
    intro j
    induction j with
    | zero =>
      intro i ys s hij h
      have : i = l.length := by omega
      subst this
      rw [List.drop_length]
      exact ⟨[], s, rfl, by simpa using h⟩
    | succ j ih =>
      intro i ys s hij h
      have hi : i < l.length := by omega
      obtain ⟨o, s1, e1, y1, ho, h1⟩ := step i hi ys s h
      obtain ⟨zs, s2, e2, h2⟩ := ih (i + 1) _ s1 (by omega) h1
      refine ⟨y1.toList ++ zs, s2, ?_, by rw [← List.append_assoc]; exact h2⟩
      rw [List.drop_eq_getElem_cons hi]
      simp only [List.map_cons, tcomL]
      rw [e1, t_bnd, e2, t_bnd, ho]
      cases y1 <;> simp
  obtain ⟨zs, s', e1, h1⟩ := go l.length 0 [] s (by omega) init
  rw [List.drop_zero] at e1
  refine ⟨zs, s', ?_, by simpa using h1⟩
  unfold TM.kcom
  simp only
  rw [e1, t_bnd]
  simp [kcm2, gall_map, Function.comp_def]
/-- a comprehension that draws nothing -/
theorem wmap {C : TCf S} {t : Tg} {c : Option E} {e : E} {m : TSl} {g : G} {enc h : α → TV} {l : List α} {s : S} (hF : ∀ x ∈ l, tturn t m (tcO C c) (tev C e) (enc x) s = .ok (some (.d, h x)) s) : TM.kcom C t c e m (g, l.map enc) s = .ok (.d, .lst (l.map h)) s := kcom_map hF
theorem wfil {C : TCf S} {t : Tg} {c : Option E} {e : E} {m : TSl} {g : G} {p : α → Bool} {enc h : α → TV} {l : List α} {s : S} (hF : ∀ x ∈ l, tturn t m (tcO C c) (tev C e) (enc x) s = .ok (if p x then some (.d, h x) else none) s) : TM.kcom C t c e m (g, l.map enc) s = .ok (.d, .lst ((l.filter p).map h)) s := kcom_filter hF
theorem ixN_nat {n i : Nat} (h : i < n) : L2.ixN n (i : Int) = some i := by
  have : ((i : Int) < (n : Int)) := by omega
  simp [L2.ixN, this]
theorem noLs_iff : ∀ {l : List TV}, noLs l = true ↔ ∀ x ∈ l, noL x = true
  | [] => by simp [noLs]
  | x :: l => by simp [noLs, noLs_iff (l := l)]
theorem gl_cases (g : G) (l : List TV) : gl g l = .r ∨ (gl g l = .d ∧ (g = .d ∨ ∀ x ∈ l, noL x = true)) := by
  by_cases h : noLs l = true
  · exact .inr ⟨gl_noL h, .inr (noLs_iff.mp h)⟩
  · cases g with
    | d => exact .inr ⟨gl_d l, .inl rfl⟩
    | s => exact .inl (by simp [gl, h])
    | r => exact .inl (by simp [gl, h])
theorem gl_ne (g : G) (l : List TV) : gl g l ≠ .s := by
  rcases gl_cases g l with h | h
  · rw [h]; simp
  · rw [h.1]; simp
/-- one goes over, left and found being two slots -/
theorem popapp_ok {enc : α → TV} {lf fo : List α} {x y : Nat} {m : TSl} {g gf gk : G} {i : Nat} (hxy : x ≠ y) (h1 : m[y]? = some (some (g, .lst (lf.map enc)))) (h2 : m[x]? = some (some (gf, .lst (fo.map enc)))) (hi : i < lf.length) (hl : lf.length ≤ lim) (hf : fo.length < lim) (hg : g = .r ∨ (g = .d ∧ ∀ x ∈ lf, noL (enc x) = true)) (hgf : gf ≠ .s) : ∃ g' gf', tpopapp x y (gk, .int i) m = some ((m.set y (some (g', .lst ((lf.eraseIdx i).map enc)))).set x (some (gf', .lst ((fo ++ [lf[i]]).map enc)))) ∧ (g' = .r ∨ (g' = .d ∧ ∀ x ∈ lf.eraseIdx i, noL (enc x) = true)) ∧ gf' ≠ .s := by
  have e1 : L2.ixN (lf.map enc).length (i : Int) = some i := ixN_nat (by simpa using hi)
  have e2 : (lf.map enc)[i]? = some (enc lf[i]) := by simp [hi]
  have er : (lf.map enc).eraseIdx i = (lf.eraseIdx i).map enc := (map_erase enc lf i).symm
  have sub : ∀ z ∈ lf.eraseIdx i, z ∈ lf := fun z hz => List.mem_of_mem_eraseIdx hz
  have ea : fo.map enc ++ [enc lf[i]] = (fo ++ [lf[i]]).map enc := by simp
  have hf' : (fo.map enc).length < lim := by simpa using hf
  have hl' : (lf.map enc).length ≤ lim := by simpa using hl
  have gp : ∀ (g : G) (z : TV) (l : List TV), g ≠ .s → ∃ g', gput g (gr .s z) l = some (g', .lst l) ∧ g' ≠ .s := by
    intro g z l h
    cases g with
    | s => exact (h rfl).elim
    | r => exact ⟨_, rfl, gl_ne _ _⟩
    | d => exact ⟨_, rfl, gl_ne _ _⟩
  obtain ⟨gf', f1, f2⟩ := gp gf (enc lf[i]) ((fo ++ [lf[i]]).map enc) hgf
  have pg : ∃ g', gput g .d ((lf.eraseIdx i).map enc) = some (g', .lst ((lf.eraseIdx i).map enc)) ∧ (g' = .r ∨ (g' = .d ∧ ∀ x ∈ lf.eraseIdx i, noL (enc x) = true)) := by
    rcases hg with rfl | ⟨rfl, hn⟩
    · refine ⟨_, rfl, ?_⟩
      rcases gl_cases .s ((lf.eraseIdx i).map enc) with h | ⟨h, h3 | h3⟩
      · exact .inl h
      · cases h3
      · exact .inr ⟨h, fun z hz => h3 _ (List.mem_map.mpr ⟨z, hz, rfl⟩)⟩
    · exact ⟨_, gput_dd _, .inr ⟨rfl, fun z hz => hn z (sub z hz)⟩⟩
  obtain ⟨g', p1, p2⟩ := pg
  have cond : noL (enc lf[i]) = true ∨ g = .r := by
    rcases hg with h | h
    · exact .inr h
    · exact .inl (h.2 _ (List.getElem_mem hi))
  have hx : (m.set y (some (g', .lst ((lf.eraseIdx i).map enc))))[x]? = some (some (gf, .lst (fo.map enc))) := by
    rw [List.getElem?_set_ne (Ne.symm hxy)]
    exact h2
  refine ⟨g', gf', ?_, p2, f2⟩
  have t1 : tmth .pop (g, .lst (lf.map enc)) [(.d, .int i)] = some ((g', .lst ((lf.eraseIdx i).map enc)), (gr (gsub g) (enc lf[i]), enc lf[i])) := by
    simp only [tmth, e1, e2, hl', if_true, er, p1, Option.map_some]
  have t2 : tmth .append (gf, .lst (fo.map enc)) [(gr .s (enc lf[i]), enc lf[i])] = some ((gf', .lst ((fo ++ [lf[i]]).map enc)), (.d, .non)) := by
    simp only [tmth, if_pos hf', ea, f1, Option.map_some]
  simp only [tpopapp, h1, t1, if_pos cond, hx, t2]
theorem perm_out {α : Type} : ∀ (l : List α) (j : Nat) (h : j < l.length), (l[j] :: l.eraseIdx j).Perm l
  | x :: l, 0, h => by simp
  | x :: l, j + 1, h => by
    have h' : j < l.length := by simpa using h
    simp only [List.getElem_cons_succ, List.eraseIdx_cons_succ]
    exact (List.Perm.swap ..).trans ((perm_out l j h').cons x)
/-- a loop that may return -/
theorem wfor_ret {F : TV → TSl → S → TR S (TFl × TSl)} {enc : α → TV} {l : List α} {m : TSl} {s : S} {z : TR S (TFl × TSl)} (hz : tforL F (l.map enc) m s = z) (inv : Nat → TSl → S → Prop) (R : GV → TSl → S → Prop) (init : inv 0 m s)
    (step : ∀ (i : Nat) (h : i < l.length) (m : TSl) (s : S), inv i m s → WP (F (enc l[i]) m s) fun p s' => (p.1 = .nx ∧ inv (i + 1) p.2 s') ∨ ∃ v, p.1 = .rt v ∧ R v p.2 s') : (∃ m' s', z = .ok (.nx, m') s' ∧ inv l.length m' s') ∨ ∃ v m' s', z = .ok (.rt v, m') s' ∧ R v m' s' := by
  subst hz
  have go : ∀ (j i : Nat) (m : TSl) (s : S), i + j = l.length → inv i m s → (∃ m' s', tforL F ((l.drop i).map enc) m s = .ok (.nx, m') s' ∧ inv l.length m' s') ∨ ∃ v m' s', tforL F ((l.drop i).map enc) m s = .ok (.rt v, m') s' ∧ R v m' s' := by
    intro j
    induction j with
    | zero =>
      intro i m s hij h
      have : i = l.length := by omega
      subst this
      rw [List.drop_length]
      exact .inl ⟨m, s, rfl, h⟩
    | succ j ih =>
      intro i m s hij h
      have hi : i < l.length := by omega
      obtain ⟨⟨f, m1⟩, s1, e1, h1⟩ := step i hi m s h
      rw [List.drop_eq_getElem_cons hi]
      simp only [List.map_cons, tforL]
      rw [e1, t_bnd]
      rcases h1 with ⟨hf, h1⟩ | ⟨v, hf, h1⟩
      · simp only at hf h1
        subst hf
        exact ih (i + 1) m1 s1 (by omega) h1
      · simp only at hf h1
        subst hf
        exact .inr ⟨v, m1, s1, rfl, h1⟩
  have := go l.length 0 m s (by omega) init
  rwa [List.drop_zero] at this
theorem tx_nat {f : α → TV} {l : List α} {i : Nat} (g g' : G) (h : i < l.length) : tidx (g, .lst (l.map f)) (g', .int (i : Int)) = some (gr (gsub g) (f l[i]), f l[i]) := by
  rw [tx_l, at_nat (by simpa using h)]
  simp
theorem map_zipIdx {f : α → TV} (l : List α) : tenu 0 (l.map f) = (l.zipIdx).map fun p => .tup [.int (p.2 : Nat), f p.1] := tenu_map f l 0
/-- the same, what is to be shown hidden from simp -/
theorem wforQ {F : TV → TSl → S → TR S (TFl × TSl)} {enc : α → TV} {l : List α} {m : TSl} {s : S} {z : TR S (TFl × TSl)} (hz : tforL F (l.map enc) m s = z) (inv : Nat → TSl → S → Prop) (init : inv 0 m s)
    (step : ∀ (i : Nat) (h : i < l.length) (m : TSl) (s : S), inv i m s → ∀ Q : TFl × TSl → S → Prop, (∀ m' s', inv (i + 1) m' s' → Q (.nx, m') s') → WP (F (enc l[i]) m s) Q) : ∃ m' s', z = .ok (.nx, m') s' ∧ inv l.length m' s' :=
  wfor hz inv init fun i h m s hi => step i h m s hi _ fun m' s' h' => ⟨rfl, h'⟩
theorem wcomQ {C : TCf S} {t : Tg} {c : Option E} {e : E} {m : TSl} {g : G} {enc : α → TV} {dec : β → TV} {l : List α} {s : S} {z : TR S GV} (hz : TM.kcom C t c e m (g, l.map enc) s = z) (inv : Nat → List β → S → Prop) (init : inv 0 [] s)
    (step : ∀ (i : Nat) (h : i < l.length) (ys : List β) (s : S), inv i ys s → ∀ Q : Option GV → S → Prop, (∀ y s', inv (i + 1) (ys ++ [y]) s' → Q (some (.d, dec y)) s') → (∀ s', inv (i + 1) ys s' → Q none s') → WP (tturn t m (tcO C c) (tev C e) (enc l[i]) s) Q) : ∃ ys s', z = .ok (.d, .lst (ys.map dec)) s' ∧ inv l.length ys s' :=
  wcom hz inv init fun i h ys s hi => step i h ys s hi _ (fun y s' h' => ⟨some y, rfl, h'⟩) (fun s' h' => ⟨none, rfl, by simpa using h'⟩)
theorem wfor_retQ {F : TV → TSl → S → TR S (TFl × TSl)} {enc : α → TV} {l : List α} {m : TSl} {s : S} {z : TR S (TFl × TSl)} (hz : tforL F (l.map enc) m s = z) (inv : Nat → TSl → S → Prop) (R : GV → TSl → S → Prop) (init : inv 0 m s)
    (step : ∀ (i : Nat) (h : i < l.length) (m : TSl) (s : S), inv i m s → ∀ Q : TFl × TSl → S → Prop, (∀ m' s', inv (i + 1) m' s' → Q (.nx, m') s') → (∀ v m' s', R v m' s' → Q (.rt v, m') s') → WP (F (enc l[i]) m s) Q) : (∃ m' s', z = .ok (.nx, m') s' ∧ inv l.length m' s') ∨ ∃ v m' s', z = .ok (.rt v, m') s' ∧ R v m' s' :=
  wfor_ret hz inv R init fun i h m s hi => step i h m s hi _ (fun m' s' h' => .inl ⟨rfl, h'⟩) (fun v m' s' h' => .inr ⟨v, rfl, h'⟩)
theorem wpQ {x : TR S α} {Q : α → S → Prop} (h : ∀ Q' : α → S → Prop, (∀ a s, Q a s → Q' a s) → WP x Q') : WP x Q := h Q fun _ _ h => h
/-- one statement after the other -/
theorem wstep {C : TCf S} {mo : Nat} {st : MP.S} {ss : Ss} {m m' : TSl} {s s1 : S} {Q : GV → S → Prop} (h : tex C mo st m s = .ok (.nx, m') s1) (k : WP (texs C mo ss m' s1).fin Q) : WP (texs C mo (.cons st ss) m s).fin Q := by
  rw [ts_cons, h, t_bnd, k_nx]
  exact k
theorem wstepQ {C : TCf S} {mo : Nat} {st : MP.S} {ss : Ss} {m : TSl} {s : S} {Q : GV → S → Prop} (h : ∀ R : TFl × TSl → S → Prop, (∀ m' s1, WP (texs C mo ss m' s1).fin Q → R (.nx, m') s1) → WP (tex C mo st m s) R) : WP (texs C mo (.cons st ss) m s).fin Q := by
  obtain ⟨⟨f, m'⟩, s1, e, h1, h2⟩ := h (fun p s1 => p.1 = .nx ∧ WP (texs C mo ss p.2 s1).fin Q) fun m' s1 h => ⟨rfl, h⟩
  simp only at h1 h2
  subst h1
  exact wstep e h2
theorem wret {C : TCf S} {mo : Nat} {st : MP.S} {ss : Ss} {m m' : TSl} {s s1 : S} {v : GV} {Q : GV → S → Prop} (h : tex C mo st m s = .ok (.rt v, m') s1) (q : Q v s1) : WP (texs C mo (.cons st ss) m s).fin Q := by
  refine wp_of (a := v) (s := s1) ?_ q
  rw [ts_cons, h, t_bnd, k_rt]
  rfl
/-- the same within a loop -/
theorem wturn {t : Tg} {b : TSl → S → TR S (TFl × TSl)} {y : TV} {m m' : TSl} {s : S} {Q : TFl × TSl → S → Prop} (h : tset t (gr .s y) y m = some m') (k : WP (b m' s) Q) : WP (tfturn t b y m s) Q := by
  unfold tfturn
  rw [h]
  exact k
theorem lstep {C : TCf S} {mo : Nat} {st : MP.S} {ss : Ss} {m m' : TSl} {s s1 : S} {Q : TFl × TSl → S → Prop} (h : tex C mo st m s = .ok (.nx, m') s1) (k : WP (texs C mo ss m' s1) Q) : WP (texs C mo (.cons st ss) m s) Q := by
  rw [ts_cons, h, t_bnd, k_nx]
  exact k
theorem lstepQ {C : TCf S} {mo : Nat} {st : MP.S} {ss : Ss} {m : TSl} {s : S} {Q : TFl × TSl → S → Prop} (h : ∀ R : TFl × TSl → S → Prop, (∀ m' s1, WP (texs C mo ss m' s1) Q → R (.nx, m') s1) → WP (tex C mo st m s) R) : WP (texs C mo (.cons st ss) m s) Q := by
  obtain ⟨⟨f, m'⟩, s1, e, h1, h2⟩ := h (fun p s1 => p.1 = .nx ∧ WP (texs C mo ss p.2 s1) Q) fun m' s1 h => ⟨rfl, h⟩
  simp only at h1 h2
  subst h1
  exact lstep e h2
theorem lnil {C : TCf S} {mo : Nat} {m : TSl} {s : S} {Q : TFl × TSl → S → Prop} (h : Q (.nx, m) s) : WP (texs C mo .nil m s) Q := ⟨_, _, ts_nil C mo m s, h⟩
theorem lret {C : TCf S} {mo : Nat} {st : MP.S} {ss : Ss} {m m' : TSl} {s s1 : S} {v : GV} {Q : TFl × TSl → S → Prop} (h : tex C mo st m s = .ok (.rt v, m') s1) (q : Q (.rt v, m') s1) : WP (texs C mo (.cons st ss) m s) Q := by
  refine ⟨_, _, ?_, q⟩
  rw [ts_cons, h, t_bnd, k_rt]
/-- a for statement without a way out -/
theorem wforS {C : TCf S} {mo : Nat} {t : Tg} {it : MP.It} {b : Ss} {m : TSl} {s s1 : S} {g : G} {enc : α → TV} {l : List α} {R : TFl × TSl → S → Prop} (hi : tevI C it m s = .ok (g, l.map enc) s1) (inv : Nat → TSl → S → Prop) (init : inv 0 (leak g (fvI it) m) s1)
    (step : ∀ (i : Nat) (h : i < l.length) (m : TSl) (s : S), inv i m s → ∀ Q : TFl × TSl → S → Prop, (∀ m' s', inv (i + 1) m' s' → Q (.nx, m') s') → WP (tfturn t (texs C mo b) (enc l[i]) m s) Q) (k : ∀ m' s', inv l.length m' s' → R (.nx, m') s') : WP (tex C mo (.for t it b) m s) R := by
  obtain ⟨m', s', e, h⟩ := wforQ (F := tfturn t (texs C mo b)) rfl inv init step
  refine ⟨_, _, ?_, k m' s' h⟩
  rw [ts_for, hi, t_bnd, k_for]
  exact e
theorem teq_bl (a b : Bool) : teq (.bl a) (.bl b) = some (a == b) := by cases a <;> cases b <;> decide
end
end TM

set_option autoImplicit false
set_option maxHeartbeats 8000000
namespace K08
open PySem PySem.Spec PyProof.Rows L2 MP
/-- is_number -/
def b_0 : Ss :=
    (.cons (.ret (.and (.isi (.var 0) [.int] false) (.not (.isi (.var 0) [.bool] false)))) .nil)
def d_0 : Fd := ⟨"is_number", ["value"], 1, b_0, [(1, [], [.at 0])]⟩
/-- divisor -/
def b_1 : Ss :=
    (.cons (.whl (.cmp .ne (.var 1) (.cst (.int 0)))
      (.cons (.asg (.tp [0, 1]) (.tup (.cons (.var 1) (.cons (.bin .mod (.var 0) (.var 1)) .nil)))) .nil))
    (.cons (.ret (.var 0)) .nil))
def d_1 : Fd := ⟨"divisor", ["one", "other"], 2, b_1, [(2, [], [.at 0, .at 1])]⟩
/-- by_lowest -/
def b_2 : Ss :=
    (.cons (.asg (.nm 2) (.cal 1 0 (.cons (.blt .abs (.cons (.var 0) .nil)) (.cons (.blt .abs (.cons (.var 1) .nil)) .nil)) .nil))
    (.cons (.iff (.cmp .lt (.var 1) (.cst (.int 0)))
      (.cons (.asg (.nm 2) (.bin .sub (.cst (.int 0)) (.var 2))) .nil) .nil)
    (.cons (.ret (.tup (.cons (.bin .fdv (.var 0) (.var 2)) (.cons (.bin .fdv (.var 1) (.var 2)) .nil)))) .nil)))
def d_2 : Fd := ⟨"by_lowest", ["top", "under", "common"], 2, b_2, [(2, [], [.at 0, .at 1])]⟩
/-- plus -/
def b_3 : Ss :=
    (.cons (.ret (.cal 2 0 (.cons (.bin .add (.bin .mul (.idx (.var 0) (.cst (.int 0))) (.idx (.var 1) (.cst (.int 1)))) (.bin .mul (.idx (.var 1) (.cst (.int 0))) (.idx (.var 0) (.cst (.int 1))))) (.cons (.bin .mul (.idx (.var 0) (.cst (.int 1))) (.idx (.var 1) (.cst (.int 1)))) .nil)) .nil)) .nil)
def d_3 : Fd := ⟨"plus", ["one", "other"], 2, b_3, [(2, [], [.at 0, .at 1])]⟩
/-- minus -/
def b_4 : Ss :=
    (.cons (.ret (.cal 2 0 (.cons (.bin .sub (.bin .mul (.idx (.var 0) (.cst (.int 0))) (.idx (.var 1) (.cst (.int 1)))) (.bin .mul (.idx (.var 1) (.cst (.int 0))) (.idx (.var 0) (.cst (.int 1))))) (.cons (.bin .mul (.idx (.var 0) (.cst (.int 1))) (.idx (.var 1) (.cst (.int 1)))) .nil)) .nil)) .nil)
def d_4 : Fd := ⟨"minus", ["one", "other"], 2, b_4, [(2, [], [.at 0, .at 1])]⟩
/-- times -/
def b_5 : Ss :=
    (.cons (.ret (.cal 2 0 (.cons (.bin .mul (.idx (.var 0) (.cst (.int 0))) (.idx (.var 1) (.cst (.int 0)))) (.cons (.bin .mul (.idx (.var 0) (.cst (.int 1))) (.idx (.var 1) (.cst (.int 1)))) .nil)) .nil)) .nil)
def d_5 : Fd := ⟨"times", ["one", "other"], 2, b_5, [(2, [], [.at 0, .at 1])]⟩
/-- over -/
def b_6 : Ss :=
    (.cons (.ret (.cal 2 0 (.cons (.bin .mul (.idx (.var 0) (.cst (.int 0))) (.idx (.var 1) (.cst (.int 1)))) (.cons (.bin .mul (.idx (.var 0) (.cst (.int 1))) (.idx (.var 1) (.cst (.int 0)))) .nil)) .nil)) .nil)
def d_6 : Fd := ⟨"over", ["one", "other"], 2, b_6, [(2, [], [.at 0, .at 1])]⟩
/-- total -/
def b_7 : Ss :=
    (.cons (.asg (.nm 1) (.glo 0))
    (.cons (.for (.nm 2) (.seq (.var 0))
      (.cons (.asg (.nm 1) (.cal 3 0 (.cons (.var 1) (.cons (.var 2) .nil)) .nil)) .nil))
    (.cons (.ret (.var 1)) .nil)))
def d_7 : Fd := ⟨"total", ["some", "found", "one"], 1, b_7, [(1, [], [.at 0])]⟩
/-- has_point -/
def b_8 : Ss :=
    (.cons (.ret (.and (.isi (.var 1) [.list] false) (.and (.cmp .eq (.blt .len (.cons (.var 1) .nil)) (.var 0)) (.blt .all (.cons (.com (.nm 2) (.seq (.var 1)) none (.cal 0 0 (.cons (.var 2) .nil) .nil)) .nil))))) .nil)
def d_8 : Fd := ⟨"has_point", ["d", "value", "one"], 2, b_8, [(2, [], [.at 0, .at 1])]⟩
/-- at_point -/
def b_9 : Ss :=
    (.cons (.ret (.com (.nm 1) (.seq (.var 0)) none (.tup (.cons (.var 1) (.cons (.cst (.int 1)) .nil))))) .nil)
def d_9 : Fd := ⟨"at_point", ["point", "number"], 1, b_9, [(1, [], [.at 0])]⟩
/-- inner -/
def b_10 : Ss :=
    (.cons (.ret (.cal 7 0 (.cons (.com (.tp [2, 3]) (.zip (.var 0) (.var 1)) none (.cal 5 0 (.cons (.var 2) (.cons (.var 3) .nil)) .nil)) .nil) .nil)) .nil)
def d_10 : Fd := ⟨"inner", ["one", "other", "mine", "yours"], 2, b_10, [(2, [], [.at 0, .at 1])]⟩
/-- difference -/
def b_11 : Ss :=
    (.cons (.ret (.com (.tp [2, 3]) (.zip (.var 0) (.var 1)) none (.cal 4 0 (.cons (.var 2) (.cons (.var 3) .nil)) .nil))) .nil)
def d_11 : Fd := ⟨"difference", ["one", "other", "mine", "yours"], 2, b_11, [(2, [], [.at 0, .at 1])]⟩
/-- square -/
def b_12 : Ss :=
    (.cons (.asg (.nm 2) (.cal 11 0 (.cons (.var 0) (.cons (.var 1) .nil)) .nil))
    (.cons (.ret (.cal 10 0 (.cons (.var 2) (.cons (.var 2) .nil)) .nil)) .nil))
def d_12 : Fd := ⟨"square", ["one", "other", "apart"], 2, b_12, [(2, [], [.at 0, .at 1])]⟩
/-- is_store -/
def b_13 : Ss :=
    (.cons (.iff (.or (.not (.isi (.var 0) [.tuple] false)) (.or (.cmp .ne (.blt .len (.cons (.var 0) .nil)) (.cst (.int 3))) (.or (.not (.isi (.idx (.var 0) (.cst (.int 0))) [.str] false)) (.cmp .ne (.idx (.var 0) (.cst (.int 0))) (.cst (.str "store"))))))
      (.cons (.ret (.cst (.bl false))) .nil) .nil)
    (.cons (.asg (.tp [1, 2]) (.tup (.cons (.idx (.var 0) (.cst (.int 1))) (.cons (.idx (.var 0) (.cst (.int 2))) .nil))))
    (.cons (.iff (.or (.not (.cal 0 0 (.cons (.var 1) .nil) .nil)) (.or (.not (.chn .le .le (.cst (.int 1)) (.var 1) (.glo 1))) (.or (.not (.isi (.var 2) [.list] false)) (.cmp .eq (.var 2) (.lst .nil)))))
      (.cons (.ret (.cst (.bl false))) .nil) .nil)
    (.cons (.iff (.not (.blt .all (.cons (.com (.nm 3) (.seq (.var 2)) none (.cal 8 0 (.cons (.var 1) (.cons (.var 3) .nil)) .nil)) .nil)))
      (.cons (.ret (.cst (.bl false))) .nil) .nil)
    (.cons (.ret (.cmp .eq (.lset (.com (.nm 3) (.seq (.var 2)) none (.blt .tuple (.cons (.var 3) .nil)))) (.blt .len (.cons (.var 2) .nil)))) .nil)))))
def d_13 : Fd := ⟨"is_store", ["value", "d", "points", "point"], 1, b_13, [(1, [], [.at 0])]⟩
/-- look_at_store -/
def b_14 : Ss :=
    (.cons (.iff (.not (.cal 13 0 (.cons (.var 0) .nil) .nil))
      (.cons (.rai 0 (.cst .non)) .nil) .nil) .nil)
def d_14 : Fd := ⟨"look_at_store", ["value"], 1, b_14, [(1, [], [.at 0])]⟩
/-- places_of -/
def b_15 : Ss :=
    (.cons (.ret (.com (.nm 1) (.seq (.idx (.var 0) (.cst (.int 2)))) none (.cal 9 0 (.cons (.var 1) .nil) .nil))) .nil)
def d_15 : Fd := ⟨"places_of", ["store", "point"], 1, b_15, [(1, [], [.at 0])]⟩
/-- table_of -/
def b_16 : Ss :=
    (.cons (.asg (.nm 1) (.cal 15 0 (.cons (.var 0) .nil) .nil))
    (.cons (.ret (.com (.nm 3) (.seq (.var 1)) none (.com (.nm 2) (.seq (.var 1)) none (.idx (.cal 12 0 (.cons (.var 3) (.cons (.var 2) .nil)) .nil) (.cst (.int 0)))))) .nil))
def d_16 : Fd := ⟨"table_of", ["store", "places", "other", "one"], 1, b_16, [(1, [], [.at 0])]⟩
/-- ratio_of -/
def b_17 : Ss :=
    (.cons (.asg (.tp [2, 3]) (.tup (.cons (.blt .sum (.cons (.com (.nm 4) (.seq (.var 0)) none (.blt .sum (.cons (.var 4) .nil))) .nil)) (.cons (.blt .sum (.cons (.com (.nm 4) (.seq (.var 1)) none (.blt .sum (.cons (.var 4) .nil))) .nil)) .nil))))
    (.cons (.ret (.ife (.cmp .eq (.var 2) (.cst (.int 0))) (.glo 2) (.cal 6 0 (.cons (.tup (.cons (.var 3) (.cons (.cst (.int 1)) .nil))) (.cons (.tup (.cons (.var 2) (.cons (.cst (.int 1)) .nil))) .nil)) .nil))) .nil))
def d_17 : Fd := ⟨"ratio_of", ["one", "other", "mine", "yours", "row"], 2, b_17, [(2, [], [.at 0, .at 1])]⟩
/-- may_follow -/
def b_18 : Ss :=
    (.cons (.iff (.cmp .inn (.var 4) (.var 3))
      (.cons (.ret (.cst (.bl false))) .nil) .nil)
    (.cons (.asg (.nm 5) (.blt .len (.cons (.var 3) .nil)))
    (.cons (.for (.tp [6, 7]) (.enu (.var 3))
      (.cons (.iff (.cmp .ne (.bin .mul (.idx (.idx (.var 1) (.var 4)) (.var 7)) (.idx (.var 2) (.cst (.int 1)))) (.bin .mul (.idx (.idx (.var 0) (.var 5)) (.var 6)) (.idx (.var 2) (.cst (.int 0)))))
        (.cons (.ret (.cst (.bl false))) .nil) .nil) .nil))
    (.cons (.ret (.cst (.bl true))) .nil))))
def d_18 : Fd := ⟨"may_follow", ["one", "other", "ratio", "row", "number", "at", "early", "mate"], 5, b_18, [(5, [], [.at 0, .at 1, .at 2, .at 3, .at 4])]⟩
/-- fits_of -/
def b_19 : Ss :=
    (.cons (.asg (.nm 3) (.lst (.cons (.lst .nil) .nil)))
    (.cons (.for (.nm 4) (.seq (.var 0))
      (.cons (.asg (.nm 5) (.lst .nil))
      (.cons (.for (.nm 6) (.seq (.var 3))
        (.cons (.asg (.nm 7) (.com (.nm 8) (.rg1 (.blt .len (.cons (.var 1) .nil))) (some (.cal 18 0 (.cons (.var 0) (.cons (.var 1) (.cons (.var 2) (.cons (.var 6) (.cons (.var 8) .nil))))) .nil)) (.var 8)))
        (.cons (.exp (.mth .extend (.var 5) (.cons (.com (.nm 8) (.seq (.var 7)) none (.bin .add (.var 6) (.lst (.cons (.var 8) .nil)))) .nil))) .nil)))
      (.cons (.asg (.nm 3) (.var 5)) .nil))))
    (.cons (.ret (.var 3)) .nil)))
def d_19 : Fd := ⟨"fits_of", ["one", "other", "ratio", "found", "_", "longer", "row", "numbers", "number"], 3, b_19, [(3, [], [.at 0, .at 1, .at 2])]⟩
/-- fit_of -/
def b_20 : Ss :=
    (.cons (.exp (.cal 14 0 (.cons (.var 0) .nil) .nil))
    (.cons (.exp (.cal 14 0 (.cons (.var 1) .nil) .nil))
    (.cons (.iff (.cmp .ne (.blt .len (.cons (.idx (.var 0) (.cst (.int 2))) .nil)) (.blt .len (.cons (.idx (.var 1) (.cst (.int 2))) .nil)))
      (.cons (.rai 0 (.cst .non)) .nil) .nil)
    (.cons (.asg (.tp [2, 3]) (.tup (.cons (.cal 16 0 (.cons (.var 0) .nil) .nil) (.cons (.cal 16 0 (.cons (.var 1) .nil) .nil) .nil))))
    (.cons (.asg (.nm 4) (.cal 17 0 (.cons (.var 2) (.cons (.var 3) .nil)) .nil))
    (.cons (.asg (.nm 5) (.cal 19 0 (.cons (.var 2) (.cons (.var 3) (.cons (.var 4) .nil))) .nil))
    (.cons (.ret (.ife (.cmp .eq (.var 5) (.lst .nil)) (.cst (.non)) (.tup (.cons (.idx (.var 5) (.cst (.int 0))) (.cons (.var 4) .nil))))) .nil)))))))
def d_20 : Fd := ⟨"fit_of", ["one", "other", "mine", "yours", "ratio", "fits"], 2, b_20, [(2, [], [.at 0, .at 1]), (0, ["other", "one"], [.at 1, .at 0])]⟩
/-- symmetries -/
def b_21 : Ss :=
    (.cons (.exp (.cal 14 0 (.cons (.var 0) .nil) .nil))
    (.cons (.asg (.nm 1) (.cal 16 0 (.cons (.var 0) .nil) .nil))
    (.cons (.ret (.cal 19 0 (.cons (.var 1) (.cons (.var 1) (.cons (.glo 2) .nil))) .nil)) .nil)))
def d_21 : Fd := ⟨"symmetries", ["store", "table"], 1, b_21, [(1, [], [.at 0]), (0, ["store"], [.at 0])]⟩
/-- _law_table -/
def b_22 : Ss :=
    (.cons (.ret (.com (.nm 4) (.seq (.idx (.var 0) (.cst (.int 2)))) none (.com (.nm 3) (.seq (.idx (.var 0) (.cst (.int 2)))) none (.blt .sum (.cons (.com (.tp [1, 2]) (.zip (.var 4) (.var 3)) none (.bin .mul (.blt .int (.cons (.bin .sub (.var 1) (.var 2)) .nil)) (.blt .int (.cons (.bin .sub (.var 1) (.var 2)) .nil)))) .nil))))) .nil)
def d_22 : Fd := ⟨"_law_table", ["store", "mine", "yours", "other", "one"], 1, b_22, [(1, [], [.at 0])]⟩
/-- _law_goes -/
def b_23 : Ss :=
    (.cons (.iff (.cmp .inn (.var 4) (.var 3))
      (.cons (.ret (.cst (.bl false))) .nil) .nil)
    (.cons (.ret (.cmp .eq (.com (.tp [5, 6]) (.enu (.var 3)) (some (.cmp .ne (.bin .mul (.idx (.idx (.var 0) (.blt .len (.cons (.var 3) .nil))) (.var 5)) (.idx (.var 2) (.cst (.int 0)))) (.bin .mul (.idx (.idx (.var 1) (.var 4)) (.var 6)) (.idx (.var 2) (.cst (.int 1)))))) (.cst (.int 1))) (.lst .nil))) .nil))
def d_23 : Fd := ⟨"_law_goes", ["one", "other", "ratio", "row", "number", "at", "mate"], 5, b_23, [(5, [], [.at 0, .at 1, .at 2, .at 3, .at 4])]⟩
/-- _law_fits -/
def b_24 : Ss :=
    (.cons (.asg (.nm 3) (.lst (.cons (.lst .nil) .nil)))
    (.cons (.for (.nm 4) (.seq (.var 0))
      (.cons (.asg (.nm 3) (.blt .sum (.cons (.com (.nm 6) (.seq (.var 3)) none (.com (.nm 5) (.rg1 (.blt .len (.cons (.var 1) .nil))) (some (.cal 23 0 (.cons (.var 0) (.cons (.var 1) (.cons (.var 2) (.cons (.var 6) (.cons (.var 5) .nil))))) .nil)) (.bin .add (.var 6) (.lst (.cons (.var 5) .nil))))) (.cons (.lst .nil) .nil)))) .nil))
    (.cons (.ret (.var 3)) .nil)))
def d_24 : Fd := ⟨"_law_fits", ["one", "other", "ratio", "rows", "point", "number", "row"], 3, b_24, [(3, [], [.at 0, .at 1, .at 2])]⟩
/-- _law_ratio -/
def b_25 : Ss :=
    (.cons (.asg (.tp [2, 3]) (.tup (.cons (.blt .sum (.cons (.com (.nm 4) (.seq (.var 0)) none (.blt .sum (.cons (.var 4) .nil))) .nil)) (.cons (.blt .sum (.cons (.com (.nm 4) (.seq (.var 1)) none (.blt .sum (.cons (.var 4) .nil))) .nil)) .nil))))
    (.cons (.ret (.ife (.cmp .gt (.var 2) (.cst (.int 0))) (.cal 30 0 (.cons (.var 3) (.cons (.var 2) .nil)) .nil) (.tup (.cons (.cst (.int 1)) (.cons (.cst (.int 1)) .nil))))) .nil))
def d_25 : Fd := ⟨"_law_ratio", ["one", "other", "mine", "yours", "row"], 2, b_25, [(2, [], [.at 0, .at 1])]⟩
/-- _law_shaped -/
def b_26 : Ss :=
    (.cons (.asg (.tp [1, 2]) (.tup (.cons (.cal 35 0 (.cons (.var 0) (.cons (.cst (.int 4)) .nil)) .nil) (.cons (.bin .add (.cst (.int 1)) (.cal 35 0 (.cons (.var 0) (.cons (.cst (.int 3)) .nil)) .nil)) .nil))))
    (.cons (.iff (.cmp .eq (.var 1) (.cst (.int 0)))
      (.cons (.asg (.nm 3) (.lst (.cons (.lst .nil) .nil)))
      (.cons (.for (.nm 4) (.rg1 (.var 2))
        (.cons (.asg (.nm 3) (.blt .sum (.cons (.com (.nm 6) (.seq (.var 3)) none (.com (.nm 5) (.seq (.lst (.cons (.cst (.int 0)) (.cons (.bin .add (.cst (.int 1)) (.cal 35 0 (.cons (.var 0) (.cons (.cst (.int 2)) .nil)) .nil)) .nil)))) none (.bin .add (.var 6) (.lst (.cons (.var 5) .nil))))) (.cons (.lst .nil) .nil)))) .nil))
      (.cons (.ret (.tup (.cons (.cst (.str "store")) (.cons (.var 2) (.cons (.slc (.cal 31 0 (.cons (.var 0) (.cons (.var 3) .nil)) .nil) none (some (.bin .add (.cst (.int 1)) (.cal 35 0 (.cons (.var 0) (.cons (.blt .len (.cons (.var 3) .nil)) .nil)) .nil)))) .nil))))) .nil))) .nil)
    (.cons (.iff (.cmp .eq (.var 1) (.cst (.int 1)))
      (.cons (.ret (.tup (.cons (.cst (.str "store")) (.cons (.var 2) (.cons (.com (.nm 7) (.rg1 (.bin .add (.cst (.int 1)) (.cal 35 0 (.cons (.var 0) (.cons (.cst (.int 6)) .nil)) .nil))) none (.com (.nm 4) (.rg1 (.var 2)) none (.bin .mul (.var 7) (.bin .add (.var 4) (.cst (.int 1)))))) .nil))))) .nil) .nil)
    (.cons (.asg (.tp [8, 3]) (.tup (.cons (.cal 36 0 (.cons (.var 0) (.cons (.lst (.cons (.cst (.int 1)) (.cons (.cst (.int 2)) (.cons (.cst (.int 3)) (.cons (.cst (.int 250)) .nil))))) .nil)) .nil) (.cons (.lst .nil) .nil))))
    (.cons (.for (.nm 9) (.rg1 (.bin .add (.cst (.int 1)) (.cal 35 0 (.cons (.var 0) (.cons (.cst (.int 7)) .nil)) .nil)))
      (.cons (.asg (.nm 6) (.com (.nm 4) (.rg1 (.var 2)) none (.bin .sub (.cal 35 0 (.cons (.var 0) (.cons (.bin .add (.bin .mul (.cst (.int 2)) (.var 8)) (.cst (.int 1))) .nil)) .nil) (.var 8))))
      (.cons (.asg (.nm 3) (.bin .add (.var 3) (.bin .mul (.lst (.cons (.var 6) .nil)) (.blt .int (.cons (.cmp .nin (.var 6) (.var 3)) .nil))))) .nil)))
    (.cons (.ret (.tup (.cons (.cst (.str "store")) (.cons (.var 2) (.cons (.var 3) .nil))))) .nil))))))
def d_26 : Fd := ⟨"_law_shaped", ["purse", "way", "d", "points", "at", "side", "point", "step", "wide", "turn"], 1, b_26, [(1, [], [.at 0])]⟩
/-- _law_moved_store -/
def b_27 : Ss :=
    (.cons (.asg (.tp [3, 4, 5]) (.tup (.cons (.idx (.var 1) (.cst (.int 1))) (.cons (.com (.nm 6) (.rg1 (.idx (.var 1) (.cst (.int 1)))) none (.bin .sub (.bin .mul (.cst (.int 2)) (.cal 35 0 (.cons (.var 0) (.cons (.cst (.int 2)) .nil)) .nil)) (.cst (.int 1)))) (.cons (.cal 31 0 (.cons (.var 0) (.cons (.lr1 (.idx (.var 1) (.cst (.int 1)))) .nil)) .nil) .nil)))))
    (.cons (.asg (.nm 7) (.com (.nm 8) (.seq (.idx (.var 1) (.cst (.int 2)))) none (.com (.nm 6) (.rg1 (.var 3)) none (.bin .add (.bin .mul (.bin .mul (.idx (.var 4) (.var 6)) (.var 2)) (.idx (.var 8) (.idx (.var 5) (.var 6)))) (.var 6)))))
    (.cons (.ret (.tup (.cons (.cst (.str "store")) (.cons (.var 3) (.cons (.cal 31 0 (.cons (.var 0) (.cons (.var 7) .nil)) .nil) .nil))))) .nil)))
def d_27 : Fd := ⟨"_law_moved_store", ["purse", "store", "times_v", "d", "flip", "order", "at", "points", "point"], 3, b_27, [(3, [], [.at 0, .at 1, .at 2])]⟩
/-- _law_others -/
def b_28 : Ss :=
    (.cons (.asg (.nm 2) (.idx (.var 1) (.cst (.int 2))))
    (.cons (.asg (.nm 3) (.lst (.cons (.var 1) (.cons (.cal 27 0 (.cons (.var 0) (.cons (.var 1) (.cons (.cst (.int 1)) .nil))) .nil) (.cons (.cal 27 0 (.cons (.var 0) (.cons (.var 1) (.cons (.bin .add (.cst (.int 1)) (.cal 35 0 (.cons (.var 0) (.cons (.cst (.int 3)) .nil)) .nil)) .nil))) .nil) (.cons (.tup (.cons (.cst (.str "store")) (.cons (.idx (.var 1) (.cst (.int 1))) (.cons (.rev (.var 2)) .nil)))) .nil))))))
    (.cons (.iff (.cmp .lt (.idx (.var 1) (.cst (.int 1))) (.cst (.int 3)))
      (.cons (.exp (.mth .append (.var 3) (.cons (.tup (.cons (.cst (.str "store")) (.cons (.bin .add (.idx (.var 1) (.cst (.int 1))) (.cst (.int 1))) (.cons (.com (.nm 4) (.seq (.var 2)) none (.bin .add (.var 4) (.lst (.cons (.cst (.int 7)) .nil)))) .nil)))) .nil))) .nil) .nil)
    (.cons (.asg (.nm 5) (.bin .add (.slc (.var 2) none (some (.neg (.cst (.int 1))))) (.lst (.cons (.com (.nm 6) (.seq (.idx (.var 2) (.neg (.cst (.int 1))))) none (.bin .add (.var 6) (.cst (.int 1)))) .nil))))
    (.cons (.asg (.nm 3) (.bin .add (.var 3) (.bin .mul (.lst (.cons (.tup (.cons (.cst (.str "store")) (.cons (.idx (.var 1) (.cst (.int 1))) (.cons (.var 5) .nil)))) .nil)) (.blt .int (.cons (.cmp .nin (.idx (.var 5) (.neg (.cst (.int 1)))) (.slc (.var 5) none (some (.neg (.cst (.int 1)))))) .nil)))))
    (.cons (.asg (.nm 7) (.com (.nm 8) (.rg1 (.blt .len (.cons (.var 2) .nil))) none (.lst (.cons (.var 8) (.cons (.blt .int (.cons (.cmp .eq (.var 8) (.cst (.int 2))) .nil)) .nil)))))
    (.cons (.ret (.bin .add (.var 3) (.lst (.cons (.tup (.cons (.cst (.str "store")) (.cons (.cst (.int 2)) (.cons (.var 7) .nil)))) (.cons (.tup (.cons (.cst (.str "store")) (.cons (.cst (.int 1)) (.cons (.com (.nm 8) (.rg1 (.blt .len (.cons (.var 2) .nil))) none (.lst (.cons (.bin .mul (.var 8) (.var 8)) .nil))) .nil)))) .nil))))) .nil)))))))
def d_28 : Fd := ⟨"_law_others", ["purse", "store", "points", "found", "point", "dent", "number", "beside", "step"], 2, b_28, [(2, [], [.at 0, .at 1])]⟩
/-- _law_divisor -/
def b_29 : Ss :=
    (.cons (.whl (.cmp .ne (.var 1) (.cst (.int 0)))
      (.cons (.asg (.tp [0, 1]) (.tup (.cons (.var 1) (.cons (.bin .mod (.blt .int (.cons (.var 0) .nil)) (.var 1)) .nil)))) .nil))
    (.cons (.ret (.var 0)) .nil))
def d_29 : Fd := ⟨"_law_divisor", ["one", "other"], 2, b_29, [(2, [], [.at 0, .at 1])]⟩
/-- _law_by -/
def b_30 : Ss :=
    (.cons (.asg (.nm 2) (.cal 29 0 (.cons (.blt .abs (.cons (.var 0) .nil)) (.cons (.blt .abs (.cons (.var 1) .nil)) .nil)) .nil))
    (.cons (.ret (.ife (.cmp .gt (.var 1) (.cst (.int 0))) (.tup (.cons (.bin .fdv (.var 0) (.var 2)) (.cons (.bin .fdv (.var 1) (.var 2)) .nil))) (.tup (.cons (.bin .sub (.cst (.int 0)) (.bin .fdv (.var 0) (.var 2))) (.cons (.bin .sub (.cst (.int 0)) (.bin .fdv (.var 1) (.var 2))) .nil))))) .nil))
def d_30 : Fd := ⟨"_law_by", ["top", "under", "common"], 2, b_30, [(2, [], [.at 0, .at 1])]⟩
/-- _law_shuffled -/
def b_31 : Ss :=
    (.cons (.asg (.tp [2, 3]) (.tup (.cons (.blt .list (.cons (.var 1) .nil)) (.cons (.lst .nil) .nil))))
    (.cons (.for (.nm 4) (.seq (.var 1))
      (.cons (.exp (.mth .append (.var 3) (.cons (.mth .pop (.var 2) (.cons (.cal 35 0 (.cons (.var 0) (.cons (.blt .len (.cons (.var 2) .nil)) .nil)) .nil) .nil)) .nil))) .nil))
    (.cons (.ret (.var 3)) .nil)))
def d_31 : Fd := ⟨"_law_shuffled", ["purse", "things", "left", "found", "thing"], 2, b_31, [(2, [], [.at 0, .at 1])]⟩
/-- _law_spoilt -/
def b_32 : Ss :=
    (.cons (.iff (.isi (.var 0) [.tuple] false)
      (.cons (.ret (.blt .all (.cons (.com (.nm 1) (.seq (.var 0)) none (.cal 32 0 (.cons (.var 1) .nil) .nil)) .nil))) .nil) .nil)
    (.cons (.iff (.not (.isi (.var 0) [.list] false))
      (.cons (.ret (.cst (.bl true))) .nil) .nil)
    (.cons (.iff (.and (.cmp .ne (.var 0) (.lst .nil)) (.and (.isi (.idx (.var 0) (.neg (.cst (.int 1)))) [.str] false) (.cmp .eq (.idx (.var 0) (.neg (.cst (.int 1)))) (.cst (.str "spoilt")))))
      (.cons (.ret (.cst (.bl false))) .nil) .nil)
    (.cons (.asg (.nm 2) (.com (.nm 1) (.seq (.var 0)) none (.cal 32 0 (.cons (.var 1) .nil) .nil)))
    (.cons (.exp (.mth .append (.var 0) (.cons (.cst (.str "spoilt")) .nil)))
    (.cons (.ret (.blt .all (.cons (.var 2) .nil))) .nil))))))
def d_32 : Fd := ⟨"_law_spoilt", ["told", "part", "found"], 1, b_32, [(1, [], [.at 0])]⟩
/-- _law_same -/
def b_33 : Ss :=
    (.cons (.iff (.cmp .is (.var 1) (.cst (.non)))
      (.cons (.ret (.cmp .is (.var 0) (.cst (.non)))) .nil) .nil)
    (.cons (.iff (.cmp .is (.var 1) (.cst (.bl true)))
      (.cons (.ret (.cmp .is (.var 0) (.cst (.bl true)))) .nil) .nil)
    (.cons (.iff (.cmp .is (.var 1) (.cst (.bl false)))
      (.cons (.ret (.cmp .is (.var 0) (.cst (.bl false)))) .nil) .nil)
    (.cons (.iff (.isi (.var 1) [.list, .tuple] true)
      (.cons (.asg (.nm 2) (.ife (.isi (.var 1) [.list] false) (.isi (.var 0) [.list] false) (.isi (.var 0) [.tuple] false)))
      (.cons (.ret (.and (.var 2) (.and (.cmp .eq (.blt .len (.cons (.var 0) .nil)) (.blt .len (.cons (.var 1) .nil))) (.blt .all (.cons (.com (.tp [3, 4]) (.zip (.var 0) (.var 1)) none (.cal 33 0 (.cons (.var 3) (.cons (.var 4) .nil)) .nil)) .nil))))) .nil)) .nil)
    (.cons (.iff (.isi (.var 1) [.int] false)
      (.cons (.ret (.and (.isi (.var 0) [.int] false) (.and (.not (.isi (.var 0) [.bool] false)) (.cmp .eq (.var 0) (.var 1))))) .nil) .nil)
    (.cons (.ret (.and (.isi (.var 0) [.str] false) (.cmp .eq (.var 0) (.var 1)))) .nil))))))
def d_33 : Fd := ⟨"_law_same", ["told", "due", "alike", "one", "other"], 2, b_33, [(2, [], [.at 0, .at 1])]⟩
/-- _law_purse -/
def b_34 : Ss :=
    (.cons (.asg (.nm 1) (.cst (.int 7)))
    (.cons (.for (.nm 2) (.seq (.slc (.var 0) none (some (.cst (.int 63)))))
      (.cons (.asg (.nm 1) (.bin .mod (.blt .int (.cons (.bin .add (.bin .mul (.var 1) (.cst (.int 31))) (.var 2)) .nil)) (.cst (.int 2147483647)))) .nil))
    (.cons (.ret (.lst (.cons (.com (.nm 2) (.seq (.slc (.var 0) none (some (.cst (.int 63))))) (some (.cmp .ge (.var 2) (.bin .pow (.cst (.int 10)) (.cst (.int 18))))) (.var 2)) (.cons (.cst (.int 0)) (.cons (.cst (.int 0)) (.cons (.cst (.int 0)) (.cons (.var 1) .nil))))))) .nil)))
def d_34 : Fd := ⟨"_law_purse", ["script", "seed", "cell"], 1, b_34, [(1, [], [.at 0])]⟩
/-- _law_draw -/
def b_35 : Ss :=
    (.cons (.iff (.and (.cmp .lt (.idx (.var 0) (.cst (.int 2))) (.var 1)) (.cmp .lt (.idx (.var 0) (.cst (.int 1))) (.blt .len (.cons (.idx (.var 0) (.cst (.int 0))) .nil))))
      (.cons (.put (.var 0) (.cst (.int 2)) (.idx (.idx (.var 0) (.cst (.int 0))) (.idx (.var 0) (.cst (.int 1)))))
      (.cons (.agi (.var 0) (.cst (.int 1)) .add (.cst (.int 1))) .nil)) .nil)
    (.cons (.iff (.cmp .ge (.idx (.var 0) (.cst (.int 2))) (.var 1))
      (.cons (.asg (.nm 2) (.bin .mod (.blt .int (.cons (.idx (.var 0) (.cst (.int 2))) .nil)) (.var 1)))
      (.cons (.put (.var 0) (.cst (.int 2)) (.bin .fdv (.idx (.var 0) (.cst (.int 2))) (.var 1)))
      (.cons (.ret (.var 2)) .nil))) .nil)
    (.cons (.agi (.var 0) (.cst (.int 3)) .add (.cst (.int 1)))
    (.cons (.asg (.nm 3) (.bin .mod (.blt .int (.cons (.bin .mul (.bin .add (.bin .mul (.idx (.var 0) (.cst (.int 3))) (.idx (.var 0) (.cst (.int 3)))) (.idx (.var 0) (.cst (.int 4)))) (.cst (.int 48271))) .nil)) (.cst (.int 2147483629))))
    (.cons (.ret (.bin .mod (.blt .int (.cons (.bin .mod (.blt .int (.cons (.bin .mul (.var 3) (.var 3)) .nil)) (.cst (.int 2147483587))) .nil)) (.var 1))) .nil)))))
def d_35 : Fd := ⟨"_law_draw", ["purse", "many", "told", "stirred"], 2, b_35, [(2, [], [.at 0, .at 1])]⟩
/-- _law_pick -/
def b_36 : Ss :=
    (.cons (.ret (.idx (.var 1) (.cal 35 0 (.cons (.var 0) (.cons (.blt .len (.cons (.var 1) .nil)) .nil)) .nil))) .nil)
def d_36 : Fd := ⟨"_law_pick", ["purse", "things"], 2, b_36, [(2, [], [.at 0, .at 1])]⟩
/-- law -/
def b_37 : Ss :=
    (.cons (.asg (.nm 1) (.cal 34 0 (.cons (.var 0) .nil) .nil))
    (.cons (.for (.nm 2) (.rg1 (.cst (.int 6)))
      (.cons (.asg (.nm 3) (.cal 26 0 (.cons (.var 1) .nil) .nil))
      (.cons (.asg (.tp [4, 5]) (.tup (.cons (.blt .repr (.cons (.var 3) .nil)) (.cons (.cal 22 0 (.cons (.var 3) .nil) .nil) .nil))))
      (.cons (.for (.tp [6, 7]) (.enu (.cal 28 0 (.cons (.var 1) (.cons (.var 3) .nil)) .nil))
        (.cons (.asg (.tp [8, 9]) (.tup (.cons (.cal 22 0 (.cons (.var 7) .nil) .nil) (.cons (.blt .repr (.cons (.var 7) .nil)) .nil))))
        (.cons (.asg (.nm 10) (.cal 25 0 (.cons (.var 5) (.cons (.var 8) .nil)) .nil))
        (.cons (.asg (.nm 11) (.cal 24 0 (.cons (.var 5) (.cons (.var 8) (.cons (.var 10) .nil))) .nil))
        (.cons (.asg (.nm 12) (.ife (.cmp .ne (.var 11) (.lst .nil)) (.tup (.cons (.idx (.var 11) (.cst (.int 0))) (.cons (.var 10) .nil))) (.cst (.non))))
        (.cons (.asg (.nm 13) (.cal 20 0 (.cons (.var 3) (.cons (.var 7) .nil)) .nil))
        (.cons (.iff (.or (.not (.cal 33 0 (.cons (.lst (.cons (.var 13) (.cons (.cal 20 1 .nil (.cons (.var 7) (.cons (.var 3) .nil))) .nil))) (.cons (.lst (.cons (.var 12) (.cons (.var 12) .nil))) .nil)) .nil)) (.or (.and (.cmp .lt (.var 6) (.cst (.int 4))) (.cmp .is (.var 12) (.cst (.non)))) (.cmp .ne (.blt .repr (.cons (.var 7) .nil)) (.var 9))))
          (.cons (.ret (.cst (.bl false))) .nil) .nil)
        (.cons (.iff (.or (.not (.cal 32 0 (.cons (.lst (.cons (.var 13) .nil)) .nil) .nil)) (.or (.not (.cal 33 0 (.cons (.cal 20 0 (.cons (.var 3) (.cons (.var 7) .nil)) .nil) (.cons (.var 12) .nil)) .nil)) (.cmp .ne (.cmp .is (.cal 20 0 (.cons (.var 7) (.cons (.var 3) .nil)) .nil) (.cst (.non))) (.cmp .is (.var 12) (.cst (.non))))))
          (.cons (.ret (.cst (.bl false))) .nil) .nil) .nil))))))))
      (.cons (.asg (.tp [12, 13]) (.tup (.cons (.cal 24 0 (.cons (.var 5) (.cons (.var 5) (.cons (.tup (.cons (.cst (.int 1)) (.cons (.cst (.int 1)) .nil))) .nil))) .nil) (.cons (.cal 21 0 (.cons (.var 3) .nil) .nil) .nil))))
      (.cons (.iff (.not (.cal 33 0 (.cons (.lst (.cons (.var 13) (.cons (.cal 21 1 .nil (.cons (.var 3) .nil)) .nil))) (.cons (.lst (.cons (.var 12) (.cons (.var 12) .nil))) .nil)) .nil))
        (.cons (.ret (.cst (.bl false))) .nil) .nil)
      (.cons (.for (.nm 2) (.rg1 (.cst (.int 6)))
        (.cons (.asg (.tp [14, 7]) (.tup (.cons (.cal 36 0 (.cons (.var 1) (.cons (.var 12) .nil)) .nil) (.cons (.cal 36 0 (.cons (.var 1) (.cons (.var 12) .nil)) .nil) .nil))))
        (.cons (.iff (.cmp .nin (.com (.nm 15) (.seq (.var 14)) none (.idx (.var 7) (.var 15))) (.var 13))
          (.cons (.ret (.cst (.bl false))) .nil) .nil) .nil)))
      (.cons (.iff (.or (.not (.cal 32 0 (.cons (.var 13) .nil) .nil)) (.or (.not (.cal 33 0 (.cons (.cal 21 0 (.cons (.var 3) .nil) .nil) (.cons (.var 12) .nil)) .nil)) (.cmp .ne (.blt .repr (.cons (.var 3) .nil)) (.var 4))))
        (.cons (.ret (.cst (.bl false))) .nil) .nil) .nil))))))))
    (.cons (.ret (.cmp .eq (.blt .len (.cons (.cal 21 0 (.cons (.tup (.cons (.cst (.str "store")) (.cons (.cst (.int 3)) (.cons (.lst (.cons (.lst (.cons (.cst (.int 1)) (.cons (.cst (.int 0)) (.cons (.cst (.int 0)) .nil)))) (.cons (.lst (.cons (.cst (.int 0)) (.cons (.cst (.int 1)) (.cons (.cst (.int 0)) .nil)))) (.cons (.lst (.cons (.cst (.int 0)) (.cons (.cst (.int 0)) (.cons (.cst (.int 1)) .nil)))) (.cons (.lst (.cons (.cst (.int 1)) (.cons (.cst (.int 1)) (.cons (.cst (.int 1)) .nil)))) .nil))))) .nil)))) .nil) .nil) .nil)) (.cst (.int 24)))) .nil)))
def d_37 : Fd := ⟨"law", ["script", "purse", "turn", "store", "kept", "table", "at", "other", "late", "written", "ratio", "fits", "due", "told", "one", "number"], 1, b_37, [(1, [], [.at 0])]⟩
def pg : Pg := ⟨[d_0, d_1, d_2, d_3, d_4, d_5, d_6, d_7, d_8, d_9, d_10, d_11, d_12, d_13, d_14, d_15, d_16, d_17, d_18, d_19, d_20, d_21, d_22, d_23, d_24, d_25, d_26, d_27, d_28, d_29, d_30, d_31, d_32, d_33, d_34, d_35, d_36, d_37], [("NONE", .tup [.int 0, .int 1]), ("MOST_WIDE", .int 3), ("ONE", .tup [.int 1, .int 1])], 1000001⟩
@[simp] theorem ar_0_0 (n : Nat) : (cfg pg n).arr 0 0 = some [.at 0] := rfl
@[simp] theorem ar_1_0 (n : Nat) : (cfg pg n).arr 1 0 = some [.at 0, .at 1] := rfl
@[simp] theorem ar_2_0 (n : Nat) : (cfg pg n).arr 2 0 = some [.at 0, .at 1] := rfl
@[simp] theorem ar_3_0 (n : Nat) : (cfg pg n).arr 3 0 = some [.at 0, .at 1] := rfl
@[simp] theorem ar_4_0 (n : Nat) : (cfg pg n).arr 4 0 = some [.at 0, .at 1] := rfl
@[simp] theorem ar_5_0 (n : Nat) : (cfg pg n).arr 5 0 = some [.at 0, .at 1] := rfl
@[simp] theorem ar_6_0 (n : Nat) : (cfg pg n).arr 6 0 = some [.at 0, .at 1] := rfl
@[simp] theorem ar_7_0 (n : Nat) : (cfg pg n).arr 7 0 = some [.at 0] := rfl
@[simp] theorem ar_8_0 (n : Nat) : (cfg pg n).arr 8 0 = some [.at 0, .at 1] := rfl
@[simp] theorem ar_9_0 (n : Nat) : (cfg pg n).arr 9 0 = some [.at 0] := rfl
@[simp] theorem ar_10_0 (n : Nat) : (cfg pg n).arr 10 0 = some [.at 0, .at 1] := rfl
@[simp] theorem ar_11_0 (n : Nat) : (cfg pg n).arr 11 0 = some [.at 0, .at 1] := rfl
@[simp] theorem ar_12_0 (n : Nat) : (cfg pg n).arr 12 0 = some [.at 0, .at 1] := rfl
@[simp] theorem ar_13_0 (n : Nat) : (cfg pg n).arr 13 0 = some [.at 0] := rfl
@[simp] theorem ar_14_0 (n : Nat) : (cfg pg n).arr 14 0 = some [.at 0] := rfl
@[simp] theorem ar_15_0 (n : Nat) : (cfg pg n).arr 15 0 = some [.at 0] := rfl
@[simp] theorem ar_16_0 (n : Nat) : (cfg pg n).arr 16 0 = some [.at 0] := rfl
@[simp] theorem ar_17_0 (n : Nat) : (cfg pg n).arr 17 0 = some [.at 0, .at 1] := rfl
@[simp] theorem ar_18_0 (n : Nat) : (cfg pg n).arr 18 0 = some [.at 0, .at 1, .at 2, .at 3, .at 4] := rfl
@[simp] theorem ar_19_0 (n : Nat) : (cfg pg n).arr 19 0 = some [.at 0, .at 1, .at 2] := rfl
@[simp] theorem ar_20_0 (n : Nat) : (cfg pg n).arr 20 0 = some [.at 0, .at 1] := rfl
@[simp] theorem ar_20_1 (n : Nat) : (cfg pg n).arr 20 1 = some [.at 1, .at 0] := rfl
@[simp] theorem ar_21_0 (n : Nat) : (cfg pg n).arr 21 0 = some [.at 0] := rfl
@[simp] theorem ar_21_1 (n : Nat) : (cfg pg n).arr 21 1 = some [.at 0] := rfl
@[simp] theorem ar_22_0 (n : Nat) : (cfg pg n).arr 22 0 = some [.at 0] := rfl
@[simp] theorem ar_23_0 (n : Nat) : (cfg pg n).arr 23 0 = some [.at 0, .at 1, .at 2, .at 3, .at 4] := rfl
@[simp] theorem ar_24_0 (n : Nat) : (cfg pg n).arr 24 0 = some [.at 0, .at 1, .at 2] := rfl
@[simp] theorem ar_25_0 (n : Nat) : (cfg pg n).arr 25 0 = some [.at 0, .at 1] := rfl
@[simp] theorem ar_26_0 (n : Nat) : (cfg pg n).arr 26 0 = some [.at 0] := rfl
@[simp] theorem ar_27_0 (n : Nat) : (cfg pg n).arr 27 0 = some [.at 0, .at 1, .at 2] := rfl
@[simp] theorem ar_28_0 (n : Nat) : (cfg pg n).arr 28 0 = some [.at 0, .at 1] := rfl
@[simp] theorem ar_29_0 (n : Nat) : (cfg pg n).arr 29 0 = some [.at 0, .at 1] := rfl
@[simp] theorem ar_30_0 (n : Nat) : (cfg pg n).arr 30 0 = some [.at 0, .at 1] := rfl
@[simp] theorem ar_31_0 (n : Nat) : (cfg pg n).arr 31 0 = some [.at 0, .at 1] := rfl
@[simp] theorem ar_32_0 (n : Nat) : (cfg pg n).arr 32 0 = some [.at 0] := rfl
@[simp] theorem ar_33_0 (n : Nat) : (cfg pg n).arr 33 0 = some [.at 0, .at 1] := rfl
@[simp] theorem ar_34_0 (n : Nat) : (cfg pg n).arr 34 0 = some [.at 0] := rfl
@[simp] theorem ar_35_0 (n : Nat) : (cfg pg n).arr 35 0 = some [.at 0, .at 1] := rfl
@[simp] theorem ar_36_0 (n : Nat) : (cfg pg n).arr 36 0 = some [.at 0, .at 1] := rfl
@[simp] theorem ar_37_0 (n : Nat) : (cfg pg n).arr 37 0 = some [.at 0] := rfl
@[simp] theorem gl_0 (n : Nat) : (cfg pg n).glo 0 = some (.tup [.int 0, .int 1]) := rfl
@[simp] theorem gl_1 (n : Nat) : (cfg pg n).glo 1 = some (.int 3) := rfl
@[simp] theorem gl_2 (n : Nat) : (cfg pg n).glo 2 = some (.tup [.int 1, .int 1]) := rfl
end K08


set_option Elab.async false
set_option linter.all false
set_option maxRecDepth 100000
set_option autoImplicit false
set_option maxHeartbeats 8000000
namespace K08
open PySem MP TM
def pr : Pri PS := ⟨fun i => (if i = 35 then some hdraw else none), 20, fun i => i == 32⟩
@[simp] theorem tar_0_0 (n : Nat) : (tcf pg pr n).arr 0 0 = some [.at 0] := rfl
theorem go_0 {n : Nat} {args : List TV} {s : PS} (hl : args.length = 1) : trun pg pr (n + 1) 0 args s = (texs (tcf pg pr n) pg.most b_0 (tin0 args 0) s).fin := trun_go (⟨d_0, rfl, rfl, rfl, rfl⟩ : IsD pg 0 1 1 b_0) rfl hl
@[simp] theorem tcc_0 (n sh : Nat) (es ks : Es) (m : TSl) (s : PS) : tcond (tcf pg pr n) (.cal 0 sh es ks) m s = (tev (tcf pg pr n) (.cal 0 sh es ks) m s).bnd (kcnd m) := tc_cal _ m s rfl
@[simp] theorem tar_1_0 (n : Nat) : (tcf pg pr n).arr 1 0 = some [.at 0, .at 1] := rfl
theorem go_1 {n : Nat} {args : List TV} {s : PS} (hl : args.length = 2) : trun pg pr (n + 1) 1 args s = (texs (tcf pg pr n) pg.most b_1 (tin0 args 0) s).fin := trun_go (⟨d_1, rfl, rfl, rfl, rfl⟩ : IsD pg 1 2 2 b_1) rfl hl
@[simp] theorem tcc_1 (n sh : Nat) (es ks : Es) (m : TSl) (s : PS) : tcond (tcf pg pr n) (.cal 1 sh es ks) m s = (tev (tcf pg pr n) (.cal 1 sh es ks) m s).bnd (kcnd m) := tc_cal _ m s rfl
@[simp] theorem tar_2_0 (n : Nat) : (tcf pg pr n).arr 2 0 = some [.at 0, .at 1] := rfl
theorem go_2 {n : Nat} {args : List TV} {s : PS} (hl : args.length = 2) : trun pg pr (n + 1) 2 args s = (texs (tcf pg pr n) pg.most b_2 (tin0 args 1) s).fin := trun_go (⟨d_2, rfl, rfl, rfl, rfl⟩ : IsD pg 2 2 3 b_2) rfl hl
@[simp] theorem tcc_2 (n sh : Nat) (es ks : Es) (m : TSl) (s : PS) : tcond (tcf pg pr n) (.cal 2 sh es ks) m s = (tev (tcf pg pr n) (.cal 2 sh es ks) m s).bnd (kcnd m) := tc_cal _ m s rfl
@[simp] theorem tar_3_0 (n : Nat) : (tcf pg pr n).arr 3 0 = some [.at 0, .at 1] := rfl
theorem go_3 {n : Nat} {args : List TV} {s : PS} (hl : args.length = 2) : trun pg pr (n + 1) 3 args s = (texs (tcf pg pr n) pg.most b_3 (tin0 args 0) s).fin := trun_go (⟨d_3, rfl, rfl, rfl, rfl⟩ : IsD pg 3 2 2 b_3) rfl hl
@[simp] theorem tcc_3 (n sh : Nat) (es ks : Es) (m : TSl) (s : PS) : tcond (tcf pg pr n) (.cal 3 sh es ks) m s = (tev (tcf pg pr n) (.cal 3 sh es ks) m s).bnd (kcnd m) := tc_cal _ m s rfl
@[simp] theorem tar_4_0 (n : Nat) : (tcf pg pr n).arr 4 0 = some [.at 0, .at 1] := rfl
theorem go_4 {n : Nat} {args : List TV} {s : PS} (hl : args.length = 2) : trun pg pr (n + 1) 4 args s = (texs (tcf pg pr n) pg.most b_4 (tin0 args 0) s).fin := trun_go (⟨d_4, rfl, rfl, rfl, rfl⟩ : IsD pg 4 2 2 b_4) rfl hl
@[simp] theorem tcc_4 (n sh : Nat) (es ks : Es) (m : TSl) (s : PS) : tcond (tcf pg pr n) (.cal 4 sh es ks) m s = (tev (tcf pg pr n) (.cal 4 sh es ks) m s).bnd (kcnd m) := tc_cal _ m s rfl
@[simp] theorem tar_5_0 (n : Nat) : (tcf pg pr n).arr 5 0 = some [.at 0, .at 1] := rfl
theorem go_5 {n : Nat} {args : List TV} {s : PS} (hl : args.length = 2) : trun pg pr (n + 1) 5 args s = (texs (tcf pg pr n) pg.most b_5 (tin0 args 0) s).fin := trun_go (⟨d_5, rfl, rfl, rfl, rfl⟩ : IsD pg 5 2 2 b_5) rfl hl
@[simp] theorem tcc_5 (n sh : Nat) (es ks : Es) (m : TSl) (s : PS) : tcond (tcf pg pr n) (.cal 5 sh es ks) m s = (tev (tcf pg pr n) (.cal 5 sh es ks) m s).bnd (kcnd m) := tc_cal _ m s rfl
@[simp] theorem tar_6_0 (n : Nat) : (tcf pg pr n).arr 6 0 = some [.at 0, .at 1] := rfl
theorem go_6 {n : Nat} {args : List TV} {s : PS} (hl : args.length = 2) : trun pg pr (n + 1) 6 args s = (texs (tcf pg pr n) pg.most b_6 (tin0 args 0) s).fin := trun_go (⟨d_6, rfl, rfl, rfl, rfl⟩ : IsD pg 6 2 2 b_6) rfl hl
@[simp] theorem tcc_6 (n sh : Nat) (es ks : Es) (m : TSl) (s : PS) : tcond (tcf pg pr n) (.cal 6 sh es ks) m s = (tev (tcf pg pr n) (.cal 6 sh es ks) m s).bnd (kcnd m) := tc_cal _ m s rfl
@[simp] theorem tar_7_0 (n : Nat) : (tcf pg pr n).arr 7 0 = some [.at 0] := rfl
theorem go_7 {n : Nat} {args : List TV} {s : PS} (hl : args.length = 1) : trun pg pr (n + 1) 7 args s = (texs (tcf pg pr n) pg.most b_7 (tin0 args 2) s).fin := trun_go (⟨d_7, rfl, rfl, rfl, rfl⟩ : IsD pg 7 1 3 b_7) rfl hl
@[simp] theorem tcc_7 (n sh : Nat) (es ks : Es) (m : TSl) (s : PS) : tcond (tcf pg pr n) (.cal 7 sh es ks) m s = (tev (tcf pg pr n) (.cal 7 sh es ks) m s).bnd (kcnd m) := tc_cal _ m s rfl
@[simp] theorem tar_8_0 (n : Nat) : (tcf pg pr n).arr 8 0 = some [.at 0, .at 1] := rfl
theorem go_8 {n : Nat} {args : List TV} {s : PS} (hl : args.length = 2) : trun pg pr (n + 1) 8 args s = (texs (tcf pg pr n) pg.most b_8 (tin0 args 1) s).fin := trun_go (⟨d_8, rfl, rfl, rfl, rfl⟩ : IsD pg 8 2 3 b_8) rfl hl
@[simp] theorem tcc_8 (n sh : Nat) (es ks : Es) (m : TSl) (s : PS) : tcond (tcf pg pr n) (.cal 8 sh es ks) m s = (tev (tcf pg pr n) (.cal 8 sh es ks) m s).bnd (kcnd m) := tc_cal _ m s rfl
@[simp] theorem tar_9_0 (n : Nat) : (tcf pg pr n).arr 9 0 = some [.at 0] := rfl
theorem go_9 {n : Nat} {args : List TV} {s : PS} (hl : args.length = 1) : trun pg pr (n + 1) 9 args s = (texs (tcf pg pr n) pg.most b_9 (tin0 args 1) s).fin := trun_go (⟨d_9, rfl, rfl, rfl, rfl⟩ : IsD pg 9 1 2 b_9) rfl hl
@[simp] theorem tcc_9 (n sh : Nat) (es ks : Es) (m : TSl) (s : PS) : tcond (tcf pg pr n) (.cal 9 sh es ks) m s = (tev (tcf pg pr n) (.cal 9 sh es ks) m s).bnd (kcnd m) := tc_cal _ m s rfl
@[simp] theorem tar_10_0 (n : Nat) : (tcf pg pr n).arr 10 0 = some [.at 0, .at 1] := rfl
theorem go_10 {n : Nat} {args : List TV} {s : PS} (hl : args.length = 2) : trun pg pr (n + 1) 10 args s = (texs (tcf pg pr n) pg.most b_10 (tin0 args 2) s).fin := trun_go (⟨d_10, rfl, rfl, rfl, rfl⟩ : IsD pg 10 2 4 b_10) rfl hl
@[simp] theorem tcc_10 (n sh : Nat) (es ks : Es) (m : TSl) (s : PS) : tcond (tcf pg pr n) (.cal 10 sh es ks) m s = (tev (tcf pg pr n) (.cal 10 sh es ks) m s).bnd (kcnd m) := tc_cal _ m s rfl
@[simp] theorem tar_11_0 (n : Nat) : (tcf pg pr n).arr 11 0 = some [.at 0, .at 1] := rfl
theorem go_11 {n : Nat} {args : List TV} {s : PS} (hl : args.length = 2) : trun pg pr (n + 1) 11 args s = (texs (tcf pg pr n) pg.most b_11 (tin0 args 2) s).fin := trun_go (⟨d_11, rfl, rfl, rfl, rfl⟩ : IsD pg 11 2 4 b_11) rfl hl
@[simp] theorem tcc_11 (n sh : Nat) (es ks : Es) (m : TSl) (s : PS) : tcond (tcf pg pr n) (.cal 11 sh es ks) m s = (tev (tcf pg pr n) (.cal 11 sh es ks) m s).bnd (kcnd m) := tc_cal _ m s rfl
@[simp] theorem tar_12_0 (n : Nat) : (tcf pg pr n).arr 12 0 = some [.at 0, .at 1] := rfl
theorem go_12 {n : Nat} {args : List TV} {s : PS} (hl : args.length = 2) : trun pg pr (n + 1) 12 args s = (texs (tcf pg pr n) pg.most b_12 (tin0 args 1) s).fin := trun_go (⟨d_12, rfl, rfl, rfl, rfl⟩ : IsD pg 12 2 3 b_12) rfl hl
@[simp] theorem tcc_12 (n sh : Nat) (es ks : Es) (m : TSl) (s : PS) : tcond (tcf pg pr n) (.cal 12 sh es ks) m s = (tev (tcf pg pr n) (.cal 12 sh es ks) m s).bnd (kcnd m) := tc_cal _ m s rfl
@[simp] theorem tar_13_0 (n : Nat) : (tcf pg pr n).arr 13 0 = some [.at 0] := rfl
theorem go_13 {n : Nat} {args : List TV} {s : PS} (hl : args.length = 1) : trun pg pr (n + 1) 13 args s = (texs (tcf pg pr n) pg.most b_13 (tin0 args 3) s).fin := trun_go (⟨d_13, rfl, rfl, rfl, rfl⟩ : IsD pg 13 1 4 b_13) rfl hl
@[simp] theorem tcc_13 (n sh : Nat) (es ks : Es) (m : TSl) (s : PS) : tcond (tcf pg pr n) (.cal 13 sh es ks) m s = (tev (tcf pg pr n) (.cal 13 sh es ks) m s).bnd (kcnd m) := tc_cal _ m s rfl
@[simp] theorem tar_14_0 (n : Nat) : (tcf pg pr n).arr 14 0 = some [.at 0] := rfl
theorem go_14 {n : Nat} {args : List TV} {s : PS} (hl : args.length = 1) : trun pg pr (n + 1) 14 args s = (texs (tcf pg pr n) pg.most b_14 (tin0 args 0) s).fin := trun_go (⟨d_14, rfl, rfl, rfl, rfl⟩ : IsD pg 14 1 1 b_14) rfl hl
@[simp] theorem tcc_14 (n sh : Nat) (es ks : Es) (m : TSl) (s : PS) : tcond (tcf pg pr n) (.cal 14 sh es ks) m s = (tev (tcf pg pr n) (.cal 14 sh es ks) m s).bnd (kcnd m) := tc_cal _ m s rfl
@[simp] theorem tar_15_0 (n : Nat) : (tcf pg pr n).arr 15 0 = some [.at 0] := rfl
theorem go_15 {n : Nat} {args : List TV} {s : PS} (hl : args.length = 1) : trun pg pr (n + 1) 15 args s = (texs (tcf pg pr n) pg.most b_15 (tin0 args 1) s).fin := trun_go (⟨d_15, rfl, rfl, rfl, rfl⟩ : IsD pg 15 1 2 b_15) rfl hl
@[simp] theorem tcc_15 (n sh : Nat) (es ks : Es) (m : TSl) (s : PS) : tcond (tcf pg pr n) (.cal 15 sh es ks) m s = (tev (tcf pg pr n) (.cal 15 sh es ks) m s).bnd (kcnd m) := tc_cal _ m s rfl
@[simp] theorem tar_16_0 (n : Nat) : (tcf pg pr n).arr 16 0 = some [.at 0] := rfl
theorem go_16 {n : Nat} {args : List TV} {s : PS} (hl : args.length = 1) : trun pg pr (n + 1) 16 args s = (texs (tcf pg pr n) pg.most b_16 (tin0 args 3) s).fin := trun_go (⟨d_16, rfl, rfl, rfl, rfl⟩ : IsD pg 16 1 4 b_16) rfl hl
@[simp] theorem tcc_16 (n sh : Nat) (es ks : Es) (m : TSl) (s : PS) : tcond (tcf pg pr n) (.cal 16 sh es ks) m s = (tev (tcf pg pr n) (.cal 16 sh es ks) m s).bnd (kcnd m) := tc_cal _ m s rfl
@[simp] theorem tar_17_0 (n : Nat) : (tcf pg pr n).arr 17 0 = some [.at 0, .at 1] := rfl
theorem go_17 {n : Nat} {args : List TV} {s : PS} (hl : args.length = 2) : trun pg pr (n + 1) 17 args s = (texs (tcf pg pr n) pg.most b_17 (tin0 args 3) s).fin := trun_go (⟨d_17, rfl, rfl, rfl, rfl⟩ : IsD pg 17 2 5 b_17) rfl hl
@[simp] theorem tcc_17 (n sh : Nat) (es ks : Es) (m : TSl) (s : PS) : tcond (tcf pg pr n) (.cal 17 sh es ks) m s = (tev (tcf pg pr n) (.cal 17 sh es ks) m s).bnd (kcnd m) := tc_cal _ m s rfl
@[simp] theorem tar_18_0 (n : Nat) : (tcf pg pr n).arr 18 0 = some [.at 0, .at 1, .at 2, .at 3, .at 4] := rfl
theorem go_18 {n : Nat} {args : List TV} {s : PS} (hl : args.length = 5) : trun pg pr (n + 1) 18 args s = (texs (tcf pg pr n) pg.most b_18 (tin0 args 3) s).fin := trun_go (⟨d_18, rfl, rfl, rfl, rfl⟩ : IsD pg 18 5 8 b_18) rfl hl
@[simp] theorem tcc_18 (n sh : Nat) (es ks : Es) (m : TSl) (s : PS) : tcond (tcf pg pr n) (.cal 18 sh es ks) m s = (tev (tcf pg pr n) (.cal 18 sh es ks) m s).bnd (kcnd m) := tc_cal _ m s rfl
@[simp] theorem tar_19_0 (n : Nat) : (tcf pg pr n).arr 19 0 = some [.at 0, .at 1, .at 2] := rfl
theorem go_19 {n : Nat} {args : List TV} {s : PS} (hl : args.length = 3) : trun pg pr (n + 1) 19 args s = (texs (tcf pg pr n) pg.most b_19 (tin0 args 6) s).fin := trun_go (⟨d_19, rfl, rfl, rfl, rfl⟩ : IsD pg 19 3 9 b_19) rfl hl
@[simp] theorem tcc_19 (n sh : Nat) (es ks : Es) (m : TSl) (s : PS) : tcond (tcf pg pr n) (.cal 19 sh es ks) m s = (tev (tcf pg pr n) (.cal 19 sh es ks) m s).bnd (kcnd m) := tc_cal _ m s rfl
@[simp] theorem tar_20_0 (n : Nat) : (tcf pg pr n).arr 20 0 = some [.at 0, .at 1] := rfl
@[simp] theorem tar_20_1 (n : Nat) : (tcf pg pr n).arr 20 1 = some [.at 1, .at 0] := rfl
theorem go_20 {n : Nat} {args : List TV} {s : PS} (hl : args.length = 2) : trun pg pr (n + 1) 20 args s = (texs (tcf pg pr n) pg.most b_20 (tin0 args 4) s).fin := trun_go (⟨d_20, rfl, rfl, rfl, rfl⟩ : IsD pg 20 2 6 b_20) rfl hl
@[simp] theorem tcc_20 (n sh : Nat) (es ks : Es) (m : TSl) (s : PS) : tcond (tcf pg pr n) (.cal 20 sh es ks) m s = (tev (tcf pg pr n) (.cal 20 sh es ks) m s).bnd (kcnd m) := tc_cal _ m s rfl
@[simp] theorem tar_21_0 (n : Nat) : (tcf pg pr n).arr 21 0 = some [.at 0] := rfl
@[simp] theorem tar_21_1 (n : Nat) : (tcf pg pr n).arr 21 1 = some [.at 0] := rfl
theorem go_21 {n : Nat} {args : List TV} {s : PS} (hl : args.length = 1) : trun pg pr (n + 1) 21 args s = (texs (tcf pg pr n) pg.most b_21 (tin0 args 1) s).fin := trun_go (⟨d_21, rfl, rfl, rfl, rfl⟩ : IsD pg 21 1 2 b_21) rfl hl
@[simp] theorem tcc_21 (n sh : Nat) (es ks : Es) (m : TSl) (s : PS) : tcond (tcf pg pr n) (.cal 21 sh es ks) m s = (tev (tcf pg pr n) (.cal 21 sh es ks) m s).bnd (kcnd m) := tc_cal _ m s rfl
@[simp] theorem tar_22_0 (n : Nat) : (tcf pg pr n).arr 22 0 = some [.at 0] := rfl
theorem go_22 {n : Nat} {args : List TV} {s : PS} (hl : args.length = 1) : trun pg pr (n + 1) 22 args s = (texs (tcf pg pr n) pg.most b_22 (tin0 args 4) s).fin := trun_go (⟨d_22, rfl, rfl, rfl, rfl⟩ : IsD pg 22 1 5 b_22) rfl hl
@[simp] theorem tcc_22 (n sh : Nat) (es ks : Es) (m : TSl) (s : PS) : tcond (tcf pg pr n) (.cal 22 sh es ks) m s = (tev (tcf pg pr n) (.cal 22 sh es ks) m s).bnd (kcnd m) := tc_cal _ m s rfl
@[simp] theorem tar_23_0 (n : Nat) : (tcf pg pr n).arr 23 0 = some [.at 0, .at 1, .at 2, .at 3, .at 4] := rfl
theorem go_23 {n : Nat} {args : List TV} {s : PS} (hl : args.length = 5) : trun pg pr (n + 1) 23 args s = (texs (tcf pg pr n) pg.most b_23 (tin0 args 2) s).fin := trun_go (⟨d_23, rfl, rfl, rfl, rfl⟩ : IsD pg 23 5 7 b_23) rfl hl
@[simp] theorem tcc_23 (n sh : Nat) (es ks : Es) (m : TSl) (s : PS) : tcond (tcf pg pr n) (.cal 23 sh es ks) m s = (tev (tcf pg pr n) (.cal 23 sh es ks) m s).bnd (kcnd m) := tc_cal _ m s rfl
@[simp] theorem tar_24_0 (n : Nat) : (tcf pg pr n).arr 24 0 = some [.at 0, .at 1, .at 2] := rfl
theorem go_24 {n : Nat} {args : List TV} {s : PS} (hl : args.length = 3) : trun pg pr (n + 1) 24 args s = (texs (tcf pg pr n) pg.most b_24 (tin0 args 4) s).fin := trun_go (⟨d_24, rfl, rfl, rfl, rfl⟩ : IsD pg 24 3 7 b_24) rfl hl
@[simp] theorem tcc_24 (n sh : Nat) (es ks : Es) (m : TSl) (s : PS) : tcond (tcf pg pr n) (.cal 24 sh es ks) m s = (tev (tcf pg pr n) (.cal 24 sh es ks) m s).bnd (kcnd m) := tc_cal _ m s rfl
@[simp] theorem tar_25_0 (n : Nat) : (tcf pg pr n).arr 25 0 = some [.at 0, .at 1] := rfl
theorem go_25 {n : Nat} {args : List TV} {s : PS} (hl : args.length = 2) : trun pg pr (n + 1) 25 args s = (texs (tcf pg pr n) pg.most b_25 (tin0 args 3) s).fin := trun_go (⟨d_25, rfl, rfl, rfl, rfl⟩ : IsD pg 25 2 5 b_25) rfl hl
@[simp] theorem tcc_25 (n sh : Nat) (es ks : Es) (m : TSl) (s : PS) : tcond (tcf pg pr n) (.cal 25 sh es ks) m s = (tev (tcf pg pr n) (.cal 25 sh es ks) m s).bnd (kcnd m) := tc_cal _ m s rfl
@[simp] theorem tar_26_0 (n : Nat) : (tcf pg pr n).arr 26 0 = some [.at 0] := rfl
theorem go_26 {n : Nat} {args : List TV} {s : PS} (hl : args.length = 1) : trun pg pr (n + 1) 26 args s = (texs (tcf pg pr n) pg.most b_26 (tin0 args 9) s).fin := trun_go (⟨d_26, rfl, rfl, rfl, rfl⟩ : IsD pg 26 1 10 b_26) rfl hl
@[simp] theorem tcc_26 (n sh : Nat) (es ks : Es) (m : TSl) (s : PS) : tcond (tcf pg pr n) (.cal 26 sh es ks) m s = (tev (tcf pg pr n) (.cal 26 sh es ks) m s).bnd (kcnd m) := tc_cal _ m s rfl
@[simp] theorem tar_27_0 (n : Nat) : (tcf pg pr n).arr 27 0 = some [.at 0, .at 1, .at 2] := rfl
theorem go_27 {n : Nat} {args : List TV} {s : PS} (hl : args.length = 3) : trun pg pr (n + 1) 27 args s = (texs (tcf pg pr n) pg.most b_27 (tin0 args 6) s).fin := trun_go (⟨d_27, rfl, rfl, rfl, rfl⟩ : IsD pg 27 3 9 b_27) rfl hl
@[simp] theorem tcc_27 (n sh : Nat) (es ks : Es) (m : TSl) (s : PS) : tcond (tcf pg pr n) (.cal 27 sh es ks) m s = (tev (tcf pg pr n) (.cal 27 sh es ks) m s).bnd (kcnd m) := tc_cal _ m s rfl
@[simp] theorem tar_28_0 (n : Nat) : (tcf pg pr n).arr 28 0 = some [.at 0, .at 1] := rfl
theorem go_28 {n : Nat} {args : List TV} {s : PS} (hl : args.length = 2) : trun pg pr (n + 1) 28 args s = (texs (tcf pg pr n) pg.most b_28 (tin0 args 7) s).fin := trun_go (⟨d_28, rfl, rfl, rfl, rfl⟩ : IsD pg 28 2 9 b_28) rfl hl
@[simp] theorem tcc_28 (n sh : Nat) (es ks : Es) (m : TSl) (s : PS) : tcond (tcf pg pr n) (.cal 28 sh es ks) m s = (tev (tcf pg pr n) (.cal 28 sh es ks) m s).bnd (kcnd m) := tc_cal _ m s rfl
@[simp] theorem tar_29_0 (n : Nat) : (tcf pg pr n).arr 29 0 = some [.at 0, .at 1] := rfl
theorem go_29 {n : Nat} {args : List TV} {s : PS} (hl : args.length = 2) : trun pg pr (n + 1) 29 args s = (texs (tcf pg pr n) pg.most b_29 (tin0 args 0) s).fin := trun_go (⟨d_29, rfl, rfl, rfl, rfl⟩ : IsD pg 29 2 2 b_29) rfl hl
@[simp] theorem tcc_29 (n sh : Nat) (es ks : Es) (m : TSl) (s : PS) : tcond (tcf pg pr n) (.cal 29 sh es ks) m s = (tev (tcf pg pr n) (.cal 29 sh es ks) m s).bnd (kcnd m) := tc_cal _ m s rfl
@[simp] theorem tar_30_0 (n : Nat) : (tcf pg pr n).arr 30 0 = some [.at 0, .at 1] := rfl
theorem go_30 {n : Nat} {args : List TV} {s : PS} (hl : args.length = 2) : trun pg pr (n + 1) 30 args s = (texs (tcf pg pr n) pg.most b_30 (tin0 args 1) s).fin := trun_go (⟨d_30, rfl, rfl, rfl, rfl⟩ : IsD pg 30 2 3 b_30) rfl hl
@[simp] theorem tcc_30 (n sh : Nat) (es ks : Es) (m : TSl) (s : PS) : tcond (tcf pg pr n) (.cal 30 sh es ks) m s = (tev (tcf pg pr n) (.cal 30 sh es ks) m s).bnd (kcnd m) := tc_cal _ m s rfl
@[simp] theorem tar_31_0 (n : Nat) : (tcf pg pr n).arr 31 0 = some [.at 0, .at 1] := rfl
theorem go_31 {n : Nat} {args : List TV} {s : PS} (hl : args.length = 2) : trun pg pr (n + 1) 31 args s = (texs (tcf pg pr n) pg.most b_31 (tin0 args 3) s).fin := trun_go (⟨d_31, rfl, rfl, rfl, rfl⟩ : IsD pg 31 2 5 b_31) rfl hl
@[simp] theorem tcc_31 (n sh : Nat) (es ks : Es) (m : TSl) (s : PS) : tcond (tcf pg pr n) (.cal 31 sh es ks) m s = (tev (tcf pg pr n) (.cal 31 sh es ks) m s).bnd (kcnd m) := tc_cal _ m s rfl
@[simp] theorem tar_32_0 (n : Nat) : (tcf pg pr n).arr 32 0 = some [.at 0] := rfl
theorem spo_on (n : Nat) (h : 20 ≤ n) : (tcf pg pr n).spo 32 = true := by
  simp [tcf, pr, h]
@[simp] theorem tar_33_0 (n : Nat) : (tcf pg pr n).arr 33 0 = some [.at 0, .at 1] := rfl
theorem go_33 {n : Nat} {args : List TV} {s : PS} (hl : args.length = 2) : trun pg pr (n + 1) 33 args s = (texs (tcf pg pr n) pg.most b_33 (tin0 args 3) s).fin := trun_go (⟨d_33, rfl, rfl, rfl, rfl⟩ : IsD pg 33 2 5 b_33) rfl hl
@[simp] theorem tcc_33 (n sh : Nat) (es ks : Es) (m : TSl) (s : PS) : tcond (tcf pg pr n) (.cal 33 sh es ks) m s = (tev (tcf pg pr n) (.cal 33 sh es ks) m s).bnd (kcnd m) := tc_cal _ m s rfl
@[simp] theorem tar_34_0 (n : Nat) : (tcf pg pr n).arr 34 0 = some [.at 0] := rfl
theorem go_34 {n : Nat} {args : List TV} {s : PS} (hl : args.length = 1) : trun pg pr (n + 1) 34 args s = (texs (tcf pg pr n) pg.most b_34 (tin0 args 2) s).fin := trun_go (⟨d_34, rfl, rfl, rfl, rfl⟩ : IsD pg 34 1 3 b_34) rfl hl
@[simp] theorem tcc_34 (n sh : Nat) (es ks : Es) (m : TSl) (s : PS) : tcond (tcf pg pr n) (.cal 34 sh es ks) m s = (tev (tcf pg pr n) (.cal 34 sh es ks) m s).bnd (kcnd m) := tc_cal _ m s rfl
@[simp] theorem tar_35_0 (n : Nat) : (tcf pg pr n).arr 35 0 = some [.at 0, .at 1] := rfl
@[simp] theorem tar_36_0 (n : Nat) : (tcf pg pr n).arr 36 0 = some [.at 0, .at 1] := rfl
theorem go_36 {n : Nat} {args : List TV} {s : PS} (hl : args.length = 2) : trun pg pr (n + 1) 36 args s = (texs (tcf pg pr n) pg.most b_36 (tin0 args 0) s).fin := trun_go (⟨d_36, rfl, rfl, rfl, rfl⟩ : IsD pg 36 2 2 b_36) rfl hl
@[simp] theorem tcc_36 (n sh : Nat) (es ks : Es) (m : TSl) (s : PS) : tcond (tcf pg pr n) (.cal 36 sh es ks) m s = (tev (tcf pg pr n) (.cal 36 sh es ks) m s).bnd (kcnd m) := tc_cal _ m s rfl
@[simp] theorem tar_37_0 (n : Nat) : (tcf pg pr n).arr 37 0 = some [.at 0] := rfl
theorem go_37 {n : Nat} {args : List TV} {s : PS} (hl : args.length = 1) : trun pg pr (n + 1) 37 args s = (texs (tcf pg pr n) pg.most b_37 (tin0 args 15) s).fin := trun_go (⟨d_37, rfl, rfl, rfl, rfl⟩ : IsD pg 37 1 16 b_37) rfl hl
@[simp] theorem tcc_37 (n sh : Nat) (es ks : Es) (m : TSl) (s : PS) : tcond (tcf pg pr n) (.cal 37 sh es ks) m s = (tev (tcf pg pr n) (.cal 37 sh es ks) m s).bnd (kcnd m) := tc_cal _ m s rfl
theorem pr_35 {n : Nat} {args : List TV} {s : PS} (h : 20 ≤ n) : trun pg pr (n + 1) 35 args s = hdraw args s := trun_pr rfl h
theorem tgl_0 (n : Nat) : (tcf pg pr n).glo 0 = some (.tup [.int 0, .int 1]) := rfl
theorem tgl_1 (n : Nat) : (tcf pg pr n).glo 1 = some (.int 3) := rfl
theorem tgl_2 (n : Nat) : (tcf pg pr n).glo 2 = some (.tup [.int 1, .int 1]) := rfl
end K08

set_option Elab.async false
set_option linter.all false
set_option maxRecDepth 100000
set_option autoImplicit false
set_option maxHeartbeats 8000000
namespace K08
open PySem MP TM
/-! fractions, places, stores -/
theorem p_most : pg.most = 1000001 := rfl
theorem s_is_number (i : Int) (n : Nat) (s : PS) : trun pg pr (n + 1) 0 [.int i] s = .ok (.d, .bl true) s := by
  rw [go_0 rfl]
  simp [b_0, tisi, tTy]
theorem w_divisor {a b : Int} (a0 : 0 ≤ a) (b0 : 0 ≤ b) (ha : Sz 4000 a) (hb : Sz 4000 b) (n : Nat) (s : PS) : twhlL (twc (tcf pg pr n) (.cmp .ne (.var 1) (.cst (.int 0)))) (twb (tcf pg pr n) pg.most (.cons (.asg (.tp [0, 1]) (.tup (.cons (.var 1) (.cons (.bin .mod (.var 0) (.var 1)) .nil)))) .nil)) pg.most [some (.d, .int a), some (.d, .int b)] s = .ok (.nx, [some (.d, .int (Int.gcd a b)), some (.d, .int 0)]) s :=
  tgcd (by
    intro x y
    unfold twc
    simp
    by_cases hy : y = 0 <;> simp [hy]) (by
    intro x y hy
    have : (y : Int) ≠ 0 := by omega
    unfold twb
    simp [tb_mod _ _ this, fmod_nat]) a0 b0 ha hb (by rw [p_most]; omega)
theorem s_divisor {a b : Int} (a0 : 0 ≤ a) (b0 : 0 ≤ b) (ha : Sz 4000 a) (hb : Sz 4000 b) (n : Nat) (s : PS) : trun pg pr (n + 1) 1 [.int a, .int b] s = .ok (.d, .int (Int.gcd a b)) s := by
  rw [go_1 rfl]
  simp [b_1, w_divisor a0 b0 ha hb]
theorem s_by_lowest {a b : Int} (hb : b ≠ 0) (h1 : Sz 4000 a) (h2 : Sz 4000 b) (n : Nat) (s : PS) : trun pg pr (n + 2) 2 [.int a, .int b] s = .ok (.d, frT (Rat.divInt a b)) s := by
  have hg : 0 < Int.gcd a b := Int.gcd_pos_of_ne_zero_right a hb
  obtain ⟨d1, d2⟩ := nf_dvd (a := a) (b := b)
  have gs : Sz 4000 (Int.gcd a b : Int) := gcd_sz hb h2
  have gz : (Int.gcd a b : Int) ≠ 0 := by omega
  have gz' : -(Int.gcd a b : Int) ≠ 0 := by omega
  have hgd := s_divisor (a := (a.natAbs : Int)) (b := (b.natAbs : Int)) (Int.natCast_nonneg _) (Int.natCast_nonneg _) h1.nat h2.nat
  have eg : Int.gcd (a.natAbs : Int) (b.natAbs : Int) = Int.gcd a b := rfl
  rw [fr_nf hb, go_2 rfl]
  unfold nf
  by_cases h : b < 0
  · have h' : ¬ 0 < b := by omega
    simp [b_2, hgd, eg, h, tb_fdv _ _ gz' (gs.neg.fdvOk (by omega)), fdiv_neg_ex hg d1, fdiv_neg_ex hg d2, h', gr, noL, noLs]
  · have h' : 0 < b := by omega
    simp [b_2, hgd, eg, h, tb_fdv _ _ gz (gs.fdvOk (by omega)), fdiv_pos_ex hg, h', gr, noL, noLs]
theorem s_plus {k l : Nat} {x y : Rat} (h : Qz k x) (g : Qz l y) (hk : k + l < 3990) (n : Nat) (s : PS) : trun pg pr (n + 3) 3 [frT x, frT y] s = .ok (.d, frT (x + y)) s := by
  have e := s_by_lowest (den_ne x y) ((h.add g).mono (by omega)) ((h.den.mul g.den).mono (by omega))
  rw [go_3 rfl, add_divInt]
  simp [b_3, tb_mul _ _ (h.num.mulOk g.den (by omega)), tb_mul _ _ (g.num.mulOk h.den (by omega)), tb_mul _ _ (h.den.mulOk g.den (by omega)), e]
theorem s_minus {k l : Nat} {x y : Rat} (h : Qz k x) (g : Qz l y) (hk : k + l < 3990) (n : Nat) (s : PS) : trun pg pr (n + 3) 4 [frT x, frT y] s = .ok (.d, frT (x - y)) s := by
  have e := s_by_lowest (den_ne x y) ((h.sub g).mono (by omega)) ((h.den.mul g.den).mono (by omega))
  rw [go_4 rfl, sub_divInt]
  simp [b_4, tb_mul _ _ (h.num.mulOk g.den (by omega)), tb_mul _ _ (g.num.mulOk h.den (by omega)), tb_mul _ _ (h.den.mulOk g.den (by omega)), e]
theorem s_times {k l : Nat} {x y : Rat} (h : Qz k x) (g : Qz l y) (hk : k + l < 3990) (n : Nat) (s : PS) : trun pg pr (n + 3) 5 [frT x, frT y] s = .ok (.d, frT (x * y)) s := by
  have e := s_by_lowest (den_ne x y) ((h.num.mul g.num).mono (by omega)) ((h.den.mul g.den).mono (by omega))
  rw [go_5 rfl, mul_divInt]
  simp [b_5, tb_mul _ _ (h.num.mulOk g.num (by omega)), tb_mul _ _ (h.den.mulOk g.den (by omega)), e]
theorem fr_zero : TV.tup [.int 0, .int 1] = frT 0 := by simp [frT]
theorem tcv_zero : tcv (.tup [.int 0, .int 1]) = some (frT 0) := rfl
theorem lim_of {k : Nat} (h : k ≤ 1000) : k ≤ lim := Nat.le_trans h (by decide)
/-- the fractions of a list added one after the other -/
theorem fold_loop {k : Nat} {F : TV → TSl → PS → TR PS (TFl × TSl)} {x : List Rat} {m0 : TV} {s : PS} (h : Qzs k x) (hl : x.length ≤ 10) (hk : k ≤ 300)
    (hF : ∀ (b q : Rat) (m : Option GV), Qz 3500 b → Qz k q → F (frT q) [some (.s, m0), some (.d, frT b), m] s = .ok (.nx, [some (.s, m0), some (.d, frT (b + q)), some (.d, frT q)]) s) :
    ∃ m, tforL F (x.map frT) [some (.s, m0), some (.d, frT 0), none] s = .ok (.nx, [some (.s, m0), some (.d, frT (x.foldl (· + ·) 0)), m]) s := by
  have go : ∀ (l : List Rat) (j : Nat) (b : Rat) (m : Option GV), Qzs k l → Qz j b → j + l.length * (k + 1) ≤ 3500 → ∃ m', tforL F (l.map frT) [some (.s, m0), some (.d, frT b), m] s = .ok (.nx, [some (.s, m0), some (.d, frT (l.foldl (· + ·) b)), m']) s := by
    intro l
    induction l with
    | nil => exact fun j b m _ _ _ => ⟨m, rfl⟩
    | cons q l ih =>
      intro j b m hq hb hj
      simp only [List.length_cons, Nat.add_mul, Nat.one_mul] at hj
      obtain ⟨m', e⟩ := ih (j + k + 1) (b + q) (some (.d, frT q)) (fun z hz => hq z (List.mem_cons_of_mem _ hz)) (hb.plus (hq q (List.mem_cons_self ..))) (by omega)
      refine ⟨m', ?_⟩
      simp only [List.map_cons, tforL]
      rw [hF b q m (hb.mono (by omega)) (hq q (List.mem_cons_self ..)), t_bnd]
      exact e
  have : x.length * (k + 1) ≤ 10 * (k + 1) := Nat.mul_le_mul_right _ hl
  exact go x 1 0 none h qz_zero (by omega)
theorem s_total {k : Nat} {x : List Rat} (h : Qzs k x) (hl : x.length ≤ 10) (hk : k ≤ 300) (n : Nat) (s : PS) : trun pg pr (n + 4) 7 [plT x] s = .ok (.d, frT (x.foldl (· + ·) 0)) s := by
  rw [go_7 rfl]
  obtain ⟨m, e⟩ := fold_loop (m0 := plT x) (F := tfturn (.nm 2) (texs (tcf pg pr (n + 3)) pg.most (.cons (.asg (.nm 1) (.cal 3 0 (.cons (.var 1) (.cons (.var 2) .nil)) .nil)) .nil))) (s := s) h hl hk (by
    intro b q m hb hq
    have e := s_plus hb hq (by omega)
    simp [tfturn, e])
  simp only [plT] at e ⊢
  simp [b_7, te_glo _ _ _ (tgl_0 _) tcv_zero, tlim_le _ (show (x.map frT).length ≤ lim by rw [List.length_map]; exact lim_of (by omega)), fvI, fvE, e]
theorem s_has_point {d : Int} {p : List Int} (h : (p.length : Int) = d) (hl : p.length ≤ 10) (n : Nat) (s : PS) : trun pg pr (n + 2) 8 [.int d, ptT p] s = .ok (.d, .bl true) s := by
  have c := kcom_map (C := tcf pg pr (n + 1)) (t := .nm 2) (c := none) (e := .cal 0 0 (.cons (.var 2) .nil) .nil) (m := [some (.d, .int d), some (.s, .lst (p.map .int)), none]) (enc := TV.int) (l := p) (h := fun _ => .bl true) (s := s) (g := .s) (fun i _ => by
    simp [tturn, Tg.own, twip, tcO, s_is_number])
  rw [go_8 rfl]
  simp only [ptT]
  simp [b_8, tisi, tTy, h, tlim_map (f := TV.int) (l := p) (by omega), c, tbt_allt]
theorem s_at_point {p : List Int} (hl : p.length ≤ 10) (n : Nat) (s : PS) : trun pg pr (n + 1) 9 [ptT p] s = .ok (.d, plT (atQ p)) s := by
  have c := kcom_map (C := tcf pg pr n) (t := .nm 1) (c := none) (e := .tup (.cons (.var 1) (.cons (.cst (.int 1)) .nil))) (m := [some (.s, .lst (p.map .int)), none]) (enc := TV.int) (l := p) (h := fun i => frT (i : Rat)) (s := s) (g := .s) (fun i _ => by
    simp [tturn, Tg.own, twip, tcO, frT_int, gr, noL, noLs])
  rw [go_9 rfl]
  simp only [ptT, plT, atQ, List.map_map, Function.comp_def]
  simp [b_9, tlim_map (f := TV.int) (l := p) (by omega), c]
theorem s_inner {k l : Nat} {x y : List Rat} (h : Qzs k x) (g : Qzs l y) (hl : x.length ≤ 10) (hk : k + l ≤ 300) (n : Nat) (s : PS) : trun pg pr (n + 5) 10 [plT x, plT y] s = .ok (.d, frT (innerQ x y)) s := by
  have c := kcom_map (C := tcf pg pr (n + 4)) (t := .tp [2, 3]) (c := none) (e := .cal 5 0 (.cons (.var 2) (.cons (.var 3) .nil)) .nil) (m := [some (.s, .lst (x.map frT)), some (.s, .lst (y.map frT)), none, none]) (enc := fun p : Rat × Rat => .tup [frT p.1, frT p.2]) (l := x.zip y) (h := fun p => frT (p.1 * p.2)) (s := s) (g := .s) (fun p hp => by
    have e := s_times (h _ (List.of_mem_zip hp).1) (g _ (List.of_mem_zip hp).2) (by omega)
    simp [tturn, Tg.own, twip, tcO, e])
  have w := s_total (Qzs.prods h g) (by simp; omega) (by omega)
  simp only [plT, List.map_map, Function.comp_def] at w
  rw [go_10 rfl]
  simp only [plT]
  simp [b_10, tzip_map, tlim_map (f := fun p : Rat × Rat => TV.tup [frT p.1, frT p.2]) (l := x.zip y) (by simp; omega), c, w, innerQ]
theorem s_difference {k l : Nat} {x y : List Rat} (h : Qzs k x) (g : Qzs l y) (hl : x.length ≤ 10) (hk : k + l ≤ 300) (n : Nat) (s : PS) : trun pg pr (n + 4) 11 [plT x, plT y] s = .ok (.d, plT (apartQ x y)) s := by
  have c := kcom_map (C := tcf pg pr (n + 3)) (t := .tp [2, 3]) (c := none) (e := .cal 4 0 (.cons (.var 2) (.cons (.var 3) .nil)) .nil) (m := [some (.s, .lst (x.map frT)), some (.s, .lst (y.map frT)), none, none]) (enc := fun p : Rat × Rat => .tup [frT p.1, frT p.2]) (l := x.zip y) (h := fun p => frT (p.1 - p.2)) (s := s) (g := .s) (fun p hp => by
    have e := s_minus (h _ (List.of_mem_zip hp).1) (g _ (List.of_mem_zip hp).2) (by omega)
    simp [tturn, Tg.own, twip, tcO, e])
  rw [go_11 rfl]
  simp only [plT, apartQ, List.map_map, Function.comp_def]
  simp [b_11, tzip_map, tlim_map (f := fun p : Rat × Rat => TV.tup [frT p.1, frT p.2]) (l := x.zip y) (by simp; omega), c]
@[simp] theorem gr_pl (g : G) (x : List Rat) : gr g (plT x) = g := rfl
@[simp] theorem gr_pt (g : G) (x : List Int) : gr g (ptT x) = g := rfl
@[simp] theorem gr_ps (g : G) (x : List (List Int)) : gr g (psT x) = g := rfl
theorem s_square {k l : Nat} {x y : List Rat} (h : Qzs k x) (g : Qzs l y) (hl : x.length ≤ 10) (hk : k + l ≤ 140) (n : Nat) (s : PS) : trun pg pr (n + 6) 12 [plT x, plT y] s = .ok (.d, frT (sqQ x y)) s := by
  have e1 := s_difference h g hl (by omega)
  have e2 := s_inner (h.apart g) (h.apart g) (by rw [apart_len]; omega) (by omega)
  rw [go_12 rfl]
  simp [b_12, e1, e2, sqQ]
theorem qz_atQ {k : Nat} {p : List Int} (h : ∀ i ∈ p, Sz k i) (hk : 1 ≤ k) : Qzs k (atQ p) := by
  intro q hq
  obtain ⟨i, hi, rfl⟩ := List.mem_map.mp hq
  exact Qz.ofInt (h i hi) hk

end K08

set_option Elab.async false
set_option linter.all false
set_option maxRecDepth 100000
set_option autoImplicit false
set_option maxHeartbeats 8000000
namespace K08
open PySem MP TM
theorem most_cv : tcv (.int 3) = some (.int 3) := tcv_int 3
theorem nil_pq {b s : Bool} : pq b s 20 (.lst []) = true := by simp [pq, lim]
theorem s_is_store {d : Nat} {ps : List (List Int)} (h : StOK d ps) (n : Nat) (s : PS) : trun pg pr (n + 3) 13 [stT d ps] s = .ok (.d, .bl true) s := by
  have d1 : (1 : Int) ≤ d := by have := h.d1; omega
  have d3 : (d : Int) ≤ 3 := by have := h.d3; omega
  have f := h.few
  have e0 : teq (.lst (ps.map ptT)) (.lst []) = some false := teq_f (s := false) (pq_le (h.pqs (s := false)) (by omega)) nil_pq (by simp [h.ne])
  have c1 := kcom_map (C := tcf pg pr (n + 2)) (t := .nm 3) (c := none) (e := .cal 8 0 (.cons (.var 1) (.cons (.var 3) .nil)) .nil) (m := [some (.s, .tup [.str "store", .int d, .lst (ps.map ptT)]), some (.d, .int d), some (.s, .lst (ps.map ptT)), none]) (enc := ptT) (l := ps) (h := fun _ => .bl true) (s := s) (g := .s) (fun p hp => by
    have e := s_has_point (d := d) (p := p) (by rw [h.len p hp]) (by rw [h.len p hp]; omega)
    simp [tturn, Tg.own, twip, tcO, e])
  have c2 := kcom_map (C := tcf pg pr (n + 2)) (t := .nm 3) (c := none) (e := .blt .tuple (.cons (.var 3) .nil)) (m := [some (.s, .tup [.str "store", .int d, .lst (ps.map ptT)]), some (.d, .int d), some (.s, .lst (ps.map ptT)), none]) (enc := ptT) (l := ps) (h := fun p => .tup (p.map .int)) (s := s) (g := .s) (fun p hp => by
    simp [tturn, Tg.own, twip, tcO, ptT, gr_noL (noL_ints p)])
  have c3 : klset (G.d, TV.lst (ps.map fun p => .tup (p.map .int))) s = .ok (.d, .int (dcount ps)) s := k_lset s (ttups_id ps) (by omega)
  rw [go_13 rfl]
  simp only [stT, psT]
  simp [b_13, tisi, tTy, gr, noL, noLs, s_is_number, te_glo _ _ _ (tgl_1 _) most_cv, d1, d3, e0, tlim_map (f := ptT) (l := ps) (by omega), c1, c2, c3, tbt_allt, dcount_nodup h.nd, fvE, fvEs]

end K08

set_option Elab.async false
set_option linter.all false
set_option maxRecDepth 100000
set_option autoImplicit false
set_option maxHeartbeats 8000000
namespace K08
open PySem MP TM
theorem s_look_at_store {d : Nat} {ps : List (List Int)} (h : StOK d ps) (n : Nat) (s : PS) : trun pg pr (n + 4) 14 [stT d ps] s = .ok (.d, .non) s := by
  rw [go_14 rfl]
  simp [b_14, s_is_store h]
@[simp] theorem gr_st (g : G) (d : Int) (ps : List (List Int)) : gr g (stT d ps) = g := rfl
@[simp] theorem tx_st1 (g g' : G) (d : Int) (ps : List (List Int)) : tidx (g, stT d ps) (g', .int 1) = some (.d, .int d) := by simp [stT]
@[simp] theorem tx_st2 (g' : G) (d : Int) (ps : List (List Int)) : tidx (.s, stT d ps) (g', .int 2) = some (.s, psT ps) := by simp [stT, psT]
/-- a place of a store -/
structure PlOK (d : Nat) (x : List Rat) : Prop where
  len : x.length = d
  qz : Qzs 60 x
def sqs (ps : List (List Int)) (x : List Rat) : List Rat := ps.map fun p => sqQ (atQ p) x
theorem sqs_len (ps : List (List Int)) (x : List Rat) : (sqs ps x).length = ps.length := by simp [sqs]
theorem sqs_range (ps : List (List Int)) (x : List Rat) : (List.range ps.length).map (fun i => frT (qf (sqs ps x) i)) = (sqs ps x).map frT := by
  refine List.ext_getElem (by simp [sqs]) fun i h1 h2 => ?_
  have hi : i < (sqs ps x).length := by simpa using h2
  simp [qf_get hi]
/-! order_by -/
theorem qz_sqs {d : Nat} {ps : List (List Int)} {x : List Rat} (h : StOK d ps) (g : PlOK d x) : Qzs 440 (sqs ps x) := by
  intro q hq
  obtain ⟨p, hp, rfl⟩ := List.mem_map.mp hq
  have := Qzs.sq (qz_atQ (h.sz p hp) (by omega)) g.qz (by simp [atQ, h.len p hp]; exact h.d3)
  exact this.mono (by omega)
theorem qz_qf {k : Nat} {qs : List Rat} (h : Qzs k qs) (hk : 1 ≤ k) (i : Nat) : Qz k (qf qs i) := by
  by_cases hi : i < qs.length
  · rw [qf_get hi]
    exact h _ (List.getElem_mem hi)
  · have : qf qs i = 0 := by simp [qf, hi]
    rw [this]
    exact qz_zero.mono hk
section
variable {qs vs : List Rat} {k j : Nat} {n : Nat} {s : PS}
theorem at_pl (i : Nat) (hi : i < qs.length) : L2.atI (qs.map frT) (i : Int) = some (frT (qf qs i)) := by
  rw [at_nat (by simpa using hi), qf_get hi]
  simp
theorem at_bk {bs : List (List Nat)} (hj : j < bs.length) : L2.atI (bs.map nbT) (j : Int) = some (nbT bs[j]) := by
  rw [at_nat (by simpa using hj)]
  simp
theorem ixN_nat {n i : Nat} (h : i < n) : L2.ixN n (i : Int) = some i := by
  have : ((i : Int) < (n : Int)) := by omega
  simp [L2.ixN, this]
end

end K08

set_option Elab.async false
set_option linter.all false
set_option maxRecDepth 100000
set_option autoImplicit false
set_option maxHeartbeats 8000000
namespace K08
open PySem MP TM
/-! nearness -/
section
variable {d : Nat} {ps : List (List Int)} {x : List Rat} {vs : List Rat}
/-- the order of a store's points at a place -/
def Ord (ps : List (List Int)) (x : List Rat) (vs : List Rat) : Prop := IsOrd ps.length (qf (sqs ps x)) vs
def bl (ps : List (List Int)) (x : List Rat) (vs : List Rat) : List (List Nat) := bks ps.length (qf (sqs ps x)) vs
theorem bl_ne (h : StOK d ps) (o : Ord ps x vs) : bl ps x vs ≠ [] := by
  have hp := List.length_pos_iff.mpr h.ne
  have : qf (sqs ps x) 0 ∈ vs := (o.mem _).mpr ⟨0, hp, rfl⟩
  intro e
  have := List.map_eq_nil_iff.mp e
  subst this
  simp at *
theorem bl_len (o : Ord ps x vs) : (bl ps x vs).length ≤ ps.length := by
  rw [bl, bks_len]
  exact o.len
def rowB (ps : List (List Int)) (x : List Rat) (vs : List Rat) : List Nat := (bl ps x vs).flatten
theorem row_len (o : Ord ps x vs) : (rowB ps x vs).length = ps.length := o.flat_len
end

end K08

set_option Elab.async false
set_option linter.all false
set_option maxRecDepth 100000
set_option autoImplicit false
set_option maxHeartbeats 8000000
namespace K08
open PySem MP TM
/-! the law's fractions -/
theorem w_lawdiv {a b : Int} (a0 : 0 ≤ a) (b0 : 0 ≤ b) (ha : Sz 4000 a) (hb : Sz 4000 b) (n : Nat) (s : PS) : twhlL (twc (tcf pg pr n) (.cmp .ne (.var 1) (.cst (.int 0)))) (twb (tcf pg pr n) pg.most (.cons (.asg (.tp [0, 1]) (.tup (.cons (.var 1) (.cons (.bin .mod (.blt .int (.cons (.var 0) .nil)) (.var 1)) .nil)))) .nil)) pg.most [some (.d, .int a), some (.d, .int b)] s = .ok (.nx, [some (.d, .int (Int.gcd a b)), some (.d, .int 0)]) s :=
  tgcd (by
    intro x y
    unfold twc
    simp
    by_cases hy : y = 0 <;> simp [hy]) (by
    intro x y hy
    have : (y : Int) ≠ 0 := by omega
    unfold twb
    simp [tb_mod _ _ this, fmod_nat]) a0 b0 ha hb (by rw [p_most]; omega)
theorem s_law_divisor {a b : Int} (a0 : 0 ≤ a) (b0 : 0 ≤ b) (ha : Sz 4000 a) (hb : Sz 4000 b) (n : Nat) (s : PS) : trun pg pr (n + 1) 29 [.int a, .int b] s = .ok (.d, .int (Int.gcd a b)) s := by
  rw [go_29 rfl]
  simp [b_29, w_lawdiv a0 b0 ha hb]
theorem s_law_by {a b : Int} (hb : b ≠ 0) (h1 : Sz 4000 a) (h2 : Sz 4000 b) (n : Nat) (s : PS) : trun pg pr (n + 2) 30 [.int a, .int b] s = .ok (.d, frT (Rat.divInt a b)) s := by
  have hg : 0 < Int.gcd a b := Int.gcd_pos_of_ne_zero_right a hb
  obtain ⟨d1, d2⟩ := nf_dvd (a := a) (b := b)
  have gs : Sz 4000 (Int.gcd a b : Int) := gcd_sz hb h2
  have gz : (Int.gcd a b : Int) ≠ 0 := by omega
  have hgd := s_law_divisor (a := (a.natAbs : Int)) (b := (b.natAbs : Int)) (Int.natCast_nonneg _) (Int.natCast_nonneg _) h1.nat h2.nat
  have eg : Int.gcd (a.natAbs : Int) (b.natAbs : Int) = Int.gcd a b := rfl
  rw [fr_nf hb, go_30 rfl]
  unfold nf
  by_cases h : 0 < b
  · simp [b_30, hgd, eg, h, tb_fdv _ _ gz (gs.fdvOk (by omega)), fdiv_pos_ex hg, gr, noL, noLs]
  · have e1 := neg_ediv_ex hg d1
    have e2 := neg_ediv_ex hg d2
    simp only [Int.zero_sub] at e1 e2
    simp [b_30, hgd, eg, h, tb_fdv _ _ gz (gs.fdvOk (by omega)), fdiv_pos_ex hg, e1, e2, gr, noL, noLs]

end K08

set_option Elab.async false
set_option linter.all false
set_option maxRecDepth 100000
set_option autoImplicit false
set_option maxHeartbeats 8000000
namespace K08
open PySem MP TM
/-! the law's helpers -/
section
variable {qs vs : List Rat} {left : List Nat} {n : Nat} {s : PS}
end

end K08

set_option Elab.async false
set_option linter.all false
set_option maxRecDepth 100000
set_option autoImplicit false
set_option maxHeartbeats 8000000
namespace K08
open PySem MP TM
/-! draws -/
theorem s_draw {c : Nat} {σ : PS} {k : Int} (h : Pu c σ) (hc : c < 1000000) (k0 : 0 < k) (kl : k ≤ 10 ^ 30) (n : Nat) : ∃ t σ', trun pg pr (n + 21) 35 [.pur, .int k] σ = .ok (.d, .int t) σ' ∧ 0 ≤ t ∧ t < k ∧ Pu (c + 1) σ' := by
  have hk : k.natAbs.log2 < 9000 := by
    have : Sz 100 k := by
      unfold Sz
      have : (10 : Int) ^ 30 < 2 ^ 100 := by decide
      omega
    exact this.fdvOk (by omega)
  obtain ⟨t, σ', e, h1, h2, h3⟩ := h.draw hc k0 hk
  exact ⟨t, σ', by rw [pr_35 (by omega)]; exact e, h1, h2, h3⟩
theorem s_pick {c : Nat} {σ : PS} {α : Type} {enc : α → TV} {xs : List α} (h : Pu c σ) (hc : c < 1000000) (h0 : xs ≠ []) (hl : xs.length ≤ 1000) (n : Nat) : ∃ x σ', trun pg pr (n + 22) 36 [.pur, .lst (xs.map enc)] σ = .ok (gr .s (enc x), enc x) σ' ∧ x ∈ xs ∧ Pu (c + 1) σ' := by
  have hp := List.length_pos_iff.mpr h0
  obtain ⟨t, σ', e, h1, h2, h3⟩ := s_draw (k := (xs.length : Int)) h hc (by omega) (by omega) n
  obtain ⟨i, rfl⟩ : ∃ i : Nat, t = i := ⟨t.toNat, by omega⟩
  have hi : i < xs.length := by omega
  have ea : L2.atI (xs.map enc) (i : Int) = some (enc xs[i]) := by
    rw [at_nat (by simpa using hi)]
    simp
  refine ⟨xs[i], σ', ?_, List.getElem_mem hi, h3⟩
  rw [go_36 rfl]
  simp [b_36, e, ea]
structure PsOK (d : Nat) (ps : List (List Int)) : Prop where
  len : ∀ p ∈ ps, p.length = d
  sz : ∀ p ∈ ps, ∀ i ∈ p, Sz 11 i
  nd : ps.Nodup

end K08

set_option Elab.async false
set_option linter.all false
set_option maxRecDepth 100000
set_option autoImplicit false
set_option maxHeartbeats 8000000
namespace K08
open PySem MP TM
theorem s_same : ∀ (D : Nat) (t : TV), pq true true D t = true → ∀ (n : Nat) (s : PS), trun pg pr (n + D + 1) 33 [t, t] s = .ok (.d, .bl true) s
  | D, .non, _, n, s => by
    rw [go_33 rfl]
    simp [b_33, tis]
  | D, .bl b, _, n, s => by
    rw [go_33 rfl]
    cases b <;> simp [b_33, tis]
  | D, .int i, _, n, s => by
    rw [go_33 rfl]
    simp [b_33, tis, tisi, tTy]
  | D, .str i, _, n, s => by
    rw [go_33 rfl]
    simp [b_33, tis, tisi, tTy]
  | 0, .tup ts, h, n, s => by cases h
  | 0, .lst ts, h, n, s => by cases h
  | D, .dct, h, n, s => by cases D <;> cases h
  | D, .pur, h, n, s => by cases D <;> cases h
  | D + 1, .tup ts, h, n, s => by
    simp only [pq, Bool.and_eq_true, decide_eq_true_eq] at h
    have tz : tzip ts ts = ts.map fun t => .tup [t, t] := by
      have := tzip_map (fun t : TV => t) (fun t : TV => t) ts ts
      simp only [List.map_id'] at this
      rw [this]
      clear this h
      induction ts with
      | nil => rfl
      | cons t ts ih => simp [ih]
    have c := kcom_map (C := tcf pg pr (n + (D + 1))) (t := .tp [3, 4]) (c := none) (e := .cal 33 0 (.cons (.var 3) (.cons (.var 4) .nil)) .nil) (m := [some (gr .s (.tup ts), .tup ts), some (gr .s (.tup ts), .tup ts), some (.d, .bl true), none, none]) (enc := fun t => .tup [t, t]) (l := ts) (h := fun _ => .bl true) (s := s) (g := gm (gr .s (.tup ts)) (gr .s (.tup ts))) (fun t ht => by
      have e : trun pg pr (n + (D + 1)) 33 [t, t] s = .ok (.d, .bl true) s := s_same D t (List.all_eq_true.mp h.2 t ht) n s
      simp [tturn, Tg.own, twip, tcO, e])
    rw [go_33 rfl]
    simp [b_33, tis, tisi, tTy, tz, tlim_le _ (show (ts.map fun t => TV.tup [t, t]).length ≤ lim by rw [List.length_map]; omega), c, tbt_allt]
  | D + 1, .lst ts, h, n, s => by
    simp only [pq, Bool.and_eq_true, decide_eq_true_eq] at h
    have tz : tzip ts ts = ts.map fun t => .tup [t, t] := by
      have := tzip_map (fun t : TV => t) (fun t : TV => t) ts ts
      simp only [List.map_id'] at this
      rw [this]
      clear this h
      induction ts with
      | nil => rfl
      | cons t ts ih => simp [ih]
    have c := kcom_map (C := tcf pg pr (n + (D + 1))) (t := .tp [3, 4]) (c := none) (e := .cal 33 0 (.cons (.var 3) (.cons (.var 4) .nil)) .nil) (m := [some (.s, .lst ts), some (.s, .lst ts), some (.d, .bl true), none, none]) (enc := fun t => .tup [t, t]) (l := ts) (h := fun _ => .bl true) (s := s) (g := .s) (fun t ht => by
      have e : trun pg pr (n + (D + 1)) 33 [t, t] s = .ok (.d, .bl true) s := s_same D t (List.all_eq_true.mp h.2 t ht) n s
      simp [tturn, Tg.own, twip, tcO, e])
    rw [go_33 rfl]
    simp [b_33, tis, tisi, tTy, tz, tlim_le _ (show (ts.map fun t => TV.tup [t, t]).length ≤ lim by rw [List.length_map]; omega), c, tbt_allt]
/-- told and due are alike -/
theorem s_law_same {D : Nat} {t : TV} (h : pq true true D t = true) (hD : D ≤ 25) (n : Nat) (s : PS) : trun pg pr (n + 26) 33 [t, t] s = .ok (.d, .bl true) s := by
  have := s_same D t h (n + (25 - D)) s
  rwa [show n + (25 - D) + D + 1 = n + 26 by omega] at this


end K08

set_option Elab.async false
set_option linter.all false
set_option maxRecDepth 100000
set_option autoImplicit false
set_option maxHeartbeats 8000000
namespace K08
open PySem MP TM
/-! k08: tables of squares -/
theorem s_over {k l : Nat} {x y : Rat} (h : Qz k x) (g : Qz l y) (hy : y ≠ 0) (hk : k + l < 3990) (n : Nat) (s : PS) : trun pg pr (n + 3) 6 [frT x, frT y] s = .ok (.d, frT (x / y)) s := by
  have yn : y.num ≠ 0 := fun z => hy (by rw [← Rat.num_eq_zero]; exact z)
  have dn : (x.den : Int) * y.num ≠ 0 := Int.mul_ne_zero (by have := x.den_pos; omega) yn
  have e := s_by_lowest dn ((h.num.mul g.den).mono (by omega)) ((h.den.mul g.num).mono (by omega))
  have eq : Rat.divInt (x.num * (y.den : Int)) ((x.den : Int) * y.num) = x / y := by
    have hx : Rat.divInt x.num x.den = x := Rat.num_divInt_den x
    rw [← Rat.divInt_mul_divInt, hx, Rat.div_def, Rat.inv_def]
  rw [go_6 rfl, ← eq]
  simp [b_6, tb_mul _ _ (h.num.mulOk g.den (by omega)), tb_mul _ _ (h.den.mulOk g.num (by omega)), e]
theorem s_places_of {d : Nat} {ps : List (List Int)} (h : StOK d ps) (n : Nat) (s : PS) : trun pg pr (n + 2) 15 [stT d ps] s = .ok (.d, .lst (ps.map fun p => plT (atQ p))) s := by
  have f := h.few
  have c := kcom_map (C := tcf pg pr (n + 1)) (t := .nm 1) (c := none) (e := .cal 9 0 (.cons (.var 1) .nil) .nil) (m := [some (.s, stT d ps), none]) (enc := ptT) (l := ps) (h := fun p => plT (atQ p)) (s := s) (g := .s) (fun p hp => by
    have := h.d3
    have e := s_at_point (p := p) (by rw [h.len p hp]; omega)
    simp [tturn, Tg.own, twip, tcO, e])
  rw [go_15 rfl]
  simp [b_15, psT, tlim_map (f := ptT) (l := ps) (by omega), c]
/-- the square between two points -/
def sqZ (p q : List Int) : Int := ((p.zip q).map fun t => (t.1 - t.2) * (t.1 - t.2)).sum
def tabT (t : List (List Int)) : TV := .lst (t.map ptT)
def tabZ (ps : List (List Int)) : List (List Int) := ps.map fun p => ps.map fun q => sqZ p q
theorem zip_dup {α : Type} : ∀ l : List α, l.zip l = l.map fun a => (a, a)
  | [] => rfl
  | a :: l => by simp [zip_dup l]
theorem sq_Z (p q : List Int) : sqQ (atQ p) (atQ q) = ((sqZ p q : Int) : Rat) := by
  have foldl_sum : ∀ (l : List Int) (a : Int), (l.map fun (i : Int) => (i : Rat)).foldl (· + ·) (a : Rat) = ((a + l.sum : Int) : Rat) := by
    intro l
    induction l with
    | nil => intro a; simp
    | cons x l ih =>
      intro a
      simp only [List.map_cons, List.foldl_cons, List.sum_cons]
      rw [← Rat.intCast_add, ih, Int.add_assoc]
  have e : ((apartQ (atQ p) (atQ q)).zip (apartQ (atQ p) (atQ q))).map (fun t => t.1 * t.2) = (((p.zip q).map fun t => (t.1 - t.2) * (t.1 - t.2)).map fun (i : Int) => (i : Rat)) := by
    unfold apartQ atQ
    rw [zip_dup, List.zip_map]
    simp only [List.map_map]
    refine List.map_congr_left fun t _ => ?_
    simp [Rat.intCast_mul, Rat.intCast_sub]
  unfold sqQ innerQ
  rw [e]
  have := foldl_sum ((p.zip q).map fun t => (t.1 - t.2) * (t.1 - t.2)) 0
  simpa [sqZ] using this

end K08

set_option Elab.async false
set_option linter.all false
set_option maxRecDepth 100000
set_option autoImplicit false
set_option maxHeartbeats 8000000
namespace K08
open PySem MP TM
/-! k08: the tables, told by the program and by the law -/
theorem frT_Z (i : Int) : frT (i : Rat) = .tup [.int i, .int 1] := by simp [frT]
theorem s_table_of {d : Nat} {ps : List (List Int)} (h : StOK d ps) (n : Nat) (s : PS) : trun pg pr (n + 7) 16 [stT d ps] s = .ok (.d, tabT (tabZ ps)) s := by
  have f := h.few
  have d3 := h.d3
  have e1 := s_places_of h (n + (6 - 2)) s
  rw [show n + (6 - 2) + 2 = n + 6 by omega] at e1
  have row : ∀ p ∈ ps, ∀ (a : Option GV) (g1 : G), TM.kcom (tcf pg pr (n + 6)) (.nm 2) none (.idx (.cal 12 0 (.cons (.var 3) (.cons (.var 2) .nil)) .nil) (.cst (.int 0))) [a, some (g1, .lst (ps.map fun p => plT (atQ p))), none, some (.s, plT (atQ p))] (.s, ps.map fun p => plT (atQ p)) s = .ok (.d, ptT (ps.map fun q => sqZ p q)) s := by
    intro p hp a g1
    have c := kcom_map (C := tcf pg pr (n + 6)) (t := .nm 2) (c := none) (e := .idx (.cal 12 0 (.cons (.var 3) (.cons (.var 2) .nil)) .nil) (.cst (.int 0))) (m := [a, some (g1, .lst (ps.map fun p => plT (atQ p))), none, some (.s, plT (atQ p))]) (enc := fun p => plT (atQ p)) (l := ps) (h := fun q => TV.int (sqZ p q)) (s := s) (g := .s) (fun q hq => by
      have e := s_square (n := n + (6 - 6)) (s := s) (qz_atQ (h.sz p hp) (by omega)) (qz_atQ (h.sz q hq) (by omega)) (by simp [atQ, h.len p hp]; omega) (by omega)
      rw [show n + (6 - 6) + 6 = n + 6 by omega, sq_Z, frT_Z] at e
      simp [tturn, Tg.own, twip, tcO, e])
    rw [c]
    simp [ptT, List.map_map, Function.comp_def]
  have tl := tlim_map (s := s) (g := .s) (f := fun p => plT (atQ p)) (l := ps) (by omega)
  have c2 := kcom_map (C := tcf pg pr (n + 6)) (t := .nm 3) (c := none) (e := .com (.nm 2) (.seq (.var 1)) none (.idx (.cal 12 0 (.cons (.var 3) (.cons (.var 2) .nil)) .nil) (.cst (.int 0)))) (m := [some (.s, stT d ps), some (.d, .lst (ps.map fun p => plT (atQ p))), none, none]) (enc := fun p => plT (atQ p)) (l := ps) (h := fun p => ptT (ps.map fun q => sqZ p q)) (s := s) (g := .s) (fun p hp => by
    have r := row p hp
    simp [tturn, Tg.own, twip, tcO, tl, r])
  rw [go_16 rfl]
  simp [b_16, e1, tl, c2, tabT, tabZ, List.map_map, Function.comp_def]
theorem s_law_table {d : Nat} {ps : List (List Int)} (h : StOK d ps) (n : Nat) (s : PS) : trun pg pr (n + 1) 22 [stT d ps] s = .ok (.d, tabT (tabZ ps)) s := by
  have f := h.few
  have d3 := h.d3
  have tl := tlim_map (s := s) (g := .s) (f := ptT) (l := ps) (by omega)
  have cell : ∀ p ∈ ps, ∀ q ∈ ps, ∀ (a b c : Option GV), TM.kcom (tcf pg pr n) (.tp [1, 2]) none (.bin .mul (.blt .int (.cons (.bin .sub (.var 1) (.var 2)) .nil)) (.blt .int (.cons (.bin .sub (.var 1) (.var 2)) .nil))) [a, none, none, b, c] (.s, (p.zip q).map fun t => TV.tup [.int t.1, .int t.2]) s = .ok (.d, .lst ((p.zip q).map fun t => TV.int ((t.1 - t.2) * (t.1 - t.2)))) s := by
    intro p hp q hq a b c
    refine kcom_map (enc := fun t : Int × Int => TV.tup [.int t.1, .int t.2]) (l := p.zip q) (h := fun t => TV.int ((t.1 - t.2) * (t.1 - t.2))) fun t ht => ?_
    have z : Sz 12 (t.1 - t.2) := (h.sz p hp _ (List.of_mem_zip ht).1).sub (h.sz q hq _ (List.of_mem_zip ht).2) (by omega) (by omega)
    simp [tturn, Tg.own, twip, tcO, tb_mul _ _ (z.mulOk z (by omega))]
  have row : ∀ p ∈ ps, ∀ (b : Option GV), TM.kcom (tcf pg pr n) (.nm 3) none (.blt .sum (.cons (.com (.tp [1, 2]) (.zip (.var 4) (.var 3)) none (.bin .mul (.blt .int (.cons (.bin .sub (.var 1) (.var 2)) .nil)) (.blt .int (.cons (.bin .sub (.var 1) (.var 2)) .nil)))) .nil)) [some (.s, stT d ps), none, none, b, some (.s, ptT p)] (.s, ps.map ptT) s = .ok (.d, ptT (ps.map fun q => sqZ p q)) s := by
    intro p hp b
    have c := kcom_map (C := tcf pg pr n) (t := .nm 3) (c := none) (e := .blt .sum (.cons (.com (.tp [1, 2]) (.zip (.var 4) (.var 3)) none (.bin .mul (.blt .int (.cons (.bin .sub (.var 1) (.var 2)) .nil)) (.blt .int (.cons (.bin .sub (.var 1) (.var 2)) .nil)))) .nil)) (m := [some (.s, stT d ps), none, none, b, some (.s, ptT p)]) (enc := ptT) (l := ps) (h := fun q => TV.int (sqZ p q)) (s := s) (g := .s) (fun q hq => by
      have e := cell p hp q hq (some (.s, stT d ps)) (some (.s, ptT q)) (some (.s, ptT p))
      have tz := tlim_map (s := s) (g := .s) (f := fun t : Int × Int => TV.tup [.int t.1, .int t.2]) (l := p.zip q) (by have := h.len p hp; simp; omega)
      have ts := tbt_sum (g := .d) (tints_map (fun t : Int × Int => (t.1 - t.2) * (t.1 - t.2)) (p.zip q))
      simp only [ptT] at e ⊢
      simp [tturn, Tg.own, twip, tcO, tzip_map, tz, e, ts, sqZ])
    rw [c]
    simp [ptT, List.map_map, Function.comp_def]
  have c2 := kcom_map (C := tcf pg pr n) (t := .nm 4) (c := none) (e := .com (.nm 3) (.seq (.idx (.var 0) (.cst (.int 2)))) none (.blt .sum (.cons (.com (.tp [1, 2]) (.zip (.var 4) (.var 3)) none (.bin .mul (.blt .int (.cons (.bin .sub (.var 1) (.var 2)) .nil)) (.blt .int (.cons (.bin .sub (.var 1) (.var 2)) .nil)))) .nil))) (m := [some (.s, stT d ps), none, none, none, none]) (enc := ptT) (l := ps) (h := fun p => ptT (ps.map fun q => sqZ p q)) (s := s) (g := .s) (fun p hp => by
    have r := row p hp
    simp [tturn, Tg.own, twip, tcO, tl, r, psT])
  rw [go_22 rfl]
  simp [b_22, psT, tl, c2, tabT, tabZ, List.map_map, Function.comp_def]

end K08

set_option Elab.async false
set_option linter.all false
set_option maxRecDepth 100000
set_option autoImplicit false
set_option maxHeartbeats 8000000
namespace K08
open PySem MP TM
/-! k08: the ratio -/
def sumZ (t : List (List Int)) : Int := (t.map List.sum).sum
def ratQ (a b : List (List Int)) : Rat := if sumZ a = 0 then 1 else (sumZ b : Rat) / (sumZ a : Rat)
theorem frT_one : frT 1 = .tup [.int 1, .int 1] := by simp [frT]
theorem w_sums {C : TCf PS} {m : TSl} {s : PS} {t : List (List Int)} (ht : t.length ≤ 12) (g : G) (i : Nat) (hm : ∀ (g : G) (x : TV), (m.set i (some (g, x)))[i]? = some (some (g, x))) : TM.kcom C (.nm i) none (.blt .sum (.cons (.var i) .nil)) m (g, t.map ptT) s = .ok (.d, .lst ((t.map List.sum).map .int)) s := by
  have c := kcom_map (C := C) (t := .nm i) (c := none) (e := .blt .sum (.cons (.var i) .nil)) (m := m) (enc := ptT) (l := t) (h := fun p => TV.int p.sum) (s := s) (g := g) (fun p hp => by
    have ts := tbt_sum (g := .s) (tints_id p)
    have hm' := hm .s (ptT p)
    simp only [ptT] at hm'
    simp [tturn, tset, Tg.own, twip, tcO, hm', ts, ptT, gr, noL, noLs])
  rw [c]
  simp [List.map_map, Function.comp_def]
theorem s_ratio_of {a b : List (List Int)} (ha : a.length ≤ 12) (hb : b.length ≤ 12) (za : Sz 40 (sumZ a)) (zb : Sz 40 (sumZ b)) (n : Nat) (s : PS) : trun pg pr (n + 4) 17 [tabT a, tabT b] s = .ok (.d, frT (ratQ a b)) s := by
  have w1 := w_sums (C := tcf pg pr (n + 3)) (m := [some (.s, tabT a), some (.s, tabT b), none, none, none]) (s := s) ha .s 4 (fun _ _ => rfl)
  have w2 := w_sums (C := tcf pg pr (n + 3)) (m := [some (.s, tabT a), some (.s, tabT b), none, none, none]) (s := s) hb .s 4 (fun _ _ => rfl)
  have t1 := tlim_map (s := s) (g := .s) (f := ptT) (l := a) (by omega)
  have t2 := tlim_map (s := s) (g := .s) (f := ptT) (l := b) (by omega)
  have u1 := tbt_sum (g := .d) (tints_id (a.map List.sum))
  have u2 := tbt_sum (g := .d) (tints_id (b.map List.sum))
  simp only [tabT] at w1 w2 ⊢
  rw [go_17 rfl]
  unfold ratQ
  by_cases h0 : sumZ a = 0
  · rw [if_pos h0]
    unfold sumZ at h0
    rw [h0] at u1
    simp [-List.map_map, b_17, t1, t2, w1, w2, u1, u2, te_glo _ _ _ (tgl_2 _) (show tcv (.tup [.int 1, .int 1]) = some (.tup [.int 1, .int 1]) from rfl), frT_one]
    rfl
  · rw [if_neg h0]
    have e := s_over (n := n + (3 - 3)) (s := s) (Qz.ofInt zb (by omega)) (Qz.ofInt za (by omega)) (by simpa using h0) (by omega)
    rw [show n + (3 - 3) + 3 = n + 3 by omega, frT_Z, frT_Z] at e
    unfold sumZ at h0 e ⊢
    have hq : ((a.map List.sum).sum == 0) = false := by simpa using h0
    simp [-List.map_map, b_17, t1, t2, w1, w2, u1, u2, e, hq]
theorem div_divInt (a b : Int) (hb : b ≠ 0) : Rat.divInt a b = (a : Rat) / (b : Rat) := by
  rw [Rat.divInt_eq_div]
theorem s_law_ratio {a b : List (List Int)} (ha : a.length ≤ 12) (hb : b.length ≤ 12) (za : Sz 40 (sumZ a)) (zb : Sz 40 (sumZ b)) (h0 : 0 ≤ sumZ a) (n : Nat) (s : PS) : trun pg pr (n + 3) 25 [tabT a, tabT b] s = .ok (.d, frT (ratQ a b)) s := by
  have w1 := w_sums (C := tcf pg pr (n + 2)) (m := [some (.s, tabT a), some (.s, tabT b), none, none, none]) (s := s) ha .s 4 (fun _ _ => rfl)
  have w2 := w_sums (C := tcf pg pr (n + 2)) (m := [some (.s, tabT a), some (.s, tabT b), none, none, none]) (s := s) hb .s 4 (fun _ _ => rfl)
  have t1 := tlim_map (s := s) (g := .s) (f := ptT) (l := a) (by omega)
  have t2 := tlim_map (s := s) (g := .s) (f := ptT) (l := b) (by omega)
  have u1 := tbt_sum (g := .d) (tints_id (a.map List.sum))
  have u2 := tbt_sum (g := .d) (tints_id (b.map List.sum))
  simp only [tabT] at w1 w2 ⊢
  rw [go_25 rfl]
  unfold ratQ
  by_cases hz : sumZ a = 0
  · rw [if_pos hz]
    unfold sumZ at hz
    rw [hz] at u1
    simp [-List.map_map, b_25, t1, t2, w1, w2, u1, u2, frT_one, gr, noL, noLs]
  · rw [if_neg hz]
    have e := s_law_by (n := n + (2 - 2)) (s := s) hz (zb.mono (by omega)) (za.mono (by omega))
    rw [show n + (2 - 2) + 2 = n + 2 by omega, div_divInt _ _ hz] at e
    unfold sumZ at h0 hz e ⊢
    have hq : decide (0 < (a.map List.sum).sum) = true := decide_eq_true (by omega)
    simp [-List.map_map, b_25, t1, t2, w1, w2, u1, u2, e, hq]

end K08

set_option Elab.async false
set_option linter.all false
set_option maxRecDepth 100000
set_option autoImplicit false
set_option maxHeartbeats 8000000
namespace K08
open PySem MP TM
/-! shuffled -/
theorem s_law_shuffled {c : Nat} {σ : PS} {α : Type} {enc : α → TV} {xs : List α} (u : Pu c σ) (hc : c + xs.length < 900000) (hl : xs.length ≤ 1000) (n : Nat) : WP (trun pg pr (n + 22) 31 [.pur, .lst (xs.map enc)] σ) fun v σ' => ∃ (g : G) (ys : List α), v = (g, .lst (ys.map enc)) ∧ g ≠ G.s ∧ ys.Perm xs ∧ Pu (c + xs.length) σ' := by
  obtain ⟨g1, e1, g0⟩ : ∃ g', gl .s (xs.map enc) = g' ∧ (g' = .r ∨ (g' = .d ∧ ∀ x ∈ xs, noL (enc x) = true)) := by
    rcases gl_cases .s (xs.map enc) with h | ⟨h, h3 | h3⟩
    · exact ⟨_, rfl, .inl h⟩
    · cases h3
    · exact ⟨_, rfl, .inr ⟨h, fun z hz => h3 _ (List.mem_map.mpr ⟨z, hz, rfl⟩)⟩⟩
  have hk : ∀ g', leak (gm g' G.d) [1] [some (G.d, TV.pur), some (G.s, TV.lst (xs.map enc)), none, none, none] = [some (G.d, TV.pur), some (G.s, TV.lst (xs.map enc)), none, none, none] := fun g' => by cases g' <;> simp
  rw [go_31 rfl]
  simp [b_31, tlim_map (l := xs) (f := enc) (by omega), e1, hk, fvE, fvEs, fvI]
  generalize hz : tforL _ _ _ _ = z
  obtain ⟨m', σ', rfl, gl, gf, lf, fo, y, hm, h1, h2, h3, h4, h5⟩ := wfor hz (fun i m s => ∃ gl gf lf fo y, m = [some (G.d, TV.pur), some (G.s, TV.lst (xs.map enc)), some (gl, .lst (lf.map enc)), some (gf, .lst (fo.map enc)), y] ∧ (gl = .r ∨ (gl = .d ∧ ∀ x ∈ lf, noL (enc x) = true)) ∧ gf ≠ .s ∧ (fo ++ lf).Perm xs ∧ fo.length = i ∧ Pu (c + i) s) ⟨g1, .d, xs, [], none, rfl, g0, by simp, by simp, rfl, u⟩ (by
    rintro i hi m s ⟨gl, gf, lf, fo, y, rfl, h1, h2, h3, h4, h5⟩
    have hlen := h3.length_eq
    simp only [List.length_append] at hlen
    obtain ⟨t, σ', e, t0, t1, u1⟩ := s_draw (k := (lf.length : Int)) h5 (by omega) (by omega) (by omega) n
    obtain ⟨j, rfl⟩ : ∃ j : Nat, t = j := ⟨t.toNat, by omega⟩
    have hj : j < lf.length := by omega
    obtain ⟨g', gf', p1, p2, p3⟩ := popapp_ok (enc := enc) (lf := lf) (fo := fo) (x := 3) (y := 2) (m := [some (G.d, TV.pur), some (G.s, TV.lst (xs.map enc)), some (gl, .lst (lf.map enc)), some (gf, .lst (fo.map enc)), some (gr .s (enc xs[i]), enc xs[i])]) (g := gl) (gf := gf) (gk := .d) (i := j) (by omega) rfl rfl hj (lim_of (by omega)) (by unfold lim; omega) h1 h2
    simp [tfturn, e, p1]
    refine ⟨g', gf', lf.eraseIdx j, fo ++ [lf[j]], ⟨⟨rfl, rfl⟩, rfl, by simp⟩, p2, p3, ?_, by simp [h4], u1⟩
    refine List.Perm.trans ?_ h3
    rw [List.append_assoc]
    exact List.Perm.append_left _ (perm_out lf j hj))
  subst hm
  simp
  have : lf = [] := by
    have := h3.length_eq
    simp only [List.length_append] at this
    exact List.length_eq_zero_iff.mp (by omega)
  subst this
  exact ⟨gf, fo, ⟨rfl, rfl⟩, h2, by simpa using h3, h5⟩

end K08

set_option Elab.async false
set_option linter.all false
set_option maxRecDepth 100000
set_option autoImplicit false
set_option maxHeartbeats 8000000
namespace K08
open PySem MP TM
/-! k08: which number may follow -/
def tb (a : List (List Int)) (i j : Nat) : Int := (a.getD i []).getD j 0
@[simp] theorem gr_tab (g : G) (a : List (List Int)) : gr g (tabT a) = g := rfl
structure TabOK (N : Nat) (a : List (List Int)) : Prop where
  len : a.length = N
  row : ∀ r ∈ a, r.length = N
  sz : ∀ r ∈ a, ∀ i ∈ r, Sz 30 i
theorem TabOK.get {N : Nat} {a : List (List Int)} (h : TabOK N a) {i j : Nat} (hi : i < N) (hj : j < N) : ∃ (h1 : i < a.length) (h2 : j < a[i].length), a[i][j] = tb a i j ∧ Sz 30 (tb a i j) := by
  have h1 : i < a.length := by rw [h.len]; exact hi
  have h2 : j < a[i].length := by rw [h.row _ (List.getElem_mem h1)]; exact hj
  have e : a[i][j] = tb a i j := by simp [tb, h1, h2]
  exact ⟨h1, h2, e, e ▸ h.sz _ (List.getElem_mem h1) _ (List.getElem_mem h2)⟩
def okp (a b : List (List Int)) (r : Rat) (k x : Nat) (p : Nat × Nat) : Bool := decide (tb b x p.1 * r.den = tb a k p.2 * r.num)
def okn (a b : List (List Int)) (r : Rat) (row : List Nat) (x : Nat) : Bool := !decide (x ∈ row) && row.zipIdx.all (okp a b r row.length x)
theorem tx_tab {N : Nat} {a : List (List Int)} (h : TabOK N a) {i : Nat} (hi : i < N) (g g' : G) : ∃ r, tidx (g, tabT a) (g', .int (i : Int)) = some (gsub g, ptT r) ∧ r.length = N ∧ ∀ j, j < N → ∀ g g', tidx (g, ptT r) (g', .int (j : Int)) = some (.d, .int (tb a i j)) := by
  have h1 : i < a.length := by rw [h.len]; exact hi
  refine ⟨a[i], tx_nat g g' h1, h.row _ (List.getElem_mem h1), fun j hj g g' => ?_⟩
  obtain ⟨_, h2, e, _⟩ := h.get hi hj
  have := tx_nat (f := TV.int) g g' h2
  rw [e] at this
  exact this
structure RowOK (N : Nat) (row : List Nat) : Prop where
  len : row.length < N
  lt : ∀ x ∈ row, x < N
theorem zi_get {row : List Nat} {p : Nat × Nat} (h : p ∈ row.zipIdx) : p.2 < row.length ∧ p.1 ∈ row := by
  obtain ⟨x, i⟩ := p
  have := List.mem_zipIdx_iff_getElem?.mp h
  obtain ⟨h1, h2⟩ := List.getElem?_eq_some_iff.mp this
  exact ⟨h1, h2 ▸ List.getElem_mem h1⟩
theorem s_may_follow {N : Nat} {a b : List (List Int)} {r : Rat} {row : List Nat} {x : Nat} (ha : TabOK N a) (hb : TabOK N b) (hr : Qz 60 r) (ho : RowOK N row) (hx : x < N) (hN : N ≤ 100) (n : Nat) (s : PS) : trun pg pr (n + 1) 18 [tabT a, tabT b, frT r, nbT row, .int x] s = .ok (.d, .bl (okn a b r row x)) s := by
  have hl := ho.len
  have ti := tin_nb (l := row) (i := x) (by omega)
  rw [go_18 rfl]
  by_cases hm : x ∈ row
  · simp [b_18, ti, okn, hm]
  obtain ⟨rb, x1, -, x2⟩ := tx_tab hb hx .s .d
  obtain ⟨ra, y1, -, y2⟩ := tx_tab ha hl .s .d
  have tl : ∀ g, tlim ((row.zipIdx).map fun p => TV.tup [.int (p.2 : Nat), .int (p.1 : Nat)]) s g = .ok (g, (row.zipIdx).map fun p => TV.tup [.int (p.2 : Nat), .int (p.1 : Nat)]) s := fun g => tlim_map (by simp; omega)
  have mz := map_zipIdx (f := fun (i : Nat) => TV.int (i : Int)) row
  simp only [nbT] at ti ⊢
  simp [b_18, ti, hm, mz, tl, fvE, fvEs, fvI]
  generalize hz : tforL _ _ _ _ = z
  rcases wfor_ret hz (fun i m s' => s' = s ∧ (∃ y6 y7, m = [some (.s, tabT a), some (.s, tabT b), some (.d, frT r), some (.s, nbT row), some (.d, .int x), some (.d, .int row.length), y6, y7]) ∧ ∀ (j : Nat) (h : j < row.zipIdx.length), j < i → okp a b r row.length x row.zipIdx[j] = true) (fun v m s' => s' = s ∧ v = (.d, .bl false) ∧ ∃ p ∈ row.zipIdx, okp a b r row.length x p = false) ⟨rfl, ⟨none, none, rfl⟩, by simp⟩ (by
    rintro i hi m s' ⟨rfl, ⟨y6, y7, rfl⟩, h⟩
    have hp : row.zipIdx[i] ∈ row.zipIdx := List.getElem_mem hi
    obtain ⟨q1, q2⟩ := zi_get hp
    generalize hpe : row.zipIdx[i] = p at hp q1 q2
    obtain ⟨_, _, _, z1⟩ := hb.get hx (ho.lt _ q2)
    obtain ⟨_, _, _, z2⟩ := ha.get hl (show p.2 < N by omega)
    have e1 := x2 _ (ho.lt _ q2)
    have e2 := y2 p.2 (by omega)
    have m1 := tb_mul .d .d (z1.mulOk hr.den (by omega))
    have m2 := tb_mul .d .d (z2.mulOk hr.num (by omega))
    by_cases hk : tb b x p.1 * r.den = tb a row.length p.2 * r.num
    · refine wp_of (by simp [tfturn, x1, y1, e1, e2, m1, m2, hk]; exact ⟨rfl, rfl⟩) ?_
      refine .inl ⟨rfl, rfl, ⟨_, _, rfl⟩, ?_⟩
      intro j hj hji
      by_cases hji' : j < i
      · exact h j hj hji'
      · have : j = i := by omega
        subst this
        rw [hpe]
        simp [okp, hk]
    · have hk' : (tb b x p.1 * r.den == tb a row.length p.2 * r.num) = false := by simpa using hk
      refine wp_of (by simp [tfturn, x1, y1, e1, e2, m1, m2, hk']; exact ⟨rfl, rfl⟩) ?_
      exact .inr ⟨_, rfl, rfl, rfl, p, hp, by simp [okp, hk]⟩) with ⟨m', s', rfl, rfl, ⟨y6, y7, rfl⟩, h⟩ | ⟨v, m', s', rfl, rfl, rfl, p, hp, hq⟩
  · have : okn a b r row x = true := by
      simp only [okn, hm, decide_false, Bool.not_false, Bool.true_and, List.all_eq_true]
      intro p hp
      obtain ⟨j, hj, rfl⟩ := List.mem_iff_getElem.mp hp
      exact h j hj hj
    simp [this]
  · have : okn a b r row x = false := by
      simp only [okn, hm, decide_false, Bool.not_false, Bool.true_and, List.all_eq_false]
      exact ⟨p, hp, by simp [hq]⟩
    simp [this]
theorem s_law_goes {N : Nat} {a b : List (List Int)} {r : Rat} {row : List Nat} {x : Nat} (ha : TabOK N a) (hb : TabOK N b) (hr : Qz 60 r) (ho : RowOK N row) (hx : x < N) (hN : N ≤ 100) (n : Nat) (s : PS) : trun pg pr (n + 1) 23 [tabT a, tabT b, frT r, nbT row, .int x] s = .ok (.d, .bl (okn a b r row x)) s := by
  have hl := ho.len
  have ti := tin_nb (l := row) (i := x) (by omega)
  rw [go_23 rfl]
  by_cases hm : x ∈ row
  · simp [b_23, ti, okn, hm]
  obtain ⟨rb, x1, -, x2⟩ := tx_tab hb hx .s .d
  obtain ⟨ra, y1, -, y2⟩ := tx_tab ha hl .s .d
  have tl : ∀ g, tlim ((row.zipIdx).map fun p => TV.tup [.int (p.2 : Nat), .int (p.1 : Nat)]) s g = .ok (g, (row.zipIdx).map fun p => TV.tup [.int (p.2 : Nat), .int (p.1 : Nat)]) s := fun g => tlim_map (by simp; omega)
  have mz := map_zipIdx (f := fun (i : Nat) => TV.int (i : Int)) row
  simp only [nbT] at ti ⊢
  simp [b_23, ti, hm, mz, tl]
  generalize hz : TM.kcom _ _ _ _ _ _ _ = z
  have hz := hz.symm.trans (wfil (p := fun p => !okp a b r row.length x p) (h := fun _ => .int 1) fun p hp => by
    obtain ⟨q1, q2⟩ := zi_get hp
    obtain ⟨_, _, _, z1⟩ := hb.get hx (ho.lt _ q2)
    obtain ⟨_, _, _, z2⟩ := ha.get hl (show p.2 < N by omega)
    have e1 := x2 _ (ho.lt _ q2)
    have e2 := y2 p.2 (by omega)
    have m1 := tb_mul .d .d (z1.mulOk hr.den (by omega))
    have m2 := tb_mul .d .d (z2.mulOk hr.num (by omega))
    by_cases hk : tb b x p.1 * r.den = tb a row.length p.2 * r.num
    · simp [tturn, Tg.own, twip, tcO, x1, y1, e1, e2, m1, m2, hk, okp]
    · have hk' : (tb a row.length p.2 * r.num == tb b x p.1 * r.den) = false := by simpa using fun h => hk h.symm
      simp [tturn, Tg.own, twip, tcO, x1, y1, e1, e2, m1, m2, hk, hk', okp])
  subst hz
  have et : ∀ l : List (Nat × Nat), l.length ≤ 1000 → teq (.lst (l.map fun _ => TV.int 1)) (.lst []) = some (decide (l = [])) := by
    intro l hl
    cases l with
    | nil => exact teq_t (s := false) nil_pq
    | cons x l => exact teq_f (s := false) (pq_le (pq_lst (n := 0) (fun _ _ => rfl) (by unfold lim; omega)) (by omega)) nil_pq (by simp)
  have hlen : (row.zipIdx.filter fun p => !okp a b r row.length x p).length ≤ 1000 := Nat.le_trans (List.length_filter_le ..) (by simp; omega)
  have hd : decide ((row.zipIdx.filter fun p => !okp a b r row.length x p) = []) = okn a b r row x := by
    rw [Bool.eq_iff_iff]
    simp [okn, hm, List.filter_eq_nil_iff]
  simp [et _ hlen, hd]

end K08

set_option Elab.async false
set_option linter.all false
set_option maxRecDepth 100000
set_option autoImplicit false
set_option maxHeartbeats 8000000
namespace K08
open PySem MP TM
/-! k08: all rows that fit -/
def fitsK (a b : List (List Int)) (r : Rat) (M : Nat) : Nat → List (List Nat)
  | 0 => [[]]
  | k + 1 => (fitsK a b r M k).flatMap fun row => ((List.range M).filter (okn a b r row)).map fun x => row ++ [x]
def cnt (M : Nat) : Nat → Nat
  | 0 => 1
  | k + 1 => cnt M k * (M - k)
theorem mem_fitsK {a b : List (List Int)} {r : Rat} {M k : Nat} {row : List Nat} : row ∈ fitsK a b r M (k + 1) ↔ ∃ q x, q ∈ fitsK a b r M k ∧ x < M ∧ okn a b r q x = true ∧ row = q ++ [x] := by
  simp only [fitsK, List.mem_flatMap, List.mem_map, List.mem_filter, List.mem_range]
  constructor
  · rintro ⟨q, h1, x, ⟨h2, h3⟩, h4⟩
    exact ⟨q, x, h1, h2, h3, h4.symm⟩
  · rintro ⟨q, x, h1, h2, h3, h4⟩
    exact ⟨q, h1, x, ⟨h2, h3⟩, h4.symm⟩
theorem fitsK_ok {a b : List (List Int)} {r : Rat} {M : Nat} : ∀ (k : Nat) (row : List Nat), row ∈ fitsK a b r M k → row.length = k ∧ row.Nodup ∧ ∀ x ∈ row, x < M
  | 0, row, h => by
    simp [fitsK] at h
    subst h
    simp
  | k + 1, row, h => by
    obtain ⟨q, x, h1, h2, h3, rfl⟩ := mem_fitsK.mp h
    obtain ⟨l, nd, lt⟩ := fitsK_ok k q h1
    simp only [okn, Bool.and_eq_true, Bool.not_eq_eq_eq_not, Bool.not_true, decide_eq_false_iff_not] at h3
    refine ⟨by simp [l], ?_, fun y hy => ?_⟩
    · rw [List.nodup_append]
      exact ⟨nd, by simp, fun u hu v hv e => h3.1 (by simp at hv; rw [← hv, ← e]; exact hu)⟩
    · rcases List.mem_append.mp hy with hy | hy
      · exact lt y hy
      · simp at hy
        omega
theorem flat_len {α β : Type} {f : α → List β} {c : Nat} : ∀ {l : List α}, (∀ x ∈ l, (f x).length ≤ c) → (l.flatMap f).length ≤ l.length * c
  | [], _ => by simp
  | x :: l, h => by
    have h1 := h x (List.mem_cons_self ..)
    have h2 := flat_len (l := l) fun y hy => h y (List.mem_cons_of_mem _ hy)
    simp only [List.flatMap_cons, List.length_append, List.length_cons, Nat.add_mul, Nat.one_mul]
    omega
theorem len_split {α : Type} (p : α → Bool) : ∀ l : List α, (l.filter p).length + (l.filter fun x => !p x).length = l.length
  | [] => rfl
  | x :: l => by
    have := len_split p l
    cases h : p x <;> simp [h] <;> omega
theorem len_imp {α : Type} {p q : α → Bool} (h : ∀ x, p x = true → q x = true) : ∀ l : List α, (l.filter p).length ≤ (l.filter q).length
  | [] => Nat.le_refl _
  | x :: l => by
    have := len_imp h l
    cases e : p x
    · cases e2 : q x <;> simp [e, e2] <;> omega
    · simp [e, h x e]
      omega
theorem filter_out_len {M : Nat} {row : List Nat} (nd : row.Nodup) (lt : ∀ x ∈ row, x < M) : ((List.range M).filter fun x => !decide (x ∈ row)).length ≤ M - row.length := by
  have e := len_split (fun x => decide (x ∈ row)) (List.range M)
  rw [List.length_range] at e
  have f : row.Perm ((List.range M).filter fun x => decide (x ∈ row)) := (List.perm_ext_iff_of_nodup nd (List.nodup_range.filter _)).mpr fun x => by
    simp only [List.mem_filter, List.mem_range, decide_eq_true_eq]
    exact ⟨fun h => ⟨lt x h, h⟩, fun h => h.2⟩
  have := f.length_eq
  omega
theorem fits_len {a b : List (List Int)} {r : Rat} {M : Nat} : ∀ k, (fitsK a b r M k).length ≤ cnt M k
  | 0 => by simp [fitsK, cnt]
  | k + 1 => by
    refine Nat.le_trans (flat_len (c := M - k) fun row hrow => ?_) (Nat.mul_le_mul_right _ (fits_len k))
    obtain ⟨l, nd, lt⟩ := fitsK_ok k row hrow
    rw [List.length_map, ← l]
    refine Nat.le_trans ?_ (filter_out_len nd lt)
    refine len_imp (fun x hx => ?_) _
    simp only [okn, Bool.and_eq_true] at hx
    exact hx.1
theorem cnt_le {M k : Nat} (hM : M ≤ 8) (hk : k ≤ 8) : cnt M k ≤ 40320 := by
  have : ∀ M < 9, ∀ k < 9, cnt M k ≤ 40320 := by decide +kernel
  exact this M (by omega) k (by omega)
theorem fits_le {a b : List (List Int)} {r : Rat} {M k : Nat} (hM : M ≤ 8) (hk : k ≤ 8) : (fitsK a b r M k).length ≤ 40320 := Nat.le_trans (fits_len k) (cnt_le hM hk)
@[simp] theorem noL_bk (B : List (List Nat)) : noL (bkT B) = false := rfl
theorem tmth_ext {g g' : G} {xs ys : List TV} {w : GV} (h : xs.length + ys.length ≤ lim) (h2 : gput g (gsub g') (xs ++ ys) = some w) : tmth .extend (g, .lst xs) [(g', .lst ys)] = some (w, (.d, .non)) := by
  simp [tmth, h, h2]
def nxt (a b : List (List Int)) (r : Rat) (M : Nat) (row : List Nat) : List (List Nat) := ((List.range M).filter (okn a b r row)).map fun x => row ++ [x]
theorem nxt_len {a b : List (List Int)} {r : Rat} {M : Nat} {row : List Nat} : (nxt a b r M row).length ≤ M := by
  unfold nxt
  rw [List.length_map]
  exact Nat.le_trans (List.length_filter_le ..) (by simp)
theorem tk_flat {α β : Type} (f : α → List β) (l : List α) (i : Nat) (h : i < l.length) : (l.take (i + 1)).flatMap f = (l.take i).flatMap f ++ f l[i] := by
  rw [List.take_succ, List.getElem?_eq_getElem h, List.flatMap_append]
  simp
theorem s_fits_of {N : Nat} {a b : List (List Int)} {r : Rat} (ha : TabOK N a) (hb : TabOK N b) (hr : Qz 60 r) (hN : N ≤ 8) (n : Nat) (s : PS) : trun pg pr (n + 2) 19 [tabT a, tabT b, frT r] s = .ok (.d, bkT (fitsK a b r N N)) s := by
  have la := ha.len
  have tl := tlim_map (s := s) (g := .s) (f := ptT) (l := a) (by omega)
  rw [go_19 rfl]
  have e0 : TV.lst [.lst []] = bkT (fitsK a b r N 0) := rfl
  simp [b_19, tabT, tl, e0, fvE, fvEs, fvI]
  generalize hz : tforL _ _ _ _ = z
  obtain ⟨m', s', rfl, rfl, y4, y5, y6, y7, y8, rfl⟩ := wfor hz (fun i m s' => s' = s ∧ ∃ y4 y5 y6 y7 y8, m = [some (.s, tabT a), some (.s, tabT b), some (.d, frT r), some (.d, bkT (fitsK a b r N i)), y4, y5, y6, y7, y8]) ⟨rfl, _, _, _, _, _, rfl⟩ (by
    rintro i hi m s' ⟨rfl, y4, y5, y6, y7, y8, rfl⟩
    rw [la] at hi
    have fl : (fitsK a b r N i).length ≤ 40320 := fits_le hN (by omega)
    have tl : ∀ g, tlim ((fitsK a b r N i).map nbT) s' g = .ok (g, (fitsK a b r N i).map nbT) s' := fun g => tlim_map (by omega)
    refine wp_eq (x := ((tforL (tfturn (.nm 6) (texs (tcf pg pr (n + 1)) pg.most (.cons (.asg (.nm 7) (.com (.nm 8) (.rg1 (.blt .len (.cons (.var 1) .nil))) (some (.cal 18 0 (.cons (.var 0) (.cons (.var 1) (.cons (.var 2) (.cons (.var 6) (.cons (.var 8) .nil))))) .nil)) (.var 8))) (.cons (.exp (.mth .extend (.var 5) (.cons (.com (.nm 8) (.seq (.var 7)) none (.bin .add (.var 6) (.lst (.cons (.var 8) .nil)))) .nil))) .nil)))) ((fitsK a b r N i).map nbT) [some (.s, tabT a), some (.s, tabT b), some (.d, frT r), some (.s, bkT (fitsK a b r N i)), some (.s, ptT a[i]), some (.d, .lst []), y6, y7, y8] s').bnd (kss (tcf pg pr (n + 1)) pg.most (.cons (.asg (.nm 3) (.var 5)) .nil)))) (by simp [tfturn, tl, fvE, fvEs, fvI]) ?_
    generalize hz : tforL _ _ _ _ = z
    obtain ⟨m', s', rfl, rfl, y6, y7, y8, rfl⟩ := wfor hz (fun j m s2 => s2 = s' ∧ ∃ y6 y7 y8, m = [some (.s, tabT a), some (.s, tabT b), some (.d, frT r), some (.s, bkT (fitsK a b r N i)), some (.s, ptT a[i]), some (.d, bkT (((fitsK a b r N i).take j).flatMap (nxt a b r N))), y6, y7, y8]) ⟨rfl, _, _, _, rfl⟩ (by
      rintro j hj m s2 ⟨rfl, y6, y7, y8, rfl⟩
      have hrow : (fitsK a b r N i)[j] ∈ fitsK a b r N i := List.getElem_mem hj
      rw [tk_flat _ _ _ hj]
      have ll : (((fitsK a b r N i).take j).flatMap (nxt a b r N)).length ≤ 40320 * 8 := by
        refine Nat.le_trans (flat_len (c := 8) fun row _ => Nat.le_trans nxt_len hN) (Nat.mul_le_mul_right _ ?_)
        rw [List.length_take]
        omega
      generalize (fitsK a b r N i)[j] = row at hrow
      obtain ⟨l, nd, lt⟩ := fitsK_ok i row hrow
      have ro : RowOK N row := ⟨by omega, lt⟩
      have hr1 : -1000000 ≤ (N : Int) ∧ (N : Int) ≤ 1000000 := by omega
      have hbl := hb.len
      simp [tfturn, tabT, k_rg1 _ _ hr1, hbl, trg0]
      generalize hz : TM.kcom _ _ _ _ _ _ _ = z
      have hz := hz.symm.trans (wfil (p := okn a b r row) (h := fun (x : Nat) => .int (x : Int)) fun x hx => by
        have e := s_may_follow ha hb hr ro (List.mem_range.mp hx) (by omega) (n + (1 - 1)) s2
        simp only [tabT] at e
        cases ho : okn a b r row x <;> simp [tturn, Tg.own, twip, tcO, e, ho])
      subst hz
      have tl2 : ∀ g, tlim (((List.range N).filter (okn a b r row)).map fun (x : Nat) => TV.int (x : Int)) s2 g = .ok (g, ((List.range N).filter (okn a b r row)).map fun (x : Nat) => TV.int (x : Int)) s2 := fun g => tlim_map (Nat.le_trans (List.length_filter_le ..) (by simp; omega))
      simp [tl2]
      generalize hz : TM.kcom _ _ _ _ _ _ _ = z
      have hz := hz.symm.trans (wmap (h := fun (x : Nat) => nbT (row ++ [x])) fun x hx => by
        have ea : ∀ g g', tbin .add (g, .lst (row.map fun (i : Nat) => TV.int (i : Int))) (g', .lst [.int (x : Int)]) = some (.d, nbT (row ++ [x])) := fun g g' => by
          rw [tb_addL _ _ (by simp; exact lim_of (by omega)), gl_noL (by rw [noLs_iff]; intro t ht; simp at ht; rcases ht with ⟨_, _, rfl⟩ | rfl <;> rfl)]
          simp [nbT]
        simp [tturn, Tg.own, twip, tcO, nbT, ea])
      subst hz
      have te : tmth .extend (.d, bkT (((fitsK a b r N i).take j).flatMap (nxt a b r N))) [(.d, .lst (((List.range N).filter (okn a b r row)).map fun (x : Nat) => nbT (row ++ [x])))] = some ((.d, bkT (((fitsK a b r N i).take j).flatMap (nxt a b r N) ++ nxt a b r N row)), (.d, .non)) := by
        have ef : (((List.range N).filter (okn a b r row)).map fun (x : Nat) => nbT (row ++ [x])) = (nxt a b r N row).map nbT := by simp [nxt, List.map_map, Function.comp_def]
        have := nxt_len (a := a) (b := b) (r := r) (M := N) (row := row)
        rw [ef]
        refine tmth_ext (by simp only [List.length_map]; unfold lim; omega) ?_
        rw [← List.map_append]
        exact gput_dd _
      refine wp_of (by simp [TM.kapp, te]; exact ⟨rfl, rfl⟩) ?_
      exact ⟨rfl, rfl, _, _, _, rfl⟩)
    refine wp_of (by simp; exact ⟨rfl, rfl⟩) ?_
    exact ⟨rfl, rfl, _, _, _, _, _, rfl⟩)
  rw [la]
  simp

end K08

set_option Elab.async false
set_option linter.all false
set_option maxRecDepth 100000
set_option autoImplicit false
set_option maxHeartbeats 8000000
namespace K08
open PySem MP TM
/-! k08: fits told by the law, by the program -/
theorem tsum_bb (B : List (List (List Nat))) (hl : B.flatten.length ≤ 900000) (g : G) : tbt .sum [(.d, .lst (B.map bkT)), (.d, .lst [])] = some (.d, bkT B.flatten) := by
  have e : tlsts (B.map bkT) = some (B.map fun b => b.map nbT) := tlsts_map (fun b : List (List Nat) => b.map nbT) B
  have f : (B.map fun b => b.map nbT).flatten = B.flatten.map nbT := by rw [List.map_flatten]
  cases B with
  | nil => rfl
  | cons b B =>
    simp only [tbt, tsumL]
    rw [e]
    simp only
    rw [f, if_pos (by rw [List.length_map]; unfold lim; omega)]
    simp [bkT]
theorem s_law_fits {N : Nat} {a b : List (List Int)} {r : Rat} (ha : TabOK N a) (hb : TabOK N b) (hr : Qz 60 r) (hN : N ≤ 8) (n : Nat) (s : PS) : trun pg pr (n + 2) 24 [tabT a, tabT b, frT r] s = .ok (.d, bkT (fitsK a b r N N)) s := by
  have la := ha.len
  have tl := tlim_map (s := s) (g := .s) (f := ptT) (l := a) (by omega)
  rw [go_24 rfl]
  have e0 : TV.lst [.lst []] = bkT (fitsK a b r N 0) := rfl
  simp [b_24, tabT, tl, e0, fvE, fvEs, fvI]
  generalize hz : tforL _ _ _ _ = z
  obtain ⟨m', s', rfl, rfl, y4, y5, y6, rfl⟩ := wfor hz (fun i m s' => s' = s ∧ ∃ y4 y5 y6, m = [some (.s, tabT a), some (.s, tabT b), some (.d, frT r), some (.d, bkT (fitsK a b r N i)), y4, y5, y6]) ⟨rfl, _, _, _, rfl⟩ (by
    rintro i hi m s' ⟨rfl, y4, y5, y6, rfl⟩
    rw [la] at hi
    have fl : (fitsK a b r N i).length ≤ 40320 := fits_le hN (by omega)
    have fl2 : (fitsK a b r N (i + 1)).length ≤ 40320 := fits_le hN (by omega)
    have tl : ∀ g, tlim ((fitsK a b r N i).map nbT) s' g = .ok (g, (fitsK a b r N i).map nbT) s' := fun g => tlim_map (by omega)
    simp [tfturn, tl]
    generalize hz : TM.kcom _ _ _ _ _ _ _ = z
    have hz := hz.symm.trans (wmap (h := fun row => bkT (nxt a b r N row)) fun row hrow => by
      obtain ⟨l, nd, lt⟩ := fitsK_ok i row hrow
      have ro : RowOK N row := ⟨by omega, lt⟩
      have hr1 : -1000000 ≤ (N : Int) ∧ (N : Int) ≤ 1000000 := by omega
      have hbl := hb.len
      simp [tturn, Tg.own, twip, tcO, tabT, k_rg1 _ _ hr1, hbl, trg0]
      generalize hz : TM.kcom _ _ _ _ _ _ _ = z
      have hz := hz.symm.trans (wfil (p := okn a b r row) (h := fun (x : Nat) => nbT (row ++ [x])) fun x hx => by
        have e := s_law_goes ha hb hr ro (List.mem_range.mp hx) (by omega) (n + (1 - 1)) s'
        have ea : ∀ g g', tbin .add (g, .lst (row.map fun (i : Nat) => TV.int (i : Int))) (g', .lst [.int (x : Int)]) = some (.d, nbT (row ++ [x])) := fun g g' => by
          rw [tb_addL _ _ (by simp; exact lim_of (by omega)), gl_noL (by rw [noLs_iff]; intro t ht; simp at ht; rcases ht with ⟨_, _, rfl⟩ | rfl <;> rfl)]
          simp [nbT]
        simp only [tabT, nbT] at e ea
        cases ho : okn a b r row x <;> simp [tturn, Tg.own, twip, tcO, e, ho, nbT, ea])
      subst hz
      simp [nxt, bkT, List.map_map, Function.comp_def])
    subst hz
    have te := tsum_bb ((fitsK a b r N i).map (nxt a b r N)) (by rw [← List.flatMap_def]; exact Nat.le_trans fl2 (by omega)) .d
    rw [← List.flatMap_def] at te
    simp only [List.map_map, Function.comp_def] at te
    refine wp_of (by simp [te, fvE, fvEs]; exact ⟨rfl, rfl⟩) ?_
    exact ⟨rfl, rfl, _, _, _, rfl⟩)
  rw [la]
  simp
theorem Sz.sum {k : Nat} : ∀ {l : List Int}, (∀ i ∈ l, Sz k i) → ∀ j, l.length ≤ 2 ^ j → Sz (k + j) l.sum := by
  intro l h j hj
  have : l.sum.natAbs ≤ l.length * (2 ^ k - 1) := by
    clear hj
    induction l with
    | nil => simp
    | cons x l ih =>
      have h1 := h x (List.mem_cons_self ..)
      have h2 := ih fun y hy => h y (List.mem_cons_of_mem _ hy)
      unfold Sz at h1
      simp only [List.sum_cons, List.length_cons, Nat.add_mul, Nat.one_mul]
      omega
  unfold Sz
  have h2 : l.length * (2 ^ k - 1) ≤ 2 ^ j * (2 ^ k - 1) := Nat.mul_le_mul_right _ hj
  have h3 : 2 ^ (k + j) = 2 ^ j * 2 ^ k := by rw [Nat.pow_add, Nat.mul_comm]
  have h4 : 2 ^ j * (2 ^ k - 1) < 2 ^ j * 2 ^ k := Nat.mul_lt_mul_of_pos_left (by have := Nat.two_pow_pos k; omega) (Nat.two_pow_pos j)
  omega
theorem TabOK.sum {N : Nat} {a : List (List Int)} (h : TabOK N a) (hN : N ≤ 8) : Sz 36 (sumZ a) := by
  unfold sumZ
  refine Sz.sum (k := 33) (fun i hi => ?_) 3 (by rw [List.length_map, h.len]; omega)
  obtain ⟨row, hr, rfl⟩ := List.mem_map.mp hi
  exact Sz.sum (k := 30) (h.sz row hr) 3 (by rw [h.row row hr]; omega)
theorem rat_mul_inv {a b : Rat} : a / b = a * b⁻¹ := Rat.div_def a b
theorem qz_ratQ {N : Nat} {a b : List (List Int)} (ha : TabOK N a) (hb : TabOK N b) (hN : N ≤ 8) : Qz 40 (ratQ a b) := by
  unfold ratQ
  by_cases h0 : sumZ a = 0
  · rw [if_pos h0]
    exact ⟨by unfold Sz; decide +kernel, by unfold Sz; decide +kernel⟩
  · rw [if_neg h0, ← div_divInt _ _ h0]
    exact Qz.divInt h0 ((hb.sum hN).mono (by omega)) ((ha.sum hN).mono (by omega))
theorem tab_ok {d : Nat} {ps : List (List Int)} (h : StOK d ps) : TabOK ps.length (tabZ ps) := by
  refine ⟨by simp [tabZ], fun r hr => ?_, fun r hr i hi => ?_⟩
  · obtain ⟨p, hp, rfl⟩ := List.mem_map.mp hr
    simp
  · obtain ⟨p, hp, rfl⟩ := List.mem_map.mp hr
    obtain ⟨q, hq, rfl⟩ := List.mem_map.mp hi
    unfold sqZ
    refine (Sz.sum (k := 24) (fun i hi => ?_) 2 (by have := h.len p hp; have := h.d3; simp; omega)).mono (by omega)
    obtain ⟨t, ht, rfl⟩ := List.mem_map.mp hi
    have z : Sz 12 (t.1 - t.2) := (h.sz p hp _ (List.of_mem_zip ht).1).sub (h.sz q hq _ (List.of_mem_zip ht).2) (by omega) (by omega)
    exact z.mul z
/-- the rows by which one store fits another one -/
def fitsZ (ps qs : List (List Int)) : List (List Nat) := fitsK (tabZ ps) (tabZ qs) (ratQ (tabZ ps) (tabZ qs)) ps.length ps.length
def fitT (ps qs : List (List Int)) : TV := match fitsZ ps qs with
  | [] => .non
  | row :: _ => .tup [nbT row, frT (ratQ (tabZ ps) (tabZ qs))]
theorem teq_bkn (B : List (List Nat)) (h : B.length ≤ 100000) (h2 : ∀ b ∈ B, b.length ≤ 100) : teq (bkT B) (.lst []) = some (decide (B = [])) := by
  cases B with
  | nil => exact teq_t (s := false) nil_pq
  | cons b B => exact teq_f (s := false) (pq_le (pq_lst (n := 1) (fun l hl => pq_nb (by have := h2 l hl; omega)) (by unfold lim; omega)) (by omega)) nil_pq (by simp [bkT])
theorem fitsZ_len {ps qs : List (List Int)} (h : ps.length ≤ 8) : (fitsZ ps qs).length ≤ 40320 := fits_le h h
theorem fitsZ_row {ps qs : List (List Int)} {row : List Nat} (h : row ∈ fitsZ ps qs) : row.length = ps.length ∧ row.Nodup ∧ ∀ x ∈ row, x < ps.length := fitsK_ok _ row h
theorem s_fit_of {d e : Nat} {ps qs : List (List Int)} (h : StOK d ps) (g : StOK e qs) (hl : ps.length = qs.length) (h8 : ps.length ≤ 8) (n : Nat) (s : PS) : trun pg pr (n + 8) 20 [stT d ps, stT e qs] s = .ok (.d, fitT ps qs) s := by
  have t1 := tab_ok h
  have t2 := tab_ok g
  rw [← hl] at t2
  have hq := qz_ratQ t1 t2 h8
  have a1 := s_look_at_store h (n + (7 - 4)) s
  have a2 := s_look_at_store g (n + (7 - 4)) s
  have a3 := s_table_of h (n + (7 - 7)) s
  have a4 := s_table_of g (n + (7 - 7)) s
  have a5 := s_ratio_of (by rw [t1.len]; omega) (by rw [t2.len]; omega) ((t1.sum h8).mono (by omega)) ((t2.sum h8).mono (by omega)) (n + (7 - 4)) s
  have a6 := s_fits_of t1 t2 (hq.mono (by omega)) h8 (n + (7 - 2)) s
  have eq := teq_bkn (fitsZ ps qs) (by have := fitsZ_len (qs := qs) h8; omega) (fun b hb => by have := fitsZ_row hb; omega)
  have hle : (ps.length : Int) = qs.length := by omega
  rw [go_20 rfl]
  unfold fitT
  unfold fitsZ at eq ⊢
  have tlen : ∀ g (x : List (List Int)), tbt .len [(g, psT x)] = some (.d, .int x.length) := fun g x => by simp [psT]
  simp [b_20, a1, a2, tlen, hle, a3, a4, a5, a6, eq]
  cases hB : fitsK (tabZ ps) (tabZ qs) (ratQ (tabZ ps) (tabZ qs)) ps.length ps.length with
  | nil => simp
  | cons row B => simp [bkT]
theorem s_symmetries {d : Nat} {ps : List (List Int)} (h : StOK d ps) (h8 : ps.length ≤ 8) (n : Nat) (s : PS) : trun pg pr (n + 8) 21 [stT d ps] s = .ok (.d, bkT (fitsK (tabZ ps) (tabZ ps) 1 ps.length ps.length)) s := by
  have t1 := tab_ok h
  have hq : Qz 60 1 := ⟨by unfold Sz; decide +kernel, by unfold Sz; decide +kernel⟩
  have a1 := s_look_at_store h (n + (7 - 4)) s
  have a3 := s_table_of h (n + (7 - 7)) s
  have a6 := s_fits_of t1 t1 hq h8 (n + (7 - 2)) s
  rw [frT_one] at a6
  rw [go_21 rfl]
  simp [b_21, a1, a3, a6, te_glo _ _ _ (tgl_2 _) (show tcv (.tup [.int 1, .int 1]) = some (.tup [.int 1, .int 1]) from rfl), gr, noL, noLs]

end K08

set_option Elab.async false
set_option linter.all false
set_option maxRecDepth 100000
set_option autoImplicit false
set_option maxHeartbeats 8000000
namespace K08
open PySem MP TM
/-! k08: which rows fit -/
theorem rat_mul_eq {x y : Int} {r : Rat} : ((x : Rat) = (y : Rat) * r) ↔ x * r.den = y * r.num := by
  have hd : ((r.den : Int) : Rat) ≠ 0 := by
    have := den_pos r
    intro e
    have : (r.den : Int) = 0 := by exact_mod_cast e
    omega
  have h : r * ((r.den : Int) : Rat) = ((r.num : Int) : Rat) := by
    have e : r = ((r.num : Int) : Rat) / ((r.den : Int) : Rat) := by
      rw [← Rat.divInt_eq_div]
      exact (Rat.num_divInt_den r).symm
    calc r * ((r.den : Int) : Rat) = ((r.num : Int) : Rat) / ((r.den : Int) : Rat) * ((r.den : Int) : Rat) := by rw [← e]
      _ = _ := Rat.div_mul_cancel hd
  constructor
  · intro e
    have : (x : Rat) * ((r.den : Int) : Rat) = (y : Rat) * ((r.num : Int) : Rat) := by rw [e, Rat.mul_assoc, h]
    exact_mod_cast this
  · intro e
    have e : (x : Rat) * ((r.den : Int) : Rat) = (y : Rat) * ((r.num : Int) : Rat) := by exact_mod_cast e
    rw [← h, ← Rat.mul_assoc] at e
    have := congrArg (· * ((r.den : Int) : Rat)⁻¹) e
    simp only [Rat.mul_assoc, Rat.mul_inv_cancel _ hd, Rat.mul_one] at this
    exact this
theorem nd_inj {α : Type} {l : List α} (h : l.Nodup) {i j : Nat} (hi : i < l.length) (hj : j < l.length) (e : l[i] = l[j]) : i = j := by
  rcases Nat.lt_trichotomy i j with k | k | k
  · exact (List.pairwise_iff_getElem.mp h i j hi hj k e).elim
  · exact k
  · exact (List.pairwise_iff_getElem.mp h j i hj hi k e.symm).elim
theorem sq_nn (x : Int) : 0 ≤ x * x := by
  rcases Int.le_total 0 x with h | h
  · exact Int.mul_nonneg h h
  · exact Int.mul_nonneg_of_nonpos_of_nonpos h h
structure IsFit (N : Nat) (a b : List (List Int)) (r : Rat) (row : List Nat) : Prop where
  len : row.length = N
  nd : row.Nodup
  lt : ∀ x ∈ row, x < N
  eq : ∀ (i j : Nat) (hi : i < row.length) (hj : j < row.length), i ≠ j → ((tb b row[i] row[j] : Int) : Rat) = ((tb a i j : Int) : Rat) * r
def SymT (N : Nat) (a : List (List Int)) : Prop := ∀ i j, i < N → j < N → tb a i j = tb a j i
theorem mem_zi {row : List Nat} {x i : Nat} : (x, i) ∈ row.zipIdx ↔ ∃ h : i < row.length, row[i] = x := by
  rw [List.mem_zipIdx_iff_getElem?, List.getElem?_eq_some_iff]
theorem mem_fits {a b : List (List Int)} {r : Rat} {M : Nat} : ∀ (k : Nat) (row : List Nat), row ∈ fitsK a b r M k ↔ row.length = k ∧ row.Nodup ∧ (∀ x ∈ row, x < M) ∧ ∀ (i j : Nat) (hj : j < row.length) (hi : i < j), tb b row[j] row[i] * r.den = tb a j i * r.num
  | 0, row => by
    simp only [fitsK, List.mem_singleton]
    constructor
    · rintro rfl
      simp
    · rintro ⟨h, _⟩
      exact List.length_eq_zero_iff.mp h
  | k + 1, row => by
    rw [mem_fitsK]
    constructor
    · rintro ⟨q, x, h1, h2, h3, rfl⟩
      obtain ⟨l, nd, lt, eq⟩ := (mem_fits k q).mp h1
      have h1' := fitsK_ok (k + 1) (q ++ [x]) (mem_fitsK.mpr ⟨q, x, h1, h2, h3, rfl⟩)
      refine ⟨h1'.1, h1'.2.1, h1'.2.2, fun i j hj hi => ?_⟩
      simp only [okn, Bool.and_eq_true, List.all_eq_true] at h3
      simp only [List.length_append, List.length_singleton] at hj
      by_cases hjq : j < q.length
      · have := eq i j hjq hi
        rw [List.getElem_append_left hjq, List.getElem_append_left (by omega)]
        exact this
      · have hjl : j = q.length := by omega
        subst hjl
        have := h3.2 (q[i], i) (mem_zi.mpr ⟨hi, rfl⟩)
        simp only [okp, decide_eq_true_eq] at this
        rw [List.getElem_append_left hi]
        simpa using this
    · rintro ⟨l, nd, lt, eq⟩
      have hne : row ≠ [] := by
        intro e
        rw [e] at l
        simp at l
      have hd : row = row.dropLast ++ [row.getLast hne] := (List.dropLast_concat_getLast hne).symm
      generalize row.dropLast = q at hd
      generalize row.getLast hne = x at hd
      clear hne
      subst hd
      simp only [List.length_append, List.length_singleton] at l
      have nd' := List.nodup_append.mp nd
      refine ⟨q, x, (mem_fits k q).mpr ⟨by omega, nd'.1, fun y hy => lt y (by simp [hy]), fun i j hj hi => ?_⟩, lt x (by simp), ?_, rfl⟩
      · have := eq i j (by simp; omega) hi
        rwa [List.getElem_append_left hj, List.getElem_append_left (by omega)] at this
      · simp only [okn, Bool.and_eq_true, List.all_eq_true, Bool.not_eq_eq_eq_not, Bool.not_true, decide_eq_false_iff_not]
        refine ⟨fun hx => nd'.2.2 x hx x (by simp) rfl, ?_⟩
        rintro ⟨y, i⟩ hp
        obtain ⟨hi, rfl⟩ := mem_zi.mp hp
        have := eq i q.length (by simp) hi
        rw [List.getElem_append_left hi] at this
        simpa [okp] using this
theorem mem_fit_iff {a b : List (List Int)} {r : Rat} {N : Nat} (sa : SymT N a) (sb : SymT N b) {row : List Nat} : row ∈ fitsK a b r N N ↔ IsFit N a b r row := by
  rw [mem_fits]
  constructor
  · rintro ⟨l, nd, lt, eq⟩
    refine ⟨l, nd, lt, fun i j hi hj hij => ?_⟩
    rcases Nat.lt_or_gt_of_ne hij with h | h
    · rw [rat_mul_eq, sb _ _ (lt _ (List.getElem_mem hi)) (lt _ (List.getElem_mem hj)), sa _ _ (by omega) (by omega)]
      exact eq i j hj h
    · rw [rat_mul_eq]
      exact eq j i hi h
  · rintro ⟨l, nd, lt, eq⟩
    exact ⟨l, nd, lt, fun i j hj hi => rat_mul_eq.mp (eq j i hj (by omega) (by omega))⟩
theorem IsFit.comp {N : Nat} {a : List (List Int)} {p q : List Nat} (hp : IsFit N a a 1 p) (hq : IsFit N a a 1 q) : IsFit N a a 1 (p.map fun x => q.getD x 0) := by
  have hg : ∀ x, x < N → ∃ h : x < q.length, q.getD x 0 = q[x] := fun x hx => ⟨by rw [hq.len]; exact hx, by simp [show x < q.length by rw [hq.len]; exact hx]⟩
  refine ⟨by simp [hp.len], ?_, ?_, ?_⟩
  · rw [List.nodup_iff_pairwise_ne, List.pairwise_map]
    refine hp.nd.imp_of_mem fun {x y} hx hy hxy e => ?_
    obtain ⟨h1, e1⟩ := hg x (hp.lt x hx)
    obtain ⟨h2, e2⟩ := hg y (hp.lt y hy)
    rw [e1, e2] at e
    exact hxy (nd_inj hq.nd _ _ e)
  · intro z hz
    obtain ⟨x, hx, rfl⟩ := List.mem_map.mp hz
    obtain ⟨h1, e1⟩ := hg x (hp.lt x hx)
    rw [e1]
    exact hq.lt _ (List.getElem_mem h1)
  · intro i j hi hj hij
    simp only [List.length_map] at hi hj
    simp only [List.getElem_map]
    obtain ⟨h1, e1⟩ := hg p[i] (hp.lt _ (List.getElem_mem hi))
    obtain ⟨h2, e2⟩ := hg p[j] (hp.lt _ (List.getElem_mem hj))
    rw [e1, e2, hq.eq _ _ h1 h2 fun e => hij (nd_inj hp.nd _ _ e), hp.eq i j hi hj hij, Rat.mul_one, Rat.mul_one]
theorem fit_perm {N : Nat} {a b : List (List Int)} {r : Rat} {row : List Nat} (h : IsFit N a b r row) : row.Perm (List.range N) := by
  have f : row.Perm ((List.range N).filter fun x => decide (x ∈ row)) := (List.perm_ext_iff_of_nodup h.nd (List.nodup_range.filter _)).mpr fun x => by
    simp only [List.mem_filter, List.mem_range, decide_eq_true_eq]
    exact ⟨fun k => ⟨h.lt x k, k⟩, fun k => k.2⟩
  have e := len_split (fun x => decide (x ∈ row)) (List.range N)
  have e2 := f.length_eq
  rw [List.length_range, ← e2, h.len] at e
  have e3 : (List.range N).filter (fun x => decide (x ∈ row)) = List.range N := by
    refine List.filter_eq_self.mpr fun x hx => ?_
    by_cases hr : decide (x ∈ row) = true
    · exact hr
    · have : x ∈ (List.range N).filter fun x => !decide (x ∈ row) := List.mem_filter.mpr ⟨hx, by simpa using hr⟩
      have := List.length_pos_of_mem this
      omega
  rwa [e3] at f
/-- all entries at least 0, beside the middle line above 0 -/
structure PosT (N : Nat) (a : List (List Int)) : Prop where
  len : a.length = N
  row : ∀ r ∈ a, r.length = N
  sym : SymT N a
  nn : ∀ r ∈ a, ∀ i ∈ r, 0 ≤ i
  pos : ∀ i j, i < N → j < N → i ≠ j → 0 < tb a i j
theorem sum_nn : ∀ {l : List Int}, (∀ i ∈ l, 0 ≤ i) → 0 ≤ l.sum ∧ ∀ i ∈ l, i ≤ l.sum
  | [], _ => by simp
  | x :: l, h => by
    obtain ⟨h1, h2⟩ := sum_nn (l := l) fun y hy => h y (List.mem_cons_of_mem _ hy)
    have h3 := h x (List.mem_cons_self ..)
    refine ⟨by simp; omega, fun i hi => ?_⟩
    rcases List.mem_cons.mp hi with rfl | hi
    · simp
      omega
    · have := h2 i hi
      simp
      omega
theorem PosT.sum {N : Nat} {a : List (List Int)} (h : PosT N a) : 0 ≤ sumZ a ∧ ∀ i j, i < N → j < N → i ≠ j → 0 < sumZ a := by
  unfold sumZ
  have hr : ∀ x ∈ a.map List.sum, 0 ≤ x := by
    intro x hx
    obtain ⟨r, hr, rfl⟩ := List.mem_map.mp hx
    exact (sum_nn (h.nn r hr)).1
  refine ⟨(sum_nn hr).1, fun i j hi hj hij => ?_⟩
  have h1 : i < a.length := by rw [h.len]; exact hi
  have h2 : j < a[i].length := by rw [h.row _ (List.getElem_mem h1)]; exact hj
  have e : a[i][j] = tb a i j := by simp [tb, h1, h2]
  have p := h.pos i j hi hj hij
  have q := (sum_nn (h.nn _ (List.getElem_mem h1))).2 _ (List.getElem_mem h2)
  have q2 := (sum_nn hr).2 _ (List.mem_map.mpr ⟨a[i], List.getElem_mem h1, rfl⟩)
  omega
theorem ratQ_of {N : Nat} {a b : List (List Int)} (ha : PosT N a) {i j : Nat} (hi : i < N) (hj : j < N) (hij : i ≠ j) : ratQ a b = (sumZ b : Rat) / (sumZ a : Rat) := by
  have := ha.sum.2 i j hi hj hij
  unfold ratQ
  rw [if_neg (by omega)]
theorem IsFit.inv {N : Nat} {a b : List (List Int)} (ha : PosT N a) (hb : PosT N b) {row : List Nat} (h : IsFit N a b (ratQ a b) row) : IsFit N b a (ratQ b a) ((List.range N).map fun x => row.idxOf x) := by
  have pm := fit_perm h
  have hm : ∀ x, x < N → x ∈ row := fun x hx => pm.symm.subset (List.mem_range.mpr hx)
  have hi : ∀ x, x < N → ∃ k : row.idxOf x < row.length, row[row.idxOf x] = x := fun x hx => ⟨List.idxOf_lt_length_iff.mpr (hm x hx), List.getElem_idxOf _⟩
  have inj : ∀ x y, x < N → y < N → row.idxOf x = row.idxOf y → x = y := by
    intro x y hx hy e
    obtain ⟨k1, e1⟩ := hi x hx
    obtain ⟨k2, e2⟩ := hi y hy
    rw [← e1, ← e2]
    simp only [e]
  refine ⟨by simp, ?_, ?_, ?_⟩
  · rw [List.nodup_iff_pairwise_ne, List.pairwise_map]
    refine List.nodup_range.imp_of_mem fun {x y} hx hy hxy e => hxy (inj x y (List.mem_range.mp hx) (List.mem_range.mp hy) e)
  · intro z hz
    obtain ⟨x, hx, rfl⟩ := List.mem_map.mp hz
    have := (hi x (List.mem_range.mp hx)).1
    rwa [h.len] at this
  · intro x y hx hy hxy
    simp only [List.length_map, List.length_range] at hx hy
    simp only [List.getElem_map, List.getElem_range]
    obtain ⟨k1, e1⟩ := hi x hx
    obtain ⟨k2, e2⟩ := hi y hy
    have eq := h.eq _ _ k1 k2 fun e => hxy (inj x y hx hy e)
    rw [e1, e2] at eq
    rw [ratQ_of ha hx hy hxy] at eq
    rw [ratQ_of hb hx hy hxy]
    have pa := ha.sum.2 x y hx hy hxy
    have pb := hb.sum.2 x y hx hy hxy
    have pa : (0 : Rat) < (sumZ a : Rat) := by exact_mod_cast pa
    have pb : (0 : Rat) < (sumZ b : Rat) := by exact_mod_cast pb
    rw [eq]
    generalize (sumZ a : Rat) = A at *
    generalize (sumZ b : Rat) = B at *
    have : B / A * (A / B) = 1 := by grind
    rw [Rat.mul_assoc, this, Rat.mul_one]
theorem perm_sum {l l' : List Int} (h : l.Perm l') : l.sum = l'.sum := by
  induction h with
  | nil => rfl
  | cons x _ ih => simp [ih]
  | swap x y l =>
    simp only [List.sum_cons]
    omega
  | trans _ _ h1 h2 => exact h1.trans h2
theorem tb_Z {ps : List (List Int)} {i j : Nat} (hi : i < ps.length) (hj : j < ps.length) : tb (tabZ ps) i j = sqZ ps[i] ps[j] := by
  simp [tb, tabZ, hi, hj]
theorem sumZ_Z (ps : List (List Int)) : sumZ (tabZ ps) = (ps.map fun p => (ps.map fun q => sqZ p q).sum).sum := by
  simp [sumZ, tabZ, List.map_map, Function.comp_def]
theorem sumZ_perm {ps qs : List (List Int)} (h : ps.Perm qs) : sumZ (tabZ ps) = sumZ (tabZ qs) := by
  rw [sumZ_Z, sumZ_Z]
  have : (ps.map fun p => (ps.map fun q => sqZ p q).sum) = ps.map fun p => (qs.map fun q => sqZ p q).sum := List.map_congr_left fun p _ => perm_sum (h.map _)
  rw [this]
  exact perm_sum (h.map _)
theorem sum_scale (c : Int) {α : Type} (f g : α → Int) : ∀ {l : List α}, (∀ x ∈ l, f x = c * g x) → (l.map f).sum = c * (l.map g).sum
  | [], _ => by simp
  | x :: l, h => by
    have := sum_scale c f g (l := l) fun y hy => h y (List.mem_cons_of_mem _ hy)
    simp only [List.map_cons, List.sum_cons, this, h x (List.mem_cons_self ..)]
    rw [Int.mul_add]
/-- a store moved and stretched fits -/
theorem fit_moved {ps qs : List (List Int)} {f : List Int → List Int} {c : Int} (hp : PosT ps.length (tabZ ps)) (hq : qs.Nodup) (pm : qs.Perm (ps.map f)) (hf : ∀ p ∈ ps, ∀ q ∈ ps, sqZ (f p) (f q) = c * sqZ p q) : IsFit ps.length (tabZ ps) (tabZ qs) (ratQ (tabZ ps) (tabZ qs)) (ps.map fun p => qs.idxOf (f p)) := by
  have hl : qs.length = ps.length := by simpa using pm.length_eq
  have hm : ∀ p ∈ ps, f p ∈ qs := fun p h => pm.symm.subset (List.mem_map.mpr ⟨p, h, rfl⟩)
  have hi : ∀ p ∈ ps, ∃ k : qs.idxOf (f p) < qs.length, qs[qs.idxOf (f p)] = f p := fun p h => ⟨List.idxOf_lt_length_iff.mpr (hm p h), List.getElem_idxOf _⟩
  have fn : (ps.map f).Nodup := pm.nodup_iff.mp hq
  refine ⟨by simp, ?_, ?_, ?_⟩
  · rw [List.nodup_iff_pairwise_ne, List.pairwise_map] at fn ⊢
    refine fn.imp_of_mem fun {x y} hx hy hxy e => hxy ?_
    obtain ⟨k1, e1⟩ := hi x hx
    obtain ⟨k2, e2⟩ := hi y hy
    rw [← e1, ← e2]
    simp only [e]
  · intro z hz
    obtain ⟨p, h, rfl⟩ := List.mem_map.mp hz
    rw [← hl]
    exact (hi p h).1
  · intro i j h1 h2 hij
    simp only [List.length_map] at h1 h2
    simp only [List.getElem_map]
    obtain ⟨k1, e1⟩ := hi _ (List.getElem_mem h1)
    obtain ⟨k2, e2⟩ := hi _ (List.getElem_mem h2)
    rw [tb_Z k1 k2, e1, e2, hf _ (List.getElem_mem h1) _ (List.getElem_mem h2), tb_Z h1 h2, ratQ_of hp h1 h2 hij]
    have pa := hp.sum.2 i j h1 h2 hij
    have sb : sumZ (tabZ qs) = c * sumZ (tabZ ps) := by
      rw [sumZ_perm pm, sumZ_Z, sumZ_Z, List.map_map]
      refine sum_scale c _ _ fun p h => ?_
      simp only [Function.comp_def, List.map_map]
      exact sum_scale c _ _ fun q h' => hf p h q h'
    rw [sb, Rat.intCast_mul, Rat.intCast_mul]
    have pa : (0 : Rat) < (sumZ (tabZ ps) : Rat) := by exact_mod_cast pa
    generalize (sumZ (tabZ ps) : Rat) = A at *
    grind
theorem sqZ_cons (x y : Int) (p q : List Int) : sqZ (x :: p) (y :: q) = (x - y) * (x - y) + sqZ p q := by simp [sqZ]
theorem sqZ_sym : ∀ p q : List Int, sqZ p q = sqZ q p
  | [], q => by simp [sqZ]
  | _ :: _, [] => by simp [sqZ]
  | x :: p, y :: q => by
    rw [sqZ_cons, sqZ_cons, sqZ_sym p q]
    grind
theorem sqZ_nn (p q : List Int) : 0 ≤ sqZ p q := by
  unfold sqZ
  refine (sum_nn fun i hi => ?_).1
  obtain ⟨t, _, rfl⟩ := List.mem_map.mp hi
  have := sq_nn (t.1 - t.2)
  exact this
theorem sqZ_pos : ∀ {p q : List Int}, p.length = q.length → p ≠ q → 0 < sqZ p q
  | [], [], _, h => (h rfl).elim
  | [], _ :: _, h, _ => by simp at h
  | _ :: _, [], h, _ => by simp at h
  | x :: p, y :: q, h, hne => by
    have e : sqZ (x :: p) (y :: q) = (x - y) * (x - y) + sqZ p q := by simp [sqZ]
    rw [e]
    have h1 := sq_nn (x - y)
    have h2 := sqZ_nn p q
    by_cases hxy : x = y
    · subst hxy
      have := sqZ_pos (p := p) (q := q) (by simpa using h) fun z => hne (by rw [z])
      omega
    · have : 0 < (x - y) * (x - y) := by
        rcases Int.lt_or_gt_of_ne hxy with h | h
        · exact Int.mul_pos_of_neg_of_neg (by omega) (by omega)
        · exact Int.mul_pos (by omega) (by omega)
      omega
theorem pos_tab {d : Nat} {ps : List (List Int)} (h : StOK d ps) : PosT ps.length (tabZ ps) := by
  have t := tab_ok h
  refine ⟨t.len, t.row, fun i j hi hj => ?_, fun r hr i hi => ?_, fun i j hi hj hij => ?_⟩
  · rw [tb_Z hi hj, tb_Z hj hi, sqZ_sym]
  · obtain ⟨p, hp, rfl⟩ := List.mem_map.mp hr
    obtain ⟨q, hq, rfl⟩ := List.mem_map.mp hi
    exact sqZ_nn p q
  · rw [tb_Z hi hj]
    exact sqZ_pos (by rw [h.len _ (List.getElem_mem hi), h.len _ (List.getElem_mem hj)]) fun e => hij (nd_inj h.nd _ _ e)
theorem fitsZ_iff {d e : Nat} {ps qs : List (List Int)} (h : StOK d ps) (g : StOK e qs) (hl : ps.length = qs.length) {row : List Nat} : row ∈ fitsZ ps qs ↔ IsFit ps.length (tabZ ps) (tabZ qs) (ratQ (tabZ ps) (tabZ qs)) row := by
  have p1 := pos_tab h
  have p2 := pos_tab g
  rw [← hl] at p2
  exact mem_fit_iff p1.sym p2.sym
/-- there is a fit one way exactly if there is one back -/
theorem fits_back {d e : Nat} {ps qs : List (List Int)} (h : StOK d ps) (g : StOK e qs) (hl : ps.length = qs.length) : (fitsZ ps qs = []) ↔ (fitsZ qs ps = []) := by
  have one : ∀ {d e : Nat} {ps qs : List (List Int)}, StOK d ps → StOK e qs → ps.length = qs.length → fitsZ ps qs ≠ [] → fitsZ qs ps ≠ [] := by
    intro d e ps qs h g hl hne
    have p1 := pos_tab h
    have p2 := pos_tab g
    rw [← hl] at p2
    obtain ⟨row, hr⟩ := List.exists_mem_of_ne_nil _ hne
    have := ((fitsZ_iff h g hl).mp hr).inv p1 p2
    rw [hl] at this
    exact List.ne_nil_of_mem ((fitsZ_iff g h hl.symm).mpr this)
  constructor
  · intro e
    exact Classical.byContradiction fun k => one g h hl.symm k e
  · intro e
    exact Classical.byContradiction fun k => one h g hl k e

end K08

set_option Elab.async false
set_option linter.all false
set_option maxRecDepth 100000
set_option autoImplicit false
set_option maxHeartbeats 8000000
namespace K08
open PySem MP TM
/-! k08: shaped stores -/
theorem StOK.of {d : Nat} {ps : List (List Int)} (d1 : 1 ≤ d) (d3 : d ≤ 3) (ne : ps ≠ []) (few : ps.length ≤ 12) (len : ∀ p ∈ ps, p.length = d) (sz : ∀ p ∈ ps, ∀ i ∈ p, -2000 ≤ i ∧ i ≤ 2000) (nd : ps.Nodup) : StOK d ps :=
  ⟨d1, d3, ne, few, len, fun p hp i hi => by have := sz p hp i hi; unfold Sz; omega, nd⟩
def Low (ps : List (List Int)) : Prop := ∀ p ∈ ps, ∀ i ∈ p, -250 ≤ i ∧ i ≤ 250
/-- each point goes on by 0 and by a side of its own -/
def grow (ps : List (List Int)) (ss : List Int) : List (List (List Int)) := List.zipWith (fun p s => [p ++ [0], p ++ [s]]) ps ss
theorem mem_grow {q : List Int} : ∀ {ps : List (List Int)} {ss : List Int}, q ∈ (grow ps ss).flatten → ∃ p ∈ ps, ∃ s, (s = 0 ∨ s ∈ ss) ∧ q = p ++ [s]
  | [], _, h => by simp [grow] at h
  | _ :: _, [], h => by simp [grow] at h
  | p :: ps, s :: ss, h => by
    simp only [grow, List.zipWith_cons_cons, List.flatten_cons, List.mem_append, List.mem_cons, List.not_mem_nil, or_false] at h
    rcases h with (h | h) | h
    · exact ⟨p, by simp, 0, .inl rfl, h⟩
    · exact ⟨p, by simp, s, .inr (by simp), h⟩
    · obtain ⟨p', h1, s', h2, h3⟩ := mem_grow (ps := ps) (ss := ss) h
      exact ⟨p', by simp [h1], s', h2.imp id fun h => by simp [h], h3⟩
theorem grow_nd : ∀ {ps : List (List Int)} {ss : List Int}, ps.Nodup → (∀ s ∈ ss, s ≠ 0) → (grow ps ss).flatten.Nodup
  | [], _, _, _ => by simp [grow]
  | _ :: _, [], _, _ => by simp [grow]
  | p :: ps, s :: ss, h, hs => by
    obtain ⟨h1, h2⟩ := List.nodup_cons.mp h
    have ih := grow_nd (ps := ps) (ss := ss) h2 fun s h => hs s (by simp [h])
    show ([p ++ [0], p ++ [s]] ++ (grow ps ss).flatten).Nodup
    rw [List.nodup_append]
    refine ⟨?_, ih, fun a ha b hb e => ?_⟩
    · have := hs s (by simp)
      simp
      exact fun e => this e.symm
    · subst e
      obtain ⟨p', h3, s', _, h4⟩ := mem_grow hb
      have : a.dropLast = p := by
        simp at ha
        rcases ha with rfl | rfl <;> simp
      have h5 : a.dropLast = p' := by rw [h4]; simp
      exact h1 (by rw [← this, h5]; exact h3)
theorem grow_len : ∀ {ps : List (List Int)} {ss : List Int}, ss.length = ps.length → (grow ps ss).flatten.length = 2 * ps.length
  | [], _, _ => by simp [grow]
  | _ :: _, [], h => by simp at h
  | p :: ps, s :: ss, h => by
    have ih := grow_len (ps := ps) (ss := ss) (by simpa using h)
    show ([p ++ [0], p ++ [s]] ++ (grow ps ss).flatten).length = _
    rw [List.length_append, ih]
    simp
    omega
theorem tsum_bp (B : List (List (List Int))) (hB : B ≠ []) (hl : B.flatten.length ≤ 900000) : tbt .sum [(.d, .lst (B.map psT)), (.d, .lst [])] = some (.d, psT B.flatten) := by
  have e : tlsts (B.map psT) = some (B.map fun b => b.map ptT) := tlsts_map (fun b : List (List Int) => b.map ptT) B
  have f : (B.map fun b => b.map ptT).flatten = B.flatten.map ptT := by rw [List.map_flatten]
  cases B with
  | nil => exact (hB rfl).elim
  | cons b B =>
    simp only [tbt, tsumL]
    rw [e]
    simp only
    rw [f, if_pos (by rw [List.length_map]; unfold lim; omega)]
    simp [psT]
theorem pt_snoc (p : List Int) (i : Int) (g g' : G) (h : p.length ≤ 100) : tbin .add (g, ptT p) (g', .lst [.int i]) = some (.d, ptT (p ++ [i])) := by
  unfold ptT
  rw [tb_addL _ _ (by simp; exact lim_of (by omega)), gl_noL (by rw [noLs_iff]; intro t ht; simp at ht; rcases ht with ⟨_, _, rfl⟩ | rfl <;> rfl)]
  simp
@[simp] theorem kseq_ps {s : PS} (g : G) (x : List (List Int)) : kseq (g, psT x) s = tlim (x.map ptT) s g := rfl
@[simp] theorem kseq_pt {s : PS} (g : G) (x : List Int) : kseq (g, ptT x) s = tlim (x.map .int) s g := rfl
@[simp] theorem tlen_ps (g : G) (x : List (List Int)) : tbt .len [(g, psT x)] = some (.d, .int x.length) := by simp [psT]
@[simp] theorem noL_ps (x : List (List Int)) : noL (psT x) = false := rfl
/-- corners of a box -/
theorem w_corners {c : Nat} {σ : PS} {d : Nat} (u : Pu c σ) (hc : c < 800000) (d3 : d ≤ 3) (n : Nat) (y5 y6 y7 y8 y9 : Option GV) {z : TR PS (TFl × TSl)} (hz : tforL (tfturn (.nm 4) (texs (tcf pg pr (n + 22)) pg.most (.cons (.asg (.nm 3) (.blt .sum (.cons (.com (.nm 6) (.seq (.var 3)) none (.com (.nm 5) (.seq (.lst (.cons (.cst (.int 0)) (.cons (.bin .add (.cst (.int 1)) (.cal 35 0 (.cons (.var 0) (.cons (.cst (.int 2)) .nil)) .nil)) .nil)))) none (.bin .add (.var 6) (.lst (.cons (.var 5) .nil))))) (.cons (.lst .nil) .nil)))) .nil))) ((List.range d).map fun (i : Nat) => .int (i : Int)) [some (.d, .pur), some (.d, .int 0), some (.d, .int d), some (.d, psT [[]]), none, y5, y6, y7, y8, y9] σ = z) : ∃ m' σ', z = .ok (.nx, m') σ' ∧ ∃ ps y4 y5 y6, m' = [some (.d, .pur), some (.d, .int 0), some (.d, .int d), some (.d, psT ps), y4, y5, y6, y7, y8, y9] ∧ ps.Nodup ∧ ps.length = 2 ^ d ∧ (∀ p ∈ ps, p.length = d ∧ ∀ i ∈ p, 0 ≤ i ∧ i ≤ 2) ∧ Pu (c + 8 * d) σ' := by
  obtain ⟨m', s', rfl, ps, y4, y5, y6, h1, h2, h3, h4, h5⟩ := wforQ hz (fun i m σ => ∃ ps y4 y5 y6, m = [some (.d, .pur), some (.d, .int 0), some (.d, .int d), some (.d, psT ps), y4, y5, y6, y7, y8, y9] ∧ ps.Nodup ∧ ps.length = 2 ^ i ∧ (∀ p ∈ ps, p.length = i ∧ ∀ i ∈ p, 0 ≤ i ∧ i ≤ 2) ∧ Pu (c + 8 * i) σ) ⟨[[]], none, y5, y6, rfl, by simp, by simp, by simp, u⟩ (by
    rintro i hi m σ ⟨ps, y4, y5, y6, rfl, nd, hl, hp, u⟩ Q k
    rw [List.length_range] at hi
    have h4 : ps.length ≤ 4 := by
      rw [hl]
      have : i = 0 ∨ i = 1 ∨ i = 2 := by omega
      rcases this with rfl | rfl | rfl <;> omega
    simp [tfturn, tlim_map (f := ptT) (l := ps) (show ps.length ≤ 100000 by omega)]
    generalize hz : TM.kcom _ _ _ _ _ _ _ = z
    obtain ⟨ys, σ', rfl, ss, e1, e2, e3, u2⟩ := wcomQ (dec := psT) hz (fun j ys σ => ∃ ss, ys = grow (ps.take j) ss ∧ ss.length = j ∧ (∀ s ∈ ss, s = 1 ∨ s = 2) ∧ Pu (c + 8 * i + j) σ) ⟨[], by simp [grow], rfl, by simp, u⟩ (by
      rintro j hj ys σ ⟨ss, rfl, e2, e3, u⟩ Q k -
      obtain ⟨t, σ', e, t0, t1, u1⟩ := s_draw (k := 2) u (by omega) (by omega) (by decide) (n + (22 - 21))
      rw [show n + (22 - 21) + 21 = n + 22 by omega] at e
      have el : ∀ s g, tlim [TV.int 0, TV.int (1 + t)] (S := PS) s g = .ok (g, [TV.int 0, TV.int (1 + t)]) s := fun s g => tlim_le s (by simp [lim])
      simp [tturn, Tg.own, twip, tcO, e, el]
      generalize hz : TM.kcom _ _ _ _ _ _ _ = z
      have hz := hz.symm.trans (wmap (enc := TV.int) (l := [0, 1 + t]) (h := fun x => ptT (ps[j] ++ [x])) fun x hx => by
        have := (hp _ (List.getElem_mem hj)).1
        simp [tturn, Tg.own, twip, tcO, pt_snoc ps[j] x _ _ (show ps[j].length ≤ 100 by omega)])
      subst hz
      refine wp_of (by simp; exact ⟨rfl, rfl⟩) ?_
      refine k [ps[j] ++ [0], ps[j] ++ [1 + t]] _ ⟨ss ++ [1 + t], ?_, by simp [e2], fun s hs => ?_, u1⟩
      · rw [List.take_succ, List.getElem?_eq_getElem hj]
        unfold grow
        rw [List.zipWith_append (by rw [List.length_take]; omega)]
        rfl
      · rcases List.mem_append.mp hs with h | h
        · exact e3 s h
        · simp at h
          omega)
    rw [List.take_length] at e1
    subst e1
    have gl := grow_len e2
    have ne : ps ≠ [] := by
      intro e
      rw [e] at hl
      have := Nat.two_pow_pos i
      simp at hl
      omega
    have te := tsum_bp (grow ps ss) (by
      intro e
      rw [e] at gl
      have := List.length_pos_iff.mpr ne
      simp at gl
      omega) (by rw [gl]; omega)
    refine wp_of (by simp [te, fvE, fvEs]; exact ⟨rfl, rfl⟩) ?_
    refine k _ _ ⟨_, _, _, _, rfl, grow_nd nd fun s hs => by have := e3 s hs; omega, by rw [gl, hl, Nat.pow_succ]; omega, fun q hq => ?_, u2.mono (by omega)⟩
    obtain ⟨p, h1, s, h2, rfl⟩ := mem_grow hq
    obtain ⟨h3, h4⟩ := hp p h1
    refine ⟨by simp [h3], fun x hx => ?_⟩
    rcases List.mem_append.mp hx with hx | hx
    · exact h4 x hx
    · simp at hx
      subst hx
      rcases h2 with rfl | h2
      · omega
      · have := e3 _ h2
        omega)
  rw [List.length_range] at h3 h4 h5
  exact ⟨m', s', rfl, ps, y4, y5, y6, h1, h2, h3, h4, h5⟩

end K08

set_option Elab.async false
set_option linter.all false
set_option maxRecDepth 100000
set_option autoImplicit false
set_option maxHeartbeats 8000000
namespace K08
open PySem MP TM
theorem Low.st {d : Nat} {ps : List (List Int)} (d1 : 1 ≤ d) (d3 : d ≤ 3) (ne : ps ≠ []) (few : ps.length ≤ 8) (len : ∀ p ∈ ps, p.length = d) (lo : Low ps) (nd : ps.Nodup) : StOK d ps :=
  StOK.of d1 d3 ne (by omega) len (fun p hp i hi => by have := lo p hp i hi; omega) nd
theorem tk_nat {g : G} {α : Type} {f : α → TV} (l : List α) (m : Nat) : tslc (g, .lst (l.map f)) none (some (m : Int)) = some (gl g ((l.take m).map f), .lst ((l.take m).map f)) := by
  rw [tslc_l, tcut_take, List.map_take]
/-- one drawn point -/
theorem w_point {c : Nat} {σ : PS} {d : Nat} {wide : Int} (u : Pu c σ) (hc : c < 800000) (d3 : d ≤ 3) (w1 : 1 ≤ wide) (w2 : wide ≤ 250) (n : Nat) (a1 a2 a3 a4 a5 a6 a7 a9 : Option GV) {z : TR PS GV} (hz : TM.kcom (tcf pg pr (n + 22)) (.nm 4) none (.bin .sub (.cal 35 0 (.cons (.var 0) (.cons (.bin .add (.bin .mul (.cst (.int 2)) (.var 8)) (.cst (.int 1))) .nil)) .nil) (.var 8)) [some (.d, .pur), a1, a2, a3, a4, a5, a6, a7, some (.d, .int wide), a9] (.d, (List.range d).map fun (i : Nat) => .int (i : Int)) σ = z) : ∃ p σ', z = .ok (.d, ptT p) σ' ∧ p.length = d ∧ (∀ i ∈ p, -250 ≤ i ∧ i ≤ 250) ∧ Pu (c + d) σ' := by
  obtain ⟨ys, σ', rfl, h1, h2, h3⟩ := wcomQ (dec := TV.int) hz (fun j ys σ => ys.length = j ∧ (∀ i ∈ ys, -250 ≤ i ∧ i ≤ 250) ∧ Pu (c + j) σ) ⟨rfl, by simp, u⟩ (by
    rintro j hj ys σ ⟨h1, h2, u⟩ Q k -
    rw [List.length_range] at hj
    obtain ⟨t, σ', e, t0, t1, u1⟩ := s_draw (k := 2 * wide + 1) u (by omega) (by omega) (by omega) (n + (22 - 21))
    rw [show n + (22 - 21) + 21 = n + 22 by omega] at e
    have hm : (2 : Int).natAbs.log2 + wide.natAbs.log2 < 1000000 := Sz.mulOk (k := 2) (l := 11) (by unfold Sz; decide) (by unfold Sz; omega) (by omega)
    refine wp_of (by simp [tturn, Tg.own, twip, tcO, tb_mul _ _ hm, e]; exact ⟨rfl, rfl⟩) ?_
    refine k (t - wide) _ ⟨by simp [h1], fun i hi => ?_, u1⟩
    rcases List.mem_append.mp hi with hi | hi
    · exact h2 i hi
    · simp at hi
      omega)
  rw [List.length_range] at h1 h3
  exact ⟨ys, σ', rfl, h1, h2, h3⟩
theorem gput_any (g : G) (l : List TV) : gl g l = .d ∨ gl g l = .r := by
  rcases gl_cases g l with h | h
  · exact .inr h
  · exact .inl h.1
theorem s_law_shaped {c : Nat} {σ : PS} (u : Pu c σ) (hc : c < 700000) (n : Nat) : WP (trun pg pr (n + 23) 26 [.pur] σ) fun v σ' => ∃ (g : G) (d : Nat) (ps : List (List Int)), v = (g, stT d ps) ∧ StOK d ps ∧ ps.length ≤ 8 ∧ Low ps ∧ Pu (c + 100) σ' := by
  refine wpQ fun Q k => ?_
  obtain ⟨way, σ1, e1, w0, w1, u1⟩ := s_draw (k := 4) u (by omega) (by omega) (by decide) (n + (22 - 21))
  obtain ⟨dd, σ2, e2, d0, d1, u2⟩ := s_draw (k := 3) u1 (by omega) (by omega) (by decide) (n + (22 - 21))
  rw [show n + (22 - 21) + 21 = n + 22 by omega] at e1 e2
  obtain ⟨d, hd⟩ : ∃ d : Nat, (d : Int) = 1 + dd := ⟨(1 + dd).toNat, by omega⟩
  have hr1 : -1000000 ≤ (d : Int) ∧ (d : Int) ≤ 1000000 := by omega
  rw [go_26 rfl]
  by_cases h0 : way = 0
  · subst h0
    have ee : TV.lst [.lst []] = psT [[]] := rfl
    simp [b_26, e1, e2, ← hd, k_rg1 _ _ hr1, trg0, fvE, fvEs, fvI, ee]
    generalize hz : tforL _ _ _ _ = z
    obtain ⟨m', σ3, rfl, ps, y4, y5, y6, rfl, nd, hl, hp, u3⟩ := w_corners u2 (by omega) (by omega) n _ _ _ _ _ hz
    have hl8 : 1 ≤ ps.length ∧ ps.length ≤ 8 := by
      rw [hl]
      have : d = 1 ∨ d = 2 ∨ d = 3 := by omega
      rcases this with rfl | rfl | rfl <;> omega
    obtain ⟨v, σ4, e4, g4, qs, rfl, g4n, pm, u4⟩ := s_law_shuffled (enc := ptT) (xs := ps) u3 (by omega) (by omega) (n + (22 - 22))
    obtain ⟨t, σ5, e5, t0, t1, u5⟩ := s_draw (k := (ps.length : Int)) u4 (by omega) (by omega) (by omega) (n + (22 - 21))
    rw [show n + (22 - 22) + 22 = n + 22 by omega] at e4
    rw [show n + (22 - 21) + 21 = n + 22 by omega] at e5
    obtain ⟨m, hm⟩ : ∃ m : Nat, (m : Int) = 1 + t := ⟨(1 + t).toNat, by omega⟩
    have e4 : trun pg pr (n + 22) 31 [.pur, psT ps] σ3 = .ok (g4, psT qs) σ4 := e4
    have ts : tslc (g4, psT qs) none (some (m : Int)) = some (gl g4 ((qs.take m).map ptT), psT (qs.take m)) := tk_nat qs m
    have hql := pm.length_eq
    have sub : ∀ q ∈ qs.take m, q ∈ ps := fun q hq => pm.subset (List.mem_of_mem_take hq)
    have lo : Low (qs.take m) := fun q hq i hi => by
      have := (hp q (sub q hq)).2 i hi
      omega
    refine wp_of (by simp [e4, e5, ← hm, ts]; exact ⟨rfl, rfl⟩) ?_
    refine k _ _ ⟨_, d, qs.take m, rfl, Low.st (by omega) (by omega) ?_ (by rw [List.length_take]; omega) (fun q hq => (hp q (sub q hq)).1) lo ((pm.nodup_iff.mpr nd).sublist (List.take_sublist ..)), by rw [List.length_take]; omega, lo, u5.mono (by omega)⟩
    intro e
    have := congrArg List.length e
    rw [List.length_take, List.length_nil] at this
    omega
  by_cases h1 : way = 1
  · subst h1
    obtain ⟨t, σ3, e3, t0, t1, u3⟩ := s_draw (k := 6) u2 (by omega) (by omega) (by decide) (n + (22 - 21))
    rw [show n + (22 - 21) + 21 = n + 22 by omega] at e3
    obtain ⟨m, hm⟩ : ∃ m : Nat, (m : Int) = 1 + t := ⟨(1 + t).toNat, by omega⟩
    have hr2 : -1000000 ≤ (m : Int) ∧ (m : Int) ≤ 1000000 := by omega
    simp [b_26, e1, e2, e3, ← hd, ← hm, k_rg1 _ _ hr2, trg0, fvE, fvEs, fvI]
    generalize hz : TM.kcom _ _ _ _ _ _ _ = z
    have hz := hz.symm.trans (wmap (h := fun (step : Nat) => ptT ((List.range d).map fun (at_ : Nat) => (step : Int) * ((at_ : Int) + 1))) fun step hs => by
      simp [tturn, Tg.own, twip, tcO, k_rg1 _ _ hr1, trg0]
      generalize hz : TM.kcom _ _ _ _ _ _ _ = z
      have hz := hz.symm.trans (wmap (h := fun (at_ : Nat) => .int ((step : Int) * ((at_ : Int) + 1))) fun at_ ha => by
        have h1 := List.mem_range.mp hs
        have h2 := List.mem_range.mp ha
        have hm : (step : Int).natAbs.log2 + ((at_ : Int) + 1).natAbs.log2 < 1000000 := Sz.mulOk (k := 11) (l := 11) (by unfold Sz; omega) (by unfold Sz; omega) (by omega)
        simp [tturn, Tg.own, twip, tcO, tb_mul _ _ hm])
      subst hz
      simp [ptT, List.map_map, Function.comp_def])
    subst hz
    have lo : Low ((List.range m).map fun (step : Nat) => (List.range d).map fun (at_ : Nat) => (step : Int) * ((at_ : Int) + 1)) := fun p hp i hi => by
      obtain ⟨s, hs, rfl⟩ := List.mem_map.mp hp
      obtain ⟨a, ha, rfl⟩ := List.mem_map.mp hi
      have h1 := List.mem_range.mp hs
      have h2 := List.mem_range.mp ha
      have : (s : Int) * ((a : Int) + 1) ≤ 6 * 3 := Int.mul_le_mul (by omega) (by omega) (by omega) (by omega)
      have : 0 ≤ (s : Int) * ((a : Int) + 1) := Int.mul_nonneg (by omega) (by omega)
      omega
    refine wp_of (by simp; exact ⟨rfl, rfl⟩) ?_
    refine k _ _ ⟨_, d, _, by simp only [stT, psT, List.map_map, Function.comp_def]; rfl, Low.st (by omega) (by omega) ?_ (by simp; omega) (fun p hp => ?_) lo ?_, by simp; omega, lo, u3.mono (by omega)⟩
    · intro e
      have := congrArg List.length e
      simp at this
      omega
    · obtain ⟨s, hs, rfl⟩ := List.mem_map.mp hp
      simp
    · rw [List.nodup_iff_pairwise_ne, List.pairwise_map]
      refine List.nodup_range.imp fun {x y} hxy e => hxy ?_
      have := congrArg (fun l => l.getD 0 0) e
      simp [show 0 < d by omega] at this
      omega
  · obtain ⟨wide, σ3, e3, hw, u3⟩ := s_pick (enc := TV.int) (xs := [1, 2, 3, 250]) u2 (by omega) (by simp) (by simp) (n + (22 - 22))
    rw [show n + (22 - 22) + 22 = n + 22 by omega] at e3
    have hwide : 1 ≤ wide ∧ wide ≤ 250 := by
      simp at hw
      omega
    obtain ⟨t, σ4, e4, t0, t1, u4⟩ := s_draw (k := 7) u3 (by omega) (by omega) (by decide) (n + (22 - 21))
    rw [show n + (22 - 21) + 21 = n + 22 by omega] at e4
    obtain ⟨m, hm⟩ : ∃ m : Nat, (m : Int) = 1 + t := ⟨(1 + t).toNat, by omega⟩
    have hr2 : -1000000 ≤ (m : Int) ∧ (m : Int) ≤ 1000000 := by omega
    have ee : TV.lst [] = psT [] := rfl
    simp only [List.map_cons, List.map_nil] at e3
    have b0 : (way == 0) = false := by simpa using h0
    have b1 : (way == 1) = false := by simpa using h1
    simp [b_26, e1, e2, e3, e4, b0, b1, ← hd, ← hm, k_rg1 _ _ hr2, trg0, fvE, fvEs, fvI, ee]
    generalize hz : tforL _ _ _ _ = z
    obtain ⟨m', σ5, rfl, ps, g, y4, y6, y9, rfl, hlen, lo, nd, hne, hfew, u5⟩ := wforQ hz (fun i m σ => ∃ ps g y4 y6 y9, m = [some (.d, .pur), some (.d, .int way), some (.d, .int d), some (g, psT ps), y4, none, y6, none, some (.d, .int wide), y9] ∧ (∀ p ∈ ps, p.length = d) ∧ Low ps ∧ ps.Nodup ∧ (0 < i → ps ≠ []) ∧ ps.length ≤ i ∧ Pu (c + 10 + 3 * i) σ) ⟨[], .d, none, none, none, rfl, by simp, by simp [Low], by simp, by simp, by simp, u4.mono (by omega)⟩ (by
      rintro i hi m' σ ⟨ps, g, y4, y6, y9, rfl, hlen, lo, nd, hne, hfew, u⟩ Q k
      rw [List.length_range] at hi
      simp [tfturn, k_rg1 _ _ hr1, trg0]
      generalize hz : TM.kcom _ _ _ _ _ _ _ = z
      obtain ⟨p, σ', rfl, hpl, hpi, u'⟩ := w_point u (by omega) (by omega) hwide.1 hwide.2 n _ _ _ _ _ _ _ _ hz
      have ti := tin_ps (ps := ps) (p := p) (by omega) (fun q hq => by rw [hlen q hq]; omega) (by omega)
      by_cases hm : p ∈ ps
      · have ad0 : ∀ g g', tbin .add (g, psT ps) (g', .lst []) = some (gl (gm g g') (ps.map ptT), psT ps) := fun g g' => by
          unfold psT
          rw [tb_addL g g' (by simp only [List.length_nil, List.length_map]; exact lim_of (by omega)), List.append_nil]
        have hg : gl .s (ps.map ptT) = .r := gl_pts fun e => by rw [e] at hm; simp at hm
        refine wp_of (by simp [ti, hm, tb_mul0, ad0, hg, fvE, fvEs]; exact ⟨rfl, rfl⟩) ?_
        refine k _ _ ⟨ps, _, _, _, _, rfl, hlen, lo, nd, fun _ e => by rw [e] at hm; simp at hm, by omega, u'.mono (by omega)⟩
      · have ad1 : ∀ g g', tbin .add (g, psT ps) (g', .lst [ptT p]) = some (gl (gm g g') ((ps ++ [p]).map ptT), psT (ps ++ [p])) := fun g g' => by
          unfold psT
          rw [tb_addL g g' (by simp only [List.length_map, List.length_cons, List.length_nil]; exact lim_of (by omega)), List.map_append]
          rfl
        have hg : gl .s (ps.map ptT ++ [ptT p]) = .r := by
          have := gl_pts (l := ps ++ [p]) (by simp)
          rw [List.map_append] at this
          exact this
        refine wp_of (by simp [ti, hm, tb_mul1, ad1, hg, fvE, fvEs]; exact ⟨rfl, rfl⟩) ?_
        refine k _ _ ⟨ps ++ [p], _, _, _, _, rfl, fun q hq => ?_, fun q hq => ?_, ?_, by simp, by simp; omega, u'.mono (by omega)⟩
        · rcases List.mem_append.mp hq with hq | hq
          · exact hlen q hq
          · rw [List.mem_singleton.mp hq]
            exact hpl
        · rcases List.mem_append.mp hq with hq | hq
          · exact lo q hq
          · rw [List.mem_singleton.mp hq]
            exact hpi
        · rw [List.nodup_append]
          refine ⟨nd, by simp, fun a ha b hb e => ?_⟩
          subst e
          rw [List.mem_singleton.mp hb] at ha
          exact hm ha)
    rw [List.length_range] at hne hfew u5
    refine wp_of (by simp; exact ⟨rfl, rfl⟩) ?_
    exact k _ _ ⟨_, d, ps, rfl, Low.st (by omega) (by omega) (hne (by omega)) (by omega) hlen lo nd, by omega, lo, u5.mono (by omega)⟩

end K08

set_option Elab.async false
set_option linter.all false
set_option maxRecDepth 100000
set_option autoImplicit false
set_option maxHeartbeats 8000000
namespace K08
open PySem MP TM
/-! k08: moved stores -/
theorem zip_rng {d : Nat} {p q : List Int} (hp : p.length = d) (hq : q.length = d) : p.zip q = (List.range d).map fun i => (p.getD i 0, q.getD i 0) := by
  refine List.ext_getElem (by simp [hp, hq]) fun i h1 h2 => ?_
  simp only [List.length_zip] at h1
  simp [show i < p.length by omega, show i < q.length by omega]
theorem sqZ_rng {d : Nat} {p q : List Int} (hp : p.length = d) (hq : q.length = d) : sqZ p q = ((List.range d).map fun i => (p.getD i 0 - q.getD i 0) * (p.getD i 0 - q.getD i 0)).sum := by
  unfold sqZ
  rw [zip_rng hp hq, List.map_map]
  rfl
def mvP (d : Nat) (fl : List Int) (os : List Nat) (t : Int) (p : List Int) : List Int := (List.range d).map fun a => fl.getD a 0 * t * p.getD (os.getD a 0) 0 + (a : Int)
theorem sq_mvP {d : Nat} {fl : List Int} {os : List Nat} {t : Int} (hf : fl.length = d) (hf2 : ∀ x ∈ fl, x = 1 ∨ x = -1) (ho : os.Perm (List.range d)) {p q : List Int} (hp : p.length = d) (hq : q.length = d) : sqZ (mvP d fl os t p) (mvP d fl os t q) = t * t * sqZ p q := by
  rw [sqZ_rng (d := d) (by simp [mvP]) (by simp [mvP]), sqZ_rng hp hq]
  have hol : os.length = d := by simpa using ho.length_eq
  have e : (List.range d).map (fun a => os.getD a 0) = os := by
    refine List.ext_getElem (by simp [hol]) fun i h1 h2 => ?_
    simp [h2]
  have e2 : ((List.range d).map fun i => (p.getD i 0 - q.getD i 0) * (p.getD i 0 - q.getD i 0)).sum = ((List.range d).map fun a => (p.getD (os.getD a 0) 0 - q.getD (os.getD a 0) 0) * (p.getD (os.getD a 0) 0 - q.getD (os.getD a 0) 0)).sum := by
    rw [perm_sum ((ho.symm).map fun i => (p.getD i 0 - q.getD i 0) * (p.getD i 0 - q.getD i 0))]
    conv => lhs; rw [← e]
    rw [List.map_map]
    rfl
  rw [e2]
  refine sum_scale (t * t) _ _ fun a ha => ?_
  have ha' := List.mem_range.mp ha
  have g : ∀ p, (mvP d fl os t p).getD a 0 = fl.getD a 0 * t * p.getD (os.getD a 0) 0 + (a : Int) := fun p => by simp [mvP, ha']
  rw [g, g]
  have hx : fl.getD a 0 = 1 ∨ fl.getD a 0 = -1 := by
    have h : a < fl.length := by omega
    have := hf2 _ (List.getElem_mem h)
    simpa [h] using this
  generalize fl.getD a 0 = x at *
  generalize p.getD (os.getD a 0) 0 = u
  generalize q.getD (os.getD a 0) 0 = v
  rcases hx with rfl | rfl <;> grind
theorem tx_pt' {p : List Int} {i : Nat} (g g' : G) (h : i < p.length) : tidx (g, ptT p) (g', .int (i : Int)) = some (.d, .int (p.getD i 0)) := by
  have := tx_nat (f := TV.int) g g' h
  have e : p.getD i 0 = p[i] := by simp [h]
  rw [e]
  exact this
structure MvOK (d : Nat) (ps qs : List (List Int)) : Prop where
  ex : ∃ (f : List Int → List Int) (c : Int), 1 ≤ c ∧ qs.Perm (ps.map f) ∧ (∀ p ∈ ps, ∀ q ∈ ps, sqZ (f p) (f q) = c * sqZ p q) ∧ ∀ p ∈ ps, (f p).length = d ∧ ∀ i ∈ f p, -2000 ≤ i ∧ i ≤ 2000
theorem MvOK.st {d : Nat} {ps qs : List (List Int)} (h : MvOK d ps qs) (o : StOK d ps) : StOK d qs ∧ qs.length = ps.length ∧ fitsZ ps qs ≠ [] := by
  obtain ⟨f, c, c1, pm, hf, hs⟩ := h.ex
  have hl : qs.length = ps.length := by simpa using pm.length_eq
  have un : ∀ q ∈ qs, ∃ p ∈ ps, q = f p := fun q hq => by
    obtain ⟨p, hp, e⟩ := List.mem_map.mp (pm.subset hq)
    exact ⟨p, hp, e.symm⟩
  have nd : qs.Nodup := by
    refine pm.nodup_iff.mpr ?_
    rw [List.nodup_iff_pairwise_ne, List.pairwise_map]
    refine o.nd.imp_of_mem fun {x y} hx hy hxy e => ?_
    have h1 := hf x hx y hy
    rw [e] at h1
    have h2 : sqZ (f y) (f y) = 0 := by
      have := hf y hy y hy
      have z : sqZ y y = 0 := by
        rw [sqZ_rng rfl rfl]
        have : ∀ l : List Nat, (l.map fun i => (y.getD i 0 - y.getD i 0) * (y.getD i 0 - y.getD i 0)).sum = 0 := by
          intro l
          induction l with
          | nil => rfl
          | cons a l ih => simp at ih ⊢; exact ih
        exact this _
      rw [this, z, Int.mul_zero]
    have h3 := sqZ_pos (by rw [o.len x hx, o.len y hy]) hxy
    have h4 : 0 < c * sqZ x y := Int.mul_pos (by omega) h3
    omega
  have so : StOK d qs := StOK.of o.d1 o.d3 (by
    intro e
    rw [e] at hl
    have := List.length_pos_iff.mpr o.ne
    simp at hl
    omega) (by rw [hl]; exact o.few) (fun q hq => by
    obtain ⟨p, hp, rfl⟩ := un q hq
    exact (hs p hp).1) (fun q hq => by
    obtain ⟨p, hp, rfl⟩ := un q hq
    exact (hs p hp).2) nd
  exact ⟨so, hl, List.ne_nil_of_mem ((fitsZ_iff o so hl.symm).mpr (fit_moved (pos_tab o) nd pm hf))⟩
theorem s_law_moved_store {c : Nat} {σ : PS} {d : Nat} {ps : List (List Int)} {t : Int} (u : Pu c σ) (hc : c < 700000) (o : StOK d ps) (h8 : ps.length ≤ 8) (lo : Low ps) (t1 : 1 ≤ t) (t3 : t ≤ 3) (n : Nat) : WP (trun pg pr (n + 23) 27 [.pur, stT d ps, .int t] σ) fun v σ' => ∃ (g : G) (qs : List (List Int)), v = (g, stT d qs) ∧ MvOK d ps qs ∧ Pu (c + 20) σ' := by
  refine wpQ fun Q k => ?_
  have d1 := o.d1
  have d3 := o.d3
  have hr1 : -1000000 ≤ (d : Int) ∧ (d : Int) ≤ 1000000 := by omega
  rw [go_27 rfl]
  simp [b_27, k_rg1 _ _ hr1, trg0]
  generalize hz : TM.kcom _ _ _ _ _ _ _ = z
  obtain ⟨fl, σ1, rfl, f1, f2, u1⟩ := wcomQ (dec := TV.int) hz (fun j ys σ => ys.length = j ∧ (∀ i ∈ ys, i = 1 ∨ i = -1) ∧ Pu (c + j) σ) ⟨rfl, by simp, u⟩ (by
    rintro j hj ys σ ⟨h1, h2, u⟩ Q k -
    rw [List.length_range] at hj
    obtain ⟨t, σ', e, t0, t1, u1⟩ := s_draw (k := 2) u (by omega) (by omega) (by omega) (n + (22 - 21))
    rw [show n + (22 - 21) + 21 = n + 22 by omega] at e
    have hm : (2 : Int).natAbs.log2 + t.natAbs.log2 < 1000000 := Sz.mulOk (k := 2) (l := 11) (by unfold Sz; decide) (by unfold Sz; omega) (by omega)
    refine wp_of (by simp [tturn, Tg.own, twip, tcO, tb_mul _ _ hm, e]; exact ⟨rfl, rfl⟩) ?_
    refine k (2 * t - 1) _ ⟨by simp [h1], fun i hi => ?_, u1⟩
    rcases List.mem_append.mp hi with hi | hi
    · exact h2 i hi
    · simp at hi
      omega)
  rw [List.length_range] at f1 u1
  obtain ⟨v, σ2, e2, g2, os, rfl, g2n, pm, u2⟩ := s_law_shuffled (enc := fun (i : Nat) => TV.int (i : Int)) (xs := List.range d) u1 (by simp; omega) (by simp; omega) (n + (22 - 22))
  rw [show n + (22 - 22) + 22 = n + 22 by omega] at e2
  have hol : os.length = d := by simpa using pm.length_eq
  have tl := tlim_map (s := σ2) (g := .s) (f := ptT) (l := ps) (by omega)
  have psz : ∀ p ∈ ps, ∀ j, -250 ≤ p.getD j 0 ∧ p.getD j 0 ≤ 250 := fun p hp j => by
    by_cases h : j < p.length
    · have := lo p hp _ (List.getElem_mem h)
      simpa [h] using this
    · simp [h]
  have fsz : ∀ j, j < d → fl.getD j 0 = 1 ∨ fl.getD j 0 = -1 := fun j hj => by
    have h : j < fl.length := by omega
    have := f2 _ (List.getElem_mem h)
    simpa [h] using this
  have hlr := k_lr1 (S := PS) σ1 (g := .d) hr1
  have hk : ∀ (g' : G), leak (gm .d (gm .d (gm g' G.d))) [1, 1, 0, 0, 1] [some (G.d, TV.pur), some (G.s, stT d ps), some (G.d, .int t), none, none, none, none, none, none] = [some (G.d, TV.pur), some (G.s, stT d ps), some (G.d, .int t), none, none, none, none, none, none] := fun g' => by cases g' <;> simp
  simp [hlr, trg0, e2, fvE, fvEs, fvI, hk, tl]
  generalize hz : TM.kcom _ _ _ _ _ _ _ = z
  have hz := hz.symm.trans (wmap (h := fun p => ptT (mvP d fl os t p)) fun p hp => by
    have hpl := o.len p hp
    simp [tturn, Tg.own, twip, tcO, k_rg1 _ _ hr1, trg0]
    generalize hz : TM.kcom _ _ _ _ _ _ _ = z
    have hz := hz.symm.trans (wmap (h := fun (a : Nat) => .int (fl.getD a 0 * t * p.getD (os.getD a 0) 0 + (a : Int))) fun a ha => by
      have ha := List.mem_range.mp ha
      have x1 : ∀ g g', tidx (g, .lst (fl.map TV.int)) (g', .int (a : Int)) = some (.d, .int (fl.getD a 0)) := fun g g' => tx_pt' (p := fl) g g' (by omega)
      have x2 : ∀ g g', tidx (g, .lst (os.map fun (i : Nat) => TV.int (i : Int))) (g', .int (a : Int)) = some (.d, .int (os.getD a 0 : Nat)) := fun g g' => by
        have h : a < os.length := by omega
        have := tx_nat (f := fun (i : Nat) => TV.int (i : Int)) g g' h
        have e : os.getD a 0 = os[a] := by simp [h]
        rw [e]
        exact this
      have ho : os.getD a 0 < d := by
        have h : a < os.length := by omega
        have e : os.getD a 0 = os[a] := by simp [h]
        rw [e]
        exact List.mem_range.mp (pm.subset (List.getElem_mem h))
      have x3 : ∀ g g', tidx (g, ptT p) (g', .int (os.getD a 0 : Nat)) = some (.d, .int (p.getD (os.getD a 0) 0)) := fun g g' => tx_pt' g g' (by omega)
      have f3 := fsz a ha
      have p3 := psz p hp (os.getD a 0)
      generalize p.getD (os.getD a 0) 0 = y at x3 p3 ⊢
      generalize os.getD a 0 = oa at x2 x3
      generalize fl.getD a 0 = x at x1 f3 ⊢
      have z1 : Sz 3 x := by unfold Sz; omega
      have z2 : Sz 3 t := by unfold Sz; omega
      have z3 : Sz 11 y := by unfold Sz; omega
      simp [tturn, Tg.own, twip, tcO, x1, x2, x3, tb_mul _ _ (z1.mulOk z2 (by omega)), tb_mul _ _ ((z1.mul z2).mulOk z3 (by omega))])
    subst hz
    simp [ptT, mvP, List.map_map, Function.comp_def])
  subst hz
  have em : ps.map (fun p => ptT (mvP d fl os t p)) = (ps.map (mvP d fl os t)).map ptT := by simp [List.map_map, Function.comp_def]
  obtain ⟨v, σ3, e3, g3, qs, rfl, g3n, pm3, u3⟩ := s_law_shuffled (enc := ptT) (xs := ps.map (mvP d fl os t)) u2 (by simp; omega) (by simp; omega) (n + (22 - 22))
  rw [show n + (22 - 22) + 22 = n + 22 by omega, ← em] at e3
  refine wp_of (by simp [e3, fvE, fvEs]; exact ⟨rfl, rfl⟩) ?_
  refine k _ _ ⟨_, qs, rfl, ⟨mvP d fl os t, t * t, ?_, pm3, fun p hp q hq => sq_mvP f1 f2 pm (o.len p hp) (o.len q hq), fun p hp => ⟨by simp [mvP], fun i hi => ?_⟩⟩, u3.mono (by simp; omega)⟩
  · have : 1 * 1 ≤ t * t := Int.mul_le_mul t1 t1 (by omega) (by omega)
    omega
  · obtain ⟨a, ha, rfl⟩ := List.mem_map.mp hi
    have ha := List.mem_range.mp ha
    have f3 := fsz a ha
    have p3 := psz p hp (os.getD a 0)
    generalize p.getD (os.getD a 0) 0 = y at p3 ⊢
    generalize fl.getD a 0 = x at f3 ⊢
    have t' : t = 1 ∨ t = 2 ∨ t = 3 := by omega
    rcases f3 with rfl | rfl <;> rcases t' with rfl | rfl | rfl <;> omega

end K08

set_option Elab.async false
set_option linter.all false
set_option maxRecDepth 100000
set_option autoImplicit false
set_option maxHeartbeats 8000000
namespace K08
open PySem MP TM
/-! k08: the other stores -/
def osT (o : Nat × List (List Int)) : TV := stT o.1 o.2
@[simp] theorem gr_os (o : Nat × List (List Int)) : gr .s (osT o) = .s := rfl
structure OthOK (N : Nat) (o : Nat × List (List Int)) : Prop where
  st : StOK o.1 o.2
  len : o.2.length = N
theorem gl_os {os : List (Nat × List (List Int))} (h : os ≠ []) : gl .s (os.map osT) = .r := by
  cases os with
  | nil => exact (h rfl).elim
  | cons o os => rfl
theorem tcut_but {α : Type} (xs : List α) : tcut xs none (some (-1)) = xs.dropLast := by
  unfold tcut
  rw [HT.sIx_none, List.drop_zero, Nat.sub_zero, List.dropLast_eq_take]
  congr 1
  have : HT.sIx xs.length xs.length (some (-1)) = ((-1 : Int) + (xs.length : Int)).toNat := rfl
  rw [this]
  omega
theorem at_last' {α : Type} {f : α → TV} {xs : List α} (h : xs ≠ []) : L2.atI (xs.map f) (-1) = some (f (xs.getLast h)) := by
  rw [at_last (by simpa using h)]
  simp
theorem inj_nd {α β : Type} {f : α → β} {l : List α} (h : l.Nodup) (hf : ∀ x ∈ l, ∀ y ∈ l, f x = f y → x = y) : (l.map f).Nodup := by
  rw [List.nodup_iff_pairwise_ne, List.pairwise_map]
  exact h.imp_of_mem fun {x y} hx hy hxy e => hxy (hf x hx y hy e)
theorem tmth_ap {g g' : G} {xs : List TV} {v : TV} (hg : g ≠ .s) (h : xs.length < lim) : ∃ w, tmth .append (g, .lst xs) [(g', v)] = some ((w, .lst (xs ++ [v])), (.d, .non)) ∧ w ≠ .s := by
  cases g with
  | s => exact (hg rfl).elim
  | r => exact ⟨_, tmth_app h rfl, gl_ne _ _⟩
  | d => exact ⟨_, tmth_app h rfl, gl_ne _ _⟩
theorem s_law_others {c : Nat} {σ : PS} {d : Nat} {ps : List (List Int)} (u : Pu c σ) (hc : c < 600000) (o : StOK d ps) (h8 : ps.length ≤ 8) (lo : Low ps) (n : Nat) : WP (trun pg pr (n + 24) 28 [.pur, stT d ps] σ) fun v σ' => ∃ (g : G) (os : List (Nat × List (List Int))), v = (g, .lst (os.map osT)) ∧ (∀ q ∈ os, OthOK ps.length q) ∧ (∀ (i : Nat) (h : i < os.length), i < 4 → fitsZ ps os[i].2 ≠ []) ∧ os.length ≤ 8 ∧ Pu (c + 50) σ' := by
  refine wpQ fun Q k => ?_
  have d1 := o.d1
  have d3 := o.d3
  have hne := o.ne
  have hpos := List.length_pos_iff.mpr hne
  obtain ⟨v1, σ1, e1, g1, q1, rfl, m1, u1⟩ := s_law_moved_store u (by omega) o h8 lo (t := 1) (by omega) (by omega) (n + (23 - 23))
  obtain ⟨t, σ2, e2, t0, t1, u2⟩ := s_draw (k := 3) u1 (by omega) (by omega) (by decide) (n + (23 - 21))
  obtain ⟨v3, σ3, e3, g3, q3, rfl, m3, u3⟩ := s_law_moved_store u2 (by omega) o h8 lo (t := 1 + t) (by omega) (by omega) (n + (23 - 23))
  rw [show n + (23 - 23) + 23 = n + 23 by omega] at e1 e3
  rw [show n + (23 - 21) + 21 = n + 23 by omega] at e2
  have mk : ∀ f : List Int → List Int, f = id → MvOK d ps (ps.map f) := fun f hf => by
    subst hf
    refine ⟨id, 1, by omega, List.Perm.refl _, fun p _ q _ => by simp, fun p hp => ⟨o.len p hp, fun i hi => ?_⟩⟩
    have := lo p hp i hi
    omega
  have m0 : MvOK d ps ps := by simpa using mk id rfl
  have m4 : MvOK d ps ps.reverse := by
    obtain ⟨f, c, h1, h2, h3, h4⟩ := m0.ex
    exact ⟨f, c, h1, (List.reverse_perm ps).trans h2, h3, h4⟩
  obtain ⟨s1, l1, n1⟩ := m1.st o
  obtain ⟨s3, l3, n3⟩ := m3.st o
  obtain ⟨s0, l0, n0⟩ := m0.st o
  obtain ⟨s4, l4, n4⟩ := m4.st o
  -- the first four
  let os1 : List (Nat × List (List Int)) := [(d, ps), (d, q1), (d, q3), (d, ps.reverse)]
  have er : (ps.map ptT).reverse = ps.reverse.map ptT := by rw [List.map_reverse]
  have tv : ∀ g, trev (g, psT ps) = some (gl g (ps.reverse.map ptT), psT ps.reverse) := fun g => by
    unfold psT
    rw [trev_l, er]
  have hr : -1000000 ≤ (ps.length : Int) ∧ (ps.length : Int) ≤ 1000000 := by omega
  have tl := tlim_map (s := σ3) (g := .s) (f := ptT) (l := ps) (by omega)
  have ts := tcut_but ps
  have hlast := at_last' (f := ptT) hne
  have hll : ∀ g, tidx (g, psT ps) (.d, .int (-1)) = some (gsub g, ptT (ps.getLast hne)) := fun g => by
    unfold psT
    rw [tx_l, hlast]
    rfl
  have tsl : ∀ g, tslc (g, psT ps) none (some (-1)) = some (gl g (ps.dropLast.map ptT), psT ps.dropLast) := fun g => by
    unfold psT
    rw [tslc_l, tcut_but, List.map_dropLast]
  have hlm : ps.getLast hne ∈ ps := List.getLast_mem hne
  have tl2 := tlim_map (s := σ3) (g := .s) (f := TV.int) (l := ps.getLast hne) (by rw [o.len _ hlm]; omega)
  rw [go_28 rfl]
  have d1' : ((1 : Nat) : Int) = 1 := rfl
  -- what is put in for fewer coordinates
  have part2 : ∀ (os : List (Nat × List (List Int))) , os.length ≤ 5 → (∀ q ∈ os, OthOK ps.length q) → (∀ (i : Nat) (h : i < os.length), i < 4 → fitsZ ps os[i].2 ≠ []) → 4 ≤ os.length → WP (texs (tcf pg pr (n + 23)) pg.most (.cons (.asg (.nm 5) (.bin .add (.slc (.var 2) none (some (.neg (.cst (.int 1))))) (.lst (.cons (.com (.nm 6) (.seq (.idx (.var 2) (.neg (.cst (.int 1))))) none (.bin .add (.var 6) (.cst (.int 1)))) .nil))))
    (.cons (.asg (.nm 3) (.bin .add (.var 3) (.bin .mul (.lst (.cons (.tup (.cons (.cst (.str "store")) (.cons (.idx (.var 1) (.cst (.int 1))) (.cons (.var 5) .nil)))) .nil)) (.blt .int (.cons (.cmp .nin (.idx (.var 5) (.neg (.cst (.int 1)))) (.slc (.var 5) none (some (.neg (.cst (.int 1)))))) .nil)))))
    (.cons (.asg (.nm 7) (.com (.nm 8) (.rg1 (.blt .len (.cons (.var 2) .nil))) none (.lst (.cons (.var 8) (.cons (.blt .int (.cons (.cmp .eq (.var 8) (.cst (.int 2))) .nil)) .nil)))))
    (.cons (.ret (.bin .add (.var 3) (.lst (.cons (.tup (.cons (.cst (.str "store")) (.cons (.cst (.int 2)) (.cons (.var 7) .nil)))) (.cons (.tup (.cons (.cst (.str "store")) (.cons (.cst (.int 1)) (.cons (.com (.nm 8) (.rg1 (.blt .len (.cons (.var 2) .nil))) none (.lst (.cons (.bin .mul (.var 8) (.var 8)) .nil))) .nil)))) .nil))))) .nil)))) [some (.d, .pur), some (.s, stT d ps), some (.s, psT ps), some (.r, .lst (os.map osT)), none, none, none, none, none] σ3).fin Q := by
    intro os hos h1 h2 h4
    let last : List Int := (ps.getLast hne).map (· + 1)
    have el : TV.lst ((ps.getLast hne).map fun x => .int (x + 1)) = ptT last := by simp [ptT, last, List.map_map, Function.comp_def]
    have ad : ∀ g g', tbin .add (g, psT ps.dropLast) (g', .lst [ptT last]) = some (gl (gm g g') ((ps.dropLast ++ [last]).map ptT), psT (ps.dropLast ++ [last])) := fun g g' => by
      unfold psT
      rw [tb_addL g g' (by simp only [List.length_map, List.length_cons, List.length_nil, List.length_dropLast]; exact lim_of (by omega)), List.map_append]
      rfl
    have hll2 : ∀ g, tidx (g, psT (ps.dropLast ++ [last])) (.d, .int (-1)) = some (gsub g, ptT last) := fun g => by
      unfold psT
      rw [tx_l, at_last' (by simp)]
      simp
    have tsl2 : ∀ g, tslc (g, psT (ps.dropLast ++ [last])) none (some (-1)) = some (gl g (ps.dropLast.map ptT), psT ps.dropLast) := fun g => by
      unfold psT
      rw [tslc_l, tcut_but, ← List.map_dropLast]
      simp
    have sub : ∀ q ∈ ps.dropLast, q ∈ ps := fun q hq => (List.dropLast_sublist ps).subset hq
    have hlastl : last.length = d := by simp [last, o.len _ hlm]
    have ti := tin_ps (ps := ps.dropLast) (p := last) (by rw [List.length_dropLast]; omega) (fun q hq => by rw [o.len q (sub q hq)]; omega) (by omega)
    have hk : ∀ (g' g'' : G), leak g' [2, 2, 6] [some (G.d, TV.pur), some (G.s, stT d ps), some (G.s, psT ps), some (g'', TV.lst (os.map osT)), none, none, none, none, none] = [some (G.d, TV.pur), some (G.s, stT d ps), some (G.s, psT ps), some (g'', TV.lst (os.map osT)), none, none, none, none, none] := fun g' g'' => by cases g' <;> simp
    have ad2 : ∀ (os : List (Nat × List (List Int))) g g' (e : Nat) X, os.length ≤ 20 → tbin .add (g, .lst (os.map osT)) (g', .lst [.tup [.str "store", .int e, psT X]]) = some (gl (gm g g') ((os ++ [(e, X)]).map osT), .lst ((os ++ [(e, X)]).map osT)) := fun os g g' e X h => by
      rw [tb_addL g g' (by simp only [List.length_map, List.length_cons, List.length_nil]; exact lim_of (by omega)), List.map_append]
      rfl
    have ad3 : ∀ (os : List (Nat × List (List Int))) g g' X Y, os.length ≤ 20 → tbin .add (g, .lst (os.map osT)) (g', .lst [.tup [.str "store", .int 2, psT X], .tup [.str "store", .int 1, psT Y]]) = some (gl (gm g g') ((os ++ [(2, X), (1, Y)]).map osT), .lst ((os ++ [(2, X), (1, Y)]).map osT)) := fun os g g' X Y h => by
      rw [tb_addL g g' (by simp only [List.length_map, List.length_cons, List.length_nil]; exact lim_of (by omega)), List.map_append]
      rfl
    have ad0 : ∀ g g', tbin .add (g, .lst (os.map osT)) (g', .lst []) = some (gl (gm g g') (os.map osT), .lst (os.map osT)) := fun g g' => by
      rw [tb_addL g g' (by simp only [List.length_map, List.length_nil]; exact lim_of (by omega)), List.append_nil]
    let bes : List (List Int) := (List.range ps.length).map fun (s : Nat) => [(s : Int), if (s : Int) = 2 then 1 else 0]
    let lin : List (List Int) := (List.range ps.length).map fun (s : Nat) => [(s : Int) * (s : Int)]
    have obes : OthOK ps.length (2, bes) := by
      refine ⟨StOK.of (by simp) (by simp) ?_ (by simp [bes]; omega) (fun p hp => ?_) (fun p hp i hi => ?_) (inj_nd List.nodup_range fun x _ y _ e => ?_), by simp [bes]⟩
      · intro e
        have := congrArg List.length e
        simp [bes] at this
        exact hne this
      · obtain ⟨s, _, rfl⟩ := List.mem_map.mp hp
        rfl
      · obtain ⟨s, hs, rfl⟩ := List.mem_map.mp hp
        have := List.mem_range.mp hs
        simp at hi
        rcases hi with rfl | rfl
        · omega
        · split <;> omega
      · simp at e
        omega
    have olin : OthOK ps.length (1, lin) := by
      refine ⟨StOK.of (by simp) (by simp) ?_ (by simp [lin]; omega) (fun p hp => ?_) (fun p hp i hi => ?_) (inj_nd List.nodup_range fun x _ y _ e => ?_), by simp [lin]⟩
      · intro e
        have := congrArg List.length e
        simp [lin] at this
        exact hne this
      · obtain ⟨s, _, rfl⟩ := List.mem_map.mp hp
        rfl
      · obtain ⟨s, hs, rfl⟩ := List.mem_map.mp hp
        have := List.mem_range.mp hs
        simp at hi
        subst hi
        have : (s : Int) * s ≤ 8 * 8 := Int.mul_le_mul (by omega) (by omega) (by omega) (by omega)
        have : 0 ≤ (s : Int) * s := sq_nn _
        omega
      · simp at e
        have e : x * x = y * y := by exact_mod_cast e
        exact Nat.mul_self_inj.mp e
    have oden : last ∉ ps.dropLast → OthOK ps.length (d, ps.dropLast ++ [last]) := by
      intro hn
      refine ⟨StOK.of d1 d3 (by simp) (by simp; omega) (fun p hp => ?_) (fun p hp i hi => ?_) ?_, by simp; omega⟩
      · rcases List.mem_append.mp hp with hp | hp
        · exact o.len p (sub p hp)
        · rw [List.mem_singleton.mp hp]
          exact hlastl
      · rcases List.mem_append.mp hp with hp | hp
        · have := lo p (sub p hp) i hi
          omega
        · rw [List.mem_singleton.mp hp] at hi
          obtain ⟨j, hj, rfl⟩ := List.mem_map.mp hi
          have := lo _ hlm j hj
          omega
      · rw [List.nodup_append]
        refine ⟨o.nd.sublist (List.dropLast_sublist ps), by simp, fun a ha b hb e => ?_⟩
        subst e
        rw [List.mem_singleton.mp hb] at ha
        exact hn ha
    -- the end
    have fin : ∀ (y5 : Option GV) (os : List (Nat × List (List Int))), os.length ≤ 6 → (∀ q ∈ os, OthOK ps.length q) → (∀ (i : Nat) (h : i < os.length), i < 4 → fitsZ ps os[i].2 ≠ []) → 4 ≤ os.length → WP (texs (tcf pg pr (n + 23)) pg.most (.cons (.asg (.nm 7) (.com (.nm 8) (.rg1 (.blt .len (.cons (.var 2) .nil))) none (.lst (.cons (.var 8) (.cons (.blt .int (.cons (.cmp .eq (.var 8) (.cst (.int 2))) .nil)) .nil)))))
      (.cons (.ret (.bin .add (.var 3) (.lst (.cons (.tup (.cons (.cst (.str "store")) (.cons (.cst (.int 2)) (.cons (.var 7) .nil)))) (.cons (.tup (.cons (.cst (.str "store")) (.cons (.cst (.int 1)) (.cons (.com (.nm 8) (.rg1 (.blt .len (.cons (.var 2) .nil))) none (.lst (.cons (.bin .mul (.var 8) (.var 8)) .nil))) .nil)))) .nil))))) .nil)) [some (.d, .pur), some (.s, stT d ps), some (.s, psT ps), some (.r, .lst (os.map osT)), none, y5, none, none, none] σ3).fin Q := by
      intro y5 os hos h1 h2 h4
      refine wstepQ fun R k2 => ?_
      simp [k_rg1 _ _ hr, trg0]
      generalize hz : TM.kcom _ _ _ _ _ _ _ = z
      have hz := hz.symm.trans (wmap (h := fun (s : Nat) => ptT [(s : Int), if (s : Int) = 2 then 1 else 0]) fun s hs => by
        by_cases h : (s : Int) = 2 <;> simp [tturn, Tg.own, twip, tcO, h, ptT, gl, noLs, noL])
      subst hz
      have eb : TV.lst ((List.range ps.length).map fun (s : Nat) => ptT [(s : Int), if (s : Int) = 2 then 1 else 0]) = psT bes := by simp [psT, bes, List.map_map, Function.comp_def]
      refine wp_of (by simp [eb]; exact ⟨rfl, rfl⟩) (k2 _ _ ?_)
      refine wpQ fun Q2 k2 => ?_
      simp [k_rg1 _ _ hr, trg0]
      generalize hz : TM.kcom _ _ _ _ _ _ _ = z
      have hz := hz.symm.trans (wmap (h := fun (s : Nat) => ptT [(s : Int) * (s : Int)]) fun s hs => by
        have := List.mem_range.mp hs
        have z : Sz 11 (s : Int) := by unfold Sz; omega
        simp [tturn, Tg.own, twip, tcO, ptT, gl, noLs, noL, tb_mul _ _ (z.mulOk z (by omega))])
      subst hz
      have eb2 : TV.lst ((List.range ps.length).map fun (s : Nat) => ptT [(s : Int) * (s : Int)]) = psT lin := by simp [psT, lin, List.map_map, Function.comp_def]
      refine wp_of (by simp [eb2, ad3 os _ _ _ _ (show os.length ≤ 20 by omega)]; exact ⟨rfl, rfl⟩) ?_
      refine k2 _ _ (k _ _ ⟨_, os ++ [(2, bes), (1, lin)], by rw [List.map_append]; rfl, fun q hq => ?_, fun i hi h4' => ?_, by simp; omega, u3.mono (by omega)⟩)
      · rcases List.mem_append.mp hq with hq | hq
        · exact h1 q hq
        · simp at hq
          rcases hq with rfl | rfl
          · exact obes
          · exact olin
      · rw [List.getElem_append_left (by omega)]
        exact h2 i (by omega) h4'
    refine wstepQ fun R k2 => ?_
    simp [hll, tl2, tsl]
    generalize hz : TM.kcom _ _ _ _ _ _ _ = z
    have hz := hz.symm.trans (wmap (h := fun (x : Int) => .int (x + 1)) fun x hx => by simp [tturn, Tg.own, twip, tcO])
    subst hz
    refine wp_of (by simp [el, ad, fvE, fvEs, fvI, hk]; exact ⟨rfl, rfl⟩) (k2 _ _ ?_)
    by_cases hm : last ∈ ps.dropLast
    · have hg : gl .s (os.map osT) = .r := gl_os fun e => by rw [e] at h4; simp at h4
      refine wstep (by simp [hll2, tsl2, ti, hm, tb_mul0, ad0, hg, fvE, fvEs]; exact ⟨rfl, rfl⟩) ?_
      exact fin _ os (by omega) h1 h2 h4
    · have hg : gl .s ((os ++ [(d, ps.dropLast ++ [last])]).map osT) = .r := gl_os (by simp)
      have ad2' := fun g g' => ad2 os g g' d (ps.dropLast ++ [last]) (by omega)
      simp only [List.map_append, List.map_cons, List.map_nil] at hg
      refine wstep (by simp [hll2, tsl2, ti, hm, tb_mul1, ad2', hg, fvE, fvEs]; exact ⟨rfl, rfl⟩) ?_
      have fi := fun y5 => fin y5 (os ++ [(d, ps.dropLast ++ [last])]) (by simp; omega) (fun q hq => by
        rcases List.mem_append.mp hq with hq | hq
        · exact h1 q hq
        · rw [List.mem_singleton.mp hq]
          exact oden hm) (fun i hi h4' => by
        rw [List.getElem_append_left (by omega)]
        exact h2 i (by omega) h4') (by simp; omega)
      simp only [List.map_append, List.map_cons, List.map_nil] at fi
      exact fi _
  have four : ∀ (i : Nat) (h : i < os1.length), i < 4 → fitsZ ps os1[i].2 ≠ [] := by
    intro i h _
    have : i = 0 ∨ i = 1 ∨ i = 2 ∨ i = 3 := by omega
    rcases this with rfl | rfl | rfl | rfl
    · exact n0
    · exact n1
    · exact n3
    · exact n4
  have ok1 : ∀ q ∈ os1, OthOK ps.length q := by
    intro q hq
    simp [os1] at hq
    rcases hq with rfl | rfl | rfl | rfl
    · exact ⟨s0, l0⟩
    · exact ⟨s1, l1⟩
    · exact ⟨s3, l3⟩
    · exact ⟨s4, l4⟩
  have el1 : TV.lst [stT d ps, stT d q1, stT d q3, .tup [.str "store", .int d, psT ps.reverse]] = .lst (os1.map osT) := rfl
  have gl1 : gl .s [stT d ps, stT d q1, stT d q3, .tup [.str "store", .int d, psT ps.reverse]] = .r := gl_os (os := os1) (by simp [os1])
  unfold b_28
  refine wstep (by simp; exact ⟨rfl, rfl⟩) ?_
  refine wstep (by simp [e1, e2, e3, tv, gl1, fvE, fvEs, fvI]; exact ⟨rfl, rfl⟩) ?_
  by_cases hd : (d : Int) < 3
  · obtain ⟨w, ta, -⟩ := tmth_ap (g := .r) (g' := .d) (xs := os1.map osT) (v := osT (d + 1, ps.map fun p => p ++ [7])) (by simp) (by simp [os1, lim])
    refine wstepQ fun R k2 => ?_
    simp [hd, tl]
    generalize hz : TM.kcom _ _ _ _ _ _ _ = z
    have hz := hz.symm.trans (wmap (h := fun p => ptT (p ++ [7])) fun p hp => by
      simp [tturn, Tg.own, twip, tcO, pt_snoc p 7 _ _ (show p.length ≤ 100 by rw [o.len p hp]; omega)])
    subst hz
    have e7 : TV.lst (ps.map fun p => ptT (p ++ [7])) = psT (ps.map fun p => p ++ [7]) := by simp [psT, List.map_map, Function.comp_def]
    have ta : ∀ g, tmth .append (.r, .lst [stT d ps, stT d q1, stT d q3, .tup [.str "store", .int d, psT ps.reverse]]) [(g, .tup [.str "store", .int ((d : Int) + 1), psT (ps.map fun p => p ++ [7])])] = some ((.r, .lst ((os1 ++ [(d + 1, ps.map fun p => p ++ [7])]).map osT)), (.d, .non)) := fun g => by
      refine tmth_app (by simp [lim]) ?_
      rfl
    refine wp_of (by simp [e7, TM.kapp, ta]; exact ⟨rfl, rfl⟩) (k2 _ _ ?_)
    refine part2 (os1 ++ [(d + 1, ps.map fun p => p ++ [7])]) (by simp [os1]) (fun q hq => ?_) (fun i hi h4' => ?_) (by simp [os1])
    · rcases List.mem_append.mp hq with hq | hq
      · exact ok1 q hq
      · rw [List.mem_singleton.mp hq]
        refine ⟨StOK.of (by omega) (by omega) (by simpa using hne) (by simp; omega) (fun p hp => ?_) (fun p hp i hi => ?_) (inj_nd o.nd fun x _ y _ e => List.append_cancel_right e), by simp⟩
        · obtain ⟨p', hp', rfl⟩ := List.mem_map.mp hp
          simp [o.len p' hp']
        · obtain ⟨p', hp', rfl⟩ := List.mem_map.mp hp
          rcases List.mem_append.mp hi with hi | hi
          · have := lo p' hp' i hi
            omega
          · simp at hi
            omega
    · rw [List.getElem_append_left (by simp [os1]; omega)]
      exact four i (by simp [os1]; omega) h4'
  · refine wstep (by simp [hd]; exact ⟨rfl, rfl⟩) ?_
    exact part2 os1 (by simp [os1]) ok1 four (by simp [os1])

end K08

set_option Elab.async false
set_option linter.all false
set_option maxRecDepth 100000
set_option autoImplicit false
set_option maxHeartbeats 8000000
namespace K08
open PySem MP TM
/-! k08: the law -/
theorem s_pickL {c : Nat} {σ : PS} {α : Type} {enc : α → TV} {xs : List α} (h : Pu c σ) (hc : c < 1000000) (h0 : xs ≠ []) (hl : xs.length ≤ 1000000) (n : Nat) : ∃ x σ', trun pg pr (n + 22) 36 [.pur, .lst (xs.map enc)] σ = .ok (gr .s (enc x), enc x) σ' ∧ x ∈ xs ∧ Pu (c + 1) σ' := by
  have hp := List.length_pos_iff.mpr h0
  obtain ⟨t, σ', e, h1, h2, h3⟩ := s_draw (k := (xs.length : Int)) h hc (by omega) (by omega) n
  obtain ⟨i, rfl⟩ : ∃ i : Nat, t = i := ⟨t.toNat, by omega⟩
  have hi : i < xs.length := by omega
  have ea : L2.atI (xs.map enc) (i : Int) = some (enc xs[i]) := by
    rw [at_nat (by simpa using hi)]
    simp
  refine ⟨xs[i], σ', ?_, List.getElem_mem hi, h3⟩
  rw [go_36 rfl]
  simp [b_36, e, ea]
theorem rk_pt {p : List Int} (h : ∀ i ∈ p, Sz 11 i) (hl : p.length ≤ 3) : Rk 1 40 (ptT p) :=
  (rk_lst (rks_map (f := TV.int) (D := 0) (w := 12) fun i hi => rk_int (h i hi) (by omega))).mono (by omega) (by omega)
theorem rk_st {d : Nat} {ps : List (List Int)} (h : StOK d ps) : ∃ k, trepr (stT d ps) = some k := by
  have f := h.few
  have d3 := h.d3
  have r1 : Rk 2 500 (psT ps) := (rk_lst (rks_map (f := ptT) (D := 1) (w := 40) fun p hp => rk_pt (h.sz p hp) (by rw [h.len p hp]; exact d3))).mono (by omega) (by
    have : ps.length * (40 + 1) ≤ 12 * 41 := Nat.mul_le_mul_right _ f
    omega)
  have r2 : Rk 3 600 (stT d ps) := by
    refine rk_tup (rks_cons (w := 10) (w' := 560) ((rk_str "store" (k := 10) (by decide)).mono (by omega) (by omega)) (rks_cons (w := 12) (w' := 510) (((rk_int (k := 11) (i := (d : Int)) (by unfold Sz; omega) (by omega))).mono (by omega) (by omega)) (rks_cons (w := 500) (w' := 0) r1 (rks_nil _ _) (by omega)) (by omega)) (by omega))
  exact r2.repr (by omega) (by omega)
theorem pq_fit {ps qs : List (List Int)} (h8 : ps.length ≤ 8) : pq false false 2 (fitT ps qs) = true := by
  unfold fitT
  cases e : fitsZ ps qs with
  | nil => rfl
  | cons row B =>
    have hr := fitsZ_row (ps := ps) (qs := qs) (row := row) (by rw [e]; simp)
    have h1 := pq_nb (b := false) (s := false) (l := row) (by omega)
    have h2 := pq_fr (b := false) (s := false) (ratQ (tabZ ps) (tabZ qs))
    simp only [pq, List.all_cons, List.all_nil, h1, h2, List.length_cons, List.length_nil]
    simp [lim]
theorem fit_non {ps qs : List (List Int)} : tis (fitT ps qs) .non = some (decide (fitsZ ps qs = [])) := by
  unfold fitT
  cases e : fitsZ ps qs <;> rfl
theorem pq_bkn {b s : Bool} {B : List (List Nat)} (h : B.length ≤ 100000) (h2 : ∀ b ∈ B, b.length ≤ 100) : pq b s 2 (bkT B) = true := pq_lst (n := 1) (fun l hl => pq_nb (by have := h2 l hl; omega)) (by unfold lim; omega)
theorem tin_bk {B : List (List Nat)} {p : List Nat} (h : B.length ≤ 100000) (h2 : ∀ b ∈ B, b.length ≤ 100) (hp : p ∈ B) : tin (nbT p) (bkT B) = some true := by
  have e1 : pq false false 19 (nbT p) = true := pq_le (pq_nb (by have := h2 p hp; omega)) (by omega)
  have e2 : pq false false 20 (bkT B) = true := pq_le (pq_bkn h h2) (by omega)
  exact tin_t e1 e2 (List.mem_map.mpr ⟨p, hp, rfl⟩)
section
variable {c : Nat} {σ : PS}
theorem w_other {d : Nat} {ps : List (List Int)} (o : StOK d ps) (h8 : ps.length ≤ 8) {q : Nat × List (List Int)} (oq : OthOK ps.length q) (i : Nat) (hi : i < 4 → fitsZ ps q.2 ≠ []) (n : Nat) (y2 y4 y6 y7 y8 y9 y10 y11 y12 y13 y14 y15 : Option GV) (g3 g5 : G) {b : Ss} (hb : b = (.cons (.asg (.tp [8, 9]) (.tup (.cons (.cal 22 0 (.cons (.var 7) .nil) .nil) (.cons (.blt .repr (.cons (.var 7) .nil)) .nil))))
        (.cons (.asg (.nm 10) (.cal 25 0 (.cons (.var 5) (.cons (.var 8) .nil)) .nil))
        (.cons (.asg (.nm 11) (.cal 24 0 (.cons (.var 5) (.cons (.var 8) (.cons (.var 10) .nil))) .nil))
        (.cons (.asg (.nm 12) (.ife (.cmp .ne (.var 11) (.lst .nil)) (.tup (.cons (.idx (.var 11) (.cst (.int 0))) (.cons (.var 10) .nil))) (.cst (.non))))
        (.cons (.asg (.nm 13) (.cal 20 0 (.cons (.var 3) (.cons (.var 7) .nil)) .nil))
        (.cons (.iff (.or (.not (.cal 33 0 (.cons (.lst (.cons (.var 13) (.cons (.cal 20 1 .nil (.cons (.var 7) (.cons (.var 3) .nil))) .nil))) (.cons (.lst (.cons (.var 12) (.cons (.var 12) .nil))) .nil)) .nil)) (.or (.and (.cmp .lt (.var 6) (.cst (.int 4))) (.cmp .is (.var 12) (.cst (.non)))) (.cmp .ne (.blt .repr (.cons (.var 7) .nil)) (.var 9))))
          (.cons (.ret (.cst (.bl false))) .nil) .nil)
        (.cons (.iff (.or (.not (.cal 32 0 (.cons (.lst (.cons (.var 13) .nil)) .nil) .nil)) (.or (.not (.cal 33 0 (.cons (.cal 20 0 (.cons (.var 3) (.cons (.var 7) .nil)) .nil) (.cons (.var 12) .nil)) .nil)) (.cmp .ne (.cmp .is (.cal 20 0 (.cons (.var 7) (.cons (.var 3) .nil)) .nil) (.cst (.non))) (.cmp .is (.var 12) (.cst (.non))))))
          (.cons (.ret (.cst (.bl false))) .nil) .nil) .nil)))))))) {Q : TFl × TSl → PS → Prop} (k : ∀ g3 g5 y6 y7 y8 y9 y10 y11 y12 y13, Q (.nx, [none, some (.d, .pur), y2, some (g3, stT d ps), y4, some (g5, tabT (tabZ ps)), y6, y7, y8, y9, y10, y11, y12, y13, y14, y15]) σ) : WP (tfturn (.tp [6, 7]) (texs (tcf pg pr (n + 26)) pg.most b) (.tup [.int (i : Nat), osT q]) [none, some (.d, .pur), y2, some (g3, stT d ps), y4, some (g5, tabT (tabZ ps)), y6, y7, y8, y9, y10, y11, y12, y13, y14, y15] σ) Q := by
  subst hb
  obtain ⟨e, qs⟩ := q
  obtain ⟨oq, ol⟩ := oq
  simp only at oq ol hi
  have t1 := tab_ok o
  have t2 := tab_ok oq
  rw [ol] at t2
  have hq := qz_ratQ t1 t2 h8
  obtain ⟨kx, hk⟩ := rk_st oq
  have hk2 := fun g => tbt_repr (g := g) hk
  have a1 := s_law_table oq (n + (26 - 1)) σ
  have a2 := s_law_ratio (by rw [t1.len]; omega) (by rw [t2.len]; omega) ((t1.sum h8).mono (by omega)) ((t2.sum h8).mono (by omega)) ((pos_tab o).sum.1) (n + (26 - 3)) σ
  have a3 := s_law_fits t1 t2 (hq.mono (by omega)) h8 (n + (26 - 2)) σ
  have a4 := s_fit_of o oq ol.symm h8 (n + (26 - 8)) σ
  have a5 := s_fit_of oq o ol (by omega) (n + (26 - 8)) σ
  rw [show n + (26 - 1) + 1 = n + 26 by omega] at a1
  rw [show n + (26 - 3) + 3 = n + 26 by omega] at a2
  rw [show n + (26 - 2) + 2 = n + 26 by omega] at a3
  rw [show n + (26 - 8) + 8 = n + 26 by omega] at a4 a5
  have pf := pq_fit (ps := ps) (qs := qs) h8
  have pf' : pq true true 2 (fitT ps qs) = true := pq_imp (by simp) (by simp) _ _ pf
  have pl : pq true true 3 (.lst [fitT ps qs, fitT ps qs]) = true := by
    simp only [pq, List.all_cons, List.all_nil, pf', List.length_cons, List.length_nil]
    simp [lim]
  have sm := s_law_same (t := .lst [fitT ps qs, fitT ps qs]) (D := 3) pl (by omega) (n + (26 - 26)) σ
  have sm2 := s_law_same (t := fitT ps qs) (D := 2) pf' (by omega) (n + (26 - 26)) σ
  rw [show n + (26 - 26) + 26 = n + 26 by omega] at sm sm2
  have bk := fits_back o oq ol.symm
  have hu : unsp 20 (.lst [fitT ps qs]) = true := by
    have : pq false false 3 (.lst [fitT ps qs]) = true := by
      simp only [pq, List.all_cons, List.all_nil, pf, List.length_cons, List.length_nil]
      simp [lim]
    exact unsp_pq 19 _ (pq_le this (by omega)) (by omega)
  have sp : ∀ (m : TSl) (s : PS), m[13]? = some (some (.d, fitT ps qs)) → tcond (tcf pg pr (n + 26)) (.cal 32 0 (.cons (.lst (.cons (.var 13) .nil)) .nil) .nil) m s = .ok (true, m.set 13 none) s := by
    intro m s hm
    have := tc_spo2 (C := tcf pg pr (n + 26)) (m := m) (s := s) (s1 := s) (f := 32) (sh := 0) (e := .lst (.cons (.var 13) .nil)) (t := .lst [fitT ps qs]) (spo_on _ (by omega)) rfl (by simp [hm]) hu
    simpa [twip] using this
  refine wturn (by simp [osT]; exact rfl) ?_
  refine lstep (by simp [a1, hk2]; exact ⟨rfl, rfl⟩) ?_
  refine lstep (by simp [a2]; exact ⟨rfl, rfl⟩) ?_
  refine lstep (by simp [a3]; exact ⟨rfl, rfl⟩) ?_
  have eq := teq_bkn (fitsZ ps qs) (by have := fitsZ_len (qs := qs) h8; omega) (fun b hb => by have := fitsZ_row hb; omega)
  have ed : tex (tcf pg pr (n + 26)) pg.most (.asg (.nm 12) (.ife (.cmp .ne (.var 11) (.lst .nil)) (.tup (.cons (.idx (.var 11) (.cst (.int 0))) (.cons (.var 10) .nil))) (.cst (.non)))) [none, some (.d, .pur), y2, some (g3, stT d ps), y4, some (g5, tabT (tabZ ps)), some (.d, .int i), some (.s, stT e qs), some (.d, tabT (tabZ qs)), some (.d, .str kx), some (.d, frT (ratQ (tabZ ps) (tabZ qs))), some (.d, bkT (fitsZ ps qs)), y12, y13, y14, y15] σ = .ok (.nx, [none, some (.d, .pur), y2, some (g3, stT d ps), y4, some (g5, tabT (tabZ ps)), some (.d, .int i), some (.s, stT e qs), some (.d, tabT (tabZ qs)), some (.d, .str kx), some (.d, frT (ratQ (tabZ ps) (tabZ qs))), some (if fitsZ ps qs = [] then .d else .s, bkT (fitsZ ps qs)), some (gr .s (fitT ps qs), fitT ps qs), y13, y14, y15]) σ := by
    unfold fitT
    cases hB : fitsZ ps qs with
    | nil =>
      rw [hB] at eq
      simp [eq]
    | cons row B =>
      rw [hB] at eq
      have gs : gr .s (.tup [nbT row, frT (ratQ (tabZ ps) (tabZ qs))]) = .s := rfl
      simp [eq, fvE, fvEs, gs]
  refine lstep ed ?_
  refine lstep (by simp [a4]; exact ⟨rfl, rfl⟩) ?_
  have hlt : ((i : Int) < 4 ∧ decide (fitsZ ps qs = []) = true) = False := by
    simp
    intro h
    exact hi (by omega)
  have c1 : tcond (tcf pg pr (n + 26)) (.or (.not (.cal 33 0 (.cons (.lst (.cons (.var 13) (.cons (.cal 20 1 .nil (.cons (.var 7) (.cons (.var 3) .nil))) .nil))) (.cons (.lst (.cons (.var 12) (.cons (.var 12) .nil))) .nil)) .nil)) (.or (.and (.cmp .lt (.var 6) (.cst (.int 4))) (.cmp .is (.var 12) (.cst (.non)))) (.cmp .ne (.blt .repr (.cons (.var 7) .nil)) (.var 9)))) [none, some (.d, .pur), y2, some (g3, stT d ps), y4, some (g5, tabT (tabZ ps)), some (.d, .int i), some (.s, stT e qs), some (.d, tabT (tabZ qs)), some (.d, .str kx), some (.d, frT (ratQ (tabZ ps) (tabZ qs))), some (if fitsZ ps qs = [] then .d else .s, bkT (fitsZ ps qs)), some (gr .s (fitT ps qs), fitT ps qs), some (.d, fitT ps qs), y14, y15] σ = .ok (false, [none, some (.d, .pur), y2, some (g3, stT d ps), y4, some (g5, tabT (tabZ ps)), some (.d, .int i), some (.s, stT e qs), some (.d, tabT (tabZ qs)), some (.d, .str kx), some (.d, frT (ratQ (tabZ ps) (tabZ qs))), some (if fitsZ ps qs = [] then .d else .s, bkT (fitsZ ps qs)), some (gr .s (fitT ps qs), fitT ps qs), some (.d, fitT ps qs), y14, y15]) σ := by
    by_cases h4 : (i : Int) < 4
    · have hn := hi (by omega)
      simp [a4, sm, h4, fit_non, hn, hk2]
    · simp [a4, sm, h4, hk2]
  refine lstep (by simp only [ts_iff, c1, t_bnd, TM.k_iff, ts_nil]; exact rfl) ?_
  have nb : decide (fitsZ qs ps = []) = decide (fitsZ ps qs = []) := decide_eq_decide.mpr bk.symm
  refine lstep (by simp [sp, a4, a5, sm2, fit_non, nb, teq_bl]; exact ⟨rfl, rfl⟩) ?_
  exact lnil (k ..)
end

end K08

set_option Elab.async false
set_option linter.all false
set_option maxRecDepth 100000
set_option autoImplicit false
set_option maxHeartbeats 8000000
namespace K08
open PySem MP TM
/-! k08: the whole law -/
theorem mem_zi' {α : Type} {l : List α} {x : α} {i : Nat} (h : (x, i) ∈ l.zipIdx) : ∃ h : i < l.length, l[i] = x := by
  rw [List.mem_zipIdx_iff_getElem?, List.getElem?_eq_some_iff] at h
  exact h
theorem sym_one {d : Nat} {ps : List (List Int)} (o : StOK d ps) {row : List Nat} : row ∈ fitsK (tabZ ps) (tabZ ps) 1 ps.length ps.length ↔ IsFit ps.length (tabZ ps) (tabZ ps) 1 row := mem_fit_iff (pos_tab o).sym (pos_tab o).sym
theorem sym_ne {d : Nat} {ps : List (List Int)} (o : StOK d ps) : fitsK (tabZ ps) (tabZ ps) 1 ps.length ps.length ≠ [] := by
  refine List.ne_nil_of_mem ((sym_one (row := List.range ps.length) o).mpr ⟨by simp, List.nodup_range, fun x hx => List.mem_range.mp hx, fun i j hi hj _ => ?_⟩)
  simp
def restB : Ss := match b_37 with
  | .cons _ r => r
  | .nil => .nil
def psL : List (List Int) := [[1, 0, 0], [0, 1, 0], [0, 0, 1], [1, 1, 1]]
theorem stL : StOK 3 psL := by
  constructor <;> first | decide | (unfold Sz; decide +kernel)
theorem symL : (fitsK (tabZ psL) (tabZ psL) 1 4 4).length = 24 := by decide +kernel
theorem s_rest {σ : PS} (u : Pu 0 σ) (n : Nat) : WP (texs (tcf pg pr (n + 26)) pg.most restB ([none, some (.d, .pur)] ++ List.replicate 14 none) σ) fun p σ' => p.1 = .rt (.d, .bl true) := by
  refine wpQ fun Q k0 => ?_
  have k0 : ∀ m σ', Q (.rt (.d, .bl true), m) σ' := fun m σ' => k0 _ _ rfl
  have r6 : (List.range 6).map (fun (i : Nat) => TV.int (i : Int)) = trg 0 6 := rfl
  have ei : ∀ (m : TSl) (s : PS), tevI (tcf pg pr (n + 26)) (.rg1 (.cst (.int 6))) m s = .ok (.d, (List.range 6).map fun (i : Nat) => TV.int (i : Int)) s := fun m s => by
    rw [r6, ti_rg1, te_cst, tcv_int, kcv_s, t_bnd]
    exact k_rg1 s _ (by decide)
  show WP (texs _ _ (.cons (.for (.nm 2) _ _) (.cons _ .nil)) _ _) Q
  refine lstepQ fun R kR => ?_
  refine wforS (ei _ _) (fun i m σ => (∃ y2 y3 y4 y5 y6 y7 y8 y9 y10 y11 y12 y13 y14 y15, m = [none, some (.d, .pur), y2, y3, y4, y5, y6, y7, y8, y9, y10, y11, y12, y13, y14, y15]) ∧ Pu (1000 * i) σ) ⟨⟨none, none, none, none, none, none, none, none, none, none, none, none, none, none, rfl⟩, u⟩ ?_ ?_
  · rintro i hi m σ ⟨⟨y2, y3, y4, y5, y6, y7, y8, y9, y10, y11, y12, y13, y14, y15, rfl⟩, u⟩ Q k
    rw [List.length_range] at hi
    refine wturn (by simp; exact rfl) ?_
    -- the store
    obtain ⟨v, σ1, e1, g, d, ps, rfl, o, h8, lo, u1⟩ := s_law_shaped u (by omega) (n + (26 - 23))
    rw [show n + (26 - 23) + 23 = n + 26 by omega] at e1
    have lk : ∀ g', leak g' [1] [none, some (.d, .pur), some (.d, .int i), y3, y4, y5, y6, y7, y8, y9, y10, y11, y12, y13, y14, y15] = [none, some (.d, .pur), some (.d, .int i), y3, y4, y5, y6, y7, y8, y9, y10, y11, y12, y13, y14, y15] := fun g' => by cases g' <;> simp
    refine lstep (by simp [e1, fvE, fvEs, lk]; exact ⟨rfl, rfl⟩) ?_
    have t1 := tab_ok o
    obtain ⟨kx, hk⟩ := rk_st o
    have hk2 := fun g => tbt_repr (g := g) hk
    have a1 := s_law_table o (n + (26 - 1)) σ1
    rw [show n + (26 - 1) + 1 = n + 26 by omega] at a1
    refine lstep (by simp [a1, hk2]; exact ⟨rfl, rfl⟩) ?_
    -- the others
    obtain ⟨v, σ2, e2, go, os, rfl, ok, four, ol, u2⟩ := s_law_others u1 (by omega) o h8 lo (n + (26 - 24))
    rw [show n + (26 - 24) + 24 = n + 26 by omega] at e2
    refine lstepQ fun R kR => ?_
    have tz : tenu 0 (os.map osT) = (os.zipIdx).map fun p => .tup [.int (p.2 : Nat), osT p.1] := map_zipIdx os
    have tl : ∀ g s, tlim ((os.zipIdx).map fun p => TV.tup [.int (p.2 : Nat), osT p.1]) (S := PS) s g = .ok (g, (os.zipIdx).map fun p => TV.tup [.int (p.2 : Nat), osT p.1]) s := fun g s => tlim_map (by simp; omega)
    have hlk : ∀ (g1 g2 : G) (t : TV), ∃ g2', leak g1 [1, 3] [none, some (.d, .pur), some (.d, .int i), some (g2, t), some (.d, .str kx), some (.d, tabT (tabZ ps)), y6, y7, y8, y9, y10, y11, y12, y13, y14, y15] = [none, some (.d, .pur), some (.d, .int i), some (g2', t), some (.d, .str kx), some (.d, tabT (tabZ ps)), y6, y7, y8, y9, y10, y11, y12, y13, y14, y15] := fun g1 g2 t => by
      cases g1
      · exact ⟨_, by simp; rfl⟩
      · exact ⟨_, by simp; rfl⟩
      · exact ⟨g2, rfl⟩
    obtain ⟨g3, hlk⟩ := hlk go g (stT d ps)
    refine wforS (s1 := σ2) (g := go) (enc := fun p => TV.tup [.int (p.2 : Nat), osT p.1]) (l := os.zipIdx) (by simp [e2, tz, tl]) (fun j m s => s = σ2 ∧ ∃ g3 g5 y6 y7 y8 y9 y10 y11 y12 y13, m = [none, some (.d, .pur), some (.d, .int i), some (g3, stT d ps), some (.d, .str kx), some (g5, tabT (tabZ ps)), y6, y7, y8, y9, y10, y11, y12, y13, y14, y15]) ⟨rfl, g3, .d, y6, y7, y8, y9, y10, y11, y12, y13, by simp only [fvI, fvE, fvEs, List.append_nil, List.cons_append, List.nil_append]; exact hlk⟩ ?_ ?_
    · rintro j hj m s ⟨rfl, g3, g5, y6, y7, y8, y9, y10, y11, y12, y13, rfl⟩ Q k
      have hp : os.zipIdx[j] ∈ os.zipIdx := List.getElem_mem hj
      generalize os.zipIdx[j] = p at hp
      obtain ⟨q, i'⟩ := p
      obtain ⟨hi', rfl⟩ := mem_zi' hp
      exact w_other o h8 (ok _ (List.getElem_mem hi')) i' (four i' hi') n _ _ _ _ _ _ _ _ _ _ _ _ _ _ rfl fun g3 g5 y6 y7 y8 y9 y10 y11 y12 y13 => k _ _ ⟨rfl, g3, g5, y6, y7, y8, y9, y10, y11, y12, y13, rfl⟩
    rintro m s ⟨rfl, g3, g5, y6, y7, y8, y9, y10, y11, y12, y13, rfl⟩
    refine kR _ _ ?_
    -- the symmetries
    have q1 : Qz 60 1 := ⟨by unfold Sz; decide +kernel, by unfold Sz; decide +kernel⟩
    have b1 := s_law_fits t1 t1 q1 h8 (n + (26 - 2)) s
    have b2 := s_symmetries o h8 (n + (26 - 8)) s
    rw [show n + (26 - 2) + 2 = n + 26 by omega, frT_one] at b1
    rw [show n + (26 - 8) + 8 = n + 26 by omega] at b2
    have g11 : ∀ g, gr g (.tup [.int 1, .int 1]) = .d := fun g => rfl
    generalize hF : fitsK (tabZ ps) (tabZ ps) 1 ps.length ps.length = F at b1 b2
    have Fl : F.length ≤ 40320 := by rw [← hF]; exact fits_le h8 h8
    have Fr : ∀ r ∈ F, r.length = ps.length ∧ IsFit ps.length (tabZ ps) (tabZ ps) 1 r := fun r hr => by
      rw [← hF] at hr
      exact ⟨(fitsK_ok _ r hr).1, (sym_one o).mp hr⟩
    have Fi : ∀ r, IsFit ps.length (tabZ ps) (tabZ ps) 1 r → r ∈ F := fun r hr => by
      rw [← hF]
      exact (sym_one o).mpr hr
    have Fn : F ≠ [] := by rw [← hF]; exact sym_ne o
    have pF : ∀ b s, pq b s 2 (bkT F) = true := fun b s => pq_bkn (by omega) fun r hr => by have := Fr r hr; omega
    have pl : pq true true 3 (.lst [bkT F, bkT F]) = true := by
      simp only [pq, List.all_cons, List.all_nil, pF, List.length_cons, List.length_nil]
      simp [lim]
    have sm := s_law_same (t := .lst [bkT F, bkT F]) (D := 3) pl (by omega) (n + (26 - 26)) s
    rw [show n + (26 - 26) + 26 = n + 26 by omega] at sm
    refine lstep (by simp [b1, b2, gr, noL, noLs]; exact ⟨rfl, rfl⟩) ?_
    refine lstep (by simp [b2, sm]; exact ⟨rfl, rfl⟩) ?_
    refine lstepQ fun R kR => ?_
    refine wforS (ei _ _) (fun j m s => (∃ y2 y7 y14 y15 g12, m = [none, some (.d, .pur), y2, some (g3, stT d ps), some (.d, .str kx), some (g5, tabT (tabZ ps)), y6, y7, y8, y9, y10, y11, some (g12, bkT F), some (.d, bkT F), y14, y15]) ∧ Pu (1000 * i + 150 + 2 * j) s) ⟨⟨_, _, _, _, _, rfl⟩, u2.mono (by omega)⟩ ?_ ?_
    · rintro j hj m s ⟨⟨y2, y7, y14, y15, g12, rfl⟩, u⟩ Q k
      rw [List.length_range] at hj
      refine wturn (by simp; exact rfl) ?_
      obtain ⟨p, s1, p1, hp, u1⟩ := s_pickL (enc := nbT) u (by omega) Fn (by omega) (n + (26 - 22))
      obtain ⟨q, s2, p2, hq, u2⟩ := s_pickL (enc := nbT) u1 (by omega) Fn (by omega) (n + (26 - 22))
      rw [show n + (26 - 22) + 22 = n + 26 by omega] at p1 p2
      have p1 : trun pg pr (n + 26) 36 [.pur, bkT F] s = _ := p1
      have p2 : trun pg pr (n + 26) 36 [.pur, bkT F] s1 = _ := p2
      refine lstep (by simp [p1, p2, fvE, fvEs]; exact ⟨rfl, rfl⟩) ?_
      refine lstepQ fun R kR => ?_
      obtain ⟨lp, fp⟩ := Fr p hp
      obtain ⟨lq, fq⟩ := Fr q hq
      have tl : ∀ g s, tlim (p.map fun (i : Nat) => TV.int (i : Int)) (S := PS) s g = .ok (g, p.map fun (i : Nat) => TV.int (i : Int)) s := fun g s => tlim_map (by omega)
      simp [tl]
      generalize hz : TM.kcom _ _ _ _ _ _ _ = z
      have hz := hz.symm.trans (wmap (h := fun (x : Nat) => .int (q.getD x 0 : Nat)) fun x hx => by
        have hx : x < q.length := by rw [lq]; exact fp.lt x hx
        have e : L2.atI (q.map fun (i : Nat) => TV.int (i : Int)) (x : Int) = some (.int (q[x] : Nat)) := by
          rw [at_nat (by simpa using hx)]
          simp
        have e2 : q.getD x 0 = q[x] := by simp [hx]
        rw [e2]
        simp [tturn, Tg.own, twip, tcO, e])
      subst hz
      have ec : TV.lst (p.map fun (x : Nat) => TV.int (q.getD x 0 : Nat)) = nbT (p.map fun x => q.getD x 0) := by simp [nbT, List.map_map, Function.comp_def]
      have ti := tin_bk (B := F) (by omega) (fun r hr => by have := Fr r hr; omega) (Fi _ (fp.comp fq))
      rw [ec]
      simp only [List.getD_eq_getElem?_getD] at ti
      refine wp_of (by simp [ti]; exact ⟨rfl, rfl⟩) ?_
      exact kR _ _ (lnil (k _ _ ⟨⟨_, _, _, _, _, rfl⟩, u2.mono (by omega)⟩))
    rintro m s ⟨⟨y2, y7, y14, y15, g12, rfl⟩, u⟩
    rw [List.length_range] at u
    refine kR _ _ ?_
    have hu : unsp 20 (bkT F) = true := unsp_pq 19 _ (pq_le (pF false false) (by omega)) (by omega)
    have sp : ∀ (m : TSl) (s : PS), m[13]? = some (some (.d, bkT F)) → tcond (tcf pg pr (n + 26)) (.cal 32 0 (.cons (.var 13) .nil) .nil) m s = .ok (true, m.set 13 none) s := fun m s hm => tc_spo (C := tcf pg pr (n + 26)) m s (spo_on _ (by omega)) rfl hm hu
    have b2 := s_symmetries o h8 (n + (26 - 8)) s
    rw [show n + (26 - 8) + 8 = n + 26 by omega, hF] at b2
    have sm2 := s_law_same (t := bkT F) (D := 2) (pF true true) (by omega) (n + (26 - 26)) s
    rw [show n + (26 - 26) + 26 = n + 26 by omega] at sm2
    refine lstep (by simp [sp, b2, sm2, hk2]; exact ⟨rfl, rfl⟩) ?_
    exact lnil (k _ _ ⟨⟨_, _, _, _, _, _, _, _, _, _, _, _, _, _, rfl⟩, u.mono (by omega)⟩)
  · rintro m s ⟨⟨y2, y3, y4, y5, y6, y7, y8, y9, y10, y11, y12, y13, y14, y15, rfl⟩, u⟩
    refine kR _ _ ?_
    have b2 := s_symmetries stL (by decide) (n + (26 - 8)) s
    rw [show n + (26 - 8) + 8 = n + 26 by omega] at b2
    have hl : (bkT (fitsK (tabZ psL) (tabZ psL) 1 psL.length psL.length)) = .lst ((fitsK (tabZ psL) (tabZ psL) 1 4 4).map nbT) := rfl
    rw [hl] at b2
    have hst : TV.tup [.str "store", .int 3, .lst [.lst [.int 1, .int 0, .int 0], .lst [.int 0, .int 1, .int 0], .lst [.int 0, .int 0, .int 1], .lst [.int 1, .int 1, .int 1]]] = stT 3 psL := rfl
    have b2 : trun pg pr (n + 26) 21 [stT 3 psL] s = _ := b2
    rw [← hst] at b2
    refine lret (v := (.d, .bl true)) (by simp [b2, symL]; exact ⟨rfl, rfl⟩) (k0 _ _)

end K08

set_option Elab.async false
set_option linter.all false
set_option maxRecDepth 100000
set_option autoImplicit false
set_option maxHeartbeats 8000000
namespace K08
open PySem MP TM
theorem pr_ok (p g : Nat) (h : p ≠ g) : PrOK (PW p g h) pg pr := by
  constructor
  · intro f k hf n hn args s w s' e M vs hr hs
    simp only [pr] at hf
    split at hf
    · rename_i hfi
      subst hfi
      cases hf
      exact hdraw_ok (⟨d_35, rfl, rfl, rfl, rfl⟩ : IsD pg 35 2 4 bDraw) e hr hs
    · cases hf
  · intro f hf n hn
    simp only [pr, beq_iff_eq] at hf
    subst hf
    exact spo_ok (⟨d_32, rfl, rfl, rfl, rfl⟩ : IsD pg 32 1 3 (bSpoil 32)) ⟨d_32, rfl, rfl⟩ (by show 1000000 < 1000001; omega) hn
theorem is_law : IsD pg 37 1 (14 + 2) (.cons (.asg (.nm 1) (.cal 34 0 (.cons (.var 0) .nil) .nil)) restB) := ⟨d_37, rfl, rfl, rfl, rfl⟩
theorem is_purse : IsD pg 34 1 3 bPurse := ⟨d_34, rfl, rfl, rfl, rfl⟩
theorem ar_purse : Arr pg 34 0 [.at 0] := ⟨d_34, rfl, rfl⟩
theorem lim_lt : lim < pg.most := by
  show 1000000 < 1000001
  omega
theorem s_rest' (N : Nat) (hN : 26 ≤ N) (σ : PS) (u : Pu 0 σ) : ∃ m' σ', texs (tcf pg pr N) pg.most restB ([none, some (.d, .pur)] ++ List.replicate 14 none) σ = .ok (.rt (.d, .bl true), m') σ' := by
  obtain ⟨⟨f, m'⟩, σ', e, h⟩ := s_rest u (N - 26)
  rw [show N - 26 + 26 = N by omega] at e
  simp only at h
  subst h
  exact ⟨m', σ', e⟩
theorem pure_law : ∀ ns : List Int, ns.length ≤ 63 → ∃ M, run pg 40 37 [.kls (ns.map MV.int)] [] = .ok (.bl true) M := by
  intro ns hl
  have := law_sim (n := 38) is_law is_purse ar_purse lim_lt pr_ok (s_rest' (38 + 1) (by decide)) hl
  exact this

end K08

set_option autoImplicit false
set_option maxHeartbeats 8000000
namespace K08
open PySem PySem.Spec PyProof.Rows L2 MP
def top (i : Nat) : Stmt := PySem.Challenge.pw_nearerstill_k08_whole_shapes.main.body.getD i (.Pass ⟨0, 0, 0, 0⟩)
def ts : List Tx := [(top 7, []), (top 8, []), (top 9, []), (top 10, []), (top 11, []), (top 12, []), (top 13, []), (top 14, []), (top 17, []), (top 18, []), (top 19, []), (top 20, []), (top 21, []), (top 23, []), (top 24, []), (top 26, []), (top 27, []), (top 28, []), (top 29, []), (top 30, []), (top 31, []), (top 32, []), (top 34, []), (top 35, []), (top 36, []), (top 37, []), (top 38, []), (top 39, []), (top 40, []), (top 41, []), (top 42, []), (top 43, []), (top 44, []), (top 45, []), (top 46, []), (top 47, []), (top 48, []), (top 49, [])]
theorem sh_0 : ShD d_0 (top 7, []) := fun K f fd F => ⟨shp_mk (n := 1) (ks := []) (ix := [0]) F (fun _ _ _ _ _ _ us ws h1 h2 => match us, ws, h1, h2 with | [_], [], _, _ => rfl) rfl, trivial⟩
theorem sh_1 : ShD d_1 (top 8, []) := fun K f fd F => ⟨shp_mk (n := 2) (ks := []) (ix := [0, 1]) F (fun _ _ _ _ _ _ us ws h1 h2 => match us, ws, h1, h2 with | [_, _], [], _, _ => rfl) rfl, trivial⟩
theorem sh_2 : ShD d_2 (top 9, []) := fun K f fd F => ⟨shp_mk (n := 2) (ks := []) (ix := [0, 1]) F (fun _ _ _ _ _ _ us ws h1 h2 => match us, ws, h1, h2 with | [_, _], [], _, _ => rfl) rfl, trivial⟩
theorem sh_3 : ShD d_3 (top 10, []) := fun K f fd F => ⟨shp_mk (n := 2) (ks := []) (ix := [0, 1]) F (fun _ _ _ _ _ _ us ws h1 h2 => match us, ws, h1, h2 with | [_, _], [], _, _ => rfl) rfl, trivial⟩
theorem sh_4 : ShD d_4 (top 11, []) := fun K f fd F => ⟨shp_mk (n := 2) (ks := []) (ix := [0, 1]) F (fun _ _ _ _ _ _ us ws h1 h2 => match us, ws, h1, h2 with | [_, _], [], _, _ => rfl) rfl, trivial⟩
theorem sh_5 : ShD d_5 (top 12, []) := fun K f fd F => ⟨shp_mk (n := 2) (ks := []) (ix := [0, 1]) F (fun _ _ _ _ _ _ us ws h1 h2 => match us, ws, h1, h2 with | [_, _], [], _, _ => rfl) rfl, trivial⟩
theorem sh_6 : ShD d_6 (top 13, []) := fun K f fd F => ⟨shp_mk (n := 2) (ks := []) (ix := [0, 1]) F (fun _ _ _ _ _ _ us ws h1 h2 => match us, ws, h1, h2 with | [_, _], [], _, _ => rfl) rfl, trivial⟩
theorem sh_7 : ShD d_7 (top 14, []) := fun K f fd F => ⟨shp_mk (n := 1) (ks := []) (ix := [0]) F (fun _ _ _ _ _ _ us ws h1 h2 => match us, ws, h1, h2 with | [_], [], _, _ => rfl) rfl, trivial⟩
theorem sh_8 : ShD d_8 (top 17, []) := fun K f fd F => ⟨shp_mk (n := 2) (ks := []) (ix := [0, 1]) F (fun _ _ _ _ _ _ us ws h1 h2 => match us, ws, h1, h2 with | [_, _], [], _, _ => rfl) rfl, trivial⟩
theorem sh_9 : ShD d_9 (top 18, []) := fun K f fd F => ⟨shp_mk (n := 1) (ks := []) (ix := [0]) F (fun _ _ _ _ _ _ us ws h1 h2 => match us, ws, h1, h2 with | [_], [], _, _ => rfl) rfl, trivial⟩
theorem sh_10 : ShD d_10 (top 19, []) := fun K f fd F => ⟨shp_mk (n := 2) (ks := []) (ix := [0, 1]) F (fun _ _ _ _ _ _ us ws h1 h2 => match us, ws, h1, h2 with | [_, _], [], _, _ => rfl) rfl, trivial⟩
theorem sh_11 : ShD d_11 (top 20, []) := fun K f fd F => ⟨shp_mk (n := 2) (ks := []) (ix := [0, 1]) F (fun _ _ _ _ _ _ us ws h1 h2 => match us, ws, h1, h2 with | [_, _], [], _, _ => rfl) rfl, trivial⟩
theorem sh_12 : ShD d_12 (top 21, []) := fun K f fd F => ⟨shp_mk (n := 2) (ks := []) (ix := [0, 1]) F (fun _ _ _ _ _ _ us ws h1 h2 => match us, ws, h1, h2 with | [_, _], [], _, _ => rfl) rfl, trivial⟩
theorem sh_13 : ShD d_13 (top 23, []) := fun K f fd F => ⟨shp_mk (n := 1) (ks := []) (ix := [0]) F (fun _ _ _ _ _ _ us ws h1 h2 => match us, ws, h1, h2 with | [_], [], _, _ => rfl) rfl, trivial⟩
theorem sh_14 : ShD d_14 (top 24, []) := fun K f fd F => ⟨shp_mk (n := 1) (ks := []) (ix := [0]) F (fun _ _ _ _ _ _ us ws h1 h2 => match us, ws, h1, h2 with | [_], [], _, _ => rfl) rfl, trivial⟩
theorem sh_15 : ShD d_15 (top 26, []) := fun K f fd F => ⟨shp_mk (n := 1) (ks := []) (ix := [0]) F (fun _ _ _ _ _ _ us ws h1 h2 => match us, ws, h1, h2 with | [_], [], _, _ => rfl) rfl, trivial⟩
theorem sh_16 : ShD d_16 (top 27, []) := fun K f fd F => ⟨shp_mk (n := 1) (ks := []) (ix := [0]) F (fun _ _ _ _ _ _ us ws h1 h2 => match us, ws, h1, h2 with | [_], [], _, _ => rfl) rfl, trivial⟩
theorem sh_17 : ShD d_17 (top 28, []) := fun K f fd F => ⟨shp_mk (n := 2) (ks := []) (ix := [0, 1]) F (fun _ _ _ _ _ _ us ws h1 h2 => match us, ws, h1, h2 with | [_, _], [], _, _ => rfl) rfl, trivial⟩
theorem sh_18 : ShD d_18 (top 29, []) := fun K f fd F => ⟨shp_mk (n := 5) (ks := []) (ix := [0, 1, 2, 3, 4]) F (fun _ _ _ _ _ _ us ws h1 h2 => match us, ws, h1, h2 with | [_, _, _, _, _], [], _, _ => rfl) rfl, trivial⟩
theorem sh_19 : ShD d_19 (top 30, []) := fun K f fd F => ⟨shp_mk (n := 3) (ks := []) (ix := [0, 1, 2]) F (fun _ _ _ _ _ _ us ws h1 h2 => match us, ws, h1, h2 with | [_, _, _], [], _, _ => rfl) rfl, trivial⟩
theorem sh_20 : ShD d_20 (top 31, []) := fun K f fd F => ⟨shp_mk (n := 2) (ks := []) (ix := [0, 1]) F (fun _ _ _ _ _ _ us ws h1 h2 => match us, ws, h1, h2 with | [_, _], [], _, _ => rfl) rfl, shp_mk (n := 0) (ks := ["other", "one"]) (ix := [1, 0]) F (fun _ _ _ _ _ _ us ws h1 h2 => match us, ws, h1, h2 with | [], [_, _], _, _ => rfl) rfl, trivial⟩
theorem sh_21 : ShD d_21 (top 32, []) := fun K f fd F => ⟨shp_mk (n := 1) (ks := []) (ix := [0]) F (fun _ _ _ _ _ _ us ws h1 h2 => match us, ws, h1, h2 with | [_], [], _, _ => rfl) rfl, shp_mk (n := 0) (ks := ["store"]) (ix := [0]) F (fun _ _ _ _ _ _ us ws h1 h2 => match us, ws, h1, h2 with | [], [_], _, _ => rfl) rfl, trivial⟩
theorem sh_22 : ShD d_22 (top 34, []) := fun K f fd F => ⟨shp_mk (n := 1) (ks := []) (ix := [0]) F (fun _ _ _ _ _ _ us ws h1 h2 => match us, ws, h1, h2 with | [_], [], _, _ => rfl) rfl, trivial⟩
theorem sh_23 : ShD d_23 (top 35, []) := fun K f fd F => ⟨shp_mk (n := 5) (ks := []) (ix := [0, 1, 2, 3, 4]) F (fun _ _ _ _ _ _ us ws h1 h2 => match us, ws, h1, h2 with | [_, _, _, _, _], [], _, _ => rfl) rfl, trivial⟩
theorem sh_24 : ShD d_24 (top 36, []) := fun K f fd F => ⟨shp_mk (n := 3) (ks := []) (ix := [0, 1, 2]) F (fun _ _ _ _ _ _ us ws h1 h2 => match us, ws, h1, h2 with | [_, _, _], [], _, _ => rfl) rfl, trivial⟩
theorem sh_25 : ShD d_25 (top 37, []) := fun K f fd F => ⟨shp_mk (n := 2) (ks := []) (ix := [0, 1]) F (fun _ _ _ _ _ _ us ws h1 h2 => match us, ws, h1, h2 with | [_, _], [], _, _ => rfl) rfl, trivial⟩
theorem sh_26 : ShD d_26 (top 38, []) := fun K f fd F => ⟨shp_mk (n := 1) (ks := []) (ix := [0]) F (fun _ _ _ _ _ _ us ws h1 h2 => match us, ws, h1, h2 with | [_], [], _, _ => rfl) rfl, trivial⟩
theorem sh_27 : ShD d_27 (top 39, []) := fun K f fd F => ⟨shp_mk (n := 3) (ks := []) (ix := [0, 1, 2]) F (fun _ _ _ _ _ _ us ws h1 h2 => match us, ws, h1, h2 with | [_, _, _], [], _, _ => rfl) rfl, trivial⟩
theorem sh_28 : ShD d_28 (top 40, []) := fun K f fd F => ⟨shp_mk (n := 2) (ks := []) (ix := [0, 1]) F (fun _ _ _ _ _ _ us ws h1 h2 => match us, ws, h1, h2 with | [_, _], [], _, _ => rfl) rfl, trivial⟩
theorem sh_29 : ShD d_29 (top 41, []) := fun K f fd F => ⟨shp_mk (n := 2) (ks := []) (ix := [0, 1]) F (fun _ _ _ _ _ _ us ws h1 h2 => match us, ws, h1, h2 with | [_, _], [], _, _ => rfl) rfl, trivial⟩
theorem sh_30 : ShD d_30 (top 42, []) := fun K f fd F => ⟨shp_mk (n := 2) (ks := []) (ix := [0, 1]) F (fun _ _ _ _ _ _ us ws h1 h2 => match us, ws, h1, h2 with | [_, _], [], _, _ => rfl) rfl, trivial⟩
theorem sh_31 : ShD d_31 (top 43, []) := fun K f fd F => ⟨shp_mk (n := 2) (ks := []) (ix := [0, 1]) F (fun _ _ _ _ _ _ us ws h1 h2 => match us, ws, h1, h2 with | [_, _], [], _, _ => rfl) rfl, trivial⟩
theorem sh_32 : ShD d_32 (top 44, []) := fun K f fd F => ⟨shp_mk (n := 1) (ks := []) (ix := [0]) F (fun _ _ _ _ _ _ us ws h1 h2 => match us, ws, h1, h2 with | [_], [], _, _ => rfl) rfl, trivial⟩
theorem sh_33 : ShD d_33 (top 45, []) := fun K f fd F => ⟨shp_mk (n := 2) (ks := []) (ix := [0, 1]) F (fun _ _ _ _ _ _ us ws h1 h2 => match us, ws, h1, h2 with | [_, _], [], _, _ => rfl) rfl, trivial⟩
theorem sh_34 : ShD d_34 (top 46, []) := fun K f fd F => ⟨shp_mk (n := 1) (ks := []) (ix := [0]) F (fun _ _ _ _ _ _ us ws h1 h2 => match us, ws, h1, h2 with | [_], [], _, _ => rfl) rfl, trivial⟩
theorem sh_35 : ShD d_35 (top 47, []) := fun K f fd F => ⟨shp_mk (n := 2) (ks := []) (ix := [0, 1]) F (fun _ _ _ _ _ _ us ws h1 h2 => match us, ws, h1, h2 with | [_, _], [], _, _ => rfl) rfl, trivial⟩
theorem sh_36 : ShD d_36 (top 48, []) := fun K f fd F => ⟨shp_mk (n := 2) (ks := []) (ix := [0, 1]) F (fun _ _ _ _ _ _ us ws h1 h2 => match us, ws, h1, h2 with | [_, _], [], _, _ => rfl) rfl, trivial⟩
theorem sh_37 : ShD d_37 (top 49, []) := fun K f fd F => ⟨shp_mk (n := 1) (ks := []) (ix := [0]) F (fun _ _ _ _ _ _ us ws h1 h2 => match us, ws, h1, h2 with | [_], [], _, _ => rfl) rfl, trivial⟩
theorem shA : ShA pg.fs ts := ⟨sh_0, sh_1, sh_2, sh_3, sh_4, sh_5, sh_6, sh_7, sh_8, sh_9, sh_10, sh_11, sh_12, sh_13, sh_14, sh_15, sh_16, sh_17, sh_18, sh_19, sh_20, sh_21, sh_22, sh_23, sh_24, sh_25, sh_26, sh_27, sh_28, sh_29, sh_30, sh_31, sh_32, sh_33, sh_34, sh_35, sh_36, sh_37, trivial⟩
theorem chk : chkA pg pg.fs ts = true := by decide +kernel
def nm_0 : List PySem.Str := ["StoreError", "InvalidStore", "Unlike", "NONE", "ONE", "is_number", "divisor", "by_lowest", "plus", "minus", "times", "over"]
def nm_1 : List PySem.Str := ["total", "MOST_WIDE", "has_point", "at_point", "inner", "difference", "square", "is_store", "look_at_store", "places_of", "table_of", "ratio_of"]
def nm_2 : List PySem.Str := ["may_follow", "fits_of", "fit_of", "symmetries", "_law_table", "_law_goes", "_law_fits", "_law_ratio", "_law_shaped", "_law_moved_store", "_law_others", "_law_divisor"]
def nm_3 : List PySem.Str := ["_law_by", "_law_shuffled", "_law_spoilt", "_law_same", "_law_purse", "_law_draw", "_law_pick"]
def names : List PySem.Str := nm_0 ++ nm_1 ++ nm_2 ++ nm_3
abbrev R : PySem.W.OpenRow := PySem.W.OpenLaw.row PySem.Challenge.rw_nearerstill_k08_whole_shapes
abbrev hk : PySem.W.Hook := hookM 5 pg ts
def ob (s : PySem.W.SharedT) : AlM := obsM 5 pg ts (HandSHeadRun.getT s)
theorem ob_eq (s : PySem.W.SharedT) : ob s = hk.obs s.abs := obsM_eq (HandSHeadRun.getT_eq s)
theorem run_top (w : World) : HandSHeadRun.RunEq R (PySem.W.view R.prog [49]) hk ob 4000 names w := by
  intro os
  kernel_rfl
end K08


open PySem PySem.W PySem.Calls PyProof.Rows
theorem PySem.Challenge.cw_nearerstill_k08_whole_shapes_holds : PySem.Challenge.rw_nearerstill_k08_whole_shapes.Holds := by
  w_on; o_law
  refine HandSHeadRun.head_any (r := OpenLaw.row PySem.Challenge.rw_nearerstill_k08_whole_shapes) (q := view (OpenLaw.row PySem.Challenge.rw_nearerstill_k08_whole_shapes).prog [49]) (H := K08.hk) (ob := K08.ob) (M := 4000) (loose := K08.names) (d := HandSHeadRun.topDef (OpenLaw.row PySem.Challenge.rw_nearerstill_k08_whole_shapes).prog 49) (kwd := []) K08.ob_eq
    (by kernel_rfl) (fun s => by kernel_rfl) K08.run_top (by kernel_rfl) (by kernel_rfl) (by kernel_rfl) (by rfl) (by first | assumption | decide +kernel) (by decide +kernel) ⟨rfl, rfl, rfl, rfl, rfl, by decide +kernel⟩ ?hw ?hc
  case hw => w_witness2
  case hc =>
    exact MP.walk_mp (l := PySem.Challenge.rw_nearerstill_k08_whole_shapes) (n := 63) (k := 40) (x := "script") K08.pg K08.ts 37 K08.d_37 rfl (by decide +kernel) (by decide +kernel) (by kernel_rfl) (by decide) (by kernel_rfl) ⟨rfl, by decide, by decide⟩ K08.shA K08.chk
      (fun t K f fd e F s u => by
        cases e
        exact L2.FunD.bindsA (ps := ["script"]) F (fun _ _ _ _ _ _ us hl => match us, hl with | [_], _ => rfl) s [u] rfl) K08.pure_law


