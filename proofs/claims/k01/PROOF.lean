import PyProof.Rows.All
import Wide.All
import OpenK.AllK
import Wide.FinOn
import KE.KStateDown
import Lean
import HandS.ForMost
import HandS.Wide
import HandS.Zip
import HandS.Style
import HandS.IsInst
import PyProof.ReprRoads
import HandS.Defaults
import HandS.Ends
import HandS.Head0
import HandS.Head1
import HandS.Head2
import HandS.HeadEnd
import HandS.HeadHook1
import HandS.HeadHook2
import PySem.Challenge.RW_nearerstill_k01_whole_fractions
set_option Elab.async false
set_option linter.all false
set_option maxRecDepth 100000
/-! MP, part a: a small deterministic machine for a part of Python: values, heap of lists, expressions, statements. -/
namespace MP
open PySem

/-- a small value; a tuple is its items, a list is a number in the small heap, kls a list that is never written -/
inductive MV where
  | non | bl (b : Bool) | int (i : Int) | str (s : Str) | tup (xs : List MV) | lst (n : Nat) | kls (xs : List MV) | dct
abbrev MH := List (List MV)
abbrev Sl := List (Option MV)

/-- what a run ends in -/
inductive Re (α : Type) where
  | bad | exc (c : Nat) (v : MV) (M : MH) | ok (a : α) (M : MH)
def Re.bnd {α β : Type} (x : Re α) (f : α → MH → Re β) : Re β := match x with
  | .bad => .bad
  | .exc c v M => .exc c v M
  | .ok a M => f a M

/-- the most items of a list -/
def lim : Nat := 1000000

/-! ### data, for repr, ==, in -/
def pd : Nat → MH → MV → Option PyData
  | 0, _, _ => none
  | n + 1, M, v => match v with
    | .non => some .none
    | .bl b => some (.bool b)
    | .int i => some (.int i)
    | .str s => some (.str s)
    | .tup xs => (xs.mapM (pd n M)).map .tuple
    | .kls xs => (xs.mapM (pd n M)).map .list
    | .lst k => match M[k]? with
      | some xs => (xs.mapM (pd n M)).map .list
      | none => none
    | .dct => none
def pdDepth : Nat := 30

/-- the items of a list value -/
def itemsL (M : MH) : MV → Option (List MV)
  | .lst n => M[n]?
  | .kls xs => some xs
  | _ => none
def itemsT : MV → Option (List MV)
  | .tup xs => some xs
  | _ => none
def newL (xs : List MV) (M : MH) : Re MV := .ok (.lst M.length) (M ++ [xs])

def b2 (b : Bool) (M : MH) : Re MV := .ok (.bl b) M

/-! ### operators -/
inductive BOp | add | sub | mul | fdv | mod | pow
inductive COp | eq | ne | lt | le | gt | ge | is | isn | inn | nin
inductive Ty | int | bool | str | list | tuple | dict
  deriving DecidableEq
inductive Bt | len | abs | int | str | repr | all | sum | list | tuple | max | min
inductive Mt | append | pop

def binop (o : BOp) (u v : MV) (M : MH) : Re MV := match o, u, v with
  | .add, .int i, .int j => .ok (.int (i + j)) M
  | .add, .lst a, .lst b => match M[a]?, M[b]? with
    | some xs, some ys => if xs.length + ys.length ≤ lim then newL (xs ++ ys) M else .bad
    | _, _ => .bad
  | .add, .str a, .str b => if a.length + b.length ≤ lim then .ok (.str (a ++ b)) M else .bad
  | .sub, .int i, .int j => .ok (.int (i - j)) M
  | .mul, .int i, .int j => if i.natAbs.log2 + j.natAbs.log2 < 1000000 then .ok (.int (i * j)) M else .bad
  | .mul, .lst a, .int j => match M[a]? with
    | some xs => if -1000 ≤ j ∧ j ≤ 1000 ∧ xs.length * j.toNat ≤ lim then newL (List.replicate j.toNat xs).flatten M else .bad
    | none => .bad
  | .fdv, .int i, .int j => if j ≠ 0 ∧ j.natAbs.log2 < 9000 then .ok (.int (i.fdiv j)) M else .bad
  | .mod, .int i, .int j => if j ≠ 0 then .ok (.int (i.fmod j)) M else .bad
  | .pow, .int i, .int j => if 0 ≤ j ∧ j ≤ 1000 ∧ i.natAbs < 2 ^ 64 then .ok (.int (i ^ j.toNat)) M else .bad
  | _, _, _ => .bad

/-- x == y -/
def eqM (M : MH) (u v : MV) : Option Bool := match u, v with
  | .int i, .int j => some (i == j)
  | .str a, .str b => some (decide (a = b))
  | _, _ => match pd pdDepth M u, pd pdDepth M v with
    | some d, some e => if SeqAt.shaped d = true ∧ SeqAt.shaped e = true then some (PyData.eqv d e) else none
    | _, _ => none

def isM (u v : MV) : Option Bool := match u, v with
  | .non, .non => some true
  | .bl a, .bl b => some (a == b)
  | .non, .bl _ => some false
  | .bl _, .non => some false
  | .int _, .bl _ => some false
  | .str _, .bl _ => some false
  | .tup _, .bl _ => some false
  | .lst _, .bl _ => some false
  | .kls _, .bl _ => some false
  | .dct, .bl _ => some false
  | .int _, .non => some false
  | .str _, .non => some false
  | .tup _, .non => some false
  | .lst _, .non => some false
  | .kls _, .non => some false
  | .dct, .non => some false
  | _, _ => none

def ofO (M : MH) (o : Option Bool) : Re MV := match o with
  | some b => .ok (.bl b) M
  | none => .bad
def cmpop (o : COp) (u v : MV) (M : MH) : Re MV := match o with
  | .eq => ofO M (eqM M u v)
  | .ne => ofO M ((eqM M u v).map (!·))
  | .lt => match u, v with
    | .int i, .int j => b2 (decide (i < j)) M
    | _, _ => .bad
  | .le => match u, v with
    | .int i, .int j => b2 (decide (i ≤ j)) M
    | _, _ => .bad
  | .gt => match u, v with
    | .int i, .int j => b2 (decide (j < i)) M
    | _, _ => .bad
  | .ge => match u, v with
    | .int i, .int j => b2 (decide (j ≤ i)) M
    | _, _ => .bad
  | .is => ofO M (isM u v)
  | .isn => ofO M ((isM u v).map (!·))
  | .inn => .bad
  | .nin => .bad

def tyOfM : MV → Option Ty
  | .non => none
  | .bl _ => some .bool
  | .int _ => some .int
  | .str _ => some .str
  | .tup _ => some .tuple
  | .lst _ => some .list
  | .kls _ => some .list
  | .dct => some .dict
/-- isinstance(v, (t, ..)) -/
def isiM (v : MV) (ts : List Ty) : Bool := match tyOfM v with
  | none => false
  | some t => ts.any fun c => c == t || (c == .int && t == .bool)

/-- x[i] -/
def idxop (u v : MV) (M : MH) : Re MV := match v with
  | .int i => match u with
    | .tup xs => match L2.atI xs i with
      | some x => .ok x M
      | none => .bad
    | _ => match itemsL M u with
      | some xs => match L2.atI xs i with
        | some x => .ok x M
        | none => .bad
      | none => .bad
  | _ => .bad
def cutM (xs : List MV) (lo hi : Option Int) : List MV := (xs.drop (HT.sIx xs.length 0 lo)).take (HT.sIx xs.length xs.length hi - HT.sIx xs.length 0 lo)
def slcop (u : MV) (lo hi : Option Int) (M : MH) : Re MV := match itemsL M u with
  | some xs => newL (cutM xs lo hi) M
  | none => .bad
def asBnd (v : MV) (M : MH) : Re (Option Int) := match v with
  | .int i => .ok (some i) M
  | _ => .bad
def revop (u : MV) (M : MH) : Re MV := match itemsL M u with
  | some xs => newL xs.reverse M
  | none => .bad

def lenM (M : MH) : MV → Option Nat
  | .tup xs => some xs.length
  | .lst n => (M[n]?).map List.length
  | .kls xs => some xs.length
  | .str s => if s.length ≤ lim then some s.length else none
  | _ => none
def boolsOf : List MV → Option (List Bool)
  | [] => some []
  | .bl b :: r => (boolsOf r).map (b :: ·)
  | _ :: _ => none
def intsOf : List MV → Option (List Int)
  | [] => some []
  | .int b :: r => (intsOf r).map (b :: ·)
  | _ :: _ => none
def reprM (M : MH) (v : MV) : Option Str := match v with
  | .dct => some "{}"
  | _ => match pd pdDepth M v with
    | some d => if d.showable = true ∧ d.hasDict = false ∧ d.depth ≤ 100 ∧ d.shown.length ≤ sizeLine then some d.shown else none
    | none => none

def btop (b : Bt) (vs : List MV) (M : MH) : Re MV := match b, vs with
  | .len, [v] => match lenM M v with
    | some n => .ok (.int n) M
    | none => .bad
  | .abs, [.int i] => .ok (.int (if i < 0 then -i else i)) M
  | .int, [.int i] => .ok (.int i) M
  | .int, [.bl k] => .ok (.int (if k then 1 else 0)) M
  | .str, [.int i] => if i.natAbs.log2 < 1920 then .ok (.str (toString i)) M else .bad
  | .repr, [v] => match reprM M v with
    | some x => .ok (.str x) M
    | none => .bad
  | .all, [v] => match (itemsL M v).bind boolsOf with
    | some bs => .ok (.bl (bs.all id)) M
    | none => .bad
  | .sum, [v] => match (itemsL M v).bind intsOf with
    | some ns => .ok (.int ns.sum) M
    | none => .bad
  | _, _ => .bad

def mtop (b : Mt) (u : MV) (vs : List MV) (M : MH) : Re MV := match b, u, vs with
  | .append, .lst n, [v] => match M[n]? with
    | some xs => if xs.length < lim then .ok .non (M.set n (xs ++ [v])) else .bad
    | none => .bad
  | .pop, .lst n, [] => match M[n]? with
    | some xs => match xs[xs.length - 1]? with
      | some y => .ok y (M.set n xs.dropLast)
      | none => .bad
    | none => .bad
  | _, _, _ => .bad

/-! ### the text -/
inductive Tg | nm (i : Nat) | tp (is : List Nat)
/-- a parameter's value: the i-th written one, or a default -/
inductive Ar | at (i : Nat) | df (v : MV)
mutual
inductive E where
  | var (i : Nat) | cst (v : MV) | glo (k : Nat) | dnw
  | bin (o : BOp) (a b : E) | cmp (o : COp) (a b : E) | chn (o p : COp) (a b c : E)
  | and (a b : E) | or (a b : E) | not (a : E) | neg (a : E) | ife (c a b : E)
  | idx (a i : E) | slc (a : E) (lo hi : Option E) | rev (a : E)
  | tup (es : Es) | lst (es : Es)
  | cal (f sh : Nat) (es ks : Es)
  | blt (b : Bt) (es : Es) | isi (a : E) (ts : List Ty) (many : Bool)
  | mth (m : Mt) (a : E) (es : Es)
  | com (t : Tg) (it : It) (c : Option E) (e : E)
inductive Es where
  | nil | cons (e : E) (es : Es)
inductive It where
  | seq (e : E) | rg1 (a : E) | rg2 (a b : E) | zip (a b : E) | enu (a : E)
end
mutual
inductive S where
  | exp (e : E) | asg (t : Tg) (e : E) | put (a i e : E) | aug (i : Nat) (o : BOp) (e : E) | agi (a i : E) (o : BOp) (e : E)
  | iff (c : E) (a b : Ss) | whl (c : E) (b : Ss) | for (t : Tg) (it : It) (b : Ss)
  | ret (e : E) | rtn | brk | cnt | pas | rai (c : Nat) (e : E)
inductive Ss where
  | nil | cons (s : S) (ss : Ss)
end

/-! ### running -/
structure Cf where
  call : Nat → List MV → MH → Re MV
  glo : Nat → Option MV
  arr : Nat → Nat → Option (List Ar)
  most : Nat
def argAt (vs : List MV) : Ar → Option MV
  | .at i => vs[i]?
  | .df v => some v

/-- what is walked -/
inductive Src where
  | ls (v : MV) | tp (xs : List MV) | rg (lo : Int) (n : Nat) | zl (u v : MV) | zt (xs ys : List MV) | en (v : MV)
def Src.stop (M : MH) (i : Nat) : Src → Bool
  | .ls v => match itemsL M v with
    | some xs => decide (xs.length ≤ i)
    | none => false
  | .tp xs => decide (xs.length ≤ i)
  | .rg _ n => decide (n ≤ i)
  | .zl u v => match itemsL M u, itemsL M v with
    | some xs, some ys => decide (xs.length ≤ i) || decide (ys.length ≤ i)
    | _, _ => false
  | .zt xs ys => decide (xs.length ≤ i) || decide (ys.length ≤ i)
  | .en v => match itemsL M v with
    | some xs => decide (xs.length ≤ i)
    | none => false
def Src.item (M : MH) (i : Nat) : Src → Option MV
  | .ls v => (itemsL M v).bind (·[i]?)
  | .tp xs => xs[i]?
  | .rg lo n => if i < n then some (.int (lo + i)) else none
  | .zl u v => match (itemsL M u).bind (·[i]?), (itemsL M v).bind (·[i]?) with
    | some x, some y => some (.tup [x, y])
    | _, _ => none
  | .zt xs ys => match xs[i]?, ys[i]? with
    | some x, some y => some (.tup [x, y])
    | _, _ => none
  | .en v => match (itemsL M v).bind (·[i]?) with
    | some x => some (.tup [.int i, x])
    | _ => none
def srcOf (M : MH) (v : MV) : Option Src := match v with
  | .tup xs => some (.tp xs)
  | _ => (itemsL M v).map fun _ => .ls v
def zipOf (M : MH) (u v : MV) : Option Src := match u, v with
  | .tup xs, .tup ys => some (.zt xs ys)
  | _, _ => match itemsL M u, itemsL M v with
    | some _, some _ => some (.zl u v)
    | _, _ => none
def setAll : List Nat → List MV → Sl → Option Sl
  | [], [], m => some m
  | i :: is, v :: vs, m => setAll is vs (m.set i (some v))
  | _, _, _ => none
def Tg.set (t : Tg) (v : MV) (m : Sl) : Option Sl := match t with
  | .nm i => some (m.set i (some v))
  | .tp is => match v with
    | .tup xs => setAll is xs m
    | _ => none
def Tg.own : Tg → List Nat
  | .nm i => [i]
  | .tp is => is
/-- slots forgotten -/
def wip (m : Sl) : List Nat → Sl
  | [] => m
  | i :: is => (wip m is).set i none

/-- a comprehension's turns -/
def comL (s : Src) (f : MV → MH → Re (Option MV)) : Nat → Nat → List MV → MH → Re (List MV)
  | 0, _, _, _ => .bad
  | k + 1, i, acc, M => if s.stop M i = true then .ok acc M else match s.item M i with
    | none => .bad
    | some x => (f x M).bnd fun o M' => match o with
      | none => comL s f k (i + 1) acc M'
      | some y => if acc.length < lim then comL s f k (i + 1) (acc ++ [y]) M' else .bad
/-- exceptions don't pass -/
def Re.nox {α : Type} (x : Re α) : Re α := match x with
  | .ok a M => .ok a M
  | _ => .bad

mutual
def ev (C : Cf) : E → Sl → MH → Re MV
  | .var i, m, M => match m[i]? with
    | some (some v) => .ok v M
    | _ => .bad
  | .cst v, _, M => .ok v M
  | .glo k, _, M => match C.glo k with
    | some v => .ok v M
    | none => .bad
  | .dnw, _, M => .ok .dct M
  | .bin o a b, m, M => (ev C a m M).bnd fun u M1 => (ev C b m M1).bnd fun v M2 => binop o u v M2
  | .cmp o a b, m, M => (ev C a m M).bnd fun u M1 => (ev C b m M1).bnd fun v M2 => cmpop o u v M2
  | .chn o p a b c, m, M => (ev C a m M).bnd fun u M1 => (ev C b m M1).bnd fun v M2 => (cmpop o u v M2).bnd fun x M3 => match x with
    | .bl true => (ev C c m M3).bnd fun z M4 => cmpop p v z M4
    | .bl false => .ok (.bl false) M3
    | _ => .bad
  | .and a b, m, M => (ev C a m M).bnd fun u M1 => match u with
    | .bl true => ev C b m M1
    | .bl false => .ok (.bl false) M1
    | _ => .bad
  | .or a b, m, M => (ev C a m M).bnd fun u M1 => match u with
    | .bl false => ev C b m M1
    | .bl true => .ok (.bl true) M1
    | _ => .bad
  | .not a, m, M => (ev C a m M).bnd fun u M1 => match u with
    | .bl b => .ok (.bl (!b)) M1
    | _ => .bad
  | .neg a, m, M => (ev C a m M).bnd fun u M1 => match u with
    | .int i => .ok (.int (-i)) M1
    | _ => .bad
  | .ife c a b, m, M => (ev C c m M).bnd fun u M1 => match u with
    | .bl true => ev C a m M1
    | .bl false => ev C b m M1
    | _ => .bad
  | .idx a i, m, M => (ev C a m M).bnd fun u M1 => (ev C i m M1).bnd fun v M2 => idxop u v M2
  | .slc a lo hi, m, M => (ev C a m M).bnd fun u M1 =>
    (match lo with
      | none => Re.ok none M1
      | some l => (ev C l m M1).bnd asBnd).bnd fun v M2 =>
    (match hi with
      | none => Re.ok none M2
      | some l => (ev C l m M2).bnd asBnd).bnd fun x M3 => slcop u v x M3
  | .rev a, m, M => (ev C a m M).bnd fun u M1 => revop u M1
  | .tup es, m, M => (evs C es m M).bnd fun vs M1 => .ok (.tup vs) M1
  | .lst es, m, M => (evs C es m M).bnd fun vs M1 => newL vs M1
  | .cal f sh es ks, m, M => (evs C es m M).bnd fun vs M1 => (evs C ks m M1).bnd fun ws M2 => match C.arr f sh with
    | some ar => match ar.mapM (argAt (vs ++ ws)) with
      | some args => C.call f args M2
      | none => .bad
    | none => .bad
  | .blt b es, m, M => (evs C es m M).bnd fun vs M1 => btop b vs M1
  | .isi a ts _, m, M => (ev C a m M).bnd fun u M1 => .ok (.bl (isiM u ts)) M1
  | .mth b a es, m, M => (ev C a m M).bnd fun u M1 => (evs C es m M1).bnd fun vs M2 => mtop b u vs M2
  | .com t it c e, m, M => (evI C it m M).bnd fun s M1 =>
    (comL s (fun x M => match t.set x (wip m t.own) with
      | none => .bad
      | some m' => match c with
        | none => ((ev C e m' M).nox).bnd fun y M' => .ok (some y) M'
        | some c => ((ev C c m' M).nox).bnd fun k M' => match k with
          | .bl true => ((ev C e m' M').nox).bnd fun y M'' => .ok (some y) M''
          | .bl false => .ok none M'
          | _ => .bad) C.most 0 [] M1).bnd fun ys M2 => newL ys M2
def evs (C : Cf) : Es → Sl → MH → Re (List MV)
  | .nil, _, M => .ok [] M
  | .cons e es, m, M => (ev C e m M).bnd fun v M1 => (evs C es m M1).bnd fun vs M2 => .ok (v :: vs) M2
def evI (C : Cf) : It → Sl → MH → Re Src
  | .seq e, m, M => (ev C e m M).bnd fun v M1 => match srcOf M1 v with
    | some s => .ok s M1
    | none => .bad
  | .rg1 a, m, M => (ev C a m M).bnd fun v M1 => match v with
    | .int j => if -1000000 ≤ j ∧ j ≤ 1000000 then .ok (.rg 0 j.toNat) M1 else .bad
    | _ => .bad
  | .rg2 a b, m, M => (ev C a m M).bnd fun u M1 => (ev C b m M1).bnd fun v M2 => match u, v with
    | .int i, .int j => if -1000000 ≤ i ∧ i ≤ 1000000 ∧ -1000000 ≤ j ∧ j ≤ 1000000 then .ok (.rg i (j - i).toNat) M2 else .bad
    | _, _ => .bad
  | .zip a b, m, M => (ev C a m M).bnd fun u M1 => (ev C b m M1).bnd fun v M2 => match zipOf M2 u v with
    | some s => .ok s M2
    | none => .bad
  | .enu a, m, M => (ev C a m M).bnd fun v M1 => match itemsL M1 v with
    | some _ => .ok (.en v) M1
    | none => .bad
end

/-- how a statement ends -/
inductive Fl | nx | bk | cn | rt (v : MV)
def forL (s : Src) (f : MV → Sl → MH → Re (Fl × Sl)) : Nat → Nat → Sl → MH → Re (Fl × Sl)
  | 0, _, _, _ => .bad
  | k + 1, i, m, M => if s.stop M i = true then .ok (.nx, m) M else match s.item M i with
    | none => .bad
    | some x => (f x m M).bnd fun p M' => match p.1 with
      | .nx => forL s f k (i + 1) p.2 M'
      | .cn => forL s f k (i + 1) p.2 M'
      | .bk => .ok (.nx, p.2) M'
      | .rt v => .ok (.rt v, p.2) M'
def whlL (c : Sl → MH → Re MV) (f : Sl → MH → Re (Fl × Sl)) : Nat → Sl → MH → Re (Fl × Sl)
  | 0, _, _ => .bad
  | k + 1, m, M => (c m M).bnd fun u M1 => match u with
    | .bl false => .ok (.nx, m) M1
    | .bl true => (f m M1).bnd fun p M' => match p.1 with
      | .nx => whlL c f k p.2 M'
      | .cn => whlL c f k p.2 M'
      | .bk => .ok (.nx, p.2) M'
      | .rt v => .ok (.rt v, p.2) M'
    | _ => .bad
/-- x[i] = v -/
def putop (u i v : MV) (M : MH) : Re Unit := match u, i with
  | .lst n, .int k => match M[n]? with
    | some xs => match L2.ixN xs.length k with
      | some j => .ok () (M.set n (xs.set j v))
      | none => .bad
    | none => .bad
  | _, _ => .bad
/-- x[i] ahead of x[i] op= v -/
def getop (u i : MV) (M : MH) : Re MV := match u, i with
  | .lst n, .int k => match M[n]? with
    | some xs => if 0 ≤ k ∧ k < 1000000 then match xs[k.toNat]? with
        | some x => .ok x M
        | none => .bad
      else .bad
    | none => .bad
  | _, _ => .bad
/-- x op= v of ints -/
def augop (o : BOp) (u v : MV) (M : MH) : Re MV := match o, u, v with
  | .add, .int i, .int j => .ok (.int (i + j)) M
  | .sub, .int i, .int j => .ok (.int (i - j)) M
  | _, _, _ => .bad

mutual
def ex (C : Cf) : S → Sl → MH → Re (Fl × Sl)
  | .exp e, m, M => (ev C e m M).bnd fun _ M1 => .ok (.nx, m) M1
  | .asg t e, m, M => (ev C e m M).bnd fun v M1 => match t.set v m with
    | some m' => .ok (.nx, m') M1
    | none => .bad
  | .put a i e, m, M => (ev C e m M).bnd fun v M1 => (ev C a m M1).bnd fun u M2 => (ev C i m M2).bnd fun k M3 => (putop u k v M3).bnd fun _ M4 => .ok (.nx, m) M4
  | .aug i o e, m, M => match m[i]? with
    | some (some u) => (ev C e m M).bnd fun v M1 => (augop o u v M1).bnd fun w M2 => .ok (.nx, m.set i (some w)) M2
    | _ => .bad
  | .agi a i o e, m, M => (ev C a m M).bnd fun u M1 => (ev C i m M1).bnd fun k M2 => (getop u k M2).bnd fun x M3 => (ev C e m M3).bnd fun v M4 => (augop o x v M4).bnd fun z M5 =>
    (putop u k z M5).bnd fun _ M6 => .ok (.nx, m) M6
  | .iff c a b, m, M => (ev C c m M).bnd fun u M1 => match u with
    | .bl true => exs C a m M1
    | .bl false => exs C b m M1
    | _ => .bad
  | .whl c b, m, M => whlL (fun m M => ev C c m M) (fun m M => exs C b m M) C.most m M
  | .for t it b, m, M => (evI C it m M).bnd fun s M1 => forL s (fun x m M => match t.set x m with
      | some m' => exs C b m' M
      | none => .bad) C.most 0 m M1
  | .ret e, m, M => (ev C e m M).bnd fun v M1 => .ok (.rt v, m) M1
  | .rtn, m, M => .ok (.rt .non, m) M
  | .brk, m, M => .ok (.bk, m) M
  | .cnt, m, M => .ok (.cn, m) M
  | .pas, m, M => .ok (.nx, m) M
  | .rai c e, m, M => (ev C e m M).bnd fun v M1 => .exc c v M1
def exs (C : Cf) : Ss → Sl → MH → Re (Fl × Sl)
  | .nil, m, M => .ok (.nx, m) M
  | .cons s ss, m, M => (ex C s m M).bnd fun p M1 => match p.1 with
    | .nx => exs C ss p.2 M1
    | f => .ok (f, p.2) M1
end

/-- a def: its name, its slots' names (parameters first), how many parameters, its body, how it is called (values by place, names of keywords, what each parameter gets) -/
structure Fd where
  name : Str
  N : List Str
  np : Nat
  body : Ss
  shapes : List (Nat × List Str × List Ar)
structure Pg where
  fs : List Fd
  cs : List (Str × MV)
  most : Nat
/-- the def f called with so many calls one in another -/
def run (P : Pg) : Nat → Nat → List MV → MH → Re MV
  | 0, _, _, _ => .bad
  | n + 1, f, args, M => match P.fs[f]? with
    | none => .bad
    | some d => if args.length = d.np then
        (exs { call := run P n, glo := fun k => (P.cs[k]?).map (·.2), arr := fun g sh => (P.fs[g]?).bind fun e => (e.shapes[sh]?).map (·.2.2), most := P.most } d.body (args.map some ++ List.replicate (d.N.length - d.np) none) M).bnd fun p M1 => match p.1 with
          | .nx => .ok .non M1
          | .rt v => .ok v M1
          | _ => .bad
      else .bad
end MP

set_option Elab.async false
set_option linter.all false
set_option maxRecDepth 100000
set_option autoImplicit false
set_option maxHeartbeats 1000000
/-! MP, part b: how the small machine's values and heap lie in the layer's heap; the operators' rules. -/
namespace MP
open PySem PySem.Spec PyProof.Rows L2

/-- a list that is never written: locked, or of the written part -/
def KL (K : PySem.W.Frag) (H : Hp) (a : Addr) (vs : List V) : Prop :=
  (∃ o, H a = some (.frz o (.lst vs))) ∨
    ∃ (o : Obj) (its : Array Value) (n : Nat), K.lookup a = some o ∧ o.cls = .type "list" ∧ o.dict = none ∧ o.data = .seq its n ∧ its.size ≤ sizeLine ∧ Vals vs its.toList
theorem KL.sq {K : PySem.W.Frag} {H : Hp} {a : Addr} {vs : List V} (h : KL K H a vs) : SqL K H a vs := by
  rcases h with ⟨o, h⟩ | h
  · exact .inl (.inr ⟨o, h⟩)
  · exact .inr h

mutual
inductive VR (K : PySem.W.Frag) (ρ : List Addr) (H : Hp) : MV → V → Prop
  | non : VR K ρ H .non .non
  | bl (b : Bool) : VR K ρ H (.bl b) (.bl b)
  | int (i : Int) : VR K ρ H (.int i) (.int i)
  | str (x : Str) : VR K ρ H (.str x) (.str x)
  | tup {a : Addr} {us : List MV} {vs : List V} : SqT K H a vs → VRs K ρ H us vs → VR K ρ H (.tup us) (.ref a)
  | lst {n : Nat} {a : Addr} : ρ[n]? = some a → VR K ρ H (.lst n) (.ref a)
  | kls {a : Addr} {us : List MV} {vs : List V} : KL K H a vs → VRs K ρ H us vs → VR K ρ H (.kls us) (.ref a)
  | dct {a : Addr} : H a = some (.dK []) → VR K ρ H .dct (.ref a)
inductive VRs (K : PySem.W.Frag) (ρ : List Addr) (H : Hp) : List MV → List V → Prop
  | nil : VRs K ρ H [] []
  | cons {u : MV} {us : List MV} {v : V} {vs : List V} : VR K ρ H u v → VRs K ρ H us vs → VRs K ρ H (u :: us) (v :: vs)
end

/-- the small heap in the layer's: the list n lies at ρ[n] -/
structure HR (K : PySem.W.Frag) (ρ : List Addr) (M : MH) (H : Hp) : Prop where
  nd : ρ.Nodup
  len : ρ.length = M.length
  lies : ∀ (n : Nat) (us : List MV), M[n]? = some us → ∃ (a : Addr) (vs : List V), ρ[n]? = some a ∧ H a = some (.lst vs) ∧ VRs K ρ H us vs
/-- what a run may change: the lists of ρ; new ones come behind -/
structure Pst (ρ : List Addr) (H : Hp) (ρ' : List Addr) (H' : Hp) : Prop where
  pre : ∃ τ, ρ' = ρ ++ τ
  keep : ∀ a o, a ∉ ρ → H a = some o → H' a = some o
  fresh : ∀ a, a ∈ ρ' → a ∉ ρ → H a = none

section
variable {K : PySem.W.Frag} {ρ ρ' ρ1 ρ2 : List Addr} {M M' : MH} {H H' H1 H2 : Hp} {u : MV} {v : V} {us ws : List MV} {vs : List V}
theorem Pst.refl : Pst ρ H ρ H := ⟨⟨[], (List.append_nil ρ).symm⟩, fun _ _ _ h => h, fun a h1 h2 => absurd h1 h2⟩
theorem Pst.trans (p : Pst ρ H ρ1 H1) (q : Pst ρ1 H1 ρ2 H2) : Pst ρ H ρ2 H2 := by
  obtain ⟨τ, e1⟩ := p.pre
  obtain ⟨τ', e2⟩ := q.pre
  refine ⟨⟨τ ++ τ', by rw [e2, e1, List.append_assoc]⟩, fun a o ha h => ?_, fun a h1 h2 => ?_⟩
  · refine q.keep a o (fun z => ?_) (p.keep a o ha h)
    have := p.fresh a z ha
    rw [h] at this
    cases this
  · by_cases z : a ∈ ρ1
    · exact p.fresh a z h2
    · have e := q.fresh a h1 z
      cases h : H a with
      | none => rfl
      | some o =>
        have w := p.keep a o h2 h
        rw [e] at w
        cases w
theorem Pst.get (p : Pst ρ H ρ' H') {n : Nat} {a : Addr} (h : ρ[n]? = some a) : ρ'[n]? = some a := by
  obtain ⟨τ, e⟩ := p.pre
  rw [e, List.getElem?_append_left (List.getElem?_eq_some_iff.mp h).1]
  exact h
theorem HR.mem (h : HR K ρ M H) {a : Addr} (ha : a ∈ ρ) : ∃ vs, H a = some (.lst vs) := by
  obtain ⟨n, hn, e⟩ := List.mem_iff_getElem.mp ha
  have hm : n < M.length := h.len ▸ hn
  obtain ⟨b, vs, e1, e2, _⟩ := h.lies n M[n] (List.getElem?_eq_getElem hm)
  rw [List.getElem?_eq_getElem hn, e] at e1
  cases e1
  exact ⟨vs, e2⟩
theorem HR.out (h : HR K ρ M H) {a : Addr} {o : HO} (e : H a = some o) (n : ∀ vs, o ≠ .lst vs) : a ∉ ρ := fun z => by
  obtain ⟨vs, e2⟩ := h.mem z
  rw [e] at e2
  cases e2
  exact n vs rfl
theorem HR.sqt (h : HR K ρ M H) (p : Pst ρ H ρ' H') {a : Addr} (s : SqT K H a vs) : SqT K H' a vs := by
  rcases s with (s | ⟨o, s⟩) | s
  · exact .inl (.inl (p.keep _ _ (h.out s fun _ z => nomatch z) s))
  · exact .inl (.inr ⟨o, p.keep _ _ (h.out s fun _ z => nomatch z) s⟩)
  · exact .inr s
theorem HR.kl (h : HR K ρ M H) (p : Pst ρ H ρ' H') {a : Addr} (s : KL K H a vs) : KL K H' a vs := by
  rcases s with ⟨o, s⟩ | s
  · exact .inl ⟨o, p.keep _ _ (h.out s fun _ z => nomatch z) s⟩
  · exact .inr s
mutual
theorem VR.mono (h : HR K ρ M H) (p : Pst ρ H ρ' H') : ∀ (u : MV) (v : V), VR K ρ H u v → VR K ρ' H' u v
  | _, _, .non => .non
  | _, _, .bl b => .bl b
  | _, _, .int i => .int i
  | _, _, .str x => .str x
  | _, _, .tup s r => .tup (h.sqt p s) (VRs.mono h p _ _ r)
  | _, _, .lst e => .lst (p.get e)
  | _, _, .kls s r => .kls (h.kl p s) (VRs.mono h p _ _ r)
  | _, _, .dct e => .dct (p.keep _ _ (h.out e fun _ z => nomatch z) e)
theorem VRs.mono (h : HR K ρ M H) (p : Pst ρ H ρ' H') : ∀ (us : List MV) (vs : List V), VRs K ρ H us vs → VRs K ρ' H' us vs
  | _, _, .nil => .nil
  | _, _, .cons r t => .cons (VR.mono h p _ _ r) (VRs.mono h p _ _ t)
end
theorem VR.mo (h : HR K ρ M H) (p : Pst ρ H ρ' H') (r : VR K ρ H u v) : VR K ρ' H' u v := VR.mono h p _ _ r
theorem VRs.mo (h : HR K ρ M H) (p : Pst ρ H ρ' H') (r : VRs K ρ H us vs) : VRs K ρ' H' us vs := VRs.mono h p _ _ r
theorem VRs.length : ∀ {us : List MV} {vs : List V}, VRs K ρ H us vs → us.length = vs.length
  | _, _, .nil => rfl
  | _, _, .cons _ t => congrArg Nat.succ (VRs.length t)
theorem VRs.get : ∀ {us : List MV} {vs : List V} {i : Nat} {u : MV}, VRs K ρ H us vs → us[i]? = some u → ∃ v, vs[i]? = some v ∧ VR K ρ H u v
  | _, _, _, _, .nil, e => by simp at e
  | _, _, 0, _, .cons r _, e => by simp at e; subst e; exact ⟨_, rfl, r⟩
  | _, _, i + 1, u, .cons _ t, e => by
    obtain ⟨v, h1, h2⟩ := VRs.get (i := i) (u := u) t (by simpa using e)
    exact ⟨v, by simpa using h1, h2⟩
theorem VRs.getV : ∀ {us : List MV} {vs : List V} {i : Nat} {v : V}, VRs K ρ H us vs → vs[i]? = some v → ∃ u, us[i]? = some u ∧ VR K ρ H u v
  | _, _, _, _, .nil, e => by simp at e
  | _, _, 0, _, .cons r _, e => by simp at e; subst e; exact ⟨_, rfl, r⟩
  | _, _, i + 1, v, .cons _ t, e => by
    obtain ⟨u, h1, h2⟩ := VRs.getV (i := i) (v := v) t (by simpa using e)
    exact ⟨u, by simpa using h1, h2⟩
theorem VRs.app : ∀ {us us' : List MV} {vs vs' : List V}, VRs K ρ H us vs → VRs K ρ H us' vs' → VRs K ρ H (us ++ us') (vs ++ vs')
  | _, _, _, _, .nil, s => s
  | _, _, _, _, .cons r t, s => .cons r (VRs.app t s)
theorem VRs.take : ∀ {us : List MV} {vs : List V} (n : Nat), VRs K ρ H us vs → VRs K ρ H (us.take n) (vs.take n)
  | _, _, 0, _ => .nil
  | _, _, _ + 1, .nil => .nil
  | _, _, n + 1, .cons r t => .cons r (VRs.take n t)
theorem VRs.drop : ∀ {us : List MV} {vs : List V} (n : Nat), VRs K ρ H us vs → VRs K ρ H (us.drop n) (vs.drop n)
  | _, _, 0, r => r
  | _, _, _ + 1, .nil => .nil
  | _, _, n + 1, .cons _ t => VRs.drop n t
theorem VRs.set {u : MV} {v : V} (r : VR K ρ H u v) : ∀ {us : List MV} {vs : List V} (i : Nat), VRs K ρ H us vs → VRs K ρ H (us.set i u) (vs.set i v)
  | _, _, _, .nil => .nil
  | _, _, 0, .cons _ t => .cons r t
  | _, _, i + 1, .cons q t => .cons q (VRs.set r i t)
theorem VRs.reverse : ∀ {us : List MV} {vs : List V}, VRs K ρ H us vs → VRs K ρ H us.reverse vs.reverse
  | _, _, .nil => .nil
  | _, _, .cons r t => by
    rw [List.reverse_cons, List.reverse_cons]
    exact (VRs.reverse t).app (.cons r .nil)
theorem VRs.dropLast : ∀ {us : List MV} {vs : List V}, VRs K ρ H us vs → VRs K ρ H us.dropLast vs.dropLast := fun {us vs} r => by
  rw [List.dropLast_eq_take, List.dropLast_eq_take, r.length]
  exact r.take _
theorem VRs.rep {us : List MV} {vs : List V} (r : VRs K ρ H us vs) : ∀ k : Nat, VRs K ρ H (List.replicate k us).flatten (List.replicate k vs).flatten
  | 0 => .nil
  | k + 1 => by
    rw [List.replicate_succ, List.replicate_succ, List.flatten_cons, List.flatten_cons]
    exact r.app (VRs.rep r k)
theorem VRs.atI {us : List MV} {vs : List V} {i : Int} {u : MV} (r : VRs K ρ H us vs) (e : L2.atI us i = some u) : ∃ v, L2.atI vs i = some v ∧ VR K ρ H u v := by
  unfold L2.atI at e ⊢
  rw [← r.length]
  cases q : L2.ixN us.length i with
  | none => rw [q] at e; cases e
  | some j =>
    rw [q] at e
    exact r.get e

/-- a new list -/
theorem HR.new {p : Addr} (h : HR K ρ M H) (hp : H p = none) (r : VRs K ρ H us vs) : HR K (ρ ++ [p]) (M ++ [us]) (upd H p (.lst vs)) ∧ Pst ρ H (ρ ++ [p]) (upd H p (.lst vs)) ∧ VR K (ρ ++ [p]) (upd H p (.lst vs)) (.lst M.length) (.ref p) := by
  have pp : p ∉ ρ := fun z => by
    obtain ⟨ws, e⟩ := h.mem z
    rw [hp] at e
    cases e
  have P : Pst ρ H (ρ ++ [p]) (upd H p (.lst vs)) := by
    refine ⟨⟨[p], rfl⟩, fun a o _ e => ?_, fun a h1 h2 => ?_⟩
    · rw [upd_ne (ne_of_none e hp)]
      exact e
    · rcases List.mem_append.mp h1 with z | z
      · exact absurd z h2
      · rw [List.mem_singleton.mp z]
        exact hp
  have at' : (ρ ++ [p])[M.length]? = some p := by
    rw [← h.len, List.getElem?_append_right (Nat.le_refl _), Nat.sub_self]
    rfl
  refine ⟨⟨?_, ?_, fun n xs e => ?_⟩, P, .lst at'⟩
  · exact List.nodup_append.mpr ⟨h.nd, by simp, fun a ha b hb => by rw [List.mem_singleton.mp hb]; exact fun z => pp (z ▸ ha)⟩
  · rw [List.length_append, List.length_append, h.len]
    rfl
  · by_cases hn : n < M.length
    · rw [List.getElem?_append_left hn] at e
      obtain ⟨a, ws, e1, e2, e3⟩ := h.lies n xs e
      refine ⟨a, ws, P.get e1, ?_, e3.mo h P⟩
      rw [upd_ne (ne_of_none e2 hp)]
      exact e2
    · have hn2 : n = M.length := by
        have := (List.getElem?_eq_some_iff.mp e).1
        rw [List.length_append] at this
        have : n < M.length + 1 := this
        omega
      subst hn2
      rw [List.getElem?_append_right (Nat.le_refl _), Nat.sub_self] at e
      cases e
      exact ⟨p, vs, at', upd_same, r.mo h P⟩
/-- another new object -/
theorem HR.newO {p : Addr} {o : HO} (h : HR K ρ M H) (hp : H p = none) : HR K ρ M (upd H p o) ∧ Pst ρ H ρ (upd H p o) := by
  have P : Pst ρ H ρ (upd H p o) := by
    refine ⟨⟨[], (List.append_nil ρ).symm⟩, fun a u _ e => ?_, fun a h1 h2 => absurd h1 h2⟩
    rw [upd_ne (ne_of_none e hp)]
    exact e
  refine ⟨⟨h.nd, h.len, fun n xs e => ?_⟩, P⟩
  obtain ⟨a, ws, e1, e2, e3⟩ := h.lies n xs e
  refine ⟨a, ws, e1, ?_, e3.mo h P⟩
  rw [upd_ne (ne_of_none e2 hp)]
  exact e2
/-- a list written -/
theorem HR.set {n : Nat} {a : Addr} (h : HR K ρ M H) (hn : ρ[n]? = some a) (r : VRs K ρ H us vs) : HR K ρ (M.set n us) (upd H a (.lst vs)) ∧ Pst ρ H ρ (upd H a (.lst vs)) := by
  have am : a ∈ ρ := List.mem_of_getElem? hn
  have P : Pst ρ H ρ (upd H a (.lst vs)) := by
    refine ⟨⟨[], (List.append_nil ρ).symm⟩, fun b u hb e => ?_, fun a h1 h2 => absurd h1 h2⟩
    rw [upd_ne (fun z => hb (by rw [z]; exact am))]
    exact e
  refine ⟨⟨h.nd, by rw [List.length_set]; exact h.len, fun k xs e => ?_⟩, P⟩
  by_cases hk : k = n
  · subst hk
    have hl : k < M.length := by
      have := (List.getElem?_eq_some_iff.mp e).1
      rwa [List.length_set] at this
    rw [List.getElem?_set_self hl] at e
    cases e
    exact ⟨a, vs, hn, upd_same, r.mo h P⟩
  · rw [List.getElem?_set_ne (fun z => hk z.symm)] at e
    obtain ⟨b, ws, e1, e2, e3⟩ := h.lies k xs e
    refine ⟨b, ws, e1, ?_, e3.mo h P⟩
    rw [upd_ne (fun z => hk ?_)]
    · exact e2
    · subst z
      have l1 := (List.getElem?_eq_some_iff.mp e1)
      have l2 := (List.getElem?_eq_some_iff.mp hn)
      exact (List.getElem_inj h.nd).mp (l1.2.trans l2.2.symm)

/-- the items that are read -/
theorem VR.items (h : HR K ρ M H) (r : VR K ρ H u v) (e : itemsL M u = some us) : ∃ a vs, v = .ref a ∧ SqL K H a vs ∧ VRs K ρ H us vs := by
  cases r with
  | lst hn =>
    obtain ⟨a, vs, e1, e2, e3⟩ := h.lies _ us e
    rw [hn] at e1
    cases e1
    exact ⟨_, vs, rfl, .of e2, e3⟩
  | kls s t =>
    cases e
    exact ⟨_, _, rfl, s.sq, t⟩
  | _ => cases e
theorem VR.lstAt {n : Nat} (h : HR K ρ M H) (r : VR K ρ H (.lst n) v) (e : M[n]? = some us) : ∃ a vs, v = .ref a ∧ ρ[n]? = some a ∧ H a = some (.lst vs) ∧ VRs K ρ H us vs := by
  cases r with
  | lst hn =>
    obtain ⟨a, vs, e1, e2, e3⟩ := h.lies _ us e
    rw [hn] at e1
    cases e1
    exact ⟨_, vs, rfl, hn, e2, e3⟩
end

/-! ### data -/
section
variable {K : PySem.W.Frag} {ρ : List Addr} {M : MH} {H : Hp}
theorem pd_dp (h : HR K ρ M H) : ∀ (n : Nat) (u : MV) (v : V) (d : PyData), pd n M u = some d → VR K ρ H u v → Dp K H v d
  | 0, _, _, _, e, _ => by cases e
  | n + 1, u, v, d, e, r => by
    have all : ∀ (us : List MV) (vs : List V) (ds : List PyData), us.mapM (pd n M) = some ds → VRs K ρ H us vs → DpAll K H vs ds := by
      intro us
      induction us with
      | nil =>
        intro vs ds e r
        cases r
        simp at e
        subst e
        exact .nil
      | cons x xs ih =>
        intro vs ds e r
        cases r with
        | cons r t =>
          rw [List.mapM_cons] at e
          cases e1 : pd n M x with
          | none => rw [e1] at e; cases e
          | some d1 =>
            rw [e1] at e
            cases e2 : xs.mapM (pd n M) with
            | none => simp [e2] at e
            | some ds' =>
              simp [e2] at e
              subst e
              exact .cons (pd_dp h n _ _ _ e1 r) (ih _ _ e2 t)
    cases r with
    | non => cases e; exact .non
    | bl b => cases e; exact .bl b
    | int i => cases e; exact .int i
    | str x => cases e; exact .str x
    | @tup a us vs s t =>
      cases e1 : us.mapM (pd n M) with
      | none => simp [pd, e1] at e
      | some ds =>
        simp [pd, e1] at e
        subst e
        exact .tup s (all _ _ _ e1 t)
    | @lst k a hn =>
      cases e0 : M[k]? with
      | none => simp [pd, e0] at e
      | some us =>
        obtain ⟨b, vs, e1, e2, e3⟩ := h.lies _ us e0
        rw [hn] at e1
        cases e1
        cases e4 : us.mapM (pd n M) with
        | none => simp [pd, e0, e4] at e
        | some ds =>
          simp [pd, e0, e4] at e
          subst e
          exact .lst (.of e2) (all _ _ _ e4 e3)
    | @kls a us vs s t =>
      cases e1 : us.mapM (pd n M) with
      | none => simp [pd, e1] at e
      | some ds =>
        simp [pd, e1] at e
        subst e
        exact .lst s.sq (all _ _ _ e1 t)
    | dct _ => cases e
end

/-! ### what a run's end asks -/
abbrev KQ (K : PySem.W.Frag) (ρ : List Addr) (H : Hp) (v : MV) (M' : MH) (Q : VK) : Prop := ∀ x H' ρ', HR K ρ' M' H' → Pst ρ H ρ' H' → VR K ρ' H' v x → Q x H'
abbrev KQs (K : PySem.W.Frag) (ρ : List Addr) (H : Hp) (vs : List MV) (M' : MH) (Q : List V → Hp → Prop) : Prop := ∀ xs H' ρ', HR K ρ' M' H' → Pst ρ H ρ' H' → VRs K ρ' H' vs xs → Q xs H'
abbrev KQu (K : PySem.W.Frag) (ρ : List Addr) (H : Hp) (M' : MH) (Q : Hp → Prop) : Prop := ∀ H' ρ', HR K ρ' M' H' → Pst ρ H ρ' H' → Q H'
def RO (K : PySem.W.Frag) (r : R2) (f : MV → MV → MH → Re MV) : Prop := ∀ ρ M H u v x y w M' Q, HR K ρ M H → VR K ρ H u x → VR K ρ H v y → f u v M = .ok w M' → KQ K ρ H w M' Q → r x y H Q
def RU1 (K : PySem.W.Frag) (r : V → Hp → VK → Prop) (f : MV → MH → Re MV) : Prop := ∀ ρ M H u x w M' Q, HR K ρ M H → VR K ρ H u x → f u M = .ok w M' → KQ K ρ H w M' Q → r x H Q
def RC1 (K : PySem.W.Frag) (r : List V → Hp → VK → Prop) (f : List MV → MH → Re MV) : Prop := ∀ ρ M H us xs w M' Q, HR K ρ M H → VRs K ρ H us xs → f us M = .ok w M' → KQ K ρ H w M' Q → r xs H Q
def RM1 (K : PySem.W.Frag) (r : V → List V → Hp → VK → Prop) (f : MV → List MV → MH → Re MV) : Prop := ∀ ρ M H u us x xs w M' Q, HR K ρ M H → VR K ρ H u x → VRs K ρ H us xs → f u us M = .ok w M' → KQ K ρ H w M' Q → r x xs H Q

theorem lim_line {n : Nat} (h : n ≤ lim) : n ≤ sizeLine := Nat.le_trans h (by decide)
theorem lim_lt {n : Nat} (h : n < lim) : n < sizeLine := Nat.lt_of_lt_of_le h (by decide)
theorem ok_inj {α : Type} {a b : α} {M N : MH} (h : Re.ok a M = Re.ok b N) : a = b ∧ M = N := by
  injection h with h1 h2
  exact ⟨h1, h2⟩
theorem bnd_ok {α β : Type} {x : Re α} {f : α → MH → Re β} {b : β} {N : MH} (h : x.bnd f = .ok b N) : ∃ a M, x = .ok a M ∧ f a M = .ok b N := by
  cases x with
  | bad => cases h
  | exc c v M => cases h
  | ok a M => exact ⟨a, M, rfl, h⟩
theorem nox_ok {α : Type} {x : Re α} {a : α} {M : MH} (h : x.nox = .ok a M) : x = .ok a M := by
  cases x with
  | bad => cases h
  | exc c v M => cases h
  | ok b N => exact h

section
variable {X : Cx} {K : PySem.W.Frag}
/-! ### arithmetic -/
def rAddM : R2 := fun x y H Q => rI0 (fun i j => .int (i + j)) x y H Q ∨ rCat x y H Q ∨ (∃ i j, x = .str i ∧ y = .str j ∧ i.length + j.length ≤ sizeLine ∧ Q (.str (i ++ j)) H)
theorem op_addM : OpR X (binaryOp .Add) rAddM := op_add.or (op_cat.or op_add_str)
theorem ro_add : RO K rAddM (binop .add) := by
  intro ρ M H u v x y w M' Q h ru rv e q
  cases ru <;> cases rv <;> try (cases e; done)
  · rename_i i j
    obtain ⟨rfl, rfl⟩ := ok_inj e
    exact .inl ⟨i, j, rfl, rfl, q _ _ _ h .refl (.int _)⟩
  · rename_i i j
    simp only [binop] at e
    split at e
    · rename_i hl
      obtain ⟨rfl, rfl⟩ := ok_inj e
      exact .inr (.inr ⟨i, j, rfl, rfl, lim_line hl, q _ _ _ h .refl (.str _)⟩)
    · cases e
  · rename_i n a hn k b hk
    simp only [binop] at e
    split at e
    · rename_i us ws e1 e2
      split at e
      · rename_i hl
        obtain ⟨a', vs, e3, e4, e5⟩ := h.lies _ _ e1
        rw [hn] at e3
        cases e3
        obtain ⟨b', vs', e6, e7, e8⟩ := h.lies _ _ e2
        rw [hk] at e6
        cases e6
        obtain ⟨rfl, rfl⟩ := ok_inj e
        refine .inr (.inl ⟨_, _, vs, vs', rfl, rfl, e4, e7, ?_, fun p hp => ?_⟩)
        · rw [← e5.length, ← e8.length]
          exact lim_line hl
        · obtain ⟨h1, h2, h3⟩ := h.new hp (e5.app e8)
          exact q _ _ _ h1 h2 h3
      · cases e
    · cases e
theorem ro_sub : RO K (rI0 fun i j => .int (i - j)) (binop .sub) := by
  intro ρ M H u v x y w M' Q h ru rv e q
  cases ru <;> cases rv <;> try (cases e; done)
  rename_i i j
  obtain ⟨rfl, rfl⟩ := ok_inj e
  exact ⟨i, j, rfl, rfl, q _ _ _ h .refl (.int _)⟩
def rMulM : R2 := fun x y H Q => rI CMulW (fun i j => .int (i * j)) x y H Q ∨ rRep x y H Q
theorem op_mulM : OpR X (binaryOp .Mult) rMulM := op_mulW.or op_rep
theorem ro_mul : RO K rMulM (binop .mul) := by
  intro ρ M H u v x y w M' Q h ru rv e q
  cases ru <;> cases rv <;> try (cases e; done)
  · rename_i i j
    simp only [binop] at e
    split at e
    · rename_i hc
      obtain ⟨rfl, rfl⟩ := ok_inj e
      exact .inl ⟨i, j, rfl, rfl, hc, q _ _ _ h .refl (.int _)⟩
    · cases e
  · rename_i n a hn k
    simp only [binop] at e
    split at e
    · rename_i us e1
      split at e
      · rename_i hl
        obtain ⟨a', vs, e3, e4, e5⟩ := h.lies _ _ e1
        rw [hn] at e3
        cases e3
        obtain ⟨rfl, rfl⟩ := ok_inj e
        refine .inr ⟨_, _, vs, rfl, rfl, e4, by omega, by omega, ?_, fun p hp => ?_⟩
        · rw [← e5.length]
          exact lim_line hl.2.2
        · obtain ⟨h1, h2, h3⟩ := h.new hp (e5.rep k.toNat)
          exact q _ _ _ h1 h2 h3
      · cases e
    · cases e
theorem op_fdivZ {X : Cx} : OpR X (binaryOp .FloorDiv) (rI (fun _ j => j ≠ 0 ∧ j.natAbs.log2 < 9000) fun i j => .int (i.fdiv j)) := opI fun _ _ _ _ _ _ _ hc q => floordiv_int hc.1 q (.inl (PyProof.noPylong_of_log2 hc.2))
theorem ro_fdv : RO K (rI (fun _ j => j ≠ 0 ∧ j.natAbs.log2 < 9000) fun i j => .int (i.fdiv j)) (binop .fdv) := by
  intro ρ M H u v x y w M' Q h ru rv e q
  cases ru <;> cases rv <;> try (cases e; done)
  rename_i i j
  simp only [binop] at e
  split at e
  · rename_i hc
    obtain ⟨rfl, rfl⟩ := ok_inj e
    exact ⟨i, j, rfl, rfl, hc, q _ _ _ h .refl (.int _)⟩
  · cases e
theorem ro_mod : RO K (rI (fun _ j => j ≠ 0) fun i j => .int (i.fmod j)) (binop .mod) := by
  intro ρ M H u v x y w M' Q h ru rv e q
  cases ru <;> cases rv <;> try (cases e; done)
  rename_i i j
  simp only [binop] at e
  split at e
  · rename_i hc
    obtain ⟨rfl, rfl⟩ := ok_inj e
    exact ⟨i, j, rfl, rfl, hc, q _ _ _ h .refl (.int _)⟩
  · cases e
theorem ro_pow : RO K (rI CPow fun i j => .int (i ^ j.toNat)) (binop .pow) := by
  intro ρ M H u v x y w M' Q h ru rv e q
  cases ru <;> cases rv <;> try (cases e; done)
  rename_i i j
  simp only [binop] at e
  split at e
  · rename_i hc
    obtain ⟨rfl, rfl⟩ := ok_inj e
    exact ⟨i, j, rfl, rfl, ⟨hc.1, by omega, hc.2.2⟩, q _ _ _ h .refl (.int _)⟩
  · cases e

/-! ### comparisons -/
theorem ro_int {p : Int → Int → Bool} {o : COp} (hp : ∀ u v M w M', cmpop o u v M = .ok w M' → ∃ i j, u = .int i ∧ v = .int j ∧ w = .bl (p i j) ∧ M' = M) : RO K (rI0 fun i j => .bl (p i j)) (cmpop o) := by
  intro ρ M H u v x y w M' Q h ru rv e q
  obtain ⟨i, j, rfl, rfl, rfl, rfl⟩ := hp _ _ _ _ _ e
  cases ru
  cases rv
  exact ⟨i, j, rfl, rfl, q _ _ _ h .refl (.bl _)⟩
theorem int_of {o : COp} {p : Int → Int → Bool} (ho : ∀ u v M, cmpop o u v M = match u, v with
    | .int i, .int j => b2 (p i j) M
    | _, _ => .bad) : ∀ u v M w M', cmpop o u v M = .ok w M' → ∃ i j, u = .int i ∧ v = .int j ∧ w = .bl (p i j) ∧ M' = M := by
  intro u v M w M' e
  rw [ho] at e
  split at e
  · obtain ⟨rfl, rfl⟩ := ok_inj e
    exact ⟨_, _, rfl, rfl, rfl, rfl⟩
  · cases e
theorem ro_lt : RO K (rI0 fun i j => .bl (decide (i < j))) (cmpop .lt) := ro_int (int_of fun _ _ _ => rfl)
theorem ro_le : RO K (rI0 fun i j => .bl (decide (i ≤ j))) (cmpop .le) := ro_int (int_of fun _ _ _ => rfl)
theorem ro_gt : RO K (rI0 fun i j => .bl (decide (j < i))) (cmpop .gt) := ro_int (int_of fun _ _ _ => rfl)
theorem ro_ge : RO K (rI0 fun i j => .bl (decide (j ≤ i))) (cmpop .ge) := ro_int (int_of fun _ _ _ => rfl)
def rEqM (K : PySem.W.Frag) : R2 := fun x y H Q => rEq x y H Q ∨ rEqD K x y H Q
def rNeM (K : PySem.W.Frag) : R2 := fun x y H Q => rNe x y H Q ∨ rNeD K x y H Q
theorem op_eqM (hu : X.A.units + 64 < cLine) : OpR X (compareOp .Eq) (rEqM X.K) := op_eq.or (op_eqD hu)
theorem op_neM (hu : X.A.units + 64 < cLine) : OpR X (compareOp .NotEq) (rNeM X.K) := op_ne.or (op_neD hu)
theorem eqM_cases {M : MH} {u v : MV} {b : Bool} (e : eqM M u v = some b) : (∃ i j, u = .int i ∧ v = .int j ∧ b = (i == j)) ∨ (∃ i j, u = .str i ∧ v = .str j ∧ b = decide (i = j)) ∨ ∃ d d', pd pdDepth M u = some d ∧ pd pdDepth M v = some d' ∧ SeqAt.shaped d = true ∧ SeqAt.shaped d' = true ∧ b = PyData.eqv d d' := by
  unfold eqM at e
  split at e
  · cases e
    exact .inl ⟨_, _, rfl, rfl, rfl⟩
  · cases e
    exact .inr (.inl ⟨_, _, rfl, rfl, rfl⟩)
  · split at e
    · rename_i d d' e1 e2
      split at e
      · rename_i hs
        cases e
        exact .inr (.inr ⟨d, d', e1, e2, hs.1, hs.2, rfl⟩)
      · cases e
    · cases e
theorem dec_str {a b : Str} : decide (a = b) = decide (V.str a = V.str b) := by
  by_cases h : a = b
  · rw [h, decide_eq_true rfl, decide_eq_true rfl]
  · rw [decide_eq_false h, decide_eq_false fun z => h (V.str.inj z)]
theorem ofO_ok {M : MH} {o : Option Bool} {w : MV} {M' : MH} (e : ofO M o = .ok w M') : ∃ b, o = some b ∧ w = .bl b ∧ M' = M := by
  cases o with
  | none => cases e
  | some b =>
    obtain ⟨rfl, rfl⟩ := ok_inj e
    exact ⟨b, rfl, rfl, rfl⟩
theorem ro_eq : RO K (rEqM K) (cmpop .eq) := by
  intro ρ M H u v x y w M' Q h ru rv e q
  obtain ⟨b, e1, rfl, rfl⟩ := ofO_ok e
  rcases eqM_cases e1 with ⟨i, j, rfl, rfl, rfl⟩ | ⟨i, j, rfl, rfl, rfl⟩ | ⟨d, d', h1, h2, h3, h4, rfl⟩
  · cases ru
    cases rv
    refine .inl ⟨rfl, ?_⟩
    rw [dec_int]
    exact q _ _ _ h .refl (.bl _)
  · cases ru
    cases rv
    refine .inl ⟨rfl, ?_⟩
    rw [dec_str] at q
    exact q _ _ _ h .refl (.bl _)
  · exact .inr ⟨d, d', pd_dp h _ _ _ _ h1 ru, pd_dp h _ _ _ _ h2 rv, h3, h4, q _ _ _ h .refl (.bl _)⟩
theorem ro_ne : RO K (rNeM K) (cmpop .ne) := by
  intro ρ M H u v x y w M' Q h ru rv e q
  obtain ⟨b, e1, rfl, rfl⟩ := ofO_ok e
  obtain ⟨c, e2, rfl⟩ := Option.map_eq_some_iff.mp e1
  rcases eqM_cases e2 with ⟨i, j, rfl, rfl, rfl⟩ | ⟨i, j, rfl, rfl, rfl⟩ | ⟨d, d', h1, h2, h3, h4, rfl⟩
  · cases ru
    cases rv
    refine .inl ⟨rfl, ?_⟩
    rw [dec_int]
    exact q _ _ _ h .refl (.bl _)
  · cases ru
    cases rv
    refine .inl ⟨rfl, ?_⟩
    rw [dec_str] at q
    exact q _ _ _ h .refl (.bl _)
  · exact .inr ⟨d, d', pd_dp h _ _ _ _ h1 ru, pd_dp h _ _ _ _ h2 rv, h3, h4, q _ _ _ h .refl (.bl _)⟩
/-- is, of None or a bool on the right -/
def rIsM : R2 := fun x y H Q => (y = .non ∨ ∃ b, y = .bl b) ∧ Q (.bl (decide (x = y))) H
def rIsnM : R2 := fun x y H Q => (y = .non ∨ ∃ b, y = .bl b) ∧ Q (.bl (!decide (x = y))) H
theorem plain_is {x y : V} {v u : Value} (rx : RelV x v) (ry : RelV y u) (hy : y = .non ∨ ∃ b, y = .bl b) : plainIs v u = true ∧ (v == u) = decide (x = y) := by
  rcases hy with rfl | ⟨b, rfl⟩
  · cases ry
    cases x with
    | non => cases rx; exact ⟨rfl, by simp⟩
    | bl c => cases rx; exact ⟨rfl, by simp⟩
    | int i => obtain ⟨t, rfl⟩ := rx; exact ⟨rfl, by simp⟩
    | str z => obtain ⟨t, rfl⟩ := rx; exact ⟨rfl, by simp⟩
    | byt z => obtain ⟨t, rfl⟩ := rx; exact ⟨rfl, by simp⟩
    | flt z => obtain ⟨t, rfl⟩ := rx; exact ⟨rfl, by simp⟩
    | ref a => cases rx; exact ⟨rfl, by simp⟩
    | ty n => cases rx; exact ⟨rfl, by simp⟩
  · cases ry
    cases x with
    | non => cases rx; exact ⟨rfl, by simp⟩
    | bl c => cases rx; exact ⟨rfl, by cases b <;> cases c <;> rfl⟩
    | int i => obtain ⟨t, rfl⟩ := rx; exact ⟨rfl, by simp⟩
    | str z => obtain ⟨t, rfl⟩ := rx; exact ⟨rfl, by simp⟩
    | byt z => obtain ⟨t, rfl⟩ := rx; exact ⟨rfl, by simp⟩
    | flt z => obtain ⟨t, rfl⟩ := rx; exact ⟨rfl, by simp⟩
    | ref a => cases rx; exact ⟨rfl, by simp⟩
    | ty n => cases rx; exact ⟨rfl, by simp⟩
theorem op_isM : OpR X (compareOp .Is) rIsM := by
  intro pins s σ H x y v u Q I rx ry h
  obtain ⟨hy, q⟩ := h
  obtain ⟨h1, h2⟩ := plain_is rx ry hy
  refine wpAny_is_plain h1 ⟨_, H, I, ?_, q⟩
  rw [h2]
  rfl
theorem op_isnM : OpR X (compareOp .IsNot) rIsnM := by
  intro pins s σ H x y v u Q I rx ry h
  obtain ⟨hy, q⟩ := h
  obtain ⟨h1, h2⟩ := plain_is rx ry hy
  refine wpAny_isNot_plain h1 ⟨_, H, I, ?_, q⟩
  rw [h2]
  rfl
theorem isM_of {ρ : List Addr} {H : Hp} {u v : MV} {x y : V} {b : Bool} (e : isM u v = some b) (ru : VR K ρ H u x) (rv : VR K ρ H v y) : (y = .non ∨ ∃ b, y = .bl b) ∧ b = decide (x = y) := by
  cases rv with
  | non =>
    refine ⟨.inl rfl, ?_⟩
    cases ru <;> cases e <;> simp
  | bl c =>
    refine ⟨.inr ⟨_, rfl⟩, ?_⟩
    cases ru with
    | bl d => cases e; cases c <;> cases d <;> rfl
    | _ => cases e; simp
  | _ => cases ru <;> cases e
theorem ro_is : RO K rIsM (cmpop .is) := by
  intro ρ M H u v x y w M' Q h ru rv e q
  obtain ⟨b, e1, rfl, rfl⟩ := ofO_ok e
  obtain ⟨h1, rfl⟩ := isM_of e1 ru rv
  exact ⟨h1, q _ _ _ h .refl (.bl _)⟩
theorem ro_isn : RO K rIsnM (cmpop .isn) := by
  intro ρ M H u v x y w M' Q h ru rv e q
  obtain ⟨b, e1, rfl, rfl⟩ := ofO_ok e
  obtain ⟨c, e2, rfl⟩ := Option.map_eq_some_iff.mp e1
  obtain ⟨h1, rfl⟩ := isM_of e2 ru rv
  exact ⟨h1, q _ _ _ h .refl (.bl _)⟩

/-! ### items, slices -/
def rIxM (K : PySem.W.Frag) : R2 := fun x y H Q => rIxT K x y H Q ∨ rIxL K x y H Q
theorem ix_M : IxR X (rIxM X.K) := ix_tup.or ix_list
theorem ro_idx : RO K (rIxM K) idxop := by
  intro ρ M H u v x y w M' Q h ru rv e q
  cases rv <;> try (cases e; done)
  rename_i i
  by_cases ht : ∃ us, u = .tup us
  · obtain ⟨us, rfl⟩ := ht
    simp only [idxop] at e
    split at e
    · rename_i z e1
      obtain ⟨rfl, rfl⟩ := ok_inj e
      cases ru with
      | tup s t =>
        obtain ⟨z', e2, r2⟩ := t.atI e1
        exact .inl ⟨_, _, i, z', rfl, rfl, s, e2, q _ _ _ h .refl r2⟩
    · cases e
  · have e' : (match itemsL M u with
        | some xs => match L2.atI xs i with
          | some x => Re.ok x M
          | none => .bad
        | none => .bad) = .ok w M' := by
      cases u <;> first
        | exact e
        | exact absurd ⟨_, rfl⟩ ht
    split at e'
    · rename_i us e0
      split at e'
      · rename_i z e1
        obtain ⟨rfl, rfl⟩ := ok_inj e'
        obtain ⟨a, vs, rfl, s, t⟩ := ru.items h e0
        obtain ⟨z', e2, r2⟩ := t.atI e1
        exact .inr ⟨_, _, i, z', rfl, rfl, s, e2, q _ _ _ h .refl r2⟩
      · cases e'
    · cases e'
theorem cut_rel {ρ : List Addr} {H : Hp} {us : List MV} {vs : List V} (r : VRs K ρ H us vs) (lo hi : Option Int) : VRs K ρ H (cutM us lo hi) (cutV vs lo hi) := by
  unfold cutM cutV
  rw [r.length]
  exact (r.drop _).take _
end
end MP

set_option Elab.async false
set_option linter.all false
set_option maxRecDepth 100000
set_option autoImplicit false
set_option maxHeartbeats 1000000
/-! MP, part c: rules of slices, built-ins, methods. -/
namespace MP
open PySem PySem.Spec PyProof.Rows L2
section
variable {X : Cx} {K : PySem.W.Frag}
theorem slc_ok {ρ : List Addr} {M M' : MH} {H : Hp} {u w : MV} {x : V} {lo hi : Option Int} {Q : VK} (h : HR K ρ M H) (ru : VR K ρ H u x) (e : slcop u lo hi M = .ok w M') (q : KQ K ρ H w M' Q) : rSlL K x lo hi H Q := by
  unfold slcop at e
  split at e
  · rename_i us e0
    obtain ⟨a, vs, rfl, s, t⟩ := ru.items h e0
    obtain ⟨rfl, rfl⟩ := ok_inj e
    refine ⟨a, vs, rfl, s, fun p hp => ?_⟩
    obtain ⟨h1, h2, h3⟩ := h.new hp (cut_rel t lo hi)
    exact q _ _ _ h1 h2 h3
  · cases e
theorem rev_ok {ρ : List Addr} {M M' : MH} {H : Hp} {u w : MV} {x : V} {Q : VK} (h : HR K ρ M H) (ru : VR K ρ H u x) (e : revop u M = .ok w M') (q : KQ K ρ H w M' Q) :
    ∃ a xs, x = .ref a ∧ SqL K H a xs ∧ ∀ p, H p = none → Q (.ref p) (upd H p (.lst xs.reverse)) := by
  unfold revop at e
  split at e
  · rename_i us e0
    obtain ⟨a, vs, rfl, s, t⟩ := ru.items h e0
    obtain ⟨rfl, rfl⟩ := ok_inj e
    refine ⟨a, vs, rfl, s, fun p hp => ?_⟩
    obtain ⟨h1, h2, h3⟩ := h.new hp t.reverse
    exact q _ _ _ h1 h2 h3
  · cases e

/-! ### built-in functions -/
theorem vrs1 {ρ : List Addr} {H : Hp} {u : MV} {xs : List V} (r : VRs K ρ H [u] xs) : ∃ x, xs = [x] ∧ VR K ρ H u x := by
  cases r with
  | cons r t =>
    cases t
    exact ⟨_, rfl, r⟩
theorem vrs0 {ρ : List Addr} {H : Hp} {xs : List V} (r : VRs K ρ H [] xs) : xs = [] := by
  cases r
  rfl
def rLenM (K : PySem.W.Frag) : List V → Hp → VK → Prop := fun xs H Q => ∃ x n, xs = [x] ∧ LenV K x H n ∧ Q (.int n) H
theorem rc_len : RC1 K (rLenM K) (btop .len) := by
  intro ρ M H us xs w M' Q h r e q
  unfold btop at e
  split at e <;> first | (cases e; done) | skip
  all_goals (try (rename_i hh; cases hh; done))
  rename_i v
  split at e <;> first | (cases e; done) | skip
  rename_i n e1
  obtain ⟨rfl, rfl⟩ := ok_inj e
  obtain ⟨x, rfl, rx⟩ := vrs1 r
  refine ⟨x, n, rfl, ?_, q _ _ _ h .refl (.int _)⟩
  cases rx with
  | tup s t =>
    cases e1
    exact .inr ⟨_, s, t.length⟩
  | lst hn =>
    obtain ⟨us, e2, rfl⟩ := Option.map_eq_some_iff.mp e1
    obtain ⟨a, vs, e3, e4, e5⟩ := h.lies _ _ e2
    rw [hn] at e3
    cases e3
    exact .inl ⟨_, .of e4, e5.length⟩
  | kls s t =>
    cases e1
    exact .inl ⟨_, s.sq, t.length⟩
  | str z =>
    simp only [lenM] at e1
    split at e1
    · rename_i hl
      cases e1
      exact ⟨lim_line hl, rfl⟩
    · cases e1
  | _ => cases e1
theorem rc_abs : RC1 K (fun xs H Q => ∃ i, xs = [.int i] ∧ Q (.int (if i < 0 then -i else i)) H) (btop .abs) := by
  intro ρ M H us xs w M' Q h r e q
  unfold btop at e
  split at e <;> first | (cases e; done) | skip
  all_goals (try (rename_i hh; cases hh; done))
  obtain ⟨rfl, rfl⟩ := ok_inj e
  obtain ⟨x, rfl, rx⟩ := vrs1 r
  cases rx
  exact ⟨_, rfl, q _ _ _ h .refl (.int _)⟩
theorem rc_int : RC1 K (fun xs H Q => (∃ i, xs = [.int i] ∧ Q (.int i) H) ∨ ∃ k, xs = [.bl k] ∧ Q (.int (if k then 1 else 0)) H) (btop .int) := by
  intro ρ M H us xs w M' Q h r e q
  unfold btop at e
  split at e <;> first | (cases e; done) | skip
  all_goals (try (rename_i hh; cases hh; done))
  · obtain ⟨rfl, rfl⟩ := ok_inj e
    obtain ⟨x, rfl, rx⟩ := vrs1 r
    cases rx
    exact .inl ⟨_, rfl, q _ _ _ h .refl (.int _)⟩
  · obtain ⟨rfl, rfl⟩ := ok_inj e
    obtain ⟨x, rfl, rx⟩ := vrs1 r
    cases rx
    exact .inr ⟨_, rfl, q _ _ _ h .refl (.int _)⟩
theorem rc_str : RC1 K (fun xs H Q => ∃ i, xs = [.int i] ∧ i.natAbs.log2 < 1920 ∧ Q (.str (toString i)) H) (btop .str) := by
  intro ρ M H us xs w M' Q h r e q
  unfold btop at e
  split at e <;> first | (cases e; done) | skip
  all_goals (try (rename_i hh; cases hh; done))
  split at e
  · rename_i hc
    obtain ⟨rfl, rfl⟩ := ok_inj e
    obtain ⟨x, rfl, rx⟩ := vrs1 r
    cases rx
    exact ⟨_, rfl, hc, q _ _ _ h .refl (.str _)⟩
  · cases e
theorem bools_map {ρ : List Addr} {H : Hp} : ∀ {us : List MV} {vs : List V} {bs : List Bool}, boolsOf us = some bs → VRs K ρ H us vs → vs = bs.map V.bl
  | [], _, _, e, .nil => by cases e; rfl
  | .bl b :: us, _, bs, e, .cons r t => by
    obtain ⟨cs, e1, rfl⟩ := Option.map_eq_some_iff.mp e
    cases r
    rw [bools_map e1 t]
    rfl
theorem ints_map {ρ : List Addr} {H : Hp} : ∀ {us : List MV} {vs : List V} {bs : List Int}, intsOf us = some bs → VRs K ρ H us vs → vs = bs.map V.int
  | [], _, _, e, .nil => by cases e; rfl
  | .int b :: us, _, bs, e, .cons r t => by
    obtain ⟨cs, e1, rfl⟩ := Option.map_eq_some_iff.mp e
    cases r
    rw [ints_map e1 t]
    rfl
theorem rc_all : RC1 K (rAll K) (btop .all) := by
  intro ρ M H us xs w M' Q h r e q
  unfold btop at e
  split at e <;> first | (cases e; done) | skip
  all_goals (try (rename_i hh; cases hh; done))
  split at e <;> first | (cases e; done) | skip
  rename_i bs e1
  obtain ⟨rfl, rfl⟩ := ok_inj e
  obtain ⟨x, rfl, rx⟩ := vrs1 r
  obtain ⟨us, e2, e3⟩ := Option.bind_eq_some_iff.mp e1
  obtain ⟨a, vs, rfl, s, t⟩ := rx.items h e2
  have := bools_map e3 t
  subst this
  exact ⟨a, bs, rfl, s, q _ _ _ h .refl (.bl _)⟩
theorem rc_sum : RC1 K (rSum K) (btop .sum) := by
  intro ρ M H us xs w M' Q h r e q
  unfold btop at e
  split at e <;> first | (cases e; done) | skip
  all_goals (try (rename_i hh; cases hh; done))
  split at e <;> first | (cases e; done) | skip
  rename_i bs e1
  obtain ⟨rfl, rfl⟩ := ok_inj e
  obtain ⟨x, rfl, rx⟩ := vrs1 r
  obtain ⟨us, e2, e3⟩ := Option.bind_eq_some_iff.mp e1
  obtain ⟨a, vs, rfl, s, t⟩ := rx.items h e2
  have := ints_map e3 t
  subst this
  exact ⟨a, bs, rfl, s, q _ _ _ h .refl (.int _)⟩

/-! ### repr -/
def rReprM (K : PySem.W.Frag) : List V → Hp → VK → Prop := fun xs H Q =>
  (∃ x d, xs = [x] ∧ Dp K H x d ∧ d.showable = true ∧ d.hasDict = false ∧ d.depth ≤ 100 ∧ d.shown.length ≤ sizeLine ∧ Q (.str d.shown) H) ∨ ∃ a, xs = [.ref a] ∧ H a = some (.dK []) ∧ Q (.str "{}") H
theorem dict_shown : (PyData.dict []).shown = "{}" := by decide +kernel
theorem call_reprM {k : Nat} (hg : X.A.guards = some []) (hr : Room k X.A) : CallR X (.builtin "repr") (rReprM X.K) := by
  intro pins s σ H xs us Q I r h
  have hu := hr.un
  rcases h with ⟨x, d, rfl, hd, h1, h2, h3, h4, q⟩ | ⟨a, rfl, ha, q⟩
  · obtain ⟨u, rfl, rx⟩ := vals1 r
    obtain ⟨as, rd⟩ := Dp.reads I d x u hd rx
    cases hd with
    | non => cases rx; exact PySem.P.repr_of_none ⟨V.str _, H, I.tok _, ⟨_, rfl⟩, q⟩
    | bl b => cases rx; exact PySem.P.repr_of_bool ⟨V.str _, H, I.tok _, ⟨_, rfl⟩, q⟩
    | int i => obtain ⟨t, rfl⟩ := rx; exact PySem.P.repr_of_int (by simpa [PyData.showable] using h1) ⟨V.str _, H, I.tok _, ⟨_, rfl⟩, q⟩
    | str z => obtain ⟨t, rfl⟩ := rx; exact PySem.P.repr_of_str ⟨V.str _, H, I.tok _, ⟨_, rfl⟩, q⟩ h4
    | lst s t =>
      cases rx
      exact repr_of_reads' rd h1 (PyData.noDict_hsm h2) hg (by omega) (fun _ _ e => e) (fun h' u tk hk => ⟨V.str _, H, I.kept hk, ⟨u, rfl⟩, q⟩) h4
    | tup s t =>
      cases rx
      exact repr_of_reads' rd h1 (PyData.noDict_hsm h2) hg (by omega) (fun _ _ e => e) (fun h' u tk hk => ⟨V.str _, H, I.kept hk, ⟨u, rfl⟩, q⟩) h4
  · obtain ⟨u, rfl, rx⟩ := vals1 r
    cases rx
    obtain ⟨_, hs, vs, rv, o, es, ep, e1, e2, e3, _, e5, _⟩ := (show ObjOk X.prog X.w H s.heap a (.dK []) from I.hok a _ ha)
    cases rv
    have he : es.toList = [] := by
      cases z : es.toList with
      | nil => rfl
      | cons y l => rw [z] at e5; cases e5
    have rd : Reads s.heap (.ref a) (.dict []) (a :: [] ++ []) := Reads.dict e1 e2.1 e3 (by rw [he]; exact .nil) (by rw [he]; exact .nil)
    refine repr_of_reads' rd rfl (fun _ => ?_) hg (by show X.A.units + (1 + 1) < cLine; omega) (fun _ _ e => e) (fun h' u tk hk => ⟨V.str _, H, I.kept hk, ⟨u, rfl⟩, (by rw [dict_shown]; exact q)⟩) (by decide +kernel)
    intro z
    have z' : sysModules = a := by simpa using z
    rw [z'] at hs
    simp at hs
theorem rc_repr : RC1 K (rReprM K) (btop .repr) := by
  intro ρ M H us xs w M' Q h r e q
  unfold btop at e
  split at e <;> first | (cases e; done) | skip
  all_goals (try (rename_i hh; cases hh; done))
  rename_i v
  split at e <;> first | (cases e; done) | skip
  rename_i x e1
  obtain ⟨rfl, rfl⟩ := ok_inj e
  obtain ⟨y, rfl, ry⟩ := vrs1 r
  unfold reprM at e1
  split at e1
  · cases e1
    cases ry with
    | dct ha => exact .inr ⟨_, rfl, ha, q _ _ _ h .refl (.str _)⟩
  · split at e1
    · rename_i d e2
      split at e1
      · rename_i hc
        cases e1
        exact .inl ⟨_, d, rfl, pd_dp h _ _ _ _ e2 ry, hc.1, hc.2.1, hc.2.2.1, hc.2.2.2, q _ _ _ h .refl (.str _)⟩
      · cases e1
    · cases e1

/-! ### isinstance -/
def tyS : Ty → String
  | .int => "int"
  | .bool => "bool"
  | .str => "str"
  | .list => "list"
  | .tuple => "tuple"
  | .dict => "dict"
def tyN : Option Ty → String
  | none => "NoneType"
  | some t => tyS t
def isT (t : Option Ty) (c : Ty) : Bool := match t with
  | none => false
  | some t => c == t || (c == .int && t == .bool)
theorem kit_table (t : Option Ty) (c : Ty) : PySem.W.kitOne K (.type (tyN t)) (.type (tyS c)) = some (isT t c) := by
  rcases t with _ | t
  · cases c <;> exact kit_ty (by decide +kernel)
  · cases t <;> cases c <;> exact kit_ty (by decide +kernel)
theorem VR.ty {ρ : List Addr} {M : MH} {H : Hp} {u : MV} {x : V} (h : HR K ρ M H) (hm : ∀ n, u = .lst n → n < M.length) (r : VR K ρ H u x) : TyX K H x (.type (tyN (tyOfM u))) := by
  cases r with
  | non => exact .base .non
  | bl b => exact .base (.bl b)
  | int i => exact .base (.int i)
  | str z => exact .base (.str z)
  | tup s t =>
    rcases s with (s | ⟨o, s⟩) | ⟨o, its, n, e, c, _⟩
    · exact .base (.tup s)
    · exact .fTuple s
    · exact .kTuple e c
  | @lst n a hn =>
    have hl : n < M.length := hm n rfl
    obtain ⟨b, vs, e1, e2, _⟩ := h.lies n M[n] (List.getElem?_eq_getElem hl)
    rw [hn] at e1
    cases e1
    exact .base (.lst e2)
  | kls s t =>
    rcases s with ⟨o, s⟩ | ⟨o, its, n, e, c, _⟩
    · exact .base (.frz s)
    · exact .kList e c
  | dct e => exact .base (.dK e)
theorem VR.lt {ρ : List Addr} {M : MH} {H : Hp} {n : Nat} {x : V} (h : HR K ρ M H) (r : VR K ρ H (.lst n) x) : n < M.length := by
  cases r with
  | lst hn =>
    have := (List.getElem?_eq_some_iff.mp hn).1
    rw [h.len] at this
    exact this
theorem isi_any (v : MV) (ts : List Ty) : isiM v ts = ts.any (isT (tyOfM v)) := by
  unfold isiM isT
  cases tyOfM v with
  | none => simp
  | some t => rfl
theorem kit_any (t : Option Ty) : ∀ ts : List Ty, PySem.W.kitAny K (.type (tyN t)) (ts.map fun c => .type (tyS c)) = some (ts.any (isT t))
  | [] => rfl
  | c :: ts => by
    refine kitAny_cons (kit_table t c) (fun hb => ?_) fun hb => ?_
    · rw [List.any_cons, hb, Bool.false_or]
      exact kit_any t ts
    · rw [List.any_cons, hb, Bool.true_or]
theorem isi_one {ρ : List Addr} {M : MH} {H : Hp} {u : MV} {x : V} {c : Ty} {Q : VK} (h : HR K ρ M H) (r : VR K ρ H u x) (q : Q (.bl (isiM u [c])) H) : rIsi K [x, .ty (tyS c)] H Q := by
  refine ⟨x, .ty (tyS c), _, _, isiM u [c], rfl, .ty _, VR.ty h (fun n e => by subst e; exact r.lt h) r, ?_, q⟩
  rw [isi_any, kit_table]
  simp
theorem cls_all : ∀ ts : List Ty, Paired ClsV (ts.map fun c => V.ty (tyS c)) (ts.map fun c => Value.type (tyS c))
  | [] => .nil
  | _ :: ts => .cons (.ty _) (cls_all ts)
theorem isi_many {ρ : List Addr} {M : MH} {H : Hp} {u : MV} {x : V} {ts : List Ty} {tp : Addr} {Q : VK} (h : HR K ρ M H) (r : VR K ρ H u x) (ht : H tp = some (.tup (ts.map fun c => V.ty (tyS c)))) (q : Q (.bl (isiM u ts)) H) : rIsiT K [x, .ref tp] H Q := by
  refine ⟨x, tp, _, _, _, isiM u ts, rfl, ht, cls_all ts, VR.ty h (fun n e => by subst e; exact r.lt h) r, ?_, q⟩
  rw [isi_any]
  exact kit_any _ ts

/-! ### methods, stores -/
theorem rm_append : RM1 K rAppend (mtop .append) := by
  intro ρ M H u us x xs w M' Q h ru r e q
  unfold mtop at e
  split at e <;> first | (cases e; done) | skip
  all_goals (try (rename_i hh; cases hh; done))
  rename_i n v
  split at e <;> first | (cases e; done) | skip
  rename_i ys e1
  split at e <;> first | (cases e; done) | skip
  rename_i hl
  obtain ⟨rfl, rfl⟩ := ok_inj e
  obtain ⟨y, rfl, ry⟩ := vrs1 r
  obtain ⟨a, vs, rfl, hn, ha, t⟩ := ru.lstAt h e1
  refine ⟨a, vs, y, rfl, rfl, ha, ?_, ?_⟩
  · rw [← t.length]
    exact lim_lt hl
  · obtain ⟨h1, h2⟩ := h.set hn (t.app (.cons ry .nil))
    exact q _ _ _ h1 h2 .non
theorem rm_pop : RM1 K rPop (mtop .pop) := by
  intro ρ M H u us x xs w M' Q h ru r e q
  unfold mtop at e
  split at e <;> first | (cases e; done) | skip
  all_goals (try (rename_i hh; cases hh; done))
  rename_i n
  split at e <;> first | (cases e; done) | skip
  rename_i ys e1
  split at e <;> first | (cases e; done) | skip
  rename_i z e2
  obtain ⟨rfl, rfl⟩ := ok_inj e
  cases vrs0 r
  obtain ⟨a, vs, rfl, hn, ha, t⟩ := ru.lstAt h e1
  obtain ⟨y, e3, ry⟩ := t.get e2
  rw [t.length] at e3
  obtain ⟨h1, h2⟩ := h.set hn t.dropLast
  exact ⟨a, vs, y, rfl, rfl, ha, e3, q _ _ _ h1 h2 (ry.mo h h2)⟩
theorem put_ok {ρ : List Addr} {M M' : MH} {H : Hp} {u k v : MV} {x y z : V} {Q : Hp → Prop} {un : Unit} (h : HR K ρ M H) (ru : VR K ρ H u x) (rk : VR K ρ H k y) (rv : VR K ρ H v z) (e : putop u k v M = .ok un M') (q : KQu K ρ H M' Q) : rSetL x y z H Q := by
  unfold putop at e
  split at e <;> first | (cases e; done) | skip
  rename_i n i
  split at e <;> first | (cases e; done) | skip
  rename_i us e1
  split at e <;> first | (cases e; done) | skip
  rename_i j e2
  obtain ⟨_, rfl⟩ := ok_inj e
  obtain ⟨a, vs, rfl, hn, ha, t⟩ := ru.lstAt h e1
  cases rk
  obtain ⟨h1, h2⟩ := h.set hn (VRs.set rv j t)
  refine ⟨a, vs, i, j, rfl, rfl, ha, ?_, q _ _ h1 h2⟩
  rw [← t.length]
  exact e2
def ipM : BOp → TIp
  | .add => ipI fun i j => i + j
  | .sub => ipI fun i j => i - j
  | _ => fun _ _ _ _ => False
theorem ip_ok {ρ : List Addr} {M M' : MH} {H : Hp} {o : BOp} {u v w : MV} {x y : V} {Q : VK} (h : HR K ρ M H) (ru : VR K ρ H u x) (rv : VR K ρ H v y) (e : augop o u v M = .ok w M') (q : KQ K ρ H w M' Q) : ipM o x y H Q := by
  unfold augop at e
  split at e <;> first | (cases e; done) | skip
  · obtain ⟨rfl, rfl⟩ := ok_inj e
    cases ru
    cases rv
    exact ⟨_, _, rfl, rfl, q _ _ _ h .refl (.int _)⟩
  · obtain ⟨rfl, rfl⟩ := ok_inj e
    cases ru
    cases rv
    exact ⟨_, _, rfl, rfl, q _ _ _ h .refl (.int _)⟩
end
end MP

set_option Elab.async false
set_option linter.all false
set_option maxRecDepth 100000
set_option autoImplicit false
set_option maxHeartbeats 1000000
/-! MP, part d: the small machine's expressions as readings of the layer. -/
namespace MP
open PySem PySem.Spec PyProof.Rows L2

/-- the slots: what the small machine knows of a slot stands there -/
structure SR (K : PySem.W.Frag) (ρ : List Addr) (H : Hp) (m : Sl) (σ : L2.St) : Prop where
  len : m.length = σ.length
  knows : ∀ (i : Nat) (u : MV), m[i]? = some (some u) → ∃ v : V, σ[i]? = some (some v) ∧ VR K ρ H u v
def SE (K : PySem.W.Frag) (C : Cf) (t : TE) (e : E) : Prop := ∀ σ H ρ m M v M' Q, HR K ρ M H → SR K ρ H m σ → ev C e m M = .ok v M' → KQ K ρ H v M' Q → t σ H Q
def SA (K : PySem.W.Frag) (C : Cf) (t : TA) (e : Es) : Prop := ∀ σ H ρ m M v M' Q, HR K ρ M H → SR K ρ H m σ → evs C e m M = .ok v M' → KQs K ρ H v M' Q → t σ H Q
def ST (K : PySem.W.Frag) (C : Cf) (t : TT) (e : E) : Prop := ∀ σ H ρ m M b M' Q, HR K ρ M H → SR K ρ H m σ → ev C e m M = .ok (.bl b) M' → KQu K ρ H M' (Q b) → t σ H Q
section
variable {K : PySem.W.Frag} {C : Cf} {ρ ρ' : List Addr} {M : MH} {H H' : Hp} {m m' : Sl} {σ σ' : L2.St} {ta tb tc : TE} {tA tB tC' : TT} {a b c : E} {es ks : Es} {r r' : R2}
theorem SR.mo (s : SR K ρ H m σ) (h : HR K ρ M H) (p : Pst ρ H ρ' H') : SR K ρ' H' m σ := ⟨s.len, fun i u e => by
  obtain ⟨v, h1, h2⟩ := s.knows i u e
  exact ⟨v, h1, h2.mo h p⟩⟩
theorem SR.set {i : Nat} {u : MV} {v : V} (s : SR K ρ H m σ) (r : VR K ρ H u v) : SR K ρ H (m.set i (some u)) (σ.set i (some v)) := by
  refine ⟨by rw [List.length_set, List.length_set]; exact s.len, fun k w e => ?_⟩
  by_cases hk : i = k
  · subst hk
    have hl : i < m.length := by
      have := (List.getElem?_eq_some_iff.mp e).1
      rwa [List.length_set] at this
    rw [List.getElem?_set_self hl] at e
    cases e
    exact ⟨v, List.getElem?_set_self (by rw [← s.len]; exact hl), r⟩
  · rw [List.getElem?_set_ne hk] at e
    obtain ⟨x, h1, h2⟩ := s.knows k w e
    exact ⟨x, by rw [List.getElem?_set_ne hk]; exact h1, h2⟩
theorem wip_length (m : Sl) : ∀ is : List Nat, (wip m is).length = m.length
  | [] => rfl
  | i :: is => by
    unfold wip
    rw [List.length_set, wip_length m is]
theorem wip_some {i : Nat} {u : MV} : ∀ {is : List Nat}, (wip m is)[i]? = some (some u) → m[i]? = some (some u) ∧ i ∉ is
  | [], h => ⟨h, List.not_mem_nil⟩
  | j :: is, h => by
    unfold wip at h
    by_cases hj : j = i
    · subst hj
      have hl : j < (wip m is).length := by
        have := (List.getElem?_eq_some_iff.mp h).1
        rwa [List.length_set] at this
      rw [List.getElem?_set_self hl] at h
      cases h
    · rw [List.getElem?_set_ne hj] at h
      obtain ⟨h1, h2⟩ := wip_some h
      exact ⟨h1, fun z => (List.mem_cons.mp z).elim (fun q => hj q.symm) h2⟩
theorem wipe_get (σ : L2.St) (k : Nat) : ∀ is : List Nat, (wipe σ is)[k]? = if k ∈ is then (σ[k]?).map (fun _ => none) else σ[k]?
  | [] => by
    unfold wipe
    rw [if_neg (by simp)]
  | j :: is => by
    unfold wipe
    by_cases hj : j = k
    · subst hj
      rw [if_pos (by simp)]
      by_cases hl : j < (wipe σ is).length
      · rw [List.getElem?_set_self hl]
        rw [wipe_length] at hl
        rw [List.getElem?_eq_getElem hl]
        rfl
      · rw [List.getElem?_eq_none (by rw [List.length_set]; omega)]
        rw [wipe_length] at hl
        rw [List.getElem?_eq_none (by omega)]
        rfl
    · rw [List.getElem?_set_ne hj, wipe_get σ k is]
      have e : k ∈ j :: is ↔ k ∈ is := by
        rw [List.mem_cons]
        exact ⟨fun z => z.elim (fun q => absurd q.symm hj) id, .inr⟩
      by_cases hk : k ∈ is
      · rw [if_pos hk, if_pos (e.mpr hk)]
      · rw [if_neg hk, if_neg (fun z => hk (e.mp z))]
theorem SR.wip (s : SR K ρ H m σ) (is : List Nat) : SR K ρ H (wip m is) (wipe σ is) := by
  refine ⟨by rw [wip_length, wipe_length]; exact s.len, fun i u e => ?_⟩
  obtain ⟨h1, h2⟩ := wip_some e
  obtain ⟨v, h3, h4⟩ := s.knows i u h1
  exact ⟨v, by rw [wipe_get, if_neg h2]; exact h3, h4⟩
/-- two states that part at most at these slots -/
structure Alike (is : List Nat) (σ σ' : L2.St) : Prop where
  len : σ'.length = σ.length
  out : ∀ k, k ∉ is → σ'[k]? = σ[k]?
theorem Alike.wipe_eq {is : List Nat} (h : Alike is (wipe σ is) σ') : wipe σ' is = wipe σ is := by
  apply List.ext_getElem?
  intro k
  rw [wipe_get, wipe_get]
  have hl := h.len
  rw [wipe_length] at hl
  by_cases hk : k ∈ is
  · rw [if_pos hk, if_pos hk]
    by_cases hk2 : k < σ.length
    · rw [List.getElem?_eq_getElem (by omega), List.getElem?_eq_getElem hk2]
      rfl
    · rw [List.getElem?_eq_none (by omega), List.getElem?_eq_none (by omega)]
  · rw [if_neg hk, if_neg hk, h.out k hk, wipe_get, if_neg hk]

/-! ### expressions -/
theorem se_var {i : Nat} : SE K C (tVar i) (.var i) := by
  intro σ H ρ m M v M' Q h s e q
  simp only [ev] at e
  split at e
  · rename_i u e1
    obtain ⟨rfl, rfl⟩ := ok_inj e
    obtain ⟨x, h1, h2⟩ := s.knows i _ e1
    exact ⟨x, h1, q _ _ _ h .refl h2⟩
  · cases e
theorem se_cst {v : MV} {x : V} (hv : ∀ ρ H, VR K ρ H v x) : SE K C (tC x) (.cst v) := by
  intro σ H ρ m M w M' Q h s e q
  simp only [ev] at e
  obtain ⟨rfl, rfl⟩ := ok_inj e
  exact q _ _ _ h .refl (hv _ _)
theorem se_glo {k : Nat} {v : MV} {x : V} (hg : C.glo k = some v) (hv : ∀ ρ H, VR K ρ H v x) : SE K C (tC x) (.glo k) := by
  intro σ H ρ m M w M' Q h s e q
  simp only [ev, hg] at e
  obtain ⟨rfl, rfl⟩ := ok_inj e
  exact q _ _ _ h .refl (hv _ _)
theorem se_dnw : SE K C tDNewK .dnw := by
  intro σ H ρ m M w M' Q h s e q
  simp only [ev] at e
  obtain ⟨rfl, rfl⟩ := ok_inj e
  intro p hp
  obtain ⟨h1, h2⟩ := h.newO (o := .dK []) hp
  exact q _ _ _ h1 h2 (.dct upd_same)
/-- two in a row -/
theorem two {v : MV} {M' : MH} {R : V → V → Hp → Prop} {f : MV → MV → MH → Re MV} (ha : SE K C ta a) (hb : SE K C tb b) (h : HR K ρ M H) (s : SR K ρ H m σ) (e : ((ev C a m M).bnd fun u M1 => (ev C b m M1).bnd fun v M2 => f u v M2) = .ok v M')
    (k : ∀ u w M2 x y H2 ρ2, HR K ρ2 M2 H2 → Pst ρ H ρ2 H2 → VR K ρ2 H2 u x → VR K ρ2 H2 w y → f u w M2 = .ok v M' → R x y H2) : ta σ H fun x H1 => tb σ H1 fun y H2 => R x y H2 := by
  obtain ⟨u, M1, e1, e⟩ := bnd_ok e
  obtain ⟨w, M2, e2, e3⟩ := bnd_ok e
  refine ha σ H ρ m M u M1 _ h s e1 fun x H1 ρ1 h1 p1 r1 => ?_
  refine hb σ H1 ρ1 m M1 w M2 _ h1 (s.mo h p1) e2 fun y H2 ρ2 h2 p2 r2 => ?_
  exact k u w M2 x y H2 ρ2 h2 (p1.trans p2) (r1.mo h1 p2) r2 e3
theorem KQ.of {v : MV} {M' : MH} {Q : VK} (q : KQ K ρ H v M' Q) (p : Pst ρ H ρ' H') : KQ K ρ' H' v M' Q := fun x H2 ρ2 h2 p2 r => q x H2 ρ2 h2 (p.trans p2) r
theorem se_bin {o : BOp} (hr : RO K r (binop o)) (ha : SE K C ta a) (hb : SE K C tb b) : SE K C (tOp r ta tb) (.bin o a b) := by
  intro σ H ρ m M v M' Q h s e q
  simp only [ev] at e
  exact two ha hb h s e fun u w M2 x y H2 ρ2 h2 p2 ru rw e3 => hr _ _ _ _ _ _ _ _ _ _ h2 ru rw e3 (KQ.of q p2)
theorem se_cmp {o : COp} (hr : RO K r (cmpop o)) (ha : SE K C ta a) (hb : SE K C tb b) : SE K C (tOp r ta tb) (.cmp o a b) := by
  intro σ H ρ m M v M' Q h s e q
  simp only [ev] at e
  exact two ha hb h s e fun u w M2 x y H2 ρ2 h2 p2 ru rw e3 => hr _ _ _ _ _ _ _ _ _ _ h2 ru rw e3 (KQ.of q p2)
theorem st_of_se (ha : SE K C ta a) : ST K C (tTest ta) a := by
  intro σ H ρ m M v M' Q h s e q
  refine ha σ H ρ m M _ M' _ h s e fun x H1 ρ1 h1 p1 r1 => ?_
  cases r1
  exact ⟨v, rfl, q _ _ h1 p1⟩
theorem se_idx (ha : SE K C ta a) (hb : SE K C tb b) : SE K C (tOp (rIxM K) ta tb) (.idx a b) := by
  intro σ H ρ m M v M' Q h s e q
  simp only [ev] at e
  exact two ha hb h s e fun u w M2 x y H2 ρ2 h2 p2 ru rw e3 => ro_idx _ _ _ _ _ _ _ _ _ _ h2 ru rw e3 (KQ.of q p2)
theorem bl_cases {x : MV} {N : MH} {β : Type} {f g : Re β} {z : β} {N' : MH} (e : (match x with
    | .bl true => f
    | .bl false => g
    | _ => Re.bad) = .ok z N') : (x = .bl true ∧ f = .ok z N') ∨ (x = .bl false ∧ g = .ok z N') := by
  split at e
  · exact .inl ⟨rfl, e⟩
  · exact .inr ⟨rfl, e⟩
  · cases e
theorem bl_cases' {x : MV} {N : MH} {β : Type} {f g : Re β} {z : β} {N' : MH} (e : (match x with
    | .bl false => g
    | .bl true => f
    | _ => Re.bad) = .ok z N') : (x = .bl true ∧ f = .ok z N') ∨ (x = .bl false ∧ g = .ok z N') := by
  split at e
  · exact .inr ⟨rfl, e⟩
  · exact .inl ⟨rfl, e⟩
  · cases e
theorem se_chn {o p : COp} (hr : RO K r (cmpop o)) (hr' : RO K r' (cmpop p)) (ha : SE K C ta a) (hb : SE K C tb b) (hc : SE K C tc c) : SE K C (tChain r r' ta tb tc) (.chn o p a b c) := by
  intro σ H ρ m M v M' Q h s e q
  simp only [ev] at e
  refine two (R := fun x y H2 => r x y H2 fun z H3 => ∃ k, z = .bl k ∧ if k = true then tc σ H3 fun w H4 => r' y w H4 Q else Q (.bl false) H3) (f := fun u v M2 => (cmpop o u v M2).bnd fun x M3 => match x with
    | .bl true => (ev C c m M3).bnd fun z M4 => cmpop p v z M4
    | .bl false => .ok (.bl false) M3
    | _ => .bad) ha hb h s e fun u w M2 x y H2 ρ2 h2 p2 ru rw e3 => ?_
  obtain ⟨z, M3, e4, e5⟩ := bnd_ok e3
  refine hr _ _ _ _ _ _ _ _ _ _ h2 ru rw e4 fun zz H3 ρ3 h3 p3 rz => ?_
  rcases bl_cases (N := M3) e5 with ⟨rfl, e5⟩ | ⟨rfl, e5⟩
  · cases rz
    refine ⟨true, rfl, ?_⟩
    rw [if_pos rfl]
    obtain ⟨w2, M4, e6, e7⟩ := bnd_ok e5
    refine hc σ H3 ρ3 m M3 w2 M4 _ h3 (s.mo h (p2.trans p3)) e6 fun y2 H4 ρ4 h4 p4 r4 => ?_
    exact hr' _ _ _ _ _ _ _ _ _ _ h4 (rw.mo h2 (p3.trans p4)) r4 e7 (KQ.of q ((p2.trans p3).trans p4))
  · cases rz
    refine ⟨false, rfl, ?_⟩
    rw [if_neg (by decide)]
    obtain ⟨rfl, rfl⟩ := ok_inj e5
    exact q _ _ _ h3 (p2.trans p3) (.bl _)
theorem se_and (ha : SE K C ta a) (hb : SE K C tb b) : SE K C (tAndV ta tb) (.and a b) := by
  intro σ H ρ m M v M' Q h s e q
  simp only [ev] at e
  obtain ⟨u, M1, e1, e⟩ := bnd_ok e
  refine ha σ H ρ m M u M1 _ h s e1 fun x H1 ρ1 h1 p1 r1 => ?_
  rcases bl_cases (N := M1) e with ⟨rfl, e⟩ | ⟨rfl, e⟩
  · cases r1
    refine ⟨true, rfl, ?_⟩
    rw [if_pos rfl]
    exact hb σ H1 ρ1 m M1 v M' _ h1 (s.mo h p1) e (KQ.of q p1)
  · cases r1
    refine ⟨false, rfl, ?_⟩
    rw [if_neg (by decide)]
    obtain ⟨rfl, rfl⟩ := ok_inj e
    exact q _ _ _ h1 p1 (.bl _)
theorem se_or (ha : SE K C ta a) (hb : SE K C tb b) : SE K C (tOrV ta tb) (.or a b) := by
  intro σ H ρ m M v M' Q h s e q
  simp only [ev] at e
  obtain ⟨u, M1, e1, e⟩ := bnd_ok e
  refine ha σ H ρ m M u M1 _ h s e1 fun x H1 ρ1 h1 p1 r1 => ?_
  rcases bl_cases' (N := M1) e with ⟨rfl, e⟩ | ⟨rfl, e⟩
  · cases r1
    refine ⟨true, rfl, ?_⟩
    rw [if_pos rfl]
    obtain ⟨rfl, rfl⟩ := ok_inj e
    exact q _ _ _ h1 p1 (.bl _)
  · cases r1
    refine ⟨false, rfl, ?_⟩
    rw [if_neg (by decide)]
    exact hb σ H1 ρ1 m M1 v M' _ h1 (s.mo h p1) e (KQ.of q p1)
theorem not_ok {u v : MV} {M1 M' : MH} (e : (match u with
    | .bl b => Re.ok (MV.bl (!b)) M1
    | _ => Re.bad) = .ok v M') : ∃ b, u = .bl b ∧ v = .bl (!b) ∧ M' = M1 := by
  split at e
  · obtain ⟨rfl, rfl⟩ := ok_inj e
    exact ⟨_, rfl, rfl, rfl⟩
  · cases e
theorem se_not (ha : SE K C ta a) : SE K C (tNotV ta) (.not a) := by
  intro σ H ρ m M v M' Q h s e q
  simp only [ev] at e
  obtain ⟨u, M1, e1, e⟩ := bnd_ok e
  obtain ⟨b, rfl, rfl, rfl⟩ := not_ok e
  refine ha σ H ρ m M _ _ _ h s e1 fun x H1 ρ1 h1 p1 r1 => ?_
  cases r1
  exact ⟨b, rfl, q _ _ _ h1 p1 (.bl _)⟩
theorem neg_ok {u v : MV} {M M' : MH} (e : (match u with
    | .int i => Re.ok (.int (-i)) M
    | _ => .bad) = Re.ok v M') : ∃ i, u = .int i ∧ v = .int (-i) ∧ M = M' := by
  cases u <;> first
    | (cases e; done)
    | skip
  obtain ⟨h1, h2⟩ := ok_inj e
  exact ⟨_, rfl, h1.symm, h2⟩
theorem se_neg (ha : SE K C ta a) : SE K C (tUn (rU fun i => .int (-i)) ta) (.neg a) := by
  intro σ H ρ m M v M' Q h s e q
  simp only [ev] at e
  obtain ⟨u, M1, e1, e⟩ := bnd_ok e
  obtain ⟨b, rfl, rfl, rfl⟩ := neg_ok e
  refine ha σ H ρ m M _ _ _ h s e1 fun x H1 ρ1 h1 p1 r1 => ?_
  cases r1
  exact ⟨b, rfl, q _ _ _ h1 p1 (.int _)⟩
theorem se_ife (hc : ST K C tA c) (ha : SE K C ta a) (hb : SE K C tb b) : SE K C (tIf tA ta tb) (.ife c a b) := by
  intro σ H ρ m M v M' Q h s e q
  simp only [ev] at e
  obtain ⟨u, M1, e1, e⟩ := bnd_ok e
  rcases bl_cases (N := M1) e with ⟨rfl, e⟩ | ⟨rfl, e⟩
  · refine hc σ H ρ m M true M1 _ h s e1 fun H1 ρ1 h1 p1 => ?_
    rw [if_pos rfl]
    exact ha σ H1 ρ1 m M1 v M' _ h1 (s.mo h p1) e (KQ.of q p1)
  · refine hc σ H ρ m M false M1 _ h s e1 fun H1 ρ1 h1 p1 => ?_
    rw [if_neg (by decide)]
    exact hb σ H1 ρ1 m M1 v M' _ h1 (s.mo h p1) e (KQ.of q p1)
/-! ### tests -/
theorem st_and (ha : ST K C tA a) (hb : ST K C tB b) : ST K C (tAnd tA tB) (.and a b) := by
  intro σ H ρ m M v M' Q h s e q
  simp only [ev] at e
  obtain ⟨u, M1, e1, e⟩ := bnd_ok e
  rcases bl_cases (N := M1) e with ⟨rfl, e⟩ | ⟨rfl, e⟩
  · refine ha σ H ρ m M true M1 _ h s e1 fun H1 ρ1 h1 p1 => ?_
    rw [if_pos rfl]
    exact hb σ H1 ρ1 m M1 v M' _ h1 (s.mo h p1) e fun H2 ρ2 h2 p2 => q _ _ h2 (p1.trans p2)
  · refine ha σ H ρ m M false M1 _ h s e1 fun H1 ρ1 h1 p1 => ?_
    rw [if_neg (by decide)]
    obtain ⟨e2, rfl⟩ := ok_inj e
    cases e2
    exact q _ _ h1 p1
theorem st_or (ha : ST K C tA a) (hb : ST K C tB b) : ST K C (tOr tA tB) (.or a b) := by
  intro σ H ρ m M v M' Q h s e q
  simp only [ev] at e
  obtain ⟨u, M1, e1, e⟩ := bnd_ok e
  rcases bl_cases' (N := M1) e with ⟨rfl, e⟩ | ⟨rfl, e⟩
  · refine ha σ H ρ m M true M1 _ h s e1 fun H1 ρ1 h1 p1 => ?_
    rw [if_pos rfl]
    obtain ⟨e2, rfl⟩ := ok_inj e
    cases e2
    exact q _ _ h1 p1
  · refine ha σ H ρ m M false M1 _ h s e1 fun H1 ρ1 h1 p1 => ?_
    rw [if_neg (by decide)]
    exact hb σ H1 ρ1 m M1 v M' _ h1 (s.mo h p1) e fun H2 ρ2 h2 p2 => q _ _ h2 (p1.trans p2)
theorem st_not (ha : ST K C tA a) : ST K C (tNot tA) (.not a) := by
  intro σ H ρ m M v M' Q h s e q
  simp only [ev] at e
  obtain ⟨u, M1, e1, e⟩ := bnd_ok e
  obtain ⟨b, rfl, e2, rfl⟩ := not_ok e
  cases e2
  exact ha σ H ρ m M b _ _ h s e1 fun H1 ρ1 h1 p1 => q _ _ h1 p1

/-! ### lists of expressions -/
theorem sa_nil : SA K C tNil .nil := by
  intro σ H ρ m M v M' Q h s e q
  simp only [evs] at e
  obtain ⟨rfl, rfl⟩ := ok_inj e
  exact q _ _ _ h .refl .nil
theorem sa_cons {ts : TA} (ha : SE K C ta a) (hs : SA K C ts es) : SA K C (tCons ta ts) (.cons a es) := by
  intro σ H ρ m M v M' Q h s e q
  simp only [evs] at e
  obtain ⟨u, M1, e1, e⟩ := bnd_ok e
  obtain ⟨us, M2, e2, e3⟩ := bnd_ok e
  obtain ⟨rfl, rfl⟩ := ok_inj e3
  refine ha σ H ρ m M u M1 _ h s e1 fun x H1 ρ1 h1 p1 r1 => ?_
  refine hs σ H1 ρ1 m M1 us M2 _ h1 (s.mo h p1) e2 fun xs H2 ρ2 h2 p2 r2 => ?_
  exact q _ _ _ h2 (p1.trans p2) (.cons (r1.mo h1 p2) r2)
theorem se_tup {ts : TA} (hl : ∀ m M v M', evs C es m M = .ok v M' → v.length ≤ sizeLine) (hs : SA K C ts es) : SE K C (tTup ts) (.tup es) := by
  intro σ H ρ m M v M' Q h s e q
  simp only [ev] at e
  obtain ⟨us, M1, e1, e⟩ := bnd_ok e
  obtain ⟨rfl, rfl⟩ := ok_inj e
  refine hs σ H ρ m M us _ _ h s e1 fun xs H1 ρ1 h1 p1 r1 => ⟨by rw [← r1.length]; exact hl _ _ _ _ e1, fun p hp => ?_⟩
  obtain ⟨h2, p2⟩ := h1.newO (o := .tup xs) hp
  exact q _ _ _ h2 (p1.trans p2) (.tup (.of upd_same) (r1.mo h1 p2))
theorem se_lst {ts : TA} (hl : ∀ m M v M', evs C es m M = .ok v M' → v.length ≤ sizeLine) (hs : SA K C ts es) : SE K C (tLst ts) (.lst es) := by
  intro σ H ρ m M v M' Q h s e q
  simp only [ev] at e
  obtain ⟨us, M1, e1, e⟩ := bnd_ok e
  obtain ⟨rfl, rfl⟩ := ok_inj e
  refine hs σ H ρ m M us _ _ h s e1 fun xs H1 ρ1 h1 p1 r1 => ⟨by rw [← r1.length]; exact hl _ _ _ _ e1, fun p hp => ?_⟩
  obtain ⟨h2, p2, r2⟩ := h1.new hp r1
  exact q _ _ _ h2 (p1.trans p2) r2
def Es.len : Es → Nat
  | .nil => 0
  | .cons _ es => es.len + 1
theorem evs_len : ∀ (es : Es) (m : Sl) (M : MH) (v : List MV) (M' : MH), evs C es m M = .ok v M' → v.length = es.len
  | .nil, m, M, v, M', e => by
    simp only [evs] at e
    obtain ⟨rfl, rfl⟩ := ok_inj e
    rfl
  | .cons a es, m, M, v, M', e => by
    simp only [evs] at e
    obtain ⟨u, M1, e1, e⟩ := bnd_ok e
    obtain ⟨us, M2, e2, e3⟩ := bnd_ok e
    obtain ⟨rfl, rfl⟩ := ok_inj e3
    rw [List.length_cons, evs_len es _ _ _ _ e2]
    rfl
theorem se_blt {ts : TA} {o : Bt} {r : List V → Hp → VK → Prop} (hr : RC1 K r (btop o)) (hs : SA K C ts es) : SE K C (tCB r ts) (.blt o es) := by
  intro σ H ρ m M v M' Q h s e q
  simp only [ev] at e
  obtain ⟨us, M1, e1, e⟩ := bnd_ok e
  exact hs σ H ρ m M us M1 _ h s e1 fun xs H1 ρ1 h1 p1 r1 => hr _ _ _ _ _ _ _ _ h1 r1 e (KQ.of q p1)
theorem se_isi1 {t : Ty} (ha : SE K C ta a) : SE K C (tCB (rIsi K) (tCons ta (tCons (tC (.ty (tyS t))) tNil))) (.isi a [t] false) := by
  intro σ H ρ m M v M' Q h s e q
  simp only [ev] at e
  obtain ⟨u, M1, e1, e⟩ := bnd_ok e
  obtain ⟨rfl, rfl⟩ := ok_inj e
  exact ha σ H ρ m M u _ _ h s e1 fun x H1 ρ1 h1 p1 r1 => isi_one h1 r1 (q _ _ _ h1 p1 (.bl _))
def tTys : List Ty → TA
  | [] => tNil
  | t :: ts => tCons (tC (.ty (tyS t))) (tTys ts)
theorem tTys_run : ∀ (ts : List Ty) {σ : L2.St} {H : Hp} {Q : List V → Hp → Prop}, Q (ts.map fun c => V.ty (tyS c)) H → tTys ts σ H Q
  | [], _, _, _, q => q
  | _ :: ts, _, _, _, q => tTys_run ts q
theorem se_isiT {ts : List Ty} (hl : ts.length ≤ sizeLine) (ha : SE K C ta a) : SE K C (tCB (rIsiT K) (tCons ta (tCons (tTup (tTys ts)) tNil))) (.isi a ts true) := by
  intro σ H ρ m M v M' Q h s e q
  simp only [ev] at e
  obtain ⟨u, M1, e1, e⟩ := bnd_ok e
  obtain ⟨rfl, rfl⟩ := ok_inj e
  refine ha σ H ρ m M u _ _ h s e1 fun x H1 ρ1 h1 p1 r1 => ?_
  refine tTys_run ts ⟨by rw [List.length_map]; exact hl, fun p hp => ?_⟩
  obtain ⟨h2, p2⟩ := h1.newO (o := .tup (ts.map fun c => V.ty (tyS c))) hp
  exact isi_many h2 (r1.mo h1 p2) upd_same (q _ _ _ h2 (p1.trans p2) (.bl _))
theorem se_rev (ha : SE K C ta a) : SE K C (tRevL K ta) (.rev a) := by
  intro σ H ρ m M v M' Q h s e q
  simp only [ev] at e
  obtain ⟨u, M1, e1, e⟩ := bnd_ok e
  exact ha σ H ρ m M u _ _ h s e1 fun x H1 ρ1 h1 p1 r1 => rev_ok h1 r1 e (KQ.of q p1)
/-- a slice's bound -/
def SO (K : PySem.W.Frag) (C : Cf) (t : TO) (o : Option E) : Prop := ∀ σ H ρ m M v M' (Q : Option Int → Hp → Prop), HR K ρ M H → SR K ρ H m σ → (match o with
  | none => Re.ok none M
  | some l => (ev C l m M).bnd asBnd) = .ok v M' → KQu K ρ H M' (Q v) → t σ H Q
theorem so_none : SO K C tNoPart none := by
  intro σ H ρ m M v M' Q h s e q
  obtain ⟨rfl, rfl⟩ := ok_inj e
  exact q _ _ h .refl
theorem so_some (ha : SE K C ta a) : SO K C (tPart ta) (some a) := by
  intro σ H ρ m M v M' Q h s e q
  obtain ⟨u, M1, e1, e⟩ := bnd_ok e
  refine ha σ H ρ m M u _ _ h s e1 fun x H1 ρ1 h1 p1 r1 => ?_
  cases r1 <;> try (cases e; done)
  obtain ⟨rfl, rfl⟩ := ok_inj e
  exact ⟨_, rfl, q _ _ h1 p1⟩
theorem se_slc {lo hi : Option E} {tl th : TO} (ha : SE K C ta a) (hl : SO K C tl lo) (hh : SO K C th hi) : SE K C (tSl (rSlL K) ta tl th) (.slc a lo hi) := by
  intro σ H ρ m M v M' Q h s e q
  simp only [ev] at e
  obtain ⟨u, M1, e1, e⟩ := bnd_ok e
  obtain ⟨l, M2, e2, e⟩ := bnd_ok e
  obtain ⟨k, M3, e3, e⟩ := bnd_ok e
  refine ha σ H ρ m M u _ _ h s e1 fun x H1 ρ1 h1 p1 r1 => ?_
  refine hl σ H1 ρ1 m M1 l M2 _ h1 (s.mo h p1) e2 fun H2 ρ2 h2 p2 => ?_
  refine hh σ H2 ρ2 m M2 k M3 _ h2 (s.mo h (p1.trans p2)) e3 fun H3 ρ3 h3 p3 => ?_
  exact slc_ok h3 (r1.mo h1 (p2.trans p3)) e (KQ.of q ((p1.trans p2).trans p3))
theorem se_mth {o : Mt} {ts : TA} {r : V → List V → Hp → VK → Prop} (hr : RM1 K r (mtop o)) (hty : ∀ u us M v M', mtop o u us M = .ok v M' → ∃ n, u = .lst n) (ha : SE K C ta a) (hs : SA K C ts es) : SE K C (tBM K "list" r ta ts) (.mth o a es) := by
  intro σ H ρ m M v M' Q h s e q
  simp only [ev] at e
  obtain ⟨u, M1, e1, e⟩ := bnd_ok e
  obtain ⟨us, M2, e2, e3⟩ := bnd_ok e
  refine ha σ H ρ m M u _ _ h s e1 fun x H1 ρ1 h1 p1 r1 => ⟨?_, ?_⟩
  · obtain ⟨n, rfl⟩ := hty _ _ _ _ _ e3
    have hl := r1.lt h1
    obtain ⟨b, vs, q1, q2, _⟩ := h1.lies n M1[n] (List.getElem?_eq_getElem hl)
    cases r1 with
    | lst hn =>
      rw [hn] at q1
      cases q1
      exact .inl ⟨rfl, _, .of q2⟩
  · refine hs σ H1 ρ1 m M1 us M2 _ h1 (s.mo h p1) e2 fun xs H2 ρ2 h2 p2 r2 => ?_
    exact hr _ _ _ _ _ _ _ _ _ _ h2 (r1.mo h1 p2) r2 e3 (KQ.of q (p1.trans p2))
end
end MP

set_option Elab.async false
set_option linter.all false
set_option maxRecDepth 100000
set_option autoImplicit false
set_option maxHeartbeats 1000000
/-! MP, part e: what is walked; targets; comprehensions. -/
namespace MP
open PySem PySem.Spec PyProof.Rows L2

/-- a small source walks as the layer's iterator does -/
structure SJ (K : PySem.W.Frag) (s : Src) (J : L2.It) (ρ0 : List Addr) (H0 : Hp) : Prop where
  stop : ∀ (ρ : List Addr) (M : MH) (H : Hp) (i : Nat), HR K ρ M H → Pst ρ0 H0 ρ H → s.stop M i = true → J.stop i H
  go : ∀ (ρ : List Addr) (M : MH) (H : Hp) (i : Nat) (x : MV), HR K ρ M H → Pst ρ0 H0 ρ H → s.item M i = some x → J.go i H ∧ ∀ v H', J.yld i H v H' → HR K ρ M H' ∧ Pst ρ H ρ H' ∧ VR K ρ H' x v
section
variable {K : PySem.W.Frag} {C : Cf} {ρ ρ' ρ0 : List Addr} {M M0 : MH} {H H' H0 : Hp} {m m' : Sl} {σ σ' : L2.St}
theorem items_ref {u : MV} {us : List MV} {a : Addr} (h : HR K ρ M H) (r : VR K ρ H u (.ref a)) (e : itemsL M u = some us) : ∃ vs, SqL K H a vs ∧ VRs K ρ H us vs := by
  obtain ⟨b, vs, e1, s, t⟩ := r.items h e
  cases e1
  exact ⟨vs, s, t⟩
theorem sj_ls {u : MV} {a : Addr} (h0 : HR K ρ0 M0 H0) (r : VR K ρ0 H0 u (.ref a)) : SJ K (.ls u) (Itl K a) ρ0 H0 where
  stop := fun ρ M H i h p e => by
    simp only [Src.stop] at e
    split at e
    · rename_i us e1
      obtain ⟨vs, s, t⟩ := items_ref h (r.mo h0 p) e1
      exact ⟨vs, s, by rw [← t.length]; exact of_decide_eq_true e⟩
    · cases e
  go := fun ρ M H i x h p e => by
    obtain ⟨us, e1, e2⟩ := Option.bind_eq_some_iff.mp e
    obtain ⟨vs, s, t⟩ := items_ref h (r.mo h0 p) e1
    obtain ⟨v, e3, rv⟩ := t.get e2
    refine ⟨⟨vs, v, s, e3⟩, fun w H' y => ?_⟩
    obtain ⟨rfl, y⟩ := y
    have e4 := y vs s
    rw [e3] at e4
    cases e4
    exact ⟨h, .refl, rv⟩
theorem sj_tp {us : List MV} {vs : List V} {a : Addr} (h0 : HR K ρ0 M0 H0) (s : SqT K H0 a vs) (t : VRs K ρ0 H0 us vs) : SJ K (.tp us) (Itt K a) ρ0 H0 where
  stop := fun ρ M H i h p e => ⟨vs, h0.sqt p s, by rw [← t.length]; exact of_decide_eq_true e⟩
  go := fun ρ M H i x h p e => by
    obtain ⟨v, e3, rv⟩ := (t.mo h0 p).get e
    refine ⟨⟨vs, v, h0.sqt p s, e3⟩, fun w H' y => ?_⟩
    obtain ⟨rfl, y⟩ := y
    have e4 := y vs (h0.sqt p s)
    rw [e3] at e4
    cases e4
    exact ⟨h, .refl, rv⟩
theorem sj_rg {lo : Int} {n : Nat} : SJ K (.rg lo n) (Itr lo n) ρ0 H0 where
  stop := fun ρ M H i h p e => (show n ≤ i from of_decide_eq_true e)
  go := fun ρ M H i x h p e => by
    simp only [Src.item] at e
    split at e
    · rename_i hl
      cases e
      refine ⟨hl, fun w H' y => ?_⟩
      obtain ⟨rfl, rfl⟩ := y
      exact ⟨h, .refl, .int _⟩
    · cases e
theorem pair_new {x y : MV} {v w : V} {T : Addr} (h : HR K ρ M H) (hT : H T = none) (rx : VR K ρ H x v) (ry : VR K ρ H y w) : HR K ρ M (upd H T (.tup [v, w])) ∧ Pst ρ H ρ (upd H T (.tup [v, w])) ∧ VR K ρ (upd H T (.tup [v, w])) (.tup [x, y]) (.ref T) := by
  obtain ⟨h1, p1⟩ := h.newO (o := .tup [v, w]) hT
  exact ⟨h1, p1, .tup (.of upd_same) (.cons (rx.mo h p1) (.cons (ry.mo h p1) .nil))⟩
theorem sj_zl {u w : MV} {a b : Addr} (h0 : HR K ρ0 M0 H0) (r : VR K ρ0 H0 u (.ref a)) (r2 : VR K ρ0 H0 w (.ref b)) : SJ K (.zl u w) (Itz K a b) ρ0 H0 where
  stop := fun ρ M H i h p e => by
    simp only [Src.stop] at e
    split at e
    · rename_i us ws e1 e2
      obtain ⟨vs, s, t⟩ := items_ref h (r.mo h0 p) e1
      obtain ⟨zs, s2, t2⟩ := items_ref h (r2.mo h0 p) e2
      refine ⟨vs, zs, s, s2, ?_⟩
      rw [← t.length, ← t2.length]
      rcases Bool.or_eq_true_iff.mp e with e | e
      · exact .inl (of_decide_eq_true e)
      · exact .inr (of_decide_eq_true e)
    · cases e
  go := fun ρ M H i x h p e => by
    simp only [Src.item] at e
    split at e
    · rename_i x1 y1 e1 e2
      cases e
      obtain ⟨us, q1, q2⟩ := Option.bind_eq_some_iff.mp e1
      obtain ⟨ws, q3, q4⟩ := Option.bind_eq_some_iff.mp e2
      obtain ⟨vs, s, t⟩ := items_ref h (r.mo h0 p) q1
      obtain ⟨zs, s2, t2⟩ := items_ref h (r2.mo h0 p) q3
      obtain ⟨v, e3, rv⟩ := t.get q2
      obtain ⟨z, e4, rz⟩ := t2.get q4
      refine ⟨⟨vs, zs, v, z, s, s2, e3, e4⟩, fun w' H' y => ?_⟩
      obtain ⟨T, v', z', rfl, hT, rfl, f1, f2⟩ := y
      have g1 := f1 vs s
      have g2 := f2 zs s2
      rw [e3] at g1
      rw [e4] at g2
      cases g1
      cases g2
      exact pair_new h hT rv rz
    · cases e
theorem sj_zt {us ws : List MV} {vs zs : List V} {a b : Addr} (h0 : HR K ρ0 M0 H0) (s : SqT K H0 a vs) (t : VRs K ρ0 H0 us vs) (s2 : SqT K H0 b zs) (t2 : VRs K ρ0 H0 ws zs) : SJ K (.zt us ws) (RZ.ItzT K a b) ρ0 H0 where
  stop := fun ρ M H i h p e => by
    refine ⟨vs, zs, h0.sqt p s, h0.sqt p s2, ?_⟩
    rw [← t.length, ← t2.length]
    rcases Bool.or_eq_true_iff.mp e with e | e
    · exact .inl (of_decide_eq_true e)
    · exact .inr (of_decide_eq_true e)
  go := fun ρ M H i x h p e => by
    simp only [Src.item] at e
    split at e
    · rename_i x1 y1 q2 q4
      cases e
      obtain ⟨v, e3, rv⟩ := (t.mo h0 p).get q2
      obtain ⟨z, e4, rz⟩ := (t2.mo h0 p).get q4
      refine ⟨⟨vs, zs, v, z, h0.sqt p s, h0.sqt p s2, e3, e4⟩, fun w' H' y => ?_⟩
      obtain ⟨T, v', z', rfl, hT, rfl, f1, f2⟩ := y
      have g1 := f1 vs (h0.sqt p s)
      have g2 := f2 zs (h0.sqt p s2)
      rw [e3] at g1
      rw [e4] at g2
      cases g1
      cases g2
      exact pair_new h hT rv rz
    · cases e
theorem sj_en {u : MV} {a : Addr} (h0 : HR K ρ0 M0 H0) (r : VR K ρ0 H0 u (.ref a)) : SJ K (.en u) (Ite K a) ρ0 H0 where
  stop := fun ρ M H i h p e => by
    simp only [Src.stop] at e
    split at e
    · rename_i us e1
      obtain ⟨vs, s, t⟩ := items_ref h (r.mo h0 p) e1
      exact ⟨vs, s, by rw [← t.length]; exact of_decide_eq_true e⟩
    · cases e
  go := fun ρ M H i x h p e => by
    simp only [Src.item] at e
    split at e
    · rename_i x1 e1
      cases e
      obtain ⟨us, q1, q2⟩ := Option.bind_eq_some_iff.mp e1
      obtain ⟨vs, s, t⟩ := items_ref h (r.mo h0 p) q1
      obtain ⟨v, e3, rv⟩ := t.get q2
      refine ⟨⟨vs, v, s, e3⟩, fun w' H' y => ?_⟩
      obtain ⟨T, v', rfl, hT, rfl, f1⟩ := y
      have g1 := f1 vs s
      rw [e3] at g1
      cases g1
      exact pair_new h hT (.int _) rv
    · cases e

/-! ### the walked expressions -/
def SI (K : PySem.W.Frag) (C : Cf) (wi : TI) (it : MP.It) : Prop := ∀ σ H ρ m M s M' (R : L2.It → Hp → Prop), HR K ρ M H → SR K ρ H m σ → evI C it m M = .ok s M' →
  (∀ J H' ρ', HR K ρ' M' H' → Pst ρ H ρ' H' → SJ K s J ρ' H' → R J H') → wi σ H R
variable {ta tb : TE} {a b : E}
def iSeqM (K : PySem.W.Frag) (tl : TE) : TI := fun σ H R => iList K tl σ H R ∨ iTup K tl σ H R
theorem pi_seqM {X : Cx} {tg l : Expr} {tl : TE} (hl : PE X l tl) : PI X tg l (iSeqM X.K tl) := ⟨fun pins s σ H R I h => h.elim (fun h => (pi_list hl).run pins s σ H R I h) fun h => (pi_tup hl).run pins s σ H R I h⟩
theorem si_seq (ha : SE K C ta a) : SI K C (iSeqM K ta) (.seq a) := by
  intro σ H ρ m M s M' R h sr e q
  simp only [evI] at e
  obtain ⟨u, M1, e1, e⟩ := bnd_ok e
  have hs : ∃ z, srcOf M1 u = some z ∧ z = s ∧ M' = M1 := by
    split at e
    · rename_i z e2
      obtain ⟨e3, e4⟩ := ok_inj e
      exact ⟨z, e2, e3, e4.symm⟩
    · cases e
  obtain ⟨z, e2, rfl, rfl⟩ := hs
  by_cases ht : ∃ us, u = .tup us
  · obtain ⟨us, rfl⟩ := ht
    cases e2
    refine .inr (ha σ H ρ m M _ _ _ h sr e1 fun x H1 ρ1 h1 p1 r1 => ?_)
    cases r1 with
    | tup s t => exact ⟨_, rfl, ⟨_, s⟩, q _ _ _ h1 p1 (sj_tp h1 s t)⟩
  · have e3 : ∃ us, itemsL M' u = some us ∧ z = .ls u := by
      unfold srcOf at e2
      split at e2
      · exact absurd ⟨_, rfl⟩ ht
      · obtain ⟨us, q1, q2⟩ := Option.map_eq_some_iff.mp e2
        exact ⟨us, q1, q2.symm⟩
    obtain ⟨us, e4, rfl⟩ := e3
    refine .inl (ha σ H ρ m M _ _ _ h sr e1 fun x H1 ρ1 h1 p1 r1 => ?_)
    obtain ⟨c, vs, rfl, s, t⟩ := r1.items h1 e4
    exact ⟨c, rfl, ⟨_, s⟩, q _ _ _ h1 p1 (sj_ls h1 r1)⟩
theorem si_rg1 (ha : SE K C ta a) : SI K C (iRng1 (tCons ta tNil)) (.rg1 a) := by
  intro σ H ρ m M s M' R h sr e q
  simp only [evI] at e
  obtain ⟨u, M1, e1, e⟩ := bnd_ok e
  refine ha σ H ρ m M u M1 _ h sr e1 fun x H1 ρ1 h1 p1 r1 => ?_
  cases r1 <;> try (cases e; done)
  rename_i j
  simp only at e
  split at e
  · rename_i hb
    obtain ⟨rfl, rfl⟩ := ok_inj e
    exact ⟨j, rfl, by omega, by omega, q _ _ _ h1 p1 sj_rg⟩
  · cases e
theorem si_rg2 (ha : SE K C ta a) (hb : SE K C tb b) : SI K C (iRng2 (tCons ta (tCons tb tNil))) (.rg2 a b) := by
  intro σ H ρ m M s M' R h sr e q
  simp only [evI] at e
  obtain ⟨u, M1, e1, e⟩ := bnd_ok e
  obtain ⟨w, M2, e2, e⟩ := bnd_ok e
  refine ha σ H ρ m M u M1 _ h sr e1 fun x H1 ρ1 h1 p1 r1 => ?_
  refine hb σ H1 ρ1 m M1 w M2 _ h1 (sr.mo h p1) e2 fun y H2 ρ2 h2 p2 r2 => ?_
  cases r1 <;> cases r2 <;> try (cases e; done)
  simp only at e
  split at e
  · rename_i hb
    obtain ⟨rfl, rfl⟩ := ok_inj e
    exact ⟨_, _, rfl, ⟨by omega, by omega, by omega, by omega⟩, q _ _ _ h2 (p1.trans p2) sj_rg⟩
  · cases e
theorem si_zip (ha : SE K C ta a) (hb : SE K C tb b) : SI K C (RZ.iZipA K (tCons ta (tCons tb tNil))) (.zip a b) := by
  intro σ H ρ m M s M' R h sr e q
  simp only [evI] at e
  obtain ⟨u, M1, e1, e⟩ := bnd_ok e
  obtain ⟨w, M2, e2, e⟩ := bnd_ok e
  refine ha σ H ρ m M u M1 _ h sr e1 fun x H1 ρ1 h1 p1 r1 => ?_
  refine hb σ H1 ρ1 m M1 w M2 _ h1 (sr.mo h p1) e2 fun y H2 ρ2 h2 p2 r2 => ?_
  have r1' := r1.mo h1 p2
  have hs : ∃ z, zipOf M2 u w = some z ∧ z = s ∧ M' = M2 := by
    split at e
    · rename_i z e2
      obtain ⟨e3, e4⟩ := ok_inj e
      exact ⟨z, e2, e3, e4.symm⟩
    · cases e
  obtain ⟨z, e3, rfl, rfl⟩ := hs
  unfold zipOf at e3
  split at e3
  · cases e3
    cases r1' with
    | tup s t =>
      cases r2 with
      | tup s2 t2 => exact ⟨_, _, _, _, rfl, .inr ⟨s, s2, q _ _ _ h2 (p1.trans p2) (sj_zt h2 s t s2 t2)⟩⟩
  · split at e3
    · rename_i us ws q1 q2
      cases e3
      obtain ⟨c, vs, rfl, s, t⟩ := r1'.items h2 q1
      obtain ⟨d, zs, rfl, s2, t2⟩ := r2.items h2 q2
      exact ⟨_, _, _, _, rfl, .inl ⟨s, s2, q _ _ _ h2 (p1.trans p2) (sj_zl h2 r1' r2)⟩⟩
    · cases e3
theorem si_enu (ha : SE K C ta a) : SI K C (iEnum K (tCons ta tNil)) (.enu a) := by
  intro σ H ρ m M s M' R h sr e q
  simp only [evI] at e
  obtain ⟨u, M1, e1, e⟩ := bnd_ok e
  refine ha σ H ρ m M u M1 _ h sr e1 fun x H1 ρ1 h1 p1 r1 => ?_
  split at e
  · rename_i us e2
    obtain ⟨rfl, rfl⟩ := ok_inj e
    obtain ⟨c, vs, rfl, s, t⟩ := r1.items h1 e2
    exact ⟨c, vs, rfl, s, q _ _ _ h1 p1 (sj_en h1 r1)⟩
  · cases e

/-! ### targets -/
def SG (K : PySem.W.Frag) (g : TG) (t : Tg) : Prop := ∀ ρ M H u v σ m m' (Q : L2.St → Hp → Prop), HR K ρ M H → VR K ρ H u v → SR K ρ H m σ → t.set u m = some m' → (∀ σ', SR K ρ H m' σ' → Alike t.own σ σ' → Q σ' H) → g v σ H Q
theorem sg_nm {i : Nat} : SG K (gName i) (.nm i) := by
  intro ρ M H u v σ m m' Q h r s e q
  cases e
  refine q _ (s.set r) ⟨List.length_set, fun k hk => ?_⟩
  rw [List.getElem?_set_ne (fun z => hk (by rw [z]; exact List.mem_singleton_self _))]
def gNames : List Nat → TGs
  | [] => gNil
  | i :: is => gCons (gName i) (gNames is)
theorem gNames_run : ∀ (is : List Nat) {ρ : List Addr} {M : MH} {H : Hp} {us : List MV} {vs : List V} {σ : L2.St} {m m' : Sl} {Q : L2.St → Hp → Prop}, HR K ρ M H → VRs K ρ H us vs → SR K ρ H m σ → setAll is us m = some m' →
    (∀ σ', SR K ρ H m' σ' → Alike is σ σ' → Q σ' H) → gNames is vs σ H Q
  | [], ρ, M, H, us, vs, σ, m, m', Q, h, r, s, e, q => by
    cases r with
    | nil =>
      cases e
      exact ⟨rfl, q _ s ⟨rfl, fun _ _ => rfl⟩⟩
    | cons _ _ => cases e
  | i :: is, ρ, M, H, us, vs, σ, m, m', Q, h, r, s, e, q => by
    cases r with
    | nil => cases e
    | cons r t =>
      refine ⟨_, _, rfl, gNames_run is h t (s.set r) e fun σ' s' al => q σ' s' ⟨al.len.trans List.length_set, fun k hk => ?_⟩⟩
      rw [al.out k (fun z => hk (List.mem_cons_of_mem _ z)), List.getElem?_set_ne (fun z => hk (by rw [z]; exact List.mem_cons_self))]
theorem setAll_len : ∀ (is : List Nat) {us : List MV} {m m' : Sl}, setAll is us m = some m' → us.length = is.length
  | [], [], _, _, _ => rfl
  | [], _ :: _, _, _, e => by cases e
  | _ :: _, [], _, _, e => by cases e
  | i :: is, u :: us, m, m', e => congrArg Nat.succ (setAll_len is (us := us) (m := m.set i (some u)) (m' := m') e)
theorem sg_tp {is : List Nat} : SG K (gTup K is.length (gNames is)) (.tp is) := by
  intro ρ M H u v σ m m' Q h r s e q
  cases r <;> try (cases e; done)
  rename_i a us vs sq t
  exact ⟨a, vs, rfl, sq, by rw [← t.length]; exact setAll_len is e, gNames_run is h t s e q⟩

/-! ### comprehensions -/
/-- an object beside the small heap is written -/
theorem upd_out {D : Addr} {xs ys : List V} (h : HR K ρ M H) (hD : H D = some (.lst xs)) (ho : D ∉ ρ) :
    (∀ u v, VR K ρ H u v → VR K ρ (upd H D (.lst ys)) u v) ∧ (∀ us vs, VRs K ρ H us vs → VRs K ρ (upd H D (.lst ys)) us vs) ∧ HR K ρ M (upd H D (.lst ys)) := by
  have far : ∀ {b : Addr} {o : HO}, H b = some o → (∀ vs, o ≠ .lst vs) → upd H D (.lst ys) b = some o := fun {b o} e n => by
    by_cases hb : b = D
    · subst hb
      rw [hD] at e
      cases e
      exact absurd rfl (n xs)
    · rw [upd_ne hb]
      exact e
  have sq : ∀ {b : Addr} {vs : List V}, SqT K H b vs → SqT K (upd H D (.lst ys)) b vs := fun {b vs} s => by
    rcases s with (s | ⟨o, s⟩) | s
    · exact .inl (.inl (far s fun _ z => nomatch z))
    · exact .inl (.inr ⟨o, far s fun _ z => nomatch z⟩)
    · exact .inr s
  have kl : ∀ {b : Addr} {vs : List V}, KL K H b vs → KL K (upd H D (.lst ys)) b vs := fun {b vs} s => by
    rcases s with ⟨o, s⟩ | s
    · exact .inl ⟨o, far s fun _ z => nomatch z⟩
    · exact .inr s
  have vr : (∀ u v, VR K ρ H u v → VR K ρ (upd H D (.lst ys)) u v) ∧ (∀ us vs, VRs K ρ H us vs → VRs K ρ (upd H D (.lst ys)) us vs) := by
    constructor
    · intro u v r
      induction r using VR.rec (motive_2 := fun us vs _ => VRs K ρ (upd H D (.lst ys)) us vs) with
      | non => exact .non
      | bl b => exact .bl b
      | int i => exact .int i
      | str x => exact .str x
      | tup s _ ih => exact .tup (sq s) ih
      | lst e => exact .lst e
      | kls s _ ih => exact .kls (kl s) ih
      | dct e => exact .dct (far e fun _ z => nomatch z)
      | nil => exact .nil
      | cons _ _ h1 h2 => exact .cons h1 h2
    · intro us vs r
      induction r using VRs.rec (motive_1 := fun u v _ => VR K ρ (upd H D (.lst ys)) u v) with
      | non => exact .non
      | bl b => exact .bl b
      | int i => exact .int i
      | str x => exact .str x
      | tup s _ ih => exact .tup (sq s) ih
      | lst e => exact .lst e
      | kls s _ ih => exact .kls (kl s) ih
      | dct e => exact .dct (far e fun _ z => nomatch z)
      | nil => exact .nil
      | cons _ _ h1 h2 => exact .cons h1 h2
  refine ⟨vr.1, vr.2, ⟨h.nd, h.len, fun n us e => ?_⟩⟩
  obtain ⟨b, vs, e1, e2, e3⟩ := h.lies n us e
  refine ⟨b, vs, e1, ?_, vr.2 _ _ e3⟩
  rw [upd_ne (fun z => ho (by rw [← z]; exact List.mem_of_getElem? e1))]
  exact e2
/-- an object beside the small heap becomes its newest list -/
theorem adopt {D : Addr} {us : List MV} {vs : List V} (h : HR K ρ M H) (hD : H D = some (.lst vs)) (ho : D ∉ ρ) (r : VRs K ρ H us vs) :
    HR K (ρ ++ [D]) (M ++ [us]) H ∧ VR K (ρ ++ [D]) H (.lst M.length) (.ref D) := by
  have vr : (∀ u v, VR K ρ H u v → VR K (ρ ++ [D]) H u v) ∧ (∀ us vs, VRs K ρ H us vs → VRs K (ρ ++ [D]) H us vs) := by
    constructor
    · intro u v r
      induction r using VR.rec (motive_2 := fun us vs _ => VRs K (ρ ++ [D]) H us vs) with
      | non => exact .non
      | bl b => exact .bl b
      | int i => exact .int i
      | str x => exact .str x
      | tup s _ ih => exact .tup s ih
      | lst e => exact .lst (by rw [List.getElem?_append_left (List.getElem?_eq_some_iff.mp e).1]; exact e)
      | kls s _ ih => exact .kls s ih
      | dct e => exact .dct e
      | nil => exact .nil
      | cons _ _ h1 h2 => exact .cons h1 h2
    · intro us vs r
      induction r using VRs.rec (motive_1 := fun u v _ => VR K (ρ ++ [D]) H u v) with
      | non => exact .non
      | bl b => exact .bl b
      | int i => exact .int i
      | str x => exact .str x
      | tup s _ ih => exact .tup s ih
      | lst e => exact .lst (by rw [List.getElem?_append_left (List.getElem?_eq_some_iff.mp e).1]; exact e)
      | kls s _ ih => exact .kls s ih
      | dct e => exact .dct e
      | nil => exact .nil
      | cons _ _ h1 h2 => exact .cons h1 h2
  have at' : (ρ ++ [D])[M.length]? = some D := by
    rw [← h.len, List.getElem?_append_right (Nat.le_refl _), Nat.sub_self]
    rfl
  refine ⟨⟨?_, ?_, fun n xs e => ?_⟩, .lst at'⟩
  · exact List.nodup_append.mpr ⟨h.nd, by simp, fun a ha b hb => by rw [List.mem_singleton.mp hb]; exact fun z => ho (z ▸ ha)⟩
  · rw [List.length_append, List.length_append, h.len]
    rfl
  · by_cases hn : n < M.length
    · rw [List.getElem?_append_left hn] at e
      obtain ⟨a, ws, e1, e2, e3⟩ := h.lies n xs e
      exact ⟨a, ws, by rw [List.getElem?_append_left (List.getElem?_eq_some_iff.mp e1).1]; exact e1, e2, vr.2 _ _ e3⟩
    · have hn2 : n = M.length := by
        have := (List.getElem?_eq_some_iff.mp e).1
        rw [List.length_append] at this
        have : n < M.length + 1 := this
        omega
      subst hn2
      rw [List.getElem?_append_right (Nat.le_refl _), Nat.sub_self] at e
      cases e
      exact ⟨D, vs, at', hD, vr.2 _ _ r⟩

/-- a comprehension's turn in the small machine -/
def comF (C : Cf) (t : Tg) (m : Sl) (c : Option E) (e : E) : MV → MH → Re (Option MV) := fun x M => match t.set x (wip m t.own) with
  | none => .bad
  | some m' => match c with
    | none => ((ev C e m' M).nox).bnd fun y M' => .ok (some y) M'
    | some c => ((ev C c m' M).nox).bnd fun k M' => match k with
      | .bl true => ((ev C e m' M').nox).bnd fun y M'' => .ok (some y) M''
      | .bl false => .ok none M'
      | _ => .bad
/-- the condition's test: none is always true -/
def SCo (K : PySem.W.Frag) (C : Cf) (tt : TT) (c : Option E) : Prop := match c with
  | none => tt = tYes
  | some c => ST K C tt c
theorem turn_ok {t : Tg} {c : Option E} {e : E} {tt : TT} {te : TE} {x : MV} {o : Option MV} {M' : MH} {σ2 : L2.St} {Q : Bool → Hp → Prop} (hc : SCo K C tt c) (he : SE K C te e) (ht : t.set x (wip m t.own) = some m') (h : HR K ρ M H) (s : SR K ρ H m' σ2) (hf : comF C t m c e x M = .ok o M')
    (no : o = none → ∀ H' ρ', HR K ρ' M' H' → Pst ρ H ρ' H' → Q false H') (yes : ∀ y, o = some y → ∀ H1 ρ1, Pst ρ H ρ1 H1 → (∀ Q' : VK, (∀ v H' ρ', HR K ρ' M' H' → Pst ρ H ρ' H' → VR K ρ' H' y v → Q' v H') → te σ2 H1 Q') → Q true H1) : tt σ2 H Q := by
  unfold comF at hf
  rw [ht] at hf
  simp only at hf
  cases c with
  | none =>
    obtain ⟨y, M1, e1, e2⟩ := bnd_ok hf
    obtain ⟨rfl, rfl⟩ := ok_inj e2
    have hc : tt = tYes := hc
    subst hc
    refine yes y rfl H ρ .refl fun Q' q => ?_
    exact he σ2 H ρ m' M y M1 _ h s (nox_ok e1) fun v H' ρ' h' p' r' => q v H' ρ' h' p' r'
  | some c =>
    obtain ⟨k, M1, e1, e2⟩ := bnd_ok hf
    have e1 := nox_ok e1
    rcases bl_cases (N := M1) e2 with ⟨rfl, e3⟩ | ⟨rfl, e3⟩
    · obtain ⟨y, M2, e4, e5⟩ := bnd_ok e3
      obtain ⟨rfl, rfl⟩ := ok_inj e5
      refine (show ST K C tt c from hc) σ2 H ρ m' M true M1 Q h s e1 fun H1 ρ1 h1 p1 => ?_
      refine yes y rfl H1 ρ1 p1 fun Q' q => ?_
      exact he σ2 H1 ρ1 m' M1 y M2 _ h1 (s.mo h p1) (nox_ok e4) fun v H' ρ' h' p' r' => q v H' ρ' h' (p1.trans p') r'
    · obtain ⟨rfl, rfl⟩ := ok_inj e3
      exact (show ST K C tt c from hc) σ2 H ρ m' M false M1 Q h s e1 fun H1 ρ1 h1 p1 => no rfl H1 ρ1 h1 p1
theorem Pst.none {M' : MH} (p : Pst ρ H ρ' H') (h' : HR K ρ' M' H') {D : Addr} (h : H' D = .none) : H D = .none := by
  cases e : H D with
  | none => rfl
  | some o =>
    by_cases hd : D ∈ ρ
    · obtain ⟨τ, e1⟩ := p.pre
      obtain ⟨vs, e2⟩ := h'.mem (a := D) (by rw [e1]; exact List.mem_append_left _ hd)
      rw [h] at e2
      cases e2
    · have := p.keep D o hd e
      rw [h] at this
      cases this
theorem Pst.out (p : Pst ρ H ρ' H') {D : Addr} {o : HO} (e : H D = some o) (ho : D ∉ ρ) : D ∉ ρ' ∧ H' D = some o := by
  refine ⟨fun z => ?_, p.keep D o ho e⟩
  have := p.fresh D z ho
  rw [e] at this
  cases this
theorem HR.off (h : HR K ρ M H) {D : Addr} (e : H D = .none) : D ∉ ρ := fun z => by
  obtain ⟨vs, e2⟩ := h.mem z
  rw [e] at e2
  cases e2
theorem se_com {wi : TI} {g : TG} {tt : TT} {te : TE} {t : Tg} {it : MP.It} {c : Option E} {e : E} (hi : SI K C wi it) (hg : SG K g t) (hc : SCo K C tt c) (he : SE K C te e) : SE K C (tLc wi g tt te t.own) (.com t it c e) := by
  intro σ H ρ m M v M' Q h sr e0 q
  simp only [ev] at e0
  obtain ⟨s, M1, e1, e0⟩ := bnd_ok e0
  obtain ⟨ys, M2, e2, e3⟩ := bnd_ok e0
  have e2 : comL s (comF C t m c e) C.most 0 [] M1 = .ok ys M2 := e2
  obtain ⟨rfl, rfl⟩ := ok_inj e3
  refine hi σ H ρ m M s M1 _ h sr e1 fun J H1 ρ1 h1 p1 sj => ?_
  intro D hD
  obtain ⟨h1', p1'⟩ := h1.newO (o := .lst []) hD
  have key : ∃ W : Nat → Nat → Hp → Prop, W = fun i k H2 => ∃ (ρ2 : List Addr) (M3 : MH) (acc : List MV) (vacc : List V), HR K ρ2 M3 H2 ∧ Pst ρ1 H1 ρ2 H2 ∧ H2 D = some (.lst vacc) ∧ D ∉ ρ2 ∧ VRs K ρ2 H2 acc vacc ∧ comL s (comF C t m c e) k i acc M3 = .ok ys M2 := ⟨_, rfl⟩
  obtain ⟨W, hW⟩ := key
  refine ⟨W, ⟨C.most, ?_⟩, ?_⟩
  · rw [hW]
    exact ⟨ρ1, M1, [], [], h1', p1', upd_same, h1.off hD, .nil, e2⟩
  · intro i k H2 hw
    rw [hW] at hw
    obtain ⟨ρ2, M3, acc, vacc, h2, p2, hd, ho, ra, ec⟩ := hw
    cases k with
    | zero => cases ec
    | succ k =>
      unfold comL at ec
      split at ec
      · rename_i hs
        obtain ⟨rfl, rfl⟩ := ok_inj ec
        refine .inl ⟨sj.stop ρ2 M3 H2 i h2 p2 hs, ?_⟩
        obtain ⟨a1, a2⟩ := adopt h2 hd ho ra
        refine q _ _ _ a1 (p1.trans ?_) a2
        obtain ⟨τ, e5⟩ := p2.pre
        refine ⟨⟨τ ++ [D], by rw [e5, List.append_assoc]⟩, p2.keep, fun a ha hn => ?_⟩
        rcases List.mem_append.mp ha with z | z
        · exact p2.fresh a z hn
        · rw [List.mem_singleton.mp z]
          exact hD
      · split at ec
        · cases ec
        · rename_i x ex
          obtain ⟨o, M4, e4, e5⟩ := bnd_ok ec
          obtain ⟨g1, g2⟩ := sj.go ρ2 M3 H2 i x h2 p2 ex
          have ht : ∃ m', t.set x (wip m t.own) = some m' := by
            cases z : t.set x (wip m t.own) with
            | none =>
              unfold comF at e4
              rw [z] at e4
              cases e4
            | some m' => exact ⟨m', rfl⟩
          obtain ⟨m', ht⟩ := ht
          refine .inr ⟨g1, W (i + 1) k, fun H' n => ⟨k, Nat.lt_succ_self k, n⟩, fun x' H3 y => ?_⟩
          obtain ⟨h3, p3, rx⟩ := g2 x' H3 y
          obtain ⟨ho3, hd3⟩ := p3.out hd ho
          have sr3 : SR K ρ2 H3 m σ := (sr.mo h p1).mo h1 (p2.trans p3)
          refine hg ρ2 M3 H3 x x' (wipe σ t.own) (wip m t.own) m' _ h3 rx (sr3.wip t.own) ht fun σ2 s2 al => ⟨al.wipe_eq, ?_⟩
          refine turn_ok hc he ht h3 s2 e4 (fun on H4 ρ4 h4 p4 => ?_) fun y oy H4 ρ4 p4 k4 => ?_
          · rw [if_neg (by decide)]
            subst on
            rw [hW]
            obtain ⟨ho4, hd4⟩ := p4.out hd3 ho3
            exact ⟨ρ4, M4, acc, vacc, h4, p2.trans (p3.trans p4), hd4, ho4, ra.mo h2 (p3.trans p4), e5⟩
          · rw [if_pos rfl]
            subst oy
            simp only at e5
            split at e5
            · rename_i hl
              refine k4 _ fun z H5 ρ5 h5 p5 rz => ?_
              obtain ⟨ho5, hd5⟩ := p5.out hd3 ho3
              have ra5 := ra.mo h2 (p3.trans p5)
              refine ⟨vacc, hd5, by rw [← ra.length]; exact lim_lt hl, ?_⟩
              rw [hW]
              obtain ⟨u1, u2, u3⟩ := upd_out (ys := vacc ++ [z]) h5 hd5 ho5
              refine ⟨ρ5, M4, acc ++ [y], vacc ++ [z], u3, ⟨((p2.trans p3).trans p5).pre, fun a o ha e6 => ?_, ((p2.trans p3).trans p5).fresh⟩, upd_same, ho5, u2 _ _ (ra5.app (.cons rz .nil)), e5⟩
              rw [upd_ne (ne_of_none e6 hD)]
              exact ((p2.trans p3).trans p5).keep a o ha e6
            · cases e5
end
end MP

set_option Elab.async false
set_option linter.all false
set_option maxRecDepth 100000
set_option autoImplicit false
set_option maxHeartbeats 1000000
/-! MP, part f: statements. -/
namespace MP
open PySem PySem.Spec PyProof.Rows L2

/-- behind a statement that ended so -/
def Ff (K : PySem.W.Frag) (D : Ends) (ρ : List Addr) (H : Hp) (p : Fl × Sl) (M' : MH) : Prop := ∀ σ' H' ρ', HR K ρ' M' H' → Pst ρ H ρ' H' → SR K ρ' H' p.2 σ' → match p.1 with
  | .nx => D.nx σ' H'
  | .bk => D.bk σ' H'
  | .cn => D.ct σ' H'
  | .rt v => ∀ x, VR K ρ' H' v x → D.rt x H'
def SS (K : PySem.W.Frag) (C : Cf) (t : TS) (s : S) : Prop := ∀ D σ H ρ m M p M', HR K ρ M H → SR K ρ H m σ → ex C s m M = .ok p M' → Ff K D ρ H p M' → t D σ H
def SB (K : PySem.W.Frag) (C : Cf) (t : TS) (s : Ss) : Prop := ∀ D σ H ρ m M p M', HR K ρ M H → SR K ρ H m σ → exs C s m M = .ok p M' → Ff K D ρ H p M' → t D σ H
section
variable {K : PySem.W.Frag} {C : Cf} {ρ ρ' : List Addr} {M M' : MH} {H H' : Hp} {m m' : Sl} {σ σ' : L2.St} {ta tb tc : TE} {a b c e : E} {D : Ends} {p : Fl × Sl} {A B : Ss} {tA tB : TS} {tt : TT}
theorem Ff.of (f : Ff K D ρ H p M') (q : Pst ρ H ρ' H') : Ff K D ρ' H' p M' := fun σ2 H2 ρ2 h2 p2 s2 => f σ2 H2 ρ2 h2 (q.trans p2) s2
theorem sb_nil : SB K C tNext .nil := by
  intro D σ H ρ m M p M' h s e q
  simp only [exs] at e
  obtain ⟨rfl, rfl⟩ := ok_inj e
  exact q σ H ρ h .refl s
theorem sb_cons {t u : TS} {s : S} {ss : Ss} (h1 : SS K C t s) (h2 : SB K C u ss) : SB K C (tSeq t u) (.cons s ss) := by
  intro D σ H ρ m M p M' h sr e q
  simp only [exs] at e
  obtain ⟨r, M1, e1, e2⟩ := bnd_ok e
  refine h1 _ σ H ρ m M r M1 h sr e1 fun σ1 H1 ρ1 h1' p1 s1 => ?_
  obtain ⟨f, m1⟩ := r
  cases f with
  | nx => exact h2 D σ1 H1 ρ1 m1 M1 p M' h1' s1 e2 (Ff.of q p1)
  | bk =>
    obtain ⟨rfl, rfl⟩ := ok_inj e2
    exact q σ1 H1 ρ1 h1' p1 s1
  | cn =>
    obtain ⟨rfl, rfl⟩ := ok_inj e2
    exact q σ1 H1 ρ1 h1' p1 s1
  | rt v =>
    obtain ⟨rfl, rfl⟩ := ok_inj e2
    exact q σ1 H1 ρ1 h1' p1 s1
theorem ss_exp (ha : SE K C ta a) : SS K C (tDrop ta) (.exp a) := by
  intro D σ H ρ m M p M' h sr e q
  simp only [ex] at e
  obtain ⟨u, M1, e1, e2⟩ := bnd_ok e
  obtain ⟨rfl, rfl⟩ := ok_inj e2
  exact ha σ H ρ m M u _ _ h sr e1 fun x H1 ρ1 h1 p1 r1 => q σ H1 ρ1 h1 p1 (sr.mo h p1)
theorem asg_ok {u : MV} {t : Tg} {M1 : MH} (e : (match t.set u m with
    | some m' => Re.ok (Fl.nx, m') M1
    | none => .bad) = .ok p M') : ∃ m', t.set u m = some m' ∧ p = (.nx, m') ∧ M' = M1 := by
  split at e
  · rename_i m' e1
    obtain ⟨rfl, rfl⟩ := ok_inj e
    exact ⟨m', e1, rfl, rfl⟩
  · cases e
theorem ss_asg {t : Tg} {g : TG} (ha : SE K C ta a) (hg : SG K g t) : SS K C (tAsg ta g) (.asg t a) := by
  intro D σ H ρ m M p M' h sr e q
  simp only [ex] at e
  obtain ⟨u, M1, e1, e2⟩ := bnd_ok e
  obtain ⟨m', e3, rfl, rfl⟩ := asg_ok e2
  refine ha σ H ρ m M u _ _ h sr e1 fun x H1 ρ1 h1 p1 r1 => ?_
  exact hg ρ1 _ H1 u x σ m m' _ h1 r1 (sr.mo h p1) e3 fun σ1 s1 _ => q σ1 H1 ρ1 h1 p1 s1
theorem ss_par2 {i j : Nat} {ts : TA} {es : Es} (ha : SA K C ts es) : SS K C (tPar i j ts) (.asg (.tp [i, j]) (.tup es)) := by
  intro D σ H ρ m M p M' h sr e q
  simp only [ex, ev] at e
  obtain ⟨u, M1, e1, e2⟩ := bnd_ok e
  obtain ⟨us, M2, e4, e5⟩ := bnd_ok e1
  obtain ⟨rfl, rfl⟩ := ok_inj e5
  obtain ⟨m', e3, rfl, rfl⟩ := asg_ok e2
  refine ha σ H ρ m M us _ _ h sr e4 fun xs H1 ρ1 h1 p1 r1 => ?_
  have s1 := sr.mo h p1
  cases r1 with
  | nil => cases e3
  | cons r1 t1 =>
    cases t1 with
    | nil => cases e3
    | cons r2 t2 =>
      cases t2 with
      | cons _ _ => cases e3
      | nil =>
        cases e3
        exact ⟨_, _, rfl, q _ H1 ρ1 h1 p1 ((s1.set r1).set r2)⟩
theorem ss_par3 {i j k : Nat} {ts : TA} {es : Es} (ha : SA K C ts es) : SS K C (tPar3 i j k ts) (.asg (.tp [i, j, k]) (.tup es)) := by
  intro D σ H ρ m M p M' h sr e q
  simp only [ex, ev] at e
  obtain ⟨u, M1, e1, e2⟩ := bnd_ok e
  obtain ⟨us, M2, e4, e5⟩ := bnd_ok e1
  obtain ⟨rfl, rfl⟩ := ok_inj e5
  obtain ⟨m', e3, rfl, rfl⟩ := asg_ok e2
  refine ha σ H ρ m M us _ _ h sr e4 fun xs H1 ρ1 h1 p1 r1 => ?_
  have s1 := sr.mo h p1
  cases r1 with
  | nil => cases e3
  | cons r1 t1 =>
    cases t1 with
    | nil => cases e3
    | cons r2 t2 =>
      cases t2 with
      | nil => cases e3
      | cons r3 t3 =>
        cases t3 with
        | cons _ _ => cases e3
        | nil =>
          cases e3
          exact ⟨_, _, _, rfl, q _ H1 ρ1 h1 p1 (((s1.set r1).set r2).set r3)⟩
theorem ss_put (he : SE K C tc e) (ha : SE K C ta a) (hb : SE K C tb b) : SS K C (tAsg tc (gSub ta tb rSetL)) (.put a b e) := by
  intro D σ H ρ m M p M' h sr e0 q
  simp only [ex] at e0
  obtain ⟨v, M1, e1, e0⟩ := bnd_ok e0
  obtain ⟨u, M2, e2, e0⟩ := bnd_ok e0
  obtain ⟨k, M3, e3, e0⟩ := bnd_ok e0
  obtain ⟨un, M4, e4, e0⟩ := bnd_ok e0
  obtain ⟨rfl, rfl⟩ := ok_inj e0
  refine he σ H ρ m M v _ _ h sr e1 fun x H1 ρ1 h1 p1 r1 => ?_
  refine ha σ H1 ρ1 m M1 u _ _ h1 (sr.mo h p1) e2 fun y H2 ρ2 h2 p2 r2 => ?_
  refine hb σ H2 ρ2 m M2 k _ _ h2 (sr.mo h (p1.trans p2)) e3 fun z H3 ρ3 h3 p3 r3 => ?_
  refine put_ok h3 (r2.mo h2 p3) r3 (r1.mo h1 (p2.trans p3)) e4 fun H4 ρ4 h4 p4 => ?_
  have p5 := p1.trans (p2.trans (p3.trans p4))
  exact q σ H4 ρ4 h4 p5 (sr.mo h p5)
theorem ss_aug {i : Nat} {o : BOp} (ha : SE K C ta a) : SS K C (tAug i ta (ipM o)) (.aug i o a) := by
  intro D σ H ρ m M p M' h sr e q
  simp only [ex] at e
  split at e
  · rename_i u e0
    obtain ⟨v, M1, e1, e⟩ := bnd_ok e
    obtain ⟨w, M2, e2, e⟩ := bnd_ok e
    obtain ⟨rfl, rfl⟩ := ok_inj e
    obtain ⟨x, h3, r3⟩ := sr.knows i _ e0
    refine ⟨x, h3, ha σ H ρ m M v _ _ h sr e1 fun y H1 ρ1 h1 p1 r1 => ?_⟩
    exact ip_ok h1 (r3.mo h p1) r1 e2 fun z H2 ρ2 h2 p2 r2 => q _ H2 ρ2 h2 (p1.trans p2) ((sr.mo h (p1.trans p2)).set r2)
  · cases e
/-- a list's item that is there -/
def rGetL (K : PySem.W.Frag) : V → V → Hp → VK → Prop := fun x y H Q => ∃ (p : Addr) (xs : List V) (i : Int) (v : V), x = .ref p ∧ y = .int i ∧ 0 ≤ i ∧ i < 2 ^ 63 ∧ SqL K H p xs ∧ xs[i.toNat]? = some v ∧ Q v H
theorem pget {X : Cx} : PGet X (rGetL X.K) := by
  intro pins s σ H o i ov iv Q I ro ri h
  obtain ⟨p, xs, k, v, rfl, rfl, h0, h1, hq, hx, q⟩ := h
  cases ro
  obtain ⟨t, rfl⟩ := ri
  obtain ⟨its, r, pl, hz⟩ := I.list hq
  obtain ⟨u, hu, ru⟩ := r.get hx
  refine wpAny_getItem_list (x := u) (Q := EP X pins σ Q) pl.isList h0 h1 (by simpa using hu) ?_
  exact ⟨v, H, I, ru, q⟩
theorem ss_agi {o : BOp} (ha : SE K C ta a) (hb : SE K C tb b) (hc : SE K C tc c) : SS K C (tAugS ta tb tc (rGetL K) (ipM o) rSetL) (.agi a b o c) := by
  intro D σ H ρ m M p M' h sr e0 q
  simp only [ex] at e0
  obtain ⟨u, M1, e1, e0⟩ := bnd_ok e0
  obtain ⟨k, M2, e2, e0⟩ := bnd_ok e0
  obtain ⟨x, M3, e3, e0⟩ := bnd_ok e0
  obtain ⟨v, M4, e4, e0⟩ := bnd_ok e0
  obtain ⟨z, M5, e5, e0⟩ := bnd_ok e0
  obtain ⟨un, M6, e6, e0⟩ := bnd_ok e0
  obtain ⟨rfl, rfl⟩ := ok_inj e0
  refine ha σ H ρ m M u _ _ h sr e1 fun x1 H1 ρ1 h1 p1 r1 => ?_
  refine hb σ H1 ρ1 m M1 k _ _ h1 (sr.mo h p1) e2 fun y1 H2 ρ2 h2 p2 r2 => ?_
  have hs : ∃ n i us, u = .lst n ∧ k = .int i ∧ M2[n]? = some us ∧ us[i.toNat]? = some x ∧ M3 = M2 ∧ 0 ≤ i ∧ i < 1000000 := by
    unfold getop at e3
    split at e3 <;> first | (cases e3; done) | skip
    split at e3 <;> first | (cases e3; done) | skip
    rename_i us e7
    split at e3 <;> first | (cases e3; done) | skip
    rename_i hb
    split at e3 <;> first | (cases e3; done) | skip
    rename_i w e8
    obtain ⟨rfl, rfl⟩ := ok_inj e3
    exact ⟨_, _, us, rfl, rfl, e7, e8, rfl, hb.1, hb.2⟩
  obtain ⟨n, i, us, rfl, rfl, e7, e8, rfl, b0, b1⟩ := hs
  have r1' := r1.mo h1 p2
  obtain ⟨A1, vs, rfl, hn, hA, t⟩ := r1'.lstAt h2 e7
  cases r2
  obtain ⟨w, e9, rw⟩ := t.get e8
  refine ⟨A1, vs, i, w, rfl, rfl, b0, by omega, .of hA, e9, ?_⟩
  refine hc σ H2 ρ2 m M3 v _ _ h2 (sr.mo h (p1.trans p2)) e4 fun z1 H3 ρ3 h3 p3 r3 => ?_
  refine ip_ok h3 (rw.mo h2 p3) r3 e5 fun z2 H4 ρ4 h4 p4 r4 => ?_
  refine put_ok h4 (r1'.mo h2 (p3.trans p4)) (.int i) r4 e6 fun H5 ρ5 h5 p5 => ?_
  have p6 := p1.trans (p2.trans (p3.trans (p4.trans p5)))
  exact q σ H5 ρ5 h5 p6 (sr.mo h p6)
theorem ss_if {c : E} (hc : ST K C tt c) (ha : SB K C tA A) (hb : SB K C tB B) : SS K C (tIfS tt tA tB) (.iff c A B) := by
  intro D σ H ρ m M p M' h sr e q
  simp only [ex] at e
  obtain ⟨u, M1, e1, e⟩ := bnd_ok e
  rcases bl_cases (N := M1) e with ⟨rfl, e⟩ | ⟨rfl, e⟩
  · refine hc σ H ρ m M true M1 _ h sr e1 fun H1 ρ1 h1 p1 => ?_
    rw [if_pos rfl]
    exact ha D σ H1 ρ1 m M1 p M' h1 (sr.mo h p1) e (Ff.of q p1)
  · refine hc σ H ρ m M false M1 _ h sr e1 fun H1 ρ1 h1 p1 => ?_
    rw [if_neg (by decide)]
    exact hb D σ H1 ρ1 m M1 p M' h1 (sr.mo h p1) e (Ff.of q p1)
theorem ss_ret (ha : SE K C ta a) : SS K C (tRet ta) (.ret a) := by
  intro D σ H ρ m M p M' h sr e q
  simp only [ex] at e
  obtain ⟨u, M1, e1, e2⟩ := bnd_ok e
  obtain ⟨rfl, rfl⟩ := ok_inj e2
  exact ha σ H ρ m M u _ _ h sr e1 fun x H1 ρ1 h1 p1 r1 => q σ H1 ρ1 h1 p1 (sr.mo h p1) x r1
theorem ss_rtn : SS K C tRetN .rtn := by
  intro D σ H ρ m M p M' h sr e q
  simp only [ex] at e
  obtain ⟨rfl, rfl⟩ := ok_inj e
  exact q σ H ρ h .refl sr .non .non
theorem ss_brk : SS K C tBreak .brk := by
  intro D σ H ρ m M p M' h sr e q
  simp only [ex] at e
  obtain ⟨rfl, rfl⟩ := ok_inj e
  exact q σ H ρ h .refl sr
theorem ss_cnt : SS K C tCont .cnt := by
  intro D σ H ρ m M p M' h sr e q
  simp only [ex] at e
  obtain ⟨rfl, rfl⟩ := ok_inj e
  exact q σ H ρ h .refl sr
theorem ss_pas : SS K C tNext .pas := by
  intro D σ H ρ m M p M' h sr e q
  simp only [ex] at e
  obtain ⟨rfl, rfl⟩ := ok_inj e
  exact q σ H ρ h .refl sr
theorem ss_rai {k : Nat} {a : E} : SS K C tNever (.rai k a) := by
  intro D σ H ρ m M p M' h sr e q
  simp only [ex] at e
  obtain ⟨u, M1, e1, e2⟩ := bnd_ok e
  cases e2
/-- how a loop goes on behind a turn -/
theorem ff_turn {f : Fl × Sl} {M4 : MH} {N : L2.St → Hp → Prop} {H0 : Hp} {ρ0 : List Addr} (q : Ff K D ρ0 H0 p M') (p0 : Pst ρ0 H0 ρ H) {go : Sl → MH → Re (Fl × Sl)} (e : (match f.1 with
      | .nx => go f.2 M4
      | .cn => go f.2 M4
      | .bk => .ok (.nx, f.2) M4
      | .rt v => .ok (.rt v, f.2) M4) = .ok p M')
    (hN : ∀ σ' H' ρ', HR K ρ' M4 H' → Pst ρ H ρ' H' → SR K ρ' H' f.2 σ' → go f.2 M4 = .ok p M' → N σ' H') : Ff K { D with nx := N, ct := N, bk := D.nx } ρ H f M4 := by
  intro σ' H' ρ' h' p' s'
  obtain ⟨fl, m2⟩ := f
  cases fl with
  | nx => exact hN σ' H' ρ' h' p' s' e
  | cn => exact hN σ' H' ρ' h' p' s' e
  | bk =>
    obtain ⟨rfl, rfl⟩ := ok_inj e
    exact q σ' H' ρ' h' (p0.trans p') s'
  | rt v =>
    obtain ⟨rfl, rfl⟩ := ok_inj e
    exact q σ' H' ρ' h' (p0.trans p') s'
theorem ss_whl {c : E} (hc : ST K C tt c) (ha : SB K C tA A) : SS K C (tWhile tt tA) (.whl c A) := by
  intro D σ H ρ m M p M' h sr e q
  simp only [ex] at e
  refine ⟨fun k σ1 H1 => ∃ (ρ1 : List Addr) (m1 : Sl) (M1 : MH), HR K ρ1 M1 H1 ∧ Pst ρ H ρ1 H1 ∧ SR K ρ1 H1 m1 σ1 ∧ whlL (fun m M => ev C c m M) (fun m M => exs C A m M) k m1 M1 = .ok p M', ⟨C.most, ρ, m, M, h, .refl, sr, e⟩, ?_⟩
  rintro k σ1 H1 ⟨ρ1, m1, M1, h1, p1, s1, e1⟩
  cases k with
  | zero => cases e1
  | succ k =>
    unfold whlL at e1
    obtain ⟨u, M2, e2, e3⟩ := bnd_ok e1
    rcases bl_cases' (N := M2) e3 with ⟨rfl, e3⟩ | ⟨rfl, e3⟩
    · refine hc σ1 H1 ρ1 m1 M1 true M2 _ h1 s1 e2 fun H2 ρ2 h2 p2 => ?_
      rw [if_pos rfl]
      obtain ⟨f, M3, e4, e5⟩ := bnd_ok e3
      refine ⟨fun σ3 H3 => ∃ (ρ3 : List Addr) (m3 : Sl) (M3 : MH), HR K ρ3 M3 H3 ∧ Pst ρ H ρ3 H3 ∧ SR K ρ3 H3 m3 σ3 ∧ whlL (fun m M => ev C c m M) (fun m M => exs C A m M) k m3 M3 = .ok p M', fun σ' H' n => ⟨k, Nat.lt_succ_self k, n⟩, ?_⟩
      refine ha _ σ1 H2 ρ2 m1 M2 f M3 h2 (s1.mo h1 p2) e4 ?_
      refine ff_turn (go := fun m M => whlL (fun m M => ev C c m M) (fun m M => exs C A m M) k m M) q (p1.trans p2) e5 fun σ' H' ρ' h' p' s' e6 => ?_
      exact ⟨ρ', f.2, M3, h', (p1.trans p2).trans p', s', e6⟩
    · refine hc σ1 H1 ρ1 m1 M1 false M2 _ h1 s1 e2 fun H2 ρ2 h2 p2 => ?_
      rw [if_neg (by decide)]
      obtain ⟨rfl, rfl⟩ := ok_inj e3
      exact q σ1 H2 ρ2 h2 (p1.trans p2) (s1.mo h1 p2)
/-- a for's turn in the small machine -/
def forF (C : Cf) (t : Tg) (b : Ss) : MV → Sl → MH → Re (Fl × Sl) := fun x m M => match t.set x m with
  | some m' => exs C b m' M
  | none => .bad
theorem ss_for {wi : TI} {g : TG} {t : Tg} {it : MP.It} (hi : SI K C wi it) (hg : SG K g t) (ha : SB K C tA A) : SS K C (tFor wi g tA) (.for t it A) := by
  intro D σ H ρ m M p M' h sr e q
  simp only [ex] at e
  obtain ⟨s, M1, e1, e2⟩ := bnd_ok e
  have e2 : forL s (forF C t A) C.most 0 m M1 = .ok p M' := e2
  refine hi σ H ρ m M s M1 _ h sr e1 fun J H1 ρ1 h1 p1 sj => ?_
  have key : ∃ W : Nat → Nat → L2.St → Hp → Prop, W = fun i k σ2 H2 => ∃ (ρ2 : List Addr) (m2 : Sl) (M2 : MH), HR K ρ2 M2 H2 ∧ Pst ρ1 H1 ρ2 H2 ∧ SR K ρ2 H2 m2 σ2 ∧ forL s (forF C t A) k i m2 M2 = .ok p M' := ⟨_, rfl⟩
  obtain ⟨W, hW⟩ := key
  refine ⟨W, ⟨C.most, ?_⟩, ?_⟩
  · rw [hW]
    exact ⟨ρ1, m, M1, h1, .refl, sr.mo h p1, e2⟩
  · intro i k σ2 H2 hw
    rw [hW] at hw
    obtain ⟨ρ2, m2, M2, h2, p2, s2, e3⟩ := hw
    cases k with
    | zero => cases e3
    | succ k =>
      unfold forL at e3
      split at e3
      · rename_i hs
        obtain ⟨rfl, rfl⟩ := ok_inj e3
        exact .inl ⟨sj.stop ρ2 M2 H2 i h2 p2 hs, q σ2 H2 ρ2 h2 (p1.trans p2) s2⟩
      · split at e3
        · cases e3
        · rename_i x ex'
          obtain ⟨f, M3, e4, e5⟩ := bnd_ok e3
          obtain ⟨g1, g2⟩ := sj.go ρ2 M2 H2 i x h2 p2 ex'
          have ht : ∃ m3, t.set x m2 = some m3 ∧ exs C A m3 M2 = .ok f M3 := by
            unfold forF at e4
            split at e4
            · rename_i m3 e6
              exact ⟨m3, e6, e4⟩
            · cases e4
          obtain ⟨m3, e6, e7⟩ := ht
          refine .inr ⟨g1, W (i + 1) k, fun σ' H' n => ⟨k, Nat.lt_succ_self k, n⟩, fun x' H3 y => ?_⟩
          obtain ⟨h3, p3, rx⟩ := g2 x' H3 y
          refine hg ρ2 M2 H3 x x' σ2 m2 m3 _ h3 rx (s2.mo h2 p3) e6 fun σ3 s3 _ => ?_
          refine ha _ σ3 H3 ρ2 m3 M2 f M3 h3 s3 e7 ?_
          refine ff_turn (go := fun m M => forL s (forF C t A) k (i + 1) m M) q (p1.trans (p2.trans p3)) e5 fun σ' H' ρ' h' p' s' e8 => ?_
          rw [hW]
          exact ⟨ρ', f.2, M3, h', (p2.trans p3).trans p', s', e8⟩
end
end MP

set_option Elab.async false
set_option linter.all false
set_option maxRecDepth 100000
set_option autoImplicit false
set_option maxHeartbeats 1000000
/-! MP, part g: defs and their calls; what the top holds. -/
namespace MP
open PySem PySem.Spec PyProof.Rows L2

/-- a def keeps its promise wherever no guard is under way; nothing is raised out of it -/
structure FnG (P : Program) (w : World) (K : PySem.W.Frag) (mg : Str → Option Value) (base : Heap) (k : Nat) (f : Addr) (fd : FuncData) (ps : List Str) (sp : List V → Hp → VK → Prop) : Prop where
  len : ∀ vs H Q, sp vs H Q → vs.length = ps.length
  run : ∀ (A : Around) (outer : List Env) (s : Shared) (H : Hp) (args : Args) (us : List Value) (vs : List V) (Q : VK),
    Room k A → A.guards = some [] → Env0 P w K mg base A outer s H → BindsTo s fd args (ps.zip us) → Vals vs us → sp vs H Q →
    codeAny (model P w) A (.call (.ref f) args) (CR CX0 outer P w H s Q E0) s
section
variable {P : Program} {w : World} {K : PySem.W.Frag} {mg : Str → Option Value} {base : Heap} {k : Nat} {f : Addr} {fd : FuncData} {ps : List Str} {sp : List V → Hp → VK → Prop}
theorem FnG.mono {j : Nat} (F : FnG P w K mg base j f fd ps sp) (h : j ≤ k) : FnG P w K mg base k f fd ps sp :=
  ⟨F.len, fun A o s H args us vs Q r => F.run A o s H args us vs Q (r.mono h)⟩
/-- a def by its body -/
theorem fn_g {name qual : Str} {params : Arguments} {body : List Stmt} {scope : Scope} {dV kV doc pm cdv ct oc : Value} {an od : Option Addr} {osl : Array (Option Value)} {N : List Str}
    (lk : K.lookup f = some ⟨oc, od, .func (PySem.W.fnOf name qual params body scope dV kV doc pm an cdv ct), osl⟩) (hcd : PySem.W.codeIn K cdv qual = true) (S : FnScope N ps scope)
    (len : ∀ vs H Q, sp vs H Q → vs.length = ps.length)
    (hb : ∀ (A : Around) (outer : List Env) (s : Shared) (H : Hp) (vs : List V) (Q : VK), Room k (A.deeper (envOfC qual scope s.heap.objs.size f cdv)) → (A.deeper (envOfC qual scope s.heap.objs.size f cdv)).guards = some [] → sp vs H Q →
      ∃ t, PSs (cxOf CX0 P w K mg base N qual scope f cdv A outer s H E0).nox body t ∧ t { nx := fun _ H' => Q .non H', rt := Q } (start N vs) H) :
    FnG P w K mg base (k + 1) f (PySem.W.fnOf name qual params body scope dV kV doc pm an cdv ct) ps sp := by
  constructor
  · exact len
  · intro A outer s H args us vs Q room gd e0 bind vals hsp
    have hl := len _ _ _ hsp
    have hK : K.In s.heap := e0.mod.kin.keeps (fun b o e => (e0.bs b o e).1)
    have hlim : s.heap.NoLimit := e0.mod.nolimit.keeps (fun b o e => (e0.bs b o e).1)
    have kinds : ∀ y ∈ ps.zip us, scope.names.lookup y.1 = some .local ∨ (scope.names.lookup y.1 = some .cell ∧ ((cellsFrom (s.heap.objs.size + 1) scope.names []).lookup y.1).isSome = true) := by
      rintro ⟨n, v⟩ hy
      cases S.par n (List.of_mem_zip hy).1 with
      | inl q => exact .inl q
      | inr q => exact .inr ⟨q, PySem.W.cellsFrom_some _ _ _ (.inl q)⟩
    apply codeAny_call_function room.depth (hK _ _ lk) rfl S.co S.gen rfl (PySem.W.codeRec_of hK hcd)
    apply bind
    apply wpAny_newFunctionEnv_cells S.kind kinds
    intro env he s1 x
    subst he
    refine ⟨hlim.keeps x.toInCall.keep, codeAny_func ?_⟩
    obtain ⟨t, ht, hq⟩ := hb A outer s H vs Q (room.deeper _) gd hsp
    have I := inv_start (E := E0) (CX := CX0) S room.hd e0 hl vals x
    refine wpAny_mono (ht.nox.run [] s1 (start N vs) H _ I hq) (fun fl s' hs => ?_) (fun e s' hs => hs)
    cases fl with
    | ret u =>
      obtain ⟨v, σ', H', J, rv, q⟩ := hs
      exact ⟨v, H', J.os, J.bare, J.base, J.hok, rv, q⟩
    | next =>
      obtain ⟨σ', H', J, q⟩ := hs
      exact ⟨V.non, H', J.os, J.bare, J.base, J.hok, rfl, q⟩
    | brk => exact hs.elim fun _ z => z.elim fun _ z => z.2.elim
    | cont => exact hs.elim fun _ z => z.elim fun _ z => z.2.elim
end

/-! ### calls -/
/-- f(.., k = ..): n values by place, m by keywords, arranged by g -/
def tCalG (n m : Nat) (sp : List V → Hp → VK → Prop) (g : List V → List V → List V) (t tk : TA) : TE := fun σ H Q => t σ H fun vs H1 => tk σ H1 fun zs H2 => vs.length = n ∧ zs.length = m ∧ sp (g vs zs) H2 Q
section
variable {X : Cx}
theorem kw_names (pos : Pos) (env : Env) : ∀ kws : List Keyword, kws.all (·.arg.isSome) = true →
    (backToKw pos (keywordEach kws env)).all (·.1.isSome) = true ∧ (backToKw pos (keywordEach kws env)).filterMap (·.1) = kws.filterMap (·.arg) ∧ (backToKw pos (keywordEach kws env)).any (·.1.isNone) = false
  | [], _ => ⟨rfl, rfl, rfl⟩
  | ⟨nm, e, p⟩ :: kws, h => by
    rw [List.all_cons, Bool.and_eq_true] at h
    obtain ⟨h1, h2⟩ := h
    obtain ⟨a, b, c⟩ := kw_names pos env kws h2
    have e1 : backToKw pos (keywordEach (⟨nm, e, p⟩ :: kws) env) = (nm, (do let v ← eval e env; standAt pos; pure v)) :: backToKw pos (keywordEach kws env) := rfl
    cases nm with
    | none => cases h1
    | some z =>
      rw [e1]
      refine ⟨?_, ?_, ?_⟩
      · rw [List.all_cons, a]
        rfl
      · rw [List.filterMap_cons, b, List.filterMap_cons]
      · rw [List.any_cons, c]
        rfl
/-- an expression that is no star -/
def noStar : Expr → Bool
  | .Starred .. => false
  | _ => true
theorem star_cons {e : Expr} {es : List Expr} {env : Env} (h : noStar e = true) : starEach (e :: es) env = (false, eval e env) :: starEach es env := by
  cases e <;> first
    | rfl
    | cases h
theorem star_any (pos : Pos) (env : Env) : ∀ es : List Expr, es.all noStar = true → (backTo pos (starEach es env)).any (·.1) = false
  | [], _ => rfl
  | e :: es, h => by
    rw [List.all_cons, Bool.and_eq_true] at h
    rw [star_cons h.1]
    exact star_any pos env es h.2
theorem star_all (pos : Pos) (env : Env) : ∀ es : List Expr, es.all noStar = true → (backTo pos (starEach es env)).all (fun x => !x.1) = true
  | [], _ => rfl
  | e :: es, h => by
    rw [List.all_cons, Bool.and_eq_true] at h
    rw [star_cons h.1]
    exact star_all pos env es h.2
theorem run_g {k n : Nat} {f : Addr} {fd : FuncData} {ps ks : List Str} {sp : List V → Hp → VK → Prop} {g : List V → List V → List V} {gU : List Value → List Value → List Value} {pins : List (Addr × Obj)} {σ : L2.St} {H : Hp} {s : Shared} {Q : VK} {us ws : List Value} {vs zs : List V}
    (F : FnG X.prog X.w X.K X.mg X.base k f fd ps sp) (hr : Room k X.A) (hg : X.A.guards = some []) (hx : X.xe = fun _ _ => False)
    (hb : ∀ (s : Shared) (us ws : List Value), X.K.In s.heap → us.length = n → ws.length = ks.length → BindsTo s fd ⟨us, ks.zip ws⟩ (ps.zip (gU us ws)))
    (hrel : ∀ {vs : List V} {us : List Value} {zs : List V} {ws : List Value}, Vals vs us → Vals zs ws → Vals (g vs zs) (gU us ws))
    (I : Inv X pins σ H s) (r : Vals vs us) (rz : Vals zs ws) (l1 : vs.length = n) (l2 : zs.length = ks.length) (h : sp (g vs zs) H Q) : wpAny (model X.prog X.w) X.A (call (.ref f) us (ks.zip ws)) (EP X pins σ Q) X.xe s := by
  have r2 := hrel r rz
  have b2 := hb s us ws I.kIn (r.length.symm.trans l1) (rz.length.symm.trans l2)
  refine wpAny_call (codeAny_mono (F.run X.A X.stack s H _ _ _ Q hr hg I.env0 b2 r2 h) fun res s' hq => ?_)
  cases res with
  | error e => exact hq.elim
  | ok fl =>
    cases fl with
    | ret u => exact I.after hq
    | next => exact hq.elim
    | brk => exact hq.elim
    | cont => exact hq.elim
theorem pe_calG {k n : Nat} {f : Addr} {fd : FuncData} {ps ks : List Str} {sp : List V → Hp → VK → Prop} {g : List V → List V → List V} {gU : List Value → List Value → List Value} {x : Str} {p pos : Pos} {e : Expr} {es : List Expr} {kws : List Keyword} {t tk : TA}
    (F : FnG X.prog X.w X.K X.mg X.base k f fd ps sp) (hr : Room k X.A) (hg : X.A.guards = some []) (hx : X.xe = fun _ _ => False)
    (hgl : Gl X x) (hm : X.mg x = some (.ref f)) (hk : PySem.W.keepIn X.K (.ref f) = true) (hdb : (x == ("__debug__" : Str)) = false)
    (hb : ∀ (s : Shared) (us ws : List Value), X.K.In s.heap → us.length = n → ws.length = ks.length → BindsTo s fd ⟨us, ks.zip ws⟩ (ps.zip (gU us ws)))
    (hrel : ∀ {vs : List V} {us : List Value} {zs : List V} {ws : List Value}, Vals vs us → Vals zs ws → Vals (g vs zs) (gU us ws))
    (ha : PA X (e :: es) t) (hkw : PK X kws tk) (hst : (e :: es).all noStar = true) (hkn : kws.all (·.arg.isSome) = true) (hks : kws.filterMap (·.arg) = ks) :
    PE X (.Call (.Name x p) (e :: es) kws pos) (tCalG n ks.length sp g t tk) := by
  refine ⟨fun pins s σ H Q I h => ?_⟩
  obtain ⟨n1, n2, n3⟩ := kw_names pos X.env kws hkn
  apply wpAny_Call_Name_kw
  apply ld_glob I hgl hm _ hdb
  have hst' := hst
  rw [List.all_cons, Bool.and_eq_true] at hst'
  refine PySem.W.callWith_KW (h₀ := X.base) I.ok.mod.kin hk n1 (thn (ha.run pos pins s σ H _ I h) fun us s1 hu => ?_) ?_ (star_cons hst'.1)
  · obtain ⟨vs, H1, I1, r, q⟩ := hu
    refine thn (hkw.run pos pins s1 σ H1 _ I1 q) fun ws s2 hw => ?_
    obtain ⟨zs, H2, I2, rz, l1, l2, q2⟩ := hw
    refine ⟨I2.kIn, ?_⟩
    rw [n2, hks]
    exact run_g F hr hg hx hb hrel I2 r rz l1 l2 q2
  · rw [n3, star_any pos X.env _ hst]
    rfl
theorem pe_calG0 {k : Nat} {f : Addr} {fd : FuncData} {ps ks : List Str} {sp : List V → Hp → VK → Prop} {g : List V → List V → List V} {gU : List Value → List Value → List Value} {x : Str} {p pos : Pos} {kws : List Keyword} {tk : TA}
    (F : FnG X.prog X.w X.K X.mg X.base k f fd ps sp) (hr : Room k X.A) (hg : X.A.guards = some []) (hx : X.xe = fun _ _ => False)
    (hgl : Gl X x) (hm : X.mg x = some (.ref f)) (hk : PySem.W.keepIn X.K (.ref f) = true) (hdb : (x == ("__debug__" : Str)) = false)
    (hb : ∀ (s : Shared) (us ws : List Value), X.K.In s.heap → us.length = 0 → ws.length = ks.length → BindsTo s fd ⟨us, ks.zip ws⟩ (ps.zip (gU us ws)))
    (hrel : ∀ {vs : List V} {us : List Value} {zs : List V} {ws : List Value}, Vals vs us → Vals zs ws → Vals (g vs zs) (gU us ws))
    (hkw : PK X kws tk) (hkn : kws.all (·.arg.isSome) = true) (hks : kws.filterMap (·.arg) = ks) :
    PE X (.Call (.Name x p) [] kws pos) (tCalG 0 ks.length sp g tNil tk) := by
  refine ⟨fun pins s σ H Q I h => ?_⟩
  obtain ⟨n1, n2, n3⟩ := kw_names pos X.env kws hkn
  apply wpAny_Call_Name_kw
  apply ld_glob I hgl hm _ hdb
  refine PySem.W.callWith_KW0 (h₀ := X.base) I.ok.mod.kin hk n1 (thn (hkw.run pos pins s σ H _ I h) fun ws s2 hw => ?_) ?_
  · obtain ⟨zs, H2, I2, rz, l1, l2, q2⟩ := hw
    refine ⟨I2.kIn, ?_⟩
    rw [n2, hks]
    exact run_g F hr hg hx hb hrel I2 .nil rz l1 l2 q2
  · rw [n3]
    rfl
end

/-! ### what the top holds -/
/-- everything about the program as it stands behind its top: the defs of pg lie at addr, as fd -/
structure Gi where
  P : Program
  w : World
  K : PySem.W.Frag
  mg : Str → Option Value
  base : Heap
  pg : Pg
  addr : Nat → Addr
  fd : Nat → FuncData
def Fd.ps (d : Fd) : List Str := d.N.take d.np
/-- a way to call d: n values by place, keywords ks, arranged as ar says -/
def Shp (K : PySem.W.Frag) (fd : FuncData) (ps : List Str) (n : Nat) (ks : List Str) (ar : List Ar) : Prop := ∃ (gU : List Value → List Value → List Value) (g : List V → List V → List V),
  (∀ (s : Shared) (us ws : List Value), K.In s.heap → us.length = n → ws.length = ks.length → BindsTo s fd ⟨us, ks.zip ws⟩ (ps.zip (gU us ws))) ∧
  (∀ {vs : List V} {us : List Value} {zs : List V} {ws : List Value}, Vals vs us → Vals zs ws → Vals (g vs zs) (gU us ws)) ∧
  ∀ (ρ : List Addr) (H : Hp) (a b args : List MV) (vs zs : List V), VRs K ρ H a vs → VRs K ρ H b zs → ar.mapM (argAt (a ++ b)) = some args → VRs K ρ H args (g vs zs)
/-- the built-in names that the machine knows -/
def bltNames : List Str := ["len", "abs", "int", "str", "repr", "all", "sum", "list", "tuple", "max", "min", "isinstance", "range", "zip", "enumerate", "bool", "dict"]
structure Lk (G : Gi) : Prop where
  blt : ∀ b, b ∈ bltNames → G.mg b = none
  fn : ∀ (i : Nat) (d : Fd), G.pg.fs[i]? = some d → G.mg d.name = some (.ref (G.addr i)) ∧ PySem.W.keepIn G.K (.ref (G.addr i)) = true
  shp : ∀ (i : Nat) (d : Fd) (sh n : Nat) (ks : List Str) (ar : List Ar), G.pg.fs[i]? = some d → d.shapes[sh]? = some (n, ks, ar) → Shp G.K (G.fd i) d.ps n ks ar
  glo : ∀ (k : Nat) (nm : Str) (v : MV), G.pg.cs[k]? = some (nm, v) → ∃ (x : V) (u : Value), G.mg nm = some u ∧ RelV x u ∧ ∀ ρ H, VR G.K ρ H v x
/-- the small machine with so many calls left -/
def cfg (pg : Pg) (n : Nat) : Cf := { call := run pg n, glo := fun k => (pg.cs[k]?).map (·.2), arr := fun g sh => (pg.fs[g]?).bind fun e => (e.shapes[sh]?).map (·.2.2), most := pg.most }
theorem run_succ (P : Pg) (n f : Nat) (args : List MV) (M : MH) : run P (n + 1) f args M = match P.fs[f]? with
    | none => .bad
    | some d => if args.length = d.np then
        (exs (cfg P n) d.body (args.map some ++ List.replicate (d.N.length - d.np) none) M).bnd fun p M1 => match p.1 with
          | .nx => .ok .non M1
          | .rt v => .ok v M1
          | _ => .bad
      else .bad := rfl
/-- the promise of the def i with n calls left -/
def spG (G : Gi) (n i : Nat) : List V → Hp → VK → Prop := fun vs H Q => ∃ (ρ : List Addr) (M : MH) (args : List MV) (r : MV) (M' : MH), HR G.K ρ M H ∧ VRs G.K ρ H args vs ∧ run G.pg n i args M = .ok r M' ∧ KQ G.K ρ H r M' Q
theorem spG_len {G : Gi} {n i : Nat} {d : Fd} (hd : G.pg.fs[i]? = some d) (hp : d.np ≤ d.N.length) {vs : List V} {H : Hp} {Q : VK} (h : spG G n i vs H Q) : vs.length = d.ps.length := by
  obtain ⟨ρ, M, args, r, M', h1, h2, h3, _⟩ := h
  cases n with
  | zero => cases h3
  | succ n =>
    rw [run_succ, hd] at h3
    simp only at h3
    split at h3
    · rename_i e
      rw [← h2.length, e]
      unfold Fd.ps
      rw [List.length_take]
      omega
    · cases h3
/-- the defs as they may be called with n calls left -/
def Fns (G : Gi) (n : Nat) : Prop := ∀ (i : Nat) (d : Fd), G.pg.fs[i]? = some d → FnG G.P G.w G.K G.mg G.base n (G.addr i) (G.fd i) d.ps (spG G n i)
/-- a call in the small machine -/
theorem se_cal {G : Gi} {n i sh np : Nat} {d : Fd} {ks' : List Str} {ar : List Ar} {es ks : Es} {t tk : TA} {g : List V → List V → List V} (hd : G.pg.fs[i]? = some d) (hs : d.shapes[sh]? = some (np, ks', ar)) (ha : SA G.K (cfg G.pg n) t es) (hk : SA G.K (cfg G.pg n) tk ks)
    (h1 : es.len = np) (h2 : ks.len = ks'.length)
    (hg : ∀ (ρ : List Addr) (H : Hp) (a b args : List MV) (vs zs : List V), VRs G.K ρ H a vs → VRs G.K ρ H b zs → ar.mapM (argAt (a ++ b)) = some args → VRs G.K ρ H args (g vs zs)) :
    SE G.K (cfg G.pg n) (tCalG np ks'.length (spG G n i) g t tk) (.cal i sh es ks) := by
  intro σ H ρ m M v M' Q h s e q
  simp only [ev] at e
  obtain ⟨a, M1, e1, e⟩ := bnd_ok e
  obtain ⟨b, M2, e2, e⟩ := bnd_ok e
  have har : (cfg G.pg n).arr i sh = some ar := by
    show ((G.pg.fs[i]?).bind fun e => (e.shapes[sh]?).map (·.2.2)) = some ar
    rw [hd]
    show (d.shapes[sh]?).map (·.2.2) = some ar
    rw [hs]
    rfl
  rw [har] at e
  simp only at e
  split at e
  · rename_i args e3
    refine ha σ H ρ m M a M1 _ h s e1 fun vs H1 ρ1 h1' p1 r1 => ?_
    refine hk σ H1 ρ1 m M1 b M2 _ h1' (s.mo h p1) e2 fun zs H2 ρ2 h2' p2 r2 => ⟨?_, ?_, ?_⟩
    · rw [← r1.length, evs_len es _ _ _ _ e1]
      exact h1
    · rw [← r2.length, evs_len ks _ _ _ _ e2]
      exact h2
    · exact ⟨ρ2, M2, args, v, M', h2', hg _ _ _ _ _ _ _ (r1.mo h1' p2) r2 e3, e, KQ.of q (p1.trans p2)⟩
  · cases e
end MP

set_option Elab.async false
set_option linter.all false
set_option maxRecDepth 100000
set_option autoImplicit false
set_option maxHeartbeats 2000000
/-! MP, part h: a text is looked at by a program: does it say the same as a small expression? If so, the small machine tells what it does. -/
namespace MP
open PySem PySem.Spec PyProof.Rows L2

/-- a body's place: its names, its scope, room for n calls, no exception passes -/
structure Gd (G : Gi) (n : Nat) (N : List Str) (sc : Scope) (X : Cx) : Prop where
  nd : N.Nodup
  eP : X.prog = G.P
  eW : X.w = G.w
  eK : X.K = G.K
  eM : X.mg = G.mg
  eB : X.base = G.base
  eN : X.N = N
  eS : X.env.scope = sc
  calm : X.calm = true
  room : Room n X.A
  gd : X.A.guards = some []
  xe : X.xe = fun _ _ => False

/-! ### names -/
def visB (sc : Scope) (x : Str) : Bool := match sc.names.lookup x with
  | some .local => true
  | some .cell => true
  | some .free => true
  | _ => false
def glB (sc : Scope) (x : Str) : Bool := match sc.names.lookup x with
  | some .globalImplicit => true
  | _ => false
def locB (sc : Scope) (x : Str) : Bool := match sc.names.lookup x with
  | some .local => true
  | some .cell => true
  | _ => false
theorem visB_ok {sc : Scope} {x : Str} (h : visB sc x = true) : Vis sc x := by
  unfold visB at h
  split at h
  · rename_i e; exact .inl e
  · rename_i e; exact .inr (.inl e)
  · rename_i e; exact .inr (.inr e)
  · cases h
theorem locB_ok {sc : Scope} {x : Str} (h : locB sc x = true) : sc.names.lookup x = some .local ∨ sc.names.lookup x = some .cell := by
  unfold locB at h
  split at h
  · rename_i e; exact .inl e
  · rename_i e; exact .inr e
  · cases h
theorem glB_ok {sc : Scope} {x : Str} (h : glB sc x = true) : sc.names.lookup x = some .globalImplicit := by
  unfold glB at h
  split at h
  · rename_i e; exact e
  · cases h
/-- a name that no rule of its own speaks of -/
def plainN (x : Str) : Bool := !(x == ("__debug__" : Str)) && !(x == ("__classdict__" : Str))
theorem plainN_ok {x : Str} (h : plainN x = true) : (x == ("__debug__" : Str)) = false ∧ (x == ("__classdict__" : Str)) = false := by
  unfold plainN at h
  rw [Bool.and_eq_true, Bool.not_eq_true', Bool.not_eq_true'] at h
  exact h

/-! ### operators -/
def bopOf : BOp → Operator
  | .add => .Add
  | .sub => .Sub
  | .mul => .Mult
  | .fdv => .FloorDiv
  | .mod => .Mod
  | .pow => .Pow
def binR : BOp → R2
  | .add => rAddM
  | .sub => rI0 fun i j => .int (i - j)
  | .mul => rMulM
  | .fdv => rI (fun _ j => j ≠ 0 ∧ j.natAbs.log2 < 9000) fun i j => .int (i.fdiv j)
  | .mod => rI (fun _ j => j ≠ 0) fun i j => .int (i.fmod j)
  | .pow => rI CPow fun i j => .int (i ^ j.toNat)
theorem bin_op {X : Cx} (o : BOp) : OpR X (binaryOp (bopOf o)) (binR o) := by
  cases o
  · exact op_addM
  · exact op_sub
  · exact op_mulM
  · exact op_fdivZ
  · exact op_modN
  · exact op_pow
theorem ro_bin {K : PySem.W.Frag} (o : BOp) : RO K (binR o) (binop o) := by
  cases o
  · exact ro_add
  · exact ro_sub
  · exact ro_mul
  · exact ro_fdv
  · exact ro_mod
  · exact ro_pow
def copOf : COp → CmpOp
  | .eq => .Eq
  | .ne => .NotEq
  | .lt => .Lt
  | .le => .LtE
  | .gt => .Gt
  | .ge => .GtE
  | .is => .Is
  | .isn => .IsNot
  | .inn => .In
  | .nin => .NotIn
def cmpR (K : PySem.W.Frag) : COp → R2
  | .eq => rEqM K
  | .ne => rNeM K
  | .lt => rI0 fun i j => .bl (decide (i < j))
  | .le => rI0 fun i j => .bl (decide (i ≤ j))
  | .gt => rI0 fun i j => .bl (decide (j < i))
  | .ge => rI0 fun i j => .bl (decide (j ≤ i))
  | .is => rIsM
  | .isn => rIsnM
  | .inn => fun _ _ _ _ => False
  | .nin => fun _ _ _ _ => False
theorem cmp_op {X : Cx} (hu : X.A.units + 64 < cLine) (o : COp) : OpR X (compareOp (copOf o)) (cmpR X.K o) := by
  cases o
  · exact op_eqM hu
  · exact op_neM hu
  · exact op_lt
  · exact op_le
  · exact op_gt
  · exact op_ge
  · exact op_isM
  · exact op_isnM
  · exact fun _ _ _ _ _ _ _ _ _ _ _ _ h => h.elim
  · exact fun _ _ _ _ _ _ _ _ _ _ _ _ h => h.elim
theorem ro_cmp {K : PySem.W.Frag} (o : COp) : RO K (cmpR K o) (cmpop o) := by
  cases o
  · exact ro_eq
  · exact ro_ne
  · exact ro_lt
  · exact ro_le
  · exact ro_gt
  · exact ro_ge
  · exact ro_is
  · exact ro_isn
  · exact fun _ _ _ _ _ _ _ _ _ _ _ _ _ e => by cases e
  · exact fun _ _ _ _ _ _ _ _ _ _ _ _ _ e => by cases e
def noSet : Expr → Bool
  | .Set .. => false
  | _ => true
theorem no_mark {op : CmpOp} {e : Expr} (h : noSet e = true) : behindInMarks op e = false := by
  cases e <;> first
    | rfl
    | cases h

/-! ### built-ins -/
def btName : Bt → Str
  | .len => "len"
  | .abs => "abs"
  | .int => "int"
  | .str => "str"
  | .repr => "repr"
  | .all => "all"
  | .sum => "sum"
  | .list => "list"
  | .tuple => "tuple"
  | .max => "max"
  | .min => "min"
def btKnown : Bt → Bool
  | .len => true
  | .abs => true
  | .int => true
  | .str => true
  | .repr => true
  | .all => true
  | .sum => true
  | _ => false
def btR (K : PySem.W.Frag) : Bt → List V → Hp → VK → Prop
  | .len => rLenM K
  | .abs => fun xs H Q => ∃ i, xs = [.int i] ∧ Q (.int (if i < 0 then -i else i)) H
  | .int => fun xs H Q => (∃ i, xs = [.int i] ∧ Q (.int i) H) ∨ ∃ k, xs = [.bl k] ∧ Q (.int (if k then 1 else 0)) H
  | .str => fun xs H Q => ∃ i, xs = [.int i] ∧ i.natAbs.log2 < 1920 ∧ Q (.str (toString i)) H
  | .repr => rReprM K
  | .all => rAll K
  | .sum => rSum K
  | _ => fun _ _ _ => False
theorem rc_bt {K : PySem.W.Frag} (b : Bt) (h : btKnown b = true) : RC1 K (btR K b) (btop b) := by
  cases b <;> first
    | exact rc_len
    | exact rc_abs
    | exact rc_int
    | exact rc_str
    | exact rc_repr
    | exact rc_all
    | exact rc_sum
    | cases h
theorem bt_in (b : Bt) : btName b ∈ bltNames := by cases b <;> decide +kernel
theorem pe_bt {X : Cx} {k : Nat} {b : Bt} {e : Expr} {es : List Expr} {t : TA} {p pos : Pos} (hk : btKnown b = true) (hr : Room k X.A) (hgd : X.A.guards = some []) (hc : X.calm = true) (hg : Gl X (btName b)) (hm : X.mg (btName b) = none) (ha : PA X (e :: es) t)
    (hst : (e :: es).all noStar = true) : PE X (.Call (.Name (btName b) p) (e :: es) [] pos) (tCB (btR X.K b) t) := by
  have h1 := hst
  rw [List.all_cons, Bool.and_eq_true] at h1
  have s1 : starEach (e :: es) X.env = (false, eval e X.env) :: starEach es X.env := star_cons h1.1
  have s2 := star_any pos X.env es h1.2
  cases b <;> first
    | (cases hk; done)
    | skip
  · exact pe_callB call_len hg hm (by decide +kernel) ha (by decide) (by decide) s1 s2
  · exact pe_callB call_abs hg hm (by decide +kernel) ha (by decide) (by decide) s1 s2
  · exact pe_callTy call_int1 hg hm (by decide +kernel) ha (by decide) (by decide) s1 s2
  · exact pe_callTy call_str_int hg hm (by decide +kernel) ha (by decide) (by decide) s1 s2
  · exact pe_callB (call_reprM hgd hr) hg hm (by decide +kernel) ha (by decide) (by decide) s1 s2
  · exact pe_callB (cr_all hc) hg hm (by decide +kernel) ha (by decide) (by decide) s1 s2
  · exact pe_callB (cr_sum hc) hg hm (by decide +kernel) ha (by decide) (by decide) s1 s2
def tyName : Ty → Str
  | .int => "int"
  | .bool => "bool"
  | .str => "str"
  | .list => "list"
  | .tuple => "tuple"
  | .dict => "dict"
theorem ty_in (t : Ty) : tyName t ∈ bltNames := by cases t <;> decide +kernel
theorem pe_ty {X : Cx} {t : Ty} {p : Pos} (hg : Gl X (tyName t)) (hm : X.mg (tyName t) = none) : PE X (.Name (tyName t) p) (tC (.ty (tyS t))) := by
  cases t
  · exact pe_bltn hg hm (u := .type "int") (by decide +kernel) rfl (by decide) (by decide)
  · exact pe_bltn hg hm (u := .type "bool") (by decide +kernel) rfl (by decide) (by decide)
  · exact pe_bltn hg hm (u := .type "str") (by decide +kernel) rfl (by decide) (by decide)
  · exact pe_bltn hg hm (u := .type "list") (by decide +kernel) rfl (by decide) (by decide)
  · exact pe_bltn hg hm (u := .type "tuple") (by decide +kernel) rfl (by decide) (by decide)
  · exact pe_bltn hg hm (u := .type "dict") (by decide +kernel) rfl (by decide) (by decide)
/-- names of types, as an isinstance's tuple writes them -/
def tysB (sc : Scope) : List Ty → List Expr → Bool
  | [], [] => true
  | t :: ts, .Name x _ :: es => decide (x = tyName t) && glB sc x && tysB sc ts es
  | _, _ => false
theorem pa_tys {X : Cx} {sc : Scope} (hsc : X.env.scope = sc) (hm : ∀ b, b ∈ bltNames → X.mg b = none) : ∀ (ts : List Ty) (es : List Expr), tysB sc ts es = true → PA X es (tTys ts)
  | [], [], _ => pa_nil
  | [], _ :: _, h => by cases h
  | t :: ts, [], h => by cases h
  | t :: ts, e :: es, h => by
    cases e <;> try (cases h; done)
    rename_i x p
    simp only [tysB, Bool.and_eq_true, decide_eq_true_eq] at h
    obtain ⟨⟨rfl, h2⟩, h3⟩ := h
    refine pa_cons (pe_ty ?_ (hm _ (ty_in t))) (pa_tys hsc hm ts es h3)
    show X.env.scope.names.lookup _ = _
    rw [hsc]
    exact glB_ok h2
def mtName : Mt → Str
  | .append => "append"
  | .pop => "pop"
def mtR : Mt → V → List V → Hp → VK → Prop
  | .append => rAppend
  | .pop => rPop
theorem rm_mt {K : PySem.W.Frag} (b : Mt) : RM1 K (mtR b) (mtop b) := by
  cases b
  · exact rm_append
  · exact rm_pop
theorem mt_list (b : Mt) (u : MV) (us : List MV) (M : MH) (v : MV) (M' : MH) (e : mtop b u us M = .ok v M') : ∃ n, u = .lst n := by
  unfold mtop at e
  split at e
  · exact ⟨_, rfl⟩
  · exact ⟨_, rfl⟩
  · cases e
def noCall : Expr → Bool
  | .Call .. => false
  | _ => true
theorem base_ok {o : Expr} {nm : Str} {env : Env} {whole : Sem Value} (h : noCall o = true) : attributeBase o nm env whole = whole := by
  cases o <;> first
    | rfl
    | cases h
theorem pe_mt {X : Cx} {b : Mt} {o e : Expr} {es : List Expr} {to : TE} {t : TA} {apos cpos : Pos} (ho : PE X o to) (ha : PA X (e :: es) t) (hn : noCall o = true) (hst : (e :: es).all noStar = true) (hl : es.length < 20) (hline : (apos.endLine == cpos.line) = true) (hb : b = .append) :
    PE X (.Call (.Attribute o (mtName b) apos) (e :: es) [] cpos) (tBM X.K "list" (mtR b) to t) := by
  have h1 := hst
  rw [List.all_cons, Bool.and_eq_true] at h1
  have s1 : starEach (e :: es) X.env = (false, eval e X.env) :: starEach es X.env := star_cons h1.1
  have s2 := star_any cpos X.env es h1.2
  have s3 := star_all cpos X.env (e :: es) hst
  subst hb
  refine pe_bm PySem.F.plainAttrs_list PySem.F.slot_list_append PySem.F.type_list_append mt_append ho ha (base_ok hn) ?_ hline s1 s2
  rw [s3]
  show (true && true && decide ((e :: es).length + 0 + 0 < 30)) = true
  rw [List.length_cons, decide_eq_true (by omega)]
  rfl
theorem pe_mt0 {X : Cx} {b : Mt} {o : Expr} {to : TE} {apos cpos : Pos} (ho : PE X o to) (hn : noCall o = true) (hline : (apos.endLine == cpos.line) = true) (hb : b = .pop) :
    PE X (.Call (.Attribute o (mtName b) apos) [] [] cpos) (tBM X.K "list" (mtR b) to tNil) := by
  subst hb
  exact pe_bm0 PySem.F.plainAttrs_list PySem.F.slot_list_pop PySem.F.type_list_pop mt_pop ho (base_ok hn) hline

/-! ### targets -/
def tgsB (N : List Str) (sc : Scope) : List Nat → List Expr → Bool
  | [], [] => true
  | i :: is, .Name y _ :: es => decide (N[i]? = some y) && locB sc y && tgsB N sc is es
  | _, _ => false
def tgB (N : List Str) (sc : Scope) : Tg → Expr → Bool
  | .nm i, .Name y _ => decide (N[i]? = some y) && locB sc y
  | .tp is, .Tuple es _ _ => tgsB N sc is es
  | _, _ => false
def tgG (K : PySem.W.Frag) : Tg → TG
  | .nm i => gName i
  | .tp is => gTup K is.length (gNames is)
theorem sg_tg {K : PySem.W.Frag} (t : Tg) : SG K (tgG K t) t := by
  cases t
  · exact sg_nm
  · exact sg_tp
theorem pg_tgs {X : Cx} {N : List Str} {sc : Scope} (hN : X.N = N) (nd : N.Nodup) (hl : ∀ y, locB sc y = true → Loc X.env.scope y ∧ (X.fn y = true ∨ X.env.scope.names.lookup y = some .local)) :
    ∀ (is : List Nat) (es : List Expr), tgsB N sc is es = true → PGs X es (gNames is) ∧ (assignEach es X.env).length = is.length ∧ (assignEach es X.env).findIdx? (·.1) = none
  | [], [], _ => ⟨pgs_nil, rfl, rfl⟩
  | [], _ :: _, h => by cases h
  | i :: is, [], h => by cases h
  | i :: is, e :: es, h => by
    cases e <;> try (cases h; done)
    rename_i y p
    simp only [tgsB, Bool.and_eq_true, decide_eq_true_eq] at h
    obtain ⟨⟨h1, h2⟩, h3⟩ := h
    obtain ⟨a, b, c⟩ := pg_tgs hN nd hl is es h3
    obtain ⟨l1, l2⟩ := hl y h2
    subst hN
    refine ⟨pgs_cons (pg_name nd h1 l1 l2) a rfl, ?_, ?_⟩
    · show (assignEach es X.env).length + 1 = _
      rw [b]
      rfl
    · show ((false, assign (Expr.Name y p) X.env) :: assignEach es X.env).findIdx? (·.1) = none
      rw [List.findIdx?_cons, c]
      rfl
theorem pg_tg {X : Cx} {N : List Str} {sc : Scope} (hN : X.N = N) (nd : N.Nodup) (hc : X.calm = true) (hl : ∀ y, locB sc y = true → Loc X.env.scope y ∧ (X.fn y = true ∨ X.env.scope.names.lookup y = some .local)) {t : Tg} {e : Expr} (h : tgB N sc t e = true) : PG X e (tgG X.K t) := by
  cases t with
  | nm i =>
    cases e <;> try (cases h; done)
    rename_i y p
    simp only [tgB, Bool.and_eq_true, decide_eq_true_eq] at h
    obtain ⟨l1, l2⟩ := hl y h.2
    subst hN
    exact pg_name nd h.1 l1 l2
  | tp is =>
    cases e <;> try (cases h; done)
    rename_i es k p
    obtain ⟨a, b, c⟩ := pg_tgs hN nd hl is es h
    exact pg_tup hc a b c
end MP

set_option Elab.async false
set_option linter.all false
set_option maxRecDepth 100000
set_option autoImplicit false
set_option maxHeartbeats 4000000
/-! MP, part i: the look at expressions, and that it is right. -/
namespace MP
open PySem PySem.Spec PyProof.Rows L2

def cstB : MV → Const → Bool
  | .non, .none => true
  | .bl b, .bool c => b == c
  | .int i, .int j => decide (i = j)
  | .str s, .str t => decide (s = t)
  | _, _ => false
/-- tests of these forms have rules of their own -/
def plainT : Expr → Bool
  | .UnaryOp .Not _ _ => false
  | .BoolOp .. => false
  | .IfExp .. => false
  | .Compare .. => false
  | _ => true
def tstB : Expr → Bool
  | .IfExp .. => false
  | _ => true
def isTupB : Expr → Bool
  | .Tuple .. => true
  | _ => false
def ownB (N : List Str) (t : Tg) : List (Str × Nat) := t.own.map fun i => ((N[i]?).getD ⟨#[]⟩, i)
section
variable (pg : Pg) (N : List Str)
mutual
def chkE : E → Scope → Expr → Bool
  | .var i, sc, x => match x with
    | .Name y _ => decide (N[i]? = some y) && (visB sc y && plainN y)
    | _ => false
  | .cst v, _, x => match x with
    | .Constant c _ _ => cstB v c
    | _ => false
  | .glo k, sc, x => match x with
    | .Name y _ => (match pg.cs[k]? with
      | some p => decide (p.1 = y)
      | none => false) && (glB sc y && plainN y)
    | _ => false
  | .dnw, _, x => match x with
    | .Dict [] [] _ => true
    | _ => false
  | .bin o a b, sc, x => match x with
    | .BinOp y op z _ => decide (op = bopOf o) && (chkE a sc y && chkE b sc z)
    | _ => false
  | .cmp o a b, sc, x => match x with
    | .Compare y [op] [z] _ => (decide (op = copOf o) && noSet z) && (chkE a sc y && chkE b sc z)
    | _ => false
  | .chn o p a b c, sc, x => match x with
    | .Compare y [op, op'] [z, w] _ => (decide (op = copOf o) && decide (op' = copOf p) && (noSet z && noSet w)) && (chkE a sc y && chkE b sc z && chkE c sc w)
    | _ => false
  | .and a b, sc, x => match x with
    | .BoolOp .And (y :: z :: rest) p => chkE a sc y && (match rest with
      | [] => chkE b sc z && (tstB y && tstB z)
      | _ => chkE b sc (.BoolOp .And (z :: rest) p) && tstB y)
    | _ => false
  | .or a b, sc, x => match x with
    | .BoolOp .Or (y :: z :: rest) p => chkE a sc y && (match rest with
      | [] => chkE b sc z && (tstB y && tstB z)
      | _ => chkE b sc (.BoolOp .Or (z :: rest) p) && tstB y)
    | _ => false
  | .not a, sc, x => match x with
    | .UnaryOp .Not y _ => chkE a sc y && tstB y
    | _ => false
  | .neg a, sc, x => match x with
    | .UnaryOp .USub y _ => chkE a sc y
    | _ => false
  | .ife c a b, sc, x => match x with
    | .IfExp y z w _ => (chkE c sc y && tstB y) && (chkE a sc z && chkE b sc w)
    | _ => false
  | .idx a i, sc, x => match x with
    | .Subscript y z _ => (match z with
      | .Slice .. => false
      | _ => true) && (chkE a sc y && chkE i sc z)
    | _ => false
  | .slc a lo hi, sc, x => match x with
    | .Subscript y (.Slice l h none _) _ => chkE a sc y && (match lo, l with
        | none, none => true
        | some e, some z => chkE e sc z
        | _, _ => false) && (match hi, h with
        | none, none => true
        | some e, some z => chkE e sc z
        | _, _ => false)
    | _ => false
  | .rev a, sc, x => match x with
    | .Subscript y (.Slice none none (some (.UnaryOp .USub (.Constant (.int 1) _ _) _)) _) _ => chkE a sc y
    | _ => false
  | .tup es, sc, x => match x with
    | .Tuple xs _ _ => decide (es.len ≤ 1000) && chkEs es sc xs
    | _ => false
  | .lst es, sc, x => match x with
    | .List xs _ => decide (es.len ≤ 1000) && chkEs es sc xs
    | _ => false
  | .cal f sh es ks, sc, x => match x with
    | .Call (.Name y _) xs kws _ => match pg.fs[f]? with
      | some d => match d.shapes[sh]? with
        | some (np, kn, ar) => (decide (d.name = y) && glB sc y && plainN y && decide (es.len = np) && decide (ks.len = kn.length) && kws.all (·.arg.isSome) && decide (kws.filterMap (·.arg) = kn)) && (chkEs es sc xs && chkEs ks sc (kws.map (·.value)))
        | none => false
      | none => false
    | _ => false
  | .blt b es, sc, x => match x with
    | .Call (.Name y _) (z :: xs) [] _ => (decide (y = btName b) && glB sc y && btKnown b) && chkEs es sc (z :: xs)
    | _ => false
  | .isi a ts many, sc, x => match x with
    | .Call (.Name y _) [z, w] [] _ => (decide (y = "isinstance") && glB sc y && noStar z && decide (ts.length ≤ 100)) && chkE a sc z && (match many, w with
      | false, .Name u _ => (match ts with
        | [t] => decide (u = tyName t) && glB sc u
        | _ => false)
      | true, .Tuple us _ _ => tysB sc ts us
      | _, _ => false)
    | _ => false
  | .mth m a es, sc, x => match x with
    | .Call (.Attribute o nm apos) xs [] cpos => (decide (nm = mtName m) && noCall o && (apos.endLine == cpos.line)) && chkE a sc o && (match xs with
      | [] => (match m, es with
        | .pop, .nil => true
        | _, _ => false)
      | z :: zs => (match m with
        | .append => true
        | _ => false) && decide (zs.length < 20) && chkEs es sc (z :: zs))
    | _ => false
  | .com t it c e, sc, x => match x with
    | .ListComp elt [⟨tg, iter, ifs, 0⟩] scope _ => (tgB N scope t tg && blkC N sc scope (ownB N t) && noSet iter) && (chkI it sc tg iter && (match c, ifs with
      | none, [] => true
      | some c, [y] => chkE c (relS scope sc) y && tstB y
      | _, _ => false) && chkE e (relS scope sc) elt)
    | _ => false
def chkEs : Es → Scope → List Expr → Bool
  | .nil, _, xs => match xs with
    | [] => true
    | _ => false
  | .cons e es, sc, xs => match xs with
    | y :: ys => noStar y && (chkE e sc y && chkEs es sc ys)
    | [] => false
def chkI : MP.It → Scope → Expr → Expr → Bool
  | .seq e, sc, _, x => chkE e sc x
  | .rg1 a, sc, _, x => match x with
    | .Call (.Name y _) [z] [] _ => (decide (y = "range") && glB sc y && noStar z) && chkE a sc z
    | _ => false
  | .rg2 a b, sc, _, x => match x with
    | .Call (.Name y _) [z, w] [] _ => (decide (y = "range") && glB sc y && noStar z && noStar w) && (chkE a sc z && chkE b sc w)
    | _ => false
  | .zip a b, sc, tg, x => match x with
    | .Call (.Name y _) [z, w] [] _ => (decide (y = "zip") && glB sc y && noStar z && noStar w && isTupB tg) && (chkE a sc z && chkE b sc w)
    | _ => false
  | .enu a, sc, tg, x => match x with
    | .Call (.Name y _) [z] [] _ => (decide (y = "enumerate") && glB sc y && noStar z && isTupB tg) && chkE a sc z
    | _ => false
end
end

/-! ### what the look says -/
def PEx (G : Gi) (n : Nat) (N : List Str) (sc : Scope) (x : Expr) (e : E) : Prop := ∃ t, SE G.K (cfg G.pg n) t e ∧ ∀ X, Gd G n N sc X → PE X x t
def PTx (G : Gi) (n : Nat) (N : List Str) (sc : Scope) (x : Expr) (e : E) : Prop := ∃ t, ST G.K (cfg G.pg n) t e ∧ ∀ X, Gd G n N sc X → PT X x t
def PWx (G : Gi) (n : Nat) (N : List Str) (sc : Scope) (x : Expr) (e : E) : Prop := ∃ t, ST G.K (cfg G.pg n) t e ∧ ∀ X, Gd G n N sc X → PW X x t
def PAx (G : Gi) (n : Nat) (N : List Str) (sc : Scope) (xs : List Expr) (es : Es) : Prop := ∃ t, SA G.K (cfg G.pg n) t es ∧ ∀ X, Gd G n N sc X → PA X xs t ∧ ∀ kws : List Keyword, kws.map (·.value) = xs → PK X kws t
def PIx (G : Gi) (n : Nat) (N : List Str) (sc : Scope) (tg x : Expr) (it : MP.It) : Prop := ∃ t, SI G.K (cfg G.pg n) t it ∧ ∀ X, Gd G n N sc X → PI X tg x t
structure EOk (G : Gi) (n : Nat) (N : List Str) (sc : Scope) (x : Expr) (e : E) : Prop where
  pe : PEx G n N sc x e
  pt : tstB x = true → PTx G n N sc x e
  pw : (∃ op vs p, x = .BoolOp op vs p) → PWx G n N sc x e
section
variable {G : Gi} {n : Nat} {N : List Str} {sc : Scope} {x y z w : Expr} {e a b c : E}
theorem pt_plain {X : Cx} {t : TE} (h : PE X x t) (hx : plainT x = true) : PT X x (tTest t) := by
  cases x <;> first
    | exact pt_val h (by intro _; rfl)
    | (rename_i op v p; cases op <;> first
        | exact pt_val h (by intro _; rfl)
        | cases hx)
    | cases hx
theorem EOk.plain (h : PEx G n N sc x e) (hx : plainT x = true) : EOk G n N sc x e := by
  refine ⟨h, fun _ => ?_, fun hb => ?_⟩
  · obtain ⟨t, h1, h2⟩ := h
    exact ⟨_, st_of_se h1, fun X g => pt_plain (h2 X g) hx⟩
  · obtain ⟨op, vs, p, rfl⟩ := hb
    cases hx
theorem Gd.gl {X : Cx} (g : Gd G n N sc X) {nm : Str} (h : glB sc nm = true) : Gl X nm := by
  show X.env.scope.names.lookup nm = _
  rw [g.eS]
  exact glB_ok h
theorem Gd.no {X : Cx} (g : Gd G n N sc X) (L : Lk G) {nm : Str} (h : nm ∈ bltNames) : X.mg nm = none := by
  rw [g.eM]
  exact L.blt nm h
theorem Gd.run {X : Cx} {f : Addr} {fd : FuncData} {ps : List Str} {sp : List V → Hp → VK → Prop} (g : Gd G n N sc X) (F : FnG G.P G.w G.K G.mg G.base n f fd ps sp) : FnG X.prog X.w X.K X.mg X.base n f fd ps sp := by
  rw [g.eP, g.eW, g.eK, g.eM, g.eB]
  exact F
theorem ok_var {i : Nat} {nm : Str} {p : Pos} (h1 : N[i]? = some nm) (h2 : visB sc nm = true) (h3 : plainN nm = true) : EOk G n N sc (.Name nm p) (.var i) := by
  refine .plain ⟨_, se_var, fun X g => ?_⟩ rfl
  refine pe_var ?_ ?_ (plainN_ok h3).1 (plainN_ok h3).2
  · rw [g.eN]
    exact h1
  · rw [g.eS]
    exact visB_ok h2
theorem ok_cst {v : MV} {k : Const} {j : Nat} {p : Pos} (h : cstB v k = true) : EOk G n N sc (.Constant k j p) (.cst v) := by
  cases v <;> cases k <;> try (cases h; done)
  · exact .plain ⟨_, se_cst fun _ _ => .non, fun X g => pe_non⟩ rfl
  · rename_i b d
    have e : b = d := by simpa [cstB] using h
    subst e
    exact .plain ⟨_, se_cst fun _ _ => .bl b, fun X g => pe_bl⟩ rfl
  · rename_i b d
    have e : b = d := of_decide_eq_true h
    subst e
    exact .plain ⟨_, se_cst fun _ _ => .int b, fun X g => pe_int⟩ rfl
  · rename_i b d
    have e : b = d := of_decide_eq_true h
    subst e
    exact .plain ⟨_, se_cst fun _ _ => .str b, fun X g => pe_str⟩ rfl
theorem ok_glo (L : Lk G) {k : Nat} {q : Str × MV} {nm : Str} {p : Pos} (h0 : G.pg.cs[k]? = some q) (h1 : q.1 = nm) (h2 : glB sc nm = true) (h3 : plainN nm = true) : EOk G n N sc (.Name nm p) (.glo k) := by
  obtain ⟨x, u, e1, e2, e3⟩ := L.glo k q.1 q.2 h0
  have hg : (cfg G.pg n).glo k = some q.2 := by
    show (G.pg.cs[k]?).map (·.2) = some q.2
    rw [h0]
    rfl
  refine .plain ⟨_, se_glo hg e3, fun X g => ?_⟩ rfl
  refine pe_glob (g.gl h2) ?_ e2 (plainN_ok h3).1
  rw [g.eM, ← h1]
  exact e1
theorem ok_bin {o : BOp} {p : Pos} (ha : EOk G n N sc y a) (hb : EOk G n N sc z b) : EOk G n N sc (.BinOp y (bopOf o) z p) (.bin o a b) := by
  obtain ⟨ta, a1, a2⟩ := ha.pe
  obtain ⟨tb, b1, b2⟩ := hb.pe
  exact .plain ⟨_, se_bin (ro_bin o) a1 b1, fun X g => pe_op (bin_op o) (a2 X g) (b2 X g)⟩ rfl
theorem Gd.units {X : Cx} (g : Gd G n N sc X) : X.A.units + 64 < cLine := g.room.units
theorem cmp_opG {X : Cx} (g : Gd G n N sc X) (o : COp) : OpR X (compareOp (copOf o)) (cmpR G.K o) := by
  rw [← g.eK]
  exact cmp_op g.units o
theorem ok_cmp {o : COp} {p : Pos} (hs : noSet z = true) (ha : EOk G n N sc y a) (hb : EOk G n N sc z b) : EOk G n N sc (.Compare y [copOf o] [z] p) (.cmp o a b) := by
  obtain ⟨ta, a1, a2⟩ := ha.pe
  obtain ⟨tb, b1, b2⟩ := hb.pe
  refine ⟨⟨_, se_cmp (ro_cmp o) a1 b1, fun X g => pe_cmpR (cmp_opG g o) (a2 X g) (b2 X g) (no_mark hs)⟩, fun _ => ⟨_, st_of_se (se_cmp (ro_cmp o) a1 b1), fun X g => pt_cmpR (cmp_opG g o) (a2 X g) (b2 X g) (no_mark hs)⟩, fun hb => ?_⟩
  obtain ⟨op, vs, q, e⟩ := hb
  cases e
theorem last_mark {op op' : CmpOp} (h : noSet w = true) : lastMarks [op, op'] [z, w] = false := no_mark h
theorem ok_chn {o o' : COp} {p : Pos} (hs : noSet z = true) (hs2 : noSet w = true) (ha : EOk G n N sc y a) (hb : EOk G n N sc z b) (hc : EOk G n N sc w c) : EOk G n N sc (.Compare y [copOf o, copOf o'] [z, w] p) (.chn o o' a b c) := by
  obtain ⟨ta, a1, a2⟩ := ha.pe
  obtain ⟨tb, b1, b2⟩ := hb.pe
  obtain ⟨tc, c1, c2⟩ := hc.pe
  refine ⟨⟨_, se_chn (ro_cmp o) (ro_cmp o') a1 b1 c1, fun X g => pe_chain (cmp_opG g o) (cmp_opG g o') (a2 X g) (b2 X g) (c2 X g) (last_mark hs2)⟩, fun _ => ?_, fun hb => ?_⟩
  · exact ⟨_, st_of_se (se_chn (ro_cmp o) (ro_cmp o') a1 b1 c1), fun X g => pt_chain (cmp_opG g o) (cmp_opG g o') (a2 X g) (b2 X g) (c2 X g) (last_mark hs2)⟩
  · obtain ⟨op, vs, q, e⟩ := hb
    cases e
theorem ok_and2 {p : Pos} (hy : tstB y = true) (hz : tstB z = true) (ha : EOk G n N sc y a) (hb : EOk G n N sc z b) : EOk G n N sc (.BoolOp .And [y, z] p) (.and a b) := by
  obtain ⟨ta, a1, a2⟩ := ha.pe
  obtain ⟨tb, b1, b2⟩ := hb.pe
  obtain ⟨qa, a3, a4⟩ := ha.pt hy
  obtain ⟨qb, b3, b4⟩ := hb.pt hz
  have k : PWx G n N sc (.BoolOp .And [y, z] p) (.and a b) := ⟨_, st_and a3 b3, fun X g => pw_and (a4 X g) (pw_and1 (b4 X g))⟩
  refine ⟨⟨_, se_and a1 b1, fun X g => pe_and (a2 X g) (pe_one (b2 X g))⟩, fun _ => ?_, fun _ => k⟩
  obtain ⟨t, k1, k2⟩ := k
  exact ⟨t, k1, fun X g => (k2 X g).pt⟩
theorem ok_andM {r : List Expr} {p : Pos} (hy : tstB y = true) (ha : EOk G n N sc y a) (hb : EOk G n N sc (.BoolOp .And (z :: r) p) b) : EOk G n N sc (.BoolOp .And (y :: z :: r) p) (.and a b) := by
  obtain ⟨ta, a1, a2⟩ := ha.pe
  obtain ⟨tb, b1, b2⟩ := hb.pe
  obtain ⟨qa, a3, a4⟩ := ha.pt hy
  obtain ⟨qb, b3, b4⟩ := hb.pw ⟨_, _, _, rfl⟩
  have k : PWx G n N sc (.BoolOp .And (y :: z :: r) p) (.and a b) := ⟨_, st_and a3 b3, fun X g => pw_and (a4 X g) (b4 X g)⟩
  refine ⟨⟨_, se_and a1 b1, fun X g => pe_and (a2 X g) (b2 X g)⟩, fun _ => ?_, fun _ => k⟩
  obtain ⟨t, k1, k2⟩ := k
  exact ⟨t, k1, fun X g => (k2 X g).pt⟩
theorem ok_or2 {p : Pos} (hy : tstB y = true) (hz : tstB z = true) (ha : EOk G n N sc y a) (hb : EOk G n N sc z b) : EOk G n N sc (.BoolOp .Or [y, z] p) (.or a b) := by
  obtain ⟨ta, a1, a2⟩ := ha.pe
  obtain ⟨tb, b1, b2⟩ := hb.pe
  obtain ⟨qa, a3, a4⟩ := ha.pt hy
  obtain ⟨qb, b3, b4⟩ := hb.pt hz
  have k : PWx G n N sc (.BoolOp .Or [y, z] p) (.or a b) := ⟨_, st_or a3 b3, fun X g => pw_or (a4 X g) (pw_or1 (b4 X g))⟩
  refine ⟨⟨_, se_or a1 b1, fun X g => pe_or (a2 X g) (pe_one (b2 X g))⟩, fun _ => ?_, fun _ => k⟩
  obtain ⟨t, k1, k2⟩ := k
  exact ⟨t, k1, fun X g => (k2 X g).pt⟩
theorem ok_orM {r : List Expr} {p : Pos} (hy : tstB y = true) (ha : EOk G n N sc y a) (hb : EOk G n N sc (.BoolOp .Or (z :: r) p) b) : EOk G n N sc (.BoolOp .Or (y :: z :: r) p) (.or a b) := by
  obtain ⟨ta, a1, a2⟩ := ha.pe
  obtain ⟨tb, b1, b2⟩ := hb.pe
  obtain ⟨qa, a3, a4⟩ := ha.pt hy
  obtain ⟨qb, b3, b4⟩ := hb.pw ⟨_, _, _, rfl⟩
  have k : PWx G n N sc (.BoolOp .Or (y :: z :: r) p) (.or a b) := ⟨_, st_or a3 b3, fun X g => pw_or (a4 X g) (b4 X g)⟩
  refine ⟨⟨_, se_or a1 b1, fun X g => pe_or (a2 X g) (b2 X g)⟩, fun _ => ?_, fun _ => k⟩
  obtain ⟨t, k1, k2⟩ := k
  exact ⟨t, k1, fun X g => (k2 X g).pt⟩
theorem ok_not {p : Pos} (hy : tstB y = true) (ha : EOk G n N sc y a) : EOk G n N sc (.UnaryOp .Not y p) (.not a) := by
  obtain ⟨ta, a1, a2⟩ := ha.pe
  obtain ⟨qa, a3, a4⟩ := ha.pt hy
  refine ⟨⟨_, se_not a1, fun X g => pe_not (a2 X g)⟩, fun _ => ⟨_, st_not a3, fun X g => pt_not (a4 X g)⟩, fun hb => ?_⟩
  obtain ⟨op, vs, q, e⟩ := hb
  cases e
theorem ok_neg {p : Pos} (ha : EOk G n N sc y a) : EOk G n N sc (.UnaryOp .USub y p) (.neg a) := by
  obtain ⟨ta, a1, a2⟩ := ha.pe
  exact .plain ⟨_, se_neg a1, fun X g => pe_un un_neg (a2 X g)⟩ rfl
theorem ok_ife {p : Pos} (hy : tstB y = true) (hc : EOk G n N sc y c) (ha : EOk G n N sc z a) (hb : EOk G n N sc w b) : EOk G n N sc (.IfExp y z w p) (.ife c a b) := by
  obtain ⟨ta, a1, a2⟩ := ha.pe
  obtain ⟨tb, b1, b2⟩ := hb.pe
  obtain ⟨qc, c1, c2⟩ := hc.pt hy
  refine ⟨⟨_, se_ife c1 a1 b1, fun X g => pe_ifExp (c2 X g) (a2 X g) (b2 X g)⟩, fun h => ?_, fun hb => ?_⟩
  · cases h
  · obtain ⟨op, vs, q, e⟩ := hb
    cases e
theorem ok_idx {p : Pos} (hz : (match z with
      | .Slice .. => false
      | _ => true) = true) (ha : EOk G n N sc y a) (hb : EOk G n N sc z b) : EOk G n N sc (.Subscript y z p) (.idx a b) := by
  obtain ⟨ta, a1, a2⟩ := ha.pe
  obtain ⟨tb, b1, b2⟩ := hb.pe
  refine .plain ⟨_, se_idx a1 b1, fun X g => ?_⟩ rfl
  have hp : PlainIx z := by
    intro o i
    cases z <;> first
      | rfl
      | cases hz
  have hi : IxR X (rIxM G.K) := by
    rw [← g.eK]
    exact ix_M
  exact pe_ix hi (a2 X g) (b2 X g) hp
theorem ok_part {lo : Option E} {l : Option Expr} (h : (match lo, l with
    | none, none => True
    | some e, some z => EOk G n N sc z e
    | _, _ => False)) : ∃ t, SO G.K (cfg G.pg n) t lo ∧ ∀ X, Gd G n N sc X → PO X l t := by
  cases lo <;> cases l <;> try (exact h.elim)
  · exact ⟨_, so_none, fun X g => po_none⟩
  · rename_i e z
    obtain ⟨t, h1, h2⟩ := (show EOk G n N sc z e from h).pe
    exact ⟨_, so_some h1, fun X g => po_some (h2 X g)⟩
theorem ok_slc {lo hi : Option E} {l h : Option Expr} {p q : Pos} (ha : EOk G n N sc y a) (h1 : ∃ t, SO G.K (cfg G.pg n) t lo ∧ ∀ X, Gd G n N sc X → PO X l t) (h2 : ∃ t, SO G.K (cfg G.pg n) t hi ∧ ∀ X, Gd G n N sc X → PO X h t) :
    EOk G n N sc (.Subscript y (.Slice l h none p) q) (.slc a lo hi) := by
  obtain ⟨ta, a1, a2⟩ := ha.pe
  obtain ⟨tl, l1, l2⟩ := h1
  obtain ⟨th, u1, u2⟩ := h2
  refine .plain ⟨_, se_slc a1 l1 u1, fun X g => ?_⟩ rfl
  have hs : SlR X (rSlL G.K) := by
    rw [← g.eK]
    exact sl_list
  exact pe_slice hs (a2 X g) (l2 X g) (u2 X g)
theorem ok_rev {k : Nat} {p1 p2 p3 p : Pos} (ha : EOk G n N sc y a) : EOk G n N sc (.Subscript y (.Slice none none (some (.UnaryOp .USub (.Constant (.int 1) k p1) p2)) p3) p) (.rev a) := by
  obtain ⟨ta, a1, a2⟩ := ha.pe
  refine .plain ⟨_, se_rev a1, fun X g => ?_⟩ rfl
  rw [← g.eK]
  exact pe_revL (a2 X g)
theorem few_line {C : Cf} {es : Es} (h : es.len ≤ 1000) : ∀ m M v M', evs C es m M = .ok v M' → v.length ≤ sizeLine := fun m M v M' e => by
  rw [evs_len es m M v M' e]
  exact Nat.le_trans h (by decide)
theorem ok_tup {es : Es} {xs : List Expr} {k : Nat} {p : Pos} (hl : es.len ≤ 1000) (ha : PAx G n N sc xs es) : EOk G n N sc (.Tuple xs k p) (.tup es) := by
  obtain ⟨t, a1, a2⟩ := ha
  exact .plain ⟨_, se_tup (few_line hl) a1, fun X g => pe_tup (a2 X g).1⟩ rfl
theorem ok_lst {es : Es} {xs : List Expr} {p : Pos} (hl : es.len ≤ 1000) (ha : PAx G n N sc xs es) : EOk G n N sc (.List xs p) (.lst es) := by
  obtain ⟨t, a1, a2⟩ := ha
  exact .plain ⟨_, se_lst (few_line hl) a1, fun X g => pe_lst (a2 X g).1⟩ rfl
theorem ok_blt (L : Lk G) {o : Bt} {es : Es} {xs : List Expr} {p q : Pos} (hk : btKnown o = true) (hg : glB sc (btName o) = true) (hst : (z :: xs).all noStar = true) (ha : PAx G n N sc (z :: xs) es) : EOk G n N sc (.Call (.Name (btName o) p) (z :: xs) [] q) (.blt o es) := by
  obtain ⟨t, a1, a2⟩ := ha
  refine .plain ⟨_, se_blt (rc_bt o hk) a1, fun X g => ?_⟩ rfl
  rw [← g.eK]
  exact pe_bt hk g.room g.gd g.calm (g.gl hg) (g.no L (bt_in o)) (a2 X g).1 hst
theorem ok_isi1 (L : Lk G) {t : Ty} {p q r : Pos} (hg : glB sc "isinstance" = true) (hg2 : glB sc (tyName t) = true) (hz : noStar z = true) (ha : EOk G n N sc z a) : EOk G n N sc (.Call (.Name "isinstance" p) [z, .Name (tyName t) q] [] r) (.isi a [t] false) := by
  obtain ⟨ta, a1, a2⟩ := ha.pe
  refine .plain ⟨_, se_isi1 a1, fun X g => ?_⟩ rfl
  rw [← g.eK]
  exact pe_callB call_isi (g.gl hg) (g.no L (by decide +kernel)) (by decide +kernel) (pa_cons (a2 X g) (pa_cons (pe_ty (g.gl hg2) (g.no L (ty_in t))) pa_nil rfl) (star_cons hz)) (by decide) (by decide) (star_cons hz) rfl
theorem ok_isiT (L : Lk G) {ts : List Ty} {us : List Expr} {k : Nat} {p q r : Pos} (hl : ts.length ≤ 100) (hg : glB sc "isinstance" = true) (hu : tysB sc ts us = true) (hz : noStar z = true) (ha : EOk G n N sc z a) : EOk G n N sc (.Call (.Name "isinstance" p) [z, .Tuple us k q] [] r) (.isi a ts true) := by
  obtain ⟨ta, a1, a2⟩ := ha.pe
  refine .plain ⟨_, se_isiT (Nat.le_trans hl (by decide)) a1, fun X g => ?_⟩ rfl
  rw [← g.eK]
  exact pe_callB call_isiT (g.gl hg) (g.no L (by decide +kernel)) (by decide +kernel) (pa_cons (a2 X g) (pa_cons (pe_tup (pa_tys g.eS (fun b hb => g.no L hb) ts us hu)) pa_nil rfl) (star_cons hz)) (by decide) (by decide) (star_cons hz) rfl
theorem ok_app {es : Es} {o : Expr} {zs : List Expr} {ap cp : Pos} (hn : noCall o = true) (hl : (ap.endLine == cp.line) = true) (hst : (z :: zs).all noStar = true) (hz : zs.length < 20) (ho : EOk G n N sc o a) (ha : PAx G n N sc (z :: zs) es) :
    EOk G n N sc (.Call (.Attribute o (mtName .append) ap) (z :: zs) [] cp) (.mth .append a es) := by
  obtain ⟨to, o1, o2⟩ := ho.pe
  obtain ⟨t, a1, a2⟩ := ha
  refine .plain ⟨_, se_mth (rm_mt .append) (mt_list .append) o1 a1, fun X g => ?_⟩ rfl
  rw [← g.eK]
  exact pe_mt (o2 X g) (a2 X g).1 hn hst hz hl rfl
theorem ok_pop {o : Expr} {ap cp : Pos} (hn : noCall o = true) (hl : (ap.endLine == cp.line) = true) (ho : EOk G n N sc o a) : EOk G n N sc (.Call (.Attribute o (mtName .pop) ap) [] [] cp) (.mth .pop a .nil) := by
  obtain ⟨to, o1, o2⟩ := ho.pe
  refine .plain ⟨_, se_mth (rm_mt .pop) (mt_list .pop) o1 sa_nil, fun X g => ?_⟩ rfl
  rw [← g.eK]
  exact pe_mt0 (o2 X g) hn hl rfl
theorem len_of : ∀ (es : Es) (xs : List Expr) (pg : Pg) (N : List Str) (sc : Scope), chkEs pg N es sc xs = true → xs.all noStar = true ∧ es.len = xs.length
  | .nil, [], _, _, _, _ => ⟨rfl, rfl⟩
  | .nil, _ :: _, _, _, _, h => by cases h
  | .cons _ _, [], _, _, _, h => by cases h
  | .cons e es, x :: xs, pg, N, sc, h => by
    simp only [chkEs, Bool.and_eq_true] at h
    obtain ⟨h1, h2⟩ := len_of es xs pg N sc h.2.2
    refine ⟨?_, congrArg Nat.succ h2⟩
    rw [List.all_cons, h.1, h1]
    rfl
theorem ok_cal (L : Lk G) (F : Fns G n) {f sh np : Nat} {d : Fd} {kn : List Str} {ar : List Ar} {es ks : Es} {nm : Str} {xs : List Expr} {kws : List Keyword} {p q : Pos} (hd : G.pg.fs[f]? = some d) (hs : d.shapes[sh]? = some (np, kn, ar)) (h0 : d.name = nm) (hg : glB sc nm = true) (hp : plainN nm = true)
    (h1 : es.len = np) (h2 : ks.len = kn.length) (h3 : kws.all (·.arg.isSome) = true) (h4 : kws.filterMap (·.arg) = kn) (hst : xs.all noStar = true) (hxs : es.len = xs.length) (ha : PAx G n N sc xs es) (hk : PAx G n N sc (kws.map (·.value)) ks) :
    EOk G n N sc (.Call (.Name nm p) xs kws q) (.cal f sh es ks) := by
  obtain ⟨t, a1, a2⟩ := ha
  obtain ⟨tk, k1, k2⟩ := hk
  obtain ⟨gU, gV, b1, b2, b3⟩ := L.shp f d sh np kn ar hd hs
  obtain ⟨m1, m2⟩ := L.fn f d hd
  subst h0
  cases xs with
  | nil =>
    have hn0 : np = 0 := by rw [← h1, hxs]; rfl
    subst hn0
    have he : es = .nil := by
      cases es with
      | nil => rfl
      | cons _ _ => cases h1
    subst he
    refine .plain ⟨_, se_cal hd hs sa_nil k1 h1 h2 b3, fun X g => ?_⟩ rfl
    exact pe_calG0 (g.run (F f d hd)) g.room g.gd g.xe (g.gl hg) (by rw [g.eM]; exact m1) (by rw [g.eK]; exact m2) (plainN_ok hp).1 (by rw [g.eK]; exact b1) b2 ((k2 X g).2 kws rfl) h3 h4
  | cons y ys =>
    refine .plain ⟨_, se_cal hd hs a1 k1 h1 h2 b3, fun X g => ?_⟩ rfl
    exact pe_calG (g.run (F f d hd)) g.room g.gd g.xe (g.gl hg) (by rw [g.eM]; exact m1) (by rw [g.eK]; exact m2) (plainN_ok hp).1 (by rw [g.eK]; exact b1) b2 (a2 X g).1 ((k2 X g).2 kws rfl) hst h3 h4
/-! ### a comprehension's block -/
theorem gd_blk {X : Cx} {scope : Scope} {C : Addr} {cl : List (Str × Addr)} {s : Shared} {H : Hp} {fp : List Addr} (g : Gd G n N sc X) : Gd G n N (relS scope sc) (X.blk s H scope (compEnvC scope cl C X.env) fp) := by
  refine ⟨g.nd, g.eP, g.eW, g.eK, g.eM, g.eB, g.eN, ?_, g.calm, g.room, g.gd, rfl⟩
  show relS scope X.env.scope = _
  rw [g.eS]
theorem loc_blk {X : Cx} {scope : Scope} {C : Addr} {cl : List (Str × Addr)} {s : Shared} {H : Hp} {fp : List Addr} (g : Gd G n N sc X) {nm : Str} (h : locB scope nm = true) :
    Loc (X.blk s H scope (compEnvC scope cl C X.env) fp).env.scope nm ∧ ((X.blk s H scope (compEnvC scope cl C X.env) fp).fn nm = true ∨ (X.blk s H scope (compEnvC scope cl C X.env) fp).env.scope.names.lookup nm = some .local) := by
  have e : (X.blk s H scope (compEnvC scope cl C X.env) fp).env.scope = relS scope X.env.scope := rfl
  rw [e]
  rcases locB_ok h with h | h
  · have h2 : (relS scope X.env.scope).names.lookup nm = some .local := lookup_relS_keep (by decide) h
    exact ⟨.inl h2, .inr h2⟩
  · have h2 : (relS scope X.env.scope).names.lookup nm = some .cell := lookup_relS_keep (by decide) h
    refine ⟨.inr h2, .inl ?_⟩
    show (scope.names.lookup nm == some NameKind.cell) = true
    rw [h]
    rfl
theorem own_fst (t : Tg) : (ownB N t).map (·.2) = t.own := by
  unfold ownB
  rw [List.map_map]
  exact List.map_id _
theorem no_fold {e : Expr} {env : Env} (h : noSet e = true) : ∀ v, foldedSetIterable e env v = pure v := by
  intro v
  cases e <;> first
    | rfl
    | cases h
theorem ok_com {t : Tg} {it : MP.It} {c : Option E} {e : E} {elt tg iter : Expr} {ifs : List Expr} {scope : Scope} {p : Pos} (h1 : tgB N scope t tg = true) (h2 : blkC N sc scope (ownB N t) = true) (h3 : noSet iter = true) (hi : PIx G n N sc tg iter it)
    (hc : ∃ tt, SCo G.K (cfg G.pg n) tt c ∧ ∀ X, Gd G n N (relS scope sc) X → PTs X ifs tt) (he : EOk G n N (relS scope sc) elt e) : EOk G n N sc (.ListComp elt [⟨tg, iter, ifs, 0⟩] scope p) (.com t it c e) := by
  obtain ⟨wi, i1, i2⟩ := hi
  obtain ⟨tt, c1, c2⟩ := hc
  obtain ⟨te, e1, e2⟩ := he.pe
  refine .plain ⟨_, se_com i1 (sg_tg t) c1 e1, fun X g => ?_⟩ rfl
  have hb : BlkOk X.N X.env.scope scope (ownB N t) := by
    rw [g.eN, g.eS]
    exact blkOk_by h2
  have q := pe_lc (pos := p) g.calm (by rw [g.eN]; exact g.nd) (i2 X g) hb (g := tgG G.K t) (tt := tt) (te := te) (elt := elt) (ifs := ifs)
    (fun s H C cl fp => by rw [← g.eK]; exact pg_tg (show (X.blk s H scope (compEnvC scope cl C X.env) fp).N = N from g.eN) g.nd g.calm (fun y hy => loc_blk g hy) h1)
    (fun s H C cl fp => c2 _ (gd_blk g)) (fun s H C cl fp => e2 _ (gd_blk g)) (no_fold h3)
  rw [own_fst] at q
  exact q
theorem ok_seq {tg : Expr} (ha : EOk G n N sc y a) : PIx G n N sc tg y (.seq a) := by
  obtain ⟨ta, a1, a2⟩ := ha.pe
  refine ⟨_, si_seq a1, fun X g => ?_⟩
  rw [← g.eK]
  exact pi_seqM (a2 X g)
theorem ok_rg1 (L : Lk G) {tg : Expr} {p q : Pos} (hg : glB sc "range" = true) (hz : noStar z = true) (ha : EOk G n N sc z a) : PIx G n N sc tg (.Call (.Name "range" p) [z] [] q) (.rg1 a) := by
  obtain ⟨ta, a1, a2⟩ := ha.pe
  exact ⟨_, si_rg1 a1, fun X g => pi_range1 (g.gl hg) (g.no L (by decide +kernel)) (pa_cons (a2 X g) pa_nil (star_cons hz)) (star_cons hz)⟩
theorem ok_rg2 (L : Lk G) {tg : Expr} {p q : Pos} (hg : glB sc "range" = true) (hz : noStar z = true) (hw : noStar w = true) (ha : EOk G n N sc z a) (hb : EOk G n N sc w b) : PIx G n N sc tg (.Call (.Name "range" p) [z, w] [] q) (.rg2 a b) := by
  obtain ⟨ta, a1, a2⟩ := ha.pe
  obtain ⟨tb, b1, b2⟩ := hb.pe
  refine ⟨_, si_rg2 a1 b1, fun X g => ?_⟩
  refine pi_range2 (g.gl hg) (g.no L (by decide +kernel)) (pa_cons (a2 X g) (pa_cons (b2 X g) pa_nil (star_cons hw)) (star_cons hz)) ?_ (star_cons hw)
  rw [star_cons hz, star_cons hw]
  rfl
theorem ok_zip (L : Lk G) {tg : Expr} {p q : Pos} (hg : glB sc "zip" = true) (hz : noStar z = true) (hw : noStar w = true) (ht : isTupB tg = true) (ha : EOk G n N sc z a) (hb : EOk G n N sc w b) : PIx G n N sc tg (.Call (.Name "zip" p) [z, w] [] q) (.zip a b) := by
  obtain ⟨ta, a1, a2⟩ := ha.pe
  obtain ⟨tb, b1, b2⟩ := hb.pe
  refine ⟨_, si_zip a1 b1, fun X g => ?_⟩
  cases tg <;> try (cases ht; done)
  rw [← g.eK]
  exact RZ.pi_zipA (g.gl hg) (g.no L (by decide +kernel)) (pa_cons (a2 X g) (pa_cons (b2 X g) pa_nil (star_cons hw)) (star_cons hz)) (star_cons hz) (by rw [star_cons hw]; rfl)
theorem ok_enu (L : Lk G) {tg : Expr} {p q : Pos} (hg : glB sc "enumerate" = true) (hz : noStar z = true) (ht : isTupB tg = true) (ha : EOk G n N sc z a) : PIx G n N sc tg (.Call (.Name "enumerate" p) [z] [] q) (.enu a) := by
  obtain ⟨ta, a1, a2⟩ := ha.pe
  refine ⟨_, si_enu a1, fun X g => ?_⟩
  cases tg <;> try (cases ht; done)
  rw [← g.eK]
  exact pi_enum (g.gl hg) (g.no L (by decide +kernel)) (pa_cons (a2 X g) pa_nil (star_cons hz)) (star_cons hz)
theorem ok_cond {c : E} (h : tstB y = true) (ha : EOk G n N sc y c) : ∃ tt, SCo G.K (cfg G.pg n) tt (some c) ∧ ∀ X, Gd G n N sc X → PTs X [y] tt := by
  obtain ⟨t, a1, a2⟩ := ha.pt h
  exact ⟨t, a1, fun X g => pts_one (a2 X g)⟩
end

section
variable {G : Gi} {n : Nat} {N : List Str} (L : Lk G) (F : Fns G n)
include L F
mutual
theorem chkE_ok : ∀ (e : E) (sc : Scope) (x : Expr), chkE G.pg N e sc x = true → EOk G n N sc x e
  | .var i, sc, x, h => by
    simp only [chkE] at h
    split at h <;> first | (cases h; done) | skip
    simp only [Bool.and_eq_true, decide_eq_true_eq] at h
    exact ok_var h.1 h.2.1 h.2.2
  | .cst v, sc, x, h => by
    simp only [chkE] at h
    split at h <;> first | (cases h; done) | skip
    exact ok_cst h
  | .glo k, sc, x, h => by
    simp only [chkE] at h
    split at h <;> first | (cases h; done) | skip
    rw [Bool.and_eq_true, Bool.and_eq_true] at h
    obtain ⟨h1, h2, h3⟩ := h
    split at h1 <;> first | (cases h1; done) | skip
    rename_i q e0
    exact ok_glo L e0 (of_decide_eq_true h1) h2 h3
  | .dnw, sc, x, h => by
    simp only [chkE] at h
    split at h <;> first | (cases h; done) | skip
    exact .plain ⟨_, se_dnw, fun X g => pe_dnewK⟩ rfl
  | .bin o a b, sc, x, h => by
    simp only [chkE] at h
    split at h <;> first | (cases h; done) | skip
    simp only [Bool.and_eq_true, decide_eq_true_eq] at h
    obtain ⟨rfl, h1, h2⟩ := h
    exact ok_bin (chkE_ok a sc _ h1) (chkE_ok b sc _ h2)
  | .cmp o a b, sc, x, h => by
    simp only [chkE] at h
    split at h <;> first | (cases h; done) | skip
    simp only [Bool.and_eq_true, decide_eq_true_eq] at h
    obtain ⟨⟨rfl, h0⟩, h1, h2⟩ := h
    exact ok_cmp h0 (chkE_ok a sc _ h1) (chkE_ok b sc _ h2)
  | .chn o p a b c, sc, x, h => by
    simp only [chkE] at h
    split at h <;> first | (cases h; done) | skip
    simp only [Bool.and_eq_true, decide_eq_true_eq] at h
    obtain ⟨⟨⟨rfl, rfl⟩, h3, h4⟩, ⟨h1, h2⟩, h5⟩ := h
    exact ok_chn h3 h4 (chkE_ok a sc _ h1) (chkE_ok b sc _ h2) (chkE_ok c sc _ h5)
  | .and a b, sc, x, h => by
    simp only [chkE] at h
    split at h <;> first | (cases h; done) | skip
    rw [Bool.and_eq_true] at h
    obtain ⟨h1, h2⟩ := h
    split at h2
    · simp only [Bool.and_eq_true] at h2
      exact ok_and2 h2.2.1 h2.2.2 (chkE_ok a sc _ h1) (chkE_ok b sc _ h2.1)
    · rw [Bool.and_eq_true] at h2
      exact ok_andM h2.2 (chkE_ok a sc _ h1) (chkE_ok b sc _ h2.1)
  | .or a b, sc, x, h => by
    simp only [chkE] at h
    split at h <;> first | (cases h; done) | skip
    rw [Bool.and_eq_true] at h
    obtain ⟨h1, h2⟩ := h
    split at h2
    · simp only [Bool.and_eq_true] at h2
      exact ok_or2 h2.2.1 h2.2.2 (chkE_ok a sc _ h1) (chkE_ok b sc _ h2.1)
    · rw [Bool.and_eq_true] at h2
      exact ok_orM h2.2 (chkE_ok a sc _ h1) (chkE_ok b sc _ h2.1)
  | .not a, sc, x, h => by
    simp only [chkE] at h
    split at h <;> first | (cases h; done) | skip
    rw [Bool.and_eq_true] at h
    exact ok_not h.2 (chkE_ok a sc _ h.1)
  | .neg a, sc, x, h => by
    simp only [chkE] at h
    split at h <;> first | (cases h; done) | skip
    exact ok_neg (chkE_ok a sc _ h)
  | .ife c a b, sc, x, h => by
    simp only [chkE] at h
    split at h <;> first | (cases h; done) | skip
    simp only [Bool.and_eq_true] at h
    exact ok_ife h.1.2 (chkE_ok c sc _ h.1.1) (chkE_ok a sc _ h.2.1) (chkE_ok b sc _ h.2.2)
  | .idx a i, sc, x, h => by
    simp only [chkE] at h
    split at h <;> first | (cases h; done) | skip
    rw [Bool.and_eq_true, Bool.and_eq_true] at h
    exact ok_idx h.1 (chkE_ok a sc _ h.2.1) (chkE_ok i sc _ h.2.2)
  | .slc a none none, sc, x, h => by
    unfold chkE at h
    split at h <;> first | (cases h; done) | skip
    rename_i y l r p q
    rw [Bool.and_eq_true, Bool.and_eq_true] at h
    obtain ⟨⟨h1, h2⟩, h3⟩ := h
    cases l <;> first | (exact Bool.noConfusion h2) | skip
    cases r <;> first | (exact Bool.noConfusion h3) | skip
    exact ok_slc (chkE_ok a sc _ h1) ⟨_, so_none, fun X g => po_none⟩ ⟨_, so_none, fun X g => po_none⟩
  | .slc a none (some f), sc, x, h => by
    unfold chkE at h
    split at h <;> first | (cases h; done) | skip
    rename_i y l r p q
    rw [Bool.and_eq_true, Bool.and_eq_true] at h
    obtain ⟨⟨h1, h2⟩, h3⟩ := h
    cases l <;> first | (exact Bool.noConfusion h2) | skip
    cases r <;> first | (exact Bool.noConfusion h3) | skip
    exact ok_slc (chkE_ok a sc _ h1) ⟨_, so_none, fun X g => po_none⟩ (ok_part (lo := some f) (l := some _) (chkE_ok f sc _ h3))
  | .slc a (some e) none, sc, x, h => by
    unfold chkE at h
    split at h <;> first | (cases h; done) | skip
    rename_i y l r p q
    rw [Bool.and_eq_true, Bool.and_eq_true] at h
    obtain ⟨⟨h1, h2⟩, h3⟩ := h
    cases l <;> first | (exact Bool.noConfusion h2) | skip
    cases r <;> first | (exact Bool.noConfusion h3) | skip
    exact ok_slc (chkE_ok a sc _ h1) (ok_part (lo := some e) (l := some _) (chkE_ok e sc _ h2)) ⟨_, so_none, fun X g => po_none⟩
  | .slc a (some e) (some f), sc, x, h => by
    unfold chkE at h
    split at h <;> first | (cases h; done) | skip
    rename_i y l r p q
    rw [Bool.and_eq_true, Bool.and_eq_true] at h
    obtain ⟨⟨h1, h2⟩, h3⟩ := h
    cases l <;> first | (exact Bool.noConfusion h2) | skip
    cases r <;> first | (exact Bool.noConfusion h3) | skip
    exact ok_slc (chkE_ok a sc _ h1) (ok_part (lo := some e) (l := some _) (chkE_ok e sc _ h2)) (ok_part (lo := some f) (l := some _) (chkE_ok f sc _ h3))
  | .rev a, sc, x, h => by
    simp only [chkE] at h
    split at h <;> first | (cases h; done) | skip
    exact ok_rev (chkE_ok a sc _ h)
  | .tup es, sc, x, h => by
    simp only [chkE] at h
    split at h <;> first | (cases h; done) | skip
    simp only [Bool.and_eq_true, decide_eq_true_eq] at h
    exact ok_tup h.1 (chkEs_ok es sc _ h.2)
  | .lst es, sc, x, h => by
    simp only [chkE] at h
    split at h <;> first | (cases h; done) | skip
    simp only [Bool.and_eq_true, decide_eq_true_eq] at h
    exact ok_lst h.1 (chkEs_ok es sc _ h.2)
  | .cal f sh es ks, sc, x, h => by
    simp only [chkE] at h
    split at h <;> first | (cases h; done) | skip
    split at h <;> first | (cases h; done) | skip
    rename_i d hd
    split at h <;> first | (cases h; done) | skip
    rename_i np kn ar hs
    simp only [Bool.and_eq_true, decide_eq_true_eq] at h
    obtain ⟨⟨⟨⟨⟨⟨⟨h1, h2⟩, h3⟩, h4⟩, h5⟩, h6⟩, h7⟩, h8, h9⟩ := h
    obtain ⟨l1, l2⟩ := len_of _ _ _ _ _ h8
    exact ok_cal L F hd hs h1 h2 h3 h4 h5 h6 h7 l1 l2 (chkEs_ok es sc _ h8) (chkEs_ok ks sc _ h9)
  | .blt b es, sc, x, h => by
    simp only [chkE] at h
    split at h <;> first | (cases h; done) | skip
    simp only [Bool.and_eq_true, decide_eq_true_eq] at h
    obtain ⟨⟨⟨rfl, h2⟩, h3⟩, h4⟩ := h
    exact ok_blt L h3 h2 (len_of _ _ _ _ _ h4).1 (chkEs_ok es sc _ h4)
  | .isi a ts many, sc, x, h => by
    simp only [chkE] at h
    split at h <;> first | (cases h; done) | skip
    simp only [Bool.and_eq_true, decide_eq_true_eq] at h
    obtain ⟨⟨⟨⟨⟨rfl, h2⟩, h3⟩, h4⟩, h5⟩, h6⟩ := h
    split at h6 <;> first | (cases h6; done) | skip
    · split at h6 <;> first | (cases h6; done) | skip
      simp only [Bool.and_eq_true, decide_eq_true_eq] at h6
      obtain ⟨rfl, h7⟩ := h6
      exact ok_isi1 L h2 h7 h3 (chkE_ok a sc _ h5)
    · exact ok_isiT L h4 h2 h6 h3 (chkE_ok a sc _ h5)
  | .mth m a es, sc, x, h => by
    simp only [chkE] at h
    split at h <;> first | (cases h; done) | skip
    simp only [Bool.and_eq_true, decide_eq_true_eq] at h
    obtain ⟨⟨⟨⟨rfl, h2⟩, h3⟩, h4⟩, h5⟩ := h
    split at h5
    · split at h5 <;> first | (cases h5; done) | skip
      exact ok_pop h2 h3 (chkE_ok a sc _ h4)
    · simp only [Bool.and_eq_true, decide_eq_true_eq] at h5
      obtain ⟨⟨h6, h7⟩, h8⟩ := h5
      split at h6 <;> first | (cases h6; done) | skip
      exact ok_app h2 h3 (len_of _ _ _ _ _ h8).1 h7 (chkE_ok a sc _ h4) (chkEs_ok es sc _ h8)
  | .com t it none e, sc, x, h => by
    unfold chkE at h
    split at h <;> first | (cases h; done) | skip
    rename_i elt tg iter ifs scope p
    simp only [Bool.and_eq_true] at h
    obtain ⟨⟨⟨h1, h2⟩, h3⟩, ⟨h4, h5⟩, h6⟩ := h
    cases ifs <;> first | (exact Bool.noConfusion h5) | skip
    exact ok_com (c := none) h1 h2 h3 (chkI_ok it sc _ _ h4) ⟨tYes, rfl, fun X g => pts_nil⟩ (chkE_ok e _ _ h6)
  | .com t it (some c) e, sc, x, h => by
    unfold chkE at h
    split at h <;> first | (cases h; done) | skip
    rename_i elt tg iter ifs scope p
    simp only [Bool.and_eq_true] at h
    obtain ⟨⟨⟨h1, h2⟩, h3⟩, ⟨h4, h5⟩, h6⟩ := h
    cases ifs with
    | nil => exact Bool.noConfusion h5
    | cons y r =>
      cases r with
      | cons _ _ => exact Bool.noConfusion h5
      | nil =>
        have h5' : (chkE G.pg N c (relS scope sc) y && tstB y) = true := h5
        rw [Bool.and_eq_true] at h5'
        exact ok_com (c := some c) h1 h2 h3 (chkI_ok it sc _ _ h4) (ok_cond h5'.2 (chkE_ok c _ _ h5'.1)) (chkE_ok e _ _ h6)
theorem chkEs_ok : ∀ (es : Es) (sc : Scope) (xs : List Expr), chkEs G.pg N es sc xs = true → PAx G n N sc xs es
  | .nil, sc, [], h => ⟨_, sa_nil, fun X g => ⟨pa_nil, fun kws e => by
      cases kws with
      | nil => exact pk_nil
      | cons _ _ => cases e⟩⟩
  | .nil, sc, _ :: _, h => by cases h
  | .cons _ _, sc, [], h => by cases h
  | .cons e es, sc, y :: ys, h => by
    simp only [chkEs, Bool.and_eq_true] at h
    obtain ⟨t, a1, a2⟩ := (chkE_ok e sc y h.2.1).pe
    obtain ⟨ts, b1, b2⟩ := chkEs_ok es sc ys h.2.2
    refine ⟨_, sa_cons a1 b1, fun X g => ⟨pa_cons (a2 X g) (b2 X g).1 (star_cons h.1), fun kws e => ?_⟩⟩
    cases kws with
    | nil => cases e
    | cons k kws =>
      obtain ⟨nm, v, p⟩ := k
      cases e
      exact pk_cons (a2 X g) ((b2 X g).2 kws rfl)
theorem chkI_ok : ∀ (it : MP.It) (sc : Scope) (tg x : Expr), chkI G.pg N it sc tg x = true → PIx G n N sc tg x it
  | .seq e, sc, tg, x, h => ok_seq (chkE_ok e sc x h)
  | .rg1 a, sc, tg, x, h => by
    simp only [chkI] at h
    split at h <;> first | (cases h; done) | skip
    simp only [Bool.and_eq_true, decide_eq_true_eq] at h
    obtain ⟨⟨⟨rfl, h1⟩, h2⟩, h3⟩ := h
    exact ok_rg1 L h1 h2 (chkE_ok a sc _ h3)
  | .rg2 a b, sc, tg, x, h => by
    simp only [chkI] at h
    split at h <;> first | (cases h; done) | skip
    simp only [Bool.and_eq_true, decide_eq_true_eq] at h
    obtain ⟨⟨⟨⟨rfl, h1⟩, h2⟩, h3⟩, h4, h5⟩ := h
    exact ok_rg2 L h1 h2 h3 (chkE_ok a sc _ h4) (chkE_ok b sc _ h5)
  | .zip a b, sc, tg, x, h => by
    simp only [chkI] at h
    split at h <;> first | (cases h; done) | skip
    simp only [Bool.and_eq_true, decide_eq_true_eq] at h
    obtain ⟨⟨⟨⟨⟨rfl, h1⟩, h2⟩, h3⟩, h6⟩, h4, h5⟩ := h
    exact ok_zip L h1 h2 h3 h6 (chkE_ok a sc _ h4) (chkE_ok b sc _ h5)
  | .enu a, sc, tg, x, h => by
    simp only [chkI] at h
    split at h <;> first | (cases h; done) | skip
    simp only [Bool.and_eq_true, decide_eq_true_eq] at h
    obtain ⟨⟨⟨⟨rfl, h1⟩, h2⟩, h6⟩, h4⟩ := h
    exact ok_enu L h1 h2 h6 (chkE_ok a sc _ h4)
end
end
end MP

set_option Elab.async false
set_option linter.all false
set_option maxRecDepth 100000
set_option autoImplicit false
set_option maxHeartbeats 4000000
/-! MP, part j: the look at statements and defs, and that it is right. -/
namespace MP
open PySem PySem.Spec PyProof.Rows L2

/-! ### when the stores of a pair are swapped -/
theorem blk_fn {env : Env} (h : env.scope.kind = .function) : env.blockKind = .function := by
  unfold Env.blockKind
  rw [h]
  rfl
theorem kind_loc {env : Env} {x : Str} (h : env.scope.names.lookup x = some .local) : (env.kindOf x == some NameKind.local) = true := by
  unfold Env.kindOf
  rw [h]
  rfl
theorem kind_cell {env : Env} {x : Str} (h : env.scope.names.lookup x = some .cell) : (env.kindOf x == some NameKind.local) = false := by
  unfold Env.kindOf
  rw [h]
  rfl
theorem swap2 {env : Env} {x y : Str} {px py p q : Pos} {a b : Expr} {k j : Nat} (hk : env.scope.kind = .function) (hx : env.scope.names.lookup x = some .local) (hy : env.scope.names.lookup y = some .local) (hl : (py.line == px.line) = true) (hn : (x == y) = false)
    (ha : noStar a = true) (hb : noStar b = true) (hf : ([a, b].all (foldedForSure 8)) = false) (hc : ([a, b].all (constantsAlone 8)) = false) :
    swappedStores [.Tuple [.Name x px, .Name y py] k p] (.Tuple [a, b] j q) env = pure (some [x, y]) := by
  have ed : ([x, y] : List Str).eraseDups = [x, y] := by
    have hn' : (y == x) = false := by
      have : x ≠ y := by simpa using hn
      simpa using fun z => this z.symm
    simp [List.eraseDups_cons, List.filter, hn']
  unfold swappedStores
  simp only [List.filterMap_cons, List.filterMap_nil, kind_loc hx, kind_loc hy, hl, blk_fn hk, hf, hc, ed, List.length_cons, List.length_nil, List.head?_cons, Option.map_some, Option.getD_some, Expr.pos]
  simp
  rw [if_neg, ed]
  · rfl
  · rintro (h | h)
    · cases a <;> first | (exact Bool.noConfusion ha) | (exact Bool.noConfusion h)
    · cases b <;> first | (exact Bool.noConfusion hb) | (exact Bool.noConfusion h)
theorem swap3 {env : Env} {x y z : Str} {px py pz p q : Pos} {a b c : Expr} {k j : Nat} (hk : env.scope.kind = .function) (hx : env.scope.names.lookup x = some .local) (hy : env.scope.names.lookup y = some .local) (hz : env.scope.names.lookup z = some .local)
    (hl : (py.line == px.line) = true) (hl2 : (pz.line == px.line) = true) (hn : x ≠ y) (hn2 : x ≠ z) (hn3 : y ≠ z)
    (ha : noStar a = true) (hb : noStar b = true) (hc' : noStar c = true) (hf : ([a, b, c].all (foldedForSure 8)) = false) (hc : ([a, b, c].all (constantsAlone 8)) = false) :
    swappedStores [.Tuple [.Name x px, .Name y py, .Name z pz] k p] (.Tuple [a, b, c] j q) env = pure (some [x, y, z]) := by
  have ed : ([x, y, z] : List Str).eraseDups = [x, y, z] := by
    have h1 : (y == x) = false := by simpa using fun w => hn w.symm
    have h2 : (z == x) = false := by simpa using fun w => hn2 w.symm
    have h3 : (z == y) = false := by simpa using fun w => hn3 w.symm
    simp [List.eraseDups_cons, List.filter, h1, h2, h3]
  unfold swappedStores
  simp only [List.filterMap_cons, List.filterMap_nil, kind_loc hx, kind_loc hy, kind_loc hz, hl, hl2, blk_fn hk, hf, hc, ed, List.length_cons, List.length_nil, List.head?_cons, Option.map_some, Option.getD_some, Expr.pos]
  simp
  rw [if_neg, ed]
  · rfl
  · rintro (h | h | h)
    · cases a <;> first | (exact Bool.noConfusion ha) | (exact Bool.noConfusion h)
    · cases b <;> first | (exact Bool.noConfusion hb) | (exact Bool.noConfusion h)
    · cases c <;> first | (exact Bool.noConfusion hc') | (exact Bool.noConfusion h)
theorem swap_len {env : Env} {ts vs : List Expr} {p q : Pos} {k j : Nat} (h : (ts.length == 2 || ts.length == 3) = false) : swappedStores [.Tuple ts k p] (.Tuple vs j q) env = pure none := by
  unfold swappedStores
  simp only []
  rw [if_pos (by rw [h]; rfl)]
theorem swap_fold {env : Env} {ts vs : List Expr} {p q : Pos} {k j : Nat} (h : (vs.all (foldedForSure 8)) = true) : swappedStores [.Tuple ts k p] (.Tuple vs j q) env = pure none := by
  unfold swappedStores
  simp only []
  split
  · rfl
  · split
    · rfl
    · split
      · rfl
      · rfl
/-- a name among them is no local one -/
theorem swap_cell {env : Env} {ts vs : List Expr} {p q : Pos} {k j : Nat} {x : Str} {px : Pos} (hm : Expr.Name x px ∈ ts) (h : (env.kindOf x == some NameKind.local) = false) : swappedStores [.Tuple ts k p] (.Tuple vs j q) env = pure none := by
  unfold swappedStores
  simp only []
  split
  · rfl
  · split
    · rfl
    · rw [if_pos]
      rw [Bool.or_eq_true]
      left
      have key : ∀ f : Expr → Option Str, f (.Name x px) = none → ((ts.filterMap f).length != ts.length) = true := fun f e => by
        have := List.length_filterMap_lt_length_iff_exists.mpr ⟨_, hm, e⟩
        simpa using Nat.ne_of_lt this
      apply key
      simp [h]
/-- no pair on the right -/
theorem swap_other {env : Env} {tg e : Expr} (h : (match e with
    | .Tuple .. => false
    | _ => true) = true) : swappedStores [tg] e env = pure none := by
  unfold swappedStores
  cases tg <;> cases e <;> first | rfl | exact Bool.noConfusion h

/-! ### the look -/
def noComp : Expr → Bool
  | .ListComp .. => false
  | .SetComp .. => false
  | .DictComp .. => false
  | _ => true
def noTup : Expr → Bool
  | .Tuple .. => false
  | _ => true
def augB : BOp → Bool
  | .add => true
  | .sub => true
  | _ => false
/-- a comprehension's value goes straight into the name -/
def sweB (sc : Scope) (nm : Str) (py : Pos) : Expr → Bool
  | .ListComp _ _ scope p => decide (sc.names.lookup nm = some .local) && ((py.line == p.line) && !(scope.names.any fun (n, k) => n == nm && (k == .local || k == .cell)))
  | _ => false
/-- a, b = x, y; a, b, c = x, y, z with plain local names -/
def parB (sc : Scope) : List Expr → List Expr → Bool
  | [.Name x px, .Name y py], [a, b] => decide (sc.names.lookup x = some .local) && decide (sc.names.lookup y = some .local) && ((py.line == px.line) && !(x == y)) && (noStar a && noStar b) && (!([a, b].all (foldedForSure 8)) && !([a, b].all (constantsAlone 8)))
  | [.Name x px, .Name y py, .Name z pz], [a, b, c] => decide (sc.names.lookup x = some .local) && decide (sc.names.lookup y = some .local) && decide (sc.names.lookup z = some .local) && ((py.line == px.line) && (pz.line == px.line)) && (decide (x ≠ y) && decide (x ≠ z) && decide (y ≠ z)) &&
    (noStar a && noStar b && noStar c) && (!([a, b, c].all (foldedForSure 8)) && !([a, b, c].all (constantsAlone 8)))
  | _, _ => false
/-- no swap -/
def nopB (sc : Scope) (ts vs : List Expr) : Bool := !(ts.length == 2 || ts.length == 3) || vs.all (foldedForSure 8) || ts.any fun t => match t with
  | .Name x _ => decide (sc.names.lookup x = some .cell)
  | _ => false
/-- what an assignment's sides must be -/
def asgB (sc : Scope) (tg y : Expr) : Bool := match tg with
  | .Name nm py => noComp y || sweB sc nm py y
  | .Tuple ts _ _ => match y with
    | .Tuple vs _ _ => parB sc ts vs || nopB sc ts vs
    | _ => true
  | _ => false
section
variable (pg : Pg) (N : List Str)
mutual
def chkS : S → Scope → Stmt → Bool
  | .exp e, sc, x => match x with
    | .Expr y _ => noComp y && chkE pg N e sc y
    | _ => false
  | .asg t e, sc, x => match x with
    | .Assign [tg] y p => tgB N sc t tg && (chkE pg N e sc y && asgB sc tg y)
    | _ => false
  | .put a i e, sc, x => match x with
    | .Assign [.Subscript y z _] w _ => (match z with
      | .Slice .. => false
      | _ => true) && (chkE pg N e sc w && (chkE pg N a sc y && chkE pg N i sc z))
    | _ => false
  | .aug i o e, sc, x => match x with
    | .AugAssign (.Name nm _) op y _ => (decide (N[i]? = some nm) && locB sc nm && decide (op = bopOf o) && augB o) && chkE pg N e sc y
    | _ => false
  | .agi a i o e, sc, x => match x with
    | .AugAssign (.Subscript y z _) op w _ => ((match z with
      | .Slice .. => false
      | _ => true) && decide (op = bopOf o) && augB o) && (chkE pg N a sc y && (chkE pg N i sc z && chkE pg N e sc w))
    | _ => false
  | .iff c a b, sc, x => match x with
    | .If y as bs _ => (chkE pg N c sc y && tstB y) && (chkSs a sc as && chkSs b sc bs)
    | _ => false
  | .whl c b, sc, x => match x with
    | .While y bs [] _ => (chkE pg N c sc y && tstB y) && chkSs b sc bs
    | _ => false
  | .for t it b, sc, x => match x with
    | .For tg iter bs [] _ => (tgB N sc t tg && noSet iter) && (chkI pg N it sc tg iter && chkSs b sc bs)
    | _ => false
  | .ret e, sc, x => match x with
    | .Return (some y) _ => chkE pg N e sc y
    | _ => false
  | .rtn, _, x => match x with
    | .Return none _ => true
    | _ => false
  | .brk, _, x => match x with
    | .Break _ => true
    | _ => false
  | .cnt, _, x => match x with
    | .Continue _ => true
    | _ => false
  | .pas, _, x => match x with
    | .Pass _ => true
    | _ => false
  | .rai _ _, _, x => match x with
    | .Raise _ _ _ => true
    | _ => false
def chkSs : Ss → Scope → List Stmt → Bool
  | .nil, _, xs => match xs with
    | [] => true
    | _ => false
  | .cons s ss, sc, xs => match xs with
    | y :: ys => chkS s sc y && chkSs ss sc ys
    | [] => false
end
end

structure GdS (G : Gi) (n : Nat) (N : List Str) (sc : Scope) (X : Cx) : Prop extends Gd G n N sc X where
  fnT : ∀ y, X.fn y = true
  kind : sc.kind = .function
def PSx (G : Gi) (n : Nat) (N : List Str) (sc : Scope) (x : Stmt) (s : S) : Prop := ∃ t, SS G.K (cfg G.pg n) t s ∧ ∀ X, GdS G n N sc X → PS X x t
def PBx (G : Gi) (n : Nat) (N : List Str) (sc : Scope) (xs : List Stmt) (ss : Ss) : Prop := ∃ t, SB G.K (cfg G.pg n) t ss ∧ ∀ X, GdS G n N sc X → PSs X xs t
section
variable {G : Gi} {n : Nat} {N : List Str} {sc : Scope} {x y z w : Expr} {e a b c : E}
theorem GdS.loc {X : Cx} (g : GdS G n N sc X) {nm : Str} (h : locB sc nm = true) : Loc X.env.scope nm ∧ (X.fn nm = true ∨ X.env.scope.names.lookup nm = some .local) := by
  rw [g.eS]
  exact ⟨locB_ok h, .inl (g.fnT nm)⟩
theorem GdS.tg {X : Cx} (g : GdS G n N sc X) {t : Tg} (h : tgB N sc t x = true) : PG X x (tgG G.K t) := by
  rw [← g.eK]
  exact pg_tg g.eN g.nd g.calm (fun y hy => g.loc hy) h
theorem GdS.kindX {X : Cx} (g : GdS G n N sc X) : X.env.scope.kind = .function := by
  rw [g.eS]
  exact g.kind
theorem no_swe {t : Option Expr} {l : Nat} {env : Env} (h : noComp y = true) : swapsWith y t l env = pure false := by
  cases y <;> first
    | (exact Bool.noConfusion h)
    | rfl
theorem sw_tup {ts : List Expr} {k l : Nat} {p : Pos} {env : Env} : swapsWithSole [.Tuple ts k p] y l env = pure false := by
  cases y <;> rfl
theorem sw_sub {l : Nat} {p : Pos} {env : Env} : swapsWithSole [.Subscript x z p] y l env = pure false := by
  cases y <;> rfl
theorem PassesOwn.of {X : Cx} (h : X.xe = fun _ _ => False) : PassesOwn (model X.prog X.w) X.A X.env X.xe := by
  rw [h]
  exact PassesOwn.never
theorem ok_exp {p : Pos} (h : noComp y = true) (ha : EOk G n N sc y a) : PSx G n N sc (.Expr y p) (.exp a) := by
  obtain ⟨t, a1, a2⟩ := ha.pe
  exact ⟨_, ss_exp a1, fun X g => ps_expr (a2 X g.toGd) (no_swe h)⟩
theorem ok_asgN {nm : Str} {py p : Pos} {i : Nat} (hi : N[i]? = some nm) (hl : locB sc nm = true) (h : noComp y = true) (ha : EOk G n N sc y a) : PSx G n N sc (.Assign [.Name nm py] y p) (.asg (.nm i) a) := by
  obtain ⟨t, a1, a2⟩ := ha.pe
  refine ⟨_, ss_asg a1 sg_nm, fun X g => ?_⟩
  obtain ⟨l1, l2⟩ := g.loc hl
  exact ps_set (by rw [g.eN]; exact g.nd) (by rw [g.eN]; exact hi) l1 (a2 X g.toGd) (no_swe h) l2
theorem ok_asgC {nm : Str} {py p q : Pos} {i : Nat} {t : Tg} {it : MP.It} {c : Option E} {elt tg iter : Expr} {ifs : List Expr} {scope : Scope} (hi : N[i]? = some nm) (hs : sweB sc nm py (.ListComp elt [⟨tg, iter, ifs, 0⟩] scope q) = true)
    (h1 : tgB N scope t tg = true) (h2 : blkC N sc scope (ownB N t) = true) (h3 : noSet iter = true) (hit : PIx G n N sc tg iter it)
    (hc : ∃ tt, SCo G.K (cfg G.pg n) tt c ∧ ∀ X, Gd G n N (relS scope sc) X → PTs X ifs tt) (he : EOk G n N (relS scope sc) elt e) : PSx G n N sc (.Assign [.Name nm py] (.ListComp elt [⟨tg, iter, ifs, 0⟩] scope q) p) (.asg (.nm i) (.com t it c e)) := by
  obtain ⟨wi, i1, i2⟩ := hit
  obtain ⟨tt, c1, c2⟩ := hc
  obtain ⟨te, e1, e2⟩ := he.pe
  refine ⟨_, ss_asg (se_com i1 (sg_tg t) c1 e1) sg_nm, fun X g => ?_⟩
  have hb : BlkOk X.N X.env.scope scope (ownB N t) := by
    rw [g.eN, g.eS]
    exact blkOk_by h2
  simp only [sweB, Bool.and_eq_true, decide_eq_true_eq, Bool.not_eq_true'] at hs
  obtain ⟨s1, s2, s3⟩ := hs
  have lk : X.env.scope.names.lookup nm = some .local := by
    rw [g.eS]
    exact s1
  have q := ps_setLc (pos := q) (spos := p) (py := py) g.calm (by rw [g.eN]; exact g.nd) (by rw [g.eN]; exact hi) lk (sw_true g.kindX lk s2 s3) (i2 X g.toGd) hb (g := tgG G.K t) (tt := tt) (te := te) (elt := elt) (ifs := ifs)
    (fun s H C cl fp => by rw [← g.eK]; exact pg_tg (show (X.blk s H scope (compEnvC scope cl C X.env) fp).N = N from g.eN) g.nd g.calm (fun y hy => loc_blk g.toGd hy) h1)
    (fun s H C cl fp => c2 _ (gd_blk g.toGd)) (fun s H C cl fp => e2 _ (gd_blk g.toGd)) (no_fold h3)
  rw [own_fst] at q
  exact q
theorem ok_asgT {ts : List Expr} {k : Nat} {tp p : Pos} {t : Tg} (ht : tgB N sc t (.Tuple ts k tp) = true) (hw : ∀ env : Env, env.scope = sc → swappedStores [.Tuple ts k tp] y env = pure none) (ha : EOk G n N sc y a) : PSx G n N sc (.Assign [.Tuple ts k tp] y p) (.asg t a) := by
  obtain ⟨ta, a1, a2⟩ := ha.pe
  exact ⟨_, ss_asg a1 (sg_tg t), fun X g => ps_asg (a2 X g.toGd) (g.tg ht) sw_tup (hw _ g.eS) rfl⟩
theorem nop_ok {ts vs : List Expr} {k j : Nat} {p q : Pos} (h : nopB sc ts vs = true) : ∀ env : Env, env.scope = sc → swappedStores [.Tuple ts k p] (.Tuple vs j q) env = pure none := by
  intro env he
  unfold nopB at h
  rw [Bool.or_eq_true, Bool.or_eq_true] at h
  rcases h with (h | h) | h
  · exact swap_len (by simpa using h)
  · exact swap_fold h
  · obtain ⟨t, h1, h2⟩ := List.any_eq_true.mp h
    cases t <;> first
      | (exact Bool.noConfusion h2)
      | (rename_i nm pn
         exact swap_cell h1 (kind_cell (by rw [he]; exact of_decide_eq_true h2)))
theorem ok_par2 {nm nm2 : Str} {px py tp q p : Pos} {k j : Nat} {u v : Expr} {i l : Nat} {es : Es} (hi : N[i]? = some nm) (hl : N[l]? = some nm2) (hp : parB sc [.Name nm px, .Name nm2 py] [u, v] = true) (ha : PAx G n N sc [u, v] es) :
    PSx G n N sc (.Assign [.Tuple [.Name nm px, .Name nm2 py] k tp] (.Tuple [u, v] j q) p) (.asg (.tp [i, l]) (.tup es)) := by
  obtain ⟨ta, a1, a2⟩ := ha
  simp only [parB, Bool.and_eq_true, decide_eq_true_eq, Bool.not_eq_true'] at hp
  obtain ⟨⟨⟨⟨h1, h2⟩, h3, h4⟩, h5, h6⟩, h7, h8⟩ := hp
  refine ⟨_, ss_par2 a1, fun X g => ?_⟩
  have l1 : X.env.scope.names.lookup nm = some .local := by rw [g.eS]; exact h1
  have l2 : X.env.scope.names.lookup nm2 = some .local := by rw [g.eS]; exact h2
  have ne : i ≠ l := by
    intro z
    subst z
    rw [hi] at hl
    cases hl
    simp at h4
  exact ps_par g.calm (by rw [g.eN]; exact g.nd) (by rw [g.eN]; exact hi) (by rw [g.eN]; exact hl) ne l1 l2 (a2 X g.toGd).1 (swap2 g.kindX l1 l2 h3 h4 h5 h6 h7 h8) sw_tup
theorem ok_par3 {nm nm2 nm3 : Str} {px py pz tp q p : Pos} {k j : Nat} {u v w : Expr} {i l o : Nat} {es : Es} (hi : N[i]? = some nm) (hl : N[l]? = some nm2) (ho : N[o]? = some nm3) (hp : parB sc [.Name nm px, .Name nm2 py, .Name nm3 pz] [u, v, w] = true) (ha : PAx G n N sc [u, v, w] es) :
    PSx G n N sc (.Assign [.Tuple [.Name nm px, .Name nm2 py, .Name nm3 pz] k tp] (.Tuple [u, v, w] j q) p) (.asg (.tp [i, l, o]) (.tup es)) := by
  obtain ⟨ta, a1, a2⟩ := ha
  simp only [parB, Bool.and_eq_true, decide_eq_true_eq, Bool.not_eq_true'] at hp
  obtain ⟨⟨⟨⟨⟨⟨h1, h2⟩, h3⟩, h4, h5⟩, ⟨n1, n2⟩, n3⟩, ⟨s1, s2⟩, s3⟩, h7, h8⟩ := hp
  refine ⟨_, ss_par3 a1, fun X g => ?_⟩
  have l1 : X.env.scope.names.lookup nm = some .local := by rw [g.eS]; exact h1
  have l2 : X.env.scope.names.lookup nm2 = some .local := by rw [g.eS]; exact h2
  have l3 : X.env.scope.names.lookup nm3 = some .local := by rw [g.eS]; exact h3
  have e1 : i ≠ l := by
    intro z
    subst z
    rw [hi] at hl
    cases hl
    exact n1 rfl
  have e2 : i ≠ o := by
    intro z
    subst z
    rw [hi] at ho
    cases ho
    exact n2 rfl
  have e3 : l ≠ o := by
    intro z
    subst z
    rw [hl] at ho
    cases ho
    exact n3 rfl
  exact ps_par3 g.calm (by rw [g.eN]; exact g.nd) (by rw [g.eN]; exact hi) (by rw [g.eN]; exact hl) (by rw [g.eN]; exact ho) e1 e2 e3 l1 l2 l3 (a2 X g.toGd).1 (swap3 g.kindX l1 l2 l3 h4 h5 n1 n2 n3 s1 s2 s3 h7 h8) sw_tup
theorem ok_put {p1 p : Pos} (hz : (match z with
      | .Slice .. => false
      | _ => true) = true) (he : EOk G n N sc w e) (ha : EOk G n N sc y a) (hb : EOk G n N sc z b) : PSx G n N sc (.Assign [.Subscript y z p1] w p) (.put a b e) := by
  obtain ⟨te, e1, e2⟩ := he.pe
  obtain ⟨ta, a1, a2⟩ := ha.pe
  obtain ⟨tb, b1, b2⟩ := hb.pe
  refine ⟨_, ss_put e1 a1 b1, fun X g => ps_asg (e2 X g.toGd) (pg_sub (a2 X g.toGd) (b2 X g.toGd) set_list ?_) sw_sub ?_ rfl⟩
  · intro v
    cases z <;> first
      | (exact Bool.noConfusion hz)
      | rfl
  · unfold swappedStores
    cases w <;> rfl
theorem ip_op {X : Cx} {o : BOp} (h : augB o = true) : PIp X (bopOf o) (ipM o) := by
  cases o <;> first
    | exact ip_add
    | exact ip_sub
    | (exact Bool.noConfusion h)
theorem ok_aug {nm : Str} {pn p : Pos} {i : Nat} {o : BOp} (hi : N[i]? = some nm) (hl : locB sc nm = true) (ho : augB o = true) (ha : EOk G n N sc y a) : PSx G n N sc (.AugAssign (.Name nm pn) (bopOf o) y p) (.aug i o a) := by
  obtain ⟨ta, a1, a2⟩ := ha.pe
  refine ⟨_, ss_aug a1, fun X g => ?_⟩
  obtain ⟨l1, l2⟩ := g.loc hl
  exact ps_aug (by rw [g.eN]; exact g.nd) (by rw [g.eN]; exact hi) l1 (a2 X g.toGd) (ip_op ho) l2
theorem ok_agi {p1 p : Pos} {o : BOp} (hz : (match z with
      | .Slice .. => false
      | _ => true) = true) (ho : augB o = true) (ha : EOk G n N sc y a) (hb : EOk G n N sc z b) (hc : EOk G n N sc w c) : PSx G n N sc (.AugAssign (.Subscript y z p1) (bopOf o) w p) (.agi a b o c) := by
  obtain ⟨ta, a1, a2⟩ := ha.pe
  obtain ⟨tb, b1, b2⟩ := hb.pe
  obtain ⟨tc, c1, c2⟩ := hc.pe
  refine ⟨_, ss_agi a1 b1 c1, fun X g => ?_⟩
  have hg : PGet X (rGetL G.K) := by
    rw [← g.eK]
    exact pget
  refine ps_augS (a2 X g.toGd) (b2 X g.toGd) hg (c2 X g.toGd) (ip_op ho) set_list ?_
  intro ov iv new
  cases z <;> first
    | (exact Bool.noConfusion hz)
    | rfl
theorem ok_if {A B : Ss} {as bs : List Stmt} {p : Pos} (hy : tstB y = true) (hc : EOk G n N sc y c) (ha : PBx G n N sc as A) (hb : PBx G n N sc bs B) : PSx G n N sc (.If y as bs p) (.iff c A B) := by
  obtain ⟨tc, c1, c2⟩ := hc.pt hy
  obtain ⟨ta, a1, a2⟩ := ha
  obtain ⟨tb, b1, b2⟩ := hb
  exact ⟨_, ss_if c1 a1 b1, fun X g => ps_if (c2 X g.toGd) (a2 X g) (b2 X g)⟩
theorem ok_whl {A : Ss} {as : List Stmt} {p : Pos} (hy : tstB y = true) (hc : EOk G n N sc y c) (ha : PBx G n N sc as A) : PSx G n N sc (.While y as [] p) (.whl c A) := by
  obtain ⟨tc, c1, c2⟩ := hc.pt hy
  obtain ⟨ta, a1, a2⟩ := ha
  exact ⟨_, ss_whl c1 a1, fun X g => ps_while (PassesOwn.of g.xe) (c2 X g.toGd) (a2 X g)⟩
theorem ok_for {A : Ss} {as : List Stmt} {tg iter : Expr} {t : Tg} {it : MP.It} {p : Pos} (ht : tgB N sc t tg = true) (hs : noSet iter = true) (hi : PIx G n N sc tg iter it) (ha : PBx G n N sc as A) : PSx G n N sc (.For tg iter as [] p) (.for t it A) := by
  obtain ⟨wi, i1, i2⟩ := hi
  obtain ⟨ta, a1, a2⟩ := ha
  exact ⟨_, ss_for i1 (sg_tg t) a1, fun X g => ps_for (PassesOwn.of g.xe) g.calm (i2 X g.toGd) (g.tg ht) (a2 X g) (no_fold hs)⟩
theorem ok_ret {p : Pos} (ha : EOk G n N sc y a) : PSx G n N sc (.Return (some y) p) (.ret a) := by
  obtain ⟨ta, a1, a2⟩ := ha.pe
  exact ⟨_, ss_ret a1, fun X g => ps_ret (a2 X g.toGd)⟩
end
section
variable {G : Gi} {n : Nat} {N : List Str} (L : Lk G) (F : Fns G n)
include L F
theorem com_parts {t : Tg} {it : MP.It} {c : Option E} {e : E} {sc : Scope} {x : Expr} (h : chkE G.pg N (.com t it c e) sc x = true) : ∃ elt tg iter ifs scope p, x = .ListComp elt [⟨tg, iter, ifs, 0⟩] scope p ∧ tgB N scope t tg = true ∧ blkC N sc scope (ownB N t) = true ∧ noSet iter = true ∧
    PIx G n N sc tg iter it ∧ (∃ tt, SCo G.K (cfg G.pg n) tt c ∧ ∀ X, Gd G n N (relS scope sc) X → PTs X ifs tt) ∧ EOk G n N (relS scope sc) elt e := by
  cases c with
  | none =>
    unfold chkE at h
    split at h <;> first | (cases h; done) | skip
    rename_i elt tg iter ifs scope p
    simp only [Bool.and_eq_true] at h
    obtain ⟨⟨⟨h1, h2⟩, h3⟩, ⟨h4, h5⟩, h6⟩ := h
    cases ifs <;> first | (exact Bool.noConfusion h5) | skip
    exact ⟨elt, tg, iter, [], scope, p, rfl, h1, h2, h3, chkI_ok L F it sc _ _ h4, ⟨tYes, rfl, fun X g => pts_nil⟩, chkE_ok L F e _ _ h6⟩
  | some c =>
    unfold chkE at h
    split at h <;> first | (cases h; done) | skip
    rename_i elt tg iter ifs scope p
    simp only [Bool.and_eq_true] at h
    obtain ⟨⟨⟨h1, h2⟩, h3⟩, ⟨h4, h5⟩, h6⟩ := h
    cases ifs with
    | nil => exact Bool.noConfusion h5
    | cons y r =>
      cases r with
      | cons _ _ => exact Bool.noConfusion h5
      | nil =>
        have h5' : (chkE G.pg N c (relS scope sc) y && tstB y) = true := h5
        rw [Bool.and_eq_true] at h5'
        exact ⟨elt, tg, iter, [y], scope, p, rfl, h1, h2, h3, chkI_ok L F it sc _ _ h4, ok_cond h5'.2 (chkE_ok L F c _ _ h5'.1), chkE_ok L F e _ _ h6⟩
theorem is_com {e : E} {sc : Scope} {x : Expr} {nm : Str} {py : Pos} (h : chkE G.pg N e sc x = true) (hs : sweB sc nm py x = true) : ∃ t it c b, e = .com t it c b := by
  cases x <;> first
    | (exact Bool.noConfusion hs)
    | skip
  rename_i elt gens scope p
  cases e <;> first
    | exact ⟨_, _, _, _, rfl⟩
    | (unfold chkE at h; exact Bool.noConfusion h)
theorem asg_ok' {t : Tg} {e : E} {sc : Scope} {tg y : Expr} {p : Pos} (h1 : tgB N sc t tg = true) (h2 : chkE G.pg N e sc y = true) (h3 : asgB sc tg y = true) : PSx G n N sc (.Assign [tg] y p) (.asg t e) := by
  cases tg <;> first
    | (exact Bool.noConfusion h3)
    | skip
  · -- a name
    rename_i nm py
    cases t with
    | tp is => exact Bool.noConfusion h1
    | nm i =>
      simp only [tgB, Bool.and_eq_true, decide_eq_true_eq] at h1
      have h3' : (noComp y || sweB sc nm py y) = true := h3
      rw [Bool.or_eq_true] at h3'
      rcases h3' with h3' | h3'
      · exact ok_asgN h1.1 h1.2 h3' (chkE_ok L F e sc y h2)
      · obtain ⟨t, it, c, b, rfl⟩ := is_com L F h2 h3'
        obtain ⟨elt, tg, iter, ifs, scope, q, rfl, a1, a2, a3, a4, a5, a6⟩ := com_parts L F h2
        exact ok_asgC h1.1 h3' a1 a2 a3 a4 a5 a6
  · -- a tuple
    rename_i ts k tp
    by_cases hy : ∃ vs j q, y = .Tuple vs j q
    · obtain ⟨vs, j, q, rfl⟩ := hy
      have h3' : (parB sc ts vs || nopB sc ts vs) = true := h3
      rw [Bool.or_eq_true] at h3'
      rcases h3' with h3' | h3'
      · have hp := h3'
        have he : ∃ es, e = .tup es ∧ chkEs G.pg N es sc vs = true := by
          cases e <;> first
            | (unfold chkE at h2; exact Bool.noConfusion h2)
            | skip
          simp only [chkE, Bool.and_eq_true] at h2
          exact ⟨_, rfl, h2.2⟩
        obtain ⟨es, rfl, he⟩ := he
        have pa := chkEs_ok L F es sc vs he
        unfold parB at hp
        split at hp <;> first | (exact Bool.noConfusion hp) | skip
        · cases t with
          | nm i => exact Bool.noConfusion h1
          | tp is =>
            have h1' : tgsB N sc is _ = true := h1
            match is, h1' with
            | [i, l], h1' =>
              simp only [tgsB, Bool.and_eq_true, decide_eq_true_eq] at h1'
              exact ok_par2 h1'.1.1 h1'.2.1.1 h3' pa
            | [], h1' => exact Bool.noConfusion h1'
            | [i], h1' => simp [tgsB] at h1'
            | i :: l :: o :: r, h1' => simp [tgsB] at h1'
        · cases t with
          | nm i => exact Bool.noConfusion h1
          | tp is =>
            have h1' : tgsB N sc is _ = true := h1
            match is, h1' with
            | [i, l, o], h1' =>
              simp only [tgsB, Bool.and_eq_true, decide_eq_true_eq] at h1'
              exact ok_par3 h1'.1.1 h1'.2.1.1 h1'.2.2.1.1 h3' pa
            | [], h1' => exact Bool.noConfusion h1'
            | [i], h1' => simp [tgsB] at h1'
            | [i, l], h1' => simp [tgsB] at h1'
            | i :: l :: o :: u :: r, h1' => simp [tgsB] at h1'
      · exact ok_asgT h1 (nop_ok h3') (chkE_ok L F e sc _ h2)
    · refine ok_asgT h1 (fun env he => swap_other ?_) (chkE_ok L F e sc _ h2)
      cases y <;> first
        | rfl
        | exact absurd ⟨_, _, _, rfl⟩ hy
mutual
theorem chkS_ok : ∀ (s : S) (sc : Scope) (x : Stmt), chkS G.pg N s sc x = true → PSx G n N sc x s
  | .exp e, sc, x, h => by
    simp only [chkS] at h
    split at h <;> first | (cases h; done) | skip
    rw [Bool.and_eq_true] at h
    exact ok_exp h.1 (chkE_ok L F e sc _ h.2)
  | .asg t e, sc, x, h => by
    simp only [chkS] at h
    split at h <;> first | (cases h; done) | skip
    rw [Bool.and_eq_true, Bool.and_eq_true] at h
    exact asg_ok' L F h.1 h.2.1 h.2.2
  | .put a i e, sc, x, h => by
    simp only [chkS] at h
    split at h <;> first | (cases h; done) | skip
    rw [Bool.and_eq_true, Bool.and_eq_true, Bool.and_eq_true] at h
    exact ok_put h.1 (chkE_ok L F e sc _ h.2.1) (chkE_ok L F a sc _ h.2.2.1) (chkE_ok L F i sc _ h.2.2.2)
  | .aug i o e, sc, x, h => by
    simp only [chkS] at h
    split at h <;> first | (cases h; done) | skip
    simp only [Bool.and_eq_true, decide_eq_true_eq] at h
    obtain ⟨⟨⟨⟨h1, h2⟩, rfl⟩, h4⟩, h5⟩ := h
    exact ok_aug h1 h2 h4 (chkE_ok L F e sc _ h5)
  | .agi a i o e, sc, x, h => by
    simp only [chkS] at h
    split at h <;> first | (cases h; done) | skip
    rw [Bool.and_eq_true, Bool.and_eq_true, Bool.and_eq_true, Bool.and_eq_true, Bool.and_eq_true, decide_eq_true_eq] at h
    obtain ⟨⟨⟨h1, rfl⟩, h3⟩, h4, h5, h6⟩ := h
    exact ok_agi h1 h3 (chkE_ok L F a sc _ h4) (chkE_ok L F i sc _ h5) (chkE_ok L F e sc _ h6)
  | .iff c a b, sc, x, h => by
    simp only [chkS] at h
    split at h <;> first | (cases h; done) | skip
    simp only [Bool.and_eq_true] at h
    exact ok_if h.1.2 (chkE_ok L F c sc _ h.1.1) (chkSs_ok a sc _ h.2.1) (chkSs_ok b sc _ h.2.2)
  | .whl c b, sc, x, h => by
    simp only [chkS] at h
    split at h <;> first | (cases h; done) | skip
    simp only [Bool.and_eq_true] at h
    exact ok_whl h.1.2 (chkE_ok L F c sc _ h.1.1) (chkSs_ok b sc _ h.2)
  | .for t it b, sc, x, h => by
    simp only [chkS] at h
    split at h <;> first | (cases h; done) | skip
    simp only [Bool.and_eq_true] at h
    exact ok_for h.1.1 h.1.2 (chkI_ok L F it sc _ _ h.2.1) (chkSs_ok b sc _ h.2.2)
  | .ret e, sc, x, h => by
    simp only [chkS] at h
    split at h <;> first | (cases h; done) | skip
    exact ok_ret (chkE_ok L F e sc _ h)
  | .rtn, sc, x, h => by
    simp only [chkS] at h
    split at h <;> first | (cases h; done) | skip
    exact ⟨_, ss_rtn, fun X g => ps_retN⟩
  | .brk, sc, x, h => by
    simp only [chkS] at h
    split at h <;> first | (cases h; done) | skip
    exact ⟨_, ss_brk, fun X g => ps_break⟩
  | .cnt, sc, x, h => by
    simp only [chkS] at h
    split at h <;> first | (cases h; done) | skip
    exact ⟨_, ss_cnt, fun X g => ps_continue⟩
  | .pas, sc, x, h => by
    simp only [chkS] at h
    split at h <;> first | (cases h; done) | skip
    exact ⟨_, ss_pas, fun X g => ps_pass⟩
  | .rai c e, sc, x, h => by
    simp only [chkS] at h
    split at h <;> first | (cases h; done) | skip
    exact ⟨_, ss_rai, fun X g => ps_never⟩
theorem chkSs_ok : ∀ (ss : Ss) (sc : Scope) (xs : List Stmt), chkSs G.pg N ss sc xs = true → PBx G n N sc xs ss
  | .nil, sc, [], _ => ⟨_, sb_nil, fun X g => pss_nil⟩
  | .nil, sc, _ :: _, h => by cases h
  | .cons _ _, sc, [], h => by cases h
  | .cons s ss, sc, y :: ys, h => by
    simp only [chkSs, Bool.and_eq_true] at h
    obtain ⟨t, a1, a2⟩ := chkS_ok s sc y h.1
    obtain ⟨ts, b1, b2⟩ := chkSs_ok ss sc ys h.2
    exact ⟨_, sb_cons a1 b1, fun X g => pss_cons (a2 X g) (b2 X g)⟩
end
end

/-! ### defs -/
def chkD (pg : Pg) (d : Fd) (st : Stmt) : Bool :=
  let sc := defScope st
  decide (sc.kind = .function) && !sc.isCoroutine && !sc.isGenerator && decide d.N.Nodup && decide (d.np ≤ d.N.length) && (d.N.take d.np).all (locB sc) && (sc.names.all fun y => decide (y.2 ≠ .free)) && chkSs pg d.N d.body sc (defBody st)
/-- the def's text, as it stands behind the top -/
def DefAt (K : PySem.W.Frag) (d : Fd) (st : Stmt) (f : Addr) (fd : FuncData) : Prop := ∃ (oc : Value) (od : Option Addr) (dV kV doc pm : Value) (an : Option Addr) (cdv ct : Value) (osl : Array (Option Value)),
  fd = PySem.W.fnOf d.name d.name (defArgs st) (defBody st) (defScope st) dV kV doc pm an cdv ct ∧ K.lookup f = some ⟨oc, od, .func fd, osl⟩ ∧ PySem.W.codeIn K cdv d.name = true
def Dfs (G : Gi) : Prop := ∀ (i : Nat) (d : Fd), G.pg.fs[i]? = some d → ∃ st, chkD G.pg d st = true ∧ DefAt G.K d st (G.addr i) (G.fd i)
theorem ok_def {G : Gi} {n i : Nat} {d : Fd} {st : Stmt} (L : Lk G) (F : Fns G n) (hd : G.pg.fs[i]? = some d) (hc : chkD G.pg d st = true) (ha : DefAt G.K d st (G.addr i) (G.fd i)) : FnG G.P G.w G.K G.mg G.base (n + 1) (G.addr i) (G.fd i) d.ps (spG G (n + 1) i) := by
  obtain ⟨oc, od, dV, kV, doc, pm, an, cdv, ct, osl, e1, e2, e3⟩ := ha
  unfold chkD at hc
  simp only [Bool.and_eq_true, decide_eq_true_eq, Bool.not_eq_true', List.all_eq_true] at hc
  obtain ⟨⟨⟨⟨⟨⟨⟨k1, k2⟩, k3⟩, k4⟩, k5⟩, k6⟩, k7⟩, k8⟩ := hc
  have hlen : d.ps.length = d.np := by
    unfold Fd.ps
    rw [List.length_take]
    omega
  have S : FnScope d.N d.ps (defScope st) := ⟨k1, k2, k3, k4, by rw [hlen]; rfl, fun x hx => locB_ok (k6 x hx), fun y hy => k7 y hy⟩
  rw [e1] at e2 ⊢
  refine fn_g e2 e3 S (fun vs H Q h => spG_len hd k5 h) fun A outer s H vs Q room gd hsp => ?_
  obtain ⟨t, b1, b2⟩ := chkSs_ok L F d.body (defScope st) (defBody st) k8
  obtain ⟨ρ, M, args, r, M', h1, h2, h3, h4⟩ := hsp
  rw [run_succ, hd] at h3
  simp only at h3
  split at h3
  · rename_i hn
    refine ⟨t, b2 _ ⟨⟨k4, rfl, rfl, rfl, rfl, rfl, rfl, rfl, rfl, room, gd, rfl⟩, fun _ => rfl, k1⟩, ?_⟩
    obtain ⟨p, M1, e4, e5⟩ := bnd_ok h3
    have hv := h2.length
    refine b1 _ (L2.start d.N vs) H ρ (args.map some ++ List.replicate (d.N.length - d.np) none) M p M1 h1 ⟨?_, fun j u e => ?_⟩ e4 ?_
    · unfold L2.start
      rw [List.length_append, List.length_append, List.length_map, List.length_map, List.length_replicate, List.length_replicate, ← hv, hn]
    · have hj : j < args.length := by
        by_cases hj : j < args.length
        · exact hj
        · rw [List.getElem?_append_right (by rw [List.length_map]; omega), List.getElem?_replicate] at e
          split at e <;> cases e
      rw [List.getElem?_append_left (by rw [List.length_map]; exact hj), List.getElem?_map, Option.map_eq_some_iff] at e
      obtain ⟨u', e6, e7⟩ := e
      cases e7
      obtain ⟨v, e8, e9⟩ := h2.get e6
      refine ⟨v, ?_, e9⟩
      unfold L2.start
      rw [List.getElem?_append_left (by rw [List.length_map, ← hv]; exact hj), List.getElem?_map, e8]
      rfl
    · intro σ' H' ρ' h' p' s'
      obtain ⟨fl, m'⟩ := p
      cases fl with
      | nx =>
        obtain ⟨rfl, rfl⟩ := ok_inj e5
        exact h4 _ _ _ h' p' .non
      | bk => cases e5
      | cn => cases e5
      | rt v =>
        obtain ⟨rfl, rfl⟩ := ok_inj e5
        exact fun x rx => h4 _ _ _ h' p' rx
  · cases h3
/-- each def keeps its promise, however many calls are left -/
theorem fns_all {G : Gi} (L : Lk G) (D : Dfs G) : ∀ n, Fns G n
  | 0 => fun i d hd => by
    constructor
    · intro vs H Q h
      obtain ⟨_, _, _, _, _, _, _, e, _⟩ := h
      cases e
    · intro A outer s H args us vs Q _ _ _ _ _ h
      obtain ⟨_, _, _, _, _, _, _, e, _⟩ := h
      cases e
  | n + 1 => fun i d hd => by
    obtain ⟨st, hc, ha⟩ := D i d hd
    exact ok_def L (fns_all L D n) hd hc ha
end MP

set_option Elab.async false
set_option linter.all false
set_option maxRecDepth 100000
set_option autoImplicit false
set_option maxHeartbeats 2000000
/-! MP, part k: a law's end over the small machine. -/
namespace MP
open PySem PySem.Spec PyProof.Rows L2

/-! ### the call of the law -/
section
variable {P : Program} {w : World} {K : PySem.W.Frag} {mg mb : Str → Option Value} {k : Nat} {fa a : Addr} {fd : FuncData} {x : Str} {sp : List V → Hp → VK → Prop} {z : Shared} {us : List Value} {ns : List Int}
/-- the script's object -/
def scr (us : List Value) : Obj := { cls := .type "list", data := .seq us.toArray }
/-- nothing is tracked but the script, where it is no object of the module -/
def OneAt (K : PySem.W.Frag) (H : Hp) (a : Addr) (us : List Value) (ns : List Int) : Prop := ∀ b u, H b = some u → b = a ∧ u = .frz (scr us) (.lst (ns.map V.int)) ∧ K.lookup a = none
theorem law_one {H : Hp} (hH : OneAt K H a us ns) (hS : KL K H a (ns.map V.int)) (hok : HOk P w H z.heap) (KX : K.In z.heap) (gl : z.heap.Ns mainGlobals mg) (bl : z.heap.Ns builtinsNs mb) (bb : ∀ y : Str, y ≠ "__name__" → mb y = bootBuiltins y) (nl : z.heap.NoLimit)
    (gens : z.gens = #[]) (ha : z.heap.get? a = some (scr us)) (hr : Room k callerA) (F : ∀ base : Heap, K.In base → base.Ns mainGlobals mg → FnG P w K mg base k fa fd [x] sp) (bind : ∀ (s : Shared) (u : Value), BindsTo s fd ⟨[u], []⟩ [(x, u)])
    (hsp : sp [.ref a] H fun v _ => v = .bl true) :
    codeAny (model P w) callerA (.call (.ref fa) ⟨[.ref a], []⟩) (fun r s' => r = .ok (.ret (.bool true)) ∧ OldK z.heap s'.heap ∧ s'.os = z.os ∧ AllBare s'.gens) z := by
  have none_of : ∀ {b : Addr} {o : Obj}, z.heap.get? b = some o → (b = a → False) → (hidT z.heap H).get? b = some o := by
    intro b o e n
    refine hidT_get e ?_
    cases q : H b with
    | none => rfl
    | some u => exact (n (hH b u q).1).elim
  have dictT : ∀ {b : Addr} {m : Str → Option Value}, z.heap.Ns b m → (hidT z.heap H).Ns b m := by
    rintro b m ⟨o, es, ep, e, dt, r⟩
    refine ⟨o, es, ep, none_of e ?_, dt, r⟩
    rintro rfl
    rw [ha] at e
    cases e
    cases dt
  have KB : K.In (hidT z.heap H) := by
    intro b o e
    refine hidT_get (KX b o e) ?_
    cases q : H b with
    | none => rfl
    | some u =>
      obtain ⟨rfl, _, n⟩ := hH b u q
      rw [n] at e
      cases e
  have md : Mod K mg (hidT z.heap H) := by
    refine ⟨KB, dictT gl, ⟨mb, dictT bl, bb⟩, ?_⟩
    obtain ⟨mc, c1, c2⟩ := nl
    exact ⟨mc, dictT c1, c2⟩
  have nofr : ∀ b, b ∉ frs ([] : List Env) := fun b hb => by
    have hb' : b ∈ ([] : List Addr) := hb
    cases hb'
  have e0 : Env0 P w K mg (hidT z.heap H) callerA [] z H := by
    constructor
    · rfl
    · exact md
    · exact fun b o e => of_hidT e
    · rw [hidT_size]
      exact Nat.le_refl _
    · trivial
    · exact fun b hb => (nofr b hb).elim
    · exact hok
    · rw [gens]
      exact .of_eq rfl
  have run := (F _ KB (dictT gl)).run callerA [] z H ⟨[.ref a], []⟩ [.ref a] [.ref a] _ hr rfl e0 (bind z (.ref a)) (.cons rfl .nil) hsp
  refine codeAny_mono run ?_
  intro r s' h
  match r, h with
  | .ok (.ret u), h =>
    obtain ⟨v, H', os, bare, un, hok', rv, q⟩ := h
    have q' : v = .bl true := q
    rw [q'] at rv
    have rv' : u = Value.bool true := rv
    rw [rv']
    refine ⟨rfl, .of_keep ?_, os, bare⟩
    intro b o e
    cases hb : H b with
    | none => exact un.keep b o e hb (nofr b) (by simp)
    | some y =>
      obtain ⟨rfl, rfl, _⟩ := hH b y hb
      obtain ⟨h1, _⟩ := hok' b _ (un.frzs b _ _ hb)
      rw [ha] at e
      cases e
      exact h1
theorem law_callG (KX : K.In z.heap) (gl : z.heap.Ns mainGlobals mg) (bl : z.heap.Ns builtinsNs mb) (bb : ∀ y : Str, y ≠ "__name__" → mb y = bootBuiltins y) (nl : z.heap.NoLimit)
    (gens : z.gens = #[]) (ha : z.heap.get? a = some (scr us)) (hi : IntsAre us ns) (len : ns.length ≤ sizeLine) (hr : Room k callerA) (F : ∀ base : Heap, K.In base → base.Ns mainGlobals mg → FnG P w K mg base k fa fd [x] sp) (bind : ∀ (s : Shared) (u : Value), BindsTo s fd ⟨[u], []⟩ [(x, u)])
    (hsp : ∀ H : Hp, KL K H a (ns.map V.int) → sp [.ref a] H fun v _ => v = .bl true) :
    codeAny (model P w) callerA (.call (.ref fa) ⟨[.ref a], []⟩) (fun r s' => r = .ok (.ret (.bool true)) ∧ OldK z.heap s'.heap ∧ s'.os = z.os ∧ AllBare s'.gens) z := by
  have rv := vals_ints hi
  have ll := hi.length
  cases hk : K.lookup a with
  | some o =>
    have e := KX a o hk
    rw [ha] at e
    cases e
    have hS : KL K (fun _ => none) a (ns.map V.int) := by
      refine .inr ⟨_, us.toArray, _, hk, rfl, rfl, rfl, ?_, ?_⟩
      · rw [List.size_toArray, ll]
        exact len
      · rw [List.toList_toArray]
        exact rv
    refine law_one (H := fun _ => none) ?_ hS ?_ KX gl bl bb nl gens ha hr F bind (hsp _ hS)
    · intro b u e
      cases e
    · intro b u e
      cases e
  | none =>
    have e1 : (fun b => if b = a then some (HO.frz (scr us) (.lst (ns.map V.int))) else none) a = some (.frz (scr us) (.lst (ns.map V.int))) := if_pos rfl
    have hS : KL K (fun b => if b = a then some (HO.frz (scr us) (.lst (ns.map V.int))) else none) a (ns.map V.int) := .inl ⟨_, e1⟩
    refine law_one (H := fun b => if b = a then some (HO.frz (scr us) (.lst (ns.map V.int))) else none) ?_ hS ?_ KX gl bl bb nl gens ha hr F bind (hsp _ hS)
    · intro b u (e : (if b = a then some (HO.frz (scr us) (.lst (ns.map V.int))) else none) = some u)
      by_cases hb : b = a
      · rw [if_pos hb] at e
        cases e
        exact ⟨hb, rfl, hk⟩
      · rw [if_neg hb] at e
        cases e
    · intro b u (e : (if b = a then some (HO.frz (scr us) (.lst (ns.map V.int))) else none) = some u)
      by_cases hb : b = a
      · rw [if_pos hb] at e
        cases e
        rw [hb]
        refine ⟨ha, ?_, us, _, rv, ha⟩
        rw [List.length_map]
        exact len
      · rw [if_neg hb] at e
        cases e
end
/-- the end of a law from its def's promise -/
theorem walk_G {l : PySem.W.OpenLaw} {n k : Nat} {q : Program} {loose : List Str} {XP : (Str → Option Value) → Heap → Prop} {YP : World → Heap → Prop} {d : DefRec} {x : Str} (hn : l.most = some n) (hn2 : n ≤ sizeLine) (hdf : d.params.defaults = []) (hr : Room k callerA)
    (F : ∀ (w : World) (mg : Str → Option Value) (fa : Addr) (h : Heap), YP w h → h.Ns mainGlobals mg → mg d.name = some (.ref fa) →
      ∃ (K : PySem.W.Frag) (fd : FuncData) (sp : List V → Hp → VK → Prop), K.In h ∧ (∀ (s : Shared) (u : Value), BindsTo s fd ⟨[u], []⟩ [(x, u)]) ∧
        (∀ (H : Hp) (a : Addr) (ns : List Int), ns.length ≤ n → KL K H a (ns.map V.int) → sp [.ref a] H fun v _ => v = .bl true) ∧
        ∀ base : Heap, K.In base → base.Ns mainGlobals mg → FnG l.prog w K mg base k fa fd [x] sp) :
    PySem.W.WalkO q loose XP YP l.row.toRowW d [] (fun f vs => PySem.call f vs) := by
  refine Att.attach_call hn hdf fun w s₀ s₁ mg mb fa o pm cd doc a vs ns G Y ho hd hcd hmg hobj hints hlen hg => ?_
  obtain ⟨K, fd, sp, h1, h2, h3, h4⟩ := F w mg fa _ Y G.T.g hmg
  exact law_callG h1 G.T.g G.T.b G.T.builtins G.T.nolimit hg hobj hints (Nat.le_trans hlen hn2) hr h4 h2 fun H hS => h3 H a ns hlen hS

/-! ### ways to call -/
/-- the values at the places ix -/
def pick {α : Type} (ix : List Nat) (l : List α) : List α := ix.filterMap (l[·]?)
theorem vals_get : ∀ {vs : List V} {us : List Value} (i : Nat), Vals vs us → (vs[i]? = none ∧ us[i]? = none) ∨ ∃ v u, vs[i]? = some v ∧ us[i]? = some u ∧ RelV v u
  | _, _, _, .nil => by simp
  | _, _, 0, .cons r t => .inr ⟨_, _, rfl, rfl, r⟩
  | _, _, i + 1, .cons r t => by simpa using vals_get i t
theorem pick_vals {vs : List V} {us : List Value} (h : Vals vs us) : ∀ ix : List Nat, Vals (pick ix vs) (pick ix us)
  | [] => .nil
  | i :: ix => by
    have t := pick_vals h ix
    unfold pick at t ⊢
    rw [List.filterMap_cons, List.filterMap_cons]
    rcases vals_get i h with ⟨e1, e2⟩ | ⟨v, u, e1, e2, r⟩
    · rw [e1, e2]
      exact t
    · rw [e1, e2]
      exact .cons r t
theorem vrs_app {K : PySem.W.Frag} {ρ : List Addr} {H : Hp} : ∀ {a b : List MV} {vs zs : List V}, VRs K ρ H a vs → VRs K ρ H b zs → VRs K ρ H (a ++ b) (vs ++ zs)
  | _, _, _, _, .nil, h => h
  | _, _, _, _, .cons r t, h => .cons r (vrs_app t h)
theorem pick_args {K : PySem.W.Frag} {ρ : List Addr} {H : Hp} {a : List MV} {vs : List V} (h : VRs K ρ H a vs) : ∀ (ix : List Nat) (args : List MV), (ix.map Ar.at).mapM (argAt a) = some args → VRs K ρ H args (pick ix vs)
  | [], args, e => by
    simp at e
    subst e
    exact .nil
  | i :: ix, args, e => by
    rw [List.map_cons, List.mapM_cons] at e
    simp only [Option.bind_eq_bind, Option.bind_eq_some_iff, Option.pure_def, Option.some.injEq] at e
    obtain ⟨u, e1, us, e2, rfl⟩ := e
    obtain ⟨v, e3, r⟩ := h.get (show a[i]? = some u from e1)
    unfold pick
    rw [List.filterMap_cons, e3]
    exact .cons r (pick_args h ix us e2)
/-- all parameters are written -/
theorem shp_mk {K : PySem.W.Frag} {x qual : Str} {params : Arguments} {body : List Stmt} {scope : Scope} {dvs : List V} {f : Addr} {fd : FuncData} {ps ks : List Str} {n : Nat} {ix : List Nat} (F : FunD K x qual params body scope dvs [] f fd)
    (h : ∀ (kV doc pm : Value) (an : Option Addr) (cdv ct : Value) (us ws : List Value), us.length = n → ws.length = ks.length →
      bindArgs (PySem.W.fnOf x qual params body scope .none kV doc pm an cdv ct) ⟨us, ks.zip ws⟩ = pure (ps.zip (pick ix (us ++ ws)))) (hd : dvs = []) : Shp K fd ps n ks (ix.map Ar.at) := by
  obtain ⟨oc, od, dV, kV, doc, pm, an, cdv, ct, osl, rfl, lk, hcd, hD, _⟩ := F.ex
  subst hd
  rcases hD with ⟨_, rfl⟩ | ⟨e, _⟩
  · refine ⟨fun us ws => pick ix (us ++ ws), fun vs zs => pick ix (vs ++ zs), fun s us ws X l1 l2 => .of_eq (h _ _ _ _ _ _ us ws l1 l2), fun r1 r2 => pick_vals (r1.append r2) ix, fun ρ H a b args vs zs r1 r2 e => pick_args (vrs_app r1 r2) ix args e⟩
  · exact absurd rfl e

/-- the values at the places ix of l; behind m those of the defaults -/
def pick2 {α : Type} (m : Nat) (ix : List Nat) (l d : List α) : List α := ix.filterMap fun i => if i < m then l[i]? else d[i - m]?
theorem pick2_vals {m : Nat} {vs ds : List V} {us its : List Value} (h : Vals vs us) (hd : Vals ds its) : ∀ ix : List Nat, Vals (pick2 m ix vs ds) (pick2 m ix us its)
  | [] => .nil
  | i :: ix => by
    have t := pick2_vals (m := m) h hd ix
    unfold pick2 at t ⊢
    rw [List.filterMap_cons, List.filterMap_cons]
    by_cases hi : i < m
    · rw [if_pos hi, if_pos hi]
      rcases vals_get i h with ⟨e1, e2⟩ | ⟨v, u, e1, e2, r⟩
      · rw [e1, e2]
        exact t
      · rw [e1, e2]
        exact .cons r t
    · rw [if_neg hi, if_neg hi]
      rcases vals_get (i - m) hd with ⟨e1, e2⟩ | ⟨v, u, e1, e2, r⟩
      · rw [e1, e2]
        exact t
      · rw [e1, e2]
        exact .cons r t
def arOf (m : Nat) (dms : List MV) (ix : List Nat) : List Ar := ix.map fun i => if i < m then .at i else .df ((dms[i - m]?).getD .non)
theorem pick2_args {K : PySem.W.Frag} {ρ : List Addr} {H : Hp} {m : Nat} {a dms : List MV} {vs ds : List V} (h : VRs K ρ H a vs) (hd : VRs K ρ H dms ds) : ∀ (ix : List Nat) (args : List MV), (ix.all fun i => decide (i < m + dms.length)) = true → (arOf m dms ix).mapM (argAt a) = some args → VRs K ρ H args (pick2 m ix vs ds)
  | [], args, _, e => by
    simp [arOf] at e
    subst e
    exact .nil
  | i :: ix, args, hl, e => by
    rw [List.all_cons, Bool.and_eq_true, decide_eq_true_eq] at hl
    unfold arOf at e
    rw [List.map_cons, List.mapM_cons] at e
    simp only [Option.bind_eq_bind, Option.bind_eq_some_iff, Option.pure_def, Option.some.injEq] at e
    obtain ⟨u, e1, us, e2, rfl⟩ := e
    have t := pick2_args h hd ix us hl.2 e2
    unfold pick2 at t ⊢
    rw [List.filterMap_cons]
    by_cases hi : i < m
    · rw [if_pos hi] at e1 ⊢
      obtain ⟨v, e3, r⟩ := h.get (show a[i]? = some u from e1)
      rw [e3]
      exact .cons r t
    · rw [if_neg hi] at e1 ⊢
      have hj : i - m < dms.length := by omega
      have e4 : some ((dms[i - m]?).getD .non) = some u := e1
      rw [List.getElem?_eq_getElem hj] at e4
      obtain ⟨v, e3, r⟩ := hd.get (show dms[i - m]? = some u from by rw [List.getElem?_eq_getElem hj]; exact e4)
      rw [e3]
      exact .cons r t
/-- some parameters may be left to their defaults dms -/
theorem shp_df {K : PySem.W.Frag} {x qual : Str} {params : Arguments} {body : List Stmt} {scope : Scope} {dvs : List V} {f : Addr} {fd : FuncData} {ps ks : List Str} {n : Nat} {ix : List Nat} {dms : List MV} (F : FunD K x qual params body scope dvs [] f fd)
    (hr : ∀ ρ H, VRs K ρ H dms dvs) (hd : dms ≠ []) (hx : (ix.all fun i => decide (i < n + ks.length + dms.length)) = true)
    (h : ∀ (T : Addr) (kV doc pm : Value) (an : Option Addr) (cdv ct : Value) (us ws its : List Value), us.length = n → ws.length = ks.length → its.length = dms.length →
      ∃ k, bindArgs (PySem.W.fnOf x qual params body scope (.ref T) kV doc pm an cdv ct) ⟨us, ks.zip ws⟩ = seqItems? (.ref T) >>= k ∧ k (some its.toArray) = pure (ps.zip (pick2 (n + ks.length) ix (us ++ ws) its))) : Shp K fd ps n ks (arOf (n + ks.length) dms ix) := by
  obtain ⟨oc, od, dV, kV, doc, pm, an, cdv, ct, osl, rfl, lk, hcd, hD, _⟩ := F.ex
  have hl : dms.length = dvs.length := (hr [] (fun _ => none)).length
  rcases hD with ⟨e, _⟩ | ⟨_, T, o, its, mm, rfl, lT, oT, rT⟩
  · rw [e] at hl
    exact absurd (List.eq_nil_of_length_eq_zero hl) hd
  · refine ⟨fun us ws => pick2 (n + ks.length) ix (us ++ ws) its, fun vs zs => pick2 (n + ks.length) ix (vs ++ zs) dvs, fun s us ws X l1 l2 => ?_, fun r1 r2 => pick2_vals (r1.append r2) rT ix, fun ρ H a b args vs zs r1 r2 e => pick2_args (vrs_app r1 r2) (hr ρ H) ix args hx e⟩
    obtain ⟨k, e1, e2⟩ := h T kV doc pm an cdv ct us ws its l1 l2 (rT.length.symm.trans hl.symm)
    refine BindsTo.of_looks fun M => ?_
    rw [e1]
    exact looks_items X lT oT (.of_pure e2)

/-! ### constants -/
def mvBs (f : MV → Value → Bool) : List MV → List Value → Bool
  | [], [] => true
  | v :: vs, u :: us => f v u && mvBs f vs us
  | _, _ => false
def mvB (K : PySem.W.Frag) : Nat → MV → Value → Bool
  | 0, _, _ => false
  | n + 1, v, u => match v, u with
    | .non, .none => true
    | .bl b, .bool c => b == c
    | .int i, .int j _ => decide (i = j)
    | .str x, .str y _ => decide (x = y)
    | .tup vs, .ref a => match K.lookup a with
      | some ⟨.type c, _, .seq its _, _⟩ => decide (c = "tuple") && (decide (its.size ≤ sizeLine) && mvBs (mvB K n) vs its.toList)
      | _ => false
    | .kls vs, .ref a => match K.lookup a with
      | some ⟨.type c, none, .seq its _, _⟩ => decide (c = "list") && (decide (its.size ≤ sizeLine) && mvBs (mvB K n) vs its.toList)
      | _ => false
    | _, _ => false
theorem mvBs_ok {K : PySem.W.Frag} {f : MV → Value → Bool} (hf : ∀ v u, f v u = true → ∃ x, RelV x u ∧ ∀ ρ H, VR K ρ H v x) : ∀ (vs : List MV) (us : List Value), mvBs f vs us = true → ∃ xs, Vals xs us ∧ ∀ ρ H, VRs K ρ H vs xs
  | [], [], _ => ⟨[], .nil, fun _ _ => .nil⟩
  | [], _ :: _, h => by cases h
  | _ :: _, [], h => by cases h
  | v :: vs, u :: us, h => by
    have h' : (f v u && mvBs f vs us) = true := h
    rw [Bool.and_eq_true] at h'
    obtain ⟨x, r1, r2⟩ := hf v u h'.1
    obtain ⟨xs, t1, t2⟩ := mvBs_ok hf vs us h'.2
    exact ⟨x :: xs, .cons r1 t1, fun ρ H => .cons (r2 ρ H) (t2 ρ H)⟩
theorem mvB_ok {K : PySem.W.Frag} : ∀ (n : Nat) (v : MV) (u : Value), mvB K n v u = true → ∃ x, RelV x u ∧ ∀ ρ H, VR K ρ H v x
  | 0, _, _, h => by cases h
  | n + 1, v, u, h => by
    unfold mvB at h
    split at h
    · exact ⟨.non, rfl, fun _ _ => .non⟩
    · rename_i b c
      have e : b = c := eq_of_beq h
      subst e
      exact ⟨.bl b, rfl, fun _ _ => .bl b⟩
    · rename_i i j t
      have e : i = j := of_decide_eq_true h
      subst e
      exact ⟨.int i, ⟨t, rfl⟩, fun _ _ => .int i⟩
    · rename_i i j t
      have e : i = j := of_decide_eq_true h
      subst e
      exact ⟨.str i, ⟨t, rfl⟩, fun _ _ => .str i⟩
    · rename_i vs a
      split at h
      · rename_i c od its m sl lk
        simp only [Bool.and_eq_true, decide_eq_true_eq] at h
        obtain ⟨rfl, h2, h3⟩ := h
        obtain ⟨xs, r1, r2⟩ := mvBs_ok (mvB_ok n) vs its.toList h3
        exact ⟨.ref a, rfl, fun ρ H => .tup (.inr ⟨_, its, m, lk, rfl, rfl, h2, r1⟩) (r2 ρ H)⟩
      · cases h
    · rename_i vs a
      split at h
      · rename_i c its m sl lk
        simp only [Bool.and_eq_true, decide_eq_true_eq] at h
        obtain ⟨rfl, h2, h3⟩ := h
        obtain ⟨xs, r1, r2⟩ := mvBs_ok (mvB_ok n) vs its.toList h3
        exact ⟨.ref a, rfl, fun ρ H => .kls (.inr ⟨_, its, m, lk, rfl, rfl, rfl, h2, r1⟩) (r2 ρ H)⟩
      · cases h
    · cases h

/-! ### what the top holds, looked at -/
abbrev Tx := Stmt × List He.Dv
def ckM (pg : Pg) (K : PySem.W.Frag) : Bool := (bltNames.all fun b => (He.Fa.free b).ok K) && ((pg.fs.all fun d => (He.Fa.glo d.name).ok K) && pg.cs.all fun c => match PySem.W.nsIn K mainGlobals c.1 with
  | some (some u) => mvB K 20 c.2 u
  | _ => false)
def dd (d : Fd) (t : Tx) : He.DefD := { at_ := (d.name, none), name := d.name, qual := d.name, params := defArgs t.1, body := defBody t.1, scope := defScope t.1, dfl := t.2, kwd := [] }
def dds (pg : Pg) (ts : List Tx) : List He.DefD := List.zipWith dd pg.fs ts
abbrev AlM : Type := Bool × He.AlD
def SaysM (pg : Pg) (ts : List Tx) (K : PySem.W.Frag) : Prop := ckM pg K = true ∧ He.SaysD [] (dds pg ts) K
def obsMK (pg : Pg) (ts : List Tx) (K : PySem.W.Frag) : AlM := (ckM pg K, He.obsD [] (dds pg ts) K)
def obsM (n : Nat) (pg : Pg) (ts : List Tx) (g : Addr → Option Obj) : AlM := obsMK pg ts (He.frG g (He.asD g n))
def hookM (n : Nat) (pg : Pg) (ts : List Tx) : PySem.W.Hook where
  α := AlM
  obs := fun s => obsM n pg ts s.heap.get?
  val := fun _ => (true, He.valD (dds pg ts))
  says := fun _ h => ∃ K : PySem.W.Frag, K.In h ∧ SaysM pg ts K
  of := fun _ _ e => ⟨_, He.frG_in, congrArg (fun y : AlM => y.1) e, congrArg (fun y : AlM => y.2) e⟩
  keeps := fun _ _ _ ⟨K, hK, c⟩ k => ⟨K, PySem.W.Frag.In.keeps hK k, c⟩
theorem obsM_eq {n : Nat} {pg : Pg} {ts : List Tx} {g : Addr → Option Obj} {s : Shared} (h : ∀ a, g a = s.heap.get? a) : obsM n pg ts g = (hookM n pg ts).obs s := by
  have e : g = s.heap.get? := funext h
  rw [e] <;> rfl
/-- each way to call a def, shown from its text -/
def ShpL (K : PySem.W.Frag) (fd : FuncData) (ps : List Str) : List (Nat × List Str × List Ar) → Prop
  | [] => True
  | s :: r => Shp K fd ps s.1 s.2.1 s.2.2 ∧ ShpL K fd ps r
def ShD (d : Fd) (t : Tx) : Prop := ∀ (K : PySem.W.Frag) (f : Addr) (fd : FuncData), FunD K d.name d.name (defArgs t.1) (defBody t.1) (defScope t.1) (t.2.map (He.Dv.v K)) [] f fd → ShpL K fd d.ps d.shapes
def ShA : List Fd → List Tx → Prop
  | [], _ => True
  | _ :: _, [] => False
  | d :: ds, t :: ts => ShD d t ∧ ShA ds ts
theorem ShpL.at {K : PySem.W.Frag} {fd : FuncData} {ps : List Str} : ∀ {l : List (Nat × List Str × List Ar)} {i n : Nat} {ks : List Str} {ar : List Ar}, ShpL K fd ps l → l[i]? = some (n, ks, ar) → Shp K fd ps n ks ar
  | [], i, _, _, _, _, e => by simp at e
  | s :: r, 0, _, _, _, h, e => by
    simp at e
    subst e
    exact h.1
  | s :: r, i + 1, _, _, _, h, e => ShpL.at (i := i) h.2 (by simpa using e)
theorem ShA.at : ∀ {ds : List Fd} {ts : List Tx} {i : Nat} {d : Fd}, ShA ds ts → ds[i]? = some d → ∃ t, ts[i]? = some t ∧ ShD d t
  | [], _, i, _, _, e => by simp at e
  | _ :: _, [], _, _, h, _ => h.elim
  | d :: ds, t :: ts, 0, _, h, e => by
    simp at e
    subst e
    exact ⟨t, rfl, h.1⟩
  | d :: ds, t :: ts, i + 1, _, h, e => by
    obtain ⟨t', e1, e2⟩ := ShA.at (i := i) h.2 (by simpa using e)
    exact ⟨t', by simpa using e1, e2⟩
/-- each def's body is as the look wants it -/
def chkA (pg : Pg) : List Fd → List Tx → Bool
  | [], _ => true
  | _ :: _, [] => false
  | d :: ds, t :: ts => chkD pg d t.1 && chkA pg ds ts
theorem chkA_at {pg : Pg} : ∀ {ds : List Fd} {ts : List Tx} {i : Nat} {d : Fd} {t : Tx}, chkA pg ds ts = true → ds[i]? = some d → ts[i]? = some t → chkD pg d t.1 = true
  | [], _, i, _, _, _, e, _ => by simp at e
  | _ :: _, [], _, _, _, h, _, _ => by cases h
  | d :: ds, t :: ts, 0, _, _, h, e, e' => by
    simp at e e'
    subst e e'
    have h' : (chkD pg d t.1 && chkA pg ds ts) = true := h
    exact (Bool.and_eq_true_iff.mp h').1
  | d :: ds, t :: ts, i + 1, _, _, h, e, e' => by
    have h' : (chkD pg d t.1 && chkA pg ds ts) = true := h
    exact chkA_at (i := i) (Bool.and_eq_true_iff.mp h').2 (by simpa using e) (by simpa using e')
def fdOf (K : PySem.W.Frag) (a : Addr) : FuncData := match K.lookup a with
  | some ⟨_, _, .func fd, _⟩ => fd
  | _ => PySem.W.fnOf "" "" (defArgs (.Pass ⟨0, 0, 0, 0⟩)) [] (defScope (.Pass ⟨0, 0, 0, 0⟩)) .none .none .none .none none .none .none
def giOf (pg : Pg) (P : Program) (w : World) (K : PySem.W.Frag) (mg : Str → Option Value) (base : Heap) : Gi :=
  { P := P, w := w, K := K, mg := mg, base := base, pg := pg, addr := fun i => match pg.fs[i]? with
      | some d => He.ga K d.name
      | none => 0,
    fd := fun i => match pg.fs[i]? with
      | some d => fdOf K (He.ga K d.name)
      | none => fdOf K 0 }
section
variable {pg : Pg} {ts : List Tx} {P : Program} {w : World} {K : PySem.W.Frag} {mg : Str → Option Value} {base h : Heap}
theorem gi_addr {i : Nat} {d : Fd} (e : pg.fs[i]? = some d) : (giOf pg P w K mg base).addr i = He.ga K d.name := by
  show (match pg.fs[i]? with
      | some d => He.ga K d.name
      | none => 0) = _
  rw [e]
theorem gi_fd {i : Nat} {d : Fd} (e : pg.fs[i]? = some d) : (giOf pg P w K mg base).fd i = fdOf K (He.ga K d.name) := by
  show (match pg.fs[i]? with
      | some d => fdOf K (He.ga K d.name)
      | none => fdOf K 0) = _
  rw [e]
theorem fun_at (S : He.SaysD [] (dds pg ts) K) {i : Nat} {d : Fd} {t : Tx} (e : pg.fs[i]? = some d) (e' : ts[i]? = some t) : FunD K d.name d.name (defArgs t.1) (defBody t.1) (defScope t.1) (t.2.map (He.Dv.v K)) [] (He.ga K d.name) (fdOf K (He.ga K d.name)) := by
  have e2 : (dds pg ts)[i]? = some (dd d t) := by
    unfold dds
    rw [List.getElem?_zipWith, e, e']
  obtain ⟨fd, F⟩ := S.def_ i e2
  have F' : FunD K d.name d.name (defArgs t.1) (defBody t.1) (defScope t.1) (t.2.map (He.Dv.v K)) [] (He.ga K d.name) fd := F
  have q : fdOf K (He.ga K d.name) = fd := by
    obtain ⟨oc, od, dV, kV, doc, pm, an, cdv, ct, osl, _, lk, _⟩ := F'.ex
    unfold fdOf
    rw [lk]
  rw [q]
  exact F'
theorem gi_lk (A : ShA pg.fs ts) (C : ckM pg K = true) (S : He.SaysD [] (dds pg ts) K) (X : K.In h) (g : h.Ns mainGlobals mg) : Lk (giOf pg P w K mg base) := by
  unfold ckM at C
  simp only [Bool.and_eq_true, List.all_eq_true] at C
  obtain ⟨c1, c2, c3⟩ := C
  constructor
  · exact fun b hb => He.free_ok X g (c1 b hb)
  · intro i d (e : pg.fs[i]? = some d)
    obtain ⟨t, e', _⟩ := A.at e
    rw [gi_addr e]
    exact ⟨He.glo_ok X g (c2 d (List.mem_of_getElem? e)), (fun_at S e e').kp⟩
  · intro i d sh n ks ar (e : pg.fs[i]? = some d) es
    obtain ⟨t, e', hd⟩ := A.at e
    rw [gi_fd e]
    exact (hd K _ _ (fun_at S e e')).at es
  · intro k nm v e
    have q := c3 (nm, v) (List.mem_of_getElem? e)
    simp only at q
    split at q
    · rename_i u hu
      obtain ⟨x, r1, r2⟩ := mvB_ok 20 v u q
      exact ⟨x, u, PySem.W.mg_of X g hu, r1, r2⟩
    · cases q
theorem gi_df (A : ShA pg.fs ts) (C : chkA pg pg.fs ts = true) (S : He.SaysD [] (dds pg ts) K) : Dfs (giOf pg P w K mg base) := by
  intro i d (e : pg.fs[i]? = some d)
  obtain ⟨t, e', _⟩ := A.at e
  refine ⟨t.1, chkA_at C e e', ?_⟩
  rw [gi_addr e, gi_fd e]
  obtain ⟨oc, od, dV, kV, doc, pm, an, cdv, ct, osl, q, lk, hcd, _⟩ := (fun_at S e e').ex
  exact ⟨oc, od, dV, kV, doc, pm, an, cdv, ct, osl, q, lk, hcd⟩
end
/-- THE END of a law over the small machine: pg its defs and constants, ts their texts, iL the law's def -/
theorem walk_mp {l : PySem.W.OpenLaw} {n k m : Nat} {q : Program} {loose : List Str} {XP : (Str → Option Value) → Heap → Prop} {d : DefRec} {x : Str} (pg : Pg) (ts : List Tx) (iL : Nat) (dl : Fd) (hL : pg.fs[iL]? = some dl) (hnm : dl.name = d.name) (hps : dl.ps = [x])
    (hn : l.most = some n) (hn2 : n ≤ sizeLine) (hdf : d.params.defaults = []) (hr : Room k callerA) (hA : ShA pg.fs ts) (hC : chkA pg pg.fs ts = true) (h1 : ∀ (t : Tx) (K : PySem.W.Frag) (f : Addr) (fd : FuncData), ts[iL]? = some t → FunD K dl.name dl.name (defArgs t.1) (defBody t.1) (defScope t.1) (t.2.map (He.Dv.v K)) [] f fd → ∀ (s : Shared) (u : Value), BindsTo s fd ⟨[u], []⟩ [(x, u)])
    (hP : ∀ ns : List Int, ns.length ≤ n → ∃ M, run pg k iL [.kls (ns.map MV.int)] [] = .ok (.bl true) M) : PySem.W.WalkO q loose XP (hookM m pg ts).says l.row.toRowW d [] (fun f vs => PySem.call f vs) := by
  refine walk_G (k := k) (x := x) hn hn2 hdf hr ?_
  intro w mg fa h Y g hmg
  obtain ⟨K, KX, C, S⟩ := Y
  obtain ⟨t, e', hsd⟩ := hA.at hL
  have F := fun_at S hL e'
  have hfa : fa = He.ga K dl.name := by
    have c2 := C
    unfold ckM at c2
    simp only [Bool.and_eq_true, List.all_eq_true] at c2
    have q := He.glo_ok KX g (c2.2.1 dl (List.mem_of_getElem? hL))
    rw [hnm] at q ⊢
    rw [hmg] at q
    cases q
    rfl
  refine ⟨K, fdOf K fa, spG (giOf pg l.prog w K mg h) k iL, KX, ?_, ?_, ?_⟩
  · intro s u
    rw [hfa]
    exact h1 t K _ _ e' F s u
  · intro H a ns hl hS
    obtain ⟨M, e⟩ := hP ns hl
    refine ⟨[], [], [.kls (ns.map MV.int)], .bl true, M, ⟨List.nodup_nil, rfl, fun n us e => by simp at e⟩, .cons (.kls hS ?_) .nil, e, ?_⟩
    · clear e hP hl hS
      induction ns with
      | nil => exact .nil
      | cons i r ih => exact .cons (.int i) ih
    · intro v H' ρ' h' p' r
      cases r
      rfl
  · intro base KB gb
    have L : Lk (giOf pg l.prog w K mg base) := gi_lk hA C S KB gb
    have D : Dfs (giOf pg l.prog w K mg base) := gi_df hA hC S
    have q := fns_all L D k iL dl hL
    rw [gi_addr hL, gi_fd hL, hps, ← hfa] at q
    exact q
end MP

set_option Elab.async false
set_option linter.all false
set_option maxRecDepth 100000
set_option autoImplicit false
set_option maxHeartbeats 4000000
/-! MP, part l: running the small machine by rules. -/
namespace MP
open PySem

/-! ### ends -/
def Re.fin (x : Re (Fl × Sl)) : Re MV := x.bnd fun p M1 => match p.1 with
  | .nx => .ok .non M1
  | .rt v => .ok v M1
  | _ => .bad
@[simp] theorem bnd_ok_ {α β : Type} (a : α) (M : MH) (f : α → MH → Re β) : (Re.ok a M).bnd f = f a M := rfl
@[simp] theorem fin_rt (v : MV) (m : Sl) (M : MH) : (Re.ok (Fl.rt v, m) M).fin = .ok v M := rfl
@[simp] theorem fin_nx (m : Sl) (M : MH) : (Re.ok (Fl.nx, m) M).fin = .ok .non M := rfl
@[simp] theorem nox_ok_ {α : Type} (a : α) (M : MH) : (Re.ok a M).nox = .ok a M := rfl

/-- the def i: its parameters' number, its slots' number, its body -/
def IsD (P : Pg) (i np nl : Nat) (body : Ss) : Prop := ∃ d, P.fs[i]? = some d ∧ d.np = np ∧ d.N.length = nl ∧ d.body = body
theorem IsD.go {P : Pg} {i np nl n : Nat} {body : Ss} {args : List MV} {M : MH} (h : IsD P i np nl body) (hl : args.length = np) : MP.run P (n + 1) i args M = (exs (cfg P n) body (args.map some ++ List.replicate (nl - np) none) M).fin := by
  obtain ⟨d, h1, rfl, rfl, rfl⟩ := h
  rw [run_succ, h1]
  simp only
  rw [if_pos hl]
  rfl
/-- the way sh to call f -/
def Arr (P : Pg) (f sh : Nat) (ar : List Ar) : Prop := ∃ d, P.fs[f]? = some d ∧ (d.shapes[sh]?).map (·.2.2) = some ar
theorem Arr.cfg {P : Pg} {f sh : Nat} {ar : List Ar} (h : Arr P f sh ar) (n : Nat) : (cfg P n).arr f sh = some ar := by
  obtain ⟨d, h1, h2⟩ := h
  show ((P.fs[f]?).bind fun e => (e.shapes[sh]?).map (·.2.2)) = _
  rw [h1]
  exact h2
@[simp] theorem cfg_call (P : Pg) (n : Nat) : (cfg P n).call = run P n := rfl
@[simp] theorem cfg_most (P : Pg) (n : Nat) : (cfg P n).most = P.most := rfl

/-! ### steps: each form's way on behind its first part -/
theorem bnd_cong {α β : Type} {x y : Re α} {f : α → MH → Re β} (h : x = y) : x.bnd f = y.bnd f := by rw [h]
theorem fin_cong {x y : Re (Fl × Sl)} (h : x = y) : x.fin = y.fin := by rw [h]
theorem nox_cong {α : Type} {x y : Re α} (h : x = y) : x.nox = y.nox := by rw [h]
def kvr (M : MH) : Option (Option MV) → Re MV
  | some (some v) => .ok v M
  | _ => .bad
def kop {α : Type} (C : Cf) (b : E) (m : Sl) (f : MV → MV → MH → Re α) (u : MV) (M : MH) : Re α := (ev C b m M).bnd (f u)
def kand (C : Cf) (b : E) (m : Sl) : MV → MH → Re MV
  | .bl true, M => ev C b m M
  | .bl false, M => .ok (.bl false) M
  | _, _ => .bad
def kor (C : Cf) (b : E) (m : Sl) : MV → MH → Re MV
  | .bl false, M => ev C b m M
  | .bl true, M => .ok (.bl true) M
  | _, _ => .bad
def knot : MV → MH → Re MV
  | .bl b, M => .ok (.bl (!b)) M
  | _, _ => .bad
def kneg : MV → MH → Re MV
  | .int b, M => .ok (.int (-b)) M
  | _, _ => .bad
def kife (C : Cf) (a b : E) (m : Sl) : MV → MH → Re MV
  | .bl true, M => ev C a m M
  | .bl false, M => ev C b m M
  | _, _ => .bad
def kchn (C : Cf) (o p : COp) (b c : E) (m : Sl) (u : MV) (M : MH) : Re MV := (ev C b m M).bnd fun v M2 => (cmpop o u v M2).bnd fun x M3 => match x with
    | .bl true => (ev C c m M3).bnd fun z M4 => cmpop p v z M4
    | .bl false => .ok (.bl false) M3
    | _ => .bad
def kchn2 (C : Cf) (p : COp) (c : E) (m : Sl) (v : MV) : MV → MH → Re MV
  | .bl true, M3 => (ev C c m M3).bnd (cmpop p v)
  | .bl false, M3 => .ok (.bl false) M3
  | _, _ => .bad
def kslc (C : Cf) (lo hi : Option E) (m : Sl) (u : MV) (M1 : MH) : Re MV := (match lo with
      | none => Re.ok none M1
      | some l => (ev C l m M1).bnd asBnd).bnd fun v M2 =>
    (match hi with
      | none => Re.ok none M2
      | some l => (ev C l m M2).bnd asBnd).bnd fun x M3 => slcop u v x M3
def ktup (vs : List MV) (M : MH) : Re MV := .ok (.tup vs) M
def kcal (C : Cf) (f sh : Nat) (ks : Es) (m : Sl) (vs : List MV) (M1 : MH) : Re MV := (evs C ks m M1).bnd fun ws M2 => match C.arr f sh with
    | some ar => match ar.mapM (argAt (vs ++ ws)) with
      | some args => C.call f args M2
      | none => .bad
    | none => .bad
def kcl2 (C : Cf) (f : Nat) (o : Option (List Ar)) (vs ws : List MV) (M2 : MH) : Re MV := match o with
    | some ar => match ar.mapM (argAt (vs ++ ws)) with
      | some args => C.call f args M2
      | none => .bad
    | none => .bad
def kcl3 (C : Cf) (f : Nat) (M2 : MH) : Option (List MV) → Re MV
  | some args => C.call f args M2
  | none => .bad
def kisi (ts : List Ty) (u : MV) (M : MH) : Re MV := .ok (.bl (isiM u ts)) M
def kmth (C : Cf) (b : Mt) (es : Es) (m : Sl) (u : MV) (M : MH) : Re MV := (evs C es m M).bnd (mtop b u)
def kcons (C : Cf) (es : Es) (m : Sl) (v : MV) (M1 : MH) : Re (List MV) := (evs C es m M1).bnd fun vs M2 => .ok (v :: vs) M2
def kcn (v : MV) (vs : List MV) (M2 : MH) : Re (List MV) := .ok (v :: vs) M2
def turn (C : Cf) (t : Tg) (c : Option E) (e : E) (m : Sl) (x : MV) (M : MH) : Re (Option MV) := match t.set x (wip m t.own) with
      | none => .bad
      | some m' => match c with
        | none => ((ev C e m' M).nox).bnd fun y M' => .ok (some y) M'
        | some c => ((ev C c m' M).nox).bnd fun k M' => match k with
          | .bl true => ((ev C e m' M').nox).bnd fun y M'' => .ok (some y) M''
          | .bl false => .ok none M'
          | _ => .bad
def kcom (C : Cf) (t : Tg) (c : Option E) (e : E) (m : Sl) (s : Src) (M1 : MH) : Re MV := (comL s (turn C t c e m) C.most 0 [] M1).bnd newL
def kseq (v : MV) (M : MH) : Re Src := match srcOf M v with
    | some s => .ok s M
    | none => .bad
def krg1 : MV → MH → Re Src
  | .int j, M => if -1000000 ≤ j ∧ j ≤ 1000000 then .ok (.rg 0 j.toNat) M else .bad
  | _, _ => .bad
def krg2 (u v : MV) (M : MH) : Re Src := match u, v with
    | .int i, .int j => if -1000000 ≤ i ∧ i ≤ 1000000 ∧ -1000000 ≤ j ∧ j ≤ 1000000 then .ok (.rg i (j - i).toNat) M else .bad
    | _, _ => .bad
def kzip (u v : MV) (M : MH) : Re Src := match zipOf M u v with
    | some s => .ok s M
    | none => .bad
def kenu (v : MV) (M : MH) : Re Src := match itemsL M v with
    | some _ => .ok (.en v) M
    | none => .bad
def kss (C : Cf) (ss : Ss) : Fl × Sl → MH → Re (Fl × Sl)
  | (.nx, m), M => exs C ss m M
  | (f, m), M => .ok (f, m) M
def kexp (m : Sl) (_ : MV) (M : MH) : Re (Fl × Sl) := .ok (.nx, m) M
def kasg (t : Tg) (m : Sl) (v : MV) (M : MH) : Re (Fl × Sl) := match t.set v m with
    | some m' => .ok (.nx, m') M
    | none => .bad
def kput (C : Cf) (a i : E) (m : Sl) (v : MV) (M : MH) : Re (Fl × Sl) := (ev C a m M).bnd fun u M2 => (ev C i m M2).bnd fun k M3 => (putop u k v M3).bnd fun _ M4 => .ok (.nx, m) M4
def kput2 (C : Cf) (i : E) (m : Sl) (v u : MV) (M : MH) : Re (Fl × Sl) := (ev C i m M).bnd fun k M3 => (putop u k v M3).bnd fun _ M4 => .ok (.nx, m) M4
def kput3 (m : Sl) (v u k : MV) (M : MH) : Re (Fl × Sl) := (putop u k v M).bnd fun _ M4 => .ok (.nx, m) M4
def kput4 (m : Sl) (_ : Unit) (M : MH) : Re (Fl × Sl) := .ok (.nx, m) M
def kaug (i : Nat) (o : BOp) (m : Sl) (u v : MV) (M : MH) : Re (Fl × Sl) := (augop o u v M).bnd fun w M2 => .ok (.nx, m.set i (some w)) M2
def kaug2 (i : Nat) (m : Sl) (w : MV) (M2 : MH) : Re (Fl × Sl) := .ok (.nx, m.set i (some w)) M2
def kagi (C : Cf) (i : E) (o : BOp) (e : E) (m : Sl) (u : MV) (M : MH) : Re (Fl × Sl) := (ev C i m M).bnd fun k M2 => (getop u k M2).bnd fun x M3 => (ev C e m M3).bnd fun v M4 => (augop o x v M4).bnd fun z M5 =>
    (putop u k z M5).bnd fun _ M6 => .ok (.nx, m) M6
def kagi2 (C : Cf) (o : BOp) (e : E) (m : Sl) (u k : MV) (M2 : MH) : Re (Fl × Sl) := (getop u k M2).bnd fun x M3 => (ev C e m M3).bnd fun v M4 => (augop o x v M4).bnd fun z M5 =>
    (putop u k z M5).bnd fun _ M6 => .ok (.nx, m) M6
def kagi3 (C : Cf) (o : BOp) (e : E) (m : Sl) (u k x : MV) (M3 : MH) : Re (Fl × Sl) := (ev C e m M3).bnd fun v M4 => (augop o x v M4).bnd fun z M5 =>
    (putop u k z M5).bnd fun _ M6 => .ok (.nx, m) M6
def kagi4 (o : BOp) (m : Sl) (u k x v : MV) (M4 : MH) : Re (Fl × Sl) := (augop o x v M4).bnd fun z M5 =>
    (putop u k z M5).bnd fun _ M6 => .ok (.nx, m) M6
def kagi5 (m : Sl) (u k z : MV) (M5 : MH) : Re (Fl × Sl) := (putop u k z M5).bnd fun _ M6 => .ok (.nx, m) M6
def kif (C : Cf) (a b : Ss) (m : Sl) : MV → MH → Re (Fl × Sl)
  | .bl true, M => exs C a m M
  | .bl false, M => exs C b m M
  | _, _ => .bad
def fturn (C : Cf) (t : Tg) (b : Ss) (x : MV) (m : Sl) (M : MH) : Re (Fl × Sl) := match t.set x m with
      | some m' => exs C b m' M
      | none => .bad
def kfor (C : Cf) (t : Tg) (b : Ss) (m : Sl) (s : Src) (M : MH) : Re (Fl × Sl) := forL s (fturn C t b) C.most 0 m M
def kret (m : Sl) (v : MV) (M : MH) : Re (Fl × Sl) := .ok (.rt v, m) M
section
variable (C : Cf) (m : Sl) (M : MH)
@[simp] theorem kvr_s (v : MV) : kvr M (some (some v)) = .ok v M := rfl
@[simp] theorem e_var (i : Nat) : ev C (.var i) m M = kvr M m[i]? := by
  simp only [ev]
  cases h : m[i]? with
  | none => rfl
  | some o => cases o <;> rfl
@[simp] theorem e_cst (v : MV) : ev C (.cst v) m M = .ok v M := by simp only [ev]
theorem e_glo {k : Nat} {v : MV} (h : C.glo k = some v) : ev C (.glo k) m M = .ok v M := by simp only [ev, h]
@[simp] theorem e_dnw : ev C .dnw m M = .ok .dct M := by simp only [ev]
@[simp] theorem e_bin (o : BOp) (a b : E) : ev C (.bin o a b) m M = (ev C a m M).bnd (kop C b m (binop o)) := by
  simp only [ev]
  rfl
@[simp] theorem e_cmp (o : COp) (a b : E) : ev C (.cmp o a b) m M = (ev C a m M).bnd (kop C b m (cmpop o)) := by
  simp only [ev]
  rfl
@[simp] theorem e_idx (a b : E) : ev C (.idx a b) m M = (ev C a m M).bnd (kop C b m idxop) := by
  simp only [ev]
  rfl
@[simp] theorem k_op {α : Type} (b : E) (f : MV → MV → MH → Re α) (u : MV) : kop C b m f u M = (ev C b m M).bnd (f u) := rfl
@[simp] theorem e_chn (o p : COp) (a b c : E) : ev C (.chn o p a b c) m M = (ev C a m M).bnd (kchn C o p b c m) := by
  simp only [ev]
  rfl
def kchn1 (C : Cf) (o p : COp) (c : E) (m : Sl) (u v : MV) (M2 : MH) : Re MV := (cmpop o u v M2).bnd (kchn2 C p c m v)
@[simp] theorem k_chn (o p : COp) (b c : E) (u : MV) : kchn C o p b c m u M = (ev C b m M).bnd (kchn1 C o p c m u) := by
  unfold kchn kchn1
  congr 1
  funext v M2
  congr 1
  funext x M3
  cases x <;> first
    | rfl
    | (rename_i b; cases b <;> rfl)
@[simp] theorem k_chn1 (o p : COp) (c : E) (u v : MV) : kchn1 C o p c m u v M = (cmpop o u v M).bnd (kchn2 C p c m v) := rfl
@[simp] theorem k_chn2t (p : COp) (c : E) (v : MV) : kchn2 C p c m v (.bl true) M = (ev C c m M).bnd (cmpop p v) := rfl
@[simp] theorem k_chn2f (p : COp) (c : E) (v : MV) : kchn2 C p c m v (.bl false) M = .ok (.bl false) M := rfl
@[simp] theorem e_and (a b : E) : ev C (.and a b) m M = (ev C a m M).bnd (kand C b m) := by
  simp only [ev]
  congr 1
  funext u M1
  cases u <;> first
    | rfl
    | (rename_i b; cases b <;> rfl)
@[simp] theorem k_andt (b : E) : kand C b m (.bl true) M = ev C b m M := rfl
@[simp] theorem k_andf (b : E) : kand C b m (.bl false) M = .ok (.bl false) M := rfl
@[simp] theorem e_or (a b : E) : ev C (.or a b) m M = (ev C a m M).bnd (kor C b m) := by
  simp only [ev]
  congr 1
  funext u M1
  cases u <;> first
    | rfl
    | (rename_i b; cases b <;> rfl)
@[simp] theorem k_orf (b : E) : kor C b m (.bl false) M = ev C b m M := rfl
@[simp] theorem k_ort (b : E) : kor C b m (.bl true) M = .ok (.bl true) M := rfl
@[simp] theorem e_not (a : E) : ev C (.not a) m M = (ev C a m M).bnd knot := by
  simp only [ev]
  congr 1
  funext u M1
  cases u <;> rfl
@[simp] theorem k_not (b : Bool) : knot (.bl b) M = .ok (.bl (!b)) M := rfl
@[simp] theorem e_neg (a : E) : ev C (.neg a) m M = (ev C a m M).bnd kneg := by
  simp only [ev]
  congr 1
  funext u M1
  cases u <;> rfl
@[simp] theorem k_neg (b : Int) : kneg (.int b) M = .ok (.int (-b)) M := rfl
@[simp] theorem e_ife (c a b : E) : ev C (.ife c a b) m M = (ev C c m M).bnd (kife C a b m) := by
  simp only [ev]
  congr 1
  funext u M1
  cases u <;> first
    | rfl
    | (rename_i b; cases b <;> rfl)
@[simp] theorem k_ifet (a b : E) : kife C a b m (.bl true) M = ev C a m M := rfl
@[simp] theorem k_ifef (a b : E) : kife C a b m (.bl false) M = ev C b m M := rfl
@[simp] theorem e_slc (a : E) (lo hi : Option E) : ev C (.slc a lo hi) m M = (ev C a m M).bnd (kslc C lo hi m) := by
  simp only [ev]
  rfl
@[simp] theorem e_rev (a : E) : ev C (.rev a) m M = (ev C a m M).bnd revop := by
  simp only [ev]
@[simp] theorem e_tup (es : Es) : ev C (.tup es) m M = (evs C es m M).bnd ktup := by
  simp only [ev]
  rfl
@[simp] theorem k_tup (vs : List MV) : ktup vs M = .ok (.tup vs) M := rfl
@[simp] theorem e_lst (es : Es) : ev C (.lst es) m M = (evs C es m M).bnd newL := by
  simp only [ev]
@[simp] theorem k_newL (vs : List MV) : newL vs M = .ok (.lst M.length) (M ++ [vs]) := rfl
@[simp] theorem e_cal (f sh : Nat) (es ks : Es) : ev C (.cal f sh es ks) m M = (evs C es m M).bnd (kcal C f sh ks m) := by
  simp only [ev]
  rfl
@[simp] theorem k_cal (f sh : Nat) (ks : Es) (vs : List MV) : kcal C f sh ks m vs M = (evs C ks m M).bnd (kcl2 C f (C.arr f sh) vs) := rfl
@[simp] theorem k_cl2 (f : Nat) (ar : List Ar) (vs ws : List MV) : kcl2 C f (some ar) vs ws M = kcl3 C f M (ar.mapM (argAt (vs ++ ws))) := by
  show (match ar.mapM (argAt (vs ++ ws)) with
      | some args => C.call f args M
      | none => .bad) = _
  cases ar.mapM (argAt (vs ++ ws)) <;> rfl
@[simp] theorem k_cl3 (f : Nat) (args : List MV) : kcl3 C f M (some args) = C.call f args M := rfl
@[simp] theorem e_blt (b : Bt) (es : Es) : ev C (.blt b es) m M = (evs C es m M).bnd (btop b) := by
  simp only [ev]
@[simp] theorem e_isi (a : E) (ts : List Ty) (y : Bool) : ev C (.isi a ts y) m M = (ev C a m M).bnd (kisi ts) := by
  simp only [ev]
  rfl
@[simp] theorem k_isi (ts : List Ty) (u : MV) : kisi ts u M = .ok (.bl (isiM u ts)) M := rfl
@[simp] theorem e_mth (b : Mt) (a : E) (es : Es) : ev C (.mth b a es) m M = (ev C a m M).bnd (kmth C b es m) := by
  simp only [ev]
  rfl
@[simp] theorem k_mth (b : Mt) (es : Es) (u : MV) : kmth C b es m u M = (evs C es m M).bnd (mtop b u) := rfl
@[simp] theorem e_com (t : Tg) (it : MP.It) (c : Option E) (e : E) : ev C (.com t it c e) m M = (evI C it m M).bnd (kcom C t c e m) := by
  simp only [ev]
  rfl
@[simp] theorem es_nil : evs C .nil m M = .ok [] M := by simp only [evs]
@[simp] theorem es_cons (e : E) (es : Es) : evs C (.cons e es) m M = (ev C e m M).bnd (kcons C es m) := by
  simp only [evs]
  rfl
@[simp] theorem k_cons (es : Es) (v : MV) : kcons C es m v M = (evs C es m M).bnd (kcn v) := rfl
@[simp] theorem k_cn (v : MV) (vs : List MV) : kcn v vs M = .ok (v :: vs) M := rfl
@[simp] theorem i_seq (e : E) : evI C (.seq e) m M = (ev C e m M).bnd kseq := by
  simp only [evI]
  rfl
@[simp] theorem i_rg1 (e : E) : evI C (.rg1 e) m M = (ev C e m M).bnd krg1 := by
  simp only [evI]
  congr 1
  funext u M1
  cases u <;> rfl
@[simp] theorem i_rg2 (a b : E) : evI C (.rg2 a b) m M = (ev C a m M).bnd (kop C b m krg2) := by
  simp only [evI]
  rfl
@[simp] theorem i_zip (a b : E) : evI C (.zip a b) m M = (ev C a m M).bnd (kop C b m kzip) := by
  simp only [evI]
  rfl
@[simp] theorem i_enu (e : E) : evI C (.enu e) m M = (ev C e m M).bnd kenu := by
  simp only [evI]
  rfl
@[simp] theorem s_nil : exs C .nil m M = .ok (.nx, m) M := by simp only [exs]
@[simp] theorem s_cons (s : S) (ss : Ss) : exs C (.cons s ss) m M = (ex C s m M).bnd (kss C ss) := by
  simp only [exs]
  congr 1
  funext p M1
  obtain ⟨f, m'⟩ := p
  cases f <;> rfl
@[simp] theorem k_nx (ss : Ss) : kss C ss (.nx, m) M = exs C ss m M := rfl
@[simp] theorem k_rt (ss : Ss) (v : MV) : kss C ss (.rt v, m) M = .ok (.rt v, m) M := rfl
@[simp] theorem k_bk (ss : Ss) : kss C ss (.bk, m) M = .ok (.bk, m) M := rfl
@[simp] theorem k_ct (ss : Ss) : kss C ss (.cn, m) M = .ok (.cn, m) M := rfl
@[simp] theorem s_exp (e : E) : ex C (.exp e) m M = (ev C e m M).bnd (kexp m) := by
  simp only [ex]
  rfl
@[simp] theorem k_exp (v : MV) : kexp m v M = .ok (.nx, m) M := rfl
@[simp] theorem s_asg (t : Tg) (e : E) : ex C (.asg t e) m M = (ev C e m M).bnd (kasg t m) := by
  simp only [ex]
  rfl
theorem k_asg {t : Tg} {v : MV} {m' : Sl} (h : t.set v m = some m') : kasg t m v M = .ok (.nx, m') M := by
  unfold kasg
  rw [h]
@[simp] theorem k_asgN (i : Nat) (v : MV) : kasg (.nm i) m v M = .ok (.nx, m.set i (some v)) M := rfl
@[simp] theorem k_asg2 (i j : Nat) (u v : MV) : kasg (.tp [i, j]) m (.tup [u, v]) M = .ok (.nx, (m.set i (some u)).set j (some v)) M := rfl
@[simp] theorem k_asg3 (i j l : Nat) (u v w : MV) : kasg (.tp [i, j, l]) m (.tup [u, v, w]) M = .ok (.nx, ((m.set i (some u)).set j (some v)).set l (some w)) M := rfl
@[simp] theorem k_asg4 (i j l k : Nat) (u v w x : MV) : kasg (.tp [i, j, l, k]) m (.tup [u, v, w, x]) M = .ok (.nx, (((m.set i (some u)).set j (some v)).set l (some w)).set k (some x)) M := rfl
@[simp] theorem s_put (a i e : E) : ex C (.put a i e) m M = (ev C e m M).bnd (kput C a i m) := by
  simp only [ex]
  rfl
@[simp] theorem k_put (a i : E) (v : MV) : kput C a i m v M = (ev C a m M).bnd (kput2 C i m v) := rfl
@[simp] theorem k_put2 (i : E) (v u : MV) : kput2 C i m v u M = (ev C i m M).bnd (kput3 m v u) := rfl
@[simp] theorem k_put3 (v u k : MV) : kput3 m v u k M = (putop u k v M).bnd (kput4 m) := rfl
@[simp] theorem k_put4 (z : Unit) : kput4 m z M = .ok (.nx, m) M := rfl
@[simp] theorem s_aug (i : Nat) (o : BOp) (e : E) (u : MV) (h : m[i]? = some (some u)) : ex C (.aug i o e) m M = (ev C e m M).bnd (kaug i o m u) := by
  simp only [ex, h]
  rfl
@[simp] theorem k_aug (i : Nat) (o : BOp) (u v : MV) : kaug i o m u v M = (augop o u v M).bnd (kaug2 i m) := rfl
@[simp] theorem k_aug2 (i : Nat) (w : MV) : kaug2 i m w M = .ok (.nx, m.set i (some w)) M := rfl
@[simp] theorem s_agi (a i : E) (o : BOp) (e : E) : ex C (.agi a i o e) m M = (ev C a m M).bnd (kagi C i o e m) := by
  simp only [ex]
  rfl
@[simp] theorem k_agi (i : E) (o : BOp) (e : E) (u : MV) : kagi C i o e m u M = (ev C i m M).bnd (kagi2 C o e m u) := rfl
@[simp] theorem k_agi2 (o : BOp) (e : E) (u k : MV) : kagi2 C o e m u k M = (getop u k M).bnd (kagi3 C o e m u k) := rfl
@[simp] theorem k_agi3 (o : BOp) (e : E) (u k x : MV) : kagi3 C o e m u k x M = (ev C e m M).bnd (kagi4 o m u k x) := rfl
@[simp] theorem k_agi4 (o : BOp) (u k x v : MV) : kagi4 o m u k x v M = (augop o x v M).bnd (kagi5 m u k) := rfl
@[simp] theorem k_agi5 (u k z : MV) : kagi5 m u k z M = (putop u k z M).bnd (kput4 m) := rfl
@[simp] theorem s_iff (c : E) (a b : Ss) : ex C (.iff c a b) m M = (ev C c m M).bnd (kif C a b m) := by
  simp only [ex]
  congr 1
  funext u M1
  cases u <;> first
    | rfl
    | (rename_i b; cases b <;> rfl)
@[simp] theorem k_ift (a b : Ss) : kif C a b m (.bl true) M = exs C a m M := rfl
@[simp] theorem k_iff (a b : Ss) : kif C a b m (.bl false) M = exs C b m M := rfl
def wcon (C : Cf) (c : E) (m : Sl) (M : MH) : Re MV := ev C c m M
def wbod (C : Cf) (b : Ss) (m : Sl) (M : MH) : Re (Fl × Sl) := exs C b m M
@[simp] theorem s_whl (c : E) (b : Ss) : ex C (.whl c b) m M = whlL (wcon C c) (wbod C b) C.most m M := by
  simp only [ex]
  rfl
@[simp] theorem s_for (t : Tg) (it : MP.It) (b : Ss) : ex C (.for t it b) m M = (evI C it m M).bnd (kfor C t b m) := by
  simp only [ex]
  rfl
@[simp] theorem s_ret (e : E) : ex C (.ret e) m M = (ev C e m M).bnd (kret m) := by
  simp only [ex]
  rfl
@[simp] theorem k_ret (v : MV) : kret m v M = .ok (.rt v, m) M := rfl
@[simp] theorem s_rtn : ex C .rtn m M = .ok (.rt .non, m) M := by simp only [ex]
@[simp] theorem s_brk : ex C .brk m M = .ok (.bk, m) M := by simp only [ex]
@[simp] theorem s_cnt : ex C .cnt m M = .ok (.cn, m) M := by simp only [ex]
@[simp] theorem s_pas : ex C .pas m M = .ok (.nx, m) M := by simp only [ex]
/-! operators -/
@[simp] theorem o_add (i j : Int) : binop .add (.int i) (.int j) M = .ok (.int (i + j)) M := rfl
@[simp] theorem o_sub (i j : Int) : binop .sub (.int i) (.int j) M = .ok (.int (i - j)) M := rfl
theorem o_mul {i j : Int} (h : i.natAbs.log2 + j.natAbs.log2 < 1000000) : binop .mul (.int i) (.int j) M = .ok (.int (i * j)) M := if_pos h
theorem o_fdv {i j : Int} (h : j ≠ 0) (h2 : j.natAbs.log2 < 9000) : binop .fdv (.int i) (.int j) M = .ok (.int (i.fdiv j)) M := if_pos ⟨h, h2⟩
theorem o_mod {i j : Int} (h : j ≠ 0) : binop .mod (.int i) (.int j) M = .ok (.int (i.fmod j)) M := if_pos h
theorem o_pow {i j : Int} (h : 0 ≤ j ∧ j ≤ 1000 ∧ i.natAbs < 2 ^ 64) : binop .pow (.int i) (.int j) M = .ok (.int (i ^ j.toNat)) M := if_pos h
@[simp] theorem o_eq (u v : MV) : cmpop .eq u v M = ofO M (eqM M u v) := rfl
@[simp] theorem o_ne (u v : MV) : cmpop .ne u v M = ofO M ((eqM M u v).map (!·)) := rfl
@[simp] theorem o_lt (i j : Int) : cmpop .lt (.int i) (.int j) M = .ok (.bl (decide (i < j))) M := rfl
@[simp] theorem o_le (i j : Int) : cmpop .le (.int i) (.int j) M = .ok (.bl (decide (i ≤ j))) M := rfl
@[simp] theorem o_gt (i j : Int) : cmpop .gt (.int i) (.int j) M = .ok (.bl (decide (j < i))) M := rfl
@[simp] theorem o_ge (i j : Int) : cmpop .ge (.int i) (.int j) M = .ok (.bl (decide (j ≤ i))) M := rfl
@[simp] theorem o_is (u v : MV) : cmpop .is u v M = ofO M (isM u v) := rfl
@[simp] theorem o_isn (u v : MV) : cmpop .isn u v M = ofO M ((isM u v).map (!·)) := rfl
@[simp] theorem ofO_s (b : Bool) : ofO M (some b) = .ok (.bl b) M := rfl
@[simp] theorem eqM_int (i j : Int) : eqM M (.int i) (.int j) = some (i == j) := rfl
@[simp] theorem eqM_str (i : Str) : eqM M (.str i) (.str i) = some true := by
  show some (decide (i = i)) = _
  rw [decide_eq_true rfl]
@[simp] theorem ixL {xs : List MV} {p : Nat} {x : MV} (i : Int) (h : M[p]? = some xs) (h2 : L2.atI xs i = some x) : idxop (.lst p) (.int i) M = .ok x M := by
  simp [idxop, itemsL, h, h2]
@[simp] theorem ixT0 (a : MV) (xs : List MV) : idxop (.tup (a :: xs)) (.int 0) M = .ok a M := by
  simp [idxop, L2.atI, L2.ixN]
@[simp] theorem ixT1 (a b : MV) (xs : List MV) : idxop (.tup (a :: b :: xs)) (.int 1) M = .ok b M := by
  have : ((1 : Int) < (xs.length : Int) + 1 + 1) := by omega
  simp [idxop, L2.atI, L2.ixN, this]
@[simp] theorem ixT2 (a b c : MV) (xs : List MV) : idxop (.tup (a :: b :: c :: xs)) (.int 2) M = .ok c M := by
  have : ((2 : Int) < (xs.length : Int) + 1 + 1 + 1) := by omega
  simp [idxop, L2.atI, L2.ixN, this]
@[simp] theorem b_abs (i : Int) : btop .abs [.int i] M = .ok (.int (i.natAbs : Int)) M := by
  have e : (if i < 0 then -i else i) = (i.natAbs : Int) := by
    split <;> omega
  rw [← e]
  rfl
@[simp] theorem b_int (i : Int) : btop .int [.int i] M = .ok (.int i) M := rfl
@[simp] theorem b_lenT (xs : List MV) : btop .len [.tup xs] M = .ok (.int xs.length) M := rfl
@[simp] theorem b_lenL {xs : List MV} {p : Nat} (h : M[p]? = some xs) : btop .len [.lst p] M = .ok (.int xs.length) M := by
  simp [btop, lenM, h]
@[simp] theorem p_put {p : Nat} {xs : List MV} {i : Int} {j : Nat} {v : MV} (h : M[p]? = some xs) (h2 : L2.ixN xs.length i = some j) : putop (.lst p) (.int i) v M = .ok () (M.set p (xs.set j v)) := by
  simp [putop, h, h2]
@[simp] theorem p_get {p : Nat} {xs : List MV} {i : Int} {v : MV} (h : M[p]? = some xs) (h2 : 0 ≤ i ∧ i < 1000000) (h3 : xs[i.toNat]? = some v) : getop (.lst p) (.int i) M = .ok v M := by
  simp [getop, h, h2, h3]
@[simp] theorem a_add (i j : Int) : augop .add (.int i) (.int j) M = .ok (.int (i + j)) M := rfl
@[simp] theorem a_sub (i j : Int) : augop .sub (.int i) (.int j) M = .ok (.int (i - j)) M := rfl
@[simp] theorem p_app {p : Nat} {xs : List MV} {v : MV} (h : M[p]? = some xs) (h2 : xs.length < lim) : mtop .append (.lst p) [v] M = .ok .non (M.set p (xs ++ [v])) := by
  simp [mtop, h, h2]
end
@[simp] def tyNo : Ty → Nat
  | .int => 0
  | .bool => 1
  | .str => 2
  | .list => 3
  | .tuple => 4
  | .dict => 5
@[simp] theorem ty_beq (a b : Ty) : (a == b) = (tyNo a == tyNo b) := by cases a <;> cases b <;> rfl
theorem fin_cons {C : Cf} {m m' : Sl} {M M1 : MH} {s : S} {ss : Ss} {X : Re MV} (h : ex C s m M = .ok (.nx, m') M1) (k : (exs C ss m' M1).fin = X) : (exs C (.cons s ss) m M).fin = X := by
  rw [s_cons, h, bnd_ok_, k_nx]
  exact k
theorem fin_ret {C : Cf} {m m' : Sl} {M M1 : MH} {s : S} {ss : Ss} {v : MV} (h : ex C s m M = .ok (.rt v, m') M1) : (exs C (.cons s ss) m M).fin = .ok v M1 := by
  rw [s_cons, h, bnd_ok_, k_rt]
  rfl
theorem mul_l2 {M : MH} {a : Nat} {v : MV} (h : M[a]? = some [v]) : binop .mul (.lst a) (.int 2) M = newL [v, v] M := by
  simp [binop, h, lim, List.replicate]
theorem tgN (i : Nat) (v : MV) (m : Sl) : Tg.set (.nm i) v m = some (m.set i (some v)) := rfl
theorem tg2 (i j : Nat) (u v : MV) (m : Sl) : Tg.set (.tp [i, j]) (.tup [u, v]) m = some ((m.set i (some u)).set j (some v)) := rfl

/-! ### heaps that grow -/
/-- everything but the list p stands -/
structure Ext (p : Nat) (M M' : MH) : Prop where
  le : M.length ≤ M'.length
  at_ : ∀ j, j ≠ p → j < M.length → M'[j]? = M[j]?
def App (M M' : MH) : Prop := ∃ X, M' = M ++ X
theorem App.refl {M : MH} : App M M := ⟨[], (List.append_nil M).symm⟩
theorem App.trans {M M1 M2 : MH} (h : App M M1) (k : App M1 M2) : App M M2 := by
  obtain ⟨X, rfl⟩ := h
  obtain ⟨Y, rfl⟩ := k
  exact ⟨X ++ Y, List.append_assoc ..⟩
theorem App.one {M : MH} {xs : List MV} : App M (M ++ [xs]) := ⟨[xs], rfl⟩
theorem App.get {M M' : MH} {j : Nat} {xs : List MV} (h : App M M') (e : M[j]? = some xs) : M'[j]? = some xs := by
  obtain ⟨X, rfl⟩ := h
  rw [List.getElem?_append_left (List.getElem?_eq_some_iff.mp e).1]
  exact e
theorem App.ext {M M' : MH} {p : Nat} (h : App M M') : Ext p M M' := by
  obtain ⟨X, rfl⟩ := h
  refine ⟨by simp, fun j _ hj => List.getElem?_append_left hj⟩
theorem Ext.refl {p : Nat} {M : MH} : Ext p M M := ⟨Nat.le_refl _, fun _ _ _ => rfl⟩
theorem Ext.trans {p : Nat} {M M1 M2 : MH} (h : Ext p M M1) (k : Ext p M1 M2) : Ext p M M2 :=
  ⟨Nat.le_trans h.le k.le, fun j hj hl => (k.at_ j hj (Nat.lt_of_lt_of_le hl h.le)).trans (h.at_ j hj hl)⟩
theorem Ext.get {p : Nat} {M M' : MH} {j : Nat} {xs : List MV} (h : Ext p M M') (hj : j ≠ p) (e : M[j]? = some xs) : M'[j]? = some xs :=
  (h.at_ j hj (List.getElem?_eq_some_iff.mp e).1).trans e
theorem Ext.set {p : Nat} {M : MH} {xs : List MV} : Ext p M (M.set p xs) :=
  ⟨by simp, fun j hj _ => List.getElem?_set_ne (Ne.symm hj)⟩
theorem get_new {M : MH} {xs : List MV} : (M ++ [xs])[M.length]? = some xs := by simp
theorem get_set {M : MH} {p : Nat} {xs ys : List MV} (h : M[p]? = some ys) : (M.set p xs)[p]? = some xs :=
  List.getElem?_set_self (List.getElem?_eq_some_iff.mp h).1

/-! ### the purse of draws -/
/-- the purse at p (its great cells at g), drawn from less than d times -/
structure Purse (p g d : Nat) (M : MH) : Prop where
  ne : p ≠ g
  ex : ∃ (xs : List Int) (i c : Nat) (b s : Int), M[p]? = some [.lst g, .int i, .int b, .int c, .int s] ∧ M[g]? = some (xs.map MV.int) ∧ c ≤ d ∧ 0 ≤ s ∧ s < 2147483647
theorem Purse.mono {p g d d' : Nat} {M : MH} (h : Purse p g d M) (hd : d ≤ d') : Purse p g d' M := by
  obtain ⟨xs, i, c, b, s, h1, h2, h3, h4⟩ := h.ex
  exact ⟨h.ne, xs, i, c, b, s, h1, h2, Nat.le_trans h3 hd, h4⟩
theorem Purse.app {p g d : Nat} {M M' : MH} (h : Purse p g d M) (e : App M M') : Purse p g d M' := by
  obtain ⟨xs, i, c, b, s, h1, h2, h3⟩ := h.ex
  exact ⟨h.ne, xs, i, c, b, s, e.get h1, e.get h2, h3⟩
theorem Purse.lt {p g d : Nat} {M : MH} (h : Purse p g d M) : p < M.length := by
  obtain ⟨xs, i, c, b, s, h1, _⟩ := h.ex
  exact (List.getElem?_eq_some_iff.mp h1).1
def bDraw : Ss :=
    (.cons (.iff (.and (.cmp .lt (.idx (.var 0) (.cst (.int 2))) (.var 1)) (.cmp .lt (.idx (.var 0) (.cst (.int 1))) (.blt .len (.cons (.idx (.var 0) (.cst (.int 0))) .nil))))
      (.cons (.put (.var 0) (.cst (.int 2)) (.idx (.idx (.var 0) (.cst (.int 0))) (.idx (.var 0) (.cst (.int 1)))))
      (.cons (.agi (.var 0) (.cst (.int 1)) .add (.cst (.int 1))) .nil)) .nil)
    (.cons (.iff (.cmp .ge (.idx (.var 0) (.cst (.int 2))) (.var 1))
      (.cons (.asg (.nm 2) (.bin .mod (.blt .int (.cons (.idx (.var 0) (.cst (.int 2))) .nil)) (.var 1)))
      (.cons (.put (.var 0) (.cst (.int 2)) (.bin .fdv (.idx (.var 0) (.cst (.int 2))) (.var 1)))
      (.cons (.ret (.var 2)) .nil))) .nil)
    (.cons (.agi (.var 0) (.cst (.int 3)) .add (.cst (.int 1)))
    (.cons (.asg (.nm 3) (.bin .mod (.blt .int (.cons (.bin .mul (.bin .add (.bin .mul (.idx (.var 0) (.cst (.int 3))) (.idx (.var 0) (.cst (.int 3)))) (.idx (.var 0) (.cst (.int 4)))) (.cst (.int 48271))) .nil)) (.cst (.int 2147483629))))
    (.cons (.ret (.bin .mod (.blt .int (.cons (.bin .mod (.blt .int (.cons (.bin .mul (.var 3) (.var 3)) .nil)) (.cst (.int 2147483587))) .nil)) (.var 1))) .nil)))))
theorem log_lt {i : Int} {k : Nat} (h : i.natAbs < 2 ^ k) (hk : 0 < k) : i.natAbs.log2 < k := by
  by_cases h0 : i.natAbs = 0
  · rw [h0]
    simpa using hk
  · exact (Nat.log2_lt h0).mpr h
theorem mul_b {i j : Int} {a b : Nat} (h : i.natAbs < 2 ^ a) (h2 : j.natAbs < 2 ^ b) (ha : 0 < a) (hb : 0 < b) (hab : a + b ≤ 1000000) : i.natAbs.log2 + j.natAbs.log2 < 1000000 := by
  have := log_lt h ha
  have := log_lt h2 hb
  omega
/-- a draw of many -/
theorem draw_ok {P : Pg} {iD n p g d : Nat} {k : Int} {M : MH} (hf : IsD P iD 2 4 bDraw) (hp : Purse p g d M) (hd : d < 1000000) (k0 : 0 < k) (kl : k.natAbs.log2 < 9000) :
    ∃ t M', run P (n + 1) iD [.lst p, .int k] M = .ok (.int t) M' ∧ 0 ≤ t ∧ t < k ∧ Purse p g (d + 1) M' ∧ Ext p M M' ∧ M'.length = M.length := by
  obtain ⟨xs, i, c, b, s, h, hg, hc, s0, s1⟩ := hp.ex
  have kz : k ≠ 0 := by omega
  rw [hf.go rfl]
  -- the second half
  have half : ∀ (N : MH) (i : Int) (b : Int), N[p]? = some [.lst g, .int i, .int b, .int c, .int s] → ∃ (t : Int) (m' : Sl) (b' c' : Int), exs (cfg P n) (.cons (.iff (.cmp .ge (.idx (.var 0) (.cst (.int 2))) (.var 1))
      (.cons (.asg (.nm 2) (.bin .mod (.blt .int (.cons (.idx (.var 0) (.cst (.int 2))) .nil)) (.var 1)))
      (.cons (.put (.var 0) (.cst (.int 2)) (.bin .fdv (.idx (.var 0) (.cst (.int 2))) (.var 1)))
      (.cons (.ret (.var 2)) .nil))) .nil)
    (.cons (.agi (.var 0) (.cst (.int 3)) .add (.cst (.int 1)))
    (.cons (.asg (.nm 3) (.bin .mod (.blt .int (.cons (.bin .mul (.bin .add (.bin .mul (.idx (.var 0) (.cst (.int 3))) (.idx (.var 0) (.cst (.int 3)))) (.idx (.var 0) (.cst (.int 4)))) (.cst (.int 48271))) .nil)) (.cst (.int 2147483629))))
    (.cons (.ret (.bin .mod (.blt .int (.cons (.bin .mod (.blt .int (.cons (.bin .mul (.var 3) (.var 3)) .nil)) (.cst (.int 2147483587))) .nil)) (.var 1))) .nil)))) [some (.lst p), some (.int k), none, none] N = .ok (.rt (.int t), m') (N.set p [.lst g, .int i, .int b', .int c', .int s]) ∧ 0 ≤ t ∧ t < k ∧ 0 ≤ c' ∧ c' ≤ d + 1 := by
    intro N i b h
    have e2 : L2.atI [MV.lst g, .int i, .int b, .int c, .int s] 2 = some (.int b) := rfl
    have x2 : L2.ixN 5 2 = some 2 := rfl
    have x3 : L2.ixN 5 3 = some 3 := rfl
    by_cases hb : b < k
    · have h' : (N.set p [.lst g, .int i, .int b, .int (c + 1), .int s])[p]? = some [.lst g, .int i, .int b, .int (c + 1), .int s] := get_set h
      have e3 : L2.atI [MV.lst g, .int i, .int b, .int (c + 1), .int s] 3 = some (.int (c + 1)) := rfl
      have e4 : L2.atI [MV.lst g, .int i, .int b, .int (c + 1), .int s] 4 = some (.int s) := rfl
      have b1 : ((c : Int) + 1).natAbs < 2 ^ 20 := by omega
      have m1 := mul_b b1 b1 (by omega) (by omega) (by omega)
      have hcc : ((c : Int) + 1) * ((c : Int) + 1) ≤ 1000001 * 1000001 := Int.mul_le_mul (by omega) (by omega) (by omega) (by omega)
      have hc0 : (0 : Int) ≤ ((c : Int) + 1) * ((c : Int) + 1) := Int.mul_nonneg (by omega) (by omega)
      have m2 := mul_b (i := ((c : Int) + 1) * ((c : Int) + 1) + s) (j := 48271) (a := 50) (b := 20) (by omega) (by decide) (by omega) (by omega) (by omega)
      have r0 := Int.fmod_nonneg_of_pos ((((c : Int) + 1) * ((c : Int) + 1) + s) * 48271) (show (0 : Int) < 2147483629 by decide)
      have r1 := Int.fmod_lt_of_pos ((((c : Int) + 1) * ((c : Int) + 1) + s) * 48271) (show (0 : Int) < 2147483629 by decide)
      generalize hz : ((((c : Int) + 1) * ((c : Int) + 1) + s) * 48271).fmod 2147483629 = z at r0 r1
      have b2 : z.natAbs < 2 ^ 32 := by omega
      have m3 := mul_b b2 b2 (by omega) (by omega) (by omega)
      refine ⟨((z * z).fmod 2147483587).fmod k, ?_⟩
      have hb2 : ¬ k ≤ b := by omega
      have t3 : (0 : Int) ≤ 3 ∧ (3 : Int) < 1000000 := by decide
      have y3 : [MV.lst g, .int i, .int b, .int c, .int s][(3 : Int).toNat]? = some (.int c) := rfl
      refine ⟨?_, b, c + 1, ?_, Int.fmod_nonneg_of_pos _ k0, Int.fmod_lt_of_pos _ k0, by omega, by omega⟩
      rotate_left
      · simp [h, ixL (i := 2) N h e2, hb2, o_mod _ kz, p_put N h x3, p_get N h t3 y3, ixL (i := 3) _ h' e3, ixL (i := 4) _ h' e4, o_mul _ m1, o_mul _ m2, o_mul _ m3, o_mod _ (show (2147483629 : Int) ≠ 0 by decide), o_mod _ (show (2147483587 : Int) ≠ 0 by decide), hz]
        rfl
    · refine ⟨b.fmod k, ?_, b.fdiv k, c, ?_, Int.fmod_nonneg_of_pos _ k0, Int.fmod_lt_of_pos _ k0, by omega, by omega⟩
      rotate_left
      · simp [h, ixL (i := 2) N h e2, Int.not_lt.mp hb, o_mod _ kz, o_fdv _ kz kl, p_put N h x2]
        rfl
  have fin : ∀ (N : MH) (i : Nat) (b : Int), N[p]? = some [.lst g, .int i, .int b, .int c, .int s] → Ext p M N → N.length = M.length → exs (cfg P n) bDraw ([MV.lst p, .int k].map some ++ List.replicate (4 - 2) none) M = exs (cfg P n) (.cons (.iff (.cmp .ge (.idx (.var 0) (.cst (.int 2))) (.var 1))
      (.cons (.asg (.nm 2) (.bin .mod (.blt .int (.cons (.idx (.var 0) (.cst (.int 2))) .nil)) (.var 1)))
      (.cons (.put (.var 0) (.cst (.int 2)) (.bin .fdv (.idx (.var 0) (.cst (.int 2))) (.var 1)))
      (.cons (.ret (.var 2)) .nil))) .nil)
    (.cons (.agi (.var 0) (.cst (.int 3)) .add (.cst (.int 1)))
    (.cons (.asg (.nm 3) (.bin .mod (.blt .int (.cons (.bin .mul (.bin .add (.bin .mul (.idx (.var 0) (.cst (.int 3))) (.idx (.var 0) (.cst (.int 3)))) (.idx (.var 0) (.cst (.int 4)))) (.cst (.int 48271))) .nil)) (.cst (.int 2147483629))))
    (.cons (.ret (.bin .mod (.blt .int (.cons (.bin .mod (.blt .int (.cons (.bin .mul (.var 3) (.var 3)) .nil)) (.cst (.int 2147483587))) .nil)) (.var 1))) .nil)))) [some (.lst p), some (.int k), none, none] N →
      ∃ t M', (exs (cfg P n) bDraw ([MV.lst p, .int k].map some ++ List.replicate (4 - 2) none) M).fin = .ok (.int t) M' ∧ 0 ≤ t ∧ t < k ∧ Purse p g (d + 1) M' ∧ Ext p M M' ∧ M'.length = M.length := by
    intro N i b hN hE hL e
    obtain ⟨t, m', b', c', h1, h2, h3, h4, h5⟩ := half N i b hN
    refine ⟨t, N.set p [.lst g, .int i, .int b', .int c', .int s], ?_, h2, h3, ⟨hp.ne, xs, i, c'.toNat, b', s, ?_, ?_, by omega, s0, s1⟩, hE.trans Ext.set, by simp [hL]⟩
    · rw [e, h1, fin_rt]
    · have : ((c'.toNat : Nat) : Int) = c' := by omega
      rw [get_set hN, this]
    · rw [List.getElem?_set_ne hp.ne]
      exact hE.get (Ne.symm hp.ne) hg
  have e0 : L2.atI [MV.lst g, .int i, .int b, .int c, .int s] 0 = some (.lst g) := rfl
  have e1 : L2.atI [MV.lst g, .int i, .int b, .int c, .int s] 1 = some (.int i) := rfl
  have e2 : L2.atI [MV.lst g, .int i, .int b, .int c, .int s] 2 = some (.int b) := rfl
  have x2 : L2.ixN 5 2 = some 2 := rfl
  have x1 : L2.ixN 5 1 = some 1 := rfl
  by_cases hb : b < k
  · by_cases hi : i < xs.length
    · have ei : L2.atI (xs.map MV.int) (i : Int) = some (.int xs[i]) := by
        unfold L2.atI L2.ixN
        simp [hi]
      have h' : (M.set p [.lst g, .int i, .int xs[i], .int c, .int s])[p]? = some [.lst g, .int i, .int xs[i], .int c, .int s] := get_set h
      have t1 : (0 : Int) ≤ 1 ∧ (1 : Int) < 1000000 := by decide
      have y1 : [MV.lst g, .int i, .int xs[i], .int c, .int s][(1 : Int).toNat]? = some (.int i) := rfl
      have h'' : ((M.set p [.lst g, .int i, .int xs[i], .int c, .int s]).set p [.lst g, .int (i + 1), .int xs[i], .int c, .int s])[p]? = some [.lst g, .int (i + 1), .int xs[i], .int c, .int s] := get_set h'
      refine fin _ (i + 1) xs[i] h'' (Ext.set.trans Ext.set) (by simp) ?_
      simp [bDraw, h, ixL (i := 2) M h e2, ixL (i := 1) M h e1, ixL (i := 0) M h e0, hb, b_lenL M hg, hi, ixL (i := (i : Int)) M hg ei, p_put M h x2, p_get _ h' t1 y1, p_put _ h' x1]
    · refine fin M i b h Ext.refl rfl ?_
      have hi' : ¬ ((i : Int) < xs.length) := by omega
      simp only [bDraw, List.map_cons, List.map_nil, List.replicate, List.cons_append, List.nil_append, s_cons, s_iff, e_and, e_cmp, e_idx, e_var, e_cst, k_op, kvr_s, bnd_ok_, ixL (i := 2) M h e2, ixL (i := 1) M h e1, ixL (i := 0) M h e0, o_lt, hb, decide_true, k_andt, e_blt, es_cons, es_nil, k_cons, k_cn, b_lenL M hg, List.length_map, hi', decide_false, k_iff, s_nil, k_nx,
        List.getElem?_cons_zero, List.getElem?_cons_succ]
  · refine fin M i b h Ext.refl rfl ?_
    simp only [bDraw, List.map_cons, List.map_nil, List.replicate, List.cons_append, List.nil_append, s_cons, s_iff, e_and, e_cmp, e_idx, e_var, e_cst, k_op, kvr_s, bnd_ok_, ixL (i := 2) M h e2, ixL (i := 1) M h e1, ixL (i := 0) M h e0, o_lt, hb, decide_false, k_andf, k_iff, s_nil, k_nx,
        List.getElem?_cons_zero, List.getElem?_cons_succ]
end MP

set_option Elab.async false
set_option linter.all false
set_option maxRecDepth 100000
set_option autoImplicit false
set_option maxHeartbeats 4000000
/-! MP, part m: loops; fractions. -/
namespace MP
open PySem

/-! ### loops -/
theorem comL_inv {s : Src} {f : MV → MH → Re (Option MV)} {N : Nat} (inv : Nat → List MV → MH → Prop)
    (step : ∀ i acc M, i < N → inv i acc M → s.stop M i = false ∧ ∃ x o M', s.item M i = some x ∧ f x M = .ok o M' ∧ acc.length < lim ∧ inv (i + 1) (acc ++ o.toList) M')
    (stop : ∀ acc M, inv N acc M → s.stop M N = true) : ∀ (k i : Nat) (acc : List MV) (M : MH), N < k + i → i ≤ N → inv i acc M → ∃ acc' M', comL s f k i acc M = .ok acc' M' ∧ inv N acc' M'
  | 0, i, acc, M, h1, h2, _ => by omega
  | k + 1, i, acc, M, h1, h2, h => by
    by_cases hi : i < N
    · obtain ⟨e1, x, o, M', e2, e3, e4, e5⟩ := step i acc M hi h
      obtain ⟨acc', M'', r1, r2⟩ := comL_inv inv step stop k (i + 1) (acc ++ o.toList) M' (by omega) (by omega) e5
      refine ⟨acc', M'', ?_, r2⟩
      unfold comL
      rw [e1, e2]
      simp only [Bool.false_eq_true, if_false, e3, bnd_ok_]
      cases o with
      | none =>
        simp only [Option.toList_none, List.append_nil] at r1
        exact r1
      | some y =>
        simp only [Option.toList_some] at r1
        simp only
        rw [if_pos e4]
        exact r1
    · have e : i = N := by omega
      subst e
      refine ⟨acc, M, ?_, h⟩
      unfold comL
      rw [stop acc M h, if_pos rfl]
theorem forL_inv {s : Src} {f : MV → Sl → MH → Re (Fl × Sl)} {N : Nat} (inv : Nat → Sl → MH → Prop)
    (step : ∀ i m M, i < N → inv i m M → s.stop M i = false ∧ ∃ x m' M', s.item M i = some x ∧ f x m M = .ok (.nx, m') M' ∧ inv (i + 1) m' M')
    (stop : ∀ m M, inv N m M → s.stop M N = true) : ∀ (k i : Nat) (m : Sl) (M : MH), N < k + i → i ≤ N → inv i m M → ∃ m' M', forL s f k i m M = .ok (.nx, m') M' ∧ inv N m' M'
  | 0, i, m, M, h1, h2, _ => by omega
  | k + 1, i, m, M, h1, h2, h => by
    by_cases hi : i < N
    · obtain ⟨e1, x, m', M', e2, e3, e5⟩ := step i m M hi h
      obtain ⟨m'', M'', r1, r2⟩ := forL_inv inv step stop k (i + 1) m' M' (by omega) (by omega) e5
      refine ⟨m'', M'', ?_, r2⟩
      unfold forL
      rw [e1, e2]
      simp only [Bool.false_eq_true, if_false, e3, bnd_ok_]
      exact r1
    · have e : i = N := by omega
      subst e
      refine ⟨m, M, ?_, h⟩
      unfold forL
      rw [stop m M h, if_pos rfl]
section
variable {c : Sl → MH → Re MV} {f : Sl → MH → Re (Fl × Sl)} {k : Nat} {m m' : Sl} {M M1 M2 : MH}
theorem whl_f (h : c m M = .ok (.bl false) M1) : whlL c f (k + 1) m M = .ok (.nx, m) M1 := by
  unfold whlL
  rw [h]
  rfl
theorem whl_t (h : c m M = .ok (.bl true) M1) (h2 : f m M1 = .ok (.nx, m') M2) : whlL c f (k + 1) m M = whlL c f k m' M2 := by
  rw [whlL, h]
  simp only [bnd_ok_, h2]
theorem whl_b (h : c m M = .ok (.bl true) M1) (h2 : f m M1 = .ok (.bk, m') M2) : whlL c f (k + 1) m M = .ok (.nx, m') M2 := by
  rw [whlL, h]
  simp only [bnd_ok_, h2]
end
@[simp] theorem r_rg1 {M : MH} (j : Int) (h : -1000000 ≤ j ∧ j ≤ 1000000) : krg1 (.int j) M = .ok (.rg 0 j.toNat) M := if_pos h
theorem rg_stop (M : MH) (lo : Int) (n i : Nat) : (Src.rg lo n).stop M i = decide (n ≤ i) := rfl
theorem rg_item (M : MH) (lo : Int) {n i : Nat} (h : i < n) : (Src.rg lo n).item M i = some (.int (lo + i)) := if_pos h
theorem tp_stop (M : MH) (xs : List MV) (i : Nat) : (Src.tp xs).stop M i = decide (xs.length ≤ i) := rfl
theorem tp_item (M : MH) (xs : List MV) (i : Nat) : (Src.tp xs).item M i = xs[i]? := rfl
theorem ls_stop {M : MH} {p i : Nat} {xs : List MV} (h : M[p]? = some xs) : (Src.ls (.lst p)).stop M i = decide (xs.length ≤ i) := by
  simp [Src.stop, itemsL, h]
theorem ls_item {M : MH} {p i : Nat} {xs : List MV} (h : M[p]? = some xs) : (Src.ls (.lst p)).item M i = xs[i]? := by
  simp [Src.item, itemsL, h]
theorem seqL {M : MH} {p : Nat} {xs : List MV} (h : M[p]? = some xs) : kseq (.lst p) M = .ok (.ls (.lst p)) M := by
  simp [kseq, srcOf, itemsL, h]
theorem seqT {M : MH} {xs : List MV} : kseq (.tup xs) M = .ok (.tp xs) M := rfl

/-! ### the greatest common divisor -/
theorem fmod_nat (x y : Nat) : Int.fmod (x : Int) (y : Int) = ((x % y : Nat) : Int) := by
  rw [Int.fmod_eq_emod_of_nonneg _ (Int.natCast_nonneg y)]
  exact (Int.natCast_emod x y).symm
theorem fdiv_nat (x y : Nat) : Int.fdiv (x : Int) (y : Int) = ((x / y : Nat) : Int) := by
  rw [Int.fdiv_eq_ediv_of_nonneg _ (Int.natCast_nonneg y)]
  exact (Int.natCast_ediv x y).symm
/-- two numbers taken one from another until nothing is left -/
theorem gcd_whl {c : Sl → MH → Re MV} {f : Sl → MH → Re (Fl × Sl)} {M : MH} (hc : ∀ x y : Nat, c [some (.int x), some (.int y)] M = .ok (.bl (decide (y ≠ 0))) M)
    (hf : ∀ x y : Nat, y ≠ 0 → f [some (.int x), some (.int y)] M = .ok (.nx, [some (.int y), some (.int (x % y : Nat))]) M) : ∀ (k j x y : Nat), y ≤ x → x * y < 2 ^ k → k < j → whlL c f j [some (.int x), some (.int y)] M = .ok (.nx, [some (.int (Nat.gcd x y)), some (.int 0)]) M
  | 0, j + 1, x, y, h1, h2, _ => by
    have y0 : y = 0 := by
      cases y with
      | zero => rfl
      | succ y =>
        have : 1 ≤ x * (y + 1) := Nat.mul_pos (by omega) (by omega)
        simp at h2
        omega
    subst y0
    rw [whl_f (hc x 0)]
    simp
  | k + 1, j + 1, x, y, h1, h2, h3 => by
    by_cases y0 : y = 0
    · subst y0
      rw [whl_f (hc x 0)]
      simp
    · have hlt := Nat.mod_lt x (Nat.pos_of_ne_zero y0)
      rw [whl_t (by rw [hc x y, decide_eq_true y0]) (hf x y y0), gcd_whl hc hf k j y (x % y) (by omega) ?_ (by omega)]
      · rw [Nat.gcd_comm x y, Nat.gcd_rec y x, Nat.gcd_comm y]
      · have h4 : 2 * (x % y) ≤ x := by
          have e := Nat.div_add_mod x y
          have : 1 ≤ x / y := Nat.div_pos h1 (Nat.pos_of_ne_zero y0)
          have : y ≤ y * (x / y) := Nat.le_mul_of_pos_right y this
          omega
        have h5 : 2 * (y * (x % y)) ≤ x * y := by
          calc 2 * (y * (x % y)) = y * (2 * (x % y)) := by rw [Nat.mul_left_comm]
            _ ≤ y * x := Nat.mul_le_mul_left y h4
            _ = x * y := Nat.mul_comm y x
        rw [Nat.pow_succ] at h2
        omega
theorem gcd_whl' {c : Sl → MH → Re MV} {f : Sl → MH → Re (Fl × Sl)} {M : MH} (hc : ∀ x y : Nat, c [some (.int x), some (.int y)] M = .ok (.bl (decide (y ≠ 0))) M)
    (hf : ∀ x y : Nat, y ≠ 0 → f [some (.int x), some (.int y)] M = .ok (.nx, [some (.int y), some (.int (x % y : Nat))]) M) {k j x y : Nat} (h2 : x * y < 2 ^ k) (h : k + 1 < j) : whlL c f j [some (.int x), some (.int y)] M = .ok (.nx, [some (.int (Nat.gcd x y)), some (.int 0)]) M := by
  by_cases h1 : y ≤ x
  · exact gcd_whl hc hf k j x y h1 h2 (by omega)
  · obtain ⟨j, rfl⟩ : ∃ i, j = i + 1 := ⟨j - 1, by omega⟩
    have y0 : y ≠ 0 := by omega
    rw [whl_t (by rw [hc x y, decide_eq_true y0]) (hf x y y0), Nat.mod_eq_of_lt (by omega), gcd_whl hc hf k j y x (by omega) (by rw [Nat.mul_comm]; exact h2) (by omega), Nat.gcd_comm]
def bGcd : Ss :=
    (.cons (.whl (.cmp .ne (.var 1) (.cst (.int 0)))
      (.cons (.asg (.tp [0, 1]) (.tup (.cons (.var 1) (.cons (.bin .mod (.var 0) (.var 1)) .nil)))) .nil))
    (.cons (.ret (.var 0)) .nil))
def bGcdI : Ss :=
    (.cons (.whl (.cmp .ne (.var 1) (.cst (.int 0)))
      (.cons (.asg (.tp [0, 1]) (.tup (.cons (.var 1) (.cons (.bin .mod (.blt .int (.cons (.var 0) .nil)) (.var 1)) .nil)))) .nil))
    (.cons (.ret (.var 0)) .nil))
/-- less than a power of two -/
def Sz (k : Nat) (x : Int) : Prop := x.natAbs < 2 ^ k
theorem gcd_ok {P : Pg} {i n : Nat} {body : Ss} {M : MH} {a b : Int} (hf : IsD P i 2 2 body) (hb : body = bGcd ∨ body = bGcdI) (a0 : 0 ≤ a) (b0 : 0 ≤ b) (ha : Sz 4000 a) (hbz : Sz 4000 b) (hm : 10000 ≤ P.most) : run P (n + 1) i [.int a, .int b] M = .ok (.int (Int.gcd a b)) M := by
  obtain ⟨x, rfl⟩ : ∃ x : Nat, a = x := ⟨a.toNat, by omega⟩
  obtain ⟨y, rfl⟩ : ∃ x : Nat, b = x := ⟨b.toNat, by omega⟩
  have hxy : x * y < 2 ^ 8000 := by
    have h1 : x < 2 ^ 4000 := by simpa [Sz] using ha
    have h2 : y < 2 ^ 4000 := by simpa [Sz] using hbz
    have := Nat.mul_lt_mul'' h1 h2
    rw [← Nat.pow_add] at this
    exact this
  have hc : ∀ x y : Nat, wcon (cfg P n) (.cmp .ne (.var 1) (.cst (.int 0))) [some (.int x), some (.int y)] M = .ok (.bl (decide (y ≠ 0))) M := by
    intro x y
    unfold wcon
    simp
    by_cases hy : y = 0 <;> simp [hy]
  rw [hf.go rfl]
  rcases hb with rfl | rfl
  · have w := gcd_whl' (c := wcon (cfg P n) (.cmp .ne (.var 1) (.cst (.int 0)))) (f := wbod (cfg P n) (.cons (.asg (.tp [0, 1]) (.tup (.cons (.var 1) (.cons (.bin .mod (.var 0) (.var 1)) .nil)))) .nil)) hc (by
      intro x y hy
      have : (y : Int) ≠ 0 := by omega
      unfold wbod
      simp [o_mod _ this, fmod_nat]) hxy (show 8000 + 1 < P.most by omega)
    simp [bGcd, w]
  · have w := gcd_whl' (c := wcon (cfg P n) (.cmp .ne (.var 1) (.cst (.int 0)))) (f := wbod (cfg P n) (.cons (.asg (.tp [0, 1]) (.tup (.cons (.var 1) (.cons (.bin .mod (.blt .int (.cons (.var 0) .nil)) (.var 1)) .nil)))) .nil)) hc (by
      intro x y hy
      have : (y : Int) ≠ 0 := by omega
      unfold wbod
      simp [o_mod _ this, fmod_nat]) hxy (show 8000 + 1 < P.most by omega)
    simp [bGcdI, w]

/-! ### fractions -/
abbrev Fr := Int × Int
def Fr.mv (x : Fr) : MV := .tup [.int x.1, .int x.2]
/-- a/b, lowest, the under above nought -/
def nf (a b : Int) : Fr := if 0 < b then (a / (Int.gcd a b : Int), b / (Int.gcd a b : Int)) else (-a / (Int.gcd a b : Int), -b / (Int.gcd a b : Int))
/-- lowest, the under above nought, both less than 2 ^ k -/
structure Fk (k : Nat) (x : Fr) : Prop where
  top : Sz k x.1
  und : Sz k x.2
  pos : 0 < x.2
  low : Int.gcd x.1 x.2 = 1
theorem Sz.mono {k l : Nat} {x : Int} (h : Sz k x) (hl : k ≤ l) : Sz l x := Nat.lt_of_lt_of_le h (Nat.pow_le_pow_right (by omega) hl)
theorem Sz.mul {k l : Nat} {x y : Int} (h : Sz k x) (g : Sz l y) : Sz (k + l) (x * y) := by
  unfold Sz
  rw [Int.natAbs_mul, Nat.pow_add]
  exact Nat.mul_lt_mul'' h g
theorem Sz.add {k l j : Nat} {x y : Int} (h : Sz k x) (g : Sz l y) (hk : k < j) (hl : l < j) : Sz j (x + y) := by
  have h1 : Sz (j - 1) x := h.mono (by omega)
  have h2 : Sz (j - 1) y := g.mono (by omega)
  obtain ⟨i, rfl⟩ : ∃ i, j = i + 1 := ⟨j - 1, by omega⟩
  unfold Sz at *
  rw [Nat.pow_succ]
  simp only [Nat.add_sub_cancel] at h1 h2
  have := Int.natAbs_add_le x y
  omega
theorem Sz.neg {k : Nat} {x : Int} (h : Sz k x) : Sz k (-x) := by
  unfold Sz
  rw [Int.natAbs_neg]
  exact h
theorem Sz.sub {k l j : Nat} {x y : Int} (h : Sz k x) (g : Sz l y) (hk : k < j) (hl : l < j) : Sz j (x - y) := by
  rw [Int.sub_eq_add_neg]
  exact h.add g.neg hk hl
theorem Sz.div {k : Nat} {x : Int} {g : Nat} (h : Sz k x) (hg : (g : Int) ∣ x) : Sz k (x / g) := by
  unfold Sz at *
  rw [Int.natAbs_ediv_of_dvd hg]
  exact Nat.lt_of_le_of_lt (Nat.div_le_self _ _) h
theorem Sz.mulOk {k l : Nat} {x y : Int} (h : Sz k x) (g : Sz l y) (hk : k + l + 2 ≤ 1000000) : x.natAbs.log2 + y.natAbs.log2 < 1000000 :=
  mul_b (a := k + 1) (b := l + 1) (h.mono (by omega)) (g.mono (by omega)) (by omega) (by omega) (by omega)
theorem Sz.fdvOk {k : Nat} {x : Int} (h : Sz k x) (hk : k < 9000) : x.natAbs.log2 < 9000 := by
  have := log_lt (k := k + 1) (h.mono (by omega)) (by omega)
  omega
theorem nf_dvd {a b : Int} : ((Int.gcd a b : Nat) : Int) ∣ a ∧ ((Int.gcd a b : Nat) : Int) ∣ b := ⟨Int.gcd_dvd_left .., Int.gcd_dvd_right ..⟩
theorem nf_fk {k : Nat} {a b : Int} (hb : b ≠ 0) (h1 : Sz k a) (h2 : Sz k b) : Fk k (nf a b) := by
  have hg : 0 < Int.gcd a b := Int.gcd_pos_of_ne_zero_right a hb
  obtain ⟨d1, d2⟩ := nf_dvd (a := a) (b := b)
  have d3 : ((Int.gcd a b : Nat) : Int) ∣ -a := Int.dvd_neg.mpr d1
  have d4 : ((Int.gcd a b : Nat) : Int) ∣ -b := Int.dvd_neg.mpr d2
  unfold nf
  split
  · rename_i h
    refine ⟨h1.div d1, h2.div d2, Int.ediv_pos_of_pos_of_dvd h (by omega) d2, ?_⟩
    exact Int.gcd_ediv_gcd_ediv_gcd hg
  · rename_i h
    refine ⟨h1.neg.div d3, h2.neg.div d4, Int.ediv_pos_of_pos_of_dvd (by omega) (by omega) d4, ?_⟩
    have e : Int.gcd a b = Int.gcd (-a) (-b) := by rw [Int.gcd_neg, Int.neg_gcd]
    simp only
    rw [e] at hg ⊢
    exact Int.gcd_ediv_gcd_ediv_gcd hg
/-- a lowest fraction stays -/
theorem nf_low {a b : Int} (hb : 0 < b) (h : Int.gcd a b = 1) : nf a b = (a, b) := by
  unfold nf
  rw [if_pos hb, h]
  simp
theorem nf_cross {a b : Int} : (nf a b).1 * b = (nf a b).2 * a := by
  obtain ⟨d1, d2⟩ := nf_dvd (a := a) (b := b)
  have h1 := Int.mul_ediv_cancel' d1
  have h2 := Int.mul_ediv_cancel' d2
  have h3 := Int.mul_ediv_cancel' (Int.dvd_neg.mpr d1)
  have h4 := Int.mul_ediv_cancel' (Int.dvd_neg.mpr d2)
  unfold nf
  generalize (Int.gcd a b : Int) = G at *
  split
  · show a / G * b = b / G * a
    calc a / G * b = a / G * (G * (b / G)) := by rw [h2]
      _ = b / G * (G * (a / G)) := by rw [Int.mul_left_comm, Int.mul_comm (a / G), ← Int.mul_assoc, Int.mul_comm G, Int.mul_assoc]
      _ = b / G * a := by rw [h1]
  · show -a / G * b = -b / G * a
    have e : -a / G * -b = -b / G * -a := by
      calc -a / G * -b = -a / G * (G * (-b / G)) := by rw [h4]
        _ = -b / G * (G * (-a / G)) := by rw [Int.mul_left_comm, Int.mul_comm (-a / G), ← Int.mul_assoc, Int.mul_comm G, Int.mul_assoc]
        _ = -b / G * -a := by rw [h3]
    rw [Int.mul_neg, Int.mul_neg] at e
    omega
theorem fdiv_pos_ex {a : Int} {G : Nat} (hG : 0 < G) : a.fdiv (G : Int) = a / (G : Int) := Int.fdiv_eq_ediv_of_nonneg _ (Int.natCast_nonneg G)
theorem fdiv_neg_ex {a : Int} {G : Nat} (hG : 0 < G) (h : (G : Int) ∣ a) : a.fdiv (-(G : Int)) = -a / (G : Int) := by
  obtain ⟨x, rfl⟩ := h
  have : ((G : Nat) : Int) ≠ 0 := by omega
  rw [show (G : Int) * x = (-(G : Int)) * (-x) by rw [Int.neg_mul_neg], Int.mul_fdiv_cancel_left _ (by omega), Int.neg_mul, Int.neg_neg, Int.mul_ediv_cancel_left _ this]
theorem neg_ediv_ex {a : Int} {G : Nat} (hG : 0 < G) (h : (G : Int) ∣ a) : 0 - a / (G : Int) = -a / (G : Int) := by
  obtain ⟨x, rfl⟩ := h
  have : ((G : Nat) : Int) ≠ 0 := by omega
  rw [Int.mul_ediv_cancel_left _ this, show -((G : Int) * x) = G * (-x) by rw [Int.mul_neg], Int.mul_ediv_cancel_left _ this]
  omega
/-- the def g reckons the greatest common divisor -/
structure GcdAt (P : Pg) (g : Nat) : Prop where
  arr : Arr P g 0 [.at 0, .at 1]
  run : ∀ n M (a b : Int), 0 ≤ a → 0 ≤ b → Sz 4000 a → Sz 4000 b → MP.run P (n + 1) g [.int a, .int b] M = .ok (.int (Int.gcd a b)) M
def bByLow (g : Nat) : Ss :=
    (.cons (.asg (.nm 2) (.cal g 0 (.cons (.blt .abs (.cons (.var 0) .nil)) (.cons (.blt .abs (.cons (.var 1) .nil)) .nil)) .nil))
    (.cons (.iff (.cmp .lt (.var 1) (.cst (.int 0)))
      (.cons (.asg (.nm 2) (.bin .sub (.cst (.int 0)) (.var 2))) .nil) .nil)
    (.cons (.ret (.tup (.cons (.bin .fdv (.var 0) (.var 2)) (.cons (.bin .fdv (.var 1) (.var 2)) .nil)))) .nil)))
def bLawBy (g : Nat) : Ss :=
    (.cons (.asg (.nm 2) (.cal g 0 (.cons (.blt .abs (.cons (.var 0) .nil)) (.cons (.blt .abs (.cons (.var 1) .nil)) .nil)) .nil))
    (.cons (.ret (.ife (.cmp .gt (.var 1) (.cst (.int 0))) (.tup (.cons (.bin .fdv (.var 0) (.var 2)) (.cons (.bin .fdv (.var 1) (.var 2)) .nil))) (.tup (.cons (.bin .sub (.cst (.int 0)) (.bin .fdv (.var 0) (.var 2))) (.cons (.bin .sub (.cst (.int 0)) (.bin .fdv (.var 1) (.var 2))) .nil))))) .nil))
theorem Sz.nat {k : Nat} {i : Int} (h : Sz k i) : Sz k (i.natAbs : Int) := by
  unfold Sz
  rw [Int.natAbs_natCast]
  exact h
theorem gcd_sz {k : Nat} {a b : Int} (hb : b ≠ 0) (h : Sz k b) : Sz k (Int.gcd a b : Int) := by
  unfold Sz at *
  rw [Int.natAbs_natCast]
  have := Nat.gcd_le_right a.natAbs (show 0 < b.natAbs by omega)
  exact Nat.lt_of_le_of_lt this h
section
variable {P : Pg} {i g n : Nat} {M : MH} {a b : Int}
theorem gcd_abs (G : GcdAt P g) (h1 : Sz 4000 a) (h2 : Sz 4000 b) : run P (n + 1) g [.int (a.natAbs : Int), .int (b.natAbs : Int)] M = .ok (.int (Int.gcd a b)) M := by
  rw [G.run n M _ _ (Int.natCast_nonneg _) (Int.natCast_nonneg _) h1.nat h2.nat]
  rfl
theorem byLow_ok (hf : IsD P i 2 3 (bByLow g)) (G : GcdAt P g) (hb : b ≠ 0) (h1 : Sz 4000 a) (h2 : Sz 4000 b) : run P (n + 2) i [.int a, .int b] M = .ok (nf a b).mv M := by
  have hg : 0 < Int.gcd a b := Int.gcd_pos_of_ne_zero_right a hb
  obtain ⟨d1, d2⟩ := nf_dvd (a := a) (b := b)
  have gs : Sz 4000 (Int.gcd a b : Int) := gcd_sz hb h2
  have gz : (Int.gcd a b : Int) ≠ 0 := by omega
  have gz' : -(Int.gcd a b : Int) ≠ 0 := by omega
  rw [hf.go rfl]
  unfold nf Fr.mv
  by_cases h : b < 0
  · have h' : ¬ 0 < b := by omega
    simp [bByLow, G.arr.cfg, argAt, gcd_abs G h1 h2, h, o_fdv M gz' (gs.neg.fdvOk (by omega)), fdiv_neg_ex hg d1, fdiv_neg_ex hg d2, h']
  · have h' : 0 < b := by omega
    simp [bByLow, G.arr.cfg, argAt, gcd_abs G h1 h2, h, o_fdv M gz (gs.fdvOk (by omega)), fdiv_pos_ex hg, h']
theorem lawBy_ok (hf : IsD P i 2 3 (bLawBy g)) (G : GcdAt P g) (hb : b ≠ 0) (h1 : Sz 4000 a) (h2 : Sz 4000 b) : run P (n + 2) i [.int a, .int b] M = .ok (nf a b).mv M := by
  have hg : 0 < Int.gcd a b := Int.gcd_pos_of_ne_zero_right a hb
  obtain ⟨d1, d2⟩ := nf_dvd (a := a) (b := b)
  have gs : Sz 4000 (Int.gcd a b : Int) := gcd_sz hb h2
  have gz : (Int.gcd a b : Int) ≠ 0 := by omega
  rw [hf.go rfl]
  unfold nf Fr.mv
  by_cases h : 0 < b
  · simp [bLawBy, G.arr.cfg, argAt, gcd_abs G h1 h2, h, o_fdv M gz (gs.fdvOk (by omega)), fdiv_pos_ex hg]
  · have e1 := neg_ediv_ex hg d1
    have e2 := neg_ediv_ex hg d2
    simp only [Int.zero_sub] at e1 e2
    simp [bLawBy, G.arr.cfg, argAt, gcd_abs G h1 h2, h, o_fdv M gz (gs.fdvOk (by omega)), fdiv_pos_ex hg, e1, e2]
end
end MP

set_option Elab.async false
set_option linter.all false
set_option maxRecDepth 100000
set_option autoImplicit false
set_option maxHeartbeats 4000000
/-! MP, part n: _law_same, _law_purse, _law_pick. -/
namespace MP
open PySem

/-! ### told is like due -/
def Like (M : MH) : Nat → MV → MV → Prop
  | 0, _, _ => False
  | n + 1, u, v => match v with
    | .non => u = .non
    | .bl b => u = .bl b
    | .int i => u = .int i
    | .tup vs => ∃ us, u = .tup us ∧ us.length = vs.length ∧ vs.length ≤ 1000 ∧ ∀ (i : Nat) (x y : MV), us[i]? = some x → vs[i]? = some y → Like M n x y
    | .lst b => ∃ a us vs, u = .lst a ∧ M[a]? = some us ∧ M[b]? = some vs ∧ us.length = vs.length ∧ vs.length ≤ 1000 ∧ ∀ (i : Nat) (x y : MV), us[i]? = some x → vs[i]? = some y → Like M n x y
    | _ => False
theorem Like.app {M M' : MH} (h : App M M') : ∀ (n : Nat) (u v : MV), Like M n u v → Like M' n u v
  | 0, _, _, e => e.elim
  | n + 1, u, v, e => by
    unfold Like at e ⊢
    cases v <;> first
      | exact e
      | skip
    · obtain ⟨us, e1, e2, e3, e4⟩ := e
      exact ⟨us, e1, e2, e3, fun i x y h1 h2 => Like.app h n x y (e4 i x y h1 h2)⟩
    · obtain ⟨a, us, vs, e1, e2, e3, e4, e5, e6⟩ := e
      exact ⟨a, us, vs, e1, h.get e2, h.get e3, e4, e5, fun i x y h1 h2 => Like.app h n x y (e6 i x y h1 h2)⟩
theorem Like.fr {M : MH} {n : Nat} (x : Fr) : Like M (n + 2) x.mv x.mv := by
  refine ⟨_, rfl, rfl, by simp, fun i u v h1 h2 => ?_⟩
  match i, h1, h2 with
  | 0, h1, h2 => cases h1; cases h2; rfl
  | 1, h1, h2 => cases h1; cases h2; rfl
  | i + 2, h1, h2 => simp at h1
theorem Like.mono {M : MH} : ∀ (n : Nat) (u v : MV), Like M n u v → Like M (n + 1) u v
  | 0, _, _, e => e.elim
  | n + 1, u, v, e => by
    unfold Like at e ⊢
    cases v <;> first
      | exact e
      | skip
    · obtain ⟨us, e1, e2, e3, e4⟩ := e
      exact ⟨us, e1, e2, e3, fun i x y h1 h2 => Like.mono n x y (e4 i x y h1 h2)⟩
    · obtain ⟨a, us, vs, e1, e2, e3, e4, e5, e6⟩ := e
      exact ⟨a, us, vs, e1, e2, e3, e4, e5, fun i x y h1 h2 => Like.mono n x y (e6 i x y h1 h2)⟩
def bSame (f : Nat) : Ss :=
    (.cons (.iff (.cmp .is (.var 1) (.cst (.non)))
      (.cons (.ret (.cmp .is (.var 0) (.cst (.non)))) .nil) .nil)
    (.cons (.iff (.cmp .is (.var 1) (.cst (.bl true)))
      (.cons (.ret (.cmp .is (.var 0) (.cst (.bl true)))) .nil) .nil)
    (.cons (.iff (.cmp .is (.var 1) (.cst (.bl false)))
      (.cons (.ret (.cmp .is (.var 0) (.cst (.bl false)))) .nil) .nil)
    (.cons (.iff (.isi (.var 1) [.list, .tuple] true)
      (.cons (.asg (.nm 2) (.ife (.isi (.var 1) [.list] false) (.isi (.var 0) [.list] false) (.isi (.var 0) [.tuple] false)))
      (.cons (.ret (.and (.var 2) (.and (.cmp .eq (.blt .len (.cons (.var 0) .nil)) (.blt .len (.cons (.var 1) .nil))) (.blt .all (.cons (.com (.tp [3, 4]) (.zip (.var 0) (.var 1)) none (.cal f 0 (.cons (.var 3) (.cons (.var 4) .nil)) .nil)) .nil))))) .nil)) .nil)
    (.cons (.iff (.isi (.var 1) [.int] false)
      (.cons (.ret (.and (.isi (.var 0) [.int] false) (.and (.not (.isi (.var 0) [.bool] false)) (.cmp .eq (.var 0) (.var 1))))) .nil) .nil)
    (.cons (.ret (.and (.isi (.var 0) [.str] false) (.cmp .eq (.var 0) (.var 1)))) .nil))))))
theorem boolsOf_rep : ∀ k : Nat, boolsOf (List.replicate k (.bl true)) = some (List.replicate k true)
  | 0 => rfl
  | k + 1 => by
    rw [List.replicate_succ, List.replicate_succ]
    unfold boolsOf
    rw [boolsOf_rep k]
    rfl
theorem all_rep {M : MH} {q k : Nat} (h : M[q]? = some (List.replicate k (.bl true))) : btop .all [.lst q] M = .ok (.bl true) M := by
  simp [btop, itemsL, h, boolsOf_rep]
theorem same_ok {P : Pg} {f : Nat} (hf : IsD P f 2 5 (bSame f)) (ha : Arr P f 0 [.at 0, .at 1]) (hm : 10000 ≤ P.most) : ∀ (d n : Nat) (M : MH) (u v : MV), Like M d u v → ∃ M', run P (n + d) f [u, v] M = .ok (.bl true) M' ∧ App M M'
  | 0, _, _, _, _, e => e.elim
  | d + 1, n, M, u, v, e => by
    rw [show n + (d + 1) = (n + d) + 1 from rfl, hf.go rfl]
    -- the parts, one by one
    have walk : ∀ (us vs : List MV) (s : Src) (N : MH) (m : Sl), us.length = vs.length → vs.length ≤ 1000 → (∀ (i : Nat) (x y : MV), us[i]? = some x → vs[i]? = some y → Like M d x y) → (∀ N, App M N → ∀ i, s.stop N i = decide (us.length ≤ i)) → (∀ N, App M N → ∀ (i : Nat) (x y : MV), us[i]? = some x → vs[i]? = some y → s.item N i = some (.tup [x, y])) → App M N →
        (∀ x y, (Tg.tp [3, 4]).set (.tup [x, y]) (wip m [3, 4]) = some [some u, some v, m[2]?.getD none, some x, some y]) →
        ∃ N', kcom (cfg P (n + d)) (.tp [3, 4]) none (.cal f 0 (.cons (.var 3) (.cons (.var 4) .nil)) .nil) m s N = .ok (.lst N'.length) (N' ++ [List.replicate us.length (.bl true)]) ∧ App M N' := by
      intro us vs s N m hl hv hlk hst hit hN hm'
      obtain ⟨acc, N', r1, r2, r3⟩ := comL_inv (s := s) (f := turn (cfg P (n + d)) (.tp [3, 4]) none (.cal f 0 (.cons (.var 3) (.cons (.var 4) .nil)) .nil) m) (N := us.length) (fun i acc N => App M N ∧ acc = List.replicate i (.bl true)) (by
          rintro i acc N hi ⟨hA, rfl⟩
          have h1 : us[i]? = some us[i] := List.getElem?_eq_getElem hi
          have h2 : vs[i]? = some vs[i] := List.getElem?_eq_getElem (by omega)
          obtain ⟨N2, q1, q2⟩ := same_ok hf ha hm d n N us[i] vs[i] (Like.app hA d _ _ (hlk i _ _ h1 h2))
          refine ⟨?_, .tup [us[i], vs[i]], some (.bl true), N2, hit N hA i _ _ h1 h2, ?_, ?_, hA.trans q2, ?_⟩
          · rw [hst N hA i]
            exact decide_eq_false (by omega)
          · unfold turn
            rw [show (Tg.tp [3, 4]).own = [3, 4] from rfl, hm']
            simp [ha.cfg, argAt, q1]
          · rw [List.length_replicate]
            unfold lim
            omega
          · rw [List.replicate_succ']
            rfl) (by
          rintro acc N ⟨hA, _⟩
          rw [hst N hA]
          exact decide_eq_true (Nat.le_refl _)) P.most 0 [] N (by omega) (by omega) ⟨hN, rfl⟩
      refine ⟨N', ?_, r2⟩
      unfold kcom
      rw [cfg_most, r1, r3]
      simp
    unfold Like at e
    cases v with
    | non =>
      subst e
      exact ⟨M, by simp [bSame, isM], App.refl⟩
    | bl b =>
      subst e
      refine ⟨M, ?_, App.refl⟩
      cases b <;> simp [bSame, isM]
    | int i =>
      subst e
      exact ⟨M, by simp [bSame, isM, isiM, tyOfM], App.refl⟩
    | tup vs =>
      obtain ⟨us, rfl, h1, h2, h3⟩ := e
      obtain ⟨N', w1, w2⟩ := walk us vs (.zt us vs) M [some (.tup us), some (.tup vs), some (.bl true), none, none] h1 h2 h3 (fun N _ i => by simp [Src.stop, h1]) (fun N _ i x y e1 e2 => by simp [Src.item, e1, e2]) App.refl (fun x y => rfl)
      refine ⟨N' ++ [List.replicate us.length (.bl true)], ?_, w2.trans App.one⟩
      simp [bSame, isM, isiM, tyOfM, h1, kzip, zipOf, w1, all_rep get_new]
    | lst b =>
      obtain ⟨a, us, vs, rfl, e1, e2, h1, h2, h3⟩ := e
      obtain ⟨N', w1, w2⟩ := walk us vs (.zl (.lst a) (.lst b)) M [some (.lst a), some (.lst b), some (.bl true), none, none] h1 h2 h3 (fun N hN i => by simp [Src.stop, itemsL, hN.get e1, hN.get e2, h1]) (fun N hN i x y q1 q2 => by simp [Src.item, itemsL, hN.get e1, hN.get e2, q1, q2]) App.refl (fun x y => rfl)
      refine ⟨N' ++ [List.replicate us.length (.bl true)], ?_, w2.trans App.one⟩
      simp [bSame, isM, isiM, tyOfM, h1, kzip, zipOf, itemsL, e1, e2, w1, all_rep get_new, b_lenL M e1, b_lenL M e2]
    | str s => exact e.elim
    | kls xs => exact e.elim
    | dct => exact e.elim

/-! ### picks -/
def bPick (iD : Nat) : Ss :=
    (.cons (.ret (.idx (.var 1) (.cal iD 0 (.cons (.var 0) (.cons (.blt .len (.cons (.var 1) .nil)) .nil)) .nil))) .nil)
theorem nat_log {n k : Nat} (h : n < 2 ^ k) (hk : 0 < k) : (n : Int).natAbs.log2 < k := log_lt (i := n) (by rw [Int.natAbs_natCast]; exact h) hk
theorem pick_ok {P : Pg} {iP iD n p g d q : Nat} {M : MH} {xs : List MV} (hf : IsD P iP 2 2 (bPick iD)) (hd : IsD P iD 2 4 bDraw) (ha : Arr P iD 0 [.at 0, .at 1]) (hp : Purse p g d M) (hdd : d < 1000000) (hq : M[q]? = some xs) (hqp : q ≠ p) (h0 : xs ≠ []) (hl : xs.length ≤ 1000) :
    ∃ x M', run P (n + 2) iP [.lst p, .lst q] M = .ok x M' ∧ x ∈ xs ∧ Purse p g (d + 1) M' ∧ Ext p M M' ∧ M'.length = M.length := by
  have hpos : 0 < xs.length := List.length_pos_iff.mpr h0
  obtain ⟨t, M', h1, h2, h3, h4, h5, h6⟩ := draw_ok (n := n) (k := (xs.length : Int)) hd hp hdd (by omega) (Nat.lt_of_lt_of_le (nat_log (k := 10) (by omega) (by omega)) (by omega))
  have ht : t.toNat < xs.length := by omega
  have e : L2.atI xs t = some xs[t.toNat] := by
    have h3' : t < xs.length := h3
    unfold L2.atI L2.ixN
    simp [h2, h3', ht]
  refine ⟨xs[t.toNat], M', ?_, List.getElem_mem ht, h4, h5, h6⟩
  rw [hf.go rfl]
  simp [bPick, b_lenL M hq, ha.cfg, argAt, h1, ixL M' t (h5.get hqp hq) e]

/-! ### the purse -/
def bPurse : Ss :=
    (.cons (.asg (.nm 1) (.cst (.int 7)))
    (.cons (.for (.nm 2) (.seq (.slc (.var 0) none (some (.cst (.int 63)))))
      (.cons (.asg (.nm 1) (.bin .mod (.blt .int (.cons (.bin .add (.bin .mul (.var 1) (.cst (.int 31))) (.var 2)) .nil)) (.cst (.int 2147483647)))) .nil))
    (.cons (.ret (.lst (.cons (.com (.nm 2) (.seq (.slc (.var 0) none (some (.cst (.int 63))))) (some (.cmp .ge (.var 2) (.bin .pow (.cst (.int 10)) (.cst (.int 18))))) (.var 2)) (.cons (.cst (.int 0)) (.cons (.cst (.int 0)) (.cons (.cst (.int 0)) (.cons (.var 1) .nil))))))) .nil)))
theorem slc_all {C : Cf} {m : Sl} {M : MH} {ns : List Int} (hl : ns.length ≤ 63) : kslc C none (some (.cst (.int 63))) m (.kls (ns.map .int)) M = .ok (.lst M.length) (M ++ [ns.map .int]) := by
  unfold kslc
  simp only [bnd_ok_, e_cst, asBnd, slcop, itemsL, newL, cutM]
  have e : (List.map MV.int ns).length = ns.length := List.length_map ..
  have e1 : HT.sIx (List.map MV.int ns).length 0 none = 0 := rfl
  have e2 : HT.sIx (List.map MV.int ns).length (List.map MV.int ns).length (some 63) = ns.length := by
    rw [e]
    unfold HT.sIx
    simp
    omega
  rw [e1, e2]
  have e3 : List.take (ns.length - 0) (List.drop 0 (List.map MV.int ns)) = List.map MV.int ns := by
    simp
    rw [← e, List.take_length]
  rw [e3]
theorem purse_ok {P : Pg} {iU n : Nat} {ns : List Int} (hf : IsD P iU 1 3 bPurse) (hm : 10000 ≤ P.most) (hl : ns.length ≤ 63) : ∃ p g M, run P (n + 1) iU [.kls (ns.map .int)] [] = .ok (.lst p) M ∧ Purse p g 0 M := by
  rw [hf.go rfl]
  -- the seed
  obtain ⟨m', M', w1, sd, w2, w3, w4, w5, w6⟩ := forL_inv (s := .ls (.lst 0)) (f := fturn (cfg P n) (.nm 2) (.cons (.asg (.nm 1) (.bin .mod (.blt .int (.cons (.bin .add (.bin .mul (.var 1) (.cst (.int 31))) (.var 2)) .nil)) (.cst (.int 2147483647)))) .nil)) (N := ns.length)
    (fun i m N => ∃ s x, m = [some (.kls (ns.map .int)), some (.int s), x] ∧ 0 ≤ s ∧ s < 2147483647 ∧ N = [ns.map .int]) (by
      rintro i m N hi ⟨s, x, rfl, h1, h2, rfl⟩
      have e : ([ns.map MV.int] : MH)[0]? = some (ns.map .int) := rfl
      have h3 : Sz 40 s := by unfold Sz; omega
      have m1 := h3.mulOk (y := 31) (l := 5) (by unfold Sz; decide) (by omega)
      refine ⟨?_, .int ns[i], [some (.kls (ns.map .int)), some (.int ((s * 31 + ns[i]).fmod 2147483647)), some (.int ns[i])], _, ?_, ?_, _, _, rfl, Int.fmod_nonneg_of_pos _ (by decide), Int.fmod_lt_of_pos _ (by decide), rfl⟩
      · rw [ls_stop e]
        exact decide_eq_false (by rw [List.length_map]; omega)
      · rw [ls_item e, List.getElem?_map, List.getElem?_eq_getElem hi]
        rfl
      · unfold fturn
        rw [tgN]
        simp [o_mul _ m1, o_mod _ (show (2147483647 : Int) ≠ 0 by decide)]) (by
      rintro m N ⟨s, x, rfl, h1, h2, rfl⟩
      have e : ([ns.map MV.int] : MH)[0]? = some (ns.map .int) := rfl
      rw [ls_stop e]
      exact decide_eq_true (by simp)) P.most 0 [some (.kls (ns.map .int)), some (.int 7), none] [ns.map .int] (by omega) (by omega) ⟨7, none, rfl, by decide, by decide, rfl⟩
  subst w3 w6
  obtain ⟨acc, M'', r1, r2, r3, xs, r4⟩ := comL_inv (s := .ls (.lst 1)) (f := turn (cfg P n) (.nm 2) (some (.cmp .ge (.var 2) (.bin .pow (.cst (.int 10)) (.cst (.int 18))))) (.var 2) [some (.kls (ns.map .int)), some (.int sd), w2]) (N := ns.length)
      (fun i acc N => N = [ns.map .int, ns.map .int] ∧ acc.length ≤ i ∧ ∃ xs : List Int, acc = xs.map .int) (by
      rintro i acc N hi ⟨rfl, h1, xs, rfl⟩
      have e : ([ns.map MV.int, ns.map MV.int] : MH)[1]? = some (ns.map .int) := rfl
      have hpow : (0 : Int) ≤ 18 ∧ (18 : Int) ≤ 1000 ∧ (10 : Int).natAbs < 2 ^ 64 := by decide
      refine ⟨?_, .int ns[i], if (10 : Int) ^ 18 ≤ ns[i] then some (.int ns[i]) else none, _, ?_, ?_, ?_, rfl, ?_, ?_⟩
      · rw [ls_stop e]
        exact decide_eq_false (by rw [List.length_map]; omega)
      · rw [ls_item e, List.getElem?_map, List.getElem?_eq_getElem hi]
        rfl
      · unfold turn
        rw [tgN]
        by_cases h : (10 : Int) ^ 18 ≤ ns[i]
        · simp at h
          simp [Tg.own, wip, o_pow _ hpow, h]
        · simp at h
          simp [Tg.own, wip, o_pow _ hpow, Int.not_le.mpr h]
      · unfold lim
        omega
      · split <;> simp <;> simp at h1 <;> omega
      · split
        · exact ⟨xs ++ [ns[i]], by simp⟩
        · exact ⟨xs, by simp⟩) (by
      rintro acc N ⟨rfl, h1, h2⟩
      have e : ([ns.map MV.int, ns.map MV.int] : MH)[1]? = some (ns.map .int) := rfl
      rw [ls_stop e]
      exact decide_eq_true (by simp)) P.most 0 [] [ns.map .int, ns.map .int] (by omega) (by omega) ⟨rfl, by simp, [], rfl⟩
  subst r2 r4
  refine ⟨3, 2, [ns.map .int, ns.map .int, xs.map .int, [.lst 2, .int (0 : Nat), .int 0, .int (0 : Nat), .int sd]], ?_, by decide, xs, 0, 0, 0, sd, rfl, rfl, by omega, w4, w5⟩
  have k1 := slc_all (C := cfg P n) (m := [some (.kls (ns.map .int)), some (.int 7), none]) (M := []) hl
  have k2 := slc_all (C := cfg P n) (m := [some (.kls (ns.map .int)), some (.int sd), w2]) (M := [ns.map .int]) hl
  simp only [List.length_nil, List.nil_append] at k1
  simp [bPurse, k1, seqL, kfor, w1, k2, kcom, r1]
end MP

set_option Elab.async false
set_option linter.all false
set_option maxRecDepth 100000
set_option autoImplicit false
set_option maxHeartbeats 4000000
/-! MP, part o: what repr shows. -/
namespace MP
open PySem

/-- data of small leaves -/
structure Rg (d : PyData) (w : Nat) : Prop where
  lv : d.leavesShort 3000 = true
  sh : d.showable = true
  nd : d.hasDict = false
  dp : d.depth ≤ 20
  wt : d.weight ≤ w
structure Rgs (ds : List PyData) (w : Nat) : Prop where
  lv : PyData.leavesShortAll 3000 ds = true
  sh : PyData.showableAll ds = true
  nd : PyData.hasDictAll ds = false
  dp : PyData.depthAll ds ≤ 19
  wt : PyData.weightAll ds ≤ w
theorem Rg.fits {d : PyData} {w : Nat} (h : Rg d w) (hw : w ≤ 5000) : d.shown.length ≤ sizeLine := by
  have e := PyData.shown_le 3000 (by decide) d h.lv
  have := h.wt
  rw [sizeLine_eq]
  omega
/-- the value's data, whatever the heap is grown by -/
def Rv (k : Nat) (M : MH) (v : MV) (w : Nat) : Prop := ∃ d, (∀ n M', k ≤ n → App M M' → pd n M' v = some d) ∧ d.depth + 1 ≤ k ∧ Rg d w
def Rvs (k : Nat) (M : MH) (vs : List MV) (w : Nat) : Prop := ∃ ds, (∀ n M', k ≤ n → App M M' → vs.mapM (pd n M') = some ds) ∧ PyData.depthAll ds + 1 ≤ k ∧ Rgs ds w
theorem pos_of {n : Nat} (h : 1 ≤ n) : ∃ m, n = m + 1 := ⟨n - 1, by omega⟩
theorem atom {M : MH} {v : MV} {d : PyData} {w : Nat} (h : ∀ n M', pd (n + 1) M' v = some d) (g : Rg d w) (h0 : d.depth = 0) : Rv 1 M v w := by
  refine ⟨d, fun n M' hn _ => ?_, by omega, g⟩
  obtain ⟨m, rfl⟩ := pos_of hn
  exact h m M'
theorem rv_non {M : MH} : Rv 1 M .non 0 := atom (fun _ _ => rfl) ⟨by simp [PyData.leavesShort], by simp [PyData.showable], by simp [PyData.hasDict], by simp [PyData.depth], by simp [PyData.weight]⟩ (by simp [PyData.depth])
theorem rv_bl {M : MH} (b : Bool) : Rv 1 M (.bl b) 0 := atom (fun _ _ => rfl) ⟨by simp [PyData.leavesShort], by simp [PyData.showable], by simp [PyData.hasDict], by simp [PyData.depth], by simp [PyData.weight]⟩ (by simp [PyData.depth])
theorem int_short {i : Int} {k : Nat} (h : Sz k i) (hk : k ≤ 1500) : (PyData.int i).leavesShort 3000 = true := by
  have := int_text_length_le (k := k + 1) (by omega) (log_lt (k := k + 1) (h.mono (by omega)) (by omega))
  have e : (PyData.int i).shown.length = (toString i).length := by
    simp only [PyData.shown]
    exact ofString_length _
  unfold PyData.leavesShort
  exact decide_eq_true (by rw [e]; omega)
theorem rv_int {M : MH} {i : Int} {k : Nat} (h : Sz k i) (hk : k ≤ 1500) : Rv 1 M (.int i) (k + 1) := by
  have hl := log_lt (k := k + 1) (h.mono (by omega)) (by omega)
  refine atom (fun _ _ => rfl) ⟨int_short h hk, ?_, by simp [PyData.hasDict], by simp [PyData.depth], ?_⟩ (by simp [PyData.depth])
  · simp only [PyData.showable, decide_eq_true_eq]
    omega
  · by_cases h0 : i = 0
    · subst h0
      simp [PyData.weight]
    · have hn : i.natAbs ≠ 0 := by omega
      have h2 : i.natAbs < 2 ^ k := h
      have h3 := (Nat.log2_lt hn).mpr h2
      simp only [PyData.weight]
      split <;> omega
theorem cps_small (s : String) : (Str.ofString s).cps.toList.all (fun c => decide (c < 16 ^ 8)) = true := by
  rw [List.all_eq_true]
  intro c hc
  rw [Str.ofString_eq_toList] at hc
  simp only [List.toList_toArray, List.mem_map] at hc
  obtain ⟨x, _, rfl⟩ := hc
  have h := x.val.toNat_lt
  exact decide_eq_true (show x.val.toNat < 16 ^ 8 by omega)
theorem rv_str {M : MH} (s : String) {k : Nat} (h : s.length ≤ k) : Rv 1 M (.str (Str.ofString s)) k := by
  refine atom (fun _ _ => rfl) ⟨?_, by simp [PyData.showable], by simp [PyData.hasDict], by simp [PyData.depth], ?_⟩ (by simp [PyData.depth])
  · simp only [PyData.leavesShort]
    exact cps_small s
  · simp only [PyData.weight]
    rw [show (Str.ofString s).cps.size = (Str.ofString s).length from rfl, ofString_length]
    exact h
theorem rvs_nil {M : MH} : Rvs 1 M [] 0 := ⟨[], fun _ _ _ _ => rfl, by simp [PyData.depthAll], by simp [PyData.leavesShortAll], by simp [PyData.showableAll], by simp [PyData.hasDictAll], by simp [PyData.depthAll], by simp [PyData.weightAll]⟩
theorem rvs_cons {M : MH} {v : MV} {vs : List MV} {k w w' : Nat} (h : Rv k M v w) (hs : Rvs k M vs w') (hk : k ≤ 20) : Rvs k M (v :: vs) (w + 1 + w') := by
  obtain ⟨d, h1, h2, h3⟩ := h
  obtain ⟨ds, g1, g2, g3⟩ := hs
  refine ⟨d :: ds, fun n M' hn ha => ?_, ?_, ?_, ?_, ?_, ?_, ?_⟩
  · rw [List.mapM_cons, h1 n M' hn ha, g1 n M' hn ha]
    rfl
  · simp only [PyData.depthAll]
    omega
  · simp [PyData.leavesShortAll, h3.lv, g3.lv]
  · simp [PyData.showableAll, h3.sh, g3.sh]
  · simp [PyData.hasDictAll, h3.nd, g3.nd]
  · simp only [PyData.depthAll]
    omega
  · simp only [PyData.weightAll]
    have := h3.wt
    have := g3.wt
    omega
theorem Rv.up {M : MH} {v : MV} {k l w : Nat} (h : Rv k M v w) (hk : k ≤ l) : Rv l M v w := by
  obtain ⟨d, h1, h2, h3⟩ := h
  exact ⟨d, fun n M' hn ha => h1 n M' (by omega) ha, by omega, h3⟩
theorem Rvs.up {M : MH} {v : List MV} {k l w : Nat} (h : Rvs k M v w) (hk : k ≤ l) : Rvs l M v w := by
  obtain ⟨d, h1, h2, h3⟩ := h
  exact ⟨d, fun n M' hn ha => h1 n M' (by omega) ha, by omega, h3⟩
theorem Rv.app {M M' : MH} {v : MV} {k w : Nat} (h : Rv k M v w) (a : App M M') : Rv k M' v w := by
  obtain ⟨d, h1, h2⟩ := h
  exact ⟨d, fun n M'' hn ha => h1 n M'' hn (a.trans ha), h2⟩
theorem rv_tup {M : MH} {vs : List MV} {k w : Nat} (h : Rvs k M vs w) : Rv (k + 1) M (.tup vs) w := by
  obtain ⟨ds, g1, g2, g3⟩ := h
  refine ⟨.tuple ds, fun n M' hn ha => ?_, ?_, ?_, ?_, ?_, ?_, ?_⟩
  · obtain ⟨m, rfl⟩ := pos_of (show 1 ≤ n by omega)
    simp only [pd]
    rw [g1 m M' (by omega) ha]
    rfl
  · simp only [PyData.depth]
    omega
  · simp [PyData.leavesShort, g3.lv]
  · simp [PyData.showable, g3.sh]
  · simp [PyData.hasDict, g3.nd]
  · simp only [PyData.depth]
    have := g3.dp
    omega
  · simp only [PyData.weight]
    exact g3.wt
theorem rv_lst {M : MH} {vs : List MV} {k w a : Nat} (hM : M[a]? = some vs) (h : Rvs k M vs w) : Rv (k + 1) M (.lst a) w := by
  obtain ⟨ds, g1, g2, g3⟩ := h
  refine ⟨.list ds, fun n M' hn ha => ?_, ?_, ?_, ?_, ?_, ?_, ?_⟩
  · obtain ⟨m, rfl⟩ := pos_of (show 1 ≤ n by omega)
    simp only [pd, ha.get hM]
    rw [g1 m M' (by omega) ha]
    rfl
  · simp only [PyData.depth]
    omega
  · simp [PyData.leavesShort, g3.lv]
  · simp [PyData.showable, g3.sh]
  · simp [PyData.hasDict, g3.nd]
  · simp only [PyData.depth]
    have := g3.dp
    omega
  · simp only [PyData.weight]
    exact g3.wt
/-- a value's text, whatever the heap is grown by -/
def Txt (M : MH) (v : MV) (s : Str) : Prop := ∀ M', App M M' → reprM M' v = some s
theorem Rv.txt {M : MH} {v : MV} {k w : Nat} (h : Rv k M v w) (hk : k ≤ 30) (hw : w ≤ 5000) : ∃ s, Txt M v s := by
  obtain ⟨d, h1, h2, h3⟩ := h
  refine ⟨d.shown, fun M' ha => ?_⟩
  have e := h1 pdDepth M' hk ha
  have hc : d.showable = true ∧ d.hasDict = false ∧ d.depth ≤ 100 ∧ d.shown.length ≤ sizeLine := ⟨h3.sh, h3.nd, by have := h3.dp; omega, h3.fits hw⟩
  unfold reprM
  cases v <;> first
    | (simp only [e, if_pos hc]; done)
    | (unfold pdDepth pd at e; cases e)
theorem txt_dct {M : MH} : Txt M .dct "{}" := fun _ _ => rfl
theorem Txt.app {M M' : MH} {v : MV} {s : Str} (h : Txt M v s) (a : App M M') : Txt M' v s := fun M'' b => h M'' (a.trans b)
theorem b_repr {M M' : MH} {v : MV} {s : Str} (h : Txt M v s) (a : App M M') : btop .repr [v] M' = .ok (.str s) M' := by
  simp [btop, h M' a]
end MP

set_option autoImplicit false
set_option maxHeartbeats 8000000
namespace K01
open PySem PySem.Spec PyProof.Rows L2 MP
/-- is_number -/
def b_0 : Ss :=
    (.cons (.ret (.and (.isi (.var 0) [.int] false) (.not (.isi (.var 0) [.bool] false)))) .nil)
def d_0 : Fd := ⟨"is_number", ["value"], 1, b_0, [(1, [], [.at 0])]⟩
/-- is_count -/
def b_1 : Ss :=
    (.cons (.ret (.and (.cal 0 0 (.cons (.var 0) .nil) .nil) (.cmp .ge (.var 0) (.var 1)))) .nil)
def d_1 : Fd := ⟨"is_count", ["value", "least"], 2, b_1, [(2, [], [.at 0, .at 1])]⟩
/-- divisor -/
def b_2 : Ss :=
    (.cons (.whl (.cmp .ne (.var 1) (.cst (.int 0)))
      (.cons (.asg (.tp [0, 1]) (.tup (.cons (.var 1) (.cons (.bin .mod (.var 0) (.var 1)) .nil)))) .nil))
    (.cons (.ret (.var 0)) .nil))
def d_2 : Fd := ⟨"divisor", ["one", "other"], 2, b_2, [(2, [], [.at 0, .at 1])]⟩
/-- by_lowest -/
def b_3 : Ss :=
    (.cons (.asg (.nm 2) (.cal 2 0 (.cons (.blt .abs (.cons (.var 0) .nil)) (.cons (.blt .abs (.cons (.var 1) .nil)) .nil)) .nil))
    (.cons (.iff (.cmp .lt (.var 1) (.cst (.int 0)))
      (.cons (.asg (.nm 2) (.bin .sub (.cst (.int 0)) (.var 2))) .nil) .nil)
    (.cons (.ret (.tup (.cons (.bin .fdv (.var 0) (.var 2)) (.cons (.bin .fdv (.var 1) (.var 2)) .nil)))) .nil)))
def d_3 : Fd := ⟨"by_lowest", ["top", "under", "common"], 2, b_3, [(2, [], [.at 0, .at 1])]⟩
/-- is_fraction -/
def b_4 : Ss :=
    (.cons (.iff (.or (.not (.isi (.var 0) [.tuple] false)) (.or (.cmp .ne (.blt .len (.cons (.var 0) .nil)) (.cst (.int 2))) (.or (.not (.cal 0 0 (.cons (.idx (.var 0) (.cst (.int 0))) .nil) .nil)) (.not (.cal 1 0 (.cons (.idx (.var 0) (.cst (.int 1))) (.cons (.cst (.int 1)) .nil)) .nil)))))
      (.cons (.ret (.cst (.bl false))) .nil) .nil)
    (.cons (.ret (.cmp .eq (.cal 2 0 (.cons (.blt .abs (.cons (.idx (.var 0) (.cst (.int 0))) .nil)) (.cons (.idx (.var 0) (.cst (.int 1))) .nil)) .nil) (.cst (.int 1)))) .nil))
def d_4 : Fd := ⟨"is_fraction", ["value"], 1, b_4, [(1, [], [.at 0]), (0, ["value"], [.at 0])]⟩
/-- look_at_fraction -/
def b_5 : Ss :=
    (.cons (.iff (.not (.cal 4 0 (.cons (.var 0) .nil) .nil))
      (.cons (.rai 0 (.cst .non)) .nil) .nil) .nil)
def d_5 : Fd := ⟨"look_at_fraction", ["value"], 1, b_5, [(1, [], [.at 0])]⟩
/-- are_fractions -/
def b_6 : Ss :=
    (.cons (.ret (.and (.isi (.var 0) [.list] false) (.blt .all (.cons (.com (.nm 1) (.seq (.var 0)) none (.cal 4 0 (.cons (.var 1) .nil) .nil)) .nil)))) .nil)
def d_6 : Fd := ⟨"are_fractions", ["value", "one"], 1, b_6, [(1, [], [.at 0])]⟩
/-- fraction_of -/
def b_7 : Ss :=
    (.cons (.iff (.not (.cal 0 0 (.cons (.var 0) .nil) .nil))
      (.cons (.rai 0 (.cst .non)) .nil) .nil)
    (.cons (.iff (.or (.not (.cal 0 0 (.cons (.var 1) .nil) .nil)) (.cmp .eq (.var 1) (.cst (.int 0))))
      (.cons (.rai 0 (.cst .non)) .nil) .nil)
    (.cons (.ret (.cal 3 0 (.cons (.var 0) (.cons (.var 1) .nil)) .nil)) .nil)))
def d_7 : Fd := ⟨"fraction_of", ["top", "under"], 2, b_7, [(0, ["under", "top"], [.at 1, .at 0]), (2, [], [.at 0, .at 1])]⟩
/-- plus -/
def b_8 : Ss :=
    (.cons (.ret (.cal 3 0 (.cons (.bin .add (.bin .mul (.idx (.var 0) (.cst (.int 0))) (.idx (.var 1) (.cst (.int 1)))) (.bin .mul (.idx (.var 1) (.cst (.int 0))) (.idx (.var 0) (.cst (.int 1))))) (.cons (.bin .mul (.idx (.var 0) (.cst (.int 1))) (.idx (.var 1) (.cst (.int 1)))) .nil)) .nil)) .nil)
def d_8 : Fd := ⟨"plus", ["one", "other"], 2, b_8, [(2, [], [.at 0, .at 1])]⟩
/-- minus -/
def b_9 : Ss :=
    (.cons (.ret (.cal 3 0 (.cons (.bin .sub (.bin .mul (.idx (.var 0) (.cst (.int 0))) (.idx (.var 1) (.cst (.int 1)))) (.bin .mul (.idx (.var 1) (.cst (.int 0))) (.idx (.var 0) (.cst (.int 1))))) (.cons (.bin .mul (.idx (.var 0) (.cst (.int 1))) (.idx (.var 1) (.cst (.int 1)))) .nil)) .nil)) .nil)
def d_9 : Fd := ⟨"minus", ["one", "other"], 2, b_9, [(2, [], [.at 0, .at 1])]⟩
/-- times -/
def b_10 : Ss :=
    (.cons (.ret (.cal 3 0 (.cons (.bin .mul (.idx (.var 0) (.cst (.int 0))) (.idx (.var 1) (.cst (.int 0)))) (.cons (.bin .mul (.idx (.var 0) (.cst (.int 1))) (.idx (.var 1) (.cst (.int 1)))) .nil)) .nil)) .nil)
def d_10 : Fd := ⟨"times", ["one", "other"], 2, b_10, [(2, [], [.at 0, .at 1])]⟩
/-- over -/
def b_11 : Ss :=
    (.cons (.ret (.cal 3 0 (.cons (.bin .mul (.idx (.var 0) (.cst (.int 0))) (.idx (.var 1) (.cst (.int 1)))) (.cons (.bin .mul (.idx (.var 0) (.cst (.int 1))) (.idx (.var 1) (.cst (.int 0)))) .nil)) .nil)) .nil)
def d_11 : Fd := ⟨"over", ["one", "other"], 2, b_11, [(2, [], [.at 0, .at 1])]⟩
/-- below -/
def b_12 : Ss :=
    (.cons (.ret (.cmp .lt (.bin .mul (.idx (.var 0) (.cst (.int 0))) (.idx (.var 1) (.cst (.int 1)))) (.bin .mul (.idx (.var 1) (.cst (.int 0))) (.idx (.var 0) (.cst (.int 1)))))) .nil)
def d_12 : Fd := ⟨"below", ["one", "other"], 2, b_12, [(2, [], [.at 0, .at 1])]⟩
/-- total -/
def b_13 : Ss :=
    (.cons (.asg (.nm 1) (.glo 0))
    (.cons (.for (.nm 2) (.seq (.var 0))
      (.cons (.asg (.nm 1) (.cal 8 0 (.cons (.var 1) (.cons (.var 2) .nil)) .nil)) .nil))
    (.cons (.ret (.var 1)) .nil)))
def d_13 : Fd := ⟨"total", ["some", "found", "one"], 1, b_13, [(1, [], [.at 0])]⟩
/-- sum_of -/
def b_14 : Ss :=
    (.cons (.iff (.not (.cal 6 0 (.cons (.var 0) .nil) .nil))
      (.cons (.rai 0 (.cst .non)) .nil) .nil)
    (.cons (.ret (.cal 13 0 (.cons (.var 0) .nil) .nil)) .nil))
def d_14 : Fd := ⟨"sum_of", ["some"], 1, b_14, [(0, ["some"], [.at 0]), (1, [], [.at 0])]⟩
/-- product_of -/
def b_15 : Ss :=
    (.cons (.iff (.not (.cal 6 0 (.cons (.var 0) .nil) .nil))
      (.cons (.rai 0 (.cst .non)) .nil) .nil)
    (.cons (.asg (.nm 1) (.glo 1))
    (.cons (.for (.nm 2) (.seq (.var 0))
      (.cons (.asg (.nm 1) (.cal 10 0 (.cons (.var 1) (.cons (.var 2) .nil)) .nil)) .nil))
    (.cons (.ret (.var 1)) .nil))))
def d_15 : Fd := ⟨"product_of", ["some", "found", "one"], 1, b_15, [(0, ["some"], [.at 0]), (1, [], [.at 0])]⟩
/-- look_at_two -/
def b_16 : Ss :=
    (.cons (.exp (.cal 5 0 (.cons (.var 0) .nil) .nil))
    (.cons (.exp (.cal 5 0 (.cons (.var 1) .nil) .nil)) .nil))
def d_16 : Fd := ⟨"look_at_two", ["one", "other"], 2, b_16, [(2, [], [.at 0, .at 1])]⟩
/-- less -/
def b_17 : Ss :=
    (.cons (.exp (.cal 16 0 (.cons (.var 0) (.cons (.var 1) .nil)) .nil))
    (.cons (.ret (.cal 9 0 (.cons (.var 0) (.cons (.var 1) .nil)) .nil)) .nil))
def d_17 : Fd := ⟨"less", ["one", "other"], 2, b_17, [(0, ["other", "one"], [.at 1, .at 0]), (2, [], [.at 0, .at 1])]⟩
/-- share -/
def b_18 : Ss :=
    (.cons (.exp (.cal 16 0 (.cons (.var 0) (.cons (.var 1) .nil)) .nil))
    (.cons (.iff (.cmp .eq (.var 1) (.glo 0))
      (.cons (.rai 0 (.cst .non)) .nil) .nil)
    (.cons (.ret (.cal 11 0 (.cons (.var 0) (.cons (.var 1) .nil)) .nil)) .nil)))
def d_18 : Fd := ⟨"share", ["one", "other"], 2, b_18, [(0, ["other", "one"], [.at 1, .at 0]), (2, [], [.at 0, .at 1])]⟩
/-- is_less -/
def b_19 : Ss :=
    (.cons (.exp (.cal 16 0 (.cons (.var 0) (.cons (.var 1) .nil)) .nil))
    (.cons (.ret (.cal 12 0 (.cons (.var 0) (.cons (.var 1) .nil)) .nil)) .nil))
def d_19 : Fd := ⟨"is_less", ["one", "other"], 2, b_19, [(0, ["other", "one"], [.at 1, .at 0]), (2, [], [.at 0, .at 1])]⟩
/-- simplest_above -/
def b_20 : Ss :=
    (.cons (.asg (.nm 2) (.lst .nil))
    (.cons (.whl (.cst (.bl true))
      (.cons (.asg (.nm 3) (.bin .sub (.cst (.int 0)) (.bin .fdv (.bin .sub (.cst (.int 0)) (.idx (.var 0) (.cst (.int 0)))) (.idx (.var 0) (.cst (.int 1))))))
      (.cons (.iff (.not (.cal 12 0 (.cons (.var 1) (.cons (.tup (.cons (.var 3) (.cons (.cst (.int 1)) .nil))) .nil)) .nil))
        (.cons (.brk) .nil) .nil)
      (.cons (.asg (.nm 4) (.tup (.cons (.bin .sub (.var 3) (.cst (.int 1))) (.cons (.cst (.int 1)) .nil))))
      (.cons (.exp (.mth .append (.var 2) (.cons (.var 4) .nil)))
      (.cons (.asg (.tp [0, 1]) (.tup (.cons (.cal 11 0 (.cons (.glo 1) (.cons (.cal 9 0 (.cons (.var 1) (.cons (.var 4) .nil)) .nil) .nil)) .nil) (.cons (.cal 11 0 (.cons (.glo 1) (.cons (.cal 9 0 (.cons (.var 0) (.cons (.var 4) .nil)) .nil) .nil)) .nil) .nil)))) .nil))))))
    (.cons (.asg (.nm 5) (.tup (.cons (.var 3) (.cons (.cst (.int 1)) .nil))))
    (.cons (.for (.nm 4) (.seq (.rev (.var 2)))
      (.cons (.asg (.nm 5) (.cal 8 0 (.cons (.var 4) (.cons (.cal 11 0 (.cons (.glo 1) (.cons (.var 5) .nil)) .nil) .nil)) .nil)) .nil))
    (.cons (.ret (.var 5)) .nil)))))
def d_20 : Fd := ⟨"simplest_above", ["low", "high", "wholes", "whole", "least", "found"], 2, b_20, [(2, [], [.at 0, .at 1])]⟩
/-- simplest -/
def b_21 : Ss :=
    (.cons (.exp (.cal 16 0 (.cons (.var 0) (.cons (.var 1) .nil)) .nil))
    (.cons (.iff (.cal 12 0 (.cons (.var 1) (.cons (.var 0) .nil)) .nil)
      (.cons (.rai 0 (.cst .non)) .nil) .nil)
    (.cons (.iff (.chn .le .le (.idx (.var 0) (.cst (.int 0))) (.cst (.int 0)) (.idx (.var 1) (.cst (.int 0))))
      (.cons (.ret (.glo 0)) .nil) .nil)
    (.cons (.iff (.cmp .gt (.idx (.var 0) (.cst (.int 0))) (.cst (.int 0)))
      (.cons (.ret (.cal 20 0 (.cons (.var 0) (.cons (.var 1) .nil)) .nil)) .nil) .nil)
    (.cons (.asg (.nm 2) (.cal 20 0 (.cons (.tup (.cons (.bin .sub (.cst (.int 0)) (.idx (.var 1) (.cst (.int 0)))) (.cons (.idx (.var 1) (.cst (.int 1))) .nil))) (.cons (.tup (.cons (.bin .sub (.cst (.int 0)) (.idx (.var 0) (.cst (.int 0)))) (.cons (.idx (.var 0) (.cst (.int 1))) .nil))) .nil)) .nil))
    (.cons (.ret (.tup (.cons (.bin .sub (.cst (.int 0)) (.idx (.var 2) (.cst (.int 0)))) (.cons (.idx (.var 2) (.cst (.int 1))) .nil)))) .nil))))))
def d_21 : Fd := ⟨"simplest", ["low", "high", "found"], 2, b_21, [(2, [], [.at 0, .at 1]), (0, ["high", "low"], [.at 1, .at 0])]⟩
/-- _law_number -/
def b_22 : Ss :=
    (.cons (.asg (.nm 1) (.bin .add (.cal 41 0 (.cons (.var 0) (.cons (.bin .pow (.cst (.int 10)) (.cst (.int 18))) .nil)) .nil) (.cst (.int 1))))
    (.cons (.for (.nm 2) (.rg1 (.cal 41 0 (.cons (.var 0) (.cons (.cst (.int 21)) .nil)) .nil))
      (.cons (.asg (.nm 1) (.bin .add (.bin .mul (.var 1) (.cst (.int 10))) (.cal 41 0 (.cons (.var 0) (.cons (.cst (.int 10)) .nil)) .nil))) .nil))
    (.cons (.asg (.nm 3) (.cal 42 0 (.cons (.var 0) (.cons (.lst (.cons (.cst (.int 0)) (.cons (.cst (.int 1)) (.cons (.cal 41 0 (.cons (.var 0) (.cons (.cst (.int 12)) .nil)) .nil) (.cons (.cal 41 0 (.cons (.var 0) (.cons (.cst (.int 12)) .nil)) .nil) (.cons (.var 1) .nil)))))) .nil)) .nil))
    (.cons (.ret (.cal 42 0 (.cons (.var 0) (.cons (.lst (.cons (.var 3) (.cons (.bin .sub (.cst (.int 0)) (.var 3)) .nil))) .nil)) .nil)) .nil))))
def d_22 : Fd := ⟨"_law_number", ["purse", "great", "turn", "top"], 1, b_22, [(1, [], [.at 0])]⟩
/-- _law_drawn -/
def b_23 : Ss :=
    (.cons (.ret (.cal 30 0 (.cons (.cal 22 0 (.cons (.var 0) .nil) .nil) (.cons (.bin .add (.blt .abs (.cons (.cal 22 0 (.cons (.var 0) .nil) .nil) .nil)) (.cst (.int 1))) .nil)) .nil)) .nil)
def d_23 : Fd := ⟨"_law_drawn", ["purse"], 1, b_23, [(1, [], [.at 0])]⟩
/-- _law_bents -/
def b_24 : Ss :=
    (.cons (.asg (.tp [2, 3]) (.var 1))
    (.cons (.asg (.nm 4) (.bin .add (.cst (.int 2)) (.cal 41 0 (.cons (.var 0) (.cons (.cst (.int 40)) .nil)) .nil)))
    (.cons (.asg (.nm 5) (.lst (.cons (.var 1) (.cons (.tup (.cons (.bin .mul (.var 2) (.cst (.int 2))) (.cons (.bin .mul (.var 3) (.cst (.int 2))) .nil))) (.cons (.tup (.cons (.bin .mul (.var 2) (.var 4)) (.cons (.bin .mul (.var 3) (.var 4)) .nil))) (.cons (.tup (.cons (.var 2) (.cons (.cst (.int 0)) .nil))) (.cons (.tup (.cons (.bin .sub (.cst (.int 0)) (.var 2)) (.cons (.bin .sub (.cst (.int 0)) (.var 3)) .nil))) (.cons (.tup (.cons (.var 2) (.cons (.bin .sub (.cst (.int 0)) (.var 3)) .nil))) (.cons (.lst (.cons (.var 2) (.cons (.var 3) .nil))) (.cons (.tup (.cons (.var 2) (.cons (.var 3) (.cons (.cst (.int 1)) .nil)))) (.cons (.tup (.cons (.var 2) .nil)) (.cons (.tup (.cons (.var 3) (.cons (.var 2) .nil))) .nil))))))))))))
    (.cons (.asg (.nm 5) (.bin .add (.var 5) (.lst (.cons (.tup (.cons (.cmp .eq (.var 2) (.cst (.int 1))) (.cons (.cst (.int 1)) .nil))) (.cons (.tup (.cons (.cst (.int 0)) (.cons (.cst (.bl true)) .nil))) (.cons (.tup (.cons (.cst (.bl true)) (.cons (.cst (.int 2)) .nil))) (.cons (.tup (.cons (.blt .str (.cons (.var 2) .nil)) (.cons (.cst (.int 1)) .nil))) (.cons (.tup (.cons (.var 2) (.cons (.cst (.non)) .nil))) (.cons (.tup (.cons (.cst (.non)) (.cons (.var 3) .nil))) (.cons (.cst (.non)) (.cons (.cst (.bl true)) (.cons (.cst (.int 0)) (.cons (.tup .nil) (.cons (.cst (.str "0")) (.cons (.lst (.cons (.var 1) .nil)) (.cons (.tup (.cons (.cst (.int 0)) (.cons (.cst (.int 2)) .nil))) (.cons (.tup (.cons (.cst (.int 0)) (.cons (.cst (.int 1)) .nil))) (.cons (.tup (.cons (.bin .sub (.cst (.int 0)) (.cst (.int 4))) (.cons (.cst (.int 2)) .nil))) (.cons .dnw .nil)))))))))))))))))))
    (.cons (.ret (.var 5)) .nil)))))
def d_24 : Fd := ⟨"_law_bents", ["purse", "one", "top", "under", "times_v", "values"], 2, b_24, [(2, [], [.at 0, .at 1])]⟩
/-- _law_parents -/
def b_25 : Ss :=
    (.cons (.asg (.tp [1, 2]) (.var 0))
    (.cons (.asg (.tp [3, 4, 5, 6]) (.tup (.cons (.cst (.int 0)) (.cons (.cst (.int 1)) (.cons (.var 2) (.cons (.bin .mod (.blt .int (.cons (.var 1) .nil)) (.var 2)) .nil))))))
    (.cons (.whl (.cmp .ne (.var 6) (.cst (.int 0)))
      (.cons (.asg (.tp [5, 6, 3, 4]) (.tup (.cons (.var 6) (.cons (.bin .mod (.blt .int (.cons (.var 5) .nil)) (.var 6)) (.cons (.var 4) (.cons (.bin .sub (.var 3) (.bin .mul (.bin .fdv (.var 5) (.var 6)) (.var 4))) .nil)))))) .nil))
    (.cons (.asg (.nm 7) (.bin .mod (.blt .int (.cons (.var 3) .nil)) (.var 2)))
    (.cons (.asg (.nm 8) (.ife (.cmp .eq (.var 7) (.cst (.int 0))) (.var 2) (.var 7)))
    (.cons (.asg (.nm 9) (.bin .fdv (.bin .sub (.bin .mul (.var 1) (.var 8)) (.cst (.int 1))) (.var 2)))
    (.cons (.ret (.tup (.cons (.tup (.cons (.var 9) (.cons (.var 8) .nil))) (.cons (.tup (.cons (.bin .sub (.var 1) (.var 9)) (.cons (.bin .sub (.var 2) (.var 8)) .nil))) .nil)))) .nil)))))))
def d_25 : Fd := ⟨"_law_parents", ["one", "top", "under", "low", "high", "early", "late", "more", "least", "first"], 1, b_25, [(1, [], [.at 0])]⟩
/-- _law_is_simplest -/
def b_26 : Ss :=
    (.cons (.iff (.or (.not (.cal 38 0 (.cons (.var 2) .nil) .nil)) (.or (.cal 35 0 (.cons (.var 2) (.cons (.var 0) .nil)) .nil) (.cal 35 0 (.cons (.var 1) (.cons (.var 2) .nil)) .nil)))
      (.cons (.ret (.cst (.bl false))) .nil) .nil)
    (.cons (.iff (.cmp .eq (.idx (.var 2) (.cst (.int 1))) (.cst (.int 1)))
      (.cons (.asg (.nm 3) (.ife (.cmp .gt (.idx (.var 2) (.cst (.int 0))) (.cst (.int 0))) (.tup (.cons (.bin .sub (.idx (.var 2) (.cst (.int 0))) (.cst (.int 1))) (.cons (.cst (.int 1)) .nil))) (.tup (.cons (.bin .add (.idx (.var 2) (.cst (.int 0))) (.cst (.int 1))) (.cons (.cst (.int 1)) .nil)))))
      (.cons (.ret (.or (.cmp .eq (.idx (.var 2) (.cst (.int 0))) (.cst (.int 0))) (.or (.cal 35 0 (.cons (.var 3) (.cons (.var 0) .nil)) .nil) (.cal 35 0 (.cons (.var 1) (.cons (.var 3) .nil)) .nil)))) .nil)) .nil)
    (.cons (.asg (.tp [4, 5]) (.cal 25 0 (.cons (.var 2) .nil) .nil))
    (.cons (.ret (.and (.cal 35 0 (.cons (.var 4) (.cons (.var 0) .nil)) .nil) (.or (.cmp .eq (.idx (.var 5) (.cst (.int 1))) (.cst (.int 0))) (.cal 35 0 (.cons (.var 1) (.cons (.var 5) .nil)) .nil)))) .nil))))
def d_26 : Fd := ⟨"_law_is_simplest", ["low", "high", "told", "mate", "one", "other"], 3, b_26, [(3, [], [.at 0, .at 1, .at 2])]⟩
/-- _law_span -/
def b_27 : Ss :=
    (.cons (.asg (.tp [1, 2]) (.tup (.cons (.cal 23 0 (.cons (.var 0) .nil) .nil) (.cons (.cal 41 0 (.cons (.var 0) (.cons (.cst (.int 5)) .nil)) .nil) .nil))))
    (.cons (.iff (.cmp .eq (.var 2) (.cst (.int 0)))
      (.cons (.ret (.tup (.cons (.var 1) (.cons (.var 1) .nil)))) .nil) .nil)
    (.cons (.iff (.cmp .eq (.var 2) (.cst (.int 1)))
      (.cons (.ret (.tup (.cons (.var 1) (.cons (.cal 31 0 (.cons (.var 1) (.cons (.cal 30 0 (.cons (.cst (.int 1)) (.cons (.cal 42 0 (.cons (.var 0) (.cons (.lst (.cons (.cst (.int 7)) (.cons (.bin .pow (.cst (.int 10)) (.cst (.int 9))) (.cons (.bin .pow (.cst (.int 10)) (.cst (.int 30))) .nil)))) .nil)) .nil) .nil)) .nil) .nil)) .nil) .nil)))) .nil) .nil)
    (.cons (.iff (.cmp .eq (.var 2) (.cst (.int 2)))
      (.cons (.asg (.nm 3) (.cal 30 0 (.cons (.bin .sub (.cal 41 0 (.cons (.var 0) (.cons (.cst (.int 60)) .nil)) .nil) (.cst (.int 30))) (.cons (.bin .add (.cst (.int 1)) (.cal 41 0 (.cons (.var 0) (.cons (.cst (.int 40)) .nil)) .nil)) .nil)) .nil))
      (.cons (.ret (.tup (.cons (.var 3) (.cons (.cal 31 0 (.cons (.var 3) (.cons (.cal 30 0 (.cons (.cal 41 0 (.cons (.var 0) (.cons (.cst (.int 50)) .nil)) .nil) (.cons (.cst (.int 49)) .nil)) .nil) .nil)) .nil) .nil)))) .nil)) .nil)
    (.cons (.iff (.cmp .eq (.var 2) (.cst (.int 3)))
      (.cons (.asg (.nm 4) (.bin .sub (.cal 41 0 (.cons (.var 0) (.cons (.cst (.int 9)) .nil)) .nil) (.cst (.int 4))))
      (.cons (.ret (.tup (.cons (.cal 30 0 (.cons (.bin .add (.bin .mul (.var 4) (.cst (.int 40))) (.cst (.int 1))) (.cons (.cst (.int 40)) .nil)) .nil) (.cons (.cal 30 0 (.cons (.bin .add (.bin .add (.bin .mul (.var 4) (.cst (.int 40))) (.cst (.int 1))) (.cal 41 0 (.cons (.var 0) (.cons (.cst (.int 39)) .nil)) .nil)) (.cons (.cst (.int 40)) .nil)) .nil) .nil)))) .nil)) .nil)
    (.cons (.asg (.nm 5) (.cal 23 0 (.cons (.var 0) .nil) .nil))
    (.cons (.ret (.ife (.cal 35 0 (.cons (.var 5) (.cons (.var 1) .nil)) .nil) (.tup (.cons (.var 5) (.cons (.var 1) .nil))) (.tup (.cons (.var 1) (.cons (.var 5) .nil))))) .nil)))))))
def d_27 : Fd := ⟨"_law_span", ["purse", "low", "way", "small", "whole", "other"], 1, b_27, [(1, [], [.at 0])]⟩
/-- _law_two_right -/
def b_28 : Ss :=
    (.cons (.asg (.nm 2) (.lst (.cons (.cal 32 0 (.cons (.var 0) (.cons (.var 1) .nil)) .nil) (.cons (.cal 35 0 (.cons (.var 0) (.cons (.var 1) .nil)) .nil) .nil))))
    (.cons (.iff (.or (.not (.cal 39 0 (.cons (.lst (.cons (.cal 17 1 (.cons (.var 0) (.cons (.var 1) .nil)) .nil) (.cons (.cal 19 1 (.cons (.var 0) (.cons (.var 1) .nil)) .nil) .nil))) (.cons (.var 2) .nil)) .nil)) (.not (.cal 39 0 (.cons (.lst (.cons (.cal 17 0 .nil (.cons (.var 1) (.cons (.var 0) .nil))) (.cons (.cal 19 0 .nil (.cons (.var 1) (.cons (.var 0) .nil))) .nil))) (.cons (.var 2) .nil)) .nil)))
      (.cons (.ret (.cst (.bl false))) .nil) .nil)
    (.cons (.iff (.and (.cmp .ne (.idx (.var 1) (.cst (.int 0))) (.cst (.int 0))) (.not (.cal 39 0 (.cons (.lst (.cons (.cal 18 1 (.cons (.var 0) (.cons (.var 1) .nil)) .nil) (.cons (.cal 18 0 .nil (.cons (.var 1) (.cons (.var 0) .nil))) .nil))) (.cons (.bin .mul (.lst (.cons (.cal 34 0 (.cons (.var 0) (.cons (.var 1) .nil)) .nil) .nil)) (.cst (.int 2))) .nil)) .nil)))
      (.cons (.ret (.cst (.bl false))) .nil) .nil)
    (.cons (.asg (.nm 3) (.lst (.cons (.cal 7 1 (.cons (.bin .mul (.idx (.var 0) (.cst (.int 0))) (.cst (.int 6))) (.cons (.bin .mul (.idx (.var 0) (.cst (.int 1))) (.cst (.int 6))) .nil)) .nil) (.cons (.cal 7 0 .nil (.cons (.bin .sub (.cst (.int 0)) (.bin .mul (.idx (.var 0) (.cst (.int 1))) (.cst (.int 4)))) (.cons (.bin .mul (.idx (.var 0) (.cst (.int 0))) (.cst (.int 4))) .nil))) .nil))))
    (.cons (.ret (.cal 39 0 (.cons (.var 3) (.cons (.lst (.cons (.var 0) (.cons (.cal 30 0 (.cons (.bin .sub (.cst (.int 0)) (.idx (.var 0) (.cst (.int 0)))) (.cons (.idx (.var 0) (.cst (.int 1))) .nil)) .nil) .nil))) .nil)) .nil)) .nil)))))
def d_28 : Fd := ⟨"_law_two_right", ["one", "other", "due", "told"], 2, b_28, [(2, [], [.at 0, .at 1])]⟩
/-- _law_divisor -/
def b_29 : Ss :=
    (.cons (.whl (.cmp .ne (.var 1) (.cst (.int 0)))
      (.cons (.asg (.tp [0, 1]) (.tup (.cons (.var 1) (.cons (.bin .mod (.blt .int (.cons (.var 0) .nil)) (.var 1)) .nil)))) .nil))
    (.cons (.ret (.var 0)) .nil))
def d_29 : Fd := ⟨"_law_divisor", ["one", "other"], 2, b_29, [(2, [], [.at 0, .at 1])]⟩
/-- _law_by -/
def b_30 : Ss :=
    (.cons (.asg (.nm 2) (.cal 29 0 (.cons (.blt .abs (.cons (.var 0) .nil)) (.cons (.blt .abs (.cons (.var 1) .nil)) .nil)) .nil))
    (.cons (.ret (.ife (.cmp .gt (.var 1) (.cst (.int 0))) (.tup (.cons (.bin .fdv (.var 0) (.var 2)) (.cons (.bin .fdv (.var 1) (.var 2)) .nil))) (.tup (.cons (.bin .sub (.cst (.int 0)) (.bin .fdv (.var 0) (.var 2))) (.cons (.bin .sub (.cst (.int 0)) (.bin .fdv (.var 1) (.var 2))) .nil))))) .nil))
def d_30 : Fd := ⟨"_law_by", ["top", "under", "common"], 2, b_30, [(2, [], [.at 0, .at 1])]⟩
/-- _law_plus -/
def b_31 : Ss :=
    (.cons (.ret (.cal 30 0 (.cons (.bin .add (.bin .mul (.idx (.var 0) (.cst (.int 0))) (.idx (.var 1) (.cst (.int 1)))) (.bin .mul (.idx (.var 1) (.cst (.int 0))) (.idx (.var 0) (.cst (.int 1))))) (.cons (.bin .mul (.idx (.var 0) (.cst (.int 1))) (.idx (.var 1) (.cst (.int 1)))) .nil)) .nil)) .nil)
def d_31 : Fd := ⟨"_law_plus", ["one", "other"], 2, b_31, [(2, [], [.at 0, .at 1])]⟩
/-- _law_minus -/
def b_32 : Ss :=
    (.cons (.ret (.cal 30 0 (.cons (.bin .sub (.bin .mul (.idx (.var 0) (.cst (.int 0))) (.idx (.var 1) (.cst (.int 1)))) (.bin .mul (.idx (.var 1) (.cst (.int 0))) (.idx (.var 0) (.cst (.int 1))))) (.cons (.bin .mul (.idx (.var 0) (.cst (.int 1))) (.idx (.var 1) (.cst (.int 1)))) .nil)) .nil)) .nil)
def d_32 : Fd := ⟨"_law_minus", ["one", "other"], 2, b_32, [(2, [], [.at 0, .at 1])]⟩
/-- _law_times -/
def b_33 : Ss :=
    (.cons (.ret (.cal 30 0 (.cons (.bin .mul (.idx (.var 0) (.cst (.int 0))) (.idx (.var 1) (.cst (.int 0)))) (.cons (.bin .mul (.idx (.var 0) (.cst (.int 1))) (.idx (.var 1) (.cst (.int 1)))) .nil)) .nil)) .nil)
def d_33 : Fd := ⟨"_law_times", ["one", "other"], 2, b_33, [(2, [], [.at 0, .at 1])]⟩
/-- _law_over -/
def b_34 : Ss :=
    (.cons (.ret (.cal 30 0 (.cons (.bin .mul (.idx (.var 0) (.cst (.int 0))) (.idx (.var 1) (.cst (.int 1)))) (.cons (.bin .mul (.idx (.var 0) (.cst (.int 1))) (.idx (.var 1) (.cst (.int 0)))) .nil)) .nil)) .nil)
def d_34 : Fd := ⟨"_law_over", ["one", "other"], 2, b_34, [(2, [], [.at 0, .at 1])]⟩
/-- _law_less -/
def b_35 : Ss :=
    (.cons (.ret (.cmp .lt (.bin .mul (.idx (.var 0) (.cst (.int 0))) (.idx (.var 1) (.cst (.int 1)))) (.bin .mul (.idx (.var 1) (.cst (.int 0))) (.idx (.var 0) (.cst (.int 1)))))) .nil)
def d_35 : Fd := ⟨"_law_less", ["one", "other"], 2, b_35, [(2, [], [.at 0, .at 1])]⟩
/-- _law_sum -/
def b_36 : Ss :=
    (.cons (.asg (.nm 1) (.tup (.cons (.cst (.int 0)) (.cons (.cst (.int 1)) .nil))))
    (.cons (.for (.nm 2) (.seq (.var 0))
      (.cons (.asg (.nm 1) (.cal 31 0 (.cons (.var 1) (.cons (.var 2) .nil)) .nil)) .nil))
    (.cons (.ret (.var 1)) .nil)))
def d_36 : Fd := ⟨"_law_sum", ["some", "found", "one"], 1, b_36, [(1, [], [.at 0])]⟩
/-- _law_is_number -/
def b_37 : Ss :=
    (.cons (.ret (.and (.isi (.var 0) [.int] false) (.not (.isi (.var 0) [.bool] false)))) .nil)
def d_37 : Fd := ⟨"_law_is_number", ["value"], 1, b_37, [(1, [], [.at 0])]⟩
/-- _law_is_fraction -/
def b_38 : Ss :=
    (.cons (.iff (.or (.not (.isi (.var 0) [.tuple] false)) (.or (.cmp .ne (.blt .len (.cons (.var 0) .nil)) (.cst (.int 2))) (.or (.not (.cal 37 0 (.cons (.idx (.var 0) (.cst (.int 0))) .nil) .nil)) (.not (.cal 37 0 (.cons (.idx (.var 0) (.cst (.int 1))) .nil) .nil)))))
      (.cons (.ret (.cst (.bl false))) .nil) .nil)
    (.cons (.ret (.and (.cmp .gt (.idx (.var 0) (.cst (.int 1))) (.cst (.int 0))) (.cmp .eq (.cal 29 0 (.cons (.blt .abs (.cons (.idx (.var 0) (.cst (.int 0))) .nil)) (.cons (.idx (.var 0) (.cst (.int 1))) .nil)) .nil) (.cst (.int 1))))) .nil))
def d_38 : Fd := ⟨"_law_is_fraction", ["value"], 1, b_38, [(1, [], [.at 0])]⟩
/-- _law_same -/
def b_39 : Ss :=
    (.cons (.iff (.cmp .is (.var 1) (.cst (.non)))
      (.cons (.ret (.cmp .is (.var 0) (.cst (.non)))) .nil) .nil)
    (.cons (.iff (.cmp .is (.var 1) (.cst (.bl true)))
      (.cons (.ret (.cmp .is (.var 0) (.cst (.bl true)))) .nil) .nil)
    (.cons (.iff (.cmp .is (.var 1) (.cst (.bl false)))
      (.cons (.ret (.cmp .is (.var 0) (.cst (.bl false)))) .nil) .nil)
    (.cons (.iff (.isi (.var 1) [.list, .tuple] true)
      (.cons (.asg (.nm 2) (.ife (.isi (.var 1) [.list] false) (.isi (.var 0) [.list] false) (.isi (.var 0) [.tuple] false)))
      (.cons (.ret (.and (.var 2) (.and (.cmp .eq (.blt .len (.cons (.var 0) .nil)) (.blt .len (.cons (.var 1) .nil))) (.blt .all (.cons (.com (.tp [3, 4]) (.zip (.var 0) (.var 1)) none (.cal 39 0 (.cons (.var 3) (.cons (.var 4) .nil)) .nil)) .nil))))) .nil)) .nil)
    (.cons (.iff (.isi (.var 1) [.int] false)
      (.cons (.ret (.and (.isi (.var 0) [.int] false) (.and (.not (.isi (.var 0) [.bool] false)) (.cmp .eq (.var 0) (.var 1))))) .nil) .nil)
    (.cons (.ret (.and (.isi (.var 0) [.str] false) (.cmp .eq (.var 0) (.var 1)))) .nil))))))
def d_39 : Fd := ⟨"_law_same", ["told", "due", "alike", "one", "other"], 2, b_39, [(2, [], [.at 0, .at 1])]⟩
/-- _law_purse -/
def b_40 : Ss :=
    (.cons (.asg (.nm 1) (.cst (.int 7)))
    (.cons (.for (.nm 2) (.seq (.slc (.var 0) none (some (.cst (.int 63)))))
      (.cons (.asg (.nm 1) (.bin .mod (.blt .int (.cons (.bin .add (.bin .mul (.var 1) (.cst (.int 31))) (.var 2)) .nil)) (.cst (.int 2147483647)))) .nil))
    (.cons (.ret (.lst (.cons (.com (.nm 2) (.seq (.slc (.var 0) none (some (.cst (.int 63))))) (some (.cmp .ge (.var 2) (.bin .pow (.cst (.int 10)) (.cst (.int 18))))) (.var 2)) (.cons (.cst (.int 0)) (.cons (.cst (.int 0)) (.cons (.cst (.int 0)) (.cons (.var 1) .nil))))))) .nil)))
def d_40 : Fd := ⟨"_law_purse", ["script", "seed", "cell"], 1, b_40, [(1, [], [.at 0])]⟩
/-- _law_draw -/
def b_41 : Ss :=
    (.cons (.iff (.and (.cmp .lt (.idx (.var 0) (.cst (.int 2))) (.var 1)) (.cmp .lt (.idx (.var 0) (.cst (.int 1))) (.blt .len (.cons (.idx (.var 0) (.cst (.int 0))) .nil))))
      (.cons (.put (.var 0) (.cst (.int 2)) (.idx (.idx (.var 0) (.cst (.int 0))) (.idx (.var 0) (.cst (.int 1)))))
      (.cons (.agi (.var 0) (.cst (.int 1)) .add (.cst (.int 1))) .nil)) .nil)
    (.cons (.iff (.cmp .ge (.idx (.var 0) (.cst (.int 2))) (.var 1))
      (.cons (.asg (.nm 2) (.bin .mod (.blt .int (.cons (.idx (.var 0) (.cst (.int 2))) .nil)) (.var 1)))
      (.cons (.put (.var 0) (.cst (.int 2)) (.bin .fdv (.idx (.var 0) (.cst (.int 2))) (.var 1)))
      (.cons (.ret (.var 2)) .nil))) .nil)
    (.cons (.agi (.var 0) (.cst (.int 3)) .add (.cst (.int 1)))
    (.cons (.asg (.nm 3) (.bin .mod (.blt .int (.cons (.bin .mul (.bin .add (.bin .mul (.idx (.var 0) (.cst (.int 3))) (.idx (.var 0) (.cst (.int 3)))) (.idx (.var 0) (.cst (.int 4)))) (.cst (.int 48271))) .nil)) (.cst (.int 2147483629))))
    (.cons (.ret (.bin .mod (.blt .int (.cons (.bin .mod (.blt .int (.cons (.bin .mul (.var 3) (.var 3)) .nil)) (.cst (.int 2147483587))) .nil)) (.var 1))) .nil)))))
def d_41 : Fd := ⟨"_law_draw", ["purse", "many", "told", "stirred"], 2, b_41, [(2, [], [.at 0, .at 1])]⟩
/-- _law_pick -/
def b_42 : Ss :=
    (.cons (.ret (.idx (.var 1) (.cal 41 0 (.cons (.var 0) (.cons (.blt .len (.cons (.var 1) .nil)) .nil)) .nil))) .nil)
def d_42 : Fd := ⟨"_law_pick", ["purse", "things"], 2, b_42, [(2, [], [.at 0, .at 1])]⟩
/-- law -/
def b_43 : Ss :=
    (.cons (.asg (.nm 1) (.cal 40 0 (.cons (.var 0) .nil) .nil))
    (.cons (.for (.nm 2) (.rg1 (.cst (.int 12)))
      (.cons (.asg (.tp [3, 4]) (.tup (.cons (.cal 23 0 (.cons (.var 1) .nil) .nil) (.cons (.cal 23 0 (.cons (.var 1) .nil) .nil) .nil))))
      (.cons (.for (.nm 5) (.seq (.cal 24 0 (.cons (.var 1) (.cons (.var 3) .nil)) .nil))
        (.cons (.asg (.tp [6, 7]) (.tup (.cons (.blt .repr (.cons (.var 5) .nil)) (.cons (.cal 38 0 (.cons (.var 5) .nil) .nil) .nil))))
        (.cons (.iff (.or (.not (.cal 39 0 (.cons (.lst (.cons (.cal 4 0 (.cons (.var 5) .nil) .nil) (.cons (.cal 4 1 .nil (.cons (.var 5) .nil)) .nil))) (.cons (.lst (.cons (.var 7) (.cons (.var 7) .nil))) .nil)) .nil)) (.cmp .ne (.blt .repr (.cons (.var 5) .nil)) (.var 6)))
          (.cons (.ret (.cst (.bl false))) .nil) .nil) .nil)))
      (.cons (.iff (.or (.not (.cal 28 0 (.cons (.var 3) (.cons (.var 4) .nil)) .nil)) (.or (.not (.cal 28 0 (.cons (.var 4) (.cons (.var 3) .nil)) .nil)) (.not (.cal 28 0 (.cons (.var 3) (.cons (.var 3) .nil)) .nil))))
        (.cons (.ret (.cst (.bl false))) .nil) .nil)
      (.cons (.asg (.tp [8, 7]) (.tup (.cons (.com (.nm 9) (.rg1 (.cal 41 0 (.cons (.var 1) (.cons (.cst (.int 6)) .nil)) .nil)) none (.cal 23 0 (.cons (.var 1) .nil) .nil)) (.cons (.tup (.cons (.cst (.int 1)) (.cons (.cst (.int 1)) .nil))) .nil))))
      (.cons (.for (.nm 10) (.seq (.var 8))
        (.cons (.asg (.nm 7) (.cal 33 0 (.cons (.var 7) (.cons (.var 10) .nil)) .nil)) .nil))
      (.cons (.asg (.nm 11) (.blt .repr (.cons (.var 8) .nil)))
      (.cons (.iff (.or (.not (.cal 39 0 (.cons (.lst (.cons (.cal 14 1 (.cons (.var 8) .nil) .nil) (.cons (.cal 15 1 (.cons (.var 8) .nil) .nil) (.cons (.cal 14 0 .nil (.cons (.var 8) .nil)) (.cons (.cal 15 0 .nil (.cons (.var 8) .nil)) .nil))))) (.cons (.bin .mul (.lst (.cons (.cal 36 0 (.cons (.var 8) .nil) .nil) (.cons (.var 7) .nil))) (.cst (.int 2))) .nil)) .nil)) (.cmp .ne (.blt .repr (.cons (.var 8) .nil)) (.var 11)))
        (.cons (.ret (.cst (.bl false))) .nil) .nil)
      (.cons (.asg (.tp [12, 13]) (.cal 27 0 (.cons (.var 1) .nil) .nil))
      (.cons (.asg (.nm 14) (.cal 21 0 (.cons (.var 12) (.cons (.var 13) .nil)) .nil))
      (.cons (.iff (.or (.not (.cal 26 0 (.cons (.var 12) (.cons (.var 13) (.cons (.var 14) .nil))) .nil)) (.not (.cal 39 0 (.cons (.cal 21 1 .nil (.cons (.var 13) (.cons (.var 12) .nil))) (.cons (.var 14) .nil)) .nil)))
        (.cons (.ret (.cst (.bl false))) .nil) .nil) .nil)))))))))))
    (.cons (.ret (.cal 39 0 (.cons (.lst (.cons (.cal 21 0 (.cons (.tup (.cons (.cst (.int 1)) (.cons (.cst (.int 3)) .nil))) (.cons (.tup (.cons (.cst (.int 2)) (.cons (.cst (.int 5)) .nil))) .nil)) .nil) (.cons (.cal 21 0 (.cons (.tup (.cons (.neg (.cst (.int 7))) (.cons (.cst (.int 3)) .nil))) (.cons (.tup (.cons (.neg (.cst (.int 9))) (.cons (.cst (.int 4)) .nil))) .nil)) .nil) (.cons (.cal 21 0 (.cons (.tup (.cons (.neg (.cst (.int 1))) (.cons (.cst (.int 9)) .nil))) (.cons (.tup (.cons (.cst (.int 5)) (.cons (.cst (.int 1)) .nil))) .nil)) .nil) .nil)))) (.cons (.lst (.cons (.tup (.cons (.cst (.int 1)) (.cons (.cst (.int 3)) .nil))) (.cons (.tup (.cons (.neg (.cst (.int 7))) (.cons (.cst (.int 3)) .nil))) (.cons (.tup (.cons (.cst (.int 0)) (.cons (.cst (.int 1)) .nil))) .nil)))) .nil)) .nil)) .nil)))
def d_43 : Fd := ⟨"law", ["script", "purse", "turn", "one", "other", "value", "written", "due", "some", "item", "part", "kept", "low", "high", "told"], 1, b_43, [(1, [], [.at 0])]⟩
def pg : Pg := ⟨[d_0, d_1, d_2, d_3, d_4, d_5, d_6, d_7, d_8, d_9, d_10, d_11, d_12, d_13, d_14, d_15, d_16, d_17, d_18, d_19, d_20, d_21, d_22, d_23, d_24, d_25, d_26, d_27, d_28, d_29, d_30, d_31, d_32, d_33, d_34, d_35, d_36, d_37, d_38, d_39, d_40, d_41, d_42, d_43], [("NONE", .tup [.int 0, .int 1]), ("ONE", .tup [.int 1, .int 1])], 1000001⟩
@[simp] theorem ar_0_0 (n : Nat) : (cfg pg n).arr 0 0 = some [.at 0] := rfl
@[simp] theorem ar_1_0 (n : Nat) : (cfg pg n).arr 1 0 = some [.at 0, .at 1] := rfl
@[simp] theorem ar_2_0 (n : Nat) : (cfg pg n).arr 2 0 = some [.at 0, .at 1] := rfl
@[simp] theorem ar_3_0 (n : Nat) : (cfg pg n).arr 3 0 = some [.at 0, .at 1] := rfl
@[simp] theorem ar_4_0 (n : Nat) : (cfg pg n).arr 4 0 = some [.at 0] := rfl
@[simp] theorem ar_4_1 (n : Nat) : (cfg pg n).arr 4 1 = some [.at 0] := rfl
@[simp] theorem ar_5_0 (n : Nat) : (cfg pg n).arr 5 0 = some [.at 0] := rfl
@[simp] theorem ar_6_0 (n : Nat) : (cfg pg n).arr 6 0 = some [.at 0] := rfl
@[simp] theorem ar_7_0 (n : Nat) : (cfg pg n).arr 7 0 = some [.at 1, .at 0] := rfl
@[simp] theorem ar_7_1 (n : Nat) : (cfg pg n).arr 7 1 = some [.at 0, .at 1] := rfl
@[simp] theorem ar_8_0 (n : Nat) : (cfg pg n).arr 8 0 = some [.at 0, .at 1] := rfl
@[simp] theorem ar_9_0 (n : Nat) : (cfg pg n).arr 9 0 = some [.at 0, .at 1] := rfl
@[simp] theorem ar_10_0 (n : Nat) : (cfg pg n).arr 10 0 = some [.at 0, .at 1] := rfl
@[simp] theorem ar_11_0 (n : Nat) : (cfg pg n).arr 11 0 = some [.at 0, .at 1] := rfl
@[simp] theorem ar_12_0 (n : Nat) : (cfg pg n).arr 12 0 = some [.at 0, .at 1] := rfl
@[simp] theorem ar_13_0 (n : Nat) : (cfg pg n).arr 13 0 = some [.at 0] := rfl
@[simp] theorem ar_14_0 (n : Nat) : (cfg pg n).arr 14 0 = some [.at 0] := rfl
@[simp] theorem ar_14_1 (n : Nat) : (cfg pg n).arr 14 1 = some [.at 0] := rfl
@[simp] theorem ar_15_0 (n : Nat) : (cfg pg n).arr 15 0 = some [.at 0] := rfl
@[simp] theorem ar_15_1 (n : Nat) : (cfg pg n).arr 15 1 = some [.at 0] := rfl
@[simp] theorem ar_16_0 (n : Nat) : (cfg pg n).arr 16 0 = some [.at 0, .at 1] := rfl
@[simp] theorem ar_17_0 (n : Nat) : (cfg pg n).arr 17 0 = some [.at 1, .at 0] := rfl
@[simp] theorem ar_17_1 (n : Nat) : (cfg pg n).arr 17 1 = some [.at 0, .at 1] := rfl
@[simp] theorem ar_18_0 (n : Nat) : (cfg pg n).arr 18 0 = some [.at 1, .at 0] := rfl
@[simp] theorem ar_18_1 (n : Nat) : (cfg pg n).arr 18 1 = some [.at 0, .at 1] := rfl
@[simp] theorem ar_19_0 (n : Nat) : (cfg pg n).arr 19 0 = some [.at 1, .at 0] := rfl
@[simp] theorem ar_19_1 (n : Nat) : (cfg pg n).arr 19 1 = some [.at 0, .at 1] := rfl
@[simp] theorem ar_20_0 (n : Nat) : (cfg pg n).arr 20 0 = some [.at 0, .at 1] := rfl
@[simp] theorem ar_21_0 (n : Nat) : (cfg pg n).arr 21 0 = some [.at 0, .at 1] := rfl
@[simp] theorem ar_21_1 (n : Nat) : (cfg pg n).arr 21 1 = some [.at 1, .at 0] := rfl
@[simp] theorem ar_22_0 (n : Nat) : (cfg pg n).arr 22 0 = some [.at 0] := rfl
@[simp] theorem ar_23_0 (n : Nat) : (cfg pg n).arr 23 0 = some [.at 0] := rfl
@[simp] theorem ar_24_0 (n : Nat) : (cfg pg n).arr 24 0 = some [.at 0, .at 1] := rfl
@[simp] theorem ar_25_0 (n : Nat) : (cfg pg n).arr 25 0 = some [.at 0] := rfl
@[simp] theorem ar_26_0 (n : Nat) : (cfg pg n).arr 26 0 = some [.at 0, .at 1, .at 2] := rfl
@[simp] theorem ar_27_0 (n : Nat) : (cfg pg n).arr 27 0 = some [.at 0] := rfl
@[simp] theorem ar_28_0 (n : Nat) : (cfg pg n).arr 28 0 = some [.at 0, .at 1] := rfl
@[simp] theorem ar_29_0 (n : Nat) : (cfg pg n).arr 29 0 = some [.at 0, .at 1] := rfl
@[simp] theorem ar_30_0 (n : Nat) : (cfg pg n).arr 30 0 = some [.at 0, .at 1] := rfl
@[simp] theorem ar_31_0 (n : Nat) : (cfg pg n).arr 31 0 = some [.at 0, .at 1] := rfl
@[simp] theorem ar_32_0 (n : Nat) : (cfg pg n).arr 32 0 = some [.at 0, .at 1] := rfl
@[simp] theorem ar_33_0 (n : Nat) : (cfg pg n).arr 33 0 = some [.at 0, .at 1] := rfl
@[simp] theorem ar_34_0 (n : Nat) : (cfg pg n).arr 34 0 = some [.at 0, .at 1] := rfl
@[simp] theorem ar_35_0 (n : Nat) : (cfg pg n).arr 35 0 = some [.at 0, .at 1] := rfl
@[simp] theorem ar_36_0 (n : Nat) : (cfg pg n).arr 36 0 = some [.at 0] := rfl
@[simp] theorem ar_37_0 (n : Nat) : (cfg pg n).arr 37 0 = some [.at 0] := rfl
@[simp] theorem ar_38_0 (n : Nat) : (cfg pg n).arr 38 0 = some [.at 0] := rfl
@[simp] theorem ar_39_0 (n : Nat) : (cfg pg n).arr 39 0 = some [.at 0, .at 1] := rfl
@[simp] theorem ar_40_0 (n : Nat) : (cfg pg n).arr 40 0 = some [.at 0] := rfl
@[simp] theorem ar_41_0 (n : Nat) : (cfg pg n).arr 41 0 = some [.at 0, .at 1] := rfl
@[simp] theorem ar_42_0 (n : Nat) : (cfg pg n).arr 42 0 = some [.at 0, .at 1] := rfl
@[simp] theorem ar_43_0 (n : Nat) : (cfg pg n).arr 43 0 = some [.at 0] := rfl
@[simp] theorem gl_0 (n : Nat) : (cfg pg n).glo 0 = some (.tup [.int 0, .int 1]) := rfl
@[simp] theorem gl_1 (n : Nat) : (cfg pg n).glo 1 = some (.tup [.int 1, .int 1]) := rfl
end K01


set_option Elab.async false
set_option linter.all false
set_option maxRecDepth 100000
set_option autoImplicit false
set_option maxHeartbeats 4000000
/-! k01, the plain law, part 1: fractions. -/
namespace K01
open PySem MP

/-! ### the common helpers -/
theorem is_draw : IsD pg 41 2 4 bDraw := ⟨d_41, rfl, rfl, rfl, rfl⟩
theorem is_pick : IsD pg 42 2 2 (bPick 41) := ⟨d_42, rfl, rfl, rfl, rfl⟩
theorem is_same : IsD pg 39 2 5 (bSame 39) := ⟨d_39, rfl, rfl, rfl, rfl⟩
theorem is_purse : IsD pg 40 1 3 bPurse := ⟨d_40, rfl, rfl, rfl, rfl⟩
theorem gcd2 : GcdAt pg 2 := ⟨⟨d_2, rfl, rfl⟩, fun n M a b h1 h2 h3 h4 => gcd_ok (body := bGcd) ⟨d_2, rfl, rfl, rfl, rfl⟩ (.inl rfl) h1 h2 h3 h4 (by decide)⟩
theorem gcd29 : GcdAt pg 29 := ⟨⟨d_29, rfl, rfl⟩, fun n M a b h1 h2 h3 h4 => gcd_ok (body := bGcdI) ⟨d_29, rfl, rfl, rfl, rfl⟩ (.inr rfl) h1 h2 h3 h4 (by decide)⟩
theorem is_low : IsD pg 3 2 3 (bByLow 2) := ⟨d_3, rfl, rfl, rfl, rfl⟩
theorem is_by : IsD pg 30 2 3 (bLawBy 29) := ⟨d_30, rfl, rfl, rfl, rfl⟩
section
variable {n k l : Nat} {M : MH} {a b : Int} {x y : Fr}
theorem low_ok (hb : b ≠ 0) (h1 : Sz 4000 a) (h2 : Sz 4000 b) : run pg (n + 2) 3 [.int a, .int b] M = .ok (nf a b).mv M := byLow_ok is_low gcd2 hb h1 h2
theorem by_ok (hb : b ≠ 0) (h1 : Sz 4000 a) (h2 : Sz 4000 b) : run pg (n + 2) 30 [.int a, .int b] M = .ok (nf a b).mv M := lawBy_ok is_by gcd29 hb h1 h2
theorem same_ {d : Nat} {u v : MV} (h : Like M d u v) : ∃ M', run pg (n + d) 39 [u, v] M = .ok (.bl true) M' ∧ App M M' := same_ok is_same ⟨d_39, rfl, rfl⟩ (by decide) d n M u v h

/-! ### reckoning -/
def pl (x y : Fr) : Fr := nf (x.1 * y.2 + y.1 * x.2) (x.2 * y.2)
def mi (x y : Fr) : Fr := nf (x.1 * y.2 - y.1 * x.2) (x.2 * y.2)
def ti (x y : Fr) : Fr := nf (x.1 * y.1) (x.2 * y.2)
def ov (x y : Fr) : Fr := nf (x.1 * y.2) (x.2 * y.1)
def lt (x y : Fr) : Bool := decide (x.1 * y.2 < y.1 * x.2)
theorem un_ne (hx : Fk k x) (hy : Fk l y) : x.2 * y.2 ≠ 0 := Int.ne_of_gt (Int.mul_pos hx.pos hy.pos)
theorem pl_fk (hx : Fk k x) (hy : Fk l y) : Fk (k + l + 1) (pl x y) :=
  nf_fk (un_ne hx hy) ((hx.top.mul hy.und).add (hy.top.mul hx.und) (by omega) (by omega)) ((hx.und.mul hy.und).mono (by omega))
theorem mi_fk (hx : Fk k x) (hy : Fk l y) : Fk (k + l + 1) (mi x y) :=
  nf_fk (un_ne hx hy) ((hx.top.mul hy.und).sub (hy.top.mul hx.und) (by omega) (by omega)) ((hx.und.mul hy.und).mono (by omega))
theorem ti_fk (hx : Fk k x) (hy : Fk l y) : Fk (k + l) (ti x y) := nf_fk (un_ne hx hy) (hx.top.mul hy.top) (hx.und.mul hy.und)
theorem ov_ne (hx : Fk k x) (h0 : y.1 ≠ 0) : x.2 * y.1 ≠ 0 := by
  intro z
  rcases Int.mul_eq_zero.mp z with z | z
  · have := hx.pos
    omega
  · exact h0 z
theorem ov_fk (hx : Fk k x) (hy : Fk l y) (h0 : y.1 ≠ 0) : Fk (k + l) (ov x y) := nf_fk (ov_ne hx h0) (hx.top.mul hy.und) (hx.und.mul hy.top)
theorem plus_ok (hx : Fk k x) (hy : Fk l y) (h : k + l + 1 ≤ 4000) : run pg (n + 3) 8 [x.mv, y.mv] M = .ok (pl x y).mv M := by
  rw [show run pg (n + 3) 8 [x.mv, y.mv] M = _ from (show IsD pg 8 2 2 b_8 from ⟨d_8, rfl, rfl, rfl, rfl⟩).go rfl]
  have q := low_ok (n := n) (M := M) (un_ne hx hy) (((hx.top.mul hy.und).add (hy.top.mul hx.und) (j := k + l + 1) (by omega) (by omega)).mono h) ((hx.und.mul hy.und).mono (by omega))
  simp [b_8, Fr.mv, o_mul _ (hx.top.mulOk hy.und (by omega)), o_mul _ (hy.top.mulOk hx.und (by omega)), o_mul _ (hx.und.mulOk hy.und (by omega)), argAt, q, pl]
theorem lplus_ok (hx : Fk k x) (hy : Fk l y) (h : k + l + 1 ≤ 4000) : run pg (n + 3) 31 [x.mv, y.mv] M = .ok (pl x y).mv M := by
  rw [show run pg (n + 3) 31 [x.mv, y.mv] M = _ from (show IsD pg 31 2 2 b_31 from ⟨d_31, rfl, rfl, rfl, rfl⟩).go rfl]
  have q := by_ok (n := n) (M := M) (un_ne hx hy) (((hx.top.mul hy.und).add (hy.top.mul hx.und) (j := k + l + 1) (by omega) (by omega)).mono h) ((hx.und.mul hy.und).mono (by omega))
  simp [b_31, Fr.mv, o_mul _ (hx.top.mulOk hy.und (by omega)), o_mul _ (hy.top.mulOk hx.und (by omega)), o_mul _ (hx.und.mulOk hy.und (by omega)), argAt, q, pl]
theorem minus_ok (hx : Fk k x) (hy : Fk l y) (h : k + l + 1 ≤ 4000) : run pg (n + 3) 9 [x.mv, y.mv] M = .ok (mi x y).mv M := by
  rw [show run pg (n + 3) 9 [x.mv, y.mv] M = _ from (show IsD pg 9 2 2 b_9 from ⟨d_9, rfl, rfl, rfl, rfl⟩).go rfl]
  have q := low_ok (n := n) (M := M) (un_ne hx hy) (((hx.top.mul hy.und).sub (hy.top.mul hx.und) (j := k + l + 1) (by omega) (by omega)).mono h) ((hx.und.mul hy.und).mono (by omega))
  simp [b_9, Fr.mv, o_mul _ (hx.top.mulOk hy.und (by omega)), o_mul _ (hy.top.mulOk hx.und (by omega)), o_mul _ (hx.und.mulOk hy.und (by omega)), argAt, q, mi]
theorem lminus_ok (hx : Fk k x) (hy : Fk l y) (h : k + l + 1 ≤ 4000) : run pg (n + 3) 32 [x.mv, y.mv] M = .ok (mi x y).mv M := by
  rw [show run pg (n + 3) 32 [x.mv, y.mv] M = _ from (show IsD pg 32 2 2 b_32 from ⟨d_32, rfl, rfl, rfl, rfl⟩).go rfl]
  have q := by_ok (n := n) (M := M) (un_ne hx hy) (((hx.top.mul hy.und).sub (hy.top.mul hx.und) (j := k + l + 1) (by omega) (by omega)).mono h) ((hx.und.mul hy.und).mono (by omega))
  simp [b_32, Fr.mv, o_mul _ (hx.top.mulOk hy.und (by omega)), o_mul _ (hy.top.mulOk hx.und (by omega)), o_mul _ (hx.und.mulOk hy.und (by omega)), argAt, q, mi]
theorem times_ok (hx : Fk k x) (hy : Fk l y) (h : k + l + 1 ≤ 4000) : run pg (n + 3) 10 [x.mv, y.mv] M = .ok (ti x y).mv M := by
  rw [show run pg (n + 3) 10 [x.mv, y.mv] M = _ from (show IsD pg 10 2 2 b_10 from ⟨d_10, rfl, rfl, rfl, rfl⟩).go rfl]
  have q := low_ok (n := n) (M := M) (un_ne hx hy) ((hx.top.mul hy.top).mono (by omega)) ((hx.und.mul hy.und).mono (by omega))
  simp [b_10, Fr.mv, o_mul _ (hx.top.mulOk hy.top (by omega)), o_mul _ (hx.und.mulOk hy.und (by omega)), argAt, q, ti]
theorem ltimes_ok (hx : Fk k x) (hy : Fk l y) (h : k + l + 1 ≤ 4000) : run pg (n + 3) 33 [x.mv, y.mv] M = .ok (ti x y).mv M := by
  rw [show run pg (n + 3) 33 [x.mv, y.mv] M = _ from (show IsD pg 33 2 2 b_33 from ⟨d_33, rfl, rfl, rfl, rfl⟩).go rfl]
  have q := by_ok (n := n) (M := M) (un_ne hx hy) ((hx.top.mul hy.top).mono (by omega)) ((hx.und.mul hy.und).mono (by omega))
  simp [b_33, Fr.mv, o_mul _ (hx.top.mulOk hy.top (by omega)), o_mul _ (hx.und.mulOk hy.und (by omega)), argAt, q, ti]
theorem over_ok (hx : Fk k x) (hy : Fk l y) (h : k + l + 1 ≤ 4000) (h0 : y.1 ≠ 0) : run pg (n + 3) 11 [x.mv, y.mv] M = .ok (ov x y).mv M := by
  rw [show run pg (n + 3) 11 [x.mv, y.mv] M = _ from (show IsD pg 11 2 2 b_11 from ⟨d_11, rfl, rfl, rfl, rfl⟩).go rfl]
  have q := low_ok (n := n) (M := M) (ov_ne hx h0) ((hx.top.mul hy.und).mono (by omega)) ((hx.und.mul hy.top).mono (by omega))
  simp [b_11, Fr.mv, o_mul _ (hx.top.mulOk hy.und (by omega)), o_mul _ (hx.und.mulOk hy.top (by omega)), argAt, q, ov]
theorem lover_ok (hx : Fk k x) (hy : Fk l y) (h : k + l + 1 ≤ 4000) (h0 : y.1 ≠ 0) : run pg (n + 3) 34 [x.mv, y.mv] M = .ok (ov x y).mv M := by
  rw [show run pg (n + 3) 34 [x.mv, y.mv] M = _ from (show IsD pg 34 2 2 b_34 from ⟨d_34, rfl, rfl, rfl, rfl⟩).go rfl]
  have q := by_ok (n := n) (M := M) (ov_ne hx h0) ((hx.top.mul hy.und).mono (by omega)) ((hx.und.mul hy.top).mono (by omega))
  simp [b_34, Fr.mv, o_mul _ (hx.top.mulOk hy.und (by omega)), o_mul _ (hx.und.mulOk hy.top (by omega)), argAt, q, ov]
theorem below_ok (hx1 : Sz k x.1) (hx2 : Sz k x.2) (hy1 : Sz l y.1) (hy2 : Sz l y.2) (h : k + l ≤ 9000) : run pg (n + 1) 12 [x.mv, y.mv] M = .ok (.bl (lt x y)) M := by
  rw [show run pg (n + 1) 12 [x.mv, y.mv] M = _ from (show IsD pg 12 2 2 b_12 from ⟨d_12, rfl, rfl, rfl, rfl⟩).go rfl]
  simp [b_12, Fr.mv, o_mul _ (hx1.mulOk hy2 (by omega)), o_mul _ (hy1.mulOk hx2 (by omega)), lt]
theorem lless_ok (hx1 : Sz k x.1) (hx2 : Sz k x.2) (hy1 : Sz l y.1) (hy2 : Sz l y.2) (h : k + l ≤ 9000) : run pg (n + 1) 35 [x.mv, y.mv] M = .ok (.bl (lt x y)) M := by
  rw [show run pg (n + 1) 35 [x.mv, y.mv] M = _ from (show IsD pg 35 2 2 b_35 from ⟨d_35, rfl, rfl, rfl, rfl⟩).go rfl]
  simp [b_35, Fr.mv, o_mul _ (hx1.mulOk hy2 (by omega)), o_mul _ (hy1.mulOk hx2 (by omega)), lt]
end

/-! ### what is a number, a fraction -/
def isN : MV → Bool
  | .int _ => true
  | _ => false
def isFr : MV → Bool
  | .tup [.int a, .int b] => decide (0 < b) && (Int.gcd a b == 1)
  | _ => false
/-- the numbers of a pair are not too great -/
def FrSz (v : MV) : Prop := ∀ a b, v = .tup [.int a, .int b] → Sz 4000 a ∧ Sz 4000 b
section
variable {n : Nat} {M : MH}
theorem isnum_ok (v : MV) : run pg (n + 1) 0 [v] M = .ok (.bl (isN v)) M := by
  rw [show run pg (n + 1) 0 [v] M = _ from (show IsD pg 0 1 1 b_0 from ⟨d_0, rfl, rfl, rfl, rfl⟩).go rfl]
  cases v <;> simp [b_0, isiM, tyOfM, isN]
theorem lisnum_ok (v : MV) : run pg (n + 1) 37 [v] M = .ok (.bl (isN v)) M := by
  rw [show run pg (n + 1) 37 [v] M = _ from (show IsD pg 37 1 1 b_37 from ⟨d_37, rfl, rfl, rfl, rfl⟩).go rfl]
  cases v <;> simp [b_37, isiM, tyOfM, isN]
theorem iscount_ok (v : MV) (k : Int) : run pg (n + 2) 1 [v, .int k] M = .ok (.bl (match v with
    | .int i => decide (k ≤ i)
    | _ => false)) M := by
  rw [show run pg (n + 2) 1 [v, .int k] M = _ from (show IsD pg 1 2 2 b_1 from ⟨d_1, rfl, rfl, rfl, rfl⟩).go rfl]
  cases v <;> simp [b_1, argAt, isnum_ok, isN]
theorem gcd_nat_abs {a b : Int} (hb : 0 < b) : Int.gcd (a.natAbs : Int) b = Int.gcd a b := by
  unfold Int.gcd
  rw [Int.natAbs_natCast]
theorem beq_int_nat (x : Nat) : (((x : Nat) : Int) == 1) = (x == 1) := by
  by_cases h : x = 1
  · subst h
    rfl
  · have h2 : ((x : Nat) : Int) ≠ 1 := by omega
    rw [beq_eq_false_iff_ne.mpr h2, beq_eq_false_iff_ne.mpr h]
theorem isfr_ok {v : MV} (hz : FrSz v) : run pg (n + 3) 4 [v] M = .ok (.bl (isFr v)) M := by
  rw [show run pg (n + 3) 4 [v] M = _ from (show IsD pg 4 1 1 b_4 from ⟨d_4, rfl, rfl, rfl, rfl⟩).go rfl]
  cases v with
  | tup xs =>
    match xs, hz with
    | [], _ => simp [b_4, isiM, tyOfM, isFr]
    | [a], _ => simp [b_4, isiM, tyOfM, isFr]
    | [a, b], hz =>
      cases a with
      | int a =>
        cases b with
        | int b =>
          obtain ⟨ha, hb⟩ := hz a b rfl
          by_cases h : 1 ≤ b
          · have q := gcd2.run (n + 1) M (a.natAbs : Int) b (Int.natCast_nonneg _) (by omega) ha.nat hb
            rw [gcd_nat_abs (by omega)] at q
            simp [b_4, isiM, tyOfM, isFr, argAt, isnum_ok, iscount_ok, isN, h, q, show 0 < b by omega, beq_int_nat]
          · have h' : decide (1 ≤ b) = false := decide_eq_false h
            simp [b_4, isiM, tyOfM, isFr, argAt, isnum_ok, iscount_ok, isN, show ¬ 0 < b by omega, h']
        | _ => simp [b_4, isiM, tyOfM, isFr, argAt, isnum_ok, iscount_ok, isN]
      | _ => simp [b_4, isiM, tyOfM, isFr, argAt, isnum_ok, iscount_ok, isN]
    | a :: b :: c :: r, _ =>
      have : (((r.length : Int) + 1 + 1 + 1) == 2) = false := beq_eq_false_iff_ne.mpr (by omega)
      simp [b_4, isiM, tyOfM, isFr, this]
  | _ => simp [b_4, isiM, tyOfM, isFr]
theorem lisfr_ok {v : MV} (hz : FrSz v) : run pg (n + 3) 38 [v] M = .ok (.bl (isFr v)) M := by
  rw [show run pg (n + 3) 38 [v] M = _ from (show IsD pg 38 1 1 b_38 from ⟨d_38, rfl, rfl, rfl, rfl⟩).go rfl]
  cases v with
  | tup xs =>
    match xs, hz with
    | [], _ => simp [b_38, isiM, tyOfM, isFr]
    | [a], _ => simp [b_38, isiM, tyOfM, isFr]
    | [a, b], hz =>
      cases a with
      | int a =>
        cases b with
        | int b =>
          obtain ⟨ha, hb⟩ := hz a b rfl
          by_cases h : 0 < b
          · have q := gcd29.run (n + 1) M (a.natAbs : Int) b (Int.natCast_nonneg _) (by omega) ha.nat hb
            rw [gcd_nat_abs (by omega)] at q
            simp [b_38, isiM, tyOfM, isFr, argAt, lisnum_ok, isN, h, q, beq_int_nat]
          · simp [b_38, isiM, tyOfM, isFr, argAt, lisnum_ok, isN, h]
        | _ => simp [b_38, isiM, tyOfM, isFr, argAt, lisnum_ok, isN]
      | _ => simp [b_38, isiM, tyOfM, isFr, argAt, lisnum_ok, isN]
    | a :: b :: c :: r, _ =>
      have : (((r.length : Int) + 1 + 1 + 1) == 2) = false := beq_eq_false_iff_ne.mpr (by omega)
      simp [b_38, isiM, tyOfM, isFr, this]
  | _ => simp [b_38, isiM, tyOfM, isFr]
theorem FrSz.of {k : Nat} {x : Fr} (h : Fk k x) (hk : k ≤ 4000) : FrSz x.mv := by
  intro a b e
  obtain ⟨rfl, rfl⟩ : x.1 = a ∧ x.2 = b := by simpa [Fr.mv] using e
  exact ⟨h.top.mono hk, h.und.mono hk⟩
theorem isFr_mv {k : Nat} {x : Fr} (h : Fk k x) : isFr x.mv = true := by
  show (decide (0 < x.2) && (Int.gcd x.1 x.2 == 1)) = true
  simp [h.pos, h.low]
variable {k l : Nat} {x y : Fr}
theorem look_ok (h : Fk k x) (hk : k ≤ 4000) : run pg (n + 4) 5 [x.mv] M = .ok .non M := by
  rw [show run pg (n + 4) 5 [x.mv] M = _ from (show IsD pg 5 1 1 b_5 from ⟨d_5, rfl, rfl, rfl, rfl⟩).go rfl]
  simp [b_5, argAt, isfr_ok (FrSz.of h hk), isFr_mv h]
theorem look2_ok (h : Fk k x) (g : Fk l y) (hk : k ≤ 4000) (hl : l ≤ 4000) : run pg (n + 5) 16 [x.mv, y.mv] M = .ok .non M := by
  rw [show run pg (n + 5) 16 [x.mv, y.mv] M = _ from (show IsD pg 16 2 2 b_16 from ⟨d_16, rfl, rfl, rfl, rfl⟩).go rfl]
  simp [b_16, argAt, look_ok h hk, look_ok g hl]
theorem less_ok (h : Fk k x) (g : Fk l y) (hk : k + l + 1 ≤ 4000) : run pg (n + 6) 17 [x.mv, y.mv] M = .ok (mi x y).mv M := by
  rw [show run pg (n + 6) 17 [x.mv, y.mv] M = _ from (show IsD pg 17 2 2 b_17 from ⟨d_17, rfl, rfl, rfl, rfl⟩).go rfl]
  simp [b_17, argAt, look2_ok h g (by omega) (by omega), minus_ok h g hk]
theorem isless_ok (h : Fk k x) (g : Fk l y) (hk : k + l + 1 ≤ 4000) : run pg (n + 6) 19 [x.mv, y.mv] M = .ok (.bl (lt x y)) M := by
  rw [show run pg (n + 6) 19 [x.mv, y.mv] M = _ from (show IsD pg 19 2 2 b_19 from ⟨d_19, rfl, rfl, rfl, rfl⟩).go rfl]
  simp [b_19, argAt, look2_ok h g (by omega) (by omega), below_ok h.top h.und g.top g.und (by omega)]
theorem fracof_ok {a b : Int} (hb : b ≠ 0) (h1 : Sz 4000 a) (h2 : Sz 4000 b) : run pg (n + 4) 7 [.int a, .int b] M = .ok (nf a b).mv M := by
  rw [show run pg (n + 4) 7 [.int a, .int b] M = _ from (show IsD pg 7 2 2 b_7 from ⟨d_7, rfl, rfl, rfl, rfl⟩).go rfl]
  have hb' : (b == 0) = false := beq_eq_false_iff_ne.mpr hb
  simp [b_7, argAt, isnum_ok, isN, hb', low_ok hb h1 h2]
end
end K01

set_option Elab.async false
set_option linter.all false
set_option maxRecDepth 100000
set_option autoImplicit false
set_option maxHeartbeats 4000000
/-! k01, the plain law, part 2: two fractions; lists. -/
namespace K01
open PySem MP

theorem eqM_pair {M : MH} {a b c d : Int} : eqM M (.tup [.int a, .int b]) (.tup [.int c, .int d]) = some (a == c && b == d) := by
  simp [eqM, pd, pdDepth, SeqAt.shaped, PyData.eqv, PyData.eqvAll, PyData.canLay0, PyData.canLayAll0, PyData.depth, PyData.depthAll]
theorem nf_scale {a b c : Int} (hc : 0 < c) : nf (a * c) (b * c) = nf a b := by
  have e : ((Int.gcd (a * c) (b * c) : Nat) : Int) = (Int.gcd a b : Int) * c := by
    rw [Int.gcd_mul_right, Int.natCast_mul, Int.natAbs_of_nonneg (by omega)]
  unfold nf
  have hs : (0 < b * c) ↔ 0 < b := ⟨fun h => by
    by_cases hb : 0 < b
    · exact hb
    · have := Int.mul_nonneg (show 0 ≤ -b by omega) (show 0 ≤ c by omega)
      rw [Int.neg_mul] at this
      omega, fun h => Int.mul_pos h hc⟩
  rw [e]
  by_cases h : 0 < b
  · rw [if_pos h, if_pos (hs.mpr h), Int.mul_ediv_mul_of_pos_left _ _ hc, Int.mul_ediv_mul_of_pos_left _ _ hc]
  · rw [if_neg h, if_neg (fun z => h (hs.mp z)), ← Int.neg_mul, ← Int.neg_mul, Int.mul_ediv_mul_of_pos_left _ _ hc, Int.mul_ediv_mul_of_pos_left _ _ hc]
theorem nf_neg {a b : Int} (hb : b ≠ 0) : nf (-a) (-b) = nf a b := by
  unfold nf
  rw [Int.gcd_neg, Int.neg_gcd, Int.neg_neg, Int.neg_neg]
  by_cases h : 0 < b
  · rw [if_neg (by omega), if_pos h]
  · rw [if_pos (by omega), if_neg h]
theorem Like.bl {M : MH} {d : Nat} (b : Bool) : Like M (d + 1) (.bl b) (.bl b) := rfl
theorem Like.two {M : MH} {d a b : Nat} {u1 u2 v1 v2 : MV} (h1 : M[a]? = some [u1, u2]) (h2 : M[b]? = some [v1, v2]) (r1 : Like M d u1 v1) (r2 : Like M d u2 v2) : Like M (d + 1) (.lst a) (.lst b) := by
  refine ⟨a, _, _, rfl, h1, h2, rfl, by simp, fun i x y e1 e2 => ?_⟩
  match i, e1, e2 with
  | 0, e1, e2 => cases e1; cases e2; exact r1
  | 1, e1, e2 => cases e1; cases e2; exact r2
  | i + 2, e1, e2 => simp at e1
section
variable {n k : Nat} {M : MH} {x y : Fr}
theorem share_ok (hx : Fk k x) (hy : Fk k y) (h : k + k + 1 ≤ 4000) (h0 : y.1 ≠ 0) : run pg (n + 6) 18 [x.mv, y.mv] M = .ok (ov x y).mv M := by
  rw [show run pg (n + 6) 18 [x.mv, y.mv] M = _ from (show IsD pg 18 2 2 b_18 from ⟨d_18, rfl, rfl, rfl, rfl⟩).go rfl]
  have e : (y.1 == 0) = false := beq_eq_false_iff_ne.mpr h0
  have e2 : eqM M y.mv (.tup [.int 0, .int 1]) = some false := by
    show eqM M (.tup [.int y.1, .int y.2]) (.tup [.int 0, .int 1]) = _
    rw [eqM_pair, e]
    rfl
  simp [b_18, argAt, look2_ok hx hy (by omega) (by omega), e_glo _ _ M (gl_0 _), e2, over_ok hx hy h h0]
theorem two_ok (hx : Fk k x) (hy : Fk k y) (h : k + k + 10 ≤ 4000) : ∃ M', run pg (n + 12) 28 [x.mv, y.mv] M = .ok (.bl true) M' ∧ App M M' := by
  rw [show run pg (n + 12) 28 [x.mv, y.mv] M = _ from (show IsD pg 28 2 4 b_28 from ⟨d_28, rfl, rfl, rfl, rfl⟩).go rfl]
  -- the lists, one behind another
  obtain ⟨due, hdue⟩ : ∃ due : List MV, due = [(mi x y).mv, .bl (lt x y)] := ⟨_, rfl⟩
  obtain ⟨M1, hM1⟩ : ∃ M1, M1 = M ++ [due] := ⟨_, rfl⟩
  have a1 : App M M1 := by
    rw [hM1]
    exact App.one
  have g1 : M1[M.length]? = some due := by
    rw [hM1]
    exact get_new
  have s1 : ∀ N : MH, N[M.length]? = some due → ∃ N', run pg (n + 11) 39 [.lst N.length, .lst M.length] (N ++ [due]) = .ok (.bl true) N' ∧ App N N' := by
    intro N hN
    obtain ⟨N', e, a⟩ := same_ (n := n + 8) (d := 3) (M := N ++ [due]) (u := .lst N.length) (v := .lst M.length) (by
      have q1 : (N ++ [due])[N.length]? = some due := get_new
      have q2 : (N ++ [due])[M.length]? = some due := App.one.get hN
      rw [hdue] at q1 q2 ⊢
      exact Like.two q1 q2 (Like.fr _) (Like.bl _))
    exact ⟨N', e, App.one.trans a⟩
  obtain ⟨M3, e3, a3⟩ := s1 _ g1
  obtain ⟨M5, e5, a5⟩ := s1 _ (a3.get g1)
  rw [hdue] at e3 e5
  have p1 := a1.trans (a3.trans a5)
  -- the shares
  obtain ⟨sh, hsh⟩ : ∃ sh : List MV, sh = [(ov x y).mv, (ov x y).mv] := ⟨_, rfl⟩
  have s2 : ∃ M6, (y.1 ≠ 0 → run pg (n + 11) 39 [.lst M5.length, .lst (M5 ++ [sh] ++ [[(ov x y).mv]]).length] (M5 ++ [sh] ++ [[(ov x y).mv]] ++ [sh]) = .ok (.bl true) M6) ∧ App M5 M6 := by
    obtain ⟨N', e, a⟩ := same_ (n := n + 8) (d := 3) (M := M5 ++ [sh] ++ [[(ov x y).mv]] ++ [sh]) (u := .lst M5.length) (v := .lst (M5 ++ [sh] ++ [[(ov x y).mv]]).length) (by
      have q1 : (M5 ++ [sh] ++ [[(ov x y).mv]] ++ [sh])[M5.length]? = some sh := App.one.get (App.one.get get_new)
      have q2 : (M5 ++ [sh] ++ [[(ov x y).mv]] ++ [sh])[(M5 ++ [sh] ++ [[(ov x y).mv]]).length]? = some sh := get_new
      rw [hsh] at q1 q2 ⊢
      exact Like.two q1 q2 (Like.fr _) (Like.fr _))
    exact ⟨N', fun _ => e, App.one.trans (App.one.trans (App.one.trans a))⟩
  obtain ⟨M6, e6, a6⟩ := s2
  obtain ⟨M7, hM7⟩ : ∃ M7, M7 = if y.1 = 0 then M5 else M6 := ⟨_, rfl⟩
  have a7 : App M5 M7 := by
    rw [hM7]
    split
    · exact App.refl
    · exact a6
  -- of numbers
  have f1 : nf (x.1 * 6) (x.2 * 6) = x := by rw [nf_scale (by decide), nf_low hx.pos hx.low]
  have f2 : nf (x.1 * 4) (0 - x.2 * 4) = nf (0 - x.1) x.2 := by
    have h4 : x.2 * 4 ≠ 0 := by
      have := hx.pos
      omega
    rw [Int.zero_sub, Int.zero_sub, ← nf_neg (a := x.1 * 4) (by omega), Int.neg_neg, ← Int.neg_mul, nf_scale (by decide)]
  obtain ⟨tl, htl⟩ : ∃ tl : List MV, tl = [x.mv, (nf (0 - x.1) x.2).mv] := ⟨_, rfl⟩
  obtain ⟨M9, e9, a9⟩ := same_ (n := n + 8) (d := 3) (M := M7 ++ [tl] ++ [tl]) (u := .lst M7.length) (v := .lst (M7 ++ [tl]).length) (by
    have q1 : (M7 ++ [tl] ++ [tl])[M7.length]? = some tl := App.one.get get_new
    have q2 : (M7 ++ [tl] ++ [tl])[(M7 ++ [tl]).length]? = some tl := get_new
    rw [htl] at q1 q2 ⊢
    exact Like.two q1 q2 (Like.fr _) (Like.fr _))
  refine ⟨M9, ?_, p1.trans (a7.trans (App.one.trans (App.one.trans a9)))⟩
  unfold b_28
  have s4 : Sz 4000 (x.1 * 4) := (hx.top.mul (l := 3) (y := 4) (by unfold Sz; decide)).mono (by omega)
  have s5 : Sz 4000 (x.2 * 4) := (hx.und.mul (l := 3) (y := 4) (by unfold Sz; decide)).mono (by omega)
  have s6 : Sz 4000 (x.1 * 6) := (hx.top.mul (l := 3) (y := 6) (by unfold Sz; decide)).mono (by omega)
  have s7 : Sz 4000 (x.2 * 6) := (hx.und.mul (l := 3) (y := 6) (by unfold Sz; decide)).mono (by omega)
  have hp := hx.pos
  have x0 : idxop x.mv (.int 0) = fun M => .ok (.int x.1) M := by
    funext M
    exact ixT0 M _ _
  have x1 : idxop x.mv (.int 1) = fun M => .ok (.int x.2) M := by
    funext M
    exact ixT1 M _ _ _
  have y0 : idxop y.mv (.int 0) = fun M => .ok (.int y.1) M := by
    funext M
    exact ixT0 M _ _
  have m64 := hx.top.mulOk (y := 6) (l := 3) (by unfold Sz; decide) (by omega)
  have m65 := hx.und.mulOk (y := 6) (l := 3) (by unfold Sz; decide) (by omega)
  have m44 := hx.top.mulOk (y := 4) (l := 3) (by unfold Sz; decide) (by omega)
  have m45 := hx.und.mulOk (y := 4) (l := 3) (by unfold Sz; decide) (by omega)
  have q6 := fracof_ok (n := n + 7) (M := M7) (show x.2 * 6 ≠ 0 by omega) s6 s7
  have q4 := fracof_ok (n := n + 7) (M := M7) (show 0 - x.2 * 4 ≠ 0 by omega) s4 (by rw [Int.zero_sub]; exact s5.neg)
  have qb := by_ok (n := n + 9) (M := M7 ++ [tl]) (show x.2 ≠ 0 by omega) (show Sz 4000 (0 - x.1) by rw [Int.zero_sub]; exact hx.top.neg.mono (by omega)) (hx.und.mono (by omega))
  rw [f1] at q6
  rw [f2] at q4
  refine fin_cons (m' := [some x.mv, some y.mv, some (.lst M.length), none]) (M1 := M1) ?_ ?_
  · rw [hM1, hdue]
    simp [argAt, lminus_ok hx hy (by omega), lless_ok hx.top hx.und hy.top hy.und (by omega)]
  refine fin_cons (m' := [some x.mv, some y.mv, some (.lst M.length), none]) (M1 := M5) ?_ ?_
  · simp [argAt, less_ok hx hy (by omega), isless_ok hx hy (by omega), e3, e5]
  refine fin_cons (m' := [some x.mv, some y.mv, some (.lst M.length), none]) (M1 := M7) ?_ ?_
  · rw [hsh] at e6
    by_cases h0 : y.1 = 0
    · rw [hM7, if_pos h0]
      simp [y0, h0]
    · rw [hM7, if_neg h0]
      have h0' : (y.1 == 0) = false := beq_eq_false_iff_ne.mpr h0
      have e6' := e6 h0
      have ml : binop .mul (.lst (M5 ++ [[(ov x y).mv, (ov x y).mv]]).length) (.int 2) (M5 ++ [[(ov x y).mv, (ov x y).mv]] ++ [[(ov x y).mv]]) = newL [(ov x y).mv, (ov x y).mv] _ := mul_l2 get_new
      simp only [k_newL] at ml
      simp [-List.append_assoc, -List.length_append, argAt, y0, h0', share_ok hx hy (by omega) h0, lover_ok hx hy (by omega) h0, ml, e6']
  refine fin_cons (m' := [some x.mv, some y.mv, some (.lst M.length), some (.lst M7.length)]) (M1 := M7 ++ [tl]) ?_ ?_
  · rw [htl]
    simp [-Int.zero_sub, argAt, x0, x1, o_mul _ m64, o_mul _ m65, o_mul _ m44, o_mul _ m45, q6, q4]
  refine fin_ret (m' := [some x.mv, some y.mv, some (.lst M.length), some (.lst M7.length)]) ?_
  rw [htl] at e9 qb ⊢
  simp [-List.append_assoc, -List.length_append, -Int.zero_sub, argAt, x0, x1, qb, e9]
end
end K01

set_option Elab.async false
set_option linter.all false
set_option maxRecDepth 100000
set_option autoImplicit false
set_option maxHeartbeats 4000000
/-! k01, the plain law, part 3: lists of fractions; draws of numbers. -/
namespace K01
open PySem MP

def mvs (xs : List Fr) : List MV := xs.map Fr.mv
section
variable {n q f : Nat} {M : MH} {xs : List Fr}
theorem fold_ok {g : Fr → Fr → Fr} {z : Fr} (arr : (cfg pg n).arr f 0 = some [.at 0, .at 1]) (hg : ∀ k l x y, Fk k x → Fk l y → k + l + 1 ≤ 4000 → run pg n f [x.mv, y.mv] M = .ok (g x y).mv M ∧ Fk (k + l + 1) (g x y)) (hz : Fk 2 z) (hq : M[q]? = some (mvs xs)) (hl : xs.length ≤ 20) (hx : ∀ x ∈ xs, Fk 150 x) :
    ∃ w, forL (.ls (.lst q)) (fturn (cfg pg n) (.nm 2) (.cons (.asg (.nm 1) (.cal f 0 (.cons (.var 1) (.cons (.var 2) .nil)) .nil)) .nil)) pg.most 0 [some (.lst q), some z.mv, none] M = .ok (.nx, [some (.lst q), some (xs.foldl g z).mv, w]) M ∧ Fk 4000 (xs.foldl g z) := by
  obtain ⟨m', M', h1, w, h2, h3, h4⟩ := forL_inv (s := .ls (.lst q)) (f := fturn (cfg pg n) (.nm 2) (.cons (.asg (.nm 1) (.cal f 0 (.cons (.var 1) (.cons (.var 2) .nil)) .nil)) .nil)) (N := xs.length)
    (fun i m N => ∃ w, m = [some (.lst q), some ((xs.take i).foldl g z).mv, w] ∧ N = M ∧ Fk (2 + 151 * i) ((xs.take i).foldl g z)) (by
      rintro i m N hi ⟨w, rfl, rfl, hk⟩
      have e : xs.take (i + 1) = xs.take i ++ [xs[i]] := by rw [List.take_succ, List.getElem?_eq_getElem hi]; rfl
      have e2 : (xs.take (i + 1)).foldl g z = g ((xs.take i).foldl g z) xs[i] := by rw [e, List.foldl_append]; rfl
      obtain ⟨r1, r2⟩ := hg _ _ _ _ hk (hx xs[i] (List.getElem_mem hi)) (by omega)
      refine ⟨?_, (xs[i]).mv, [some (.lst q), some ((xs.take (i + 1)).foldl g z).mv, some (xs[i]).mv], N, ?_, ?_, _, rfl, rfl, ?_⟩
      · rw [ls_stop hq]
        exact decide_eq_false (by simp [mvs]; omega)
      · rw [ls_item hq]
        unfold mvs
        rw [List.getElem?_map, List.getElem?_eq_getElem hi]
        rfl
      · unfold fturn
        rw [tgN]
        rw [e2]
        simp [arr, argAt, r1]
      · rw [e2]
        have : 2 + 151 * (i + 1) = 2 + 151 * i + 150 + 1 := by omega
        rw [this]
        exact r2) (by
      rintro m N ⟨w, rfl, rfl, hk⟩
      rw [ls_stop hq]
      exact decide_eq_true (by simp [mvs])) pg.most 0 [some (.lst q), some z.mv, none] M (by show xs.length < 1000001 + 0; omega) (by omega) ⟨none, rfl, rfl, hz⟩
  rw [List.take_length] at h2 h4
  subst h2 h3
  exact ⟨w, h1, ⟨h4.top.mono (by omega), h4.und.mono (by omega), h4.pos, h4.low⟩⟩
def zer : Fr := (0, 1)
def one : Fr := (1, 1)
theorem zer_fk : Fk 2 zer := ⟨by unfold Sz zer; decide, by unfold Sz zer; decide, by decide, by decide⟩
theorem one_fk : Fk 2 one := ⟨by unfold Sz one; decide, by unfold Sz one; decide, by decide, by decide⟩
variable (hq : M[q]? = some (mvs xs)) (hl : xs.length ≤ 20) (hx : ∀ x ∈ xs, Fk 150 x)
include hq hl hx
theorem lsum_ok : run pg (n + 4) 36 [.lst q] M = .ok (xs.foldl pl zer).mv M := by
  rw [show run pg (n + 4) 36 [.lst q] M = _ from (show IsD pg 36 1 3 b_36 from ⟨d_36, rfl, rfl, rfl, rfl⟩).go rfl]
  obtain ⟨w, h1, _⟩ := fold_ok (n := n + 3) (f := 31) (g := pl) rfl (fun k l x y h1 h2 h3 => ⟨lplus_ok h1 h2 h3, pl_fk h1 h2⟩) zer_fk hq hl hx
  have e : zer.mv = .tup [.int 0, .int 1] := rfl
  rw [e] at h1
  simp [b_36, seqL hq, kfor, h1]
theorem total_ok : run pg (n + 4) 13 [.lst q] M = .ok (xs.foldl pl zer).mv M := by
  rw [show run pg (n + 4) 13 [.lst q] M = _ from (show IsD pg 13 1 3 b_13 from ⟨d_13, rfl, rfl, rfl, rfl⟩).go rfl]
  obtain ⟨w, h1, _⟩ := fold_ok (n := n + 3) (f := 8) (g := pl) rfl (fun k l x y h1 h2 h3 => ⟨plus_ok h1 h2 h3, pl_fk h1 h2⟩) zer_fk hq hl hx
  have e : zer.mv = .tup [.int 0, .int 1] := rfl
  rw [e] at h1
  simp [b_13, e_glo _ _ M (gl_0 _), seqL hq, kfor, h1]
theorem arefr_ok : ∃ M', run pg (n + 4) 6 [.lst q] M = .ok (.bl true) M' ∧ App M M' := by
  rw [show run pg (n + 4) 6 [.lst q] M = _ from (show IsD pg 6 1 2 b_6 from ⟨d_6, rfl, rfl, rfl, rfl⟩).go rfl]
  obtain ⟨acc, M', h1, h2, h3⟩ := comL_inv (s := .ls (.lst q)) (f := turn (cfg pg (n + 3)) (.nm 1) none (.cal 4 0 (.cons (.var 1) .nil) .nil) [some (.lst q), none]) (N := xs.length) (fun i acc N => N = M ∧ acc = List.replicate i (.bl true)) (by
      rintro i acc N hi ⟨rfl, rfl⟩
      have hk := hx xs[i] (List.getElem_mem hi)
      refine ⟨?_, (xs[i]).mv, some (.bl true), N, ?_, ?_, ?_, rfl, ?_⟩
      · rw [ls_stop hq]
        exact decide_eq_false (by simp [mvs]; omega)
      · rw [ls_item hq]
        unfold mvs
        rw [List.getElem?_map, List.getElem?_eq_getElem hi]
        rfl
      · unfold turn
        rw [tgN]
        simp [argAt, Tg.own, wip, isfr_ok (FrSz.of hk (by omega)), isFr_mv hk]
      · rw [List.length_replicate]
        unfold lim
        omega
      · rw [List.replicate_succ']
        rfl) (by
      rintro acc N ⟨rfl, rfl⟩
      rw [ls_stop hq]
      exact decide_eq_true (by simp [mvs])) pg.most 0 [] M (by show xs.length < 1000001 + 0; omega) (by omega) ⟨rfl, rfl⟩
  subst h2 h3
  refine ⟨M' ++ [List.replicate xs.length (.bl true)], ?_, App.one⟩
  simp [b_6, isiM, tyOfM, seqL hq, kcom, h1, all_rep get_new]
theorem sumof_ok : ∃ M', run pg (n + 5) 14 [.lst q] M = .ok (xs.foldl pl zer).mv M' ∧ App M M' := by
  rw [show run pg (n + 5) 14 [.lst q] M = _ from (show IsD pg 14 1 1 b_14 from ⟨d_14, rfl, rfl, rfl, rfl⟩).go rfl]
  obtain ⟨M', h1, h2⟩ := arefr_ok (n := n) hq hl hx
  refine ⟨M', ?_, h2⟩
  simp [b_14, argAt, h1, total_ok (n := n) (h2.get hq) hl hx]
theorem prodof_ok : ∃ M', run pg (n + 5) 15 [.lst q] M = .ok (xs.foldl ti one).mv M' ∧ App M M' := by
  rw [show run pg (n + 5) 15 [.lst q] M = _ from (show IsD pg 15 1 3 b_15 from ⟨d_15, rfl, rfl, rfl, rfl⟩).go rfl]
  obtain ⟨M', h1, h2⟩ := arefr_ok (n := n) hq hl hx
  refine ⟨M', ?_, h2⟩
  obtain ⟨w, h3, _⟩ := fold_ok (n := n + 4) (f := 10) (g := ti) rfl (fun k l x y h1 h2 h3 => ⟨times_ok h1 h2 h3, by
    have := ti_fk h1 h2
    exact ⟨this.top.mono (by omega), this.und.mono (by omega), this.pos, this.low⟩⟩) one_fk (h2.get hq) hl hx
  have e : one.mv = .tup [.int 1, .int 1] := rfl
  rw [e] at h3
  simp [b_15, argAt, h1, e_glo _ _ M' (gl_1 _), seqL (h2.get hq), kfor, h3]
end
end K01

set_option Elab.async false
set_option linter.all false
set_option maxRecDepth 100000
set_option autoImplicit false
set_option maxHeartbeats 4000000
/-! k01, the plain law, part 4: draws of numbers and fractions. -/
namespace K01
open PySem MP

section
variable {n p g d : Nat} {M : MH}
theorem drw {k : Int} (hp : Purse p g d M) (hd : d < 1000000) (k0 : 0 < k) (kl : k < 2 ^ 70) : ∃ t M', run pg (n + 1) 41 [.lst p, .int k] M = .ok (.int t) M' ∧ 0 ≤ t ∧ t < k ∧ Purse p g (d + 1) M' ∧ Ext p M M' ∧ M'.length = M.length :=
  draw_ok is_draw hp hd k0 (Nat.lt_of_lt_of_le (log_lt (k := 70) (by omega) (by omega)) (by omega))
theorem pck {xs : List MV} {q : Nat} (hp : Purse p g d M) (hd : d < 1000000) (hq : M[q]? = some xs) (hqp : q ≠ p) (h0 : xs ≠ []) (hl : xs.length ≤ 1000) : ∃ x M', run pg (n + 2) 42 [.lst p, .lst q] M = .ok x M' ∧ x ∈ xs ∧ Purse p g (d + 1) M' ∧ Ext p M M' ∧ M'.length = M.length :=
  pick_ok is_pick is_draw ⟨d_41, rfl, rfl⟩ hp hd hq hqp h0 hl
theorem number_ok (hp : Purse p g d M) (hd : d + 40 < 1000000) : ∃ t M', run pg (n + 3) 22 [.lst p] M = .ok (.int t) M' ∧ Sz 142 t ∧ Purse p g (d + 30) M' ∧ Ext p M M' := by
  rw [show run pg (n + 3) 22 [.lst p] M = _ from (show IsD pg 22 1 4 b_22 from ⟨d_22, rfl, rfl, rfl, rfl⟩).go rfl]
  obtain ⟨t1, M1, e1, h1, h1', p1, x1, _⟩ := drw (n := n + 1) (k := 1000000000000000000) hp (by omega) (by decide) (by decide)
  obtain ⟨t2, M2, e2, h2, h2', p2, x2, _⟩ := drw (n := n + 1) (k := 21) p1 (by omega) (by decide) (by decide)
  -- the loop
  obtain ⟨m3, M3, w1, gr, w, w2, w3, w4, p3, x3⟩ := forL_inv (s := .rg 0 t2.toNat) (f := fturn (cfg pg (n + 2)) (.nm 2) (.cons (.asg (.nm 1) (.bin .add (.bin .mul (.var 1) (.cst (.int 10))) (.cal 41 0 (.cons (.var 0) (.cons (.cst (.int 10)) .nil)) .nil))) .nil)) (N := t2.toNat)
    (fun i m N => ∃ gr w, m = [some (.lst p), some (.int gr), w, none] ∧ 0 ≤ gr ∧ Sz (61 + 4 * i) gr ∧ Purse p g (d + 2 + i) N ∧ Ext p M2 N) (by
      rintro i m N hi ⟨gr, w, rfl, hg, hs, hpu, hx⟩
      obtain ⟨t, N', e, ht, ht', hpu', hx', _⟩ := drw (n := n + 1) (k := 10) hpu (by omega) (by decide) (by decide)
      refine ⟨?_, .int (0 + i), [some (.lst p), some (.int (gr * 10 + t)), some (.int (0 + i)), none], N', ?_, ?_, _, _, rfl, by omega, ?_, hpu', hx.trans hx'⟩
      · rw [rg_stop]
        exact decide_eq_false (by omega)
      · exact rg_item _ _ hi
      · unfold fturn
        rw [tgN]
        simp [argAt, o_mul _ (hs.mulOk (y := 10) (l := 4) (by unfold Sz; decide) (by omega)), e]
      · unfold Sz at *
        have : 2 ^ (61 + 4 * (i + 1)) = 2 ^ (61 + 4 * i) * 16 := by rw [show 61 + 4 * (i + 1) = (61 + 4 * i) + 4 by omega, Nat.pow_add]
        rw [this]
        omega) (by
      rintro m N _
      rw [rg_stop]
      exact decide_eq_true (by omega)) pg.most 0 [some (.lst p), some (.int (t1 + 1)), none, none] M2 (by show t2.toNat < 1000001 + 0; omega) (by omega) ⟨_, _, rfl, by omega, by unfold Sz; omega, p2, .refl⟩
  subst w2
  have p3' : Purse p g (d + 22) M3 := p3.mono (by omega)
  obtain ⟨t4, M4, e4, h4, h4', p4, x4, _⟩ := drw (n := n + 1) (k := 12) p3' (by omega) (by decide) (by decide)
  obtain ⟨t5, M5, e5, h5, h5', p5, x5, _⟩ := drw (n := n + 1) (k := 12) p4 (by omega) (by decide) (by decide)
  obtain ⟨l6, hl6⟩ : ∃ l6 : List MV, l6 = [.int 0, .int 1, .int t4, .int t5, .int gr] := ⟨_, rfl⟩
  obtain ⟨v7, M7, e7, h7, p7, x7, _⟩ := pck (n := n) (q := M5.length) (xs := l6) (p5.app (App.one (xs := l6))) (by omega) get_new (by have := p5.lt; omega) (by rw [hl6]; simp) (by rw [hl6]; simp)
  have g3 : Sz 141 gr := w4.mono (by omega)
  obtain ⟨top, rfl, htop⟩ : ∃ top, v7 = .int top ∧ Sz 141 top := by
    rw [hl6] at h7
    simp only [List.mem_cons, List.not_mem_nil, or_false] at h7
    rcases h7 with rfl | rfl | rfl | rfl | rfl
    · exact ⟨_, rfl, by unfold Sz; decide⟩
    · exact ⟨_, rfl, by unfold Sz; decide⟩
    · exact ⟨_, rfl, by unfold Sz; omega⟩
    · exact ⟨_, rfl, by unfold Sz; omega⟩
    · exact ⟨_, rfl, g3⟩
  obtain ⟨l8, hl8⟩ : ∃ l8 : List MV, l8 = [.int top, .int (0 - top)] := ⟨_, rfl⟩
  obtain ⟨v9, M9, e9, h9, p9, x9, _⟩ := pck (n := n) (q := M7.length) (xs := l8) (p7.app (App.one (xs := l8))) (by omega) get_new (by have := p7.lt; omega) (by rw [hl8]; simp) (by rw [hl8]; simp)
  obtain ⟨t, rfl, ht⟩ : ∃ t, v9 = .int t ∧ Sz 142 t := by
    rw [hl8] at h9
    simp only [List.mem_cons, List.not_mem_nil, or_false] at h9
    rcases h9 with rfl | rfl
    · exact ⟨_, rfl, htop.mono (by omega)⟩
    · refine ⟨_, rfl, ?_⟩
      rw [Int.zero_sub]
      exact htop.neg.mono (by omega)
  refine ⟨t, M9, ?_, ht, p9.mono (by omega), ((((((x1.trans x2).trans x3).trans x4).trans x5).trans App.one.ext).trans x7).trans (App.one.ext.trans x9)⟩
  unfold b_22
  refine fin_cons (m' := [some (.lst p), some (.int (t1 + 1)), none, none]) (M1 := M1) ?_ ?_
  · simp [argAt, o_pow _ (show (0 : Int) ≤ 18 ∧ (18 : Int) ≤ 1000 ∧ (10 : Int).natAbs < 2 ^ 64 by decide), e1]
  refine fin_cons (m' := [some (.lst p), some (.int gr), w, none]) (M1 := M3) ?_ ?_
  · simp [argAt, e2, show -1000000 ≤ t2 by omega, show t2 ≤ 1000000 by omega, kfor, w1]
  refine fin_cons (m' := [some (.lst p), some (.int gr), w, some (.int top)]) (M1 := M7) ?_ ?_
  · rw [hl6] at e7
    simp [argAt, e4, e5, e7]
  refine fin_ret (m' := [some (.lst p), some (.int gr), w, some (.int top)]) ?_
  rw [hl8] at e9
  simp [-Int.zero_sub, argAt, e9]
theorem drawn_ok (hp : Purse p g d M) (hd : d + 80 < 1000000) : ∃ x M', run pg (n + 4) 23 [.lst p] M = .ok (Fr.mv x) M' ∧ Fk 144 x ∧ Purse p g (d + 60) M' ∧ Ext p M M' := by
  rw [show run pg (n + 4) 23 [.lst p] M = _ from (show IsD pg 23 1 1 b_23 from ⟨d_23, rfl, rfl, rfl, rfl⟩).go rfl]
  obtain ⟨a, M1, e1, h1, p1, x1⟩ := number_ok (n := n) hp (by omega)
  obtain ⟨b, M2, e2, h2, p2, x2⟩ := number_ok (n := n) p1 (by omega)
  have s2 : Sz 144 ((b.natAbs : Int) + 1) := h2.nat.add (l := 142) (y := 1) (by unfold Sz; decide) (by omega) (by omega)
  refine ⟨nf a (b.natAbs + 1), M2, ?_, nf_fk (by omega) (h1.mono (by omega)) s2, p2.mono (by omega), x1.trans x2⟩
  have q := by_ok (n := n + 1) (M := M2) (a := a) (b := (b.natAbs : Int) + 1) (by omega) (h1.mono (by omega)) (s2.mono (by omega))
  simp [b_23, argAt, e1, e2, q]
end
end K01

set_option Elab.async false
set_option linter.all false
set_option maxRecDepth 100000
set_option autoImplicit false
set_option maxHeartbeats 4000000
/-! k01, the plain law, part 5: the values that are fractions but for one thing. -/
namespace K01
open PySem MP

theorem add_ll {M : MH} {a b : Nat} {xs ys : List MV} (h1 : M[a]? = some xs) (h2 : M[b]? = some ys) (hl : xs.length + ys.length ≤ 1000) : binop .add (.lst a) (.lst b) M = .ok (.lst M.length) (M ++ [xs ++ ys]) := by
  have : xs.length + ys.length ≤ lim := by unfold lim; omega
  simp [binop, h1, h2, this]
theorem b_str {M : MH} {i : Int} (h : i.natAbs.log2 < 1920) : btop .str [.int i] M = .ok (.str (Str.ofString (toString i))) M := if_pos h
def Good (M : MH) (v : MV) : Prop := FrSz v ∧ ∃ s, Txt M v s
section
variable {M : MH} {a b c : Int}
theorem rvs1 {v : MV} {w : Nat} (h : Rv 1 M v w) : Rvs 1 M [v] (w + 1) := rvs_cons h rvs_nil (by omega)
theorem rvs2 {u v : MV} {w w' : Nat} (h : Rv 1 M u w) (h' : Rv 1 M v w') : Rvs 1 M [u, v] (w + 1 + (w' + 1)) := rvs_cons h (rvs1 h') (by omega)
theorem g_int2 (h : Sz 1000 a) (h' : Sz 1000 b) : Good M (.tup [.int a, .int b]) := by
  refine ⟨fun c d e => ?_, (rv_tup (rvs2 (rv_int h (by omega)) (rv_int h' (by omega)))).txt (by omega) (by omega)⟩
  simp at e
  rw [← e.1, ← e.2]
  exact ⟨h.mono (by omega), h'.mono (by omega)⟩
theorem g_of {v : MV} (h : ∀ a b, v ≠ .tup [.int a, .int b]) (t : ∃ s, Txt M v s) : Good M v := ⟨fun a b e => (h a b e).elim, t⟩
theorem bents_ok {n p g d : Nat} {x : Fr} (hx : Fk 200 x) (hp : Purse p g d M) (hd : d + 5 < 1000000) : ∃ q vs M', run pg (n + 3) 24 [.lst p, x.mv] M = .ok (.lst q) M' ∧ M'[q]? = some vs ∧ Purse p g (d + 1) M' ∧ Ext p M M' ∧ vs.length ≤ 100 ∧ ∀ v ∈ vs, Good M' v := by
  rw [show run pg (n + 3) 24 [.lst p, x.mv] M = _ from (show IsD pg 24 2 6 b_24 from ⟨d_24, rfl, rfl, rfl, rfl⟩).go rfl]
  obtain ⟨t1, M1, e1, h1, h1', p1, x1, _⟩ := drw (n := n + 1) (k := 40) hp (by omega) (by decide) (by decide)
  obtain ⟨v1, hv1⟩ : ∃ v1 : List MV, v1 = [x.mv, .tup [.int (x.1 * 2), .int (x.2 * 2)], .tup [.int (x.1 * (2 + t1)), .int (x.2 * (2 + t1))], .tup [.int x.1, .int 0], .tup [.int (0 - x.1), .int (0 - x.2)], .tup [.int x.1, .int (0 - x.2)], .lst M1.length, .tup [.int x.1, .int x.2, .int 1], .tup [.int x.1], .tup [.int x.2, .int x.1]] := ⟨_, rfl⟩
  obtain ⟨N1, hN1⟩ : ∃ N1, N1 = M1 ++ [[.int x.1, .int x.2]] := ⟨_, rfl⟩
  obtain ⟨N2, hN2⟩ : ∃ N2, N2 = N1 ++ [v1] := ⟨_, rfl⟩
  obtain ⟨N3, hN3⟩ : ∃ N3, N3 = N2 ++ [[x.mv]] := ⟨_, rfl⟩
  obtain ⟨v2, hv2⟩ : ∃ v2 : List MV, v2 = [.tup [.bl (x.1 == 1), .int 1], .tup [.int 0, .bl true], .tup [.bl true, .int 2], .tup [.str (Str.ofString (toString x.1)), .int 1], .tup [.int x.1, .non], .tup [.non, .int x.2], .non, .bl true, .int 0, .tup [], .str "0", .lst N2.length, .tup [.int 0, .int 2], .tup [.int 0, .int 1], .tup [.int (0 - 4), .int 2], .dct] := ⟨_, rfl⟩
  obtain ⟨N4, hN4⟩ : ∃ N4, N4 = N3 ++ [v2] := ⟨_, rfl⟩
  have a1 : App M1 N1 := by rw [hN1]; exact App.one
  have a2 : App N1 N2 := by rw [hN2]; exact App.one
  have a3 : App N2 N3 := by rw [hN3]; exact App.one
  have a4 : App N3 N4 := by rw [hN4]; exact App.one
  have g1 : N1[M1.length]? = some [.int x.1, .int x.2] := by rw [hN1]; exact get_new
  have g2 : N2[N1.length]? = some v1 := by rw [hN2]; exact get_new
  have g3 : N3[N2.length]? = some [x.mv] := by rw [hN3]; exact get_new
  have g4 : N4[N3.length]? = some v2 := by rw [hN4]; exact get_new
  have l1 : v1.length = 10 := by rw [hv1]; rfl
  have l2 : v2.length = 16 := by rw [hv2]; rfl
  have g2' : N4[N1.length]? = some v1 := (a3.trans a4).get g2
  have s2 : Sz 10 (2 + t1) := by unfold Sz; omega
  have st := hx.top.mono (show 200 ≤ 1000 by omega)
  have su := hx.und.mono (show 200 ≤ 1000 by omega)
  have sm : Sz 10 2 := by unfold Sz; decide
  have s1 : Sz 1000 1 := by unfold Sz; exact Nat.lt_of_lt_of_le (by decide) (Nat.pow_le_pow_right (n := 2) (i := 5) (by omega) (by omega))
  have sn : ∀ i : Int, i.natAbs < 2 ^ 5 → Sz 1000 i := fun i h => Sz.mono (k := 5) h (by omega)
  refine ⟨N4.length, v1 ++ v2, N4 ++ [v1 ++ v2], ?_, get_new, ?_, ?_, ?_, ?_⟩
  · unfold b_24
    have x0 : x.mv = .tup [.int x.1, .int x.2] := rfl
    refine fin_cons (m' := [some (.lst p), some x.mv, some (.int x.1), some (.int x.2), none, none]) (M1 := M) ?_ ?_
    · rw [x0]
      simp
    refine fin_cons (m' := [some (.lst p), some x.mv, some (.int x.1), some (.int x.2), some (.int (2 + t1)), none]) (M1 := M1) ?_ ?_
    · simp [argAt, e1]
    refine fin_cons (m' := [some (.lst p), some x.mv, some (.int x.1), some (.int x.2), some (.int (2 + t1)), some (.lst N1.length)]) (M1 := N2) ?_ ?_
    · rw [hN2, hv1, hN1]
      simp [-Int.zero_sub, -List.append_assoc, -List.length_append, argAt, o_mul _ (hx.top.mulOk sm (by omega)), o_mul _ (hx.und.mulOk sm (by omega)), o_mul _ (hx.top.mulOk s2 (by omega)), o_mul _ (hx.und.mulOk s2 (by omega))]
    refine fin_cons (m' := [some (.lst p), some x.mv, some (.int x.1), some (.int x.2), some (.int (2 + t1)), some (.lst N4.length)]) (M1 := N4 ++ [v1 ++ v2]) ?_ ?_
    · have e := add_ll (M := N4) g2' g4 (by omega)
      rw [hN4, hN3, hv2] at e ⊢
      have hls : x.1.natAbs.log2 < 1920 := Nat.lt_of_lt_of_le (log_lt (k := 200) hx.top (by omega)) (by omega)
      simp [-Int.zero_sub, -List.append_assoc, -List.length_append] at e
      simp [-Int.zero_sub, -List.append_assoc, -List.length_append, argAt, b_str hls, e]
    · exact fin_ret (m' := [some (.lst p), some x.mv, some (.int x.1), some (.int x.2), some (.int (2 + t1)), some (.lst N4.length)]) (by simp)
  · exact p1.app (a1.trans (a2.trans (a3.trans (a4.trans App.one))))
  · exact x1.trans (a1.trans (a2.trans (a3.trans (a4.trans App.one)))).ext
  · rw [List.length_append]
    omega
  · intro v hv
    have aF : App N4 (N4 ++ [v1 ++ v2]) := App.one
    have gA : (N4 ++ [v1 ++ v2])[M1.length]? = some [.int x.1, .int x.2] := (a2.trans (a3.trans (a4.trans aF))).get g1
    have gB : (N4 ++ [v1 ++ v2])[N2.length]? = some [x.mv] := (a4.trans aF).get g3
    have i1 : ∀ {k : Nat} {N : MH} {i : Int}, Sz 1000 i → Rv 1 N (.int i) 1001 := fun h => rv_int h (by omega)
    rw [List.mem_append] at hv
    rcases hv with hv | hv
    · rw [hv1] at hv
      simp only [List.mem_cons, List.not_mem_nil, or_false] at hv
      rcases hv with rfl | rfl | rfl | rfl | rfl | rfl | rfl | rfl | rfl | rfl
      · exact g_int2 st su
      · exact g_int2 ((hx.top.mul sm).mono (by omega)) ((hx.und.mul sm).mono (by omega))
      · exact g_int2 ((hx.top.mul s2).mono (by omega)) ((hx.und.mul s2).mono (by omega))
      · exact g_int2 st (sn _ (by decide))
      · rw [Int.zero_sub, Int.zero_sub]
        exact g_int2 st.neg su.neg
      · rw [Int.zero_sub]
        exact g_int2 st su.neg
      · exact g_of (fun _ _ e => by cases e) ((rv_lst gA (rvs2 (rv_int st (by omega)) (rv_int su (by omega)))).txt (by omega) (by omega))
      · exact g_of (fun _ _ e => by simp at e) ((rv_tup (rvs_cons (rv_int st (by omega)) (rvs2 (rv_int su (by omega)) (rv_int s1 (by omega))) (by omega))).txt (by omega) (by omega))
      · exact g_of (fun _ _ e => by simp at e) ((rv_tup (rvs1 (rv_int st (by omega)))).txt (by omega) (by omega))
      · exact g_int2 su st
    · rw [hv2] at hv
      simp only [List.mem_cons, List.not_mem_nil, or_false] at hv
      rcases hv with rfl | rfl | rfl | rfl | rfl | rfl | rfl | rfl | rfl | rfl | rfl | rfl | rfl | rfl | rfl | rfl
      · exact g_of (fun _ _ e => by simp at e) ((rv_tup (rvs2 (rv_bl _) (rv_int s1 (by omega)))).txt (by omega) (by omega))
      · exact g_of (fun _ _ e => by simp at e) ((rv_tup (rvs2 (rv_int (sn 0 (by decide)) (by omega)) (rv_bl _))).txt (by omega) (by omega))
      · exact g_of (fun _ _ e => by simp at e) ((rv_tup (rvs2 (rv_bl _) (rv_int (sn 2 (by decide)) (by omega)))).txt (by omega) (by omega))
      · have hl := int_text_length_le (k := 200) (by omega) (log_lt (k := 200) hx.top (by omega))
        exact g_of (fun _ _ e => by simp at e) ((rv_tup (rvs2 (rv_str _ hl) (rv_int s1 (by omega)))).txt (by omega) (by omega))
      · exact g_of (fun _ _ e => by simp at e) ((rv_tup (rvs2 (rv_int st (by omega)) rv_non)).txt (by omega) (by omega))
      · exact g_of (fun _ _ e => by simp at e) ((rv_tup (rvs2 rv_non (rv_int su (by omega)))).txt (by omega) (by omega))
      · exact g_of (fun _ _ e => by cases e) (rv_non.txt (by omega) (by omega))
      · exact g_of (fun _ _ e => by cases e) ((rv_bl _).txt (by omega) (by omega))
      · exact g_of (fun _ _ e => by cases e) ((rv_int (sn 0 (by decide)) (by omega)).txt (by omega) (by omega))
      · exact g_of (fun _ _ e => by simp at e) ((rv_tup rvs_nil).txt (by omega) (by omega))
      · exact g_of (fun _ _ e => by cases e) ((rv_str "0" (k := 1) (by decide)).txt (by omega) (by omega))
      · exact g_of (fun _ _ e => by cases e) ((rv_lst gB (rvs_cons (k := 2) (rv_tup (rvs2 (rv_int st (by omega)) (rv_int su (by omega)))) (rvs_nil.up (by omega)) (by omega))).txt (by omega) (by omega))
      · exact g_int2 (sn 0 (by decide)) (sn 2 (by decide))
      · exact g_int2 (sn 0 (by decide)) s1
      · exact g_int2 (sn _ (by decide)) (sn 2 (by decide))
      · exact g_of (fun _ _ e => by cases e) ⟨_, txt_dct⟩
end
end K01

set_option Elab.async false
set_option linter.all false
set_option maxRecDepth 100000
set_option autoImplicit false
set_option maxHeartbeats 4000000
namespace K01
open PySem MP
/-- f lies in [low, high], lowest, and no fraction there has a lesser top or under (all above nought) -/
structure Simp (low high f : Fr) : Prop where
  p1 : 0 < f.1
  p2 : 0 < f.2
  lw : Int.gcd f.1 f.2 = 1
  ge : low.1 * f.2 ≤ f.1 * low.2
  le : f.1 * high.2 ≤ high.1 * f.2
  min : ∀ a b : Int, 0 < b → low.1 * b ≤ a * low.2 → a * high.2 ≤ high.1 * b → f.2 ≤ b ∧ f.1 ≤ a
theorem simp_base {l0 l1 h0 h1 c : Int} (hl0 : 0 < l0) (hl : 0 < l1) (c1 : l0 ≤ c * l1) (c2 : (c - 1) * l1 < l0) (hc : c * h1 ≤ h0) : Simp (l0, l1) (h0, h1) (c, 1) := by
  have cpos : 0 < c := by
    by_cases h : 0 < c
    · exact h
    · have := Int.mul_nonneg (show 0 ≤ -c by omega) (show 0 ≤ l1 by omega)
      rw [Int.neg_mul] at this
      omega
  refine ⟨cpos, (by show (0 : Int) < 1; decide), Int.gcd_one_right .., by simpa using c1, by simpa using hc, fun a b hb h1' h2' => ⟨by show 1 ≤ b; omega, ?_⟩⟩
  show c ≤ a
  have e1 : (c - 1) * l1 * b < a * l1 := Int.lt_of_lt_of_le (Int.mul_lt_mul_of_pos_right c2 hb) h1'
  have e2 : (c - 1) * b < a := by
    have : ((c - 1) * b) * l1 < a * l1 := by
      rw [Int.mul_right_comm]
      exact e1
    exact Int.lt_of_mul_lt_mul_right this (by omega)
  have e3 : (c - 1) * 1 ≤ (c - 1) * b := Int.mul_le_mul_of_nonneg_left (by omega) (by omega)
  omega
theorem simp_step {l0 l1 h0 h1 w p q : Int} (hw : 0 ≤ w) (hl : 0 < l1) (hh : 0 < h1) (c2 : w * l1 < l0) (hf : Simp (h1, h0 - w * h1) (l1, l0 - w * l1) (p, q)) : Simp (l0, l1) (h0, h1) (w * p + q, p) := by
  obtain ⟨p1, p2, lo, ge, le, mn⟩ := hf
  simp only at p1 p2 lo ge le mn
  have wp : 0 ≤ w * p := Int.mul_nonneg hw (by omega)
  refine ⟨by show 0 < w * p + q; omega, p1, ?_, ?_, ?_, fun a b hb h1' h2' => ?_⟩
  · show Int.gcd (w * p + q) p = 1
    rw [Int.add_comm, Int.gcd_add_mul_right_left, Int.gcd_comm]
    exact lo
  · show l0 * p ≤ (w * p + q) * l1
    grind
  · show (w * p + q) * h1 ≤ h0 * p
    grind
  · show p ≤ b ∧ w * p + q ≤ a
    have e1 : w * l1 * b < l0 * b := Int.mul_lt_mul_of_pos_right c2 hb
    have e2 : w * b < a := by
      have h1'' : l0 * b ≤ a * l1 := h1'
      have : (w * b) * l1 < a * l1 := by
        rw [Int.mul_right_comm]
        exact Int.lt_of_lt_of_le e1 h1''
      exact Int.lt_of_mul_lt_mul_right this (by omega)
    have h1'' : l0 * b ≤ a * l1 := h1'
    have h2'' : a * h1 ≤ h0 * b := h2'
    obtain ⟨r1, r2⟩ := mn b (a - w * b) (by omega) (by grind) (by grind)
    have : w * p ≤ w * b := Int.mul_le_mul_of_nonneg_left r2 hw
    omega

/-! ### simplest_above: the walk down -/
def item (w : Int) : MV := .tup [.int w, .int 1]
def bW : Ss :=
      (.cons (.asg (.nm 3) (.bin .sub (.cst (.int 0)) (.bin .fdv (.bin .sub (.cst (.int 0)) (.idx (.var 0) (.cst (.int 0)))) (.idx (.var 0) (.cst (.int 1))))))
      (.cons (.iff (.not (.cal 12 0 (.cons (.var 1) (.cons (.tup (.cons (.var 3) (.cons (.cst (.int 1)) .nil))) .nil)) .nil))
        (.cons (.brk) .nil) .nil)
      (.cons (.asg (.nm 4) (.tup (.cons (.bin .sub (.var 3) (.cst (.int 1))) (.cons (.cst (.int 1)) .nil))))
      (.cons (.exp (.mth .append (.var 2) (.cons (.var 4) .nil)))
      (.cons (.asg (.tp [0, 1]) (.tup (.cons (.cal 11 0 (.cons (.glo 1) (.cons (.cal 9 0 (.cons (.var 1) (.cons (.var 4) .nil)) .nil) .nil)) .nil) (.cons (.cal 11 0 (.cons (.glo 1) (.cons (.cal 9 0 (.cons (.var 0) (.cons (.var 4) .nil)) .nil) .nil)) .nil) .nil)))) .nil)))))
theorem xs_cons {C : Cf} {m m' : Sl} {M M1 : MH} {s : S} {ss : Ss} {X : Re (Fl × Sl)} (h : ex C s m M = .ok (.nx, m') M1) (k : exs C ss m' M1 = X) : exs C (.cons s ss) m M = X := by
  rw [s_cons, h, bnd_ok_, k_nx]
  exact k
/-- the least whole number from l on -/
def ceil (l : Fr) : Int := 0 - (0 - l.1).fdiv l.2
theorem ceil_is {l : Fr} (h : 0 < l.2) : l.1 ≤ ceil l * l.2 ∧ (ceil l - 1) * l.2 < l.1 := by
  unfold ceil
  rw [Int.fdiv_eq_ediv_of_nonneg _ (by omega)]
  have e1 := Int.ediv_mul_le (0 - l.1) (show l.2 ≠ 0 by omega)
  have e2 := Int.lt_ediv_add_one_mul_self (0 - l.1) h
  generalize (0 - l.1) / l.2 = t at *
  constructor <;> grind
theorem ceil_sz {k : Nat} {l : Fr} (h : Fk k l) : Sz (k + 1) (ceil l) := by
  have hp := h.pos
  obtain ⟨c1, c2⟩ := ceil_is hp
  have ht := h.top
  unfold Sz at *
  have h3 : (ceil l).natAbs ≤ l.1.natAbs + 1 := by
    by_cases h0 : 0 ≤ ceil l - 1
    · have := Int.mul_le_mul_of_nonneg_left (show 1 ≤ l.2 by omega) h0
      omega
    · by_cases h0' : ceil l = 0
      · omega
      · have := Int.mul_le_mul_of_nonneg_left (show 1 ≤ l.2 by omega) (show 0 ≤ - ceil l by omega)
        rw [Int.neg_mul, Int.neg_mul] at this
        omega
  rw [Nat.pow_succ]
  have := Nat.two_pow_pos k
  omega
section
variable {n k q : Nat} {M : MH} {low high : Fr} {s3 s4 : Option MV} {acc : List Int}
theorem turn_stop (hl : Fk k low) (hh : Fk k high) (hk : k ≤ 1000) (h : ceil low * high.2 ≤ high.1) : wbod (cfg pg (n + 3)) bW [some low.mv, some high.mv, some (.lst q), s3, s4, none] M = .ok (.bk, [some low.mv, some high.mv, some (.lst q), some (.int (ceil low)), s4, none]) M := by
  have hp := hl.pos
  unfold wbod bW
  have x0 : low.mv = .tup [.int low.1, .int low.2] := rfl
  have hb : lt high (ceil low, 1) = false := by
    unfold lt
    exact decide_eq_false (by show ¬ high.1 * 1 < ceil low * high.2; omega)
  have e := below_ok (n := n + 2) (M := M) (x := high) (y := (ceil low, 1)) (k := k) (l := k + 1) hh.top hh.und (ceil_sz hl) (by show Sz (k + 1) 1; unfold Sz; rw [Nat.pow_succ]; have := Nat.two_pow_pos k; show 1 < _; omega) (by omega)
  rw [hb] at e
  have e' : run pg (n + 3) 12 [high.mv, .tup [.int (ceil low), .int 1]] M = .ok (.bl false) M := e
  refine xs_cons (m' := [some low.mv, some high.mv, some (.lst q), some (.int (ceil low)), s4, none]) (M1 := M) ?_ ?_
  · rw [x0]
    unfold ceil
    simp [-Int.zero_sub, o_fdv M (show low.2 ≠ 0 by omega) (hl.und.fdvOk (by omega))]
  · simp [argAt, e']
theorem gcd_less {a b w : Int} (h : Int.gcd a b = 1) : Int.gcd (a - w * b) b = 1 := by
  rw [← h]
  exact Int.gcd_sub_mul_right_left ..
theorem down_fk {x : Fr} {w : Int} (hx : Fk k x) (h1 : w * x.2 < x.1) (h2 : x.1 < (w + 1) * x.2) : Fk k (x.2, x.1 - w * x.2) := by
  have hp := hx.pos
  have hu := hx.und
  refine ⟨hx.und, ?_, by show 0 < x.1 - w * x.2; omega, by rw [Int.gcd_comm]; exact gcd_less hx.low⟩
  show Sz k (x.1 - w * x.2)
  unfold Sz at *
  have : x.1 - w * x.2 < x.2 := by grind
  omega
theorem mi_down {x : Fr} {w : Int} (hx : Fk k x) : mi x (w, 1) = (x.1 - w * x.2, x.2) := by
  unfold mi
  simp only [Int.mul_one]
  exact nf_low hx.pos (gcd_less hx.low)
theorem ov_turn {a b : Int} (ha : 0 < a) (h : Int.gcd a b = 1) : ov one (a, b) = (b, a) := by
  unfold ov one
  simp only [Int.one_mul]
  exact nf_low ha (by rw [Int.gcd_comm]; exact h)
theorem turn_on (hl : Fk k low) (hh : Fk k high) (hk : k ≤ 1000) (h0 : 0 < low.1) (hle : low.1 * high.2 ≤ high.1 * low.2) (h : ¬ ceil low * high.2 ≤ high.1) (hq : M[q]? = some (acc.map item)) (ha : acc.length < 900000) :
    wbod (cfg pg (n + 4)) bW [some low.mv, some high.mv, some (.lst q), s3, s4, none] M = .ok (.nx, [some (Fr.mv (high.2, high.1 - (ceil low - 1) * high.2)), some (Fr.mv (low.2, low.1 - (ceil low - 1) * low.2)), some (.lst q), some (.int (ceil low)), some (item (ceil low - 1)), none]) (M.set q ((acc ++ [ceil low - 1]).map item)) ∧
    Fk k (high.2, high.1 - (ceil low - 1) * high.2) ∧ Fk k (low.2, low.1 - (ceil low - 1) * low.2) ∧ (ceil low - 1) * low.2 < low.1 ∧ (ceil low - 1) * high.2 < high.1 ∧ low.1 < ceil low * low.2 ∧ 0 ≤ ceil low - 1 ∧ Sz (k + 2) (ceil low - 1) := by
  have hp := hl.pos
  have hp' := hh.pos
  obtain ⟨c1, c2⟩ := ceil_is hp
  have cs := ceil_sz hl
  generalize hc : ceil low = c at *
  have c3 : low.1 < c * low.2 := by
    -- low ≤ high < c
    have e : low.1 * high.2 < (c * low.2) * high.2 := by
      have : high.1 * low.2 < c * high.2 * low.2 := Int.mul_lt_mul_of_pos_right (by omega) hp
      grind
    exact Int.lt_of_mul_lt_mul_right e (by omega)
  have c4 : (c - 1) * high.2 < high.1 := by
    have e : ((c - 1) * high.2) * low.2 < high.1 * low.2 := by
      have : (c - 1) * low.2 * high.2 < low.1 * high.2 := Int.mul_lt_mul_of_pos_right c2 hp'
      grind
    exact Int.lt_of_mul_lt_mul_right e (by omega)
  have c5 : 0 ≤ c - 1 := by
    by_cases h1 : 0 ≤ c - 1
    · exact h1
    · have := Int.mul_nonneg (show 0 ≤ -c by omega) (show 0 ≤ low.2 by omega)
      rw [Int.neg_mul] at this
      omega
  have f1 := down_fk (w := c - 1) hh c4 (by have : c - 1 + 1 = c := by omega
                                            rw [this]; omega)
  have f2 := down_fk (w := c - 1) hl c2 (by have : c - 1 + 1 = c := by omega
                                            rw [this]; omega)
  have s1 : Sz (k + 2) (c - 1) := cs.sub (l := 1) (y := 1) (by unfold Sz; decide) (by omega) (by omega)
  refine ⟨?_, f1, f2, c2, c4, c3, c5, s1⟩
  unfold wbod bW
  have x0 : low.mv = .tup [.int low.1, .int low.2] := rfl
  have hb : lt high (c, 1) = true := by
    unfold lt
    exact decide_eq_true (by show high.1 * 1 < c * high.2; omega)
  have e := below_ok (n := n + 3) (M := M) (x := high) (y := (c, 1)) (k := k) (l := k + 1) hh.top hh.und cs (by show Sz (k + 1) 1; unfold Sz; rw [Nat.pow_succ]; have := Nat.two_pow_pos k; show 1 < _; omega) (by omega)
  rw [hb] at e
  have e' : run pg (n + 4) 12 [high.mv, .tup [.int c, .int 1]] M = .ok (.bl true) M := e
  refine xs_cons (m' := [some low.mv, some high.mv, some (.lst q), some (.int c), s4, none]) (M1 := M) ?_ ?_
  · rw [x0, ← hc]
    unfold ceil
    simp [-Int.zero_sub, o_fdv M (show low.2 ≠ 0 by omega) (hl.und.fdvOk (by omega))]
  refine xs_cons (m' := [some low.mv, some high.mv, some (.lst q), some (.int c), s4, none]) (M1 := M) ?_ ?_
  · simp [argAt, e']
  refine xs_cons (m' := [some low.mv, some high.mv, some (.lst q), some (.int c), some (item (c - 1)), none]) (M1 := M) ?_ ?_
  · simp [item]
  refine xs_cons (m' := [some low.mv, some high.mv, some (.lst q), some (.int c), some (item (c - 1)), none]) (M1 := M.set q ((acc ++ [c - 1]).map item)) ?_ ?_
  · have hl' : (acc.map item).length < lim := by
      rw [List.length_map]
      unfold lim
      omega
    simp [p_app M hq hl']
  have w1 : Fk (k + 2) ((c - 1, 1) : Fr) := ⟨s1, by show Sz (k + 2) 1; unfold Sz; rw [Nat.pow_succ]; have := Nat.two_pow_pos (k + 1); show 1 < _; omega, by show (0 : Int) < 1; decide, Int.gcd_one_right ..⟩
  have m1 := minus_ok (n := n + 1) (M := M.set q ((acc ++ [c - 1]).map item)) hh w1 (by omega)
  have m2 := minus_ok (n := n + 1) (M := M.set q ((acc ++ [c - 1]).map item)) hl w1 (by omega)
  rw [mi_down hh] at m1
  rw [mi_down hl] at m2
  have g1 : Fk k (high.1 - (c - 1) * high.2, high.2) := ⟨f1.und, f1.top, hp', by rw [Int.gcd_comm]; exact f1.low⟩
  have g2 : Fk k (low.1 - (c - 1) * low.2, low.2) := ⟨f2.und, f2.top, hp, by rw [Int.gcd_comm]; exact f2.low⟩
  have o1 := over_ok (n := n + 1) (M := M.set q ((acc ++ [c - 1]).map item)) one_fk g1 (by omega) (Int.ne_of_gt f1.pos)
  have o2 := over_ok (n := n + 1) (M := M.set q ((acc ++ [c - 1]).map item)) one_fk g2 (by omega) (Int.ne_of_gt f2.pos)
  rw [ov_turn f1.pos g1.low] at o1
  rw [ov_turn f2.pos g2.low] at o2
  have i1 : item (c - 1) = Fr.mv (c - 1, 1) := rfl
  have i2 : one.mv = .tup [.int 1, .int 1] := rfl
  rw [i2] at o1 o2
  rw [i1]
  simp [-List.map_append, argAt, m1, m2, e_glo _ _ _ (gl_1 _), o1, o2]
end
end K01

set_option Elab.async false
set_option linter.all false
set_option maxRecDepth 100000
set_option autoImplicit false
set_option maxHeartbeats 4000000
/-! k01, the plain law, part 7: the simplest fraction. -/
namespace K01
open PySem MP

/-- what the walk back makes of the wholes and the last one -/
def res : List Int → Int → Fr
  | [], c => (c, 1)
  | w :: ws, c => (w * (res ws c).1 + (res ws c).2, (res ws c).1)
/-- all that the walk back meets is lowest and small -/
def AllF (k : Nat) : List Int → Int → Prop
  | [], c => Fk k (res [] c) ∧ 0 < (res [] c).1
  | w :: ws, c => Fk k (res (w :: ws) c) ∧ 0 < (res (w :: ws) c).1 ∧ Sz (k + 2) w ∧ AllF k ws c
theorem Simp.fk {k : Nat} {low high f : Fr} (h : Simp low high f) (hh : Fk k high) (hle : low.1 * high.2 ≤ high.1 * low.2) : Fk k f := by
  obtain ⟨h1, h2⟩ := h.min high.1 high.2 hh.pos hle (Int.le_refl _)
  have p1 := h.p1
  have p2 := h.p2
  have t := hh.top
  have u := hh.und
  unfold Sz at *
  exact ⟨by unfold Sz; omega, by unfold Sz; omega, p2, h.lw⟩
theorem half {x y w : Int} (hw : 1 ≤ w) (hy : 0 < y) (h : w * y < x) (hx : x < (w + 1) * y) : 2 * (y * (x - w * y)) ≤ x * y := by
  have h1 : y ≤ w * y := by
    have := Int.mul_le_mul_of_nonneg_right hw (show 0 ≤ y by omega)
    omega
  have h3 : (w + 1) * y = w * y + y := by rw [Int.add_mul, Int.one_mul]
  have h2 : 2 * (x - w * y) ≤ x := by omega
  have := Int.mul_le_mul_of_nonneg_left h2 (show 0 ≤ y by omega)
  grind
theorem above_loop {n k q : Nat} (hk : k ≤ 1000) : ∀ (K j : Nat) (low high : Fr) (acc : List Int) (s3 s4 : Option MV) (M : MH), Fk k low → Fk k high → 0 < low.1 → low.1 * high.2 ≤ high.1 * low.2 → low.2 < low.1 → low.1 * low.2 * (high.1 * high.2) < 2 ^ K → K ≤ j → acc.length + K < 900000 → M[q]? = some (acc.map item) →
    ∃ ws c M' a b s, whlL (wcon (cfg pg (n + 4)) (.cst (.bl true))) (wbod (cfg pg (n + 4)) bW) j [some low.mv, some high.mv, some (.lst q), s3, s4, none] M = .ok (.nx, [some a, some b, some (.lst q), some (.int c), s, none]) M' ∧ M'[q]? = some ((acc ++ ws).map item) ∧ Ext q M M' ∧ M'.length = M.length ∧ Simp low high (res ws c) ∧ AllF k ws c ∧ ws.length ≤ K
  | 0, j, low, high, acc, s3, s4, M, hl, hh, h0, hle, h1, hP, hj, ha, hq => by
    have p1 := hl.pos
    have p2 := hh.pos
    have p3 : 0 < high.1 := by
      by_cases h : 0 < high.1
      · exact h
      · have e1 := Int.mul_pos h0 p2
        have e2 := Int.mul_nonneg (show 0 ≤ -high.1 by omega) (show 0 ≤ low.2 by omega)
        rw [Int.neg_mul] at e2
        omega
    have := Int.mul_pos (Int.mul_pos h0 p1) (Int.mul_pos p3 p2)
    simp at hP
    omega
  | K + 1, 0, low, high, acc, s3, s4, M, hl, hh, h0, hle, h1, hP, hj, ha, hq => by omega
  | K + 1, j + 1, low, high, acc, s3, s4, M, hl, hh, h0, hle, h1, hP, hj, ha, hq => by
    have p1 := hl.pos
    have p2 := hh.pos
    obtain ⟨c1, c2⟩ := ceil_is p1
    have hw : wcon (cfg pg (n + 4)) (.cst (.bl true)) [some low.mv, some high.mv, some (.lst q), s3, s4, none] M = .ok (.bl true) M := by
      unfold wcon
      simp
    by_cases h : ceil low * high.2 ≤ high.1
    · have r := turn_stop (n := n + 1) (q := q) (M := M) (s3 := s3) (s4 := s4) hl hh hk h
      have sb := simp_base (l0 := low.1) (l1 := low.2) (h0 := high.1) (h1 := high.2) h0 p1 c1 c2 h
      refine ⟨[], ceil low, M, _, _, _, whl_b hw r, by rw [List.append_nil]; exact hq, .refl, rfl, sb, ⟨sb.fk hh hle, sb.p1⟩, by simp⟩
    · obtain ⟨r, f1, f2, d1, d2, d3, d4, d5⟩ := turn_on (n := n) (q := q) (M := M) (s3 := s3) (s4 := s4) (acc := acc) hl hh hk h0 hle h hq (by omega)
      have p3 : 0 < high.1 := by
        have := Int.mul_nonneg d4 (show 0 ≤ high.2 by omega)
        omega
      generalize hc : ceil low = c at *
      have w1 : 1 ≤ c - 1 := by
        by_cases h2 : 1 ≤ c - 1
        · exact h2
        · have e : c - 1 = 0 := by omega
          have e' : c = 1 := by omega
          rw [e'] at d3
          omega
      have hb : 2 * (high.2 * (high.1 - (c - 1) * high.2)) ≤ high.1 * high.2 := half w1 p2 d2 (by rw [show c - 1 + 1 = c by omega]; omega)
      have lb : 2 * (low.2 * (low.1 - (c - 1) * low.2)) ≤ low.1 * low.2 := half w1 p1 d1 (by rw [show c - 1 + 1 = c by omega]; omega)
      have g1 := f1.pos
      have g2 := f2.pos
      simp only at g1 g2
      have hP' : high.2 * (high.1 - (c - 1) * high.2) * (low.2 * (low.1 - (c - 1) * low.2)) < 2 ^ K := by
        have x0 := Int.mul_pos p2 g1
        have y0 := Int.mul_pos p1 g2
        generalize high.2 * (high.1 - (c - 1) * high.2) = X at *
        generalize low.2 * (low.1 - (c - 1) * low.2) = Y at *
        have e1 : (2 * X) * (2 * Y) ≤ (high.1 * high.2) * (low.1 * low.2) := Int.mul_le_mul hb lb (by omega) (by omega)
        rw [Int.pow_succ] at hP
        have e2 := Int.mul_pos x0 y0
        grind
      have hq' : (M.set q ((acc ++ [c - 1]).map item))[q]? = some ((acc ++ [c - 1]).map item) := get_set hq
      obtain ⟨ws, z, M', a, b, s, r1, r2, r3, r4, r5, r6, r7⟩ := above_loop hk K j (high.2, high.1 - (c - 1) * high.2) (low.2, low.1 - (c - 1) * low.2) (acc ++ [c - 1]) _ _ _ f1 f2 p2 (by show high.2 * (low.1 - (c - 1) * low.2) ≤ low.2 * (high.1 - (c - 1) * high.2); grind) (by show high.1 - (c - 1) * high.2 < high.2; grind) hP' (by omega) (by rw [List.length_append, List.length_singleton]; omega) hq'
      have st := simp_step (l0 := low.1) (l1 := low.2) (h0 := high.1) (h1 := high.2) (w := c - 1) d4 p1 p2 d1 r5
      refine ⟨(c - 1) :: ws, z, M', a, b, s, ?_, ?_, Ext.set.trans r3, by rw [r4, List.length_set], st, ⟨st.fk hh hle, st.p1, d5, r6⟩, by simp; omega⟩
      · rw [whl_t hw r]
        exact r1
      · rw [r2, List.append_assoc]
        rfl
end K01

set_option Elab.async false
set_option linter.all false
set_option maxRecDepth 100000
set_option autoImplicit false
set_option maxHeartbeats 4000000
/-! k01, the plain law, part 8: simplest_above, simplest. -/
namespace K01
open PySem MP

theorem AllF.drop {k : Nat} {c : Int} : ∀ {ws : List Int} (i : Nat), AllF k ws c → Fk k (res (ws.drop i) c) ∧ 0 < (res (ws.drop i) c).1
  | [], i, h => by
    rw [List.drop_nil]
    exact h
  | w :: ws, 0, h => ⟨h.1, h.2.1⟩
  | w :: ws, i + 1, h => AllF.drop (ws := ws) i h.2.2.2
theorem AllF.sz {k : Nat} {c : Int} : ∀ {ws : List Int} {w : Int}, AllF k ws c → w ∈ ws → Sz (k + 2) w
  | [], w, h, hw => by cases hw
  | u :: ws, w, h, hw => by
    rcases List.mem_cons.mp hw with rfl | hw
    · exact h.2.2.1
    · exact AllF.sz h.2.2.2 hw
theorem ext_app {M M' : MH} {xs : List MV} (h : Ext M.length (M ++ [xs]) M') : App M M' := by
  refine ⟨M'.drop M.length, ?_⟩
  apply List.ext_getElem?
  intro j
  by_cases hj : j < M.length
  · rw [h.at_ j (by omega) (by simp; omega), List.getElem?_append_left hj, List.getElem?_append_left hj]
  · rw [List.getElem?_append_right (by omega), List.getElem?_drop]
    congr 1
    omega
section
variable {n k q r : Nat} {M : MH}
theorem back_ok {ws : List Int} {c : Int} {a b s : MV} (hk : k ≤ 1000) (hA : AllF k ws c) (hl : ws.length ≤ 900000) {sa sb sq sc s4 : Option MV} (hr : M[r]? = some ((ws.map item).reverse)) :
    ∃ x, forL (.ls (.lst r)) (fturn (cfg pg (n + 4)) (.nm 4) (.cons (.asg (.nm 5) (.cal 8 0 (.cons (.var 4) (.cons (.cal 11 0 (.cons (.glo 1) (.cons (.var 5) .nil)) .nil) .nil)) .nil)) .nil)) pg.most 0 [sa, sb, sq, sc, s4, some (Fr.mv (c, 1))] M = .ok (.nx, [sa, sb, sq, sc, x, some (res ws c).mv]) M := by
  obtain ⟨m', M', h1, x, h2, h3⟩ := forL_inv (s := .ls (.lst r)) (f := fturn (cfg pg (n + 4)) (.nm 4) (.cons (.asg (.nm 5) (.cal 8 0 (.cons (.var 4) (.cons (.cal 11 0 (.cons (.glo 1) (.cons (.var 5) .nil)) .nil) .nil)) .nil)) .nil)) (N := ws.length)
    (fun i m N => ∃ x, m = [sa, sb, sq, sc, x, some (res (ws.drop (ws.length - i)) c).mv] ∧ N = M) (by
      rintro i m N hi ⟨x, rfl, rfl⟩
      obtain ⟨t, ht⟩ : ∃ t, t = ws.length - (i + 1) := ⟨_, rfl⟩
      have hlt : t < ws.length := by omega
      have e0 : ws.length - i = t + 1 := by omega
      have e1 : ws.drop t = ws[t] :: ws.drop (t + 1) := List.drop_eq_getElem_cons hlt
      obtain ⟨f1, f2⟩ := hA.drop (t + 1)
      obtain ⟨f3, f4⟩ := hA.drop t
      have hs := hA.sz (List.getElem_mem hlt)
      rw [e0]
      have e2 : res (ws.drop t) c = (ws[t] * (res (ws.drop (t + 1)) c).1 + (res (ws.drop (t + 1)) c).2, (res (ws.drop (t + 1)) c).1) := by rw [e1]; rfl
      generalize res (ws.drop (t + 1)) c = f at *
      have o1 := over_ok (n := n + 1) (M := N) one_fk f1 (by omega) (by omega)
      have o2 : ov one f = (f.2, f.1) := ov_turn f2 f1.low
      rw [o2] at o1
      have w1 : Fk (k + 2) ((ws[t], 1) : Fr) := ⟨hs, by show Sz (k + 2) 1; unfold Sz; rw [Nat.pow_succ]; have := Nat.two_pow_pos (k + 1); show 1 < _; omega, by show (0 : Int) < 1; decide, Int.gcd_one_right ..⟩
      have g1 : Fk k (f.2, f.1) := ⟨f1.und, f1.top, f2, by rw [Int.gcd_comm]; exact f1.low⟩
      have p1 := plus_ok (n := n + 1) (M := N) w1 g1 (by omega)
      have p2 : pl (ws[t], 1) (f.2, f.1) = res (ws.drop t) c := by
        rw [e2]
        unfold pl
        simp only [Int.one_mul, Int.mul_one]
        have hlow := f3.low
        rw [e2] at hlow
        exact nf_low f2 hlow
      rw [p2] at p1
      refine ⟨?_, item ws[t], [sa, sb, sq, sc, some (item ws[t]), some (res (ws.drop t) c).mv], N, ?_, ?_, some (item ws[t]), by rw [← ht], rfl⟩
      · rw [ls_stop hr]
        exact decide_eq_false (by simp; omega)
      · rw [ls_item hr, List.getElem?_reverse (by rw [List.length_map]; exact hi), List.length_map, List.getElem?_map]
        have e3 : ws.length - 1 - i = t := by omega
        rw [e3, List.getElem?_eq_getElem hlt]
        rfl
      · unfold fturn
        rw [tgN]
        have i1 : item ws[t] = Fr.mv (ws[t], 1) := rfl
        have i2 : one.mv = .tup [.int 1, .int 1] := rfl
        rw [i2] at o1
        rw [i1]
        simp [argAt, e_glo _ _ _ (gl_1 _), o1, p1]) (by
      rintro m N ⟨x, rfl, rfl⟩
      rw [ls_stop hr]
      exact decide_eq_true (by simp)) pg.most 0 [sa, sb, sq, sc, s4, some (Fr.mv (c, 1))] M (by show ws.length < 1000001 + 0; omega) (by omega) ⟨s4, by rw [Nat.sub_zero, List.drop_length]; rfl, rfl⟩
  rw [Nat.sub_self, List.drop_zero] at h2
  subst h2 h3
  exact ⟨x, h1⟩
theorem b20_eq : b_20 = .cons (.asg (.nm 2) (.lst .nil)) (.cons (.whl (.cst (.bl true)) bW) (.cons (.asg (.nm 5) (.tup (.cons (.var 3) (.cons (.cst (.int 1)) .nil))))
    (.cons (.for (.nm 4) (.seq (.rev (.var 2)))
      (.cons (.asg (.nm 5) (.cal 8 0 (.cons (.var 4) (.cons (.cal 11 0 (.cons (.glo 1) (.cons (.var 5) .nil)) .nil) .nil)) .nil)) .nil))
    (.cons (.ret (.var 5)) .nil)))) := rfl
theorem prod_lt {low high : Fr} (hl : Fk k low) (hh : Fk k high) : low.1 * low.2 * (high.1 * high.2) < 2 ^ (4 * k) := by
  have s := (hl.top.mul hl.und).mul (hh.top.mul hh.und)
  have s' : Sz (4 * k) (low.1 * low.2 * (high.1 * high.2)) := by
    have e : k + k + (k + k) = 4 * k := by omega
    rw [e] at s
    exact s
  unfold Sz at s'
  have e : ((2 : Int) ^ (4 * k)) = ((2 ^ (4 * k) : Nat) : Int) := by rw [Int.natCast_pow]; rfl
  rw [e]
  omega
/-- the walk down, whatever the first one is -/
theorem loop_all {low high : Fr} (hk : k ≤ 1000) (hl : Fk k low) (hh : Fk k high) (h0 : 0 < low.1) (hle : low.1 * high.2 ≤ high.1 * low.2) (hq : M[q]? = some []) :
    ∃ ws c M' a b s, whlL (wcon (cfg pg (n + 4)) (.cst (.bl true))) (wbod (cfg pg (n + 4)) bW) pg.most [some low.mv, some high.mv, some (.lst q), none, none, none] M = .ok (.nx, [some a, some b, some (.lst q), some (.int c), s, none]) M' ∧ M'[q]? = some (ws.map item) ∧ Ext q M M' ∧ M'.length = M.length ∧ Simp low high (res ws c) ∧ AllF k ws c ∧ ws.length ≤ 900000 := by
  by_cases h1 : low.2 < low.1
  · obtain ⟨ws, c, M', a, b, s, r1, r2, r3, r4, r5, r6, r7⟩ := above_loop (n := n) (q := q) hk (4 * k) pg.most low high [] none none M hl hh h0 hle h1 (prod_lt hl hh) (by show 4 * k ≤ 1000001; omega) (by simp; omega) hq
    exact ⟨ws, c, M', a, b, s, r1, r2, r3, r4, r5, r6, by omega⟩
  · have p1 := hl.pos
    have p2 := hh.pos
    obtain ⟨c1, c2⟩ := ceil_is p1
    have hw : wcon (cfg pg (n + 4)) (.cst (.bl true)) [some low.mv, some high.mv, some (.lst q), none, none, none] M = .ok (.bl true) M := by
      unfold wcon
      simp
    have hm : pg.most = 1000000 + 1 := rfl
    by_cases h : ceil low * high.2 ≤ high.1
    · have r := turn_stop (n := n + 1) (q := q) (M := M) (s3 := none) (s4 := none) hl hh hk h
      have sb := simp_base (l0 := low.1) (l1 := low.2) (h0 := high.1) (h1 := high.2) h0 p1 c1 c2 h
      refine ⟨[], ceil low, M, low.mv, high.mv, none, ?_, hq, .refl, rfl, sb, ⟨sb.fk hh hle, sb.p1⟩, by simp⟩
      rw [hm]
      exact whl_b hw r
    · obtain ⟨r, f1, f2, d1, d2, d3, d4, d5⟩ := turn_on (n := n) (q := q) (M := M) (s3 := none) (s4 := none) (acc := []) hl hh hk h0 hle h hq (by simp)
      generalize hc : ceil low = c at *
      have e : c - 1 = 0 := by
        by_cases h2 : 1 ≤ c - 1
        · have := Int.mul_le_mul_of_nonneg_right h2 (show 0 ≤ low.2 by omega)
          omega
        · omega
      have g1 := f1.pos
      have g2 := f2.pos
      simp only at g1 g2
      have hq' : (M.set q (([] ++ [c - 1]).map item))[q]? = some ([c - 1].map item) := get_set hq
      have d3' : high.1 < high.2 := by
        have : c = 1 := by omega
        rw [this] at h
        omega
      obtain ⟨ws, z, M', a, b, s, r1, r2, r3, r4, r5, r6, r7⟩ := above_loop (n := n) hk (4 * k) 1000000 (high.2, high.1 - (c - 1) * high.2) (low.2, low.1 - (c - 1) * low.2) [c - 1] (some (.int c)) (some (item (c - 1))) _ f1 f2 p2 (by show high.2 * (low.1 - (c - 1) * low.2) ≤ low.2 * (high.1 - (c - 1) * high.2); grind) (by show high.1 - (c - 1) * high.2 < high.2; rw [e]; omega) (prod_lt f1 f2) (by omega) (by simp; omega) hq'
      have st := simp_step (l0 := low.1) (l1 := low.2) (h0 := high.1) (h1 := high.2) (w := c - 1) d4 p1 p2 d1 r5
      refine ⟨(c - 1) :: ws, z, M', a, b, s, ?_, r2, Ext.set.trans r3, by rw [r4, List.length_set], st, ⟨st.fk hh hle, st.p1, d5, r6⟩, by simp; omega⟩
      rw [hm, whl_t hw r]
      exact r1
theorem above_ok {low high : Fr} (hk : k ≤ 1000) (hl : Fk k low) (hh : Fk k high) (h0 : 0 < low.1) (hle : low.1 * high.2 ≤ high.1 * low.2) : ∃ f M', run pg (n + 5) 20 [low.mv, high.mv] M = .ok (Fr.mv f) M' ∧ App M M' ∧ Simp low high f ∧ Fk k f := by
  rw [show run pg (n + 5) 20 [low.mv, high.mv] M = _ from (show IsD pg 20 2 6 b_20 from ⟨d_20, rfl, rfl, rfl, rfl⟩).go rfl]
  obtain ⟨ws, c, M1, a, b, s, r1, r2, r3, r4, r5, r6, r7⟩ := loop_all (n := n) (q := M.length) (M := M ++ [[]]) hk hl hh h0 hle get_new
  have a1 := ext_app r3
  have g1 : (M1 ++ [(ws.map item).reverse])[M1.length]? = some ((ws.map item).reverse) := get_new
  obtain ⟨x, w1⟩ := back_ok (n := n) (a := a) (b := b) (s := a) hk r6 r7 (sa := some a) (sb := some b) (sq := some (.lst M.length)) (sc := some (.int c)) (s4 := s) g1
  refine ⟨res ws c, M1 ++ [(ws.map item).reverse], ?_, a1.trans App.one, r5, r5.fk hh hle⟩
  rw [b20_eq]
  refine fin_cons (m' := [some low.mv, some high.mv, some (.lst M.length), none, none, none]) (M1 := M ++ [[]]) (by simp) ?_
  refine fin_cons (m' := [some a, some b, some (.lst M.length), some (.int c), s, none]) (M1 := M1) (by simp only [s_whl, cfg_most, r1]) ?_
  refine fin_cons (m' := [some a, some b, some (.lst M.length), some (.int c), s, some (Fr.mv (c, 1))]) (M1 := M1) (by simp [Fr.mv]) ?_
  have rv : revop (.lst M.length) M1 = .ok (.lst M1.length) (M1 ++ [(ws.map item).reverse]) := by
    simp [-List.append_assoc, revop, itemsL, r2]
  refine fin_cons (m' := [some a, some b, some (.lst M.length), some (.int c), x, some (res ws c).mv]) (M1 := M1 ++ [(ws.map item).reverse]) ?_ ?_
  · simp [-List.append_assoc, rv, seqL g1, kfor, w1]
  · exact fin_ret (m' := [some a, some b, some (.lst M.length), some (.int c), x, some (res ws c).mv]) (by simp)
end
end K01

set_option Elab.async false
set_option linter.all false
set_option maxRecDepth 100000
set_option autoImplicit false
set_option maxHeartbeats 4000000
/-! k01, the plain law, part 9: simplest, and the look whether it is. -/
namespace K01
open PySem MP

/-- f lies in [low, high], lowest, and no fraction there has a lesser under, or a top nearer to nought -/
structure SimpZ (low high f : Fr) : Prop where
  p2 : 0 < f.2
  lw : Int.gcd f.1 f.2 = 1
  ge : low.1 * f.2 ≤ f.1 * low.2
  le : f.1 * high.2 ≤ high.1 * f.2
  min : ∀ a b : Int, 0 < b → low.1 * b ≤ a * low.2 → a * high.2 ≤ high.1 * b → f.2 ≤ b ∧ f.1.natAbs ≤ a.natAbs
section
variable {n k : Nat} {M : MH} {low high : Fr}
theorem simplest_ok (hk : k ≤ 1000) (hl : Fk k low) (hh : Fk k high) (hle : low.1 * high.2 ≤ high.1 * low.2) : ∃ f M', run pg (n + 6) 21 [low.mv, high.mv] M = .ok (Fr.mv f) M' ∧ App M M' ∧ SimpZ low high f ∧ Fk (k + 1) f := by
  rw [show run pg (n + 6) 21 [low.mv, high.mv] M = _ from (show IsD pg 21 2 3 b_21 from ⟨d_21, rfl, rfl, rfl, rfl⟩).go rfl]
  have p1 := hl.pos
  have p2 := hh.pos
  have b1 := below_ok (n := n + 4) (M := M) hh.top hh.und hl.top hl.und (by omega)
  have b2 : lt high low = false := by
    unfold lt
    exact decide_eq_false (by omega)
  rw [b2] at b1
  have x0 : ∀ N, idxop low.mv (.int 0) N = .ok (.int low.1) N := fun N => ixT0 N _ _
  have x1 : ∀ N, idxop low.mv (.int 1) N = .ok (.int low.2) N := fun N => ixT1 N _ _ _
  have y0 : ∀ N, idxop high.mv (.int 0) N = .ok (.int high.1) N := fun N => ixT0 N _ _
  have y1 : ∀ N, idxop high.mv (.int 1) N = .ok (.int high.2) N := fun N => ixT1 N _ _ _
  have lk := look2_ok (n := n) (M := M) hl hh (by omega) (by omega)
  by_cases h0 : 0 < low.1
  · obtain ⟨f, M', r1, r2, r3, r4⟩ := above_ok (n := n) (M := M) hk hl hh h0 hle
    refine ⟨f, M', ?_, r2, ⟨r3.p2, r3.lw, r3.ge, r3.le, fun a b hb h1 h2 => ?_⟩, ⟨r4.top.mono (by omega), r4.und.mono (by omega), r4.pos, r4.low⟩⟩
    · have h0' : ¬ low.1 ≤ 0 := by omega
      simp [b_21, argAt, lk, b1, x0, h0, decide_eq_false h0', r1]
    · obtain ⟨q1, q2⟩ := r3.min a b hb h1 h2
      have := r3.p1
      exact ⟨q1, by omega⟩
  · by_cases h1 : 0 ≤ high.1
    · refine ⟨(0, 1), M, ?_, App.refl, ⟨by show (0 : Int) < 1; decide, by decide, ?_, ?_, fun a b hb _ _ => ⟨by show 1 ≤ b; omega, by show (0 : Int).natAbs ≤ _; simp⟩⟩, ⟨by unfold Sz; exact Nat.two_pow_pos _, by show Sz (k + 1) 1; unfold Sz; rw [Nat.pow_succ]; have := Nat.two_pow_pos k; show 1 < _; omega, by show (0 : Int) < 1; decide, by decide⟩⟩
      · have h0' : low.1 ≤ 0 := by omega
        have e0 : Fr.mv ((0, 1) : Fr) = .tup [.int 0, .int 1] := rfl
        rw [e0]
        simp [b_21, argAt, lk, b1, x0, y0, h0', h1, e_glo _ _ _ (gl_0 _)]
      · show low.1 * 1 ≤ 0 * low.2
        omega
      · show 0 * high.2 ≤ high.1 * 1
        omega
    · have gh : Fk k ((0 - high.1, high.2) : Fr) := ⟨by show Sz k (0 - high.1); rw [Int.zero_sub]; exact hh.top.neg, hh.und, p2, by show Int.gcd (0 - high.1) high.2 = 1; rw [Int.zero_sub, Int.neg_gcd]; exact hh.low⟩
      have gl : Fk k ((0 - low.1, low.2) : Fr) := ⟨by show Sz k (0 - low.1); rw [Int.zero_sub]; exact hl.top.neg, hl.und, p1, by show Int.gcd (0 - low.1) low.2 = 1; rw [Int.zero_sub, Int.neg_gcd]; exact hl.low⟩
      obtain ⟨f, M', r1, r2, r3, r4⟩ := above_ok (n := n) (M := M) hk gh gl (by show 0 < 0 - high.1; omega) (by show (0 - high.1) * low.2 ≤ (0 - low.1) * high.2; grind)
      obtain ⟨s1, s2, s3, s4, s5, s6⟩ := r3
      simp only at s4 s5 s6
      refine ⟨(0 - f.1, f.2), M', ?_, r2, ⟨s2, ?_, ?_, ?_, fun a b hb q1 q2 => ?_⟩, ⟨?_, r4.und.mono (by omega), s2, ?_⟩⟩
      · have h0' : low.1 ≤ 0 := by omega
        have z0 : ∀ N, idxop f.mv (.int 0) N = .ok (.int f.1) N := fun N => ixT0 N _ _
        have z1 : ∀ N, idxop f.mv (.int 1) N = .ok (.int f.2) N := fun N => ixT1 N _ _ _
        have r1' : run pg (n + 5) 20 [.tup [.int (0 - high.1), .int high.2], .tup [.int (0 - low.1), .int low.2]] M = .ok f.mv M' := r1
        unfold b_21
        refine fin_cons (m' := [some low.mv, some high.mv, none]) (M1 := M) (by simp [argAt, lk]) ?_
        refine fin_cons (m' := [some low.mv, some high.mv, none]) (M1 := M) (by simp [argAt, b1]) ?_
        refine fin_cons (m' := [some low.mv, some high.mv, none]) (M1 := M) (by simp [x0, y0, decide_eq_true h0', decide_eq_false h1]) ?_
        refine fin_cons (m' := [some low.mv, some high.mv, none]) (M1 := M) (by simp [x0, decide_eq_false h0]) ?_
        refine fin_cons (m' := [some low.mv, some high.mv, some f.mv]) (M1 := M') (by simp [-Int.zero_sub, argAt, x0, x1, y0, y1, r1']) ?_
        exact fin_ret (m' := [some low.mv, some high.mv, some f.mv]) (by simp [-Int.zero_sub, z0, z1, Fr.mv])
      · show Int.gcd (0 - f.1) f.2 = 1
        rw [Int.zero_sub, Int.neg_gcd]
        exact s3
      · show low.1 * f.2 ≤ (0 - f.1) * low.2
        grind
      · show (0 - f.1) * high.2 ≤ high.1 * f.2
        grind
      · obtain ⟨t1, t2⟩ := s6 (-a) b hb (by grind) (by grind)
        refine ⟨t1, ?_⟩
        show (0 - f.1).natAbs ≤ a.natAbs
        omega
      · show Sz (k + 1) (0 - f.1)
        rw [Int.zero_sub]
        exact r4.top.neg.mono (by omega)
      · show Int.gcd (0 - f.1) f.2 = 1
        rw [Int.zero_sub, Int.neg_gcd]
        exact s3
/-! ### the two parents -/
theorem par_whl {c : Sl → MH → Re MV} {f : Sl → MH → Re (Fl × Sl)} {T U : Int} {s0 s1 s2 s7 s8 s9 : Option MV} (hU : 0 < U)
    (hc : ∀ (l h e t : Int), c [s0, s1, s2, some (.int l), some (.int h), some (.int e), some (.int t), s7, s8, s9] M = .ok (.bl (decide (t ≠ 0))) M)
    (hf : ∀ (l h e t : Int), 0 < t → t < e → e.natAbs ≤ U.natAbs → h.natAbs ≤ U.natAbs → f [s0, s1, s2, some (.int l), some (.int h), some (.int e), some (.int t), s7, s8, s9] M = .ok (.nx, [s0, s1, s2, some (.int h), some (.int (l - e / t * h)), some (.int t), some (.int (e % t)), s7, s8, s9]) M) :
    ∀ (K j : Nat) (l h e t : Int), 0 ≤ t → t < e → e * t < 2 ^ K → K < j → Int.gcd e t = 1 → U ∣ l * T - e → U ∣ h * T - t → l.natAbs * t.natAbs + h.natAbs * e.natAbs ≤ U.natAbs → e.natAbs ≤ U.natAbs →
      ∃ l' h' , whlL c f j [s0, s1, s2, some (.int l), some (.int h), some (.int e), some (.int t), s7, s8, s9] M = .ok (.nx, [s0, s1, s2, some (.int l'), some (.int h'), some (.int 1), some (.int 0), s7, s8, s9]) M ∧ U ∣ l' * T - 1
  | K, 0, l, h, e, t, t0, te, hP, hj, hg, d1, d2, hb, he => by omega
  | K, j + 1, l, h, e, t, t0, te, hP, hj, hg, d1, d2, hb, he => by
    by_cases z : t = 0
    · subst z
      have e1 : e = 1 := by
        rw [Int.gcd_zero_right] at hg
        omega
      subst e1
      refine ⟨l, h, ?_, d1⟩
      rw [whl_f (M1 := M) (by rw [hc]; simp)]
    · have tp : 0 < t := by omega
      cases K with
      | zero =>
        have := Int.mul_pos (show 0 < e by omega) tp
        simp at hP
        omega
      | succ K =>
        have m0 := Int.emod_nonneg e z
        have m1 := Int.emod_lt_of_pos e tp
        have dm := Int.mul_ediv_add_emod e t
        have q1 : 1 ≤ e / t := by
          have := Int.ediv_le_ediv tp (show t ≤ e by omega)
          rw [Int.ediv_self z] at this
          exact this
        have q2 : t ≤ t * (e / t) := by
          have := Int.mul_le_mul_of_nonneg_left q1 (show 0 ≤ t by omega)
          omega
        have hP' : t * (e % t) < 2 ^ K := by
          have h1 : 2 * (e % t) ≤ e := by omega
          have h2 := Int.mul_le_mul_of_nonneg_left h1 (show 0 ≤ t by omega)
          rw [Int.pow_succ] at hP
          have h3 : t * (2 * (e % t)) = 2 * (t * (e % t)) := Int.mul_left_comm ..
          have h4 : t * e = e * t := Int.mul_comm ..
          omega
        have hh : h.natAbs ≤ U.natAbs := by
          have : h.natAbs * 1 ≤ h.natAbs * e.natAbs := Nat.mul_le_mul_left _ (by omega)
          omega
        have hb' : h.natAbs * (e % t).natAbs + (l - e / t * h).natAbs * t.natAbs ≤ U.natAbs := by
          have a1 : (l - e / t * h).natAbs ≤ l.natAbs + (e / t).natAbs * h.natAbs := by
            have := Int.natAbs_sub_le l (e / t * h)
            rw [Int.natAbs_mul] at this
            exact this
          have a2 := Nat.mul_le_mul_right t.natAbs a1
          have a3 : (e % t).natAbs + t.natAbs * (e / t).natAbs = e.natAbs := by
            rw [← Int.natAbs_mul]
            have : 0 ≤ t * (e / t) := Int.mul_nonneg (by omega) (by omega)
            omega
          have a4 : h.natAbs * e.natAbs = h.natAbs * (e % t).natAbs + h.natAbs * (t.natAbs * (e / t).natAbs) := by rw [← a3, Nat.mul_add]
          have a5 : (l.natAbs + (e / t).natAbs * h.natAbs) * t.natAbs = l.natAbs * t.natAbs + h.natAbs * (t.natAbs * (e / t).natAbs) := by
            rw [Nat.add_mul]
            congr 1
            rw [Nat.mul_comm (e / t).natAbs, Nat.mul_assoc, Nat.mul_comm (e / t).natAbs]
          omega
        have g' : Int.gcd t (e % t) = 1 := by
          rw [← hg, Int.gcd_comm, Int.gcd_comm e t]
          rw [show e % t = e - e / t * t by rw [Int.mul_comm]; omega, Int.gcd_sub_mul_right_left, Int.gcd_comm]
        have d3 : U ∣ (l - e / t * h) * T - e % t := by
          have e1 : (l - e / t * h) * T - e % t = (l * T - e) - e / t * (h * T - t) := by
            have : e % t = e - t * (e / t) := by omega
            rw [this]
            grind
          rw [e1]
          exact Int.dvd_sub d1 (Int.dvd_mul_of_dvd_right d2)
        obtain ⟨l', h', r1, r2⟩ := par_whl hU hc hf K j h (l - e / t * h) t (e % t) m0 m1 hP' (by omega) g' d2 d3 hb' (by omega)
        refine ⟨l', h', ?_, r2⟩
        rw [whl_t (by rw [hc, decide_eq_true z]) (hf l h e t tp te he hh)]
        exact r1
end
end K01

set_option Elab.async false
set_option linter.all false
set_option maxRecDepth 100000
set_option autoImplicit false
set_option maxHeartbeats 4000000
/-! k01, the plain law, part 10: the law's look at the simplest fraction. -/
namespace K01
open PySem MP

section
variable {n k : Nat} {M : MH}
theorem parents_ok {x : Fr} (hx : Fk k x) (hk : k ≤ 1500) (h2 : 1 < x.2) : ∃ f l : Int, run pg (n + 1) 25 [x.mv] M = .ok (.tup [Fr.mv (f, l), Fr.mv (x.1 - f, x.2 - l)]) M ∧ 0 < l ∧ l < x.2 ∧ x.2 * f = x.1 * l - 1 := by
  rw [show run pg (n + 1) 25 [x.mv] M = _ from (show IsD pg 25 1 10 b_25 from ⟨d_25, rfl, rfl, rfl, rfl⟩).go rfl]
  have p := hx.pos
  have pz : x.2 ≠ 0 := by omega
  have m0 := Int.emod_nonneg x.1 pz
  have m1 := Int.emod_lt_of_pos x.1 p
  obtain ⟨l', h', r1, r2⟩ := par_whl (c := wcon (cfg pg n) (.cmp .ne (.var 6) (.cst (.int 0)))) (f := wbod (cfg pg n) (.cons (.asg (.tp [5, 6, 3, 4]) (.tup (.cons (.var 6) (.cons (.bin .mod (.blt .int (.cons (.var 5) .nil)) (.var 6)) (.cons (.var 4) (.cons (.bin .sub (.var 3) (.bin .mul (.bin .fdv (.var 5) (.var 6)) (.var 4))) .nil)))))) .nil)) (M := M) (T := x.1) (U := x.2) (s0 := some x.mv) (s1 := some (.int x.1)) (s2 := some (.int x.2)) (s7 := none) (s8 := none) (s9 := none) p
    (by
      intro l h e t
      unfold wcon
      simp
      by_cases ht : t = 0 <;> simp [ht])
    (by
      intro l h e t ht hte he hh
      have tz : t ≠ 0 := by omega
      have hu := hx.und
      have se : Sz k e := by unfold Sz at *; omega
      have st : Sz k t := by unfold Sz at *; omega
      have sh : Sz k h := by unfold Sz at *; omega
      have sq : Sz k (e / t) := by
        have := Int.ediv_le_self (a := e) t (by omega)
        have := Int.ediv_nonneg (show 0 ≤ e by omega) (show 0 ≤ t by omega)
        unfold Sz at *
        omega
      have e1 : e.fdiv t = e / t := Int.fdiv_eq_ediv_of_nonneg _ (by omega)
      have e2 : e.fmod t = e % t := Int.fmod_eq_emod_of_nonneg _ (by omega)
      unfold wbod
      simp [o_mod _ tz, o_fdv _ tz (st.fdvOk (by omega)), e1, e2, o_mul _ (sq.mulOk sh (by omega))])
    (2 * k) pg.most 0 1 x.2 (x.1 % x.2) m0 m1 (by
      have h1 : x.2 * (x.1 % x.2) ≤ x.2 * x.2 := Int.mul_le_mul_of_nonneg_left (by omega) (by omega)
      have s := hx.und.mul hx.und
      unfold Sz at s
      have e : ((2 : Int) ^ (2 * k)) = ((2 ^ (k + k) : Nat) : Int) := by rw [Int.natCast_pow, show 2 * k = k + k by omega]; rfl
      rw [e]
      omega) (by show 2 * k < 1000001; omega) (by
      rw [← hx.low, show x.1 % x.2 = x.1 - x.1 / x.2 * x.2 by have := Int.mul_ediv_add_emod x.1 x.2; rw [Int.mul_comm]; omega, Int.gcd_comm, Int.gcd_sub_mul_right_left]) (by
      rw [Int.zero_mul, Int.zero_sub]
      exact Int.dvd_neg.mpr (Int.dvd_refl _)) (by
      rw [Int.one_mul]
      exact ⟨x.1 / x.2, by have := Int.mul_ediv_add_emod x.1 x.2; omega⟩) (by
      simp) (by omega)
  obtain ⟨r, hr⟩ : ∃ r, r = l' % x.2 := ⟨_, rfl⟩
  have r0 := Int.emod_nonneg l' pz
  have r1' := Int.emod_lt_of_pos l' p
  rw [← hr] at r0 r1'
  have d : x.2 ∣ x.1 * r - 1 := by
    have e : x.1 * r - 1 = (l' * x.1 - 1) - x.2 * (x.1 * (l' / x.2)) := by
      have := Int.mul_ediv_add_emod l' x.2
      rw [hr]
      have e3 : l' % x.2 = l' - x.2 * (l' / x.2) := by omega
      rw [e3]
      grind
    rw [e]
    exact Int.dvd_sub r2 (Int.dvd_mul_right ..)
  have rz : r ≠ 0 := by
    intro z
    rw [z, Int.mul_zero, Int.zero_sub] at d
    have := Int.le_of_dvd (by decide) (Int.dvd_neg.mp d)
    omega
  have fe := Int.mul_ediv_cancel' d
  refine ⟨(x.1 * r - 1) / x.2, r, ?_, by omega, r1', fe⟩
  have sr : Sz k r := by
    have hu := hx.und
    unfold Sz at *
    omega
  have e1 : (x.1 * r - 1).fdiv x.2 = (x.1 * r - 1) / x.2 := Int.fdiv_eq_ediv_of_nonneg _ (by omega)
  have e2 : l'.fmod x.2 = r := by rw [Int.fmod_eq_emod_of_nonneg _ (by omega), hr]
  have e3 : x.1.fmod x.2 = x.1 % x.2 := Int.fmod_eq_emod_of_nonneg _ (by omega)
  have rb : (r == 0) = false := beq_eq_false_iff_ne.mpr rz
  have x0 : x.mv = .tup [.int x.1, .int x.2] := rfl
  unfold b_25
  refine fin_cons (m' := [some x.mv, some (.int x.1), some (.int x.2), none, none, none, none, none, none, none]) (M1 := M) (by rw [x0]; simp) ?_
  refine fin_cons (m' := [some x.mv, some (.int x.1), some (.int x.2), some (.int 0), some (.int 1), some (.int x.2), some (.int (x.1 % x.2)), none, none, none]) (M1 := M) (by simp [o_mod _ pz, e3]) ?_
  refine fin_cons (m' := [some x.mv, some (.int x.1), some (.int x.2), some (.int l'), some (.int h'), some (.int 1), some (.int 0), none, none, none]) (M1 := M) (by rw [s_whl, cfg_most]; exact r1) ?_
  refine fin_cons (m' := [some x.mv, some (.int x.1), some (.int x.2), some (.int l'), some (.int h'), some (.int 1), some (.int 0), some (.int r), none, none]) (M1 := M) (by simp [o_mod _ pz, e2]) ?_
  refine fin_cons (m' := [some x.mv, some (.int x.1), some (.int x.2), some (.int l'), some (.int h'), some (.int 1), some (.int 0), some (.int r), some (.int r), none]) (M1 := M) (by simp [rb]) ?_
  refine fin_cons (m' := [some x.mv, some (.int x.1), some (.int x.2), some (.int l'), some (.int h'), some (.int 1), some (.int 0), some (.int r), some (.int r), some (.int ((x.1 * r - 1) / x.2))]) (M1 := M) (by simp [o_mul _ (hx.top.mulOk sr (by omega)), o_fdv _ pz (hx.und.fdvOk (by omega)), e1]) ?_
  exact fin_ret (m' := [some x.mv, some (.int x.1), some (.int x.2), some (.int l'), some (.int h'), some (.int 1), some (.int 0), some (.int r), some (.int r), some (.int ((x.1 * r - 1) / x.2))]) (by simp [Fr.mv])
theorem lt_false {x y : Fr} (h : ¬ x.1 * y.2 < y.1 * x.2) : lt x y = false := decide_eq_false h
theorem lt_true {x y : Fr} (h : x.1 * y.2 < y.1 * x.2) : lt x y = true := decide_eq_true h
theorem issimp_ok {low high f : Fr} (hl : Fk k low) (hh : Fk k high) (hf : Fk (k + 1) f) (hk : k ≤ 1000) (hs : SimpZ low high f) : run pg (n + 4) 26 [low.mv, high.mv, f.mv] M = .ok (.bl true) M := by
  rw [show run pg (n + 4) 26 [low.mv, high.mv, f.mv] M = _ from (show IsD pg 26 3 6 b_26 from ⟨d_26, rfl, rfl, rfl, rfl⟩).go rfl]
  have p1 := hl.pos
  have p2 := hh.pos
  have p3 := hf.pos
  have ff := lisfr_ok (n := n) (M := M) (FrSz.of hf (by omega))
  rw [isFr_mv hf] at ff
  have l1 := lless_ok (n := n + 2) (M := M) hf.top hf.und hl.top hl.und (by omega)
  have l2 := lless_ok (n := n + 2) (M := M) hh.top hh.und hf.top hf.und (by omega)
  have hge := hs.ge
  have hle := hs.le
  rw [lt_false (by omega)] at l1 l2
  have z0 : ∀ N, idxop f.mv (.int 0) N = .ok (.int f.1) N := fun N => ixT0 N _ _
  have z1 : ∀ N, idxop f.mv (.int 1) N = .ok (.int f.2) N := fun N => ixT1 N _ _ _
  unfold b_26
  refine fin_cons (m' := [some low.mv, some high.mv, some f.mv, none, none, none]) (M1 := M) (by simp [argAt, ff, l1, l2]) ?_
  by_cases h1 : f.2 = 1
  · -- a whole number
    have fin : ∀ mate : Fr, Sz (k + 2) mate.1 → mate.2 = 1 → (f.1 ≠ 0 → mate.1.natAbs < f.1.natAbs) → (mate = if 0 < f.1 then (f.1 - 1, 1) else (f.1 + 1, 1)) → f.1 = 0 ∨ (lt mate low = true ∨ lt high mate = true) := by
      intro mate _ hm1 hm2 _
      by_cases h0 : f.1 = 0
      · exact .inl h0
      · by_cases q1 : mate.1 * low.2 < low.1 * mate.2
        · exact .inr (.inl (lt_true q1))
        · by_cases q2 : high.1 * mate.2 < mate.1 * high.2
          · exact .inr (.inr (lt_true q2))
          · have := (hs.min mate.1 mate.2 (by omega) (by omega) (by omega)).2
            have := hm2 h0
            omega
    obtain ⟨mate, hm⟩ : ∃ mate : Fr, mate = if 0 < f.1 then (f.1 - 1, 1) else (f.1 + 1, 1) := ⟨_, rfl⟩
    have s1 : ∀ j, Sz (j + 1) 1 := by
      intro j
      unfold Sz
      rw [Nat.pow_succ]
      have := Nat.two_pow_pos j
      show 1 < _
      omega
    have sm : Sz (k + 2) mate.1 := by
      rw [hm]
      split
      · exact hf.top.sub (s1 0) (by omega) (by omega)
      · exact hf.top.add (s1 0) (by omega) (by omega)
    have hm2 : mate.2 = 1 := by
      rw [hm]
      split <;> rfl
    have hma : f.1 ≠ 0 → mate.1.natAbs < f.1.natAbs := by
      intro h0
      rw [hm]
      split
      · show (f.1 - 1).natAbs < _
        omega
      · show (f.1 + 1).natAbs < _
        omega
    have hu : Sz (k + 2) mate.2 := by
      rw [hm2]
      exact s1 _
    have m1 := lless_ok (n := n + 2) (M := M) sm hu hl.top hl.und (by omega)
    have m2 := lless_ok (n := n + 2) (M := M) hh.top hh.und sm hu (by omega)
    have r := fin mate sm hm2 hma hm
    have em : Fr.mv mate = if 0 < f.1 then .tup [.int (f.1 - 1), .int 1] else .tup [.int (f.1 + 1), .int 1] := by
      rw [hm]
      split <;> rfl
    have f1b : (f.2 == 1) = true := beq_iff_eq.mpr h1
    rw [s_cons, s_iff]
    have c1 : ev (cfg pg (n + 3)) (.cmp .eq (.idx (.var 2) (.cst (.int 1))) (.cst (.int 1))) [some low.mv, some high.mv, some f.mv, none, none, none] M = .ok (.bl true) M := by simp [z1, f1b]
    rw [c1, bnd_ok_, k_ift]
    have c2 : ev (cfg pg (n + 3)) (.ife (.cmp .gt (.idx (.var 2) (.cst (.int 0))) (.cst (.int 0))) (.tup (.cons (.bin .sub (.idx (.var 2) (.cst (.int 0))) (.cst (.int 1))) (.cons (.cst (.int 1)) .nil))) (.tup (.cons (.bin .add (.idx (.var 2) (.cst (.int 0))) (.cst (.int 1))) (.cons (.cst (.int 1)) .nil)))) [some low.mv, some high.mv, some f.mv, none, none, none] M = .ok mate.mv M := by
      rw [em]
      by_cases h0 : 0 < f.1
      · simp [z0, h0]
      · simp [z0, decide_eq_false h0, h0]
    have c3 : ev (cfg pg (n + 3)) (.or (.cmp .eq (.idx (.var 2) (.cst (.int 0))) (.cst (.int 0))) (.or (.cal 35 0 (.cons (.var 3) (.cons (.var 0) .nil)) .nil) (.cal 35 0 (.cons (.var 1) (.cons (.var 3) .nil)) .nil))) [some low.mv, some high.mv, some f.mv, some mate.mv, none, none] M = .ok (.bl true) M := by
      rcases r with r | r | r
      · have : (f.1 == 0) = true := beq_iff_eq.mpr r
        simp [z0, this]
      · rw [r] at m1
        by_cases h0 : f.1 = 0
        · have : (f.1 == 0) = true := beq_iff_eq.mpr h0
          simp [z0, this]
        · have : (f.1 == 0) = false := beq_eq_false_iff_ne.mpr h0
          simp [z0, this, argAt, m1]
      · rw [r] at m2
        by_cases h0 : f.1 = 0
        · have : (f.1 == 0) = true := beq_iff_eq.mpr h0
          simp [z0, this]
        · have : (f.1 == 0) = false := beq_eq_false_iff_ne.mpr h0
          cases hq : lt mate low <;> rw [hq] at m1 <;> simp [z0, this, argAt, m1, m2]
    simp only [s_cons, s_asg, c2, bnd_ok_, k_asgN, k_nx, s_ret, List.set_cons_succ, List.set_cons_zero, c3, k_ret, k_rt, fin_rt]
  · -- between two parents
    obtain ⟨g, l, r1, r2, r3, r4⟩ := parents_ok (n := n + 2) (M := M) hf (by omega) (by omega)
    have f1b : (f.2 == 1) = false := beq_eq_false_iff_ne.mpr h1
    have sl : Sz (k + 1) l := by
      have hu := hf.und
      unfold Sz at *
      omega
    have sl2 : Sz (k + 1) (f.2 - l) := by
      have hu := hf.und
      unfold Sz at *
      omega
    have e1 : g * f.2 < f.1 * l := by
      rw [Int.mul_comm]
      omega
    have sg : Sz (k + 2) g := by
      have ht := hf.top
      have hu := hf.und
      have h3 : (f.2 * g).natAbs ≤ f.1.natAbs * l.natAbs + 1 := by
        rw [r4, ← Int.natAbs_mul]
        omega
      rw [Int.natAbs_mul] at h3
      have h4 : f.1.natAbs * l.natAbs ≤ f.1.natAbs * f.2.natAbs := Nat.mul_le_mul_left _ (by omega)
      have h5 : f.2.natAbs * g.natAbs ≤ f.2.natAbs * (f.1.natAbs + 1) := by
        rw [Nat.mul_add, Nat.mul_comm f.2.natAbs f.1.natAbs]
        omega
      have h6 := Nat.le_of_mul_le_mul_left h5 (by omega)
      unfold Sz at *
      rw [Nat.pow_succ]
      have := Nat.two_pow_pos (k + 1)
      omega
    have sg2 : Sz (k + 3) (f.1 - g) := hf.top.sub sg (by omega) (by omega)
    have m1 := lless_ok (n := n + 2) (M := M) (x := (g, l)) sg (sl.mono (by omega)) hl.top hl.und (by omega)
    have m2 := lless_ok (n := n + 2) (M := M) (y := (f.1 - g, f.2 - l)) hh.top hh.und sg2 (sl2.mono (by omega)) (by omega)
    have t1 : lt (g, l) low = true := by
      by_cases q : g * low.2 < low.1 * l
      · exact lt_true q
      · have := (hs.min g l r2 (by omega) (by
          -- g/l < f ≤ high
          have a1 : g * f.2 * high.2 < f.1 * l * high.2 := Int.mul_lt_mul_of_pos_right e1 p2
          have a2 : f.1 * high.2 * l ≤ high.1 * f.2 * l := Int.mul_le_mul_of_nonneg_right hle (by omega)
          have a3 : (g * high.2) * f.2 < (high.1 * l) * f.2 := by grind
          exact Int.le_of_lt (Int.lt_of_mul_lt_mul_right a3 (by omega)))).1
        omega
    have t2 : lt high (f.1 - g, f.2 - l) = true := by
      by_cases q : high.1 * (f.2 - l) < (f.1 - g) * high.2
      · exact lt_true q
      · have := (hs.min (f.1 - g) (f.2 - l) (by omega) (by
          have a1 : f.1 * (f.2 - l) < (f.1 - g) * f.2 := by grind
          have a2 : f.1 * (f.2 - l) * low.2 < (f.1 - g) * f.2 * low.2 := Int.mul_lt_mul_of_pos_right a1 p1
          have a3 : low.1 * f.2 * (f.2 - l) ≤ f.1 * low.2 * (f.2 - l) := Int.mul_le_mul_of_nonneg_right hge (by omega)
          have a4 : (low.1 * (f.2 - l)) * f.2 < ((f.1 - g) * low.2) * f.2 := by grind
          exact Int.le_of_lt (Int.lt_of_mul_lt_mul_right a4 (by omega))) (by omega)).1
        omega
    rw [t1] at m1
    rw [t2] at m2
    refine fin_cons (m' := [some low.mv, some high.mv, some f.mv, none, none, none]) (M1 := M) (by simp [z1, f1b]) ?_
    refine fin_cons (m' := [some low.mv, some high.mv, some f.mv, none, some (Fr.mv (g, l)), some (Fr.mv (f.1 - g, f.2 - l))]) (M1 := M) (by simp [argAt, r1]) ?_
    have w1 : ∀ N, idxop (Fr.mv (f.1 - g, f.2 - l)) (.int 1) N = .ok (.int (f.2 - l)) N := fun N => ixT1 N _ _ _
    have wz : (f.2 - l == 0) = false := beq_eq_false_iff_ne.mpr (by omega)
    exact fin_ret (m' := [some low.mv, some high.mv, some f.mv, none, some (Fr.mv (g, l)), some (Fr.mv (f.1 - g, f.2 - l))]) (by simp [argAt, m1, w1, wz, m2])
end
end K01

set_option Elab.async false
set_option linter.all false
set_option maxRecDepth 100000
set_option autoImplicit false
set_option maxHeartbeats 4000000
/-! k01, the plain law, part 11: spans. -/
namespace K01
open PySem MP

theorem nf_nonneg {a b : Int} (ha : 0 ≤ a) (hb : 0 < b) : 0 ≤ (nf a b).1 := by
  unfold nf
  rw [if_pos hb]
  exact Int.ediv_nonneg ha (Int.natCast_nonneg _)
theorem pl_ge {k l : Nat} {x y : Fr} (hx : Fk k x) (hy : Fk l y) (h0 : 0 ≤ y.1) : x.1 * (pl x y).2 ≤ (pl x y).1 * x.2 := by
  have p := (pl_fk hx hy).pos
  have c : (pl x y).1 * (x.2 * y.2) = (pl x y).2 * (x.1 * y.2 + y.1 * x.2) := nf_cross
  have p1 := hx.pos
  have p2 := hy.pos
  generalize (pl x y).1 = P at *
  generalize (pl x y).2 = Q at *
  have e : (x.1 * Q) * y.2 ≤ (P * x.2) * y.2 := by
    have h1 : 0 ≤ Q * (y.1 * x.2) := Int.mul_nonneg (by omega) (Int.mul_nonneg h0 (by omega))
    grind
  exact Int.le_of_mul_le_mul_right e p2
theorem nf_le {k : Nat} {a t b : Int} (hb : 0 < b) (ht : 0 ≤ t) (h1 : Fk k (nf a b)) (h2 : Fk k (nf (a + t) b)) : (nf a b).1 * (nf (a + t) b).2 ≤ (nf (a + t) b).1 * (nf a b).2 := by
  have c1 : (nf a b).1 * b = (nf a b).2 * a := nf_cross
  have c2 : (nf (a + t) b).1 * b = (nf (a + t) b).2 * (a + t) := nf_cross
  have p1 := h1.pos
  have p2 := h2.pos
  generalize nf a b = u at *
  generalize nf (a + t) b = v at *
  have e : (u.1 * v.2) * b ≤ (v.1 * u.2) * b := by
    have h3 : 0 ≤ u.2 * v.2 * t := Int.mul_nonneg (Int.mul_nonneg (by omega) (by omega)) ht
    rw [Int.mul_right_comm, c1, Int.mul_right_comm v.1, c2]
    have e1 : v.2 * (a + t) * u.2 = u.2 * a * v.2 + u.2 * v.2 * t := by
      rw [Int.mul_add, Int.add_mul]
      congr 1
      · rw [Int.mul_comm v.2 a, Int.mul_comm u.2 a, Int.mul_right_comm]
      · rw [Int.mul_right_comm, Int.mul_comm v.2 u.2]
    omega
  exact Int.le_of_mul_le_mul_right e hb
theorem _root_.MP.Fk.mono {k l : Nat} {x : Fr} (h : Fk k x) (hk : k ≤ l) : Fk l x := ⟨h.top.mono hk, h.und.mono hk, h.pos, h.low⟩
section
variable {n p g d : Nat} {M : MH}
def bSpan : Ss := b_27
theorem span_ok (hp : Purse p g d M) (hd : d + 200 < 1000000) : ∃ lo hi M', run pg (n + 6) 27 [.lst p] M = .ok (.tup [Fr.mv lo, Fr.mv hi]) M' ∧ Fk 400 lo ∧ Fk 400 hi ∧ lo.1 * hi.2 ≤ hi.1 * lo.2 ∧ Purse p g (d + 140) M' ∧ Ext p M M' := by
  rw [show run pg (n + 6) 27 [.lst p] M = _ from (show IsD pg 27 1 6 b_27 from ⟨d_27, rfl, rfl, rfl, rfl⟩).go rfl]
  obtain ⟨x, M1, e1, f1, p1, x1⟩ := drawn_ok (n := n + 1) hp (by omega)
  obtain ⟨w, M2, e2, w0, w1, p2, x2, _⟩ := drw (n := n + 4) (k := 5) p1 (by omega) (by decide) (by decide)
  have st : ∀ j, j ≤ 140 → Purse p g (d + 60 + 1 + j) M2 := fun j _ => p2.mono (by omega)
  have s0 : ex (cfg pg (n + 5)) (.asg (.tp [1, 2]) (.tup (.cons (.cal 23 0 (.cons (.var 0) .nil) .nil) (.cons (.cal 41 0 (.cons (.var 0) (.cons (.cst (.int 5)) .nil)) .nil) .nil)))) [some (.lst p), none, none, none, none, none] M = .ok (.nx, [some (.lst p), some x.mv, some (.int w), none, none, none]) M2 := by
    simp [argAt, e1, e2]
  unfold b_27
  have sx (i : Int) (j : Nat) (h : i.natAbs < 2 ^ j) : Sz j i := h
  by_cases c0 : w = 0
  · subst c0
    refine ⟨x, x, M2, ?_, f1.mono (by omega), f1.mono (by omega), Int.le_refl _, p2.mono (by omega), x1.trans x2⟩
    refine fin_cons s0 ?_
    exact fin_ret (m' := [some (.lst p), some x.mv, some (.int 0), none, none, none]) (by simp)
  by_cases c1 : w = 1
  · subst c1
    obtain ⟨l3, hl3⟩ : ∃ l3 : List MV, l3 = [.int 7, .int 1000000000, .int 1000000000000000000000000000000] := ⟨_, rfl⟩
    obtain ⟨v, M3, e3, h3, p3, x3, _⟩ := pck (n := n + 3) (q := M2.length) (xs := l3) (p2.app (App.one (xs := l3))) (by omega) get_new (by have := p2.lt; omega) (by rw [hl3]; simp) (by rw [hl3]; simp)
    obtain ⟨z, rfl, hz, hz2⟩ : ∃ z : Int, v = .int z ∧ 0 < z ∧ Sz 100 z := by
      rw [hl3] at h3
      simp only [List.mem_cons, List.not_mem_nil, or_false] at h3
      rcases h3 with rfl | rfl | rfl
      · exact ⟨_, rfl, by decide, by unfold Sz; decide⟩
      · exact ⟨_, rfl, by decide, by unfold Sz; decide⟩
      · exact ⟨_, rfl, by decide, by unfold Sz; decide⟩
    have g1 : Fk 100 (nf 1 z) := nf_fk (by omega) (by unfold Sz; decide) hz2
    have b1 := by_ok (n := n + 3) (M := M3) (a := 1) (b := z) (by omega) ((show Sz 100 1 by unfold Sz; decide).mono (by omega)) (hz2.mono (by omega))
    have q1 := lplus_ok (n := n + 2) (M := M3) f1 g1 (by omega)
    refine ⟨x, pl x (nf 1 z), M3, ?_, f1.mono (by omega), (pl_fk f1 g1).mono (by omega), pl_ge f1 g1 (nf_nonneg (by decide) hz), p3.mono (by omega), (x1.trans x2).trans (App.one.ext.trans x3)⟩
    refine fin_cons s0 ?_
    refine fin_cons (m' := [some (.lst p), some x.mv, some (.int 1), none, none, none]) (M1 := M2) (by simp) ?_
    rw [hl3] at e3
    exact fin_ret (m' := [some (.lst p), some x.mv, some (.int 1), none, none, none]) (by simp [argAt, o_pow _ (show (0 : Int) ≤ 9 ∧ (9 : Int) ≤ 1000 ∧ (10 : Int).natAbs < 2 ^ 64 by decide), o_pow _ (show (0 : Int) ≤ 30 ∧ (30 : Int) ≤ 1000 ∧ (10 : Int).natAbs < 2 ^ 64 by decide), e3, b1, q1])
  by_cases c2 : w = 2
  · subst c2
    obtain ⟨a, M3, e3, a0, a1, p3, x3, _⟩ := drw (n := n + 4) (k := 60) p2 (by omega) (by decide) (by decide)
    obtain ⟨b, M4, e4, b0, b1, p4, x4, _⟩ := drw (n := n + 4) (k := 40) p3 (by omega) (by decide) (by decide)
    obtain ⟨c, M5, e5, c0', c1', p5, x5, _⟩ := drw (n := n + 4) (k := 50) p4 (by omega) (by decide) (by decide)
    have sa : Sz 10 (a - 30) := by unfold Sz; omega
    have sb : Sz 10 (1 + b) := by unfold Sz; omega
    have sc : Sz 10 c := by unfold Sz; omega
    have g1 : Fk 10 (nf (a - 30) (1 + b)) := nf_fk (by omega) sa sb
    have g2 : Fk 10 (nf c 49) := nf_fk (by decide) sc (by unfold Sz; decide)
    have y1 := by_ok (n := n + 3) (M := M4) (a := a - 30) (b := 1 + b) (by omega) (sa.mono (by omega)) (sb.mono (by omega))
    have y2 := by_ok (n := n + 3) (M := M5) (a := c) (b := 49) (by omega) (sc.mono (by omega)) ((show Sz 10 49 by unfold Sz; decide).mono (by omega))
    have q1 := lplus_ok (n := n + 2) (M := M5) g1 g2 (by omega)
    refine ⟨nf (a - 30) (1 + b), pl (nf (a - 30) (1 + b)) (nf c 49), M5, ?_, g1.mono (by omega), (pl_fk g1 g2).mono (by omega), pl_ge g1 g2 (nf_nonneg c0' (by decide)), p5.mono (by omega), (x1.trans x2).trans (x3.trans (x4.trans x5))⟩
    refine fin_cons s0 ?_
    refine fin_cons (m' := [some (.lst p), some x.mv, some (.int 2), none, none, none]) (M1 := M2) (by simp) ?_
    refine fin_cons (m' := [some (.lst p), some x.mv, some (.int 2), none, none, none]) (M1 := M2) (by simp) ?_
    exact fin_ret (m' := [some (.lst p), some x.mv, some (.int 2), some (Fr.mv (nf (a - 30) (1 + b))), none, none]) (by simp [argAt, e3, e4, e5, y1, y2, q1])
  by_cases c3 : w = 3
  · subst c3
    obtain ⟨a, M3, e3, a0, a1, p3, x3, _⟩ := drw (n := n + 4) (k := 9) p2 (by omega) (by decide) (by decide)
    obtain ⟨b, M4, e4, b0, b1, p4, x4, _⟩ := drw (n := n + 4) (k := 39) p3 (by omega) (by decide) (by decide)
    have sa : Sz 10 ((a - 4) * 40 + 1) := by unfold Sz; omega
    have sb : Sz 10 ((a - 4) * 40 + 1 + b) := by unfold Sz; omega
    have s4 : Sz 10 40 := by unfold Sz; decide
    have g1 : Fk 10 (nf ((a - 4) * 40 + 1) 40) := nf_fk (by decide) sa s4
    have g2 : Fk 10 (nf ((a - 4) * 40 + 1 + b) 40) := nf_fk (by decide) sb s4
    have y1 := by_ok (n := n + 3) (M := M3) (a := (a - 4) * 40 + 1) (b := 40) (by omega) (sa.mono (by omega)) (s4.mono (by omega))
    have y2 := by_ok (n := n + 3) (M := M4) (a := (a - 4) * 40 + 1 + b) (b := 40) (by omega) (sb.mono (by omega)) (s4.mono (by omega))
    have m1 := (show Sz 10 (a - 4) by unfold Sz; omega).mulOk s4 (by omega)
    refine ⟨nf ((a - 4) * 40 + 1) 40, nf ((a - 4) * 40 + 1 + b) 40, M4, ?_, g1.mono (by omega), g2.mono (by omega), nf_le (by decide) b0 g1 g2, p4.mono (by omega), (x1.trans x2).trans (x3.trans x4)⟩
    refine fin_cons s0 ?_
    refine fin_cons (m' := [some (.lst p), some x.mv, some (.int 3), none, none, none]) (M1 := M2) (by simp) ?_
    refine fin_cons (m' := [some (.lst p), some x.mv, some (.int 3), none, none, none]) (M1 := M2) (by simp) ?_
    refine fin_cons (m' := [some (.lst p), some x.mv, some (.int 3), none, none, none]) (M1 := M2) (by simp) ?_
    exact fin_ret (m' := [some (.lst p), some x.mv, some (.int 3), none, some (.int (a - 4)), none]) (by simp [argAt, e3, e4, o_mul _ m1, y1, y2])
  · have c4 : w = 4 := by omega
    subst c4
    obtain ⟨y, M3, e3, f3, p3, x3⟩ := drawn_ok (n := n + 1) p2 (by omega)
    have ll := lless_ok (n := n + 4) (M := M3) f3.top f3.und f1.top f1.und (by omega)
    by_cases q : y.1 * x.2 < x.1 * y.2
    · rw [lt_true q] at ll
      refine ⟨y, x, M3, ?_, f3.mono (by omega), f1.mono (by omega), Int.le_of_lt q, p3.mono (by omega), (x1.trans x2).trans x3⟩
      refine fin_cons s0 ?_
      refine fin_cons (m' := [some (.lst p), some x.mv, some (.int 4), none, none, none]) (M1 := M2) (by simp) ?_
      refine fin_cons (m' := [some (.lst p), some x.mv, some (.int 4), none, none, none]) (M1 := M2) (by simp) ?_
      refine fin_cons (m' := [some (.lst p), some x.mv, some (.int 4), none, none, none]) (M1 := M2) (by simp) ?_
      refine fin_cons (m' := [some (.lst p), some x.mv, some (.int 4), none, none, none]) (M1 := M2) (by simp) ?_
      refine fin_cons (m' := [some (.lst p), some x.mv, some (.int 4), none, none, some y.mv]) (M1 := M3) (by simp [argAt, e3]) ?_
      exact fin_ret (m' := [some (.lst p), some x.mv, some (.int 4), none, none, some y.mv]) (by simp [argAt, ll])
    · rw [lt_false q] at ll
      refine ⟨x, y, M3, ?_, f1.mono (by omega), f3.mono (by omega), by omega, p3.mono (by omega), (x1.trans x2).trans x3⟩
      refine fin_cons s0 ?_
      refine fin_cons (m' := [some (.lst p), some x.mv, some (.int 4), none, none, none]) (M1 := M2) (by simp) ?_
      refine fin_cons (m' := [some (.lst p), some x.mv, some (.int 4), none, none, none]) (M1 := M2) (by simp) ?_
      refine fin_cons (m' := [some (.lst p), some x.mv, some (.int 4), none, none, none]) (M1 := M2) (by simp) ?_
      refine fin_cons (m' := [some (.lst p), some x.mv, some (.int 4), none, none, none]) (M1 := M2) (by simp) ?_
      refine fin_cons (m' := [some (.lst p), some x.mv, some (.int 4), none, none, some y.mv]) (M1 := M3) (by simp [argAt, e3]) ?_
      exact fin_ret (m' := [some (.lst p), some x.mv, some (.int 4), none, none, some y.mv]) (by simp [argAt, ll])
end
end K01

set_option Elab.async false
set_option linter.all false
set_option maxRecDepth 100000
set_option autoImplicit false
set_option maxHeartbeats 4000000
/-! k01, the plain law, part 12: the parts of a turn. -/
namespace K01
open PySem MP

theorem SimpZ.uniq {k : Nat} {low high f g : Fr} (hl : Fk k low) (hh : Fk k high) (h : SimpZ low high f) (h' : SimpZ low high g) : f = g := by
  obtain ⟨a1, a2⟩ := h.min g.1 g.2 h'.p2 h'.ge h'.le
  obtain ⟨b1, b2⟩ := h'.min f.1 f.2 h.p2 h.ge h.le
  have e2 : f.2 = g.2 := by omega
  have e1 : f.1 = g.1 := by
    by_cases e : f.1 = g.1
    · exact e
    · have e3 : g.1 = -f.1 := by omega
      have p1 := hl.pos
      have p2 := hh.pos
      have p3 := h.p2
      have c1 := h.ge
      have c2 := h'.ge
      have c3 := h.le
      have c4 := h'.le
      rw [← e2, e3, Int.neg_mul] at c2 c4
      have d1 : low.1 ≤ 0 := by
        by_cases q : low.1 ≤ 0
        · exact q
        · have := Int.mul_pos (show 0 < low.1 by omega) p3
          omega
      have d2 : 0 ≤ high.1 := by
        by_cases q : 0 ≤ high.1
        · exact q
        · have := Int.mul_pos (show 0 < -high.1 by omega) p3
          rw [Int.neg_mul] at this
          omega
      have := (h.min 0 1 (by decide) (by omega) (by omega)).2
      omega
  exact Prod.ext e1 e2
theorem Like.four {M : MH} {d a b : Nat} {u1 u2 u3 u4 v1 v2 v3 v4 : MV} (h1 : M[a]? = some [u1, u2, u3, u4]) (h2 : M[b]? = some [v1, v2, v3, v4]) (r1 : Like M d u1 v1) (r2 : Like M d u2 v2) (r3 : Like M d u3 v3) (r4 : Like M d u4 v4) : Like M (d + 1) (.lst a) (.lst b) := by
  refine ⟨a, _, _, rfl, h1, h2, rfl, by simp, fun i x y e1 e2 => ?_⟩
  match i, e1, e2 with
  | 0, e1, e2 => cases e1; cases e2; exact r1
  | 1, e1, e2 => cases e1; cases e2; exact r2
  | 2, e1, e2 => cases e1; cases e2; exact r3
  | 3, e1, e2 => cases e1; cases e2; exact r4
  | i + 4, e1, e2 => simp at e1
theorem Like.three {M : MH} {d a b : Nat} {u1 u2 u3 v1 v2 v3 : MV} (h1 : M[a]? = some [u1, u2, u3]) (h2 : M[b]? = some [v1, v2, v3]) (r1 : Like M d u1 v1) (r2 : Like M d u2 v2) (r3 : Like M d u3 v3) : Like M (d + 1) (.lst a) (.lst b) := by
  refine ⟨a, _, _, rfl, h1, h2, rfl, by simp, fun i x y e1 e2 => ?_⟩
  match i, e1, e2 with
  | 0, e1, e2 => cases e1; cases e2; exact r1
  | 1, e1, e2 => cases e1; cases e2; exact r2
  | 2, e1, e2 => cases e1; cases e2; exact r3
  | i + 3, e1, e2 => simp at e1
theorem rv_fr {M : MH} {x : Fr} (h : Fk 150 x) : Rv 2 M x.mv 304 := by
  have := rv_tup (M := M) (rvs2 (rv_int h.top (by omega)) (rv_int h.und (by omega)))
  exact this
theorem rvs_mvs {M : MH} : ∀ {xs : List Fr}, (∀ x ∈ xs, Fk 150 x) → Rvs 2 M (mvs xs) (305 * xs.length)
  | [], _ => rvs_nil.up (by omega)
  | x :: xs, h => by
    have r := rvs_cons (rv_fr (M := M) (h x (List.mem_cons_self ..))) (rvs_mvs (M := M) (xs := xs) fun y hy => h y (List.mem_cons_of_mem _ hy)) (by omega)
    have e : 304 + 1 + 305 * xs.length = 305 * (x :: xs).length := by rw [List.length_cons]; omega
    rw [e] at r
    exact r
section
variable {n p g d q : Nat} {M : MH} {s0 s1 s2 s3 s4 s5 s6 s7 s8 s9 s10 s11 s12 s13 s14 : Option MV}
def bV : Ss :=
        (.cons (.asg (.tp [6, 7]) (.tup (.cons (.blt .repr (.cons (.var 5) .nil)) (.cons (.cal 38 0 (.cons (.var 5) .nil) .nil) .nil))))
        (.cons (.iff (.or (.not (.cal 39 0 (.cons (.lst (.cons (.cal 4 0 (.cons (.var 5) .nil) .nil) (.cons (.cal 4 1 .nil (.cons (.var 5) .nil)) .nil))) (.cons (.lst (.cons (.var 7) (.cons (.var 7) .nil))) .nil)) .nil)) (.cmp .ne (.blt .repr (.cons (.var 5) .nil)) (.var 6)))
          (.cons (.ret (.cst (.bl false))) .nil) .nil) .nil))
theorem vals_ok {vs : List MV} (hq : M[q]? = some vs) (hl : vs.length ≤ 100) (hg : ∀ v ∈ vs, Good M v) :
    ∃ x5 x6 x7 M', forL (.ls (.lst q)) (fturn (cfg pg (n + 13)) (.nm 5) bV) pg.most 0 [s0, s1, s2, s3, s4, s5, s6, s7, s8, s9, s10, s11, s12, s13, s14] M = .ok (.nx, [s0, s1, s2, s3, s4, x5, x6, x7, s8, s9, s10, s11, s12, s13, s14]) M' ∧ App M M' := by
  obtain ⟨m', M', h1, x5, x6, x7, h2, h3⟩ := forL_inv (s := .ls (.lst q)) (f := fturn (cfg pg (n + 13)) (.nm 5) bV) (N := vs.length)
    (fun i m N => ∃ x5 x6 x7, m = [s0, s1, s2, s3, s4, x5, x6, x7, s8, s9, s10, s11, s12, s13, s14] ∧ App M N) (by
      rintro i m N hi ⟨x5, x6, x7, rfl, ha⟩
      have hqN := ha.get hq
      obtain ⟨hz, s, ht⟩ := hg vs[i] (List.getElem_mem hi)
      generalize hv : vs[i] = v at *
      have f1 := lisfr_ok (n := n + 10) (M := N) hz
      have f2 := isfr_ok (n := n + 10) (M := N) hz
      have htN := ht.app ha
      obtain ⟨b, hb⟩ : ∃ b : List MV, b = [.bl (isFr v), .bl (isFr v)] := ⟨_, rfl⟩
      have e : ∃ N', run pg (n + 13) 39 [.lst N.length, .lst (N ++ [b]).length] (N ++ [b] ++ [b]) = .ok (.bl true) N' ∧ App N N' := by
        obtain ⟨N', e, a⟩ := same_ (n := n + 10) (d := 3) (M := N ++ [b] ++ [b]) (u := .lst N.length) (v := .lst (N ++ [b]).length) (by
          have q1 : (N ++ [b] ++ [b])[N.length]? = some b := App.one.get get_new
          have q2 : (N ++ [b] ++ [b])[(N ++ [b]).length]? = some b := get_new
          rw [hb] at q1 q2 ⊢
          exact Like.two q1 q2 (Like.bl _) (Like.bl _))
        exact ⟨N', e, App.one.trans (App.one.trans a)⟩
      obtain ⟨N', e, a⟩ := e
      rw [hb] at e
      have r1 := b_repr htN (App.refl (M := N))
      have r2 := b_repr htN a
      refine ⟨?_, v, [s0, s1, s2, s3, s4, some v, some (.str s), some (.bl (isFr v)), s8, s9, s10, s11, s12, s13, s14], N', ?_, ?_, _, _, _, rfl, ha.trans a⟩
      · rw [ls_stop hqN]
        exact decide_eq_false (by omega)
      · rw [ls_item hqN, List.getElem?_eq_getElem hi, hv]
      · unfold fturn bV
        rw [tgN]
        simp only []
        refine xs_cons (m' := [s0, s1, s2, s3, s4, some v, some (.str s), some (.bl (isFr v)), s8, s9, s10, s11, s12, s13, s14]) (M1 := N) ?_ ?_
        · simp [argAt, r1, f1]
        · simp [-List.append_assoc, -List.length_append, argAt, f2, e, r2]) (by
      rintro m N ⟨x5, x6, x7, rfl, ha⟩
      rw [ls_stop (ha.get hq)]
      exact decide_eq_true (Nat.le_refl _)) pg.most 0 [s0, s1, s2, s3, s4, s5, s6, s7, s8, s9, s10, s11, s12, s13, s14] M (by show vs.length < 1000001 + 0; omega) (by omega) ⟨_, _, _, rfl, .refl⟩
  subst h2
  exact ⟨x5, x6, x7, M', h1, h3⟩
theorem some_ok {k : Nat} {m : Sl} (hp : Purse p g d M) (hd : d + 60 * k + 100 < 1000000) (hk : k ≤ 10) (h1 : ∀ x : MV, ((wip m [9]).set 9 (some x))[1]? = some (some (.lst p))) :
    ∃ xs M', comL (.rg 0 k) (turn (cfg pg (n + 13)) (.nm 9) none (.cal 23 0 (.cons (.var 1) .nil) .nil) m) pg.most 0 [] M = .ok (mvs xs) M' ∧ xs.length = k ∧ (∀ x ∈ xs, Fk 150 x) ∧ Purse p g (d + 60 * k) M' ∧ Ext p M M' := by
  obtain ⟨acc, M', r1, xs, r2, r3, r4, r5, r6⟩ := comL_inv (s := .rg 0 k) (f := turn (cfg pg (n + 13)) (.nm 9) none (.cal 23 0 (.cons (.var 1) .nil) .nil) m) (N := k)
    (fun i acc N => ∃ xs, acc = mvs xs ∧ xs.length = i ∧ (∀ x ∈ xs, Fk 150 x) ∧ Purse p g (d + 60 * i) N ∧ Ext p M N) (by
      rintro i acc N hi ⟨xs, rfl, hl, hx, hpu, he⟩
      obtain ⟨x, N', e, hk', hpu', he'⟩ := drawn_ok (n := n + 9) hpu (by omega)
      refine ⟨?_, .int (0 + i), some x.mv, N', rg_item _ _ hi, ?_, ?_, xs ++ [x], ?_, ?_, ?_, hpu'.mono (by omega), he.trans he'⟩
      · rw [rg_stop]
        exact decide_eq_false (by omega)
      · unfold turn
        rw [tgN]
        simp only [Tg.own]
        have e1 := h1 (.int (0 + i))
        have e2 : ev (cfg pg (n + 13)) (.cal 23 0 (.cons (.var 1) .nil) .nil) ((wip m [9]).set 9 (some (.int (0 + i)))) N = .ok x.mv N' := by
          simp only [e_cal, es_cons, e_var, e1, kvr_s, bnd_ok_, k_cons, es_nil, k_cn, k_cal, ar_23_0, k_cl2]
          simp [argAt, e]
        rw [e2]
        rfl
      · unfold mvs lim
        rw [List.length_map]
        omega
      · unfold mvs
        simp
      · simp [hl]
      · intro y hy
        rcases List.mem_append.mp hy with hy | hy
        · exact hx y hy
        · rw [List.mem_singleton.mp hy]
          exact hk'.mono (by omega)) (by
      rintro acc N _
      rw [rg_stop]
      exact decide_eq_true (Nat.le_refl _)) pg.most 0 [] M (by show k < 1000001 + 0; omega) (by omega) ⟨[], rfl, rfl, (fun x hx => by cases hx), hp, .refl⟩
  subst r2
  exact ⟨xs, M', r1, r3, r4, r5, r6⟩
theorem due_ok {xs : List Fr} (hq : M[q]? = some (mvs xs)) (hl : xs.length ≤ 10) (hx : ∀ x ∈ xs, Fk 150 x) :
    ∃ x10, forL (.ls (.lst q)) (fturn (cfg pg (n + 13)) (.nm 10) (.cons (.asg (.nm 7) (.cal 33 0 (.cons (.var 7) (.cons (.var 10) .nil)) .nil)) .nil)) pg.most 0 [s0, s1, s2, s3, s4, s5, s6, some one.mv, s8, s9, s10, s11, s12, s13, s14] M = .ok (.nx, [s0, s1, s2, s3, s4, s5, s6, some (xs.foldl ti one).mv, s8, s9, x10, s11, s12, s13, s14]) M := by
  obtain ⟨m', M', h1, w, h2, h3, h4⟩ := forL_inv (s := .ls (.lst q)) (f := fturn (cfg pg (n + 13)) (.nm 10) (.cons (.asg (.nm 7) (.cal 33 0 (.cons (.var 7) (.cons (.var 10) .nil)) .nil)) .nil)) (N := xs.length)
    (fun i m N => ∃ w, m = [s0, s1, s2, s3, s4, s5, s6, some ((xs.take i).foldl ti one).mv, s8, s9, w, s11, s12, s13, s14] ∧ N = M ∧ Fk (2 + 151 * i) ((xs.take i).foldl ti one)) (by
      rintro i m N hi ⟨w, rfl, rfl, hk⟩
      have e : xs.take (i + 1) = xs.take i ++ [xs[i]] := by rw [List.take_succ, List.getElem?_eq_getElem hi]; rfl
      have e2 : (xs.take (i + 1)).foldl ti one = ti ((xs.take i).foldl ti one) xs[i] := by rw [e, List.foldl_append]; rfl
      have hxi := hx xs[i] (List.getElem_mem hi)
      have r1 := ltimes_ok (n := n + 10) (M := N) hk hxi (by omega)
      have r2 := ti_fk hk hxi
      refine ⟨?_, (xs[i]).mv, [s0, s1, s2, s3, s4, s5, s6, some ((xs.take (i + 1)).foldl ti one).mv, s8, s9, some (xs[i]).mv, s11, s12, s13, s14], N, ?_, ?_, _, rfl, rfl, ?_⟩
      · rw [ls_stop hq]
        exact decide_eq_false (by simp [mvs]; omega)
      · rw [ls_item hq]
        unfold mvs
        rw [List.getElem?_map, List.getElem?_eq_getElem hi]
        rfl
      · unfold fturn
        rw [tgN, e2]
        simp [argAt, r1]
      · rw [e2]
        exact r2.mono (by omega)) (by
      rintro m N ⟨w, rfl, rfl, hk⟩
      rw [ls_stop hq]
      exact decide_eq_true (by simp [mvs])) pg.most 0 [s0, s1, s2, s3, s4, s5, s6, some one.mv, s8, s9, s10, s11, s12, s13, s14] M (by show xs.length < 1000001 + 0; omega) (by omega) ⟨s10, rfl, rfl, one_fk⟩
  rw [List.take_length] at h2
  subst h2 h3
  exact ⟨w, h1⟩
end
end K01

set_option Elab.async false
set_option linter.all false
set_option maxRecDepth 100000
set_option autoImplicit false
set_option maxHeartbeats 4000000
/-! k01, the plain law, part 13: a turn, the law. -/
namespace K01
open PySem MP

theorem mul_l2' {M : MH} {a : Nat} {u v : MV} (h : M[a]? = some [u, v]) : binop .mul (.lst a) (.int 2) M = .ok (.lst M.length) (M ++ [[u, v, u, v]]) := by
  simp [binop, h, lim, List.replicate]
def bT : Ss :=
      (.cons (.asg (.tp [3, 4]) (.tup (.cons (.cal 23 0 (.cons (.var 1) .nil) .nil) (.cons (.cal 23 0 (.cons (.var 1) .nil) .nil) .nil))))
      (.cons (.for (.nm 5) (.seq (.cal 24 0 (.cons (.var 1) (.cons (.var 3) .nil)) .nil))
        (.cons (.asg (.tp [6, 7]) (.tup (.cons (.blt .repr (.cons (.var 5) .nil)) (.cons (.cal 38 0 (.cons (.var 5) .nil) .nil) .nil))))
        (.cons (.iff (.or (.not (.cal 39 0 (.cons (.lst (.cons (.cal 4 0 (.cons (.var 5) .nil) .nil) (.cons (.cal 4 1 .nil (.cons (.var 5) .nil)) .nil))) (.cons (.lst (.cons (.var 7) (.cons (.var 7) .nil))) .nil)) .nil)) (.cmp .ne (.blt .repr (.cons (.var 5) .nil)) (.var 6)))
          (.cons (.ret (.cst (.bl false))) .nil) .nil) .nil)))
      (.cons (.iff (.or (.not (.cal 28 0 (.cons (.var 3) (.cons (.var 4) .nil)) .nil)) (.or (.not (.cal 28 0 (.cons (.var 4) (.cons (.var 3) .nil)) .nil)) (.not (.cal 28 0 (.cons (.var 3) (.cons (.var 3) .nil)) .nil))))
        (.cons (.ret (.cst (.bl false))) .nil) .nil)
      (.cons (.asg (.tp [8, 7]) (.tup (.cons (.com (.nm 9) (.rg1 (.cal 41 0 (.cons (.var 1) (.cons (.cst (.int 6)) .nil)) .nil)) none (.cal 23 0 (.cons (.var 1) .nil) .nil)) (.cons (.tup (.cons (.cst (.int 1)) (.cons (.cst (.int 1)) .nil))) .nil))))
      (.cons (.for (.nm 10) (.seq (.var 8))
        (.cons (.asg (.nm 7) (.cal 33 0 (.cons (.var 7) (.cons (.var 10) .nil)) .nil)) .nil))
      (.cons (.asg (.nm 11) (.blt .repr (.cons (.var 8) .nil)))
      (.cons (.iff (.or (.not (.cal 39 0 (.cons (.lst (.cons (.cal 14 1 (.cons (.var 8) .nil) .nil) (.cons (.cal 15 1 (.cons (.var 8) .nil) .nil) (.cons (.cal 14 0 .nil (.cons (.var 8) .nil)) (.cons (.cal 15 0 .nil (.cons (.var 8) .nil)) .nil))))) (.cons (.bin .mul (.lst (.cons (.cal 36 0 (.cons (.var 8) .nil) .nil) (.cons (.var 7) .nil))) (.cst (.int 2))) .nil)) .nil)) (.cmp .ne (.blt .repr (.cons (.var 8) .nil)) (.var 11)))
        (.cons (.ret (.cst (.bl false))) .nil) .nil)
      (.cons (.asg (.tp [12, 13]) (.cal 27 0 (.cons (.var 1) .nil) .nil))
      (.cons (.asg (.nm 14) (.cal 21 0 (.cons (.var 12) (.cons (.var 13) .nil)) .nil))
      (.cons (.iff (.or (.not (.cal 26 0 (.cons (.var 12) (.cons (.var 13) (.cons (.var 14) .nil))) .nil)) (.not (.cal 39 0 (.cons (.cal 21 1 .nil (.cons (.var 13) (.cons (.var 12) .nil))) (.cons (.var 14) .nil)) .nil)))
        (.cons (.ret (.cst (.bl false))) .nil) .nil) .nil))))))))))
def bR : Ss :=
    (.cons (.ret (.cal 39 0 (.cons (.lst (.cons (.cal 21 0 (.cons (.tup (.cons (.cst (.int 1)) (.cons (.cst (.int 3)) .nil))) (.cons (.tup (.cons (.cst (.int 2)) (.cons (.cst (.int 5)) .nil))) .nil)) .nil) (.cons (.cal 21 0 (.cons (.tup (.cons (.neg (.cst (.int 7))) (.cons (.cst (.int 3)) .nil))) (.cons (.tup (.cons (.neg (.cst (.int 9))) (.cons (.cst (.int 4)) .nil))) .nil)) .nil) (.cons (.cal 21 0 (.cons (.tup (.cons (.neg (.cst (.int 1))) (.cons (.cst (.int 9)) .nil))) (.cons (.tup (.cons (.cst (.int 5)) (.cons (.cst (.int 1)) .nil))) .nil)) .nil) .nil)))) (.cons (.lst (.cons (.tup (.cons (.cst (.int 1)) (.cons (.cst (.int 3)) .nil))) (.cons (.tup (.cons (.neg (.cst (.int 7))) (.cons (.cst (.int 3)) .nil))) (.cons (.tup (.cons (.cst (.int 0)) (.cons (.cst (.int 1)) .nil))) .nil)))) .nil)) .nil)) .nil)
theorem b43_eq : b_43 = .cons (.asg (.nm 1) (.cal 40 0 (.cons (.var 0) .nil) .nil)) (.cons (.for (.nm 2) (.rg1 (.cst (.int 12))) bT) bR) := rfl
section
variable {n p g d : Nat} {M : MH} {v : MV} {s0 s2' s3' s4' s5' s6' s7' s8' s9' s10' s11' s12' s13' s14' : Option MV}
theorem turn_ok (hp : Purse p g d M) (hd : d + 1000 < 1000000) :
    ∃ s2 s3 s4 s5 s6 s7 s8 s9 s10 s11 s12 s13 s14 M', fturn (cfg pg (n + 13)) (.nm 2) bT v [s0, some (.lst p), s2', s3', s4', s5', s6', s7', s8', s9', s10', s11', s12', s13', s14'] M = .ok (.nx, [s0, some (.lst p), s2, s3, s4, s5, s6, s7, s8, s9, s10, s11, s12, s13, s14]) M' ∧ Purse p g (d + 1000) M' := by
  obtain ⟨x, M1, e1, fx, p1, x1⟩ := drawn_ok (n := n + 9) hp (by omega)
  obtain ⟨y, M2, e2, fy, p2, x2⟩ := drawn_ok (n := n + 9) p1 (by omega)
  have fx' : Fk 200 x := fx.mono (by omega)
  have fy' : Fk 200 y := fy.mono (by omega)
  obtain ⟨q1, vs, M3, e3, g3, p3, x3, l3, h3⟩ := bents_ok (n := n + 10) fx' p2 (by omega)
  obtain ⟨z5, z6, z7, M4, e4, a4⟩ := vals_ok (n := n) (s0 := s0) (s1 := some (.lst p)) (s2 := some v) (s3 := some x.mv) (s4 := some y.mv) (s5 := s5') (s6 := s6') (s7 := s7') (s8 := s8') (s9 := s9') (s10 := s10') (s11 := s11') (s12 := s12') (s13 := s13') (s14 := s14') g3 l3 h3
  obtain ⟨M5, e5, a5⟩ := two_ok (n := n + 1) (M := M4) fx' fy' (by omega)
  obtain ⟨M6, e6, a6⟩ := two_ok (n := n + 1) (M := M5) fy' fx' (by omega)
  obtain ⟨M7, e7, a7⟩ := two_ok (n := n + 1) (M := M6) fx' fx' (by omega)
  have p7 := p3.app (((a4.trans a5).trans a6).trans a7)
  obtain ⟨t, M8, e8, t0, t1, p8, x8, _⟩ := drw (n := n + 12) (k := 6) p7 (by omega) (by decide) (by decide)
  obtain ⟨xs, M9, e9, hxl, hx, p9, x9⟩ := some_ok (n := n) (k := t.toNat) (m := [s0, some (.lst p), some v, some x.mv, some y.mv, z5, z6, z7, s8', s9', s10', s11', s12', s13', s14']) p8 (by omega) (by omega) (fun x => rfl)
  obtain ⟨N9, hN9⟩ : ∃ N9, N9 = M9 ++ [mvs xs] := ⟨_, rfl⟩
  have a9 : App M9 N9 := by rw [hN9]; exact App.one
  have g9 : N9[M9.length]? = some (mvs xs) := by rw [hN9]; exact get_new
  have hxl' : xs.length ≤ 10 := by omega
  obtain ⟨z10, e10⟩ := due_ok (n := n) (s0 := s0) (s1 := some (.lst p)) (s2 := some v) (s3 := some x.mv) (s4 := some y.mv) (s5 := z5) (s6 := z6) (s8 := some (.lst M9.length)) (s9 := s9') (s10 := s10') (s11 := s11') (s12 := s12') (s13 := s13') (s14 := s14') g9 hxl' hx
  obtain ⟨s, hs⟩ := (rv_lst g9 (rvs_mvs hx)).txt (by omega) (by omega)
  -- sums and products
  obtain ⟨N10, e11, a10⟩ := sumof_ok (n := n + 8) (M := N9) g9 (by omega) hx
  obtain ⟨N11, e12, a11⟩ := prodof_ok (n := n + 8) (M := N10) (a10.get g9) (by omega) hx
  obtain ⟨N12, e13, a12⟩ := sumof_ok (n := n + 8) (M := N11) ((a10.trans a11).get g9) (by omega) hx
  obtain ⟨N13, e14, a13⟩ := prodof_ok (n := n + 8) (M := N12) (((a10.trans a11).trans a12).get g9) (by omega) hx
  have aa : App N9 N13 := ((a10.trans a11).trans a12).trans a13
  obtain ⟨four, hfour⟩ : ∃ four : List MV, four = [(xs.foldl pl zer).mv, (xs.foldl ti one).mv, (xs.foldl pl zer).mv, (xs.foldl ti one).mv] := ⟨_, rfl⟩
  obtain ⟨two, htwo⟩ : ∃ two : List MV, two = [(xs.foldl pl zer).mv, (xs.foldl ti one).mv] := ⟨_, rfl⟩
  have e15 := lsum_ok (n := n + 9) (M := N13 ++ [four]) (App.one.get (aa.get g9)) (by omega) hx
  obtain ⟨N14, e16, a14⟩ := same_ (n := n + 10) (d := 3) (M := N13 ++ [four] ++ [two] ++ [four]) (u := .lst N13.length) (v := .lst (N13 ++ [four] ++ [two]).length) (by
    have r1 : (N13 ++ [four] ++ [two] ++ [four])[N13.length]? = some four := App.one.get (App.one.get get_new)
    have r2 : (N13 ++ [four] ++ [two] ++ [four])[(N13 ++ [four] ++ [two]).length]? = some four := get_new
    rw [hfour] at r1 r2 ⊢
    exact Like.four r1 r2 (Like.fr _) (Like.fr _) (Like.fr _) (Like.fr _))
  have e17 : binop .mul (.lst (N13 ++ [four]).length) (.int 2) (N13 ++ [four] ++ [two]) = .ok (.lst (N13 ++ [four] ++ [two]).length) (N13 ++ [four] ++ [two] ++ [four]) := by
    have r : (N13 ++ [four] ++ [two])[(N13 ++ [four]).length]? = some two := get_new
    rw [htwo] at r ⊢
    rw [hfour]
    rw [hfour] at r
    exact mul_l2' r
  have ab : App N9 N14 := aa.trans (App.one.trans (App.one.trans (App.one.trans a14)))
  have k1 := b_repr hs App.refl
  have k2 := b_repr hs ab
  -- the span
  obtain ⟨lo, hi, N15, e18, fl, fh, hle, p15, x15⟩ := span_ok (n := n + 7) (p9.app (a9.trans ab)) (by omega)
  obtain ⟨f, N16, e19, a16, sf, ff⟩ := simplest_ok (n := n + 7) (M := N15) (k := 400) (by omega) fl fh hle
  have e20 := issimp_ok (n := n + 9) (M := N16) fl fh ff (by omega) sf
  obtain ⟨f2, N17, e21, a17, sf2, _⟩ := simplest_ok (n := n + 7) (M := N16) (k := 400) (by omega) fl fh hle
  obtain rfl : f2 = f := SimpZ.uniq fl fh sf2 sf
  obtain ⟨N18, e22, a18⟩ := same_ (n := n + 11) (d := 2) (M := N17) (u := f2.mv) (v := f2.mv) (Like.fr f2)
  refine ⟨some v, some x.mv, some y.mv, z5, z6, some (xs.foldl ti one).mv, some (.lst M9.length), s9', z10, some (.str s), some lo.mv, some hi.mv, some f2.mv, N18, ?_, (p15.app ((a16.trans a17).trans a18)).mono (by omega)⟩
  unfold fturn bT
  rw [tgN]
  simp only []
  refine xs_cons (m' := [s0, some (.lst p), some v, some x.mv, some y.mv, s5', s6', s7', s8', s9', s10', s11', s12', s13', s14']) (M1 := M2) (by simp [argAt, e1, e2]) ?_
  refine xs_cons (m' := [s0, some (.lst p), some v, some x.mv, some y.mv, z5, z6, z7, s8', s9', s10', s11', s12', s13', s14']) (M1 := M4) ?_ ?_
  · have c1 : evI (cfg pg (n + 13)) (.seq (.cal 24 0 (.cons (.var 1) (.cons (.var 3) .nil)) .nil)) [s0, some (.lst p), some v, some x.mv, some y.mv, s5', s6', s7', s8', s9', s10', s11', s12', s13', s14'] M2 = .ok (.ls (.lst q1)) M3 := by simp [argAt, e3, seqL g3]
    rw [s_for, c1, bnd_ok_]
    exact e4
  refine xs_cons (m' := [s0, some (.lst p), some v, some x.mv, some y.mv, z5, z6, z7, s8', s9', s10', s11', s12', s13', s14']) (M1 := M7) (by simp [argAt, e5, e6, e7]) ?_
  refine xs_cons (m' := [s0, some (.lst p), some v, some x.mv, some y.mv, z5, z6, some one.mv, some (.lst M9.length), s9', s10', s11', s12', s13', s14']) (M1 := N9) ?_ ?_
  · rw [hN9]
    have i2 : one.mv = .tup [.int 1, .int 1] := rfl
    rw [i2]
    simp [argAt, e8, show -1000000 ≤ t by omega, show t ≤ 1000000 by omega, kcom, e9]
  refine xs_cons (m' := [s0, some (.lst p), some v, some x.mv, some y.mv, z5, z6, some (xs.foldl ti one).mv, some (.lst M9.length), s9', z10, s11', s12', s13', s14']) (M1 := N9) (by
    have c1 : evI (cfg pg (n + 13)) (.seq (.var 8)) [s0, some (.lst p), some v, some x.mv, some y.mv, z5, z6, some one.mv, some (.lst M9.length), s9', s10', s11', s12', s13', s14'] N9 = .ok (.ls (.lst M9.length)) N9 := by simp [seqL g9]
    rw [s_for, c1, bnd_ok_]
    exact e10) ?_
  refine xs_cons (m' := [s0, some (.lst p), some v, some x.mv, some y.mv, z5, z6, some (xs.foldl ti one).mv, some (.lst M9.length), s9', z10, some (.str s), s12', s13', s14']) (M1 := N9) (by simp [k1]) ?_
  refine xs_cons (m' := [s0, some (.lst p), some v, some x.mv, some y.mv, z5, z6, some (xs.foldl ti one).mv, some (.lst M9.length), s9', z10, some (.str s), s12', s13', s14']) (M1 := N14) ?_ ?_
  · rw [hfour] at e15 e16 e17
    rw [htwo] at e16 e17
    simp [-List.append_assoc, -List.length_append, argAt, e11, e12, e13, e14, e15, e17, e16, k2]
  refine xs_cons (m' := [s0, some (.lst p), some v, some x.mv, some y.mv, z5, z6, some (xs.foldl ti one).mv, some (.lst M9.length), s9', z10, some (.str s), some lo.mv, some hi.mv, s14']) (M1 := N15) (by simp [argAt, e18]) ?_
  refine xs_cons (m' := [s0, some (.lst p), some v, some x.mv, some y.mv, z5, z6, some (xs.foldl ti one).mv, some (.lst M9.length), s9', z10, some (.str s), some lo.mv, some hi.mv, some f2.mv]) (M1 := N16) (by simp [argAt, e19]) ?_
  simp [argAt, e20, e21, e22]
theorem fk_of {a b : Int} (h1 : a.natAbs < 2 ^ 10) (h2 : b.natAbs < 2 ^ 10) (hb : 0 < b) (hg : Int.gcd a b = 1) : Fk 10 (a, b) := ⟨h1, h2, hb, hg⟩
theorem final_ok {m : Sl} : ∃ m' M', exs (cfg pg (n + 13)) bR m M = .ok (.rt (.bl true), m') M' := by
  have f1 : Fk 10 ((1, 3) : Fr) := fk_of (by decide) (by decide) (by decide) (by decide)
  have f2 : Fk 10 ((2, 5) : Fr) := fk_of (by decide) (by decide) (by decide) (by decide)
  have f3 : Fk 10 ((-7, 3) : Fr) := fk_of (by decide) (by decide) (by decide) (by decide)
  have f4 : Fk 10 ((-9, 4) : Fr) := fk_of (by decide) (by decide) (by decide) (by decide)
  have f5 : Fk 10 ((-1, 9) : Fr) := fk_of (by decide) (by decide) (by decide) (by decide)
  have f6 : Fk 10 ((5, 1) : Fr) := fk_of (by decide) (by decide) (by decide) (by decide)
  obtain ⟨g1, M1, e1, a1, s1, _⟩ := simplest_ok (n := n + 7) (M := M) (k := 10) (by omega) f1 f2 (by decide)
  obtain ⟨g2, M2, e2, a2, s2, _⟩ := simplest_ok (n := n + 7) (M := M1) (k := 10) (by omega) f3 f4 (by decide)
  obtain ⟨g3, M3, e3, a3, s3, _⟩ := simplest_ok (n := n + 7) (M := M2) (k := 10) (by omega) f5 f6 (by decide)
  have r1 : g1 = (1, 3) := by
    obtain ⟨b1, _, b2, b3, b4⟩ := s1
    obtain ⟨c1, c2⟩ := b4 1 3 (by decide) (by decide) (by decide)
    simp only at b2 b3
    exact Prod.ext (by show g1.1 = 1; omega) (by show g1.2 = 3; omega)
  have r2 : g2 = (-7, 3) := by
    obtain ⟨b1, _, b2, b3, b4⟩ := s2
    obtain ⟨c1, c2⟩ := b4 (-7) 3 (by decide) (by decide) (by decide)
    simp only at b2 b3
    have c1' : g2.2 ≤ 3 := c1
    have h3 : g2.2 = 3 := by
      rcases (show g2.2 = 1 ∨ g2.2 = 2 ∨ g2.2 = 3 by omega) with h | h | h
      · rw [h] at b2 b3
        omega
      · rw [h] at b2 b3
        omega
      · exact h
    rw [h3] at b2 b3
    exact Prod.ext (by show g2.1 = -7; omega) h3
  have r3 : g3 = (0, 1) := by
    obtain ⟨b1, _, b2, b3, b4⟩ := s3
    obtain ⟨c1, c2⟩ := b4 0 1 (by decide) (by decide) (by decide)
    exact Prod.ext (by show g3.1 = 0; omega) (by show g3.2 = 1; omega)
  rw [r1] at e1
  rw [r2] at e2
  rw [r3] at e3
  obtain ⟨l, hl⟩ : ∃ l : List MV, l = [Fr.mv (1, 3), Fr.mv (-7, 3), Fr.mv (0, 1)] := ⟨_, rfl⟩
  obtain ⟨M4, e4, _⟩ := same_ (n := n + 10) (d := 3) (M := M3 ++ [l] ++ [l]) (u := .lst M3.length) (v := .lst (M3 ++ [l]).length) (by
    have q1 : (M3 ++ [l] ++ [l])[M3.length]? = some l := App.one.get get_new
    have q2 : (M3 ++ [l] ++ [l])[(M3 ++ [l]).length]? = some l := get_new
    rw [hl] at q1 q2 ⊢
    exact Like.three q1 q2 (Like.fr _) (Like.fr _) (Like.fr _))
  rw [hl] at e4
  refine ⟨m, M4, ?_⟩
  unfold bR
  simp only [Fr.mv] at e1 e2 e3 e4
  simp [-List.append_assoc, -List.length_append, argAt, e1, e2, e3, e4]
theorem law_ok {ns : List Int} (hl : ns.length ≤ 63) : ∃ M', run pg (n + 14) 43 [.kls (ns.map MV.int)] [] = .ok (.bl true) M' := by
  rw [show run pg (n + 14) 43 [.kls (ns.map MV.int)] [] = _ from (show IsD pg 43 1 15 b_43 from ⟨d_43, rfl, rfl, rfl, rfl⟩).go rfl]
  obtain ⟨p, g, M1, e1, p1⟩ := purse_ok (n := n + 12) is_purse (by decide) hl
  obtain ⟨m', M2, w1, s2, s3, s4, s5, s6, s7, s8, s9, s10, s11, s12, s13, s14, w2, w3⟩ := forL_inv (s := .rg 0 12) (f := fturn (cfg pg (n + 13)) (.nm 2) bT) (N := 12)
    (fun i m N => ∃ s2 s3 s4 s5 s6 s7 s8 s9 s10 s11 s12 s13 s14, m = [some (.kls (ns.map MV.int)), some (.lst p), s2, s3, s4, s5, s6, s7, s8, s9, s10, s11, s12, s13, s14] ∧ Purse p g (1000 * i) N) (by
      rintro i m N hi ⟨s2, s3, s4, s5, s6, s7, s8, s9, s10, s11, s12, s13, s14, rfl, hp⟩
      obtain ⟨t2, t3, t4, t5, t6, t7, t8, t9, t10, t11, t12, t13, t14, N', h1, h2⟩ := turn_ok (n := n) (v := .int (0 + i)) (s0 := some (.kls (ns.map MV.int))) (s2' := s2) (s3' := s3) (s4' := s4) (s5' := s5) (s6' := s6) (s7' := s7) (s8' := s8) (s9' := s9) (s10' := s10) (s11' := s11) (s12' := s12) (s13' := s13) (s14' := s14) hp (by omega)
      refine ⟨?_, .int (0 + i), _, N', rg_item _ _ hi, h1, _, _, _, _, _, _, _, _, _, _, _, _, _, rfl, h2.mono (by omega)⟩
      rw [rg_stop]
      exact decide_eq_false (by omega)) (by
      rintro m N _
      rw [rg_stop]
      exact decide_eq_true (Nat.le_refl _)) pg.most 0 [some (.kls (ns.map MV.int)), some (.lst p), none, none, none, none, none, none, none, none, none, none, none, none, none] M1 (by decide) (by omega) ⟨_, _, _, _, _, _, _, _, _, _, _, _, _, rfl, p1⟩
  obtain ⟨m3, M3, w4⟩ := final_ok (n := n) (m := m') (M := M2)
  refine ⟨M3, ?_⟩
  rw [b43_eq]
  refine fin_cons (m' := [some (.kls (ns.map MV.int)), some (.lst p), none, none, none, none, none, none, none, none, none, none, none, none, none]) (M1 := M1) (by simp [argAt, e1]) ?_
  refine fin_cons (m' := m') (M1 := M2) ?_ ?_
  · have c1 : evI (cfg pg (n + 13)) (.rg1 (.cst (.int 12))) [some (.kls (ns.map MV.int)), some (.lst p), none, none, none, none, none, none, none, none, none, none, none, none, none] M1 = .ok (.rg 0 12) M1 := by
      simp
    rw [s_for, c1, bnd_ok_]
    exact w1
  · rw [w4]
    rfl
theorem pure_law : ∀ ns : List Int, ns.length ≤ 63 → ∃ M, run pg 40 43 [.kls (ns.map MV.int)] [] = .ok (.bl true) M := fun ns hl => law_ok (n := 26) hl
end
end K01

set_option autoImplicit false
set_option maxHeartbeats 8000000
namespace K01
open PySem PySem.Spec PyProof.Rows L2 MP
def top (i : Nat) : Stmt := PySem.Challenge.pw_nearerstill_k01_whole_fractions.main.body.getD i (.Pass ⟨0, 0, 0, 0⟩)
def ts : List Tx := [(top 8, []), (top 9, [.int 0]), (top 10, []), (top 11, []), (top 12, []), (top 13, []), (top 14, []), (top 15, []), (top 16, []), (top 17, []), (top 18, []), (top 19, []), (top 20, []), (top 21, []), (top 22, []), (top 23, []), (top 24, []), (top 25, []), (top 26, []), (top 27, []), (top 28, []), (top 29, []), (top 31, []), (top 32, []), (top 33, []), (top 34, []), (top 35, []), (top 36, []), (top 37, []), (top 38, []), (top 39, []), (top 40, []), (top 41, []), (top 42, []), (top 43, []), (top 44, []), (top 45, []), (top 46, []), (top 47, []), (top 48, []), (top 49, []), (top 50, []), (top 51, []), (top 52, [])]
theorem sh_0 : ShD d_0 (top 8, []) := fun K f fd F => ⟨shp_mk (n := 1) (ks := []) (ix := [0]) F (fun _ _ _ _ _ _ us ws h1 h2 => match us, ws, h1, h2 with | [_], [], _, _ => rfl) rfl, trivial⟩
theorem sh_1 : ShD d_1 (top 9, [.int 0]) := fun K f fd F => ⟨shp_df (n := 2) (ks := []) (ix := [0, 1]) (dms := [.int 0]) F (fun _ _ => .cons (.int _) (.nil)) (by simp) (by decide) (fun _ _ _ _ _ _ _ us ws its h1 h2 h3 => match us, ws, its, h1, h2, h3 with | [_, _], [], [_], _, _, _ => ⟨_, rfl, rfl⟩), trivial⟩
theorem sh_2 : ShD d_2 (top 10, []) := fun K f fd F => ⟨shp_mk (n := 2) (ks := []) (ix := [0, 1]) F (fun _ _ _ _ _ _ us ws h1 h2 => match us, ws, h1, h2 with | [_, _], [], _, _ => rfl) rfl, trivial⟩
theorem sh_3 : ShD d_3 (top 11, []) := fun K f fd F => ⟨shp_mk (n := 2) (ks := []) (ix := [0, 1]) F (fun _ _ _ _ _ _ us ws h1 h2 => match us, ws, h1, h2 with | [_, _], [], _, _ => rfl) rfl, trivial⟩
theorem sh_4 : ShD d_4 (top 12, []) := fun K f fd F => ⟨shp_mk (n := 1) (ks := []) (ix := [0]) F (fun _ _ _ _ _ _ us ws h1 h2 => match us, ws, h1, h2 with | [_], [], _, _ => rfl) rfl, shp_mk (n := 0) (ks := ["value"]) (ix := [0]) F (fun _ _ _ _ _ _ us ws h1 h2 => match us, ws, h1, h2 with | [], [_], _, _ => rfl) rfl, trivial⟩
theorem sh_5 : ShD d_5 (top 13, []) := fun K f fd F => ⟨shp_mk (n := 1) (ks := []) (ix := [0]) F (fun _ _ _ _ _ _ us ws h1 h2 => match us, ws, h1, h2 with | [_], [], _, _ => rfl) rfl, trivial⟩
theorem sh_6 : ShD d_6 (top 14, []) := fun K f fd F => ⟨shp_mk (n := 1) (ks := []) (ix := [0]) F (fun _ _ _ _ _ _ us ws h1 h2 => match us, ws, h1, h2 with | [_], [], _, _ => rfl) rfl, trivial⟩
theorem sh_7 : ShD d_7 (top 15, []) := fun K f fd F => ⟨shp_mk (n := 0) (ks := ["under", "top"]) (ix := [1, 0]) F (fun _ _ _ _ _ _ us ws h1 h2 => match us, ws, h1, h2 with | [], [_, _], _, _ => rfl) rfl, shp_mk (n := 2) (ks := []) (ix := [0, 1]) F (fun _ _ _ _ _ _ us ws h1 h2 => match us, ws, h1, h2 with | [_, _], [], _, _ => rfl) rfl, trivial⟩
theorem sh_8 : ShD d_8 (top 16, []) := fun K f fd F => ⟨shp_mk (n := 2) (ks := []) (ix := [0, 1]) F (fun _ _ _ _ _ _ us ws h1 h2 => match us, ws, h1, h2 with | [_, _], [], _, _ => rfl) rfl, trivial⟩
theorem sh_9 : ShD d_9 (top 17, []) := fun K f fd F => ⟨shp_mk (n := 2) (ks := []) (ix := [0, 1]) F (fun _ _ _ _ _ _ us ws h1 h2 => match us, ws, h1, h2 with | [_, _], [], _, _ => rfl) rfl, trivial⟩
theorem sh_10 : ShD d_10 (top 18, []) := fun K f fd F => ⟨shp_mk (n := 2) (ks := []) (ix := [0, 1]) F (fun _ _ _ _ _ _ us ws h1 h2 => match us, ws, h1, h2 with | [_, _], [], _, _ => rfl) rfl, trivial⟩
theorem sh_11 : ShD d_11 (top 19, []) := fun K f fd F => ⟨shp_mk (n := 2) (ks := []) (ix := [0, 1]) F (fun _ _ _ _ _ _ us ws h1 h2 => match us, ws, h1, h2 with | [_, _], [], _, _ => rfl) rfl, trivial⟩
theorem sh_12 : ShD d_12 (top 20, []) := fun K f fd F => ⟨shp_mk (n := 2) (ks := []) (ix := [0, 1]) F (fun _ _ _ _ _ _ us ws h1 h2 => match us, ws, h1, h2 with | [_, _], [], _, _ => rfl) rfl, trivial⟩
theorem sh_13 : ShD d_13 (top 21, []) := fun K f fd F => ⟨shp_mk (n := 1) (ks := []) (ix := [0]) F (fun _ _ _ _ _ _ us ws h1 h2 => match us, ws, h1, h2 with | [_], [], _, _ => rfl) rfl, trivial⟩
theorem sh_14 : ShD d_14 (top 22, []) := fun K f fd F => ⟨shp_mk (n := 0) (ks := ["some"]) (ix := [0]) F (fun _ _ _ _ _ _ us ws h1 h2 => match us, ws, h1, h2 with | [], [_], _, _ => rfl) rfl, shp_mk (n := 1) (ks := []) (ix := [0]) F (fun _ _ _ _ _ _ us ws h1 h2 => match us, ws, h1, h2 with | [_], [], _, _ => rfl) rfl, trivial⟩
theorem sh_15 : ShD d_15 (top 23, []) := fun K f fd F => ⟨shp_mk (n := 0) (ks := ["some"]) (ix := [0]) F (fun _ _ _ _ _ _ us ws h1 h2 => match us, ws, h1, h2 with | [], [_], _, _ => rfl) rfl, shp_mk (n := 1) (ks := []) (ix := [0]) F (fun _ _ _ _ _ _ us ws h1 h2 => match us, ws, h1, h2 with | [_], [], _, _ => rfl) rfl, trivial⟩
theorem sh_16 : ShD d_16 (top 24, []) := fun K f fd F => ⟨shp_mk (n := 2) (ks := []) (ix := [0, 1]) F (fun _ _ _ _ _ _ us ws h1 h2 => match us, ws, h1, h2 with | [_, _], [], _, _ => rfl) rfl, trivial⟩
theorem sh_17 : ShD d_17 (top 25, []) := fun K f fd F => ⟨shp_mk (n := 0) (ks := ["other", "one"]) (ix := [1, 0]) F (fun _ _ _ _ _ _ us ws h1 h2 => match us, ws, h1, h2 with | [], [_, _], _, _ => rfl) rfl, shp_mk (n := 2) (ks := []) (ix := [0, 1]) F (fun _ _ _ _ _ _ us ws h1 h2 => match us, ws, h1, h2 with | [_, _], [], _, _ => rfl) rfl, trivial⟩
theorem sh_18 : ShD d_18 (top 26, []) := fun K f fd F => ⟨shp_mk (n := 0) (ks := ["other", "one"]) (ix := [1, 0]) F (fun _ _ _ _ _ _ us ws h1 h2 => match us, ws, h1, h2 with | [], [_, _], _, _ => rfl) rfl, shp_mk (n := 2) (ks := []) (ix := [0, 1]) F (fun _ _ _ _ _ _ us ws h1 h2 => match us, ws, h1, h2 with | [_, _], [], _, _ => rfl) rfl, trivial⟩
theorem sh_19 : ShD d_19 (top 27, []) := fun K f fd F => ⟨shp_mk (n := 0) (ks := ["other", "one"]) (ix := [1, 0]) F (fun _ _ _ _ _ _ us ws h1 h2 => match us, ws, h1, h2 with | [], [_, _], _, _ => rfl) rfl, shp_mk (n := 2) (ks := []) (ix := [0, 1]) F (fun _ _ _ _ _ _ us ws h1 h2 => match us, ws, h1, h2 with | [_, _], [], _, _ => rfl) rfl, trivial⟩
theorem sh_20 : ShD d_20 (top 28, []) := fun K f fd F => ⟨shp_mk (n := 2) (ks := []) (ix := [0, 1]) F (fun _ _ _ _ _ _ us ws h1 h2 => match us, ws, h1, h2 with | [_, _], [], _, _ => rfl) rfl, trivial⟩
theorem sh_21 : ShD d_21 (top 29, []) := fun K f fd F => ⟨shp_mk (n := 2) (ks := []) (ix := [0, 1]) F (fun _ _ _ _ _ _ us ws h1 h2 => match us, ws, h1, h2 with | [_, _], [], _, _ => rfl) rfl, shp_mk (n := 0) (ks := ["high", "low"]) (ix := [1, 0]) F (fun _ _ _ _ _ _ us ws h1 h2 => match us, ws, h1, h2 with | [], [_, _], _, _ => rfl) rfl, trivial⟩
theorem sh_22 : ShD d_22 (top 31, []) := fun K f fd F => ⟨shp_mk (n := 1) (ks := []) (ix := [0]) F (fun _ _ _ _ _ _ us ws h1 h2 => match us, ws, h1, h2 with | [_], [], _, _ => rfl) rfl, trivial⟩
theorem sh_23 : ShD d_23 (top 32, []) := fun K f fd F => ⟨shp_mk (n := 1) (ks := []) (ix := [0]) F (fun _ _ _ _ _ _ us ws h1 h2 => match us, ws, h1, h2 with | [_], [], _, _ => rfl) rfl, trivial⟩
theorem sh_24 : ShD d_24 (top 33, []) := fun K f fd F => ⟨shp_mk (n := 2) (ks := []) (ix := [0, 1]) F (fun _ _ _ _ _ _ us ws h1 h2 => match us, ws, h1, h2 with | [_, _], [], _, _ => rfl) rfl, trivial⟩
theorem sh_25 : ShD d_25 (top 34, []) := fun K f fd F => ⟨shp_mk (n := 1) (ks := []) (ix := [0]) F (fun _ _ _ _ _ _ us ws h1 h2 => match us, ws, h1, h2 with | [_], [], _, _ => rfl) rfl, trivial⟩
theorem sh_26 : ShD d_26 (top 35, []) := fun K f fd F => ⟨shp_mk (n := 3) (ks := []) (ix := [0, 1, 2]) F (fun _ _ _ _ _ _ us ws h1 h2 => match us, ws, h1, h2 with | [_, _, _], [], _, _ => rfl) rfl, trivial⟩
theorem sh_27 : ShD d_27 (top 36, []) := fun K f fd F => ⟨shp_mk (n := 1) (ks := []) (ix := [0]) F (fun _ _ _ _ _ _ us ws h1 h2 => match us, ws, h1, h2 with | [_], [], _, _ => rfl) rfl, trivial⟩
theorem sh_28 : ShD d_28 (top 37, []) := fun K f fd F => ⟨shp_mk (n := 2) (ks := []) (ix := [0, 1]) F (fun _ _ _ _ _ _ us ws h1 h2 => match us, ws, h1, h2 with | [_, _], [], _, _ => rfl) rfl, trivial⟩
theorem sh_29 : ShD d_29 (top 38, []) := fun K f fd F => ⟨shp_mk (n := 2) (ks := []) (ix := [0, 1]) F (fun _ _ _ _ _ _ us ws h1 h2 => match us, ws, h1, h2 with | [_, _], [], _, _ => rfl) rfl, trivial⟩
theorem sh_30 : ShD d_30 (top 39, []) := fun K f fd F => ⟨shp_mk (n := 2) (ks := []) (ix := [0, 1]) F (fun _ _ _ _ _ _ us ws h1 h2 => match us, ws, h1, h2 with | [_, _], [], _, _ => rfl) rfl, trivial⟩
theorem sh_31 : ShD d_31 (top 40, []) := fun K f fd F => ⟨shp_mk (n := 2) (ks := []) (ix := [0, 1]) F (fun _ _ _ _ _ _ us ws h1 h2 => match us, ws, h1, h2 with | [_, _], [], _, _ => rfl) rfl, trivial⟩
theorem sh_32 : ShD d_32 (top 41, []) := fun K f fd F => ⟨shp_mk (n := 2) (ks := []) (ix := [0, 1]) F (fun _ _ _ _ _ _ us ws h1 h2 => match us, ws, h1, h2 with | [_, _], [], _, _ => rfl) rfl, trivial⟩
theorem sh_33 : ShD d_33 (top 42, []) := fun K f fd F => ⟨shp_mk (n := 2) (ks := []) (ix := [0, 1]) F (fun _ _ _ _ _ _ us ws h1 h2 => match us, ws, h1, h2 with | [_, _], [], _, _ => rfl) rfl, trivial⟩
theorem sh_34 : ShD d_34 (top 43, []) := fun K f fd F => ⟨shp_mk (n := 2) (ks := []) (ix := [0, 1]) F (fun _ _ _ _ _ _ us ws h1 h2 => match us, ws, h1, h2 with | [_, _], [], _, _ => rfl) rfl, trivial⟩
theorem sh_35 : ShD d_35 (top 44, []) := fun K f fd F => ⟨shp_mk (n := 2) (ks := []) (ix := [0, 1]) F (fun _ _ _ _ _ _ us ws h1 h2 => match us, ws, h1, h2 with | [_, _], [], _, _ => rfl) rfl, trivial⟩
theorem sh_36 : ShD d_36 (top 45, []) := fun K f fd F => ⟨shp_mk (n := 1) (ks := []) (ix := [0]) F (fun _ _ _ _ _ _ us ws h1 h2 => match us, ws, h1, h2 with | [_], [], _, _ => rfl) rfl, trivial⟩
theorem sh_37 : ShD d_37 (top 46, []) := fun K f fd F => ⟨shp_mk (n := 1) (ks := []) (ix := [0]) F (fun _ _ _ _ _ _ us ws h1 h2 => match us, ws, h1, h2 with | [_], [], _, _ => rfl) rfl, trivial⟩
theorem sh_38 : ShD d_38 (top 47, []) := fun K f fd F => ⟨shp_mk (n := 1) (ks := []) (ix := [0]) F (fun _ _ _ _ _ _ us ws h1 h2 => match us, ws, h1, h2 with | [_], [], _, _ => rfl) rfl, trivial⟩
theorem sh_39 : ShD d_39 (top 48, []) := fun K f fd F => ⟨shp_mk (n := 2) (ks := []) (ix := [0, 1]) F (fun _ _ _ _ _ _ us ws h1 h2 => match us, ws, h1, h2 with | [_, _], [], _, _ => rfl) rfl, trivial⟩
theorem sh_40 : ShD d_40 (top 49, []) := fun K f fd F => ⟨shp_mk (n := 1) (ks := []) (ix := [0]) F (fun _ _ _ _ _ _ us ws h1 h2 => match us, ws, h1, h2 with | [_], [], _, _ => rfl) rfl, trivial⟩
theorem sh_41 : ShD d_41 (top 50, []) := fun K f fd F => ⟨shp_mk (n := 2) (ks := []) (ix := [0, 1]) F (fun _ _ _ _ _ _ us ws h1 h2 => match us, ws, h1, h2 with | [_, _], [], _, _ => rfl) rfl, trivial⟩
theorem sh_42 : ShD d_42 (top 51, []) := fun K f fd F => ⟨shp_mk (n := 2) (ks := []) (ix := [0, 1]) F (fun _ _ _ _ _ _ us ws h1 h2 => match us, ws, h1, h2 with | [_, _], [], _, _ => rfl) rfl, trivial⟩
theorem sh_43 : ShD d_43 (top 52, []) := fun K f fd F => ⟨shp_mk (n := 1) (ks := []) (ix := [0]) F (fun _ _ _ _ _ _ us ws h1 h2 => match us, ws, h1, h2 with | [_], [], _, _ => rfl) rfl, trivial⟩
theorem shA : ShA pg.fs ts := ⟨sh_0, sh_1, sh_2, sh_3, sh_4, sh_5, sh_6, sh_7, sh_8, sh_9, sh_10, sh_11, sh_12, sh_13, sh_14, sh_15, sh_16, sh_17, sh_18, sh_19, sh_20, sh_21, sh_22, sh_23, sh_24, sh_25, sh_26, sh_27, sh_28, sh_29, sh_30, sh_31, sh_32, sh_33, sh_34, sh_35, sh_36, sh_37, sh_38, sh_39, sh_40, sh_41, sh_42, sh_43, trivial⟩
theorem chk : chkA pg pg.fs ts = true := by decide +kernel
def nm_0 : List PySem.Str := ["StoreError", "InvalidNumber", "InvalidFraction", "InvalidList", "NONE", "ONE", "is_number", "is_count", "divisor", "by_lowest", "is_fraction", "look_at_fraction"]
def nm_1 : List PySem.Str := ["are_fractions", "fraction_of", "plus", "minus", "times", "over", "below", "total", "sum_of", "product_of", "look_at_two", "less"]
def nm_2 : List PySem.Str := ["share", "is_less", "simplest_above", "simplest", "_law_number", "_law_drawn", "_law_bents", "_law_parents", "_law_is_simplest", "_law_span", "_law_two_right", "_law_divisor"]
def nm_3 : List PySem.Str := ["_law_by", "_law_plus", "_law_minus", "_law_times", "_law_over", "_law_less", "_law_sum", "_law_is_number", "_law_is_fraction", "_law_same", "_law_purse", "_law_draw"]
def nm_4 : List PySem.Str := ["_law_pick"]
def names : List PySem.Str := nm_0 ++ nm_1 ++ nm_2 ++ nm_3 ++ nm_4
abbrev R : PySem.W.OpenRow := PySem.W.OpenLaw.row PySem.Challenge.rw_nearerstill_k01_whole_fractions
abbrev hk : PySem.W.Hook := hookM 5 pg ts
def ob (s : PySem.W.SharedT) : AlM := obsM 5 pg ts (HandSHeadRun.getT s)
theorem ob_eq (s : PySem.W.SharedT) : ob s = hk.obs s.abs := obsM_eq (HandSHeadRun.getT_eq s)
theorem run_top (w : World) : HandSHeadRun.RunEq R (PySem.W.view R.prog [52]) hk ob 4000 names w := by
  intro os
  kernel_rfl
end K01


open PySem PySem.W PySem.Calls PyProof.Rows
theorem PySem.Challenge.cw_nearerstill_k01_whole_fractions_holds : PySem.Challenge.rw_nearerstill_k01_whole_fractions.Holds := by
  w_on; o_law
  refine HandSHeadRun.head_any (r := OpenLaw.row PySem.Challenge.rw_nearerstill_k01_whole_fractions) (q := view (OpenLaw.row PySem.Challenge.rw_nearerstill_k01_whole_fractions).prog [52]) (H := K01.hk) (ob := K01.ob) (M := 4000) (loose := K01.names) (d := HandSHeadRun.topDef (OpenLaw.row PySem.Challenge.rw_nearerstill_k01_whole_fractions).prog 52) (kwd := []) K01.ob_eq
    (by kernel_rfl) (fun s => by kernel_rfl) K01.run_top (by kernel_rfl) (by kernel_rfl) (by kernel_rfl) (by rfl) (by first | assumption | decide +kernel) (by decide +kernel) ⟨rfl, rfl, rfl, rfl, rfl, by decide +kernel⟩ ?hw ?hc
  case hw => w_witness2
  case hc =>
    exact MP.walk_mp (l := PySem.Challenge.rw_nearerstill_k01_whole_fractions) (n := 63) (k := 40) (x := "script") K01.pg K01.ts 43 K01.d_43 rfl (by decide +kernel) (by decide +kernel) (by kernel_rfl) (by decide) (by kernel_rfl) ⟨rfl, by decide, by decide⟩ K01.shA K01.chk
      (fun t K f fd e F s u => by
        cases e
        exact L2.FunD.bindsA (ps := ["script"]) F (fun _ _ _ _ _ _ us hl => match us, hl with | [_], _ => rfl) s [u] rfl) K01.pure_law


