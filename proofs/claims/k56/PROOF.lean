import PyProof.Rows.All
import HandS.ForMost
import HandS.Walk
import HandS.Strs
import HandS.SetFor
import HandS.SortInts
import HandS.Deep
import HandS.TupAny
import HandS.Wide
import HandS.IsInst
import HandS.Zip
import HandS.Rev
import HandS.Style
import HandS.DeepEq
import KE.KTupSum
import KE.GoesMore
import KE.GoesEnum
import HandS.Iter
import HandS.Comp
import HandS.List
import HandS.Words
import HandS.HeadHook4
import HandS.HeadEnd
import HandS.Head2
import PySem.Challenge.RW_notewhole_k56_whole_values_that_go_round
set_option Elab.async false
set_option linter.all false
/-! The evaluator over plain data: syntax, values, meaning. -/
namespace RE
open PySem

/-! ### data -/
inductive D where
  | non | bl (b : Bool) | int (i : Int) | str (x : Str)
  | tup (ds : List D) | lst (ds : List D)
  | ins (c : Nat) (fs : List Str) (ds : List D)
  | set (ns : List Int)
  deriving Inhabited

/-- a mutable thing's state: owned by the slot, lent by the caller, owned and being walked -/
inductive Kd where
  | own | bor | lck
  deriving DecidableEq
inductive Slot where
  | no | val (d : D) | mu (k : Kd) (d : D)
  deriving Inhabited
abbrev Sl := List Slot
/-- a value on its way: shared (never changed any more), new (nobody else has it), the thing in a slot -/
inductive Rv where
  | sh (d : D) | nw (d : D) | sl (i : Nat)

def esc : Rv → Sl → Option (D × Sl)
  | .sh d, env => some (d, env)
  | .nw d, env => some (d, env)
  | .sl i, env => match env[i]? with
    | some (.mu .own d) => some (d, env.set i (.val d))
    | some (.val d) => some (d, env)
    | _ => none
def escs : List Rv → Sl → Option (List D × Sl)
  | [], env => some ([], env)
  | r :: rs, env => (esc r env).bind fun p => (escs rs p.2).bind fun q => some (p.1 :: q.1, q.2)
def rd : Rv → Sl → Option D
  | .sh d, _ => some d
  | .nw d, _ => some d
  | .sl i, env => match env[i]? with
    | some (.mu _ d) => some d
    | some (.val d) => some d
    | _ => none
def rds : List Rv → Sl → Option (List D)
  | [], _ => some []
  | r :: rs, env => (rd r env).bind fun d => (rds rs env).bind fun ds => some (d :: ds)

/-! ### operations on data -/
def mulOk (i j : Int) : Bool := decide (i.natAbs < 18446744073709551616) || decide (j.natAbs < 18446744073709551616) || decide (i.natAbs.log2 + j.natAbs.log2 < 1000000)
def divOk (j : Int) : Bool := decide (0 < j) && (decide (j.natAbs < 1073741824) || decide (j.natAbs.log2 < 9000))
def powOk (i j : Int) : Bool := decide (0 ≤ j) && decide (j.natAbs ≤ 1000000) && decide (i.natAbs < 18446744073709551616)
def lineOk (n : Nat) : Bool := decide (n ≤ 16777216)

def repOk (n : Nat) (k : Int) : Bool := decide (k.natAbs < 4611686018427387904) && lineOk (n * k.toNat)

def binD : Operator → D → D → Option Rv
  | .Add, .int i, .int j => some (.sh (.int (i + j)))
  | .Add, .tup a, .tup b => if lineOk (a.length + b.length) then some (.sh (.tup (a ++ b))) else none
  | .Add, .lst a, .lst b => if lineOk (a.length + b.length) then some (.nw (.lst (a ++ b))) else none
  | .Sub, .int i, .int j => some (.sh (.int (i - j)))
  | .Mult, .int i, .int j => if mulOk i j then some (.sh (.int (i * j))) else none
  | .Mult, .lst a, .int k => if repOk a.length k then some (.nw (.lst (List.replicate k.toNat a).flatten)) else none
  | .FloorDiv, .int i, .int j => if divOk j then some (.sh (.int (i / j))) else none
  | .Mod, .int i, .int j => if 0 < j then some (.sh (.int (i % j))) else none
  | .Pow, .int i, .int j => if powOk i j then some (.sh (.int (i ^ j.toNat))) else none
  | _, _, _ => none

mutual
def toPy : D → Option PyData
  | .non => some .none
  | .bl b => some (.bool b)
  | .int i => some (.int i)
  | .str x => some (.str x)
  | .tup ds => (toPys ds).bind fun ps => some (.tuple ps)
  | .lst ds => (toPys ds).bind fun ps => some (.list ps)
  | .ins _ _ _ => none
  | .set _ => none
def toPys : List D → Option (List PyData)
  | [] => some []
  | d :: ds => (toPy d).bind fun p => (toPys ds).bind fun ps => some (p :: ps)
end
def eqDeep (a b : D) : Option Bool := (toPy a).bind fun p => (toPy b).bind fun q => if SeqAt.shaped p && SeqAt.shaped q then some (PyData.eqv p q) else none
def eqD : D → D → Option Bool
  | .int i, .int j => some (decide (i = j))
  | .bl i, .bl j => some (decide (i = j))
  | .str i, .str j => some (decide (i = j))
  | .non, .non => some true
  | a, b => eqDeep a b
def boolsOf : List D → Option (List Bool)
  | [] => some []
  | .bl b :: ds => (boolsOf ds).bind fun bs => some (b :: bs)
  | _ => none
def intsOf : List D → Option (List Int)
  | [] => some []
  | .int b :: ds => (intsOf ds).bind fun bs => some (b :: bs)
  | _ => none
def strsOf : List D → Option (List Str)
  | [] => some []
  | .str b :: ds => (strsOf ds).bind fun bs => some (b :: bs)
  | _ => none
/-- a in b -/
def inD : D → D → Option Bool
  | .int i, .set ns => some (ns.any fun j => j == i)
  | .int i, .tup ds => (intsOf ds).bind fun is => some (is.any fun j => j == i)
  | .str i, .tup ds => (strsOf ds).bind fun is => some (is.any fun j => j == i)
  | a, .lst ds => (toPy a).bind fun p => (toPys ds).bind fun qs => if SeqAt.shaped p && SeqAt.shaped (.list qs) then some (qs.any fun z => PyData.eqv z p) else none
  | _, _ => none
def cmpD : CmpOp → D → D → Option Bool
  | .Eq, a, b => eqD a b
  | .NotEq, a, b => (eqD a b).bind fun r => some (!r)
  | .Lt, .int i, .int j => some (decide (i < j))
  | .LtE, .int i, .int j => some (decide (i ≤ j))
  | .Gt, .int i, .int j => some (decide (j < i))
  | .GtE, .int i, .int j => some (decide (j ≤ i))
  | .In, a, b => inD a b
  | .NotIn, a, b => (inD a b).bind fun r => some (!r)
  | .Is, a, .non => some (match a with | .non => true | _ => false)
  | .IsNot, a, .non => some (match a with | .non => false | _ => true)
  | _, _, _ => none

def truD : D → Option Bool
  | .non => some false
  | .bl b => some b
  | .int i => some (i != 0)
  | .tup ds => some (!ds.isEmpty)
  | .lst ds => some (!ds.isEmpty)
  | _ => none

/-- the place of an index in so many items -/
def ixAt (ds : List D) (i : Int) : Option D := L2.atI ds i
def ixD : D → D → Option D
  | .lst ds, .int i => ixAt ds i
  | .tup ds, .int i => ixAt ds i
  | _, _ => none
def cutD (ds : List D) (lo hi : Option Int) : List D := (ds.drop (HT.sIx ds.length 0 lo)).take (HT.sIx ds.length ds.length hi - HT.sIx ds.length 0 lo)
def slcD : D → Option Int → Option Int → Option Rv
  | .lst ds, lo, hi => some (.nw (.lst (cutD ds lo hi)))
  | .tup ds, lo, hi => some (.sh (.tup (cutD ds lo hi)))
  | _, _, _ => none

/-- built-in functions of values -/
inductive Bi where
  | len | int | abs | min2 | max2 | tuple | list | any | all | sum | sorted | min1 | max1 | set
  deriving DecidableEq
/-- whole numbers in their order -/
def insI (i : Int) : List Int → List Int
  | [] => [i]
  | j :: js => if i ≤ j then i :: j :: js else j :: insI i js
def sortI : List Int → List Int
  | [] => []
  | i :: is => insI i (sortI is)
def minI : Int → List Int → Int
  | i, [] => i
  | i, j :: js => minI (if j < i then j else i) js
def maxI : Int → List Int → Int
  | i, [] => i
  | i, j :: js => maxI (if i < j then j else i) js
/-- each number once -/
def onceI : List Int → List Int → List Int
  | acc, [] => acc
  | acc, i :: is => onceI (if acc.any (fun j => j == i) then acc else acc ++ [i]) is
def biD : Bi → List D → Option Rv
  | .len, [.lst ds] => some (.sh (.int ds.length))
  | .len, [.tup ds] => some (.sh (.int ds.length))
  | .int, [.int i] => some (.sh (.int i))
  | .int, [.bl b] => some (.sh (.int (if b then 1 else 0)))
  | .abs, [.int i] => some (.sh (.int (if i < 0 then -i else i)))
  | .min2, [.int i, .int j] => some (.sh (.int (if j < i then j else i)))
  | .max2, [.int i, .int j] => some (.sh (.int (if j > i then j else i)))
  | .tuple, [.lst ds] => some (.sh (.tup ds))
  | .tuple, [.tup ds] => some (.sh (.tup ds))
  | .list, [.lst ds] => some (.nw (.lst ds))
  | .list, [.tup ds] => some (.nw (.lst ds))
  | .any, [.lst ds] => (boolsOf ds).bind fun bs => some (.sh (.bl (bs.any id)))
  | .all, [.lst ds] => (boolsOf ds).bind fun bs => some (.sh (.bl (bs.all id)))
  | .sum, [.lst ds] => (intsOf ds).bind fun is => some (.sh (.int is.sum))
  | .sum, [.tup ds] => (intsOf ds).bind fun is => some (.sh (.int is.sum))
  | .sorted, [.lst ds] => (intsOf ds).bind fun is => some (.nw (.lst ((sortI is).map .int)))
  | .sorted, [.set ns] => if ns.length < 64 then some (.nw (.lst ((sortI (onceI [] ns)).map .int))) else none
  | .min1, [.lst (d :: ds)] => (intsOf (d :: ds)).bind fun is => match is with
    | i :: r => some (.sh (.int (minI i r)))
    | [] => none
  | .max1, [.lst (d :: ds)] => (intsOf (d :: ds)).bind fun is => match is with
    | i :: r => some (.sh (.int (maxI i r)))
    | [] => none
  | .set, [.lst ds] => (intsOf ds).bind fun is => if is.length + 1 < 4096 then some (.sh (.set is)) else none
  | .set, [.tup ds] => (intsOf ds).bind fun is => if is.length + 1 < 4096 then some (.sh (.set is)) else none
  | _, _ => none
/-- the kinds that isinstance asks for -/
inductive Ty where
  | tuple | list | bool | int | str
  deriving DecidableEq
def isiD : D → Ty → Option Bool
  | .non, _ => some false
  | .tup _, t => some (t == .tuple)
  | .lst _, t => some (t == .list)
  | .bl _, t => some (t == .bool || t == .int)
  | .int _, t => some (t == .int)
  | .str _, t => some (t == .str)
  | .ins _ _ _, _ => none
  | .set _, _ => none

/-! ### syntax -/
mutual
inductive Tg where
  | nm (i : Nat) | tup (ts : Tgs)
inductive Tgs where
  | nil | cons (t : Tg) (ts : Tgs)
end
mutual
inductive E where
  | int (i : Int) | bl (b : Bool) | non | str (x : Str)
  | nm (i : Nat) | gv (k : Nat)
  | tup (es : Es) | lst (es : Es)
  | bin (op : Operator) (a b : E) | neg (a : E)
  | nt (a : E) | and (es : Es) | or (es : Es)
  | cmp (op : CmpOp) (a b : E) | ch2 (op op' : CmpOp) (a b c : E)
  | ife (c a b : E)
  | ix (a i : E) | slc (a : E) (lo hi : EO) | rev (a : E) | stp (a : E) (k : Int) | trev (a : E)
  | call (k : Nat) (es : Es) | mk (c : Nat) (es : Es) | meth (m : Str) (o : E) (es : Es) | fld (f : Str) (o : E)
  | bi (b : Bi) (es : Es) | isi (a : E) (t : Ty)
  | lc (elt : E) (tg : Tg) (it : I) (cd : EO)
  | lc2 (elt : E) (tg : Tg) (it : I) (cd : EO) (tg2 : Tg) (it2 : I) (cd2 : EO)
inductive Es where
  | nil | cons (e : E) (es : Es)
inductive EO where
  | no | so (e : E)
/-- what is walked -/
inductive I where
  | rg1 (a : E) | rg2 (a b : E) | of (a : E) | zip (a b : E) | enm (a : E) | rv (a : E)
end
mutual
inductive S where
  | asg (i : Nat) (e : E)
  | unp (tg : Tgs) (e : E)
  | par (is : List Nat) (es : Es)
  | setix (i : Nat) (k e : E)
  | setfld (i : Nat) (f : Str) (e : E)
  | app (i : Nat) (e : E)
  | ext (i : Nat) (e : E)
  | expr (e : E)
  | ret (e : E) | retN
  | ifs (c : E) (a b : Ss)
  | whl (c : E) (b : Ss)
  | for (tg : Tg) (it : I) (b : Ss)
  | brk | cont
  | dead
inductive Ss where
  | nil | cons (s : S) (ss : Ss)
end
inductive Fl where
  | nx | ret (r : Rv) | bk | ct

/-! ### meaning -/
structure Gs where
  call : Nat → List D → Option (Rv × Option D)
  make : Nat → List D → Option D
  bor : Nat → Bool
  glob : Nat → Option D
  meth : Nat → Str → Option Nat
  hasF : Nat → Str → Bool

/-- the slots of a comprehension's own names -/
def Tg.slots : Tg → List Nat
  | .nm i => [i]
  | .tup ts => Tgs.slots ts
where Tgs.slots : Tgs → List Nat
  | .nil => []
  | .cons t ts => t.slots ++ Tgs.slots ts
def wipeS (env : Sl) : List Nat → Sl
  | [] => env
  | v :: vs => (wipeS env vs).set v .no
/-- what stood in a block's own slots, put back -/
def backS (env old : Sl) : List Nat → Sl
  | [] => env
  | v :: vs => (backS env old vs).set v (old.getD v .no)

mutual
def bindT : Tg → D → Sl → Option Sl
  | .nm i, d, env => match env[i]? with
    | some (.mu .bor _) => none
    | some (.mu .lck _) => none
    | some _ => some (env.set i (.val d))
    | none => none
  | .tup ts, .tup ds, env => bindTs ts ds env
  | .tup _, _, _ => none
def bindTs : Tgs → List D → Sl → Option Sl
  | .nil, [], env => some env
  | .cons t ts, d :: ds, env => (bindT t d env).bind fun env => bindTs ts ds env
  | _, _, _ => none
end
/-- name = value -/
def store (i : Nat) (r : Rv) (env : Sl) : Option Sl :=
  (match env[i]? with
    | some (.mu .bor _) => none
    | some (.mu .lck _) => none
    | some _ => some ()
    | none => none).bind fun _ =>
  match r with
  | .sh d => some (env.set i (.val d))
  | .nw d => some (env.set i (.mu .own d))
  | .sl j => (esc (.sl j) env).bind fun p => some (p.2.set i (.val p.1))
def stores : List Nat → List Rv → Sl → Option Sl
  | [], [], env => some env
  | i :: is, r :: rs, env => (store i r env).bind fun env => stores is rs env
  | _, _, _ => none
/-- what lies in slots is taken out of them first -/
def outs : List Rv → Sl → Option (List Rv × Sl)
  | [], env => some ([], env)
  | .sl j :: rs, env => (esc (.sl j) env).bind fun p => (outs rs p.2).bind fun q => some (.sh p.1 :: q.1, q.2)
  | r :: rs, env => (outs rs env).bind fun q => some (r :: q.1, q.2)

def callE (G : Gs) (k : Nat) (rvs : List Rv) (env : Sl) : Option (Rv × Sl) :=
  if G.bor k then match rvs with
    | .sl i :: rest => (escs rest env).bind fun p => match p.2[i]? with
      | some (.mu .own d) => (G.call k (d :: p.1)).bind fun r => match r.2 with
        | some d' => some (r.1, p.2.set i (.mu .own d'))
        | none => none
      | some (.mu .bor d) => (G.call k (d :: p.1)).bind fun r => match r.2 with
        | some d' => some (r.1, p.2.set i (.mu .bor d'))
        | none => none
      | _ => none
    | .nw d :: rest => (escs rest env).bind fun p => (G.call k (d :: p.1)).bind fun r => some (r.1, p.2)
    | _ => none
  else (escs rvs env).bind fun p => (G.call k p.1).bind fun r => some (r.1, p.2)

/-- an item of a pair's walk -/
def zipD : List D → List D → List D
  | a :: as, b :: bs => .tup [a, b] :: zipD as bs
  | _, _ => []
def enmD : Nat → List D → List D
  | _, [] => []
  | n, a :: as => .tup [.int n, a] :: enmD (n + 1) as
def seqD : D → Option (List D)
  | .lst ds => some ds
  | .tup ds => some ds
  | _ => none
def rngOk (i : Int) : Bool := decide (i.natAbs < 4611686018427387904)
def rngD (lo hi : Int) : List D := (List.range (hi - lo).toNat).map fun (k : Nat) => .int (lo + k)
/-- the slot that is walked, if any, is locked; its former state -/
def lock : Rv → Sl → Option (Sl × Option Nat)
  | .sl i, env => match env[i]? with
    | some (.mu .own d) => some (env.set i (.mu .lck d), some i)
    | some (.mu .lck _) => some (env, none)
    | some (.val _) => some (env, none)
    | _ => none
  | _, env => some (env, none)
def unlock : Option Nat → Sl → Sl
  | some i, env => match env[i]? with
    | some (.mu .lck d) => env.set i (.mu .own d)
    | _ => env
  | none, env => env
/-- a walk's items, turn by turn -/
def loopF (tg : Tg) (body : Sl → Option (Fl × Sl)) : List D → Sl → Option (Fl × Sl)
  | [], env => some (.nx, env)
  | d :: ds, env => (bindT tg d env).bind fun env => (body env).bind fun r => match r.1 with
    | .nx => loopF tg body ds r.2
    | .ct => loopF tg body ds r.2
    | .bk => some (.nx, r.2)
    | .ret v => some (.ret v, r.2)
/-- a comprehension's items -/
def loopC (tg : Tg) (cond : Sl → Option (Bool × Sl)) (elt : Sl → Option (D × Sl)) (own : List Nat) : List D → Sl → Option (List D × Sl)
  | [], env => some ([], env)
  | d :: ds, env => (bindT tg d (wipeS env own)).bind fun env1 => (cond env1).bind fun b =>
      if b.1 then (elt b.2).bind fun r => (loopC tg cond elt own ds (backS r.2 env own)).bind fun q => some (r.1 :: q.1, q.2)
      else loopC tg cond elt own ds (backS b.2 env own)
/-- a comprehension's items, several from each -/
def loopM (tg : Tg) (cond : Sl → Option (Bool × Sl)) (inner : Sl → Option (List D × Sl)) (own : List Nat) : List D → Sl → Option (List D × Sl)
  | [], env => some ([], env)
  | d :: ds, env => (bindT tg d (wipeS env own)).bind fun env1 => (cond env1).bind fun b =>
      if b.1 then (inner b.2).bind fun r => (loopM tg cond inner own ds (backS r.2 env own)).bind fun q => some (r.1 ++ q.1, q.2)
      else loopM tg cond inner own ds (backS b.2 env own)
def loopW (c : Sl → Option (Bool × Sl)) (b : Sl → Option (Fl × Sl)) : Nat → Sl → Option (Fl × Sl)
  | 0, _ => none
  | n + 1, env => (c env).bind fun t => if t.1 then (b t.2).bind fun r => match r.1 with
      | .nx => loopW c b n r.2
      | .ct => loopW c b n r.2
      | .bk => some (.nx, r.2)
      | .ret v => some (.ret v, r.2)
    else some (.nx, t.2)
def whileR (c : Sl → Option (Bool × Sl)) (b : Sl → Option (Fl × Sl)) (env : Sl) : Option (Fl × Sl) := loopW c b 1000000000 env

/-- a meaning as a value and as a test -/
structure Vt where
  v : Sl → Option (Rv × Sl)
  t : Sl → Option (Bool × Sl)
def tru (v : Sl → Option (Rv × Sl)) (env : Sl) : Option (Bool × Sl) := (v env).bind fun p => (rd p.1 p.2).bind fun d => (truD d).bind fun b => some (b, p.2)
abbrev vt (v : Sl → Option (Rv × Sl)) : Vt := ⟨v, tru v⟩
def toD (v : Sl → Option (Rv × Sl)) (env : Sl) : Option (D × Sl) := (v env).bind fun p => esc p.1 p.2
def intR (p : Rv × Sl) : Option Int := match rd p.1 p.2 with
  | some (.int i) => some i
  | _ => none
def vName (i : Nat) (env : Sl) : Option (Rv × Sl) := match env[i]? with
  | some (.val d) => some (.sh d, env)
  | some (.mu _ _) => some (.sl i, env)
  | _ => none
def vTup (es : Sl → Option (List Rv × Sl)) (env : Sl) : Option (Rv × Sl) := (es env).bind fun p => (escs p.1 p.2).bind fun q => if lineOk q.1.length then some (.sh (.tup q.1), q.2) else none
def vLst (es : Sl → Option (List Rv × Sl)) (env : Sl) : Option (Rv × Sl) := (es env).bind fun p => (escs p.1 p.2).bind fun q => if lineOk q.1.length then some (.nw (.lst q.1), q.2) else none
def vOp (f : D → D → Option Rv) (a b : Sl → Option (Rv × Sl)) (env : Sl) : Option (Rv × Sl) :=
  (a env).bind fun p => (b p.2).bind fun q => (rd p.1 q.2).bind fun x => (rd q.1 q.2).bind fun y => (f x y).bind fun r => some (r, q.2)
def cmpR (op : CmpOp) (x y : D) : Option Rv := (cmpD op x y).bind fun r => some (.sh (.bl r))
def ixR (x y : D) : Option Rv := (ixD x y).bind fun d => some (.sh d)
def vUn (f : D → Option Rv) (a : Sl → Option (Rv × Sl)) (env : Sl) : Option (Rv × Sl) := (a env).bind fun p => (rd p.1 p.2).bind fun d => (f d).bind fun r => some (r, p.2)
def negD : D → Option Rv
  | .int i => some (.sh (.int (-i)))
  | _ => none
def notB : D → Option Rv
  | .bl b => some (.sh (.bl (!b)))
  | _ => none
def revD : D → Option Rv
  | .lst ds => some (.nw (.lst ds.reverse))
  | .tup ds => some (.sh (.tup ds.reverse))
  | _ => none
/-- [::k], k from 2 on -/
def stpL (k : Int) (ds : List D) : List D := (List.range (Builtin.Slice.slicePlaces 0 ds.length k)).filterMap fun (m : Nat) => ds[(0 + (m : Int) * k).toNat]?
def stpD (k : Int) : D → Option Rv
  | .tup ds => if 2 ≤ k then some (.sh (.tup (stpL k ds))) else none
  | _ => none
/-- tuple(reversed(a)) -/
def trevD : D → Option Rv
  | .lst ds => some (.sh (.tup ds.reverse))
  | _ => none
def fldD (p : Nat → Bool) (f : Str) : D → Option Rv
  | .ins c fs ds => if p c then ((fs.zip ds).lookup f).bind fun d => some (.sh d) else none
  | _ => none
def vCh2 (op op' : CmpOp) (a b c : Sl → Option (Rv × Sl)) (env : Sl) : Option (Rv × Sl) :=
  (a env).bind fun p => (b p.2).bind fun q => (rd p.1 q.2).bind fun x => (rd q.1 q.2).bind fun y => (cmpD op x y).bind fun r =>
    if r then (c q.2).bind fun s => (rd q.1 s.2).bind fun y => (rd s.1 s.2).bind fun z => (cmpD op' y z).bind fun r => some (.sh (.bl r), s.2) else some (.sh (.bl false), q.2)
def vIf (c : Sl → Option (Bool × Sl)) (a b : Sl → Option (Rv × Sl)) (env : Sl) : Option (Rv × Sl) := (c env).bind fun p => if p.1 then a p.2 else b p.2
def tIf (c a b : Sl → Option (Bool × Sl)) (env : Sl) : Option (Bool × Sl) := (c env).bind fun p => if p.1 then a p.2 else b p.2
def vSlc (a : Sl → Option (Rv × Sl)) (lo hi : Sl → Option (Option Int × Sl)) (env : Sl) : Option (Rv × Sl) :=
  (a env).bind fun p => (lo p.2).bind fun q => (hi q.2).bind fun s => (rd p.1 s.2).bind fun x => (slcD x q.1 s.1).bind fun r => some (r, s.2)
def vBi (b : Bi) (es : Sl → Option (List Rv × Sl)) (env : Sl) : Option (Rv × Sl) := (es env).bind fun p => (rds p.1 p.2).bind fun ds => (biD b ds).bind fun r => some (r, p.2)
def vNot (t : Sl → Option (Bool × Sl)) (env : Sl) : Option (Bool × Sl) := (t env).bind fun p => some (!p.1, p.2)
def ofT (t : Sl → Option (Bool × Sl)) (env : Sl) : Option (Rv × Sl) := (t env).bind fun p => some (.sh (.bl p.1), p.2)
def tAnd2 (a b : Sl → Option (Bool × Sl)) (env : Sl) : Option (Bool × Sl) := (a env).bind fun p => if p.1 then b p.2 else some (false, p.2)
def tOr2 (a b : Sl → Option (Bool × Sl)) (env : Sl) : Option (Bool × Sl) := (a env).bind fun p => if p.1 then some (true, p.2) else b p.2
def vAnd2 (a b : Sl → Option (Rv × Sl)) (env : Sl) : Option (Rv × Sl) := (a env).bind fun p => match p.1 with
  | .sh (.bl c) => if c then b p.2 else some (.sh (.bl false), p.2)
  | _ => none
def vOr2 (a b : Sl → Option (Rv × Sl)) (env : Sl) : Option (Rv × Sl) := (a env).bind fun p => match p.1 with
  | .sh (.bl c) => if c then some (.sh (.bl true), p.2) else b p.2
  | _ => none
abbrev Itm := List D × Sl × Option Nat
def iRg1 (a : Sl → Option (Rv × Sl)) (env : Sl) : Option Itm := (a env).bind fun p => (intR p).bind fun j => if rngOk j then some (rngD 0 j, p.2, none) else none
def iRg2 (a b : Sl → Option (Rv × Sl)) (env : Sl) : Option Itm := (a env).bind fun p => (b p.2).bind fun q => (intR (p.1, q.2)).bind fun i => (intR q).bind fun j =>
  if rngOk i && rngOk j then some (rngD i j, q.2, none) else none
def iOf (a : Sl → Option (Rv × Sl)) (env : Sl) : Option Itm := (a env).bind fun p => (rd p.1 p.2).bind fun d => (seqD d).bind fun ds => (lock p.1 p.2).bind fun l => some (ds, l.1, l.2)
def iRv (a : Sl → Option (Rv × Sl)) (env : Sl) : Option Itm := (a env).bind fun p => (rd p.1 p.2).bind fun d => (seqD d).bind fun ds => (lock p.1 p.2).bind fun l => some (ds.reverse, l.1, l.2)
def bothD : D → D → Option (List D × List D)
  | .lst xs, .lst ys => some (xs, ys)
  | .tup xs, .tup ys => some (xs, ys)
  | _, _ => none
def iZip (a b : Sl → Option (Rv × Sl)) (env : Sl) : Option Itm := (a env).bind fun p => (b p.2).bind fun q => (rd p.1 q.2).bind fun x => (rd q.1 q.2).bind fun y => (bothD x y).bind fun z =>
  (esc q.1 q.2).bind fun s => (lock p.1 s.2).bind fun l => some (zipD z.1 z.2, l.1, l.2)
def lstD : D → Option (List D)
  | .lst ds => some ds
  | _ => none
def iEnm (a : Sl → Option (Rv × Sl)) (env : Sl) : Option Itm := (a env).bind fun p => (rd p.1 p.2).bind fun d => (seqD d).bind fun xs => (lock p.1 p.2).bind fun l => some (enmD 0 xs, l.1, l.2)

section
variable (G : Gs)
def vCall (k : Nat) (es : Sl → Option (List Rv × Sl)) (env : Sl) : Option (Rv × Sl) := (es env).bind fun p => callE G k p.1 p.2
def vMk (c : Nat) (es : Sl → Option (List Rv × Sl)) (env : Sl) : Option (Rv × Sl) := (es env).bind fun p => (escs p.1 p.2).bind fun q => (G.make c q.1).bind fun d => some (.sh d, q.2)
def vMeth (m : Str) (o : Sl → Option (Rv × Sl)) (es : Sl → Option (List Rv × Sl)) (env : Sl) : Option (Rv × Sl) := (o env).bind fun p => match p.1 with
  | .sh (.ins c fs ds) => (es p.2).bind fun q => (G.meth c m).bind fun k => if G.bor k || fs.contains m then none else callE G k (.sh (.ins c fs ds) :: q.1) q.2
  | _ => none
def vLc (elt : Sl → Option (Rv × Sl)) (tg : Tg) (it : Sl → Option Itm) (cd : Sl → Option (Bool × Sl)) (env : Sl) : Option (Rv × Sl) :=
  (it env).bind fun p => (loopC tg cd (toD elt) tg.slots p.1 p.2.1).bind fun q => if lineOk q.1.length then some (.nw (.lst q.1), unlock p.2.2 q.2) else none
def inC (elt : Sl → Option (Rv × Sl)) (tg : Tg) (it : Sl → Option Itm) (cd : Sl → Option (Bool × Sl)) (env : Sl) : Option (List D × Sl) :=
  (it env).bind fun p => (loopC tg cd (toD elt) tg.slots p.1 p.2.1).bind fun q => some (q.1, unlock p.2.2 q.2)
def vLc2 (elt : Sl → Option (Rv × Sl)) (tg : Tg) (it : Sl → Option Itm) (cd : Sl → Option (Bool × Sl)) (tg2 : Tg) (it2 : Sl → Option Itm) (cd2 : Sl → Option (Bool × Sl)) (env : Sl) : Option (Rv × Sl) :=
  (it env).bind fun p => (loopM tg cd (inC elt tg2 it2 cd2) (tg.slots ++ tg2.slots) p.1 p.2.1).bind fun q => if lineOk q.1.length then some (.nw (.lst q.1), unlock p.2.2 q.2) else none
mutual
def evB : E → Vt
  | .int i => vt fun env => some (.sh (.int i), env)
  | .bl b => vt fun env => some (.sh (.bl b), env)
  | .non => vt fun env => some (.sh .non, env)
  | .str x => vt fun env => some (.sh (.str x), env)
  | .nm i => vt (vName i)
  | .gv k => vt fun env => (G.glob k).bind fun d => some (.sh d, env)
  | .tup es => vt (vTup (evEs es))
  | .lst es => vt (vLst (evEs es))
  | .bin op a b => vt (vOp (binD op) (evB a).v (evB b).v)
  | .neg a => vt (vUn negD (evB a).v)
  | .nt a => ⟨vUn notB (evB a).v, vNot (evB a).t⟩
  | .and es => ⟨evAnd es, evTAnd es⟩
  | .or es => ⟨evOr es, evTOr es⟩
  | .cmp op a b => vt (vOp (cmpR op) (evB a).v (evB b).v)
  | .ch2 op op' a b c => vt (vCh2 op op' (evB a).v (evB b).v (evB c).v)
  | .ife c a b => ⟨vIf (evB c).t (evB a).v (evB b).v, tIf (evB c).t (evB a).t (evB b).t⟩
  | .ix a i => vt (vOp ixR (evB a).v (evB i).v)
  | .slc a lo hi => vt (vSlc (evB a).v (evO lo) (evO hi))
  | .rev a => vt (vUn revD (evB a).v)
  | .stp a k => vt (vUn (stpD k) (evB a).v)
  | .trev a => vt (vUn trevD (evB a).v)
  | .call k es => vt (vCall G k (evEs es))
  | .mk c es => vt (vMk G c (evEs es))
  | .meth m o es => vt (vMeth G m (evB o).v (evEs es))
  | .fld f o => vt (vUn (fldD (fun c => G.hasF c f) f) (evB o).v)
  | .bi b es => vt (vBi b (evEs es))
  | .isi a t => vt (vUn (fun d => (isiD d t).bind fun b => some (.sh (.bl b))) (evB a).v)
  | .lc elt tg it cd => vt (vLc (evB elt).v tg (evI it) (evC cd))
  | .lc2 elt tg it cd tg2 it2 cd2 => vt (vLc2 (evB elt).v tg (evI it) (evC cd) tg2 (evI it2) (evC cd2))
def evEs : Es → Sl → Option (List Rv × Sl)
  | .nil => fun env => some ([], env)
  | .cons e es => fun env => ((evB e).v env).bind fun p => (evEs es p.2).bind fun q => some (p.1 :: q.1, q.2)
def evO : EO → Sl → Option (Option Int × Sl)
  | .no => fun env => some (none, env)
  | .so e => fun env => ((evB e).v env).bind fun p => (intR p).bind fun i => some (some i, p.2)
/-- a comprehension's test -/
def evC : EO → Sl → Option (Bool × Sl)
  | .no => fun env => some (true, env)
  | .so e => (evB e).t
def evTAnd : Es → Sl → Option (Bool × Sl)
  | .nil => fun env => some (true, env)
  | .cons e es => tAnd2 (evB e).t (evTAnd es)
def evTOr : Es → Sl → Option (Bool × Sl)
  | .nil => fun env => some (false, env)
  | .cons e es => tOr2 (evB e).t (evTOr es)
def evAnd : Es → Sl → Option (Rv × Sl)
  | .nil => fun _ => none
  | .cons e .nil => (evB e).v
  | .cons e es => vAnd2 (evB e).v (evAnd es)
def evOr : Es → Sl → Option (Rv × Sl)
  | .nil => fun _ => none
  | .cons e .nil => (evB e).v
  | .cons e es => vOr2 (evB e).v (evOr es)
/-- the items that are walked; the slots with the walked one locked; which to unlock -/
def evI : I → Sl → Option Itm
  | .rg1 a => iRg1 (evB a).v
  | .rg2 a b => iRg2 (evB a).v (evB b).v
  | .of a => iOf (evB a).v
  | .rv a => iRv (evB a).v
  | .zip a b => iZip (evB a).v (evB b).v
  | .enm a => iEnm (evB a).v
end
abbrev evE (e : E) : Sl → Option (Rv × Sl) := (evB G e).v
abbrev evT (e : E) : Sl → Option (Bool × Sl) := (evB G e).t

/-! ### statements -/
abbrev Sv := Sl → Option (Fl × Sl)
def sSet (i : Nat) (e : Sl → Option (Rv × Sl)) : Sv := fun env => (e env).bind fun p => (store i p.1 p.2).bind fun env => some (.nx, env)
def sUnp (ts : Tgs) (e : Sl → Option (Rv × Sl)) : Sv := fun env => (e env).bind fun p => match p.1 with
  | .sh (.tup ds) => (bindTs ts ds p.2).bind fun env => some (.nx, env)
  | _ => none
def sPar (is : List Nat) (es : Sl → Option (List Rv × Sl)) : Sv := fun env => (es env).bind fun p => (outs p.1 p.2).bind fun q => (stores is q.1 q.2).bind fun env => some (.nx, env)
/-- what stands in a slot that may be written -/
def muAt (i : Nat) (env : Sl) : Option (Kd × D) := match env[i]? with
  | some (.mu .own d) => some (.own, d)
  | some (.mu .bor d) => some (.bor, d)
  | _ => none
def sSetIx (i : Nat) (k e : Sl → Option (Rv × Sl)) : Sv := fun env => (e env).bind fun p => (esc p.1 p.2).bind fun q => (muAt i q.2).bind fun _ => (k q.2).bind fun r => (intR r).bind fun j => (muAt i r.2).bind fun m =>
  match m.2 with
  | .lst ds => (L2.ixN ds.length j).bind fun n => some (.nx, r.2.set i (.mu m.1 (.lst (ds.set n q.1))))
  | _ => none
/-- an attribute put: names, values -/
def putN (f : Str) : List Str → List Str
  | [] => [f]
  | g :: r => if g = f then g :: r else g :: putN f r
def putV (f : Str) (d : D) : List Str → List D → List D
  | g :: r, e :: es => if g = f then d :: es else e :: putV f d r es
  | _, _ => [d]
def sSetFld (own : Nat → Bool) (i : Nat) (f : Str) (e : Sl → Option (Rv × Sl)) : Sv := fun env => (e env).bind fun p => (esc p.1 p.2).bind fun q => (muAt i q.2).bind fun m =>
  match m.2 with
  | .ins c fs ds => if own c && decide (fs.length < 1000) then some (.nx, q.2.set i (.mu m.1 (.ins c (putN f fs) (putV f q.1 fs ds)))) else none
  | _ => none
def isL (m : Kd × D) : Bool := match m.2 with
  | .lst _ => true
  | _ => false
def sApp (i : Nat) (e : Sl → Option (Rv × Sl)) : Sv := fun env => (muAt i env).bind fun m0 => if isL m0 = false then none else (e env).bind fun p => (esc p.1 p.2).bind fun q => (muAt i q.2).bind fun m =>
  match m.2 with
  | .lst ds => if ds.length < 16777216 then some (.nx, q.2.set i (.mu m.1 (.lst (ds ++ [q.1])))) else none
  | _ => none
def sExt (i : Nat) (e : Sl → Option (Rv × Sl)) : Sv := fun env => (muAt i env).bind fun m0 => if isL m0 = false then none else (e env).bind fun p => match p.1 with
  | .nw (.lst es) => (muAt i p.2).bind fun m => match m.2 with
    | .lst ds => if lineOk (ds.length + es.length) then some (.nx, p.2.set i (.mu m.1 (.lst (ds ++ es)))) else none
    | _ => none
  | _ => none
def sExpr (e : Sl → Option (Rv × Sl)) : Sv := fun env => (e env).bind fun p => some (.nx, p.2)
def sRet (e : Sl → Option (Rv × Sl)) : Sv := fun env => (e env).bind fun p => some (.ret p.1, p.2)
def sIf (c : Sl → Option (Bool × Sl)) (a b : Sv) : Sv := fun env => (c env).bind fun p => if p.1 then a p.2 else b p.2
def sFor (tg : Tg) (it : Sl → Option Itm) (b : Sv) : Sv := fun env => (it env).bind fun p => (loopF tg b p.1 p.2.1).bind fun q => some (q.1, unlock p.2.2 q.2)
def sSeq (a b : Sv) : Sv := fun env => (a env).bind fun p => match p.1 with
  | .nx => b p.2
  | f => some (f, p.2)
mutual
def evS : S → Sv
  | .asg i e => sSet i (evE G e)
  | .unp ts e => sUnp ts (evE G e)
  | .par is es => sPar is (evEs G es)
  | .setix i k e => sSetIx i (evE G k) (evE G e)
  | .setfld i f e => sSetFld (fun c => G.hasF c f) i f (evE G e)
  | .app i e => sApp i (evE G e)
  | .ext i e => sExt i (evE G e)
  | .expr e => sExpr (evE G e)
  | .ret e => sRet (evE G e)
  | .retN => fun env => some (.ret (.sh .non), env)
  | .ifs c a b => sIf (evT G c) (evSs a) (evSs b)
  | .whl c b => whileR (evT G c) (evSs b)
  | .for tg it b => sFor tg (evI G it) (evSs b)
  | .brk => fun env => some (.bk, env)
  | .cont => fun env => some (.ct, env)
  | .dead => fun _ => none
def evSs : Ss → Sv
  | .nil => fun env => some (.nx, env)
  | .cons s ss => sSeq (evS s) (evSs ss)
end
end

/-! ### defs -/
structure Fn where
  np : Nat
  ns : Nat
  bor : Bool
  body : Ss
/-- the classes: __init__'s number, methods -/
structure Cl where
  init : Nat
  meths : List (Str × Nat)
  flds : List Str
structure Tab where
  fns : Nat → Option Fn
  cls : Nat → Option Cl
  glob : Nat → Option D
def retD : Rv → Sl → Option Rv
  | .sh d, _ => some (.sh d)
  | .nw d, _ => some (.nw d)
  | .sl i, env => match env[i]? with
    | some (.mu .own d) => some (.nw d)
    | some (.val d) => some (.sh d)
    | _ => none
/-- the arguments as they lie in the slots; behind the call -/
def argE : Bool → List D → Sl
  | true, d :: ds => .mu .bor d :: ds.map .val
  | _, ds => ds.map .val
def endE : Option D → List D → Sl
  | some d, _ :: ds => .mu .bor d :: ds.map .val
  | _, ds => ds.map .val
def startS (fn : Fn) (ds : List D) : Sl := argE fn.bor ds ++ List.replicate (fn.ns - fn.np) .no
def endB (fn : Fn) (env : Sl) : Option (Option D) := if fn.bor = true then (match (env[0]? : Option Slot) with
    | some (.mu .bor d) => some (some d)
    | _ => none)
  else some none
def runFn (G : Gs) (fn : Fn) (ds : List D) : Option (Rv × Option D) :=
  if ds.length = fn.np then (evSs G fn.body (startS fn ds)).bind fun p => match p.1 with
    | .ret r => (retD r p.2).bind fun r => (endB fn p.2).bind fun b => some (r, b)
    | .nx => (endB fn p.2).bind fun b => some (.sh .non, b)
    | _ => none
  else none
section
variable (T : Tab)
def borT (k : Nat) : Bool := match T.fns k with
  | some f => f.bor
  | none => false
def methT (c : Nat) (m : Str) : Option Nat := (T.cls c).bind fun c => c.meths.lookup m
def hasFT (c : Nat) (f : Str) : Bool := match T.cls c with
  | some cl => cl.flds.contains f
  | none => false
/-- a new instance of a class: its __init__, one level deeper -/
def makeBy (call : Nat → List D → Option (Rv × Option D)) (c : Nat) (ds : List D) : Option D :=
  (T.cls c).bind fun cl => (call cl.init (.ins c [] [] :: ds)).bind fun r => match r with
    | (.sh .non, some d) => some d
    | _ => none
def callN : Nat → Nat → List D → Option (Rv × Option D)
  | 0, _, _ => none
  | 1, k, ds => (T.fns k).bind fun fn => runFn ⟨fun _ _ => none, fun _ _ => none, borT T, T.glob, methT T, hasFT T⟩ fn ds
  | n + 2, k, ds => (T.fns k).bind fun fn => runFn ⟨callN (n + 1), makeBy T (callN n), borT T, T.glob, methT T, hasFT T⟩ fn ds
def gs : Nat → Gs
  | 0 => ⟨fun _ _ => none, fun _ _ => none, borT T, T.glob, methT T, hasFT T⟩
  | m + 1 => ⟨callN T (m + 1), makeBy T (callN T m), borT T, T.glob, methT T, hasFT T⟩
theorem gs_call (n k : Nat) (ds : List D) : (gs T n).call k ds = callN T n k ds := by
  cases n with
  | zero => rw [callN]; rfl
  | succ n => rfl
theorem callN_succ (n k : Nat) (ds : List D) : callN T (n + 1) k ds = (T.fns k).bind fun fn => runFn (gs T n) fn ds := by
  cases n with
  | zero => rw [callN]; rfl
  | succ n => rw [callN]; rfl
end
end RE
set_option Elab.async false
set_option linter.all false
set_option maxRecDepth 100000
/-! How data lies in the heap. F: the part of the heap that is never changed any more. -/
namespace RE
open PySem PySem.Spec PyProof.Rows L2

structure Rc where
  K : PySem.W.Frag
  ca : Nat → Addr
  w : World

mutual
def Rep (R : Rc) (F : Hp) : D → V → Prop
  | .non, v => v = .non
  | .bl b, v => v = .bl b
  | .int i, v => v = .int i
  | .str x, v => v = .str x
  | .tup ds, v => ∃ a xs, v = .ref a ∧ SqT R.K F a xs ∧ Reps R F ds xs
  | .lst ds, v => ∃ a xs, v = .ref a ∧ SqL R.K F a xs ∧ Reps R F ds xs
  | .ins c fs ds, v => ∃ a dx fv, v = .ref a ∧ F a = some (.ins (R.ca c) dx fv) ∧ fv.map (·.1) = fs ∧ Reps R F ds (fv.map (·.2))
  | .set ns, v => ∃ a S n, v = .ref a ∧ F a = some (SetO R.w a S n) ∧ n ≤ ns.length ∧ ∀ k, S k = ns.any fun j => j == k
def Reps (R : Rc) (F : Hp) : List D → List V → Prop
  | [], xs => xs = []
  | d :: ds, xs => ∃ v vs, xs = v :: vs ∧ Rep R F d v ∧ Reps R F ds vs
end
variable {R : Rc} {F F' F1 F2 H H' H1 H2 : Hp}

theorem rd_same {a : Addr} {u : HO} (s : Same F H) (h : Rd F a u) : Rd H a u := by
  rcases h with h | ⟨o, h⟩
  · exact .inl (s _ _ h)
  · exact .inr ⟨o, s _ _ h⟩
theorem sqL_same {K : PySem.W.Frag} {a : Addr} {xs : List V} (s : Same F H) (h : SqL K F a xs) : SqL K H a xs := h.elim (fun h => .inl (rd_same s h)) .inr
theorem sqT_same {K : PySem.W.Frag} {a : Addr} {xs : List V} (s : Same F H) (h : SqT K F a xs) : SqT K H a xs := h.elim (fun h => .inl (rd_same s h)) .inr

mutual
theorem Rep.mono (s : Same F H) : ∀ (d : D) (v : V), Rep R F d v → Rep R H d v
  | .non, v, h => h
  | .bl _, v, h => h
  | .int _, v, h => h
  | .str _, v, h => h
  | .tup ds, v, h => by
    simp only [Rep] at h ⊢
    obtain ⟨a, xs, e, q, r⟩ := h
    exact ⟨a, xs, e, sqT_same s q, Reps.mono s ds xs r⟩
  | .lst ds, v, h => by
    simp only [Rep] at h ⊢
    obtain ⟨a, xs, e, q, r⟩ := h
    exact ⟨a, xs, e, sqL_same s q, Reps.mono s ds xs r⟩
  | .ins c fs ds, v, h => by
    simp only [Rep] at h ⊢
    obtain ⟨a, dx, fv, e, q, n, r⟩ := h
    exact ⟨a, dx, fv, e, s _ _ q, n, Reps.mono s ds _ r⟩
  | .set ns, v, h => by
    simp only [Rep] at h ⊢
    obtain ⟨a, S, n, e, q, r⟩ := h
    exact ⟨a, S, n, e, s _ _ q, r⟩
theorem Reps.mono (s : Same F H) : ∀ (ds : List D) (xs : List V), Reps R F ds xs → Reps R H ds xs
  | [], xs, h => h
  | d :: ds, xs, h => by
    simp only [Reps] at h ⊢
    obtain ⟨v, vs, e, h1, h2⟩ := h
    exact ⟨v, vs, e, Rep.mono s d v h1, Reps.mono s ds vs h2⟩
end
theorem Reps.nil_iff {xs : List V} : Reps R F [] xs ↔ xs = [] := by simp only [Reps]
theorem Reps.cons_iff {d : D} {ds : List D} {xs : List V} : Reps R F (d :: ds) xs ↔ ∃ v vs, xs = v :: vs ∧ Rep R F d v ∧ Reps R F ds vs := by simp only [Reps]
theorem Reps.nil : Reps R F [] [] := Reps.nil_iff.mpr rfl
theorem Reps.cons {d : D} {ds : List D} {v : V} {vs : List V} (h : Rep R F d v) (t : Reps R F ds vs) : Reps R F (d :: ds) (v :: vs) := Reps.cons_iff.mpr ⟨v, vs, rfl, h, t⟩
theorem Reps.length : ∀ {ds : List D} {xs : List V}, Reps R F ds xs → ds.length = xs.length
  | [], xs, h => by rw [Reps.nil_iff.mp h]; rfl
  | d :: ds, xs, h => by
    obtain ⟨v, vs, rfl, _, t⟩ := Reps.cons_iff.mp h
    simp [Reps.length t]
theorem Reps.get : ∀ {ds : List D} {xs : List V} {i : Nat} {d : D}, Reps R F ds xs → ds[i]? = some d → ∃ v, xs[i]? = some v ∧ Rep R F d v
  | [], xs, i, d, h, e => by simp at e
  | d' :: ds, xs, 0, d, h, e => by
    obtain ⟨v, vs, rfl, h1, _⟩ := Reps.cons_iff.mp h
    simp at e
    subst e
    exact ⟨v, rfl, h1⟩
  | d' :: ds, xs, i + 1, d, h, e => by
    obtain ⟨v, vs, rfl, _, t⟩ := Reps.cons_iff.mp h
    simp at e
    obtain ⟨v', e', r⟩ := Reps.get t e
    exact ⟨v', by simpa using e', r⟩
theorem Reps.getV : ∀ {ds : List D} {xs : List V} {i : Nat} {v : V}, Reps R F ds xs → xs[i]? = some v → ∃ d, ds[i]? = some d ∧ Rep R F d v
  | [], xs, i, d, h, e => by rw [Reps.nil_iff.mp h] at e; simp at e
  | d' :: ds, xs, 0, d, h, e => by
    obtain ⟨v, vs, rfl, h1, _⟩ := Reps.cons_iff.mp h
    simp at e
    subst e
    exact ⟨d', rfl, h1⟩
  | d' :: ds, xs, i + 1, d, h, e => by
    obtain ⟨v, vs, rfl, _, t⟩ := Reps.cons_iff.mp h
    simp at e
    obtain ⟨v', e', r⟩ := Reps.getV t e
    exact ⟨v', by simpa using e', r⟩
theorem Reps.append : ∀ {ds es : List D} {xs ys : List V}, Reps R F ds xs → Reps R F es ys → Reps R F (ds ++ es) (xs ++ ys)
  | [], es, xs, ys, h, t => by rw [Reps.nil_iff.mp h]; exact t
  | d :: ds, es, xs, ys, h, t => by
    obtain ⟨v, vs, rfl, h1, h2⟩ := Reps.cons_iff.mp h
    exact Reps.cons h1 (Reps.append h2 t)
theorem Reps.take : ∀ {ds : List D} {xs : List V} (n : Nat), Reps R F ds xs → Reps R F (ds.take n) (xs.take n)
  | _, _, 0, _ => Reps.nil
  | [], xs, n + 1, h => by rw [Reps.nil_iff.mp h]; exact Reps.nil
  | d :: ds, xs, n + 1, h => by
    obtain ⟨v, vs, rfl, h1, h2⟩ := Reps.cons_iff.mp h
    exact Reps.cons h1 (Reps.take n h2)
theorem Reps.drop : ∀ {ds : List D} {xs : List V} (n : Nat), Reps R F ds xs → Reps R F (ds.drop n) (xs.drop n)
  | _, _, 0, h => h
  | [], xs, n + 1, h => by rw [Reps.nil_iff.mp h]; exact Reps.nil
  | d :: ds, xs, n + 1, h => by
    obtain ⟨v, vs, rfl, h1, h2⟩ := Reps.cons_iff.mp h
    exact Reps.drop n h2
theorem Reps.reverse : ∀ {ds : List D} {xs : List V}, Reps R F ds xs → Reps R F ds.reverse xs.reverse
  | [], xs, h => by rw [Reps.nil_iff.mp h]; exact Reps.nil
  | d :: ds, xs, h => by
    obtain ⟨v, vs, rfl, h1, h2⟩ := Reps.cons_iff.mp h
    rw [List.reverse_cons, List.reverse_cons]
    exact Reps.append (Reps.reverse h2) (Reps.cons h1 Reps.nil)
theorem Reps.set : ∀ {ds : List D} {xs : List V} {d : D} {v : V} (n : Nat), Reps R F ds xs → Rep R F d v → Reps R F (ds.set n d) (xs.set n v)
  | [], xs, d, v, n, h, r => by rw [Reps.nil_iff.mp h]; exact Reps.nil
  | d' :: ds, xs, d, v, 0, h, r => by
    obtain ⟨v', vs, rfl, h1, h2⟩ := Reps.cons_iff.mp h
    exact Reps.cons r h2
  | d' :: ds, xs, d, v, n + 1, h, r => by
    obtain ⟨v', vs, rfl, h1, h2⟩ := Reps.cons_iff.mp h
    exact Reps.cons h1 (Reps.set n h2 r)
theorem Reps.ints : ∀ {ds : List D} {xs : List V} {ns : List Int}, Reps R F ds xs → intsOf ds = some ns → xs = ns.map V.int
  | [], xs, ns, h, e => by
    simp [intsOf] at e
    subst e
    exact Reps.nil_iff.mp h
  | d :: ds, xs, ns, h, e => by
    obtain ⟨v, vs, rfl, h1, h2⟩ := Reps.cons_iff.mp h
    cases d with
    | int i =>
      simp only [intsOf, Option.bind_eq_some_iff] at e
      obtain ⟨ms, e1, e2⟩ := e
      simp at e2
      subst e2
      simp only [Rep] at h1
      rw [h1, Reps.ints h2 e1, List.map_cons]
    | _ => simp [intsOf] at e
theorem Reps.bools : ∀ {ds : List D} {xs : List V} {ns : List Bool}, Reps R F ds xs → boolsOf ds = some ns → xs = ns.map V.bl
  | [], xs, ns, h, e => by
    simp [boolsOf] at e
    subst e
    exact Reps.nil_iff.mp h
  | d :: ds, xs, ns, h, e => by
    obtain ⟨v, vs, rfl, h1, h2⟩ := Reps.cons_iff.mp h
    cases d with
    | bl i =>
      simp only [boolsOf, Option.bind_eq_some_iff] at e
      obtain ⟨ms, e1, e2⟩ := e
      simp at e2
      subst e2
      simp only [Rep] at h1
      rw [h1, Reps.bools h2 e1, List.map_cons]
    | _ => simp [boolsOf] at e

/-! ### what may be read, what is written -/
/-- d is read at v now: its own object in the heap, all beneath it in what never changes -/
def RdOk (R : Rc) (F H : Hp) : D → V → Prop
  | .lst ds, v => ∃ a xs, v = .ref a ∧ SqL R.K H a xs ∧ Reps R F ds xs
  | .ins c fs ds, v => ∃ a dx fv, v = .ref a ∧ H a = some (.ins (R.ca c) dx fv) ∧ fv.map (·.1) = fs ∧ Reps R F ds (fv.map (·.2))
  | d, v => Rep R F d v
theorem Rep.rd (s : Same F H) : ∀ {d : D} {v : V}, Rep R F d v → RdOk R F H d v
  | .non, _, h => h
  | .bl _, _, h => h
  | .int _, _, h => h
  | .str _, _, h => h
  | .tup ds, v, h => h
  | .lst ds, v, h => by
    simp only [Rep] at h
    obtain ⟨a, xs, e, q, r⟩ := h
    exact ⟨a, xs, e, sqL_same s q, r⟩
  | .ins c fs ds, v, h => by
    simp only [Rep] at h
    obtain ⟨a, dx, fv, e, q, n, r⟩ := h
    exact ⟨a, dx, fv, e, s _ _ q, n, r⟩
  | .set ns, _, h => h
/-- the mutable thing at p -/
def MuO (R : Rc) (F H : Hp) (p : Addr) : D → Prop
  | .lst ds => ∃ xs, H p = some (.lst xs) ∧ Reps R F ds xs
  | .ins c fs ds => ∃ dx fv, H p = some (.ins (R.ca c) dx fv) ∧ fv.map (·.1) = fs ∧ Reps R F ds (fv.map (·.2))
  | _ => False
theorem MuO.rd {p : Addr} : ∀ {d : D}, MuO R F H p d → RdOk R F H d (.ref p)
  | .lst ds, ⟨xs, h, r⟩ => ⟨p, xs, rfl, .of h, r⟩
  | .ins c fs ds, ⟨dx, fv, h, n, r⟩ => ⟨p, dx, fv, rfl, h, n, r⟩
theorem MuO.some {p : Addr} : ∀ {d : D}, MuO R F H p d → ∃ o, H p = some o ∧ Mut (some o)
  | .lst ds, ⟨xs, h, r⟩ => ⟨_, h, True.intro⟩
  | .ins c fs ds, ⟨dx, fv, h, n, r⟩ => ⟨_, h, True.intro⟩
theorem MuO.mono {p : Addr} (s : Same F F') (e : ∀ o, H p = Option.some o → H' p = Option.some o) : ∀ {d : D}, MuO R F H p d → MuO R F' H' p d
  | .lst ds, ⟨xs, h, r⟩ => ⟨xs, e _ h, Reps.mono s _ _ r⟩
  | .ins c fs ds, ⟨dx, fv, h, n, r⟩ => ⟨dx, fv, e _ h, n, Reps.mono s _ _ r⟩
/-- it is never changed any more -/
theorem MuO.rep {p : Addr} (s : Same F F') (e : ∀ o, H p = Option.some o → F' p = Option.some o) : ∀ {d : D}, MuO R F H p d → Rep R F' d (.ref p)
  | .lst ds, ⟨xs, h, r⟩ => by
    simp only [Rep]
    exact ⟨p, xs, rfl, .of (e _ h), Reps.mono s _ _ r⟩
  | .ins c fs ds, ⟨dx, fv, h, n, r⟩ => by
    simp only [Rep]
    exact ⟨p, dx, fv, rfl, e _ h, n, Reps.mono s _ _ r⟩

/-! ### slots -/
/-- (true, p): what stands at p may be changed; (false, p): p is a slot's -/
abbrev Tg2 := Bool × Addr
def Cell (σ : L2.St) (env : Sl) (y : Tg2) : Prop := ∃ (i : Nat) (k : Kd) (d : D), env[i]? = some (Slot.mu k d) ∧ σ[i]? = some (some (V.ref y.2)) ∧ (y.1 = true → k ≠ .lck)
theorem Cell.up {σ : L2.St} {env : Sl} {t : Bool} {p : Addr} (h : Cell σ env (t, p)) : Cell σ env (false, p) := let ⟨i, k, d, e1, e2, _⟩ := h; ⟨i, k, d, e1, e2, fun z => nomatch z⟩
structure StOk (R : Rc) (σ : L2.St) (env : Sl) (F H : Hp) : Prop where
  len : env.length = σ.length
  sub : Same F H
  val : ∀ (i : Nat) (d : D), env[i]? = some (Slot.val d) → ∃ v, σ[i]? = some (some v) ∧ Rep R F d v
  mu : ∀ (i : Nat) (k : Kd) (d : D), env[i]? = some (Slot.mu k d) → ∃ p, σ[i]? = some (some (V.ref p)) ∧ F p = none ∧ MuO R F H p d
  ne : ∀ (i j : Nat) (k k' : Kd) (d d' : D) (p : Addr), env[i]? = some (Slot.mu k d) → env[j]? = some (Slot.mu k' d') → σ[i]? = some (some (V.ref p)) → σ[j]? = some (some (V.ref p)) → i = j
/-- from here to there: what never changes stays so, only the cells at C change; what is frozen was new or a cell; the cells there were cells or are new -/
structure Ext (C C' : Tg2 → Prop) (F H F' H' : Hp) : Prop where
  sub : Same F F'
  dom : ∀ b, H' b = none → H b = none
  keep : ∀ b o, H b = some o → ¬ C (true, b) → H' b = some o
  new : ∀ b, F' b ≠ none → F b ≠ none ∨ H b = none ∨ C (true, b)
  cel : ∀ y, C' y → C y ∨ H y.2 = none
variable {C C' C'' D0 D1 P : Tg2 → Prop}
theorem Ext.refl : Ext C C F H F H := ⟨Same.refl _, fun _ h => h, fun _ _ h _ => h, fun _ h => .inl h, fun _ h => .inl h⟩
theorem Ext.trans (a : Ext C C' F H F1 H1) (b : Ext C' C'' F1 H1 F2 H2) : Ext C C'' F H F2 H2 := by
  refine ⟨a.sub.trans b.sub, fun x h => a.dom x (b.dom x h), fun x o h c => ?_, fun x h => ?_, fun x h => ?_⟩
  · refine b.keep x o (a.keep x o h c) fun c' => ?_
    rcases a.cel _ c' with z | z
    · exact c z
    · have z : H x = none := z
      rw [h] at z; cases z
  · rcases b.new x h with z | z | z
    · exact a.new x z
    · exact .inr (.inl (a.dom x z))
    · exact (a.cel _ z).elim (fun z => .inr (.inr z)) fun z => .inr (.inl z)
  · rcases b.cel x h with z | z
    · exact a.cel x z
    · exact .inr (a.dom _ z)
theorem Ext.mono (a : Ext C C' F H F' H') (h1 : ∀ b, C b → D0 b) (h2 : ∀ b, D1 b → C' b) : Ext D0 D1 F H F' H' :=
  ⟨a.sub, a.dom, fun x o h c => a.keep x o h fun z => c (h1 _ z), fun x h => (a.new x h).imp_right fun z => z.imp_right (h1 _), fun x h => (a.cel x (h2 x h)).imp_left (h1 x)⟩
/-- what lies beside the cells stays -/
theorem Ext.stay (a : Ext C C' F H F' H') {p : Addr} {o : HO} (h : H p = some o) (n : F p = none) (c : ¬ C (true, p)) : H' p = some o ∧ F' p = none ∧ ∀ t, C' (t, p) → C (t, p) := by
  refine ⟨a.keep p o h c, ?_, fun t z => ?_⟩
  · cases q : F' p with
    | none => rfl
    | some u =>
      rcases a.new p (by rw [q]; exact fun z => nomatch z) with z | z | z
      · exact absurd n z
      · rw [h] at z; cases z
      · exact absurd z c
  · rcases a.cel _ z with z | z
    · exact z
    · have z : H p = none := z
      rw [h] at z; cases z
theorem Ext.pend (a : Ext C C' F H F' H') : Ext (fun b => C b ∨ P b) (fun b => C' b ∨ P b) F H F' H' :=
  ⟨a.sub, a.dom, fun x o h c => a.keep x o h fun z => c (.inl z), fun x h => (a.new x h).imp_right fun z => z.imp_right .inl, fun x h => h.elim (fun h => (a.cel x h).imp_left .inl) fun h => .inl (.inr h)⟩

/-! ### values on their way -/
def RvOk (R : Rc) (σ : L2.St) (env : Sl) (F H : Hp) : Rv → V → Prop
  | .sh d, v => Rep R F d v
  | .nw d, v => ∃ p, v = .ref p ∧ F p = none ∧ MuO R F H p d ∧ ¬ Cell σ env (false, p)
  | .sl i, v => σ[i]? = some (some v)
def Tmp : Rv → V → Tg2 → Prop
  | .nw _, v, b => v = .ref b.2
  | _, _, _ => False
def RvsOk (R : Rc) (σ : L2.St) (env : Sl) (F H : Hp) : List Rv → List V → Prop
  | [], vs => vs = []
  | r :: rs, vs => ∃ v ws, vs = v :: ws ∧ RvOk R σ env F H r v ∧ RvsOk R σ env F H rs ws ∧ ∀ b, Tmp r v b → ∀ (i : Nat) (r' : Rv) (v' : V), rs[i]? = some r' → ws[i]? = some v' → ¬ Tmp r' v' b
def Tmps (rs : List Rv) (vs : List V) (b : Tg2) : Prop := ∃ (i : Nat) (r : Rv) (v : V), rs[i]? = some r ∧ vs[i]? = some v ∧ Tmp r v b
variable {σ : L2.St} {env env' : Sl}
theorem RvOk.ext (a : Ext (Cell σ env) C' F H F' H') (hc : ∀ b, Cell σ env' b → C' b) : ∀ {r : Rv} {v : V}, RvOk R σ env F H r v → RvOk R σ env' F' H' r v
  | .sh d, v, h => Rep.mono a.sub d v h
  | .nw d, v, ⟨p, e, n, m, c⟩ => by
    obtain ⟨o, ho, _⟩ := m.some
    have c1 : ¬ Cell σ env (true, p) := fun z => c z.up
    obtain ⟨h1, h2, h3⟩ := a.stay ho n c1
    exact ⟨p, e, h2, m.mono a.sub fun o' h' => a.keep p o' h' c1, fun z => c (h3 _ (hc _ z))⟩
  | .sl i, v, h => h
theorem RvsOk.ext (a : Ext (Cell σ env) C' F H F' H') (hc : ∀ b, Cell σ env' b → C' b) : ∀ {rs : List Rv} {vs : List V}, RvsOk R σ env F H rs vs → RvsOk R σ env' F' H' rs vs
  | [], vs, h => h
  | r :: rs, vs, ⟨v, ws, e, h1, h2, h3⟩ => ⟨v, ws, e, h1.ext a hc, RvsOk.ext a hc h2, h3⟩
theorem Tmp.there : ∀ {r : Rv} {v : V} {b : Tg2}, RvOk R σ env F H r v → Tmp r v b → (∃ o, H b.2 = some o) ∧ F b.2 = none ∧ ¬ Cell σ env b
  | .nw d, v, (t, b), ⟨p, e, n, m, c⟩, tm => by
    have e' : p = b := by
      have tm : v = .ref b := tm
      rw [e] at tm
      exact V.ref.inj tm
    subst e'
    obtain ⟨o, ho, _⟩ := m.some
    exact ⟨⟨o, ho⟩, n, fun z => c z.up⟩
theorem RvsOk.length : ∀ {rs : List Rv} {vs : List V}, RvsOk R σ env F H rs vs → rs.length = vs.length
  | [], vs, h => by
    have h : vs = [] := h
    rw [h]; rfl
  | r :: rs, vs, ⟨v, ws, e, h1, h2, h3⟩ => by
    rw [e, List.length_cons, List.length_cons, RvsOk.length h2]
theorem RvsOk.get : ∀ {rs : List Rv} {vs : List V} {i : Nat} {r : Rv} {v : V}, RvsOk R σ env F H rs vs → rs[i]? = some r → vs[i]? = some v → RvOk R σ env F H r v
  | [], vs, i, r, v, h, e, _ => by simp at e
  | r' :: rs, vs, 0, r, v, ⟨v', ws, e, h1, h2, h3⟩, er, ev => by
    rw [e] at ev
    simp at er ev
    rw [← er, ← ev]; exact h1
  | r' :: rs, vs, i + 1, r, v, ⟨v', ws, e, h1, h2, h3⟩, er, ev => by
    rw [e] at ev
    exact RvsOk.get h2 (by simpa using er) (by simpa using ev)
theorem Tmps.there {rs : List Rv} {vs : List V} {b : Tg2} (h : RvsOk R σ env F H rs vs) (t : Tmps rs vs b) : (∃ o, H b.2 = some o) ∧ F b.2 = none ∧ ¬ Cell σ env b := by
  obtain ⟨i, r, v, e1, e2, t⟩ := t
  exact Tmp.there (h.get e1 e2) t
theorem Tmps.cons {r : Rv} {rs : List Rv} {v : V} {vs : List V} {b : Tg2} : Tmps (r :: rs) (v :: vs) b ↔ Tmp r v b ∨ Tmps rs vs b := by
  constructor
  · rintro ⟨i, r', v', e1, e2, t⟩
    cases i with
    | zero =>
      simp at e1 e2
      rw [← e1, ← e2] at t
      exact .inl t
    | succ i => exact .inr ⟨i, r', v', by simpa using e1, by simpa using e2, t⟩
  · rintro (t | ⟨i, r', v', e1, e2, t⟩)
    · exact ⟨0, r, v, rfl, rfl, t⟩
    · exact ⟨i + 1, r', v', by simpa using e1, by simpa using e2, t⟩
theorem Tmps.nil {vs : List V} {b : Tg2} : ¬ Tmps [] vs b := by
  rintro ⟨i, r, v, e1, _⟩
  simp at e1

/-! ### a slot's thing is never changed any more -/
theorem Cell.val {i : Nat} {d : D} {b : Tg2} (h : Cell σ (env.set i (.val d)) b) : Cell σ env b := by
  obtain ⟨j, k, d', e1, e2⟩ := h
  by_cases hj : i = j
  · subst hj
    by_cases hl : i < env.length
    · rw [List.getElem?_set_self hl] at e1; cases e1
    · rw [List.getElem?_eq_none (by simpa using hl)] at e1; cases e1
  · rw [List.getElem?_set_ne hj] at e1
    exact ⟨j, k, d', e1, e2⟩
theorem same_updF {p : Addr} {o : HO} (n : F p = none) : Same F (upd F p o) := fun b u e => by rw [upd_ne (ne_of_none e n)]; exact e
theorem StOk.freeze {i : Nat} {k : Kd} {d : D} (S : StOk R σ env F H) (h : env[i]? = some (.mu k d)) :
    ∃ F' p, σ[i]? = some (some (.ref p)) ∧ StOk R σ (env.set i (.val d)) F' H ∧ Rep R F' d (.ref p) ∧ Same F F' ∧ (∀ b, F' b ≠ none → F b ≠ none ∨ b = p) := by
  obtain ⟨p, e, n, m⟩ := S.mu i k d h
  obtain ⟨o, ho, _⟩ := m.some
  have sF : Same F (upd F p o) := same_updF n
  have hl : i < env.length := by
    by_cases hl : i < env.length
    · exact hl
    · rw [List.getElem?_eq_none (by simpa using hl)] at h; cases h
  have rp : Rep R (upd F p o) d (.ref p) := m.rep sF fun o' h' => by rw [ho] at h'; cases h'; exact upd_same
  refine ⟨upd F p o, p, e, ⟨by simpa using S.len, fun b u q => ?_, fun j d' q => ?_, fun j k' d' q => ?_, fun j j' k1 k2 d1 d2 p' q1 q2 q3 q4 => ?_⟩, rp, sF, fun b hb => ?_⟩
  · by_cases hb : b = p
    · subst hb; rw [upd_same] at q; cases q; exact ho
    · rw [upd_ne hb] at q; exact S.sub b u q
  · by_cases hj : i = j
    · subst hj
      rw [List.getElem?_set_self hl] at q
      cases q
      exact ⟨_, e, rp⟩
    · rw [List.getElem?_set_ne hj] at q
      obtain ⟨v, e1, r⟩ := S.val j d' q
      exact ⟨v, e1, Rep.mono sF _ _ r⟩
  · by_cases hj : i = j
    · subst hj
      rw [List.getElem?_set_self hl] at q; cases q
    · rw [List.getElem?_set_ne hj] at q
      obtain ⟨p', e1, n1, m1⟩ := S.mu j k' d' q
      have np : p' ≠ p := fun z => by
        subst z
        exact hj (S.ne i j k k' d d' p' h q e e1)
      exact ⟨p', e1, by rw [upd_ne np]; exact n1, m1.mono sF fun _ z => z⟩
  · by_cases hj : i = j
    · subst hj; rw [List.getElem?_set_self hl] at q1; cases q1
    · by_cases hj' : i = j'
      · subst hj'; rw [List.getElem?_set_self hl] at q2; cases q2
      · rw [List.getElem?_set_ne hj] at q1
        rw [List.getElem?_set_ne hj'] at q2
        exact S.ne _ _ _ _ _ _ _ q1 q2 q3 q4
  · by_cases hb' : b = p
    · exact .inr hb'
    · rw [upd_ne hb'] at hb; exact .inl hb
/-- a new thing is never changed any more -/
theorem StOk.freezeN {p : Addr} {d : D} (S : StOk R σ env F H) (n : F p = none) (m : MuO R F H p d) (c : ¬ Cell σ env (false, p)) :
    ∃ F', StOk R σ env F' H ∧ Rep R F' d (.ref p) ∧ Same F F' ∧ (∀ b, F' b ≠ none → F b ≠ none ∨ b = p) := by
  obtain ⟨o, ho, _⟩ := m.some
  have sF : Same F (upd F p o) := same_updF n
  have rp : Rep R (upd F p o) d (.ref p) := m.rep sF fun o' h' => by rw [ho] at h'; cases h'; exact upd_same
  refine ⟨upd F p o, ⟨S.len, fun b u q => ?_, fun j d' q => ?_, fun j k' d' q => ?_, S.ne⟩, rp, sF, fun b hb => ?_⟩
  · by_cases hb : b = p
    · subst hb; rw [upd_same] at q; cases q; exact ho
    · rw [upd_ne hb] at q; exact S.sub b u q
  · obtain ⟨v, e1, r⟩ := S.val j d' q
    exact ⟨v, e1, Rep.mono sF _ _ r⟩
  · obtain ⟨p', e1, n1, m1⟩ := S.mu j k' d' q
    have np : p' ≠ p := fun z => by
      subst z
      exact c ⟨j, k', d', q, e1, fun z => nomatch z⟩
    exact ⟨p', e1, by rw [upd_ne np]; exact n1, m1.mono sF fun _ z => z⟩
  · by_cases hb' : b = p
    · exact .inr hb'
    · rw [upd_ne hb'] at hb; exact .inl hb

theorem esc_ok {r : Rv} {v : V} {d : D} (S : StOk R σ env F H) (h : RvOk R σ env F H r v) (e : esc r env = some (d, env')) :
    ∃ F', StOk R σ env' F' H ∧ Rep R F' d v ∧ Ext (fun b => Cell σ env b ∨ Tmp r v b) (Cell σ env') F H F' H ∧ (∀ b, Cell σ env' b → Cell σ env b) ∧ (∀ b, F' b ≠ none → F b ≠ none ∨ Cell σ env (true, b) ∨ Tmp r v (true, b)) := by
  cases r with
  | sh d' =>
    simp only [esc, Option.some.injEq, Prod.mk.injEq] at e
    obtain ⟨rfl, rfl⟩ := e
    exact ⟨F, S, h, Ext.refl.mono (fun _ h => .inl h) (fun _ h => h), fun _ h => h, fun _ h => .inl h⟩
  | nw d' =>
    simp only [esc, Option.some.injEq, Prod.mk.injEq] at e
    obtain ⟨rfl, rfl⟩ := e
    obtain ⟨p, rfl, n, m, c⟩ := h
    obtain ⟨F', S', rp, sF, hn⟩ := S.freezeN n m c
    refine ⟨F', S', rp, ⟨sF, fun _ h => h, fun _ _ h _ => h, fun b hb => ?_, fun b hb => .inl (.inl hb)⟩, fun _ h => h, fun b hb => ?_⟩
    · rcases hn b hb with z | z
      · exact .inl z
      · subst z; exact .inr (.inr (.inr rfl))
    · rcases hn b hb with z | z
      · exact .inl z
      · subst z; exact .inr (.inr rfl)
  | sl i =>
    have h : σ[i]? = some (some v) := h
    simp only [esc] at e
    split at e
    · rename_i d' hi
      simp only [Option.some.injEq, Prod.mk.injEq] at e
      obtain ⟨rfl, rfl⟩ := e
      obtain ⟨F', p, e1, S', rp, sF, hn⟩ := S.freeze hi
      rw [h] at e1
      cases e1
      refine ⟨F', S', rp, ⟨sF, fun _ h => h, fun _ _ h _ => h, fun b hb => ?_, fun b hb => .inl (.inl hb.val)⟩, fun _ h => h.val, fun b hb => ?_⟩
      · rcases hn b hb with z | z
        · exact .inl z
        · subst z; exact .inr (.inr (.inl ⟨i, _, _, hi, h, fun _ z => nomatch z⟩))
      · rcases hn b hb with z | z
        · exact .inl z
        · subst z; exact .inr (.inl ⟨i, _, _, hi, h, fun _ z => nomatch z⟩)
    · rename_i d' hi
      simp only [Option.some.injEq, Prod.mk.injEq] at e
      obtain ⟨rfl, rfl⟩ := e
      obtain ⟨v', e1, rp⟩ := S.val i _ hi
      rw [h] at e1
      cases e1
      exact ⟨F, S, rp, Ext.refl.mono (fun _ h => .inl h) (fun _ h => h), fun _ h => h, fun _ h => .inl h⟩
    · cases e
/-- the others on their way stay what they are -/
theorem RvsOk.esc {r : Rv} {v : V} {rs : List Rv} {vs : List V} (h : RvsOk R σ env F H rs vs) (sF : Same F F') (hc : ∀ b, Cell σ env' b → Cell σ env b)
    (hn : ∀ b, F' b ≠ none → F b ≠ none ∨ Cell σ env (true, b) ∨ Tmp r v (true, b)) (hd : ∀ b, Tmp r v b → ∀ (i : Nat) (r' : Rv) (v' : V), rs[i]? = some r' → vs[i]? = some v' → ¬ Tmp r' v' b) : RvsOk R σ env' F' H rs vs := by
  have one : ∀ {r' : Rv} {v' : V}, RvOk R σ env F H r' v' → (∀ b, Tmp r v b → ¬ Tmp r' v' b) → RvOk R σ env' F' H r' v' := fun {r' v'} q t => by
    cases r' with
    | sh d => exact Rep.mono sF d v' q
    | nw d =>
      obtain ⟨p, e, n, m, c⟩ := q
      refine ⟨p, e, ?_, m.mono sF fun _ z => z, fun z => c (hc _ z)⟩
      cases z : F' p with
      | none => rfl
      | some u =>
        rcases hn p (by rw [z]; exact fun z => nomatch z) with z | z | z
        · exact absurd n z
        · exact absurd z.up c
        · exact absurd e (t _ z)
    | sl i => exact q
  induction rs generalizing vs with
  | nil => exact h
  | cons r1 rs ih =>
    obtain ⟨v1, ws, e, h1, h2, h3⟩ := h
    subst e
    exact ⟨v1, ws, rfl, one h1 fun b t => hd b t 0 r1 v1 rfl rfl, ih h2 fun b t i r' v' e1 e2 => hd b t (i + 1) r' v' (by simpa using e1) (by simpa using e2), h3⟩
theorem escs_ok : ∀ {rs : List Rv} {vs : List V} {ds : List D} {env env' : Sl} {F : Hp}, StOk R σ env F H → RvsOk R σ env F H rs vs → escs rs env = some (ds, env') →
    ∃ F', StOk R σ env' F' H ∧ Reps R F' ds vs ∧ Ext (fun b => Cell σ env b ∨ Tmps rs vs b) (Cell σ env') F H F' H
  | [], vs, ds, env, env', F, S, h, e => by
    simp only [escs, Option.some.injEq, Prod.mk.injEq] at e
    obtain ⟨rfl, rfl⟩ := e
    have h : vs = [] := h
    subst h
    exact ⟨F, S, Reps.nil, Ext.refl.mono (fun _ h => .inl h) (fun _ h => h)⟩
  | r :: rs, vs, ds, env, env', F, S, h, e => by
    obtain ⟨v, ws, e1, h1, h2, h3⟩ := h
    subst e1
    simp only [escs, Option.bind_eq_some_iff, Option.some.injEq, Prod.exists, Prod.mk.injEq] at e
    obtain ⟨d1, env1, e1, ds1, env2, e2, rfl, rfl⟩ := e
    obtain ⟨F1, S1, r1, x1, hc, hn⟩ := esc_ok S h1 e1
    obtain ⟨F2, S2, r2, x2⟩ := escs_ok S1 (h2.esc x1.sub hc hn h3) e2
    refine ⟨F2, S2, Reps.cons (Rep.mono x2.sub _ _ r1) r2, ?_⟩
    refine (Ext.trans (C' := fun b => Cell σ env1 b ∨ Tmps rs ws b) ((x1.pend (P := Tmps rs ws)).mono (fun b z => z.elim (fun z => z.elim .inl fun z => .inr (Tmps.cons.mpr (.inl z))) fun z => .inr (Tmps.cons.mpr (.inr z))) (fun b z => z)) x2)
theorem rd_ok {r : Rv} {v : V} {d : D} (S : StOk R σ env F H) (h : RvOk R σ env F H r v) (e : rd r env = some d) : RdOk R F H d v := by
  cases r with
  | sh d' =>
    simp only [rd, Option.some.injEq] at e
    subst e
    exact Rep.rd S.sub h
  | nw d' =>
    simp only [rd, Option.some.injEq] at e
    subst e
    obtain ⟨p, rfl, n, m, c⟩ := h
    exact m.rd
  | sl i =>
    have h : σ[i]? = some (some v) := h
    simp only [rd] at e
    split at e
    · rename_i k d' hi
      simp only [Option.some.injEq] at e
      subst e
      obtain ⟨p, e1, n, m⟩ := S.mu i _ _ hi
      rw [h] at e1
      cases e1
      exact m.rd
    · rename_i d' hi
      simp only [Option.some.injEq] at e
      subst e
      obtain ⟨v', e1, rp⟩ := S.val i _ hi
      rw [h] at e1
      cases e1
      exact Rep.rd S.sub rp
    · cases e
end RE
set_option Elab.async false
set_option linter.all false
set_option maxRecDepth 100000
/-! Expressions: what the model does is what the evaluator says. -/
namespace RE
open PySem PySem.Spec PyProof.Rows L2
variable {R : Rc} {F F' F1 F2 H H' H1 H2 : Hp} {σ : L2.St} {env env' : Sl}

abbrev Fv := Sl → Option (Rv × Sl)
def tV (R : Rc) (f : Fv) : TE := fun σ H Q => ∃ env F rv env', StOk R σ env F H ∧ f env = some (rv, env') ∧
  ∀ v F' H', StOk R σ env' F' H' → Ext (Cell σ env) (fun b => Cell σ env' b ∨ Tmp rv v b) F H F' H' → RvOk R σ env' F' H' rv v → Q v H'
def tVs (R : Rc) (f : Sl → Option (List Rv × Sl)) : TA := fun σ H Q => ∃ env F rvs env', StOk R σ env F H ∧ f env = some (rvs, env') ∧
  ∀ vs F' H', StOk R σ env' F' H' → Ext (Cell σ env) (fun b => Cell σ env' b ∨ Tmps rvs vs b) F H F' H' → RvsOk R σ env' F' H' rvs vs → Q vs H'
def tTst (R : Rc) (f : Sl → Option (Bool × Sl)) : TT := fun σ H Q => ∃ env F b env', StOk R σ env F H ∧ f env = some (b, env') ∧
  ∀ F' H', StOk R σ env' F' H' → Ext (Cell σ env) (Cell σ env') F H F' H' → Q b H'
def tOp' (R : Rc) (f : Sl → Option (Option Int × Sl)) : TO := fun σ H Q => ∃ env F b env', StOk R σ env F H ∧ f env = some (b, env') ∧
  ∀ F' H', StOk R σ env' F' H' → Ext (Cell σ env) (Cell σ env') F H F' H' → Q b H'

/-- weaker readings -/
theorem PE.of {X : Cx} {e : Expr} {t t' : TE} (h : PE X e t) (i : ∀ σ H Q, t' σ H Q → t σ H Q) : PE X e t' := ⟨fun pins s σ H Q I hw => h.run pins s σ H Q I (i _ _ _ hw)⟩
theorem PT.of {X : Cx} {e : Expr} {t t' : TT} (h : PT X e t) (i : ∀ σ H Q, t' σ H Q → t σ H Q) : PT X e t' := ⟨fun pins s σ H Q I hw => h.run pins s σ H Q I (i _ _ _ hw)⟩
theorem PA.of {X : Cx} {e : List Expr} {t t' : TA} (h : PA X e t) (i : ∀ σ H Q, t' σ H Q → t σ H Q) : PA X e t' := ⟨fun pos pins s σ H Q I hw => h.run pos pins s σ H Q I (i _ _ _ hw)⟩
theorem PO.of {X : Cx} {e : Option Expr} {t t' : TO} (h : PO X e t) (i : ∀ σ H Q, t' σ H Q → t σ H Q) : PO X e t' := ⟨fun pins s σ H Q I hw => h.run pins s σ H Q I (i _ _ _ hw)⟩

/-! ### the ghost's steps -/
theorem Ext.id (sF : Same F F') (h : ∀ b, F' b ≠ none → F b ≠ none) {C : Tg2 → Prop} : Ext C C F H F' H := ⟨sF, fun _ h => h, fun _ _ h _ => h, fun b hb => .inl (h b hb), fun _ h => .inl h⟩
theorem same_upd' {p : Addr} {o : HO} (h : H p = none) : Same H (upd H p o) := fun b u e => by rw [upd_ne (ne_of_none e h)]; exact e
/-- behind something that changed other cells -/
theorem same_none (s : Same H H') : ∀ b, H' b = none → H b = none := fun b h => by
  cases q : H b with
  | none => rfl
  | some o => rw [s b o q] at h; cases h
theorem StOk.ext {C C' : Tg2 → Prop} (S : StOk R σ env F H) (x : Ext C C' F H F' H') (hc : ∀ b, Cell σ env (false, b) → ¬ C (true, b)) (sub : Same F' H') : StOk R σ env F' H' where
  len := S.len
  sub := sub
  val := fun i d e => by
    obtain ⟨v, e1, r⟩ := S.val i d e
    exact ⟨v, e1, Rep.mono x.sub _ _ r⟩
  mu := fun i k d e => by
    obtain ⟨p, e1, n, m⟩ := S.mu i k d e
    obtain ⟨o, ho, _⟩ := m.some
    have c := hc p ⟨i, k, d, e, e1, fun z => nomatch z⟩
    obtain ⟨h1, h2, _⟩ := x.stay ho n c
    exact ⟨p, e1, h2, m.mono x.sub fun o' h' => x.keep p o' h' c⟩
  ne := S.ne
/-- a new thing laid -/
theorem StOk.laid {p : Addr} {o : HO} (S : StOk R σ env F H) (n : H p = none) : StOk R σ env F (upd H p o) ∧ Ext (Cell σ env) (fun b => Cell σ env b ∨ b.2 = p) F H F (upd H p o) ∧ F p = none ∧ ¬ Cell σ env (false, p) := by
  have sH : Same H (upd H p o) := same_upd' n
  have nc : ¬ Cell σ env (false, p) := fun ⟨i, k, d, e1, e2, _⟩ => by
    obtain ⟨p', e3, _, m⟩ := S.mu i k d e1
    rw [e2] at e3
    cases e3
    obtain ⟨o, ho, _⟩ := m.some
    rw [n] at ho; cases ho
  have nF : F p = none := by
    cases q : F p with
    | none => rfl
    | some u => have := S.sub p u q; rw [n] at this; cases this
  refine ⟨⟨S.len, S.sub.trans sH, S.val, fun i k d e => ?_, S.ne⟩, ⟨Same.refl _, same_none sH, fun b u e _ => sH b u e, fun _ h => .inl h, fun b h => h.imp_right fun e => by rw [e]; exact n⟩, nF, nc⟩
  obtain ⟨p', e1, n1, m⟩ := S.mu i k d e
  exact ⟨p', e1, n1, m.mono (Same.refl _) fun o' h' => sH _ _ h'⟩
/-- a new thing laid that is never changed -/
theorem StOk.laidF {p : Addr} {o : HO} (S : StOk R σ env F H) (n : H p = none) : StOk R σ env (upd F p o) (upd H p o) ∧ Ext (Cell σ env) (Cell σ env) F H (upd F p o) (upd H p o) ∧ Same F (upd F p o) := by
  obtain ⟨S1, x1, nF, nc⟩ := S.laid (o := o) n
  have sF : Same F (upd F p o) := same_updF nF
  refine ⟨⟨S.len, fun b u e => ?_, fun i d e => ?_, fun i k d e => ?_, S.ne⟩, ⟨sF, same_none (same_upd' n), fun b u e _ => same_upd' n b u e, fun b hb => ?_, fun b h => .inl h⟩, sF⟩
  · by_cases hb : b = p
    · subst hb; rw [upd_same] at e ⊢; exact e
    · rw [upd_ne hb] at e ⊢; exact S.sub b u e
  · obtain ⟨v, e1, r⟩ := S.val i d e
    exact ⟨v, e1, Rep.mono sF _ _ r⟩
  · obtain ⟨p', e1, n1, m⟩ := S1.mu i k d e
    have np : p' ≠ p := fun z => by subst z; exact nc ⟨i, k, d, e, e1, fun z => nomatch z⟩
    exact ⟨p', e1, by rw [upd_ne np]; exact n1, m.mono sF fun _ z => z⟩
  · by_cases h : b = p
    · subst h; exact .inr (.inl n)
    · rw [upd_ne h] at hb; exact .inl hb

/-! ### results of operations on values: what is left to be shown of a value r -/
/-- from F, H the result r is v: scalars and what never changes, or a new thing; nothing that stood is touched -/
def Res (R : Rc) (F H : Hp) (r : Rv) (Q : VK) : Prop := ∀ v F' H', Same F F' → Same F' H' → Same H H' → (∀ b, F' b ≠ none → F b ≠ none ∨ H b = none) →
  (match r with
    | .sh d => Rep R F' d v
    | .nw d => ∃ p, v = .ref p ∧ F' p = none ∧ H p = none ∧ MuO R F' H' p d
    | .sl _ => False) → Q v H'
/-- the same, as the end of an expression -/
theorem Res.fin {Q : VK} {r : Rv} (S : StOk R σ env F H)
    (q : ∀ v F' H', StOk R σ env F' H' → Ext (Cell σ env) (fun b => Cell σ env b ∨ Tmp r v b) F H F' H' → RvOk R σ env F' H' r v → Q v H') : Res R F H r Q := by
  intro v F' H' sF sub sH hn hr
  have x : Ext (fun _ => False) (fun b => Tmp r v b) F H F' H' := by
    refine ⟨sF, same_none sH, fun b o e _ => sH b o e, fun b hb => (hn b hb).imp_right .inl, fun b hb => ?_⟩
    cases r with
    | sh d => exact hb.elim
    | nw d =>
      obtain ⟨p, e, _, n, _⟩ := hr
      have e' : v = .ref b.2 := hb
      rw [e] at e'
      cases e'
      exact .inr n
    | sl i => exact hr.elim
  refine q v F' H' (S.ext x (fun _ _ z => z) sub) ((x.pend (P := Cell σ env)).mono (fun b z => z.elim False.elim fun z => z) fun b z => z.symm) ?_
  cases r with
  | sh d => exact hr
  | nw d =>
    obtain ⟨p, e, nF, n, m⟩ := hr
    refine ⟨p, e, nF, m, fun ⟨i, k, d', e1, e2, _⟩ => ?_⟩
    obtain ⟨p', e3, _, m'⟩ := S.mu i k d' e1
    rw [e2] at e3
    cases e3
    obtain ⟨o, ho, _⟩ := m'.some
    rw [n] at ho; cases ho
  | sl i => exact hr.elim
theorem Res.scal {Q : VK} {d : D} {v : V} (h : Rep R F d v) (s : Same F H) (q : Res R F H (.sh d) Q) : Q v H :=
  q v F H (Same.refl _) s (Same.refl _) (fun _ h => .inl h) h
theorem Res.tup {Q : VK} {ds : List D} {xs : List V} (s : Same F H) (h : Reps R F ds xs) (q : Res R F H (.sh (.tup ds)) Q) : ∀ p, H p = none → Q (.ref p) (upd H p (.tup xs)) := by
  intro p n
  have nF : F p = none := by
    cases z : F p with
    | none => rfl
    | some u => have := s p u z; rw [n] at this; cases this
  refine q (.ref p) (upd F p (.tup xs)) (upd H p (.tup xs)) (same_updF nF) (fun b u e => ?_) (same_upd' n) (fun b hb => ?_) ?_
  · by_cases hb : b = p
    · subst hb; rw [upd_same] at e ⊢; exact e
    · rw [upd_ne hb] at e ⊢; exact s b u e
  · by_cases h : b = p
    · subst h; exact .inr n
    · rw [upd_ne h] at hb; exact .inl hb
  · show Rep R _ (.tup ds) _
    simp only [Rep]
    exact ⟨p, xs, rfl, .of upd_same, Reps.mono (same_updF nF) _ _ h⟩
theorem Res.lst {Q : VK} {ds : List D} {xs : List V} (s : Same F H) (h : Reps R F ds xs) (q : Res R F H (.nw (.lst ds)) Q) : ∀ p, H p = none → Q (.ref p) (upd H p (.lst xs)) := by
  intro p n
  have nF : F p = none := by
    cases z : F p with
    | none => rfl
    | some u => have := s p u z; rw [n] at this; cases this
  exact q (.ref p) F (upd H p (.lst xs)) (Same.refl _) (s.trans (same_upd' n)) (same_upd' n) (fun _ h => .inl h) ⟨p, rfl, nF, n, xs, upd_same, h⟩

/-- the reading of an operation f on two values -/
def rOp (R : Rc) (f : D → D → Option Rv) : R2 := fun x y H Q => ∃ F a b r, Same F H ∧ RdOk R F H a x ∧ RdOk R F H b y ∧ f a b = some r ∧ Res R F H r Q
def rUn (R : Rc) (f : D → Option Rv) : V → Hp → VK → Prop := fun x H Q => ∃ F a r, Same F H ∧ RdOk R F H a x ∧ f a = some r ∧ Res R F H r Q

/-- two operands, then the operation -/
theorem tV_op {f : D → D → Option Rv} {a b : Fv} {Q : VK} (h : tV R (vOp f a b) σ H Q) : tOp (rOp R f) (tV R a) (tV R b) σ H Q := by
  obtain ⟨env, F, rv, env', S, e, q⟩ := h
  simp only [vOp, Option.bind_eq_some_iff, Prod.exists, Option.some.injEq, Prod.mk.injEq] at e
  obtain ⟨ra, env1, e1, rb, env2, e2, x, e3, y, e4, r, e5, e6, e7⟩ := e
  subst e6; subst e7
  refine ⟨env, F, ra, env1, S, e1, fun va F1 H1 S1 x1 r1 => ⟨env1, F1, rb, env2, S1, e2, fun vb F2 H2 S2 x2 r2 => ?_⟩⟩
  have r1' : RvOk R σ env2 F2 H2 ra va := r1.ext x2 fun _ z => .inl z
  refine ⟨F2, x, y, r, S2.sub, rd_ok S2 r1' e3, rd_ok S2 r2 e4, e5, Res.fin S2 fun v F' H' S3 x3 r3 => q v F' H' S3 ?_ r3⟩
  have y1 : Ext (Cell σ env) (Cell σ env1) F H F1 H1 := x1.mono (fun _ z => z) fun _ z => .inl z
  have y2 : Ext (Cell σ env1) (Cell σ env2) F1 H1 F2 H2 := x2.mono (fun _ z => z) fun _ z => .inl z
  exact (y1.trans y2).trans x3
theorem tV_un {f : D → Option Rv} {a : Fv} {Q : VK} (h : tV R (vUn f a) σ H Q) : tUn (rUn R f) (tV R a) σ H Q := by
  obtain ⟨env, F, rv, env', S, e, q⟩ := h
  simp only [vUn, Option.bind_eq_some_iff, Prod.exists, Option.some.injEq, Prod.mk.injEq] at e
  obtain ⟨ra, env1, e1, x, e3, r, e5, e6, e7⟩ := e
  subst e6; subst e7
  refine ⟨env, F, ra, env1, S, e1, fun va F1 H1 S1 x1 r1 => ?_⟩
  refine ⟨F1, x, r, S1.sub, rd_ok S1 r1 e3, e5, Res.fin S1 fun v F' H' S3 x3 r3 => q v F' H' S3 ?_ r3⟩
  exact (x1.mono (D1 := Cell σ env1) (fun _ z => z) fun _ z => .inl z).trans x3
theorem tV_const {d : D} {v : V} {Q : VK} (hd : ∀ F, Rep R F d v) (h : tV R (fun env => some (.sh d, env)) σ H Q) : Q v H := by
  obtain ⟨env, F, rv, env', S, e, q⟩ := h
  simp only [Option.some.injEq, Prod.mk.injEq] at e
  obtain ⟨rfl, rfl⟩ := e
  exact q v F H S (Ext.refl.mono (fun _ z => z) fun b z => z.elim (fun z => z) False.elim) (hd F)
theorem tV_name {i : Nat} {Q : VK} (h : tV R (vName i) σ H Q) : tVar i σ H Q := by
  obtain ⟨env, F, rv, env', S, e, q⟩ := h
  simp only [vName] at e
  split at e
  · rename_i d hi
    simp only [Option.some.injEq, Prod.mk.injEq] at e
    obtain ⟨rfl, rfl⟩ := e
    obtain ⟨v, e1, r⟩ := S.val i d hi
    exact ⟨v, e1, q v F H S (Ext.refl.mono (fun _ z => z) fun b z => z.elim (fun z => z) False.elim) r⟩
  · rename_i k d hi
    simp only [Option.some.injEq, Prod.mk.injEq] at e
    obtain ⟨rfl, rfl⟩ := e
    obtain ⟨p, e1, n, m⟩ := S.mu i k d hi
    exact ⟨_, e1, q _ F H S (Ext.refl.mono (fun _ z => z) fun b z => z.elim (fun z => z) False.elim) e1⟩
  · cases e

/-! ### argument lists -/
theorem tVs_nil {Q : List V → Hp → Prop} (h : tVs R (fun env => some ([], env)) σ H Q) : tNil σ H Q := by
  obtain ⟨env, F, rv, env', S, e, q⟩ := h
  simp only [Option.some.injEq, Prod.mk.injEq] at e
  obtain ⟨rfl, rfl⟩ := e
  exact q [] F H S (Ext.refl.mono (fun _ z => z) fun b z => z.elim (fun z => z) fun z => absurd z Tmps.nil) rfl
theorem tVs_cons {f : Fv} {g : Sl → Option (List Rv × Sl)} {Q : List V → Hp → Prop}
    (h : tVs R (fun env => (f env).bind fun p => (g p.2).bind fun q => some (p.1 :: q.1, q.2)) σ H Q) : tCons (tV R f) (tVs R g) σ H Q := by
  obtain ⟨env, F, rv, env', S, e, q⟩ := h
  simp only [Option.bind_eq_some_iff, Prod.exists, Option.some.injEq, Prod.mk.injEq] at e
  obtain ⟨ra, env1, e1, rs, env2, e2, e3, e4⟩ := e
  subst e3; subst e4
  refine ⟨env, F, ra, env1, S, e1, fun va F1 H1 S1 x1 r1 => ⟨env1, F1, rs, env2, S1, e2, fun vs F2 H2 S2 x2 r2 => ?_⟩⟩
  have r1' : RvOk R σ env2 F2 H2 ra va := r1.ext x2 fun _ z => .inl z
  refine q (va :: vs) F2 H2 S2 ?_ ⟨va, vs, rfl, r1', r2, fun b t i r' v' er ev t' => ?_⟩
  · have y2 : Ext (fun b => Cell σ env1 b ∨ Tmp ra va b) (fun b => (Cell σ env2 b ∨ Tmps rs vs b) ∨ Tmp ra va b) F1 H1 F2 H2 := x2.pend
    refine (x1.trans y2).mono (fun _ z => z) fun b z => ?_
    rcases z with z | z
    · exact .inl (.inl z)
    · rcases Tmps.cons.mp z with z | z
      · exact .inr z
      · exact .inl (.inr z)
  · -- the first one's thing was there ahead of the others
    obtain ⟨⟨o, ho⟩, n, c⟩ := Tmp.there r1 t
    rcases x2.cel b (.inr ⟨i, r', v', er, ev, t'⟩) with z | z
    · exact c z
    · have z : H1 b.2 = none := z
      rw [ho] at z; cases z
/-- displays -/
theorem tV_tup {g : Sl → Option (List Rv × Sl)} {Q : VK} (h : tV R (vTup g) σ H Q) : tTup (tVs R g) σ H Q := by
  obtain ⟨env, F, rv, env', S, e, q⟩ := h
  simp only [vTup, Option.bind_eq_some_iff, Prod.exists] at e
  obtain ⟨rs, env1, e1, ds, env2, e2, e3⟩ := e
  split at e3
  · rename_i hl
    simp only [Option.some.injEq, Prod.mk.injEq] at e3
    obtain ⟨rfl, rfl⟩ := e3
    refine ⟨env, F, rs, env1, S, e1, fun vs F1 H1 S1 x1 r1 => ?_⟩
    obtain ⟨F2, S2, rp, x2⟩ := escs_ok S1 r1 e2
    refine ⟨?_, Res.tup S2.sub rp (Res.fin S2 fun v F' H' S3 x3 r3 => q v F' H' S3 ((x1.trans x2).trans x3) r3)⟩
    rw [← rp.length, sizeLine_eq]
    exact of_decide_eq_true hl
  · cases e3
theorem tV_lst {g : Sl → Option (List Rv × Sl)} {Q : VK} (h : tV R (vLst g) σ H Q) : tLst (tVs R g) σ H Q := by
  obtain ⟨env, F, rv, env', S, e, q⟩ := h
  simp only [vLst, Option.bind_eq_some_iff, Prod.exists] at e
  obtain ⟨rs, env1, e1, ds, env2, e2, e3⟩ := e
  split at e3
  · rename_i hl
    simp only [Option.some.injEq, Prod.mk.injEq] at e3
    obtain ⟨rfl, rfl⟩ := e3
    refine ⟨env, F, rs, env1, S, e1, fun vs F1 H1 S1 x1 r1 => ?_⟩
    obtain ⟨F2, S2, rp, x2⟩ := escs_ok S1 r1 e2
    refine ⟨?_, Res.lst S2.sub rp (Res.fin S2 fun v F' H' S3 x3 r3 => q v F' H' S3 ((x1.trans x2).trans x3) r3)⟩
    rw [← rp.length, sizeLine_eq]
    exact of_decide_eq_true hl
  · cases e3
theorem rds_ok : ∀ {rs : List Rv} {vs : List V} {ds : List D}, StOk R σ env F H → RvsOk R σ env F H rs vs → rds rs env = some ds → Paired (RdOk R F H) ds vs
  | [], vs, ds, S, h, e => by
    simp only [rds, Option.some.injEq] at e
    have h : vs = [] := h
    subst e; subst h
    exact .nil
  | r :: rs, vs, ds, S, ⟨v, ws, e1, h1, h2, _⟩, e => by
    simp only [rds, Option.bind_eq_some_iff, Option.some.injEq] at e
    obtain ⟨d, e2, ds', e3, rfl⟩ := e
    subst e1
    exact .cons (rd_ok S h1 e2) (rds_ok S h2 e3)
def rBi (R : Rc) (b : Bi) : List V → Hp → VK → Prop := fun xs H Q => ∃ F ds r, Same F H ∧ Paired (RdOk R F H) ds xs ∧ biD b ds = some r ∧ Res R F H r Q
theorem tV_bi {b : Bi} {g : Sl → Option (List Rv × Sl)} {Q : VK} (h : tV R (vBi b g) σ H Q) : tVs R g σ H fun vs H1 => rBi R b vs H1 Q := by
  obtain ⟨env, F, rv, env', S, e, q⟩ := h
  simp only [vBi, Option.bind_eq_some_iff, Prod.exists, Option.some.injEq, Prod.mk.injEq] at e
  obtain ⟨rs, env1, e1, ds, e2, r, e3, e4, e5⟩ := e
  subst e4; subst e5
  refine ⟨env, F, rs, env1, S, e1, fun vs F1 H1 S1 x1 r1 => ⟨F1, ds, r, S1.sub, rds_ok S1 r1 e2, e3, Res.fin S1 fun v F' H' S3 x3 r3 => q v F' H' S3 ?_ r3⟩⟩
  exact (x1.mono (D1 := Cell σ env1) (fun _ z => z) fun _ z => .inl z).trans x3

/-! ### tests -/
theorem tTst_tru {f : Fv} {Q : Bool → Hp → Prop} (h : tTst R (tru f) σ H Q) : tV R f σ H fun x H' => ∃ k, TruV R.K x H' k ∧ Q k H' := by
  obtain ⟨env, F, b, env', S, e, q⟩ := h
  simp only [tru, Option.bind_eq_some_iff, Prod.exists, Option.some.injEq, Prod.mk.injEq] at e
  obtain ⟨r, env1, e1, d, e2, k, e3, e4, e5⟩ := e
  subst e4; subst e5
  refine ⟨env, F, r, env1, S, e1, fun v F1 H1 S1 x1 r1 => ⟨k, ?_, q F1 H1 S1 (x1.mono (fun _ z => z) fun _ z => .inl z)⟩⟩
  have rr := rd_ok S1 r1 e2
  cases d with
  | non => 
    simp only [RdOk, Rep] at rr
    subst rr
    simp only [truD, Option.some.injEq] at e3
    exact e3.symm
  | bl c =>
    simp only [RdOk, Rep] at rr
    subst rr
    simp only [truD, Option.some.injEq] at e3
    exact e3.symm
  | int i =>
    simp only [RdOk, Rep] at rr
    subst rr
    simp only [truD, Option.some.injEq] at e3
    exact e3.symm
  | str x => cases e3
  | set x => cases e3
  | tup ds =>
    simp only [RdOk, Rep] at rr
    obtain ⟨a, xs, rfl, s, rp⟩ := rr
    have s := sqT_same S1.sub s
    simp only [truD, Option.some.injEq] at e3
    refine .inr (.inl ⟨xs, s, ?_⟩)
    rw [← e3]
    have hl := rp.length
    cases ds <;> cases xs <;> simp_all
  | lst ds =>
    obtain ⟨a, xs, rfl, s, rp⟩ := rr
    simp only [truD, Option.some.injEq] at e3
    refine .inl ⟨xs, s, ?_⟩
    rw [← e3]
    have hl := rp.length
    cases ds <;> cases xs <;> simp_all
  | ins c fs ds => cases e3
theorem tTst_not {f : Sl → Option (Bool × Sl)} {Q : Bool → Hp → Prop} (h : tTst R (vNot f) σ H Q) : tNot (tTst R f) σ H Q := by
  obtain ⟨env, F, b, env', S, e, q⟩ := h
  simp only [vNot, Option.bind_eq_some_iff, Prod.exists, Option.some.injEq, Prod.mk.injEq] at e
  obtain ⟨c, env1, e1, e2, e3⟩ := e
  subst e2; subst e3
  exact ⟨env, F, c, env1, S, e1, fun F1 H1 S1 x1 => q F1 H1 S1 x1⟩
theorem tTst_and {f g : Sl → Option (Bool × Sl)} {Q : Bool → Hp → Prop} (h : tTst R (tAnd2 f g) σ H Q) : tAnd (tTst R f) (tTst R g) σ H Q := by
  obtain ⟨env, F, b, env', S, e, q⟩ := h
  simp only [tAnd2, Option.bind_eq_some_iff, Prod.exists] at e
  obtain ⟨c, env1, e1, e2⟩ := e
  refine ⟨env, F, c, env1, S, e1, fun F1 H1 S1 x1 => ?_⟩
  cases c with
  | true =>
    rw [if_pos rfl] at e2 ⊢
    exact ⟨env1, F1, b, env', S1, e2, fun F2 H2 S2 x2 => q F2 H2 S2 (x1.trans x2)⟩
  | false =>
    rw [if_neg Bool.false_ne_true] at e2 ⊢
    simp only [Option.some.injEq, Prod.mk.injEq] at e2
    obtain ⟨rfl, rfl⟩ := e2
    exact q F1 H1 S1 x1
theorem tTst_or {f g : Sl → Option (Bool × Sl)} {Q : Bool → Hp → Prop} (h : tTst R (tOr2 f g) σ H Q) : tOr (tTst R f) (tTst R g) σ H Q := by
  obtain ⟨env, F, b, env', S, e, q⟩ := h
  simp only [tOr2, Option.bind_eq_some_iff, Prod.exists] at e
  obtain ⟨c, env1, e1, e2⟩ := e
  refine ⟨env, F, c, env1, S, e1, fun F1 H1 S1 x1 => ?_⟩
  cases c with
  | false =>
    rw [if_neg Bool.false_ne_true] at e2 ⊢
    exact ⟨env1, F1, b, env', S1, e2, fun F2 H2 S2 x2 => q F2 H2 S2 (x1.trans x2)⟩
  | true =>
    rw [if_pos rfl] at e2 ⊢
    simp only [Option.some.injEq, Prod.mk.injEq] at e2
    obtain ⟨rfl, rfl⟩ := e2
    exact q F1 H1 S1 x1
theorem tV_and {f g : Fv} {Q : VK} (h : tV R (vAnd2 f g) σ H Q) : tAndV (tV R f) (tV R g) σ H Q := by
  obtain ⟨env, F, r, env', S, e, q⟩ := h
  simp only [vAnd2, Option.bind_eq_some_iff, Prod.exists] at e
  obtain ⟨c, env1, e1, e2⟩ := e
  split at e2
  · rename_i b
    refine ⟨env, F, _, env1, S, e1, fun v F1 H1 S1 x1 r1 => ?_⟩
    have x1' : Ext (Cell σ env) (Cell σ env1) F H F1 H1 := x1.mono (fun _ z => z) fun _ z => .inl z
    have r1 : Rep R F1 (.bl b) v := r1
    simp only [Rep] at r1
    subst r1
    refine ⟨b, rfl, ?_⟩
    cases b with
    | true =>
      rw [if_pos rfl] at e2 ⊢
      exact ⟨env1, F1, r, env', S1, e2, fun v2 F2 H2 S2 x2 r2 => q v2 F2 H2 S2 (x1'.trans x2) r2⟩
    | false =>
      rw [if_neg Bool.false_ne_true] at e2 ⊢
      simp only [Option.some.injEq, Prod.mk.injEq] at e2
      obtain ⟨rfl, rfl⟩ := e2
      exact q _ F1 H1 S1 x1 (by show Rep R F1 (.bl false) _; simp only [Rep])
  · cases e2
theorem tV_or {f g : Fv} {Q : VK} (h : tV R (vOr2 f g) σ H Q) : tOrV (tV R f) (tV R g) σ H Q := by
  obtain ⟨env, F, r, env', S, e, q⟩ := h
  simp only [vOr2, Option.bind_eq_some_iff, Prod.exists] at e
  obtain ⟨c, env1, e1, e2⟩ := e
  split at e2
  · rename_i b
    refine ⟨env, F, _, env1, S, e1, fun v F1 H1 S1 x1 r1 => ?_⟩
    have x1' : Ext (Cell σ env) (Cell σ env1) F H F1 H1 := x1.mono (fun _ z => z) fun _ z => .inl z
    have r1 : Rep R F1 (.bl b) v := r1
    simp only [Rep] at r1
    subst r1
    refine ⟨b, rfl, ?_⟩
    cases b with
    | false =>
      rw [if_neg Bool.false_ne_true] at e2 ⊢
      exact ⟨env1, F1, r, env', S1, e2, fun v2 F2 H2 S2 x2 r2 => q v2 F2 H2 S2 (x1'.trans x2) r2⟩
    | true =>
      rw [if_pos rfl] at e2 ⊢
      simp only [Option.some.injEq, Prod.mk.injEq] at e2
      obtain ⟨rfl, rfl⟩ := e2
      exact q _ F1 H1 S1 x1 (by show Rep R F1 (.bl true) _; simp only [Rep])
  · cases e2
theorem tV_if {c : Sl → Option (Bool × Sl)} {f g : Fv} {Q : VK} (h : tV R (vIf c f g) σ H Q) : L2.tIf (tTst R c) (tV R f) (tV R g) σ H Q := by
  obtain ⟨env, F, r, env', S, e, q⟩ := h
  simp only [vIf, Option.bind_eq_some_iff, Prod.exists] at e
  obtain ⟨b, env1, e1, e2⟩ := e
  refine ⟨env, F, b, env1, S, e1, fun F1 H1 S1 x1 => ?_⟩
  cases b with
  | true =>
    rw [if_pos rfl] at e2 ⊢
    exact ⟨env1, F1, r, env', S1, e2, fun v2 F2 H2 S2 x2 r2 => q v2 F2 H2 S2 (x1.trans x2) r2⟩
  | false =>
    rw [if_neg Bool.false_ne_true] at e2 ⊢
    exact ⟨env1, F1, r, env', S1, e2, fun v2 F2 H2 S2 x2 r2 => q v2 F2 H2 S2 (x1.trans x2) r2⟩
theorem tTst_if {c f g : Sl → Option (Bool × Sl)} {Q : Bool → Hp → Prop} (h : tTst R (tIf c f g) σ H Q) :
    tTst R c σ H fun b H1 => if b = true then tTst R f σ H1 Q else tTst R g σ H1 Q := by
  obtain ⟨env, F, r, env', S, e, q⟩ := h
  simp only [tIf, Option.bind_eq_some_iff, Prod.exists] at e
  obtain ⟨b, env1, e1, e2⟩ := e
  refine ⟨env, F, b, env1, S, e1, fun F1 H1 S1 x1 => ?_⟩
  cases b with
  | true =>
    rw [if_pos rfl] at e2 ⊢
    exact ⟨env1, F1, r, env', S1, e2, fun F2 H2 S2 x2 => q F2 H2 S2 (x1.trans x2)⟩
  | false =>
    rw [if_neg Bool.false_ne_true] at e2 ⊢
    exact ⟨env1, F1, r, env', S1, e2, fun F2 H2 S2 x2 => q F2 H2 S2 (x1.trans x2)⟩
theorem tV_ofT {f : Sl → Option (Bool × Sl)} {Q : VK} (h : tV R (ofT f) σ H Q) : tTst R f σ H fun b H1 => Q (.bl b) H1 := by
  obtain ⟨env, F, r, env', S, e, q⟩ := h
  simp only [ofT, Option.bind_eq_some_iff, Prod.exists, Option.some.injEq, Prod.mk.injEq] at e
  obtain ⟨b, env1, e1, e2, e3⟩ := e
  subst e2; subst e3
  exact ⟨env, F, b, env1, S, e1, fun F1 H1 S1 x1 => q _ F1 H1 S1 (x1.mono (fun _ z => z) fun b z => z.elim (fun z => z) False.elim) (by show Rep R F1 (.bl b) _; simp only [Rep])⟩
end RE
set_option Elab.async false
set_option linter.all false
set_option maxRecDepth 100000
/-! The operations on values, by the layer's rules. -/
namespace RE
open PySem PySem.Spec PyProof.Rows L2
variable {X : Cx} {ca : Nat → Addr}

theorem lineOk_le {n : Nat} (h : lineOk n = true) : n ≤ sizeLine := by
  rw [sizeLine_eq]
  exact of_decide_eq_true h
theorem rep_int {R : Rc} {F : Hp} {i : Int} : Rep R F (.int i) (.int i) := by simp only [Rep]
theorem rep_bl {R : Rc} {F : Hp} {i : Bool} : Rep R F (.bl i) (.bl i) := by simp only [Rep]
theorem rep_non {R : Rc} {F : Hp} : Rep R F .non .non := by simp only [Rep]
theorem rep_str {R : Rc} {F : Hp} {x : Str} : Rep R F (.str x) (.str x) := by simp only [Rep]
theorem rd_int {R : Rc} {F H : Hp} {i : Int} {v : V} (h : RdOk R F H (.int i) v) : v = .int i := by simpa only [RdOk, Rep] using h
theorem rd_bl {R : Rc} {F H : Hp} {i : Bool} {v : V} (h : RdOk R F H (.bl i) v) : v = .bl i := by simpa only [RdOk, Rep] using h
theorem rd_non {R : Rc} {F H : Hp} {v : V} (h : RdOk R F H .non v) : v = .non := by simpa only [RdOk, Rep] using h
theorem rd_str {R : Rc} {F H : Hp} {x : Str} {v : V} (h : RdOk R F H (.str x) v) : v = .str x := by simpa only [RdOk, Rep] using h

theorem op_catL : OpR X (binaryOp .Add) (fun x y H Q => ∃ l b xs zs, x = .ref l ∧ y = .ref b ∧ SqL X.K H l xs ∧ SqL X.K H b zs ∧ xs.length + zs.length ≤ sizeLine ∧ ∀ p, H p = none → Q (.ref p) (upd H p (.lst (xs ++ zs)))) := by
  intro pins s σ H x y v u Q I rx ry h
  obtain ⟨l, b, xs, zs, rfl, rfl, hH, hB, hz, q⟩ := h
  cases rx
  cases ry
  obtain ⟨vs, r, p1, z⟩ := I.list hH
  obtain ⟨ws, r2, p2, z2⟩ := I.list hB
  obtain ⟨⟨cls, dd, data, sl⟩, ho, hc, n, hd⟩ := id p1.isList
  obtain ⟨⟨cls2, dd2, data2, sl2⟩, ho2, hc2, n2, hd2⟩ := id p2.isList
  simp only at hc hd hc2 hd2
  subst hc hd hc2 hd2
  have e : vs.toArray ++ ws.toArray = (vs ++ ws).toArray := by simp
  have hl := r.length
  have hl2 := r2.length
  refine concat_meets ⟨_, ho, rfl⟩ ⟨_, ho2, rfl⟩ noFill_list_add seq_list_add PySem.F.slot_list_add PySem.F.entry_list_add (PySem.F.args_list_add_2 _ _) (list_addW l b vs.toArray ws.toArray n n2 dd dd2 sl sl2 (by rw [List.size_toArray, List.size_toArray]; omega)) ⟨ho, ho2, ?_⟩
  rw [e]
  exact ⟨.ref _, _, I.lnew (t' := s.toks) (r.append r2) (by rw [List.length_append]; omega), rfl, q _ I.fresh⟩

/-! ### a list so many times -/
theorem q_mul_intG (l : Addr) (items : Array Value) (n : Nat) (d : Option Addr) (sl : Array (Option Value)) (x : Int) (t : Tok) (hc0 : ¬(!Builtin.List.listFitsIndex x) = true) (hc1 : ¬items.size * x.toNat > (2 ^ 63 - 1) / 8) (hc2 : ¬Builtin.List.listTooLong (items.size * x.toNat) = true) :
    Meets (Builtin.«list.__mul__» ⟨[.ref l, .int x t], []⟩) (fun _ R s => s.heap.get? l = some { cls := .type "list", dict := d, data := .seq items n, slots := sl } ∧ R (.ok (.ret (Value.ref s.heap.objs.size))) { s with heap := s.heap.push { cls := .type "list", data := .seq (List.foldl (fun x1 x2 => x1 ++ x2) #[] (List.replicate (if items.isEmpty = true then 0 else x.toNat) items)) 0 } }) :=
  .of_wp fun prog w A R s h => by
    obtain ⟨hp, g, d, tk, os⟩ := s; obtain ⟨hl, h⟩ := h
    have hsz := AutoListH.joined_fits hc2
    wp_walk; refine wpAny_ite_false (decide_eq_false (Nat.not_lt.mpr hsz)) ?_; wp_walk; exact ⟨_, rfl, h⟩
theorem q_rmul_intG (a : Int) (t : Tok) (l : Addr) (items : Array Value) (n : Nat) (d : Option Addr) (sl : Array (Option Value)) :
    Meets (Builtin.«int.__rmul__» ⟨[.int a t, .ref l], []⟩) (fun _ R s => s.heap.get? l = some { cls := .type "list", dict := d, data := .seq items n, slots := sl } ∧ R (.ok (.ret Value.notImplemented)) s) :=
  .of_wp fun prog w A R s h => by obtain ⟨hp, g, d, tk, os⟩ := s; obtain ⟨hl, h⟩ := h; wp_walk; exact ⟨_, rfl, h⟩
theorem op_repL : OpR X (binaryOp .Mult) (fun x y H Q => ∃ l k xs, x = .ref l ∧ y = .int k ∧ SqL X.K H l xs ∧ -(2 ^ 63) ≤ k ∧ k < 2 ^ 63 ∧ xs.length * k.toNat ≤ sizeLine ∧ ∀ p, H p = none → Q (.ref p) (upd H p (.lst (List.replicate k.toNat xs).flatten))) := by
  intro pins s σ H x y v u Q I rx ry h
  obtain ⟨a, k, xs, rfl, rfl, hs, h1, h2, hz, q⟩ := h
  obtain rfl : v = Value.ref a := rx
  obtain ⟨t, rfl⟩ := ry
  obtain ⟨its, rv, ⟨⟨cls, dd, data, sl⟩, n, ho, hc, hdn, hd⟩, hlen⟩ := I.list hs
  have hc1 : cls = Value.type "list" := hc
  have hd1 : data = Data.seq its.toArray n := hd
  subst hc1 hd1
  have hl := rv.length
  have hlen2 : its.toArray.size * k.toNat ≤ sizeLine := by rw [List.size_toArray, ← hl]; exact hz
  have hcap : ¬ its.toArray.size * k.toNat > (2 ^ 63 - 1) / 8 := by
    have : (sizeLine : Nat) ≤ (2 ^ 63 - 1) / 8 := by decide
    omega
  have hfit : ¬ (!Builtin.List.listFitsIndex k) = true := by
    rw [fitsIndex_both h1 h2]
    exact Bool.false_ne_true
  have hlong : ¬ Builtin.List.listTooLong (its.toArray.size * k.toNat) = true := by
    rw [notLongL hlen2]
    exact Bool.false_ne_true
  refine wpAny_binaryOp_repeat_ref (T := "list") (U := "int") (by decide) ⟨_, ho, rfl⟩ (fun s' => typeIs_int s' k t) noFill_list_mul F.fills_int_mul F.slot_int_rmul repeat_list F.slot_int_index.lookup
    (call_meets F.slot_int_rmul (typeIs_int s k t) F.entry_int_rmul (F.args_int_rmul_2 _ _) (q_rmul_intG k t a its.toArray n dd sl)
      ⟨ho, rfl, ⟨_, ho, rfl⟩, call_meets F.slot_list_mul ⟨_, ho, rfl⟩ F.entry_list_mul (F.args_list_mul_2 _ _) (q_mul_intG a its.toArray n dd sl k t hfit hcap hlong) ⟨ho, ?_⟩⟩)
  have f0 : ∀ m : Nat, List.foldl (fun x1 x2 => x1 ++ x2) #[] (List.replicate m its.toArray) = (List.replicate m its).flatten.toArray := fun m => by
    have := foldl_rep its m []
    rw [List.nil_append] at this
    exact this
  have hnew : List.foldl (fun x1 x2 => x1 ++ x2) #[] (List.replicate (if its.toArray.isEmpty = true then 0 else k.toNat) its.toArray) = (List.replicate k.toNat its).flatten.toArray := by
    rw [f0]
    cases its with
    | nil => simp
    | cons a r' => rw [if_neg (by simp)]
  rw [hnew]
  exact ⟨.ref _, _, I.lnew (t' := s.toks) (rv.rep k.toNat) (by rw [PyProof.Rows.lm_len_rep_flat, Nat.mul_comm]; exact hz), rfl, q _ I.fresh⟩
theorem Reps.rep {R : Rc} {F : Hp} {ds : List D} {xs : List V} (h : Reps R F ds xs) : ∀ n : Nat, Reps R F (List.replicate n ds).flatten (List.replicate n xs).flatten
  | 0 => Reps.nil
  | n + 1 => by
    rw [List.replicate_succ, List.replicate_succ, List.flatten_cons, List.flatten_cons]
    exact h.append (Reps.rep h n)
/-! ### + - * // % ** -/
theorem rd_tup {R : Rc} {F H : Hp} {ds : List D} {v : V} (sub : Same F H) (h : RdOk R F H (.tup ds) v) : ∃ a xs, v = .ref a ∧ SqT R.K H a xs ∧ Reps R F ds xs := by
  simp only [RdOk, Rep] at h
  obtain ⟨a, xs, e, s, r⟩ := h
  exact ⟨a, xs, e, sqT_same sub s, r⟩
theorem opr_add : OpR X (binaryOp .Add) (rOp ⟨X.K, ca, X.w⟩ (binD .Add)) := by
  rintro pins s σ H x y v u Q I rx ry ⟨F, a, b, r, sub, ha, hb, e, q⟩
  cases a <;> cases b <;> simp only [binD] at e <;> try contradiction
  · rename_i i j
    cases rd_int ha
    cases rd_int hb
    cases e
    exact op_add pins s σ H _ _ v u Q I rx ry ⟨i, j, rfl, rfl, q.scal rep_int sub⟩
  · rename_i a b
    split at e
    · rename_i hl
      cases e
      obtain ⟨p, xs, e1, s1, r1⟩ := rd_tup sub ha
      obtain ⟨p2, ys, e2, s2, r2⟩ := rd_tup sub hb
      have l1 := r1.length
      have l2 := r2.length
      have hz := lineOk_le hl
      refine op_catA pins s σ H _ _ v u Q I rx ry ⟨p, p2, xs, ys, e1, e2, s1, s2, by omega, fun h0 => ?_, fun h0 h1 => ?_, fun h0 h1 => Res.tup sub (r1.append r2) q⟩
      · subst h0
        have e0 : a = [] := List.length_eq_zero_iff.mp l1
        subst e0
        rw [← e2]
        exact q.scal hb sub
      · subst h1
        have e0 : b = [] := List.length_eq_zero_iff.mp l2
        subst e0
        rw [List.append_nil] at q
        rw [← e1]
        exact q.scal ha sub
    · exact nomatch e
  · rename_i a b
    split at e
    · rename_i hl
      cases e
      obtain ⟨p, xs, rfl, s1, r1⟩ := ha
      obtain ⟨p2, ys, rfl, s2, r2⟩ := hb
      have l1 := r1.length
      have l2 := r2.length
      have hz := lineOk_le hl
      exact op_catL pins s σ H _ _ v u Q I rx ry ⟨p, p2, xs, ys, rfl, rfl, s1, s2, by omega, Res.lst sub (r1.append r2) q⟩
    · exact nomatch e
theorem opr_sub : OpR X (binaryOp .Sub) (rOp ⟨X.K, ca, X.w⟩ (binD .Sub)) := by
  rintro pins s σ H x y v u Q I rx ry ⟨F, a, b, r, sub, ha, hb, e, q⟩
  cases a <;> cases b <;> simp only [binD] at e <;> try contradiction
  rename_i i j
  cases rd_int ha
  cases rd_int hb
  cases e
  exact op_sub pins s σ H _ _ v u Q I rx ry ⟨i, j, rfl, rfl, q.scal rep_int sub⟩
theorem mulOk_old {i j : Int} (h : mulOk i j = true) : (decide (-(2 ^ 64) < i ∧ i < 2 ^ 64) || decide (-(2 ^ 64) < j ∧ j < 2 ^ 64) || decide (i.natAbs.log2 + j.natAbs.log2 < 1000000)) = true := by
  unfold mulOk at h
  simp only [Bool.or_eq_true, decide_eq_true_eq] at h ⊢
  rcases h with (h | h) | h
  · exact .inl (.inl (by omega))
  · exact .inl (.inr (by omega))
  · exact .inr h
theorem divOk_old {j : Int} (h : divOk j = true) : (decide (0 < j) && (decide (j < 1073741824) || decide (j.natAbs.log2 < 9000))) = true := by
  unfold divOk at h
  simp only [Bool.or_eq_true, Bool.and_eq_true, decide_eq_true_eq] at h ⊢
  exact ⟨h.1, h.2.imp_left fun h => by omega⟩
theorem powOk_old {i j : Int} (h : powOk i j = true) : (decide (0 ≤ j) && decide (j ≤ 1000000) && decide (i.natAbs < 2 ^ 64)) = true := by
  unfold powOk at h
  simp only [Bool.and_eq_true, decide_eq_true_eq] at h ⊢
  exact ⟨⟨h.1.1, by omega⟩, h.2⟩
theorem opr_mul : OpR X (binaryOp .Mult) (rOp ⟨X.K, ca, X.w⟩ (binD .Mult)) := by
  rintro pins s σ H x y v u Q I rx ry ⟨F, a, b, r, sub, ha, hb, e, q⟩
  cases a <;> cases b <;> simp only [binD] at e <;> try contradiction
  all_goals try (
    rename_i ds k
    split at e
    · rename_i hm
      cases e
      simp only [repOk, Bool.and_eq_true, decide_eq_true_eq] at hm
      obtain ⟨p, xs, rfl, s1, r1⟩ := ha
      cases rd_int hb
      have l1 := r1.length
      have hz := lineOk_le hm.2
      exact op_repL pins s σ H _ _ v u Q I rx ry ⟨p, k, xs, rfl, rfl, s1, by omega, by omega, by rw [← l1]; exact hz, Res.lst sub (r1.rep k.toNat) q⟩
    · exact nomatch e)
  rename_i i j
  cases rd_int ha
  cases rd_int hb
  split at e
  · rename_i hm
    cases e
    have hm := mulOk_old hm
    rw [Bool.or_eq_true, Bool.or_eq_true, decide_eq_true_eq, decide_eq_true_eq, decide_eq_true_eq] at hm
    rcases hm with hm | hm
    · exact op_mul pins s σ H _ _ v u Q I rx ry ⟨i, j, rfl, rfl, hm, q.scal rep_int sub⟩
    · exact op_mulW pins s σ H _ _ v u Q I rx ry ⟨i, j, rfl, rfl, hm, q.scal rep_int sub⟩
  · exact nomatch e
theorem opr_fdiv : OpR X (binaryOp .FloorDiv) (rOp ⟨X.K, ca, X.w⟩ (binD .FloorDiv)) := by
  rintro pins s σ H x y v u Q I rx ry ⟨F, a, b, r, sub, ha, hb, e, q⟩
  cases a <;> cases b <;> simp only [binD] at e <;> try contradiction
  rename_i i j
  cases rd_int ha
  cases rd_int hb
  split at e
  · rename_i hm
    cases e
    have hm := divOk_old hm
    rw [Bool.and_eq_true, Bool.or_eq_true, decide_eq_true_eq, decide_eq_true_eq, decide_eq_true_eq] at hm
    obtain ⟨h0, hm | hm⟩ := hm
    · exact op_fdiv pins s σ H _ _ v u Q I rx ry ⟨i, j, rfl, rfl, ⟨h0, hm⟩, q.scal rep_int sub⟩
    · exact op_fdivW pins s σ H _ _ v u Q I rx ry ⟨i, j, rfl, rfl, ⟨h0, hm⟩, q.scal rep_int sub⟩
  · exact nomatch e
theorem opr_mod : OpR X (binaryOp .Mod) (rOp ⟨X.K, ca, X.w⟩ (binD .Mod)) := by
  rintro pins s σ H x y v u Q I rx ry ⟨F, a, b, r, sub, ha, hb, e, q⟩
  cases a <;> cases b <;> simp only [binD] at e <;> try contradiction
  rename_i i j
  cases rd_int ha
  cases rd_int hb
  split at e
  · rename_i hm
    cases e
    exact op_mod pins s σ H _ _ v u Q I rx ry ⟨i, j, rfl, rfl, hm, q.scal rep_int sub⟩
  · exact nomatch e
theorem opr_pow : OpR X (binaryOp .Pow) (rOp ⟨X.K, ca, X.w⟩ (binD .Pow)) := by
  rintro pins s σ H x y v u Q I rx ry ⟨F, a, b, r, sub, ha, hb, e, q⟩
  cases a <;> cases b <;> simp only [binD] at e <;> try contradiction
  rename_i i j
  cases rd_int ha
  cases rd_int hb
  split at e
  · rename_i hm
    cases e
    have hm := powOk_old hm
    rw [Bool.and_eq_true, Bool.and_eq_true, decide_eq_true_eq, decide_eq_true_eq, decide_eq_true_eq] at hm
    exact op_pow pins s σ H _ _ v u Q I rx ry ⟨i, j, rfl, rfl, ⟨hm.1.1, hm.1.2, hm.2⟩, q.scal rep_int sub⟩
  · exact nomatch e
theorem opr_none {f : Value → Value → Sem Value} {g : D → D → Option Rv} (h : ∀ a b, g a b = none) : OpR X f (rOp ⟨X.K, ca, X.w⟩ g) := by
  rintro pins s σ H x y v u Q I rx ry ⟨F, a, b, r, sub, ha, hb, e, q⟩
  rw [h] at e
  exact nomatch e
theorem opr_bin (op : Operator) : OpR X (binaryOp op) (rOp ⟨X.K, ca, X.w⟩ (binD op)) := by
  cases op with
  | Add => exact opr_add
  | Sub => exact opr_sub
  | Mult => exact opr_mul
  | FloorDiv => exact opr_fdiv
  | Mod => exact opr_mod
  | Pow => exact opr_pow
  | _ => exact opr_none fun a b => by cases a <;> cases b <;> rfl

/-! ### comparisons -/
mutual
theorem dp_of {R : Rc} {F H : Hp} (sub : Same F H) : ∀ (d : D) (v : V) (p : PyData), Rep R F d v → toPy d = some p → Dp R.K H v p
  | .non, v, p, h, e => by
    simp only [Rep] at h
    simp only [toPy, Option.some.injEq] at e
    subst h; subst e
    exact .non
  | .bl b, v, p, h, e => by
    simp only [Rep] at h
    simp only [toPy, Option.some.injEq] at e
    subst h; subst e
    exact .bl b
  | .int b, v, p, h, e => by
    simp only [Rep] at h
    simp only [toPy, Option.some.injEq] at e
    subst h; subst e
    exact .int b
  | .str b, v, p, h, e => by
    simp only [Rep] at h
    simp only [toPy, Option.some.injEq] at e
    subst h; subst e
    exact .str b
  | .tup ds, v, p, h, e => by
    simp only [Rep] at h
    simp only [toPy, Option.bind_eq_some_iff, Option.some.injEq] at e
    obtain ⟨ps, e1, rfl⟩ := e
    obtain ⟨a, xs, rfl, s, r⟩ := h
    exact .tup (sqT_same sub s) (dps_of sub ds xs ps r e1)
  | .lst ds, v, p, h, e => by
    simp only [Rep] at h
    simp only [toPy, Option.bind_eq_some_iff, Option.some.injEq] at e
    obtain ⟨ps, e1, rfl⟩ := e
    obtain ⟨a, xs, rfl, s, r⟩ := h
    exact .lst (sqL_same sub s) (dps_of sub ds xs ps r e1)
  | .ins _ _ _, v, p, h, e => by simp only [toPy] at e; exact nomatch e
  | .set _, v, p, h, e => by simp only [toPy] at e; exact nomatch e
theorem dps_of {R : Rc} {F H : Hp} (sub : Same F H) : ∀ (ds : List D) (xs : List V) (ps : List PyData), Reps R F ds xs → toPys ds = some ps → DpAll R.K H xs ps
  | [], xs, ps, h, e => by
    simp only [Reps] at h
    simp only [toPys, Option.some.injEq] at e
    subst h; subst e
    exact .nil
  | d :: ds, xs, ps, h, e => by
    simp only [Reps] at h
    simp only [toPys, Option.bind_eq_some_iff, Option.some.injEq] at e
    obtain ⟨p, e1, qs, e2, rfl⟩ := e
    obtain ⟨v, vs, rfl, r1, r2⟩ := h
    exact .cons (dp_of sub d v p r1 e1) (dps_of sub ds vs qs r2 e2)
end
theorem dp_rd {R : Rc} {F H : Hp} (sub : Same F H) {d : D} {v : V} {p : PyData} (h : RdOk R F H d v) (e : toPy d = some p) : Dp R.K H v p := by
  cases d with
  | lst ds =>
    simp only [toPy, Option.bind_eq_some_iff, Option.some.injEq] at e
    obtain ⟨ps, e1, rfl⟩ := e
    obtain ⟨a, xs, rfl, s, r⟩ := h
    exact .lst s (dps_of sub ds xs ps r e1)
  | ins c fs ds => simp only [toPy] at e; exact nomatch e
  | _ => exact dp_of sub _ v p h e
theorem deep_of {R : Rc} {F H : Hp} (sub : Same F H) {a b : D} {x y : V} {r : Bool} (ha : RdOk R F H a x) (hb : RdOk R F H b y) (e : eqDeep a b = some r) :
    ∃ p q, Dp R.K H x p ∧ Dp R.K H y q ∧ SeqAt.shaped p = true ∧ SeqAt.shaped q = true ∧ PyData.eqv p q = r := by
  simp only [eqDeep, Option.bind_eq_some_iff] at e
  obtain ⟨p, e1, q, e2, e3⟩ := e
  split at e3
  · rename_i hs
    rw [Bool.and_eq_true] at hs
    simp only [Option.some.injEq] at e3
    exact ⟨p, q, dp_rd sub ha e1, dp_rd sub hb e2, hs.1, hs.2, e3⟩
  · exact nomatch e3
theorem eqD_cases {a b : D} {r : Bool} (e : eqD a b = some r) : (∃ i j, a = .int i ∧ b = .int j ∧ r = decide (i = j)) ∨ (∃ i j, a = .bl i ∧ b = .bl j ∧ r = decide (i = j)) ∨
    (∃ i j, a = .str i ∧ b = .str j ∧ r = decide (i = j)) ∨ (a = .non ∧ b = .non ∧ r = true) ∨ eqDeep a b = some r := by
  unfold eqD at e
  split at e
  · cases e; exact .inl ⟨_, _, rfl, rfl, rfl⟩
  · cases e; exact .inr (.inl ⟨_, _, rfl, rfl, rfl⟩)
  · cases e; exact .inr (.inr (.inl ⟨_, _, rfl, rfl, rfl⟩))
  · cases e; exact .inr (.inr (.inr (.inl ⟨rfl, rfl, rfl⟩)))
  · exact .inr (.inr (.inr (.inr e)))
theorem opr_eq (hu : X.A.units + 64 < cLine) : OpR X (compareOp .Eq) (rOp ⟨X.K, ca, X.w⟩ (cmpR .Eq)) := by
  rintro pins s σ H x y v u Q I rx ry ⟨F, a, b, r, sub, ha, hb, e, q⟩
  simp only [cmpR, cmpD, Option.bind_eq_some_iff, Option.some.injEq] at e
  obtain ⟨k, e1, rfl⟩ := e
  rcases eqD_cases e1 with ⟨i, j, rfl, rfl, rfl⟩ | ⟨i, j, rfl, rfl, rfl⟩ | ⟨i, j, rfl, rfl, rfl⟩ | ⟨rfl, rfl, rfl⟩ | e2
  · cases rd_int ha
    cases rd_int hb
    exact op_eq pins s σ H _ _ v u Q I rx ry ⟨rfl, by have := q.scal (v := .bl (decide (i = j))) rep_bl sub; simpa using this⟩
  · cases rd_bl ha
    cases rd_bl hb
    exact op_eq pins s σ H _ _ v u Q I rx ry ⟨rfl, by have := q.scal (v := .bl (decide (i = j))) rep_bl sub; simpa using this⟩
  · cases rd_str ha
    cases rd_str hb
    exact op_eq pins s σ H _ _ v u Q I rx ry ⟨rfl, by have := q.scal (v := .bl (decide (i = j))) rep_bl sub; simpa using this⟩
  · cases rd_non ha
    cases rd_non hb
    exact op_eq pins s σ H _ _ v u Q I rx ry ⟨rfl, by have := q.scal (v := .bl true) rep_bl sub; simpa using this⟩
  · obtain ⟨p, p', d1, d2, s1, s2, e3⟩ := deep_of sub ha hb e2
    exact op_eqD hu pins s σ H _ _ v u Q I rx ry ⟨p, p', d1, d2, s1, s2, by rw [e3]; exact q.scal rep_bl sub⟩
theorem opr_ne (hu : X.A.units + 64 < cLine) : OpR X (compareOp .NotEq) (rOp ⟨X.K, ca, X.w⟩ (cmpR .NotEq)) := by
  rintro pins s σ H x y v u Q I rx ry ⟨F, a, b, r, sub, ha, hb, e, q⟩
  simp only [cmpR, cmpD, Option.bind_eq_some_iff, Option.some.injEq] at e
  obtain ⟨k, ⟨k', e1, rfl⟩, rfl⟩ := e
  rcases eqD_cases e1 with ⟨i, j, rfl, rfl, rfl⟩ | ⟨i, j, rfl, rfl, rfl⟩ | ⟨i, j, rfl, rfl, rfl⟩ | ⟨rfl, rfl, rfl⟩ | e2
  · cases rd_int ha
    cases rd_int hb
    exact op_ne pins s σ H _ _ v u Q I rx ry ⟨rfl, by have := q.scal (v := .bl (!decide (i = j))) rep_bl sub; simpa using this⟩
  · cases rd_bl ha
    cases rd_bl hb
    exact op_ne pins s σ H _ _ v u Q I rx ry ⟨rfl, by have := q.scal (v := .bl (!decide (i = j))) rep_bl sub; simpa using this⟩
  · cases rd_str ha
    cases rd_str hb
    exact op_ne pins s σ H _ _ v u Q I rx ry ⟨rfl, by have := q.scal (v := .bl (!decide (i = j))) rep_bl sub; simpa using this⟩
  · cases rd_non ha
    cases rd_non hb
    exact op_ne pins s σ H _ _ v u Q I rx ry ⟨rfl, by have := q.scal (v := .bl (!true)) rep_bl sub; simpa using this⟩
  · obtain ⟨p, p', d1, d2, s1, s2, e3⟩ := deep_of sub ha hb e2
    exact op_neD hu pins s σ H _ _ v u Q I rx ry ⟨p, p', d1, d2, s1, s2, by rw [e3]; exact q.scal rep_bl sub⟩
theorem opr_cmpI {op : CmpOp} {f : Int → Int → Bool} (rule : OpR X (compareOp op) (rI0 fun i j => .bl (f i j))) (hf : ∀ i j, cmpD op (.int i) (.int j) = some (f i j)) (hn : ∀ a b r, cmpD op a b = some r → ∃ i j, a = .int i ∧ b = .int j) :
    OpR X (compareOp op) (rOp ⟨X.K, ca, X.w⟩ (cmpR op)) := by
  rintro pins s σ H x y v u Q I rx ry ⟨F, a, b, r, sub, ha, hb, e, q⟩
  simp only [cmpR, Option.bind_eq_some_iff, Option.some.injEq] at e
  obtain ⟨k, e1, rfl⟩ := e
  obtain ⟨i, j, rfl, rfl⟩ := hn _ _ _ e1
  rw [hf] at e1
  cases e1
  cases rd_int ha
  cases rd_int hb
  exact rule pins s σ H _ _ v u Q I rx ry ⟨i, j, rfl, rfl, q.scal rep_bl sub⟩
theorem opr_is : OpR X (compareOp .Is) (rOp ⟨X.K, ca, X.w⟩ (cmpR .Is)) := by
  rintro pins s σ H x y v u Q I rx ry ⟨F, a, b, r, sub, ha, hb, e, q⟩
  simp only [cmpR, Option.bind_eq_some_iff, Option.some.injEq] at e
  obtain ⟨k, e1, rfl⟩ := e
  cases b <;> simp only [cmpD] at e1 <;> try contradiction
  cases rd_non hb
  refine op_isN pins s σ H _ _ v u Q I rx ry ⟨rfl, ?_⟩
  cases a with
  | non => cases rd_non ha; cases e1; exact q.scal rep_bl sub
  | bl i => cases rd_bl ha; cases e1; exact q.scal rep_bl sub
  | int i => cases rd_int ha; cases e1; exact q.scal rep_bl sub
  | str i => cases rd_str ha; cases e1; exact q.scal rep_bl sub
  | tup i => obtain ⟨p, xs, e2, s1, r1⟩ := rd_tup sub ha; cases e2; cases e1; exact q.scal rep_bl sub
  | lst i => obtain ⟨p, xs, e2, s1, r1⟩ := ha; cases e2; cases e1; exact q.scal rep_bl sub
  | ins c fs ds => obtain ⟨p, dx, fv, e2, s1, r1⟩ := ha; cases e2; cases e1; exact q.scal rep_bl sub
  | set ns => simp only [RdOk, Rep] at ha; obtain ⟨p, S, n, e2, s1, r1⟩ := ha; cases e2; cases e1; exact q.scal rep_bl sub
theorem opr_isnot : OpR X (compareOp .IsNot) (rOp ⟨X.K, ca, X.w⟩ (cmpR .IsNot)) := by
  rintro pins s σ H x y v u Q I rx ry ⟨F, a, b, r, sub, ha, hb, e, q⟩
  simp only [cmpR, Option.bind_eq_some_iff, Option.some.injEq] at e
  obtain ⟨k, e1, rfl⟩ := e
  cases b <;> simp only [cmpD] at e1 <;> try contradiction
  cases rd_non hb
  refine op_notN pins s σ H _ _ v u Q I rx ry ⟨rfl, ?_⟩
  cases a with
  | non => cases rd_non ha; cases e1; exact q.scal rep_bl sub
  | bl i => cases rd_bl ha; cases e1; exact q.scal rep_bl sub
  | int i => cases rd_int ha; cases e1; exact q.scal rep_bl sub
  | str i => cases rd_str ha; cases e1; exact q.scal rep_bl sub
  | tup i => obtain ⟨p, xs, e2, s1, r1⟩ := rd_tup sub ha; cases e2; cases e1; exact q.scal rep_bl sub
  | lst i => obtain ⟨p, xs, e2, s1, r1⟩ := ha; cases e2; cases e1; exact q.scal rep_bl sub
  | ins c fs ds => obtain ⟨p, dx, fv, e2, s1, r1⟩ := ha; cases e2; cases e1; exact q.scal rep_bl sub
  | set ns => simp only [RdOk, Rep] at ha; obtain ⟨p, S, n, e2, s1, r1⟩ := ha; cases e2; cases e1; exact q.scal rep_bl sub
theorem any_intV (i : Int) : ∀ (is : List Int), inV (.int i) (is.map V.int) = is.any fun j => j == i
  | [] => rfl
  | j :: js => by
    have := any_intV i js
    unfold inV at this ⊢
    rw [List.map_cons, List.any_cons, List.any_cons, this]
    rfl
theorem any_strV (i : Str) : ∀ (is : List Str), inV (.str i) (is.map V.str) = is.any fun j => j == i
  | [] => rfl
  | j :: js => by
    have := any_strV i js
    unfold inV at this ⊢
    rw [List.map_cons, List.any_cons, List.any_cons, this]
    rfl
theorem flat_intsV : ∀ is : List Int, (is.map V.int).all flatV = true
  | [] => rfl
  | j :: js => by rw [List.map_cons, List.all_cons, flat_intsV js]; rfl
theorem Reps.strs {R : Rc} {F : Hp} : ∀ {ds : List D} {xs : List V} {ns : List Str}, Reps R F ds xs → strsOf ds = some ns → xs = ns.map V.str
  | [], xs, ns, h, e => by
    simp [strsOf] at e
    subst e
    exact Reps.nil_iff.mp h
  | d :: ds, xs, ns, h, e => by
    obtain ⟨v, vs, rfl, h1, h2⟩ := Reps.cons_iff.mp h
    cases d with
    | str i =>
      simp only [strsOf, Option.bind_eq_some_iff] at e
      obtain ⟨ms, e1, e2⟩ := e
      simp at e2
      subst e2
      simp only [Rep] at h1
      rw [h1, Reps.strs h2 e1, List.map_cons]
    | _ => simp [strsOf] at e
theorem rd_set {R : Rc} {F H : Hp} {ns : List Int} {v : V} (sub : Same F H) (h : RdOk R F H (.set ns) v) : ∃ a S n, v = .ref a ∧ H a = some (SetO R.w a S n) ∧ n ≤ ns.length ∧ ∀ k, S k = ns.any fun j => j == k := by
  simp only [RdOk, Rep] at h
  obtain ⟨a, S, n, e, s, r⟩ := h
  exact ⟨a, S, n, e, sub _ _ s, r⟩
/-- the four ways of in -/
theorem inD_cases {a b : D} {r : Bool} (e : inD a b = some r) : (∃ i ns, a = .int i ∧ b = .set ns ∧ r = ns.any fun j => j == i) ∨ (∃ i ds is, a = .int i ∧ b = .tup ds ∧ intsOf ds = some is ∧ r = is.any fun j => j == i) ∨
    (∃ i ds is, a = .str i ∧ b = .tup ds ∧ strsOf ds = some is ∧ r = is.any fun j => j == i) ∨
    (∃ ds p qs, b = .lst ds ∧ toPy a = some p ∧ toPys ds = some qs ∧ SeqAt.shaped p = true ∧ SeqAt.shaped (.list qs) = true ∧ r = qs.any fun z => PyData.eqv z p) := by
  unfold inD at e
  split at e
  · cases e; exact .inl ⟨_, _, rfl, rfl, rfl⟩
  · obtain ⟨is, e1, e2⟩ := Option.bind_eq_some_iff.mp e
    cases e2
    exact .inr (.inl ⟨_, _, is, rfl, rfl, e1, rfl⟩)
  · obtain ⟨is, e1, e2⟩ := Option.bind_eq_some_iff.mp e
    cases e2
    exact .inr (.inr (.inl ⟨_, _, is, rfl, rfl, e1, rfl⟩))
  · obtain ⟨p, e1, e2⟩ := Option.bind_eq_some_iff.mp e
    obtain ⟨qs, e4, e3⟩ := Option.bind_eq_some_iff.mp e2
    split at e3
    · rename_i hs
      rw [Bool.and_eq_true] at hs
      cases e3
      exact .inr (.inr (.inr ⟨_, p, qs, rfl, e1, e4, hs.1, hs.2, rfl⟩))
    · cases e3
  · cases e
theorem opr_in (hu : X.A.units + 65 < cLine) : OpR X (compareOp .In) (rOp ⟨X.K, ca, X.w⟩ (cmpR .In)) := by
  rintro pins s σ H x y v u Q I rx ry ⟨F, a, b, r, sub, ha, hb, e, q⟩
  simp only [cmpR, cmpD, Option.bind_eq_some_iff, Option.some.injEq] at e
  obtain ⟨k, e1, rfl⟩ := e
  rcases inD_cases e1 with ⟨i, ns, rfl, rfl, rfl⟩ | ⟨i, ds, is, rfl, rfl, e2, rfl⟩ | ⟨i, ds, is, rfl, rfl, e2, rfl⟩ | ⟨ds, p, qs, rfl, e2, e3, s1, s2, rfl⟩
  · cases rd_int ha
    obtain ⟨p, S, n, rfl, s1, _, hS⟩ := rd_set sub hb
    exact or_sin pins s σ H _ _ v u Q I rx ry ⟨i, p, S, _, rfl, rfl, s1, by rw [hS]; exact q.scal rep_bl sub⟩
  · cases rd_int ha
    obtain ⟨p, xs, rfl, s1, r1⟩ := rd_tup sub hb
    have ex := r1.ints e2
    subst ex
    exact op_in_seq pins s σ H _ _ v u Q I rx ry ⟨p, _, rfl, .inr s1, rfl, flat_intsV is, by
      show Q (.bl (if false = true then _ else inV (.int i) (is.map V.int))) H
      rw [any_intV]; exact q.scal rep_bl sub⟩
  · cases rd_str ha
    obtain ⟨p, xs, rfl, s1, r1⟩ := rd_tup sub hb
    have ex := r1.strs e2
    subst ex
    exact op_in_seq pins s σ H _ _ v u Q I rx ry ⟨p, _, rfl, .inr s1, rfl, flat_strs is, by
      show Q (.bl (if false = true then _ else inV (.str i) (is.map V.str))) H
      rw [any_strV]; exact q.scal rep_bl sub⟩
  · refine op_inD hu pins s σ H _ _ v u Q I rx ry ⟨p, qs, dp_rd sub ha e2, dp_rd sub hb (by simp only [toPy, e3, Option.bind_some]), s1, s2, q.scal rep_bl sub⟩
theorem opr_notin (hu : X.A.units + 65 < cLine) : OpR X (compareOp .NotIn) (rOp ⟨X.K, ca, X.w⟩ (cmpR .NotIn)) := by
  rintro pins s σ H x y v u Q I rx ry ⟨F, a, b, r, sub, ha, hb, e, q⟩
  simp only [cmpR, cmpD, Option.bind_eq_some_iff, Option.some.injEq] at e
  obtain ⟨k, ⟨k', e1, rfl⟩, rfl⟩ := e
  rcases inD_cases e1 with ⟨i, ns, rfl, rfl, rfl⟩ | ⟨i, ds, is, rfl, rfl, e2, rfl⟩ | ⟨i, ds, is, rfl, rfl, e2, rfl⟩ | ⟨ds, p, qs, rfl, e2, e3, s1, s2, rfl⟩
  · cases rd_int ha
    obtain ⟨p, S, n, rfl, s1, _, hS⟩ := rd_set sub hb
    exact or_snotin pins s σ H _ _ v u Q I rx ry ⟨i, p, S, _, rfl, rfl, s1, by rw [hS]; exact q.scal rep_bl sub⟩
  · cases rd_int ha
    obtain ⟨p, xs, rfl, s1, r1⟩ := rd_tup sub hb
    have ex := r1.ints e2
    subst ex
    exact op_notIn_seq pins s σ H _ _ v u Q I rx ry ⟨p, _, rfl, .inr s1, rfl, flat_intsV is, by
      show Q (.bl (if true = true then !inV (.int i) (is.map V.int) else _)) H
      rw [any_intV]; exact q.scal rep_bl sub⟩
  · cases rd_str ha
    obtain ⟨p, xs, rfl, s1, r1⟩ := rd_tup sub hb
    have ex := r1.strs e2
    subst ex
    exact op_notIn_seq pins s σ H _ _ v u Q I rx ry ⟨p, _, rfl, .inr s1, rfl, flat_strs is, by
      show Q (.bl (if true = true then !inV (.str i) (is.map V.str) else _)) H
      rw [any_strV]; exact q.scal rep_bl sub⟩
  · refine op_notInD hu pins s σ H _ _ v u Q I rx ry ⟨p, qs, dp_rd sub ha e2, dp_rd sub hb (by simp only [toPy, e3, Option.bind_some]), s1, s2, q.scal rep_bl sub⟩
theorem opr_cmp (hu65 : X.A.units + 65 < cLine) (op : CmpOp) : OpR X (compareOp op) (rOp ⟨X.K, ca, X.w⟩ (cmpR op)) := by
  have hu : X.A.units + 64 < cLine := by omega
  cases op with
  | Eq => exact opr_eq hu
  | NotEq => exact opr_ne hu
  | Lt => exact opr_cmpI op_lt (fun _ _ => rfl) fun a b r h => by cases a <;> cases b <;> first | exact ⟨_, _, rfl, rfl⟩ | exact nomatch h
  | LtE => exact opr_cmpI op_le (fun _ _ => rfl) fun a b r h => by cases a <;> cases b <;> first | exact ⟨_, _, rfl, rfl⟩ | exact nomatch h
  | Gt => exact opr_cmpI op_gt (fun _ _ => rfl) fun a b r h => by cases a <;> cases b <;> first | exact ⟨_, _, rfl, rfl⟩ | exact nomatch h
  | GtE => exact opr_cmpI op_ge (fun _ _ => rfl) fun a b r h => by cases a <;> cases b <;> first | exact ⟨_, _, rfl, rfl⟩ | exact nomatch h
  | Is => exact opr_is
  | IsNot => exact opr_isnot
  | In => exact opr_in hu65
  | NotIn => exact opr_notin hu65
end RE
set_option Elab.async false
set_option linter.all false
set_option maxRecDepth 100000
/-! Further operations: one operand, items, slices, built-ins, attributes. -/
namespace RE
open PySem PySem.Spec PyProof.Rows L2
variable {X : Cx} {ca : Nat → Addr}

theorem unr_neg : UnR X (unaryOp .USub) (rUn ⟨X.K, ca, X.w⟩ negD) := by
  rintro pins s σ H x v Q I rx ⟨F, a, r, sub, ha, e, q⟩
  cases a <;> simp only [negD] at e <;> try contradiction
  rename_i i
  cases rd_int ha
  cases e
  exact un_neg pins s σ H _ v Q I rx ⟨i, rfl, q.scal rep_int sub⟩

/-! ### items -/
theorem ixN_eq {α β : Type} {a : List α} {b : List β} (h : a.length = b.length) (i : Int) : ixN a.length i = ixN b.length i := by rw [h]
theorem at_get {R : Rc} {F : Hp} {ds : List D} {xs : List V} {i : Int} {d : D} (h : Reps R F ds xs) (e : atI ds i = some d) : ∃ v, atI xs i = some v ∧ Rep R F d v := by
  unfold atI at e ⊢
  rw [ixN_eq h.length] at e
  obtain ⟨j, e1, e2⟩ := Option.bind_eq_some_iff.mp e
  obtain ⟨v, e3, r⟩ := h.get e2
  exact ⟨v, by rw [e1]; exact e3, r⟩
theorem ixr_all : IxR X (rOp ⟨X.K, ca, X.w⟩ ixR) := by
  rintro value slice pins s σ H x y v u Q I rx ry ⟨F, a, b, r, sub, ha, hb, e, q⟩ hs
  simp only [ixR, Option.bind_eq_some_iff, Option.some.injEq] at e
  obtain ⟨d, e1, rfl⟩ := e
  cases a <;> cases b <;> simp only [ixD, ixAt] at e1 <;> try contradiction
  · rename_i ds i
    cases rd_int hb
    obtain ⟨p, xs, rfl, s1, r1⟩ := rd_tup sub ha
    obtain ⟨w, e2, r2⟩ := at_get r1 e1
    exact ix_tup value slice pins s σ H _ _ v u Q I rx ry ⟨p, xs, i, w, rfl, rfl, s1, e2, q.scal r2 sub⟩ hs
  · rename_i ds i
    cases rd_int hb
    obtain ⟨p, xs, rfl, s1, r1⟩ := ha
    obtain ⟨w, e2, r2⟩ := at_get r1 e1
    exact ix_list value slice pins s σ H _ _ v u Q I rx ry ⟨p, xs, i, w, rfl, rfl, s1, e2, q.scal r2 sub⟩ hs

/-! ### slices -/
def rSlc (R : Rc) : V → Option Int → Option Int → Hp → VK → Prop := fun x lo hi H Q => ∃ F a r, Same F H ∧ RdOk R F H a x ∧ slcD a lo hi = some r ∧ Res R F H r Q
theorem cut_reps {R : Rc} {F : Hp} {ds : List D} {xs : List V} (h : Reps R F ds xs) (lo hi : Option Int) : Reps R F (cutD ds lo hi) (cutV xs lo hi) := by
  unfold cutD cutV
  rw [h.length]
  exact (h.drop _).take _
theorem sIx_all {n : Nat} {lo hi : Option Int} (h : HT.sIx n 0 lo = 0 ∧ HT.sIx n n hi = n) {ds : List D} (hn : ds.length = n) : cutD ds lo hi = ds := by
  unfold cutD
  rw [hn, h.1, h.2]
  subst hn
  simp
theorem slr_all : SlR X (rSlc ⟨X.K, ca, X.w⟩) := by
  rintro pins s σ H x v vl vu lo hi sl Q I rx hs pl pu ⟨F, a, r, sub, ha, e, q⟩
  cases a <;> simp only [slcD] at e <;> try contradiction
  · rename_i ds
    cases e
    obtain ⟨p, xs, e2, s1, r1⟩ := rd_tup sub ha
    refine sl_tupA pins s σ H x v vl vu lo hi sl Q I rx hs pl pu ⟨p, xs, e2, s1, fun hw => ?_, fun hw => Res.tup sub (cut_reps r1 lo hi) q⟩
    rw [sIx_all hw r1.length] at q
    rw [← e2]
    exact q.scal ha sub
  · rename_i ds
    cases e
    obtain ⟨p, xs, e2, s1, r1⟩ := ha
    exact sl_list pins s σ H x v vl vu lo hi sl Q I rx hs pl pu ⟨p, xs, e2, s1, Res.lst sub (cut_reps r1 lo hi) q⟩
theorem tV_slc {a : Fv} {lo hi : Sl → Option (Option Int × Sl)} {R : Rc} {σ : L2.St} {H : Hp} {Q : VK} (h : tV R (vSlc a lo hi) σ H Q) : tSl (rSlc R) (tV R a) (tOp' R lo) (tOp' R hi) σ H Q := by
  obtain ⟨env, F, rv, env', S, e, q⟩ := h
  simp only [vSlc, Option.bind_eq_some_iff, Prod.exists, Option.some.injEq, Prod.mk.injEq] at e
  obtain ⟨ra, env1, e1, l, env2, e2, u, env3, e3, x, e4, r, e5, e6, e7⟩ := e
  subst e6; subst e7
  refine ⟨env, F, ra, env1, S, e1, fun va F1 H1 S1 x1 r1 => ⟨env1, F1, l, env2, S1, e2, fun F2 H2 S2 x2 => ⟨env2, F2, u, env3, S2, e3, fun F3 H3 S3 x3 => ?_⟩⟩⟩
  have y2 := x2.trans x3
  have r1' : RvOk R σ env3 F3 H3 ra va := r1.ext y2 fun _ z => z
  refine ⟨F3, x, r, S3.sub, rd_ok S3 r1' e4, e5, Res.fin S3 fun v F' H' S4 x4 r4 => q v F' H' S4 ?_ r4⟩
  have y1 : Ext (Cell σ env) (Cell σ env1) F H F1 H1 := x1.mono (fun _ z => z) fun _ z => .inl z
  exact (y1.trans y2).trans x4
theorem tO_no {R : Rc} {σ : L2.St} {H : Hp} {Q : Option Int → Hp → Prop} (h : tOp' R (fun env => some (none, env)) σ H Q) : tNoPart σ H Q := by
  obtain ⟨env, F, rv, env', S, e, q⟩ := h
  simp only [Option.some.injEq, Prod.mk.injEq] at e
  obtain ⟨rfl, rfl⟩ := e
  exact q F H S Ext.refl
theorem int_of {R : Rc} {F H : Hp} {σ : L2.St} {env : Sl} {p : Rv} {v : V} {i : Int} (S : StOk R σ env F H) (h : RvOk R σ env F H p v) (e : intR (p, env) = some i) : v = .int i := by
  unfold intR at e
  simp only at e
  split at e
  · rename_i j e1
    cases e
    exact rd_int (rd_ok S h e1)
  · contradiction
theorem tO_so {R : Rc} {σ : L2.St} {H : Hp} {f : Fv} {Q : Option Int → Hp → Prop} (h : tOp' R (fun env => (f env).bind fun p => (intR p).bind fun i => some (some i, p.2)) σ H Q) : tPart (tV R f) σ H Q := by
  obtain ⟨env, F, rv, env', S, e, q⟩ := h
  simp only [Option.bind_eq_some_iff, Prod.exists, Option.some.injEq, Prod.mk.injEq] at e
  obtain ⟨ra, env1, e1, i, e2, e3, e4⟩ := e
  subst e3; subst e4
  exact ⟨env, F, ra, env1, S, e1, fun v F1 H1 S1 x1 r1 => ⟨i, int_of S1 r1 e2, q F1 H1 S1 (x1.mono (fun _ z => z) fun _ z => .inl z)⟩⟩

/-! ### [::-1], [::k] -/
theorem adjust_up (k : Int) (n : Nat) (hk : 0 < k) : Builtin.Slice.sliceAdjust none none k (n : Int) = (0, (n : Int)) := by
  unfold Builtin.Slice.sliceAdjust
  have h : ¬ k < 0 := by omega
  simp only [h, if_false]
theorem adjust_down (n : Nat) : Builtin.Slice.sliceAdjust none none (-1) (n : Int) = ((n : Int) - 1, -1) := by
  unfold Builtin.Slice.sliceAdjust
  simp
theorem places_down (n : Nat) : Builtin.Slice.slicePlaces ((n : Int) - 1) (-1) (-1) = n := by
  unfold Builtin.Slice.slicePlaces
  simp only [show ¬ ((-1 : Int) > 0) by decide, if_false]
  split
  · simp
  · simp
    omega
section
variable {prog : Program} {w : World} {A : Around} {E : Value → Shared → Prop} {s : Shared}
theorem sliceApplied_step {sl : Addr} {vl vu vs : Value} {k : Int} {n : Nat} {Q : Int × Int × Nat → Shared → Prop} (hs : s.heap.IsSliceOf sl vl vu vs) (pl : IsPart vl none) (pu : IsPart vu none) (ps : IsPart vs (some k)) (hk : k ≠ 0)
    (h : Q ((Builtin.Slice.sliceAdjust none none k n).1, k, Builtin.Slice.slicePlaces (Builtin.Slice.sliceAdjust none none k n).1 (Builtin.Slice.sliceAdjust none none k n).2 k) s) : wpAny (model prog w) A (Builtin.Slice.sliceApplied (.ref sl) (pure (n : Int))) Q E s := by
  obtain ⟨os, hos, hcs, hds⟩ := id hs
  unfold Builtin.Slice.sliceApplied Builtin.Slice.sliceFields
  refine wpAny_bind (wpAny_bind (wpAny_field hos hds (x := vl) rfl (wpAny_bind (wpAny_field hos hds (x := vu) rfl (wpAny_bind (wpAny_field hos hds (x := vs) rfl (wpAny_pure ?_)))))))
  refine wpAny_bind (HT.slicePart_ ps ?_)
  show wpAny _ _ (if (k == 0) = true then _ else _) _ _ s
  rw [if_neg (by simpa using hk)]
  refine wpAny_bind (HT.slicePart_ pl (wpAny_bind (HT.slicePart_ pu (wpAny_bind (wpAny_pure ?_)))))
  exact wpAny_pure h
theorem getItem_tuple_step {t sl : Addr} {items : Array Value} {vl vu vs : Value} {k : Int} {Q : Value → Shared → Prop} (ht : IsTup s.heap t items) (hs : s.heap.IsSliceOf sl vl vu vs) (pl : IsPart vl none) (pu : IsPart vu none) (ps : IsPart vs (some k)) (hk : k ≠ 0) (hk1 : k ≠ 1)
    (h : Q (.ref s.heap.objs.size) { s with heap := s.heap.push { cls := .type "tuple", data := .seq ((List.range (Builtin.Slice.slicePlaces (Builtin.Slice.sliceAdjust none none k items.size).1 (Builtin.Slice.sliceAdjust none none k items.size).2 k)).filterMap fun (m : Nat) => items[((Builtin.Slice.sliceAdjust none none k items.size).1 + (m : Int) * k).toNat]?).toArray } })
    (hsz : Builtin.Slice.slicePlaces (Builtin.Slice.sliceAdjust none none k items.size).1 (Builtin.Slice.sliceAdjust none none k items.size).2 k ≤ sizeLine) : wpAny (model prog w) A (getItem (.ref t) (.ref sl)) Q E s := by
  have htake : sizeOk (.seq ((List.range (Builtin.Slice.slicePlaces (Builtin.Slice.sliceAdjust none none k items.size).1 (Builtin.Slice.sliceAdjust none none k items.size).2 k)).filterMap fun (m : Nat) => items[((Builtin.Slice.sliceAdjust none none k items.size).1 + (m : Int) * k).toNat]?).toArray) := by
    show ((List.range _).filterMap _).toArray.size ≤ sizeLine
    rw [List.size_toArray]
    refine Nat.le_trans (List.length_filterMap_le _ _) ?_
    rw [List.length_range]
    exact hsz
  obtain ⟨os, hos, hcs, hds⟩ := id hs
  have hTs : s.TypeIs (.ref sl) "slice" := ⟨os, hos, hcs⟩
  unfold getItem
  try with_reducible refine wpAny_holding ?_
  first | refine wpAny_bind (wpAny_pure ?_) | skip
  refine wpAny_bind (wpAny_sequenceKey ht.typeIs (by decide) ?_)
  refine wpAny_bind (wpAny_callSpecial?_slot (name := Str.ofString "__getitem__") ht.typeIs PyProof.Rows.slot_tuple_getitem
    (wpAny_call_entry PyProof.Rows.slot_tuple_getitem ht.typeIs entry_tuple_getitem ?_ (args_tuple_getitem _ _)))
  show wpAny _ _ (Builtin.Tuple.tupleItemsOf (.ref t) >>= _) _ _ s
  refine wpAny_bind (tupleItemsOf_ ht ?_)
  refine wpAny_bind (wpAny_typeOf hTs ?_)
  rw [if_pos (by decide)]
  refine wpAny_bind (sliceApplied_step hs pl pu ps hk ?_)
  have hno : ¬ (((Builtin.Slice.sliceAdjust none none k items.size).1 == 0 && k == 1 && Builtin.Slice.slicePlaces (Builtin.Slice.sliceAdjust none none k items.size).1 (Builtin.Slice.sliceAdjust none none k items.size).2 k == items.size) = true) := by
    intro q
    rw [Bool.and_eq_true, Bool.and_eq_true] at q
    exact hk1 (eq_of_beq q.1.2)
  show wpAny _ _ (if ((Builtin.Slice.sliceAdjust none none k items.size).1 == 0 && k == 1 && Builtin.Slice.slicePlaces (Builtin.Slice.sliceAdjust none none k items.size).1 (Builtin.Slice.sliceAdjust none none k items.size).2 k == items.size) = true then _ else _) _ _ s
  rw [if_neg hno]
  first
    | exact wpAny_bind (m := Builtin.Tuple.tupleExact _) (wpAny_newObj_type (wpAny_pure ⟨_, rfl, wpAny_pure h⟩) htake)
    | exact wpAny_bind (m := Builtin.Tuple.tupleExact _) (wpAny_newObj_type (wpAny_bind (wpAny_pure (wpAny_pure ⟨_, rfl, wpAny_pure h⟩))) htake)
    | exact wpAny_bind (wpAny_bind (m := Builtin.Tuple.tupleExact _) (wpAny_newObj_type (wpAny_pure (wpAny_pure ⟨_, rfl, wpAny_pure h⟩)) htake))
    | exact wpAny_bind (wpAny_bind (m := Builtin.Tuple.tupleExact _) (wpAny_newObj_type (wpAny_pure ⟨_, rfl, wpAny_pure h⟩) htake))
end
theorem filterMap_reps {R : Rc} {F : Hp} {ds : List D} {xs : List V} (h : Reps R F ds xs) (f : Nat → Nat) : ∀ l : List Nat, Reps R F (l.filterMap fun m => ds[f m]?) (l.filterMap fun m => xs[f m]?)
  | [] => Reps.nil
  | m :: l => by
    rw [List.filterMap_cons, List.filterMap_cons]
    cases e : ds[f m]? with
    | some d =>
      obtain ⟨v, e1, r⟩ := h.get e
      rw [e1]
      exact Reps.cons r (filterMap_reps h f l)
    | none =>
      have e1 : xs[f m]? = none := by
        have hl := h.length
        have := List.getElem?_eq_none_iff.mp e
        exact List.getElem?_eq_none_iff.mpr (by omega)
      rw [e1]
      exact filterMap_reps h f l
theorem filterMap_vals {xs : List V} {us : List Value} (h : Vals xs us) (f : Nat → Nat) : ∀ l : List Nat, Vals (l.filterMap fun m => xs[f m]?) (l.filterMap fun m => us[f m]?)
  | [] => .nil
  | m :: l => by
    rw [List.filterMap_cons, List.filterMap_cons]
    cases e : xs[f m]? with
    | some d =>
      obtain ⟨v, e1, r⟩ := h.get e
      rw [e1]
      exact .cons r (filterMap_vals h f l)
    | none =>
      rw [h.none_of e]
      exact filterMap_vals h f l
theorem map_down (n : Nat) : (List.range n).map (fun (m : Nat) => (((n : Nat) : Int) - 1 + (m : Int) * (-1)).toNat) = (List.range n).reverse := by
  apply List.ext_getElem?
  intro i
  by_cases hi : i < n
  · rw [List.getElem?_map, List.getElem?_range hi, List.getElem?_reverse (by simpa using hi), List.length_range, List.getElem?_range (by omega)]
    show some (((n : Nat) : Int) - 1 + (i : Int) * (-1)).toNat = some (n - 1 - i)
    congr 1
    omega
  · rw [List.getElem?_eq_none (by simp; omega), List.getElem?_eq_none (by simp; omega)]
theorem pick_all : ∀ xs : List Value, (List.range xs.length).filterMap (fun m => xs[m]?) = xs
  | [] => rfl
  | x :: xs => by
    rw [List.length_cons, List.range_succ_eq_map, List.filterMap_cons]
    show x :: (List.map Nat.succ (List.range xs.length)).filterMap (fun m => (x :: xs)[m]?) = _
    rw [List.filterMap_map]
    show x :: (List.range xs.length).filterMap (fun m => xs[m]?) = _
    rw [pick_all xs]
theorem pick_down (xs : List Value) : (List.range xs.length).filterMap (fun (m : Nat) => xs[(((xs.length : Nat) : Int) - 1 + (m : Int) * (-1)).toNat]?) = xs.reverse := by
  have e : (List.range xs.length).filterMap (fun (m : Nat) => xs[(((xs.length : Nat) : Int) - 1 + (m : Int) * (-1)).toNat]?) = ((List.range xs.length).map (fun (m : Nat) => (((xs.length : Nat) : Int) - 1 + (m : Int) * (-1)).toNat)).filterMap fun j => xs[j]? := by
    rw [List.filterMap_map]
    rfl
  rw [e, map_down, List.filterMap_reverse, pick_all]
end RE
set_option Elab.async false
set_option linter.all false
set_option maxRecDepth 100000
/-! Sums of tuples, sets of whole numbers, sorted whole numbers. -/
namespace RE
open PySem PySem.Spec PyProof.Rows L2
/-! ### a set of a list -/
section
variable {P : Program} {w : World} {A : Around} {E : Value → Shared → Prop} {s : Shared}
/-- the empty set as it is made -/
abbrev bareS (w : World) : Obj := { cls := .type "set", dict := none, data := .set #[] 0 (.fresh 0 0 (!w.params.followText "set-order")) }
abbrev InSet (w : World) (s : Shared) (ns : List Int) (s₂ : Shared) : Prop := ∃ h' tk c, s₂ = { s with heap := h', toks := tk } ∧ SetR w h' s.heap.objs.size (fun j => decide (j ∈ ns)) c ∧ c ≤ ns.length ∧ ∀ b o, s.heap.get? b = some o → h'.get? b = some o
set_option maxHeartbeats 3200000 in
theorem set_of_list {l : Addr} {items : Array Value} (ns : List Int) {Q : Value → Shared → Prop} (hh : A.handled = none) (hl : s.heap.IsList l items) (hi : IntsAre items.toList ns) (hb : ns.length + 1 < scanBound) (h : ∀ s₂, InSet w s ns s₂ → Q (.ref s.heap.objs.size) s₂) :
    wpAny (model P w) A (call (.type "set") [.ref l]) Q E s := by
  have hn : items.size = ns.length := by rw [← Array.length_toList]; exact IntsAre.length hi
  obtain ⟨c, tl, hmro⟩ := F.called_set.mro
  have z0 := F.called_set.made
  have z1 := F.called_set.sub
  refine wpAny_call (codeAny_of_tree (wpAny_pure ⟨Code.quiet_builtin _ (by decide +kernel), codeAny_builtin F.entry_type_call ?_⟩))
  rw [Around.under_plain (weight_type_call_type "set" [.ref l] []) rfl]
  have z2 := F.called_set.notType
  have z3 := F.called_set.canCreate
  have z4 := F.typeCall_set_1 (.ref l)
  repeat (any_goals (first | assumption | wp_step))
  refine codeAny_mono (code_set_led1 (.ref l) (E := E) (Q₁ := fun x y => x = .ref s.heap.objs.size ∧ y = { s with heap := s.heap.push (bareS w) }) ⟨rfl, rfl⟩) fun r s₁ hr => ?_
  rcases r with e | ⟨_ | obj⟩
  all_goals first | exact hr | exact hr.elim | skip
  obtain ⟨rfl, rfl⟩ := hr
  have e0 : (s.heap.push (bareS w)).get? s.heap.objs.size = some (bareS w) := Heap.get?_push_size _ rfl
  have eT : Shared.TypeIs { s with heap := s.heap.push (bareS w) } (.ref s.heap.objs.size) "set" := ⟨_, e0, rfl⟩
  have z5 := F.called_set.init.lookup
  have z6 := F.called_set.init.bind (.ref s.heap.objs.size)
  repeat (any_goals (first | assumption | wp_step))
  refine codeAny_mono (codeAny_call_builtin (R := wants (fun r s₂ => r = .none ∧ InSet w s ns s₂) E) F.called_set.init.plain F.entry_set_init (check_set_init_1 eT ?_)) fun r₂ s₂ hr₂ => ?_
  · obtain ⟨⟨k0, k1, k2, k3⟩, ho, rfl, m, rfl⟩ := hl
    have lt := Heap.lt_size ho
    have ho1 : (s.heap.push (bareS w)).IsList l items := ⟨_, Heap.get?_push_of_some _ ho, rfl, m, rfl⟩
    have y1 := F.sub_list_set
    have y2 := F.sub_list_frozenset
    have y3 : (Value.type "list" == Value.type "dict") = false := by decide
    unfold Builtin.«set.__init__» noKeywords Builtin.Frozenset.updateFrom
    generalize hJ : pyIter = J
    wp_walk
    subst hJ
    refine wpAny_pyIter_list ho1 (wpAny_bind (wpAny_runValue ?_))
    have hsz : (s.heap.push (bareS w)).objs.size = s.heap.objs.size + 1 := Heap.size_push ..
    have n1 : l ≠ (s.heap.push (bareS w)).objs.size := hsz ▸ Nat.ne_of_lt (Nat.lt_succ_of_lt lt)
    have n2 : s.heap.objs.size ∉ [(s.heap.push (bareS w)).objs.size, l] := by
      rw [List.mem_cons, List.mem_singleton, hsz]
      rintro (z | z)
      · exact absurd z (Nat.ne_of_lt (Nat.lt_succ_self _))
      · exact absurd z.symm (Nat.ne_of_lt lt)
    have hv : ∀ (i : Nat) (v : Value), items[i]? = some v → ∃ k t, ns[i]? = some k ∧ v = .int k t := fun i v e => by
      have lt' : i < ns.length := hn ▸ (Array.getElem?_eq_some_iff.mp e).1
      obtain ⟨t, e'⟩ := PyProof.Rows.IntsAre.int_at hi i v (by rw [Array.getElem?_toList]; exact e)
      exact ⟨ns[i], t, List.getElem?_eq_getElem lt', by rw [e', List.getD_eq_getElem?_getD, List.getElem?_eq_getElem lt']; rfl⟩
    have hA : A.in1.in1.in1.handled = none := by simp [hh]
    refine set_update_ints ((Walks.list hA _ l n1 items).toS) s.heap.objs.size n2 ns hn hb hv (items.size - 0) 0 _ (by omega) (Nat.zero_le _) ⟨⟨_, Heap.get?_push_size _ rfl, rfl, rfl⟩, ho1.push _⟩ ⟨0, Nat.le_refl 0, setR_new_at (Heap.get?_push_of_some _ e0)⟩ ?_
    rintro ⟨h', g2, d', tk', os'⟩ c' hm hc' hS'
    obtain rfl : g2 = s.gens := hm.gens
    obtain rfl : d' = s.drawn := hm.drawn
    obtain rfl : os' = s.os := hm.os
    refine wpAny_pure (wpAny_pure ⟨rfl, h', tk', c', rfl, hS', by rw [← hn]; exact hc', fun b o e => ?_⟩)
    have lb := Heap.lt_size e
    refine hm.heap b o ?_ (Heap.get?_push_of_some _ (Heap.get?_push_of_some _ e))
    rw [List.mem_cons, List.mem_singleton, hsz]
    rintro (z | z)
    · exact absurd z (Nat.ne_of_lt lb)
    · exact absurd z (Nat.ne_of_lt (Nat.lt_succ_of_lt lb))
  · rcases r₂ with e | ⟨_ | r⟩
    all_goals first | exact hr₂ | exact hr₂.elim | skip
    obtain ⟨rfl, hx⟩ := hr₂
    obtain ⟨h', tk, c, rfl, a1, a2, a3⟩ := id hx
    repeat (any_goals (first | assumption | wp_step))
    exact h _ hx
end
/-! ### sorting -/
theorem insI_perm (i : Int) : ∀ js : List Int, (insI i js).Perm (i :: js)
  | [] => .refl _
  | j :: js => by
    unfold insI
    split
    · exact .refl _
    · exact ((insI_perm i js).cons j).trans (.swap i j js)
theorem sortI_perm : ∀ is : List Int, (sortI is).Perm is
  | [] => .refl _
  | i :: is => (insI_perm i (sortI is)).trans ((sortI_perm is).cons i)
theorem insI_up (i : Int) : ∀ {js : List Int}, js.Pairwise (· ≤ ·) → (insI i js).Pairwise (· ≤ ·)
  | [], _ => by simp [insI]
  | j :: js, h => by
    rw [List.pairwise_cons] at h
    unfold insI
    split
    · rw [List.pairwise_cons, List.pairwise_cons]
      exact ⟨fun k hk => by
        rcases List.mem_cons.mp hk with rfl | hk
        · assumption
        · have := h.1 k hk; omega, h⟩
    · rw [List.pairwise_cons]
      refine ⟨fun k hk => ?_, insI_up i h.2⟩
      rcases List.mem_cons.mp ((insI_perm i js).mem_iff.mp hk) with rfl | hk
      · omega
      · exact h.1 k hk
theorem sortI_up : ∀ is : List Int, (sortI is).Pairwise (· ≤ ·)
  | [] => .nil
  | i :: is => insI_up i (sortI_up is)
theorem up_one : ∀ {a b : List Int}, a.Perm b → a.Pairwise (· ≤ ·) → b.Pairwise (· ≤ ·) → a = b
  | [], b, p, _, _ => (List.nil_perm.mp p).symm
  | i :: a, [], p, _, _ => absurd p.length_eq (by simp)
  | i :: a, j :: b, p, ha, hb => by
    rw [List.pairwise_cons] at ha hb
    have h1 : i ≤ j := by
      rcases List.mem_cons.mp (p.mem_iff.mpr (List.mem_cons_self ..)) with e | e
      · omega
      · exact ha.1 j e
    have h2 : j ≤ i := by
      rcases List.mem_cons.mp (p.mem_iff.mp (List.mem_cons_self ..)) with e | e
      · omega
      · exact hb.1 i e
    obtain rfl : i = j := by omega
    rw [up_one (List.perm_cons i |>.mp p) ha.2 hb.2]
theorem once_mem (k : Int) : ∀ (is acc : List Int), k ∈ onceI acc is ↔ k ∈ acc ∨ k ∈ is
  | [], acc => by simp [onceI]
  | i :: is, acc => by
    rw [onceI, once_mem k is]
    split
    · rename_i h
      obtain ⟨j, hj, e⟩ := List.any_eq_true.mp h
      have e : j = i := by simpa using e
      subst e
      rw [List.mem_cons]
      constructor
      · rintro (z | z)
        · exact .inl z
        · exact .inr (.inr z)
      · rintro (z | rfl | z)
        · exact .inl z
        · exact .inl hj
        · exact .inr z
    · rw [List.mem_append, List.mem_singleton, List.mem_cons]
      constructor
      · rintro ((z | z) | z)
        · exact .inl z
        · exact .inr (.inl z)
        · exact .inr (.inr z)
      · rintro (z | z | z)
        · exact .inl (.inl z)
        · exact .inl (.inr z)
        · exact .inr z
theorem once_nodup : ∀ (is acc : List Int), acc.Nodup → (onceI acc is).Nodup
  | [], acc, h => h
  | i :: is, acc, h => by
    rw [onceI]
    refine once_nodup is _ ?_
    split
    · exact h
    · rename_i hn
      rw [List.nodup_append]
      refine ⟨h, by simp, fun a ha b hb => ?_⟩
      obtain rfl := List.mem_singleton.mp hb
      intro e
      subst e
      exact hn (List.any_eq_true.mpr ⟨a, ha, by simp⟩)
theorem lt_nodup {l : List Int} (h : l.Pairwise (· < ·)) : l.Nodup := h.imp fun h => by omega
theorem once_sorted {is ns : List Int} (h : ns.Pairwise (· < ·)) (m : ∀ k, k ∈ ns ↔ k ∈ is) : ns = sortI (onceI [] is) := by
  refine up_one ?_ (h.imp fun h => by omega) (sortI_up _)
  refine List.Perm.trans ?_ (sortI_perm _).symm
  rw [List.perm_ext_iff_of_nodup (lt_nodup h) (once_nodup is [] (by simp))]
  intro a
  rw [m, once_mem]
  simp
theorem minI_spec : ∀ (js : List Int) (i : Int), (minI i js = i ∨ minI i js ∈ js) ∧ minI i js ≤ i ∧ ∀ j ∈ js, minI i js ≤ j
  | [], i => ⟨.inl rfl, Int.le_refl _, fun _ h => (List.not_mem_nil h).elim⟩
  | j :: js, i => by
    obtain ⟨h1, h2, h3⟩ := minI_spec js (if j < i then j else i)
    rw [minI]
    refine ⟨?_, ?_, ?_⟩
    · rcases h1 with h1 | h1
      · split at h1
        · rename_i hc; rw [if_pos hc, h1]; exact .inr (List.mem_cons_self ..)
        · rename_i hc; rw [if_neg hc, h1]; exact .inl rfl
      · exact .inr (List.mem_cons_of_mem _ h1)
    · split at h2 <;> rename_i hc
      · rw [if_pos hc]; omega
      · rw [if_neg hc]; exact h2
    · intro k hk
      rcases List.mem_cons.mp hk with rfl | hk
      · split at h2 <;> rename_i hc
        · rw [if_pos hc]; exact h2
        · rw [if_neg hc]; omega
      · exact h3 k hk
theorem maxI_spec : ∀ (js : List Int) (i : Int), (maxI i js = i ∨ maxI i js ∈ js) ∧ i ≤ maxI i js ∧ ∀ j ∈ js, j ≤ maxI i js
  | [], i => ⟨.inl rfl, Int.le_refl _, fun _ h => (List.not_mem_nil h).elim⟩
  | j :: js, i => by
    obtain ⟨h1, h2, h3⟩ := maxI_spec js (if i < j then j else i)
    rw [maxI]
    refine ⟨?_, ?_, ?_⟩
    · rcases h1 with h1 | h1
      · split at h1
        · rename_i hc; rw [if_pos hc, h1]; exact .inr (List.mem_cons_self ..)
        · rename_i hc; rw [if_neg hc, h1]; exact .inl rfl
      · exact .inr (List.mem_cons_of_mem _ h1)
    · split at h2 <;> rename_i hc
      · rw [if_pos hc]; omega
      · rw [if_neg hc]; exact h2
    · intro k hk
      rcases List.mem_cons.mp hk with rfl | hk
      · split at h2 <;> rename_i hc
        · rw [if_pos hc]; exact h2
        · rw [if_neg hc]; omega
      · exact h3 k hk
/-! ### calls -/
section
variable {X : Cx}
theorem cr_sumT (hc : X.calm = true) : CallR X (.builtin "sum") (fun vs H Q => ∃ (a : Addr) (ns : List Int), vs = [V.ref a] ∧ SqT X.K H a (ns.map V.int) ∧ Q (.int ns.sum) H) := by
  intro pins s σ H vs us Q I r ⟨a, ns, e, hs, q⟩
  subst e
  obtain ⟨its, rv, hl, _⟩ := I.tuple hs
  rw [Vals.ref1 r]
  have hi := rv.ints
  obtain ⟨xs, hx⟩ := hi.allInts.items
  have hn : numsOf its = ns := hi.numsOf
  have hx : its.toArray = intItems xs := hx
  have hx2 : its = (intItems xs).toList := by rw [← hx]
  rw [hx2, nums_intItems] at hn
  rw [hx] at hl
  refine PySem.W.ktm_sumG (I.ok.hd hc) hl fun h' tk t' hk => ⟨.int ns.sum, H, I.kept hk, ⟨t', ?_⟩, q⟩
  rw [preSum_eq, List.take_of_length_le (by simp), hn]
/-- a set of whole numbers -/
def rSetI (K : PySem.W.Frag) (w : World) : List V → Hp → VK → Prop := fun vs H Q => ∃ (a : Addr) (ns : List Int), vs = [V.ref a] ∧ (SqL K H a (ns.map V.int) ∨ SqT K H a (ns.map V.int)) ∧ ns.length + 1 < scanBound ∧
  ∀ (p : Addr) (S : Int → Bool) (c : Nat), H p = none → c ≤ ns.length → (∀ k, S k = ns.any fun j => j == k) → Q (.ref p) (upd H p (SetO w p S c))
theorem any_dec (ns : List Int) (k : Int) : decide (k ∈ ns) = ns.any fun j => j == k := by
  rw [Bool.eq_iff_iff, decide_eq_true_eq, List.any_eq_true]
  constructor
  · intro h; exact ⟨k, h, by simp⟩
  · rintro ⟨j, hj, e⟩
    have e : j = k := by simpa using e
    exact e ▸ hj
theorem cr_setI (hc : X.calm = true) : CallR X (.type "set") (rSetI X.K X.w) := by
  intro pins s σ H vs us Q I r ⟨a, ns, e, hs, hb, q⟩
  subst e
  rw [Vals.ref1 r]
  have fin : ∀ s₂, InSet X.w s ns s₂ → EP X pins σ Q (.ref s.heap.objs.size) s₂ := by
    rintro s₂ ⟨h', tk, c, rfl, a1, a2, a3⟩
    exact ⟨.ref _, _, I.laid (t' := tk) a3 (Nat.le_refl _) (setO_new a1), rfl, q _ _ c (I.hok.fresh (Nat.le_refl _)) a2 fun k => any_dec ns k⟩
  rcases hs with hs | hs
  · obtain ⟨its, rv, hl, _⟩ := I.list hs
    exact set_of_list ns (I.ok.hd hc) hl.isList rv.ints hb fin
  · obtain ⟨its, rv, hl, _⟩ := I.tuple hs
    exact call_set_tupI ns (I.ok.hd hc) hl rv.ints hb fun h' tk c a1 a2 a3 => fin _ ⟨h', tk, c, rfl, a1, a2, a3⟩
end
end RE
set_option Elab.async false
set_option linter.all false
set_option maxRecDepth 100000
/-! [::-1], [::k], built-ins, isinstance, attributes, chains. -/
namespace RE
open PySem PySem.Spec PyProof.Rows L2
variable {X : Cx} {ca : Nat → Addr} {e : Expr} {k : Nat} {p1 p2 p3 pos : Pos}

theorem pe_rev {te : TE} (he : PE X e te) : PE X (.Subscript e (.Slice none none (some (.UnaryOp .USub (.Constant (.int 1) k p1) p2)) p3) pos) (tUn (rUn ⟨X.K, ca, X.w⟩ revD) te) := by
  refine ⟨fun pins s σ H Q I h => ?_⟩
  refine Subscript_ (thn (he.run pins s σ H _ I h) fun v s1 ⟨x, H1, I1, r1, F, a, r, sub, ha, hr, q⟩ => ?_)
  have hst : PO X (some (.UnaryOp .USub (.Constant (.int 1) k p1) p2)) (tPart (tUn (rU fun i => .int (-i)) (tC (.int 1)))) := po_some (pe_un un_neg pe_int)
  refine wpAny_Slice (thn (po_none.run pins s1 σ H1 (fun o H2 => o = none ∧ H2 = H1) I1 ⟨rfl, rfl⟩) fun vl s2 ⟨l, H2, I2, pl, el, e2⟩ => ?_)
  subst el e2
  refine thn (po_none.run pins s2 σ H2 (fun o H3 => o = none ∧ H3 = H2) I2 ⟨rfl, rfl⟩) fun vu s3 ⟨u, H3, I3, pu, eu, e3⟩ => ?_
  subst eu e3
  refine thn (hst.run pins s3 σ H3 (fun o H4 => o = some (-1) ∧ H4 = H3) I3 ⟨1, rfl, -1, rfl, rfl, rfl⟩) fun vs s4 ⟨o, H4, I4, ps, eo, e4⟩ => ?_
  subst eo e4
  have I5 : Inv X pins σ H4 { s4 with heap := s4.heap.push { cls := .type "slice", data := .fields #[vl, vu, vs] } } := I4.kept (t' := s4.toks) fun b ob q => Heap.get?_push_of_some _ q
  cases a <;> simp only [revD] at hr <;> try contradiction
  · rename_i ds
    cases hr
    obtain ⟨t, xs, rfl, st, rp⟩ := rd_tup sub ha
    cases r1
    obtain ⟨its, rr, ht, hz⟩ := I5.tuple st
    have hlen := rr.length
    show wpAny (model X.prog X.w) X.A (subscriptTail e (.Slice none none (some (.UnaryOp .USub (.Constant (.int 1) k p1) p2)) p3) (.ref t) (.ref s4.heap.objs.size)) (EP X pins σ Q) X.xe { s4 with heap := s4.heap.push { cls := .type "slice", data := .fields #[vl, vu, vs] } }
    refine tail_any (ops := [.ref t, .ref s4.heap.objs.size]) ht.typeIs (PyProof.Rows.slot_tuple_getitem.lookup) ?_ (by with_unfolding_all rfl)
    have hsz : its.toArray.size = its.length := List.size_toArray ..
    refine getItem_tuple_step (k := -1) ht (Heap.IsSliceOf.new _ vl vu vs) pl pu ps (by decide) (by decide) ?_ ?_
    · rw [hsz, adjust_down, places_down]
      have ep : (List.range its.length).filterMap (fun (m : Nat) => its.toArray[((its.length : Int) - 1 + (m : Int) * (-1)).toNat]?) = its.reverse := by
        rw [← pick_down its]
        apply congrArg (fun f => List.filterMap f (List.range its.length))
        funext m
        simp
      show EP X pins σ Q _ _
      rw [ep]
      refine ⟨.ref _, _, I5.laid (t' := s4.toks) (o := .tup xs.reverse) (fun b ob q => Heap.get?_push_of_some _ q) (Nat.le_refl _) ?_, rfl, Res.tup sub rp.reverse q _ (I5.hok.fresh (Nat.le_refl _))⟩
      exact ⟨by rw [List.length_reverse]; exact hz, _, rr.reverse, ⟨_, Heap.get?_push_size _ rfl, rfl, _, rfl⟩⟩
    · rw [hsz, adjust_down, places_down, ← hlen]
      exact hz
  · rename_i ds
    cases hr
    obtain ⟨t, xs, rfl, st, rp⟩ := ha
    cases r1
    obtain ⟨its, rr, ht, hz⟩ := I5.list st
    have hlen := rr.length
    show wpAny (model X.prog X.w) X.A (subscriptTail e (.Slice none none (some (.UnaryOp .USub (.Constant (.int 1) k p1) p2)) p3) (.ref t) (.ref s4.heap.objs.size)) (EP X pins σ Q) X.xe { s4 with heap := s4.heap.push { cls := .type "slice", data := .fields #[vl, vu, vs] } }
    refine tail_any (ops := [.ref t, .ref s4.heap.objs.size]) ht.isList.typeIs (PySem.slot_list_getitem.lookup) ?_ (by with_unfolding_all rfl)
    refine wpAny_getItem_list_slice ht.isList (Heap.IsSliceOf.new _ vl vu vs) pl pu ps (by decide) ?_ (by rw [List.size_toArray]; omega)
    rw [PySem.W.krv_pick]
    refine ⟨.ref _, _, I5.laid (t' := s4.toks) (o := .lst xs.reverse) (fun b ob q => Heap.get?_push_of_some _ q) (Nat.le_refl _) ?_, rfl, Res.lst sub rp.reverse q _ (I5.hok.fresh (Nat.le_refl _))⟩
    exact ⟨by rw [List.length_reverse]; exact hz, _, 0, rr.reverse, Heap.get?_push_size _ rfl⟩
theorem places_le (n : Nat) (z : Int) (hz : 2 ≤ z) : Builtin.Slice.slicePlaces 0 n z ≤ n := by
  unfold Builtin.Slice.slicePlaces
  simp only [show z > 0 by omega, if_true]
  split
  · have h1 : ((n : Int) - 0 - 1) / z ≤ (n : Int) - 0 - 1 := Int.ediv_le_self _ (by omega)
    omega
  · simp
theorem pe_stp {te : TE} {z : Int} (he : PE X e te) : PE X (.Subscript e (.Slice none none (some (.Constant (.int z) k p1)) p3) pos) (tUn (rUn ⟨X.K, ca, X.w⟩ (stpD z)) te) := by
  refine ⟨fun pins s σ H Q I h => ?_⟩
  refine Subscript_ (thn (he.run pins s σ H _ I h) fun v s1 ⟨x, H1, I1, r1, F, a, r, sub, ha, hr, q⟩ => ?_)
  have hst : PO X (some (.Constant (.int z) k p1)) (tPart (tC (.int z))) := po_some pe_int
  refine wpAny_Slice (thn (po_none.run pins s1 σ H1 (fun o H2 => o = none ∧ H2 = H1) I1 ⟨rfl, rfl⟩) fun vl s2 ⟨l, H2, I2, pl, el, e2⟩ => ?_)
  subst el e2
  refine thn (po_none.run pins s2 σ H2 (fun o H3 => o = none ∧ H3 = H2) I2 ⟨rfl, rfl⟩) fun vu s3 ⟨u, H3, I3, pu, eu, e3⟩ => ?_
  subst eu e3
  refine thn (hst.run pins s3 σ H3 (fun o H4 => o = some z ∧ H4 = H3) I3 ⟨z, rfl, rfl, rfl⟩) fun vs s4 ⟨o, H4, I4, ps, eo, e4⟩ => ?_
  subst eo e4
  have I5 : Inv X pins σ H4 { s4 with heap := s4.heap.push { cls := .type "slice", data := .fields #[vl, vu, vs] } } := I4.kept (t' := s4.toks) fun b ob q => Heap.get?_push_of_some _ q
  cases a <;> simp only [stpD] at hr <;> try contradiction
  split at hr
  · rename_i ds hk
    cases hr
    obtain ⟨t, xs, rfl, st, rp⟩ := rd_tup sub ha
    cases r1
    obtain ⟨its, rr, ht, hz⟩ := I5.tuple st
    have hlen := rr.length
    show wpAny (model X.prog X.w) X.A (subscriptTail e (.Slice none none (some (.Constant (.int z) k p1)) p3) (.ref t) (.ref s4.heap.objs.size)) (EP X pins σ Q) X.xe { s4 with heap := s4.heap.push { cls := .type "slice", data := .fields #[vl, vu, vs] } }
    refine tail_any (ops := [.ref t, .ref s4.heap.objs.size]) ht.typeIs (PyProof.Rows.slot_tuple_getitem.lookup) ?_ (by with_unfolding_all rfl)
    have hsz : its.toArray.size = its.length := List.size_toArray ..
    refine getItem_tuple_step (k := z) ht (Heap.IsSliceOf.new _ vl vu vs) pl pu ps (by omega) (by omega) ?_ ?_
    · rw [hsz, adjust_up z _ (by omega)]
      have ep : (List.range (Builtin.Slice.slicePlaces 0 its.length z)).filterMap (fun (m : Nat) => its.toArray[(0 + (m : Int) * z).toNat]?) = (List.range (Builtin.Slice.slicePlaces 0 its.length z)).filterMap fun (m : Nat) => its[(0 + (m : Int) * z).toNat]? := by
        apply congrArg (fun f => List.filterMap f _)
        funext m
        simp
      show EP X pins σ Q _ _
      rw [ep]
      have rv := filterMap_vals rr (fun m => (0 + (m : Int) * z).toNat) (List.range (Builtin.Slice.slicePlaces 0 its.length z))
      have rd := filterMap_reps rp (fun m => (0 + (m : Int) * z).toNat) (List.range (Builtin.Slice.slicePlaces 0 its.length z))
      rw [← hlen, ← rp.length] at rd
      refine ⟨.ref _, _, I5.laid (t' := s4.toks) (o := .tup ((List.range (Builtin.Slice.slicePlaces 0 its.length z)).filterMap fun (m : Nat) => xs[(0 + (m : Int) * z).toNat]?)) (fun b ob q => Heap.get?_push_of_some _ q) (Nat.le_refl _) ?_, rfl, ?_⟩
      · refine ⟨?_, _, rv, ⟨_, Heap.get?_push_size _ rfl, rfl, _, rfl⟩⟩
        refine Nat.le_trans (List.length_filterMap_le _ _) ?_
        rw [List.length_range]
        have := places_le its.length z hk
        omega
      · refine Res.tup sub ?_ q _ (I5.hok.fresh (Nat.le_refl _))
        rw [← hlen, ← rp.length]
        exact rd
    · rw [hsz, adjust_up z _ (by omega)]
      have := places_le its.length z hk
      show Builtin.Slice.slicePlaces 0 its.length z ≤ sizeLine
      omega
  · contradiction

/-! ### built-ins -/
def biName : Bi → Str
  | .len => "len" | .int => "int" | .abs => "abs" | .min2 => "min" | .max2 => "max" | .tuple => "tuple" | .list => "list" | .any => "any" | .all => "all" | .sum => "sum" | .sorted => "sorted" | .min1 => "min" | .max1 => "max" | .set => "set"
def biVal : Bi → Value
  | .len => .builtin "len" | .int => .type "int" | .abs => .builtin "abs" | .min2 => .builtin "min" | .max2 => .builtin "max" | .tuple => .type "tuple" | .list => .type "list" | .any => .builtin "any" | .all => .builtin "all" | .sum => .builtin "sum" | .sorted => .builtin "sorted" | .min1 => .builtin "min" | .max1 => .builtin "max" | .set => .type "set"
theorem biBoot (b : Bi) : bootBuiltins (biName b) = some (biVal b) := by cases b <;> decide +kernel
theorem biNm (b : Bi) : biName b ≠ "__name__" ∧ (biName b == ("__debug__" : Str)) = false := by cases b <;> decide +kernel
theorem paired1 {α β : Type} {G : α → β → Prop} {a : α} {xs : List β} (h : Paired G [a] xs) : ∃ b, xs = [b] ∧ G a b := by
  cases h with
  | cons r t => cases t; exact ⟨_, rfl, r⟩
theorem paired2 {α β : Type} {G : α → β → Prop} {a a' : α} {xs : List β} (h : Paired G [a, a'] xs) : ∃ b b', xs = [b, b'] ∧ G a b ∧ G a' b' := by
  cases h with
  | cons r t =>
    obtain ⟨b', rfl, r'⟩ := paired1 t
    exact ⟨_, _, rfl, r, r'⟩
theorem reps_ints {R : Rc} {F : Hp} : ∀ is : List Int, Reps R F (is.map D.int) (is.map V.int)
  | [] => Reps.nil
  | i :: is => Reps.cons rep_int (reps_ints is)
theorem Res.set {R : Rc} {F H : Hp} {Q : VK} {ns : List Int} {S : Int → Bool} {n : Nat} (s : Same F H) (hn : n ≤ ns.length) (hS : ∀ k, S k = ns.any fun j => j == k) (q : Res R F H (.sh (.set ns)) Q) : ∀ p, H p = none → Q (.ref p) (upd H p (SetO R.w p S n)) := by
  intro p na
  have nF : F p = none := by
    cases z : F p with
    | none => rfl
    | some u => have := s p u z; rw [na] at this; cases this
  refine q (.ref p) (upd F p (SetO R.w p S n)) (upd H p (SetO R.w p S n)) (same_updF nF) (fun b u e => ?_) (same_upd' na) (fun b hb => ?_) ?_
  · by_cases hb : b = p
    · subst hb; rw [upd_same] at e ⊢; exact e
    · rw [upd_ne hb] at e ⊢; exact s b u e
  · by_cases h : b = p
    · subst h; exact .inr na
    · rw [upd_ne h] at hb; exact .inl hb
  · show Rep R _ (.set ns) _
    simp only [Rep]
    exact ⟨p, S, n, rfl, upd_same, hn, hS⟩
theorem bir_all (hc : X.calm = true) (b : Bi) : CallR X (biVal b) (rBi ⟨X.K, ca, X.w⟩ b) := by
  rintro pins s σ H xs us Q I r ⟨F, ds, rv, sub, hp, e, q⟩
  unfold biD at e
  split at e <;> try contradiction
  · cases e
    obtain ⟨v, rfl, p, ys, rfl, st, rp⟩ := paired1 hp
    exact call_len_seq pins s σ H _ us Q I r ⟨p, ys, rfl, .inl st, by rw [rp.length] at q; exact q.scal rep_int sub⟩
  · cases e
    obtain ⟨v, rfl, hv⟩ := paired1 hp
    obtain ⟨p, ys, rfl, st, rp⟩ := rd_tup sub hv
    exact call_len_seq pins s σ H _ us Q I r ⟨p, ys, rfl, .inr st, by rw [rp.length] at q; exact q.scal rep_int sub⟩
  · cases e
    obtain ⟨v, rfl, hv⟩ := paired1 hp
    cases rd_int hv
    exact call_int1 pins s σ H _ us Q I r (.inl ⟨_, rfl, q.scal rep_int sub⟩)
  · cases e
    obtain ⟨v, rfl, hv⟩ := paired1 hp
    cases rd_bl hv
    exact call_int1 pins s σ H _ us Q I r (.inr ⟨_, rfl, q.scal rep_int sub⟩)
  · cases e
    obtain ⟨v, rfl, hv⟩ := paired1 hp
    cases rd_int hv
    exact call_abs pins s σ H _ us Q I r ⟨_, rfl, q.scal rep_int sub⟩
  · cases e
    obtain ⟨v, v', rfl, hv, hv'⟩ := paired2 hp
    cases rd_int hv
    cases rd_int hv'
    exact call_min2 hc pins s σ H _ us Q I r ⟨_, _, rfl, q.scal rep_int sub⟩
  · cases e
    obtain ⟨v, v', rfl, hv, hv'⟩ := paired2 hp
    cases rd_int hv
    cases rd_int hv'
    exact call_max2 hc pins s σ H _ us Q I r ⟨_, _, rfl, q.scal rep_int sub⟩
  · cases e
    obtain ⟨v, rfl, p, ys, rfl, st, rp⟩ := paired1 hp
    exact call_tuple_of pins s σ H _ us Q I r ⟨p, ys, rfl, .inl ⟨st, Res.tup sub rp q⟩⟩
  · cases e
    obtain ⟨v, rfl, hv⟩ := paired1 hp
    obtain ⟨p, ys, rfl, st, rp⟩ := rd_tup sub hv
    exact call_tuple_of pins s σ H _ us Q I r ⟨p, ys, rfl, .inr ⟨st, q.scal hv sub⟩⟩
  · cases e
    obtain ⟨v, rfl, p, ys, rfl, st, rp⟩ := paired1 hp
    exact call_list_of pins s σ H _ us Q I r ⟨p, ys, rfl, .inl st, Res.lst sub rp q⟩
  · cases e
    obtain ⟨v, rfl, hv⟩ := paired1 hp
    obtain ⟨p, ys, rfl, st, rp⟩ := rd_tup sub hv
    exact call_list_of pins s σ H _ us Q I r ⟨p, ys, rfl, .inr st, Res.lst sub rp q⟩
  · obtain ⟨bs, e1, e2⟩ := Option.bind_eq_some_iff.mp e
    cases e2
    obtain ⟨v, rfl, p, ys, rfl, st, rp⟩ := paired1 hp
    have eb := rp.bools e1
    subst eb
    exact cr_any hc pins s σ H _ us Q I r ⟨p, bs, rfl, st, q.scal rep_bl sub⟩
  · obtain ⟨bs, e1, e2⟩ := Option.bind_eq_some_iff.mp e
    cases e2
    obtain ⟨v, rfl, p, ys, rfl, st, rp⟩ := paired1 hp
    have eb := rp.bools e1
    subst eb
    exact cr_all hc pins s σ H _ us Q I r ⟨p, bs, rfl, st, q.scal rep_bl sub⟩
  · obtain ⟨is, e1, e2⟩ := Option.bind_eq_some_iff.mp e
    cases e2
    obtain ⟨v, rfl, p, ys, rfl, st, rp⟩ := paired1 hp
    have eb := rp.ints e1
    subst eb
    exact cr_sum hc pins s σ H _ us Q I r ⟨p, is, rfl, st, q.scal rep_int sub⟩
  · obtain ⟨is, e1, e2⟩ := Option.bind_eq_some_iff.mp e
    cases e2
    obtain ⟨v, rfl, hv⟩ := paired1 hp
    obtain ⟨p, ys, rfl, st, rp⟩ := rd_tup sub hv
    have eb := rp.ints e1
    subst eb
    exact cr_sumT hc pins s σ H _ us Q I r ⟨p, is, rfl, st, q.scal rep_int sub⟩
  · obtain ⟨is, e1, e2⟩ := Option.bind_eq_some_iff.mp e
    cases e2
    obtain ⟨v, rfl, p, ys, rfl, st, rp⟩ := paired1 hp
    have eb := rp.ints e1
    subst eb
    refine cr_sortedI pins s σ H _ us Q I r ⟨p, is, rfl, st, fun ns' a pm up na => ?_⟩
    obtain rfl : ns' = sortI is := up_one (pm.trans (sortI_perm is).symm) up (sortI_up is)
    exact Res.lst sub (reps_ints _) q a na
  · rename_i ns
    split at e
    · rename_i h64
      cases e
      obtain ⟨v, rfl, hv⟩ := paired1 hp
      obtain ⟨p, S, n, rfl, st, hn, hS⟩ := rd_set sub hv
      refine cr_sortedSet hc pins s σ H _ us Q I r ⟨p, S, n, rfl, st, by omega, fun ms a up mem _ na => ?_⟩
      obtain rfl : ms = sortI (onceI [] ns) := once_sorted up fun k => by rw [mem, hS, ← any_dec, decide_eq_true_eq]
      exact Res.lst sub (reps_ints _) q a na
    · cases e
  · obtain ⟨is, e1, e2⟩ := Option.bind_eq_some_iff.mp e
    obtain ⟨v, rfl, p, ys, rfl, st, rp⟩ := paired1 hp
    have eb := rp.ints e1
    subst eb
    split at e2
    · rename_i i r'
      cases e2
      refine cr_min hc pins s σ H _ us Q I r ⟨p, _, rfl, st, by simp, fun m hm hle => ?_⟩
      obtain ⟨h1, h2, h3⟩ := minI_spec r' i
      obtain rfl : m = minI i r' := by
        have a1 : m ≤ minI i r' := by
          rcases h1 with h1 | h1
          · rw [h1]; exact hle i (List.mem_cons_self ..)
          · exact hle _ (List.mem_cons_of_mem _ h1)
        rcases List.mem_cons.mp hm with rfl | hm
        · omega
        · have := h3 m hm; omega
      exact q.scal rep_int sub
    · cases e2
  · obtain ⟨is, e1, e2⟩ := Option.bind_eq_some_iff.mp e
    obtain ⟨v, rfl, p, ys, rfl, st, rp⟩ := paired1 hp
    have eb := rp.ints e1
    subst eb
    split at e2
    · rename_i i r'
      cases e2
      refine cr_max hc pins s σ H _ us Q I r ⟨p, _, rfl, st, by simp, fun m hm hle => ?_⟩
      obtain ⟨h1, h2, h3⟩ := maxI_spec r' i
      obtain rfl : m = maxI i r' := by
        have a1 : maxI i r' ≤ m := by
          rcases h1 with h1 | h1
          · rw [h1]; exact hle i (List.mem_cons_self ..)
          · exact hle _ (List.mem_cons_of_mem _ h1)
        rcases List.mem_cons.mp hm with rfl | hm
        · omega
        · have := h3 m hm; omega
      exact q.scal rep_int sub
    · cases e2
  · obtain ⟨is, e1, e2⟩ := Option.bind_eq_some_iff.mp e
    split at e2
    · rename_i hl
      cases e2
      obtain ⟨v, rfl, p, ys, rfl, st, rp⟩ := paired1 hp
      have eb := rp.ints e1
      subst eb
      exact cr_setI hc pins s σ H _ us Q I r ⟨p, is, rfl, .inl st, hl, fun a S c na hc' hS => Res.set sub hc' hS q a na⟩
    · cases e2
  · obtain ⟨is, e1, e2⟩ := Option.bind_eq_some_iff.mp e
    split at e2
    · rename_i hl
      cases e2
      obtain ⟨v, rfl, hv⟩ := paired1 hp
      obtain ⟨p, ys, rfl, st, rp⟩ := rd_tup sub hv
      have eb := rp.ints e1
      subst eb
      exact cr_setI hc pins s σ H _ us Q I r ⟨p, is, rfl, .inr st, hl, fun a S c na hc' hS => Res.set sub hc' hS q a na⟩
    · cases e2

/-! ### tuple(reversed(x)) -/
theorem tV_trev {R : Rc} {f : Fv} {σ : L2.St} {H : Hp} {Q : VK} (h : tV R (vUn trevD f) σ H Q) : RT.tTupRev R.K (tV R f) σ H Q := by
  obtain ⟨env, F, rv, env', S, e, q⟩ := tV_un h
  refine ⟨env, F, rv, env', S, e, fun v F' H' S' x' r' => ?_⟩
  obtain ⟨F1, a, r, sub, ha, hr, q1⟩ := q v F' H' S' x' r'
  cases a <;> simp only [trevD] at hr <;> try contradiction
  cases hr
  obtain ⟨t, xs, rfl, st, rp⟩ := ha
  exact ⟨t, xs, rfl, st, Res.tup sub rp.reverse q1⟩
/-! ### isinstance -/
def tyStr : Ty → String
  | .tuple => "tuple" | .list => "list" | .bool => "bool" | .int => "int" | .str => "str"
def tyName : Ty → Str
  | .tuple => "tuple" | .list => "list" | .bool => "bool" | .int => "int" | .str => "str"
theorem tyBoot (t : Ty) : bootBuiltins (tyName t) = some (.type (tyStr t)) := by cases t <;> decide +kernel
theorem tyNm (t : Ty) : tyName t ≠ "__name__" ∧ (tyName t == ("__debug__" : Str)) = false := by cases t <;> decide +kernel
def dTy : D → String
  | .non => "NoneType" | .bl _ => "bool" | .int _ => "int" | .str _ => "str" | .tup _ => "tuple" | .lst _ => "list" | .ins _ _ _ => "" | .set _ => "set"
theorem tyx_of {R : Rc} {F H : Hp} (sub : Same F H) {d : D} {v : V} (h : RdOk R F H d v) (n : ∀ c fs ds, d ≠ .ins c fs ds) (n2 : ∀ ns, d ≠ .set ns) : TyX R.K H v (.type (dTy d)) := by
  cases d with
  | non => cases rd_non h; exact .base .non
  | bl b => cases rd_bl h; exact .base (.bl b)
  | int b => cases rd_int h; exact .base (.int b)
  | str b => cases rd_str h; exact .base (.str b)
  | tup ds =>
    obtain ⟨p, xs, rfl, st, rp⟩ := rd_tup sub h
    rcases st with (st | ⟨o, st⟩) | ⟨o, its, m, st, hc, _⟩
    · exact .base (.tup st)
    · exact .fTuple st
    · exact .kTuple st hc
  | lst ds =>
    obtain ⟨p, xs, rfl, st, rp⟩ := h
    rcases st with (st | ⟨o, st⟩) | ⟨o, its, m, st, hc, _⟩
    · exact .base (.lst st)
    · exact .base (.frz st)
    · exact .kList st hc
  | ins c fs ds => exact absurd rfl (n c fs ds)
  | set ns => exact absurd rfl (n2 ns)
theorem kit_of' {K : PySem.W.Frag} {d : D} {t : Ty} {b : Bool} (e : isiD d t = some b) : PySem.W.kitOne K (.type (dTy d)) (.type (tyStr t)) = some b := by
  refine kit_ty ?_
  cases d <;> simp only [isiD, Option.some.injEq] at e <;> try contradiction
  all_goals (subst e; simp only [dTy]; cases t <;> decide +kernel)
theorem isi_run {b : Bool} {t : Ty} {d : D} {F H : Hp} {v : V} {Q : VK} (sub : Same F H) (h : RdOk ⟨X.K, ca, X.w⟩ F H d v) (e : isiD d t = some b) (q : Q (.bl b) H) : rIsi X.K [v, .ty (tyStr t)] H Q :=
  ⟨v, .ty (tyStr t), .type (dTy d), .type (tyStr t), b, rfl, .ty _, tyx_of sub h (fun c fs ds z => by subst z; exact nomatch e) (fun ns z => by subst z; exact nomatch e), kit_of' e, q⟩
/-! ### attributes -/
/-- what is known of the classes: plain ones, the fields named are no names of the class -/
structure ClsOk (K : PySem.W.Frag) (ca : Nat → Addr) (hasF : Nat → Str → Bool) : Prop where
  cls : ∀ c f, hasF c f = true → Cls K (ca c)
  no : ∀ c f, hasF c f = true → NoAttr K (ca c) f
theorem lookup_fv {R : Rc} {F : Hp} {f : Str} {d : D} : ∀ {fs : List Str} {ds : List D} {fv : List (Str × V)}, fv.map (·.1) = fs → Reps R F ds (fv.map (·.2)) → (fs.zip ds).lookup f = some d → ∃ v, fv.lookup f = some v ∧ Rep R F d v
  | _, [], [], _, _, e => by simp at e
  | _, [], _ :: _, _, h, _ => by have := h.length; simp at this
  | _, _ :: _, [], _, h, _ => by have := h.length; simp at this
  | fs, d' :: ds, (g, w) :: fv, en, h, e => by
    subst en
    rw [List.map_cons] at h
    obtain ⟨v, vs, e1, h1, h2⟩ := Reps.cons_iff.mp h
    cases e1
    rw [List.map_cons, List.zip_cons_cons, List.lookup_cons] at e
    rw [List.lookup_cons]
    cases hb : f == g with
    | true =>
      rw [hb] at e
      cases e
      exact ⟨w, rfl, h1⟩
    | false =>
      rw [hb] at e
      exact lookup_fv rfl h2 e
theorem pe_fldR {te : TE} {hasF : Nat → Str → Bool} {f : Str} (C : ClsOk X.K ca hasF) (he : PE X e te) (hb : attributeBase e f X.env (eval e X.env) = eval e X.env) : PE X (.Attribute e f pos) (tUn (rUn ⟨X.K, ca, X.w⟩ (fldD (fun c => hasF c f) f)) te) := by
  refine ⟨fun pins s σ H Q I h => ?_⟩
  refine attr_of hb (thn (he.run pins s σ H _ I h) fun u s1 ⟨x, H1, I1, rx, F, a, r, sub, ha, hr, q⟩ => ?_)
  cases a <;> simp only [fldD] at hr <;> try contradiction
  rename_i c fs ds
  split at hr
  · rename_i hf
    obtain ⟨d, e1, e2⟩ := Option.bind_eq_some_iff.mp hr
    cases e2
    obtain ⟨a, dx, fv, rfl, ea, en, rp⟩ := ha
    obtain rfl : u = Value.ref a := rx
    obtain ⟨v, l, rv⟩ := lookup_fv en rp e1
    exact getattr_ok I1 ea (C.cls c f hf) (C.no c f hf) l fun u' s2 I2 ru => ⟨v, H1, I2, ru, q.scal rv sub⟩
  · contradiction

/-! ### a op b op' c -/
theorem tV_ch2 {op op' : CmpOp} {f g h' : Fv} {R : Rc} {σ : L2.St} {H : Hp} {Q : VK} (h : tV R (vCh2 op op' f g h') σ H Q) :
    tChain (rOp R (cmpR op)) (rOp R (cmpR op')) (tV R f) (tV R g) (tV R h') σ H Q := by
  obtain ⟨env, F, rv, env', S, e, q⟩ := h
  simp only [vCh2, Option.bind_eq_some_iff, Prod.exists] at e
  obtain ⟨ra, env1, e1, rb, env2, e2, x, e3, y, e4, k, e5, e6⟩ := e
  refine ⟨env, F, ra, env1, S, e1, fun va F1 H1 S1 x1 r1 => ⟨env1, F1, rb, env2, S1, e2, fun vb F2 H2 S2 x2 r2 => ?_⟩⟩
  have r1' : RvOk R σ env2 F2 H2 ra va := r1.ext x2 fun _ z => .inl z
  have y1 : Ext (Cell σ env) (Cell σ env1) F H F1 H1 := x1.mono (fun _ z => z) fun _ z => .inl z
  have y2 : Ext (Cell σ env1) (Cell σ env2) F1 H1 F2 H2 := x2.mono (fun _ z => z) fun _ z => .inl z
  refine ⟨F2, x, y, .sh (.bl k), S2.sub, rd_ok S2 r1' e3, rd_ok S2 r2 e4, by simp only [cmpR, e5, Option.bind_some], Res.fin S2 fun v F3 H3 S3 x3 r3 => ?_⟩
  have r3' : Rep R F3 (.bl k) v := r3
  simp only [Rep] at r3'
  subst r3'
  have y3 : Ext (Cell σ env2) (Cell σ env2) F2 H2 F3 H3 := x3.mono (fun _ z => z) fun _ z => .inl z
  have r2' : RvOk R σ env2 F3 H3 rb vb := r2.ext y3 fun _ z => z
  refine ⟨k, rfl, ?_⟩
  cases k with
  | true =>
    rw [if_pos rfl] at e6 ⊢
    simp only [Option.bind_eq_some_iff, Prod.exists, Option.some.injEq, Prod.mk.injEq] at e6
    obtain ⟨rc, env3, e7, y', e8, z, e9, k', e10, e11, e12⟩ := e6
    subst e11; subst e12
    refine ⟨env2, F3, rc, env3, S3, e7, fun vc F4 H4 S4 x4 r4 => ?_⟩
    have y4 : Ext (Cell σ env2) (Cell σ env3) F3 H3 F4 H4 := x4.mono (fun _ z => z) fun _ z => .inl z
    have r2'' : RvOk R σ env3 F4 H4 rb vb := r2'.ext y4 fun _ z => z
    refine ⟨F4, y', z, .sh (.bl k'), S4.sub, rd_ok S4 r2'' e8, rd_ok S4 r4 e9, by simp only [cmpR, e10, Option.bind_some], Res.fin S4 fun v F5 H5 S5 x5 r5 => q v F5 H5 S5 ?_ r5⟩
    exact (((y1.trans y2).trans y3).trans y4).trans x5
  | false =>
    rw [if_neg Bool.false_ne_true] at e6 ⊢
    simp only [Option.some.injEq, Prod.mk.injEq] at e6
    obtain ⟨rfl, rfl⟩ := e6
    exact q _ F3 H3 S3 (((y1.trans y2).trans y3).mono (fun _ z => z) fun b z => z.elim (fun z => z) False.elim) r3
end RE
set_option Elab.async false
set_option linter.all false
set_option maxRecDepth 100000
/-! Calls of defs, new instances, methods. -/
namespace RE
open PySem PySem.Spec PyProof.Rows L2

def fnSp (R : Rc) (T : Tab) (n k : Nat) : Sp := fun vs H Q _ => ∃ F ds r b, StOk R (vs.map some) (argE (borT T k) ds) F H ∧ callN T n k ds = some (r, b) ∧
  ∀ v F' H', StOk R (vs.map some) (endE b ds) F' H' → Ext (Cell (vs.map some) (argE (borT T k) ds)) (fun x => Cell (vs.map some) (endE b ds) x ∨ Tmp r v x) F H F' H' → RvOk R (vs.map some) (endE b ds) F' H' r v → Q v H'

structure Nms where
  fn : Nat → Str
  gl : Nat → Bool
  cls : Nat → Str
  glob : Nat → Str
  free : List Str
structure Wd where
  T : Tab
  nm : Nms
  ca : Nat → Addr
  fa : Nat → Addr
/-- what a body stands in: the defs keep their promises one level deeper -/
structure Fine (W : Wd) (n : Nat) (X : Cx) : Prop where
  calm : X.calm = true
  xe : X.xe = fun _ _ => False
  room : Room n X.A
  fns : ∀ k fn, W.T.fns k = some fn → ∃ fd ps, FnOk X.prog X.w X.K X.mg X.base CX0 n (W.fa k) fd ps (fnSp ⟨X.K, W.ca, X.w⟩ W.T n k) ∧ PySem.W.keepIn X.K (.ref (W.fa k)) = true ∧ Binds X.K fd ps [] ∧
    (W.nm.gl k = true → X.mg (W.nm.fn k) = some (.ref (W.fa k)))
  mks : ∀ m, n = m + 1 → ∀ k fn, W.T.fns k = some fn → ∃ fd ps, FnOk X.prog X.w X.K X.mg X.base CX0 m (W.fa k) fd ps (fnSp ⟨X.K, W.ca, X.w⟩ W.T m k) ∧ Binds X.K fd ps []
  cls : ∀ c cl, W.T.cls c = some cl → Mk X.K (W.ca c) (W.fa cl.init) ∧ X.mg (W.nm.cls c) = some (.ref (W.ca c)) ∧ Cls X.K (W.ca c)
  meth : ∀ c cl m k, W.T.cls c = some cl → cl.meths.lookup m = some k → Meth X.K (W.ca c) m (W.fa k)
  flds : ClsOk X.K W.ca (hasFT W.T)
  glob : ∀ k d, W.T.glob k = some d → ∃ u v, X.mg (W.nm.glob k) = some u ∧ RelV v u ∧ ∀ F, Rep ⟨X.K, W.ca, X.w⟩ F d v
  free : ∀ x ∈ W.nm.free, X.mg x = none

variable {R : Rc} {F F' F1 H H' H1 : Hp} {σ : L2.St} {env env' env1 : Sl}
theorem cell_vals {ds : List D} {b : Tg2} : ¬ Cell σ (ds.map Slot.val) b := by
  rintro ⟨i, k, d, e, _⟩
  rw [List.getElem?_map] at e
  obtain ⟨d', _, e2⟩ := Option.map_eq_some_iff.mp e
  cases e2
theorem StOk.args {ds : List D} {vs : List V} (s : Same F H) (h : Reps R F ds vs) : StOk R (vs.map some) (ds.map Slot.val) F H where
  len := by rw [List.length_map, List.length_map, h.length]
  sub := s
  val := fun i d e => by
    rw [List.getElem?_map] at e
    obtain ⟨d', e1, e2⟩ := Option.map_eq_some_iff.mp e
    cases e2
    obtain ⟨v, e3, r⟩ := h.get e1
    exact ⟨v, by rw [List.getElem?_map, e3]; rfl, r⟩
  mu := fun i k d e => by
    rw [List.getElem?_map] at e
    obtain ⟨d', _, e2⟩ := Option.map_eq_some_iff.mp e
    cases e2
  ne := fun i j k k' d d' p e => by
    rw [List.getElem?_map] at e
    obtain ⟨d', _, e2⟩ := Option.map_eq_some_iff.mp e
    cases e2
theorem cell_bor {ds : List D} {vs : List V} {p : Addr} {b : Tg2} {d : D} : Cell (some (V.ref p) :: vs.map some) (Slot.mu .bor d :: ds.map Slot.val) b ↔ b.2 = p := by
  constructor
  · rintro ⟨i, k, d', e1, e2, _⟩
    cases i with
    | zero =>
      simp at e2
      exact e2.symm
    | succ i =>
      rw [List.getElem?_cons_succ, List.getElem?_map] at e1
      obtain ⟨d', _, e3⟩ := Option.map_eq_some_iff.mp e1
      cases e3
  · rintro rfl
    exact ⟨0, .bor, d, rfl, rfl, fun _ z => nomatch z⟩
theorem StOk.argsB {ds : List D} {vs : List V} {p : Addr} {d : D} (s : Same F H) (h : Reps R F ds vs) (n : F p = none) (m : MuO R F H p d) : StOk R (some (V.ref p) :: vs.map some) (Slot.mu .bor d :: ds.map Slot.val) F H where
  len := by rw [List.length_cons, List.length_cons, List.length_map, List.length_map, h.length]
  sub := s
  val := fun i d' e => by
    cases i with
    | zero => simp at e
    | succ i =>
      rw [List.getElem?_cons_succ] at e
      exact (StOk.args s h).val i d' e
  mu := fun i k d' e => by
    cases i with
    | zero =>
      simp at e
      obtain ⟨rfl, rfl⟩ := e
      exact ⟨p, rfl, n, m⟩
    | succ i =>
      rw [List.getElem?_cons_succ, List.getElem?_map] at e
      obtain ⟨d', _, e2⟩ := Option.map_eq_some_iff.mp e
      cases e2
  ne := fun i j k k' d1 d2 p' e1 e2 _ _ => by
    have z : ∀ (i : Nat) (k : Kd) (d1 : D), (Slot.mu Kd.bor d :: ds.map Slot.val)[i]? = some (Slot.mu k d1) → i = 0 := fun i k d1 e => by
      cases i with
      | zero => rfl
      | succ i =>
        rw [List.getElem?_cons_succ, List.getElem?_map] at e
        obtain ⟨d', _, e2⟩ := Option.map_eq_some_iff.mp e
        cases e2
    rw [z i k d1 e1, z j k' d2 e2]

/-- a slot's thing has become d', by what changed at its address alone -/
theorem StOk.turned {i : Nat} {k : Kd} {d d' : D} {p : Addr} {C' : Tg2 → Prop} (S : StOk R σ env F H) (hi : env[i]? = some (.mu k d)) (hp : σ[i]? = some (some (.ref p))) (x : Ext (fun b => b.2 = p) C' F H F' H') (sub : Same F' H') (n : F' p = none) (m : MuO R F' H' p d') :
    StOk R σ (env.set i (.mu k d')) F' H' := by
  have hl : i < env.length := by
    by_cases hl : i < env.length
    · exact hl
    · rw [List.getElem?_eq_none (by simpa using hl)] at hi; cases hi
  have mu' : ∀ (j : Nat) (k' : Kd) (d1 : D), (env.set i (.mu k d'))[j]? = some (Slot.mu k' d1) → ∃ k2 d2, env[j]? = some (Slot.mu k2 d2) := fun j k' d1 e => by
    by_cases hj : i = j
    · subst hj; exact ⟨k, d, hi⟩
    · rw [List.getElem?_set_ne hj] at e; exact ⟨k', d1, e⟩
  refine ⟨by simpa using S.len, sub, fun j d1 e => ?_, fun j k' d1 e => ?_, fun j j' k1 k2 d1 d2 q e1 e2 e3 e4 => ?_⟩
  · by_cases hj : i = j
    · subst hj; rw [List.getElem?_set_self hl] at e; cases e
    · rw [List.getElem?_set_ne hj] at e
      obtain ⟨v, e1, r⟩ := S.val j d1 e
      exact ⟨v, e1, Rep.mono x.sub _ _ r⟩
  · by_cases hj : i = j
    · subst hj
      rw [List.getElem?_set_self hl] at e
      cases e
      exact ⟨p, hp, n, m⟩
    · rw [List.getElem?_set_ne hj] at e
      obtain ⟨q, e1, n1, m1⟩ := S.mu j k' d1 e
      have np : ¬ q = p := fun z => by
        subst z
        exact hj (S.ne i j k k' d d1 q hi e hp e1)
      obtain ⟨o, ho, _⟩ := m1.some
      obtain ⟨_, h2, _⟩ := x.stay ho n1 np
      exact ⟨q, e1, h2, m1.mono x.sub fun o' h' => x.keep q o' h' np⟩
  · obtain ⟨k3, d3, f1⟩ := mu' _ _ _ e1
    obtain ⟨k4, d4, f2⟩ := mu' _ _ _ e2
    exact S.ne _ _ _ _ _ _ _ f1 f2 e3 e4
theorem cell_set {i : Nat} {k : Kd} {d d' : D} {b : Tg2} (hi : env[i]? = some (.mu k d)) : Cell σ (env.set i (.mu k d')) b ↔ Cell σ env b := by
  have hl : i < env.length := by
    by_cases hl : i < env.length
    · exact hl
    · rw [List.getElem?_eq_none (by simpa using hl)] at hi; cases hi
  constructor
  · rintro ⟨j, k1, d1, e1, e2, e3⟩
    by_cases hj : i = j
    · subst hj
      rw [List.getElem?_set_self hl] at e1
      cases e1
      exact ⟨i, k, d, hi, e2, e3⟩
    · rw [List.getElem?_set_ne hj] at e1; exact ⟨j, k1, d1, e1, e2, e3⟩
  · rintro ⟨j, k1, d1, e1, e2, e3⟩
    by_cases hj : i = j
    · subst hj
      rw [hi] at e1
      cases e1
      exact ⟨i, k, d', by rw [List.getElem?_set_self hl], e2, e3⟩
    · exact ⟨j, k1, d1, by rw [List.getElem?_set_ne hj]; exact e1, e2, e3⟩

section
variable {X : Cx} {W : Wd} {n : Nat}
theorem rv_kind {r : Rv} {v : V} (h : RvOk R [] [] F H r v) : (∃ d, r = .sh d ∧ Rep R F d v) ∨ (∃ d p, r = .nw d ∧ v = .ref p ∧ F p = none ∧ MuO R F H p d) := by
  cases r with
  | sh d => exact .inl ⟨d, rfl, h⟩
  | nw d =>
    obtain ⟨p, e, n, m, _⟩ := h
    exact .inr ⟨d, p, rfl, e, n, m⟩
  | sl i =>
    have h : ([] : L2.St)[i]? = some (some v) := h
    simp at h
/-- the end of a call, seen from the caller: C are the cells that the callee may turn -/
theorem call_fin {r : Rv} {v : V} {ds : List D} {vs : List V} {b : Option D} {C C' : Tg2 → Prop} (S : StOk R σ env F H) (S' : StOk R (vs.map some) (endE b ds) F' H') (x : Ext C (fun y => C' y ∨ Tmp r v y) F H F' H') (rk : RvOk R (vs.map some) (endE b ds) F' H' r v)
    (nsl : ∀ i, r ≠ .sl i) {env2 : Sl} (S2 : StOk R σ env2 F' H') (hc : ∀ y, Cell σ env2 y ↔ Cell σ env y) (hC : ∀ y, C y → ¬ Tmp r v y ∧ Cell σ env y) : Ext (Cell σ env) (fun y => Cell σ env2 y ∨ Tmp r v y) F H F' H' ∧ RvOk R σ env2 F' H' r v := by
  have cell_there : ∀ y, Cell σ env y → H y.2 ≠ none := fun y ⟨i, k, d, e1, e2, _⟩ => by
    obtain ⟨p, e3, _, m⟩ := S.mu i k d e1
    rw [e2] at e3
    cases e3
    obtain ⟨o, ho, _⟩ := m.some
    rw [ho]; exact fun z => nomatch z
  have tmp_new : ∀ y, Tmp r v y → ¬ Cell σ env y := fun y t c => by
    rcases x.cel y (.inr t) with z | z
    · exact (hC y z).1 t
    · exact cell_there y c z
  refine ⟨⟨x.sub, x.dom, fun y o h c => x.keep y o h fun z => c (hC _ z).2, fun y h => (x.new y h).imp_right fun z => z.imp_right fun z => (hC _ z).2, fun y h => ?_⟩, ?_⟩
  · rcases h with h | h
    · exact .inl ((hc y).mp h)
    · rcases x.cel y (.inr h) with z | z
      · exact absurd h (hC y z).1
      · exact .inr z
  · cases r with
    | sh d => exact rk
    | nw d =>
      obtain ⟨p, e, n, m, _⟩ := rk
      exact ⟨p, e, n, m, fun z => tmp_new (false, p) e ((hc _).mp z)⟩
    | sl i => exact absurd rfl (nsl i)
theorem retD_kind {r r' : Rv} (h : retD r env = some r') : ∀ i, r' ≠ .sl i := by
  intro i z
  subst z
  cases r with
  | sh d => simp [retD] at h
  | nw d => simp [retD] at h
  | sl j =>
    simp only [retD] at h
    split at h <;> simp at h
theorem callN_kind {T : Tab} {n k : Nat} {ds : List D} {r : Rv} {b : Option D} (h : callN T n k ds = some (r, b)) : ∀ i, r ≠ .sl i := by
  intro i
  cases n with
  | zero => rw [callN] at h; exact nomatch h
  | succ n =>
    rw [callN_succ] at h
    obtain ⟨fn, _, h⟩ := Option.bind_eq_some_iff.mp h
    unfold runFn at h
    split at h
    · obtain ⟨p, _, h⟩ := Option.bind_eq_some_iff.mp h
      split at h
      · obtain ⟨r1, e1, h⟩ := Option.bind_eq_some_iff.mp h
        obtain ⟨b1, e2, h⟩ := Option.bind_eq_some_iff.mp h
        simp only [Option.some.injEq, Prod.mk.injEq] at h
        rw [← h.1]
        exact retD_kind e1 i
      · obtain ⟨b1, e2, h⟩ := Option.bind_eq_some_iff.mp h
        simp only [Option.some.injEq, Prod.mk.injEq] at h
        rw [← h.1]
        exact fun z => nomatch z
      · exact nomatch h
    · exact nomatch h
/-- the borrowed thing comes back exactly where it was lent -/
theorem callN_bor {T : Tab} {n k : Nat} {ds : List D} {r : Rv} {b : Option D} (h : callN T n k ds = some (r, b)) : b.isSome = borT T k := by
  cases n with
  | zero => rw [callN] at h; exact nomatch h
  | succ n =>
    rw [callN_succ] at h
    obtain ⟨fn, hf, h⟩ := Option.bind_eq_some_iff.mp h
    have hb : borT T k = fn.bor := by unfold borT; rw [hf]
    have key : ∀ (env : Sl) (b : Option D), endB fn env = some b → b.isSome = fn.bor := fun env b e => by
      unfold endB at e
      split at e
      · rename_i hfb
        split at e
        · cases e; rw [hfb]; rfl
        · exact nomatch e
      · rename_i hfb
        cases e
        cases hz : fn.bor with
        | true => exact absurd hz hfb
        | false => rfl
    rw [hb]
    unfold runFn at h
    split at h
    · obtain ⟨p, _, h⟩ := Option.bind_eq_some_iff.mp h
      split at h
      · obtain ⟨r1, e1, h⟩ := Option.bind_eq_some_iff.mp h
        obtain ⟨b1, e2, h⟩ := Option.bind_eq_some_iff.mp h
        simp only [Option.some.injEq, Prod.mk.injEq] at h
        rw [← h.2]
        exact key _ _ e2
      · obtain ⟨b1, e2, h⟩ := Option.bind_eq_some_iff.mp h
        simp only [Option.some.injEq, Prod.mk.injEq] at h
        rw [← h.2]
        exact key _ _ e2
      · exact nomatch h
    · exact nomatch h
theorem gs_bor {T : Tab} (n k : Nat) : (gs T n).bor k = borT T k := by cases n <;> rfl
theorem gs_glob {T : Tab} (n k : Nat) : (gs T n).glob k = T.glob k := by cases n <;> rfl
theorem gs_meth {T : Tab} (n c : Nat) (m : Str) : (gs T n).meth c m = methT T c m := by cases n <;> rfl
theorem gs_hasF {T : Tab} (n c : Nat) (m : Str) : (gs T n).hasF c m = hasFT T c m := by cases n <;> rfl
/-- the call, from the values on their way -/
theorem callE_ok {T : Tab} {n k : Nat} {rvs : List Rv} {vs : List V} {r : Rv} {Q : VK} {E : XK} (S : StOk R σ env F H) (h : RvsOk R σ env F H rvs vs) (e : callE (gs T n) k rvs env = some (r, env'))
    (q : ∀ v F' H', StOk R σ env' F' H' → Ext (fun b => Cell σ env b ∨ Tmps rvs vs b) (fun b => Cell σ env' b ∨ Tmp r v b) F H F' H' → RvOk R σ env' F' H' r v → Q v H') : fnSp R T n k vs H Q E := by
  unfold callE at e
  rw [gs_bor] at e
  cases hb : borT T k with
  | false =>
    rw [hb, if_neg Bool.false_ne_true] at e
    simp only [Option.bind_eq_some_iff, Prod.exists, Option.some.injEq, Prod.mk.injEq, gs_call] at e
    obtain ⟨ds, env1, e1, r1, b, e2, e3, e4⟩ := e
    subst e3; subst e4
    obtain ⟨F1, S1, rp, x1⟩ := escs_ok S h e1
    refine ⟨F1, ds, r1, b, by rw [hb]; exact StOk.args S1.sub rp, e2, fun v F' H' S' x' r' => ?_⟩
    have bn : b = none := by
      have := callN_bor e2
      rw [hb] at this
      cases b with
      | none => rfl
      | some d => simp at this
    subst bn
    have nc : ∀ y, ¬ Cell (vs.map some) (argE (borT T k) ds) y := fun y z => by
      rw [hb] at z
      exact cell_vals z
    have S2 : StOk R σ env1 F' H' := S1.ext x' (fun y _ z => nc _ z) S'.sub
    obtain ⟨x2, r2⟩ := call_fin S1 S' x' r' (callN_kind e2) S2 (fun _ => Iff.rfl) fun y z => absurd z (nc y)
    exact q v F' H' S2 (x1.trans x2) r2
  | true =>
    rw [hb, if_pos rfl] at e
    cases rvs with
    | nil => exact nomatch e
    | cons r0 rest =>
      obtain ⟨v0, ws, rfl, h1, h2, h3⟩ := h
      cases r0 with
      | sh d => exact nomatch e
      | nw d =>
        simp only [Option.bind_eq_some_iff, Prod.exists, Option.some.injEq, Prod.mk.injEq, gs_call] at e
        obtain ⟨ds, env1, e1, r1, b, e2, e3, e4⟩ := e
        subst e3; subst e4
        obtain ⟨F1, S1, rp, x1⟩ := escs_ok S h2 e1
        obtain ⟨p, rfl, n0, m0, c0⟩ := h1
        obtain ⟨o, ho, _⟩ := m0.some
        have np : ¬ (Cell σ env (true, p) ∨ Tmps rest ws (true, p)) := fun z => z.elim (fun z => c0 z.up) fun ⟨i, r', v', er, ev, t⟩ => h3 (true, p) rfl i r' v' er ev t
        have npf : ¬ (Cell σ env (false, p) ∨ Tmps rest ws (false, p)) := fun z => z.elim c0 fun ⟨i, r', v', er, ev, t⟩ => h3 (false, p) rfl i r' v' er ev t
        obtain ⟨g1, g2, g3⟩ := x1.stay ho n0 np
        have g3 : ¬ Cell σ env1 (false, p) := fun z => npf (g3 false z)
        have m1 : MuO R F1 H p d := m0.mono x1.sub fun _ z => z
        have SA : StOk R ((V.ref p :: ws).map some) (argE (borT T k) (d :: ds)) F1 H := by
          rw [hb]
          exact StOk.argsB S1.sub rp g2 m1
        refine ⟨F1, d :: ds, r1, b, SA, e2, fun v F' H' S' x' r' => ?_⟩
        have hcell : ∀ y : Tg2, Cell ((V.ref p :: ws).map some) (argE (borT T k) (d :: ds)) y ↔ y.2 = p := fun y => by
          rw [hb]
          exact cell_bor
        obtain ⟨d', rfl⟩ : ∃ d', b = some d' := by
          have := callN_bor e2
          rw [hb] at this
          exact Option.isSome_iff_exists.mp this
        have S2 : StOk R σ env1 F' H' := S1.ext x' (fun y z w => by
          rw [hcell] at w
          have w : y = p := w
          subst w
          exact g3 z) S'.sub
        have pend : Ext (fun y => Cell σ env1 y ∨ y.2 = p) (fun y => Cell σ env1 y ∨ Tmp r1 v y) F1 H F' H' := by
          refine ⟨x'.sub, x'.dom, fun y o h c => x'.keep y o h fun z => c (.inr ((hcell _).mp z)), fun y h => (x'.new y h).imp_right fun z => z.imp_right fun z => .inr ((hcell _).mp z), fun y h => ?_⟩
          rcases h with h | h
          · exact .inl (.inl h)
          · rcases x'.cel y (.inr h) with z | z
            · exact .inl (.inr ((hcell y).mp z))
            · exact .inr z
        have x1' : Ext (fun y => Cell σ env y ∨ Tmps (.nw d :: rest) (V.ref p :: ws) y) (fun y => Cell σ env1 y ∨ y.2 = p) F H F1 H := by
          refine (x1.pend (P := fun y => y.2 = p)).mono (fun y z => ?_) fun y z => z
          rcases z with (z | z) | z
          · exact .inl z
          · exact .inr (Tmps.cons.mpr (.inr z))
          · exact .inr (Tmps.cons.mpr (.inl (show V.ref p = V.ref y.2 by rw [z])))
        refine q v F' H' S2 (x1'.trans pend) ?_
        cases r1 with
        | sh d2 => exact r'
        | nw d2 =>
          obtain ⟨p2, e, n2, m2, c2⟩ := r'
          refine ⟨p2, e, n2, m2, fun z => ?_⟩
          have np2 : p2 ≠ p := fun w => by
            subst w
            exact c2 ⟨0, .bor, d', rfl, rfl, fun z => nomatch z⟩
          obtain ⟨i, k', d3, f1, f2, _⟩ := z
          obtain ⟨p3, f3, _, m3⟩ := S1.mu i k' d3 f1
          rw [f2] at f3
          cases f3
          obtain ⟨o3, ho3, _⟩ := m3.some
          rcases x'.cel (false, p2) (.inr e) with w | w
          · exact np2 ((hcell _).mp w)
          · have w : H p2 = none := w
            rw [ho3] at w; cases w
        | sl i => exact absurd rfl (callN_kind e2 i)
      | sl i =>
        simp only [Option.bind_eq_some_iff, Prod.exists] at e
        obtain ⟨ds, env1, e1, e5⟩ := e
        obtain ⟨F1, S1, rp, x1⟩ := escs_ok S h2 e1
        have h1 : σ[i]? = some (some v0) := h1
        have main : ∀ (kd : Kd) (d : D), kd ≠ .lck → env1[i]? = some (.mu kd d) → ((callN T n k (d :: ds)).bind fun r => match r.2 with
            | some d' => some (r.1, env1.set i (.mu kd d'))
            | none => none) = some (r, env') → fnSp R T n k (v0 :: ws) H Q E := fun kd d hkd hi e => by
          simp only [Option.bind_eq_some_iff, Prod.exists] at e
          obtain ⟨r1, b, e2, e3⟩ := e
          obtain ⟨p, f1, n1, m1⟩ := S1.mu i kd d hi
          rw [h1] at f1
          cases f1
          have SA : StOk R ((V.ref p :: ws).map some) (argE (borT T k) (d :: ds)) F1 H := by
            rw [hb]
            exact StOk.argsB S1.sub rp n1 m1
          split at e3
          · rename_i b d'
            simp only [Option.some.injEq, Prod.mk.injEq] at e3
            obtain ⟨rfl, rfl⟩ := e3
            refine ⟨F1, d :: ds, r1, some d', SA, e2, fun v F' H' S' x' r' => ?_⟩
            have hcell : ∀ y : Tg2, Cell ((V.ref p :: ws).map some) (argE (borT T k) (d :: ds)) y ↔ y.2 = p := fun y => by
              rw [hb]
              exact cell_bor
            obtain ⟨p', f2, n2, m2⟩ := S'.mu 0 .bor d' rfl
            have f2 : some (some (V.ref p)) = some (some (V.ref p')) := f2
            simp only [Option.some.injEq, V.ref.injEq] at f2
            subst f2
            have S2 : StOk R σ (env1.set i (.mu kd d')) F' H' := S1.turned hi h1 (x'.mono (D0 := fun b => b.2 = p) (fun y z => (hcell y).mp z) fun _ z => z) S'.sub n2 m2
            have hC : ∀ y, Cell ((V.ref p :: ws).map some) (argE (borT T k) (d :: ds)) y → ¬ Tmp r1 v y ∧ Cell σ env1 y := fun y z => by
              have z := (hcell y).mp z
              subst z
              refine ⟨fun t => ?_, ⟨i, kd, d, hi, h1, fun _ => hkd⟩⟩
              cases r1 with
              | nw d2 =>
                obtain ⟨p2, e, _, _, c2⟩ := r'
                have t : v = V.ref y.2 := t
                rw [e] at t
                cases t
                exact c2 ⟨0, .bor, d', rfl, rfl, fun z => nomatch z⟩
              | sh d2 => exact t
              | sl i => exact t
            obtain ⟨x2, r2⟩ := call_fin S1 S' x' r' (callN_kind e2) S2 (fun y => cell_set hi) hC
            refine q v F' H' S2 ?_ r2
            have x1' : Ext (fun y => Cell σ env y ∨ Tmps (.sl i :: rest) (V.ref p :: ws) y) (Cell σ env1) F H F1 H :=
              x1.mono (fun y z => z.imp_right fun z => Tmps.cons.mpr (.inr z)) fun _ z => z
            exact x1'.trans x2
          · exact nomatch e3
        split at e5
        · rename_i d hi
          rw [gs_call] at e5
          exact main .own d (fun z => nomatch z) hi e5
        · rename_i d hi
          rw [gs_call] at e5
          exact main .bor d (fun z => nomatch z) hi e5
        · exact nomatch e5
end
end RE
set_option Elab.async false
set_option linter.all false
set_option maxRecDepth 100000
/-! The rules for calls as expressions. -/
namespace RE
open PySem PySem.Spec PyProof.Rows L2
variable {X : Cx} {W : Wd} {n : Nat}

def noStar : Expr → Bool
  | .Starred _ _ => false
  | _ => true
theorem star_cons {e : Expr} {es : List Expr} {env : Env} (h : noStar e = true) : starEach (e :: es) env = (false, eval e env) :: starEach es env := by
  cases e <;> first | rfl | exact nomatch h
theorem star_all {env : Env} {pos : Pos} : ∀ {es : List Expr}, es.all noStar = true → (backTo pos (starEach es env)).any (·.1) = false
  | [], _ => rfl
  | e :: es, h => by
    rw [List.all_cons, Bool.and_eq_true] at h
    rw [star_cons h.1]
    exact star_all (es := es) h.2
theorem star_all' {env : Env} : ∀ {es : List Expr}, es.all noStar = true → (starEach es env).all (!·.1) = true
  | [], _ => rfl
  | e :: es, h => by
    rw [List.all_cons, Bool.and_eq_true] at h
    rw [star_cons h.1, List.all_cons, star_all' h.2]
    rfl
theorem star_len {env : Env} : ∀ {es : List Expr}, (starEach es env).length = es.length
  | [] => rfl
  | e :: es => by
    have : (starEach (e :: es) env).length = (starEach es env).length + 1 := by cases e <;> rfl
    rw [this, star_len, List.length_cons]

theorem pe_callV {k : Nat} {fn : Fn} {x : Str} {es : List Expr} {g : Sl → Option (List Rv × Sl)} {p pos : Pos} (Fi : Fine W n X) (hk : W.T.fns k = some fn) (gl : W.nm.gl k = true) (hx : x = W.nm.fn k) (hg : Gl X x) (hd : (x == ("__debug__" : Str)) = false)
    (hs : es.all noStar = true) (h0 : es = [] → g = fun env => some ([], env)) (ha : PA X es (tVs ⟨X.K, W.ca, X.w⟩ g)) : PE X (.Call (.Name x p) es [] pos) (tV ⟨X.K, W.ca, X.w⟩ (vCall (gs W.T n) k g)) := by
  subst hx
  obtain ⟨fd, ps, F, kp, hb, hm⟩ := Fi.fns k fn hk
  have main : ∀ {σ : L2.St} {H : Hp} {Q : VK}, tV ⟨X.K, W.ca, X.w⟩ (vCall (gs W.T n) k g) σ H Q → tVs ⟨X.K, W.ca, X.w⟩ g σ H fun vs H1 => fnSp ⟨X.K, W.ca, X.w⟩ W.T n k (vs ++ []) H1 Q E0 := by
    intro σ H Q h
    obtain ⟨env, F0, rv, env', S, e, q⟩ := h
    simp only [vCall, Option.bind_eq_some_iff, Prod.exists] at e
    obtain ⟨rvs, env1, e1, e2⟩ := e
    refine ⟨env, F0, rvs, env1, S, e1, fun vs F1 H1 S1 x1 r1 => ?_⟩
    show fnSp _ _ _ _ (vs ++ []) H1 Q E0
    rw [List.append_nil]
    exact callE_ok S1 r1 e2 fun v F' H' S2 x2 r2 => q v F' H' S2 (x1.trans x2) r2
  cases es with
  | nil =>
    refine PE.of (pe_call0 F Fi.room hg (hm gl) kp hb .nil pass0 hd) fun σ H Q h => ?_
    have h := main h
    rw [h0 rfl] at h
    exact tVs_nil h
  | cons e es =>
    rw [List.all_cons, Bool.and_eq_true] at hs
    exact PE.of (pe_call F Fi.room hg (hm gl) kp hb .nil pass0 ha hd (star_cons hs.1) (star_all hs.2)) fun σ H Q h => main h

/-! ### a new instance -/
theorem make_ok {R : Rc} {F H : Hp} {σ : L2.St} {env env' : Sl} {T : Tab} {m c : Nat} {rvs : List Rv} {vs : List V} {ds : List D} {d : D} {Q : VK} (S : StOk R σ env F H) (h : RvsOk R σ env F H rvs vs) (e1 : escs rvs env = some (ds, env')) {cl : Cl}
    (hcl : T.cls c = some cl) (e2 : callN T m cl.init (.ins c [] [] :: ds) = some (.sh .non, some d))
    (q : ∀ v F' H', StOk R σ env' F' H' → Ext (fun b => Cell σ env b ∨ Tmps rvs vs b) (fun b => Cell σ env' b ∨ Tmp (.sh d) v b) F H F' H' → RvOk R σ env' F' H' (.sh d) v → Q v H') :
    ∀ x dx, H x = none → H dx = none → dx ≠ x → fnSp R T m cl.init (.ref x :: (vs ++ [])) (upd (upd H dx (.own x)) x (.ins (R.ca c) dx [])) (fun v H2 => v = .non ∧ Q (.ref x) H2) E0 := by
  intro x dx nx ndx ne
  rw [List.append_nil]
  have hb : borT T cl.init = true := (callN_bor e2).symm
  obtain ⟨F1, S1, rp, x1⟩ := escs_ok S h e1
  obtain ⟨S2, y2, nF2, nC2⟩ := S1.laid (o := .own x) ndx
  have nx2 : (upd H dx (.own x)) x = none := by rw [upd_ne (Ne.symm ne)]; exact nx
  obtain ⟨S3, y3, nF3, nC3⟩ := S2.laid (o := .ins (R.ca c) dx []) nx2
  have m3 : MuO R F1 (upd (upd H dx (.own x)) x (.ins (R.ca c) dx [])) x (.ins c [] []) := ⟨dx, [], upd_same, rfl, Reps.nil⟩
  have SA : StOk R ((V.ref x :: vs).map some) (argE (borT T cl.init) (.ins c [] [] :: ds)) F1 (upd (upd H dx (.own x)) x (.ins (R.ca c) dx [])) := by
    rw [hb]
    exact StOk.argsB S3.sub rp nF3 m3
  refine ⟨F1, .ins c [] [] :: ds, .sh .non, some d, SA, e2, fun v F' H' S' x' r' => ?_⟩
  have r' : Rep R F' .non v := r'
  simp only [Rep] at r'
  refine ⟨r', ?_⟩
  have hcell : ∀ y : Tg2, Cell ((V.ref x :: vs).map some) (argE (borT T cl.init) (.ins c [] [] :: ds)) y ↔ y.2 = x := fun y => by
    rw [hb]
    exact cell_bor
  obtain ⟨p', f2, n2, m2⟩ := S'.mu 0 .bor d rfl
  have f2 : some (some (V.ref x)) = some (some (V.ref p')) := f2
  simp only [Option.some.injEq, V.ref.injEq] at f2
  subst f2
  have S4 : StOk R σ env' F' H' := S3.ext x' (fun y z w => by
    rw [hcell] at w
    have w : y = x := w
    subst w
    exact nC3 z) S'.sub
  have c4 : ¬ Cell σ env' (false, x) := nC3
  obtain ⟨F'', S5, rp5, sF5, hn5⟩ := S4.freezeN n2 m2 c4
  have hH : ∀ b o, H b = some o → (upd (upd H dx (.own x)) x (.ins (R.ca c) dx [])) b = some o := fun b o e => by
    rw [upd_ne (ne_of_none e nx), upd_ne (ne_of_none e ndx)]; exact e
  have hH' : ∀ b, (upd (upd H dx (.own x)) x (.ins (R.ca c) dx [])) b = none → H b = none := fun b e => by
    cases z : H b with
    | none => rfl
    | some o => rw [hH b o z] at e; cases e
  refine q (.ref x) F'' H' S5 (x1.trans ⟨(x'.sub).trans sF5, fun b z => hH' b (x'.dom b z), fun b o e c => ?_, fun b hb' => ?_, fun b hb' => ?_⟩) rp5
  · refine x'.keep b o (hH b o e) fun z => ?_
    rw [hcell] at z
    have z : b = x := z
    subst z
    rw [nx] at e; cases e
  · rcases hn5 b hb' with z | z
    · rcases x'.new b z with w | w | w
      · exact .inl w
      · exact .inr (.inl (hH' b w))
      · rw [hcell] at w
        have w : b = x := w
        subst w
        exact .inr (.inl nx)
    · subst z; exact .inr (.inl nx)
  · exact .inl (hb'.elim (fun z => z) False.elim)
theorem pe_mkV {c : Nat} {cl : Cl} {fn : Fn} {x : Str} {es : List Expr} {g : Sl → Option (List Rv × Sl)} {p pos : Pos} (Fi : Fine W n X) (hc : W.T.cls c = some cl) (hi : W.T.fns cl.init = some fn) (hx : x = W.nm.cls c) (hg : Gl X x) (hd : (x == ("__debug__" : Str)) = false)
    (hs : es.all noStar = true) (h0 : es = [] → g = fun env => some ([], env)) (ha : PA X es (tVs ⟨X.K, W.ca, X.w⟩ g)) : PE X (.Call (.Name x p) es [] pos) (tV ⟨X.K, W.ca, X.w⟩ (vMk (gs W.T n) c g)) := by
  subst hx
  cases n with
  | zero =>
    refine ⟨fun pins s σ H Q I h => ?_⟩
    obtain ⟨env, F0, rv, env', S, e, q⟩ := h
    simp only [vMk, Option.bind_eq_some_iff, Prod.exists] at e
    obtain ⟨_, _, _, _, _, _, _, e, _⟩ := e
    exact nomatch e
  | succ m =>
    obtain ⟨M, hm, _⟩ := Fi.cls c cl hc
    obtain ⟨fd, ps, F, hb⟩ := Fi.mks m rfl cl.init fn hi
    have main : ∀ {σ : L2.St} {H : Hp} {Q : VK}, tV ⟨X.K, W.ca, X.w⟩ (vMk (gs W.T (m + 1)) c g) σ H Q → tVs ⟨X.K, W.ca, X.w⟩ g σ H fun vs H1 => ∀ x dx, H1 x = none → H1 dx = none → dx ≠ x →
        fnSp ⟨X.K, W.ca, X.w⟩ W.T m cl.init (.ref x :: (vs ++ [])) (upd (upd H1 dx (.own x)) x (.ins (W.ca c) dx [])) (fun v H2 => v = .non ∧ Q (.ref x) H2) E0 := by
      intro σ H Q h
      obtain ⟨env, F0, rv, env', S, e, q⟩ := h
      simp only [vMk, Option.bind_eq_some_iff, Prod.exists, Option.some.injEq, Prod.mk.injEq] at e
      obtain ⟨rvs, env1, e1, ds, env2, e2, d, e3, e4, e5⟩ := e
      subst e4; subst e5
      refine ⟨env, F0, rvs, env1, S, e1, fun vs F1 H1 S1 x1 r1 => ?_⟩
      have e3 : makeBy W.T (callN W.T m) c ds = some d := e3
      unfold makeBy at e3
      rw [hc] at e3
      simp only [Option.bind_some] at e3
      obtain ⟨r, e6, e7⟩ := Option.bind_eq_some_iff.mp e3
      split at e7
      · cases e7
        exact make_ok S1 r1 e2 hc e6 fun v F' H' S2 x2 r2 => q v F' H' S2 (x1.trans x2) r2
      · exact nomatch e7
    cases es with
    | nil =>
      refine PE.of (pe_make0 M F Fi.room hg hm hb .nil pass0 hd) fun σ H Q h => ?_
      have h := main h
      rw [h0 rfl] at h
      exact tVs_nil h
    | cons e es =>
      rw [List.all_cons, Bool.and_eq_true] at hs
      exact PE.of (pe_make M F Fi.room hg hm hb .nil pass0 ha hd (star_cons hs.1) (star_all hs.2)) fun σ H Q h => main h

/-! ### a method -/
/-- no call without arguments (super) -/
def attrPlain : Expr → Bool
  | .Call (.Name _ _) [] [] _ => false
  | _ => true
theorem attr_plain {o : Expr} {f : Str} {env : Env} {whole : Sem Value} (h : attrPlain o = true) : attributeBase o f env whole = whole := by
  unfold attributeBase
  split
  · rename_i id p pos
    exact nomatch h
  · rfl
theorem meth_eq {o : Expr} {m : Str} {apos pos : Pos} {args : List Expr} {env : Env} (h : attrPlain o = true) (hs : args.all noStar = true) (hl : args.length < 30) (hp : (apos.endLine == pos.line) = true) :
    eval (.Call (.Attribute o m apos) args [] pos) env = (do
      let ov ← eval o env
      standAt apos.atName
      let (f, first) ← holding [ov] (getMethod ov m (do return (← importBound o env).getD true))
      callWith pos f first (backTo pos (starEach args env)) (backToKw pos (keywordEach [] env))) := by
  have e1 : (backTo pos (starEach args env)).all (!·.1) = true := by
    have := star_all' (env := env) hs
    simp only [List.all_eq_true] at this ⊢
    intro y hy
    obtain ⟨z, hz, rfl⟩ := List.mem_map.mp (show y ∈ (starEach args env).map _ from hy)
    exact this z hz
  have hf : methodCallForm (args.length + 0) (backTo pos (starEach args env)) (backToKw pos (keywordEach [] env)) = true := by
    unfold methodCallForm
    rw [e1]
    simp
    exact ⟨fun a b hm => absurd (show (a, b) ∈ ([] : List (Option Str × Sem Value)) from hm) (by simp), by show args.length + (if ([] : List (Option Str × Sem Value)).isEmpty = true then 0 else 1) < 30; simpa using hl⟩
  show (do
    let ov ← attributeBase o m env (eval o env)
    standAt apos.atName
    methodCall o m apos pos env ov (args.length + 0) (backTo pos (starEach args env)) (backToKw pos (keywordEach [] env))) = _
  rw [attr_plain h]
  unfold methodCall
  simp only [hf, calleeOf, methodCallPos, hp, if_true]
  rfl
theorem not_lookup {fs : List Str} {fv : List (Str × V)} {m : Str} (e : fv.map (·.1) = fs) (h : fs.contains m = false) : fv.lookup m = none := by
  subst e
  induction fv with
  | nil => rfl
  | cons y fv ih =>
    obtain ⟨g, w⟩ := y
    rw [List.map_cons, List.contains_cons, Bool.or_eq_false_iff] at h
    rw [List.lookup_cons, h.1]
    exact ih h.2
theorem pe_methV {o : Expr} {m : Str} {es : List Expr} {f : Fv} {g : Sl → Option (List Rv × Sl)} {apos pos : Pos} (Fi : Fine W n X) (hall : ∀ c k, methT W.T c m = some k → ∃ fn, W.T.fns k = some fn) (ho : PE X o (tV ⟨X.K, W.ca, X.w⟩ f)) (hp : attrPlain o = true)
    (hs : es.all noStar = true) (hl : es.length < 30) (hpos : (apos.endLine == pos.line) = true) (h0 : es = [] → g = fun env => some ([], env)) (ha : PA X es (tVs ⟨X.K, W.ca, X.w⟩ g)) : PE X (.Call (.Attribute o m apos) es [] pos) (tV ⟨X.K, W.ca, X.w⟩ (vMeth (gs W.T n) m f g)) := by
  refine ⟨fun pins s σ H Q I h => ?_⟩
  obtain ⟨env, F0, rv, env', S, e, q⟩ := h
  simp only [vMeth, Option.bind_eq_some_iff, Prod.exists] at e
  obtain ⟨ro, env1, e1, e2⟩ := e
  split at e2
  · rename_i c fs ds
    simp only [Option.bind_eq_some_iff, Prod.exists] at e2
    obtain ⟨rvs, env2, e3, k, e4, e5⟩ := e2
    rw [gs_meth] at e4
    split at e5
    · exact nomatch e5
    · rename_i hbk
      rw [Bool.not_eq_true, Bool.or_eq_false_iff] at hbk
      obtain ⟨fn, hfn⟩ := hall c k e4
      obtain ⟨cl, hcl, hm⟩ := Option.bind_eq_some_iff.mp e4
      obtain ⟨fd, ps, F, kp, hb, _⟩ := Fi.fns k fn hfn
      have M := Fi.meth c cl m k hcl hm
      obtain ⟨_, _, hC⟩ := Fi.cls c cl hcl
      have main : tV ⟨X.K, W.ca, X.w⟩ f σ H fun x H1 => ∃ a dx fs, x = .ref a ∧ H1 a = some (.ins (W.ca c) dx fs) ∧ fs.lookup m = none ∧ tVs ⟨X.K, W.ca, X.w⟩ g σ H1 fun vs H2 => fnSp ⟨X.K, W.ca, X.w⟩ W.T n k (x :: (vs ++ [])) H2 Q E0 := by
        refine ⟨env, F0, _, env1, S, e1, fun vo F1 H1 S1 x1 r1 => ?_⟩
        have r1' : Rep ⟨X.K, W.ca, X.w⟩ F1 (.ins c fs ds) vo := r1
        simp only [Rep] at r1'
        obtain ⟨a, dx, fv, rfl, fa, en, rp⟩ := r1'
        refine ⟨a, dx, fv, rfl, S1.sub _ _ fa, not_lookup en hbk.2, env1, F1, rvs, env2, S1, e3, fun vs F2 H2 S2 x2 r2 => ?_⟩
        show fnSp _ _ _ _ (V.ref a :: (vs ++ [])) H2 Q E0
        rw [List.append_nil]
        have y1 : Ext (Cell σ env) (Cell σ env1) F0 H F1 H1 := x1.mono (fun _ z => z) fun _ z => .inl z
        have r1'' : RvOk ⟨X.K, W.ca, X.w⟩ σ env2 F2 H2 (.sh (.ins c fs ds)) (.ref a) := r1.ext x2 fun _ z => .inl z
        refine callE_ok (rvs := .sh (.ins c fs ds) :: rvs) (vs := .ref a :: vs) S2 ⟨_, _, rfl, r1'', r2, fun b t => t.elim⟩ e5 fun v F' H' S3 x3 r3 => q v F' H' S3 ((y1.trans (x2.mono (D1 := fun b => Cell σ env2 b ∨ Tmps (.sh (.ins c fs ds) :: rvs) (.ref a :: vs) b) (fun _ z => z) fun b z => z.imp_right fun z => (Tmps.cons.mp z).elim False.elim fun z => z)).trans x3) r3
      cases es with
      | nil =>
        refine (pe_meth0 (sp := fnSp ⟨X.K, W.ca, X.w⟩ W.T n k) ho hC M F Fi.room hb .nil pass0 (meth_eq hp rfl (by simp) hpos)).run pins s σ H Q I ?_
        obtain ⟨env, F0, ro, env1, S, e1, q1⟩ := main
        refine ⟨env, F0, ro, env1, S, e1, fun vo F1 H1 S1 x1 r1 => ?_⟩
        obtain ⟨a, dx, fs', e6, e7, e8, h'⟩ := q1 vo F1 H1 S1 x1 r1
        refine ⟨a, dx, fs', e6, e7, e8, ?_⟩
        rw [h0 rfl] at h'
        exact tVs_nil h'
      | cons e es =>
        have hs' := hs
        rw [List.all_cons, Bool.and_eq_true] at hs'
        exact (pe_meth (sp := fnSp ⟨X.K, W.ca, X.w⟩ W.T n k) ho hC M F Fi.room hb .nil pass0 ha (star_cons hs'.1) (star_all hs'.2) (meth_eq hp hs hl hpos)).run pins s σ H Q I main
  · exact nomatch e2
end RE
set_option Elab.async false
set_option linter.all false
set_option maxRecDepth 100000
/-! enumerate over a tuple. -/
namespace RE
open PySem PySem.Spec PyProof.Rows L2
abbrev tiO (l : Addr) : Obj := { cls := .type "tuple_iterator", data := .fields #[.ref l, .int 0 0] }
abbrev enO (i : Addr) : Obj := { cls := .type "enumerate", data := .fields #[.none, .bool false, .ref i, rawInt 0, .none, .none] }
set_option maxHeartbeats 1000000 in
theorem new_enumT (l : Addr) (items : Array Value) :
    Meets (Builtin.«enumerate.__new__» ⟨[.type "enumerate", .ref l], []⟩) (fun _ R s => s.heap.IsTuple l items ∧ R (.ok (.ret (.ref (s.heap.push (tiO l)).objs.size))) { s with heap := (s.heap.push (tiO l)).push (enO s.heap.objs.size) }) :=
  .of_wp fun prog w A R s h => by
    obtain ⟨hp, g, d, tk, os⟩ := s
    obtain ⟨hL, h⟩ := h
    have q0 := sub_enumerate
    have q1 : ∀ {A' : Around} {E : Value → Shared → Prop} {Q : Value → Shared → Prop}, Q (.ref hp.objs.size) ⟨hp.push (tiO l), g, d, tk, os⟩ → wpAny (model prog w) A' (pyIter (.ref l)) Q E ⟨hp, g, d, tk, os⟩ := fun q => wpAny_pyIter_tuple hL q
    wp_walk using q1
    refine wpAny_stack_any fun st => wpAny_pure ?_
    split
    · rename_i c _ _ _ _ _
      cases (c == Value.type "enumerate") <;> (wp_walk using q1; exact ⟨_, rfl, h⟩)
    · wp_walk using q1
      exact ⟨_, rfl, h⟩
section
variable {prog : Program} {w : World} {A : Around} {E : Value → Shared → Prop} {s : Shared}
theorem enum_of_tuple {l : Addr} {items : Array Value} {Q : Value → Shared → Prop} (hL : s.heap.IsTuple l items)
    (h : ∀ h', IsEnum h' (s.heap.objs.size + 1) s.heap.objs.size 0 .none → h'.IsTupleIter s.heap.objs.size l 0 → (∀ b o, s.heap.get? b = some o → h'.get? b = some o) → Q (.ref (s.heap.objs.size + 1)) { s with heap := h' }) :
    wpAny (model prog w) A (call (.type "enumerate") [.ref l]) Q E s := by
  refine callType_new F.called_enumerate (by decide) (F.typeCall_enumerate_1 _) (F.newCall_enumerate_1 _) (fun obj => F.args_object_init_2 obj _) F.entry_enumerate_new (new_enumT l items) ⟨hL, ?_⟩
  have hz : (s.heap.push (tiO l)).objs.size = s.heap.objs.size + 1 := Heap.size_push ..
  have he := Heap.get?_push_size (s.heap.push (tiO l)) (o := enO s.heap.objs.size) rfl
  rw [hz] at he
  show _ ∧ _
  rw [hz]
  have he : IsEnum ((s.heap.push (tiO l)).push (enO s.heap.objs.size)) (s.heap.objs.size + 1) s.heap.objs.size 0 .none := he
  exact ⟨⟨_, he, rfl⟩, h _ he ⟨_, Heap.get?_push_of_some _ (Heap.get?_push_size _ rfl), rfl, rfl⟩ fun b o x => Heap.get?_push_of_some _ (Heap.get?_push_of_some _ x)⟩
end
/-- the tuple's items, each in a new pair with its place -/
def IteT (K : PySem.W.Frag) (a : Addr) (n : Nat) : It :=
  ⟨fun i H => i < n ∧ ∃ (xs : List V) (x : V), SqT K H a xs ∧ xs[i]? = some x, fun i H v H' => ∃ T x, v = .ref T ∧ H T = none ∧ H' = upd H T (.tup [.int (i : Nat), x]) ∧ ∀ xs, SqT K H a xs → xs[i]? = some x, fun i H => n ≤ i ∧ ∃ xs : List V, SqT K H a xs ∧ xs.length = n⟩
theorem turn_enmT {P : Program} {w : World} {K : PySem.W.Frag} {elts : List Expr} {kk : Nat} {tpos : Pos} (a e it : Addr) (n : Nat) :
    Turn P w K (.Tuple elts kk tpos) (IteT K a n) [e, it] e (fun i h => i ≤ n ∧ (∃ old, IsEnum h e it ((i : Nat) : Int) old) ∧ h.IsTupleIter it a i ∧ e ≠ it ∧ a ≠ it ∧ e ≠ a) where
  mem := by simp
  obj := fun i h st b hb => by
    obtain ⟨_, ⟨old, he⟩, ⟨o, ho, hc, hd⟩, _⟩ := st
    rcases (show b = e ∨ b = it by simpa using hb) with rfl | rfl
    · exact ⟨_, he, fun v q => nomatch q⟩
    · exact ⟨o, ho, fun v q => by rw [hd] at q; cases q⟩
  keep := fun i h h' st k => let ⟨hn, ⟨old, he⟩, hi, r⟩ := st; ⟨hn, ⟨old, k e (by simp) _ he⟩, hi.at fun o q => k it (by simp) o q, r⟩
  item := by
    intro X hP hw hK hc i pins s σ H E I hf st hg
    subst hP hw hK
    obtain ⟨hn, ⟨old, he⟩, hit, n1, n2, n3⟩ := st
    obtain ⟨hin, xs, x, hq, hx⟩ := hg
    obtain ⟨its, rv, p, hz⟩ := I.tuple hq
    obtain ⟨u, hu, ru⟩ := rv.get hx
    have le := Heap.lt_size he
    have li : it < s.heap.objs.size := by obtain ⟨_, q, _⟩ := hit; exact Heap.lt_size q
    have hlt : i < its.toArray.size := by
      rw [List.size_toArray]
      by_cases z : i < its.length
      · exact z
      · rw [List.getElem?_eq_none (Nat.le_of_not_lt z)] at hu; cases hu
    refine wpAny_pyNext_enum_itemD (Draws.tuple (by simp [I.ok.hd hc]) it a n2 its.toArray) he ⟨hit, p⟩ hlt n1 (by simp [n1, n3]) fun x' h' tk hx' ho hst' hT hsz hk => ?_
    obtain rfl : x' = u := by
      have z : its.toArray[i]? = some x' := hx'
      have z2 : its.toArray[i]? = some u := by simpa using hu
      rw [z2] at z; exact (Option.some.inj z).symm
    refine ⟨_, rfl, wpAny_letOwnedTupleGo_enum (s := { s with heap := h', toks := tk + 1 }) ho fun h'' he' sb => ?_⟩
    have hT2 : h''.get? s.heap.objs.size = some { cls := .type "tuple", data := .seq #[.int i tk, x'] } := (sb.2 _ (Nat.ne_of_gt le)).trans hT
    have new : ObjOk X.prog X.w (upd H s.heap.objs.size (.tup [.int (i : Nat), x])) h'' s.heap.objs.size (.tup [.int (i : Nat), x]) := ⟨by show 2 ≤ sizeLine; decide, [.int i tk, x'], .cons ⟨_, rfl⟩ (.cons ru .nil), ⟨_, hT2, rfl, _, rfl⟩⟩
    have I1 := I.turnedNew (t' := tk + 1) (ch := [e, it]) (fun b ob hb q => (sb.2 b (fun z => hb (by simp [z]))).trans (hk b ob (fun z => hb (by simp [z])) (fun z => hb (by simp [z])) q)) hf (Nat.le_refl _) new
    refine ⟨.ref s.heap.objs.size, _, I1, rfl, ⟨_, x, rfl, I.hok.fresh (Nat.le_refl _), rfl, fun ys hy => by rw [I.tuple_inj hy hq]; exact hx⟩, ⟨hin, ⟨x', ?_⟩, hst'.1.at fun o q => (sb.2 it (Ne.symm n1)).trans q, n1, n2, n3⟩, fun b hb => ?_⟩
    · rw [show ((i + 1 : Nat) : Int) = (i : Int) + 1 by omega]; exact he'
    · have lb : b < s.heap.objs.size := by
        rcases (show b = e ∨ b = it by simpa using hb) with rfl | rfl
        · exact le
        · exact li
      rw [upd_ne (Nat.ne_of_lt lb)]
      exact (hf b hb).1
  done := by
    intro X hP hw hK hc i pins s σ H E I hf st hg
    subst hP hw hK
    obtain ⟨hn, ⟨old, he⟩, hit, n1, n2, n3⟩ := st
    obtain ⟨hni, xs, hq, hx⟩ := hg
    obtain ⟨its, rv, p, hz⟩ := I.tuple hq
    obtain ⟨f0, f1, f2, f3, f4, f5⟩ := hf it (by simp)
    have hl := rv.length
    have hi : i = its.toArray.size := by rw [List.size_toArray]; omega
    subst hi
    exact wpAny_pyNext_enum_endD (Draws.tuple (by simp [I.ok.hd hc]) it a n2 its.toArray) he ⟨hit, p⟩ fun h' eb => ⟨rfl, I.turned (t' := s.toks) (fun b o hb q => eb b o hb q) f0 f1 f3 f4 f5⟩
  self := fun A i s Q E st h => let ⟨_, ⟨_, he⟩, _⟩ := st; wpAny_pyIter_enum he h
def iEnmT (K : PySem.W.Frag) (ta : TA) : TI := fun σ H R => ta σ H fun vs H1 => ∃ a xs, vs = [.ref a] ∧ ((SqL K H1 a xs ∧ R (Ite K a) H1) ∨ (SqT K H1 a xs ∧ R (IteT K a xs.length) H1))
theorem pi_enumA {X : Cx} {e : Expr} {ta : TA} {p pos tpos : Pos} {elts : List Expr} {kk : Nat} (hg : Gl X "enumerate") (hm : X.mg "enumerate" = none) (ha : PA X [e] ta) (hs : starEach [e] X.env = [(false, eval e X.env)]) :
    PI X (.Tuple elts kk tpos) (.Call (.Name "enumerate" p) [e] [] pos) (iEnmT X.K ta) := by
  refine ⟨fun pins s σ H R I h => ?_⟩
  refine Call_ (ld_blt I hg hm boot_enumerate (PyProof.Rows.callWith_type1 (thn (ha.run pos pins s σ H _ I h) fun us s1 ⟨vs, H1, I1, r1, a, xs, ex, hq⟩ => ?_) hs rfl))
  subst ex
  rw [Vals.ref1 r1]
  have low : ∀ b ∈ [s1.heap.objs.size + 1, s1.heap.objs.size], s1.heap.objs.size ≤ b := fun b hb => by
    rcases (show b = s1.heap.objs.size + 1 ∨ b = s1.heap.objs.size by simpa using hb) with rfl | rfl
    · exact Nat.le_add_right _ _
    · exact Nat.le_refl _
  rcases hq with ⟨hq, q⟩ | ⟨hq, q⟩
  · obtain ⟨its, rv, p', hz⟩ := I1.list hq
    refine call_enumerate_list p'.isList fun h' he hit hsz hk => wpAny_pyIter_enum he ?_
    exact ⟨s1.heap.objs.size + 1, [s1.heap.objs.size + 1, s1.heap.objs.size], _, _, H1, rfl, I1.kept (t' := s1.toks) hk, turn_enum a (s1.heap.objs.size + 1) s1.heap.objs.size, ⟨⟨.none, he⟩, hit, Nat.succ_ne_self _⟩, fun b hb => I1.fpOk (low b hb) (I1.hok.fresh (low b hb)), q⟩
  · obtain ⟨its, rv, p', hz⟩ := I1.tuple hq
    have la : a < s1.heap.objs.size := by obtain ⟨o, ho, _⟩ := p'; exact Heap.lt_size ho
    refine enum_of_tuple p' fun h' he hit hk => wpAny_pyIter_enum he ?_
    exact ⟨s1.heap.objs.size + 1, [s1.heap.objs.size + 1, s1.heap.objs.size], _, _, H1, rfl, I1.kept (t' := s1.toks) hk, turn_enmT a (s1.heap.objs.size + 1) s1.heap.objs.size xs.length, ⟨Nat.zero_le _, ⟨.none, he⟩, hit, Nat.succ_ne_self _, Nat.ne_of_lt la, Nat.ne_of_gt (Nat.lt_succ_of_lt la)⟩, fun b hb => I1.fpOk (low b hb) (I1.hok.fresh (low b hb)), q⟩
theorem walk_enmT {K : PySem.W.Frag} {a : Addr} {xs : List V} : Walk (IteT K a xs.length) xs.length (fun H => SqT K H a xs) (YPair (fun i => some (.int (i : Nat))) (fun i => xs[i]?)) :=
  ⟨fun i _ hi q => ⟨hi, xs, xs[i], q, by simp [hi]⟩, fun _ q => ⟨Nat.le_refl _, xs, q, rfl⟩, fun i _ _ _ _ q ⟨T, x, y1, y2, y3, y4⟩ => ⟨T, .int (i : Nat), x, y1, y2, y3, rfl, y4 xs q⟩⟩
end RE
set_option Elab.async false
set_option linter.all false
set_option maxRecDepth 100000
/-! What is walked. -/
namespace RE
open PySem PySem.Spec PyProof.Rows L2 RT RZ
variable {R : Rc} {F F' F1 F2 H H' H1 H2 : Hp} {σ : L2.St} {env env' : Sl}

/-- the walk J has the items ds, from F, H on; lp: the place of the list that is walked, if it is a slot's -/
structure Wk (R : Rc) (J : L2.It) (ds : List D) (F H : Hp) (lp : Option Addr) : Prop where
  ex : ∃ (G : Hp → Prop) (Y : Nat → Hp → V → Hp → Prop), Walk J ds.length G Y ∧ (∀ F2 H2, Same F F2 → Same F2 H2 → (∀ p, lp = some p → H2 p = H p) → G H2) ∧
    ∀ (i : Nat) (d : D) (x : V) (H2 H3 F2 : Hp), Same F F2 → Same F2 H2 → (∀ p, lp = some p → H2 p = H p) → ds[i]? = some d → Y i H2 x H3 → ∃ F3, Same F2 F3 ∧ Same F3 H3 ∧ Same H2 H3 ∧ (∀ b, F3 b ≠ none → F2 b ≠ none ∨ H2 b = none) ∧ Rep R F3 d x
def tItm (R : Rc) (f : Sl → Option Itm) : TI := fun σ H Q => ∃ env F ds env' l, StOk R σ env F H ∧ f env = some (ds, env', l) ∧
  ∀ J lp F' H', StOk R σ env' F' H' → Ext (Cell σ env) (Cell σ env') F H F' H' → (∀ p, lp = some p → ∃ (i : Nat) (d : D), env'[i]? = some (Slot.mu .lck d) ∧ σ[i]? = some (some (V.ref p))) → (∀ i, l = some i → (∃ d, env'[i]? = some (Slot.mu .lck d)) ∧ ∀ p, σ[i]? = some (some (V.ref p)) → Cell σ env (true, p) ∨ H p = none) → Wk R J ds F' H' lp → Q J H'
theorem PI.of {X : Cx} {tg e : Expr} {t t' : TI} (h : PI X tg e t) (i : ∀ σ H Q, t' σ H Q → t σ H Q) : PI X tg e t' := ⟨fun pins s σ H Q I hw => h.run pins s σ H Q I (i _ _ _ hw)⟩

/-- a sequence that stays -/
def StL (K : PySem.W.Frag) (F H : Hp) (lp : Option Addr) (a : Addr) (xs : List V) : Prop := ∀ F2 H2, Same F F2 → Same F2 H2 → (∀ p, lp = some p → H2 p = H p) → SqL K H2 a xs
def StT (K : PySem.W.Frag) (F : Hp) (a : Addr) (xs : List V) : Prop := ∀ F2 H2, Same F F2 → Same F2 H2 → SqT K H2 a xs
theorem lock_ok {r : Rv} {v : V} {d : D} {l : Option Nat} (S : StOk R σ env F H) (h : RvOk R σ env F H r v) (e1 : rd r env = some d) (e2 : lock r env = some (env', l)) :
    ∃ F' lp, StOk R σ env' F' H ∧ Ext (fun b => Cell σ env b ∨ Tmp r v b) (Cell σ env') F H F' H ∧ (∀ p, lp = some p → ∃ (i : Nat) (d : D), env'[i]? = some (Slot.mu .lck d) ∧ σ[i]? = some (some (V.ref p))) ∧
      (∀ ds, d = .lst ds → ∃ a xs, v = .ref a ∧ Reps R F' ds xs ∧ StL R.K F' H lp a xs) ∧ (∀ ds, d = .tup ds → ∃ a xs, v = .ref a ∧ Reps R F' ds xs ∧ StT R.K F' a xs) ∧ (∀ i, l = some i → (∃ d, env'[i]? = some (Slot.mu .lck d)) ∧ ∀ p, σ[i]? = some (some (V.ref p)) → Cell σ env (true, p)) := by
  have frozen : ∀ {F' : Hp} {d : D}, Rep R F' d v → (∀ ds, d = .lst ds → ∃ a xs, v = .ref a ∧ Reps R F' ds xs ∧ StL R.K F' H none a xs) ∧ (∀ ds, d = .tup ds → ∃ a xs, v = .ref a ∧ Reps R F' ds xs ∧ StT R.K F' a xs) := fun {F' d} rp => by
    refine ⟨fun ds ed => ?_, fun ds ed => ?_⟩
    · subst ed
      simp only [Rep] at rp
      obtain ⟨a, xs, e, s, r⟩ := rp
      exact ⟨a, xs, e, r, fun F2 H2 s1 s2 _ => sqL_same s2 (sqL_same s1 s)⟩
    · subst ed
      simp only [Rep] at rp
      obtain ⟨a, xs, e, s, r⟩ := rp
      exact ⟨a, xs, e, r, fun F2 H2 s1 s2 => sqT_same s2 (sqT_same s1 s)⟩
  cases r with
  | sh d' =>
    simp only [rd, Option.some.injEq] at e1
    simp only [lock, Option.some.injEq, Prod.mk.injEq] at e2
    obtain ⟨rfl, rfl⟩ := e2
    subst e1
    exact ⟨F, none, S, Ext.refl.mono (fun _ h => .inl h) (fun _ h => h), (fun p z => nomatch z), (frozen h).1, (frozen h).2, fun i z => nomatch z⟩
  | nw d' =>
    simp only [rd, Option.some.injEq] at e1
    simp only [lock, Option.some.injEq, Prod.mk.injEq] at e2
    obtain ⟨rfl, rfl⟩ := e2
    subst e1
    obtain ⟨F', S', rp, x, _, _⟩ := esc_ok S h (show esc (.nw d') env = some (d', env) from rfl)
    exact ⟨F', none, S', x, (fun p z => nomatch z), (frozen rp).1, (frozen rp).2, fun i z => nomatch z⟩
  | sl i =>
    have h : σ[i]? = some (some v) := h
    simp only [lock] at e2
    simp only [rd] at e1
    split at e2
    · rename_i d' hi
      rw [hi] at e1
      simp only [Option.some.injEq] at e1
      simp only [Option.some.injEq, Prod.mk.injEq] at e2
      obtain ⟨rfl, rfl⟩ := e2
      subst e1
      obtain ⟨p, f1, n, m⟩ := S.mu i _ _ hi
      rw [h] at f1
      cases f1
      have hl : i < env.length := by
        by_cases hl : i < env.length
        · exact hl
        · rw [List.getElem?_eq_none (by simpa using hl)] at hi; cases hi
      have back : ∀ (j : Nat) (k : Kd) (d1 : D), (env.set i (.mu .lck d'))[j]? = some (Slot.mu k d1) → ∃ k2, env[j]? = some (Slot.mu k2 d1) ∧ (k ≠ .lck → k2 = k) := fun j k d1 e => by
        by_cases hj : i = j
        · subst hj
          rw [List.getElem?_set_self hl] at e
          cases e
          exact ⟨.own, hi, fun z => absurd rfl z⟩
        · rw [List.getElem?_set_ne hj] at e; exact ⟨k, e, fun _ => rfl⟩
      have S' : StOk R σ (env.set i (.mu .lck d')) F H := by
        refine ⟨by simpa using S.len, S.sub, fun j d1 e => ?_, fun j k d1 e => ?_, fun j j' k k' d1 d2 q e1 e2 e3 e4 => ?_⟩
        · by_cases hj : i = j
          · subst hj; rw [List.getElem?_set_self hl] at e; cases e
          · rw [List.getElem?_set_ne hj] at e; exact S.val j d1 e
        · obtain ⟨k2, e5, _⟩ := back j k d1 e
          exact S.mu j k2 d1 e5
        · obtain ⟨k3, f1, _⟩ := back j k d1 e1
          obtain ⟨k4, f2, _⟩ := back j' k' d2 e2
          exact S.ne _ _ _ _ _ _ _ f1 f2 e3 e4
      refine ⟨F, some p, S', Ext.refl.mono (fun _ h => .inl h) (fun y ⟨j, k, d1, e1, e2, e3⟩ => ?_), fun q z => ?_, fun ds ed => ?_, fun ds ed => ?_, fun i2 z => ?_⟩
      · obtain ⟨k2, f1, f2⟩ := back j k d1 e1
        exact ⟨j, k2, d1, f1, e2, fun z => by rw [f2 (e3 z)]; exact e3 z⟩
      · cases z
        exact ⟨i, d', by rw [List.getElem?_set_self hl], h⟩
      · subst ed
        obtain ⟨xs, g, r⟩ := m
        exact ⟨p, xs, rfl, r, fun F2 H2 s1 s2 hp => .of ((hp p rfl).trans g)⟩
      · subst ed
        exact m.elim
      · cases z
        exact ⟨⟨d', by rw [List.getElem?_set_self hl]⟩, fun q hq => ⟨i, .own, d', hi, hq, fun _ z => nomatch z⟩⟩
    · rename_i d' hi
      rw [hi] at e1
      simp only [Option.some.injEq] at e1
      simp only [Option.some.injEq, Prod.mk.injEq] at e2
      obtain ⟨rfl, rfl⟩ := e2
      subst e1
      obtain ⟨p, f1, n, m⟩ := S.mu i _ _ hi
      rw [h] at f1
      cases f1
      refine ⟨F, some p, S, Ext.refl.mono (fun _ h => .inl h) (fun _ h => h), fun q z => ?_, fun ds ed => ?_, fun ds ed => ?_, fun i2 z => nomatch z⟩
      · cases z
        exact ⟨i, d', hi, h⟩
      · subst ed
        obtain ⟨xs, g, r⟩ := m
        exact ⟨p, xs, rfl, r, fun F2 H2 s1 s2 hp => .of ((hp p rfl).trans g)⟩
      · subst ed
        exact m.elim
    · rename_i d' hi
      rw [hi] at e1
      simp only [Option.some.injEq] at e1
      simp only [Option.some.injEq, Prod.mk.injEq] at e2
      obtain ⟨rfl, rfl⟩ := e2
      subst e1
      obtain ⟨v', f1, rp⟩ := S.val i _ hi
      rw [h] at f1
      cases f1
      exact ⟨F, none, S, Ext.refl.mono (fun _ h => .inl h) (fun _ h => h), (fun p z => nomatch z), (frozen rp).1, (frozen rp).2, fun i z => nomatch z⟩
    · exact nomatch e2

/-! ### the walks -/
theorem still {d : D} {x : V} (s1 : Same F2 H2) (r : Rep R F2 d x) (e : H3 = H2) : ∃ F3, Same F2 F3 ∧ Same F3 H3 ∧ Same H2 H3 ∧ (∀ b, F3 b ≠ none → F2 b ≠ none ∨ H2 b = none) ∧ Rep R F3 d x := by
  subst e
  exact ⟨F2, Same.refl _, s1, Same.refl _, fun _ h => .inl h, r⟩
theorem wk_list {a : Addr} {ds : List D} {xs : List V} {lp : Option Addr} (r : Reps R F ds xs) (st : StL R.K F H lp a xs) : Wk R (Itl R.K a) ds F H lp :=
  ⟨⟨fun H => SqL R.K H a xs, YAt xs, by rw [r.length]; exact walk_list, st, fun i d x H2 H3 F2 s1 s2 _ e ⟨e3, ex⟩ => by
    obtain ⟨v, e4, rp⟩ := r.get e
    rw [ex] at e4
    cases e4
    exact still s2 (Rep.mono s1 _ _ rp) e3⟩⟩
theorem wk_tup {a : Addr} {ds : List D} {xs : List V} (r : Reps R F ds xs) (st : StT R.K F a xs) : Wk R (Itt R.K a) ds F H none :=
  ⟨⟨fun H => SqT R.K H a xs, YAt xs, by rw [r.length]; exact walk_tup, fun F2 H2 s1 s2 _ => st F2 H2 s1 s2, fun i d x H2 H3 F2 s1 s2 _ e ⟨e3, ex⟩ => by
    obtain ⟨v, e4, rp⟩ := r.get e
    rw [ex] at e4
    cases e4
    exact still s2 (Rep.mono s1 _ _ rp) e3⟩⟩
theorem wk_range {lo hi : Int} : Wk R (Itr lo (hi - lo).toNat) (rngD lo hi) F H none :=
  ⟨⟨fun _ => True, YFn fun i => .int (lo + i), by rw [show (rngD lo hi).length = (hi - lo).toNat by simp [rngD]]; exact walk_range, fun _ _ _ _ _ => True.intro, fun i d x H2 H3 F2 s1 s2 _ e ⟨e3, ex⟩ => by
    subst ex
    unfold rngD at e
    rw [List.getElem?_map] at e
    obtain ⟨k, e4, rfl⟩ := Option.map_eq_some_iff.mp e
    have e5 : k = i := by
      by_cases hi' : i < (hi - lo).toNat
      · rw [List.getElem?_range hi'] at e4; cases e4; rfl
      · rw [List.getElem?_eq_none (by simp; omega)] at e4; cases e4
    subst e5
    exact still s2 (by simp only [Rep]) e3⟩⟩
theorem rev_get {α : Type} {xs : List α} {i : Nat} (hi : i < xs.length) : xs.reverse[i]? = xs[xs.length - 1 - i]? := List.getElem?_reverse hi
theorem wk_rev {a : Addr} {ds : List D} {xs : List V} {lp : Option Addr} (r : Reps R F ds xs) (st : StL R.K F H lp a xs) : Wk R (Itv R.K a xs.length) ds.reverse F H lp :=
  ⟨⟨fun H => SqL R.K H a xs, fun i H x H' => H' = H ∧ xs[xs.length - 1 - i]? = some x, by rw [List.length_reverse, r.length]; exact walk_rev, st, fun i d x H2 H3 F2 s1 s2 _ e ⟨e3, ex⟩ => by
    have hi : i < xs.length := by
      have : i < ds.reverse.length := by
        by_cases h : i < ds.reverse.length
        · exact h
        · rw [List.getElem?_eq_none (by simpa using h)] at e; cases e
      rw [List.length_reverse, r.length] at this
      exact this
    obtain ⟨v, e4, rp⟩ := r.reverse.get e
    rw [rev_get hi, ex] at e4
    cases e4
    exact still s2 (Rep.mono s1 _ _ rp) e3⟩⟩
theorem wk_revT {a : Addr} {ds : List D} {xs : List V} (r : Reps R F ds xs) (st : StT R.K F a xs) : Wk R (ItvT R.K a xs.length) ds.reverse F H none := by
  have w : Walk (ItvT R.K a xs.length) xs.length (fun H => SqT R.K H a xs) (fun i H x H' => H' = H ∧ xs[xs.length - 1 - i]? = some x) :=
    ⟨fun i _ hi q => ⟨hi, xs, xs[xs.length - 1 - i]'(by omega), q, by simp [show xs.length - 1 - i < xs.length by omega]⟩, fun _ _ => Nat.le_refl _, fun _ _ _ _ _ q y => ⟨y.1, y.2 xs q⟩⟩
  refine ⟨⟨fun H => SqT R.K H a xs, fun i H x H' => H' = H ∧ xs[xs.length - 1 - i]? = some x, by rw [List.length_reverse, r.length]; exact w, fun F2 H2 s1 s2 _ => st F2 H2 s1 s2, fun i d x H2 H3 F2 s1 s2 _ e ⟨e3, ex⟩ => ?_⟩⟩
  have hi : i < xs.length := by
    have : i < ds.reverse.length := by
      by_cases h : i < ds.reverse.length
      · exact h
      · rw [List.getElem?_eq_none (by simpa using h)] at e; cases e
    rw [List.length_reverse, r.length] at this
    exact this
  obtain ⟨v, e4, rp⟩ := r.reverse.get e
  rw [rev_get hi, ex] at e4
  cases e4
  exact still s2 (Rep.mono s1 _ _ rp) e3
theorem paired_new {d e : D} {x y v : V} {T : Addr} (s2 : Same F2 H2) (n : H2 T = none) (hx : Rep R F2 d x) (hy : Rep R F2 e y) (ev : v = .ref T) (e3 : H3 = upd H2 T (.tup [x, y])) :
    ∃ F3, Same F2 F3 ∧ Same F3 H3 ∧ Same H2 H3 ∧ (∀ b, F3 b ≠ none → F2 b ≠ none ∨ H2 b = none) ∧ Rep R F3 (.tup [d, e]) v := by
  subst ev; subst e3
  have nF : F2 T = none := by
    cases z : F2 T with
    | none => rfl
    | some u => have := s2 T u z; rw [n] at this; cases this
  have sF : Same F2 (upd F2 T (.tup [x, y])) := same_updF nF
  refine ⟨upd F2 T (.tup [x, y]), sF, fun b u q => ?_, same_upd' n, fun b hb => ?_, ?_⟩
  · by_cases hb : b = T
    · subst hb; rw [upd_same] at q ⊢; exact q
    · rw [upd_ne hb] at q ⊢; exact s2 b u q
  · by_cases h : b = T
    · subst h; exact .inr n
    · rw [upd_ne h] at hb; exact .inl hb
  · simp only [Rep]
    exact ⟨T, _, rfl, .of upd_same, Reps.cons (Rep.mono sF _ _ hx) (Reps.cons (Rep.mono sF _ _ hy) Reps.nil)⟩
theorem zip_len : ∀ (xs ys : List D), (zipD xs ys).length = min xs.length ys.length
  | [], ys => by cases ys <;> simp [zipD]
  | x :: xs, [] => by simp [zipD]
  | x :: xs, y :: ys => by simp only [zipD, List.length_cons, zip_len xs ys]; omega
theorem zip_get : ∀ {xs ys : List D} {i : Nat} {d : D}, (zipD xs ys)[i]? = some d → ∃ a b, xs[i]? = some a ∧ ys[i]? = some b ∧ d = .tup [a, b]
  | [], ys, i, d, e => by cases ys <;> simp [zipD] at e
  | x :: xs, [], i, d, e => by simp [zipD] at e
  | x :: xs, y :: ys, 0, d, e => by
    simp [zipD] at e
    exact ⟨x, y, rfl, rfl, e.symm⟩
  | x :: xs, y :: ys, i + 1, d, e => by
    simp only [zipD, List.getElem?_cons_succ] at e
    obtain ⟨a, b, h1, h2, h3⟩ := zip_get e
    exact ⟨a, b, by simpa using h1, by simpa using h2, h3⟩
theorem wk_zip {a b : Addr} {ds es : List D} {xs ys : List V} {lp : Option Addr} (r : Reps R F ds xs) (st : StL R.K F H lp a xs) (r' : Reps R F es ys) (st' : StL R.K F H lp b ys) : Wk R (Itz R.K a b) (zipD ds es) F H lp :=
  ⟨⟨fun H => SqL R.K H a xs ∧ SqL R.K H b ys, YPair (fun i => xs[i]?) (fun i => ys[i]?), by rw [zip_len, r.length, r'.length]; exact walk_zip rfl, fun F2 H2 s1 s2 hp => ⟨st F2 H2 s1 s2 hp, st' F2 H2 s1 s2 hp⟩, fun i d x H2 H3 F2 s1 s2 _ e ⟨T, x1, y1, ev, n, e3, g1, g2⟩ => by
    obtain ⟨d1, d2, h1, h2, rfl⟩ := zip_get e
    obtain ⟨v1, k1, p1⟩ := r.get h1
    obtain ⟨v2, k2, p2⟩ := r'.get h2
    rw [show xs[i]? = some x1 from g1] at k1
    rw [show ys[i]? = some y1 from g2] at k2
    cases k1
    cases k2
    exact paired_new s2 n (Rep.mono s1 _ _ p1) (Rep.mono s1 _ _ p2) ev e3⟩⟩
theorem wk_zipT {a b : Addr} {ds es : List D} {xs ys : List V} (r : Reps R F ds xs) (st : StT R.K F a xs) (r' : Reps R F es ys) (st' : StT R.K F b ys) : Wk R (ItzT R.K a b) (zipD ds es) F H none := by
  have w : Walk (ItzT R.K a b) (min xs.length ys.length) (fun H => SqT R.K H a xs ∧ SqT R.K H b ys) (YPair (fun i => xs[i]?) (fun i => ys[i]?)) := by
    refine ⟨fun i _ hi q => ?_, fun _ q => ⟨xs, ys, q.1, q.2, by omega⟩, fun i H v H' _ q y => ?_⟩
    · have h1 : i < xs.length := by omega
      have h2 : i < ys.length := by omega
      exact ⟨xs, ys, xs[i], ys[i], q.1, q.2, by simp [h1], by simp [h2]⟩
    · obtain ⟨T, x, z, h1, h2, h3, h4, h5⟩ := y
      exact ⟨T, x, z, h1, h2, h3, h4 xs q.1, h5 ys q.2⟩
  refine ⟨⟨fun H => SqT R.K H a xs ∧ SqT R.K H b ys, YPair (fun i => xs[i]?) (fun i => ys[i]?), by rw [zip_len, r.length, r'.length]; exact w, fun F2 H2 s1 s2 _ => ⟨st F2 H2 s1 s2, st' F2 H2 s1 s2⟩, fun i d x H2 H3 F2 s1 s2 _ e ⟨T, x1, y1, ev, n, e3, g1, g2⟩ => ?_⟩⟩
  obtain ⟨d1, d2, h1, h2, rfl⟩ := zip_get e
  obtain ⟨v1, k1, p1⟩ := r.get h1
  obtain ⟨v2, k2, p2⟩ := r'.get h2
  rw [show xs[i]? = some x1 from g1] at k1
  rw [show ys[i]? = some y1 from g2] at k2
  cases k1
  cases k2
  exact paired_new s2 n (Rep.mono s1 _ _ p1) (Rep.mono s1 _ _ p2) ev e3
theorem enm_len : ∀ (n : Nat) (xs : List D), (enmD n xs).length = xs.length
  | _, [] => rfl
  | n, x :: xs => by simp only [enmD, List.length_cons, enm_len (n + 1) xs]
theorem enm_get : ∀ {n : Nat} {xs : List D} {i : Nat} {d : D}, (enmD n xs)[i]? = some d → ∃ a, xs[i]? = some a ∧ d = .tup [.int ((n + i : Nat) : Int), a]
  | n, [], i, d, e => by simp [enmD] at e
  | n, x :: xs, 0, d, e => by
    simp [enmD] at e
    exact ⟨x, rfl, e.symm⟩
  | n, x :: xs, i + 1, d, e => by
    simp only [enmD, List.getElem?_cons_succ] at e
    obtain ⟨a, h1, h2⟩ := enm_get e
    exact ⟨a, by simpa using h1, by rw [h2, show n + 1 + i = n + (i + 1) by omega]⟩
theorem wk_enm {a : Addr} {ds : List D} {xs : List V} {lp : Option Addr} (r : Reps R F ds xs) (st : StL R.K F H lp a xs) : Wk R (Ite R.K a) (enmD 0 ds) F H lp :=
  ⟨⟨fun H => SqL R.K H a xs, YPair (fun i => some (.int (i : Nat))) (fun i => xs[i]?), by rw [enm_len, r.length]; exact walk_enum, st, fun i d x H2 H3 F2 s1 s2 _ e ⟨T, x1, y1, ev, n, e3, g1, g2⟩ => by
    obtain ⟨d2, h2, rfl⟩ := enm_get e
    obtain ⟨v2, k2, p2⟩ := r.get h2
    rw [show xs[i]? = some y1 from g2] at k2
    cases k2
    have g1 : some (V.int (i : Nat)) = some x1 := g1
    cases g1
    exact paired_new s2 n (by simp only [Rep]; simp) (Rep.mono s1 _ _ p2) ev e3⟩⟩
/-! ### the rules -/
theorem wk_enmT {a : Addr} {ds : List D} {xs : List V} (r : Reps R F ds xs) (st : StT R.K F a xs) : Wk R (IteT R.K a xs.length) (enmD 0 ds) F H none :=
  ⟨⟨fun H => SqT R.K H a xs, YPair (fun i => some (.int (i : Nat))) (fun i => xs[i]?), by rw [enm_len, r.length]; exact walk_enmT, fun F2 H2 s1 s2 _ => st F2 H2 s1 s2, fun i d x H2 H3 F2 s1 s2 _ e ⟨T, x1, y1, ev, n, e3, g1, g2⟩ => by
    obtain ⟨d2, h2, rfl⟩ := enm_get e
    obtain ⟨v2, k2, p2⟩ := r.get h2
    rw [show xs[i]? = some y1 from g2] at k2
    cases k2
    have g1 : some (V.int (i : Nat)) = some x1 := g1
    cases g1
    exact paired_new s2 n (by simp only [Rep]; simp) (Rep.mono s1 _ _ p2) ev e3⟩⟩
/-! ### the rules -/
theorem rngOk_old {i : Int} (h : rngOk i = true) : -(2 ^ 62) ≤ i ∧ i < 2 ^ 62 := by
  unfold rngOk at h
  rw [decide_eq_true_eq] at h
  omega
section
variable {X : Cx} {W : Wd} {ca : Nat → Addr} {tg : Expr}
theorem pi_rg1 {a : Expr} {f : Fv} {p pos : Pos} (hg : Gl X "range") (hm : X.mg "range" = none) (ha : PE X a (tV ⟨X.K, ca, X.w⟩ f)) (hs : noStar a = true) : PI X tg (.Call (.Name "range" p) [a] [] pos) (tItm ⟨X.K, ca, X.w⟩ (iRg1 f)) := by
  refine PI.of (pi_range1 hg hm (pa_cons ha pa_nil (star_cons hs)) (star_cons hs)) fun σ H Q h => ?_
  obtain ⟨env, F, ds, env', l, S, e, q⟩ := h
  simp only [iRg1, Option.bind_eq_some_iff, Prod.exists] at e
  obtain ⟨ra, env1, e1, j, e2, e3⟩ := e
  split at e3
  · rename_i hr
    simp only [Option.some.injEq, Prod.mk.injEq] at e3
    obtain ⟨rfl, rfl, rfl⟩ := e3
    have hr := rngOk_old hr
    refine ⟨env, F, ra, env1, S, e1, fun v F1 H1 S1 x1 r1 => ⟨j, by rw [int_of S1 r1 e2], hr.1, hr.2, ?_⟩⟩
    have w := wk_range (R := ⟨X.K, ca, X.w⟩) (F := F1) (H := H1) (lo := 0) (hi := j)
    rw [show (j - 0).toNat = j.toNat by omega] at w
    exact q _ none F1 H1 S1 (x1.mono (fun _ z => z) fun _ z => .inl z) (fun p z => nomatch z) (fun i z => nomatch z) w
  · exact nomatch e3
theorem pi_rg2 {a b : Expr} {f g : Fv} {p pos : Pos} (hg : Gl X "range") (hm : X.mg "range" = none) (ha : PE X a (tV ⟨X.K, ca, X.w⟩ f)) (hb : PE X b (tV ⟨X.K, ca, X.w⟩ g)) (hs : noStar a = true) (hs2 : noStar b = true) :
    PI X tg (.Call (.Name "range" p) [a, b] [] pos) (tItm ⟨X.K, ca, X.w⟩ (iRg2 f g)) := by
  refine PI.of (pi_range2 hg hm (pa_cons ha (pa_cons hb pa_nil (star_cons hs2)) (star_cons hs)) (by rw [star_cons hs, star_cons hs2]; rfl) (star_cons hs2)) fun σ H Q h => ?_
  obtain ⟨env, F, ds, env', l, S, e, q⟩ := h
  simp only [iRg2, Option.bind_eq_some_iff, Prod.exists] at e
  obtain ⟨ra, env1, e1, rb, env2, e2, i, e3, j, e4, e5⟩ := e
  split at e5
  · rename_i hr
    simp only [Option.some.injEq, Prod.mk.injEq] at e5
    obtain ⟨rfl, rfl, rfl⟩ := e5
    rw [Bool.and_eq_true] at hr
    have hr := And.intro (rngOk_old hr.1) (rngOk_old hr.2)
    refine ⟨env, F, ra, env1, S, e1, fun v F1 H1 S1 x1 r1 => ⟨env1, F1, rb, env2, S1, e2, fun u F2 H2 S2 x2 r2 => ⟨i, j, ?_, ⟨hr.1.1, hr.1.2, hr.2.1, hr.2.2⟩, ?_⟩⟩⟩
    · rw [int_of S2 r2 e4, int_of S2 (r1.ext x2 fun _ z => .inl z) e3]
    · have x12 : Ext (Cell σ env) (Cell σ env2) F H F2 H2 := (x1.mono (D1 := Cell σ env1) (fun _ z => z) fun _ z => .inl z).trans (x2.mono (fun _ z => z) fun _ z => .inl z)
      exact q _ none F2 H2 S2 x12 (fun p z => nomatch z) (fun i z => nomatch z) wk_range
  · exact nomatch e5
theorem seqD_cases {d : D} {ds : List D} (e : seqD d = some ds) : d = .lst ds ∨ d = .tup ds := by
  cases d <;> simp only [seqD, Option.some.injEq] at e <;> try contradiction
  · subst e; exact .inr rfl
  · subst e; exact .inl rfl
theorem pi_of {a : Expr} {f : Fv} (ha : PE X a (tV ⟨X.K, ca, X.w⟩ f)) : PI X tg a (tItm ⟨X.K, ca, X.w⟩ (iOf f)) := by
  refine ⟨fun pins s σ H Q I h => ?_⟩
  obtain ⟨env, F, ds, env', l, S, e, q⟩ := h
  simp only [iOf, Option.bind_eq_some_iff, Prod.exists, Option.some.injEq, Prod.mk.injEq] at e
  obtain ⟨ra, env1, e1, d, e2, ds', e3, env2, l2, e4, e5, e6, e7⟩ := e
  subst e5; subst e6; subst e7
  rcases seqD_cases e3 with rfl | rfl
  · refine (pi_list ha).run pins s σ H Q I ⟨env, F, ra, env1, S, e1, fun v F1 H1 S1 x1 r1 => ?_⟩
    obtain ⟨F2, lp, S2, x2, hl, h1, _, hu⟩ := lock_ok S1 r1 e2 e4
    obtain ⟨a, xs, rfl, rp, st⟩ := h1 _ rfl
    exact ⟨a, rfl, ⟨xs, st F2 H1 (Same.refl _) S2.sub fun _ _ => rfl⟩, q _ lp F2 H1 S2 (x1.trans x2) hl (fun i z => ⟨(hu i z).1, fun p w => x1.cel (true, p) (.inl ((hu i z).2 p w))⟩) (wk_list rp st)⟩
  · refine (pi_tup ha).run pins s σ H Q I ⟨env, F, ra, env1, S, e1, fun v F1 H1 S1 x1 r1 => ?_⟩
    obtain ⟨F2, lp, S2, x2, hl, _, h1, hu⟩ := lock_ok S1 r1 e2 e4
    obtain ⟨a, xs, rfl, rp, st⟩ := h1 _ rfl
    exact ⟨a, rfl, ⟨xs, st F2 H1 (Same.refl _) S2.sub⟩, q _ none F2 H1 S2 (x1.trans x2) (fun p z => nomatch z) (fun i z => ⟨(hu i z).1, fun p w => x1.cel (true, p) (.inl ((hu i z).2 p w))⟩) (wk_tup rp st)⟩
theorem pi_rv {a : Expr} {f : Fv} {p pos : Pos} (hg : Gl X "reversed") (hm : X.mg "reversed" = none) (hs : noStar a = true) (ha : PE X a (tV ⟨X.K, ca, X.w⟩ f)) : PI X tg (.Call (.Name "reversed" p) [a] [] pos) (tItm ⟨X.K, ca, X.w⟩ (iRv f)) := by
  refine PI.of (pi_revA hg hm ha (star_cons hs)) fun σ H Q h => ?_
  obtain ⟨env, F, ds, env', l, S, e, q⟩ := h
  simp only [iRv, Option.bind_eq_some_iff, Prod.exists, Option.some.injEq, Prod.mk.injEq] at e
  obtain ⟨ra, env1, e1, d, e2, ds', e3, env2, l2, e4, e5, e6, e7⟩ := e
  subst e5; subst e6; subst e7
  refine ⟨env, F, ra, env1, S, e1, fun v F1 H1 S1 x1 r1 => ?_⟩
  obtain ⟨F2, lp, S2, x2, hl, h1, h2, hu⟩ := lock_ok S1 r1 e2 e4
  rcases seqD_cases e3 with rfl | rfl
  · obtain ⟨a, xs, rfl, rp, st⟩ := h1 _ rfl
    exact ⟨a, xs, rfl, .inl ⟨st F2 H1 (Same.refl _) S2.sub fun _ _ => rfl, q _ lp F2 H1 S2 (x1.trans x2) hl (fun i z => ⟨(hu i z).1, fun p w => x1.cel (true, p) (.inl ((hu i z).2 p w))⟩) (wk_rev rp st)⟩⟩
  · obtain ⟨a, xs, rfl, rp, st⟩ := h2 _ rfl
    exact ⟨a, xs, rfl, .inr ⟨st F2 H1 (Same.refl _) S2.sub, q _ none F2 H1 S2 (x1.trans x2) (fun p z => nomatch z) (fun i z => ⟨(hu i z).1, fun p w => x1.cel (true, p) (.inl ((hu i z).2 p w))⟩) (wk_revT rp st)⟩⟩
theorem bothD_cases {x y : D} {xs ys : List D} (e : bothD x y = some (xs, ys)) : (x = .lst xs ∧ y = .lst ys) ∨ (x = .tup xs ∧ y = .tup ys) := by
  cases x <;> cases y <;> simp only [bothD, Option.some.injEq, Prod.mk.injEq] at e <;> try contradiction
  · obtain ⟨rfl, rfl⟩ := e; exact .inr ⟨rfl, rfl⟩
  · obtain ⟨rfl, rfl⟩ := e; exact .inl ⟨rfl, rfl⟩
theorem pi_zipV {a b : Expr} {f g : Fv} {p pos tpos : Pos} {elts : List Expr} {kk : Nat} (hg : Gl X "zip") (hm : X.mg "zip" = none) (ha : PE X a (tV ⟨X.K, ca, X.w⟩ f)) (hb : PE X b (tV ⟨X.K, ca, X.w⟩ g)) (hs : noStar a = true) (hs2 : noStar b = true) :
    PI X (.Tuple elts kk tpos) (.Call (.Name "zip" p) [a, b] [] pos) (tItm ⟨X.K, ca, X.w⟩ (iZip f g)) := by
  refine PI.of (pi_zipA hg hm (pa_cons ha (pa_cons hb pa_nil (star_cons hs2)) (star_cons hs)) (star_cons hs) (star_all (by rw [List.all_cons, hs2]; rfl))) fun σ H Q h => ?_
  obtain ⟨env, F, ds, env', l, S, e, q⟩ := h
  simp only [iZip, Option.bind_eq_some_iff, Prod.exists, Option.some.injEq, Prod.mk.injEq] at e
  obtain ⟨ra, env1, e1, rb, env2, e2, x, e3, y, e4, xs, ys, e5, d2, env3, e6, env4, l2, e7, e8, e9, e10⟩ := e
  subst e8; subst e9; subst e10
  refine ⟨env, F, ra, env1, S, e1, fun v F1 H1 S1 x1 r1 => ⟨env1, F1, rb, env2, S1, e2, fun u F2 H2 S2 x2 r2 => ?_⟩⟩
  have r1' : RvOk ⟨X.K, ca, X.w⟩ σ env2 F2 H2 ra v := r1.ext x2 fun _ z => .inl z
  -- the second one is frozen, the first one kept
  have dis : ∀ b, Tmp rb u b → ¬ Tmp ra v b := fun b t t' => by
    obtain ⟨⟨o, ho⟩, _, c⟩ := Tmp.there r1 t'
    rcases x2.cel b (.inr t) with z | z
    · exact c z
    · have z : H1 b.2 = none := z
      rw [ho] at z; cases z
  obtain ⟨F3, S3, rp3, x3, hc3, hn3⟩ := esc_ok S2 r2 e6
  have both : RvsOk ⟨X.K, ca, X.w⟩ σ env2 F2 H2 [ra] [v] := ⟨v, [], rfl, r1', rfl, fun b t i r' v' z => by simp at z⟩
  have r1'' : RvOk ⟨X.K, ca, X.w⟩ σ env3 F3 H2 ra v := by
    have := both.esc x3.sub hc3 hn3 (fun b t i r' v' z1 z2 => by
      cases i with
      | zero =>
        simp at z1 z2
        rw [← z1, ← z2]
        exact dis b t
      | succ i => simp at z1)
    obtain ⟨v2, ws, e11, h1, _⟩ := this
    cases e11
    exact h1
  -- what the first one is, behind the second one's freezing
  have e3' : rd ra env3 = some x := by
    cases ra with
    | sh d => exact e3
    | nw d => exact e3
    | sl i =>
      cases rb with
      | sh d => simp only [esc, Option.some.injEq, Prod.mk.injEq] at e6; rw [← e6.2]; exact e3
      | nw d => simp only [esc, Option.some.injEq, Prod.mk.injEq] at e6; rw [← e6.2]; exact e3
      | sl j =>
        simp only [esc] at e6
        split at e6
        · rename_i d3 hj
          simp only [Option.some.injEq, Prod.mk.injEq] at e6
          obtain ⟨rfl, rfl⟩ := e6
          simp only [rd] at e3 ⊢
          by_cases hij : j = i
          · subst hij
            have hl : j < env2.length := by
              by_cases hl : j < env2.length
              · exact hl
              · rw [List.getElem?_eq_none (by simpa using hl)] at hj; cases hj
            rw [hj] at e3
            rw [List.getElem?_set_self hl]
            exact e3
          · rw [List.getElem?_set_ne hij]
            exact e3
        · simp only [Option.some.injEq, Prod.mk.injEq] at e6; rw [← e6.2]; exact e3
        · exact nomatch e6
  obtain ⟨F4, lp, S4, x4, hl, h1, h2, hu⟩ := lock_ok S3 r1'' e3' e7
  have hd2 : d2 = y := by
    cases rb with
    | sh d => simp only [esc, rd, Option.some.injEq, Prod.mk.injEq] at e6 e4; rw [← e6.1, e4]
    | nw d => simp only [esc, rd, Option.some.injEq, Prod.mk.injEq] at e6 e4; rw [← e6.1, e4]
    | sl j =>
      simp only [esc] at e6
      simp only [rd] at e4
      split at e6
      · rename_i d3 hj
        rw [hj] at e4
        simp only [Option.some.injEq, Prod.mk.injEq] at e6 e4
        rw [← e6.1, e4]
      · rename_i d3 hj
        rw [hj] at e4
        simp only [Option.some.injEq, Prod.mk.injEq] at e6 e4
        rw [← e6.1, e4]
      · exact nomatch e6
  subst hd2
  have rp4 : Rep ⟨X.K, ca, X.w⟩ F4 d2 u := Rep.mono x4.sub _ _ rp3
  have ext : Ext (Cell σ env) (Cell σ env4) F H F4 H2 := by
    have y2 : Ext (fun b => Cell σ env1 b ∨ Tmp ra v b) (fun b => (Cell σ env2 b ∨ Tmp rb u b) ∨ Tmp ra v b) F1 H1 F2 H2 := x2.pend
    have y3 : Ext (fun b => (Cell σ env2 b ∨ Tmp rb u b) ∨ Tmp ra v b) (fun b => Cell σ env3 b ∨ Tmp ra v b) F2 H2 F3 H2 := x3.pend
    exact ((x1.trans y2).trans y3).trans x4
  have exx : Ext (Cell σ env) (fun b => Cell σ env3 b ∨ Tmp ra v b) F H F3 H2 := by
    have y2 : Ext (fun b => Cell σ env1 b ∨ Tmp ra v b) (fun b => (Cell σ env2 b ∨ Tmp rb u b) ∨ Tmp ra v b) F1 H1 F2 H2 := x2.pend
    have y3 : Ext (fun b => (Cell σ env2 b ∨ Tmp rb u b) ∨ Tmp ra v b) (fun b => Cell σ env3 b ∨ Tmp ra v b) F2 H2 F3 H2 := x3.pend
    exact (x1.trans y2).trans y3
  rcases bothD_cases e5 with ⟨rfl, rfl⟩ | ⟨rfl, rfl⟩
  · obtain ⟨a, vs, rfl, rp, st⟩ := h1 _ rfl
    simp only [Rep] at rp4
    obtain ⟨b, ws, rfl, sb, rpb⟩ := rp4
    have stb : StL X.K F4 H2 lp b ws := fun F2 H2 s1 s2 _ => sqL_same s2 (sqL_same s1 sb)
    exact ⟨a, b, vs, ws, rfl, .inl ⟨st F4 H2 (Same.refl _) S4.sub fun _ _ => rfl, stb F4 H2 (Same.refl _) S4.sub fun _ _ => rfl, q _ lp F4 H2 S4 ext hl (fun i z => ⟨(hu i z).1, fun p w => exx.cel (true, p) (.inl ((hu i z).2 p w))⟩) (wk_zip rp st rpb stb)⟩⟩
  · obtain ⟨a, vs, rfl, rp, st⟩ := h2 _ rfl
    simp only [Rep] at rp4
    obtain ⟨b, ws, rfl, sb, rpb⟩ := rp4
    have stb : StT X.K F4 b ws := fun F2 H2 s1 s2 => sqT_same s2 (sqT_same s1 sb)
    exact ⟨a, b, vs, ws, rfl, .inr ⟨st F4 H2 (Same.refl _) S4.sub, stb F4 H2 (Same.refl _) S4.sub, q _ none F4 H2 S4 ext (fun p z => nomatch z) (fun i z => ⟨(hu i z).1, fun p w => exx.cel (true, p) (.inl ((hu i z).2 p w))⟩) (wk_zipT rp st rpb stb)⟩⟩
theorem pi_enmV {a : Expr} {f : Fv} {p pos tpos : Pos} {elts : List Expr} {kk : Nat} (hg : Gl X "enumerate") (hm : X.mg "enumerate" = none) (ha : PE X a (tV ⟨X.K, ca, X.w⟩ f)) (hs : noStar a = true) :
    PI X (.Tuple elts kk tpos) (.Call (.Name "enumerate" p) [a] [] pos) (tItm ⟨X.K, ca, X.w⟩ (iEnm f)) := by
  refine PI.of (pi_enumA hg hm (pa_cons ha pa_nil (star_cons hs)) (star_cons hs)) fun σ H Q h => ?_
  obtain ⟨env, F, ds, env', l, S, e, q⟩ := h
  simp only [iEnm, Option.bind_eq_some_iff, Prod.exists, Option.some.injEq, Prod.mk.injEq] at e
  obtain ⟨ra, env1, e1, d, e2, ds', e3, env2, l2, e4, e5, e6, e7⟩ := e
  subst e5; subst e6; subst e7
  refine ⟨env, F, ra, env1, S, e1, fun v F1 H1 S1 x1 r1 => ?_⟩
  obtain ⟨F2, lp, S2, x2, hl, h1, h2, hu⟩ := lock_ok S1 r1 e2 e4
  rcases seqD_cases e3 with rfl | rfl
  · obtain ⟨a, xs, rfl, rp, st⟩ := h1 _ rfl
    exact ⟨a, xs, rfl, .inl ⟨st F2 H1 (Same.refl _) S2.sub fun _ _ => rfl, q _ lp F2 H1 S2 (x1.trans x2) hl (fun i z => ⟨(hu i z).1, fun p w => x1.cel (true, p) (.inl ((hu i z).2 p w))⟩) (wk_enm rp st)⟩⟩
  · obtain ⟨a, xs, rfl, rp, st⟩ := h2 _ rfl
    exact ⟨a, xs, rfl, .inr ⟨st F2 H1 (Same.refl _) S2.sub, q _ none F2 H1 S2 (x1.trans x2) (fun p z => nomatch z) (fun i z => ⟨(hu i z).1, fun p w => x1.cel (true, p) (.inl ((hu i z).2 p w))⟩) (wk_enmT rp st)⟩⟩
end
end RE
set_option Elab.async false
set_option linter.all false
set_option maxRecDepth 100000
/-! Targets, stores, comprehensions. -/
namespace RE
open PySem PySem.Spec PyProof.Rows L2
variable {R : Rc} {F F' F1 F2 H H' H1 H2 : Hp} {σ σ' : L2.St} {env env' : Sl}

theorem get_lt {i : Nat} {s : Slot} (h : env[i]? = some s) : i < env.length := by
  by_cases hl : i < env.length
  · exact hl
  · rw [List.getElem?_eq_none (by simpa using hl)] at h; cases h
/-- a slot is given a value that never changes -/
theorem StOk.putV {i : Nat} {d : D} {v : V} (S : StOk R σ env F H) (hi : i < env.length) (r : Rep R F d v) : StOk R (σ.set i (some v)) (env.set i (.val d)) F H ∧ ∀ y, Cell (σ.set i (some v)) (env.set i (.val d)) y → Cell σ env y := by
  have hσ : i < σ.length := by rw [← S.len]; exact hi
  have mu' : ∀ (j : Nat) (k : Kd) (d1 : D), (env.set i (.val d))[j]? = some (Slot.mu k d1) → i ≠ j ∧ env[j]? = some (Slot.mu k d1) := fun j k d1 e => by
    by_cases hj : i = j
    · subst hj; rw [List.getElem?_set_self hi] at e; cases e
    · rw [List.getElem?_set_ne hj] at e; exact ⟨hj, e⟩
  refine ⟨⟨by simpa using S.len, S.sub, fun j d1 e => ?_, fun j k d1 e => ?_, fun j j' k k' d1 d2 p e1 e2 e3 e4 => ?_⟩, fun y ⟨j, k, d1, e1, e2, e3⟩ => ?_⟩
  · by_cases hj : i = j
    · subst hj
      rw [List.getElem?_set_self hi] at e
      cases e
      exact ⟨v, by rw [List.getElem?_set_self hσ], r⟩
    · rw [List.getElem?_set_ne hj] at e
      rw [List.getElem?_set_ne hj]
      exact S.val j d1 e
  · obtain ⟨hj, e⟩ := mu' j k d1 e
    rw [List.getElem?_set_ne hj]
    exact S.mu j k d1 e
  · obtain ⟨hj, f1⟩ := mu' j k d1 e1
    obtain ⟨hj', f2⟩ := mu' j' k' d2 e2
    rw [List.getElem?_set_ne hj] at e3
    rw [List.getElem?_set_ne hj'] at e4
    exact S.ne _ _ _ _ _ _ _ f1 f2 e3 e4
  · obtain ⟨hj, f1⟩ := mu' j k d1 e1
    rw [List.getElem?_set_ne hj] at e2
    exact ⟨j, k, d1, f1, e2, e3⟩
/-- a slot is given a new thing -/
theorem StOk.putN {i : Nat} {d : D} {p : Addr} (S : StOk R σ env F H) (hi : i < env.length) (n : F p = none) (m : MuO R F H p d) (c : ¬ Cell σ env (false, p)) :
    StOk R (σ.set i (some (.ref p))) (env.set i (.mu .own d)) F H ∧ ∀ y, Cell (σ.set i (some (.ref p))) (env.set i (.mu .own d)) y → Cell σ env y ∨ y.2 = p := by
  have hσ : i < σ.length := by rw [← S.len]; exact hi
  refine ⟨⟨by simpa using S.len, S.sub, fun j d1 e => ?_, fun j k d1 e => ?_, fun j j' k k' d1 d2 q e1 e2 e3 e4 => ?_⟩, fun y ⟨j, k, d1, e1, e2, e3⟩ => ?_⟩
  · by_cases hj : i = j
    · subst hj; rw [List.getElem?_set_self hi] at e; cases e
    · rw [List.getElem?_set_ne hj] at e
      rw [List.getElem?_set_ne hj]
      exact S.val j d1 e
  · by_cases hj : i = j
    · subst hj
      rw [List.getElem?_set_self hi] at e
      cases e
      exact ⟨p, by rw [List.getElem?_set_self hσ], n, m⟩
    · rw [List.getElem?_set_ne hj] at e
      rw [List.getElem?_set_ne hj]
      exact S.mu j k d1 e
  · by_cases hj : i = j
    · by_cases hj' : i = j'
      · exact hj.symm.trans hj'
      · subst hj
        rw [List.getElem?_set_self hσ] at e3
        cases e3
        rw [List.getElem?_set_ne hj'] at e2 e4
        exact absurd ⟨j', k', d2, e2, e4, fun z => nomatch z⟩ c
    · by_cases hj' : i = j'
      · subst hj'
        rw [List.getElem?_set_self hσ] at e4
        cases e4
        rw [List.getElem?_set_ne hj] at e1 e3
        exact absurd ⟨j, k, d1, e1, e3, fun z => nomatch z⟩ c
      · rw [List.getElem?_set_ne hj] at e1 e3
        rw [List.getElem?_set_ne hj'] at e2 e4
        exact S.ne _ _ _ _ _ _ _ e1 e2 e3 e4
  · by_cases hj : i = j
    · subst hj
      rw [List.getElem?_set_self hσ] at e2
      simp only [Option.some.injEq, V.ref.injEq] at e2
      exact .inr e2.symm
    · rw [List.getElem?_set_ne hj] at e1 e2
      exact .inl ⟨j, k, d1, e1, e2, e3⟩
theorem store_lt {i : Nat} {r : Rv} (e : store i r env = some env') : i < env.length := by
  unfold store at e
  obtain ⟨_, e1, _⟩ := Option.bind_eq_some_iff.mp e
  split at e1
  · cases e1
  · cases e1
  · rename_i s _ _ hs
    exact get_lt hs
  · cases e1
theorem esc_len {r : Rv} {d : D} (e : esc r env = some (d, env')) : env'.length = env.length := by
  cases r with
  | sh d' => simp only [esc, Option.some.injEq, Prod.mk.injEq] at e; rw [e.2]
  | nw d' => simp only [esc, Option.some.injEq, Prod.mk.injEq] at e; rw [e.2]
  | sl i =>
    simp only [esc] at e
    split at e
    · simp only [Option.some.injEq, Prod.mk.injEq] at e; rw [← e.2]; simp
    · simp only [Option.some.injEq, Prod.mk.injEq] at e; rw [e.2]
    · cases e
theorem store_ok' {i : Nat} {r : Rv} {v : V} (S : StOk R σ env F H) (h : RvOk R σ env F H r v) (e : store i r env = some env') :
    ∃ F', StOk R (σ.set i (some v)) env' F' H ∧ Ext (fun b => Cell σ env b ∨ Tmp r v b) (Cell (σ.set i (some v)) env') F H F' H := by
  have hi := store_lt e
  unfold store at e
  obtain ⟨_, _, e⟩ := Option.bind_eq_some_iff.mp e
  cases r with
  | sh d =>
    simp only [Option.some.injEq] at e
    subst e
    obtain ⟨S', hc⟩ := S.putV hi h
    exact ⟨F, S', Ext.refl.mono (fun _ z => .inl z) hc⟩
  | nw d =>
    simp only [Option.some.injEq] at e
    subst e
    obtain ⟨p, rfl, n, m, c⟩ := h
    obtain ⟨S', hc⟩ := S.putN hi n m c
    refine ⟨F, S', (Ext.refl (C := fun b => Cell σ env b ∨ Tmp (.nw d) (.ref p) b)).mono (fun _ z => z) fun y z => (hc y z).imp_right fun w => ?_⟩
    show V.ref p = V.ref y.2
    rw [w]
  | sl j =>
    simp only [Option.bind_eq_some_iff, Prod.exists, Option.some.injEq] at e
    obtain ⟨d, env1, e1, e2⟩ := e
    subst e2
    obtain ⟨F', S', rp, x, hc, _⟩ := esc_ok S h e1
    obtain ⟨S2, hc2⟩ := S'.putV (by rw [esc_len e1]; exact hi) rp
    exact ⟨F', S2, x.mono (fun _ z => z) hc2⟩

/-! ### targets -/
def tG (R : Rc) (tg : Tg) : TG := fun v σ H Q => ∃ env F d env', StOk R σ env F H ∧ Rep R F d v ∧ bindT tg d env = some env' ∧
  ∀ σ', StOk R σ' env' F H → (∀ y, Cell σ' env' y → Cell σ env y) → (∀ j, j ∉ tg.slots → σ'[j]? = σ[j]?) → Q σ' H
def tGs (R : Rc) (tg : Tgs) : TGs := fun vs σ H Q => ∃ env F ds env', StOk R σ env F H ∧ Reps R F ds vs ∧ bindTs tg ds env = some env' ∧
  ∀ σ', StOk R σ' env' F H → (∀ y, Cell σ' env' y → Cell σ env y) → (∀ j, j ∉ Tg.slots.Tgs.slots tg → σ'[j]? = σ[j]?) → Q σ' H
theorem PG.of {X : Cx} {e : Expr} {t t' : TG} (h : PG X e t) (i : ∀ v σ H Q, t' v σ H Q → t v σ H Q) : PG X e t' := ⟨fun pins s σ H v u Q I r hw => h.run pins s σ H v u Q I r (i _ _ _ _ hw)⟩
theorem PGs.of {X : Cx} {e : List Expr} {t t' : TGs} (h : PGs X e t) (i : ∀ v σ H Q, t' v σ H Q → t v σ H Q) : PGs X e t' := ⟨fun pins s σ H v u Q I r hw => h.run pins s σ H v u Q I r (i _ _ _ _ hw)⟩
theorem tG_name {i : Nat} {v : V} {Q : L2.St → Hp → Prop} (h : tG R (.nm i) v σ H Q) : gName i v σ H Q := by
  obtain ⟨env, F, d, env', S, r, e, q⟩ := h
  have key : i < env.length ∧ env' = env.set i (.val d) := by
    simp only [bindT] at e
    split at e
    · cases e
    · cases e
    · rename_i s _ _ hs
      cases e
      exact ⟨get_lt hs, rfl⟩
    · cases e
  obtain ⟨hi, rfl⟩ := key
  obtain ⟨S', hc⟩ := S.putV hi r
  refine q _ S' hc fun j hj => ?_
  have hj : i ≠ j := fun z => hj (by simp [Tg.slots, z])
  rw [List.getElem?_set_ne hj]
theorem tG_tup {ts : Tgs} {v : V} {Q : L2.St → Hp → Prop} {n : Nat} (hn : ∀ ds (env env' : Sl), bindTs ts ds env = some env' → ds.length = n) (h : tG R (.tup ts) v σ H Q) : gTup R.K n (tGs R ts) v σ H Q := by
  obtain ⟨env, F, d, env', S, r, e, q⟩ := h
  cases d <;> simp only [bindT] at e <;> try contradiction
  rename_i ds
  simp only [Rep] at r
  obtain ⟨a, xs, rfl, s, rp⟩ := r
  exact ⟨a, xs, rfl, sqT_same S.sub s, by rw [← rp.length]; exact hn _ _ _ e, env, F, ds, env', S, rp, e, q⟩
theorem tGs_nil {vs : List V} {Q : L2.St → Hp → Prop} (h : tGs R .nil vs σ H Q) : gNil vs σ H Q := by
  obtain ⟨env, F, ds, env', S, r, e, q⟩ := h
  cases ds with
  | nil =>
    simp only [bindTs, Option.some.injEq] at e
    subst e
    exact ⟨Reps.nil_iff.mp r, q σ S (fun _ z => z) fun _ _ => rfl⟩
  | cons d ds => simp only [bindTs] at e; cases e
theorem tGs_cons {t : Tg} {ts : Tgs} {vs : List V} {Q : L2.St → Hp → Prop} (h : tGs R (.cons t ts) vs σ H Q) : gCons (tG R t) (tGs R ts) vs σ H Q := by
  obtain ⟨env, F, ds, env', S, r, e, q⟩ := h
  cases ds with
  | nil => simp only [bindTs] at e; cases e
  | cons d ds =>
    simp only [bindTs, Option.bind_eq_some_iff] at e
    obtain ⟨env1, e1, e2⟩ := e
    obtain ⟨v, ws, rfl, r1, r2⟩ := Reps.cons_iff.mp r
    refine ⟨v, ws, rfl, env, F, d, env1, S, r1, e1, fun σ1 S1 c1 k1 => ⟨env1, F, ds, env', S1, r2, e2, fun σ2 S2 c2 k2 => q σ2 S2 (fun y z => c1 y (c2 y z)) fun j hj => ?_⟩⟩
    have hj : j ∉ t.slots ++ Tg.slots.Tgs.slots ts := hj
    rw [List.mem_append, not_or] at hj
    rw [k2 j hj.2, k1 j hj.1]

/-! ### a comprehension's block -/
theorem wipe_get {σ : L2.St} {j : Nat} : ∀ {vs : List Nat}, j ∉ vs → (wipe σ vs)[j]? = σ[j]?
  | [], _ => rfl
  | v :: vs, h => by
    rw [List.mem_cons, not_or] at h
    show ((wipe σ vs).set v none)[j]? = _
    rw [List.getElem?_set_ne (Ne.symm h.1)]
    exact wipe_get h.2
theorem wipeS_get {env : Sl} {j : Nat} : ∀ {vs : List Nat}, j ∉ vs → (wipeS env vs)[j]? = env[j]?
  | [], _ => rfl
  | v :: vs, h => by
    rw [List.mem_cons, not_or] at h
    show ((wipeS env vs).set v .no)[j]? = _
    rw [List.getElem?_set_ne (Ne.symm h.1)]
    exact wipeS_get h.2
theorem wipeS_len {env : Sl} : ∀ {vs : List Nat}, (wipeS env vs).length = env.length
  | [] => rfl
  | v :: vs => by
    show ((wipeS env vs).set v .no).length = _
    rw [List.length_set, wipeS_len]
theorem wipeS_in {env : Sl} {j : Nat} {s : Slot} : ∀ {vs : List Nat}, j ∈ vs → (wipeS env vs)[j]? = some s → s = .no
  | v :: vs, h, e => by
    have e : ((wipeS env vs).set v .no)[j]? = some s := e
    by_cases hj : v = j
    · subst hj
      by_cases hl : v < (wipeS env vs).length
      · rw [List.getElem?_set_self hl] at e; cases e; rfl
      · rw [List.getElem?_eq_none (by simpa using hl)] at e; cases e
    · rw [List.getElem?_set_ne hj] at e
      rcases List.mem_cons.mp h with z | z
      · exact absurd z.symm hj
      · exact wipeS_in z e
theorem wipe_eq {σ2 : L2.St} {vs : List Nat} (hl : σ2.length = σ.length) (h : ∀ j, j ∉ vs → σ2[j]? = (wipe σ vs)[j]?) : wipe σ2 vs = wipe σ vs := by
  have wipe_in : ∀ {σ : L2.St} {j : Nat} {vs : List Nat}, j ∈ vs → j < σ.length → (wipe σ vs)[j]? = some none := by
    intro σ j vs
    induction vs with
    | nil => intro h; cases h
    | cons v vs ih =>
      intro h hl
      show ((wipe σ vs).set v none)[j]? = _
      by_cases hj : v = j
      · subst hj
        rw [List.getElem?_set_self (by rw [wipe_length]; exact hl)]
      · rw [List.getElem?_set_ne hj]
        rcases List.mem_cons.mp h with z | z
        · exact absurd z.symm hj
        · exact ih z hl
  apply List.ext_getElem?
  intro j
  by_cases hj : j ∈ vs
  · by_cases hlt : j < σ.length
    · rw [wipe_in hj (by rw [hl]; exact hlt), wipe_in hj hlt]
    · rw [List.getElem?_eq_none (by rw [wipe_length]; omega), List.getElem?_eq_none (by rw [wipe_length]; omega)]
  · rw [wipe_get hj, h j hj]
theorem StOk.wiped (S : StOk R σ env F H) (vs : List Nat) : StOk R (wipe σ vs) (wipeS env vs) F H ∧ ∀ y, Cell (wipe σ vs) (wipeS env vs) y → Cell σ env y := by
  have out : ∀ {j : Nat} {s : Slot}, (wipeS env vs)[j]? = some s → s ≠ .no → j ∉ vs ∧ env[j]? = some s := fun {j s} e n => by
    by_cases hj : j ∈ vs
    · exact absurd (wipeS_in hj e) n
    · rw [wipeS_get hj] at e; exact ⟨hj, e⟩
  refine ⟨⟨by rw [wipeS_len, wipe_length]; exact S.len, S.sub, fun j d e => ?_, fun j k d e => ?_, fun j j' k k' d d' p e1 e2 e3 e4 => ?_⟩, fun y ⟨j, k, d, e1, e2, e3⟩ => ?_⟩
  · obtain ⟨hj, e⟩ := out e (fun z => nomatch z)
    rw [wipe_get hj]
    exact S.val j d e
  · obtain ⟨hj, e⟩ := out e (fun z => nomatch z)
    rw [wipe_get hj]
    exact S.mu j k d e
  · obtain ⟨hj, f1⟩ := out e1 (fun z => nomatch z)
    obtain ⟨hj', f2⟩ := out e2 (fun z => nomatch z)
    rw [wipe_get hj] at e3
    rw [wipe_get hj'] at e4
    exact S.ne _ _ _ _ _ _ _ f1 f2 e3 e4
  · obtain ⟨hj, f1⟩ := out e1 (fun z => nomatch z)
    rw [wipe_get hj] at e2
    exact ⟨j, k, d, f1, e2, e3⟩
theorem backS_len {env old : Sl} : ∀ {vs : List Nat}, (backS env old vs).length = env.length
  | [] => rfl
  | v :: vs => by
    show ((backS env old vs).set v _).length = _
    rw [List.length_set, backS_len]
theorem backS_out {env old : Sl} {j : Nat} : ∀ {vs : List Nat}, j ∉ vs → (backS env old vs)[j]? = env[j]?
  | [], _ => rfl
  | v :: vs, h => by
    rw [List.mem_cons, not_or] at h
    show ((backS env old vs).set v _)[j]? = _
    rw [List.getElem?_set_ne (Ne.symm h.1)]
    exact backS_out h.2
theorem backS_in {env old : Sl} (hl : env.length = old.length) {j : Nat} : ∀ {vs : List Nat}, j ∈ vs → (backS env old vs)[j]? = old[j]?
  | v :: vs, h => by
    show ((backS env old vs).set v (old.getD v .no))[j]? = _
    by_cases hj : v = j
    · subst hj
      by_cases hlt : v < env.length
      · rw [List.getElem?_set_self (by rw [backS_len]; exact hlt), List.getD_eq_getElem?_getD, List.getElem?_eq_getElem (by omega)]
        rfl
      · rw [List.getElem?_eq_none (by rw [List.length_set, backS_len]; omega), List.getElem?_eq_none (by omega)]
    · rw [List.getElem?_set_ne hj]
      rcases List.mem_cons.mp h with z | z
      · exact absurd z.symm hj
      · exact backS_in hl z
/-- behind the block: its own names are what they were -/
theorem StOk.back {vs : List Nat} {σ2 : L2.St} {env2 : Sl} (S : StOk R σ env F H) (S2 : StOk R σ2 env2 F' H') (x : Ext (Cell (wipe σ vs) (wipeS env vs)) (Cell σ2 env2) F H F' H') (hσ : ∀ j, j ∉ vs → σ2[j]? = σ[j]?) (hl : σ2.length = σ.length) :
    StOk R σ (backS env2 env vs) F' H' ∧ Ext (Cell σ env) (Cell σ (backS env2 env vs)) F H F' H' := by
  have hle : env2.length = env.length := by rw [S2.len, hl, S.len]
  have two : ∀ {j : Nat} {s : Slot}, (backS env2 env vs)[j]? = some s → (j ∉ vs ∧ env2[j]? = some s) ∨ (j ∈ vs ∧ env[j]? = some s) := fun {j s} e => by
    by_cases hj : j ∈ vs
    · rw [backS_in hle hj] at e; exact .inr ⟨hj, e⟩
    · rw [backS_out hj] at e; exact .inl ⟨hj, e⟩
  -- an own name's thing is not touched in the block
  have own : ∀ {j : Nat} {k : Kd} {d : D} {p : Addr}, j ∈ vs → env[j]? = some (Slot.mu k d) → σ[j]? = some (some (V.ref p)) → ¬ Cell (wipe σ vs) (wipeS env vs) (false, p) := fun {j k d p} hj e1 e2 ⟨j', k', d', f1, f2, _⟩ => by
    by_cases hj' : j' ∈ vs
    · have := wipeS_in hj' f1
      cases this
    · rw [wipeS_get hj'] at f1
      rw [wipe_get hj'] at f2
      have := S.ne _ _ _ _ _ _ _ e1 f1 e2 f2
      rw [this] at hj
      exact hj' hj
  refine ⟨⟨by rw [backS_len, hle]; exact S.len, S2.sub, fun j d e => ?_, fun j k d e => ?_, fun j j' k k' d d' p e1 e2 e3 e4 => ?_⟩, ⟨x.sub, x.dom, fun b o h c => x.keep b o h fun z => c ((S.wiped vs).2 _ z), fun b h => (x.new b h).imp_right fun z => z.imp_right ((S.wiped vs).2 _), fun y ⟨j, k, d, e1, e2, e3⟩ => ?_⟩⟩
  · rcases two e with ⟨hj, e⟩ | ⟨hj, e⟩
    · obtain ⟨v, e1, r⟩ := S2.val j d e
      rw [hσ j hj] at e1
      exact ⟨v, e1, r⟩
    · obtain ⟨v, e1, r⟩ := S.val j d e
      exact ⟨v, e1, Rep.mono x.sub _ _ r⟩
  · rcases two e with ⟨hj, e⟩ | ⟨hj, e⟩
    · obtain ⟨p, e1, r⟩ := S2.mu j k d e
      rw [hσ j hj] at e1
      exact ⟨p, e1, r⟩
    · obtain ⟨p, e1, n, m⟩ := S.mu j k d e
      obtain ⟨o, ho, _⟩ := m.some
      have c : ¬ Cell (wipe σ vs) (wipeS env vs) (true, p) := fun z => own hj e e1 z.up
      obtain ⟨_, h2, _⟩ := x.stay ho n c
      exact ⟨p, e1, h2, m.mono x.sub fun o' h' => x.keep p o' h' c⟩
  · -- apart
    have cross : ∀ {j j' : Nat} {k k' : Kd} {d d' : D}, j ∉ vs → env2[j]? = some (Slot.mu k d) → j' ∈ vs → env[j']? = some (Slot.mu k' d') → σ[j]? = some (some (V.ref p)) → σ[j']? = some (some (V.ref p)) → False := fun {j j' k k' d d'} hj e1 hj' e2 e3 e4 => by
      rw [← hσ j hj] at e3
      rcases x.cel (false, p) ⟨j, k, d, e1, e3, fun z => nomatch z⟩ with z | z
      · exact own hj' e2 e4 z
      · obtain ⟨p', e5, n, m⟩ := S.mu j' k' d' e2
        rw [e4] at e5
        cases e5
        obtain ⟨o, ho, _⟩ := m.some
        have z : H p = none := z
        rw [ho] at z; cases z
    rcases two e1 with ⟨hj, f1⟩ | ⟨hj, f1⟩ <;> rcases two e2 with ⟨hj', f2⟩ | ⟨hj', f2⟩
    · rw [← hσ j hj] at e3
      rw [← hσ j' hj'] at e4
      exact S2.ne _ _ _ _ _ _ _ f1 f2 e3 e4
    · exact (cross hj f1 hj' f2 e3 e4).elim
    · exact (cross hj' f2 hj f1 e4 e3).elim
    · exact S.ne _ _ _ _ _ _ _ f1 f2 e3 e4
  · rcases two e1 with ⟨hj, f1⟩ | ⟨hj, f1⟩
    · rw [← hσ j hj] at e2
      exact (x.cel y ⟨j, k, d, f1, e2, e3⟩).imp_left ((S.wiped vs).2 _)
    · exact .inl ⟨j, k, d, f1, e2, e3⟩
theorem unlock_ok {l : Option Nat} (S : StOk R σ env F H) : StOk R σ (unlock l env) F H ∧ ∀ y, Cell σ (unlock l env) y → Cell σ env (false, y.2) := by
  have triv : StOk R σ env F H ∧ ∀ y, Cell σ env y → Cell σ env (false, y.2) := ⟨S, fun y ⟨j, k, d, e1, e2, e3⟩ => ⟨j, k, d, e1, e2, fun z => nomatch z⟩⟩
  cases l with
  | none => exact triv
  | some i =>
    simp only [unlock]
    split
    · rename_i d hi
      have hl := get_lt hi
      have back : ∀ (j : Nat) (k : Kd) (d1 : D), (env.set i (.mu .own d))[j]? = some (Slot.mu k d1) → ∃ k2, env[j]? = some (Slot.mu k2 d1) := fun j k d1 e => by
        by_cases hj : i = j
        · subst hj
          rw [List.getElem?_set_self hl] at e
          cases e
          exact ⟨.lck, hi⟩
        · rw [List.getElem?_set_ne hj] at e; exact ⟨k, e⟩
      refine ⟨⟨by simpa using S.len, S.sub, fun j d1 e => ?_, fun j k d1 e => ?_, fun j j' k k' d1 d2 q e1 e2 e3 e4 => ?_⟩, fun y ⟨j, k, d1, e1, e2, e3⟩ => ?_⟩
      · by_cases hj : i = j
        · subst hj; rw [List.getElem?_set_self hl] at e; cases e
        · rw [List.getElem?_set_ne hj] at e; exact S.val j d1 e
      · obtain ⟨k2, e5⟩ := back j k d1 e
        exact S.mu j k2 d1 e5
      · obtain ⟨k3, f1⟩ := back j k d1 e1
        obtain ⟨k4, f2⟩ := back j' k' d2 e2
        exact S.ne _ _ _ _ _ _ _ f1 f2 e3 e4
      · obtain ⟨k2, f1⟩ := back j k d1 e1
        exact ⟨j, k2, d1, f1, e2, fun z => nomatch z⟩
    · exact triv
end RE
set_option Elab.async false
set_option linter.all false
set_option maxRecDepth 100000
/-! Comprehensions. -/
namespace RE
open PySem PySem.Spec PyProof.Rows L2
variable {R : Rc} {F F' F1 F2 F3 H H' H1 H2 H3 : Hp} {σ σ' : L2.St} {env env' : Sl}

theorem StOk.poke {p : Addr} {o : HO} (S : StOk R σ env F H) (n : F p = none) (c : ¬ Cell σ env (false, p)) : StOk R σ env F (upd H p o) := by
  refine ⟨S.len, fun b u e => ?_, S.val, fun i k d e => ?_, S.ne⟩
  · by_cases hb : b = p
    · subst hb; rw [n] at e; cases e
    · rw [upd_ne hb]; exact S.sub b u e
  · obtain ⟨p', e1, n1, m⟩ := S.mu i k d e
    have np : p' ≠ p := fun z => by subst z; exact c ⟨i, k, d, e, e1, fun z => nomatch z⟩
    exact ⟨p', e1, n1, m.mono (Same.refl _) fun o' h' => by rw [upd_ne np]; exact h'⟩
theorem Ext.poke {p : Addr} {o u : HO} {C : Tg2 → Prop} (h : H p = some u) (c : C (true, p)) : Ext C C F H F (upd H p o) := by
  refine ⟨Same.refl _, fun b hb => ?_, fun b u e nc => ?_, fun _ h => .inl h, fun _ h => .inl h⟩
  · by_cases z : b = p
    · subst z; rw [upd_same] at hb; cases hb
    · rw [upd_ne z] at hb; exact hb
  · have : b ≠ p := fun z => by subst z; exact nc c
    rw [upd_ne this]; exact e
theorem lck_still {j : Nat} {d : D} {p : Addr} (S : StOk R σ env F H) (e : env[j]? = some (Slot.mu .lck d)) (e2 : σ[j]? = some (some (V.ref p))) : (∃ o, H p = some o) ∧ ¬ Cell σ env (true, p) := by
  obtain ⟨p', e3, _, m⟩ := S.mu j _ _ e
  rw [e2] at e3
  cases e3
  obtain ⟨o, ho, _⟩ := m.some
  refine ⟨⟨o, ho⟩, fun ⟨i, k, d', f1, f2, f3⟩ => ?_⟩
  have := S.ne _ _ _ _ _ _ _ e f1 e2 f2
  subst this
  rw [e] at f1
  cases f1
  exact f3 rfl rfl
/-- what a walk gives: nothing that stood is touched -/
theorem StOk.grow (S : StOk R σ env F H) (sF : Same F F') (s2 : Same F' H') (sH : Same H H') (hn : ∀ b, F' b ≠ none → F b ≠ none ∨ H b = none) : StOk R σ env F' H' ∧ Ext (Cell σ env) (Cell σ env) F H F' H' := by
  have x : Ext (fun _ => False) (fun _ => False) F H F' H' := ⟨sF, same_none sH, fun b o e _ => sH b o e, fun b hb => (hn b hb).imp_right .inl, fun b hb => hb.elim⟩
  exact ⟨S.ext x (fun _ _ z => z) s2, (x.pend (P := Cell σ env)).mono (fun b z => z.elim False.elim fun z => z) fun b z => .inr z⟩
mutual
theorem bindT_len : ∀ {t : Tg} {d : D} {env env' : Sl}, bindT t d env = some env' → env'.length = env.length
  | .nm i, d, env, env', e => by
    simp only [bindT] at e
    split at e
    · cases e
    · cases e
    · cases e; simp
    · cases e
  | .tup ts, .tup ds, env, env', e => by
    simp only [bindT] at e
    exact bindTs_len e
  | .tup _, .non, env, env', e => by simp only [bindT] at e; cases e
  | .tup _, .bl _, env, env', e => by simp only [bindT] at e; cases e
  | .tup _, .int _, env, env', e => by simp only [bindT] at e; cases e
  | .tup _, .str _, env, env', e => by simp only [bindT] at e; cases e
  | .tup _, .lst _, env, env', e => by simp only [bindT] at e; cases e
  | .tup _, .ins _ _ _, env, env', e => by simp only [bindT] at e; cases e
theorem bindTs_len : ∀ {ts : Tgs} {ds : List D} {env env' : Sl}, bindTs ts ds env = some env' → env'.length = env.length
  | .nil, [], env, env', e => by simp only [bindTs, Option.some.injEq] at e; rw [e]
  | .nil, _ :: _, env, env', e => by simp only [bindTs] at e; cases e
  | .cons _ _, [], env, env', e => by simp only [bindTs] at e; cases e
  | .cons t ts, d :: ds, env, env', e => by
    simp only [bindTs, Option.bind_eq_some_iff] at e
    obtain ⟨env1, e1, e2⟩ := e
    rw [bindTs_len e2, bindT_len e1]
end
theorem drop_get {α : Type} {ds : List α} {i : Nat} (h : i < ds.length) : ∃ d, ds[i]? = some d ∧ ds.drop i = d :: ds.drop (i + 1) :=
  ⟨ds[i], by simp [h], List.drop_eq_getElem_cons h⟩
theorem tV_lc {elt : Fv} {tg : Tg} {it : Sl → Option Itm} {cd : Sl → Option (Bool × Sl)} {Q : VK} (h : tV R (vLc elt tg it cd) σ H Q) : tLc (tItm R it) (tG R tg) (tTst R cd) (tV R elt) tg.slots σ H Q := by
  obtain ⟨env, F, rv, env', S, e, q⟩ := h
  simp only [vLc, Option.bind_eq_some_iff, Prod.exists] at e
  obtain ⟨ds, env1, l, e1, out, envN, e2, e3⟩ := e
  split at e3
  case isFalse => cases e3
  rename_i hline
  simp only [Option.some.injEq, Prod.mk.injEq] at e3
  obtain ⟨rfl, rfl⟩ := e3
  have hline : out.length ≤ 16777216 := by simpa [lineOk] using hline
  refine ⟨env, F, ds, env1, l, S, e1, fun J lp F1 H1 S1 x1 hlp hu w => fun D hD => ?_⟩
  obtain ⟨G, Y, wk, hG, hY⟩ := w.ex
  obtain ⟨S0, x0, nF0, nc0⟩ := S1.laid (o := .lst []) hD
  have still : ∀ {C : Tg2 → Prop} {Fi Hi : Hp}, Ext (Cell σ env1) C F1 H1 Fi Hi → ∀ p, lp = some p → Hi p = H1 p := fun x p hp => by
    obtain ⟨j, d, ej, eσ⟩ := hlp p hp
    obtain ⟨⟨o, ho⟩, nc⟩ := lck_still S1 ej eσ
    rw [ho, x.keep p o ho nc]
  refine lc_it (Qd := fun H => Q (.ref D) H) wk (fun i Hi => ∃ (envi : Sl) (Fi : Hp) (acc : List V) (dacc rest : List RE.D), StOk R σ envi Fi Hi ∧ Ext (Cell σ env1) (fun b => Cell σ envi b ∨ b.2 = D) F1 H1 Fi Hi ∧
    Hi D = some (.lst acc) ∧ Fi D = none ∧ ¬ Cell σ envi (false, D) ∧ Reps R Fi dacc acc ∧ loopC tg cd (toD elt) tg.slots (ds.drop i) envi = some (rest, envN) ∧ dacc ++ rest = out) ?_ ?_ ?_ ?_
  · exact ⟨env1, F1, [], [], out, S0, x0, upd_same, nF0, nc0, Reps.nil, e2, rfl⟩
  · rintro i Hi _ ⟨envi, Fi, acc, dacc, rest, Si, xi, hD1, nFi, nci, rp, el, eo⟩
    exact hG Fi Hi xi.sub Si.sub (still xi)
  · rintro i x Hi H' hi ⟨envi, Fi, acc, dacc, rest, Si, xi, hD1, nFi, nci, rp, el, eo⟩ y
    obtain ⟨d, hd, hdrop⟩ := drop_get hi
    rw [hdrop] at el
    simp only [loopC, Option.bind_eq_some_iff] at el
    obtain ⟨enva, ea, ⟨b0, envb⟩, eb, el⟩ := el
    obtain ⟨F3, s1, s2, s3, s4, rx⟩ := hY i d x Hi H' Fi xi.sub Si.sub (still xi) hd y
    obtain ⟨S3, x3⟩ := Si.grow s1 s2 s3 s4
    have nF3 : F3 D = none := by
      cases z : F3 D with
      | none => rfl
      | some u =>
        rcases s4 D (by rw [z]; exact fun z => nomatch z) with z | z
        · exact absurd nFi z
        · rw [hD1] at z; cases z
    have hD3 : H' D = some (.lst acc) := s3 _ _ hD1
    obtain ⟨Sw, hw⟩ := S3.wiped tg.slots
    refine ⟨wipeS envi tg.slots, F3, d, enva, Sw, rx, ea, fun σ2 S4 c4 k4 => ?_⟩
    have hl : σ2.length = σ.length := by rw [← S4.len, bindT_len ea, wipeS_len, S3.len]
    refine ⟨wipe_eq hl k4, enva, F3, b0, envb, S4, eb, fun F5 H5 S5 x5 => ?_⟩
    have x45 : Ext (Cell (wipe σ tg.slots) (wipeS envi tg.slots)) (Cell σ2 envb) F3 H' F5 H5 := x5.mono (fun b z => c4 b z) fun _ z => z
    have hσ : ∀ j, j ∉ tg.slots → σ2[j]? = σ[j]? := fun j hj => by rw [k4 j hj, wipe_get hj]
    cases b0 with
    | false =>
      obtain ⟨S6, x6⟩ := S3.back S5 x45 hσ hl
      obtain ⟨h1, h2, h3⟩ := x6.stay hD3 nF3 (fun z => nci z.up)
      have el : loopC tg cd (toD elt) tg.slots (ds.drop (i + 1)) (backS envb envi tg.slots) = some (rest, envN) := el
      exact ⟨backS envb envi tg.slots, F5, acc, dacc, rest, S6, xi.trans ((x3.trans x6).pend (P := fun b => b.2 = D)), h1, h2, fun z => nci (h3 _ z), Reps.mono (s1.trans x6.sub) _ _ rp, el, eo⟩
    | true =>
      simp only [if_true, toD, Option.bind_eq_some_iff] at el
      obtain ⟨⟨dy, envc⟩, ⟨⟨rvy, envy⟩, ey, ey2⟩, ⟨outs, envo⟩, eo2, eo3⟩ := el
      simp only [Option.some.injEq, Prod.mk.injEq] at eo3
      obtain ⟨eo3, eo4⟩ := eo3
      simp only at eo2 ey2
      rw [eo4] at eo2
      show tV R elt σ2 H5 _
      refine ⟨envb, F5, rvy, envy, S5, ey, fun vy F6 H6 S6 x6 r6 => ?_⟩
      obtain ⟨F7, S7, rp7, x7, _, _⟩ := esc_ok S6 r6 ey2
      have x57 : Ext (Cell σ2 envb) (Cell σ2 envc) F5 H5 F7 H6 := x6.trans x7
      obtain ⟨S8, x8⟩ := S3.back S7 (x45.trans x57) hσ hl
      obtain ⟨h1, h2, h3⟩ := x8.stay hD3 nF3 (fun z => nci z.up)
      have hrest : rest = dy :: outs := eo3.symm
      have hlen : acc.length < sizeLine := by
        rw [← rp.length]
        have : dacc.length + (outs.length + 1) = out.length := by rw [← eo, hrest]; simp
        show dacc.length < 16777216
        omega
      refine ⟨acc, h1, hlen, backS envc envi tg.slots, F7, acc ++ [vy], dacc ++ [dy], outs, S8.poke h2 (fun z => nci (h3 _ z)), ?_, upd_same, h2, fun z => nci (h3 _ z), Reps.append (Reps.mono (s1.trans x8.sub) _ _ rp) (Reps.cons rp7 Reps.nil), eo2, by rw [List.append_assoc]; rw [← eo, hrest]; rfl⟩
      exact (xi.trans ((x3.trans x8).pend (P := fun b => b.2 = D))).trans (Ext.poke h1 (.inr rfl))
  · rintro Hn ⟨envn, Fn, acc, dacc, rest, Sn, xn, hDn, nFn, ncn, rp, el, eo⟩
    rw [List.drop_length] at el
    simp only [loopC, Option.some.injEq, Prod.mk.injEq] at el
    obtain ⟨rfl, rfl⟩ := el
    rw [List.append_nil] at eo
    subst eo
    obtain ⟨Su, hcu⟩ := unlock_ok (l := l) Sn
    refine q (.ref D) Fn Hn Su ?_ ⟨D, rfl, nFn, ⟨acc, hDn, rp⟩, fun z => ncn (hcu _ z)⟩
    have x : Ext (Cell σ env) (fun b => Cell σ envn b ∨ b.2 = D) F H Fn Hn := x1.trans xn
    refine ⟨x.sub, x.dom, x.keep, x.new, fun y z => ?_⟩
    rcases z with z | z
    · -- a cell behind the unlocking
      obtain ⟨t, p⟩ := y
      cases t with
      | false => exact (x.cel (false, p) (.inl (hcu _ z)))
      | true =>
        obtain ⟨j, k, d, f1, f2, f3⟩ := z
        cases l with
        | none => exact x.cel (true, p) (.inl ⟨j, k, d, f1, f2, f3⟩)
        | some i =>
          simp only [unlock] at f1
          split at f1
          · rename_i d1 hi
            by_cases hij : i = j
            · subst hij
              exact (hu i rfl).2 p f2
            · rw [List.getElem?_set_ne hij] at f1
              exact x.cel (true, p) (.inl ⟨j, k, d, f1, f2, f3⟩)
          · exact x.cel (true, p) (.inl ⟨j, k, d, f1, f2, f3⟩)
    · have z : V.ref D = V.ref y.2 := z
      exact x.cel y (.inr (V.ref.inj z).symm)
/-- behind the block: its own names are what they were -/
theorem StOk.backP {P : Tg2 → Prop} {vs : List Nat} {σ2 : L2.St} {env2 : Sl} (S : StOk R σ env F H) (S2 : StOk R σ2 env2 F' H') (x : Ext (fun b => Cell (wipe σ vs) (wipeS env vs) b ∨ P b) (fun b => Cell σ2 env2 b ∨ P b) F H F' H') (hσ : ∀ j, j ∉ vs → σ2[j]? = σ[j]?) (hl : σ2.length = σ.length) (hP : ∀ y, P y → ¬ Cell σ env (false, y.2)) :
    StOk R σ (backS env2 env vs) F' H' ∧ Ext (fun b => Cell σ env b ∨ P b) (fun b => Cell σ (backS env2 env vs) b ∨ P b) F H F' H' := by
  have hle : env2.length = env.length := by rw [S2.len, hl, S.len]
  have two : ∀ {j : Nat} {s : Slot}, (backS env2 env vs)[j]? = some s → (j ∉ vs ∧ env2[j]? = some s) ∨ (j ∈ vs ∧ env[j]? = some s) := fun {j s} e => by
    by_cases hj : j ∈ vs
    · rw [backS_in hle hj] at e; exact .inr ⟨hj, e⟩
    · rw [backS_out hj] at e; exact .inl ⟨hj, e⟩
  -- an own name's thing is not touched in the block
  have own : ∀ {j : Nat} {k : Kd} {d : D} {p : Addr}, j ∈ vs → env[j]? = some (Slot.mu k d) → σ[j]? = some (some (V.ref p)) → ¬ Cell (wipe σ vs) (wipeS env vs) (false, p) := fun {j k d p} hj e1 e2 ⟨j', k', d', f1, f2, _⟩ => by
    by_cases hj' : j' ∈ vs
    · have := wipeS_in hj' f1
      cases this
    · rw [wipeS_get hj'] at f1
      rw [wipe_get hj'] at f2
      have := S.ne _ _ _ _ _ _ _ e1 f1 e2 f2
      rw [this] at hj
      exact hj' hj
  refine ⟨⟨by rw [backS_len, hle]; exact S.len, S2.sub, fun j d e => ?_, fun j k d e => ?_, fun j j' k k' d d' p e1 e2 e3 e4 => ?_⟩, ⟨x.sub, x.dom, fun b o h c => x.keep b o h fun z => c (z.imp_left ((S.wiped vs).2 _)), fun b h => (x.new b h).imp_right fun z => z.imp_right fun z => z.imp_left ((S.wiped vs).2 _), fun y z => ?_⟩⟩
  · rcases two e with ⟨hj, e⟩ | ⟨hj, e⟩
    · obtain ⟨v, e1, r⟩ := S2.val j d e
      rw [hσ j hj] at e1
      exact ⟨v, e1, r⟩
    · obtain ⟨v, e1, r⟩ := S.val j d e
      exact ⟨v, e1, Rep.mono x.sub _ _ r⟩
  · rcases two e with ⟨hj, e⟩ | ⟨hj, e⟩
    · obtain ⟨p, e1, r⟩ := S2.mu j k d e
      rw [hσ j hj] at e1
      exact ⟨p, e1, r⟩
    · obtain ⟨p, e1, n, m⟩ := S.mu j k d e
      obtain ⟨o, ho, _⟩ := m.some
      have c : ¬ (Cell (wipe σ vs) (wipeS env vs) (true, p) ∨ P (true, p)) := fun z => z.elim (fun z => own hj e e1 z.up) fun z => hP _ z ⟨j, k, d, e, e1, fun z => nomatch z⟩
      obtain ⟨_, h2, _⟩ := x.stay ho n c
      exact ⟨p, e1, h2, m.mono x.sub fun o' h' => x.keep p o' h' c⟩
  · -- apart
    have cross : ∀ {j j' : Nat} {k k' : Kd} {d d' : D}, j ∉ vs → env2[j]? = some (Slot.mu k d) → j' ∈ vs → env[j']? = some (Slot.mu k' d') → σ[j]? = some (some (V.ref p)) → σ[j']? = some (some (V.ref p)) → False := fun {j j' k k' d d'} hj e1 hj' e2 e3 e4 => by
      rw [← hσ j hj] at e3
      rcases x.cel (false, p) (.inl ⟨j, k, d, e1, e3, fun z => nomatch z⟩) with z | z
      · exact z.elim (fun z => own hj' e2 e4 z) fun z => hP _ z ⟨j', k', d', e2, e4, fun z => nomatch z⟩
      · obtain ⟨p', e5, n, m⟩ := S.mu j' k' d' e2
        rw [e4] at e5
        cases e5
        obtain ⟨o, ho, _⟩ := m.some
        have z : H p = none := z
        rw [ho] at z; cases z
    rcases two e1 with ⟨hj, f1⟩ | ⟨hj, f1⟩ <;> rcases two e2 with ⟨hj', f2⟩ | ⟨hj', f2⟩
    · rw [← hσ j hj] at e3
      rw [← hσ j' hj'] at e4
      exact S2.ne _ _ _ _ _ _ _ f1 f2 e3 e4
    · exact (cross hj f1 hj' f2 e3 e4).elim
    · exact (cross hj' f2 hj f1 e4 e3).elim
    · exact S.ne _ _ _ _ _ _ _ f1 f2 e3 e4
  · rcases z with ⟨j, k, d, e1, e2, e3⟩ | z
    · rcases two e1 with ⟨hj, f1⟩ | ⟨hj, f1⟩
      · rw [← hσ j hj] at e2
        exact (x.cel y (.inl ⟨j, k, d, f1, e2, e3⟩)).imp_left fun z => z.imp_left ((S.wiped vs).2 _)
      · exact .inl (.inl ⟨j, k, d, f1, e2, e3⟩)
    · exact .inl (.inr z)
theorem back_cell {vs : List Nat} {σ2 : L2.St} {env2 : Sl} {p : Addr} (hle : env2.length = env.length) (hσ : ∀ j, j ∉ vs → σ2[j]? = σ[j]?) (n1 : ¬ Cell σ env (false, p)) (n2 : ¬ Cell σ2 env2 (false, p)) : ¬ Cell σ (backS env2 env vs) (false, p) := by
  rintro ⟨j, k, d, e1, e2, e3⟩
  by_cases hj : j ∈ vs
  · rw [backS_in hle hj] at e1
    exact n1 ⟨j, k, d, e1, e2, e3⟩
  · rw [backS_out hj] at e1
    rw [← hσ j hj] at e2
    exact n2 ⟨j, k, d, e1, e2, e3⟩
/-- a walk's turn, from within another comprehension: the list at D goes on -/
theorem inC_ok {elt : Fv} {tg : Tg} {it : Sl → Option Itm} {cd : Sl → Option (Bool × Sl)} {D : Addr} {acc0 : List V} {dacc0 outs : List RE.D} {Nx : Hp → Prop} (S : StOk R σ env F H) (hD : H D = some (.lst acc0)) (nFD : F D = none) (ncD : ¬ Cell σ env (false, D)) (rp0 : Reps R F dacc0 acc0)
    (e : inC elt tg it cd env = some (outs, env')) (hline : dacc0.length + outs.length ≤ 16777216)
    (q : ∀ F' H' acc, StOk R σ env' F' H' → Ext (fun b => Cell σ env b ∨ b.2 = D) (fun b => Cell σ env' b ∨ b.2 = D) F H F' H' → H' D = some (.lst acc) → F' D = none → ¬ Cell σ env' (false, D) → Reps R F' (dacc0 ++ outs) acc → Nx H') :
    tItm R it σ H fun J H1 => ∃ W : Nat → Nat → Hp → Prop, (∃ m, W 0 m H1) ∧ ∀ i m H, W i m H → (J.stop i H ∧ Nx H) ∨ (J.go i H ∧ ∃ Nx1 : Hp → Prop, (∀ H', Nx1 H' → ∃ m', m' < m ∧ W (i + 1) m' H') ∧
      ∀ x H', J.yld i H x H' → tG R tg x (wipe σ tg.slots) H' fun σ3 H5 => wipe σ3 tg.slots = wipe σ tg.slots ∧ tTst R cd σ3 H5 fun b H6 =>
        if b = true then tV R elt σ3 H6 fun y H7 => ∃ acc, H7 D = some (.lst acc) ∧ acc.length < sizeLine ∧ Nx1 (upd H7 D (.lst (acc ++ [y]))) else Nx1 H6) := by
  simp only [inC, Option.bind_eq_some_iff, Prod.exists, Option.some.injEq, Prod.mk.injEq] at e
  obtain ⟨ds, env1, l, e1, out, envN, e2, e3, e4⟩ := e
  subst e3
  refine ⟨env, F, ds, env1, l, S, e1, fun J lp F1 H1 S1 x1 hlp hu w => ?_⟩
  obtain ⟨G, Y, wk, hG, hY⟩ := w.ex
  obtain ⟨hD1', nF1, nc1⟩ := x1.stay hD nFD (fun z => ncD z.up)
  have still : ∀ {C : Tg2 → Prop} {Fi Hi : Hp}, Ext (fun b => Cell σ env1 b ∨ b.2 = D) C F1 H1 Fi Hi → ∀ p, lp = some p → Hi p = H1 p := fun x p hp => by
    obtain ⟨j, d, ej, eσ⟩ := hlp p hp
    obtain ⟨⟨o, ho⟩, nc⟩ := lck_still S1 ej eσ
    rw [ho, x.keep p o ho fun z => z.elim nc fun z => by
      have z : p = D := z
      subst z
      exact ncD (nc1 _ ⟨j, _, _, ej, eσ, fun z => nomatch z⟩)]
  have stop : ∀ {Hn : Hp}, (∃ (envi : Sl) (Fi : Hp) (acc : List V) (dacc rest : List RE.D), StOk R σ envi Fi Hn ∧ Ext (fun b => Cell σ env1 b ∨ b.2 = D) (fun b => Cell σ envi b ∨ b.2 = D) F1 H1 Fi Hn ∧
    Hn D = some (.lst acc) ∧ Fi D = none ∧ ¬ Cell σ envi (false, D) ∧ Reps R Fi dacc acc ∧ loopC tg cd (toD elt) tg.slots (ds.drop ds.length) envi = some (rest, envN) ∧ dacc ++ rest = dacc0 ++ out) → Nx Hn := by
    rintro Hn ⟨envn, Fn, acc, dacc, rest, Sn, xn, hDn, nFn, ncn, rp, el, eo⟩
    rw [List.drop_length] at el
    simp only [loopC, Option.some.injEq, Prod.mk.injEq] at el
    obtain ⟨rfl, rfl⟩ := el
    rw [List.append_nil] at eo
    subst e4
    obtain ⟨Su, hcu⟩ := unlock_ok (l := l) Sn
    refine q Fn Hn acc Su ?_ hDn nFn (fun z => ncn (hcu _ z)) (by rw [← eo]; exact rp)
    have x : Ext (fun b => Cell σ env b ∨ b.2 = D) (fun b => Cell σ envn b ∨ b.2 = D) F H Fn Hn := (x1.pend (P := fun b => b.2 = D)).trans xn
    refine ⟨x.sub, x.dom, x.keep, x.new, fun y z => ?_⟩
    rcases z with z | z
    · obtain ⟨t, p⟩ := y
      cases t with
      | false => exact (x.cel (false, p) (.inl (hcu _ z)))
      | true =>
        obtain ⟨j, k, d, f1, f2, f3⟩ := z
        cases l with
        | none => exact x.cel (true, p) (.inl ⟨j, k, d, f1, f2, f3⟩)
        | some i =>
          simp only [unlock] at f1
          split at f1
          · rename_i d1 hi
            by_cases hij : i = j
            · subst hij
              exact ((hu i rfl).2 p f2).imp_left .inl
            · rw [List.getElem?_set_ne hij] at f1
              exact x.cel (true, p) (.inl ⟨j, k, d, f1, f2, f3⟩)
          · exact x.cel (true, p) (.inl ⟨j, k, d, f1, f2, f3⟩)
    · exact .inl (.inr z)
  refine ⟨fun i m Hi => m = ds.length - i ∧ i ≤ ds.length ∧ ∃ (envi : Sl) (Fi : Hp) (acc : List V) (dacc rest : List RE.D), StOk R σ envi Fi Hi ∧ Ext (fun b => Cell σ env1 b ∨ b.2 = D) (fun b => Cell σ envi b ∨ b.2 = D) F1 H1 Fi Hi ∧
    Hi D = some (.lst acc) ∧ Fi D = none ∧ ¬ Cell σ envi (false, D) ∧ Reps R Fi dacc acc ∧ loopC tg cd (toD elt) tg.slots (ds.drop i) envi = some (rest, envN) ∧ dacc ++ rest = dacc0 ++ out, ⟨ds.length, by simp, Nat.zero_le _, ?_⟩, ?_⟩
  · exact ⟨env1, F1, acc0, dacc0, out, S1, Ext.refl, hD1', nF1, fun z => ncD (nc1 _ z), Reps.mono x1.sub _ _ rp0, e2, rfl⟩
  rintro i m Hi ⟨rfl, hile, envi, Fi, acc, dacc, rest, Si, xi, hD1, nFi, nci, rp, el, eo⟩
  have gi : G Hi := hG Fi Hi xi.sub Si.sub (still xi)
  by_cases hi : i < ds.length
  case neg =>
    have : i = ds.length := by omega
    subst this
    exact .inl ⟨wk.stops _ gi, stop ⟨envi, Fi, acc, dacc, rest, Si, xi, hD1, nFi, nci, rp, el, eo⟩⟩
  refine .inr ⟨wk.goes i Hi hi gi, fun Hi => ∃ (envi : Sl) (Fi : Hp) (acc : List V) (dacc rest : List RE.D), StOk R σ envi Fi Hi ∧ Ext (fun b => Cell σ env1 b ∨ b.2 = D) (fun b => Cell σ envi b ∨ b.2 = D) F1 H1 Fi Hi ∧
    Hi D = some (.lst acc) ∧ Fi D = none ∧ ¬ Cell σ envi (false, D) ∧ Reps R Fi dacc acc ∧ loopC tg cd (toD elt) tg.slots (ds.drop (i + 1)) envi = some (rest, envN) ∧ dacc ++ rest = dacc0 ++ out, fun H' p => ⟨ds.length - (i + 1), by omega, rfl, hi, p⟩, fun x H' y => ?_⟩
  have y := wk.yields i Hi x H' hi gi y
  obtain ⟨d, hd, hdrop⟩ := drop_get hi
  rw [hdrop] at el
  simp only [loopC, Option.bind_eq_some_iff] at el
  obtain ⟨enva, ea, ⟨b0, envb⟩, eb, el⟩ := el
  obtain ⟨F3, s1, s2, s3, s4, rx⟩ := hY i d x Hi H' Fi xi.sub Si.sub (still xi) hd y
  obtain ⟨S3, x3⟩ := Si.grow s1 s2 s3 s4
  have nF3 : F3 D = none := by
    cases z : F3 D with
    | none => rfl
    | some u =>
      rcases s4 D (by rw [z]; exact fun z => nomatch z) with z | z
      · exact absurd nFi z
      · rw [hD1] at z; cases z
  have hD3 : H' D = some (.lst acc) := s3 _ _ hD1
  obtain ⟨Sw, hw⟩ := S3.wiped tg.slots
  refine ⟨wipeS envi tg.slots, F3, d, enva, Sw, rx, ea, fun σ2 S4 c4 k4 => ?_⟩
  have hl : σ2.length = σ.length := by rw [← S4.len, bindT_len ea, wipeS_len, S3.len]
  refine ⟨wipe_eq hl k4, enva, F3, b0, envb, S4, eb, fun F5 H5 S5 x5 => ?_⟩
  have x45 : Ext (Cell (wipe σ tg.slots) (wipeS envi tg.slots)) (Cell σ2 envb) F3 H' F5 H5 := x5.mono (fun b z => c4 b z) fun _ z => z
  have hσ : ∀ j, j ∉ tg.slots → σ2[j]? = σ[j]? := fun j hj => by rw [k4 j hj, wipe_get hj]
  cases b0 with
  | false =>
    obtain ⟨S6, x6⟩ := S3.back S5 x45 hσ hl
    obtain ⟨h1, h2, h3⟩ := x6.stay hD3 nF3 (fun z => nci z.up)
    have el : loopC tg cd (toD elt) tg.slots (ds.drop (i + 1)) (backS envb envi tg.slots) = some (rest, envN) := el
    exact ⟨backS envb envi tg.slots, F5, acc, dacc, rest, S6, xi.trans ((x3.trans x6).pend (P := fun b => b.2 = D)), h1, h2, fun z => nci (h3 _ z), Reps.mono (s1.trans x6.sub) _ _ rp, el, eo⟩
  | true =>
    simp only [if_true, toD, Option.bind_eq_some_iff] at el
    obtain ⟨⟨dy, envc⟩, ⟨⟨rvy, envy⟩, ey, ey2⟩, ⟨outs, envo⟩, eo2, eo3⟩ := el
    simp only [Option.some.injEq, Prod.mk.injEq] at eo3
    obtain ⟨eo3, eo4⟩ := eo3
    simp only at eo2 ey2
    rw [eo4] at eo2
    show tV R elt σ2 H5 _
    refine ⟨envb, F5, rvy, envy, S5, ey, fun vy F6 H6 S6 x6 r6 => ?_⟩
    obtain ⟨F7, S7, rp7, x7, _, _⟩ := esc_ok S6 r6 ey2
    have x57 : Ext (Cell σ2 envb) (Cell σ2 envc) F5 H5 F7 H6 := x6.trans x7
    obtain ⟨S8, x8⟩ := S3.back S7 (x45.trans x57) hσ hl
    obtain ⟨h1, h2, h3⟩ := x8.stay hD3 nF3 (fun z => nci z.up)
    have hrest : rest = dy :: outs := eo3.symm
    have hlen : acc.length < sizeLine := by
      rw [← rp.length]
      have : dacc.length + (outs.length + 1) = dacc0.length + out.length := by rw [← List.length_append, ← eo, hrest]; simp
      show dacc.length < 16777216
      omega
    refine ⟨acc, h1, hlen, backS envc envi tg.slots, F7, acc ++ [vy], dacc ++ [dy], outs, S8.poke h2 (fun z => nci (h3 _ z)), ?_, upd_same, h2, fun z => nci (h3 _ z), Reps.append (Reps.mono (s1.trans x8.sub) _ _ rp) (Reps.cons rp7 Reps.nil), eo2, by rw [List.append_assoc]; rw [← eo, hrest]; rfl⟩
    exact (xi.trans ((x3.trans x8).pend (P := fun b => b.2 = D))).trans (Ext.poke h1 (.inr rfl))
theorem tV_lc2 {elt : Fv} {tg tg2 : Tg} {it it2 : Sl → Option Itm} {cd cd2 : Sl → Option (Bool × Sl)} {Q : VK} (h : tV R (vLc2 elt tg it cd tg2 it2 cd2) σ H Q) : tLc2 (tItm R it) (tG R tg) (tTst R cd) (tItm R it2) (tG R tg2) (tTst R cd2) (tV R elt) (tg.slots ++ tg2.slots) tg2.slots σ H Q := by
  generalize hvs : tg.slots ++ tg2.slots = vs at h
  have hin : ∀ j, j ∉ vs → j ∉ tg.slots := fun j hj z => hj (by rw [← hvs]; exact List.mem_append_left _ z)
  obtain ⟨env, F, rv, env', S, e, q⟩ := h
  simp only [vLc2, hvs, Option.bind_eq_some_iff, Prod.exists] at e
  obtain ⟨ds, env1, l, e1, out, envN, e2, e3⟩ := e
  split at e3
  case isFalse => cases e3
  rename_i hline
  simp only [Option.some.injEq, Prod.mk.injEq] at e3
  obtain ⟨rfl, rfl⟩ := e3
  have hline : out.length ≤ 16777216 := by simpa [lineOk] using hline
  refine ⟨env, F, ds, env1, l, S, e1, fun J lp F1 H1 S1 x1 hlp hu w => fun D hD => ?_⟩
  obtain ⟨G, Y, wk, hG, hY⟩ := w.ex
  obtain ⟨S0, x0, nF0, nc0⟩ := S1.laid (o := .lst []) hD
  have still : ∀ {C : Tg2 → Prop} {Fi Hi : Hp}, Ext (Cell σ env1) C F1 H1 Fi Hi → ∀ p, lp = some p → Hi p = H1 p := fun x p hp => by
    obtain ⟨j, d, ej, eσ⟩ := hlp p hp
    obtain ⟨⟨o, ho⟩, nc⟩ := lck_still S1 ej eσ
    rw [ho, x.keep p o ho nc]
  let Pv : Nat → Hp → Prop := fun i Hi => ∃ (envi : Sl) (Fi : Hp) (acc : List V) (dacc rest : List RE.D), StOk R σ envi Fi Hi ∧ Ext (Cell σ env1) (fun b => Cell σ envi b ∨ b.2 = D) F1 H1 Fi Hi ∧
    Hi D = some (.lst acc) ∧ Fi D = none ∧ ¬ Cell σ envi (false, D) ∧ Reps R Fi dacc acc ∧ loopM tg cd (inC elt tg2 it2 cd2) vs (ds.drop i) envi = some (rest, envN) ∧ dacc ++ rest = out
  refine ⟨fun i m Hi => m = ds.length - i ∧ i ≤ ds.length ∧ Pv i Hi, ⟨ds.length, by simp, Nat.zero_le _, env1, F1, [], [], out, S0, x0, upd_same, nF0, nc0, Reps.nil, e2, rfl⟩, ?_⟩
  rintro i m Hi ⟨rfl, hile, envi, Fi, acc, dacc, rest, Si, xi, hD1, nFi, nci, rp, el, eo⟩
  have gi : G Hi := hG Fi Hi xi.sub Si.sub (still xi)
  by_cases hi : i < ds.length
  case neg =>
    have : i = ds.length := by omega
    subst this
    refine .inl ⟨wk.stops _ gi, ?_⟩
    rw [List.drop_length] at el
    simp only [loopM, Option.some.injEq, Prod.mk.injEq] at el
    obtain ⟨rfl, rfl⟩ := el
    rw [List.append_nil] at eo
    subst eo
    obtain ⟨Su, hcu⟩ := unlock_ok (l := l) Si
    refine q (.ref D) Fi Hi Su ?_ ⟨D, rfl, nFi, ⟨acc, hD1, rp⟩, fun z => nci (hcu _ z)⟩
    have x : Ext (Cell σ env) (fun b => Cell σ envi b ∨ b.2 = D) F H Fi Hi := x1.trans xi
    refine ⟨x.sub, x.dom, x.keep, x.new, fun y z => ?_⟩
    rcases z with z | z
    · obtain ⟨t, p⟩ := y
      cases t with
      | false => exact (x.cel (false, p) (.inl (hcu _ z)))
      | true =>
        obtain ⟨j, k, d, f1, f2, f3⟩ := z
        cases l with
        | none => exact x.cel (true, p) (.inl ⟨j, k, d, f1, f2, f3⟩)
        | some i =>
          simp only [unlock] at f1
          split at f1
          · rename_i d1 hi
            by_cases hij : i = j
            · subst hij
              exact (hu i rfl).2 p f2
            · rw [List.getElem?_set_ne hij] at f1
              exact x.cel (true, p) (.inl ⟨j, k, d, f1, f2, f3⟩)
          · exact x.cel (true, p) (.inl ⟨j, k, d, f1, f2, f3⟩)
    · have z : V.ref D = V.ref y.2 := z
      exact x.cel y (.inr (V.ref.inj z).symm)
  refine .inr ⟨wk.goes i Hi hi gi, Pv (i + 1), fun H' p => ⟨ds.length - (i + 1), by omega, rfl, hi, p⟩, fun x H' y => ?_⟩
  have y := wk.yields i Hi x H' hi gi y
  obtain ⟨d, hd, hdrop⟩ := drop_get hi
  rw [hdrop] at el
  simp only [loopM, Option.bind_eq_some_iff] at el
  obtain ⟨enva, ea, ⟨b0, envb⟩, eb, el⟩ := el
  obtain ⟨F3, s1, s2, s3, s4, rx⟩ := hY i d x Hi H' Fi xi.sub Si.sub (still xi) hd y
  obtain ⟨S3, x3⟩ := Si.grow s1 s2 s3 s4
  have nF3 : F3 D = none := by
    cases z : F3 D with
    | none => rfl
    | some u =>
      rcases s4 D (by rw [z]; exact fun z => nomatch z) with z | z
      · exact absurd nFi z
      · rw [hD1] at z; cases z
  have hD3 : H' D = some (.lst acc) := s3 _ _ hD1
  obtain ⟨Sw, hw⟩ := S3.wiped vs
  refine ⟨wipeS envi vs, F3, d, enva, Sw, rx, ea, fun σ2 S4 c4 k4 => ?_⟩
  have hl : σ2.length = σ.length := by rw [← S4.len, bindT_len ea, wipeS_len, S3.len]
  refine ⟨wipe_eq hl (fun j hj => k4 j (hin j hj)), enva, F3, b0, envb, S4, eb, fun F5 H5 S5 x5 => ?_⟩
  have x45 : Ext (Cell (wipe σ vs) (wipeS envi vs)) (Cell σ2 envb) F3 H' F5 H5 := x5.mono (fun b z => c4 b z) fun _ z => z
  have hσ : ∀ j, j ∉ vs → σ2[j]? = σ[j]? := fun j hj => by rw [k4 j (hin j hj), wipe_get hj]
  cases b0 with
  | false =>
    obtain ⟨S6, x6⟩ := S3.back S5 x45 hσ hl
    obtain ⟨h1, h2, h3⟩ := x6.stay hD3 nF3 (fun z => nci z.up)
    have el : loopM tg cd (inC elt tg2 it2 cd2) vs (ds.drop (i + 1)) (backS envb envi vs) = some (rest, envN) := el
    exact ⟨backS envb envi vs, F5, acc, dacc, rest, S6, xi.trans ((x3.trans x6).pend (P := fun b => b.2 = D)), h1, h2, fun z => nci (h3 _ z), Reps.mono (s1.trans x6.sub) _ _ rp, el, eo⟩
  | true =>
    simp only [if_true, Option.bind_eq_some_iff] at el
    obtain ⟨⟨outs, envc⟩, ey, ⟨rest2, envo⟩, eo2, eo3⟩ := el
    simp only [Option.some.injEq, Prod.mk.injEq] at eo3
    obtain ⟨eo3, eo4⟩ := eo3
    simp only at eo2 ey eo3
    rw [eo4] at eo2
    -- the new list is beside the block's cells
    have ncw : ¬ Cell (wipe σ vs) (wipeS envi vs) (false, D) := fun z => nci (hw _ z)
    obtain ⟨h1, h2, h3⟩ := x45.stay hD3 nF3 (fun z => ncw z.up)
    show tItm R it2 σ2 H5 _
    have rp5 : Reps R F5 dacc acc := Reps.mono (s1.trans x45.sub) _ _ rp
    refine inC_ok S5 h1 h2 (fun z => ncw (h3 _ z)) rp5 ey ?_ fun F6 H6 acc6 S6 x6 hD6 nF6 nc6 rp6 => ?_
    · have : dacc.length + (outs.length + rest2.length) = out.length := by rw [← eo, ← eo3]; simp
      omega
    · have xx : Ext (fun b => Cell (wipe σ vs) (wipeS envi vs) b ∨ b.2 = D) (fun b => Cell σ2 envc b ∨ b.2 = D) F3 H' F6 H6 := (x45.pend (P := fun b => b.2 = D)).trans x6
      obtain ⟨S8, x8⟩ := S3.backP S6 xx hσ hl (fun y z => by rw [show y.2 = D from z]; exact nci)
      refine ⟨backS envc envi vs, F6, acc6, dacc ++ outs, rest2, S8, xi.trans ((x3.pend (P := fun b => b.2 = D)).trans x8), hD6, nF6, back_cell (by rw [S6.len, hl, S3.len]) hσ nci nc6, rp6, eo2, by rw [List.append_assoc, eo3, eo]⟩
end RE
set_option Elab.async false
set_option linter.all false
set_option maxRecDepth 100000
/-! Slots that are lent or walked stay what they are. -/
namespace RE
open PySem PySem.Spec PyProof.Rows L2
variable {R : Rc} {F F' F1 F2 F3 H H' H1 H2 H3 : Hp} {σ σ' : L2.St} {env env' env1 env2 : Sl}

def Kp (env env' : Sl) : Prop := env'.length = env.length ∧ ∀ (j : Nat) (k : Kd) (d : D), env[j]? = some (Slot.mu k d) → k ≠ .own → ∃ d', env'[j]? = some (Slot.mu k d')
theorem Kp.refl : Kp env env := ⟨rfl, fun _ _ d h _ => ⟨d, h⟩⟩
theorem Kp.trans (a : Kp env env1) (b : Kp env1 env2) : Kp env env2 := ⟨b.1.trans a.1, fun j k d h n => let ⟨_, h1⟩ := a.2 j k d h n; b.2 j k _ h1 n⟩
/-- only what is owned -/
def OwnAt (env : Sl) (i : Nat) : Prop := ∀ (k : Kd) (d : D), env[i]? = some (Slot.mu k d) → k = .own
theorem Kp.set {i : Nat} {s : Slot} (h : OwnAt env i) : Kp env (env.set i s) := ⟨by simp, fun j k d e n => by
  by_cases hj : i = j
  · subst hj; exact absurd (h k d e) n
  · exact ⟨d, by rw [List.getElem?_set_ne hj]; exact e⟩⟩
theorem Kp.setMu {i : Nat} {k : Kd} {d d' : D} (h : env[i]? = some (Slot.mu k d)) : Kp env (env.set i (.mu k d')) := ⟨by simp, fun j k' d1 e n => by
  by_cases hj : i = j
  · subst hj
    rw [h] at e
    cases e
    exact ⟨d', by rw [List.getElem?_set_self (get_lt h)]⟩
  · exact ⟨d1, by rw [List.getElem?_set_ne hj]; exact e⟩⟩
theorem Kp.ownAt {i : Nat} (a : Kp env env1) (h : OwnAt env1 i) : OwnAt env i := fun k d e => by
  by_cases n : k = .own
  · exact n
  · obtain ⟨d', e'⟩ := a.2 i k d e n
    exact h k d' e'
theorem esc_kp {r : Rv} {d : D} (e : esc r env = some (d, env')) : Kp env env' := by
  cases r with
  | sh d' => simp only [esc, Option.some.injEq, Prod.mk.injEq] at e; rw [← e.2]; exact Kp.refl
  | nw d' => simp only [esc, Option.some.injEq, Prod.mk.injEq] at e; rw [← e.2]; exact Kp.refl
  | sl i =>
    simp only [esc] at e
    split at e
    · rename_i d' hi
      simp only [Option.some.injEq, Prod.mk.injEq] at e
      rw [← e.2]
      exact Kp.set fun k d e => by rw [hi] at e; cases e; rfl
    · simp only [Option.some.injEq, Prod.mk.injEq] at e; rw [← e.2]; exact Kp.refl
    · cases e
theorem escs_kp : ∀ {rs : List Rv} {ds : List D} {env env' : Sl}, escs rs env = some (ds, env') → Kp env env'
  | [], ds, env, env', e => by simp only [escs, Option.some.injEq, Prod.mk.injEq] at e; rw [← e.2]; exact Kp.refl
  | r :: rs, ds, env, env', e => by
    simp only [escs, Option.bind_eq_some_iff, Option.some.injEq, Prod.exists, Prod.mk.injEq] at e
    obtain ⟨d1, env1, e1, ds1, env2, e2, rfl, rfl⟩ := e
    exact (esc_kp e1).trans (escs_kp e2)
theorem outs_kp : ∀ {rs rs' : List Rv} {env env' : Sl}, outs rs env = some (rs', env') → Kp env env'
  | [], rs', env, env', e => by simp only [outs, Option.some.injEq, Prod.mk.injEq] at e; rw [← e.2]; exact Kp.refl
  | .sl j :: rs, rs', env, env', e => by
    simp only [outs, Option.bind_eq_some_iff, Option.some.injEq, Prod.exists, Prod.mk.injEq] at e
    obtain ⟨d1, env1, e1, ds1, env2, e2, _, rfl⟩ := e
    exact (esc_kp e1).trans (outs_kp e2)
  | .sh d :: rs, rs', env, env', e => by
    simp only [outs, Option.bind_eq_some_iff, Option.some.injEq, Prod.exists, Prod.mk.injEq] at e
    obtain ⟨ds1, env2, e2, _, rfl⟩ := e
    exact outs_kp e2
  | .nw d :: rs, rs', env, env', e => by
    simp only [outs, Option.bind_eq_some_iff, Option.some.injEq, Prod.exists, Prod.mk.injEq] at e
    obtain ⟨ds1, env2, e2, _, rfl⟩ := e
    exact outs_kp e2
theorem lock_kp {r : Rv} {l : Option Nat} (e : lock r env = some (env', l)) : Kp env env' ∧ ∀ i, l = some i → OwnAt env i := by
  cases r with
  | sh d => simp only [lock, Option.some.injEq, Prod.mk.injEq] at e; rw [← e.1, ← e.2]; exact ⟨Kp.refl, fun i z => nomatch z⟩
  | nw d => simp only [lock, Option.some.injEq, Prod.mk.injEq] at e; rw [← e.1, ← e.2]; exact ⟨Kp.refl, fun i z => nomatch z⟩
  | sl i =>
    simp only [lock] at e
    split at e
    · rename_i d hi
      simp only [Option.some.injEq, Prod.mk.injEq] at e
      obtain ⟨rfl, rfl⟩ := e
      have o : OwnAt env i := fun k d e => by rw [hi] at e; cases e; rfl
      exact ⟨Kp.set o, fun j z => by cases z; exact o⟩
    · simp only [Option.some.injEq, Prod.mk.injEq] at e; rw [← e.1, ← e.2]; exact ⟨Kp.refl, fun i z => nomatch z⟩
    · simp only [Option.some.injEq, Prod.mk.injEq] at e; rw [← e.1, ← e.2]; exact ⟨Kp.refl, fun i z => nomatch z⟩
    · cases e
def KpF {α : Type} (f : Sl → Option (α × Sl)) : Prop := ∀ env a env', f env = some (a, env') → Kp env env'
def KpI (f : Sl → Option Itm) : Prop := ∀ env ds env' l, f env = some (ds, env', l) → Kp env env' ∧ ∀ i, l = some i → OwnAt env i
section
variable {f g h : Fv} {t u : Sl → Option (Bool × Sl)}
theorem kp_const {r : Rv} : KpF (fun env => some (r, env)) := fun env a env' e => by
  simp only [Option.some.injEq, Prod.mk.injEq] at e
  rw [← e.2]; exact Kp.refl
theorem kp_optc {o : Option Rv} : KpF (fun env => o.bind fun r => some (r, env)) := fun env a env' e => by
  simp only [Option.bind_eq_some_iff, Option.some.injEq, Prod.mk.injEq] at e
  obtain ⟨_, _, _, rfl⟩ := e
  exact Kp.refl
theorem kp_name {i : Nat} : KpF (vName i) := fun env a env' e => by
  simp only [vName] at e
  split at e
  · simp only [Option.some.injEq, Prod.mk.injEq] at e; rw [← e.2]; exact Kp.refl
  · simp only [Option.some.injEq, Prod.mk.injEq] at e; rw [← e.2]; exact Kp.refl
  · cases e
theorem kp_tru (hf : KpF f) : KpF (tru f) := fun env a env' e => by
  simp only [tru, Option.bind_eq_some_iff, Prod.exists, Option.some.injEq, Prod.mk.injEq] at e
  obtain ⟨_, _, e1, _, _, _, _, _, rfl⟩ := e
  exact hf _ _ _ e1
theorem kp_tup {es : Sl → Option (List Rv × Sl)} (hf : KpF es) : KpF (vTup es) := fun env a env' e => by
  simp only [vTup, Option.bind_eq_some_iff, Prod.exists] at e
  obtain ⟨_, _, e1, _, _, e2, e3⟩ := e
  split at e3
  · simp only [Option.some.injEq, Prod.mk.injEq] at e3
    rw [← e3.2]
    exact (hf _ _ _ e1).trans (escs_kp e2)
  · cases e3
theorem kp_lst {es : Sl → Option (List Rv × Sl)} (hf : KpF es) : KpF (vLst es) := fun env a env' e => by
  simp only [vLst, Option.bind_eq_some_iff, Prod.exists] at e
  obtain ⟨_, _, e1, _, _, e2, e3⟩ := e
  split at e3
  · simp only [Option.some.injEq, Prod.mk.injEq] at e3
    rw [← e3.2]
    exact (hf _ _ _ e1).trans (escs_kp e2)
  · cases e3
theorem kp_op {q : D → D → Option Rv} (hf : KpF f) (hg : KpF g) : KpF (vOp q f g) := fun env a env' e => by
  simp only [vOp, Option.bind_eq_some_iff, Prod.exists, Option.some.injEq, Prod.mk.injEq] at e
  obtain ⟨_, _, e1, _, _, e2, _, _, _, _, _, _, _, rfl⟩ := e
  exact (hf _ _ _ e1).trans (hg _ _ _ e2)
theorem kp_un {q : D → Option Rv} (hf : KpF f) : KpF (vUn q f) := fun env a env' e => by
  simp only [vUn, Option.bind_eq_some_iff, Prod.exists, Option.some.injEq, Prod.mk.injEq] at e
  obtain ⟨_, _, e1, _, _, _, _, _, rfl⟩ := e
  exact hf _ _ _ e1
theorem kp_ch2 {o o' : CmpOp} (hf : KpF f) (hg : KpF g) (hh : KpF h) : KpF (vCh2 o o' f g h) := fun env a env' e => by
  simp only [vCh2, Option.bind_eq_some_iff, Prod.exists] at e
  obtain ⟨_, _, e1, _, _, e2, _, _, _, _, _, _, e⟩ := e
  have z := (hf _ _ _ e1).trans (hg _ _ _ e2)
  split at e
  · simp only [Option.bind_eq_some_iff, Prod.exists, Option.some.injEq, Prod.mk.injEq] at e
    obtain ⟨_, _, e3, _, _, _, _, _, _, _, rfl⟩ := e
    exact z.trans (hh _ _ _ e3)
  · simp only [Option.some.injEq, Prod.mk.injEq] at e
    rw [← e.2]; exact z
theorem kp_if {α : Type} {a b : Sl → Option (α × Sl)} (ht : KpF t) (ha : KpF a) (hb : KpF b) : KpF (fun env => (t env).bind fun p => if p.1 then a p.2 else b p.2) := fun env r env' e => by
  simp only [Option.bind_eq_some_iff, Prod.exists] at e
  obtain ⟨c, _, e1, e⟩ := e
  split at e
  · exact (ht _ _ _ e1).trans (ha _ _ _ e)
  · exact (ht _ _ _ e1).trans (hb _ _ _ e)
theorem kp_slc {a b : Sl → Option (Option Int × Sl)} (hf : KpF f) (ha : KpF a) (hb : KpF b) : KpF (vSlc f a b) := fun env r env' e => by
  simp only [vSlc, Option.bind_eq_some_iff, Prod.exists, Option.some.injEq, Prod.mk.injEq] at e
  obtain ⟨_, _, e1, _, _, e2, _, _, e3, _, _, _, _, _, rfl⟩ := e
  exact ((hf _ _ _ e1).trans (ha _ _ _ e2)).trans (hb _ _ _ e3)
theorem kp_bi {b : Bi} {es : Sl → Option (List Rv × Sl)} (hf : KpF es) : KpF (vBi b es) := fun env a env' e => by
  simp only [vBi, Option.bind_eq_some_iff, Prod.exists, Option.some.injEq, Prod.mk.injEq] at e
  obtain ⟨_, _, e1, _, _, _, _, _, rfl⟩ := e
  exact hf _ _ _ e1
theorem kp_not (ht : KpF t) : KpF (vNot t) := fun env a env' e => by
  simp only [vNot, Option.bind_eq_some_iff, Prod.exists, Option.some.injEq, Prod.mk.injEq] at e
  obtain ⟨_, _, e1, _, rfl⟩ := e
  exact ht _ _ _ e1
theorem kp_ofT (ht : KpF t) : KpF (ofT t) := fun env a env' e => by
  simp only [ofT, Option.bind_eq_some_iff, Prod.exists, Option.some.injEq, Prod.mk.injEq] at e
  obtain ⟨_, _, e1, _, rfl⟩ := e
  exact ht _ _ _ e1
theorem kp_tand (ht : KpF t) (hu : KpF u) : KpF (tAnd2 t u) := fun env a env' e => by
  simp only [tAnd2, Option.bind_eq_some_iff, Prod.exists] at e
  obtain ⟨c, _, e1, e⟩ := e
  split at e
  · exact (ht _ _ _ e1).trans (hu _ _ _ e)
  · simp only [Option.some.injEq, Prod.mk.injEq] at e; rw [← e.2]; exact ht _ _ _ e1
theorem kp_tor (ht : KpF t) (hu : KpF u) : KpF (tOr2 t u) := fun env a env' e => by
  simp only [tOr2, Option.bind_eq_some_iff, Prod.exists] at e
  obtain ⟨c, _, e1, e⟩ := e
  split at e
  · simp only [Option.some.injEq, Prod.mk.injEq] at e; rw [← e.2]; exact ht _ _ _ e1
  · exact (ht _ _ _ e1).trans (hu _ _ _ e)
theorem kp_vand (hf : KpF f) (hg : KpF g) : KpF (vAnd2 f g) := fun env a env' e => by
  simp only [vAnd2, Option.bind_eq_some_iff, Prod.exists] at e
  obtain ⟨c, _, e1, e⟩ := e
  split at e
  · split at e
    · exact (hf _ _ _ e1).trans (hg _ _ _ e)
    · simp only [Option.some.injEq, Prod.mk.injEq] at e; rw [← e.2]; exact hf _ _ _ e1
  · cases e
theorem kp_vor (hf : KpF f) (hg : KpF g) : KpF (vOr2 f g) := fun env a env' e => by
  simp only [vOr2, Option.bind_eq_some_iff, Prod.exists] at e
  obtain ⟨c, _, e1, e⟩ := e
  split at e
  · split at e
    · simp only [Option.some.injEq, Prod.mk.injEq] at e; rw [← e.2]; exact hf _ _ _ e1
    · exact (hf _ _ _ e1).trans (hg _ _ _ e)
  · cases e
theorem kp_toD (hf : KpF f) : KpF (toD f) := fun env a env' e => by
  simp only [toD, Option.bind_eq_some_iff, Prod.exists] at e
  obtain ⟨_, _, e1, e2⟩ := e
  exact (hf _ _ _ e1).trans (esc_kp e2)
theorem ki_rg1 (hf : KpF f) : KpI (iRg1 f) := fun env ds env' l e => by
  simp only [iRg1, Option.bind_eq_some_iff, Prod.exists] at e
  obtain ⟨_, _, e1, _, _, e⟩ := e
  split at e
  · simp only [Option.some.injEq, Prod.mk.injEq] at e
    rw [← e.2.1, ← e.2.2]
    exact ⟨hf _ _ _ e1, fun i z => nomatch z⟩
  · cases e
theorem ki_rg2 (hf : KpF f) (hg : KpF g) : KpI (iRg2 f g) := fun env ds env' l e => by
  simp only [iRg2, Option.bind_eq_some_iff, Prod.exists] at e
  obtain ⟨_, _, e1, _, _, e2, _, _, _, _, e⟩ := e
  split at e
  · simp only [Option.some.injEq, Prod.mk.injEq] at e
    rw [← e.2.1, ← e.2.2]
    exact ⟨(hf _ _ _ e1).trans (hg _ _ _ e2), fun i z => nomatch z⟩
  · cases e
theorem ki_of (hf : KpF f) : KpI (iOf f) := fun env ds env' l e => by
  simp only [iOf, Option.bind_eq_some_iff, Prod.exists, Option.some.injEq, Prod.mk.injEq] at e
  obtain ⟨_, _, e1, _, _, _, _, _, _, e2, _, rfl, rfl⟩ := e
  exact ⟨(hf _ _ _ e1).trans (lock_kp e2).1, fun i z => (hf _ _ _ e1).ownAt ((lock_kp e2).2 i z)⟩
theorem ki_rv (hf : KpF f) : KpI (iRv f) := fun env ds env' l e => by
  simp only [iRv, Option.bind_eq_some_iff, Prod.exists, Option.some.injEq, Prod.mk.injEq] at e
  obtain ⟨_, _, e1, _, _, _, _, _, _, e2, _, rfl, rfl⟩ := e
  exact ⟨(hf _ _ _ e1).trans (lock_kp e2).1, fun i z => (hf _ _ _ e1).ownAt ((lock_kp e2).2 i z)⟩
theorem ki_enm (hf : KpF f) : KpI (iEnm f) := fun env ds env' l e => by
  simp only [iEnm, Option.bind_eq_some_iff, Prod.exists, Option.some.injEq, Prod.mk.injEq] at e
  obtain ⟨_, _, e1, _, _, _, _, _, _, e2, _, rfl, rfl⟩ := e
  exact ⟨(hf _ _ _ e1).trans (lock_kp e2).1, fun i z => (hf _ _ _ e1).ownAt ((lock_kp e2).2 i z)⟩
theorem ki_zip (hf : KpF f) (hg : KpF g) : KpI (iZip f g) := fun env ds env' l e => by
  simp only [iZip, Option.bind_eq_some_iff, Prod.exists, Option.some.injEq, Prod.mk.injEq] at e
  obtain ⟨_, _, e1, _, _, e2, _, _, _, _, _, _, _, _, _, e3, _, _, e4, _, rfl, rfl⟩ := e
  have z := ((hf _ _ _ e1).trans (hg _ _ _ e2)).trans (esc_kp e3)
  exact ⟨z.trans (lock_kp e4).1, fun i w => z.ownAt ((lock_kp e4).2 i w)⟩
end
section
variable {G : Gs}
theorem callE_kp {k : Nat} {rvs : List Rv} {r : Rv} (e : callE G k rvs env = some (r, env')) : Kp env env' := by
  unfold callE at e
  split at e
  · split at e
    · obtain ⟨p, e1, e2⟩ := Option.bind_eq_some_iff.mp e
      split at e2
      · rename_i i rest _ d hi
        obtain ⟨q, e3, e4⟩ := Option.bind_eq_some_iff.mp e2
        split at e4
        · simp only [Option.some.injEq, Prod.mk.injEq] at e4
          rw [← e4.2]
          exact (escs_kp e1).trans (Kp.setMu hi)
        · cases e4
      · rename_i i rest _ d hi
        obtain ⟨q, e3, e4⟩ := Option.bind_eq_some_iff.mp e2
        split at e4
        · simp only [Option.some.injEq, Prod.mk.injEq] at e4
          rw [← e4.2]
          exact (escs_kp e1).trans (Kp.setMu hi)
        · cases e4
      · cases e2
    · simp only [Option.bind_eq_some_iff, Prod.exists, Option.some.injEq, Prod.mk.injEq] at e
      obtain ⟨_, _, e1, _, _, _, _, rfl⟩ := e
      exact escs_kp e1
    · cases e
  · simp only [Option.bind_eq_some_iff, Prod.exists, Option.some.injEq, Prod.mk.injEq] at e
    obtain ⟨_, _, e1, _, _, _, _, rfl⟩ := e
    exact escs_kp e1
theorem kp_call {k : Nat} {es : Sl → Option (List Rv × Sl)} (hf : KpF es) : KpF (vCall G k es) := fun env a env' e => by
  simp only [vCall, Option.bind_eq_some_iff, Prod.exists] at e
  obtain ⟨_, _, e1, e2⟩ := e
  exact (hf _ _ _ e1).trans (callE_kp e2)
theorem kp_mk {c : Nat} {es : Sl → Option (List Rv × Sl)} (hf : KpF es) : KpF (vMk G c es) := fun env a env' e => by
  simp only [vMk, Option.bind_eq_some_iff, Prod.exists, Option.some.injEq, Prod.mk.injEq] at e
  obtain ⟨_, _, e1, _, _, e2, _, _, _, rfl⟩ := e
  exact (hf _ _ _ e1).trans (escs_kp e2)
theorem kp_meth {m : Str} {o : Fv} {es : Sl → Option (List Rv × Sl)} (ho : KpF o) (hf : KpF es) : KpF (vMeth G m o es) := fun env a env' e => by
  simp only [vMeth, Option.bind_eq_some_iff, Prod.exists] at e
  obtain ⟨_, _, e1, e2⟩ := e
  split at e2
  · simp only [Option.bind_eq_some_iff, Prod.exists] at e2
    obtain ⟨_, _, e3, _, _, e4⟩ := e2
    split at e4
    · cases e4
    · exact ((ho _ _ _ e1).trans (hf _ _ _ e3)).trans (callE_kp e4)
  · cases e2
mutual
theorem bindT_kp : ∀ {t : Tg} {d : D} {env env' : Sl}, bindT t d env = some env' → Kp env env' ∧ ∀ (j : Nat) (k : Kd) (d : D), env[j]? = some (Slot.mu k d) → k ≠ .own → j ∉ t.slots
  | .nm i, d, env, env', e => by
    have o : OwnAt env i ∧ env' = env.set i (.val d) := by
      simp only [bindT] at e
      split at e
      · cases e
      · cases e
      · rename_i s h1 h2 hs
        cases e
        refine ⟨fun k d' e => ?_, rfl⟩
        cases k with
        | own => rfl
        | bor => rw [hs] at e; cases e; exact (h1 d' rfl).elim
        | lck => rw [hs] at e; cases e; exact (h2 d' rfl).elim
      · cases e
    rw [o.2]
    exact ⟨Kp.set o.1, fun j k d' e1 n z => by
      have z : j ∈ [i] := z
      rw [List.mem_singleton] at z
      subst z
      exact n (o.1 k d' e1)⟩
  | .tup ts, .tup ds, env, env', e => by
    simp only [bindT] at e
    exact bindTs_kp e
  | .tup _, .non, env, env', e => by simp only [bindT] at e; cases e
  | .tup _, .bl _, env, env', e => by simp only [bindT] at e; cases e
  | .tup _, .int _, env, env', e => by simp only [bindT] at e; cases e
  | .tup _, .str _, env, env', e => by simp only [bindT] at e; cases e
  | .tup _, .lst _, env, env', e => by simp only [bindT] at e; cases e
  | .tup _, .ins _ _ _, env, env', e => by simp only [bindT] at e; cases e
theorem bindTs_kp : ∀ {ts : Tgs} {ds : List D} {env env' : Sl}, bindTs ts ds env = some env' → Kp env env' ∧ ∀ (j : Nat) (k : Kd) (d : D), env[j]? = some (Slot.mu k d) → k ≠ .own → j ∉ Tg.slots.Tgs.slots ts
  | .nil, [], env, env', e => by simp only [bindTs, Option.some.injEq] at e; rw [e]; exact ⟨Kp.refl, fun j k d _ _ z => nomatch z⟩
  | .nil, _ :: _, env, env', e => by simp only [bindTs] at e; cases e
  | .cons _ _, [], env, env', e => by simp only [bindTs] at e; cases e
  | .cons t ts, d :: ds, env, env', e => by
    simp only [bindTs, Option.bind_eq_some_iff] at e
    obtain ⟨env1, e1, e2⟩ := e
    obtain ⟨k1, n1⟩ := bindT_kp e1
    obtain ⟨k2, n2⟩ := bindTs_kp e2
    refine ⟨k1.trans k2, fun j k d' e n z => ?_⟩
    have z : j ∈ t.slots ++ Tg.slots.Tgs.slots ts := z
    rcases List.mem_append.mp z with z | z
    · exact n1 j k d' e n z
    · obtain ⟨d2, e3⟩ := k1.2 j k d' e n
      exact n2 j k d2 e3 n z
end
theorem wipeS_len' {env : Sl} {vs : List Nat} : (wipeS env vs).length = env.length := wipeS_len
theorem kp_block {tg : Tg} {d : D} {vs : List Nat} (e : bindT tg d (wipeS env vs) = some env1) (h : Kp env1 env2) : Kp env (backS env2 env vs) := by
  have hl : env2.length = env.length := by rw [h.1, (bindT_kp e).1.1, wipeS_len]
  refine ⟨by rw [backS_len, hl], fun j k d1 e1 n => ?_⟩
  by_cases hj : j ∈ vs
  · exact ⟨d1, by rw [backS_in hl hj]; exact e1⟩
  · have e2 : (wipeS env vs)[j]? = some (Slot.mu k d1) := by rw [wipeS_get hj]; exact e1
    obtain ⟨d2, e3⟩ := (bindT_kp e).1.2 j k d1 e2 n
    obtain ⟨d3, e4⟩ := h.2 j k d2 e3 n
    exact ⟨d3, by rw [backS_out hj]; exact e4⟩
theorem loopC_kp {tg : Tg} {cd : Sl → Option (Bool × Sl)} {f : Sl → Option (D × Sl)} (hc : KpF cd) (hf : KpF f) : ∀ {ds : List D} {env env' : Sl} {out : List D}, loopC tg cd f tg.slots ds env = some (out, env') → Kp env env'
  | [], env, env', out, e => by simp only [loopC, Option.some.injEq, Prod.mk.injEq] at e; rw [← e.2]; exact Kp.refl
  | d :: ds, env, env', out, e => by
    simp only [loopC, Option.bind_eq_some_iff, Prod.exists] at e
    obtain ⟨env1, e1, b, env2, e2, e⟩ := e
    split at e
    · simp only [Option.bind_eq_some_iff, Prod.exists, Option.some.injEq, Prod.mk.injEq] at e
      obtain ⟨_, _, e3, _, _, e4, _, rfl⟩ := e
      exact (kp_block e1 ((hc _ _ _ e2).trans (hf _ _ _ e3))).trans (loopC_kp hc hf e4)
    · exact (kp_block e1 (hc _ _ _ e2)).trans (loopC_kp hc hf e)
theorem unlock_get {l : Option Nat} {j : Nat} (h : ∀ i, l = some i → i ≠ j) : (unlock l env)[j]? = env[j]? := by
  cases l with
  | none => rfl
  | some i =>
    simp only [unlock]
    split
    · rw [List.getElem?_set_ne (h i rfl)]
    · rfl
theorem unlock_len {l : Option Nat} : (unlock l env).length = env.length := by
  cases l with
  | none => rfl
  | some i =>
    simp only [unlock]
    split
    · simp
    · rfl
theorem Kp.unlock {l : Option Nat} (a : Kp env env1) (h : ∀ i, l = some i → OwnAt env i) : Kp env (RE.unlock l env1) :=
  ⟨unlock_len.trans a.1, fun j k d e n => by
    obtain ⟨d', e'⟩ := a.2 j k d e n
    exact ⟨d', by rw [unlock_get fun i z w => by subst w; exact n (h i z k d e)]; exact e'⟩⟩
theorem kp_lc {elt : Fv} {tg : Tg} {it : Sl → Option Itm} {cd : Sl → Option (Bool × Sl)} (he : KpF elt) (hi : KpI it) (hc : KpF cd) : KpF (vLc elt tg it cd) := fun env a env' e => by
  simp only [vLc, Option.bind_eq_some_iff, Prod.exists] at e
  obtain ⟨ds, env1, l, e1, out, env2, e2, e3⟩ := e
  split at e3
  · simp only [Option.some.injEq, Prod.mk.injEq] at e3
    rw [← e3.2]
    obtain ⟨k1, o⟩ := hi _ _ _ _ e1
    exact (k1.trans (loopC_kp hc (kp_toD he) e2)).unlock o
  · cases e3
theorem inC_kp {elt : Fv} {tg : Tg} {it : Sl → Option Itm} {cd : Sl → Option (Bool × Sl)} (he : KpF elt) (hi : KpI it) (hc : KpF cd) : KpF (inC elt tg it cd) := fun env a env' e => by
  simp only [inC, Option.bind_eq_some_iff, Prod.exists, Option.some.injEq, Prod.mk.injEq] at e
  obtain ⟨ds, env1, l, e1, out, env2, e2, _, rfl⟩ := e
  obtain ⟨k1, o⟩ := hi _ _ _ _ e1
  exact (k1.trans (loopC_kp hc (kp_toD he) e2)).unlock o
theorem loopM_kp {tg : Tg} {cd : Sl → Option (Bool × Sl)} {f : Sl → Option (List D × Sl)} {vs : List Nat} (hc : KpF cd) (hf : KpF f) : ∀ {ds : List D} {env env' : Sl} {out : List D}, loopM tg cd f vs ds env = some (out, env') → Kp env env'
  | [], env, env', out, e => by simp only [loopM, Option.some.injEq, Prod.mk.injEq] at e; rw [← e.2]; exact Kp.refl
  | d :: ds, env, env', out, e => by
    simp only [loopM, Option.bind_eq_some_iff, Prod.exists] at e
    obtain ⟨env1, e1, b, env2, e2, e⟩ := e
    split at e
    · simp only [Option.bind_eq_some_iff, Prod.exists, Option.some.injEq, Prod.mk.injEq] at e
      obtain ⟨_, _, e3, _, _, e4, _, rfl⟩ := e
      exact (kp_block e1 ((hc _ _ _ e2).trans (hf _ _ _ e3))).trans (loopM_kp hc hf e4)
    · exact (kp_block e1 (hc _ _ _ e2)).trans (loopM_kp hc hf e)
theorem kp_lc2 {elt : Fv} {tg tg2 : Tg} {it it2 : Sl → Option Itm} {cd cd2 : Sl → Option (Bool × Sl)} (he : KpF elt) (hi : KpI it) (hc : KpF cd) (hi2 : KpI it2) (hc2 : KpF cd2) : KpF (vLc2 elt tg it cd tg2 it2 cd2) := fun env a env' e => by
  simp only [vLc2, Option.bind_eq_some_iff, Prod.exists] at e
  obtain ⟨ds, env1, l, e1, out, env2, e2, e3⟩ := e
  split at e3
  · simp only [Option.some.injEq, Prod.mk.injEq] at e3
    rw [← e3.2]
    obtain ⟨k1, o⟩ := hi _ _ _ _ e1
    exact (k1.trans (loopM_kp hc (inC_kp he hi2 hc2) e2)).unlock o
  · cases e3
theorem kp_none {α : Type} : KpF (fun _ => (none : Option (α × Sl))) := fun env a env' e => nomatch e
mutual
theorem evB_kp : ∀ e : E, KpF (evB G e).v ∧ KpF (evB G e).t
  | .int i => by simp only [evB]; exact ⟨kp_const, kp_tru kp_const⟩
  | .bl i => by simp only [evB]; exact ⟨kp_const, kp_tru kp_const⟩
  | .non => by simp only [evB]; exact ⟨kp_const, kp_tru kp_const⟩
  | .str i => by simp only [evB]; exact ⟨kp_const, kp_tru kp_const⟩
  | .nm i => by simp only [evB]; exact ⟨kp_name, kp_tru kp_name⟩
  | .gv k => by
    simp only [evB]
    have : KpF (fun env => (G.glob k).bind fun d => some (Rv.sh d, env)) := fun env a env' e => by
      simp only [Option.bind_eq_some_iff, Option.some.injEq, Prod.mk.injEq] at e
      obtain ⟨_, _, _, rfl⟩ := e
      exact Kp.refl
    exact ⟨this, kp_tru this⟩
  | .tup es => by simp only [evB]; exact ⟨kp_tup (evEs_kp es), kp_tru (kp_tup (evEs_kp es))⟩
  | .lst es => by simp only [evB]; exact ⟨kp_lst (evEs_kp es), kp_tru (kp_lst (evEs_kp es))⟩
  | .bin op a b => by
    simp only [evB]
    have := kp_op (q := binD op) (evB_kp a).1 (evB_kp b).1
    exact ⟨this, kp_tru this⟩
  | .neg a => by simp only [evB]; exact ⟨kp_un (evB_kp a).1, kp_tru (kp_un (evB_kp a).1)⟩
  | .nt a => by simp only [evB]; exact ⟨kp_un (evB_kp a).1, kp_not (evB_kp a).2⟩
  | .and es => by simp only [evB]; exact ⟨evAnd_kp es, evTAnd_kp es⟩
  | .or es => by simp only [evB]; exact ⟨evOr_kp es, evTOr_kp es⟩
  | .cmp op a b => by
    simp only [evB]
    have := kp_op (q := cmpR op) (evB_kp a).1 (evB_kp b).1
    exact ⟨this, kp_tru this⟩
  | .ch2 op op' a b c => by
    simp only [evB]
    have := kp_ch2 (o := op) (o' := op') (evB_kp a).1 (evB_kp b).1 (evB_kp c).1
    exact ⟨this, kp_tru this⟩
  | .ife c a b => by
    simp only [evB]
    exact ⟨kp_if (evB_kp c).2 (evB_kp a).1 (evB_kp b).1, kp_if (evB_kp c).2 (evB_kp a).2 (evB_kp b).2⟩
  | .ix a i => by
    simp only [evB]
    have := kp_op (q := ixR) (evB_kp a).1 (evB_kp i).1
    exact ⟨this, kp_tru this⟩
  | .slc a lo hi => by
    simp only [evB]
    have := kp_slc (evB_kp a).1 (evO_kp lo) (evO_kp hi)
    exact ⟨this, kp_tru this⟩
  | .rev a => by simp only [evB]; exact ⟨kp_un (evB_kp a).1, kp_tru (kp_un (evB_kp a).1)⟩
  | .stp a k => by simp only [evB]; exact ⟨kp_un (evB_kp a).1, kp_tru (kp_un (evB_kp a).1)⟩
  | .trev a => by simp only [evB]; exact ⟨kp_un (evB_kp a).1, kp_tru (kp_un (evB_kp a).1)⟩
  | .call k es => by simp only [evB]; exact ⟨kp_call (evEs_kp es), kp_tru (kp_call (evEs_kp es))⟩
  | .mk c es => by simp only [evB]; exact ⟨kp_mk (evEs_kp es), kp_tru (kp_mk (evEs_kp es))⟩
  | .meth m o es => by
    simp only [evB]
    have := kp_meth (G := G) (m := m) (evB_kp o).1 (evEs_kp es)
    exact ⟨this, kp_tru this⟩
  | .fld f o => by simp only [evB]; exact ⟨kp_un (evB_kp o).1, kp_tru (kp_un (evB_kp o).1)⟩
  | .bi b es => by simp only [evB]; exact ⟨kp_bi (evEs_kp es), kp_tru (kp_bi (evEs_kp es))⟩
  | .isi a t => by simp only [evB]; exact ⟨kp_un (evB_kp a).1, kp_tru (kp_un (evB_kp a).1)⟩
  | .lc elt tg it cd => by
    simp only [evB]
    have := kp_lc (tg := tg) (evB_kp elt).1 (evI_kp it) (evC_kp cd)
    exact ⟨this, kp_tru this⟩
  | .lc2 elt tg it cd tg2 it2 cd2 => by
    simp only [evB]
    have := kp_lc2 (tg := tg) (tg2 := tg2) (evB_kp elt).1 (evI_kp it) (evC_kp cd) (evI_kp it2) (evC_kp cd2)
    exact ⟨this, kp_tru this⟩
theorem evEs_kp : ∀ es : Es, KpF (evEs G es)
  | .nil => fun env a env' e => by simp only [evEs, Option.some.injEq, Prod.mk.injEq] at e; rw [← e.2]; exact Kp.refl
  | .cons e es => fun env a env' h => by
    simp only [evEs, Option.bind_eq_some_iff, Prod.exists, Option.some.injEq, Prod.mk.injEq] at h
    obtain ⟨_, _, h1, _, _, h2, _, rfl⟩ := h
    exact ((evB_kp e).1 _ _ _ h1).trans (evEs_kp es _ _ _ h2)
theorem evO_kp : ∀ o : EO, KpF (evO G o)
  | .no => fun env a env' e => by simp only [evO, Option.some.injEq, Prod.mk.injEq] at e; rw [← e.2]; exact Kp.refl
  | .so e => fun env a env' h => by
    simp only [evO, Option.bind_eq_some_iff, Prod.exists, Option.some.injEq, Prod.mk.injEq] at h
    obtain ⟨_, _, h1, _, _, _, rfl⟩ := h
    exact (evB_kp e).1 _ _ _ h1
theorem evC_kp : ∀ o : EO, KpF (evC G o)
  | .no => fun env a env' e => by simp only [evC, Option.some.injEq, Prod.mk.injEq] at e; rw [← e.2]; exact Kp.refl
  | .so e => by simp only [evC]; exact (evB_kp e).2
theorem evTAnd_kp : ∀ es : Es, KpF (evTAnd G es)
  | .nil => fun env a env' e => by simp only [evTAnd, Option.some.injEq, Prod.mk.injEq] at e; rw [← e.2]; exact Kp.refl
  | .cons e es => by simp only [evTAnd]; exact kp_tand (evB_kp e).2 (evTAnd_kp es)
theorem evTOr_kp : ∀ es : Es, KpF (evTOr G es)
  | .nil => fun env a env' e => by simp only [evTOr, Option.some.injEq, Prod.mk.injEq] at e; rw [← e.2]; exact Kp.refl
  | .cons e es => by simp only [evTOr]; exact kp_tor (evB_kp e).2 (evTOr_kp es)
theorem evAnd_kp : ∀ es : Es, KpF (evAnd G es)
  | .nil => by simp only [evAnd]; exact kp_none
  | .cons e .nil => by simp only [evAnd]; exact (evB_kp e).1
  | .cons e (.cons e2 es) => by simp only [evAnd]; exact kp_vand (evB_kp e).1 (evAnd_kp (.cons e2 es))
theorem evOr_kp : ∀ es : Es, KpF (evOr G es)
  | .nil => by simp only [evOr]; exact kp_none
  | .cons e .nil => by simp only [evOr]; exact (evB_kp e).1
  | .cons e (.cons e2 es) => by simp only [evOr]; exact kp_vor (evB_kp e).1 (evOr_kp (.cons e2 es))
theorem evI_kp : ∀ i : I, KpI (evI G i)
  | .rg1 a => by simp only [evI]; exact ki_rg1 (evB_kp a).1
  | .rg2 a b => by simp only [evI]; exact ki_rg2 (evB_kp a).1 (evB_kp b).1
  | .of a => by simp only [evI]; exact ki_of (evB_kp a).1
  | .rv a => by simp only [evI]; exact ki_rv (evB_kp a).1
  | .zip a b => by simp only [evI]; exact ki_zip (evB_kp a).1 (evB_kp b).1
  | .enm a => by simp only [evI]; exact ki_enm (evB_kp a).1
end
end
end RE
set_option Elab.async false
set_option linter.all false
set_option maxRecDepth 100000
/-! Statements. -/
namespace RE
open PySem PySem.Spec PyProof.Rows L2
variable {R : Rc} {F F' F1 F2 F3 H H' H1 H2 H3 : Hp} {σ σ' σ1 σ2 : L2.St} {env env' env1 env2 : Sl}

def Lk (σ : L2.St) (env : Sl) (σ' : L2.St) (env' : Sl) : Prop := Kp env env' ∧ ∀ (j : Nat) (k : Kd) (d : D), env[j]? = some (Slot.mu k d) → k ≠ .own → σ'[j]? = σ[j]?
theorem Lk.refl : Lk σ env σ env := ⟨Kp.refl, fun _ _ _ _ _ => rfl⟩
theorem Lk.trans (a : Lk σ env σ1 env1) (b : Lk σ1 env1 σ2 env2) : Lk σ env σ2 env2 :=
  ⟨a.1.trans b.1, fun j k d e n => let ⟨d', e'⟩ := a.1.2 j k d e n; (b.2 j k d' e' n).trans (a.2 j k d e n)⟩
theorem Kp.lk (a : Kp env env1) : Lk σ env σ env1 := ⟨a, fun _ _ _ _ _ => rfl⟩
/-- what is left to be shown behind a statement, by its way out -/
def EndP (R : Rc) (D : Ends) (σ : L2.St) (env : Sl) (F H : Hp) (env' : Sl) (σ' : L2.St) (F' H' : Hp) : Fl → Prop
  | .nx => Ext (Cell σ env) (Cell σ' env') F H F' H' → D.nx σ' H'
  | .bk => Ext (Cell σ env) (Cell σ' env') F H F' H' → D.bk σ' H'
  | .ct => Ext (Cell σ env) (Cell σ' env') F H F' H' → D.ct σ' H'
  | .ret rv => ∀ v, Ext (Cell σ env) (fun b => Cell σ' env' b ∨ Tmp rv v b) F H F' H' → RvOk R σ' env' F' H' rv v → D.rt v H'
def tS (R : Rc) (f : Sv) : TS := fun D σ H => ∃ env F fl env', StOk R σ env F H ∧ f env = some (fl, env') ∧ ∀ σ' F' H', StOk R σ' env' F' H' → Lk σ env σ' env' → EndP R D σ env F H env' σ' F' H' fl
theorem PS.of {X : Cx} {e : Stmt} {t t' : TS} (h : PS X e t) (i : ∀ D σ H, t' D σ H → t D σ H) : PS X e t' := ⟨fun pins s σ H D I hw => h.run pins s σ H D I (i _ _ _ hw)⟩
theorem PSs.of {X : Cx} {e : List Stmt} {t t' : TS} (h : PSs X e t) (i : ∀ D σ H, t' D σ H → t D σ H) : PSs X e t' := ⟨fun pins s σ H D I hw => h.run pins s σ H D I (i _ _ _ hw)⟩
variable {D : Ends}

theorem ext_pre {C0 C1 C2 C3 : Tg2 → Prop} (a : Ext C0 (fun b => C1 b ∨ C2 b) F H F1 H1) (b : Ext (fun b => C1 b ∨ C2 b) C3 F1 H1 F2 H2) : Ext C0 C3 F H F2 H2 := a.trans b
theorem store_kp {i : Nat} {r : Rv} (e : store i r env = some env') : Kp env env' ∧ ∀ (j : Nat) (k : Kd) (d : RE.D), env[j]? = some (Slot.mu k d) → k ≠ .own → j ≠ i := by
  unfold store at e
  obtain ⟨_, e1, e⟩ := Option.bind_eq_some_iff.mp e
  have o : OwnAt env i := fun k d hd => by
    rw [hd] at e1
    cases k with
    | own => rfl
    | bor => cases e1
    | lck => cases e1
  refine ⟨?_, fun j k d hd n z => by subst z; exact n (o k d hd)⟩
  cases r with
  | sh d => simp only [Option.some.injEq] at e; rw [← e]; exact Kp.set o
  | nw d => simp only [Option.some.injEq] at e; rw [← e]; exact Kp.set o
  | sl j =>
    simp only [Option.bind_eq_some_iff, Prod.exists, Option.some.injEq] at e
    obtain ⟨d, env1, e1, e2⟩ := e
    rw [← e2]
    have k := esc_kp e1
    refine k.trans (Kp.set fun k2 d2 h2 => ?_)
    -- a slot's kind is not changed to a kept one
    simp only [esc] at e1
    split at e1
    · rename_i d3 hj
      simp only [Option.some.injEq, Prod.mk.injEq] at e1
      rw [← e1.2] at h2
      by_cases hij : j = i
      · subst hij
        rw [List.getElem?_set_self (get_lt hj)] at h2; cases h2
      · rw [List.getElem?_set_ne hij] at h2; exact o _ _ h2
    · simp only [Option.some.injEq, Prod.mk.injEq] at e1
      rw [← e1.2] at h2
      exact o _ _ h2
    · cases e1
theorem tS_set {f : Fv} {i : Nat} (kf : KpF f) (h : tS R (sSet i f) D σ H) : tAsg (tV R f) (gName i) D σ H := by
  obtain ⟨env, F, fl, env', S, e, q⟩ := h
  simp only [sSet, Option.bind_eq_some_iff, Prod.exists, Option.some.injEq, Prod.mk.injEq] at e
  obtain ⟨rv, env1, e1, env2, e2, rfl, rfl⟩ := e
  refine ⟨env, F, rv, env1, S, e1, fun v F1 H1 S1 x1 r1 => ?_⟩
  obtain ⟨F2, S2, x2⟩ := store_ok' S1 r1 e2
  have k1 := kf _ _ _ e1
  refine q _ _ _ S2 ⟨k1.trans (store_kp e2).1, fun j k d hd n => ?_⟩ (x1.trans x2)
  obtain ⟨d', hd'⟩ := k1.2 j k d hd n
  rw [List.getElem?_set_ne (Ne.symm ((store_kp e2).2 j k d' hd' n))]
theorem tS_setLc {elt : Fv} {tg : Tg} {it : Sl → Option Itm} {cd : Sl → Option (Bool × Sl)} {i : Nat} (kf : KpF (vLc elt tg it cd)) (h : tS R (sSet i (vLc elt tg it cd)) D σ H) : tAsg (tLc (tItm R it) (tG R tg) (tTst R cd) (tV R elt) tg.slots) (gName i) D σ H :=
  tV_lc (tS_set kf h)
theorem tS_unp {f : Fv} {ts : Tgs} (kf : KpF f) (h : tS R (sUnp ts f) D σ H) : tAsg (tV R f) (tG R (.tup ts)) D σ H := by
  obtain ⟨env, F, fl, env', S, e, q⟩ := h
  simp only [sUnp, Option.bind_eq_some_iff, Prod.exists] at e
  obtain ⟨rv, env1, e1, e⟩ := e
  split at e
  · rename_i ds
    simp only [Option.bind_eq_some_iff, Option.some.injEq, Prod.mk.injEq] at e
    obtain ⟨env2, e2, rfl, rfl⟩ := e
    refine ⟨env, F, _, env1, S, e1, fun v F1 H1 S1 x1 r1 => ⟨env1, F1, .tup ds, env2, S1, r1, by rw [bindT]; exact e2, fun σ' S' c k => ?_⟩⟩
    have k1 := kf _ _ _ e1
    obtain ⟨k2, n2⟩ := bindTs_kp e2
    refine q σ' F1 H1 S' ⟨k1.trans k2, fun j kd d hd n => ?_⟩ (x1.mono (fun _ z => z) fun b z => .inl (c b z))
    obtain ⟨d', hd'⟩ := k1.2 j kd d hd n
    exact k j (n2 j kd d' hd' n)
  · cases e

/-! ### a, b = x, y -/
theorem outs_ok : ∀ {rs rs' : List Rv} {vs : List V} {env env' : Sl} {F : Hp}, StOk R σ env F H → RvsOk R σ env F H rs vs → outs rs env = some (rs', env') →
    ∃ F', StOk R σ env' F' H ∧ RvsOk R σ env' F' H rs' vs ∧ Ext (fun b => Cell σ env b ∨ Tmps rs vs b) (fun b => Cell σ env' b ∨ Tmps rs' vs b) F H F' H ∧ (∀ b, Cell σ env' b → Cell σ env b) ∧ (∀ r ∈ rs', ∀ j, r ≠ .sl j) ∧
      (∀ b, F' b ≠ none → F b ≠ none ∨ Cell σ env (true, b)) ∧ (∀ b, Tmps rs' vs b → Tmps rs vs b)
  | [], rs', vs, env, env', F, S, h, e => by
    simp only [outs, Option.some.injEq, Prod.mk.injEq] at e
    obtain ⟨rfl, rfl⟩ := e
    exact ⟨F, S, h, Ext.refl, fun _ z => z, fun r z => (nomatch z), fun _ z => .inl z, fun _ z => z⟩
  | .sl j :: rs, rs', vs, env, env', F, S, h, e => by
    simp only [outs, Option.bind_eq_some_iff, Option.some.injEq, Prod.exists, Prod.mk.injEq] at e
    obtain ⟨d1, env1, e1, ds1, env2, e2, rfl, rfl⟩ := e
    obtain ⟨v, ws, rfl, h1, h2, h3⟩ := h
    obtain ⟨F1, S1, r1, x1, hc, hn⟩ := esc_ok S h1 e1
    obtain ⟨F2, S2, r2, x2, hc2, hs, hn2, ht2⟩ := outs_ok S1 (h2.esc x1.sub hc hn h3) e2
    have tm : ∀ {b}, ¬ Tmp (.sl j) v b := fun z => z
    refine ⟨F2, S2, ⟨v, ws, rfl, Rep.mono x2.sub _ _ r1, r2, fun b t => t.elim⟩, ?_, fun b z => hc b (hc2 b z), fun r z => ?_, fun b z => ?_, fun b z => ?_⟩
    · have y1 : Ext (fun b => Cell σ env b ∨ Tmps (.sl j :: rs) (v :: ws) b) (fun b => Cell σ env1 b ∨ Tmps rs ws b) F H F1 H := (x1.pend (P := Tmps rs ws)).mono (fun b z => z.elim (fun z => z.elim .inl fun z => z.elim) fun z => .inr (Tmps.cons.mpr (.inr z))) fun b z => z
      exact y1.trans (x2.mono (fun _ z => z) fun b z => z.elim .inl fun z => .inr ((Tmps.cons.mp z).elim (fun z => z.elim) fun z => z))
    · rcases List.mem_cons.mp z with z | z
      · subst z; exact fun j z => nomatch z
      · exact hs r z
    · rcases hn2 b z with z | z
      · rcases hn b z with z | z | z
        · exact .inl z
        · exact .inr z
        · exact z.elim
      · exact .inr (hc _ z)
    · rcases Tmps.cons.mp z with z | z
      · exact z.elim
      · exact Tmps.cons.mpr (.inr (ht2 b z))
  | .sh d :: rs, rs', vs, env, env', F, S, h, e => by
    simp only [outs, Option.bind_eq_some_iff, Option.some.injEq, Prod.exists, Prod.mk.injEq] at e
    obtain ⟨ds1, env2, e2, rfl, rfl⟩ := e
    obtain ⟨v, ws, rfl, h1, h2, h3⟩ := h
    obtain ⟨F2, S2, r2, x2, hc2, hs, hn2, ht2⟩ := outs_ok S h2 e2
    refine ⟨F2, S2, ⟨v, ws, rfl, Rep.mono x2.sub _ _ h1, r2, fun b t => t.elim⟩, ?_, hc2, fun r z => ?_, hn2, fun b z => ?_⟩
    · exact x2.mono (fun b z => z.elim .inl fun z => .inr (Tmps.cons.mpr (.inr z))) fun b z => z.elim .inl fun z => .inr ((Tmps.cons.mp z).elim (fun z => z.elim) fun z => z)
    · rcases List.mem_cons.mp z with z | z
      · subst z; exact fun j z => nomatch z
      · exact hs r z
    · rcases Tmps.cons.mp z with z | z
      · exact z.elim
      · exact Tmps.cons.mpr (.inr (ht2 b z))
  | .nw d :: rs, rs', vs, env, env', F, S, h, e => by
    simp only [outs, Option.bind_eq_some_iff, Option.some.injEq, Prod.exists, Prod.mk.injEq] at e
    obtain ⟨ds1, env2, e2, rfl, rfl⟩ := e
    obtain ⟨v, ws, rfl, h1, h2, h3⟩ := h
    obtain ⟨F2, S2, r2, x2, hc2, hs, hn2, ht2⟩ := outs_ok S h2 e2
    refine ⟨F2, S2, ⟨v, ws, rfl, ?_, r2, fun b t i r' v' e1 e2 t' => ?_⟩, ?_, hc2, fun r z => ?_, hn2, fun b z => ?_⟩
    · obtain ⟨p, e, n, m, c⟩ := h1
      refine ⟨p, e, ?_, m.mono x2.sub fun _ z => z, fun z => c (hc2 _ z)⟩
      cases z : F2 p with
      | none => rfl
      | some u =>
        rcases hn2 p (by rw [z]; exact fun z => nomatch z) with z | z
        · exact absurd n z
        · exact absurd z.up c
    · obtain ⟨i2, r2', v2, f1, f2, f3⟩ := ht2 b ⟨i, r', v', e1, e2, t'⟩
      exact h3 b t i2 r2' v2 f1 f2 f3
    · refine (x2.pend (P := Tmp (.nw d) v)).mono (fun b z => ?_) fun b z => ?_
      · exact z.elim (fun z => z.elim .inl fun z => .inr (Tmps.cons.mpr (.inr z))) fun z => .inr (Tmps.cons.mpr (.inl z))
      · rcases z with z | z
        · exact .inl (.inl z)
        · exact (Tmps.cons.mp z).elim .inr fun z => .inl (.inr z)
    · rcases List.mem_cons.mp z with z | z
      · subst z; exact fun j z => nomatch z
      · exact hs r z
    · rcases Tmps.cons.mp z with z | z
      · exact Tmps.cons.mpr (.inl z)
      · exact Tmps.cons.mpr (.inr (ht2 b z))
def setAll (σ : L2.St) : List Nat → List V → L2.St
  | i :: is, v :: vs => setAll (σ.set i (some v)) is vs
  | _, _ => σ
theorem stores_ok : ∀ {is : List Nat} {rs : List Rv} {vs : List V} {σ : L2.St} {env env' : Sl} {F : Hp}, StOk R σ env F H → RvsOk R σ env F H rs vs → (∀ r ∈ rs, ∀ j, r ≠ .sl j) → stores is rs env = some env' →
    StOk R (setAll σ is vs) env' F H ∧ (∀ b, Cell (setAll σ is vs) env' b → Cell σ env b ∨ Tmps rs vs (true, b.2)) ∧ Lk σ env (setAll σ is vs) env' ∧ is.length = vs.length
  | [], [], vs, σ, env, env', F, S, h, hs, e => by
    simp only [stores, Option.some.injEq] at e
    subst e
    have h : vs = [] := h
    subst h
    exact ⟨S, fun b z => .inl z, Lk.refl, rfl⟩
  | [], _ :: _, vs, σ, env, env', F, S, h, hs, e => by simp only [stores] at e; cases e
  | _ :: _, [], vs, σ, env, env', F, S, h, hs, e => by simp only [stores] at e; cases e
  | i :: is, r :: rs, vs, σ, env, env', F, S, h, hs, e => by
    simp only [stores, Option.bind_eq_some_iff] at e
    obtain ⟨env1, e1, e2⟩ := e
    obtain ⟨v, ws, rfl, h1, h2, h3⟩ := h
    have hi := store_lt e1
    obtain ⟨k1, n1⟩ := store_kp e1
    have one : StOk R (σ.set i (some v)) env1 F H ∧ ∀ b, Cell (σ.set i (some v)) env1 b → Cell σ env b ∨ Tmp r v (true, b.2) := by
      unfold store at e1
      obtain ⟨_, _, e1⟩ := Option.bind_eq_some_iff.mp e1
      cases r with
      | sh d =>
        simp only [Option.some.injEq] at e1
        subst e1
        obtain ⟨S', hc⟩ := S.putV hi h1
        exact ⟨S', fun b z => .inl (hc b z)⟩
      | nw d =>
        simp only [Option.some.injEq] at e1
        subst e1
        obtain ⟨p, rfl, n, m, c⟩ := h1
        obtain ⟨S', hc⟩ := S.putN hi n m c
        exact ⟨S', fun y z => (hc y z).imp_right fun w => show V.ref p = V.ref y.2 by rw [w]⟩
      | sl j => exact absurd rfl (hs _ (List.mem_cons_self ..) j)
    obtain ⟨S1, hc1⟩ := one
    have rest : RvsOk R (σ.set i (some v)) env1 F H rs ws := by
      have key : ∀ {rs : List Rv} {ws : List V}, RvsOk R σ env F H rs ws → (∀ r ∈ rs, ∀ j, r ≠ .sl j) → (∀ b, Tmp r v b → ∀ (i : Nat) (r' : Rv) (v' : V), rs[i]? = some r' → ws[i]? = some v' → ¬ Tmp r' v' b) → RvsOk R (σ.set i (some v)) env1 F H rs ws := by
        intro rs
        induction rs with
        | nil => intro ws h _ _; exact h
        | cons r1 rs ih =>
          intro ws h hs hd
          obtain ⟨v1, ws', rfl, g1, g2, g3⟩ := h
          refine ⟨v1, ws', rfl, ?_, ih g2 (fun r z => hs r (List.mem_cons_of_mem _ z)) fun b t i r' v' a1 a2 => hd b t (i + 1) r' v' (by simpa using a1) (by simpa using a2), g3⟩
          cases r1 with
          | sh d => exact g1
          | nw d =>
            obtain ⟨p, e, n, m, c⟩ := g1
            refine ⟨p, e, n, m, fun z => ?_⟩
            rcases hc1 _ z with z | z
            · exact c z
            · exact hd (true, p) z 0 (.nw d) v1 rfl rfl e
          | sl j => exact absurd rfl (hs _ (List.mem_cons_self ..) j)
      exact key h2 (fun r z => hs r (List.mem_cons_of_mem _ z)) h3
    obtain ⟨S2, hc2, lk2, hl⟩ := stores_ok S1 rest (fun r z => hs r (List.mem_cons_of_mem _ z)) e2
    have lk1 : Lk σ env (σ.set i (some v)) env1 := ⟨k1, fun j k d hd n => by rw [List.getElem?_set_ne (Ne.symm (n1 j k d hd n))]⟩
    refine ⟨S2, fun b z => ?_, lk1.trans lk2, by simp [hl]⟩
    rcases hc2 b z with z | z
    · exact (hc1 b z).imp_right fun z => Tmps.cons.mpr (.inl z)
    · exact .inr (Tmps.cons.mpr (.inr z))
theorem tS_par {is : List Nat} {f : Sl → Option (List Rv × Sl)} (kf : KpF f) (h : tS R (sPar is f) D σ H) : tVs R f σ H fun vs H1 => is.length = vs.length ∧ D.nx (setAll σ is vs) H1 := by
  obtain ⟨env, F, fl, env', S, e, q⟩ := h
  simp only [sPar, Option.bind_eq_some_iff, Prod.exists, Option.some.injEq, Prod.mk.injEq] at e
  obtain ⟨rvs, env1, e1, rvs', env2, e2, env3, e3, rfl, rfl⟩ := e
  refine ⟨env, F, rvs, env1, S, e1, fun vs F1 H1 S1 x1 r1 => ?_⟩
  obtain ⟨F2, S2, r2, x2, hc2, hs, _, _⟩ := outs_ok S1 r1 e2
  obtain ⟨S3, hc3, lk3, hl⟩ := stores_ok S2 r2 hs e3
  have tb : ∀ {b : Tg2}, Tmps rvs' vs (true, b.2) → Tmps rvs' vs b := fun {b} z => by
    obtain ⟨i, r, v, a1, a2, a3⟩ := z
    refine ⟨i, r, v, a1, a2, ?_⟩
    cases r with
    | nw d => exact a3
    | sh d => exact a3
    | sl j => exact a3
  refine ⟨hl, q _ F2 H1 S3 (((kf _ _ _ e1).trans (outs_kp e2)).lk.trans lk3) ?_⟩
  exact (x1.trans x2).mono (fun _ z => z) fun b z => (hc3 b z).imp_right tb
/-- the same with the values' tuple made on the way -/
theorem tS_parT {is : List Nat} {f : Sl → Option (List Rv × Sl)} (kf : KpF f) (h : tS R (sPar is f) D σ H) : tVs R f σ H fun vs H1 => is.length = vs.length ∧ ∀ p, H1 p = none → D.nx (setAll σ is vs) (upd H1 p (.tup vs)) := by
  obtain ⟨env, F, fl, env', S, e, q⟩ := h
  simp only [sPar, Option.bind_eq_some_iff, Prod.exists, Option.some.injEq, Prod.mk.injEq] at e
  obtain ⟨rvs, env1, e1, rvs', env2, e2, env3, e3, rfl, rfl⟩ := e
  refine ⟨env, F, rvs, env1, S, e1, fun vs F1 H1 S1 x1 r1 => ?_⟩
  obtain ⟨F2, S2, r2, x2, hc2, hs, _, _⟩ := outs_ok S1 r1 e2
  obtain ⟨S3, hc3, lk3, hl⟩ := stores_ok S2 r2 hs e3
  have tb : ∀ {b : Tg2}, Tmps rvs' vs (true, b.2) → Tmps rvs' vs b := fun {b} z => by
    obtain ⟨i, r, v, a1, a2, a3⟩ := z
    refine ⟨i, r, v, a1, a2, ?_⟩
    cases r with
    | nw d => exact a3
    | sh d => exact a3
    | sl j => exact a3
  refine ⟨hl, fun p np => ?_⟩
  obtain ⟨S4, x4, _, _⟩ := S3.laid (o := .tup vs) np
  refine q _ F2 _ S4 (((kf _ _ _ e1).trans (outs_kp e2)).lk.trans lk3) ?_
  have y : Ext (Cell σ env) (Cell (setAll σ is vs) env3) F H F2 H1 := (x1.trans x2).mono (fun _ z => z) fun b z => (hc3 b z).imp_right tb
  exact y.trans (x4.mono (fun _ z => z) fun b z => .inl z)
def gNames : List Nat → TGs
  | [] => gNil
  | i :: is => gCons (gName i) (gNames is)
theorem gNames_of : ∀ {is : List Nat} {vs : List V} {σ : L2.St} {H : Hp} {Q : L2.St → Hp → Prop}, is.length = vs.length → Q (setAll σ is vs) H → gNames is vs σ H Q
  | [], [], σ, H, Q, _, h => ⟨rfl, h⟩
  | [], _ :: _, σ, H, Q, e, _ => by simp at e
  | _ :: _, [], σ, H, Q, e, _ => by simp at e
  | i :: is, v :: vs, σ, H, Q, e, h => ⟨v, vs, rfl, gNames_of (by simpa using e) h⟩
theorem tS_parG {is : List Nat} {f : Sl → Option (List Rv × Sl)} (kf : KpF f) (hz : is.length ≤ 1000) (h : tS R (sPar is f) D σ H) : tAsg (tTup (tVs R f)) (gTup R.K is.length (gNames is)) D σ H := by
  obtain ⟨env, F, rvs, env1, S, e1, q⟩ := tS_parT kf h
  refine ⟨env, F, rvs, env1, S, e1, fun vs F1 H1 S1 x1 r1 => ?_⟩
  obtain ⟨hl, q⟩ := q vs F1 H1 S1 x1 r1
  refine ⟨by rw [← hl]; have := sizeLine_eq; omega, fun p np => ?_⟩
  exact ⟨p, vs, rfl, .of upd_same, hl.symm, gNames_of hl (q p np)⟩
theorem tS_par2 {i j : Nat} {f : Sl → Option (List Rv × Sl)} (kf : KpF f) (h : tS R (sPar [i, j] f) D σ H) : tPar i j (tVs R f) D σ H := by
  obtain ⟨env, F, rvs, env1, S, e1, q⟩ := tS_par kf h
  refine ⟨env, F, rvs, env1, S, e1, fun vs F1 H1 S1 x1 r1 => ?_⟩
  obtain ⟨hl, q⟩ := q vs F1 H1 S1 x1 r1
  match vs, hl with
  | [v, w], _ => exact ⟨v, w, rfl, q⟩
theorem tS_par3 {i j l : Nat} {f : Sl → Option (List Rv × Sl)} (kf : KpF f) (h : tS R (sPar [i, j, l] f) D σ H) : tPar3 i j l (tVs R f) D σ H := by
  obtain ⟨env, F, rvs, env1, S, e1, q⟩ := tS_par kf h
  refine ⟨env, F, rvs, env1, S, e1, fun vs F1 H1 S1 x1 r1 => ?_⟩
  obtain ⟨hl, q⟩ := q vs F1 H1 S1 x1 r1
  match vs, hl with
  | [u, v, w], _ => exact ⟨u, v, w, rfl, q⟩

/-! ### what stands in a slot is changed -/
theorem muAt_get {i : Nat} {m : Kd × RE.D} (e : muAt i env = some m) : env[i]? = some (.mu m.1 m.2) ∧ m.1 ≠ .lck := by
  unfold muAt at e
  split at e
  · cases e; exact ⟨by assumption, fun z => nomatch z⟩
  · cases e; exact ⟨by assumption, fun z => nomatch z⟩
  · cases e
theorem set_end {i : Nat} {k : Kd} {d d' : RE.D} {p : Addr} {o : HO} (S : StOk R σ env F H) (hi : env[i]? = some (.mu k d)) (nl : k ≠ .lck) (hp : σ[i]? = some (some (.ref p))) (m : MuO R F (upd H p o) p d') :
    StOk R σ (env.set i (.mu k d')) F (upd H p o) ∧ Ext (Cell σ env) (Cell σ (env.set i (.mu k d'))) F H F (upd H p o) := by
  obtain ⟨p', e, n, m0⟩ := S.mu i k d hi
  rw [hp] at e
  cases e
  obtain ⟨o0, ho, _⟩ := m0.some
  have x : Ext (fun b : Tg2 => b.2 = p) (fun b => b.2 = p) F H F (upd H p o) := Ext.poke ho rfl
  refine ⟨S.turned hi hp x ?_ n m, (Ext.poke ho ⟨i, k, d, hi, hp, fun _ => nl⟩).mono (fun _ z => z) fun b z => (cell_set hi).mp z⟩
  intro b u e
  by_cases hb : b = p
  · subst hb; rw [n] at e; cases e
  · rw [upd_ne hb]; exact S.sub b u e
theorem int_val {v : V} {rk : Rv} {j : Int} (S : StOk R σ env F H) (r : RvOk R σ env F H rk v) (e : intR (rk, env) = some j) : v = .int j := int_of S r e
theorem tS_setix {kk f : Fv} {i : Nat} (kf : KpF f) (kg : KpF kk) (h : tS R (sSetIx i kk f) D σ H) : tAsg (tV R f) (gSub (tVar i) (tV R kk) rSetL) D σ H := by
  obtain ⟨env, F, fl, env', S, e, q⟩ := h
  simp only [sSetIx, Option.bind_eq_some_iff, Prod.exists] at e
  obtain ⟨rv, env1, e1, d, env2, e2, kd0, m0, e0, rk, env3, e3, j, e4, kd, m, e5, e⟩ := e
  cases m with
  | lst ds =>
    simp only [Option.bind_eq_some_iff, Option.some.injEq, Prod.mk.injEq] at e
    obtain ⟨n, e6, rfl, rfl⟩ := e
    refine ⟨env, F, rv, env1, S, e1, fun x F1 H1 S1 x1 r1 => ?_⟩
    obtain ⟨F2, S2, rp2, x2, hc2, _⟩ := esc_ok S1 r1 e2
    obtain ⟨hi, nl⟩ := muAt_get e5
    obtain ⟨hi0, _⟩ := muAt_get e0
    obtain ⟨p, hp, _⟩ := S2.mu i _ _ hi0
    refine ⟨.ref p, hp, env2, F2, rk, env3, S2, e3, fun y F3 H3 S3 x3 r3 => ?_⟩
    have e4 := int_of S3 r3 e4
    subst e4
    obtain ⟨p', hp', n3, xs, hH, rp⟩ := S3.mu i _ _ hi
    rw [hp] at hp'
    cases hp'
    refine ⟨p, xs, j, n, rfl, rfl, hH, by rw [← rp.length]; exact e6, ?_⟩
    obtain ⟨S4, x4⟩ := set_end (o := .lst (xs.set n x)) S3 hi nl hp (d' := .lst (ds.set n d)) ⟨_, upd_same, Reps.set n rp (Rep.mono x3.sub _ _ rp2)⟩
    refine q σ F3 _ S4 ((((kf _ _ _ e1).trans (esc_kp e2)).trans (kg _ _ _ e3)).trans (Kp.setMu hi)).lk ?_
    exact ((x1.trans x2).trans (x3.mono (D1 := Cell σ env3) (fun _ z => z) fun _ z => .inl z)).trans x4
  | _ => cases e
theorem putF_names (f : Str) (y : V) : ∀ fv : List (Str × V), (putF f y fv).map (·.1) = putN f (fv.map (·.1))
  | [] => rfl
  | (g, x) :: r => by
    simp only [putF, List.map_cons, putN]
    split
    · rfl
    · rw [List.map_cons, putF_names f y r]
theorem putF_reps {f : Str} {d : RE.D} {y : V} (h : Rep R F d y) : ∀ {fv : List (Str × V)} {ds : List RE.D}, Reps R F ds (fv.map (·.2)) → Reps R F (putV f d (fv.map (·.1)) ds) ((putF f y fv).map (·.2))
  | [], ds, r => by
    have : ds = [] := by
      cases ds with
      | nil => rfl
      | cons d ds => obtain ⟨v, vs, e, _⟩ := Reps.cons_iff.mp r; cases e
    subst this
    exact Reps.cons h Reps.nil
  | (g, x) :: r, ds, rr => by
    cases ds with
    | nil => have := Reps.nil_iff.mp rr; cases this
    | cons e es =>
      obtain ⟨v, vs, e1, r1, r2⟩ := Reps.cons_iff.mp rr
      simp only [List.map_cons, List.cons.injEq] at e1
      obtain ⟨rfl, rfl⟩ := e1
      simp only [putF, List.map_cons, putV]
      split
      · exact Reps.cons h r2
      · exact Reps.cons r1 (putF_reps h r2)
theorem tS_setfld {K : PySem.W.Frag} {ca : Nat → Addr} {w : World} {f : Fv} {i : Nat} {fl : Str} {hasF : Nat → Str → Bool} (cok : ClsOk K ca hasF) (kf : KpF f) (h : tS ⟨K, ca, w⟩ (sSetFld (fun c => hasF c fl) i fl f) D σ H) : sFld K (tVar i) (tV ⟨K, ca, w⟩ f) fl D σ H := by
  obtain ⟨env, F, fl0, env', S, e, q⟩ := h
  simp only [sSetFld, Option.bind_eq_some_iff, Prod.exists] at e
  obtain ⟨rv, env1, e1, d, env2, e2, kd, m, e5, e⟩ := e
  cases m with
  | ins c fs ds =>
    simp only at e
    split at e
    · rename_i hh
      simp only [Bool.and_eq_true, decide_eq_true_eq] at hh
      simp only [Option.some.injEq, Prod.mk.injEq] at e
      obtain ⟨rfl, rfl⟩ := e
      refine ⟨env, F, rv, env1, S, e1, fun x F1 H1 S1 x1 r1 => ?_⟩
      obtain ⟨F2, S2, rp2, x2, hc2, _⟩ := esc_ok S1 r1 e2
      obtain ⟨hi, nl⟩ := muAt_get e5
      obtain ⟨p, hp, n3, dx, fv, hH, hn, rp⟩ := S2.mu i _ _ hi
      refine ⟨.ref p, hp, p, ca c, dx, fv, rfl, hH, cok.cls c fl hh.1, cok.no c fl hh.1, by rw [← hn] at hh; simpa using hh.2, ?_⟩
      have hn' : fs = fv.map (·.1) := hn.symm
      subst hn'
      obtain ⟨S4, x4⟩ := set_end (o := .ins (ca c) dx (putF fl x fv)) S2 hi nl hp (d' := .ins c (putN fl (fv.map (·.1))) (putV fl d (fv.map (·.1)) ds)) ⟨dx, _, upd_same, putF_names fl x fv, putF_reps rp2 rp⟩
      exact q σ F2 _ S4 (((kf _ _ _ e1).trans (esc_kp e2)).trans (Kp.setMu hi)).lk ((x1.trans x2).trans x4)
    · cases e
  | _ => cases e
theorem tS_app {f : Fv} {i : Nat} (kf : KpF f) (h : tS R (sApp i f) D σ H) : tDrop (tBM R.K "list" rAppend (tVar i) (tVs R (fun env => (f env).bind fun p => some ([p.1], p.2)))) D σ H := by
  obtain ⟨env, F, fl, env', S, e, q⟩ := h
  simp only [sApp, Option.bind_eq_some_iff, Prod.exists] at e
  obtain ⟨kd0, m0, e0, e⟩ := e
  split at e
  · cases e
  rename_i hL
  simp only [Option.bind_eq_some_iff, Prod.exists] at e
  obtain ⟨rv, env1, e1, d, env2, e2, kd, m, e3, e⟩ := e
  cases m0 with
  | lst ds0 =>
    cases m with
    | lst ds =>
      simp only at e
      split at e
      · rename_i hlen
        simp only [Option.some.injEq, Prod.mk.injEq] at e
        obtain ⟨rfl, rfl⟩ := e
        obtain ⟨hi0, _⟩ := muAt_get e0
        obtain ⟨p, hp, _, xs0, hH0, rp0⟩ := S.mu i _ _ hi0
        refine ⟨.ref p, hp, .inl ⟨rfl, xs0, .of hH0⟩, env, F, [rv], env1, S, by show (f env).bind _ = _; rw [e1]; rfl, fun vs F1 H1 S1 x1 r1 => ?_⟩
        obtain ⟨x, ws, rfl, r1, hws, _⟩ := r1
        have hws : ws = [] := hws
        subst hws
        obtain ⟨F2, S2, rp2, x2, hc2, _⟩ := esc_ok S1 r1 e2
        obtain ⟨hi, nl⟩ := muAt_get e3
        obtain ⟨p', hp', n3, xs, hH, rp⟩ := S2.mu i _ _ hi
        rw [hp] at hp'
        cases hp'
        refine ⟨p, xs, x, rfl, rfl, hH, by rw [← rp.length]; exact hlen, ?_⟩
        obtain ⟨S4, x4⟩ := set_end (o := .lst (xs ++ [x])) S2 hi nl hp (d' := .lst (ds ++ [d])) ⟨_, upd_same, Reps.append rp (Reps.cons rp2 Reps.nil)⟩
        refine q σ F2 _ S4 (((kf _ _ _ e1).trans (esc_kp e2)).trans (Kp.setMu hi)).lk ?_
        exact ((x1.mono (D1 := fun b => Cell σ env1 b ∨ Tmp rv x b) (fun _ z => z) fun b z => z.imp_right fun z => Tmps.cons.mpr (.inl z)).trans x2).trans x4
      · cases e
    | _ => cases e
  | _ => simp [isL] at hL

theorem tS_ext {f : Fv} {i : Nat} (kf : KpF f) (h : tS R (sExt i f) D σ H) : tDrop (tBM R.K "list" rExtend (tVar i) (tVs R (fun env => (f env).bind fun p => some ([p.1], p.2)))) D σ H := by
  obtain ⟨env, F, fl, env', S, e, q⟩ := h
  simp only [sExt, Option.bind_eq_some_iff, Prod.exists] at e
  obtain ⟨kd0, m0, e0, e⟩ := e
  split at e
  · cases e
  rename_i hL
  simp only [Option.bind_eq_some_iff, Prod.exists] at e
  obtain ⟨rv, env1, e1, e⟩ := e
  split at e
  · rename_i es
    simp only [Option.bind_eq_some_iff, Prod.exists] at e
    obtain ⟨kd, m, e3, e⟩ := e
    cases m0 with
    | lst ds0 =>
      cases m with
      | lst ds =>
        simp only at e
        split at e
        · rename_i hlen
          simp only [Option.some.injEq, Prod.mk.injEq] at e
          obtain ⟨rfl, rfl⟩ := e
          obtain ⟨hi0, _⟩ := muAt_get e0
          obtain ⟨p, hp, _, xs0, hH0, rp0⟩ := S.mu i _ _ hi0
          refine ⟨.ref p, hp, .inl ⟨rfl, xs0, .of hH0⟩, env, F, [.nw (.lst es)], env1, S, by show (f env).bind _ = _; rw [e1]; rfl, fun vs F1 H1 S1 x1 r1 => ?_⟩
          obtain ⟨x, ws, rfl, r1, hws, _⟩ := r1
          have hws : ws = [] := hws
          subst hws
          obtain ⟨p2, rfl, nF2, ⟨zs, hz, rpz⟩, nc2⟩ := r1
          obtain ⟨hi, nl⟩ := muAt_get e3
          obtain ⟨p', hp', n3, xs, hH, rp⟩ := S1.mu i _ _ hi
          rw [hp] at hp'
          cases hp'
          have l1 := rp.length
          have l2 := rpz.length
          have hz2 := lineOk_le hlen
          refine ⟨p, p2, xs, zs, rfl, rfl, hH, hz, by omega, ?_⟩
          obtain ⟨S4, x4⟩ := set_end (o := .lst (xs ++ zs)) S1 hi nl hp (d' := .lst (ds ++ es)) ⟨_, upd_same, Reps.append rp rpz⟩
          refine q σ F1 _ S4 ((kf _ _ _ e1).trans (Kp.setMu hi)).lk ?_
          exact (x1.mono (D1 := Cell σ env1) (fun _ z => z) fun b z => .inl z).trans x4
        · cases e
      | _ => cases e
    | _ => simp [isL] at hL
  · cases e

/-! ### control -/
theorem tS_expr {f : Fv} (kf : KpF f) (h : tS R (sExpr f) D σ H) : tDrop (tV R f) D σ H := by
  obtain ⟨env, F, fl, env', S, e, q⟩ := h
  simp only [sExpr, Option.bind_eq_some_iff, Prod.exists, Option.some.injEq, Prod.mk.injEq] at e
  obtain ⟨rv, env1, e1, rfl, rfl⟩ := e
  exact ⟨env, F, rv, env1, S, e1, fun v F1 H1 S1 x1 r1 => q σ F1 H1 S1 (kf _ _ _ e1).lk (x1.mono (fun _ z => z) fun _ z => .inl z)⟩
theorem tS_ret {f : Fv} (kf : KpF f) (h : tS R (sRet f) D σ H) : tRet (tV R f) D σ H := by
  obtain ⟨env, F, fl, env', S, e, q⟩ := h
  simp only [sRet, Option.bind_eq_some_iff, Prod.exists, Option.some.injEq, Prod.mk.injEq] at e
  obtain ⟨rv, env1, e1, rfl, rfl⟩ := e
  exact ⟨env, F, rv, env1, S, e1, fun v F1 H1 S1 x1 r1 => q σ F1 H1 S1 (kf _ _ _ e1).lk v x1 r1⟩
theorem tS_retN (h : tS R (fun env => some (.ret (.sh .non), env)) D σ H) : tRetN D σ H := by
  obtain ⟨env, F, fl, env', S, e, q⟩ := h
  simp only [Option.some.injEq, Prod.mk.injEq] at e
  obtain ⟨rfl, rfl⟩ := e
  exact q σ F H S Lk.refl .non (Ext.refl.mono (fun _ z => z) fun b z => z.elim (fun z => z) fun z => z.elim) (by simp only [RvOk, Rep])
theorem tS_brk (h : tS R (fun env => some (.bk, env)) D σ H) : tBreak D σ H := by
  obtain ⟨env, F, fl, env', S, e, q⟩ := h
  simp only [Option.some.injEq, Prod.mk.injEq] at e
  obtain ⟨rfl, rfl⟩ := e
  exact q σ F H S Lk.refl Ext.refl
theorem tS_ct (h : tS R (fun env => some (.ct, env)) D σ H) : tCont D σ H := by
  obtain ⟨env, F, fl, env', S, e, q⟩ := h
  simp only [Option.some.injEq, Prod.mk.injEq] at e
  obtain ⟨rfl, rfl⟩ := e
  exact q σ F H S Lk.refl Ext.refl
theorem tS_nil (h : tS R (fun env => some (.nx, env)) D σ H) : tNext D σ H := by
  obtain ⟨env, F, fl, env', S, e, q⟩ := h
  simp only [Option.some.injEq, Prod.mk.injEq] at e
  obtain ⟨rfl, rfl⟩ := e
  exact q σ F H S Lk.refl Ext.refl
/-- what comes behind something -/
theorem tS_then {f : Sv} {fl : Fl} (S : StOk R σ env F H) (e : f env = some (fl, env')) {σ0 : L2.St} {env0 : Sl} {F0 H0 : Hp} (lk : Lk σ0 env0 σ env) (x : Ext (Cell σ0 env0) (Cell σ env) F0 H0 F H)
    (q : ∀ σ' F' H', StOk R σ' env' F' H' → Lk σ0 env0 σ' env' → EndP R D σ0 env0 F0 H0 env' σ' F' H' fl) : tS R f D σ H := by
  refine ⟨env, F, fl, env', S, e, fun σ' F' H' S' lk' => ?_⟩
  have q := q σ' F' H' S' (lk.trans lk')
  cases fl with
  | nx => exact fun x' => q (x.trans x')
  | bk => exact fun x' => q (x.trans x')
  | ct => exact fun x' => q (x.trans x')
  | ret rv => exact fun v x' r => q v (x.trans x') r
theorem tS_if {c : Sl → Option (Bool × Sl)} {a b : Sv} (kc : KpF c) (h : tS R (sIf c a b) D σ H) : tIfS (tTst R c) (tS R a) (tS R b) D σ H := by
  obtain ⟨env, F, fl, env', S, e, q⟩ := h
  simp only [sIf, Option.bind_eq_some_iff, Prod.exists] at e
  obtain ⟨bb, env1, e1, e⟩ := e
  refine ⟨env, F, bb, env1, S, e1, fun F1 H1 S1 x1 => ?_⟩
  split at e
  · rename_i hb
    have hb : bb = true := hb
    subst hb
    rw [if_pos rfl]
    exact tS_then S1 e (kc _ _ _ e1).lk x1 q
  · rename_i hb
    have hb : ¬ bb = true := hb
    rw [if_neg hb]
    exact tS_then S1 e (kc _ _ _ e1).lk x1 q
theorem tS_seq {a b : Sv} (h : tS R (sSeq a b) D σ H) : tSeq (tS R a) (tS R b) D σ H := by
  obtain ⟨env, F, fl, env', S, e, q⟩ := h
  simp only [sSeq, Option.bind_eq_some_iff, Prod.exists] at e
  obtain ⟨fl1, env1, e1, e⟩ := e
  refine ⟨env, F, fl1, env1, S, e1, fun σ1 F1 H1 S1 lk1 => ?_⟩
  cases fl1 with
  | nx => exact fun x1 => tS_then S1 e lk1 x1 q
  | bk =>
    simp only [Option.some.injEq, Prod.mk.injEq] at e
    obtain ⟨rfl, rfl⟩ := e
    exact q σ1 F1 H1 S1 lk1
  | ct =>
    simp only [Option.some.injEq, Prod.mk.injEq] at e
    obtain ⟨rfl, rfl⟩ := e
    exact q σ1 F1 H1 S1 lk1
  | ret rv =>
    simp only [Option.some.injEq, Prod.mk.injEq] at e
    obtain ⟨rfl, rfl⟩ := e
    exact q σ1 F1 H1 S1 lk1
theorem tS_while {c : Sl → Option (Bool × Sl)} {b : Sv} (kc : KpF c) (h : tS R (whileR c b) D σ H) : tWhile (tTst R c) (tS R b) D σ H := by
  obtain ⟨env, F, fl, env', S, e, q⟩ := h
  have he : ∃ n, loopW c b n env = some (fl, env') := by
    exact ⟨_, e⟩
  obtain ⟨n0, e⟩ := he
  refine ⟨fun n σ1 H1 => ∃ env1 F1, StOk R σ1 env1 F1 H1 ∧ Lk σ env σ1 env1 ∧ Ext (Cell σ env) (Cell σ1 env1) F H F1 H1 ∧ loopW c b n env1 = some (fl, env'), ⟨n0, env, F, S, Lk.refl, Ext.refl, e⟩, ?_⟩
  rintro n σ1 H1 ⟨env1, F1, S1, lk1, x1, e1⟩
  cases n with
  | zero => simp only [loopW] at e1; cases e1
  | succ n =>
    simp only [loopW, Option.bind_eq_some_iff, Prod.exists] at e1
    obtain ⟨bb, env2, e2, e1⟩ := e1
    refine ⟨env1, F1, bb, env2, S1, e2, fun F2 H2 S2 x2 => ?_⟩
    split at e1
    · rename_i hb
      have hb : bb = true := hb
      subst hb
      rw [if_pos rfl]
      simp only [Option.bind_eq_some_iff, Prod.exists] at e1
      obtain ⟨fl3, env3, e3, e1⟩ := e1
      refine ⟨fun σ3 H3 => ∃ env3 F3, StOk R σ3 env3 F3 H3 ∧ Lk σ env σ3 env3 ∧ Ext (Cell σ env) (Cell σ3 env3) F H F3 H3 ∧ loopW c b n env3 = some (fl, env'), fun σ' H' w => ⟨n, Nat.lt_succ_self n, w⟩, ?_⟩
      refine tS_then S2 e3 (lk1.trans (kc _ _ _ e2).lk) (x1.trans x2) fun σ4 F4 H4 S4 lk4 => ?_
      cases fl3 with
      | nx => exact fun x4 => ⟨env3, F4, S4, lk4, x4, e1⟩
      | ct => exact fun x4 => ⟨env3, F4, S4, lk4, x4, e1⟩
      | bk =>
        simp only [Option.some.injEq, Prod.mk.injEq] at e1
        obtain ⟨rfl, rfl⟩ := e1
        exact q σ4 F4 H4 S4 lk4
      | ret rv =>
        simp only [Option.some.injEq, Prod.mk.injEq] at e1
        obtain ⟨rfl, rfl⟩ := e1
        exact q σ4 F4 H4 S4 lk4
    · rename_i hb
      have hb : ¬ bb = true := hb
      rw [if_neg hb]
      simp only [Option.some.injEq, Prod.mk.injEq] at e1
      obtain ⟨rfl, rfl⟩ := e1
      exact q σ1 F2 H2 S2 (lk1.trans (kc _ _ _ e2).lk) (x1.trans x2)
/-- behind a walk -/
theorem loop_end {l : Option Nat} {envn : Sl} {Fn Hn : Hp} {σn : L2.St} {P : Tg2 → Prop} (hu : ∀ i, l = some i → (∃ d, env1[i]? = some (Slot.mu .lck d)) ∧ ∀ p, σ[i]? = some (some (V.ref p)) → Cell σ env (true, p) ∨ H p = none)
    (lk : Lk σ env1 σn envn) (x : Ext (Cell σ env) (fun b => Cell σn envn b ∨ P b) F H Fn Hn) : Ext (Cell σ env) (fun b => Cell σn (unlock l envn) b ∨ P b) F H Fn Hn := by
  refine ⟨x.sub, x.dom, x.keep, x.new, fun y z => ?_⟩
  rcases z with z | z
  · obtain ⟨t, p⟩ := y
    obtain ⟨j, k, d, f1, f2, f3⟩ := z
    cases l with
    | none => exact x.cel (t, p) (.inl ⟨j, k, d, f1, f2, f3⟩)
    | some i =>
      simp only [unlock] at f1
      split at f1
      · rename_i d1 hi
        by_cases hij : i = j
        · subst hij
          obtain ⟨⟨d0, h0⟩, h1⟩ := hu i rfl
          cases t with
          | true => rw [lk.2 i _ _ h0 (fun z => nomatch z)] at f2; exact h1 p f2
          | false => exact x.cel (false, p) (.inl ⟨i, _, _, hi, f2, fun z => nomatch z⟩)
        · rw [List.getElem?_set_ne hij] at f1
          exact x.cel (t, p) (.inl ⟨j, k, d, f1, f2, f3⟩)
      · exact x.cel (t, p) (.inl ⟨j, k, d, f1, f2, f3⟩)
  · exact x.cel y (.inr z)
theorem tS_for {tg : Tg} {it : Sl → Option Itm} {b : Sv} (ki : KpI it) (h : tS R (sFor tg it b) D σ H) : tFor (tItm R it) (tG R tg) (tS R b) D σ H := by
  obtain ⟨env, F, fl, env', S, e, q⟩ := h
  simp only [sFor, Option.bind_eq_some_iff, Prod.exists, Option.some.injEq, Prod.mk.injEq] at e
  obtain ⟨ds, env1, l, e1, fl1, envN, e2, rfl, rfl⟩ := e
  refine ⟨env, F, ds, env1, l, S, e1, fun J lp F1 H1 S1 x1 hlp hu w => ?_⟩
  obtain ⟨G, Y, wk, hG, hY⟩ := w.ex
  obtain ⟨kp1, own1⟩ := ki _ _ _ _ e1
  have still : ∀ {C : Tg2 → Prop} {Fi Hi : Hp}, Ext (Cell σ env1) C F1 H1 Fi Hi → ∀ p, lp = some p → Hi p = H1 p := fun x p hp => by
    obtain ⟨j, d, ej, eσ⟩ := hlp p hp
    obtain ⟨⟨o, ho⟩, nc⟩ := lck_still S1 ej eσ
    rw [ho, x.keep p o ho nc]
  have lkU : ∀ {σn : L2.St}, Lk σ env1 σn envN → Lk σ env σn (unlock l envN) := fun {σn} lk =>
    ⟨(kp1.trans lk.1).unlock own1, fun j k d hd n => (kp1.lk.trans lk).2 j k d hd n⟩
  -- the ways out
  have out : ∀ {σn : L2.St} {Fn Hn : Hp}, StOk R σn envN Fn Hn → Lk σ env1 σn envN → Ext (Cell σ env1) (Cell σn envN) F1 H1 Fn Hn → fl1 = .nx → D.nx σn Hn := fun {σn Fn Hn} Sn lk x ef => by
    subst ef
    refine q σn Fn Hn (unlock_ok Sn).1 (lkU lk) ?_
    exact (loop_end (P := fun _ => False) hu lk ((x1.trans x).mono (fun _ z => z) fun b z => z.elim (fun z => z) False.elim)).mono (fun _ z => z) fun b z => .inl z
  refine for_it wk (fun i σi Hi => ∃ (envi : Sl) (Fi : Hp), StOk R σi envi Fi Hi ∧ Lk σ env1 σi envi ∧ Ext (Cell σ env1) (Cell σi envi) F1 H1 Fi Hi ∧ loopF tg b (ds.drop i) envi = some (fl1, envN)) ?_ ?_ ?_ ?_
  · exact ⟨env1, F1, S1, Lk.refl, Ext.refl, e2⟩
  · rintro i σi Hi _ ⟨envi, Fi, Si, lki, xi, el⟩
    exact hG Fi Hi xi.sub Si.sub (still xi)
  · rintro i x σi Hi H' hi ⟨envi, Fi, Si, lki, xi, el⟩ y
    obtain ⟨d, hd, hdrop⟩ := drop_get hi
    rw [hdrop] at el
    simp only [loopF, Option.bind_eq_some_iff, Prod.exists] at el
    obtain ⟨enva, ea, flb, envb, eb, el⟩ := el
    obtain ⟨F3, s1, s2, s3, s4, rx⟩ := hY i d x Hi H' Fi xi.sub Si.sub (still xi) hd y
    obtain ⟨S3, x3⟩ := Si.grow s1 s2 s3 s4
    refine ⟨envi, F3, d, enva, S3, rx, ea, fun σ2 S4 c4 k4 => ?_⟩
    obtain ⟨kt, nt⟩ := bindT_kp ea
    have lk4 : Lk σ env1 σ2 enva := lki.trans ⟨kt, fun j k d' hd n => k4 j (nt j k d' hd n)⟩
    have x4 : Ext (Cell σ env1) (Cell σ2 enva) F1 H1 F3 H' := (xi.trans x3).mono (fun _ z => z) c4
    refine tS_then S4 eb lk4 x4 fun σ5 F5 H5 S5 lk5 => ?_
    cases flb with
    | nx => exact fun x5 => ⟨envb, F5, S5, lk5, x5, el⟩
    | ct => exact fun x5 => ⟨envb, F5, S5, lk5, x5, el⟩
    | bk =>
      simp only [Option.some.injEq, Prod.mk.injEq] at el
      obtain ⟨e5, rfl⟩ := el
      exact fun x5 => out S5 lk5 x5 e5.symm
    | ret rv =>
      simp only [Option.some.injEq, Prod.mk.injEq] at el
      obtain ⟨rfl, rfl⟩ := el
      intro v x5 r5
      refine q σ5 F5 H5 (unlock_ok S5).1 (lkU lk5) v (loop_end hu lk5 (x1.trans x5)) ?_
      cases rv with
      | sh d => exact r5
      | nw d =>
        obtain ⟨p, e, n, m, c⟩ := r5
        exact ⟨p, e, n, m, fun z => c ((unlock_ok S5).2 _ z)⟩
      | sl j => exact r5
  · rintro σn Hn ⟨envn, Fn, Sn, lkn, xn, el⟩
    rw [List.drop_length] at el
    simp only [loopF, Option.some.injEq, Prod.mk.injEq] at el
    obtain ⟨rfl, rfl⟩ := el
    exact out Sn lkn xn rfl
end RE
set_option Elab.async false
set_option linter.all false
set_option maxRecDepth 100000
/-! A compact expression and the text's. -/
namespace RE
open PySem PySem.Spec PyProof.Rows L2

structure Mc where
  sc : Scope
  fs : Scope
  N : List Str
  T : Tab
  nm : Nms
def visB (sc : Scope) (x : Str) : Bool := match sc.names.lookup x with
  | some .local => true
  | some .cell => true
  | some .free => true
  | _ => false
def glB (sc : Scope) (x : Str) : Bool := match sc.names.lookup x with
  | some .globalImplicit => true
  | _ => false
def cellB (sc : Scope) (x : Str) : Bool := match sc.names.lookup x with
  | some .cell => true
  | _ => false
def locB (c : Mc) (x : Str) : Bool := match c.sc.names.lookup x with
  | some .local => true
  | some .cell => cellB c.fs x
  | _ => false
def nmB (c : Mc) (i : Nat) (x : Str) : Bool := decide (c.N[i]? = some x) && visB c.sc x && !(x == ("__debug__" : Str)) && !(x == ("__classdict__" : Str))
def stB (c : Mc) (i : Nat) (x : Str) : Bool := decide (c.N[i]? = some x) && locB c x
def frB (c : Mc) (x : Str) : Bool := glB c.sc x && c.nm.free.contains x
def noSl : Expr → Bool
  | .Slice _ _ _ _ => false
  | _ => true
def noSet : Expr → Bool
  | .Set _ _ _ => false
  | _ => true
def nilE : Es → Bool
  | .nil => true
  | _ => false
mutual
def mTg (c : Mc) : Tg → Expr → Bool
  | .nm i, x => (match x with
    | .Name y _ => stB c i y
    | _ => false)
  | .tup ts, x => (match x with
    | .Tuple xs _ _ => mTgs c ts xs
    | _ => false)
def mTgs (c : Mc) : Tgs → List Expr → Bool
  | .nil, xs => (match xs with
    | [] => true
    | _ => false)
  | .cons t ts, xs => (match xs with
    | x :: xs => mTg c t x && mTgs c ts xs
    | _ => false)
end
def ownOf (c : Mc) (vs : List Nat) : List (Str × Nat) := vs.map fun i => (c.N.getD i Str.empty, i)
def Mc.blk (c : Mc) (scope : Scope) : Mc := { c with sc := relS scope c.sc, fs := scope }
def isTup : Expr → Bool
  | .Tuple _ _ _ => true
  | _ => false
mutual
def mE (c : Mc) : E → Expr → Bool
  | .int i, x => (match x with
    | .Constant (.int j) _ _ => decide (j = i)
    | _ => false)
  | .bl b, x => (match x with
    | .Constant (.bool j) _ _ => decide (j = b)
    | _ => false)
  | .non, x => (match x with
    | .Constant .none _ _ => true
    | _ => false)
  | .str s, x => (match x with
    | .Constant (.str j) _ _ => decide (j = s)
    | _ => false)
  | .nm i, x => (match x with
    | .Name y _ => nmB c i y
    | _ => false)
  | .gv k, x => (match x with
    | .Name y _ => decide (y = c.nm.glob k) && glB c.sc y && !(y == ("__debug__" : Str))
    | _ => false)
  | .tup es, x => (match x with
    | .Tuple xs _ _ => mEs c es xs
    | _ => false)
  | .lst es, x => (match x with
    | .List xs _ => mEs c es xs
    | _ => false)
  | .bin op a b, x => (match x with
    | .BinOp l o r _ => decide (o = op) && mE c a l && mE c b r
    | _ => false)
  | .neg a, x => (match x with
    | .UnaryOp .USub y _ => mE c a y
    | _ => false)
  | .nt a, x => (match x with
    | .UnaryOp .Not y _ => mE c a y
    | _ => false)
  | .and es, x => (match x with
    | .BoolOp .And xs _ => mEs c es xs && !nilE es
    | _ => false)
  | .or es, x => (match x with
    | .BoolOp .Or xs _ => mEs c es xs && !nilE es
    | _ => false)
  | .cmp op a b, x => (match x with
    | .Compare l [o] [r] _ => decide (o = op) && mE c a l && mE c b r && !behindInMarks o r
    | _ => false)
  | .ch2 op op' a b d, x => (match x with
    | .Compare l [o, o'] [r, s] _ => decide (o = op) && decide (o' = op') && mE c a l && mE c b r && mE c d s && !lastMarks [o, o'] [r, s]
    | _ => false)
  | .ife t a b, x => (match x with
    | .IfExp t' a' b' _ => mE c t t' && mE c a a' && mE c b b'
    | _ => false)
  | .ix a i, x => (match x with
    | .Subscript v s _ => mE c a v && mE c i s && noSl s
    | _ => false)
  | .slc a lo hi, x => (match x with
    | .Subscript v (.Slice l h none _) _ => mE c a v && mO c lo l && mO c hi h
    | _ => false)
  | .rev a, x => (match x with
    | .Subscript v (.Slice none none (some (.UnaryOp .USub (.Constant (.int j) _ _) _)) _) _ => decide (j = 1) && mE c a v
    | _ => false)
  | .trev a, x => (match x with
    | .Call (.Name y _) [.Call (.Name z _) [v] [] _] [] _ => decide (y = "tuple") && decide (z = "reversed") && frB c y && frB c z && noStar v && mE c a v
    | _ => false)
  | .stp a k, x => (match x with
    | .Subscript v (.Slice none none (some (.Constant (.int j) _ _)) _) _ => decide (j = k) && mE c a v
    | _ => false)
  | .call k es, x => (match x with
    | .Call (.Name y _) xs [] _ => decide (y = c.nm.fn k) && c.nm.gl k && (c.T.fns k).isSome && glB c.sc y && !(y == ("__debug__" : Str)) && xs.all noStar && mEs c es xs
    | _ => false)
  | .mk k es, x => (match x with
    | .Call (.Name y _) xs [] _ => (match c.T.cls k with
      | some cl => (c.T.fns cl.init).isSome
      | none => false) && decide (y = c.nm.cls k) && glB c.sc y && !(y == ("__debug__" : Str)) && xs.all noStar && mEs c es xs
    | _ => false)
  | .meth m o es, x => (match x with
    | .Call (.Attribute v a ap) xs [] pos => decide (a = m) && mE c o v && attrPlain v && xs.all noStar && decide (xs.length < 30) && (ap.endLine == pos.line) && mEs c es xs
    | _ => false)
  | .fld f o, x => (match x with
    | .Attribute v a _ => decide (a = f) && mE c o v && attrPlain v
    | _ => false)
  | .bi b es, x => (match x with
    | .Call (.Name y _) xs [] _ => decide (y = biName b) && frB c y && xs.all noStar && !nilE es && mEs c es xs
    | _ => false)
  | .isi a t, x => (match x with
    | .Call (.Name y _) [v, .Name z _] [] _ => decide (y = "isinstance") && frB c y && decide (z = tyName t) && frB c z && noStar v && mE c a v
    | _ => false)
  | .lc elt tg it cd, x => (match x with
    | .ListComp e [⟨t, i, ifs, 0⟩] scope _ => blkC c.N c.sc scope (ownOf c tg.slots) && noSet i && mI c it t i && mTg (c.blk scope) tg t && mE (c.blk scope) elt e && mC (c.blk scope) cd ifs
    | _ => false)
  | .lc2 elt tg it cd tg2 it2 cd2, x => (match x with
    | .ListComp e [⟨t, i, ifs, 0⟩, ⟨t2, i2, ifs2, 0⟩] scope _ => blkC c.N c.sc scope (ownOf c (tg.slots ++ tg2.slots)) && noSet i && noSet i2 && mI c it t i && mTg (c.blk scope) tg t && mE (c.blk scope) elt e && mC (c.blk scope) cd ifs
        && mI (c.blk scope) it2 t2 i2 && mTg (c.blk scope) tg2 t2 && mC (c.blk scope) cd2 ifs2
    | _ => false)
def mEs (c : Mc) : Es → List Expr → Bool
  | .nil, xs => (match xs with
    | [] => true
    | _ => false)
  | .cons e es, xs => (match xs with
    | x :: xs => noStar x && mE c e x && mEs c es xs
    | _ => false)
def mO (c : Mc) : EO → Option Expr → Bool
  | .no, x => (match x with
    | none => true
    | _ => false)
  | .so e, x => (match x with
    | some x => mE c e x
    | none => false)
def mC (c : Mc) : EO → List Expr → Bool
  | .no, x => (match x with
    | [] => true
    | _ => false)
  | .so e, x => (match x with
    | [x] => mE c e x
    | _ => false)
def mI (c : Mc) : I → Expr → Expr → Bool
  | .rg1 a, t, x => (match x with
    | .Call (.Name y _) [v] [] _ => decide (y = "range") && frB c y && noStar v && mE c a v
    | _ => false)
  | .rg2 a b, t, x => (match x with
    | .Call (.Name y _) [v, w] [] _ => decide (y = "range") && frB c y && noStar v && noStar w && mE c a v && mE c b w
    | _ => false)
  | .of a, t, x => mE c a x
  | .rv a, t, x => (match x with
    | .Call (.Name y _) [v] [] _ => decide (y = "reversed") && frB c y && noStar v && mE c a v
    | _ => false)
  | .zip a b, t, x => isTup t && (match x with
    | .Call (.Name y _) [v, w] [] _ => decide (y = "zip") && frB c y && noStar v && noStar w && mE c a v && mE c b w
    | _ => false)
  | .enm a, t, x => isTup t && (match x with
    | .Call (.Name y _) [v] [] _ => decide (y = "enumerate") && frB c y && noStar v && mE c a v
    | _ => false)
end

/-! ### a context of that kind -/
structure At (W : Wd) (n : Nat) (c : Mc) (X : Cx) : Prop where
  sc : X.env.scope = c.sc
  N : X.N = c.N
  nd : c.N.Nodup
  T : W.T = c.T
  nm : W.nm = c.nm
  fine : Fine W n X
  fn : ∀ x, cellB c.fs x = true → X.fn x = true
  all : ∀ k m j, methT c.T k m = some j → ∃ fn, c.T.fns j = some fn
section
variable {W : Wd} {n : Nat} {c : Mc} {X : Cx}
theorem At.blk (A : At W n c X) {scope : Scope} (s : Shared) (H : Hp) (C : Addr) (cl : List (Str × Addr)) (fp : List Addr) : At W n (c.blk scope) (X.blk s H scope (compEnvC scope cl C X.env) fp) where
  sc := by
    show relS scope X.env.scope = relS scope c.sc
    rw [A.sc]
  N := A.N
  nd := A.nd
  T := A.T
  nm := A.nm
  fine := ⟨A.fine.calm, rfl, A.fine.room, A.fine.fns, A.fine.mks, A.fine.cls, A.fine.meth, A.fine.flds, A.fine.glob, A.fine.free⟩
  fn := fun x h => by
    show (scope.names.lookup x == some .cell) = true
    have h : cellB scope x = true := h
    unfold cellB at h
    split at h
    · rename_i e; rw [e]; rfl
    · cases h
  all := A.all
theorem At.vis (A : At W n c X) {x : Str} (h : visB c.sc x = true) : Vis X.env.scope x := by
  rw [A.sc]
  unfold visB at h
  split at h
  · rename_i e; exact .inl e
  · rename_i e; exact .inr (.inl e)
  · rename_i e; exact .inr (.inr e)
  · cases h
theorem At.gl (A : At W n c X) {x : Str} (h : glB c.sc x = true) : Gl X x := by
  show X.env.scope.names.lookup x = _
  rw [A.sc]
  unfold glB at h
  split at h
  · assumption
  · cases h
theorem At.loc (A : At W n c X) {x : Str} (h : locB c x = true) : Loc X.env.scope x ∧ (X.fn x = true ∨ X.env.scope.names.lookup x = some .local) := by
  rw [A.sc]
  unfold locB at h
  split at h
  · rename_i e; exact ⟨.inl e, .inr e⟩
  · rename_i e; exact ⟨.inr e, .inl (A.fn x h)⟩
  · cases h
theorem At.fr (A : At W n c X) {x : Str} (h : frB c x = true) : Gl X x ∧ X.mg x = none := by
  unfold frB at h
  rw [Bool.and_eq_true] at h
  refine ⟨A.gl h.1, A.fine.free x ?_⟩
  rw [A.nm]
  simpa using h.2
theorem noSl_ix {b : Expr} (h : noSl b = true) : PlainIx b := by
  intro o i
  cases b <;> first | rfl | (simp [noSl] at h)
theorem noSet_it {e : Expr} (h : noSet e = true) (env : Env) (x : Value) : foldedSetIterable e env x = pure x := by
  cases e <;> first | rfl | (simp [noSet] at h)
theorem pt_ifR {t a b : Expr} {pos : Pos} {tc ta tb : TT} (hc : PT X t tc) (ha : PT X a ta) (hb : PT X b tb) : PT X (.IfExp t a b pos) (fun σ H Q => tc σ H fun d H1 => if d = true then ta σ H1 Q else tb σ H1 Q) := by
  refine ⟨fun pins s σ H Q I h => ?_⟩
  show wpAny _ _ (do if ← isTrue t X.env (eval t X.env) then isTrue a X.env (eval a X.env) else isTrue b X.env (eval b X.env)) _ _ _
  refine wpAny_bind (thn (hc.run pins s σ H _ I h) fun d s1 ⟨H1, I1, q1⟩ => ?_)
  cases d with
  | true => exact ha.run pins s1 σ H1 Q I1 q1
  | false => exact hb.run pins s1 σ H1 Q I1 q1
/-- values that are bools -/
theorem tTst_truB {R : Rc} {σ : L2.St} {H : Hp} {f : Fv} (hf : ∀ env rv env', f env = some (rv, env') → ∃ b, rv = .sh (.bl b)) {Q : Bool → Hp → Prop} (h : tTst R (tru f) σ H Q) : tTest (tV R f) σ H Q := by
  obtain ⟨env, F, b, env', S, e, q⟩ := h
  simp only [tru, Option.bind_eq_some_iff, Prod.exists, Option.some.injEq, Prod.mk.injEq] at e
  obtain ⟨rv, env1, e1, d, e2, b', e3, rfl, rfl⟩ := e
  refine ⟨env, F, rv, env1, S, e1, fun v F1 H1 S1 x1 r1 => ?_⟩
  obtain ⟨k, rfl⟩ := hf _ _ _ e1
  have e2 : some (D.bl k) = some d := e2
  have e2 := Option.some.inj e2
  subst e2
  have e3 : some k = some b' := e3
  have e3 := Option.some.inj e3
  subst e3
  have r1 : Rep R F1 (.bl k) v := r1
  simp only [Rep] at r1
  exact ⟨k, r1, q F1 H1 S1 (x1.mono (fun _ z => z) fun _ z => .inl z)⟩
theorem tTst_tT {R : Rc} {σ : L2.St} {H : Hp} {f : Fv} {t : TE} (hf : ∀ env rv env', f env = some (rv, env') → ∃ b, rv = .sh (.bl b)) (hv : ∀ Q, tV R f σ H Q → t σ H Q) {Q : Bool → Hp → Prop} (h : tTst R (tru f) σ H Q) : tTest t σ H Q :=
  hv _ (tTst_truB hf h)
theorem cmp_bl {op : CmpOp} {f g : Fv} (env : Sl) (rv : Rv) (env' : Sl) (e : vOp (cmpR op) f g env = some (rv, env')) : ∃ b, rv = .sh (.bl b) := by
  simp only [vOp, Option.bind_eq_some_iff, Prod.exists, Option.some.injEq, Prod.mk.injEq] at e
  obtain ⟨_, _, _, _, _, _, _, _, _, _, r, e, e2, _⟩ := e
  subst e2
  obtain ⟨k, _, e⟩ := Option.bind_eq_some_iff.mp e
  exact ⟨k, (Option.some.inj e).symm⟩
theorem ch2_bl {op op' : CmpOp} {f g h : Fv} (env : Sl) (rv : Rv) (env' : Sl) (e : vCh2 op op' f g h env = some (rv, env')) : ∃ b, rv = .sh (.bl b) := by
  simp only [vCh2, Option.bind_eq_some_iff, Prod.exists] at e
  obtain ⟨_, _, _, _, _, _, _, _, _, _, _, _, e⟩ := e
  split at e
  · simp only [Option.bind_eq_some_iff, Prod.exists, Option.some.injEq, Prod.mk.injEq] at e
    obtain ⟨a1, a2, a3, a4, a5, a6, a7, a8, a9, a10, a11⟩ := e
    exact ⟨a8, a10.symm⟩
  · simp only [Option.some.injEq, Prod.mk.injEq] at e
    exact ⟨false, e.1.symm⟩
theorem tV_not {R : Rc} {σ : L2.St} {H : Hp} {f : Fv} {Q : VK} (h : tV R (vUn notB f) σ H Q) : tNotV (tV R f) σ H Q := by
  obtain ⟨env, F, rv, env', S, e, q⟩ := h
  simp only [vUn, Option.bind_eq_some_iff, Prod.exists, Option.some.injEq, Prod.mk.injEq] at e
  obtain ⟨ra, env1, e1, x, e3, r, e5, rfl, rfl⟩ := e
  refine ⟨env, F, ra, env1, S, e1, fun v F1 H1 S1 x1 r1 => ?_⟩
  cases x <;> simp only [notB, Option.some.injEq] at e5 <;> try contradiction
  rename_i k
  subst e5
  have := rd_ok S1 r1 e3
  have rb : Rep R F1 (.bl k) v := this
  simp only [Rep] at rb
  exact ⟨k, rb, q _ F1 H1 S1 (x1.mono (fun _ z => z) fun b z => z.elim .inl fun z => z.elim) (by show Rep R F1 (.bl _) _; simp only [Rep])⟩

/-- an expression as a value and as a test -/
def Both (W : Wd) (n : Nat) (X : Cx) (x : Expr) (b : Vt) : Prop := PE X x (tV ⟨X.K, W.ca, X.w⟩ b.v) ∧ PT X x (tTst ⟨X.K, W.ca, X.w⟩ b.t)
theorem both_val {x : Expr} {f : Fv} (h : PE X x (tV ⟨X.K, W.ca, X.w⟩ f)) (he : ∀ whole, isTrue x X.env whole = (do let v ← whole; standAt x.pos; holding [v] (truthy v))) : Both W n X x (vt f) :=
  ⟨h, PT.of (pt_truth h he) fun σ H Q h => tTst_tru h⟩
theorem hu64 (A : At W n c X) : X.A.units + 64 < cLine := by
  have := A.fine.room.un
  omega
theorem hu65 (A : At W n c X) : X.A.units + 65 < cLine := by
  have := A.fine.room.un
  omega
theorem bi_call {b : Bi} {x : Str} {p pos : Pos} {y : Expr} {es : List Expr} {t : TA} (A : At W n c X) (hx : x = biName b) (hf : frB c x = true) (hs : (y :: es).all noStar = true) (ha : PA X (y :: es) t) : PE X (.Call (.Name x p) (y :: es) [] pos) (tCB (rBi ⟨X.K, W.ca, X.w⟩ b) t) := by
  obtain ⟨g, m⟩ := A.fr hf
  subst hx
  have hs' := hs
  rw [List.all_cons, Bool.and_eq_true] at hs'
  have R := bir_all (X := X) (ca := W.ca) A.fine.calm b
  have B := biBoot b
  have Nm := biNm b
  cases b <;> first
    | exact pe_callB R g m B ha Nm.1 Nm.2 (star_cons hs'.1) (star_all hs'.2)
    | exact pe_callTy R g m B ha Nm.1 Nm.2 (star_cons hs'.1) (star_all hs'.2)
theorem tV_isi {ca : Nat → Addr} {σ : L2.St} {H : Hp} {f : Fv} {t : Ty} {Q : VK} (h : tV ⟨X.K, ca, X.w⟩ (vUn (fun d => (isiD d t).bind fun b => some (.sh (.bl b))) f) σ H Q) : tCB (rIsi X.K) (tCons (tV ⟨X.K, ca, X.w⟩ f) (tCons (tC (.ty (tyStr t))) tNil)) σ H Q := by
  have h := tV_un h
  obtain ⟨env, F, rv, env', S, e, q⟩ := h
  refine ⟨env, F, rv, env', S, e, fun v F' H' S' x' r' => ?_⟩
  obtain ⟨F1, a, r, sub, ha, hr, q⟩ := q v F' H' S' x' r'
  obtain ⟨b, e1, e2⟩ := Option.bind_eq_some_iff.mp hr
  cases e2
  exact isi_run (X := X) sub ha e1 (q.scal (by simp only [Rep]) sub)
end
end RE
set_option Elab.async false
set_option linter.all false
set_option maxRecDepth 100000
/-! A compact expression that matches: its meaning is what the model does. -/
namespace RE
open PySem PySem.Spec PyProof.Rows L2
variable {W : Wd} {n : Nat} {c : Mc} {X : Cx}

theorem At.nodup (A : At W n c X) : X.N.Nodup := by rw [A.N]; exact A.nd
theorem At.ix (A : At W n c X) {i : Nat} {x : Str} (h : c.N[i]? = some x) : X.N[i]? = some x := by rw [A.N]; exact h
def tgsLen : Tgs → Nat
  | .nil => 0
  | .cons _ ts => tgsLen ts + 1
theorem bindTs_length : ∀ {ts : Tgs} {ds : List D} {env env' : Sl}, bindTs ts ds env = some env' → ds.length = tgsLen ts
  | .nil, [], _, _, _ => rfl
  | .nil, _ :: _, _, _, e => by simp only [bindTs] at e; cases e
  | .cons _ _, [], _, _, e => by simp only [bindTs] at e; cases e
  | .cons t ts, d :: ds, _, _, e => by
    simp only [bindTs, Option.bind_eq_some_iff] at e
    obtain ⟨_, _, e2⟩ := e
    rw [List.length_cons, tgsLen, bindTs_length e2]
def stars (env : Env) (xs : List Expr) : Prop := assignEach xs env = xs.map fun x => (false, assign x env)
theorem mTg_noStar {t : Tg} {x : Expr} (h : mTg c t x = true) : noStar x = true := by
  cases t <;> simp only [mTg] at h <;> split at h <;> first | rfl | cases h
theorem assign_cons {e : Expr} {es : List Expr} {env : Env} (h : noStar e = true) : assignEach (e :: es) env = (false, assign e env) :: assignEach es env := by
  cases e <;> first | rfl | (simp [noStar] at h)
mutual
theorem mTg_ok : ∀ (t : Tg) {c : Mc} {X : Cx} {x : Expr}, At W n c X → mTg c t x = true → PG X x (tG ⟨X.K, W.ca, X.w⟩ t)
  | .nm i, c, X, x, A, h => by
    simp only [mTg] at h
    split at h
    · simp only [stB, Bool.and_eq_true, decide_eq_true_eq] at h
      obtain ⟨l, f⟩ := A.loc h.2
      exact PG.of (pg_name A.nodup (A.ix h.1) l f) fun v σ H Q h => tG_name h
    · cases h
  | .tup ts, c, X, x, A, h => by
    simp only [mTg] at h
    split at h
    · rename_i xs k pos
      obtain ⟨g, hl, hs⟩ := mTgs_ok ts A h
      refine PG.of (pg_tup A.fine.calm g (n := xs.length) ?_ ?_) fun v σ H Q h => tG_tup (fun ds env env' e => by rw [bindTs_length e, hl]) h
      · rw [hs]; simp
      · rw [hs, List.findIdx?_eq_none_iff]
        intro y hy
        obtain ⟨z, _, rfl⟩ := List.mem_map.mp hy
        rfl
    · cases h
theorem mTgs_ok : ∀ (ts : Tgs) {c : Mc} {X : Cx} {xs : List Expr}, At W n c X → mTgs c ts xs = true → PGs X xs (tGs ⟨X.K, W.ca, X.w⟩ ts) ∧ xs.length = tgsLen ts ∧ stars X.env xs
  | .nil, c, X, xs, A, h => by
    simp only [mTgs] at h
    split at h
    · exact ⟨PGs.of pgs_nil fun v σ H Q h => tGs_nil h, rfl, rfl⟩
    · cases h
  | .cons t ts, c, X, xs, A, h => by
    simp only [mTgs] at h
    split at h
    · rename_i x xs
      rw [Bool.and_eq_true] at h
      have g1 := mTg_ok t A h.1
      obtain ⟨g2, hl, hs⟩ := mTgs_ok ts A h.2
      have hc := assign_cons (es := xs) (env := X.env) (mTg_noStar h.1)
      refine ⟨PGs.of (pgs_cons g1 g2 (by rw [hc]; rfl)) fun v σ H Q h => tGs_cons h, by rw [List.length_cons, tgsLen, hl], ?_⟩
      unfold stars at hs ⊢
      rw [hc, hs]
      rfl
    · cases h
end
theorem tTst_mono {R : Rc} {σ : L2.St} {H : Hp} {f : Sl → Option (Bool × Sl)} {Q Q' : Bool → Hp → Prop} (h : tTst R f σ H Q) (i : ∀ b H, Q b H → Q' b H) : tTst R f σ H Q' := by
  obtain ⟨env, F, b, env', S, e, q⟩ := h
  exact ⟨env, F, b, env', S, e, fun F1 H1 S1 x1 => i _ _ (q F1 H1 S1 x1)⟩
theorem tTst_c {R : Rc} {σ : L2.St} {H : Hp} {k : Bool} {Q : Bool → Hp → Prop} (h : tTst R (fun env => some (k, env)) σ H Q) : Q k H := by
  obtain ⟨env, F, b, env', S, e, q⟩ := h
  simp only [Option.some.injEq, Prod.mk.injEq] at e
  obtain ⟨rfl, rfl⟩ := e
  exact q F H S Ext.refl
theorem tTst_and1 {R : Rc} {σ : L2.St} {H : Hp} {f : Sl → Option (Bool × Sl)} {Q : Bool → Hp → Prop} (h : tTst R (tAnd2 f fun env => some (true, env)) σ H Q) : tTst R f σ H Q := by
  have h : tAnd (tTst R f) (tTst R fun env => some (true, env)) σ H Q := tTst_and h
  refine tTst_mono h fun b H q => ?_
  cases b with
  | true => exact tTst_c q
  | false => exact q
theorem tTst_or1 {R : Rc} {σ : L2.St} {H : Hp} {f : Sl → Option (Bool × Sl)} {Q : Bool → Hp → Prop} (h : tTst R (tOr2 f fun env => some (false, env)) σ H Q) : tTst R f σ H Q := by
  have h : tOr (tTst R f) (tTst R fun env => some (false, env)) σ H Q := tTst_or h
  refine tTst_mono h fun b H q => ?_
  cases b with
  | true => exact q
  | false => exact tTst_c q
theorem gs_calls : True := trivial
theorem own_snd (c : Mc) (vs : List Nat) : (ownOf c vs).map (·.2) = vs := by
  unfold ownOf
  rw [List.map_map]
  exact (List.map_congr_left (fun _ _ => rfl)).trans (List.map_id _)
theorem mEs_len : ∀ {es : Es} {xs : List Expr}, mEs c es xs = true → xs.all noStar = true ∧ (xs = [] → es = .nil)
  | .nil, xs, h => by
    simp only [mEs] at h
    split at h
    · exact ⟨rfl, fun _ => rfl⟩
    · cases h
  | .cons e es, xs, h => by
    simp only [mEs] at h
    split at h
    · rename_i x xs
      simp only [Bool.and_eq_true] at h
      exact ⟨by rw [List.all_cons, h.1.1, (mEs_len h.2).1]; rfl, fun z => nomatch z⟩
    · cases h
mutual
theorem mE_ok : ∀ (e : E) {c : Mc} {X : Cx} {x : Expr}, At W n c X → mE c e x = true → Both W n X x (evB (gs W.T n) e)
  | .int i, c, X, x, A, h => by
    simp only [mE] at h
    split at h
    · simp only [decide_eq_true_eq] at h
      subst h
      simp only [evB]
      exact both_val (PE.of pe_int fun σ H Q h => tV_const (fun F => by simp only [Rep]) h) fun _ => rfl
    · cases h
  | .bl i, c, X, x, A, h => by
    simp only [mE] at h
    split at h
    · simp only [decide_eq_true_eq] at h
      subst h
      simp only [evB]
      exact both_val (PE.of pe_bl fun σ H Q h => tV_const (fun F => by simp only [Rep]) h) fun _ => rfl
    · cases h
  | .non, c, X, x, A, h => by
    simp only [mE] at h
    split at h
    · simp only [evB]
      exact both_val (PE.of pe_non fun σ H Q h => tV_const (fun F => by simp only [Rep]) h) fun _ => rfl
    · cases h
  | .str i, c, X, x, A, h => by
    simp only [mE] at h
    split at h
    · simp only [decide_eq_true_eq] at h
      subst h
      simp only [evB]
      exact both_val (PE.of pe_str fun σ H Q h => tV_const (fun F => by simp only [Rep]) h) fun _ => rfl
    · cases h
  | .nm i, c, X, x, A, h => by
    simp only [mE] at h
    split at h
    · simp only [nmB, Bool.and_eq_true, decide_eq_true_eq, Bool.not_eq_true'] at h
      simp only [evB]
      exact both_val (PE.of (pe_var (A.ix h.1.1.1) (A.vis h.1.1.2) h.1.2 h.2) fun σ H Q h => tV_name h) fun _ => rfl
    · cases h
  | .gv k, c, X, x, A, h => by
    simp only [mE] at h
    split at h
    · simp only [Bool.and_eq_true, decide_eq_true_eq, Bool.not_eq_true'] at h
      simp only [evB]
      refine both_val ?_ fun _ => rfl
      rw [gs_glob]
      cases hk : W.T.glob k with
      | none => exact ⟨fun pins s σ H Q I h => by
          obtain ⟨env, F, rv, env', S, e, q⟩ := h
          cases e⟩
      | some d =>
        obtain ⟨u, v, h1, h2, h3⟩ := A.fine.glob k d hk
        have hx := h.1.1
        rw [← A.nm] at hx
        subst hx
        exact PE.of (pe_glob (A.gl h.1.2) h1 h2 h.2) fun σ H Q h => tV_const h3 h
    · cases h
  | .tup es, c, X, x, A, h => by
    simp only [mE] at h
    split at h
    · simp only [evB]
      exact both_val (PE.of (pe_tup (mEs_ok es A h)) fun σ H Q h => tV_tup h) fun _ => rfl
    · cases h
  | .lst es, c, X, x, A, h => by
    simp only [mE] at h
    split at h
    · simp only [evB]
      exact both_val (PE.of (pe_lst (mEs_ok es A h)) fun σ H Q h => tV_lst h) fun _ => rfl
    · cases h
  | .bin op a b, c, X, x, A, h => by
    simp only [mE] at h
    split at h
    · simp only [Bool.and_eq_true, decide_eq_true_eq] at h
      obtain ⟨⟨rfl, h1⟩, h2⟩ := h
      simp only [evB]
      exact both_val (PE.of (pe_op (opr_bin _) (mE_ok a A h1).1 (mE_ok b A h2).1) fun σ H Q h => tV_op h) fun _ => rfl
    · cases h
  | .neg a, c, X, x, A, h => by
    simp only [mE] at h
    split at h
    · simp only [evB]
      exact both_val (PE.of (pe_un unr_neg (mE_ok a A h).1) fun σ H Q h => tV_un h) fun _ => rfl
    · cases h
  | .nt a, c, X, x, A, h => by
    simp only [mE] at h
    split at h
    · simp only [evB]
      exact ⟨PE.of (pe_not (mE_ok a A h).1) fun σ H Q h => tV_not h, PT.of (pt_not (mE_ok a A h).2) fun σ H Q h => tTst_not h⟩
    · cases h
  | .and es, c, X, x, A, h => by
    simp only [mE] at h
    split at h
    · rename_i xs pos
      simp only [Bool.and_eq_true, Bool.not_eq_true'] at h
      simp only [evB]
      have := mAnd_ok es (pos := pos) A h.1 h.2
      exact ⟨this.1, this.2.pt⟩
    · cases h
  | .or es, c, X, x, A, h => by
    simp only [mE] at h
    split at h
    · rename_i xs pos
      simp only [Bool.and_eq_true, Bool.not_eq_true'] at h
      simp only [evB]
      have := mOr_ok es (pos := pos) A h.1 h.2
      exact ⟨this.1, this.2.pt⟩
    · cases h
  | .cmp op a b, c, X, x, A, h => by
    simp only [mE] at h
    split at h
    · simp only [Bool.and_eq_true, decide_eq_true_eq, Bool.not_eq_true'] at h
      obtain ⟨⟨⟨rfl, h1⟩, h2⟩, h3⟩ := h
      simp only [evB]
      have ha := (mE_ok a A h1).1
      have hb := (mE_ok b A h2).1
      exact ⟨PE.of (pe_cmpR (opr_cmp (hu65 A) _) ha hb h3) fun σ H Q h => tV_op h, PT.of (pt_cmpR (opr_cmp (hu65 A) _) ha hb h3) fun σ H Q h => tTst_tT cmp_bl (fun Q h => tV_op h) h⟩
    · cases h
  | .ch2 op op' a b d, c, X, x, A, h => by
    simp only [mE] at h
    split at h
    · simp only [Bool.and_eq_true, decide_eq_true_eq, Bool.not_eq_true'] at h
      obtain ⟨⟨⟨⟨⟨rfl, rfl⟩, h1⟩, h2⟩, h3⟩, h4⟩ := h
      simp only [evB]
      have ha := (mE_ok a A h1).1
      have hb := (mE_ok b A h2).1
      have hc := (mE_ok d A h3).1
      exact ⟨PE.of (pe_chain (opr_cmp (hu65 A) _) (opr_cmp (hu65 A) _) ha hb hc h4) fun σ H Q h => tV_ch2 h, PT.of (pt_chain (opr_cmp (hu65 A) _) (opr_cmp (hu65 A) _) ha hb hc h4) fun σ H Q h => tTst_tT ch2_bl (fun Q h => tV_ch2 h) h⟩
    · cases h
  | .ife t a b, c, X, x, A, h => by
    simp only [mE] at h
    split at h
    · simp only [Bool.and_eq_true] at h
      simp only [evB]
      have ht := mE_ok t A h.1.1
      have ha := mE_ok a A h.1.2
      have hb := mE_ok b A h.2
      exact ⟨PE.of (pe_ifExp ht.2 ha.1 hb.1) fun σ H Q h => tV_if h, PT.of (pt_ifR ht.2 ha.2 hb.2) fun σ H Q h => tTst_if h⟩
    · cases h
  | .ix a i, c, X, x, A, h => by
    simp only [mE] at h
    split at h
    · simp only [Bool.and_eq_true] at h
      simp only [evB]
      exact both_val (PE.of (pe_ix ixr_all (mE_ok a A h.1.1).1 (mE_ok i A h.1.2).1 (noSl_ix h.2)) fun σ H Q h => tV_op h) fun _ => rfl
    · cases h
  | .slc a lo hi, c, X, x, A, h => by
    simp only [mE] at h
    split at h
    · simp only [Bool.and_eq_true] at h
      simp only [evB]
      exact both_val (PE.of (pe_slice slr_all (mE_ok a A h.1.1).1 (mO_ok lo A h.1.2) (mO_ok hi A h.2)) fun σ H Q h => tV_slc h) fun _ => rfl
    · cases h
  | .rev a, c, X, x, A, h => by
    simp only [mE] at h
    split at h
    · simp only [Bool.and_eq_true, decide_eq_true_eq] at h
      obtain ⟨rfl, h1⟩ := h
      simp only [evB]
      exact both_val (PE.of (pe_rev (mE_ok a A h1).1) fun σ H Q h => tV_un h) fun _ => rfl
    · cases h
  | .trev a, c, X, x, A, h => by
    simp only [mE] at h
    split at h
    · simp only [Bool.and_eq_true, decide_eq_true_eq] at h
      obtain ⟨⟨⟨⟨⟨rfl, rfl⟩, h1⟩, h2⟩, h3⟩, h4⟩ := h
      obtain ⟨g1, m1⟩ := A.fr h1
      obtain ⟨g2, m2⟩ := A.fr h2
      simp only [evB]
      exact both_val (PE.of (RT.pe_tupRev A.fine.calm g1 m1 g2 m2 (mE_ok a A h4).1 (star_cons h3) (star_cons rfl)) fun σ H Q h => tV_trev h) fun _ => rfl
    · cases h
  | .stp a k, c, X, x, A, h => by
    simp only [mE] at h
    split at h
    · simp only [Bool.and_eq_true, decide_eq_true_eq] at h
      obtain ⟨rfl, h1⟩ := h
      simp only [evB]
      exact both_val (PE.of (pe_stp (mE_ok a A h1).1) fun σ H Q h => tV_un h) fun _ => rfl
    · cases h
  | .call k es, c, X, x, A, h => by
    simp only [mE] at h
    split at h
    · simp only [Bool.and_eq_true, decide_eq_true_eq, Bool.not_eq_true'] at h
      obtain ⟨⟨⟨⟨⟨⟨h1, h2⟩, h3⟩, h4⟩, h5⟩, h6⟩, h7⟩ := h
      simp only [evB]
      rw [← A.nm] at h1 h2
      rw [← A.T] at h3
      obtain ⟨fn, hf⟩ := Option.isSome_iff_exists.mp h3
      exact both_val (pe_callV A.fine hf h2 h1 (A.gl h4) h5 h6 (fun z => by rw [(mEs_len h7).2 z]; rfl) (mEs_ok es A h7)) fun _ => rfl
    · cases h
  | .mk k es, c, X, x, A, h => by
    simp only [mE] at h
    split at h
    · simp only [Bool.and_eq_true, decide_eq_true_eq, Bool.not_eq_true'] at h
      obtain ⟨⟨⟨⟨⟨h1, h2⟩, h4⟩, h5⟩, h6⟩, h7⟩ := h
      simp only [evB]
      rw [← A.nm] at h2
      rw [← A.T] at h1
      split at h1
      · rename_i cl hcl
        obtain ⟨fn, hf⟩ := Option.isSome_iff_exists.mp h1
        exact both_val (pe_mkV A.fine hcl hf h2 (A.gl h4) h5 h6 (fun z => by rw [(mEs_len h7).2 z]; rfl) (mEs_ok es A h7)) fun _ => rfl
      · cases h1
    · cases h
  | .meth m o es, c, X, x, A, h => by
    simp only [mE] at h
    split at h
    · simp only [Bool.and_eq_true, decide_eq_true_eq] at h
      obtain ⟨⟨⟨⟨⟨⟨rfl, h1⟩, h2⟩, h3⟩, h4⟩, h5⟩, h7⟩ := h
      simp only [evB]
      exact both_val (pe_methV A.fine (fun k j => by rw [A.T]; exact A.all k _ j) (mE_ok o A h1).1 h2 h3 h4 h5 (fun z => by rw [(mEs_len h7).2 z]; rfl) (mEs_ok es A h7)) fun _ => rfl
    · cases h
  | .fld f o, c, X, x, A, h => by
    simp only [mE] at h
    split at h
    · simp only [Bool.and_eq_true, decide_eq_true_eq] at h
      obtain ⟨⟨rfl, h1⟩, h2⟩ := h
      simp only [evB, gs_hasF]
      exact both_val (PE.of (pe_fldR A.fine.flds (mE_ok o A h1).1 (attr_plain h2)) fun σ H Q h => tV_un h) fun _ => rfl
    · cases h
  | .bi b es, c, X, x, A, h => by
    simp only [mE] at h
    split at h
    · rename_i y p xs pos
      simp only [Bool.and_eq_true, decide_eq_true_eq, Bool.not_eq_true'] at h
      obtain ⟨⟨⟨⟨h1, h2⟩, h3⟩, h4⟩, h5⟩ := h
      simp only [evB]
      cases xs with
      | nil => rw [(mEs_len h5).2 rfl] at h4; cases h4
      | cons y ys => exact both_val (PE.of (bi_call A h1 h2 h3 (mEs_ok es A h5)) fun σ H Q h => tV_bi h) fun _ => rfl
    · cases h
  | .isi a t, c, X, x, A, h => by
    simp only [mE] at h
    split at h
    · simp only [Bool.and_eq_true, decide_eq_true_eq] at h
      obtain ⟨⟨⟨⟨⟨h1, h2⟩, h3⟩, h4⟩, h5⟩, h6⟩ := h
      simp only [evB]
      obtain ⟨g, m⟩ := A.fr h2
      obtain ⟨g2, m2⟩ := A.fr h4
      subst h1
      subst h3
      refine both_val ?_ fun _ => rfl
      exact PE.of (pe_callB call_isi g m (by decide +kernel) (pa_cons (mE_ok a A h6).1 (pa_cons (pe_bltn g2 m2 (tyBoot t) (v := .ty (tyStr t)) rfl (tyNm t).1 (tyNm t).2) pa_nil) (star_cons h5)) (by decide) (by decide) (star_cons h5)) fun σ H Q h => tV_isi h
    · cases h
  | .lc elt tg it cd, c, X, x, A, h => by
    simp only [mE] at h
    split at h
    · simp only [Bool.and_eq_true] at h
      obtain ⟨⟨⟨⟨⟨h1, h2⟩, h3⟩, h4⟩, h5⟩, h6⟩ := h
      simp only [evB]
      refine both_val ?_ fun _ => rfl
      rename_i pos
      have ok := blkOk_by h1
      rw [← A.sc, ← A.N] at ok
      have := pe_lc (pos := pos) (g := tG ⟨X.K, W.ca, X.w⟩ tg) (tt := tTst ⟨X.K, W.ca, X.w⟩ (evC (gs W.T n) cd)) (te := tV ⟨X.K, W.ca, X.w⟩ (evB (gs W.T n) elt).v) A.fine.calm A.nodup (mI_ok it A h3) ok (fun s H C cl fp => mTg_ok tg (A.blk s H C cl fp) h4) (fun s H C cl fp => mC_ok cd (A.blk s H C cl fp) h6) (fun s H C cl fp => (mE_ok elt (A.blk s H C cl fp) h5).1) (noSet_it h2 X.env)
      rw [own_snd] at this
      exact PE.of this fun σ H Q h => tV_lc h
    · cases h
  | .lc2 elt tg it cd tg2 it2 cd2, c, X, x, A, h => by
    simp only [mE] at h
    split at h
    · simp only [Bool.and_eq_true] at h
      obtain ⟨⟨⟨⟨⟨⟨⟨⟨⟨h1, h2⟩, h22⟩, h3⟩, h4⟩, h5⟩, h6⟩, h7⟩, h8⟩, h9⟩ := h
      simp only [evB]
      refine both_val ?_ fun _ => rfl
      rename_i pos
      have ok := blkOk_by h1
      rw [← A.sc, ← A.N] at ok
      have := pe_lc2 (pos := pos) (vs1 := tg2.slots) (g := tG ⟨X.K, W.ca, X.w⟩ tg) (tt := tTst ⟨X.K, W.ca, X.w⟩ (evC (gs W.T n) cd)) (wi1 := tItm ⟨X.K, W.ca, X.w⟩ (evI (gs W.T n) it2)) (g1 := tG ⟨X.K, W.ca, X.w⟩ tg2) (tt1 := tTst ⟨X.K, W.ca, X.w⟩ (evC (gs W.T n) cd2)) (te := tV ⟨X.K, W.ca, X.w⟩ (evB (gs W.T n) elt).v) A.fine.calm A.nodup (mI_ok it A h3) ok (fun i hi => by rw [own_snd]; exact List.mem_append_right _ hi) (fun s H C cl fp => mTg_ok tg (A.blk s H C cl fp) h4) (fun s H C cl fp => mC_ok cd (A.blk s H C cl fp) h6)
        (fun s H C cl fp => mI_ok it2 (A.blk s H C cl fp) h7) (fun s H C cl fp => mTg_ok tg2 (A.blk s H C cl fp) h8) (fun s H C cl fp => mC_ok cd2 (A.blk s H C cl fp) h9) (fun s H C cl fp => (mE_ok elt (A.blk s H C cl fp) h5).1) (noSet_it h2 X.env) (fun env => noSet_it h22 env)
      rw [own_snd] at this
      exact PE.of this fun σ H Q h => tV_lc2 h
    · cases h
theorem mEs_ok : ∀ (es : Es) {c : Mc} {X : Cx} {xs : List Expr}, At W n c X → mEs c es xs = true → PA X xs (tVs ⟨X.K, W.ca, X.w⟩ (evEs (gs W.T n) es))
  | .nil, c, X, xs, A, h => by
    simp only [mEs] at h
    split at h
    · exact PA.of pa_nil fun σ H Q h => tVs_nil h
    · cases h
  | .cons e es, c, X, xs, A, h => by
    simp only [mEs] at h
    split at h
    · simp only [Bool.and_eq_true] at h
      refine PA.of (pa_cons (mE_ok e A h.1.2).1 (mEs_ok es A h.2) (star_cons h.1.1)) fun σ H Q h => tVs_cons ?_
      simp only [evEs] at h
      exact h
    · cases h
theorem mO_ok : ∀ (o : EO) {c : Mc} {X : Cx} {x : Option Expr}, At W n c X → mO c o x = true → PO X x (tOp' ⟨X.K, W.ca, X.w⟩ (evO (gs W.T n) o))
  | .no, c, X, x, A, h => by
    simp only [mO] at h
    split at h
    · exact PO.of po_none fun σ H Q h => tO_no h
    · cases h
  | .so e, c, X, x, A, h => by
    simp only [mO] at h
    split at h
    · exact PO.of (po_some (mE_ok e A h).1) fun σ H Q h => tO_so h
    · cases h
theorem mC_ok : ∀ (o : EO) {c : Mc} {X : Cx} {xs : List Expr}, At W n c X → mC c o xs = true → PTs X xs (tTst ⟨X.K, W.ca, X.w⟩ (evC (gs W.T n) o))
  | .no, c, X, x, A, h => by
    simp only [mC] at h
    split at h
    · refine ⟨fun pins s σ H Q I h => pts_nil.run pins s σ H Q I ?_⟩
      obtain ⟨env, F, b, env', S, e, q⟩ := h
      simp only [evC, Option.some.injEq, Prod.mk.injEq] at e
      obtain ⟨rfl, rfl⟩ := e
      exact q F H S Ext.refl
    · cases h
  | .so e, c, X, x, A, h => by
    simp only [mC] at h
    split at h
    · have := pts_one (mE_ok e A h).2
      simp only [evC]
      exact this
    · cases h
theorem mAnd_ok : ∀ (es : Es) {c : Mc} {X : Cx} {xs : List Expr} {pos : Pos}, At W n c X → mEs c es xs = true → nilE es = false → PE X (.BoolOp .And xs pos) (tV ⟨X.K, W.ca, X.w⟩ (evAnd (gs W.T n) es)) ∧ PW X (.BoolOp .And xs pos) (tTst ⟨X.K, W.ca, X.w⟩ (evTAnd (gs W.T n) es))
  | .nil, c, X, xs, pos, A, h, hn => nomatch hn
  | .cons e .nil, c, X, xs, pos, A, h, hn => by
    simp only [mEs] at h
    split at h
    · rename_i x xs
      simp only [Bool.and_eq_true] at h
      have hx : xs = [] := by
        have h2 := h.2
        split at h2
        · rfl
        · cases h2
      subst hx
      have b := mE_ok e A h.1.2
      simp only [evAnd, evTAnd]
      exact ⟨pe_one b.1, ⟨fun wh pins s σ H Q I h => (pw_and1 b.2).run wh pins s σ H Q I (tTst_and1 h)⟩⟩
    · cases h
  | .cons e (.cons e2 es), c, X, xs, pos, A, h, hn => by
    have h' := h
    simp only [mEs] at h
    split at h
    · rename_i x xs
      simp only [Bool.and_eq_true] at h
      split at h
      · rename_i x2 xs
        simp only [Bool.and_eq_true] at h
        have b := mE_ok e A h.1.2
        have r := mAnd_ok (.cons e2 es) (xs := x2 :: xs) (pos := pos) A (by simp only [mEs, Bool.and_eq_true]; exact h.2) rfl
        exact ⟨PE.of (pe_and b.1 r.1) fun σ H Q h => tV_and (by simp only [evAnd] at h; exact h), ⟨fun wh pins s σ H Q I h => (pw_and b.2 r.2).run wh pins s σ H Q I (tTst_and (by simp only [evTAnd] at h ⊢; exact h))⟩⟩
      · cases h.2
    · cases h
theorem mOr_ok : ∀ (es : Es) {c : Mc} {X : Cx} {xs : List Expr} {pos : Pos}, At W n c X → mEs c es xs = true → nilE es = false → PE X (.BoolOp .Or xs pos) (tV ⟨X.K, W.ca, X.w⟩ (evOr (gs W.T n) es)) ∧ PW X (.BoolOp .Or xs pos) (tTst ⟨X.K, W.ca, X.w⟩ (evTOr (gs W.T n) es))
  | .nil, c, X, xs, pos, A, h, hn => nomatch hn
  | .cons e .nil, c, X, xs, pos, A, h, hn => by
    simp only [mEs] at h
    split at h
    · rename_i x xs
      simp only [Bool.and_eq_true] at h
      have hx : xs = [] := by
        have h2 := h.2
        split at h2
        · rfl
        · cases h2
      subst hx
      have b := mE_ok e A h.1.2
      simp only [evOr, evTOr]
      exact ⟨pe_one b.1, ⟨fun wh pins s σ H Q I h => (pw_or1 b.2).run wh pins s σ H Q I (tTst_or1 h)⟩⟩
    · cases h
  | .cons e (.cons e2 es), c, X, xs, pos, A, h, hn => by
    have h' := h
    simp only [mEs] at h
    split at h
    · rename_i x xs
      simp only [Bool.and_eq_true] at h
      split at h
      · rename_i x2 xs
        simp only [Bool.and_eq_true] at h
        have b := mE_ok e A h.1.2
        have r := mOr_ok (.cons e2 es) (xs := x2 :: xs) (pos := pos) A (by simp only [mEs, Bool.and_eq_true]; exact h.2) rfl
        exact ⟨PE.of (pe_or b.1 r.1) fun σ H Q h => tV_or (by simp only [evOr] at h; exact h), ⟨fun wh pins s σ H Q I h => (pw_or b.2 r.2).run wh pins s σ H Q I (tTst_or (by simp only [evTOr] at h ⊢; exact h))⟩⟩
      · cases h.2
    · cases h
theorem mI_ok : ∀ (i : I) {c : Mc} {X : Cx} {t x : Expr}, At W n c X → mI c i t x = true → PI X t x (tItm ⟨X.K, W.ca, X.w⟩ (evI (gs W.T n) i))
  | .rg1 a, c, X, t, x, A, h => by
    simp only [mI] at h
    split at h
    · simp only [Bool.and_eq_true, decide_eq_true_eq] at h
      obtain ⟨⟨⟨rfl, h2⟩, h3⟩, h4⟩ := h
      obtain ⟨g, m⟩ := A.fr h2
      simp only [evI]
      exact pi_rg1 g m (mE_ok a A h4).1 h3
    · cases h
  | .rg2 a b, c, X, t, x, A, h => by
    simp only [mI] at h
    split at h
    · simp only [Bool.and_eq_true, decide_eq_true_eq] at h
      obtain ⟨⟨⟨⟨⟨rfl, h2⟩, h3⟩, h4⟩, h5⟩, h6⟩ := h
      obtain ⟨g, m⟩ := A.fr h2
      simp only [evI]
      exact pi_rg2 g m (mE_ok a A h5).1 (mE_ok b A h6).1 h3 h4
    · cases h
  | .of a, c, X, t, x, A, h => by
    simp only [mI] at h
    simp only [evI]
    exact pi_of (mE_ok a A h).1
  | .rv a, c, X, t, x, A, h => by
    simp only [mI] at h
    split at h
    · simp only [Bool.and_eq_true, decide_eq_true_eq] at h
      obtain ⟨⟨⟨rfl, h2⟩, h3⟩, h4⟩ := h
      obtain ⟨g, m⟩ := A.fr h2
      simp only [evI]
      exact pi_rv g m h3 (mE_ok a A h4).1
    · cases h
  | .zip a b, c, X, t, x, A, h => by
    simp only [mI, Bool.and_eq_true] at h
    obtain ⟨ht, h⟩ := h
    cases t <;> simp only [isTup] at ht <;> try contradiction
    split at h
    · simp only [Bool.and_eq_true, decide_eq_true_eq] at h
      obtain ⟨⟨⟨⟨⟨rfl, h2⟩, h3⟩, h4⟩, h5⟩, h6⟩ := h
      obtain ⟨g, m⟩ := A.fr h2
      simp only [evI]
      exact pi_zipV g m (mE_ok a A h5).1 (mE_ok b A h6).1 h3 h4
    · cases h
  | .enm a, c, X, t, x, A, h => by
    simp only [mI, Bool.and_eq_true] at h
    obtain ⟨ht, h⟩ := h
    cases t <;> simp only [isTup] at ht <;> try contradiction
    split at h
    · simp only [Bool.and_eq_true, decide_eq_true_eq] at h
      obtain ⟨⟨⟨rfl, h2⟩, h3⟩, h4⟩ := h
      obtain ⟨g, m⟩ := A.fr h2
      simp only [evI]
      exact pi_enmV g m (mE_ok a A h4).1 h3
    · cases h
end
end RE
set_option Elab.async false
set_option linter.all false
set_option maxRecDepth 100000
/-! Statements that match. -/
namespace RE
open PySem PySem.Spec PyProof.Rows L2
variable {W : Wd} {n : Nat} {c : Mc} {X : Cx}

def noComp : Expr → Bool
  | .ListComp _ _ _ _ => false
  | .SetComp _ _ _ _ => false
  | .DictComp _ _ _ _ _ => false
  | _ => true
/-- name = [..]: its list is laid by the store itself -/
def swT (c : Mc) (y : Str) (py : Pos) : Expr → Bool
  | .ListComp _ _ scope vp => (match c.sc.names.lookup y with
    | some .local => true
    | _ => false) && (py.line == vp.line) && !(scope.names.any fun (n, k) => n == y && (k == .local || k == .cell))
  | _ => false
def isLc : E → Bool
  | .lc _ _ _ _ => true
  | .lc2 _ _ _ _ _ _ _ => true
  | _ => false
def isTupE : Expr → Bool
  | .Tuple _ _ _ => true
  | _ => false
/-- the names of a, b = x, y: plain locals on one line -/
def parN (c : Mc) (line : Nat) : List Nat → List Expr → Bool
  | [], [] => true
  | i :: is, .Name y p :: xs => decide (c.N[i]? = some y) && (match c.sc.names.lookup y with
    | some .local => true
    | _ => false) && (p.line == line) && parN c line is xs
  | _, _ => false
def headLine : List Expr → Nat
  | .Name _ p :: _ => p.line
  | _ => 0
def offB (c : Mc) (xs : List Expr) : Bool := xs.any fun x => match x with
  | .Name y _ => (match c.sc.names.lookup y with
    | some .local => false
    | _ => true)
  | _ => true
def unfold2 (xs : List Expr) : Bool := !(xs.all (foldedForSure 8)) && !(xs.all (constantsAlone 8))
def dist : List Nat → Bool
  | [] => true
  | i :: is => !is.contains i && dist is
def parG (c : Mc) : List Nat → List Expr → Bool
  | [], [] => true
  | i :: is, x :: xs => (match x with
    | .Name y _ => stB c i y
    | _ => false) && parG c is xs
  | _, _ => false
mutual
def mS (c : Mc) : S → Stmt → Bool
  | .asg i e, x => (match x with
    | .Assign [.Name y py] v _ => stB c i y && mE c e v
    | _ => false)
  | .unp ts e, x => (match x with
    | .Assign [.Tuple xs _ _] v _ => mTgs c ts xs && mE c e v && noComp v && (!isTupE v || (match v with
      | .Tuple vs _ _ => vs.all (foldedForSure 8) || offB c xs || (decide (xs.length ≠ 2) && decide (xs.length ≠ 3))
      | _ => false) && (match e with
      | .tup _ => true
      | _ => false))
    | _ => false)
  | .par is es, x => (match x with
    | .Assign [.Tuple xs _ _] (.Tuple vs _ _) _ => (parN c (headLine xs) is xs && mEs c es vs && unfold2 vs && dist is && decide (is.length = vs.length) && (decide (is.length = 2) || decide (is.length = 3))) || (parG c is xs && mEs c es vs && (offB c xs || (decide (xs.length ≠ 2) && decide (xs.length ≠ 3))) && decide (is.length ≤ 1000))
    | _ => false)
  | .setix i k e, x => (match x with
    | .Assign [.Subscript (.Name y _) s _] v _ => nmB c i y && mE c k s && noSl s && mE c e v && noComp v
    | _ => false)
  | .setfld i f e, x => (match x with
    | .Assign [.Attribute (.Name y _) a _] v _ => nmB c i y && decide (a = f) && mE c e v && noComp v
    | _ => false)
  | .app i e, x => (match x with
    | .Expr (.Call (.Attribute (.Name y _) a ap) [v] [] cp) _ => nmB c i y && decide (a = "append") && noStar v && mE c e v && (ap.endLine == cp.line)
    | _ => false)
  | .ext i e, x => (match x with
    | .Expr (.Call (.Attribute (.Name y _) a ap) [v] [] cp) _ => nmB c i y && decide (a = "extend") && noStar v && mE c e v && (ap.endLine == cp.line)
    | _ => false)
  | .expr e, x => (match x with
    | .Expr v _ => mE c e v && noComp v
    | _ => false)
  | .ret e, x => (match x with
    | .Return (some v) _ => mE c e v
    | _ => false)
  | .retN, x => (match x with
    | .Return none _ => true
    | _ => false)
  | .ifs t a b, x => (match x with
    | .If t' a' b' _ => mE c t t' && mSs c a a' && mSs c b b'
    | _ => false)
  | .whl t b, x => (match x with
    | .While t' b' [] _ => mE c t t' && mSs c b b'
    | _ => false)
  | .for tg it b, x => (match x with
    | .For t i b' [] _ => mTg c tg t && mI c it t i && noSet i && mSs c b b'
    | _ => false)
  | .brk, x => (match x with
    | .Break _ => true
    | _ => false)
  | .cont, x => (match x with
    | .Continue _ => true
    | _ => false)
  | .dead, _ => true
def mSs (c : Mc) : Ss → List Stmt → Bool
  | .nil, xs => (match xs with
    | [] => true
    | _ => false)
  | .cons s ss, xs => (match xs with
    | x :: xs => mS c s x && mSs c ss xs
    | _ => false)
end
theorem At.kind (A : At W n c X) (h : c.sc.kind = .function) : X.env.scope.kind = .function := by rw [A.sc]; exact h
theorem sw_no {v : Expr} {t : Option Expr} {l : Nat} {env : Env} (h : noComp v = true) : swapsWith v t l env = pure false := by
  cases v <;> first | rfl | (simp [noComp] at h)
theorem sw_lc {elt : Expr} {gs : List Comprehension} {scope : Scope} {vp py : Pos} {y : Str} {l : Nat} (A : At W n c X) (hk : c.sc.kind = .function) : swapsWith (.ListComp elt gs scope vp) (some (.Name y py)) l X.env = pure (swT c y py (.ListComp elt gs scope vp)) := by
  have hb : X.env.blockKind = .function := by unfold Env.blockKind; rw [A.kind hk]; rfl
  unfold swapsWith
  simp only [hb, Expr.pos]
  show (pure _ : Sem Bool) = pure _
  congr 1
  unfold swT Env.kindOf
  rw [A.sc]
  have e1 : (ScopeKind.function == ScopeKind.function) = true := rfl
  have e2 : (c.sc.names.lookup y == some NameKind.local) = (match c.sc.names.lookup y with
    | some .local => true
    | _ => false) := by
    cases c.sc.names.lookup y with
    | none => rfl
    | some k => cases k <;> rfl
  rw [e1, e2]
  simp
theorem par_local {k : Str} (h : (match c.sc.names.lookup k with
    | some .local => true
    | _ => false) = true) : c.sc.names.lookup k = some .local := by
  split at h
  · assumption
  · cases h

theorem mE_noComp {e : E} {v : Expr} (h : mE c e v = true) (hl : isLc e = false) : noComp v = true := by
  cases e <;> simp only [isLc] at hl <;> try contradiction
  all_goals (simp only [mE] at h; split at h <;> first | rfl | cases h)
theorem sw_one {xs : List Expr} {k : Nat} {p : Pos} {v : Expr} {l : Nat} {env : Env} (h : noComp v = true) : swapsWithSole [.Tuple xs k p] v l env = pure false := by
  unfold swapsWithSole
  exact sw_no h
theorem sw_oneT {t v : Expr} {l : Nat} {env : Env} (h : noComp v = true) : swapsWithSole [t] v l env = pure false := by
  unfold swapsWithSole
  exact sw_no h
theorem ss_none {xs : List Expr} {k : Nat} {p : Pos} {v : Expr} {env : Env} (h : isTupE v = false) : swappedStores [.Tuple xs k p] v env = pure none := by
  cases v <;> first | rfl | (simp [isTupE] at h)
theorem ss_fold {xs vs : List Expr} {k k2 : Nat} {p p2 : Pos} {env : Env} (h : vs.all (foldedForSure 8) = true) : swappedStores [.Tuple xs k p] (.Tuple vs k2 p2) env = pure none := by
  unfold swappedStores
  simp only [h]
  split
  · rfl
  · split
    · rfl
    · split <;> rfl
theorem fm_le {α β : Type} {f : α → Option β} : ∀ (l : List α), (l.filterMap f).length ≤ l.length
  | [] => Nat.le_refl _
  | a :: l => by
    rw [List.filterMap_cons]
    have := fm_le (f := f) l
    split <;> simp only [List.length_cons] <;> omega
theorem fm_lt {α β : Type} {f : α → Option β} : ∀ {l : List α}, (∃ x ∈ l, f x = none) → (l.filterMap f).length < l.length
  | [], ⟨_, h, _⟩ => nomatch h
  | a :: l, ⟨x, h, e⟩ => by
    rw [List.filterMap_cons]
    rcases List.mem_cons.mp h with z | z
    · subst z
      rw [e]
      have := fm_le (f := f) l
      simp only [List.length_cons]
      omega
    · have := fm_lt (f := f) ⟨x, z, e⟩
      split <;> simp only [List.length_cons] <;> omega
theorem ss_off (A : At W n c X) {xs vs : List Expr} {k k2 : Nat} {p p2 : Pos} (h : offB c xs = true) : swappedStores [.Tuple xs k p] (.Tuple vs k2 p2) X.env = pure none := by
  unfold swappedStores
  simp only []
  split
  · rfl
  · split
    · rfl
    · split
      · rfl
      · rename_i hn
        exfalso
        simp only [Bool.or_eq_true, bne_iff_ne, ne_eq, not_or, Decidable.not_not] at hn
        refine Nat.ne_of_lt (fm_lt ?_) hn.1
        unfold offB at h
        obtain ⟨x, hx, hb⟩ := List.any_eq_true.mp h
        refine ⟨x, hx, ?_⟩
        cases x <;> try rfl
        rename_i y py
        have : X.env.kindOf y ≠ some .local := by
          unfold Env.kindOf
          rw [A.sc]
          intro e
          simp only [e] at hb
          cases hb
        show (if (X.env.kindOf y == some NameKind.local && _) = true then some y else none) = none
        have e2 : (X.env.kindOf y == some NameKind.local) = false := by
          rw [beq_eq_false_iff_ne]; exact this
        rw [e2]
        rfl
theorem ss_many {env : Env} {xs vs : List Expr} {k k2 : Nat} {p p2 : Pos} (h : (decide (xs.length ≠ 2) && decide (xs.length ≠ 3)) = true) : swappedStores [.Tuple xs k p] (.Tuple vs k2 p2) env = pure none := by
  simp only [Bool.and_eq_true, decide_eq_true_eq] at h
  unfold swappedStores
  simp only []
  rw [if_pos (by simp [h.1, h.2])]
theorem noStar_any {f : Expr → Bool} (hf : ∀ v, noStar v = true → f v = false) : ∀ {vs : List Expr}, vs.all noStar = true → vs.any f = false
  | [], _ => rfl
  | v :: vs, h => by
    rw [List.all_cons, Bool.and_eq_true] at h
    rw [List.any_cons, noStar_any hf h.2, Bool.or_false]
    exact hf v h.1
theorem parN_cons {line i : Nat} {is : List Nat} {xs : List Expr} (h : parN c line (i :: is) xs = true) : ∃ y p ys, xs = .Name y p :: ys ∧ c.N[i]? = some y ∧ c.sc.names.lookup y = some .local ∧ (p.line == line) = true ∧ parN c line is ys = true := by
  cases xs with
  | nil => simp [parN] at h
  | cons x xs =>
    cases x <;> simp only [parN] at h <;> try contradiction
    simp only [Bool.and_eq_true, decide_eq_true_eq] at h
    exact ⟨_, _, _, rfl, h.1.1.1, par_local h.1.1.2, h.1.2, h.2⟩
theorem parN_nil {line : Nat} {xs : List Expr} (h : parN c line [] xs = true) : xs = [] := by
  cases xs with
  | nil => rfl
  | cons x xs => simp [parN] at h
theorem nm_inj (A : At W n c X) {i j : Nat} {x y : Str} (hi : c.N[i]? = some x) (hj : c.N[j]? = some y) (h : i ≠ j) : x ≠ y := by
  intro e
  subst e
  have hi' : i < c.N.length := by
    by_cases z : i < c.N.length
    · exact z
    · rw [List.getElem?_eq_none (by simpa using z)] at hi; cases hi
  exact h ((List.getElem?_inj hi' A.nd).mp (by rw [hi, hj]))
theorem ss_two (A : At W n c X) (hk : c.sc.kind = .function) {x y : Str} {px py pt pt2 : Pos} {kt k2 : Nat} {a b : Expr} (hx : c.sc.names.lookup x = some .local) (hy : c.sc.names.lookup y = some .local) (hl : (py.line == px.line) = true) (hne : x ≠ y)
    (hs : [a, b].all noStar = true) (hu : unfold2 [a, b] = true) : swappedStores [.Tuple [.Name x px, .Name y py] kt pt] (.Tuple [a, b] k2 pt2) X.env = pure (some [x, y]) := by
  have hb : X.env.blockKind = .function := by unfold Env.blockKind; rw [A.kind hk]; rfl
  have kx : X.env.kindOf x = some .local := by unfold Env.kindOf; rw [A.sc]; exact hx
  have ky : X.env.kindOf y = some .local := by unfold Env.kindOf; rw [A.sc]; exact hy
  simp only [unfold2, Bool.and_eq_true, Bool.not_eq_true'] at hu
  have hd : [x, y].eraseDups = [x, y] := by
    have : (y == x) = false := by
      rw [beq_eq_false_iff_ne]; exact Ne.symm hne
    simp [List.eraseDups_cons, this]
  have hl' : py.line = px.line := by simpa using hl
  unfold swappedStores
  simp only []
  rw [noStar_any (fun v h => by cases v <;> first | rfl | (simp [noStar] at h)) hs]
  simp only [hb, hu.1, hu.2, List.length_cons, List.length_nil, List.head?_cons, Option.map_some, Option.getD_some, Expr.pos]
  simp [List.filterMap, kx, ky, hl', hd]
theorem ss_three (A : At W n c X) (hk : c.sc.kind = .function) {x y z : Str} {px py pz pt pt2 : Pos} {kt k2 : Nat} {a b d : Expr} (hx : c.sc.names.lookup x = some .local) (hy : c.sc.names.lookup y = some .local) (hz : c.sc.names.lookup z = some .local) (hl : (py.line == px.line) = true) (hl2 : (pz.line == px.line) = true) (hne : x ≠ y) (hne2 : x ≠ z) (hne3 : y ≠ z)
    (hs : [a, b, d].all noStar = true) (hu : unfold2 [a, b, d] = true) : swappedStores [.Tuple [.Name x px, .Name y py, .Name z pz] kt pt] (.Tuple [a, b, d] k2 pt2) X.env = pure (some [x, y, z]) := by
  have hb : X.env.blockKind = .function := by unfold Env.blockKind; rw [A.kind hk]; rfl
  have kx : X.env.kindOf x = some .local := by unfold Env.kindOf; rw [A.sc]; exact hx
  have ky : X.env.kindOf y = some .local := by unfold Env.kindOf; rw [A.sc]; exact hy
  have kz : X.env.kindOf z = some .local := by unfold Env.kindOf; rw [A.sc]; exact hz
  simp only [unfold2, Bool.and_eq_true, Bool.not_eq_true'] at hu
  have hd : [x, y, z].eraseDups = [x, y, z] := by
    have h1 : (y == x) = false := by rw [beq_eq_false_iff_ne]; exact Ne.symm hne
    have h2 : (z == x) = false := by rw [beq_eq_false_iff_ne]; exact Ne.symm hne2
    have h3 : (z == y) = false := by rw [beq_eq_false_iff_ne]; exact Ne.symm hne3
    simp [List.eraseDups_cons, h1, h2, h3]
  have hl' : py.line = px.line := by simpa using hl
  have hl2' : pz.line = px.line := by simpa using hl2
  unfold swappedStores
  simp only []
  rw [noStar_any (fun v h => by cases v <;> first | rfl | (simp [noStar] at h)) hs]
  simp only [hb, hu.1, hu.2, List.length_cons, List.length_nil, List.head?_cons, Option.map_some, Option.getD_some, Expr.pos]
  simp [List.filterMap, kx, ky, kz, hl', hl2', hd]
theorem nm_var (A : At W n c X) {i : Nat} {y : Str} {p : Pos} (h : nmB c i y = true) : PE X (.Name y p) (tVar i) := by
  simp only [nmB, Bool.and_eq_true, decide_eq_true_eq, Bool.not_eq_true'] at h
  exact pe_var (A.ix h.1.1.1) (A.vis h.1.1.2) h.1.2 h.2
theorem passes (A : At W n c X) : PassesOwn (model X.prog X.w) X.A X.env X.xe := by
  rw [A.fine.xe]
  exact PassesOwn.never
theorem sub_asg {o i : Expr} {pos : Pos} {env : Env} (h : noSl i = true) : ∀ v, assign (.Subscript o i pos) env v = (do
      let ov ← holding [v] (eval o env)
      let iv ← holding [v, ov] (eval i env)
      standAt pos
      holding [v, ov, iv] (setItem ov iv v)
      release [v, ov, iv] []) := by
  intro v
  cases i <;> first | rfl | (simp [noSl] at h)
theorem tV_one {R : Rc} {σ : L2.St} {H : Hp} {f : Fv} {Q : List V → Hp → Prop} (h : tVs R (fun env => (f env).bind fun p => some ([p.1], p.2)) σ H Q) : tCons (tV R f) tNil σ H Q := by
  obtain ⟨env, F, rvs, env', S, e, q⟩ := h
  simp only [Option.bind_eq_some_iff, Prod.exists, Option.some.injEq, Prod.mk.injEq] at e
  obtain ⟨rv, env1, e1, rfl, rfl⟩ := e
  refine ⟨env, F, rv, env1, S, e1, fun v F1 H1 S1 x1 r1 => q [v] F1 H1 S1 (x1.mono (fun _ z => z) fun b z => z.imp_right fun z => ?_) ⟨v, [], rfl, r1, rfl, fun b t i r' v' z => by simp at z⟩⟩
  exact (Tmps.cons.mp z).elim (fun z => z) fun z => absurd z Tmps.nil
theorem tExtend {R : Rc} {σ : L2.St} {H : Hp} {f : Fv} {i : Nat} {D : Ends} (h : tDrop (tBM R.K "list" rExtend (tVar i) (tVs R (fun env => (f env).bind fun p => some ([p.1], p.2)))) D σ H) : tDrop (tBM R.K "list" rExtend (tVar i) (tCons (tV R f) tNil)) D σ H := by
  obtain ⟨v, e, ty, q⟩ := h
  exact ⟨v, e, ty, tV_one q⟩
theorem tAppend {R : Rc} {σ : L2.St} {H : Hp} {f : Fv} {i : Nat} {D : Ends} (h : tDrop (tBM R.K "list" rAppend (tVar i) (tVs R (fun env => (f env).bind fun p => some ([p.1], p.2)))) D σ H) : tDrop (tBM R.K "list" rAppend (tVar i) (tCons (tV R f) tNil)) D σ H := by
  obtain ⟨v, e, ty, q⟩ := h
  exact ⟨v, e, ty, tV_one q⟩
theorem parG_ok (A : At W n c X) : ∀ {is : List Nat} {xs : List Expr}, parG c is xs = true → PGs X xs (gNames is) ∧ xs.length = is.length ∧ stars X.env xs
  | [], [], _ => ⟨pgs_nil, rfl, rfl⟩
  | [], _ :: _, h => by simp [parG] at h
  | _ :: _, [], h => by simp [parG] at h
  | i :: is, x :: xs, h => by
    unfold parG at h
    rw [Bool.and_eq_true] at h
    obtain ⟨h1, h2⟩ := h
    obtain ⟨g, hl, hs⟩ := parG_ok A h2
    obtain ⟨y, py, rfl, h1⟩ : ∃ y py, x = .Name y py ∧ stB c i y = true := by cases x <;> first | exact ⟨_, _, rfl, h1⟩ | (exact nomatch h1) | cases h1
    simp only [stB, Bool.and_eq_true, decide_eq_true_eq] at h1
    obtain ⟨l, f⟩ := A.loc h1.2
    have hc := assign_cons (e := .Name y py) (es := xs) (env := X.env) rfl
    refine ⟨pgs_cons (pg_name A.nodup (A.ix h1.1) l f) g (by rw [hc]; rfl), by rw [List.length_cons, List.length_cons, hl], ?_⟩
    unfold stars at hs ⊢
    rw [hc, hs]
    rfl
mutual
theorem mS_ok (hk : c.sc.kind = .function) : ∀ (s : S) {X : Cx} {st : Stmt}, At W n c X → mS c s st = true → PS X st (tS ⟨X.K, W.ca, X.w⟩ (evS (gs W.T n) s))
  | .asg i e, X, st, A, h => by
    simp only [mS] at h
    split at h
    · rename_i y py v pos
      simp only [stB, Bool.and_eq_true, decide_eq_true_eq] at h
      obtain ⟨⟨h1, h2⟩, h3⟩ := h
      obtain ⟨l, f⟩ := A.loc h2
      simp only [evS]
      have kv := (evB_kp (G := gs W.T n) e).1
      by_cases hsw : swT c y py v = true
      case neg =>
        have hs : swapsWith v (some (.Name y py)) pos.line X.env = pure false := by
          cases v <;> first
            | rfl
            | (rw [sw_lc A hk]; rw [Bool.not_eq_true] at hsw; rw [hsw])
            | (exfalso; cases e <;> simp only [mE] at h3 <;> contradiction)
        exact PS.of (ps_set A.nodup (A.ix h1) l (mE_ok e A h3).1 hs f) fun D σ H h => tS_set kv h
      case pos =>
        cases v <;> simp only [swT] at hsw <;> try contradiction
        rename_i elt gs scope vp
        simp only [Bool.and_eq_true] at hsw
        have hyl := par_local hsw.1.1
        have hs : swapsWith (.ListComp elt gs scope vp) (some (.Name y py)) pos.line X.env = pure true := by
          rw [sw_lc A hk]
          congr 1
          simp only [swT, Bool.and_eq_true]
          exact hsw
        cases e <;> simp only [mE] at h3 <;> try contradiction
        · rename_i elt' tg it cd
          split at h3
          · rename_i heq
            cases heq
            simp only [Bool.and_eq_true] at h3
            obtain ⟨⟨⟨⟨⟨g1, g2⟩, g3⟩, g4⟩, g5⟩, g6⟩ := h3
            have ok := blkOk_by g1
            rw [← A.sc, ← A.N] at ok
            have := ps_setLc (g := tG ⟨X.K, W.ca, X.w⟩ tg) (tt := tTst ⟨X.K, W.ca, X.w⟩ (evC (RE.gs W.T n) cd)) (te := tV ⟨X.K, W.ca, X.w⟩ (evB (RE.gs W.T n) elt').v) A.fine.calm A.nodup (A.ix h1) (by rw [A.sc]; exact hyl) hs (mI_ok it A g3) ok (fun s H C cl fp => mTg_ok tg (A.blk s H C cl fp) g4) (fun s H C cl fp => mC_ok cd (A.blk s H C cl fp) g6) (fun s H C cl fp => (mE_ok elt' (A.blk s H C cl fp) g5).1) (noSet_it g2 X.env)
            rw [own_snd] at this
            simp only [evB] at kv ⊢
            exact PS.of this fun D σ H h => tS_setLc kv h
          · cases h3
        · rename_i elt' tg it cd tg2 it2 cd2
          split at h3
          · rename_i heq
            cases heq
            simp only [Bool.and_eq_true] at h3
            obtain ⟨⟨⟨⟨⟨⟨⟨⟨⟨g1, g2⟩, g22⟩, g3⟩, g4⟩, g5⟩, g6⟩, g7⟩, g8⟩, g9⟩ := h3
            have ok := blkOk_by g1
            rw [← A.sc, ← A.N] at ok
            have := ps_setLc2 (vs1 := tg2.slots) (g := tG ⟨X.K, W.ca, X.w⟩ tg) (tt := tTst ⟨X.K, W.ca, X.w⟩ (evC (RE.gs W.T n) cd)) (wi1 := tItm ⟨X.K, W.ca, X.w⟩ (evI (RE.gs W.T n) it2)) (g1 := tG ⟨X.K, W.ca, X.w⟩ tg2) (tt1 := tTst ⟨X.K, W.ca, X.w⟩ (evC (RE.gs W.T n) cd2)) (te := tV ⟨X.K, W.ca, X.w⟩ (evB (RE.gs W.T n) elt').v) A.fine.calm A.nodup (A.ix h1) (by rw [A.sc]; exact hyl) hs (mI_ok it A g3) ok (fun i hi => by rw [own_snd]; exact List.mem_append_right _ hi) (fun s H C cl fp => mTg_ok tg (A.blk s H C cl fp) g4) (fun s H C cl fp => mC_ok cd (A.blk s H C cl fp) g6)
              (fun s H C cl fp => mI_ok it2 (A.blk s H C cl fp) g7) (fun s H C cl fp => mTg_ok tg2 (A.blk s H C cl fp) g8) (fun s H C cl fp => mC_ok cd2 (A.blk s H C cl fp) g9) (fun s H C cl fp => (mE_ok elt' (A.blk s H C cl fp) g5).1) (noSet_it g2 X.env) (fun env => noSet_it g22 env)
            rw [own_snd] at this
            simp only [evB] at kv ⊢
            exact PS.of this fun D σ H h => tV_lc2 (tS_set kv h)
          · cases h3
    · cases h
  | .unp ts e, X, st, A, h => by
    simp only [mS] at h
    split at h
    · rename_i xs k p v pos
      simp only [Bool.and_eq_true] at h
      obtain ⟨⟨⟨h1, h2⟩, h3⟩, h4⟩ := h
      simp only [evS]
      have g := mTg_ok (.tup ts) (x := .Tuple xs k p) A (by simp only [mTg]; exact h1)
      have hw : swappedStores [.Tuple xs k p] v X.env = pure none := by
        cases hv : isTupE v with
        | false => exact ss_none hv
        | true =>
          cases v <;> simp only [isTupE] at hv <;> try contradiction
          simp only [isTupE, Bool.not_true, Bool.false_or, Bool.and_eq_true] at h4
          rw [Bool.or_eq_true, Bool.or_eq_true] at h4
          rcases h4.1 with (z | z) | z
          · exact ss_fold z
          · exact ss_off A z
          · exact ss_many z
      exact PS.of (ps_asg (mE_ok e A h2).1 g (sw_one h3) hw) fun D σ H h => tS_unp (evB_kp e).1 h
    · cases h
  | .par is es, X, st, A, h => by
    simp only [mS] at h
    split at h
    · rename_i xs k p vs k2 p2 pos
      rw [Bool.or_eq_true] at h
      rcases h with h | h
      rotate_left
      · simp only [Bool.and_eq_true, decide_eq_true_eq] at h
        obtain ⟨⟨⟨h1, h2⟩, h3⟩, h4⟩ := h
        simp only [evS]
        obtain ⟨g, hl, hs⟩ := parG_ok A h1
        have hw : swappedStores [.Tuple xs k p] (.Tuple vs k2 p2) X.env = pure none := by
          rw [Bool.or_eq_true] at h3
          exact h3.elim (ss_off A) ss_many
        have g2 : PG X (.Tuple xs k p) (gTup X.K is.length (gNames is)) := by
          refine pg_tup A.fine.calm g ?_ ?_
          · rw [hs, List.length_map, hl]
          · rw [hs, List.findIdx?_eq_none_iff]
            intro y hy
            obtain ⟨z, _, rfl⟩ := List.mem_map.mp hy
            rfl
        exact PS.of (ps_asg (pe_tup (mEs_ok es A h2)) g2 (sw_one rfl) hw) fun D σ H h => tS_parG (evEs_kp (G := gs W.T n) es) h4 h
      simp only [Bool.and_eq_true, decide_eq_true_eq] at h
      obtain ⟨⟨⟨⟨⟨h1, h2⟩, h3⟩, h4⟩, h5⟩, h6⟩ := h
      simp only [evS]
      have ha := mEs_ok es A h2
      have hn := (mEs_len h2).1
      have ke := evEs_kp (G := gs W.T n) es
      match is, h1, h4, h5, h6 with
      | [i, j], h1, h4, h5, _ =>
        obtain ⟨x, px, xs1, rfl, a1, a2, a3, h1⟩ := parN_cons h1
        obtain ⟨y, py, xs2, rfl, b1, b2, b3, h1⟩ := parN_cons h1
        cases parN_nil h1
        match vs, h5 with
        | [a, b], _ =>
          have hij : i ≠ j := by
            rintro rfl
            simp [dist] at h4
          have ll : (py.line == px.line) = true := b3
          exact PS.of (ps_par A.fine.calm A.nodup (A.ix a1) (A.ix b1) hij (by rw [A.sc]; exact a2) (by rw [A.sc]; exact b2) ha (ss_two A hk a2 b2 ll (nm_inj A a1 b1 hij) hn h3)) fun D σ H h => tS_par2 ke h
      | [i, j, l], h1, h4, h5, _ =>
        obtain ⟨x, px, xs1, rfl, a1, a2, a3, h1⟩ := parN_cons h1
        obtain ⟨y, py, xs2, rfl, b1, b2, b3, h1⟩ := parN_cons h1
        obtain ⟨z, pz, xs3, rfl, d1, d2, d3, h1⟩ := parN_cons h1
        cases parN_nil h1
        match vs, h5 with
        | [a, b, d], _ =>
          have hij : i ≠ j := by
            rintro rfl
            simp [dist] at h4
          have hil : i ≠ l := by
            rintro rfl
            simp [dist] at h4
          have hjl : j ≠ l := by
            rintro rfl
            simp [dist] at h4
          exact PS.of (ps_par3 A.fine.calm A.nodup (A.ix a1) (A.ix b1) (A.ix d1) hij hil hjl (by rw [A.sc]; exact a2) (by rw [A.sc]; exact b2) (by rw [A.sc]; exact d2) ha (ss_three A hk a2 b2 d2 b3 d3 (nm_inj A a1 b1 hij) (nm_inj A a1 d1 hil) (nm_inj A b1 d1 hjl) hn h3)) fun D σ H h => tS_par3 ke h
      | [], _, _, _, h6 => rcases h6 with h6 | h6 <;> cases h6
      | [_], _, _, _, h6 => rcases h6 with h6 | h6 <;> cases h6
      | _ :: _ :: _ :: _ :: _, _, _, _, h6 =>
        rcases h6 with h6 | h6 <;> simp at h6
    · cases h
  | .setix i k e, X, st, A, h => by
    simp only [mS] at h
    split at h
    · simp only [Bool.and_eq_true] at h
      obtain ⟨⟨⟨⟨h1, h2⟩, h3⟩, h4⟩, h5⟩ := h
      simp only [evS]
      exact PS.of (ps_asg (mE_ok e A h4).1 (pg_sub (nm_var A h1) (mE_ok k A h2).1 set_list (sub_asg h3)) (sw_oneT h5)) fun D σ H h => tS_setix (evB_kp e).1 (evB_kp k).1 h
    · cases h
  | .setfld i f e, X, st, A, h => by
    simp only [mS] at h
    split at h
    · simp only [Bool.and_eq_true, decide_eq_true_eq] at h
      obtain ⟨⟨⟨h1, rfl⟩, h4⟩, h5⟩ := h
      simp only [evS, gs_hasF]
      exact PS.of (ps_fld (nm_var A h1) (mE_ok e A h4).1 (sw_no h5)) fun D σ H h => tS_setfld A.fine.flds (evB_kp e).1 h
    · cases h
  | .app i e, X, st, A, h => by
    simp only [mS] at h
    split at h
    · simp only [Bool.and_eq_true, decide_eq_true_eq] at h
      obtain ⟨⟨⟨⟨h1, rfl⟩, h2⟩, h3⟩, h4⟩ := h
      simp only [evS]
      exact PS.of (ps_expr (pe_bm PySem.F.plainAttrs_list PySem.F.slot_list_append PySem.F.type_list_append mt_append (nm_var A h1) (pa_cons (mE_ok e A h3).1 pa_nil (star_cons h2)) rfl (by rw [star_cons h2]; rfl) h4 (star_cons h2))) fun D σ H h => tAppend (tS_app (evB_kp e).1 h)
    · cases h
  | .ext i e, X, st, A, h => by
    simp only [mS] at h
    split at h
    · simp only [Bool.and_eq_true, decide_eq_true_eq] at h
      obtain ⟨⟨⟨⟨h1, rfl⟩, h2⟩, h3⟩, h4⟩ := h
      simp only [evS]
      exact PS.of (ps_expr (pe_bm PySem.F.plainAttrs_list PySem.F.slot_list_extend PySem.F.type_list_extend mt_extend (nm_var A h1) (pa_cons (mE_ok e A h3).1 pa_nil (star_cons h2)) rfl (by rw [star_cons h2]; rfl) h4 (star_cons h2))) fun D σ H h => tExtend (tS_ext (evB_kp e).1 h)
    · cases h
  | .expr e, X, st, A, h => by
    simp only [mS] at h
    split at h
    · simp only [Bool.and_eq_true] at h
      simp only [evS]
      exact PS.of (ps_expr (mE_ok e A h.1).1 (sw_no h.2)) fun D σ H h => tS_expr (evB_kp e).1 h
    · cases h
  | .ret e, X, st, A, h => by
    simp only [mS] at h
    split at h
    · simp only [evS]
      exact PS.of (ps_ret (mE_ok e A h).1) fun D σ H h => tS_ret (evB_kp e).1 h
    · cases h
  | .retN, X, st, A, h => by
    simp only [mS] at h
    split at h
    · simp only [evS]
      exact PS.of ps_retN fun D σ H h => tS_retN h
    · cases h
  | .ifs t a b, X, st, A, h => by
    simp only [mS] at h
    split at h
    · simp only [Bool.and_eq_true] at h
      simp only [evS]
      exact PS.of (ps_if (mE_ok t A h.1.1).2 (mSs_ok hk a A h.1.2) (mSs_ok hk b A h.2)) fun D σ H h => tS_if (evB_kp t).2 h
    · cases h
  | .whl t b, X, st, A, h => by
    simp only [mS] at h
    split at h
    · simp only [Bool.and_eq_true] at h
      simp only [evS]
      exact PS.of (ps_while (passes A) (mE_ok t A h.1).2 (mSs_ok hk b A h.2)) fun D σ H h => tS_while (evB_kp t).2 h
    · cases h
  | .for tg it b, X, st, A, h => by
    simp only [mS] at h
    split at h
    · simp only [Bool.and_eq_true] at h
      obtain ⟨⟨⟨h1, h2⟩, h3⟩, h4⟩ := h
      simp only [evS]
      exact PS.of (ps_for (passes A) A.fine.calm (mI_ok it A h2) (mTg_ok tg A h1) (mSs_ok hk b A h4) (noSet_it h3 X.env)) fun D σ H h => tS_for (evI_kp it) h
    · cases h
  | .brk, X, st, A, h => by
    simp only [mS] at h
    split at h
    · simp only [evS]
      exact PS.of ps_break fun D σ H h => tS_brk h
    · cases h
  | .cont, X, st, A, h => by
    simp only [mS] at h
    split at h
    · simp only [evS]
      exact PS.of ps_continue fun D σ H h => tS_ct h
    · cases h
  | .dead, X, st, A, h => by
    simp only [evS]
    refine PS.of ps_never fun D σ H h => ?_
    obtain ⟨env, F, fl, env', S, e, q⟩ := h
    cases e
theorem mSs_ok (hk : c.sc.kind = .function) : ∀ (ss : Ss) {X : Cx} {sts : List Stmt}, At W n c X → mSs c ss sts = true → PSs X sts (tS ⟨X.K, W.ca, X.w⟩ (evSs (gs W.T n) ss))
  | .nil, X, sts, A, h => by
    simp only [mSs] at h
    split at h
    · simp only [evSs]
      exact PSs.of pss_nil fun D σ H h => tS_nil h
    · cases h
  | .cons s ss, X, sts, A, h => by
    simp only [mSs] at h
    split at h
    · simp only [Bool.and_eq_true] at h
      simp only [evSs]
      exact PSs.of (pss_cons (mS_ok hk s A h.1) (mSs_ok hk ss A h.2)) fun D σ H h => tS_seq h
    · cases h
end
end RE
set_option Elab.async false
set_option linter.all false
set_option maxRecDepth 100000
/-! The defs of a text, the law's end. -/
namespace RE
open PySem PySem.Spec PyProof.Rows L2 He

structure Df where
  d : DefD
  fn : Fn
  N : List Str
  ps : List Str
structure Pd where
  defs : List Df
  cls : List (Str × Cl)
  globs : List (Str × Int)
  free : List Str
def Pd.tab (P : Pd) : Tab := ⟨fun k => (P.defs[k]?).map (·.fn), fun c => (P.cls[c]?).map (·.2), fun k => (P.globs[k]?).map fun g => .int g.2⟩
def Pd.nms (P : Pd) : Nms where
  fn k := match P.defs[k]? with
    | some d => d.d.at_.1
    | none => Str.empty
  gl k := match P.defs[k]? with
    | some d => d.d.at_.2.isNone
    | none => false
  cls c := match P.cls[c]? with
    | some c => c.1
    | none => Str.empty
  glob k := match P.globs[k]? with
    | some g => g.1
    | none => Str.empty
  free := P.free
def Pd.wd (P : Pd) (K : PySem.W.Frag) : Wd := ⟨P.tab, P.nms, fun c => ga K (P.nms.cls c), fun k => match P.defs[k]? with
  | some d => fAd K d.d.at_
  | none => 0⟩
def Pd.fa (P : Pd) : List Fa := (P.defs.filterMap fun d => if d.d.at_.2.isNone then some (.glo d.d.at_.1) else none) ++ P.cls.flatMap (fun c => [.glo c.1, .cls c.1, .mkr c.1] ++ c.2.meths.map (fun m => .meth c.1 m.1) ++ c.2.flds.map (fun f => .noat c.1 f)) ++
  P.globs.map (fun g => .int g.1 g.2) ++ P.free.map .free
def Pd.fn (P : Pd) : List DefD := P.defs.map (·.d)
/-- a def's own things -/
def scB (N ps : List Str) (sc : Scope) : Bool := (match sc.kind with
  | .function => true
  | _ => false) && !sc.isCoroutine && !sc.isGenerator && decide N.Nodup && decide (N.take ps.length = ps) && (ps.all fun x => match sc.names.lookup x with
  | some .local => true
  | some .cell => true
  | _ => false) && sc.names.all fun y => match y.2 with
  | .free => false
  | _ => true
theorem scB_ok {N ps : List Str} {sc : Scope} (h : scB N ps sc = true) : FnScope N ps sc := by
  unfold scB at h
  simp only [Bool.and_eq_true, Bool.not_eq_true', decide_eq_true_eq, List.all_eq_true] at h
  obtain ⟨⟨⟨⟨⟨⟨h1, h2⟩, h3⟩, h4⟩, h5⟩, h6⟩, h7⟩ := h
  refine ⟨?_, h2, h3, h4, h5, fun x hx => ?_, fun y hy e => ?_⟩
  · split at h1
    · assumption
    · cases h1
  · have := h6 x hx
    split at this
    · rename_i e; exact .inl e
    · rename_i e; exact .inr e
    · cases this
  · have := h7 y hy
    rw [e] at this
    cases this
def Df.mc (P : Pd) (d : Df) : Mc := ⟨d.d.scope, d.d.scope, d.N, P.tab, P.nms⟩
def Df.good (P : Pd) (d : Df) : Bool := scB d.N d.ps d.d.scope && decide (d.fn.np = d.ps.length) && (!d.fn.bor || decide (d.fn.np ≠ 0)) && decide (d.fn.ns = d.N.length) && mSs (d.mc P) d.fn.body d.d.body && d.d.dfl.isEmpty && d.d.kwd.isEmpty
def clsGood (P : Pd) (c : Str × Cl) : Bool := (match P.defs[c.2.init]? with
  | some d => decide (d.d.at_ = (c.1, some ("__init__" : Str))) && d.fn.bor
  | none => false) && c.2.meths.all fun m => match P.defs[m.2]? with
  | some d => decide (d.d.at_ = (c.1, some m.1))
  | none => false
def Pd.good (P : Pd) : Bool := (P.defs.all fun d => d.good P) && P.cls.all (clsGood P)
def BindOk (d : Df) : Prop := ∀ (kV doc pm : Value) (an : Option Addr) (cdv ct : Value) (us : List Value), us.length = d.ps.length → bindArgs (PySem.W.fnOf d.d.name d.d.qual d.d.params d.d.body d.d.scope .none kV doc pm an cdv ct) ⟨us, []⟩ = pure (d.ps.zip us)
def BindsOk : List Df → Prop
  | [] => True
  | d :: ds => BindOk d ∧ BindsOk ds
theorem BindsOk.mem : ∀ {ds : List Df}, BindsOk ds → ∀ d ∈ ds, BindOk d
  | _ :: _, h, d, hd => (List.mem_cons.mp hd).elim (fun e => by rw [e]; exact h.1) fun hd => BindsOk.mem h.2 d hd

section
variable {R : Rc} {F F' H H' : Hp} {σ : L2.St} {env : Sl}
/-! ### the slots at a body's start -/
theorem pad_get {α : Type} {l : List α} {z : α} {m i : Nat} {x : α} (h : (l ++ List.replicate m z)[i]? = some x) (n : x ≠ z) : l[i]? = some x := by
  by_cases hi : i < l.length
  · rw [List.getElem?_append_left hi] at h; exact h
  · rw [List.getElem?_append_right (by omega), List.getElem?_replicate] at h
    split at h
    · cases h; exact absurd rfl n
    · cases h
theorem pad_left {α : Type} {l : List α} {z : α} {m i : Nat} {x : α} (h : l[i]? = some x) : (l ++ List.replicate m z)[i]? = some x := by
  have hi : i < l.length := by
    by_cases hi : i < l.length
    · exact hi
    · rw [List.getElem?_eq_none (by omega)] at h; cases h
  rw [List.getElem?_append_left hi]; exact h
theorem StOk.pad (S : StOk R σ env F H) (m : Nat) : StOk R (σ ++ List.replicate m none) (env ++ List.replicate m .no) F H := by
  refine ⟨by simp [S.len], S.sub, fun i d e => ?_, fun i k d e => ?_, fun i j k k' d d' p e1 e2 e3 e4 => ?_⟩
  · obtain ⟨v, h, r⟩ := S.val i d (pad_get e (fun z => nomatch z))
    exact ⟨v, pad_left h, r⟩
  · obtain ⟨v, h, r⟩ := S.mu i k d (pad_get e (fun z => nomatch z))
    exact ⟨v, pad_left h, r⟩
  · exact S.ne i j k k' d d' p (pad_get e1 (fun z => nomatch z)) (pad_get e2 (fun z => nomatch z)) (pad_get e3 (fun z => nomatch z)) (pad_get e4 (fun z => nomatch z))
theorem cell_pad {m : Nat} {y : Tg2} : Cell (σ ++ List.replicate m none) (env ++ List.replicate m .no) y → Cell σ env y
  | ⟨i, k, d, e1, e2, e3⟩ => ⟨i, k, d, pad_get e1 (fun z => nomatch z), pad_get e2 (fun z => nomatch z), e3⟩
theorem vals_reps : ∀ {ds : List D} {vs : List V}, StOk R (vs.map some) (ds.map Slot.val) F H → Reps R F ds vs := by
  intro ds vs S
  have key : ∀ {ds : List D} {vs : List V}, ds.length = vs.length → (∀ (i : Nat) (d : D), ds[i]? = some d → ∃ v, vs[i]? = some v ∧ Rep R F d v) → Reps R F ds vs := by
    intro ds
    induction ds with
    | nil =>
      intro vs hl _
      cases vs with
      | nil => exact Reps.nil
      | cons v vs => simp at hl
    | cons d ds ih =>
      intro vs hl h
      cases vs with
      | nil => simp at hl
      | cons v vs =>
        obtain ⟨v', e, r⟩ := h 0 d rfl
        simp at e
        subst e
        exact Reps.cons r (ih (by simpa using hl) fun i d' e => by simpa using h (i + 1) d' (by simpa using e))
  refine key (by have := S.len; simpa using this) fun i d e => ?_
  obtain ⟨v, e1, r⟩ := S.val i d (by rw [List.getElem?_map, e]; rfl)
  rw [List.getElem?_map] at e1
  obtain ⟨v', e2, e3⟩ := Option.map_eq_some_iff.mp e1
  cases e3
  exact ⟨v, e2, r⟩
theorem vals_repsB {ds : List D} {vs : List V} {d0 : D} {v0 : V} (S : StOk R (some v0 :: vs.map some) (Slot.mu .bor d0 :: ds.map Slot.val) F H) : Reps R F ds vs := by
  refine vals_reps (H := H) (ds := ds) (vs := vs) ⟨by have := S.len; simpa using this, S.sub, fun i d e => ?_, fun i k d e => ?_, fun i j k k' d d' p e1 e2 e3 e4 => ?_⟩
  · simpa using S.val (i + 1) d (by simpa using e)
  · rw [List.getElem?_map] at e
    obtain ⟨_, _, e2⟩ := Option.map_eq_some_iff.mp e
    cases e2
  · rw [List.getElem?_map] at e1
    obtain ⟨_, _, e2⟩ := Option.map_eq_some_iff.mp e1
    cases e2
end
theorem argE_len {b : Bool} {ds : List D} : (argE b ds).length = ds.length := by
  cases b <;> cases ds <;> simp [argE]

/-! ### one def -/
section
variable {Pr : Program} {w : World} {K : PySem.W.Frag} {mg : Str → Option Value} {base : Heap} {P : Pd}
theorem fnSp_len {R : Rc} {T : Tab} {n k : Nat} {fn : Fn} {vs : List V} {H : Hp} {Q : VK} {E : XK} (hf : T.fns k = some fn) (h : fnSp R T n k vs H Q E) : vs.length = fn.np := by
  obtain ⟨F, ds, r, b, S, e, _⟩ := h
  have hl := S.len
  rw [argE_len, List.length_map] at hl
  cases n with
  | zero => simp only [callN] at e; cases e
  | succ n =>
    rw [callN_succ, hf] at e
    simp only [Option.bind_some, runFn] at e
    split at e
    · rename_i hd
      omega
    · cases e
/-- a body that the evaluator tells keeps the def's promise -/
theorem body_ok {X : Cx} {W : Wd} {n k : Nat} {c : Mc} {fn : Fn} {body : List Stmt} {vs : List V} {H : Hp} {Q : VK} {E : XK} (A : At W n c X) (hk : c.sc.kind = .function) (hm : mSs c fn.body body = true) (hf : W.T.fns k = some fn) (hN : fn.ns = X.N.length) (hnp : fn.bor = true → fn.np ≠ 0)
    (h : fnSp ⟨X.K, W.ca, X.w⟩ W.T (n + 1) k vs H Q E) : ∃ t, PSs X body t ∧ t { nx := fun _ H' => Q .non H', rt := Q } (L2.start X.N vs) H := by
  refine ⟨_, mSs_ok hk fn.body A hm, ?_⟩
  have hlen := fnSp_len hf h
  obtain ⟨F, ds, r, b, S, e, q⟩ := h
  have hb : borT W.T k = fn.bor := by unfold borT; rw [hf]
  rw [hb] at S q
  rw [callN_succ, hf] at e
  simp only [Option.bind_some, runFn] at e
  split at e
  case isFalse => cases e
  rename_i hd
  simp only [Option.bind_eq_some_iff, Prod.exists] at e
  obtain ⟨fl, env', e1, e2⟩ := e
  have hst : L2.start X.N vs = vs.map some ++ List.replicate (fn.ns - fn.np) none := by
    unfold L2.start
    rw [hN, hlen]
  have S0 : StOk ⟨X.K, W.ca, X.w⟩ (L2.start X.N vs) (startS fn ds) F H := by
    rw [hst]
    exact S.pad _
  have c0 : ∀ y, Cell (L2.start X.N vs) (startS fn ds) y → Cell (vs.map some) (argE fn.bor ds) y := fun y z => by
    rw [hst] at z
    exact cell_pad z
  refine ⟨startS fn ds, F, fl, env', S0, e1, fun σ' F' H' S' lk => ?_⟩
  -- the state behind, as the caller sees it
  have fin : ∀ {b : Option D} {C : Tg2 → Prop}, endB fn env' = some b → Ext (Cell (L2.start X.N vs) (startS fn ds)) C F H F' H' → StOk ⟨X.K, W.ca, X.w⟩ (vs.map some) (endE b ds) F' H' ∧ (∀ y, Cell (vs.map some) (endE b ds) y → ∃ d, env'[0]? = some (Slot.mu .bor d) ∧ σ'[0]? = some (some (V.ref y.2))) := by
    intro b C hb' x
    cases hbor : fn.bor with
    | false =>
      rw [hbor] at S
      unfold endB at hb'
      rw [hbor, if_neg Bool.false_ne_true] at hb'
      cases hb'
      have S : StOk ⟨X.K, W.ca, X.w⟩ (vs.map some) (ds.map Slot.val) F H := by
        cases ds <;> exact S
      have e : endE none ds = ds.map Slot.val := by cases ds <;> rfl
      rw [e]
      exact ⟨StOk.args S'.sub (Reps.mono x.sub _ _ (vals_reps S)), fun y z => absurd z cell_vals⟩
    | true =>
      rw [hbor] at S
      unfold endB at hb'
      rw [hbor, if_pos rfl] at hb'
      split at hb'
      case h_2 => cases hb'
      rename_i d' h0
      cases hb'
      obtain ⟨p, hp, n', m'⟩ := S'.mu 0 .bor d' h0
      cases ds with
      | nil =>
        exact absurd (by rw [← hd]; rfl) (hnp hbor)
      | cons d0 ds =>
        cases vs with
        | nil => rw [← hd] at hlen; simp at hlen
        | cons v0 vs =>
          have S1 : StOk ⟨X.K, W.ca, X.w⟩ (some v0 :: vs.map some) (Slot.mu .bor d0 :: ds.map Slot.val) F H := S
          have h00 : (startS fn (d0 :: ds))[0]? = some (Slot.mu .bor d0) := by
            unfold startS
            rw [hbor]
            rfl
          have hσ := lk.2 0 .bor d0 h00 (fun z => nomatch z)
          rw [hp] at hσ
          have hs0 : (L2.start X.N (v0 :: vs))[0]? = some (some v0) := by rw [hst]; rfl
          rw [hs0] at hσ
          cases hσ
          refine ⟨StOk.argsB S'.sub (Reps.mono x.sub _ _ (vals_repsB S1)) n' m', fun y z => ⟨d', h0, ?_⟩⟩
          have : y.2 = p := cell_bor.mp z
          rw [this]
          exact hp
  have done : ∀ {b : Option D} {rv : Rv} {r' : Rv} {v : V}, endB fn env' = some b → retD rv env' = some r' → Ext (Cell (L2.start X.N vs) (startS fn ds)) (fun y => Cell σ' env' y ∨ Tmp rv v y) F H F' H' → RvOk ⟨X.K, W.ca, X.w⟩ σ' env' F' H' rv v →
      StOk ⟨X.K, W.ca, X.w⟩ (vs.map some) (endE b ds) F' H' ∧ Ext (Cell (vs.map some) (argE fn.bor ds)) (fun y => Cell (vs.map some) (endE b ds) y ∨ Tmp r' v y) F H F' H' ∧ RvOk ⟨X.K, W.ca, X.w⟩ (vs.map some) (endE b ds) F' H' r' v := by
    intro b rv r' v hb' hr x rv_ok
    obtain ⟨S2, hc⟩ := fin hb' x
    have cells : ∀ y, Cell (vs.map some) (endE b ds) y → Cell σ' env' y := fun y z => by
      obtain ⟨d, h1, h2⟩ := hc y z
      exact ⟨0, .bor, d, h1, h2, fun _ z => nomatch z⟩
    cases rv with
    | sh d =>
      cases hr
      exact ⟨S2, x.mono c0 fun y z => z.imp_left (cells y), rv_ok⟩
    | nw d =>
      cases hr
      refine ⟨S2, x.mono c0 fun y z => z.imp_left (cells y), ?_⟩
      obtain ⟨p, e, n', m', nc⟩ := rv_ok
      exact ⟨p, e, n', m', fun z => nc (cells _ z)⟩
    | sl i =>
      simp only [retD] at hr
      have hv : σ'[i]? = some (some v) := rv_ok
      split at hr
      · rename_i d hi
        cases hr
        obtain ⟨p, e, n', m'⟩ := S'.mu i .own d hi
        rw [hv] at e
        cases e
        refine ⟨S2, x.mono c0 fun y z => ?_, p, rfl, n', m', fun z => ?_⟩
        · rcases z with z | z
          · exact .inl (cells y z)
          · have z : V.ref p = V.ref y.2 := z
            have : p = y.2 := V.ref.inj z
            subst this
            exact .inl ⟨i, .own, d, hi, hv, fun _ z => nomatch z⟩
        · obtain ⟨d2, h1, h2⟩ := hc _ z
          have : i = 0 := S'.ne i 0 .own .bor d d2 p hi h1 hv h2
          subst this
          rw [hi] at h1
          cases h1
      · rename_i d hi
        cases hr
        obtain ⟨v', e, rp⟩ := S'.val i d hi
        rw [hv] at e
        cases e
        exact ⟨S2, x.mono c0 fun y z => .inl (z.elim (cells y) False.elim), rp⟩
      · cases hr
  cases fl with
  | nx =>
    simp only [Option.bind_eq_some_iff, Option.some.injEq, Prod.mk.injEq] at e2
    obtain ⟨b', hb', rfl, rfl⟩ := e2
    intro x
    obtain ⟨S2, x2, r2⟩ := done (rv := .sh .non) (r' := .sh .non) (v := .non) hb' rfl (x.mono (fun _ z => z) fun y z => z.elim (fun z => z) False.elim) (by simp only [RvOk, Rep])
    exact q .non F' H' S2 x2 r2
  | ret rv =>
    simp only [Option.bind_eq_some_iff, Option.some.injEq, Prod.mk.injEq] at e2
    obtain ⟨r', hr', b', hb', rfl, rfl⟩ := e2
    intro v x rv_ok
    obtain ⟨S2, x2, r2⟩ := done hb' hr' x rv_ok
    exact q v F' H' S2 x2 r2
  | bk => cases e2
  | ct => cases e2
end
end RE
set_option Elab.async false
set_option linter.all false
set_option maxRecDepth 100000
/-! All defs, the law's end. -/
namespace RE
open PySem PySem.Spec PyProof.Rows L2 He
section
variable {Pr : Program} {w : World} {K : PySem.W.Frag} {mg : Str → Option Value} {base h : Heap} {P : Pd}

theorem tab_fns {k : Nat} {fn : Fn} (e : P.tab.fns k = some fn) : ∃ d, P.defs[k]? = some d ∧ d.fn = fn := by
  obtain ⟨d, e1, e2⟩ := Option.map_eq_some_iff.mp (show (P.defs[k]?).map (·.fn) = some fn from e)
  exact ⟨d, e1, e2⟩
theorem tab_cls {k : Nat} {cl : Cl} (e : P.tab.cls k = some cl) : ∃ x, P.cls[k]? = some (x, cl) := by
  obtain ⟨d, e1, e2⟩ := Option.map_eq_some_iff.mp (show (P.cls[k]?).map (·.2) = some cl from e)
  exact ⟨d.1, by rw [e1, ← e2]⟩
theorem nms_cls {k : Nat} {x : Str} {cl : Cl} (e : P.cls[k]? = some (x, cl)) : P.nms.cls k = x := by
  show (match P.cls[k]? with
    | some c => c.1
    | none => Str.empty) = x
  rw [e]
theorem wd_fa {k : Nat} {d : Df} (e : P.defs[k]? = some d) : (P.wd K).fa k = fAd K d.d.at_ := by
  show (match P.defs[k]? with
    | some d => fAd K d.d.at_
    | none => 0) = _
  rw [e]
theorem mem_of_get {α : Type} {l : List α} {i : Nat} {x : α} (h : l[i]? = some x) : x ∈ l := List.mem_of_getElem? h
/-- what is known of the text's top -/
structure Top (P : Pd) (K : PySem.W.Frag) (mg : Str → Option Value) : Prop where
  good : P.good = true
  bnd : BindsOk P.defs
  defs : ∀ d ∈ P.defs, ∃ fd, FunD K d.d.name d.d.qual d.d.params d.d.body d.d.scope (d.d.dvs K) (d.d.kws K) (fAd K d.d.at_) fd
  glo : ∀ d ∈ P.defs, d.d.at_.2 = none → mg d.d.at_.1 = some (.ref (fAd K d.d.at_))
  clsM : ∀ c ∈ P.cls, mg c.1 = some (.ref (ga K c.1))
  clsC : ∀ c ∈ P.cls, Cls K (ga K c.1)
  clsK : ∀ c ∈ P.cls, Mk K (ga K c.1) (ma K (ga K c.1) "__init__")
  meth : ∀ c ∈ P.cls, ∀ m ∈ c.2.meths, Meth K (ga K c.1) m.1 (ma K (ga K c.1) m.1)
  noat : ∀ c ∈ P.cls, ∀ f ∈ c.2.flds, NoAttr K (ga K c.1) f
  glob : ∀ g ∈ P.globs, ∃ t, mg g.1 = some (.int g.2 t)
  free : ∀ x ∈ P.free, mg x = none
theorem top_of (X : K.In h) (G : h.Ns mainGlobals mg) (c : SaysD P.fa P.fn K) (good : P.good = true) (bnd : BindsOk P.defs) : Top P K mg := by
  have fact : ∀ {f : Fa}, f ∈ P.fa → f.ok K = true := fun hf => c.facts hf
  have clsF : ∀ {x : Str × Cl} {f : Fa}, x ∈ P.cls → f ∈ ([.glo x.1, .cls x.1, .mkr x.1] ++ x.2.meths.map (fun m => Fa.meth x.1 m.1) ++ x.2.flds.map (fun f => Fa.noat x.1 f) : List Fa) → f.ok K = true := fun {x f} hx hf => by
    refine fact ?_
    unfold Pd.fa
    rw [List.mem_append, List.mem_append, List.mem_append]
    exact .inl (.inl (.inr (List.mem_flatMap.mpr ⟨x, hx, hf⟩)))
  refine ⟨good, bnd, fun d hd => c.defs (d := d.d) (List.mem_map.mpr ⟨d, hd, rfl⟩), fun d hd e => ?_, fun x hx => glo_ok X G (clsF hx (by simp)), fun x hx => cls_ok (clsF hx (by simp)), fun x hx => mkr_ok (clsF hx (by simp)), fun x hx m hm => ?_, fun x hx f hf => ?_, fun g hg => ?_, fun x hx => ?_⟩
  · have : (Fa.glo d.d.at_.1).ok K = true := by
      refine fact ?_
      unfold Pd.fa
      rw [List.mem_append, List.mem_append, List.mem_append]
      refine .inl (.inl (.inl (List.mem_filterMap.mpr ⟨d, hd, ?_⟩)))
      rw [e]
      rfl
    have g := glo_ok X G this
    rw [g]
    unfold fAd
    rw [e]
  · exact meth_ok (clsF hx (by
      rw [List.mem_append, List.mem_append]
      exact .inl (.inr (List.mem_map.mpr ⟨m, hm, rfl⟩))))
  · exact noat_ok (clsF hx (by
      rw [List.mem_append, List.mem_append]
      exact .inr (List.mem_map.mpr ⟨f, hf, rfl⟩)))
  · exact int_ok X G (fact (by
      unfold Pd.fa
      rw [List.mem_append, List.mem_append, List.mem_append]
      exact .inl (.inr (List.mem_map.mpr ⟨g, hg, rfl⟩))))
  · exact free_ok X G (fact (by
      unfold Pd.fa
      rw [List.mem_append, List.mem_append, List.mem_append]
      exact .inr (List.mem_map.mpr ⟨x, hx, rfl⟩)))
theorem Top.df (T : Top P K mg) {k : Nat} {d : Df} (e : P.defs[k]? = some d) : d.good P = true := by
  have := T.good
  unfold Pd.good at this
  rw [Bool.and_eq_true, List.all_eq_true, List.all_eq_true] at this
  exact this.1 d (mem_of_get e)
theorem Top.cl (T : Top P K mg) {k : Nat} {c : Str × Cl} (e : P.cls[k]? = some c) : clsGood P c = true := by
  have := T.good
  unfold Pd.good at this
  rw [Bool.and_eq_true, List.all_eq_true, List.all_eq_true] at this
  exact this.2 c (mem_of_get e)
theorem Top.init (T : Top P K mg) {k : Nat} {x : Str} {cl : Cl} (e : P.cls[k]? = some (x, cl)) : ∃ d, P.defs[cl.init]? = some d ∧ d.d.at_ = (x, some ("__init__" : Str)) ∧ d.fn.bor = true := by
  have g := T.cl e
  unfold clsGood at g
  rw [Bool.and_eq_true] at g
  have g := g.1
  split at g
  · rename_i d hd
    rw [Bool.and_eq_true, decide_eq_true_eq] at g
    exact ⟨d, hd, g.1, g.2⟩
  · cases g
theorem Top.mth (T : Top P K mg) {k : Nat} {x : Str} {cl : Cl} (e : P.cls[k]? = some (x, cl)) {m : Str} {j : Nat} (hm : (m, j) ∈ cl.meths) : ∃ d, P.defs[j]? = some d ∧ d.d.at_ = (x, some m) := by
  have g := T.cl e
  unfold clsGood at g
  rw [Bool.and_eq_true, List.all_eq_true] at g
  have g := g.2 _ hm
  simp only at g
  split at g
  · rename_i d hd
    exact ⟨d, hd, of_decide_eq_true g⟩
  · cases g
theorem mem_look {α : Type} {m : Str} {j : α} : ∀ {l : List (Str × α)}, l.lookup m = some j → (m, j) ∈ l := fun h => PySem.mem_of_lookup h
theorem Top.binds (T : Top P K mg) {k : Nat} {d : Df} (e : P.defs[k]? = some d) {fd : FuncData} (F : FunD K d.d.name d.d.qual d.d.params d.d.body d.d.scope (d.d.dvs K) (d.d.kws K) (fAd K d.d.at_) fd) : Binds K fd d.ps [] := by
  have g := T.df e
  unfold Df.good at g
  simp only [Bool.and_eq_true, List.isEmpty_iff] at g
  have e1 : d.d.dvs K = [] := by unfold DefD.dvs; rw [g.1.2]; rfl
  rw [e1] at F
  exact F.bindsN (T.bnd.mem d (mem_of_get e))
/-- ALL DEFS keep what the evaluator tells of them -/
theorem all_ok (T : Top P K mg) : ∀ (n k : Nat) (d : Df), P.defs[k]? = some d → ∀ fd, FunD K d.d.name d.d.qual d.d.params d.d.body d.d.scope (d.d.dvs K) (d.d.kws K) (fAd K d.d.at_) fd →
    FnOk Pr w K mg base CX0 n (fAd K d.d.at_) fd d.ps (fnSp ⟨K, (P.wd K).ca, w⟩ P.tab n k) := by
  intro n
  induction n using Nat.strongRecOn with
  | ind n ih =>
    intro k d e fd F
    have g := T.df e
    unfold Df.good at g
    simp only [Bool.and_eq_true, decide_eq_true_eq, Bool.or_eq_true, Bool.not_eq_true'] at g
    obtain ⟨⟨⟨⟨⟨⟨g1, g2⟩, g2b⟩, g3⟩, g4⟩, g5⟩, g6⟩ := g
    have hT : P.tab.fns k = some d.fn := by
      show (P.defs[k]?).map (·.fn) = _
      rw [e] <;> rfl
    have lenK : ∀ vs H Q E, fnSp ⟨K, (P.wd K).ca, w⟩ P.tab n k vs H Q E → vs.length = d.ps.length := fun vs H Q E hs => (fnSp_len hT hs).trans g2
    cases n with
    | zero => exact ⟨lenK, fun A outer s H args us vs Q E _ _ _ _ hs => by
        obtain ⟨_, _, _, _, _, e0, _⟩ := hs
        simp only [callN] at e0
        cases e0⟩
    | succ n =>
      have S := scB_ok g1
      have fnsAt : ∀ m, m < n + 1 → ∀ k fn, P.tab.fns k = some fn → ∃ fd ps, FnOk Pr w K mg base CX0 m ((P.wd K).fa k) fd ps (fnSp ⟨K, (P.wd K).ca, w⟩ P.tab m k) ∧ PySem.W.keepIn K (.ref ((P.wd K).fa k)) = true ∧ Binds K fd ps [] ∧
          (P.nms.gl k = true → mg (P.nms.fn k) = some (.ref ((P.wd K).fa k))) := by
        intro m hm k2 fn2 h2
        obtain ⟨d2, e2, rfl⟩ := tab_fns h2
        obtain ⟨fd2, F2⟩ := T.defs d2 (mem_of_get e2)
        rw [wd_fa e2]
        refine ⟨fd2, d2.ps, ih m hm k2 d2 e2 fd2 F2, F2.kp, T.binds e2 F2, fun hgl => ?_⟩
        have n1 : P.nms.gl k2 = d2.d.at_.2.isNone := by
          show (match P.defs[k2]? with
            | some d => d.d.at_.2.isNone
            | none => false) = _
          rw [e2]
        have n2 : P.nms.fn k2 = d2.d.at_.1 := by
          show (match P.defs[k2]? with
            | some d => d.d.at_.1
            | none => Str.empty) = _
          rw [e2]
        rw [n1] at hgl
        rw [n2]
        exact T.glo d2 (mem_of_get e2) (Option.isNone_iff_eq_none.mp hgl)
      have clsAt : ∀ c cl, P.tab.cls c = some cl → Mk K ((P.wd K).ca c) ((P.wd K).fa cl.init) ∧ mg (P.nms.cls c) = some (.ref ((P.wd K).ca c)) ∧ Cls K ((P.wd K).ca c) := by
        intro c cl hc
        obtain ⟨x, ec⟩ := tab_cls hc
        have hx := nms_cls ec
        obtain ⟨di, ei, ea, _⟩ := T.init ec
        show Mk K (ga K (P.nms.cls c)) _ ∧ mg (P.nms.cls c) = some (.ref (ga K (P.nms.cls c))) ∧ Cls K (ga K (P.nms.cls c))
        rw [wd_fa ei, ea, hx]
        exact ⟨T.clsK _ (mem_of_get ec), T.clsM _ (mem_of_get ec), T.clsC _ (mem_of_get ec)⟩
      have fldsAt : ClsOk K (P.wd K).ca (hasFT P.tab) := by
        have key : ∀ c f, hasFT P.tab c f = true → ∃ x cl, P.cls[c]? = some (x, cl) ∧ f ∈ cl.flds := fun c f hf => by
          unfold hasFT at hf
          split at hf
          · rename_i cl hc
            obtain ⟨x, ec⟩ := tab_cls hc
            exact ⟨x, cl, ec, by simpa using hf⟩
          · cases hf
        refine ⟨fun c f hf => ?_, fun c f hf => ?_⟩
        · obtain ⟨x, cl, ec, _⟩ := key c f hf
          show Cls K (ga K (P.nms.cls c))
          rw [nms_cls ec]
          exact T.clsC _ (mem_of_get ec)
        · obtain ⟨x, cl, ec, hm⟩ := key c f hf
          show NoAttr K (ga K (P.nms.cls c)) f
          rw [nms_cls ec]
          exact T.noat _ (mem_of_get ec) f hm
      refine F.ok S lenK fun cdv A outer s H vs Q E hr hs => ?_
      have key : ∃ t, PSs (cxOf CX0 Pr w K mg base d.N d.d.qual d.d.scope (fAd K d.d.at_) cdv A outer s H E).nox d.d.body t ∧ t { nx := fun _ H' => Q .non H', rt := Q } (L2.start d.N vs) H := by
        refine body_ok (W := P.wd K) (n := n) (k := k) (c := d.mc P) (E := E) ?_ S.kind g4 hT g3 (fun hb => ?_) hs
        · refine ⟨rfl, rfl, S.nd, rfl, rfl, ⟨rfl, rfl, hr, fun k fn hk => fnsAt n (Nat.lt_succ_self n) k fn hk, fun m hm k fn hk => ?_, clsAt, fun c cl m j hc hm => ?_, fldsAt, fun k2 dd hk => ?_, fun x hx => T.free x hx⟩, fun x _ => rfl, fun k2 m j hm => ?_⟩
          · obtain ⟨fd2, ps2, h1, _, h3, _⟩ := fnsAt m (by omega) k fn hk
            exact ⟨fd2, ps2, h1, h3⟩
          · obtain ⟨x, ec⟩ := tab_cls hc
            obtain ⟨dm, em, ea⟩ := T.mth ec (mem_look hm)
            show Meth K (ga K (P.nms.cls c)) m _
            rw [wd_fa em, ea, nms_cls ec]
            exact T.meth _ (mem_of_get ec) _ (mem_look hm)
          · obtain ⟨gg, e1, e2⟩ := Option.map_eq_some_iff.mp (show (P.globs[k2]?).map (fun g => D.int g.2) = some dd from hk)
            subst e2
            obtain ⟨t, ht⟩ := T.glob gg (mem_of_get e1)
            have hn : P.nms.glob k2 = gg.1 := by
              show (match P.globs[k2]? with
                | some g => g.1
                | none => Str.empty) = _
              rw [e1]
            exact ⟨.int gg.2 t, .int gg.2, by show mg (P.nms.glob k2) = _; rw [hn]; exact ht, ⟨t, rfl⟩, fun F => by simp only [Rep]⟩
          · obtain ⟨cl, hc, hl⟩ := Option.bind_eq_some_iff.mp hm
            obtain ⟨x, ec⟩ := tab_cls hc
            obtain ⟨dm, em, _⟩ := T.mth ec (mem_look hl)
            exact ⟨dm.fn, by show (P.defs[j]?).map (·.fn) = _; rw [em]; rfl⟩
        · rcases g2b with z | z
          · rw [hb] at z; cases z
          · exact z
      obtain ⟨t, h1, h2⟩ := key
      exact ⟨t, h1.nox, h2⟩
/-- THE LAW, at any heap behind the top -/
theorem law_facts {n kL : Nat} {dL : Df} {x : Str} (hL : P.defs[kL]? = some dL) (hps : dL.ps = [x]) (hat : dL.d.at_ = (("law" : Str), none)) (hbor : dL.fn.bor = false) (X : K.In h) (G : h.Ns mainGlobals mg) {fa : Addr} (hfa : mg ("law" : Str) = some (.ref fa)) (c : SaysD P.fa P.fn K) (good : P.good = true) (bnd : BindsOk P.defs)
    (law : ∀ ns : List Int, ns.length ≤ 63 → callN P.tab n kL [.lst (ns.map D.int)] = some (.sh (.bl true), none)) :
    ∃ (fd : FuncData) (sp : Sp), (∀ (s : Shared) (v : Value), BindsTo s fd ⟨[v], []⟩ [(x, v)]) ∧ (∀ (H : Hp) (a : Addr) (ns : List Int), ns.length ≤ 63 → Only H → SqL K H a (ns.map V.int) → sp [.ref a] H (fun v _ => v = .bl true) fun _ _ _ => False) ∧
      ∀ base : Heap, K.In base → base.Ns mainGlobals mg → FnOk Pr w K mg base CX0 n fa fd [x] sp := by
  have T := top_of X G c good bnd
  obtain ⟨fd, F⟩ := T.defs dL (mem_of_get hL)
  have hglo := T.glo dL (mem_of_get hL) (by rw [hat])
  rw [hat] at hglo
  have e : some (Value.ref fa) = some (Value.ref (fAd K (("law" : Str), none))) := hfa.symm.trans hglo
  have e : fa = fAd K (("law" : Str), none) := by
    have := Option.some.inj e
    exact Value.ref.inj this
  have g := T.df hL
  unfold Df.good at g
  simp only [Bool.and_eq_true, List.isEmpty_iff] at g
  have e1 : dL.d.dvs K = [] := by unfold DefD.dvs; rw [g.1.2]; rfl
  have F' := F
  rw [e1] at F'
  have hb := FunD.bindsA (ps := dL.ps) F' (bnd.mem dL (mem_of_get hL))
  refine ⟨fd, fnSp ⟨K, (P.wd K).ca, w⟩ P.tab n kL, fun s v => ?_, fun H a ns hl hO hS => ?_, fun base hK hG => ?_⟩
  · have := hb s [v] (by rw [hps]; rfl)
    rw [hps] at this
    exact this
  · have hT : P.tab.fns kL = some dL.fn := by
      show (P.defs[kL]?).map (·.fn) = _
      rw [hL] <;> rfl
    have hbr : borT P.tab kL = false := by unfold borT; rw [hT]; exact hbor
    have rp : ∀ ns : List Int, Reps ⟨K, (P.wd K).ca, w⟩ H (ns.map D.int) (ns.map V.int) := by
      intro ns
      induction ns with
      | nil => exact Reps.nil
      | cons n ns ih => exact Reps.cons (by simp only [Rep]) ih
    have R1 : Rep ⟨K, (P.wd K).ca, w⟩ H (.lst (ns.map D.int)) (.ref a) := by
      simp only [Rep]
      exact ⟨a, _, rfl, hS, rp ns⟩
    refine ⟨H, [.lst (ns.map D.int)], .sh (.bl true), none, ?_, law ns hl, fun v F' H' S x r => ?_⟩
    · rw [hbr]
      exact StOk.args (Same.refl _) (Reps.cons R1 Reps.nil)
    · have r : Rep ⟨K, (P.wd K).ca, w⟩ F' (.bl true) v := r
      simp only [Rep] at r
      exact r
  · have := all_ok (Pr := Pr) (w := w) (base := base) T n kL dL hL fd F
    rw [hat, ← e, hps] at this
    exact this
end
end RE
set_option Elab.async false
set_option linter.all false
set_option maxRecDepth 100000
/-! What the laws' own defs do: drawing, comparing, the law's loop. -/
namespace RE
open PySem

theorem atI_nat {α : Type} (xs : List α) (i : Nat) : L2.atI xs (i : Int) = xs[i]? := by
  unfold L2.atI L2.ixN
  rw [if_pos (by omega)]
  by_cases h : i < xs.length
  · rw [if_pos (by omega)]
    rfl
  · rw [if_neg (by omega), List.getElem?_eq_none (by omega)]
    rfl
@[simp] theorem atI_0 {α : Type} (x : α) (xs : List α) : L2.atI (x :: xs) 0 = some x := atI_nat (x :: xs) 0
@[simp] theorem atI_1 {α : Type} (x y : α) (xs : List α) : L2.atI (x :: y :: xs) 1 = some y := atI_nat (x :: y :: xs) 1
@[simp] theorem atI_2 {α : Type} (x y z : α) (xs : List α) : L2.atI (x :: y :: z :: xs) 2 = some z := atI_nat (x :: y :: z :: xs) 2
@[simp] theorem atI_3 {α : Type} (x y z u : α) (xs : List α) : L2.atI (x :: y :: z :: u :: xs) 3 = some u := atI_nat (x :: y :: z :: u :: xs) 3
theorem atI_in {α : Type} {xs : List α} {i : Int} (h0 : 0 ≤ i) (h : i < xs.length) : L2.atI xs i = some (xs[i.toNat]'(by omega)) := by
  have := atI_nat xs i.toNat
  rw [show ((i.toNat : Nat) : Int) = i by omega] at this
  rw [this, List.getElem?_eq_getElem (by omega)]
theorem atI_last {α : Type} (xs : List α) (x : α) : L2.atI (xs ++ [x]) (-1) = some x := by
  unfold L2.atI L2.ixN
  rw [if_neg (by decide), if_pos (by simp; omega)]
  show (xs ++ [x])[(-1 + ((xs ++ [x]).length : Int)).toNat]? = _
  rw [show (-1 + ((xs ++ [x]).length : Int)).toNat = xs.length by simp; omega]
  simp
def bPick : Ss := (.cons (.ifs (.cmp .Gt (.ix (.nm 0) (.int 0)) (.int 1)) (.cons (.asg 3 (.bin .Mod (.bi .int (.cons (.ix (.nm 0) (.int 0)) .nil)) (.nm 1))) (.cons (.setix 0 (.int 0) (.bin .FloorDiv (.ix (.nm 0) (.int 0)) (.nm 1))) (.cons (.ret (.nm 3)) .nil))) .nil) (.cons (.setix 0 (.int 1) (.bin .Mod (.bi .int (.cons (.bin .Add (.bin .Mult (.ix (.nm 0) (.int 1)) (.int 48271)) (.int 12345)) .nil)) (.int 2147483647))) (.cons (.asg 2 (.bin .Mod (.bi .int (.cons (.bin .Add (.bin .Add (.bin .Mult (.ix (.nm 0) (.int 1)) (.int 69621)) (.bin .FloorDiv (.ix (.nm 0) (.int 1)) (.int 127))) (.int 7)) .nil)) (.int 2147483629))) (.cons (.ret (.bin .Mod (.bi .int (.cons (.bin .FloorDiv (.nm 2) (.int 16)) .nil)) (.nm 1))) .nil))))
def fnPick : Fn := ⟨2, 4, true, bPick⟩
section
variable {T : Tab} {n : Nat}
theorem s_pick {k : Nat} (hk : T.fns k = some fnPick) (a b m : Int) (hm : 0 < m) (hm2 : m < 1073741824) : ∃ r a' b' : Int, 0 ≤ r ∧ r < m ∧ callN T (n + 1) k [.lst [.int a, .int b], .int m] = some (.sh (.int r), some (.lst [.int a', .int b'])) := by
  rw [callN_succ, hk]
  have h1 : divOk m = true := by simp [divOk, hm]; omega
  by_cases ha : 1 < a
  · refine ⟨a % m, a / m, b, Int.emod_nonneg _ (by omega), Int.emod_lt_of_pos _ hm, ?_⟩
    simp [runFn, fnPick, bPick, evSs, evS, sSeq, sIf, evT, evB, startS, argE, tru, vOp, vName, rd, cmpR, cmpD, ixR, ixD, ixAt, truD, sSet, evE, vBi, evEs, rds, biD, binD, store, sSetIx, muAt, esc, intR, sRet, retD, endB, ha, hm, h1, L2.ixN]
  · have h2 : mulOk b 48271 = true := by simp [mulOk]
    have h3 : mulOk ((b * 48271 + 12345) % 2147483647) 69621 = true := by simp [mulOk]
    have h4 : divOk 127 = true := by decide
    have h5 : divOk 16 = true := by decide
    refine ⟨(((b * 48271 + 12345) % 2147483647 * 69621 + (b * 48271 + 12345) % 2147483647 / 127 + 7) % 2147483629) / 16 % m, a, (b * 48271 + 12345) % 2147483647, Int.emod_nonneg _ (by omega), Int.emod_lt_of_pos _ hm, ?_⟩
    simp [runFn, fnPick, bPick, evSs, evS, sSeq, sIf, evT, evB, startS, argE, tru, vOp, vName, rd, cmpR, cmpD, ixR, ixD, ixAt, truD, sSet, evE, vBi, evEs, rds, biD, binD, store, sSetIx, muAt, esc, intR, sRet, retD, endB, ha, hm, h2, h3, h4, h5, L2.ixN]
def bSource : Ss := (.cons (.ifs (.cmp .GtE (.nm 0) (.bin .Pow (.int 10) (.int 18))) (.cons (.ret (.lst (.cons (.bin .Sub (.nm 0) (.bin .Pow (.int 10) (.int 18))) (.cons (.bin .Add (.nm 1) (.int 1)) .nil)))) .nil) .nil) (.cons (.ret (.lst (.cons (.int 0) (.cons (.bin .Mod (.bi .int (.cons (.bin .Add (.bin .Add (.bin .Mult (.nm 0) (.int 7919)) (.bin .Mult (.nm 1) (.int 104729))) (.int 1)) .nil)) (.int 2147483647)) .nil)))) .nil))
def fnSource : Fn := ⟨2, 2, false, bSource⟩
theorem s_source {k : Nat} (hk : T.fns k = some fnSource) (c j : Int) : ∃ a b : Int, callN T (n + 1) k [.int c, .int j] = some (.nw (.lst [.int a, .int b]), none) := by
  rw [callN_succ, hk]
  have h1 : powOk 10 18 = true := by decide
  have h2 : mulOk c 7919 = true := by simp [mulOk]
  have h3 : mulOk j 104729 = true := by simp [mulOk]
  have h4 : lineOk 2 = true := by decide
  by_cases hc : 1000000000000000000 ≤ c
  · refine ⟨c - 1000000000000000000, j + 1, ?_⟩
    simp [runFn, fnSource, bSource, evSs, evS, sSeq, sIf, evT, evB, startS, argE, tru, vOp, vName, vLst, rd, cmpR, cmpD, truD, evE, vBi, evEs, rds, biD, binD, esc, escs, sRet, retD, endB, hc, h1, h4]
  · refine ⟨0, (c * 7919 + j * 104729 + 1) % 2147483647, ?_⟩
    simp [runFn, fnSource, bSource, evSs, evS, sSeq, sIf, evT, evB, startS, argE, tru, vOp, vName, vLst, rd, cmpR, cmpD, truD, evE, vBi, evEs, rds, biD, binD, esc, escs, sRet, retD, endB, hc, h1, h2, h3, h4]
def bCell : Ss := (.cons (.ifs (.cmp .Lt (.nm 1) (.bi .len (.cons (.nm 0) .nil))) (.cons (.ret (.ix (.nm 0) (.nm 1))) .nil) .nil) (.cons (.ret (.int 0)) .nil))
def fnCell : Fn := ⟨2, 2, false, bCell⟩
theorem s_cell {k : Nat} (hk : T.fns k = some fnCell) (ns : List Int) (j : Nat) : ∃ c : Int, callN T (n + 1) k [.lst (ns.map D.int), .int j] = some (.sh (.int c), none) := by
  rw [callN_succ, hk]
  by_cases hj : j < ns.length
  · refine ⟨ns[j], ?_⟩
    have h1 : L2.atI (ns.map D.int) (j : Int) = some (.int ns[j]) := by
      rw [atI_nat, List.getElem?_map, List.getElem?_eq_getElem hj]
      rfl
    simp [runFn, fnCell, bCell, evSs, evS, sSeq, sIf, evT, evB, startS, argE, tru, vOp, vName, rd, cmpR, cmpD, ixR, ixD, ixAt, truD, evE, vBi, evEs, rds, biD, esc, sRet, retD, endB, hj, h1]
  · refine ⟨0, ?_⟩
    simp [runFn, fnCell, bCell, evSs, evS, sSeq, sIf, evT, evB, startS, argE, tru, vOp, vName, rd, cmpR, cmpD, ixR, ixD, ixAt, truD, evE, vBi, evEs, rds, biD, esc, sRet, retD, endB, hj]
end
end RE
set_option Elab.async false
set_option linter.all false
set_option maxRecDepth 100000
/-! Loops; comparing. -/
namespace RE
open PySem
section
variable {G : Gs} {env : Sl}
theorem q_int (i : Int) : evB G (.int i) = vt fun env => some (.sh (.int i), env) := rfl
theorem q_bl (i : Bool) : evB G (.bl i) = vt fun env => some (.sh (.bl i), env) := rfl
theorem q_non : evB G .non = vt fun env => some (.sh .non, env) := rfl
theorem q_str (i : Str) : evB G (.str i) = vt fun env => some (.sh (.str i), env) := rfl
theorem q_nm (i : Nat) : evB G (.nm i) = vt (vName i) := rfl
theorem q_gv (k : Nat) : evB G (.gv k) = vt fun env => (G.glob k).bind fun d => some (.sh d, env) := rfl
theorem q_tup (es : Es) : evB G (.tup es) = vt (vTup (evEs G es)) := rfl
theorem q_lst (es : Es) : evB G (.lst es) = vt (vLst (evEs G es)) := rfl
theorem q_bin (op : Operator) (a b : E) : evB G (.bin op a b) = vt (vOp (binD op) (evB G a).v (evB G b).v) := rfl
theorem q_neg (a : E) : evB G (.neg a) = vt (vUn negD (evB G a).v) := rfl
theorem q_nt (a : E) : evB G (.nt a) = ⟨vUn notB (evB G a).v, vNot (evB G a).t⟩ := rfl
theorem q_and (es : Es) : evB G (.and es) = ⟨evAnd G es, evTAnd G es⟩ := rfl
theorem q_or (es : Es) : evB G (.or es) = ⟨evOr G es, evTOr G es⟩ := rfl
theorem q_cmp (op : CmpOp) (a b : E) : evB G (.cmp op a b) = vt (vOp (cmpR op) (evB G a).v (evB G b).v) := rfl
theorem q_ch2 (op op' : CmpOp) (a b c : E) : evB G (.ch2 op op' a b c) = vt (vCh2 op op' (evB G a).v (evB G b).v (evB G c).v) := rfl
theorem q_ife (c a b : E) : evB G (.ife c a b) = ⟨vIf (evB G c).t (evB G a).v (evB G b).v, tIf (evB G c).t (evB G a).t (evB G b).t⟩ := rfl
theorem q_ix (a i : E) : evB G (.ix a i) = vt (vOp ixR (evB G a).v (evB G i).v) := rfl
theorem q_slc (a : E) (lo hi : EO) : evB G (.slc a lo hi) = vt (vSlc (evB G a).v (evO G lo) (evO G hi)) := rfl
theorem q_rev (a : E) : evB G (.rev a) = vt (vUn revD (evB G a).v) := rfl
theorem q_stp (a : E) (k : Int) : evB G (.stp a k) = vt (vUn (stpD k) (evB G a).v) := rfl
theorem q_call (k : Nat) (es : Es) : evB G (.call k es) = vt (vCall G k (evEs G es)) := rfl
theorem q_mk (k : Nat) (es : Es) : evB G (.mk k es) = vt (vMk G k (evEs G es)) := rfl
theorem q_meth (m : Str) (o : E) (es : Es) : evB G (.meth m o es) = vt (vMeth G m (evB G o).v (evEs G es)) := rfl
theorem q_fld (f : Str) (o : E) : evB G (.fld f o) = vt (vUn (fldD (fun c => G.hasF c f) f) (evB G o).v) := rfl
theorem q_bi (b : Bi) (es : Es) : evB G (.bi b es) = vt (vBi b (evEs G es)) := rfl
theorem q_isi (a : E) (t : Ty) : evB G (.isi a t) = vt (vUn (fun d => (isiD d t).bind fun b => some (.sh (.bl b))) (evB G a).v) := rfl
theorem q_lc (elt : E) (tg : Tg) (it : I) (cd : EO) : evB G (.lc elt tg it cd) = vt (vLc (evB G elt).v tg (evI G it) (evC G cd)) := rfl
end
theorem q_eqI (i j : Int) : eqD (.int i) (.int j) = some (decide (i = j)) := rfl
theorem q_eqB (i j : Bool) : eqD (.bl i) (.bl j) = some (decide (i = j)) := rfl
theorem q_eqS (i j : Str) : eqD (.str i) (.str j) = some (decide (i = j)) := rfl
theorem q_eqN : eqD .non .non = some true := rfl
theorem q_eqE : eqD (.lst []) (.lst []) = some true := by decide +kernel
theorem q_is_non_tuple : isiD .non .tuple = some false := rfl
theorem q_is_non_list : isiD .non .list = some false := rfl
theorem q_is_non_bool : isiD .non .bool = some false := rfl
theorem q_is_non_int : isiD .non .int = some false := rfl
theorem q_is_non_str : isiD .non .str = some false := rfl
theorem q_is_tup_tuple (ds : List D) : isiD (.tup ds) .tuple = some true := rfl
theorem q_is_tup_list (ds : List D) : isiD (.tup ds) .list = some false := rfl
theorem q_is_tup_bool (ds : List D) : isiD (.tup ds) .bool = some false := rfl
theorem q_is_tup_int (ds : List D) : isiD (.tup ds) .int = some false := rfl
theorem q_is_tup_str (ds : List D) : isiD (.tup ds) .str = some false := rfl
theorem q_is_lst_tuple (ds : List D) : isiD (.lst ds) .tuple = some false := rfl
theorem q_is_lst_list (ds : List D) : isiD (.lst ds) .list = some true := rfl
theorem q_is_lst_bool (ds : List D) : isiD (.lst ds) .bool = some false := rfl
theorem q_is_lst_int (ds : List D) : isiD (.lst ds) .int = some false := rfl
theorem q_is_lst_str (ds : List D) : isiD (.lst ds) .str = some false := rfl
theorem q_is_bl_tuple (b : Bool) : isiD (.bl b) .tuple = some false := rfl
theorem q_is_bl_list (b : Bool) : isiD (.bl b) .list = some false := rfl
theorem q_is_bl_bool (b : Bool) : isiD (.bl b) .bool = some true := rfl
theorem q_is_bl_int (b : Bool) : isiD (.bl b) .int = some true := rfl
theorem q_is_bl_str (b : Bool) : isiD (.bl b) .str = some false := rfl
theorem q_is_int_tuple (i : Int) : isiD (.int i) .tuple = some false := rfl
theorem q_is_int_list (i : Int) : isiD (.int i) .list = some false := rfl
theorem q_is_int_bool (i : Int) : isiD (.int i) .bool = some false := rfl
theorem q_is_int_int (i : Int) : isiD (.int i) .int = some true := rfl
theorem q_is_int_str (i : Int) : isiD (.int i) .str = some false := rfl
theorem q_is_str_tuple (x : Str) : isiD (.str x) .tuple = some false := rfl
theorem q_is_str_list (x : Str) : isiD (.str x) .list = some false := rfl
theorem q_is_str_bool (x : Str) : isiD (.str x) .bool = some false := rfl
theorem q_is_str_int (x : Str) : isiD (.str x) .int = some false := rfl
theorem q_is_str_str (x : Str) : isiD (.str x) .str = some true := rfl
theorem q_line0 : lineOk 0 = true := rfl
theorem q_line1 : lineOk 1 = true := rfl
theorem q_line2 : lineOk 2 = true := rfl
theorem q_line3 : lineOk 3 = true := rfl
theorem q_line4 : lineOk 4 = true := rfl
theorem q_line5 : lineOk 5 = true := rfl
theorem q_line6 : lineOk 6 = true := rfl
theorem q_line7 : lineOk 7 = true := rfl
theorem q_line8 : lineOk 8 = true := rfl
theorem q_line9 : lineOk 9 = true := rfl
theorem q_line10 : lineOk 10 = true := rfl
theorem q_line11 : lineOk 11 = true := rfl
theorem q_line12 : lineOk 12 = true := rfl
local macro_rules | `(tactic| walk_at "re") => `(tactic| simp [*, runFn, evSs, evS, sSeq, sIf, evT, startS, argE, tru, vOp, vName, rd, cmpR, cmpD, ixR, ixD, ixAt, truD, sSet, evE, vBi, evEs, evO, evC, evI, rds, biD, binD, store, sSetIx, muAt, esc, escs, intR, sRet, retD, endB, L2.ixN, vUn, vNot, tIf, vIf, tAnd2, tOr2, evTAnd, evTOr, evAnd, evOr, vAnd2, vOr2, vCall, callE, gs_call, gs_bor, vTup, vLst, sFor, sApp, isL, sExpr, sUnp, sPar, outs, stores, bindTs, bindT, iRg1, iRg2, iOf, unlock, lock,
  q_int, q_bl, q_non, q_str, q_nm, q_gv, q_tup, q_lst, q_bin, q_neg, q_nt, q_and, q_or, q_cmp, q_ch2, q_ife, q_ix, q_slc, q_rev, q_stp, q_call, q_mk, q_meth, q_fld, q_bi, q_isi, q_eqI, q_eqB, q_eqS, q_eqN, q_eqE, notB, negD, revD, q_is_non_tuple, q_is_non_list, q_is_non_bool, q_is_non_int, q_is_non_str, q_is_tup_tuple, q_is_tup_list, q_is_tup_bool, q_is_tup_int, q_is_tup_str, q_is_lst_tuple, q_is_lst_list, q_is_lst_bool, q_is_lst_int, q_is_lst_str, q_is_bl_tuple, q_is_bl_list, q_is_bl_bool, q_is_bl_int, q_is_bl_str, q_is_int_tuple, q_is_int_list, q_is_int_bool, q_is_int_int, q_is_int_str, q_is_str_tuple, q_is_str_list, q_is_str_bool, q_is_str_int, q_is_str_str, q_line0, q_line1, q_line2, q_line3, q_line4, q_line5, q_line6, q_line7, q_line8, q_line9, q_line10, q_line11, q_line12])
theorem loopF_inv {tg : Tg} {body : Sv} (I : Sl → Prop) : ∀ {ds : List D} (h : ∀ d ∈ ds, ∀ env, I env → ∃ env1 env2, bindT tg d env = some env1 ∧ body env1 = some (.nx, env2) ∧ I env2) {env : Sl}, I env → ∃ env', loopF tg body ds env = some (.nx, env') ∧ I env'
  | [], _, env, hi => ⟨env, rfl, hi⟩
  | d :: ds, h, env, hi => by
    obtain ⟨env1, env2, e1, e2, hi2⟩ := h d (List.mem_cons_self ..) env hi
    obtain ⟨env', e3, hi3⟩ := loopF_inv I (fun d hd => h d (List.mem_cons_of_mem _ hd)) hi2
    refine ⟨env', ?_, hi3⟩
    simp only [loopF, e1, e2, Option.bind_some, e3]
theorem loopC_fm {tg : Tg} {cd : Sl → Option (Bool × Sl)} {elt : Sl → Option (D × Sl)} {own : List Nat} {env : Sl} (p : D → Bool) (f : D → D) : ∀ {ds : List D}, (∀ d ∈ ds, ∃ env1 env2, bindT tg d (wipeS env own) = some env1 ∧ cd env1 = some (p d, env2) ∧
    (if p d = true then ∃ env3, elt env2 = some (f d, env3) ∧ backS env3 env own = env else backS env2 env own = env)) → loopC tg cd elt own ds env = some ((ds.filter p).map f, env)
  | [], _ => rfl
  | d :: ds, h => by
    obtain ⟨env1, env2, e1, e2, e3⟩ := h d (List.mem_cons_self ..)
    have ih := loopC_fm p f fun d hd => h d (List.mem_cons_of_mem _ hd)
    simp only [loopC, e1, e2, Option.bind_some]
    by_cases hp : p d = true
    · rw [if_pos hp] at e3
      obtain ⟨env3, e4, e5⟩ := e3
      rw [if_pos hp, e4, Option.bind_some]
      simp only [e5, ih, Option.bind_some]
      rw [List.filter_cons_of_pos hp]
      rfl
    · rw [if_neg hp] at e3
      rw [if_neg hp, e3, ih, List.filter_cons_of_neg hp]
theorem rng_mem {lo hi : Int} {d : D} (h : d ∈ rngD lo hi) : ∃ k : Int, lo ≤ k ∧ k < hi ∧ d = .int k := by
  unfold rngD at h
  obtain ⟨k, hk, rfl⟩ := List.mem_map.mp h
  rw [List.mem_range] at hk
  exact ⟨lo + k, by omega, by omega, rfl⟩
/-! ### comparing -/
def bSame (k : Nat) : Ss := (.cons (.ifs (.isi (.nm 1) .tuple) (.cons (.ifs (.or (.cons (.nt (.isi (.nm 0) .tuple)) (.cons (.cmp .NotEq (.bi .len (.cons (.nm 0) .nil)) (.bi .len (.cons (.nm 1) .nil))) .nil))) (.cons (.ret (.bl false)) .nil) .nil) (.cons (.ret (.cmp .Eq (.lc (.nm 2) (.nm 2) (.rg1 (.bi .len (.cons (.nm 1) .nil))) (.so (.nt (.call k (.cons (.ix (.nm 0) (.nm 2)) (.cons (.ix (.nm 1) (.nm 2)) .nil)))))) (.lst .nil))) .nil)) .nil) (.cons (.ifs (.isi (.nm 1) .list) (.cons (.ifs (.or (.cons (.nt (.isi (.nm 0) .list)) (.cons (.cmp .NotEq (.bi .len (.cons (.nm 0) .nil)) (.bi .len (.cons (.nm 1) .nil))) .nil))) (.cons (.ret (.bl false)) .nil) .nil) (.cons (.ret (.cmp .Eq (.lc (.nm 2) (.nm 2) (.rg1 (.bi .len (.cons (.nm 1) .nil))) (.so (.nt (.call k (.cons (.ix (.nm 0) (.nm 2)) (.cons (.ix (.nm 1) (.nm 2)) .nil)))))) (.lst .nil))) .nil)) .nil) (.cons (.ifs (.cmp .Is (.nm 1) .non) (.cons (.ret (.cmp .Is (.nm 0) .non)) .nil) .nil) (.cons (.ifs (.isi (.nm 1) .bool) (.cons (.ret (.and (.cons (.isi (.nm 0) .bool) (.cons (.cmp .Eq (.nm 0) (.nm 1)) .nil)))) .nil) .nil) (.cons (.ifs (.isi (.nm 1) .int) (.cons (.ret (.and (.cons (.isi (.nm 0) .int) (.cons (.nt (.isi (.nm 0) .bool)) (.cons (.cmp .Eq (.nm 0) (.nm 1)) .nil))))) .nil) .nil) (.cons (.ret (.and (.cons (.isi (.nm 0) .str) (.cons (.cmp .Eq (.nm 0) (.nm 1)) .nil)))) .nil))))))
def fnSame (k : Nat) : Fn := ⟨2, 3, false, bSame k⟩
/-- plain data of a depth -/
def pl : Nat → D → Bool
  | _, .non => true
  | _, .bl _ => true
  | _, .int _ => true
  | _, .str _ => true
  | n + 1, .tup ds => lineOk ds.length && ds.all (pl n)
  | n + 1, .lst ds => lineOk ds.length && ds.all (pl n)
  | _, _ => false
section
variable {T : Tab}
theorem same_lc {m k : Nat} {ds : List D} {d : D} (hseq : ∀ i : Int, ixD d (.int i) = L2.atI ds i) (hlen : biD .len [d] = some (.sh (.int ds.length))) (hk : T.fns k = some (fnSame k)) (hb : borT T k = false) (hl : lineOk ds.length = true) (ih : ∀ x ∈ ds, callN T m k [x, x] = some (.sh (.bl true), none)) :
    (evB (gs T m) (.lc (.nm 2) (.nm 2) (.rg1 (.bi .len (.cons (.nm 1) .nil))) (.so (.nt (.call k (.cons (.ix (.nm 0) (.nm 2)) (.cons (.ix (.nm 1) (.nm 2)) .nil))))))).v [.val d, .val d, .no] = some (.nw (.lst []), [.val d, .val d, .no]) := by
  have hl2 : ds.length ≤ 16777216 := by simpa [lineOk] using hl
  have hr : rngOk (ds.length : Int) = true := by
    unfold rngOk
    rw [decide_eq_true_eq]
    omega
  have hC : loopC (.nm 2) (evC (gs T m) (.so (.nt (.call k (.cons (.ix (.nm 0) (.nm 2)) (.cons (.ix (.nm 1) (.nm 2)) .nil)))))) (toD (vName 2)) [2] (rngD 0 ds.length) [.val d, .val d, .no] = some ([], [.val d, .val d, .no]) := by
    have := loopC_fm (tg := .nm 2) (cd := evC (gs T m) (.so (.nt (.call k (.cons (.ix (.nm 0) (.nm 2)) (.cons (.ix (.nm 1) (.nm 2)) .nil)))))) (elt := toD (vName 2)) (own := [2]) (env := [.val d, .val d, .no]) (fun _ => false) id (ds := rngD 0 ds.length) (fun x hx => by
      obtain ⟨j, h0, h1, rfl⟩ := rng_mem hx
      refine ⟨[.val d, .val d, .val (.int j)], [.val d, .val d, .val (.int j)], by simp [bindT, wipeS], ?_, by simp [backS]⟩
      have e1 := atI_in h0 h1
      have hc := ih _ (List.getElem_mem (l := ds) (n := j.toNat) (by omega))
      simp [evC, q_nt, vNot, q_call, tru, vCall, evEs, q_ix, q_nm, vOp, vName, rd, ixR, hseq, e1, callE, gs_bor, hb, escs, esc, gs_call, hc, truD])
    exact this.trans (by simp)
  rw [q_lc]
  show vLc _ _ _ _ _ = _
  unfold vLc
  simp only [evI, iRg1, q_bi, vBi, evEs, q_nm, vName, intR]
  simp [rds, rd, hlen, hr, Tg.slots, unlock]
  rw [hC]
  simp [lineOk]
theorem s_same {k : Nat} (hk : T.fns k = some (fnSame k)) : ∀ (m : Nat) (d : D), pl m d = true → ∀ n, m ≤ n → callN T (n + 1) k [d, d] = some (.sh (.bl true), none) := by
  have hb : borT T k = false := by unfold borT; rw [hk]; rfl
  have e0 : eqD (.lst []) (.lst []) = some true := by decide +kernel
  intro m
  induction m with
  | zero =>
    intro d hd n hn
    rw [callN_succ, hk]
    cases d <;> simp only [pl] at hd <;> try contradiction
    all_goals (unfold fnSame bSame; walk_at "re")
  | succ m ih =>
    intro d hd n hn
    rw [callN_succ, hk]
    obtain ⟨n, rfl⟩ : ∃ n', n = n' + 1 := ⟨n - 1, by omega⟩
    cases d with
    | tup ds =>
      simp only [pl, Bool.and_eq_true, List.all_eq_true] at hd
      have h1 := same_lc (m := n + 1) (d := .tup ds) (ds := ds) (fun i => rfl) rfl hk hb hd.1 fun x hx => ih x (hd.2 x hx) n (by omega)
      unfold fnSame bSame
      walk_at "re"
    | lst ds =>
      simp only [pl, Bool.and_eq_true, List.all_eq_true] at hd
      have h1 := same_lc (m := n + 1) (d := .lst ds) (ds := ds) (fun i => rfl) rfl hk hb hd.1 fun x hx => ih x (hd.2 x hx) n (by omega)
      unfold fnSame bSame
      walk_at "re"
    | ins c fs ds => simp only [pl] at hd; contradiction
    | set ns => simp only [pl] at hd; contradiction
    | _ => unfold fnSame bSame; walk_at "re"
def bAll (k : Nat) : Ss := (.cons (.ret (.cmp .Eq (.lc (.nm 1) (.nm 1) (.rg1 (.bi .len (.cons (.nm 0) .nil))) (.so (.nt (.call k (.cons (.ix (.ix (.nm 0) (.nm 1)) (.int 0)) (.cons (.ix (.ix (.nm 0) (.nm 1)) (.int 1)) .nil)))))) (.lst .nil))) .nil)
def fnAll (k : Nat) : Fn := ⟨1, 2, false, bAll k⟩
end
end RE
set_option Elab.async false
set_option linter.all false
set_option maxRecDepth 100000
/-! The rows' end, the law's loop. -/
namespace RE
open PySem
local macro_rules | `(tactic| walk_at "re") => `(tactic| simp [*, runFn, evSs, evS, sSeq, sIf, evT, startS, argE, tru, vOp, vName, rd, cmpR, cmpD, ixR, ixD, ixAt, truD, sSet, evE, vBi, evEs, evO, evC, evI, rds, biD, binD, store, sSetIx, muAt, esc, escs, intR, sRet, retD, endB, L2.ixN, vUn, vNot, tIf, vIf, tAnd2, tOr2, evTAnd, evTOr, evAnd, evOr, vAnd2, vOr2, vCall, callE, gs_call, gs_bor, vTup, vLst, sFor, sApp, isL, sExpr, sUnp, sPar, outs, stores, bindTs, bindT, iRg1, iRg2, iOf, unlock, lock,
  q_int, q_bl, q_non, q_str, q_nm, q_gv, q_tup, q_lst, q_bin, q_neg, q_nt, q_and, q_or, q_cmp, q_ch2, q_ife, q_ix, q_slc, q_rev, q_stp, q_call, q_mk, q_meth, q_fld, q_bi, q_isi, q_eqI, q_eqB, q_eqS, q_eqN, q_eqE, notB, negD, revD, q_is_non_tuple, q_is_non_list, q_is_non_bool, q_is_non_int, q_is_non_str, q_is_tup_tuple, q_is_tup_list, q_is_tup_bool, q_is_tup_int, q_is_tup_str, q_is_lst_tuple, q_is_lst_list, q_is_lst_bool, q_is_lst_int, q_is_lst_str, q_is_bl_tuple, q_is_bl_list, q_is_bl_bool, q_is_bl_int, q_is_bl_str, q_is_int_tuple, q_is_int_list, q_is_int_bool, q_is_int_int, q_is_int_str, q_is_str_tuple, q_is_str_list, q_is_str_bool, q_is_str_int, q_is_str_str, q_line0, q_line1, q_line2, q_line3, q_line4, q_line5, q_line6, q_line7, q_line8, q_line9, q_line10, q_line11, q_line12])
theorem loopF_ix {tg : Tg} {body : Sv} (I : Nat → Sl → Prop) {ds : List D} (h : ∀ (i : Nat) (d : D), ds[i]? = some d → ∀ env, I i env → ∃ env1 env2, bindT tg d env = some env1 ∧ body env1 = some (.nx, env2) ∧ I (i + 1) env2) {env : Sl} (h0 : I 0 env) : ∃ env', loopF tg body ds env = some (.nx, env') ∧ I ds.length env' := by
  have key : ∀ (es : List D) (i : Nat) (env : Sl), (∀ (j : Nat) (d : D), es[j]? = some d → ds[i + j]? = some d) → i + es.length = ds.length → I i env → ∃ env', loopF tg body es env = some (.nx, env') ∧ I ds.length env' := by
    intro es
    induction es with
    | nil =>
      intro i env _ hl hi
      simp only [List.length_nil, Nat.add_zero] at hl
      rw [← hl]
      exact ⟨env, rfl, hi⟩
    | cons d es ih =>
      intro i env hd hl hi
      obtain ⟨env1, env2, e1, e2, hi2⟩ := h i d (hd 0 d rfl) env hi
      obtain ⟨env', e3, hi3⟩ := ih (i + 1) env2 (fun j d' hj => by
        have := hd (j + 1) d' (by simpa using hj)
        rw [show i + 1 + j = i + (j + 1) by omega]
        exact this) (by simp only [List.length_cons] at hl; omega) hi2
      refine ⟨env', ?_, hi3⟩
      simp only [loopF, e1, e2, Option.bind_some, e3]
  exact key ds 0 env (fun j d hj => by rw [Nat.zero_add]; exact hj) (by omega) h0
section
variable {T : Tab}
theorem borT_of {k : Nat} {fn : Fn} (hk : T.fns k = some fn) : borT T k = fn.bor := by unfold borT; rw [hk]
theorem run_ret {G : Gs} {fn : Fn} {ds : List D} {r r' : Rv} {env' : Sl} {b : Option D} (hl : ds.length = fn.np) (hb : evSs G fn.body (startS fn ds) = some (.ret r, env')) (hr : retD r env' = some r') (he : endB fn env' = some b) : runFn G fn ds = some (r', b) := by
  unfold runFn
  rw [if_pos hl, hb]
  simp only [Option.bind_some, hr, he]
theorem call_ret {n k : Nat} {fn : Fn} {ds : List D} {r r' : Rv} {env' : Sl} {b : Option D} (hk : T.fns k = some fn) (hl : ds.length = fn.np) (hb : evSs (gs T n) fn.body (startS fn ds) = some (.ret r, env')) (hr : retD r env' = some r') (he : endB fn env' = some b) : callN T (n + 1) k ds = some (r', b) := by
  rw [callN_succ, hk]
  exact run_ret hl hb hr he
theorem seq_nx {G : Gs} {s : S} {ss : Ss} {env env1 : Sl} {r : Option (Fl × Sl)} (h : evS G s env = some (.nx, env1)) (h2 : evSs G ss env1 = r) : evSs G (.cons s ss) env = r := by
  show sSeq _ _ _ = _
  unfold sSeq
  rw [h]
  exact h2
theorem seq_ret {G : Gs} {s : S} {ss : Ss} {env env1 : Sl} {v : Rv} (h : evS G s env = some (.ret v, env1)) : evSs G (.cons s ss) env = some (.ret v, env1) := by
  show sSeq _ _ _ = _
  unfold sSeq
  rw [h]
  rfl
/-- a row: what is told is what is due -/
def RowOk (m : Nat) (d : D) : Prop := ∃ a, d = .tup [a, a] ∧ pl m a = true
theorem s_all {k kS : Nat} (hk : T.fns k = some (fnAll kS)) (hS : T.fns kS = some (fnSame kS)) {m n : Nat} (hmn : m ≤ n) {rows : List D} (hl : lineOk rows.length = true) (hr : ∀ d ∈ rows, RowOk m d) : callN T (n + 2) k [.lst rows] = some (.sh (.bl true), none) := by
  have hb : borT T kS = false := borT_of hS
  rw [callN_succ, hk]
  have hl2 : rows.length ≤ 16777216 := by simpa [lineOk] using hl
  have hrg : rngOk (rows.length : Int) = true := by
    unfold rngOk
    rw [decide_eq_true_eq]
    omega
  have hC : loopC (.nm 1) (evC (gs T (n + 1)) (.so (.nt (.call kS (.cons (.ix (.ix (.nm 0) (.nm 1)) (.int 0)) (.cons (.ix (.ix (.nm 0) (.nm 1)) (.int 1)) .nil)))))) (toD (vName 1)) [1] (rngD 0 rows.length) [.val (.lst rows), .no] = some ([], [.val (.lst rows), .no]) := by
    have := loopC_fm (tg := .nm 1) (cd := evC (gs T (n + 1)) (.so (.nt (.call kS (.cons (.ix (.ix (.nm 0) (.nm 1)) (.int 0)) (.cons (.ix (.ix (.nm 0) (.nm 1)) (.int 1)) .nil)))))) (elt := toD (vName 1)) (own := [1]) (env := [.val (.lst rows), .no]) (fun _ => false) id (ds := rngD 0 rows.length) (fun x hx => by
      obtain ⟨j, h0, h1, rfl⟩ := rng_mem hx
      refine ⟨[.val (.lst rows), .val (.int j)], [.val (.lst rows), .val (.int j)], by simp [bindT, wipeS], ?_, by simp [backS]⟩
      have e1 := atI_in h0 h1
      obtain ⟨a, ha, hp⟩ := hr _ (List.getElem_mem (l := rows) (n := j.toNat) (by omega))
      rw [ha] at e1
      have hc := s_same hS m a hp n hmn
      simp [evC, q_nt, vNot, q_call, tru, vCall, evEs, q_ix, q_nm, q_int, vOp, vName, rd, ixR, ixD, ixAt, e1, callE, gs_bor, hb, escs, esc, gs_call, hc, truD])
    exact this.trans (by simp)
  have hlc : (evB (gs T (n + 1)) (.lc (.nm 1) (.nm 1) (.rg1 (.bi .len (.cons (.nm 0) .nil))) (.so (.nt (.call kS (.cons (.ix (.ix (.nm 0) (.nm 1)) (.int 0)) (.cons (.ix (.ix (.nm 0) (.nm 1)) (.int 1)) .nil))))))).v [.val (.lst rows), .no] = some (.nw (.lst []), [.val (.lst rows), .no]) := by
    rw [q_lc]
    show vLc _ _ _ _ _ = _
    unfold vLc
    simp only [evI, iRg1, q_bi, vBi, evEs, q_nm, vName, intR]
    simp [rds, rd, biD, hrg, Tg.slots, unlock]
    rw [hC]
    simp [q_line0]
  unfold fnAll bAll
  walk_at "re"
def bLaw (L : Int) (kR kS kC : Nat) : Ss := (.cons (.for (.nm 1) (.rg1 (.bin .Add (.bi .min2 (.cons (.bi .len (.cons (.nm 0) .nil)) (.cons (.int L) .nil))) (.int 2))) (.cons (.ifs (.nt (.call kR (.cons (.call kS (.cons (.call kC (.cons (.nm 0) (.cons (.nm 1) .nil))) (.cons (.nm 1) .nil))) .nil))) (.cons (.ret (.bl false)) .nil) .nil) .nil)) (.cons (.ret (.bl true)) .nil))
def fnLaw (L : Int) (kR kS kC : Nat) : Fn := ⟨1, 2, false, bLaw L kR kS kC⟩
theorem s_law {k kR kS kC : Nat} {fR : Fn} {L : Int} (hL : 0 ≤ L ∧ L ≤ 10) (hk : T.fns k = some (fnLaw L kR kS kC)) (hR : T.fns kR = some fR) (hRb : fR.bor = true) (hS : T.fns kS = some fnSource) (hC : T.fns kC = some fnCell) {n : Nat}
    (h : ∀ a b : Int, ∃ x, callN T (n + 1) kR [.lst [.int a, .int b]] = some (.sh (.bl true), some x)) (ns : List Int) : callN T (n + 2) k [.lst (ns.map D.int)] = some (.sh (.bl true), none) := by
  have b1 : borT T kR = true := by rw [borT_of hR, hRb]
  have b2 : borT T kS = false := borT_of hS
  have b3 : borT T kC = false := borT_of hC
  rw [callN_succ, hk]
  have hbody : ∀ d ∈ rngD 0 ((if L < (ns.length : Int) then L else (ns.length : Int)) + 2), ∀ env, (∃ s, env = [.val (.lst (ns.map D.int)), s] ∧ (s = .no ∨ ∃ d, s = .val d)) → ∃ env1 env2, bindT (.nm 1) d env = some env1 ∧
      evSs (gs T (n + 1)) (.cons (.ifs (.nt (.call kR (.cons (.call kS (.cons (.call kC (.cons (.nm 0) (.cons (.nm 1) .nil))) (.cons (.nm 1) .nil))) .nil))) (.cons (.ret (.bl false)) .nil) .nil) .nil) env1 = some (.nx, env2) ∧ (∃ s, env2 = [.val (.lst (ns.map D.int)), s] ∧ (s = .no ∨ ∃ d, s = .val d)) := by
    rintro d hd env ⟨s, rfl, hs⟩
    obtain ⟨j, h0, h1, rfl⟩ := rng_mem hd
    have e1 : bindT (.nm 1) (.int j) [.val (.lst (ns.map D.int)), s] = some [.val (.lst (ns.map D.int)), .val (.int j)] := by
      rcases hs with rfl | ⟨d, rfl⟩ <;> rfl
    obtain ⟨c, hc⟩ := s_cell (n := n) hC ns j.toNat
    rw [show ((j.toNat : Nat) : Int) = j by omega] at hc
    obtain ⟨a, b, hs2⟩ := s_source (n := n) hS c j
    obtain ⟨x, hx⟩ := h a b
    refine ⟨_, _, e1, ?_, .val (.int j), rfl, .inr ⟨_, rfl⟩⟩
    simp [evSs, evS, sSeq, sIf, evT, q_nt, vNot, q_call, tru, vCall, evEs, q_nm, vName, callE, gs_bor, b1, b2, b3, escs, esc, gs_call, hc, hs2, hx, truD, rd]
  obtain ⟨env', e1, s, rfl, _⟩ := loopF_inv (fun env => ∃ s, env = [.val (.lst (ns.map D.int)), s] ∧ (s = .no ∨ ∃ d, s = .val d)) hbody (env := [.val (.lst (ns.map D.int)), .no]) ⟨.no, rfl, .inl rfl⟩
  have hi : evI (gs T (n + 1)) (.rg1 (.bin .Add (.bi .min2 (.cons (.bi .len (.cons (.nm 0) .nil)) (.cons (.int L) .nil))) (.int 2))) [.val (.lst (ns.map D.int)), .no] = some (rngD 0 ((if L < (ns.length : Int) then L else (ns.length : Int)) + 2), [.val (.lst (ns.map D.int)), .no], none) := by
    have hrg : rngOk ((if L < (ns.length : Int) then L else (ns.length : Int)) + 2) = true := by
      unfold rngOk
      rw [decide_eq_true_eq]
      split <;> omega
    show iRg1 _ _ = _
    unfold iRg1
    have hv : (evB (gs T (n + 1)) (.bin .Add (.bi .min2 (.cons (.bi .len (.cons (.nm 0) .nil)) (.cons (.int L) .nil))) (.int 2))).v [.val (.lst (ns.map D.int)), .no] = some (.sh (.int ((if L < (ns.length : Int) then L else (ns.length : Int)) + 2)), [.val (.lst (ns.map D.int)), .no]) := by
      walk_at "re"
    rw [hv]
    simp only [Option.bind_some, intR, rd]
    rw [if_pos hrg]
  have hf : evS (gs T (n + 1)) (.for (.nm 1) (.rg1 (.bin .Add (.bi .min2 (.cons (.bi .len (.cons (.nm 0) .nil)) (.cons (.int L) .nil))) (.int 2))) (.cons (.ifs (.nt (.call kR (.cons (.call kS (.cons (.call kC (.cons (.nm 0) (.cons (.nm 1) .nil))) (.cons (.nm 1) .nil))) .nil))) (.cons (.ret (.bl false)) .nil) .nil) .nil)) [.val (.lst (ns.map D.int)), .no] = some (.nx, [.val (.lst (ns.map D.int)), s]) := by
    show sFor _ _ _ _ = _
    unfold sFor
    rw [hi]
    show (loopF _ _ _ _).bind _ = _
    rw [e1]
    rfl
  have hb : evSs (gs T (n + 1)) (bLaw L kR kS kC) [.val (.lst (ns.map D.int)), .no] = some (.ret (.sh (.bl true)), [.val (.lst (ns.map D.int)), s]) := by
    show sSeq _ _ _ = _
    unfold sSeq
    rw [hf]
    rfl
  exact run_ret (fn := fnLaw L kR kS kC) rfl hb rfl rfl
end
end RE
set_option Elab.async false
set_option linter.all false
set_option maxRecDepth 100000
/-! Slices, comprehensions, while. -/
namespace RE
open PySem
theorem cut_from (ds : List D) (i : Nat) : cutD ds (some (i : Int)) none = ds.drop i := by
  unfold cutD
  rw [HT.sIx_nat, HT.sIx_none]
  by_cases h : i ≤ ds.length
  · rw [Nat.min_eq_left h, List.take_of_length_le (by simp)]
  · rw [Nat.min_eq_right (by omega), List.drop_of_length_le (by omega), List.drop_of_length_le (by omega)]
    simp
theorem cut_to (ds : List D) (i : Nat) : cutD ds none (some (i : Int)) = ds.take i := by
  unfold cutD
  rw [HT.sIx_nat, HT.sIx_none]
  simp only [List.drop_zero, Nat.sub_zero]
  by_cases h : i ≤ ds.length
  · rw [Nat.min_eq_left h]
  · rw [Nat.min_eq_right (by omega), List.take_of_length_le (by omega), List.take_of_length_le (by omega)]
section
variable {G : Gs} {env env1 : Sl}
theorem lc_val {elt : E} {tg : Tg} {it : I} {cd : EO} {items out : List D} {l : Option Nat} (hi : evI G it env = some (items, env1, l)) (hC : loopC tg (evC G cd) (toD (evB G elt).v) tg.slots items env1 = some (out, env1)) (hl : lineOk out.length = true) (hu : unlock l env1 = env) :
    (evB G (.lc elt tg it cd)).v env = some (.nw (.lst out), env) := by
  rw [show (evB G (.lc elt tg it cd)).v = vLc (evB G elt).v tg (evI G it) (evC G cd) from rfl]
  unfold vLc
  rw [hi]
  show (loopC _ _ _ _ _ _).bind _ = _
  rw [hC]
  show (if lineOk out.length = true then _ else _) = _
  rw [if_pos hl]
  show some (_, unlock l env1) = _
  rw [hu]
theorem evC_no (G : Gs) (env : Sl) : evC G .no env = some (true, env) := rfl
/-- no test, items told by f -/
theorem loopC_map {tg : Tg} {elt : Sl → Option (D × Sl)} {own : List Nat} {α : Type} (g : α → D) (f : α → D) {as : List α} (h : ∀ a ∈ as, ∃ env1 env3, bindT tg (g a) (wipeS env own) = some env1 ∧ elt env1 = some (f a, env3) ∧ backS env3 env own = env) :
    loopC tg (evC G .no) elt own (as.map g) env = some (as.map f, env) := by
  induction as with
  | nil => rfl
  | cons a as ih =>
    obtain ⟨env1, env3, e1, e2, e3⟩ := h a (List.mem_cons_self ..)
    have ih := ih fun a ha => h a (List.mem_cons_of_mem _ ha)
    rw [List.map_cons, List.map_cons]
    simp only [loopC, e1, Option.bind_some, evC_no, if_true, e2, e3, ih]
theorem loopM_map {tg : Tg} {inner : Sl → Option (List D × Sl)} {own : List Nat} {α : Type} (g : α → D) (f : α → List D) {as : List α} (h : ∀ a ∈ as, ∃ env1 env3, bindT tg (g a) (wipeS env own) = some env1 ∧ inner env1 = some (f a, env3) ∧ backS env3 env own = env) :
    loopM tg (evC G .no) inner own (as.map g) env = some (as.flatMap f, env) := by
  induction as with
  | nil => rfl
  | cons a as ih =>
    obtain ⟨env1, env3, e1, e2, e3⟩ := h a (List.mem_cons_self ..)
    have ih := ih fun a ha => h a (List.mem_cons_of_mem _ ha)
    rw [List.map_cons, List.flatMap_cons]
    simp only [loopM, e1, Option.bind_some, evC_no, if_true, e2, e3, ih]
/-- a while by its turns: I the states -/
theorem whl_by {c : Sl → Option (Bool × Sl)} {b : Sv} (I : Nat → Sl) {n : Nat} (hn : n < 1000000000) (h : ∀ i, i < n → c (I i) = some (true, I i) ∧ b (I i) = some (.nx, I (i + 1))) (he : c (I n) = some (false, I n)) : whileR c b (I 0) = some (.nx, I n) := by
  have key : ∀ i, i ≤ n → loopW c b 1000000000 (I 0) = loopW c b (1000000000 - i) (I i) := by
    intro i
    induction i with
    | zero => intro _; rfl
    | succ i ih =>
      intro hi
      rw [ih (by omega)]
      obtain ⟨h1, h2⟩ := h i (by omega)
      rw [show 1000000000 - i = (1000000000 - (i + 1)) + 1 by omega]
      simp only [loopW, h1, Option.bind_some, if_true, h2]
  unfold whileR
  rw [key n (Nat.le_refl n), show 1000000000 - n = (1000000000 - (n + 1)) + 1 by omega]
  simp only [loopW, he, Option.bind_some]
  rfl
end
theorem zip_map {α β : Type} (f : α → D) (g : β → D) : ∀ (as : List α) (bs : List β), zipD (as.map f) (bs.map g) = (as.zip bs).map fun p => .tup [f p.1, g p.2]
  | [], bs => by cases bs <;> rfl
  | a :: as, [] => rfl
  | a :: as, b :: bs => by
    rw [List.map_cons, List.map_cons, List.zip_cons_cons, List.map_cons, zipD, zip_map f g as bs]
end RE
set_option Elab.async false
set_option linter.all false
set_option maxRecDepth 100000
/-! Mirrors: plain typed functions beside the evaluator; a rule for each construct. -/
namespace RE
open PySem

/-! ### encodings -/
abbrev eL {α : Type} (f : α → D) (l : List α) : D := .lst (l.map f)
abbrev eT {α : Type} (f : α → D) (l : List α) : D := .tup (l.map f)
abbrev e1 {α : Type} (f : α → D) (p : α) : D := .tup [f p]
abbrev e2 {α β : Type} (f : α → D) (g : β → D) (p : α × β) : D := .tup [f p.1, g p.2]
abbrev e3 {α β γ : Type} (f : α → D) (g : β → D) (h : γ → D) (p : α × β × γ) : D := .tup [f p.1, g p.2.1, h p.2.2]
abbrev e4 {α β γ δ : Type} (f : α → D) (g : β → D) (h : γ → D) (k : δ → D) (p : α × β × γ × δ) : D := .tup [f p.1, g p.2.1, h p.2.2.1, k p.2.2.2]
abbrev e5 {α β γ δ ε : Type} (f : α → D) (g : β → D) (h : γ → D) (k : δ → D) (l : ε → D) (p : α × β × γ × δ × ε) : D := .tup [f p.1, g p.2.1, h p.2.2.1, k p.2.2.2.1, l p.2.2.2.2]
def eO {α : Type} (f : α → D) : Option α → D
  | none => .non
  | some a => f a
abbrev eD (d : D) : D := d

theorem bs {α β : Type} {m : Option α} {k : α → Option β} {r : β} (h : m.bind k = some r) : ∃ a, m = some a ∧ k a = some r := by
  cases m with
  | none => cases h
  | some a => exact ⟨a, rfl, h⟩
theorem ite_t {α : Type} {c : Bool} {a b : Option α} {r : α} (hc : c = true) (h : (if c = true then a else b) = some r) : a = some r := by rwa [if_pos hc] at h
theorem ite_f {α : Type} {c : Bool} {a b : Option α} {r : α} (hc : c = false) (h : (if c = true then a else b) = some r) : b = some r := by
  rw [if_neg (by rw [hc]; exact Bool.false_ne_true)] at h
  exact h
theorem sinj {α : Type} {a b : α} (h : some a = some b) : a = b := Option.some.inj h
theorem none_no {α : Type} {p : Prop} {r : α} (h : (none : Option α) = some r) : p := by cases h

/-! ### partial operations -/
def cmul (i j : Int) : Option Int := if mulOk i j = true then some (i * j) else none
def cdiv (i j : Int) : Option Int := if divOk j = true then some (i / j) else none
def cmod (i j : Int) : Option Int := if 0 < j then some (i % j) else none
def cpow (i j : Int) : Option Int := if powOk i j = true then some (i ^ j.toNat) else none
def cat {α : Type} (a b : List α) : Option (List α) := if lineOk (a.length + b.length) = true then some (a ++ b) else none
def getI {α : Type} (l : List α) (i : Int) : Option α := L2.atI l i
def chk {α : Type} (l : List α) : Option (List α) := if lineOk l.length = true then some l else none
def push {α : Type} (l : List α) (x : α) : Option (List α) := if l.length < 16777216 then some (l ++ [x]) else none
def setI {α : Type} (l : List α) (i : Int) (x : α) : Option (List α) := (L2.ixN l.length i).map fun n => l.set n x
def rngI (lo hi : Int) : List Int := (List.range (hi - lo).toNat).map fun (k : Nat) => lo + (k : Int)
def crng1 (hi : Int) : Option (List Int) := if rngOk hi = true then some (rngI 0 hi) else none
def crng2 (lo hi : Int) : Option (List Int) := if (rngOk lo && rngOk hi) = true then some (rngI lo hi) else none
def cutL {α : Type} (l : List α) (lo hi : Option Int) : List α := (l.drop (HT.sIx l.length 0 lo)).take (HT.sIx l.length l.length hi - HT.sIx l.length 0 lo)
def stpI {α : Type} (k : Int) (l : List α) : List α := (List.range (Builtin.Slice.slicePlaces 0 l.length k)).filterMap fun (m : Nat) => l[(0 + (m : Int) * k).toNat]?
theorem o_mul {i j k : Int} (h : cmul i j = some k) : binD .Mult (.int i) (.int j) = some (.sh (.int k)) := by
  unfold cmul at h
  show (if mulOk i j = true then _ else _) = _
  split at h
  · rw [if_pos ‹_›, sinj h]
  · cases h
theorem o_div {i j k : Int} (h : cdiv i j = some k) : binD .FloorDiv (.int i) (.int j) = some (.sh (.int k)) := by
  unfold cdiv at h
  show (if divOk j = true then _ else _) = _
  split at h
  · rw [if_pos ‹_›, sinj h]
  · cases h
theorem o_mod {i j k : Int} (h : cmod i j = some k) : binD .Mod (.int i) (.int j) = some (.sh (.int k)) := by
  unfold cmod at h
  show (if 0 < j then _ else _) = _
  split at h
  · rw [if_pos ‹_›, sinj h]
  · cases h
theorem o_pow {i j k : Int} (h : cpow i j = some k) : binD .Pow (.int i) (.int j) = some (.sh (.int k)) := by
  unfold cpow at h
  show (if powOk i j = true then _ else _) = _
  split at h
  · rw [if_pos ‹_›, sinj h]
  · cases h
section
variable {α β γ : Type}
theorem o_catL {f : α → D} {a b c : List α} (h : cat a b = some c) : binD .Add (eL f a) (eL f b) = some (.nw (eL f c)) := by
  unfold cat at h
  show (if lineOk ((a.map f).length + (b.map f).length) = true then _ else _) = _
  simp only [List.length_map]
  split at h
  · rw [if_pos ‹_›, ← sinj h, eL, List.map_append]
  · cases h
theorem o_catT {f : α → D} {a b c : List α} (h : cat a b = some c) : binD .Add (eT f a) (eT f b) = some (.sh (eT f c)) := by
  unfold cat at h
  show (if lineOk ((a.map f).length + (b.map f).length) = true then _ else _) = _
  simp only [List.length_map]
  split at h
  · rw [if_pos ‹_›, ← sinj h, eT, List.map_append]
  · cases h
theorem atI_map (f : α → β) (l : List α) (i : Int) : L2.atI (l.map f) i = (L2.atI l i).map f := by
  unfold L2.atI
  rw [List.length_map]
  cases L2.ixN l.length i with
  | none => rfl
  | some n => simp
theorem o_ixL {f : α → D} {l : List α} {i : Int} {a : α} (h : getI l i = some a) : ixR (eL f l) (.int i) = some (.sh (f a)) := by
  show (L2.atI (l.map f) i).bind _ = _
  rw [atI_map, show L2.atI l i = some a from h]
  rfl
theorem o_ixT {f : α → D} {l : List α} {i : Int} {a : α} (h : getI l i = some a) : ixR (eT f l) (.int i) = some (.sh (f a)) := by
  show (L2.atI (l.map f) i).bind _ = _
  rw [atI_map, show L2.atI l i = some a from h]
  rfl
theorem map_cut (f : α → D) (l : List α) (lo hi : Option Int) : cutD (l.map f) lo hi = (cutL l lo hi).map f := by
  unfold cutD cutL
  rw [List.length_map, List.map_take, List.map_drop]
theorem o_slcL {f : α → D} {l : List α} {lo hi : Option Int} : slcD (eL f l) lo hi = some (.nw (eL f (cutL l lo hi))) := by
  show some (Rv.nw (.lst (cutD (l.map f) lo hi))) = _
  rw [map_cut]
theorem o_slcT {f : α → D} {l : List α} {lo hi : Option Int} : slcD (eT f l) lo hi = some (.sh (eT f (cutL l lo hi))) := by
  show some (Rv.sh (.tup (cutD (l.map f) lo hi))) = _
  rw [map_cut]
theorem o_revL {f : α → D} {l : List α} : revD (eL f l) = some (.nw (eL f l.reverse)) := by
  show some (Rv.nw (.lst (l.map f).reverse)) = _
  rw [eL, List.map_reverse]
theorem o_revT {f : α → D} {l : List α} : revD (eT f l) = some (.sh (eT f l.reverse)) := by
  show some (Rv.sh (.tup (l.map f).reverse)) = _
  rw [eT, List.map_reverse]
theorem o_stp {f : α → D} {l : List α} {k : Int} (hk : 2 ≤ k) : stpD k (eT f l) = some (.sh (eT f (stpI k l))) := by
  show (if 2 ≤ k then some (Rv.sh (.tup (stpL k (l.map f)))) else none) = _
  rw [if_pos hk]
  unfold stpL stpI
  rw [List.length_map, eT, List.map_filterMap]
  congr 3
  simp only [List.getElem?_map]
theorem o_lenL {f : α → D} {l : List α} : biD .len [eL f l] = some (.sh (.int (l.length : Int))) := by
  show some (Rv.sh (.int (l.map f).length)) = _
  rw [List.length_map]
theorem o_lenT {f : α → D} {l : List α} : biD .len [eT f l] = some (.sh (.int (l.length : Int))) := by
  show some (Rv.sh (.int (l.map f).length)) = _
  rw [List.length_map]
theorem boolsOf_map (l : List Bool) : boolsOf (l.map D.bl) = some l := by
  induction l with
  | nil => rfl
  | cons b l ih => simp [boolsOf, ih]
theorem o_any {l : List Bool} : biD .any [eL D.bl l] = some (.sh (.bl (l.any id))) := by
  show (boolsOf (l.map D.bl)).bind _ = _
  rw [boolsOf_map]
  rfl
theorem o_all {l : List Bool} : biD .all [eL D.bl l] = some (.sh (.bl (l.all id))) := by
  show (boolsOf (l.map D.bl)).bind _ = _
  rw [boolsOf_map]
  rfl
theorem o_ixP {ds : List D} {i : Int} {d : D} (h : L2.atI ds i = some d) : ixR (.tup ds) (.int i) = some (.sh d) := by
  show (L2.atI ds i).bind _ = _
  rw [h]
  rfl
theorem rngD_map (lo hi : Int) : rngD lo hi = (rngI lo hi).map D.int := by
  unfold rngD rngI
  rw [List.map_map]
  rfl

/-! ### equality -/
structure Py (f : α → D) (k : Nat) (py : α → PyData) : Prop where
  to : ∀ a, toPy (f a) = some (py a)
  lay : ∀ a, (py a).canLay0 = true
  dep : ∀ a, (py a).depth ≤ k
  eqv : ∀ a b, PyData.eqv (py a) (py b) = true ↔ a = b
theorem py_int : Py D.int 0 PyData.int where
  to _ := by simp [toPy]
  lay _ := by simp [PyData.canLay0]
  dep _ := by simp [PyData.depth]
  eqv a b := by simp [PyData.eqv]
theorem py_bl : Py D.bl 0 PyData.bool where
  to _ := by simp [toPy]
  lay _ := by simp [PyData.canLay0]
  dep _ := by simp [PyData.depth]
  eqv a b := by simp [PyData.eqv]
theorem toPys_map {f : α → D} {py : α → PyData} (h : ∀ a, toPy (f a) = some (py a)) : ∀ l : List α, toPys (l.map f) = some (l.map py)
  | [] => by simp [toPys]
  | a :: l => by simp [toPys, h a, toPys_map h l]
theorem canAll_map {py : α → PyData} (h : ∀ a, (py a).canLay0 = true) : ∀ l : List α, PyData.canLayAll0 (l.map py) = true
  | [] => by simp [PyData.canLayAll0]
  | a :: l => by simp [PyData.canLayAll0, h a, canAll_map h l]
theorem depAll_map {py : α → PyData} {k : Nat} (h : ∀ a, (py a).depth ≤ k) : ∀ l : List α, PyData.depthAll (l.map py) ≤ k
  | [] => by simp [PyData.depthAll]
  | a :: l => by
    have h1 := h a
    have h2 := depAll_map h l
    simp only [List.map_cons, PyData.depthAll]
    omega
theorem eqvAll_map {py : α → PyData} (h : ∀ a b, PyData.eqv (py a) (py b) = true ↔ a = b) : ∀ l m : List α, PyData.eqvAll (l.map py) (m.map py) = true ↔ l = m
  | [], [] => by simp [PyData.eqvAll]
  | [], b :: m => by simp [PyData.eqvAll]
  | a :: l, [] => by simp [PyData.eqvAll]
  | a :: l, b :: m => by simp [PyData.eqvAll, h a b, eqvAll_map h l m]
theorem py_L {f : α → D} {k : Nat} {py : α → PyData} (h : Py f k py) : Py (eL f) (k + 1) (fun l => .list (l.map py)) where
  to l := by simp [toPy, toPys_map h.to]
  lay l := by simp [PyData.canLay0, canAll_map h.lay]
  dep l := by have := depAll_map h.dep l; simp [PyData.depth]; omega
  eqv l m := by simp only [PyData.eqv]; exact eqvAll_map h.eqv l m
theorem py_T {f : α → D} {k : Nat} {py : α → PyData} (h : Py f k py) : Py (eT f) (k + 1) (fun l => .tuple (l.map py)) where
  to l := by simp [toPy, toPys_map h.to]
  lay l := by simp [PyData.canLay0, canAll_map h.lay]
  dep l := by have := depAll_map h.dep l; simp [PyData.depth]; omega
  eqv l m := by simp only [PyData.eqv]; exact eqvAll_map h.eqv l m
theorem py_2 {f : α → D} {g : β → D} {k l : Nat} {pf : α → PyData} {pg : β → PyData} (h : Py f k pf) (h2 : Py g l pg) : Py (e2 f g) (max k l + 1) (fun p => .tuple [pf p.1, pg p.2]) where
  to p := by simp [toPy, toPys, h.to, h2.to]
  lay p := by simp [PyData.canLay0, PyData.canLayAll0, h.lay, h2.lay]
  dep p := by
    have := h.dep p.1
    have := h2.dep p.2
    simp [PyData.depth, PyData.depthAll]
    omega
  eqv p q := by simp [PyData.eqv, PyData.eqvAll, h.eqv, h2.eqv, Prod.ext_iff]
theorem py_3 {f : α → D} {g : β → D} {m : γ → D} {k l j : Nat} {pf : α → PyData} {pg : β → PyData} {pm : γ → PyData} (h : Py f k pf) (h2 : Py g l pg) (h3 : Py m j pm) : Py (e3 f g m) (max k (max l j) + 1) (fun p => .tuple [pf p.1, pg p.2.1, pm p.2.2]) where
  to p := by simp [toPy, toPys, h.to, h2.to, h3.to]
  lay p := by simp [PyData.canLay0, PyData.canLayAll0, h.lay, h2.lay, h3.lay]
  dep p := by
    have := h.dep p.1
    have := h2.dep p.2.1
    have := h3.dep p.2.2
    simp [PyData.depth, PyData.depthAll]
    omega
  eqv p q := by simp [PyData.eqv, PyData.eqvAll, h.eqv, h2.eqv, h3.eqv, Prod.ext_iff]
theorem eqDeep_py {f : α → D} {k : Nat} {py : α → PyData} (h : Py f k py) (hk : k ≤ 64) [DecidableEq α] (a b : α) : eqDeep (f a) (f b) = some (decide (a = b)) := by
  unfold eqDeep
  have h1 := h.dep a
  have h2 := h.dep b
  have s1 : SeqAt.shaped (py a) = true := by simp [SeqAt.shaped, h.lay]; omega
  have s2 : SeqAt.shaped (py b) = true := by simp [SeqAt.shaped, h.lay]; omega
  rw [h.to, h.to]
  simp only [Option.bind_some, s1, s2, Bool.and_self, if_true]
  congr 1
  rw [Bool.eq_iff_iff, h.eqv, decide_eq_true_eq]
theorem q_L {f : α → D} {k : Nat} {py : α → PyData} [DecidableEq α] (h : Py f k py) (hk : k ≤ 63) (a b : List α) : eqD (eL f a) (eL f b) = some (decide (a = b)) := eqDeep_py (py_L h) (by omega) a b
theorem q_T {f : α → D} {k : Nat} {py : α → PyData} [DecidableEq α] (h : Py f k py) (hk : k ≤ 63) (a b : List α) : eqD (eT f a) (eT f b) = some (decide (a = b)) := eqDeep_py (py_T h) (by omega) a b
theorem q_2 {f : α → D} {g : β → D} {k l : Nat} {pf : α → PyData} {pg : β → PyData} [DecidableEq α] [DecidableEq β] (h : Py f k pf) (h2 : Py g l pg) (hk : k ≤ 63) (hl : l ≤ 63) (a b : α × β) : eqD (e2 f g a) (e2 f g b) = some (decide (a = b)) := eqDeep_py (py_2 h h2) (by omega) a b
theorem q_3 {f : α → D} {g : β → D} {m : γ → D} {k l j : Nat} {pf : α → PyData} {pg : β → PyData} {pm : γ → PyData} [DecidableEq α] [DecidableEq β] [DecidableEq γ] (h : Py f k pf) (h2 : Py g l pg) (h3 : Py m j pm) (hk : k ≤ 63) (hl : l ≤ 63) (hj : j ≤ 63) (a b : α × β × γ) : eqD (e3 f g m a) (e3 f g m b) = some (decide (a = b)) := eqDeep_py (py_3 h h2 h3) (by omega) a b
theorem o_eq {x y : D} {b : Bool} (h : eqD x y = some b) : cmpR .Eq x y = some (.sh (.bl b)) := by
  show (eqD x y).bind _ = _
  rw [h]; rfl
theorem o_ne {x y : D} {b : Bool} (h : eqD x y = some b) : cmpR .NotEq x y = some (.sh (.bl (!b))) := by
  show ((eqD x y).bind _).bind _ = _
  rw [h]; rfl
end

/-! ### expressions -/
section
variable {G : Gs}
abbrev X (G : Gs) (e : E) (env : Sl) (r : Rv) (env' : Sl) : Prop := (evB G e).v env = some (r, env')
abbrev Tt (G : Gs) (e : E) (env : Sl) (b : Bool) (env' : Sl) : Prop := (evB G e).t env = some (b, env')
abbrev Xs (G : Gs) (es : Es) (env : Sl) (rs : List Rv) (env' : Sl) : Prop := evEs G es env = some (rs, env')
theorem x_int {env : Sl} {i : Int} : X G (.int i) env (.sh (.int i)) env := rfl
theorem x_bl {env : Sl} {i : Bool} : X G (.bl i) env (.sh (.bl i)) env := rfl
theorem x_non {env : Sl} : X G .non env (.sh .non) env := rfl
theorem x_str {env : Sl} {i : Str} : X G (.str i) env (.sh (.str i)) env := rfl
theorem x_nm {env : Sl} {i : Nat} {d : D} (h : env[i]? = some (.val d)) : X G (.nm i) env (.sh d) env := by
  show vName i env = _
  unfold vName
  rw [h]
theorem x_nmM {env : Sl} {i : Nat} {d : D} {k : Kd} (h : env[i]? = some (.mu k d)) : X G (.nm i) env (.sl i) env := by
  show vName i env = _
  unfold vName
  rw [h]
theorem x_gv {env : Sl} {k : Nat} {d : D} (h : G.glob k = some d) : X G (.gv k) env (.sh d) env := by
  show (G.glob k).bind _ = _
  rw [h]
  rfl
theorem rd_mu {env : Sl} {i : Nat} {d : D} {k : Kd} (h : env[i]? = some (.mu k d)) : rd (.sl i) env = some d := by
  show (match env[i]? with
    | some (.mu _ d) => some d
    | some (.val d) => some d
    | _ => none) = _
  rw [h]
theorem x_bin {op : Operator} {a b : E} {env env1 env2 : Sl} {ra rb r : Rv} {x y : D} (ha : X G a env ra env1) (hb : X G b env1 rb env2) (h1 : rd ra env2 = some x) (h2 : rd rb env2 = some y) (h : binD op x y = some r) : X G (.bin op a b) env r env2 := by
  show vOp _ _ _ _ = _
  simp only [vOp, ha, hb, h1, h2, h, Option.bind_some]
theorem x_cmp {op : CmpOp} {a b : E} {env env1 env2 : Sl} {ra rb r : Rv} {x y : D} (ha : X G a env ra env1) (hb : X G b env1 rb env2) (h1 : rd ra env2 = some x) (h2 : rd rb env2 = some y) (h : cmpR op x y = some r) : X G (.cmp op a b) env r env2 := by
  show vOp _ _ _ _ = _
  simp only [vOp, ha, hb, h1, h2, h, Option.bind_some]
theorem x_ix {a b : E} {env env1 env2 : Sl} {ra rb r : Rv} {x y : D} (ha : X G a env ra env1) (hb : X G b env1 rb env2) (h1 : rd ra env2 = some x) (h2 : rd rb env2 = some y) (h : ixR x y = some r) : X G (.ix a b) env r env2 := by
  show vOp _ _ _ _ = _
  simp only [vOp, ha, hb, h1, h2, h, Option.bind_some]
theorem x_neg {a : E} {env env1 : Sl} {ra r : Rv} {x : D} (ha : X G a env ra env1) (h1 : rd ra env1 = some x) (h : negD x = some r) : X G (.neg a) env r env1 := by
  show vUn _ _ _ = _
  simp only [vUn, ha, h1, h, Option.bind_some]
theorem x_rev {a : E} {env env1 : Sl} {ra r : Rv} {x : D} (ha : X G a env ra env1) (h1 : rd ra env1 = some x) (h : revD x = some r) : X G (.rev a) env r env1 := by
  show vUn _ _ _ = _
  simp only [vUn, ha, h1, h, Option.bind_some]
theorem x_stp {a : E} {k : Int} {env env1 : Sl} {ra r : Rv} {x : D} (ha : X G a env ra env1) (h1 : rd ra env1 = some x) (h : stpD k x = some r) : X G (.stp a k) env r env1 := by
  show vUn _ _ _ = _
  simp only [vUn, ha, h1, h, Option.bind_some]
theorem x_fld {f : Str} {a : E} {env env1 : Sl} {ra r : Rv} {x : D} (ha : X G a env ra env1) (h1 : rd ra env1 = some x) (h : fldD (fun c => G.hasF c f) f x = some r) : X G (.fld f a) env r env1 := by
  show vUn _ _ _ = _
  simp only [vUn, ha, h1, h, Option.bind_some]
theorem x_isi {a : E} {t : Ty} {env env1 : Sl} {ra : Rv} {x : D} {b : Bool} (ha : X G a env ra env1) (h1 : rd ra env1 = some x) (h : isiD x t = some b) : X G (.isi a t) env (.sh (.bl b)) env1 := by
  show vUn _ _ _ = _
  simp only [vUn, ha, h1, h, Option.bind_some]
theorem x_ch2 {op op' : CmpOp} {a b c : E} {env env1 env2 : Sl} {ra rb rc : Rv} {x y z : D} {p q : Bool} (ha : X G a env ra env1) (hb : X G b env1 rb env2) (h1 : rd ra env2 = some x) (h2 : rd rb env2 = some y) (h : cmpD op x y = some p)
    (hc : X G c env2 rc env2) (h3 : rd rc env2 = some z) (h' : cmpD op' y z = some q) : X G (.ch2 op op' a b c) env (.sh (.bl (p && q))) env2 := by
  show vCh2 _ _ _ _ _ _ = _
  simp only [vCh2, ha, hb, h1, h2, h, Option.bind_some]
  cases p
  · rfl
  · simp only [if_true, hc, h2, h3, h', Option.bind_some, Bool.true_and]
theorem xs_nil {env : Sl} : Xs G .nil env [] env := rfl
theorem xs_cons {e : E} {es : Es} {env env1 env2 : Sl} {r : Rv} {rs : List Rv} (h : X G e env r env1) (hs : Xs G es env1 rs env2) : Xs G (.cons e es) env (r :: rs) env2 := by
  show ((evB G e).v env).bind _ = _
  simp only [h, Option.bind_some, hs]
theorem x_tup {es : Es} {env env1 env2 : Sl} {rs : List Rv} {ds : List D} (h : Xs G es env rs env1) (h2 : escs rs env1 = some (ds, env2)) (hl : lineOk ds.length = true) : X G (.tup es) env (.sh (.tup ds)) env2 := by
  show vTup _ _ = _
  simp only [vTup, h, h2, hl, Option.bind_some, if_true]
theorem x_lst {es : Es} {env env1 env2 : Sl} {rs : List Rv} {ds : List D} (h : Xs G es env rs env1) (h2 : escs rs env1 = some (ds, env2)) (hl : lineOk ds.length = true) : X G (.lst es) env (.nw (.lst ds)) env2 := by
  show vLst _ _ = _
  simp only [vLst, h, h2, hl, Option.bind_some, if_true]
theorem x_bi {b : Bi} {es : Es} {env env1 : Sl} {rs : List Rv} {ds : List D} {r : Rv} (h : Xs G es env rs env1) (h2 : rds rs env1 = some ds) (h3 : biD b ds = some r) : X G (.bi b es) env r env1 := by
  show vBi _ _ _ = _
  simp only [vBi, h, h2, h3, Option.bind_some]
theorem x_call {k : Nat} {es : Es} {env env1 env2 : Sl} {rs : List Rv} {ds : List D} {r : Rv} {o : Option D} (hb : G.bor k = false) (h : Xs G es env rs env1) (h2 : escs rs env1 = some (ds, env2)) (hc : G.call k ds = some (r, o)) : X G (.call k es) env r env2 := by
  show vCall _ _ _ _ = _
  simp only [vCall, callE, h, hb, h2, hc, Option.bind_some, Bool.false_eq_true, if_false]
theorem x_callB {k i : Nat} {es : Es} {env env1 env2 : Sl} {rs : List Rv} {ds : List D} {d d' : D} {r : Rv} (hb : G.bor k = true) (h : Xs G es env (.sl i :: rs) env1) (h2 : escs rs env1 = some (ds, env2)) (h3 : env2[i]? = some (.mu .bor d)) (hc : G.call k (d :: ds) = some (r, some d')) : X G (.call k es) env r (env2.set i (.mu .bor d')) := by
  show vCall _ _ _ _ = _
  simp only [vCall, callE, h, hb, h2, h3, hc, Option.bind_some, if_true]
theorem x_mk {c : Nat} {es : Es} {env env1 env2 : Sl} {rs : List Rv} {ds : List D} {d : D} (h : Xs G es env rs env1) (h2 : escs rs env1 = some (ds, env2)) (hc : G.make c ds = some d) : X G (.mk c es) env (.sh d) env2 := by
  show vMk _ _ _ _ = _
  simp only [vMk, h, h2, hc, Option.bind_some]
theorem x_meth {m : Str} {o : E} {es : Es} {env env1 env2 env3 : Sl} {c k : Nat} {fs : List Str} {ds as : List D} {rs : List Rv} {r : Rv} {z : Option D} (ho : X G o env (.sh (.ins c fs ds)) env1) (he : Xs G es env1 rs env2) (hm : G.meth c m = some k) (hb : G.bor k = false) (hn : fs.contains m = false)
    (h2 : escs rs env2 = some (as, env3)) (hc : G.call k (.ins c fs ds :: as) = some (r, z)) : X G (.meth m o es) env r env3 := by
  show vMeth _ _ _ _ _ = _
  simp only [vMeth, ho, he, hm, hb, hn, callE, escs, esc, h2, hc, Option.bind_some, Bool.or_self, Bool.false_eq_true, if_false]
theorem x_nt {a : E} {env env1 : Sl} {ra : Rv} {b : Bool} (ha : X G a env ra env1) (h1 : rd ra env1 = some (.bl b)) : X G (.nt a) env (.sh (.bl (!b))) env1 := by
  show vUn notB _ _ = _
  simp only [vUn, ha, h1, notB, Option.bind_some]
/-- a test of a value -/
theorem t_v {e : E} {env env1 : Sl} {r : Rv} {d : D} {b : Bool} (he : (evB G e).t = tru (evB G e).v) (h : X G e env r env1) (h1 : rd r env1 = some d) (h2 : truD d = some b) : Tt G e env b env1 := by
  show (evB G e).t env = _
  rw [he]
  simp only [tru, h, h1, h2, Option.bind_some]
theorem t_nt {a : E} {env env1 : Sl} {b : Bool} (ha : Tt G a env b env1) : Tt G (.nt a) env (!b) env1 := by
  show vNot _ _ = _
  simp only [vNot, ha, Option.bind_some]
theorem truL {α : Type} {f : α → D} {l : List α} : truD (eL f l) = some (!l.isEmpty) := by
  show some (!(l.map f).isEmpty) = _
  cases l <;> rfl
theorem truT {α : Type} {f : α → D} {l : List α} : truD (eT f l) = some (!l.isEmpty) := by
  show some (!(l.map f).isEmpty) = _
  cases l <;> rfl
theorem ta_one {a : E} {env : Sl} {b : Bool} (ha : Tt G a env b env) : evTAnd G (.cons a .nil) env = some (b, env) := by
  show tAnd2 _ _ _ = _
  simp only [tAnd2, ha, Option.bind_some]
  cases b <;> rfl
theorem ta_cons {a : E} {es : Es} {env : Sl} {b c : Bool} (ha : Tt G a env b env) (hs : b = true → evTAnd G es env = some (c, env)) : evTAnd G (.cons a es) env = some (b && c, env) := by
  show tAnd2 _ _ _ = _
  simp only [tAnd2, ha, Option.bind_some]
  cases b
  · rfl
  · rw [if_pos rfl, hs rfl]; rfl
theorem to_one {a : E} {env : Sl} {b : Bool} (ha : Tt G a env b env) : evTOr G (.cons a .nil) env = some (b, env) := by
  show tOr2 _ _ _ = _
  simp only [tOr2, ha, Option.bind_some]
  cases b <;> rfl
theorem to_cons {a : E} {es : Es} {env : Sl} {b c : Bool} (ha : Tt G a env b env) (hs : b = false → evTOr G es env = some (c, env)) : evTOr G (.cons a es) env = some (b || c, env) := by
  show tOr2 _ _ _ = _
  simp only [tOr2, ha, Option.bind_some]
  cases b
  · simp only [Bool.false_eq_true, if_false, Bool.false_or]; exact hs rfl
  · rfl
theorem t_and {es : Es} {env : Sl} {b : Bool} (h : evTAnd G es env = some (b, env)) : Tt G (.and es) env b env := h
theorem t_or {es : Es} {env : Sl} {b : Bool} (h : evTOr G es env = some (b, env)) : Tt G (.or es) env b env := h
theorem va_one {a : E} {env : Sl} {r : Rv} (ha : X G a env r env) : evAnd G (.cons a .nil) env = some (r, env) := ha
theorem va_cons {a e : E} {es : Es} {env : Sl} {b c : Bool} (ha : X G a env (.sh (.bl b)) env) (hs : b = true → evAnd G (.cons e es) env = some (.sh (.bl c), env)) : evAnd G (.cons a (.cons e es)) env = some (.sh (.bl (b && c)), env) := by
  show vAnd2 _ _ _ = _
  simp only [vAnd2, ha, Option.bind_some]
  cases b
  · rfl
  · rw [if_pos rfl, hs rfl]; rfl
theorem vo_one {a : E} {env : Sl} {r : Rv} (ha : X G a env r env) : evOr G (.cons a .nil) env = some (r, env) := ha
theorem vo_cons {a e : E} {es : Es} {env : Sl} {b c : Bool} (ha : X G a env (.sh (.bl b)) env) (hs : b = false → evOr G (.cons e es) env = some (.sh (.bl c), env)) : evOr G (.cons a (.cons e es)) env = some (.sh (.bl (b || c)), env) := by
  show vOr2 _ _ _ = _
  simp only [vOr2, ha, Option.bind_some]
  cases b
  · simp only [Bool.false_eq_true, if_false, Bool.false_or]; exact hs rfl
  · rfl
theorem x_and {es : Es} {env : Sl} {r : Rv} (h : evAnd G es env = some (r, env)) : X G (.and es) env r env := h
theorem x_or {es : Es} {env : Sl} {r : Rv} (h : evOr G es env = some (r, env)) : X G (.or es) env r env := h
theorem x_ife {α : Type} {c a b : E} {env : Sl} {t : Bool} (f : α → D) {x y : α} (hc : Tt G c env t env) (ha : t = true → X G a env (.sh (f x)) env) (hb : t = false → X G b env (.sh (f y)) env) : X G (.ife c a b) env (.sh (f (if t = true then x else y))) env := by
  show vIf _ _ _ _ = _
  simp only [vIf, hc, Option.bind_some]
  cases t
  · simp only [Bool.false_eq_true, if_false]; exact hb rfl
  · simp only [if_true]; exact ha rfl
/-- some parts may be none -/
def andM (a : Bool) (m : Option Bool) : Option Bool := if a = true then m else some false
def orM (a : Bool) (m : Option Bool) : Option Bool := if a = true then some true else m
def ifM {α : Type} (c : Bool) (a b : Option α) : Option α := if c = true then a else b
theorem ta_consM {a : E} {es : Es} {env : Sl} {b c : Bool} {m : Option Bool} (h : andM b m = some c) (ha : Tt G a env b env) (hs : b = true → ∀ c, m = some c → evTAnd G es env = some (c, env)) : evTAnd G (.cons a es) env = some (c, env) := by
  unfold andM at h
  have := ta_cons (c := c) ha fun hb => hs hb c (by rwa [if_pos hb] at h)
  rw [this]
  cases b
  · simp at h; simp [← h]
  · rfl
theorem to_consM {a : E} {es : Es} {env : Sl} {b c : Bool} {m : Option Bool} (h : orM b m = some c) (ha : Tt G a env b env) (hs : b = false → ∀ c, m = some c → evTOr G es env = some (c, env)) : evTOr G (.cons a es) env = some (c, env) := by
  unfold orM at h
  have := to_cons (c := c) ha fun hb => hs hb c (by rw [hb] at h; simpa using h)
  rw [this]
  cases b
  · rfl
  · simp at h; simp [← h]
theorem va_consM {a e : E} {es : Es} {env : Sl} {b c : Bool} {m : Option Bool} (h : andM b m = some c) (ha : X G a env (.sh (.bl b)) env) (hs : b = true → ∀ c, m = some c → evAnd G (.cons e es) env = some (.sh (.bl c), env)) : evAnd G (.cons a (.cons e es)) env = some (.sh (.bl c), env) := by
  unfold andM at h
  have := va_cons (c := c) ha fun hb => hs hb c (by rwa [if_pos hb] at h)
  rw [this]
  cases b
  · simp at h; simp [← h]
  · rfl
theorem vo_consM {a e : E} {es : Es} {env : Sl} {b c : Bool} {m : Option Bool} (h : orM b m = some c) (ha : X G a env (.sh (.bl b)) env) (hs : b = false → ∀ c, m = some c → evOr G (.cons e es) env = some (.sh (.bl c), env)) : evOr G (.cons a (.cons e es)) env = some (.sh (.bl c), env) := by
  unfold orM at h
  have := vo_cons (c := c) ha fun hb => hs hb c (by rw [hb] at h; simpa using h)
  rw [this]
  cases b
  · rfl
  · simp at h; simp [← h]
theorem x_ifeM {α : Type} {c a b : E} {env : Sl} {t : Bool} (f : α → D) {mx my : Option α} {z : α} (h : ifM t mx my = some z) (hc : Tt G c env t env) (ha : t = true → ∀ x, mx = some x → X G a env (.sh (f x)) env) (hb : t = false → ∀ y, my = some y → X G b env (.sh (f y)) env) : X G (.ife c a b) env (.sh (f z)) env := by
  show vIf _ _ _ _ = _
  simp only [vIf, hc, Option.bind_some]
  unfold ifM at h
  cases t
  · simp only [Bool.false_eq_true, if_false] at h ⊢; exact hb rfl _ h
  · simp only [if_true] at h ⊢; exact ha rfl _ h
theorem t_ife {c a b : E} {env : Sl} {t x y : Bool} (hc : Tt G c env t env) (ha : t = true → Tt G a env x env) (hb : t = false → Tt G b env y env) : Tt G (.ife c a b) env (if t = true then x else y) env := by
  show tIf _ _ _ _ = _
  simp only [tIf, hc, Option.bind_some]
  cases t
  · simp only [Bool.false_eq_true, if_false]; exact hb rfl
  · simp only [if_true]; exact ha rfl
/-! slices -/
theorem eo_no {env : Sl} : evO G .no env = some (none, env) := rfl
theorem eo_so {e : E} {env env1 : Sl} {r : Rv} {i : Int} (h : X G e env r env1) (h1 : rd r env1 = some (.int i)) : evO G (.so e) env = some (some i, env1) := by
  show ((evB G e).v env).bind _ = _
  simp only [h, Option.bind_some, intR, h1]
theorem x_slc {a : E} {lo hi : EO} {env env1 env2 env3 : Sl} {ra r : Rv} {l h : Option Int} {x : D} (ha : X G a env ra env1) (hl : evO G lo env1 = some (l, env2)) (hh : evO G hi env2 = some (h, env3)) (h1 : rd ra env3 = some x) (h2 : slcD x l h = some r) : X G (.slc a lo hi) env r env3 := by
  show vSlc _ _ _ _ = _
  simp only [vSlc, ha, hl, hh, h1, h2, Option.bind_some]
/-! what is walked -/
theorem i_rg1 {a : E} {env env1 : Sl} {r : Rv} {j : Int} {l : List Int} (h : crng1 j = some l) (ha : X G a env r env1) (h1 : rd r env1 = some (.int j)) : evI G (.rg1 a) env = some (l.map D.int, env1, none) := by
  show iRg1 _ _ = _
  unfold crng1 at h
  split at h
  · rename_i hr
    simp only [iRg1, ha, intR, h1, Option.bind_some, hr, if_true, rngD_map, ← sinj h]
  · cases h
theorem i_rg2 {a b : E} {env env1 env2 : Sl} {ra rb : Rv} {i j : Int} {l : List Int} (h : crng2 i j = some l) (ha : X G a env ra env1) (hb : X G b env1 rb env2) (h1 : rd ra env2 = some (.int i)) (h2 : rd rb env2 = some (.int j)) : evI G (.rg2 a b) env = some (l.map D.int, env2, none) := by
  show iRg2 _ _ _ = _
  unfold crng2 at h
  split at h
  · rename_i hr
    simp only [iRg2, ha, hb, intR, h1, h2, Option.bind_some, hr, if_true, rngD_map, ← sinj h]
  · cases h
theorem i_of {a : E} {env env1 env2 : Sl} {r : Rv} {d : D} {ds : List D} {l : Option Nat} (ha : X G a env r env1) (h1 : rd r env1 = some d) (h2 : seqD d = some ds) (h3 : lock r env1 = some (env2, l)) : evI G (.of a) env = some (ds, env2, l) := by
  show iOf _ _ = _
  simp only [iOf, ha, h1, h2, h3, Option.bind_some]
theorem i_rvL {α : Type} {f : α → D} {xs : List α} {a : E} {env env1 env2 : Sl} {r : Rv} {l : Option Nat} (ha : X G a env r env1) (h1 : rd r env1 = some (eL f xs)) (h3 : lock r env1 = some (env2, l)) : evI G (.rv a) env = some (xs.reverse.map f, env2, l) := by
  show iRv _ _ = _
  simp only [iRv, ha, h1, h3, Option.bind_some, seqD, List.map_reverse]
theorem i_rvT {α : Type} {f : α → D} {xs : List α} {a : E} {env env1 env2 : Sl} {r : Rv} {l : Option Nat} (ha : X G a env r env1) (h1 : rd r env1 = some (eT f xs)) (h3 : lock r env1 = some (env2, l)) : evI G (.rv a) env = some (xs.reverse.map f, env2, l) := by
  show iRv _ _ = _
  simp only [iRv, ha, h1, h3, Option.bind_some, seqD, List.map_reverse]
theorem i_zip {α β : Type} {f : α → D} {g : β → D} {xs : List α} {ys : List β} {a b : E} {env env1 env2 env3 env4 : Sl} {ra rb : Rv} {x y s : D} {l : Option Nat} (ha : X G a env ra env1) (hb : X G b env1 rb env2) (h1 : rd ra env2 = some x) (h2 : rd rb env2 = some y) (h3 : bothD x y = some (xs.map f, ys.map g)) (h4 : esc rb env2 = some (s, env3)) (h5 : lock ra env3 = some (env4, l)) :
    evI G (.zip a b) env = some ((xs.zip ys).map (e2 f g), env4, l) := by
  show iZip _ _ _ = _
  simp only [iZip, ha, hb, h1, h2, h3, h4, h5, Option.bind_some, zip_map]
def enmI {α : Type} : Int → List α → List (Int × α)
  | _, [] => []
  | n, a :: as => (n, a) :: enmI (n + 1) as
theorem enm_map {α : Type} (f : α → D) : ∀ (n : Nat) (xs : List α), enmD n (xs.map f) = (enmI (n : Int) xs).map (e2 D.int f)
  | _, [] => rfl
  | n, a :: as => by
    have := enm_map f (n + 1) as
    simp only [List.map_cons, enmD, enmI, this]
    congr 2
theorem i_enmL {α : Type} {f : α → D} {xs : List α} {a : E} {env env1 env2 : Sl} {r : Rv} {l : Option Nat} (ha : X G a env r env1) (h1 : rd r env1 = some (eL f xs)) (h3 : lock r env1 = some (env2, l)) : evI G (.enm a) env = some ((enmI 0 xs).map (e2 D.int f), env2, l) := by
  have z : seqD (eL f xs) = some (xs.map f) := rfl
  show iEnm _ _ = _
  simp only [iEnm, ha, h1, h3, z, Option.bind_some, enm_map]
  rfl
theorem i_enmT {α : Type} {f : α → D} {xs : List α} {a : E} {env env1 env2 : Sl} {r : Rv} {l : Option Nat} (ha : X G a env r env1) (h1 : rd r env1 = some (eT f xs)) (h3 : lock r env1 = some (env2, l)) : evI G (.enm a) env = some ((enmI 0 xs).map (e2 D.int f), env2, l) := by
  have z : seqD (eT f xs) = some (xs.map f) := rfl
  show iEnm _ _ = _
  simp only [iEnm, ha, h1, h3, z, Option.bind_some, enm_map]
  rfl
/-! comprehensions -/
def lcM {α β : Type} (c : α → Option Bool) (f : α → Option β) : List α → Option (List β)
  | [] => some []
  | a :: as => (c a).bind fun b => if b = true then (f a).bind fun x => (lcM c f as).bind fun xs => some (x :: xs) else lcM c f as
theorem loopC_M {α β : Type} {tg : Tg} {cd : Sl → Option (Bool × Sl)} {elt : Sl → Option (D × Sl)} {own : List Nat} {env : Sl} {e : α → D} {eb : β → D} {c : α → Option Bool} {f : α → Option β}
    (hs : ∀ a, ∃ env2, bindT tg (e a) (wipeS env own) = some env2 ∧ (∀ b, c a = some b → cd env2 = some (b, env2)) ∧ (∀ x, c a = some true → f a = some x → elt env2 = some (eb x, env2)) ∧ backS env2 env own = env) :
    ∀ {items : List α} {out : List β}, lcM c f items = some out → loopC tg cd elt own (items.map e) env = some (out.map eb, env)
  | [], out, h => by
    simp only [lcM, Option.some.injEq] at h
    subst h
    rfl
  | a :: as, out, h => by
    obtain ⟨env2, h1, h2, h3, h4⟩ := hs a
    simp only [lcM] at h
    obtain ⟨b, hb, h⟩ := bs h
    simp only [List.map_cons, loopC, h1, h2 b hb, Option.bind_some]
    cases b with
    | true =>
      simp only [if_true] at h ⊢
      obtain ⟨x, hx, h⟩ := bs h
      obtain ⟨xs, hxs, h⟩ := bs h
      rw [h3 x hb hx]
      simp only [Option.bind_some, h4, loopC_M hs hxs, ← sinj h, List.map_cons]
    | false =>
      simp only [Bool.false_eq_true, if_false] at h ⊢
      rw [h4]
      exact loopC_M hs h
theorem loopC_P {α β : Type} {tg : Tg} {cd : Sl → Option (Bool × Sl)} {elt : Sl → Option (D × Sl)} {own : List Nat} {env : Sl} {e : α → D} {eb : β → D} {c : α → Bool} {f : α → β}
    (hs : ∀ a, ∃ env2, bindT tg (e a) (wipeS env own) = some env2 ∧ cd env2 = some (c a, env2) ∧ (c a = true → elt env2 = some (eb (f a), env2)) ∧ backS env2 env own = env) :
    ∀ {items : List α}, loopC tg cd elt own (items.map e) env = some (((items.filter c).map f).map eb, env)
  | [] => rfl
  | a :: as => by
    obtain ⟨env2, h1, h2, h3, h4⟩ := hs a
    simp only [List.map_cons, loopC, h1, h2, Option.bind_some]
    cases hc : c a with
    | true =>
      simp only [if_true]
      rw [h3 hc]
      simp only [Option.bind_some, h4, loopC_P hs, List.filter_cons_of_pos hc, List.map_cons]
    | false =>
      simp only [Bool.false_eq_true, if_false]
      rw [h4, loopC_P hs, List.filter_cons_of_neg (by rw [hc]; exact Bool.false_ne_true)]
theorem toD_of {e : E} {env env1 env2 : Sl} {r : Rv} {d : D} (h : X G e env r env1) (h2 : esc r env1 = some (d, env2)) : toD (evB G e).v env = some (d, env2) := by
  simp only [toD, h, h2, Option.bind_some]
theorem c_so {e : E} {env : Sl} {b : Bool} (h : Tt G e env b env) : evC G (.so e) env = some (b, env) := h
theorem c_no {env : Sl} : evC G .no env = some (true, env) := rfl
theorem chk_line {α : Type} {l r : List α} (h : chk l = some r) : l = r ∧ lineOk l.length = true := by
  unfold chk at h
  split at h
  · exact ⟨sinj h, ‹_›⟩
  · cases h
theorem x_lcM {α β : Type} {tg : Tg} {it : I} {cd : EO} {elt : E} {env env1 : Sl} {l : Option Nat} (e : α → D) (eb : β → D) {c : α → Option Bool} {f : α → Option β} {items : List α} {out out2 : List β} (h : lcM c f items = some out) (hl : chk out = some out2) (hi : evI G it env = some (items.map e, env1, l))
    (hs : ∀ a, ∃ env2, bindT tg (e a) (wipeS env1 tg.slots) = some env2 ∧ (∀ b, c a = some b → evC G cd env2 = some (b, env2)) ∧ (∀ x, c a = some true → f a = some x → toD (evB G elt).v env2 = some (eb x, env2)) ∧ backS env2 env1 tg.slots = env1) :
    X G (.lc elt tg it cd) env (.nw (eL eb out2)) (unlock l env1) := by
  obtain ⟨rfl, hk⟩ := chk_line hl
  show vLc _ _ _ _ _ = _
  have := loopC_M (own := tg.slots) hs h
  have hl2 : lineOk (out.map eb).length = true := by rw [List.length_map]; exact hk
  simp only [vLc, hi, Option.bind_some, this]
  rw [if_pos hl2]
theorem x_lcP {α β : Type} {tg : Tg} {it : I} {cd : EO} {elt : E} {env env1 : Sl} {l : Option Nat} (e : α → D) (eb : β → D) {c : α → Bool} {f : α → β} {items : List α} {out2 : List β} (hl : chk ((items.filter c).map f) = some out2) (hi : evI G it env = some (items.map e, env1, l))
    (hs : ∀ a, ∃ env2, bindT tg (e a) (wipeS env1 tg.slots) = some env2 ∧ evC G cd env2 = some (c a, env2) ∧ (c a = true → toD (evB G elt).v env2 = some (eb (f a), env2)) ∧ backS env2 env1 tg.slots = env1) :
    X G (.lc elt tg it cd) env (.nw (eL eb out2)) (unlock l env1) := by
  obtain ⟨rfl, hk⟩ := chk_line hl
  show vLc _ _ _ _ _ = _
  have := loopC_P (own := tg.slots) (items := items) hs
  have hl2 : lineOk (((items.filter c).map f).map eb).length = true := by rw [List.length_map]; exact hk
  simp only [vLc, hi, Option.bind_some, this]
  rw [if_pos hl2]
end
end RE
set_option Elab.async false
set_option linter.all false
set_option maxRecDepth 100000
/-! Mirrors: statements, loops, defs. -/
namespace RE
open PySem
section
variable {G : Gs}
/-! ### statements -/
/-- a slot whose content is of no more use -/
def Fr (x : Slot) : Prop := x = .no ∨ (∃ d, x = .val d) ∨ ∃ d, x = .mu .own d
theorem fr_no : Fr .no := .inl rfl
theorem fr_val {d : D} : Fr (.val d) := .inr (.inl ⟨d, rfl⟩)
theorem fr_own {d : D} : Fr (.mu .own d) := .inr (.inr ⟨d, rfl⟩)
theorem bind_fr {i : Nat} {x : Slot} {d : D} {env : Sl} (h : env[i]? = some x) (hx : Fr x) : bindT (.nm i) d env = some (env.set i (.val d)) := by
  show (match env[i]? with
    | some (.mu .bor _) => none
    | some (.mu .lck _) => none
    | some _ => some (env.set i (.val d))
    | none => none) = _
  rw [h]
  rcases hx with rfl | ⟨_, rfl⟩ | ⟨_, rfl⟩ <;> rfl
theorem bind_two {i j : Nat} {x y : Slot} {d e : D} {env : Sl} (h : env[i]? = some x) (hx : Fr x) (h2 : (env.set i (.val d))[j]? = some y) (hy : Fr y) : bindT (.tup (.cons (.nm i) (.cons (.nm j) .nil))) (.tup [d, e]) env = some ((env.set i (.val d)).set j (.val e)) := by
  show (bindT (.nm i) d env).bind (fun env => (bindT (.nm j) e env).bind fun env => some env) = _
  rw [bind_fr h hx, Option.bind_some, bind_fr h2 hy]
  rfl
theorem bind_three {i j k : Nat} {x y z : Slot} {d e f : D} {env : Sl} (h : env[i]? = some x) (hx : Fr x) (h2 : (env.set i (.val d))[j]? = some y) (hy : Fr y) (h3 : ((env.set i (.val d)).set j (.val e))[k]? = some z) (hz : Fr z) : bindT (.tup (.cons (.nm i) (.cons (.nm j) (.cons (.nm k) .nil)))) (.tup [d, e, f]) env = some (((env.set i (.val d)).set j (.val e)).set k (.val f)) := by
  show (bindT (.nm i) d env).bind (fun env => (bindT (.nm j) e env).bind fun env => (bindT (.nm k) f env).bind fun env => some env) = _
  rw [bind_fr h hx, Option.bind_some, bind_fr h2 hy, Option.bind_some, bind_fr h3 hz]
  rfl
theorem bind_npair {i j k : Nat} {x y z : Slot} {d e f : D} {env : Sl} (h : env[i]? = some x) (hx : Fr x) (h2 : (env.set i (.val d))[j]? = some y) (hy : Fr y) (h3 : ((env.set i (.val d)).set j (.val e))[k]? = some z) (hz : Fr z) : bindT (.tup (.cons (.nm i) (.cons (.tup (.cons (.nm j) (.cons (.nm k) .nil))) .nil))) (.tup [d, .tup [e, f]]) env = some (((env.set i (.val d)).set j (.val e)).set k (.val f)) := by
  show (bindT (.nm i) d env).bind (fun env => ((bindT (.nm j) e env).bind fun env => (bindT (.nm k) f env).bind fun env => some env).bind fun env => some env) = _
  rw [bind_fr h hx, Option.bind_some, bind_fr h2 hy, Option.bind_some, bind_fr h3 hz]
  rfl
theorem store_sh {i : Nat} {x : Slot} {d : D} {env : Sl} (h : env[i]? = some x) (hx : Fr x) : store i (.sh d) env = some (env.set i (.val d)) := by
  unfold store
  rw [h]
  rcases hx with rfl | ⟨_, rfl⟩ | ⟨_, rfl⟩ <;> rfl
theorem store_nw {i : Nat} {x : Slot} {d : D} {env : Sl} (h : env[i]? = some x) (hx : Fr x) : store i (.nw d) env = some (env.set i (.mu .own d)) := by
  unfold store
  rw [h]
  rcases hx with rfl | ⟨_, rfl⟩ | ⟨_, rfl⟩ <;> rfl
theorem store_sl {i j : Nat} {x : Slot} {d : D} {env : Sl} (h : env[i]? = some x) (hx : Fr x) (hj : env[j]? = some (.mu .own d)) : store i (.sl j) env = some ((env.set j (.val d)).set i (.val d)) := by
  unfold store
  rw [h]
  have he : esc (.sl j) env = some (d, env.set j (.val d)) := by
    show (match env[j]? with
      | some (.mu .own d) => some (d, env.set j (.val d))
      | some (.val d) => some (d, env)
      | _ => none) = _
    rw [hj]
  rcases hx with rfl | ⟨_, rfl⟩ | ⟨_, rfl⟩ <;> simp only [Option.bind_some, he]
theorem s_asg {i : Nat} {e : E} {env env1 env2 : Sl} {r : Rv} (h : X G e env r env1) (hs : store i r env1 = some env2) : evS G (.asg i e) env = some (.nx, env2) := by
  show sSet i _ _ = _
  simp only [sSet, h, hs, Option.bind_some]
theorem s_unp {ts : Tgs} {e : E} {env env1 env2 : Sl} {ds : List D} (h : X G e env (.sh (.tup ds)) env1) (hs : bindTs ts ds env1 = some env2) : evS G (.unp ts e) env = some (.nx, env2) := by
  show sUnp ts _ _ = _
  simp only [sUnp, h, hs, Option.bind_some]
theorem s_par {is : List Nat} {es : Es} {env env1 env2 env3 : Sl} {rs rs' : List Rv} (h : Xs G es env rs env1) (ho : outs rs env1 = some (rs', env2)) (hs : stores is rs' env2 = some env3) : evS G (.par is es) env = some (.nx, env3) := by
  show sPar is _ _ = _
  simp only [sPar, h, ho, hs, Option.bind_some]
theorem stores_nil {env : Sl} : stores [] [] env = some env := rfl
theorem stores_cons {i : Nat} {is : List Nat} {r : Rv} {rs : List Rv} {env env1 env2 : Sl} (h : store i r env = some env1) (hs : stores is rs env1 = some env2) : stores (i :: is) (r :: rs) env = some env2 := by
  show (store i r env).bind _ = _
  rw [h]
  exact hs
theorem bindTs_cons {t : Tg} {ts : Tgs} {d : D} {ds : List D} {env env1 env2 : Sl} (h : bindT t d env = some env1) (hs : bindTs ts ds env1 = some env2) : bindTs (.cons t ts) (d :: ds) env = some env2 := by
  show (bindT t d env).bind _ = _
  rw [h]
  exact hs
theorem s_expr {e : E} {env env1 : Sl} {r : Rv} (h : X G e env r env1) : evS G (.expr e) env = some (.nx, env1) := by
  show sExpr _ _ = _
  simp only [sExpr, h, Option.bind_some]
theorem s_app {α : Type} {f : α → D} {l l2 : List α} {x : α} {i : Nat} {e : E} {env env1 env2 : Sl} {r : Rv} (hp : push l x = some l2) (h0 : ∃ d, env[i]? = some (.mu .own (.lst d))) (h : X G e env r env1) (h1 : esc r env1 = some (f x, env2)) (h2 : env2[i]? = some (.mu .own (eL f l))) : evS G (.app i e) env = some (.nx, env2.set i (.mu .own (eL f l2))) := by
  obtain ⟨d0, h0⟩ := h0
  show sApp i _ _ = _
  have m0 : muAt i env = some (.own, .lst d0) := by
    unfold muAt
    rw [h0]
  have m1 : muAt i env2 = some (.own, eL f l) := by
    unfold muAt
    rw [h2]
  unfold push at hp
  split at hp
  · rename_i hl
    simp only [sApp, m0, isL, Option.bind_some, h, h1, m1]
    rw [if_neg (by simp)]
    show (if (l.map f).length < 16777216 then _ else _) = _
    rw [if_pos (by rw [List.length_map]; exact hl), ← sinj hp, eL, List.map_append]
    rfl
  · cases hp
theorem s_setix {α : Type} {f : α → D} {l l2 : List α} {x : α} {j : Int} {i : Nat} {k e : E} {env env1 env2 env3 : Sl} {r rk : Rv} {m : Kd} (hp : setI l j x = some l2) (h : X G e env r env1) (h1 : esc r env1 = some (f x, env2)) (hk : X G k env2 rk env3) (hk2 : rd rk env3 = some (.int j)) (h2 : muAt i env2 = some (m, eL f l)) (h3 : muAt i env3 = some (m, eL f l)) : evS G (.setix i k e) env = some (.nx, env3.set i (.mu m (eL f l2))) := by
  show sSetIx i _ _ _ = _
  unfold setI at hp
  cases hn : L2.ixN l.length j with
  | none => rw [hn] at hp; cases hp
  | some n =>
    rw [hn] at hp
    simp only [Option.map_some, Option.some.injEq] at hp
    simp only [sSetIx, h, h1, h2, hk, intR, hk2, h3, Option.bind_some]
    show (L2.ixN (l.map f).length j).bind _ = _
    rw [List.length_map, hn, Option.bind_some, ← hp, eL, List.map_set]

/-! ### runs -/
def evK (G : Gs) : List Ss → Sv
  | [] => fun env => some (.nx, env)
  | s :: ks => sSeq (evSs G s) (evK G ks)
inductive Run (G : Gs) (ks : List Ss) (env : Sl) (P : Fl → Sl → Prop) : Prop
  | mk (fl : Fl) (env' : Sl) (e : evK G ks env = some (fl, env')) (h : P fl env')
theorem sSeq_assoc (a b c : Sv) (env : Sl) : sSeq (sSeq a b) c env = sSeq a (sSeq b c) env := by
  unfold sSeq
  cases a env with
  | none => rfl
  | some p =>
    simp only [Option.bind_some]
    cases p.1 <;> rfl
theorem evK_one (b : Ss) (env : Sl) : evK G [b] env = evSs G b env := by
  show sSeq (evSs G b) _ env = _
  unfold sSeq
  cases evSs G b env with
  | none => rfl
  | some p =>
    obtain ⟨f, env⟩ := p
    cases f <;> rfl
variable {ks : List Ss} {env env1 env2 : Sl} {P : Fl → Sl → Prop} {ss : Ss}
theorem run_end (h : P .nx env) : Run G [] env P := ⟨.nx, env, rfl, h⟩
theorem run_nil (h : Run G ks env P) : Run G (.nil :: ks) env P := by
  obtain ⟨fl, env', e, hp⟩ := h
  exact ⟨fl, env', e, hp⟩
theorem run_s {s : S} (h : evS G s env = some (.nx, env1)) (hr : Run G (ss :: ks) env1 P) : Run G (.cons s ss :: ks) env P := by
  obtain ⟨fl, env', e, hp⟩ := hr
  refine ⟨fl, env', ?_, hp⟩
  show sSeq (sSeq (evS G s) (evSs G ss)) (evK G ks) env = _
  rw [sSeq_assoc, sSeq, h]
  exact e
theorem run_fl {s : S} {f : Fl} (hf : f ≠ .nx) (h : evS G s env = some (f, env1)) (hp : P f env1) : Run G (.cons s ss :: ks) env P := by
  refine ⟨f, env1, ?_, hp⟩
  show sSeq (sSeq (evS G s) (evSs G ss)) (evK G ks) env = _
  rw [sSeq_assoc, sSeq, h]
  cases f with
  | nx => exact absurd rfl hf
  | _ => rfl
theorem run_rt {e : E} {r : Rv} (h : X G e env r env1) (hp : P (.ret r) env1) : Run G (.cons (.ret e) ss :: ks) env P := by
  refine run_fl (f := .ret r) (by intro h; cases h) ?_ hp
  show sRet _ _ = _
  simp only [sRet, h, Option.bind_some]
theorem run_rtN (hp : P (.ret (.sh .non)) env) : Run G (.cons .retN ss :: ks) env P := run_fl (by intro h; cases h) rfl hp
theorem run_brk (hp : P .bk env) : Run G (.cons .brk ss :: ks) env P := run_fl (by intro h; cases h) rfl hp
theorem run_cont (hp : P .ct env) : Run G (.cons .cont ss :: ks) env P := run_fl (by intro h; cases h) rfl hp
theorem run_if {c : E} {a b : Ss} {t : Bool} (hc : Tt G c env t env1) (ha : t = true → Run G (a :: ss :: ks) env1 P) (hb : t = false → Run G (b :: ss :: ks) env1 P) : Run G (.cons (.ifs c a b) ss :: ks) env P := by
  have key : ∀ z : Ss, (evS G (.ifs c a b) env = evSs G z env1) → Run G (z :: ss :: ks) env1 P → Run G (.cons (.ifs c a b) ss :: ks) env P := by
    rintro z hz ⟨fl, env', e, hp⟩
    refine ⟨fl, env', ?_, hp⟩
    show sSeq (sSeq (evS G (.ifs c a b)) (evSs G ss)) (evK G ks) env = _
    rw [sSeq_assoc]
    have e : sSeq (evSs G z) (sSeq (evSs G ss) (evK G ks)) env1 = some (fl, env') := e
    unfold sSeq at e ⊢
    rw [hz]
    exact e
  have hi : evS G (.ifs c a b) env = if t = true then evSs G a env1 else evSs G b env1 := by
    show sIf _ _ _ _ = _
    simp only [sIf, hc, Option.bind_some]
  cases t
  · exact key b (by rw [hi]; rfl) (hb rfl)
  · exact key a (by rw [hi]; rfl) (ha rfl)
def NxJ (J : Sl → Prop) (fl : Fl) (env : Sl) : Prop := fl = .nx ∧ J env
theorem nxj {J : Sl → Prop} (h : J env) : NxJ J .nx env := ⟨rfl, h⟩
theorem ifs_nx {c : E} {a b : Ss} {t : Bool} {J : Sl → Prop} (hc : Tt G c env t env1) (ha : t = true → Run G [a] env1 (NxJ J)) (hb : t = false → Run G [b] env1 (NxJ J)) : ∃ env2, evS G (.ifs c a b) env = some (.nx, env2) ∧ J env2 := by
  have hi : evS G (.ifs c a b) env = if t = true then evSs G a env1 else evSs G b env1 := by
    show sIf _ _ _ _ = _
    simp only [sIf, hc, Option.bind_some]
  cases t
  · obtain ⟨fl, env', e, rfl, hj⟩ := hb rfl
    rw [evK_one] at e
    exact ⟨env', by rw [hi]; exact e, hj⟩
  · obtain ⟨fl, env', e, rfl, hj⟩ := ha rfl
    rw [evK_one] at e
    exact ⟨env', by rw [hi]; exact e, hj⟩

/-! ### loops -/
/-- how a turn ends: on, out of the loop, out of the def -/
inductive Ctl (σ ρ : Type) where
  | nx (s : σ) | bk (s : σ) | ret (r : ρ)
def fld {α σ : Type} (step : σ → α → Option σ) : List α → σ → Option σ
  | [], s => some s
  | a :: as, s => (step s a).bind fun s => fld step as s
def fldC {α σ ρ : Type} (step : σ → α → Option (Ctl σ ρ)) : List α → σ → Option (Ctl σ ρ)
  | [], s => some (.nx s)
  | a :: as, s => (step s a).bind fun c => match c with
    | .nx s => fldC step as s
    | .bk s => some (.nx s)
    | .ret r => some (.ret r)
def whl {σ : Type} (c : σ → Option Bool) (b : σ → Option σ) : Nat → σ → Option σ
  | 0, _ => none
  | n + 1, s => (c s).bind fun t => if t = true then (b s).bind fun s => whl c b n s else some s
def whlC {σ ρ : Type} (c : σ → Option Bool) (b : σ → Option (Ctl σ ρ)) : Nat → σ → Option (Ctl σ ρ)
  | 0, _ => none
  | n + 1, s => (c s).bind fun t => if t = true then (b s).bind fun k => match k with
      | .nx s => whlC c b n s
      | .bk s => some (.nx s)
      | .ret r => some (.ret r)
    else some (.nx s)
/-- a turn's end seen from the evaluator -/
def On (J : Sl → Prop) (fl : Fl) (env : Sl) : Prop := (fl = .nx ∨ fl = .ct) ∧ J env
theorem on_nx {J : Sl → Prop} (h : J env) : On J .nx env := ⟨.inl rfl, h⟩
theorem on_ct {J : Sl → Prop} (h : J env) : On J .ct env := ⟨.inr rfl, h⟩
def OnC {σ ρ : Type} (I : σ → Sl → Prop) (Q : ρ → Rv → Sl → Prop) : Ctl σ ρ → Fl → Sl → Prop
  | .nx s, fl, env => (fl = .nx ∨ fl = .ct) ∧ I s env
  | .bk s, fl, env => fl = .bk ∧ I s env
  | .ret r, fl, env => ∃ v, fl = .ret v ∧ Q r v env
/-- a loop's end -/
def Out {σ ρ : Type} (I : σ → Sl → Prop) (Q : ρ → Rv → Sl → Prop) : Ctl σ ρ → Fl → Sl → Prop
  | .nx s, fl, env => fl = .nx ∧ I s env
  | .bk _, _, _ => False
  | .ret r, fl, env => ∃ v, fl = .ret v ∧ Q r v env
theorem loopF_fld {α σ : Type} {I : σ → Sl → Prop} {e : α → D} {tg : Tg} {body : Sv} {step : σ → α → Option σ}
    (hb : ∀ a s env, I s env → ∀ s', step s a = some s' → ∃ env1 fl env2, bindT tg (e a) env = some env1 ∧ body env1 = some (fl, env2) ∧ On (I s') fl env2) :
    ∀ {items : List α} {s s' : σ} {env : Sl}, I s env → fld step items s = some s' → ∃ env', loopF tg body (items.map e) env = some (.nx, env') ∧ I s' env'
  | [], s, s', env, hi, h => ⟨env, rfl, by rw [← sinj h]; exact hi⟩
  | a :: as, s, s', env, hi, h => by
    obtain ⟨s1, h1, h⟩ := bs h
    obtain ⟨env1, fl, env2, e1, e2, hf, hi2⟩ := hb a s env hi s1 h1
    obtain ⟨env', e3, hi3⟩ := loopF_fld hb hi2 h
    refine ⟨env', ?_, hi3⟩
    simp only [List.map_cons, loopF, e1, e2, Option.bind_some]
    rcases hf with rfl | rfl <;> exact e3
theorem loopF_fldC {α σ ρ : Type} {I : σ → Sl → Prop} {Q : ρ → Rv → Sl → Prop} {e : α → D} {tg : Tg} {body : Sv} {step : σ → α → Option (Ctl σ ρ)}
    (hb : ∀ a s env, I s env → ∀ c, step s a = some c → ∃ env1 fl env2, bindT tg (e a) env = some env1 ∧ body env1 = some (fl, env2) ∧ OnC I Q c fl env2) :
    ∀ {items : List α} {s : σ} {o : Ctl σ ρ} {env : Sl}, I s env → fldC step items s = some o → ∃ fl env', loopF tg body (items.map e) env = some (fl, env') ∧ Out I Q o fl env'
  | [], s, o, env, hi, h => ⟨.nx, env, rfl, by rw [← sinj h]; exact ⟨rfl, hi⟩⟩
  | a :: as, s, o, env, hi, h => by
    obtain ⟨c, h1, h⟩ := bs h
    obtain ⟨env1, fl, env2, e1, e2, hf⟩ := hb a s env hi c h1
    cases c with
    | nx s1 =>
      obtain ⟨hf, hi2⟩ := hf
      obtain ⟨fl', env', e3, hi3⟩ := loopF_fldC hb hi2 h
      refine ⟨fl', env', ?_, hi3⟩
      simp only [List.map_cons, loopF, e1, e2, Option.bind_some]
      rcases hf with rfl | rfl <;> exact e3
    | bk s1 =>
      obtain ⟨rfl, hi2⟩ := hf
      refine ⟨.nx, env2, ?_, by rw [← sinj h]; exact ⟨rfl, hi2⟩⟩
      simp only [List.map_cons, loopF, e1, e2, Option.bind_some]
    | ret r =>
      obtain ⟨v, rfl, hq⟩ := hf
      refine ⟨.ret v, env2, ?_, by rw [← sinj h]; exact ⟨v, rfl, hq⟩⟩
      simp only [List.map_cons, loopF, e1, e2, Option.bind_some]
theorem loopW_whl {σ : Type} {I : σ → Sl → Prop} {c : Sl → Option (Bool × Sl)} {body : Sv} {cm : σ → Option Bool} {bm : σ → Option σ}
    (hc : ∀ s env, I s env → ∀ t, cm s = some t → c env = some (t, env))
    (hb : ∀ s env, I s env → ∀ s', bm s = some s' → ∃ fl env2, body env = some (fl, env2) ∧ On (I s') fl env2) :
    ∀ {n : Nat} {s s' : σ} {env : Sl}, I s env → whl cm bm n s = some s' → ∃ env', loopW c body n env = some (.nx, env') ∧ I s' env'
  | 0, s, s', env, hi, h => by cases h
  | n + 1, s, s', env, hi, h => by
    obtain ⟨t, h1, h⟩ := bs h
    have e1 := hc s env hi t h1
    cases t with
    | false =>
      refine ⟨env, ?_, by rw [← sinj h]; exact hi⟩
      simp only [loopW, e1, Option.bind_some]
      rfl
    | true =>
      have h : (bm s).bind (fun s => whl cm bm n s) = some s' := h
      obtain ⟨s1, h2, h⟩ := bs h
      obtain ⟨fl, env2, e2, hf, hi2⟩ := hb s env hi s1 h2
      obtain ⟨env', e3, hi3⟩ := loopW_whl hc hb hi2 h
      refine ⟨env', ?_, hi3⟩
      simp only [loopW, e1, e2, Option.bind_some, if_true]
      rcases hf with rfl | rfl <;> exact e3
theorem loopW_whlC {σ ρ : Type} {I : σ → Sl → Prop} {Q : ρ → Rv → Sl → Prop} {c : Sl → Option (Bool × Sl)} {body : Sv} {cm : σ → Option Bool} {bm : σ → Option (Ctl σ ρ)}
    (hc : ∀ s env, I s env → ∀ t, cm s = some t → c env = some (t, env))
    (hb : ∀ s env, I s env → ∀ k, bm s = some k → ∃ fl env2, body env = some (fl, env2) ∧ OnC I Q k fl env2) :
    ∀ {n : Nat} {s : σ} {o : Ctl σ ρ} {env : Sl}, I s env → whlC cm bm n s = some o → ∃ fl env', loopW c body n env = some (fl, env') ∧ Out I Q o fl env'
  | 0, s, o, env, hi, h => by cases h
  | n + 1, s, o, env, hi, h => by
    obtain ⟨t, h1, h⟩ := bs h
    have e1 := hc s env hi t h1
    cases t with
    | false =>
      refine ⟨.nx, env, ?_, by rw [← sinj h]; exact ⟨rfl, hi⟩⟩
      simp only [loopW, e1, Option.bind_some]
      rfl
    | true =>
      have h : (bm s).bind (fun k => match k with
        | .nx s => whlC cm bm n s
        | .bk s => some (.nx s)
        | .ret r => some (.ret r)) = some o := h
      obtain ⟨k, h2, h⟩ := bs h
      obtain ⟨fl, env2, e2, hf⟩ := hb s env hi k h2
      cases k with
      | nx s1 =>
        obtain ⟨hf, hi2⟩ := hf
        obtain ⟨fl', env', e3, hi3⟩ := loopW_whlC hc hb hi2 h
        refine ⟨fl', env', ?_, hi3⟩
        simp only [loopW, e1, e2, Option.bind_some, if_true]
        rcases hf with rfl | rfl <;> exact e3
      | bk s1 =>
        obtain ⟨rfl, hi2⟩ := hf
        refine ⟨.nx, env2, ?_, by rw [← sinj h]; exact ⟨rfl, hi2⟩⟩
        simp only [loopW, e1, e2, Option.bind_some, if_true]
      | ret r =>
        obtain ⟨v, rfl, hq⟩ := hf
        refine ⟨.ret v, env2, ?_, by rw [← sinj h]; exact ⟨v, rfl, hq⟩⟩
        simp only [loopW, e1, e2, Option.bind_some, if_true]
theorem s_for {α σ : Type} (I : σ → Sl → Prop) {e : α → D} {tg : Tg} {it : RE.I} {body : Ss} {step : σ → α → Option σ} {items : List α} {s s' : σ} {l : Option Nat}
    (h : fld step items s = some s') (hi : evI G it env = some (items.map e, env1, l)) (h0 : I s env1)
    (hb : ∀ a s env, I s env → ∀ s', step s a = some s' → ∃ env1, bindT tg (e a) env = some env1 ∧ Run G [body] env1 (On (I s'))) : ∃ env2, evS G (.for tg it body) env = some (.nx, unlock l env2) ∧ I s' env2 := by
  obtain ⟨env2, e2, h2⟩ := loopF_fld (tg := tg) (body := evSs G body) (fun a s env his s' hs => by
    obtain ⟨env1, e1, fl, env3, e3, h3⟩ := hb a s env his s' hs
    rw [evK_one] at e3
    exact ⟨env1, fl, env3, e1, e3, h3⟩) h0 h
  refine ⟨env2, ?_, h2⟩
  show sFor _ _ _ _ = _
  simp only [sFor, hi, Option.bind_some, e2]
theorem s_forC {α σ ρ : Type} (I : σ → Sl → Prop) (Q : ρ → Rv → Sl → Prop) {e : α → D} {tg : Tg} {it : RE.I} {body : Ss} {step : σ → α → Option (Ctl σ ρ)} {items : List α} {s : σ} {o : Ctl σ ρ} {l : Option Nat}
    (h : fldC step items s = some o) (hi : evI G it env = some (items.map e, env1, l)) (h0 : I s env1)
    (hb : ∀ a s env, I s env → ∀ c, step s a = some c → ∃ env1, bindT tg (e a) env = some env1 ∧ Run G [body] env1 (OnC I Q c)) : ∃ fl env2, evS G (.for tg it body) env = some (fl, unlock l env2) ∧ Out I Q o fl env2 := by
  obtain ⟨fl, env2, e2, h2⟩ := loopF_fldC (tg := tg) (body := evSs G body) (fun a s env his s' hs => by
    obtain ⟨env1, e1, fl, env3, e3, h3⟩ := hb a s env his s' hs
    rw [evK_one] at e3
    exact ⟨env1, fl, env3, e1, e3, h3⟩) h0 h
  refine ⟨fl, env2, ?_, h2⟩
  show sFor _ _ _ _ = _
  simp only [sFor, hi, Option.bind_some, e2]
theorem s_whl {σ : Type} (I : σ → Sl → Prop) {c : E} {body : Ss} {cm : σ → Option Bool} {bm : σ → Option σ} {s s' : σ}
    (h : whl cm bm 1000000000 s = some s') (h0 : I s env) (hc : ∀ s env, I s env → ∀ t, cm s = some t → Tt G c env t env)
    (hb : ∀ s env, I s env → ∀ s', bm s = some s' → Run G [body] env (On (I s'))) : ∃ env2, evS G (.whl c body) env = some (.nx, env2) ∧ I s' env2 := by
  obtain ⟨env2, e2, h2⟩ := loopW_whl (c := evT G c) (body := evSs G body) hc (fun s env his s' hs => by
    obtain ⟨fl, env3, e3, h3⟩ := hb s env his s' hs
    rw [evK_one] at e3
    exact ⟨fl, env3, e3, h3⟩) h0 h
  exact ⟨env2, e2, h2⟩
theorem s_whlC {σ ρ : Type} (I : σ → Sl → Prop) (Q : ρ → Rv → Sl → Prop) {c : E} {body : Ss} {cm : σ → Option Bool} {bm : σ → Option (Ctl σ ρ)} {s : σ} {o : Ctl σ ρ}
    (h : whlC cm bm 1000000000 s = some o) (h0 : I s env) (hc : ∀ s env, I s env → ∀ t, cm s = some t → Tt G c env t env)
    (hb : ∀ s env, I s env → ∀ k, bm s = some k → Run G [body] env (OnC I Q k)) : ∃ fl env2, evS G (.whl c body) env = some (fl, env2) ∧ Out I Q o fl env2 := by
  obtain ⟨fl, env2, e2, h2⟩ := loopW_whlC (c := evT G c) (body := evSs G body) hc (fun s env his s' hs => by
    obtain ⟨fl, env3, e3, h3⟩ := hb s env his s' hs
    rw [evK_one] at e3
    exact ⟨fl, env3, e3, h3⟩) h0 h
  exact ⟨fl, env2, e2, h2⟩
end
/-! ### defs -/
def Fin (fn : Fn) (r : Rv) (b : Option D) : Fl → Sl → Prop
  | .ret rv, env => retD rv env = some r ∧ endB fn env = some b
  | .nx, env => r = .sh .non ∧ endB fn env = some b
  | _, _ => False
theorem call_run {T : Tab} {n k : Nat} {fn : Fn} {ds : List D} {r : Rv} {b : Option D} (hk : T.fns k = some fn) (hl : ds.length = fn.np) (h : Run (gs T n) [fn.body] (startS fn ds) (Fin fn r b)) : callN T (n + 1) k ds = some (r, b) := by
  obtain ⟨fl, env', e, hf⟩ := h
  rw [evK_one] at e
  rw [callN_succ, hk, Option.bind_some, runFn, if_pos hl, e]
  cases fl with
  | ret rv => simp only [Option.bind_some, hf.1, hf.2]
  | nx => simp only [Option.bind_some, hf.1, hf.2]
  | bk => exact hf.elim
  | ct => exact hf.elim
end RE
set_option Elab.async false
set_option linter.all false
set_option maxRecDepth 100000
/-! Mirrors: loops and joins inside a run; drawing; rows. -/
namespace RE
open PySem
section
variable {G : Gs} {ks : List Ss} {env env1 env2 : Sl} {P : Fl → Sl → Prop} {ss : Ss}
theorem run_ifj {c : E} {a b : Ss} {t : Bool} (J : Sl → Prop) (hc : Tt G c env t env1) (ha : t = true → Run G [a] env1 (NxJ J)) (hb : t = false → Run G [b] env1 (NxJ J)) (hk : ∀ env2, J env2 → Run G (ss :: ks) env2 P) : Run G (.cons (.ifs c a b) ss :: ks) env P := by
  obtain ⟨env2, e, hj⟩ := ifs_nx hc ha hb
  exact run_s e (hk env2 hj)
theorem run_for {α σ : Type} (I : σ → Sl → Prop) (e : α → D) {tg : Tg} {it : RE.I} {body : Ss} {step : σ → α → Option σ} {items : List α} {s s' : σ} {l : Option Nat}
    (h : fld step items s = some s') (hi : evI G it env = some (items.map e, env1, l)) (h0 : I s env1)
    (hb : ∀ a s env, I s env → ∀ s', step s a = some s' → ∃ env1, bindT tg (e a) env = some env1 ∧ Run G [body] env1 (On (I s')))
    (hk : ∀ env2, I s' env2 → Run G (ss :: ks) (unlock l env2) P) : Run G (.cons (.for tg it body) ss :: ks) env P := by
  obtain ⟨env2, e, hj⟩ := s_for I h hi h0 hb
  exact run_s e (hk env2 hj)
theorem run_forC {α σ ρ : Type} (I : σ → Sl → Prop) (Q : ρ → Rv → Sl → Prop) (e : α → D) {tg : Tg} {it : RE.I} {body : Ss} {step : σ → α → Option (Ctl σ ρ)} {items : List α} {s : σ} {o : Ctl σ ρ} {l : Option Nat}
    (h : fldC step items s = some o) (hi : evI G it env = some (items.map e, env1, l)) (h0 : I s env1)
    (hb : ∀ a s env, I s env → ∀ c, step s a = some c → ∃ env1, bindT tg (e a) env = some env1 ∧ Run G [body] env1 (OnC I Q c))
    (hk : ∀ s env2, o = .nx s → I s env2 → Run G (ss :: ks) (unlock l env2) P) (hr : ∀ r v env2, o = .ret r → Q r v env2 → P (.ret v) (unlock l env2)) : Run G (.cons (.for tg it body) ss :: ks) env P := by
  obtain ⟨fl, env2, e, ho⟩ := s_forC I Q h hi h0 hb
  cases o with
  | nx s =>
    obtain ⟨rfl, ho⟩ := ho
    exact run_s e (hk s env2 rfl ho)
  | bk s => exact ho.elim
  | ret r =>
    obtain ⟨v, rfl, hq⟩ := ho
    exact run_fl (by intro h; cases h) e (hr r v env2 rfl hq)
theorem run_whl {σ : Type} (I : σ → Sl → Prop) {c : E} {body : Ss} {cm : σ → Option Bool} {bm : σ → Option σ} {s s' : σ}
    (h : whl cm bm 1000000000 s = some s') (h0 : I s env) (hc : ∀ s env, I s env → ∀ t, cm s = some t → Tt G c env t env)
    (hb : ∀ s env, I s env → ∀ s', bm s = some s' → Run G [body] env (On (I s')))
    (hk : ∀ env2, I s' env2 → Run G (ss :: ks) env2 P) : Run G (.cons (.whl c body) ss :: ks) env P := by
  obtain ⟨env2, e, hj⟩ := s_whl I h h0 hc hb
  exact run_s e (hk env2 hj)
theorem run_whlC {σ ρ : Type} (I : σ → Sl → Prop) (Q : ρ → Rv → Sl → Prop) {c : E} {body : Ss} {cm : σ → Option Bool} {bm : σ → Option (Ctl σ ρ)} {s : σ} {o : Ctl σ ρ}
    (h : whlC cm bm 1000000000 s = some o) (h0 : I s env) (hc : ∀ s env, I s env → ∀ t, cm s = some t → Tt G c env t env)
    (hb : ∀ s env, I s env → ∀ k, bm s = some k → Run G [body] env (OnC I Q k))
    (hk : ∀ s env2, o = .nx s → I s env2 → Run G (ss :: ks) env2 P) (hr : ∀ r v env2, o = .ret r → Q r v env2 → P (.ret v) env2) : Run G (.cons (.whl c body) ss :: ks) env P := by
  obtain ⟨fl, env2, e, ho⟩ := s_whlC I Q h h0 hc hb
  cases o with
  | nx s =>
    obtain ⟨rfl, ho⟩ := ho
    exact run_s e (hk s env2 rfl ho)
  | bk s => exact ho.elim
  | ret r =>
    obtain ⟨v, rfl, hq⟩ := ho
    exact run_fl (by intro h; cases h) e (hr r v env2 rfl hq)
theorem unlock_0 {l : Option Nat} {d : D} (h : env[0]? = some (.mu .bor d)) : (unlock l env)[0]? = some (.mu .bor d) := by
  cases l with
  | none => exact h
  | some i =>
    show (match env[i]? with
      | some (.mu .lck d) => env.set i (.mu .own d)
      | _ => env)[0]? = _
    split
    · rename_i d' hi
      by_cases h0 : i = 0
      · subst h0; rw [hi] at h; cases h
      · rw [List.getElem?_set_ne h0]; exact h
    · exact h
theorem gcall {T : Tab} {n k : Nat} {ds : List D} {z : Rv × Option D} (h : callN T n k ds = some z) : (gs T n).call k ds = some z := by
  rw [gs_call]; exact h
/-! more operations that need no test -/
theorem o_mulr {i j : Int} (h : j.natAbs < 18446744073709551616) : binD .Mult (.int i) (.int j) = some (.sh (.int (i * j))) := by
  show (if mulOk i j = true then _ else _) = _
  rw [if_pos (by simp [mulOk, h])]
theorem o_mull {i j : Int} (h : i.natAbs < 18446744073709551616) : binD .Mult (.int i) (.int j) = some (.sh (.int (i * j))) := by
  show (if mulOk i j = true then _ else _) = _
  rw [if_pos (by simp [mulOk, h])]
theorem o_divr {i j : Int} (h0 : 0 < j) (h : j.natAbs < 1073741824) : binD .FloorDiv (.int i) (.int j) = some (.sh (.int (i / j))) := by
  show (if divOk j = true then _ else _) = _
  rw [if_pos (by simp [divOk, h, h0])]
theorem o_modr {i j : Int} (h0 : 0 < j) : binD .Mod (.int i) (.int j) = some (.sh (.int (i % j))) := by
  show (if 0 < j then _ else _) = _
  rw [if_pos h0]
theorem o_powr {i j : Int} (h : powOk i j = true) : binD .Pow (.int i) (.int j) = some (.sh (.int (i ^ j.toNat))) := by
  show (if powOk i j = true then _ else _) = _
  rw [if_pos h]
/-! what escapes -/
theorem escs_nil {env : Sl} : escs [] env = some ([], env) := rfl
theorem escs_sh {env env' : Sl} {d : D} {rs : List Rv} {ds : List D} (h : escs rs env = some (ds, env')) : escs (.sh d :: rs) env = some (d :: ds, env') := by
  show (escs rs env).bind _ = _
  rw [h]
  rfl
theorem escs_nw {env env' : Sl} {d : D} {rs : List Rv} {ds : List D} (h : escs rs env = some (ds, env')) : escs (.nw d :: rs) env = some (d :: ds, env') := by
  show (escs rs env).bind _ = _
  rw [h]
  rfl
theorem esc_own {env : Sl} {i : Nat} {d : D} (hi : env[i]? = some (.mu .own d)) : esc (.sl i) env = some (d, env.set i (.val d)) := by
  show (match env[i]? with
    | some (.mu .own d) => some (d, env.set i (.val d))
    | some (.val d) => some (d, env)
    | _ => none) = _
  rw [hi]
theorem esc_vl {env : Sl} {i : Nat} {d : D} (hi : env[i]? = some (.val d)) : esc (.sl i) env = some (d, env) := by
  show (match env[i]? with
    | some (.mu .own d) => some (d, env.set i (.val d))
    | some (.val d) => some (d, env)
    | _ => none) = _
  rw [hi]
theorem escs_own {env env1 env' : Sl} {i : Nat} {d : D} {rs : List Rv} {ds : List D} (hi : env[i]? = some (.mu .own d)) (he : env.set i (.val d) = env1) (h : escs rs env1 = some (ds, env')) : escs (.sl i :: rs) env = some (d :: ds, env') := by
  show (esc (.sl i) env).bind _ = _
  rw [esc_own hi, Option.bind_some]
  show (escs rs (env.set i (.val d))).bind _ = _
  rw [he, h]
  rfl
theorem escs_vl {env env' : Sl} {i : Nat} {d : D} {rs : List Rv} {ds : List D} (hi : env[i]? = some (.val d)) (h : escs rs env = some (ds, env')) : escs (.sl i :: rs) env = some (d :: ds, env') := by
  show (esc (.sl i) env).bind _ = _
  rw [esc_vl hi, Option.bind_some]
  show (escs rs env).bind _ = _
  rw [h]
  rfl
theorem run_let {α : Type} {t x : α} (F : α → Sl) (hx : some t = some x) (h : Run G ks (F x) P) : Run G ks (F t) P := by
  cases hx
  exact h
theorem fin_ret {fn : Fn} {r rv : Rv} {b : Option D} {env : Sl} (h : retD rv env = some r) (h2 : endB fn env = some b) : Fin fn r b (.ret rv) env := ⟨h, h2⟩
theorem fin_nx {fn : Fn} {b : Option D} {env : Sl} (h2 : endB fn env = some b) : Fin fn (.sh .non) b .nx env := ⟨rfl, h2⟩
/-! comprehensions without a test -/
def mapO {α β : Type} (f : α → Option β) : List α → Option (List β)
  | [] => some []
  | a :: as => (f a).bind fun x => (mapO f as).bind fun xs => some (x :: xs)
theorem lcM_all {α β : Type} (f : α → Option β) : ∀ l : List α, lcM (fun _ => some true) f l = mapO f l
  | [] => rfl
  | a :: as => by simp only [lcM, mapO, Option.bind_some, if_true, lcM_all f as]
theorem x_lcA {α β : Type} {tg : Tg} {it : RE.I} {elt : E} {env env1 : Sl} {l : Option Nat} (e : α → D) (eb : β → D) {f : α → β} {items : List α} {out2 : List β} (hl : chk (items.map f) = some out2) (hi : evI G it env = some (items.map e, env1, l))
    (hs : ∀ a, ∃ env2, bindT tg (e a) (wipeS env1 tg.slots) = some env2 ∧ toD (evB G elt).v env2 = some (eb (f a), env2) ∧ backS env2 env1 tg.slots = env1) :
    X G (.lc elt tg it .no) env (.nw (eL eb out2)) (unlock l env1) :=
  x_lcP e eb (c := fun _ => true) (f := f) (items := items) (by rw [List.filter_eq_self.mpr (fun _ _ => rfl)]; exact hl) hi fun a => by
    obtain ⟨env2, h1, h2, h3⟩ := hs a
    exact ⟨env2, h1, rfl, fun _ => h2, h3⟩
theorem x_lcO {α β : Type} {tg : Tg} {it : RE.I} {elt : E} {env env1 : Sl} {l : Option Nat} (e : α → D) (eb : β → D) {f : α → Option β} {items : List α} {out out2 : List β} (h : mapO f items = some out) (hl : chk out = some out2) (hi : evI G it env = some (items.map e, env1, l))
    (hs : ∀ a, ∃ env2, bindT tg (e a) (wipeS env1 tg.slots) = some env2 ∧ (∀ x, f a = some x → toD (evB G elt).v env2 = some (eb x, env2)) ∧ backS env2 env1 tg.slots = env1) :
    X G (.lc elt tg it .no) env (.nw (eL eb out2)) (unlock l env1) :=
  x_lcM e eb (c := fun _ => some true) (f := f) (items := items) (by rw [lcM_all]; exact h) hl hi fun a => by
    obtain ⟨env2, h1, h2, h3⟩ := hs a
    exact ⟨env2, h1, fun b hb => by rw [← sinj hb]; rfl, fun x _ hx => h2 x hx, h3⟩
/-! None or something -/
theorem o_isN {α : Type} {f : α → D} (hf : ∀ a, f a ≠ .non) (x : Option α) : cmpR .Is (eO f x) .non = some (.sh (.bl x.isNone)) := by
  cases x with
  | none => rfl
  | some a =>
    show cmpR .Is (f a) .non = _
    have := hf a
    cases h : f a <;> first | rfl | exact absurd h this
theorem o_isnN {α : Type} {f : α → D} (hf : ∀ a, f a ≠ .non) (x : Option α) : cmpR .IsNot (eO f x) .non = some (.sh (.bl x.isSome)) := by
  cases x with
  | none => rfl
  | some a =>
    show cmpR .IsNot (f a) .non = _
    have := hf a
    cases h : f a <;> first | rfl | exact absurd h this
/-! going on in a mirror -/
theorem bok {α β : Type} {m : Option α} {k : α → Option β} {a : α} {r : β} (h : m = some a) (h2 : k a = some r) : m.bind k = some r := by
  rw [h]; exact h2
/-! ### drawing -/
abbrev S2 := Int × Int
abbrev eS (s : S2) : D := .lst [.int s.1, .int s.2]
def pickI (s : S2) (m : Int) : Int × S2 :=
  if 1 < s.1 then (s.1 % m, (s.1 / m, s.2))
  else ((((s.2 * 48271 + 12345) % 2147483647 * 69621 + (s.2 * 48271 + 12345) % 2147483647 / 127 + 7) % 2147483629) / 16 % m, (s.1, (s.2 * 48271 + 12345) % 2147483647))
def pick_m (s : S2) (m : Int) : Option (Int × S2) := if 0 < m ∧ m < 1073741824 then some (pickI s m) else none
theorem pick_ok {T : Tab} {n k : Nat} (hk : T.fns k = some fnPick) {s : S2} {m : Int} {r : Int × S2} (h : pick_m s m = some r) : callN T (n + 1) k [eS s, .int m] = some (.sh (.int r.1), some (eS r.2)) := by
  unfold pick_m at h
  split at h
  · rename_i hm
    obtain ⟨hm, hm2⟩ := hm
    have h := sinj h
    subst h
    rw [callN_succ, hk]
    have h1 : divOk m = true := by simp [divOk, hm]; omega
    unfold pickI
    by_cases ha : 1 < s.1
    · rw [if_pos ha]
      simp [runFn, fnPick, bPick, evSs, evS, sSeq, sIf, evT, evB, startS, argE, tru, vOp, vName, rd, cmpR, cmpD, ixR, ixD, ixAt, truD, sSet, evE, vBi, evEs, rds, biD, binD, store, sSetIx, muAt, esc, intR, sRet, retD, endB, ha, hm, h1, L2.ixN]
    · rw [if_neg ha]
      have h2 : mulOk s.2 48271 = true := by simp [mulOk]
      have h3 : mulOk ((s.2 * 48271 + 12345) % 2147483647) 69621 = true := by simp [mulOk]
      have h4 : divOk 127 = true := by decide
      have h5 : divOk 16 = true := by decide
      simp [runFn, fnPick, bPick, evSs, evS, sSeq, sIf, evT, evB, startS, argE, tru, vOp, vName, rd, cmpR, cmpD, ixR, ixD, ixAt, truD, sSet, evE, vBi, evEs, rds, biD, binD, store, sSetIx, muAt, esc, intR, sRet, retD, endB, ha, hm, h2, h3, h4, h5, L2.ixN]
  · cases h
/-- a draw, for whoever only needs its bounds -/
theorem pick_has (s : S2) {m : Int} (hm : 0 < m) (hm2 : m < 1073741824) : ∃ r s', 0 ≤ r ∧ r < m ∧ pick_m s m = some (r, s') := by
  refine ⟨(pickI s m).1, (pickI s m).2, ?_, ?_, by unfold pick_m; rw [if_pos ⟨hm, hm2⟩]⟩
  · unfold pickI
    split <;> exact Int.emod_nonneg _ (by omega)
  · unfold pickI
    split <;> exact Int.emod_lt_of_pos _ hm
/-! ### rows -/
open Classical in
noncomputable def rows_m (rows : List D) : Option Bool := if lineOk rows.length = true ∧ ∀ d ∈ rows, RowOk 12 d then some true else none
theorem rows_ok {T : Tab} {n k kS : Nat} (hk : T.fns k = some (fnAll kS)) (hS : T.fns kS = some (fnSame kS)) {rows : List D} {r : Bool} (h : rows_m rows = some r) : callN T (n + 14) k [eL eD rows] = some (.sh (.bl r), none) := by
  unfold rows_m at h
  split at h
  · rename_i hr
    rw [← sinj h, show eL eD rows = .lst rows by show D.lst (rows.map fun d => d) = _; rw [List.map_id']]
    exact s_all (m := 12) (n := n + 12) hk hS (by omega) hr.1 hr.2
  · cases h
theorem rows_has {rows : List D} (h : rows.length ≤ 16777216) (h2 : ∀ d ∈ rows, RowOk 12 d) : rows_m rows = some true := by
  unfold rows_m
  rw [if_pos ⟨by simp [lineOk, h], h2⟩]
end
end RE
set_option Elab.async false
set_option linter.all false
set_option maxRecDepth 100000
/-! The plain half of a law: going through a mirror. -/
namespace RE
open PySem
theorem exb {α : Type} {m : Option α} {k : α → Option (Bool × S2)} {a : α} (h : m = some a) (h2 : ∃ s', k a = some (true, s')) : ∃ s', m.bind k = some (true, s') := by rw [h]; exact h2
theorem ext_t {c : Bool} {a b : Option (Bool × S2)} (hc : c = true) (h : ∃ s', a = some (true, s')) : ∃ s', (if c = true then a else b) = some (true, s') := by rw [if_pos hc]; exact h
theorem ext_f {c : Bool} {a b : Option (Bool × S2)} (hc : c = false) (h : ∃ s', b = some (true, s')) : ∃ s', (if c = true then a else b) = some (true, s') := by rw [if_neg (by rw [hc]; exact Bool.false_ne_true)]; exact h
theorem mif_t {α : Type} {c : Bool} {a b : Option α} {r : α} (hc : c = true) (h : a = some r) : (if c = true then a else b) = some r := by rw [if_pos hc]; exact h
theorem mif_f {α : Type} {c : Bool} {a b : Option α} {r : α} (hc : c = false) (h : b = some r) : (if c = true then a else b) = some r := by rw [if_neg (by rw [hc]; exact Bool.false_ne_true)]; exact h
theorem fld_ix {α σ : Type} {step : σ → α → Option σ} {N : Nat} (I : Nat → σ → Prop) : ∀ {items : List α} (h : ∀ i s a, i < N → a ∈ items → I i s → ∃ s', step s a = some s' ∧ I (i + 1) s') {i : Nat} {s : σ}, i + items.length ≤ N → I i s → ∃ s', fld step items s = some s' ∧ I (i + items.length) s'
  | [], _, i, s, _, hi => ⟨s, rfl, hi⟩
  | a :: as, h, i, s, hn, hi => by
    rw [List.length_cons] at hn
    obtain ⟨s1, e1, h1⟩ := h i s a (by omega) (List.mem_cons_self ..) hi
    obtain ⟨s2, e2, h2⟩ := fld_ix I (items := as) (fun i s b hn hb => h i s b hn (List.mem_cons_of_mem _ hb)) (by omega) h1
    refine ⟨s2, bok e1 e2, ?_⟩
    rw [List.length_cons, show i + (as.length + 1) = i + 1 + as.length by omega]
    exact h2
/-- a loop whose turns are known -/
theorem fld_eq {α σ : Type} {step : σ → α → Option σ} (F : Nat → σ) {items : List α} (h : ∀ i (hi : i < items.length), step (F i) items[i] = some (F (i + 1))) : fld step items (F 0) = some (F items.length) := by
  have key : ∀ (l : List α) (k : Nat), (∀ i (hi : i < l.length), step (F (k + i)) l[i] = some (F (k + i + 1))) → fld step l (F k) = some (F (k + l.length)) := by
    intro l
    induction l with
    | nil => intro k _; rfl
    | cons a as ih =>
      intro k h
      refine bok (h 0 (by simp)) ?_
      have := ih (k + 1) (fun i hi => by
        have := h (i + 1) (by simpa using hi)
        rw [show k + 1 + i = k + (i + 1) by omega]
        exact this)
      rw [List.length_cons, show k + (as.length + 1) = k + 1 + as.length by omega]
      exact this
  have := key items 0 (fun i hi => by simpa using h i hi)
  simpa using this
theorem lcM_eq {α β : Type} {c : α → Option Bool} {f : α → Option β} {c' : α → Bool} {f' : α → β} : ∀ {l : List α}, (∀ a ∈ l, c a = some (c' a)) → (∀ a ∈ l, c' a = true → f a = some (f' a)) → lcM c f l = some ((l.filter c').map f')
  | [], _, _ => rfl
  | a :: as, hc, hf => by
    have ih := lcM_eq (l := as) (fun b hb => hc b (List.mem_cons_of_mem _ hb)) (fun b hb => hf b (List.mem_cons_of_mem _ hb))
    simp only [lcM, hc a (List.mem_cons_self ..), Option.bind_some]
    cases h : c' a with
    | true => simp only [if_true, hf a (List.mem_cons_self ..) h, Option.bind_some, ih, List.filter_cons_of_pos h, List.map_cons]
    | false => simp only [Bool.false_eq_true, if_false, ih, List.filter_cons_of_neg (show ¬ c' a = true by rw [h]; exact Bool.false_ne_true)]
theorem lcM_nil {α β : Type} {c : α → Option Bool} {f : α → Option β} {l : List α} (hc : ∀ a ∈ l, c a = some false) : lcM c f l = some [] := by
  induction l with
  | nil => rfl
  | cons a as ih =>
    simp only [lcM, hc a (List.mem_cons_self ..), Option.bind_some, Bool.false_eq_true, if_false]
    exact ih fun b hb => hc b (List.mem_cons_of_mem _ hb)
theorem mapO_eq {α β : Type} {f : α → Option β} {f' : α → β} : ∀ {l : List α}, (∀ a ∈ l, f a = some (f' a)) → mapO f l = some (l.map f')
  | [], _ => rfl
  | a :: as, hf => by
    simp only [mapO, hf a (List.mem_cons_self ..), Option.bind_some, mapO_eq (l := as) (fun b hb => hf b (List.mem_cons_of_mem _ hb)), List.map_cons]
theorem cmul_l {i j : Int} (h : i.natAbs < 18446744073709551616) : cmul i j = some (i * j) := by unfold cmul; rw [if_pos (by simp [mulOk, h])]
theorem cmul_r {i j : Int} (h : j.natAbs < 18446744073709551616) : cmul i j = some (i * j) := by unfold cmul; rw [if_pos (by simp [mulOk, h])]
theorem cdiv_ok {i j : Int} (h : 0 < j) (h2 : j.natAbs < 1073741824) : cdiv i j = some (i / j) := by unfold cdiv; rw [if_pos (by simp [divOk, h, h2])]
theorem cmod_ok {i j : Int} (h : 0 < j) : cmod i j = some (i % j) := by unfold cmod; rw [if_pos h]
theorem cat_ok {α : Type} {a b : List α} (h : a.length + b.length ≤ 16777216) : cat a b = some (a ++ b) := by unfold cat; rw [if_pos (by simp [lineOk, h])]
theorem chk_ok {α : Type} {a : List α} (h : a.length ≤ 16777216) : chk a = some a := by unfold chk; rw [if_pos (by simp [lineOk, h])]
theorem push_ok {α : Type} {a : List α} {x : α} (h : a.length < 16777216) : push a x = some (a ++ [x]) := by unfold push; rw [if_pos h]
theorem crng1_ok {j : Int} (h : j.natAbs < 4611686018427387904) : crng1 j = some (rngI 0 j) := by unfold crng1; rw [if_pos (by simp [rngOk, h])]
theorem crng2_ok {i j : Int} (h : i.natAbs < 4611686018427387904) (h2 : j.natAbs < 4611686018427387904) : crng2 i j = some (rngI i j) := by unfold crng2; rw [if_pos (by simp [rngOk, h, h2])]
theorem rngI_mem {lo hi x : Int} : x ∈ rngI lo hi ↔ lo ≤ x ∧ x < hi := by
  unfold rngI
  rw [List.mem_map]
  constructor
  · rintro ⟨k, hk, rfl⟩
    rw [List.mem_range] at hk
    omega
  · intro h
    exact ⟨(x - lo).toNat, by rw [List.mem_range]; omega, by omega⟩
theorem rngI_len {lo hi : Int} : (rngI lo hi).length = (hi - lo).toNat := by simp [rngI]
theorem rngI_get {lo hi : Int} {i : Nat} (h : i < (rngI lo hi).length) : (rngI lo hi)[i] = lo + i := by simp [rngI]
theorem getI_nat {α : Type} {l : List α} {i : Nat} : getI l (i : Int) = l[i]? := atI_nat l i
theorem getI_in {α : Type} {l : List α} {i : Int} (h0 : 0 ≤ i) (h : i < l.length) : getI l i = some (l[i.toNat]'(by omega)) := atI_in h0 h
theorem getI_last {α : Type} {l : List α} {x : α} : getI (l ++ [x]) (-1) = some x := atI_last l x
theorem cutL_map {α : Type} (l : List α) (lo hi : Option Int) (f : α → D) : (cutL l lo hi).map f = cutD (l.map f) lo hi := (map_cut f l lo hi).symm
theorem sIx_le {n : Nat} {d : Nat} {i : Nat} (h : i ≤ n) : HT.sIx n d (some (i : Int)) = i := by
  unfold HT.sIx
  simp only
  rw [if_neg (by omega)]
  omega
theorem cutL_to {α : Type} (l : List α) {i : Nat} (h : i ≤ l.length) : cutL l none (some (i : Int)) = l.take i := by
  unfold cutL
  rw [sIx_le h]
  simp [HT.sIx]
theorem cutL_from {α : Type} (l : List α) {i : Nat} (h : i ≤ l.length) : cutL l (some (i : Int)) none = l.drop i := by
  unfold cutL
  rw [sIx_le h]
  simp [HT.sIx]
  rw [List.take_of_length_le (by simp)]
theorem zip_get2 {α β : Type} {l : List α} {m : List β} {k : Nat} {a : α} {b : β} (h : l[k]? = some a) (h2 : m[k]? = some b) : (l.zip m)[k]? = some (a, b) := by
  rw [List.zip, List.getElem?_zipWith, h, h2]
theorem fm_some {α β : Type} {f : α → Option β} {g : α → β} : ∀ {l : List α}, (∀ a ∈ l, f a = some (g a)) → l.filterMap f = l.map g
  | [], _ => rfl
  | a :: as, h => by rw [List.filterMap_cons_some (h a (List.mem_cons_self ..)), List.map_cons, fm_some (l := as) fun b hb => h b (List.mem_cons_of_mem _ hb)]
/-! ### rows -/
theorem pl_int {k : Nat} {i : Int} : pl k (D.int i) = true := by cases k <;> rfl
theorem pl_bl {k : Nat} {i : Bool} : pl k (D.bl i) = true := by cases k <;> rfl
theorem pl_str {k : Nat} {i : Str} : pl k (D.str i) = true := by cases k <;> rfl
theorem pl_non {k : Nat} : pl k D.non = true := by cases k <;> rfl
theorem pl_e2 {α β : Type} {f : α → D} {g : β → D} {k : Nat} {p : α × β} (h : pl k (f p.1) = true) (h2 : pl k (g p.2) = true) : pl (k + 1) (e2 f g p) = true := by
  simp [pl, h, h2]; rfl
theorem pl_e3 {α β γ : Type} {f : α → D} {g : β → D} {m : γ → D} {k : Nat} {p : α × β × γ} (h : pl k (f p.1) = true) (h2 : pl k (g p.2.1) = true) (h3 : pl k (m p.2.2) = true) : pl (k + 1) (e3 f g m p) = true := by
  simp [pl, h, h2, h3]; rfl
theorem pl_L {α : Type} {f : α → D} {k : Nat} {l : List α} (h : ∀ a ∈ l, pl k (f a) = true) (hl : l.length ≤ 16777216) : pl (k + 1) (eL f l) = true := by
  simp only [pl, lineOk, List.length_map, hl, decide_true, Bool.true_and, List.all_eq_true, List.mem_map]
  rintro _ ⟨a, ha, rfl⟩
  exact h a ha
theorem pl_T {α : Type} {f : α → D} {k : Nat} {l : List α} (h : ∀ a ∈ l, pl k (f a) = true) (hl : l.length ≤ 16777216) : pl (k + 1) (eT f l) = true := by
  simp only [pl, lineOk, List.length_map, hl, decide_true, Bool.true_and, List.all_eq_true, List.mem_map]
  rintro _ ⟨a, ha, rfl⟩
  exact h a ha
theorem row_eq {α : Type} {f : α → D} {m : Nat} {p : α × α} (h : p.1 = p.2) (hp : pl m (f p.2) = true) : RowOk m (e2 f f p) := ⟨f p.2, by show D.tup [f p.1, f p.2] = _; rw [h], hp⟩
/-- rows that are all right, and few -/
structure Rws (k : Nat) (rs : List D) : Prop where
  ok : ∀ d ∈ rs, RowOk 12 d
  few : rs.length ≤ k
theorem Rws.nil : Rws 0 [] := ⟨fun _ h => (List.not_mem_nil h).elim, Nat.le_refl _⟩
theorem Rws.cons {k : Nat} {d : D} {rs : List D} (h : RowOk 12 d) (t : Rws k rs) : Rws (k + 1) (d :: rs) := ⟨fun x hx => (List.mem_cons.mp hx).elim (fun e => e ▸ h) (t.ok x), by have := t.few; simp; omega⟩
theorem Rws.cat {k j m : Nat} {a b : List D} (h : Rws k a) (t : Rws j b) (hm : k + j ≤ m) (hm2 : m ≤ 16777216) : RE.cat a b = some (a ++ b) ∧ Rws m (a ++ b) :=
  ⟨cat_ok (by have := h.few; have := t.few; omega), fun x hx => (List.mem_append.mp hx).elim (h.ok x) (t.ok x), by have := h.few; have := t.few; simp; omega⟩
theorem Rws.mono {k m : Nat} {a : List D} (h : Rws k a) (hm : k ≤ m) : Rws m a := ⟨h.ok, Nat.le_trans h.few hm⟩
theorem Rws.all {k : Nat} {a : List D} (h : Rws k a) (hk : k ≤ 16777216) : rows_m a = some true := rows_has (Nat.le_trans h.few hk) h.ok
end RE
set_option Elab.async false
set_option linter.all false
set_option maxRecDepth 100000
/-! Mirrors: in, sorted, sum, sets, draws in comprehensions. -/
namespace RE
open PySem
section
variable {G : Gs} {ks : List Ss} {env env1 env2 : Sl} {P : Fl → Sl → Prop} {ss : Ss}
theorem endB_bor {fn : Fn} {d : D} (hb : fn.bor = true) (h : env[0]? = some (.mu .bor d)) : endB fn env = some (some d) := by
  unfold endB
  rw [if_pos hb, h]
/-! ### membership -/
theorem inD_lst (a : D) (ds : List D) : inD a (.lst ds) = (toPy a).bind fun p => (toPys ds).bind fun qs => if SeqAt.shaped p && SeqAt.shaped (.list qs) then some (qs.any fun z => PyData.eqv z p) else none := by
  cases a <;> rfl
theorem m_inL {α : Type} {f : α → D} {k : Nat} {py : α → PyData} [DecidableEq α] (h : Py f k py) (hk : k ≤ 63) (a : α) (l : List α) : inD (f a) (eL f l) = some (decide (a ∈ l)) := by
  rw [inD_lst, h.to]
  simp only [toPys_map h.to, Option.bind_some]
  have s1 : SeqAt.shaped (py a) = true := by have := h.dep a; simp [SeqAt.shaped, h.lay]; omega
  have s2 : SeqAt.shaped (.list (l.map py)) = true := by
    have h1 := (py_L h).lay l
    have h2 := (py_L h).dep l
    simp only [SeqAt.shaped, h1, Bool.true_and, decide_eq_true_eq]
    omega
  rw [s1, s2]
  simp only [Bool.and_self, if_true]
  congr 1
  rw [Bool.eq_iff_iff, List.any_map, List.any_eq_true, decide_eq_true_eq]
  constructor
  · rintro ⟨b, hb, e⟩
    have e : PyData.eqv (py b) (py a) = true := e
    rw [h.eqv] at e
    exact e ▸ hb
  · intro hb
    exact ⟨a, hb, (h.eqv a a).mpr rfl⟩
theorem intsOf_map (l : List Int) : intsOf (l.map D.int) = some l := by
  induction l with
  | nil => rfl
  | cons b l ih => simp [intsOf, ih]
theorem strsOf_map (l : List Str) : strsOf (l.map D.str) = some l := by
  induction l with
  | nil => rfl
  | cons b l ih => simp [strsOf, ih]
theorem any_mem {α : Type} [BEq α] [LawfulBEq α] [DecidableEq α] (a : α) (l : List α) : (l.any fun j => j == a) = decide (a ∈ l) := by
  rw [Bool.eq_iff_iff, List.any_eq_true, decide_eq_true_eq]
  constructor
  · rintro ⟨b, hb, e⟩
    have e : b = a := by simpa using e
    exact e ▸ hb
  · intro hb
    exact ⟨a, hb, by simp⟩
theorem m_inTI (a : Int) (l : List Int) : inD (D.int a) (eT D.int l) = some (decide (a ∈ l)) := by
  show (intsOf (l.map D.int)).bind _ = _
  rw [intsOf_map, ← any_mem]
  rfl
theorem m_inTS (a : Str) (l : List Str) : inD (D.str a) (eT D.str l) = some (l.any fun j => j == a) := by
  show (strsOf (l.map D.str)).bind _ = _
  rw [strsOf_map]
  rfl
theorem m_inS (a : Int) (l : List Int) : inD (D.int a) (D.set l) = some (decide (a ∈ l)) := by
  rw [← any_mem]
  rfl
theorem o_in {x y : D} {b : Bool} (h : inD x y = some b) : cmpR .In x y = some (.sh (.bl b)) := by
  show (inD x y).bind _ = _
  rw [h]
  rfl
theorem o_nin {x y : D} {b : Bool} (h : inD x y = some b) : cmpR .NotIn x y = some (.sh (.bl (!b))) := by
  show ((inD x y).bind _).bind _ = _
  rw [h]
  rfl
/-! ### built-ins of whole numbers -/
theorem o_sumL {l : List Int} : biD .sum [eL D.int l] = some (.sh (.int l.sum)) := by
  show (intsOf (l.map D.int)).bind _ = _
  rw [intsOf_map]
  rfl
theorem o_sumT {l : List Int} : biD .sum [eT D.int l] = some (.sh (.int l.sum)) := by
  show (intsOf (l.map D.int)).bind _ = _
  rw [intsOf_map]
  rfl
theorem o_sortL {l : List Int} : biD .sorted [eL D.int l] = some (.nw (eL D.int (sortI l))) := by
  show (intsOf (l.map D.int)).bind _ = _
  rw [intsOf_map]
  rfl
def csort (l : List Int) : Option (List Int) := if l.length < 64 then some (sortI (onceI [] l)) else none
theorem o_sortS {l r : List Int} (h : csort l = some r) : biD .sorted [.set l] = some (.nw (eL D.int r)) := by
  unfold csort at h
  show (if l.length < 64 then _ else _) = _
  split at h
  · rename_i hl
    rw [if_pos hl, ← sinj h]
  · cases h
def cset (l : List Int) : Option (List Int) := if l.length + 1 < 4096 then some l else none
theorem o_setL {l r : List Int} (h : cset l = some r) : biD .set [eL D.int l] = some (.sh (.set r)) := by
  unfold cset at h
  show (intsOf (l.map D.int)).bind _ = _
  rw [intsOf_map, Option.bind_some]
  split at h
  · rename_i hl
    rw [if_pos hl, ← sinj h]
  · cases h
theorem o_setT {l r : List Int} (h : cset l = some r) : biD .set [eT D.int l] = some (.sh (.set r)) := by
  unfold cset at h
  show (intsOf (l.map D.int)).bind _ = _
  rw [intsOf_map, Option.bind_some]
  split at h
  · rename_i hl
    rw [if_pos hl, ← sinj h]
  · cases h
def cmin : List Int → Option Int
  | [] => none
  | i :: r => some (minI i r)
def cmax : List Int → Option Int
  | [] => none
  | i :: r => some (maxI i r)
theorem o_min {l : List Int} {r : Int} (h : cmin l = some r) : biD .min1 [eL D.int l] = some (.sh (.int r)) := by
  cases l with
  | nil => cases h
  | cons i l =>
    show (intsOf ((i :: l).map D.int)).bind _ = _
    rw [intsOf_map, ← sinj h]
    rfl
theorem o_max {l : List Int} {r : Int} (h : cmax l = some r) : biD .max1 [eL D.int l] = some (.sh (.int r)) := by
  cases l with
  | nil => cases h
  | cons i l =>
    show (intsOf ((i :: l).map D.int)).bind _ = _
    rw [intsOf_map, ← sinj h]
    rfl
def crep {α : Type} (l : List α) (k : Int) : Option (List α) := if repOk l.length k = true then some (List.replicate k.toNat l).flatten else none
theorem o_rep {α : Type} {f : α → D} {l r : List α} {k : Int} (h : crep l k = some r) : binD .Mult (eL f l) (.int k) = some (.nw (eL f r)) := by
  unfold crep at h
  show (if repOk (l.map f).length k = true then _ else _) = _
  rw [List.length_map]
  split at h
  · rename_i hl
    rw [if_pos hl, ← sinj h, eL, List.map_flatten, List.map_replicate]
  · cases h
theorem x_trev {α : Type} {f : α → D} {l : List α} {a : E} {ra : Rv} (ha : X G a env ra env1) (h1 : rd ra env1 = some (eL f l)) : X G (.trev a) env (.sh (eT f l.reverse)) env1 := by
  show vUn _ _ _ = _
  have z : trevD (eL f l) = some (.sh (eT f l.reverse)) := by
    show some (Rv.sh (.tup (l.map f).reverse)) = _
    rw [eT, List.map_reverse]
  simp only [vUn, ha, h1, z, Option.bind_some]
/-! ### data whose kind is not told -/
def unI : D → Option Int
  | .int i => some i
  | _ => none
theorem x_unI {d : D} {i : Int} {e : E} (h : unI d = some i) (hx : X G e env (.sh d) env1) : X G e env (.sh (.int i)) env1 := by
  cases d <;> simp only [unI, Option.some.injEq] at h <;> try contradiction
  subst h
  exact hx
def atD (d : D) (i : Int) : Option D := ixD d (.int i)
theorem o_ixD {d x : D} {i : Int} (h : atD d i = some x) : ixR d (.int i) = some (.sh (eD x)) := by
  show (ixD d (.int i)).bind _ = _
  rw [show ixD d (.int i) = some x from h]
  rfl
/-! ### statements -/
theorem s_ext {α : Type} {f : α → D} {l l2 m : List α} {i : Nat} {e : E} (hp : cat l m = some l2) (h0 : ∃ d, env[i]? = some (.mu .own (.lst d))) (h : X G e env (.nw (eL f m)) env2) (h2 : env2[i]? = some (.mu .own (eL f l))) : evS G (.ext i e) env = some (.nx, env2.set i (.mu .own (eL f l2))) := by
  obtain ⟨d0, h0⟩ := h0
  show sExt i _ _ = _
  have m0 : muAt i env = some (.own, .lst d0) := by
    unfold muAt
    rw [h0]
  have m1 : muAt i env2 = some (.own, eL f l) := by
    unfold muAt
    rw [h2]
  unfold cat at hp
  split at hp
  · rename_i hl
    simp only [sExt, m0, isL, Option.bind_some, h, m1]
    rw [if_neg (by simp)]
    show (if lineOk ((l.map f).length + (m.map f).length) = true then _ else _) = _
    rw [if_pos (by rw [List.length_map, List.length_map]; exact hl), ← sinj hp, eL, List.map_append]
  · cases hp
/-- return a and b, where both may draw -/
theorem run_and {a e : E} {es : Es} {b : Bool} (ha : X G a env (.sh (.bl b)) env1) (h1 : b = true → Run G (.cons (.ret (.and (.cons e es))) .nil :: []) env1 P) (h0 : b = false → P (.ret (.sh (.bl false))) env1) : Run G (.cons (.ret (.and (.cons a (.cons e es)))) ss :: ks) env P := by
  have hv : (evB G (.and (.cons a (.cons e es)))).v env = if b = true then (evB G (.and (.cons e es))).v env1 else some (.sh (.bl false), env1) := by
    show vAnd2 _ _ _ = _
    simp only [vAnd2, ha, Option.bind_some]
    rfl
  cases hb : b with
  | false =>
    rw [hb] at hv
    exact run_rt hv (h0 hb)
  | true =>
    rw [hb] at hv
    obtain ⟨fl, env', e1, hp⟩ := h1 hb
    have e2 : (evB G (.and (.cons e es))).v env1 = (evB G (.and (.cons a (.cons e es)))).v env := by rw [hv]; rfl
    cases hx : (evB G (.and (.cons e es))).v env1 with
    | none =>
      exfalso
      have : evK G [.cons (.ret (.and (.cons e es))) .nil] env1 = none := by
        show sSeq (sSeq (sRet _) _) _ env1 = _
        simp only [sSeq, sRet, evE, hx, Option.bind_none]
      rw [this] at e1
      cases e1
    | some p =>
      obtain ⟨r, env3⟩ := p
      have : evK G [.cons (.ret (.and (.cons e es))) .nil] env1 = some (.ret r, env3) := by
        show sSeq (sSeq (sRet _) _) _ env1 = _
        simp only [sSeq, sRet, evE, hx, Option.bind_some]
      rw [this] at e1
      cases e1
      exact run_rt (show (evB G _).v env = _ from e2 ▸ hx) hp
theorem run_and1 {e : E} {r : Rv} (h : X G e env r env1) (hp : P (.ret r) env1) : Run G (.cons (.ret (.and (.cons e .nil))) ss :: ks) env P := run_rt (e := .and (.cons e .nil)) h hp
end
/-! ### comprehensions that draw -/
def lcS {α β σ : Type} (f : σ → α → Option (β × σ)) : List α → σ → Option (List β × σ)
  | [], s => some ([], s)
  | a :: as, s => (f s a).bind fun r => (lcS f as r.2).bind fun q => some (r.1 :: q.1, q.2)
theorem loopC_S {α β σ : Type} {tg : Tg} {cd : Sl → Option (Bool × Sl)} {elt : Sl → Option (D × Sl)} {own : List Nat} {E : σ → Sl} {e : α → D} {eb : β → D} {f : σ → α → Option (β × σ)}
    (hs : ∀ a s, ∃ env2, bindT tg (e a) (wipeS (E s) own) = some env2 ∧ cd env2 = some (true, env2) ∧ ∀ r, f s a = some r → ∃ env3, elt env2 = some (eb r.1, env3) ∧ backS env3 (E s) own = E r.2) :
    ∀ {items : List α} {s : σ} {out : List β × σ}, lcS f items s = some out → loopC tg cd elt own (items.map e) (E s) = some (out.1.map eb, E out.2)
  | [], s, out, h => by
    simp only [lcS, Option.some.injEq] at h
    subst h
    rfl
  | a :: as, s, out, h => by
    obtain ⟨env2, h1, h2, h3⟩ := hs a s
    simp only [lcS] at h
    obtain ⟨r, hr, h⟩ := bs h
    obtain ⟨q, hq, h⟩ := bs h
    obtain ⟨env3, h4, h5⟩ := h3 r hr
    have := loopC_S hs hq
    simp only [List.map_cons, loopC, h1, h2, Option.bind_some, if_true, h4, h5, this, ← sinj h]
theorem x_lcS {α β σ : Type} {G : Gs} {tg : Tg} {it : RE.I} {elt : RE.E} {env : Sl} {l : Option Nat} (E : σ → Sl) (e : α → D) (eb : β → D) {f : σ → α → Option (β × σ)} {items : List α} {s : σ} {out : List β × σ} {out2 : List β} (h : lcS f items s = some out) (hl : chk out.1 = some out2) (hi : evI G it env = some (items.map e, E s, l))
    (hs : ∀ a s, ∃ env2, bindT tg (e a) (wipeS (E s) tg.slots) = some env2 ∧ ∀ r, f s a = some r → ∃ env3, toD (evB G elt).v env2 = some (eb r.1, env3) ∧ backS env3 (E s) tg.slots = E r.2) :
    X G (.lc elt tg it .no) env (.nw (eL eb out2)) (unlock l (E out.2)) := by
  obtain ⟨e1, hk⟩ := chk_line hl
  subst e1
  show vLc _ _ _ _ _ = _
  have := loopC_S (own := tg.slots) (cd := evC G .no) (E := E) (e := e) (eb := eb) (f := f) (fun a s => by
    obtain ⟨env2, h1, h2⟩ := hs a s
    exact ⟨env2, h1, rfl, h2⟩) h
  have hl2 : lineOk (out.1.map eb).length = true := by rw [List.length_map]; exact hk
  simp only [vLc, hi, Option.bind_some, this]
  rw [if_pos hl2]
end RE
set_option Elab.async false
set_option linter.all false
set_option maxRecDepth 100000
/-! A small logic for mirrors: it gives something, and that is so. -/
namespace RE
open PySem
def Ex {α : Type} (m : Option α) (P : α → Prop) : Prop := ∃ a, m = some a ∧ P a
section
variable {α β σ ρ : Type} {P : β → Prop}
theorem ex_ret {a : β} (h : P a) : Ex (some a) P := ⟨a, rfl, h⟩
theorem ex_bind {Q : α → Prop} {m : Option α} {k : α → Option β} (h : Ex m Q) (hk : ∀ a, Q a → Ex (k a) P) : Ex (m.bind k) P := by
  obtain ⟨a, e, q⟩ := h
  rw [e]
  exact hk a q
theorem ex_eq {m : Option α} {k : α → Option β} {a : α} (h : m = some a) (hk : Ex (k a) P) : Ex (m.bind k) P := by
  rw [h]
  exact hk
theorem ex_some {k : α → Option β} {a : α} (hk : Ex (k a) P) : Ex ((some a).bind k) P := hk
theorem ex_mono {Q : β → Prop} {m : Option β} (h : Ex m Q) (hq : ∀ a, Q a → P a) : Ex m P := by
  obtain ⟨a, e, q⟩ := h
  exact ⟨a, e, hq a q⟩
theorem ex_of {m : Option β} {a : β} (h : m = some a) (hp : P a) : Ex m P := ⟨a, h, hp⟩
theorem ex_t {c : Bool} {a b : Option β} (hc : c = true) (h : Ex a P) : Ex (if c = true then a else b) P := by rw [if_pos hc]; exact h
theorem ex_f {c : Bool} {a b : Option β} (hc : c = false) (h : Ex b P) : Ex (if c = true then a else b) P := by
  rw [if_neg (by rw [hc]; exact Bool.false_ne_true)]
  exact h
theorem ex_if {c : Bool} {a b : Option β} (ht : c = true → Ex a P) (hf : c = false → Ex b P) : Ex (if c = true then a else b) P := by
  cases hc : c with
  | true => exact ex_t rfl (ht hc)
  | false => exact ex_f rfl (hf hc)
theorem ex_fld {step : β → α → Option β} (I : Nat → β → Prop) {items : List α} {s : β} (h0 : I 0 s) (hs : ∀ i s a, items[i]? = some a → I i s → Ex (step s a) (I (i + 1))) (hP : ∀ s, I items.length s → P s) : Ex (fld step items s) P := by
  have key : ∀ (l : List α) (k : Nat) (s : β), (∀ i a, l[i]? = some a → items[k + i]? = some a) → I k s → ∃ s', fld step l s = some s' ∧ I (k + l.length) s' := by
    intro l
    induction l with
    | nil => intro k s _ h; exact ⟨s, rfl, h⟩
    | cons a as ih =>
      intro k s hl h
      obtain ⟨s1, e1, h1⟩ := hs k s a (by have := hl 0 a rfl; simpa using this) h
      obtain ⟨s2, e2, h2⟩ := ih (k + 1) s1 (fun i b hb => by
        have := hl (i + 1) b (by simpa using hb)
        rw [show k + 1 + i = k + (i + 1) by omega]
        exact this) h1
      refine ⟨s2, bok e1 e2, ?_⟩
      rw [List.length_cons, show k + (as.length + 1) = k + 1 + as.length by omega]
      exact h2
  obtain ⟨s', e, h⟩ := key items 0 s (fun i a h => by rw [Nat.zero_add]; exact h) h0
  rw [Nat.zero_add] at h
  exact ⟨s', e, hP s' h⟩
theorem ex_whl {c : β → Option Bool} {b : β → Option β} (I : β → Prop) (μ : β → Nat) (hc : ∀ s, I s → Ex (c s) fun t => (t = true → Ex (b s) fun s' => I s' ∧ μ s' < μ s) ∧ (t = false → P s)) : ∀ {n : Nat} {s : β}, I s → μ s < n → Ex (whl c b n s) P
  | 0, s, _, h => absurd h (Nat.not_lt_zero _)
  | n + 1, s, hi, h => by
    obtain ⟨t, e, ht, hf⟩ := hc s hi
    unfold whl
    rw [e]
    cases t with
    | false => exact ⟨s, rfl, hf rfl⟩
    | true =>
      obtain ⟨s', e', hi', hm⟩ := ht rfl
      show Ex ((b s).bind fun s => whl c b n s) P
      rw [e']
      exact ex_whl I μ hc hi' (by omega)
theorem ex_lcS {f : σ → α → Option (ρ × σ)} {items : List α} (Q : ρ → Prop) {P : List ρ × σ → Prop} (hf : ∀ s a, a ∈ items → Ex (f s a) fun r => Q r.1) {s : σ} (hP : ∀ out s', out.length = items.length → (∀ x ∈ out, Q x) → P (out, s')) : Ex (lcS f items s) P := by
  have key : ∀ (l : List α) (s : σ), (∀ a ∈ l, a ∈ items) → ∃ out s', lcS f l s = some (out, s') ∧ out.length = l.length ∧ ∀ x ∈ out, Q x := by
    intro l
    induction l with
    | nil => intro s _; exact ⟨[], s, rfl, rfl, fun x h => (List.not_mem_nil h).elim⟩
    | cons a as ih =>
      intro s hl
      obtain ⟨r, e, q⟩ := hf s a (hl a (List.mem_cons_self ..))
      obtain ⟨out, s', e2, h1, h2⟩ := ih r.2 fun b hb => hl b (List.mem_cons_of_mem _ hb)
      refine ⟨r.1 :: out, s', bok e (bok e2 rfl), by simp [h1], fun x hx => ?_⟩
      rcases List.mem_cons.mp hx with rfl | hx
      · exact q
      · exact h2 x hx
  obtain ⟨out, s', e, h1, h2⟩ := key items s fun a h => h
  exact ⟨_, e, hP out s' h1 h2⟩
theorem ex_pick {s : S2} {m : Int} {P : Int × S2 → Prop} (hm : 0 < m) (hm2 : m < 1073741824) (h : ∀ r s', 0 ≤ r → r < m → P (r, s')) : Ex (pick_m s m) P := by
  obtain ⟨r, s', h0, h1, e⟩ := pick_has s hm hm2
  exact ⟨_, e, h r s' h0 h1⟩
theorem ex_pickb {β : Type} {P : β → Prop} {s : S2} {m : Int} {k : Int × S2 → Option β} (hm : 0 < m) (hm2 : m < 1073741824) (h : ∀ r s', 0 ≤ r → r < m → Ex (k (r, s')) P) : Ex ((pick_m s m).bind k) P := by
  obtain ⟨r, s', h0, h1, e⟩ := pick_has s hm hm2
  exact ex_eq e (h r s' h0 h1)
theorem ex_lcSb {β : Type} {P : β → Prop} {f : σ → α → Option (ρ × σ)} {items : List α} {k : List ρ × σ → Option β} (Q : ρ → Prop) (hf : ∀ s a, a ∈ items → Ex (f s a) fun r => Q r.1) {s : σ} (h : ∀ out s', out.length = items.length → (∀ x ∈ out, Q x) → Ex (k (out, s')) P) : Ex ((lcS f items s).bind k) P :=
  ex_bind (ex_lcS (P := fun o => o.1.length = items.length ∧ ∀ x ∈ o.1, Q x) Q hf fun out s' h1 h2 => ⟨h1, h2⟩) fun o ho => h o.1 o.2 ho.1 ho.2
/-- a loop that goes on to its end -/
theorem ex_fldC_nx {step : σ → α → Option (Ctl σ ρ)} (I : Nat → σ → Prop) {P : Ctl σ ρ → Prop} {items : List α} {s : σ} (h0 : I 0 s) (hs : ∀ i s a, items[i]? = some a → I i s → Ex (step s a) fun c => ∃ s', c = .nx s' ∧ I (i + 1) s') (hP : ∀ s, I items.length s → P (.nx s)) : Ex (fldC step items s) P := by
  have key : ∀ (l : List α) (k : Nat) (s : σ), (∀ i a, l[i]? = some a → items[k + i]? = some a) → I k s → ∃ s', fldC step l s = some (.nx s') ∧ I (k + l.length) s' := by
    intro l
    induction l with
    | nil => intro k s _ h; exact ⟨s, rfl, h⟩
    | cons a as ih =>
      intro k s hl h
      obtain ⟨c, e1, s1, rfl, h1⟩ := hs k s a (by have := hl 0 a rfl; simpa using this) h
      obtain ⟨s2, e2, h2⟩ := ih (k + 1) s1 (fun i b hb => by
        have := hl (i + 1) b (by simpa using hb)
        rw [show k + 1 + i = k + (i + 1) by omega]
        exact this) h1
      refine ⟨s2, bok e1 e2, ?_⟩
      rw [List.length_cons, show k + (as.length + 1) = k + 1 + as.length by omega]
      exact h2
  obtain ⟨s', e, h⟩ := key items 0 s (fun i a h => by rw [Nat.zero_add]; exact h) h0
  rw [Nat.zero_add] at h
  exact ⟨_, e, hP s' h⟩
/-- a loop that searches -/
def ctlOf : Option ρ → Ctl Unit ρ
  | none => .nx ()
  | some r => .ret r
theorem fldC_find {step : Unit → α → Option (Ctl Unit ρ)} (p : α → Option ρ) : ∀ {items : List α}, (∀ a ∈ items, step () a = some (ctlOf (p a))) → fldC step items () = some (ctlOf (items.findSome? p))
  | [], _ => rfl
  | a :: as, h => by
    refine bok (h a (List.mem_cons_self ..)) ?_
    rw [List.findSome?_cons]
    cases p a with
    | some r => rfl
    | none => exact fldC_find p fun b hb => h b (List.mem_cons_of_mem _ hb)
end
theorem rngI_at {lo hi : Int} {i : Nat} {a : Int} (h : (rngI lo hi)[i]? = some a) : a = lo + i ∧ (i : Int) < hi - lo := by
  have hl : i < (rngI lo hi).length := by
    by_cases z : i < (rngI lo hi).length
    · exact z
    · rw [List.getElem?_eq_none (by omega)] at h; cases h
  rw [List.getElem?_eq_getElem hl, rngI_get hl] at h
  rw [rngI_len] at hl
  exact ⟨(sinj h).symm, by omega⟩
theorem crep_ok {α : Type} {l : List α} {k : Int} (h : k.natAbs < 4611686018427387904) (h2 : l.length * k.toNat ≤ 16777216) : crep l k = some (List.replicate k.toNat l).flatten := by
  unfold crep
  rw [if_pos (by simp [repOk, lineOk, h, h2])]
theorem rep_len {α : Type} (l : List α) : ∀ n, (List.replicate n l).flatten.length = n * l.length
  | 0 => by simp
  | n + 1 => by rw [List.replicate_succ, List.flatten_cons, List.length_append, rep_len l n, Nat.add_mul, Nat.one_mul, Nat.add_comm]
theorem cutL_len {α : Type} (l : List α) (lo hi : Option Int) : (cutL l lo hi).length ≤ l.length := by
  unfold cutL
  rw [List.length_take, List.length_drop]
  omega
/-! ### the least number left out -/
structure IsMex (l : List Int) (r : Int) : Prop where
  nn : 0 ≤ r
  out : r ∉ l
  low : ∀ j, 0 ≤ j → j < r → j ∈ l
theorem IsMex.one {l : List Int} {r q : Int} (h : IsMex l r) (t : IsMex l q) : r = q := by
  have a : ¬ r < q := fun z => h.out (t.low r h.nn z)
  have b : ¬ q < r := fun z => t.out (h.low q t.nn z)
  omega
theorem IsMex.same {l m : List Int} {r : Int} (h : IsMex l r) (e : ∀ x, x ∈ l ↔ x ∈ m) : IsMex m r := ⟨h.nn, fun z => h.out ((e r).mpr z), fun j h0 h1 => (e j).mp (h.low j h0 h1)⟩
theorem filt_lt {l : List Int} {s : Int} (h : s ∈ l) : (l.filter fun x => decide (s + 1 ≤ x)).length < (l.filter fun x => decide (s ≤ x)).length := by
  induction l with
  | nil => cases h
  | cons x l ih =>
    have mono : ∀ m : List Int, (m.filter fun x => decide (s + 1 ≤ x)).length ≤ (m.filter fun x => decide (s ≤ x)).length := by
      intro m
      induction m with
      | nil => exact Nat.le_refl _
      | cons y m ihm =>
        simp only [List.filter_cons, decide_eq_true_eq]
        split <;> split <;> (try simp only [List.length_cons]) <;> omega
    rcases List.mem_cons.mp h with rfl | h
    · simp only [List.filter_cons, decide_eq_true_eq]
      rw [if_neg (by omega), if_pos (by omega), List.length_cons]
      have := mono l
      omega
    · have := ih h
      simp only [List.filter_cons, decide_eq_true_eq]
      split <;> split <;> (try simp only [List.length_cons]) <;> omega
theorem mex_whl {l : List Int} (hl : l.length < 1000000000) {c : Int → Option Bool} {b : Int → Option Int} (hc : ∀ s, c s = some (decide (s ∈ l))) (hb : ∀ s, b s = some (s + 1)) : Ex (whl c b 1000000000 0) (IsMex l) := by
  refine ex_whl (fun s => 0 ≤ s ∧ ∀ j, 0 ≤ j → j < s → j ∈ l) (fun s => (l.filter fun x => decide (s ≤ x)).length) (fun s hs => ?_) ⟨Int.le_refl _, fun j h0 h1 => by omega⟩ (Nat.lt_of_le_of_lt (List.length_filter_le _ _) hl)
  refine ex_of (hc s) ⟨fun h => ?_, fun h => ?_⟩
  · rw [decide_eq_true_eq] at h
    refine ex_of (hb s) ⟨⟨by omega, fun j h0 h1 => ?_⟩, filt_lt h⟩
    by_cases e : j = s
    · exact e ▸ h
    · exact hs.2 j h0 (by omega)
  · rw [decide_eq_false_iff_not] at h
    exact ⟨hs.1, h, hs.2⟩
theorem mex_ex (l : List Int) (hl : l.length < 1000000000) : ∃ r, IsMex l r := by
  obtain ⟨r, _, h⟩ := mex_whl hl (c := fun s => some (decide (s ∈ l))) (b := fun s => some (s + 1)) (fun _ => rfl) (fun _ => rfl)
  exact ⟨r, h⟩
end RE
set_option Elab.async false
set_option linter.all false
set_option maxRecDepth 100000
namespace K56
open PySem PySem.Spec PyProof.Rows L2 He RE
def top (i : Nat) : Stmt := PySem.Challenge.pw_notewhole_k56_whole_values_that_go_round.main.body.getD i (.Pass ⟨0, 0, 0, 0⟩)
/-- law -/
def b0 : Ss := (.cons (.for (.nm 1) (.rg1 (.bin .Add (.bi .min2 (.cons (.bi .len (.cons (.nm 0) .nil)) (.cons (.int 5) .nil))) (.int 2))) (.cons (.ifs (.nt (.call 1 (.cons (.call 2 (.cons (.call 3 (.cons (.nm 0) (.cons (.nm 1) .nil))) (.cons (.nm 1) .nil))) .nil))) (.cons (.ret (.bl false)) .nil) .nil) .nil)) (.cons (.ret (.bl true)) .nil))
def d0 : Df := ⟨⟨("law", none), "law", "law", defArgs (top 31), defBody (top 31), defScope (top 31), [], []⟩, ⟨1, 2, false, b0⟩, ["script", "k"], ["script"]⟩
/-- _law_right -/
def b1 : Ss := (.cons (.ret (.and (.cons (.call 5 (.cons (.nm 0) .nil)) (.cons (.call 4 (.cons (.nm 0) .nil)) .nil)))) .nil)
def d1 : Df := ⟨⟨("_law_right", none), "_law_right", "_law_right", defArgs (top 30), defBody (top 30), defScope (top 30), [], []⟩, ⟨1, 1, true, b1⟩, ["source"], ["source"]⟩
/-- _law_source -/
def b2 : Ss := (.cons (.ifs (.cmp .GtE (.nm 0) (.bin .Pow (.int 10) (.int 18))) (.cons (.ret (.lst (.cons (.bin .Sub (.nm 0) (.bin .Pow (.int 10) (.int 18))) (.cons (.bin .Add (.nm 1) (.int 1)) .nil)))) .nil) .nil) (.cons (.ret (.lst (.cons (.int 0) (.cons (.bin .Mod (.bi .int (.cons (.bin .Add (.bin .Add (.bin .Mult (.nm 0) (.int 7919)) (.bin .Mult (.nm 1) (.int 104729))) (.int 1)) .nil)) (.int 2147483647)) .nil)))) .nil))
def d2 : Df := ⟨⟨("_law_source", none), "_law_source", "_law_source", defArgs (top 22), defBody (top 22), defScope (top 22), [], []⟩, ⟨2, 2, false, b2⟩, ["cell", "k"], ["cell", "k"]⟩
/-- _law_cell -/
def b3 : Ss := (.cons (.ifs (.cmp .Lt (.nm 1) (.bi .len (.cons (.nm 0) .nil))) (.cons (.ret (.ix (.nm 0) (.nm 1))) .nil) .nil) (.cons (.ret (.int 0)) .nil))
def d3 : Df := ⟨⟨("_law_cell", none), "_law_cell", "_law_cell", defArgs (top 21), defBody (top 21), defScope (top 21), [], []⟩, ⟨2, 2, false, b3⟩, ["script", "k"], ["script", "k"]⟩
/-- _law_games_right -/
def b4 : Ss := (.cons (.asg 1 (.bi .sorted (.cons (.lc (.bin .Add (.int 1) (.call 6 (.cons (.nm 0) (.cons (.int 15) .nil)))) (.nm 19) (.rg1 (.bin .Add (.int 1) (.call 6 (.cons (.nm 0) (.cons (.int 6) .nil))))) .no) .nil))) (.cons (.asg 2 (.bin .Add (.int 40) (.call 6 (.cons (.nm 0) (.cons (.int 200) .nil))))) (.cons (.par [9, 10] (.cons (.call 7 (.cons (.nm 1) (.cons (.nm 2) .nil))) (.cons (.lst .nil) .nil))) (.cons (.for (.nm 3) (.rg1 (.nm 2)) (.cons (.app 10 (.call 8 (.cons (.lc (.ix (.nm 10) (.bin .Sub (.nm 3) (.nm 20))) (.nm 20) (.of (.nm 1)) (.so (.cmp .LtE (.nm 20) (.nm 3)))) .nil))) .nil)) (.cons (.asg 4 (.lst (.cons (.tup (.cons (.nm 9) (.cons (.bi .tuple (.cons (.nm 10) .nil)) .nil))) (.cons (.tup (.cons (.call 7 (.cons (.bin .Add (.nm 1) (.nm 1)) (.cons (.nm 2) .nil))) (.cons (.bi .tuple (.cons (.nm 10) .nil)) .nil))) (.cons (.tup (.cons (.call 7 (.cons (.rev (.nm 1)) (.cons (.nm 2) .nil))) (.cons (.bi .tuple (.cons (.nm 10) .nil)) .nil))) .nil))))) (.cons (.for (.nm 3) (.rg1 (.nm 2)) (.cons (.asg 11 (.lc (.nm 20) (.nm 20) (.of (.nm 1)) (.so (.and (.cons (.cmp .LtE (.nm 20) (.nm 3)) (.cons (.cmp .Eq (.ix (.nm 9) (.bin .Sub (.nm 3) (.nm 20))) (.int 0)) .nil)))))) (.cons (.ifs (.cmp .NotEq (.cmp .Eq (.ix (.nm 9) (.nm 3)) (.int 0)) (.cmp .Eq (.nm 11) (.lst .nil))) (.cons (.ret (.bl false)) .nil) .nil) .nil))) (.cons (.ifs (.cmp .GtE (.nm 2) (.int 90)) (.cons (.asg 4 (.bin .Add (.nm 4) (.lst (.cons (.tup (.cons (.call 10 (.cons (.slc (.nm 9) .no (.so (.int 90))) .nil)) (.cons (.call 9 (.cons (.slc (.nm 10) .no (.so (.int 90))) .nil)) .nil))) .nil)))) .nil) .nil) (.cons (.par [12, 13] (.cons (.call 6 (.cons (.nm 0) (.cons (.int 40) .nil))) (.cons (.call 6 (.cons (.nm 0) (.cons (.int 40) .nil))) .nil))) (.cons (.asg 5 (.bin .Add (.lc (.tup (.cons (.bin .Sub (.nm 12) (.nm 20)) (.cons (.nm 13) .nil))) (.nm 20) (.of (.nm 1)) (.so (.cmp .LtE (.nm 20) (.nm 12)))) (.lc (.tup (.cons (.nm 12) (.cons (.bin .Sub (.nm 13) (.nm 20)) .nil))) (.nm 20) (.of (.nm 1)) (.so (.cmp .LtE (.nm 20) (.nm 13)))))) (.cons (.asg 6 (.lc (.nm 17) (.nm 17) (.of (.nm 5)) (.so (.cmp .Eq (.ix (.nm 9) (.ix (.nm 17) (.int 0))) (.ix (.nm 9) (.ix (.nm 17) (.int 1))))))) (.cons (.asg 4 (.bin .Add (.nm 4) (.lst (.cons (.tup (.cons (.cmp .Eq (.ix (.nm 9) (.nm 12)) (.ix (.nm 9) (.nm 13))) (.cons (.cmp .Eq (.nm 6) (.lst .nil)) .nil))) .nil)))) (.cons (.asg 7 (.call 11 (.cons (.tup (.cons (.ix (.nm 9) (.nm 12)) (.cons (.ix (.nm 9) (.nm 13)) .nil))) .nil))) (.cons (.asg 4 (.bin .Add (.nm 4) (.lst (.cons (.tup (.cons (.ix (.nm 7) (.int 0)) (.cons (.ix (.lst (.cons (.str "won") (.cons (.str "lost") .nil))) (.bi .int (.cons (.cmp .Eq (.ix (.nm 9) (.nm 12)) (.ix (.nm 9) (.nm 13))) .nil))) .nil))) .nil)))) (.cons (.ifs (.cmp .Eq (.ix (.nm 7) (.int 0)) (.str "won")) (.cons (.asg 4 (.bin .Add (.nm 4) (.lst (.cons (.tup (.cons (.cmp .Eq (.ix (.call 12 (.cons (.tup (.cons (.ix (.nm 9) (.nm 12)) (.cons (.ix (.nm 9) (.nm 13)) .nil))) (.cons (.ix (.nm 7) (.int 1)) (.cons (.ix (.nm 7) (.int 2)) .nil)))) (.int 0)) (.ix (.call 12 (.cons (.tup (.cons (.ix (.nm 9) (.nm 12)) (.cons (.ix (.nm 9) (.nm 13)) .nil))) (.cons (.ix (.nm 7) (.int 1)) (.cons (.ix (.nm 7) (.int 2)) .nil)))) (.int 1))) (.cons (.bl true) .nil))) .nil)))) .nil) .nil) (.cons (.par [14, 15] (.cons (.lst .nil) (.cons (.bin .Add (.int 1) (.call 6 (.cons (.nm 0) (.cons (.int 60) .nil)))) .nil))) (.cons (.for (.nm 8) (.rg1 (.nm 15)) (.cons (.asg 5 (.lst .nil)) (.cons (.for (.nm 16) (.of (.tup (.cons (.int 1) (.cons (.int 2) .nil)))) (.cons (.for (.nm 18) (.rg1 (.bin .Add (.bin .Sub (.nm 8) (.nm 16)) (.int 1))) (.cons (.par [21, 22, 23, 24] (.cons (.ix (.nm 14) (.nm 18)) (.cons (.ix (.nm 14) (.bin .Sub (.bin .Sub (.nm 8) (.nm 16)) (.nm 18))) (.cons (.int 0) (.cons (.int 1) .nil))))) (.cons (.whl (.or (.cons (.cmp .Gt (.nm 21) (.int 0)) (.cons (.cmp .Gt (.nm 22) (.int 0)) .nil))) (.cons (.par [23, 21, 22, 24] (.cons (.bin .Add (.nm 23) (.bin .Mult (.nm 24) (.bin .Mod (.bin .Add (.nm 21) (.nm 22)) (.int 2)))) (.cons (.bin .FloorDiv (.nm 21) (.int 2)) (.cons (.bin .FloorDiv (.nm 22) (.int 2)) (.cons (.bin .Mult (.nm 24) (.int 2)) .nil))))) .nil)) (.cons (.app 5 (.nm 23)) .nil)))) .nil)) (.cons (.app 14 (.call 8 (.cons (.nm 5) .nil))) (.cons (.asg 4 (.bin .Add (.nm 4) (.lst (.cons (.tup (.cons (.call 13 (.cons (.nm 5) .nil)) (.cons (.ix (.nm 14) (.nm 8)) .nil))) .nil)))) .nil))))) (.cons (.ret (.call 14 (.cons (.bin .Add (.nm 4) (.lst (.cons (.tup (.cons (.call 15 (.cons (.nm 15) .nil)) (.cons (.bi .tuple (.cons (.nm 14) .nil)) .nil))) .nil))) .nil))) .nil)))))))))))))))))
def d4 : Df := ⟨⟨("_law_games_right", none), "_law_games_right", "_law_games_right", defArgs (top 29), defBody (top 29), defScope (top 29), [], []⟩, ⟨1, 25, true, b4⟩, ["source", "takes", "count", "heap", "rows", "nexts", "lost", "claim", "own", "told", "values", "goes", "first", "second", "pins", "size", "falls", "pair", "left", "turn", "take", "one", "other", "whole", "scale"], ["source"]⟩
/-- _law_rows_right -/
def b5 : Ss := (.cons (.asg 1 (.lst .nil)) (.cons (.for (.nm 2) (.rg1 (.int 6)) (.cons (.asg 3 (.bin .Add (.int 1) (.call 6 (.cons (.nm 0) (.cons (.int 3) .nil))))) (.cons (.asg 4 (.lc (.call 6 (.cons (.nm 0) (.cons (.bin .Add (.nm 3) (.int 1)) .nil))) (.nm 9) (.rg1 (.call 6 (.cons (.nm 0) (.cons (.int 7) .nil)))) .no)) (.cons (.asg 5 (.lc (.call 6 (.cons (.nm 0) (.cons (.bin .Add (.nm 3) (.int 1)) .nil))) (.nm 9) (.rg1 (.bin .Add (.int 1) (.call 6 (.cons (.nm 0) (.cons (.int 6) .nil))))) .no)) (.cons (.asg 6 (.bin .Add (.bin .Add (.nm 4) (.bin .Mult (.nm 5) (.bin .Add (.int 1) (.call 6 (.cons (.nm 0) (.cons (.int 3) .nil)))))) (.slc (.nm 5) .no (.so (.call 6 (.cons (.nm 0) (.cons (.bin .Add (.bi .len (.cons (.nm 5) .nil)) (.int 1)) .nil))))))) (.cons (.asg 7 (.lc (.call 6 (.cons (.nm 0) (.cons (.nm 3) .nil))) (.nm 9) (.rg1 (.call 6 (.cons (.nm 0) (.cons (.int 16) .nil)))) .no)) (.cons (.for (.nm 8) (.of (.lst (.cons (.nm 6) (.cons (.nm 7) (.cons (.bin .Add (.nm 6) (.lst (.cons (.int 9) .nil))) (.cons (.bin .Add (.lst (.cons (.int 7) .nil)) (.nm 6)) (.cons (.rev (.nm 6)) .nil))))))) (.cons (.asg 1 (.bin .Add (.nm 1) (.lst (.cons (.tup (.cons (.call 10 (.cons (.nm 8) .nil)) (.cons (.call 9 (.cons (.nm 8) .nil)) .nil))) (.cons (.tup (.cons (.call 10 (.cons (.bi .tuple (.cons (.nm 8) .nil)) .nil)) (.cons (.call 9 (.cons (.nm 8) .nil)) .nil))) .nil))))) .nil)) .nil))))))) (.cons (.ret (.call 14 (.cons (.nm 1) .nil))) .nil)))
def d5 : Df := ⟨⟨("_law_rows_right", none), "_law_rows_right", "_law_rows_right", defArgs (top 28), defBody (top 28), defScope (top 28), [], []⟩, ⟨1, 10, true, b5⟩, ["source", "rows", "turn", "few", "front", "again", "wide", "drawn", "own", "place"], ["source"]⟩
/-- _law_pick -/
def b6 : Ss := (.cons (.ifs (.cmp .Gt (.ix (.nm 0) (.int 0)) (.int 1)) (.cons (.asg 3 (.bin .Mod (.bi .int (.cons (.ix (.nm 0) (.int 0)) .nil)) (.nm 1))) (.cons (.setix 0 (.int 0) (.bin .FloorDiv (.ix (.nm 0) (.int 0)) (.nm 1))) (.cons (.ret (.nm 3)) .nil))) .nil) (.cons (.setix 0 (.int 1) (.bin .Mod (.bi .int (.cons (.bin .Add (.bin .Mult (.ix (.nm 0) (.int 1)) (.int 48271)) (.int 12345)) .nil)) (.int 2147483647))) (.cons (.asg 2 (.bin .Mod (.bi .int (.cons (.bin .Add (.bin .Add (.bin .Mult (.ix (.nm 0) (.int 1)) (.int 69621)) (.bin .FloorDiv (.ix (.nm 0) (.int 1)) (.int 127))) (.int 7)) .nil)) (.int 2147483629))) (.cons (.ret (.bin .Mod (.bi .int (.cons (.bin .FloorDiv (.nm 2) (.int 16)) .nil)) (.nm 1))) .nil))))
def d6 : Df := ⟨⟨("_law_pick", none), "_law_pick", "_law_pick", defArgs (top 23), defBody (top 23), defScope (top 23), [], []⟩, ⟨2, 4, true, b6⟩, ["source", "many", "mixed", "picked"], ["source", "many"]⟩
/-- values_of_game -/
def b7 : Ss := (.cons (.ifs (.nt (.ch2 .LtE .LtE (.int 0) (.nm 1) (.int 2000))) (.cons .dead .nil) .nil) (.cons (.ifs (.bi .any (.cons (.lc (.cmp .Lt (.nm 4) (.int 1)) (.nm 4) (.of (.nm 0)) .no) .nil)) (.cons .dead .nil) .nil) (.cons (.asg 2 (.lst .nil)) (.cons (.for (.nm 3) (.rg1 (.nm 1)) (.cons (.app 2 (.call 13 (.cons (.lc (.ix (.nm 2) (.bin .Sub (.nm 3) (.nm 4))) (.nm 4) (.of (.nm 0)) (.so (.cmp .LtE (.nm 4) (.nm 3)))) .nil))) .nil)) (.cons (.ret (.bi .tuple (.cons (.nm 2) .nil))) .nil)))))
def d7 : Df := ⟨⟨("values_of_game", none), "values_of_game", "values_of_game", defArgs (top 17), defBody (top 17), defScope (top 17), [], []⟩, ⟨2, 5, false, b7⟩, ["takes", "count", "found", "heap", "take"], ["takes", "count"]⟩
/-- _law_least -/
def b8 : Ss := (.cons (.asg 1 (.int 0)) (.cons (.whl (.cmp .In (.nm 1) (.nm 0)) (.cons (.asg 1 (.bin .Add (.nm 1) (.int 1))) .nil)) (.cons (.ret (.nm 1)) .nil)))
def d8 : Df := ⟨⟨("_law_least", none), "_law_least", "_law_least", defArgs (top 27), defBody (top 27), defScope (top 27), [], []⟩, ⟨1, 2, false, b8⟩, ["numbers", "found"], ["numbers"]⟩
/-- _law_round -/
def b9 : Ss := (.cons (.for (.nm 1) (.rg2 (.int 1) (.bin .Add (.bi .len (.cons (.nm 0) .nil)) (.int 1))) (.cons (.for (.nm 2) (.rg1 (.bin .Add (.bi .len (.cons (.nm 0) .nil)) (.int 1))) (.cons (.asg 3 (.lc (.nm 4) (.nm 4) (.rg2 (.nm 2) (.bin .Sub (.bi .len (.cons (.nm 0) .nil)) (.nm 1))) (.so (.cmp .NotEq (.ix (.nm 0) (.nm 4)) (.ix (.nm 0) (.bin .Add (.nm 4) (.nm 1))))))) (.cons (.ifs (.and (.cons (.cmp .Eq (.nm 3) (.lst .nil)) (.cons (.cmp .LtE (.bin .Add (.nm 2) (.bin .Mult (.int 2) (.nm 1))) (.bi .len (.cons (.nm 0) .nil))) .nil))) (.cons (.ret (.tup (.cons (.nm 2) (.cons (.nm 1) .nil)))) .nil) .nil) .nil))) .nil)) (.cons (.ret .non) .nil))
def d9 : Df := ⟨⟨("_law_round", none), "_law_round", "_law_round", defArgs (top 26), defBody (top 26), defScope (top 26), [], []⟩, ⟨1, 5, false, b9⟩, ["values", "length", "front", "again", "k"], ["values"]⟩
/-- round_of -/
def b10 : Ss := (.cons (.asg 1 (.bi .tuple (.cons (.nm 0) .nil))) (.cons (.for (.nm 2) (.rg2 (.int 1) (.bin .Add (.bin .FloorDiv (.bi .len (.cons (.nm 1) .nil)) (.int 2)) (.int 1))) (.cons (.asg 3 (.bin .Sub (.bi .len (.cons (.nm 1) .nil)) (.nm 2))) (.cons (.whl (.and (.cons (.cmp .Gt (.nm 3) (.int 0)) (.cons (.cmp .Eq (.ix (.nm 1) (.bin .Sub (.nm 3) (.int 1))) (.ix (.nm 1) (.bin .Add (.bin .Sub (.nm 3) (.int 1)) (.nm 2)))) .nil))) (.cons (.asg 3 (.bin .Sub (.nm 3) (.int 1))) .nil)) (.cons (.ifs (.cmp .LtE (.bin .Add (.nm 3) (.bin .Mult (.int 2) (.nm 2))) (.bi .len (.cons (.nm 1) .nil))) (.cons (.ret (.tup (.cons (.nm 3) (.cons (.nm 2) .nil)))) .nil) .nil) .nil)))) (.cons (.ret .non) .nil)))
def d10 : Df := ⟨⟨("round_of", none), "round_of", "round_of", defArgs (top 19), defBody (top 19), defScope (top 19), [], []⟩, ⟨1, 4, false, b10⟩, ["values", "own", "length", "front"], ["values"]⟩
/-- judged -/
def b11 : Ss := (.cons (.asg 1 (.call 16 (.cons (.nm 0) .nil))) (.cons (.asg 2 (.call 17 (.cons (.nm 1) .nil))) (.cons (.for (.tup (.cons (.nm 3) (.cons (.nm 4) .nil))) (.enm (.nm 1)) (.cons (.ifs (.cmp .Lt (.call 18 (.cons (.nm 4) (.cons (.nm 2) .nil))) (.nm 4)) (.cons (.ret (.tup (.cons (.str "won") (.cons (.nm 3) (.cons (.call 18 (.cons (.nm 4) (.cons (.nm 2) .nil))) .nil))))) .nil) .nil) .nil)) (.cons (.ret (.tup (.cons (.str "lost") .nil))) .nil))))
def d11 : Df := ⟨⟨("judged", none), "judged", "judged", defArgs (top 15), defBody (top 15), defScope (top 15), [], []⟩, ⟨1, 5, false, b11⟩, ["heaps", "own", "whole", "at", "heap"], ["heaps"]⟩
/-- played -/
def b12 : Ss := (.cons (.asg 3 (.call 16 (.cons (.nm 0) .nil))) (.cons (.ifs (.or (.cons (.nt (.ch2 .LtE .Lt (.int 0) (.nm 1) (.bi .len (.cons (.nm 3) .nil)))) (.cons (.nt (.ch2 .LtE .Lt (.int 0) (.nm 2) (.ix (.nm 3) (.nm 1)))) .nil))) (.cons .dead .nil) .nil) (.cons (.ret (.bin .Add (.bin .Add (.slc (.nm 3) .no (.so (.nm 1))) (.tup (.cons (.nm 2) .nil))) (.slc (.nm 3) (.so (.bin .Add (.nm 1) (.int 1))) .no))) .nil)))
def d12 : Df := ⟨⟨("played", none), "played", "played", defArgs (top 16), defBody (top 16), defScope (top 16), [], []⟩, ⟨3, 4, false, b12⟩, ["heaps", "at", "left", "own"], ["heaps", "at", "left"]⟩
/-- least_left_out -/
def b13 : Ss := (.cons (.asg 1 (.bi .set (.cons (.nm 0) .nil))) (.cons (.asg 2 (.int 0)) (.cons (.whl (.cmp .In (.nm 2) (.nm 1)) (.cons (.asg 2 (.bin .Add (.nm 2) (.int 1))) .nil)) (.cons (.ret (.nm 2)) .nil))))
def d13 : Df := ⟨⟨("least_left_out", none), "least_left_out", "least_left_out", defArgs (top 13), defBody (top 13), defScope (top 13), [], []⟩, ⟨1, 3, false, b13⟩, ["numbers", "known", "found"], ["numbers"]⟩
/-- _law_all_same -/
def b14 : Ss := (.cons (.ret (.cmp .Eq (.lc (.nm 1) (.nm 1) (.rg1 (.bi .len (.cons (.nm 0) .nil))) (.so (.nt (.call 19 (.cons (.ix (.ix (.nm 0) (.nm 1)) (.int 0)) (.cons (.ix (.ix (.nm 0) (.nm 1)) (.int 1)) .nil)))))) (.lst .nil))) .nil)
def d14 : Df := ⟨⟨("_law_all_same", none), "_law_all_same", "_law_all_same", defArgs (top 25), defBody (top 25), defScope (top 25), [], []⟩, ⟨1, 2, false, b14⟩, ["rows", "k"], ["rows"]⟩
/-- values_of_splits -/
def b15 : Ss := (.cons (.ifs (.nt (.ch2 .LtE .LtE (.int 0) (.nm 0) (.int 300))) (.cons .dead .nil) .nil) (.cons (.asg 1 (.lst .nil)) (.cons (.for (.nm 2) (.rg1 (.nm 0)) (.cons (.asg 3 (.lst .nil)) (.cons (.for (.nm 4) (.of (.tup (.cons (.int 1) (.cons (.int 2) .nil)))) (.cons (.ext 3 (.lc (.call 18 (.cons (.ix (.nm 1) (.nm 5)) (.cons (.ix (.nm 1) (.bin .Sub (.bin .Sub (.nm 2) (.nm 4)) (.nm 5))) .nil))) (.nm 5) (.rg1 (.bin .Add (.bin .Sub (.nm 2) (.nm 4)) (.int 1))) .no)) .nil)) (.cons (.app 1 (.call 13 (.cons (.nm 3) .nil))) .nil)))) (.cons (.ret (.bi .tuple (.cons (.nm 1) .nil))) .nil))))
def d15 : Df := ⟨⟨("values_of_splits", none), "values_of_splits", "values_of_splits", defArgs (top 18), defBody (top 18), defScope (top 18), [], []⟩, ⟨1, 6, false, b15⟩, ["count", "found", "heap", "nexts", "falls", "left"], ["count"]⟩
/-- heaps_of -/
def b16 : Ss := (.cons (.ret (.bi .tuple (.cons (.lc (.call 20 (.cons (.nm 1) .nil)) (.nm 1) (.of (.nm 0)) .no) .nil))) .nil)
def d16 : Df := ⟨⟨("heaps_of", none), "heaps_of", "heaps_of", defArgs (top 14), defBody (top 14), defScope (top 14), [], []⟩, ⟨1, 2, false, b16⟩, ["heaps", "heap"], ["heaps"]⟩
/-- added_all -/
def b17 : Ss := (.cons (.asg 1 (.int 0)) (.cons (.for (.nm 2) (.of (.nm 0)) (.cons (.asg 1 (.call 18 (.cons (.nm 1) (.cons (.nm 2) .nil)))) .nil)) (.cons (.ret (.nm 1)) .nil)))
def d17 : Df := ⟨⟨("added_all", none), "added_all", "added_all", defArgs (top 12), defBody (top 12), defScope (top 12), [], []⟩, ⟨1, 3, false, b17⟩, ["numbers", "whole", "number"], ["numbers"]⟩
/-- added -/
def b18 : Ss := (.cons (.par [4, 5] (.cons (.call 20 (.cons (.nm 0) .nil)) (.cons (.call 20 (.cons (.nm 1) .nil)) .nil))) (.cons (.asg 2 (.int 0)) (.cons (.asg 3 (.int 1)) (.cons (.whl (.or (.cons (.cmp .Gt (.nm 4) (.int 0)) (.cons (.cmp .Gt (.nm 5) (.int 0)) .nil))) (.cons (.asg 2 (.bin .Add (.nm 2) (.bin .Mult (.nm 3) (.bin .Mod (.bin .Add (.nm 4) (.nm 5)) (.int 2))))) (.cons (.asg 4 (.bin .FloorDiv (.nm 4) (.int 2))) (.cons (.asg 5 (.bin .FloorDiv (.nm 5) (.int 2))) (.cons (.asg 3 (.bin .Mult (.nm 3) (.int 2))) .nil))))) (.cons (.ret (.nm 2)) .nil)))))
def d18 : Df := ⟨⟨("added", none), "added", "added", defArgs (top 11), defBody (top 11), defScope (top 11), [], []⟩, ⟨2, 6, false, b18⟩, ["one", "other", "whole", "scale", "left", "right"], ["one", "other"]⟩
/-- _law_same -/
def b19 : Ss := (.cons (.ifs (.isi (.nm 1) .tuple) (.cons (.ifs (.or (.cons (.nt (.isi (.nm 0) .tuple)) (.cons (.cmp .NotEq (.bi .len (.cons (.nm 0) .nil)) (.bi .len (.cons (.nm 1) .nil))) .nil))) (.cons (.ret (.bl false)) .nil) .nil) (.cons (.ret (.cmp .Eq (.lc (.nm 2) (.nm 2) (.rg1 (.bi .len (.cons (.nm 1) .nil))) (.so (.nt (.call 19 (.cons (.ix (.nm 0) (.nm 2)) (.cons (.ix (.nm 1) (.nm 2)) .nil)))))) (.lst .nil))) .nil)) .nil) (.cons (.ifs (.isi (.nm 1) .list) (.cons (.ifs (.or (.cons (.nt (.isi (.nm 0) .list)) (.cons (.cmp .NotEq (.bi .len (.cons (.nm 0) .nil)) (.bi .len (.cons (.nm 1) .nil))) .nil))) (.cons (.ret (.bl false)) .nil) .nil) (.cons (.ret (.cmp .Eq (.lc (.nm 2) (.nm 2) (.rg1 (.bi .len (.cons (.nm 1) .nil))) (.so (.nt (.call 19 (.cons (.ix (.nm 0) (.nm 2)) (.cons (.ix (.nm 1) (.nm 2)) .nil)))))) (.lst .nil))) .nil)) .nil) (.cons (.ifs (.cmp .Is (.nm 1) .non) (.cons (.ret (.cmp .Is (.nm 0) .non)) .nil) .nil) (.cons (.ifs (.isi (.nm 1) .bool) (.cons (.ret (.and (.cons (.isi (.nm 0) .bool) (.cons (.cmp .Eq (.nm 0) (.nm 1)) .nil)))) .nil) .nil) (.cons (.ifs (.isi (.nm 1) .int) (.cons (.ret (.and (.cons (.isi (.nm 0) .int) (.cons (.nt (.isi (.nm 0) .bool)) (.cons (.cmp .Eq (.nm 0) (.nm 1)) .nil))))) .nil) .nil) (.cons (.ret (.and (.cons (.isi (.nm 0) .str) (.cons (.cmp .Eq (.nm 0) (.nm 1)) .nil)))) .nil))))))
def d19 : Df := ⟨⟨("_law_same", none), "_law_same", "_law_same", defArgs (top 24), defBody (top 24), defScope (top 24), [], []⟩, ⟨2, 3, false, b19⟩, ["told", "due", "k"], ["told", "due"]⟩
/-- natural -/
def b20 : Ss := (.cons (.ifs (.cmp .Lt (.nm 0) (.int 0)) (.cons .dead .nil) .nil) (.cons (.ret (.call 21 (.cons (.nm 0) .nil))) .nil))
def d20 : Df := ⟨⟨("natural", none), "natural", "natural", defArgs (top 9), defBody (top 9), defScope (top 9), [], []⟩, ⟨1, 1, false, b20⟩, ["n"], ["n"]⟩
/-- checked -/
def b21 : Ss := (.cons (.ifs (.cmp .GtE (.bi .abs (.cons (.nm 0) .nil)) (.gv 0)) (.cons .dead .nil) .nil) (.cons (.ret (.nm 0)) .nil))
def d21 : Df := ⟨⟨("checked", none), "checked", "checked", defArgs (top 8), defBody (top 8), defScope (top 8), [], []⟩, ⟨1, 1, false, b21⟩, ["n"], ["n"]⟩
def P : Pd := ⟨[d0, d1, d2, d3, d4, d5, d6, d7, d8, d9, d10, d11, d12, d13, d14, d15, d16, d17, d18, d19, d20, d21], [], [("LIMIT", 10000000000000000000000000000000000000000000000000000000000000000000000000000000000000000000000000000000000000000000000000000000000000000000000000000000000000000000000000000000000000000000000000000000000000000000000000000000000000000000000000000000000000000000000000000000000000000000000000000000000000000000000000000000000000000000000000000000000000000000000000000000000000000000000000000000000000000)], ["range", "min", "len", "int", "sorted", "tuple", "any", "enumerate", "set", "isinstance", "list", "bool", "str", "abs"]⟩
theorem bi0 : BindOk d0 := fun _ _ _ _ _ _ us hl => match us, hl with | [_], _ => rfl
theorem bi1 : BindOk d1 := fun _ _ _ _ _ _ us hl => match us, hl with | [_], _ => rfl
theorem bi2 : BindOk d2 := fun _ _ _ _ _ _ us hl => match us, hl with | [_, _], _ => rfl
theorem bi3 : BindOk d3 := fun _ _ _ _ _ _ us hl => match us, hl with | [_, _], _ => rfl
theorem bi4 : BindOk d4 := fun _ _ _ _ _ _ us hl => match us, hl with | [_], _ => rfl
theorem bi5 : BindOk d5 := fun _ _ _ _ _ _ us hl => match us, hl with | [_], _ => rfl
theorem bi6 : BindOk d6 := fun _ _ _ _ _ _ us hl => match us, hl with | [_, _], _ => rfl
theorem bi7 : BindOk d7 := fun _ _ _ _ _ _ us hl => match us, hl with | [_, _], _ => rfl
theorem bi8 : BindOk d8 := fun _ _ _ _ _ _ us hl => match us, hl with | [_], _ => rfl
theorem bi9 : BindOk d9 := fun _ _ _ _ _ _ us hl => match us, hl with | [_], _ => rfl
theorem bi10 : BindOk d10 := fun _ _ _ _ _ _ us hl => match us, hl with | [_], _ => rfl
theorem bi11 : BindOk d11 := fun _ _ _ _ _ _ us hl => match us, hl with | [_], _ => rfl
theorem bi12 : BindOk d12 := fun _ _ _ _ _ _ us hl => match us, hl with | [_, _, _], _ => rfl
theorem bi13 : BindOk d13 := fun _ _ _ _ _ _ us hl => match us, hl with | [_], _ => rfl
theorem bi14 : BindOk d14 := fun _ _ _ _ _ _ us hl => match us, hl with | [_], _ => rfl
theorem bi15 : BindOk d15 := fun _ _ _ _ _ _ us hl => match us, hl with | [_], _ => rfl
theorem bi16 : BindOk d16 := fun _ _ _ _ _ _ us hl => match us, hl with | [_], _ => rfl
theorem bi17 : BindOk d17 := fun _ _ _ _ _ _ us hl => match us, hl with | [_], _ => rfl
theorem bi18 : BindOk d18 := fun _ _ _ _ _ _ us hl => match us, hl with | [_, _], _ => rfl
theorem bi19 : BindOk d19 := fun _ _ _ _ _ _ us hl => match us, hl with | [_, _], _ => rfl
theorem bi20 : BindOk d20 := fun _ _ _ _ _ _ us hl => match us, hl with | [_], _ => rfl
theorem bi21 : BindOk d21 := fun _ _ _ _ _ _ us hl => match us, hl with | [_], _ => rfl
theorem bnd : BindsOk P.defs := ⟨bi0, bi1, bi2, bi3, bi4, bi5, bi6, bi7, bi8, bi9, bi10, bi11, bi12, bi13, bi14, bi15, bi16, bi17, bi18, bi19, bi20, bi21, trivial⟩

theorem good : P.good = true := by decide +kernel
end K56
set_option Elab.async false
set_option linter.all false
set_option maxRecDepth 100000
set_option maxHeartbeats 4000000
namespace K56
open PySem RE
theorem b_0 {n : Nat} : (gs P.tab n).bor 0 = false := by rw [gs_bor]; rfl
theorem b_1 {n : Nat} : (gs P.tab n).bor 1 = true := by rw [gs_bor]; rfl
theorem b_2 {n : Nat} : (gs P.tab n).bor 2 = false := by rw [gs_bor]; rfl
theorem b_3 {n : Nat} : (gs P.tab n).bor 3 = false := by rw [gs_bor]; rfl
theorem b_4 {n : Nat} : (gs P.tab n).bor 4 = true := by rw [gs_bor]; rfl
theorem b_5 {n : Nat} : (gs P.tab n).bor 5 = true := by rw [gs_bor]; rfl
theorem b_6 {n : Nat} : (gs P.tab n).bor 6 = true := by rw [gs_bor]; rfl
theorem b_7 {n : Nat} : (gs P.tab n).bor 7 = false := by rw [gs_bor]; rfl
theorem b_8 {n : Nat} : (gs P.tab n).bor 8 = false := by rw [gs_bor]; rfl
theorem b_9 {n : Nat} : (gs P.tab n).bor 9 = false := by rw [gs_bor]; rfl
theorem b_10 {n : Nat} : (gs P.tab n).bor 10 = false := by rw [gs_bor]; rfl
theorem b_11 {n : Nat} : (gs P.tab n).bor 11 = false := by rw [gs_bor]; rfl
theorem b_12 {n : Nat} : (gs P.tab n).bor 12 = false := by rw [gs_bor]; rfl
theorem b_13 {n : Nat} : (gs P.tab n).bor 13 = false := by rw [gs_bor]; rfl
theorem b_14 {n : Nat} : (gs P.tab n).bor 14 = false := by rw [gs_bor]; rfl
theorem b_15 {n : Nat} : (gs P.tab n).bor 15 = false := by rw [gs_bor]; rfl
theorem b_16 {n : Nat} : (gs P.tab n).bor 16 = false := by rw [gs_bor]; rfl
theorem b_17 {n : Nat} : (gs P.tab n).bor 17 = false := by rw [gs_bor]; rfl
theorem b_18 {n : Nat} : (gs P.tab n).bor 18 = false := by rw [gs_bor]; rfl
theorem b_19 {n : Nat} : (gs P.tab n).bor 19 = false := by rw [gs_bor]; rfl
theorem b_20 {n : Nat} : (gs P.tab n).bor 20 = false := by rw [gs_bor]; rfl
theorem b_21 {n : Nat} : (gs P.tab n).bor 21 = false := by rw [gs_bor]; rfl
def c_LIMIT : Int := 10000000000000000000000000000000000000000000000000000000000000000000000000000000000000000000000000000000000000000000000000000000000000000000000000000000000000000000000000000000000000000000000000000000000000000000000000000000000000000000000000000000000000000000000000000000000000000000000000000000000000000000000000000000000000000000000000000000000000000000000000000000000000000000000000000000000000000
theorem g_LIMIT {n : Nat} : (gs P.tab n).glob 0 = some (.int c_LIMIT) := by rw [gs_glob]; rfl
theorem f19 : P.tab.fns 19 = some (fnSame 19) := rfl
/-- checked -/
def m_checked (n_ : Int) : Option Int :=
  if (decide ((c_LIMIT : Int) ≤ (if n_ < 0 then -n_ else n_))) = true then ((none)) else
  (some (n_ : Int))
theorem k_checked {n : Nat} {n_ : Int} {r : Int} (h : m_checked n_ = some r) : callN P.tab (n + 1) 21 [(D.int n_)] = some (.sh (D.int r), none) := by
  unfold m_checked at h
  refine call_run (n := n) (fn := d21.fn) rfl rfl ?_
  show Run _ [b21] [.val (D.int n_)] _
  refine run_if (t_v rfl (x_cmp (x_bi (xs_cons (x_nm rfl) xs_nil) rfl rfl) (x_gv g_LIMIT) rfl rfl rfl) rfl rfl) (fun c1 => ?_) (fun c1 => ?_)
  · have h := ite_t c1 h
    show Run _ _ [.val (D.int n_)] _
    exact none_no h
  · have h := ite_f c1 h
    show Run _ _ [.val (D.int n_)] _
    refine run_nil ?_
    obtain rfl := sinj h
    exact run_rt (x_nm rfl) (fin_ret rfl rfl)
/-- natural -/
def m_natural (n_ : Int) : Option Int :=
  if (decide (n_ < (0 : Int))) = true then ((none)) else
  ((m_checked n_).bind fun z2 =>
  some (z2 : Int))
theorem k_natural {n : Nat} {n_ : Int} {r : Int} (h : m_natural n_ = some r) : callN P.tab (n + 2) 20 [(D.int n_)] = some (.sh (D.int r), none) := by
  unfold m_natural at h
  refine call_run (n := n + 1) (fn := d20.fn) rfl rfl ?_
  show Run _ [b20] [.val (D.int n_)] _
  refine run_if (t_v rfl (x_cmp (x_nm rfl) x_int rfl rfl rfl) rfl rfl) (fun c1 => ?_) (fun c1 => ?_)
  · have h := ite_t c1 h
    show Run _ _ [.val (D.int n_)] _
    exact none_no h
  · have h := ite_f c1 h
    show Run _ _ [.val (D.int n_)] _
    refine run_nil ?_
    obtain ⟨z2, hz2, h⟩ := bs h
    obtain rfl := sinj h
    exact run_rt (x_call b_21 (xs_cons (x_nm rfl) xs_nil) (escs_sh escs_nil) (gcall (k_checked (n := n) (n_ := n_) hz2))) (fin_ret rfl rfl)
/-- added -/
def m_added (one : Int) (other : Int) : Option Int :=
  (m_natural one).bind fun z1 =>
  (m_natural other).bind fun z2 =>
  (whl (σ := Int × Int × Int × Int) (fun s3 : Int × Int × Int × Int => (some (((decide ((0 : Int) < s3.2.1)) || (decide ((0 : Int) < s3.2.2.1))) : Bool))) (fun s3 : Int × Int × Int × Int =>
  (cmul s3.2.2.2 ((s3.2.1 + s3.2.2.1) % (2 : Int))).bind fun z5 =>
  (some ((s3.1 + z5) : Int)).bind fun whole_6 =>
  (some ((s3.2.1 / (2 : Int)) : Int)).bind fun left_7 =>
  (some ((s3.2.2.1 / (2 : Int)) : Int)).bind fun right_8 =>
  (some ((s3.2.2.2 * (2 : Int)) : Int)).bind fun scale_9 =>
  some ((whole_6, left_7, right_8, scale_9) : Int × Int × Int × Int)) 1000000000 (((0 : Int), z1, z2, (1 : Int)) : Int × Int × Int × Int)).bind fun o10 =>
  some (o10.1 : Int)
theorem k_added {n : Nat} {one : Int} {other : Int} {r : Int} (h : m_added one other = some r) : callN P.tab (n + 3) 18 [(D.int one), (D.int other)] = some (.sh (D.int r), none) := by
  unfold m_added at h
  refine call_run (n := n + 2) (fn := d18.fn) rfl rfl ?_
  show Run _ [b18] [.val (D.int one), .val (D.int other), .no, .no, .no, .no] _
  obtain ⟨z1, hz1, h⟩ := bs h
  obtain ⟨z2, hz2, h⟩ := bs h
  refine run_s (s_par (xs_cons (x_call b_20 (xs_cons (x_nm rfl) xs_nil) (escs_sh escs_nil) (gcall (k_natural (n := n) (n_ := one) hz1))) (xs_cons (x_call b_20 (xs_cons (x_nm rfl) xs_nil) (escs_sh escs_nil) (gcall (k_natural (n := n) (n_ := other) hz2))) xs_nil)) rfl (stores_cons (store_sh rfl fr_no) (stores_cons (store_sh rfl fr_no) stores_nil))) ?_
  show Run _ _ [.val (D.int one), .val (D.int other), .no, .no, .val (D.int z1), .val (D.int z2)] _
  refine run_s (s_asg x_int (store_sh rfl fr_no)) ?_
  show Run _ _ [.val (D.int one), .val (D.int other), .val (D.int (0 : Int)), .no, .val (D.int z1), .val (D.int z2)] _
  refine run_s (s_asg x_int (store_sh rfl fr_no)) ?_
  show Run _ _ [.val (D.int one), .val (D.int other), .val (D.int (0 : Int)), .val (D.int (1 : Int)), .val (D.int z1), .val (D.int z2)] _
  obtain ⟨o10, ho10, h⟩ := bs h
  refine run_whl (fun (s3 : Int × Int × Int × Int) env => env = [.val (D.int one), .val (D.int other), .val (D.int s3.1), .val (D.int s3.2.2.2), .val (D.int s3.2.1), .val (D.int s3.2.2.1)]) ho10 rfl ?_ ?_ ?_
  · rintro s3 _ rfl t q11
    obtain rfl := sinj q11
    exact (t_or (to_cons (t_v rfl (x_cmp (x_nm rfl) x_int rfl rfl rfl) rfl rfl) (fun _ => (to_one (t_v rfl (x_cmp (x_nm rfl) x_int rfl rfl rfl) rfl rfl)))))
  · rintro s3 _ rfl c h
    show Run _ _ [.val (D.int one), .val (D.int other), .val (D.int s3.1), .val (D.int s3.2.2.2), .val (D.int s3.2.1), .val (D.int s3.2.2.1)] _
    obtain ⟨z5, hz5, h⟩ := bs h
    obtain ⟨whole_6, hwhole_6, h⟩ := bs h
    refine run_s (s_asg (x_bin (x_nm rfl) (x_bin (x_nm rfl) (x_bin (x_bin (x_nm rfl) (x_nm rfl) rfl rfl rfl) x_int rfl rfl (o_modr (by decide))) rfl rfl (o_mul hz5)) rfl rfl rfl) (store_sh rfl fr_val)) ?_
    show Run _ _ [.val (D.int one), .val (D.int other), .val (D.int (s3.1 + z5)), .val (D.int s3.2.2.2), .val (D.int s3.2.1), .val (D.int s3.2.2.1)] _
    refine run_let (fun z : Int => [.val (D.int one), .val (D.int other), .val (D.int z), .val (D.int s3.2.2.2), .val (D.int s3.2.1), .val (D.int s3.2.2.1)]) hwhole_6 ?_
    show Run _ _ [.val (D.int one), .val (D.int other), .val (D.int whole_6), .val (D.int s3.2.2.2), .val (D.int s3.2.1), .val (D.int s3.2.2.1)] _
    obtain ⟨left_7, hleft_7, h⟩ := bs h
    refine run_s (s_asg (x_bin (x_nm rfl) x_int rfl rfl (o_divr (by decide) (by decide))) (store_sh rfl fr_val)) ?_
    show Run _ _ [.val (D.int one), .val (D.int other), .val (D.int whole_6), .val (D.int s3.2.2.2), .val (D.int (s3.2.1 / (2 : Int))), .val (D.int s3.2.2.1)] _
    refine run_let (fun z : Int => [.val (D.int one), .val (D.int other), .val (D.int whole_6), .val (D.int s3.2.2.2), .val (D.int z), .val (D.int s3.2.2.1)]) hleft_7 ?_
    show Run _ _ [.val (D.int one), .val (D.int other), .val (D.int whole_6), .val (D.int s3.2.2.2), .val (D.int left_7), .val (D.int s3.2.2.1)] _
    obtain ⟨right_8, hright_8, h⟩ := bs h
    refine run_s (s_asg (x_bin (x_nm rfl) x_int rfl rfl (o_divr (by decide) (by decide))) (store_sh rfl fr_val)) ?_
    show Run _ _ [.val (D.int one), .val (D.int other), .val (D.int whole_6), .val (D.int s3.2.2.2), .val (D.int left_7), .val (D.int (s3.2.2.1 / (2 : Int)))] _
    refine run_let (fun z : Int => [.val (D.int one), .val (D.int other), .val (D.int whole_6), .val (D.int s3.2.2.2), .val (D.int left_7), .val (D.int z)]) hright_8 ?_
    show Run _ _ [.val (D.int one), .val (D.int other), .val (D.int whole_6), .val (D.int s3.2.2.2), .val (D.int left_7), .val (D.int right_8)] _
    obtain ⟨scale_9, hscale_9, h⟩ := bs h
    refine run_s (s_asg (x_bin (x_nm rfl) x_int rfl rfl (o_mulr (by decide))) (store_sh rfl fr_val)) ?_
    show Run _ _ [.val (D.int one), .val (D.int other), .val (D.int whole_6), .val (D.int (s3.2.2.2 * (2 : Int))), .val (D.int left_7), .val (D.int right_8)] _
    refine run_let (fun z : Int => [.val (D.int one), .val (D.int other), .val (D.int whole_6), .val (D.int z), .val (D.int left_7), .val (D.int right_8)]) hscale_9 ?_
    show Run _ _ [.val (D.int one), .val (D.int other), .val (D.int whole_6), .val (D.int scale_9), .val (D.int left_7), .val (D.int right_8)] _
    obtain rfl := sinj h
    refine run_nil ?_
    exact run_end (on_nx rfl)
  · rintro _ rfl
    show Run _ _ [.val (D.int one), .val (D.int other), .val (D.int o10.1), .val (D.int o10.2.2.2), .val (D.int o10.2.1), .val (D.int o10.2.2.1)] _
    obtain rfl := sinj h
    exact run_rt (x_nm rfl) (fin_ret rfl rfl)
/-- added_all -/
def m_added_all (numbers : (List Int)) : Option Int :=
  (fld (σ := Int) (fun (s1 : Int) (a2 : Int) =>
  (m_added s1 a2).bind fun z4 =>
  some (z4 : Int)) (numbers : (List Int)) ((0 : Int) : Int)).bind fun o5 =>
  some (o5 : Int)
theorem k_added_all {n : Nat} {numbers : (List Int)} {r : Int} (h : m_added_all numbers = some r) : callN P.tab (n + 4) 17 [((eT D.int) numbers)] = some (.sh (D.int r), none) := by
  unfold m_added_all at h
  refine call_run (n := n + 3) (fn := d17.fn) rfl rfl ?_
  show Run _ [b17] [.val ((eT D.int) numbers), .no, .no] _
  refine run_s (s_asg x_int (store_sh rfl fr_no)) ?_
  show Run _ _ [.val ((eT D.int) numbers), .val (D.int (0 : Int)), .no] _
  obtain ⟨o5, ho5, h⟩ := bs h
  refine run_for (fun (s1 : Int) env => ∃ f3, Fr f3 ∧ env = [.val ((eT D.int) numbers), .val (D.int s1), f3]) D.int ho5 (i_of (ds := List.map D.int numbers) (x_nm rfl) rfl rfl rfl) ⟨_, fr_no, rfl⟩ ?_ ?_
  · rintro a2 s1 _ ⟨f3, hf3, rfl⟩ c h
    refine ⟨_, (bind_fr rfl hf3), ?_⟩
    show Run _ _ [.val ((eT D.int) numbers), .val (D.int s1), .val (D.int a2)] _
    obtain ⟨z4, hz4, h⟩ := bs h
    refine run_s (s_asg (x_call b_18 (xs_cons (x_nm rfl) (xs_cons (x_nm rfl) xs_nil)) (escs_sh (escs_sh escs_nil)) (gcall (k_added (n := n) (one := s1) (other := a2) hz4))) (store_sh rfl fr_val)) ?_
    show Run _ _ [.val ((eT D.int) numbers), .val (D.int z4), .val (D.int a2)] _
    obtain rfl := sinj h
    refine run_nil ?_
    exact run_end (on_nx ⟨_, fr_val, rfl⟩)
  · rintro _ ⟨f6, hf6, rfl⟩
    show Run _ _ [.val ((eT D.int) numbers), .val (D.int o5), f6] _
    obtain rfl := sinj h
    exact run_rt (x_nm rfl) (fin_ret rfl rfl)
/-- least_left_out -/
def m_least_left_out (numbers : (List Int)) : Option Int :=
  (cset (numbers : (List Int))).bind fun z1 =>
  (whl (σ := Int) (fun s2 : Int => (some ((decide (s2 ∈ z1)) : Bool))) (fun s2 : Int =>
  (some ((s2 + (1 : Int)) : Int)).bind fun found_4 =>
  some (found_4 : Int)) 1000000000 ((0 : Int) : Int)).bind fun o5 =>
  some (o5 : Int)
theorem k_least_left_out {n : Nat} {numbers : (List Int)} {r : Int} (h : m_least_left_out numbers = some r) : callN P.tab (n + 1) 13 [((eL D.int) numbers)] = some (.sh (D.int r), none) := by
  unfold m_least_left_out at h
  refine call_run (n := n) (fn := d13.fn) rfl rfl ?_
  show Run _ [b13] [.val ((eL D.int) numbers), .no, .no] _
  obtain ⟨z1, hz1, h⟩ := bs h
  refine run_s (s_asg (x_bi (xs_cons (x_nm rfl) xs_nil) rfl (o_setL hz1)) (store_sh rfl fr_no)) ?_
  show Run _ _ [.val ((eL D.int) numbers), .val (D.set z1), .no] _
  refine run_s (s_asg x_int (store_sh rfl fr_no)) ?_
  show Run _ _ [.val ((eL D.int) numbers), .val (D.set z1), .val (D.int (0 : Int))] _
  obtain ⟨o5, ho5, h⟩ := bs h
  refine run_whl (fun (s2 : Int) env => env = [.val ((eL D.int) numbers), .val (D.set z1), .val (D.int s2)]) ho5 rfl ?_ ?_ ?_
  · rintro s2 _ rfl t q6
    obtain rfl := sinj q6
    exact (t_v rfl (x_cmp (x_nm rfl) (x_nm rfl) rfl rfl (o_in (m_inS s2 z1))) rfl rfl)
  · rintro s2 _ rfl c h
    show Run _ _ [.val ((eL D.int) numbers), .val (D.set z1), .val (D.int s2)] _
    obtain ⟨found_4, hfound_4, h⟩ := bs h
    refine run_s (s_asg (x_bin (x_nm rfl) x_int rfl rfl rfl) (store_sh rfl fr_val)) ?_
    show Run _ _ [.val ((eL D.int) numbers), .val (D.set z1), .val (D.int (s2 + (1 : Int)))] _
    refine run_let (fun z : Int => [.val ((eL D.int) numbers), .val (D.set z1), .val (D.int z)]) hfound_4 ?_
    show Run _ _ [.val ((eL D.int) numbers), .val (D.set z1), .val (D.int found_4)] _
    obtain rfl := sinj h
    refine run_nil ?_
    exact run_end (on_nx rfl)
  · rintro _ rfl
    show Run _ _ [.val ((eL D.int) numbers), .val (D.set z1), .val (D.int o5)] _
    obtain rfl := sinj h
    exact run_rt (x_nm rfl) (fin_ret rfl rfl)
/-- heaps_of -/
def m_heaps_of (heaps : (List Int)) : Option (List Int) :=
  (mapO (fun y1 : Int => ((m_natural y1).bind fun z2 => some (z2 : Int))) (heaps : (List Int))).bind fun z4 =>
  (chk z4).bind fun z5 =>
  some (z5 : (List Int))
theorem k_heaps_of {n : Nat} {heaps : (List Int)} {r : (List Int)} (h : m_heaps_of heaps = some r) : callN P.tab (n + 3) 16 [((eT D.int) heaps)] = some (.sh ((eT D.int) r), none) := by
  unfold m_heaps_of at h
  refine call_run (n := n + 2) (fn := d16.fn) rfl rfl ?_
  show Run _ [b16] [.val ((eT D.int) heaps), .no] _
  obtain ⟨z4, hz4, h⟩ := bs h
  obtain ⟨z5, hz5, h⟩ := bs h
  obtain rfl := sinj h
  exact run_rt (x_bi (xs_cons (x_lcO D.int D.int hz4 hz5 (i_of (ds := List.map D.int heaps) (x_nm rfl) rfl rfl rfl) (fun y1 => ⟨[.val ((eT D.int) heaps), .val (D.int y1)], rfl, (fun x q3 => by obtain ⟨z2, hz2, q3⟩ := bs q3; obtain rfl := sinj q3; exact toD_of (x_call b_20 (xs_cons (x_nm rfl) xs_nil) (escs_sh escs_nil) (gcall (k_natural (n := n) (n_ := y1) hz2))) rfl), rfl⟩)) xs_nil) rfl rfl) (fin_ret rfl rfl)
/-- judged -/
def m_judged (heaps : (List Int)) : Option D :=
  (m_heaps_of heaps).bind fun z1 =>
  (m_added_all z1).bind fun z2 =>
  (fldC (ρ := D) (σ := Unit) (fun (s3 : Unit) (a4 : (Int × Int)) =>
  (m_added a4.2 z2).bind fun z7 =>
  if (decide (z7 < a4.2)) = true then ((m_added a4.2 z2).bind fun z9 =>
  some (Ctl.ret (((e3 D.str D.int D.int) (("won" : Str), a4.1, z9)) : D))) else
  (some (Ctl.nx (() : Unit)))) (enmI 0 (z1 : (List Int))) (() : Unit)).bind fun o10 => match o10 with
  | .bk _ => none
  | .ret r => some r
  | .nx s11 => (some (((e1 D.str) (("lost" : Str))) : D))
theorem k_judged {n : Nat} {heaps : (List Int)} {r : D} (h : m_judged heaps = some r) : callN P.tab (n + 5) 11 [((eT D.int) heaps)] = some (.sh (eD r), none) := by
  unfold m_judged at h
  refine call_run (n := n + 4) (fn := d11.fn) rfl rfl ?_
  show Run _ [b11] [.val ((eT D.int) heaps), .no, .no, .no, .no] _
  obtain ⟨z1, hz1, h⟩ := bs h
  refine run_s (s_asg (x_call b_16 (xs_cons (x_nm rfl) xs_nil) (escs_sh escs_nil) (gcall (k_heaps_of (n := n + 1) (heaps := heaps) hz1))) (store_sh rfl fr_no)) ?_
  show Run _ _ [.val ((eT D.int) heaps), .val ((eT D.int) z1), .no, .no, .no] _
  obtain ⟨z2, hz2, h⟩ := bs h
  refine run_s (s_asg (x_call b_17 (xs_cons (x_nm rfl) xs_nil) (escs_sh escs_nil) (gcall (k_added_all (n := n) (numbers := z1) hz2))) (store_sh rfl fr_no)) ?_
  show Run _ _ [.val ((eT D.int) heaps), .val ((eT D.int) z1), .val (D.int z2), .no, .no] _
  obtain ⟨o10, ho10, h⟩ := bs h
  refine run_forC (fun (s3 : Unit) env => ∃ f5, Fr f5 ∧ ∃ f6, Fr f6 ∧ env = [.val ((eT D.int) heaps), .val ((eT D.int) z1), .val (D.int z2), f5, f6]) (fun r v _ => v = .sh (eD r)) (e2 D.int D.int) ho10 (i_enmT (f := D.int) (xs := z1) (x_nm rfl) rfl rfl) ⟨_, fr_no, _, fr_no, rfl⟩ ?_ ?_ ?_
  · rintro a4 s3 _ ⟨f5, hf5, f6, hf6, rfl⟩ c h
    refine ⟨_, (bind_two rfl hf5 rfl hf6), ?_⟩
    show Run _ _ [.val ((eT D.int) heaps), .val ((eT D.int) z1), .val (D.int z2), .val (D.int a4.1), .val (D.int a4.2)] _
    obtain ⟨z7, hz7, h⟩ := bs h
    refine run_if (t_v rfl (x_cmp (x_call b_18 (xs_cons (x_nm rfl) (xs_cons (x_nm rfl) xs_nil)) (escs_sh (escs_sh escs_nil)) (gcall (k_added (n := n + 1) (one := a4.2) (other := z2) hz7))) (x_nm rfl) rfl rfl rfl) rfl rfl) (fun c8 => ?_) (fun c8 => ?_)
    · have h := ite_t c8 h
      show Run _ _ [.val ((eT D.int) heaps), .val ((eT D.int) z1), .val (D.int z2), .val (D.int a4.1), .val (D.int a4.2)] _
      obtain ⟨z9, hz9, h⟩ := bs h
      obtain rfl := sinj h
      exact run_rt (x_tup (xs_cons x_str (xs_cons (x_nm rfl) (xs_cons (x_call b_18 (xs_cons (x_nm rfl) (xs_cons (x_nm rfl) xs_nil)) (escs_sh (escs_sh escs_nil)) (gcall (k_added (n := n + 1) (one := a4.2) (other := z2) hz9))) xs_nil))) (escs_sh (escs_sh (escs_sh escs_nil))) rfl) ⟨_, rfl, rfl⟩
    · have h := ite_f c8 h
      show Run _ _ [.val ((eT D.int) heaps), .val ((eT D.int) z1), .val (D.int z2), .val (D.int a4.1), .val (D.int a4.2)] _
      refine run_nil ?_
      obtain rfl := sinj h
      refine run_nil ?_
      exact run_end ⟨.inl rfl, ⟨_, fr_val, _, fr_val, rfl⟩⟩
  · rintro s11 _ rfl ⟨f12, hf12, f13, hf13, rfl⟩
    show Run _ _ [.val ((eT D.int) heaps), .val ((eT D.int) z1), .val (D.int z2), f12, f13] _
    obtain rfl := sinj h
    exact run_rt (x_tup (xs_cons x_str xs_nil) (escs_sh escs_nil) rfl) (fin_ret rfl rfl)
  · rintro r v env2 rfl rfl
    obtain rfl := sinj h
    exact fin_ret rfl rfl
/-- played -/
def m_played (heaps : (List Int)) (at_ : Int) (left : Int) : Option (List Int) :=
  (m_heaps_of heaps).bind fun z1 =>
  (RE.orM (!(decide ((0 : Int) ≤ at_) && decide (at_ < ((z1 : (List Int)).length : Int)))) ((getI (z1 : (List Int)) at_).bind fun z2 => some ((!(decide ((0 : Int) ≤ left) && decide (left < z2))) : Bool))).bind fun z3 =>
  if z3 = true then ((none)) else
  ((cat ((cutL (z1 : (List Int)) none (some at_)) : (List Int)) [left]).bind fun z6 =>
  (cat (z6 : (List Int)) (cutL (z1 : (List Int)) (some (at_ + (1 : Int))) none)).bind fun z7 =>
  some (z7 : (List Int)))
theorem k_played {n : Nat} {heaps : (List Int)} {at_ : Int} {left : Int} {r : (List Int)} (h : m_played heaps at_ left = some r) : callN P.tab (n + 4) 12 [((eT D.int) heaps), (D.int at_), (D.int left)] = some (.sh ((eT D.int) r), none) := by
  unfold m_played at h
  refine call_run (n := n + 3) (fn := d12.fn) rfl rfl ?_
  show Run _ [b12] [.val ((eT D.int) heaps), .val (D.int at_), .val (D.int left), .no] _
  obtain ⟨z1, hz1, h⟩ := bs h
  refine run_s (s_asg (x_call b_16 (xs_cons (x_nm rfl) xs_nil) (escs_sh escs_nil) (gcall (k_heaps_of (n := n) (heaps := heaps) hz1))) (store_sh rfl fr_no)) ?_
  show Run _ _ [.val ((eT D.int) heaps), .val (D.int at_), .val (D.int left), .val ((eT D.int) z1)] _
  obtain ⟨z3, hz3, h⟩ := bs h
  refine run_if (t_or (to_consM hz3 (t_nt (t_v rfl (x_ch2 x_int (x_nm rfl) rfl rfl rfl (x_bi (xs_cons (x_nm rfl) xs_nil) rfl (o_lenT (f := D.int))) rfl rfl) rfl rfl)) (fun _ c q4 => by obtain ⟨z2, hz2, q4⟩ := bs q4; obtain rfl := sinj q4; exact (to_one (t_nt (t_v rfl (x_ch2 x_int (x_nm rfl) rfl rfl rfl (x_ix (x_nm rfl) (x_nm rfl) rfl rfl (o_ixT (f := D.int) hz2)) rfl rfl) rfl rfl)))))) (fun c5 => ?_) (fun c5 => ?_)
  · have h := ite_t c5 h
    show Run _ _ [.val ((eT D.int) heaps), .val (D.int at_), .val (D.int left), .val ((eT D.int) z1)] _
    exact none_no h
  · have h := ite_f c5 h
    show Run _ _ [.val ((eT D.int) heaps), .val (D.int at_), .val (D.int left), .val ((eT D.int) z1)] _
    refine run_nil ?_
    obtain ⟨z6, hz6, h⟩ := bs h
    obtain ⟨z7, hz7, h⟩ := bs h
    obtain rfl := sinj h
    exact run_rt (x_bin (x_bin (x_slc (x_nm rfl) eo_no (eo_so (x_nm rfl) rfl) rfl (o_slcT (f := D.int))) (x_tup (xs_cons (x_nm rfl) xs_nil) (escs_sh escs_nil) rfl) rfl rfl (o_catT (f := D.int) (a := (cutL (z1 : (List Int)) none (some at_))) (b := [left]) hz6)) (x_slc (x_nm rfl) (eo_so (x_bin (x_nm rfl) x_int rfl rfl rfl) rfl) eo_no rfl (o_slcT (f := D.int))) rfl rfl (o_catT (f := D.int) (a := z6) (b := (cutL (z1 : (List Int)) (some (at_ + (1 : Int))) none)) hz7)) (fin_ret rfl rfl)
/-- values_of_game -/
def m_values_of_game (takes : (List Int)) (count : Int) : Option (List Int) :=
  if (!(decide ((0 : Int) ≤ count) && decide (count ≤ (2000 : Int)))) = true then ((none)) else
  ((chk (List.map (fun y2 : Int => ((decide (y2 < (1 : Int))) : Bool)) (takes : (List Int)))).bind fun z3 =>
  if (z3.any id) = true then ((none)) else
  ((some ([] : (List Int))).bind fun found_5 =>
  (crng1 count).bind fun r6 =>
  (fld (σ := (List Int)) (fun (s7 : (List Int)) (a8 : Int) =>
  (lcM (fun y10 : Int => (some ((decide (y10 ≤ a8)) : Bool))) (fun y10 : Int => ((getI (s7 : (List Int)) (a8 - y10)).bind fun z11 => some (z11 : Int))) (takes : (List Int))).bind fun z14 =>
  (chk z14).bind fun z15 =>
  (m_least_left_out z15).bind fun z16 =>
  (push (s7 : (List Int)) z16).bind fun z17 =>
  some (z17 : (List Int))) r6 (found_5 : (List Int))).bind fun o18 =>
  some (o18 : (List Int))))
theorem k_values_of_game {n : Nat} {takes : (List Int)} {count : Int} {r : (List Int)} (h : m_values_of_game takes count = some r) : callN P.tab (n + 2) 7 [((eL D.int) takes), (D.int count)] = some (.sh ((eT D.int) r), none) := by
  unfold m_values_of_game at h
  refine call_run (n := n + 1) (fn := d7.fn) rfl rfl ?_
  show Run _ [b7] [.val ((eL D.int) takes), .val (D.int count), .no, .no, .no] _
  refine run_if (t_nt (t_v rfl (x_ch2 x_int (x_nm rfl) rfl rfl rfl x_int rfl rfl) rfl rfl)) (fun c1 => ?_) (fun c1 => ?_)
  · have h := ite_t c1 h
    show Run _ _ [.val ((eL D.int) takes), .val (D.int count), .no, .no, .no] _
    exact none_no h
  · have h := ite_f c1 h
    show Run _ _ [.val ((eL D.int) takes), .val (D.int count), .no, .no, .no] _
    refine run_nil ?_
    obtain ⟨z3, hz3, h⟩ := bs h
    refine run_if (t_v rfl (x_bi (xs_cons (x_lcA D.int D.bl hz3 (i_of (ds := List.map D.int takes) (x_nm rfl) rfl rfl rfl) (fun y2 => ⟨[.val ((eL D.int) takes), .val (D.int count), .no, .no, .val (D.int y2)], rfl, toD_of (x_cmp (x_nm rfl) x_int rfl rfl rfl) rfl, rfl⟩)) xs_nil) rfl o_any) rfl rfl) (fun c4 => ?_) (fun c4 => ?_)
    · have h := ite_t c4 h
      show Run _ _ [.val ((eL D.int) takes), .val (D.int count), .no, .no, .no] _
      exact none_no h
    · have h := ite_f c4 h
      show Run _ _ [.val ((eL D.int) takes), .val (D.int count), .no, .no, .no] _
      refine run_nil ?_
      obtain ⟨found_5, hfound_5, h⟩ := bs h
      refine run_s (s_asg (x_lst xs_nil escs_nil rfl) (store_nw rfl fr_no)) ?_
      show Run _ _ [.val ((eL D.int) takes), .val (D.int count), .mu .own ((eL D.int) []), .no, .no] _
      refine run_let (fun z : (List Int) => [.val ((eL D.int) takes), .val (D.int count), .mu .own ((eL D.int) z), .no, .no]) hfound_5 ?_
      show Run _ _ [.val ((eL D.int) takes), .val (D.int count), .mu .own ((eL D.int) found_5), .no, .no] _
      obtain ⟨r6, hr6, h⟩ := bs h
      obtain ⟨o18, ho18, h⟩ := bs h
      refine run_for (fun (s7 : (List Int)) env => ∃ f9, Fr f9 ∧ env = [.val ((eL D.int) takes), .val (D.int count), .mu .own ((eL D.int) s7), f9, .no]) D.int ho18 (i_rg1 hr6 (x_nm rfl) rfl) ⟨_, fr_no, rfl⟩ ?_ ?_
      · rintro a8 s7 _ ⟨f9, hf9, rfl⟩ c h
        refine ⟨_, (bind_fr rfl hf9), ?_⟩
        show Run _ _ [.val ((eL D.int) takes), .val (D.int count), .mu .own ((eL D.int) s7), .val (D.int a8), .no] _
        obtain ⟨z14, hz14, h⟩ := bs h
        obtain ⟨z15, hz15, h⟩ := bs h
        obtain ⟨z16, hz16, h⟩ := bs h
        obtain ⟨z17, hz17, h⟩ := bs h
        refine run_s (s_app (f := D.int) (l := s7) (x := z16) hz17 ⟨_, rfl⟩ (x_call b_13 (xs_cons (x_lcM D.int D.int hz14 hz15 (i_of (ds := List.map D.int takes) (x_nm rfl) rfl rfl rfl) (fun y10 => ⟨[.val ((eL D.int) takes), .val (D.int count), .mu .own ((eL D.int) s7), .val (D.int a8), .val (D.int y10)], rfl, (fun b q13 => by obtain rfl := sinj q13; exact c_so (t_v rfl (x_cmp (x_nm rfl) (x_nm rfl) rfl rfl rfl) rfl rfl)), fun x _ => ((fun x q12 => by obtain ⟨z11, hz11, q12⟩ := bs q12; obtain rfl := sinj q12; exact toD_of (x_ix (x_nmM rfl) (x_bin (x_nm rfl) (x_nm rfl) rfl rfl rfl) rfl rfl (o_ixL (f := D.int) hz11)) rfl)) x, rfl⟩)) xs_nil) (escs_nw escs_nil) (gcall (k_least_left_out (n := n) (numbers := z15) hz16))) rfl rfl) ?_
        show Run _ _ [.val ((eL D.int) takes), .val (D.int count), .mu .own ((eL D.int) z17), .val (D.int a8), .no] _
        obtain rfl := sinj h
        refine run_nil ?_
        exact run_end (on_nx ⟨_, fr_val, rfl⟩)
      · rintro _ ⟨f19, hf19, rfl⟩
        show Run _ _ [.val ((eL D.int) takes), .val (D.int count), .mu .own ((eL D.int) o18), f19, .no] _
        obtain rfl := sinj h
        exact run_rt (x_bi (xs_cons (x_nmM rfl) xs_nil) rfl rfl) (fin_ret rfl rfl)
/-- values_of_splits -/
def m_values_of_splits (count : Int) : Option (List Int) :=
  if (!(decide ((0 : Int) ≤ count) && decide (count ≤ (300 : Int)))) = true then ((none)) else
  ((some ([] : (List Int))).bind fun found_2 =>
  (crng1 count).bind fun r3 =>
  (fld (σ := (List Int)) (fun (s4 : (List Int)) (a5 : Int) =>
  (some ([] : (List Int))).bind fun nexts_9 =>
  (fld (σ := (List Int)) (fun (s10 : (List Int)) (a11 : Int) =>
  (crng1 ((a5 - a11) + (1 : Int))).bind fun r13 =>
  (mapO (fun y14 : Int => ((getI (s4 : (List Int)) y14).bind fun z15 => (getI (s4 : (List Int)) ((a5 - a11) - y14)).bind fun z16 => (m_added z15 z16).bind fun z17 => some (z17 : Int))) r13).bind fun z19 =>
  (chk z19).bind fun z20 =>
  (cat (s10 : (List Int)) z20).bind fun z21 =>
  some (z21 : (List Int))) ([(1 : Int), (2 : Int)] : (List Int)) (nexts_9 : (List Int))).bind fun o22 =>
  (m_least_left_out o22).bind fun z24 =>
  (push (s4 : (List Int)) z24).bind fun z25 =>
  some (z25 : (List Int))) r3 (found_2 : (List Int))).bind fun o26 =>
  some (o26 : (List Int)))
theorem k_values_of_splits {n : Nat} {count : Int} {r : (List Int)} (h : m_values_of_splits count = some r) : callN P.tab (n + 4) 15 [(D.int count)] = some (.sh ((eT D.int) r), none) := by
  unfold m_values_of_splits at h
  refine call_run (n := n + 3) (fn := d15.fn) rfl rfl ?_
  show Run _ [b15] [.val (D.int count), .no, .no, .no, .no, .no] _
  refine run_if (t_nt (t_v rfl (x_ch2 x_int (x_nm rfl) rfl rfl rfl x_int rfl rfl) rfl rfl)) (fun c1 => ?_) (fun c1 => ?_)
  · have h := ite_t c1 h
    show Run _ _ [.val (D.int count), .no, .no, .no, .no, .no] _
    exact none_no h
  · have h := ite_f c1 h
    show Run _ _ [.val (D.int count), .no, .no, .no, .no, .no] _
    refine run_nil ?_
    obtain ⟨found_2, hfound_2, h⟩ := bs h
    refine run_s (s_asg (x_lst xs_nil escs_nil rfl) (store_nw rfl fr_no)) ?_
    show Run _ _ [.val (D.int count), .mu .own ((eL D.int) []), .no, .no, .no, .no] _
    refine run_let (fun z : (List Int) => [.val (D.int count), .mu .own ((eL D.int) z), .no, .no, .no, .no]) hfound_2 ?_
    show Run _ _ [.val (D.int count), .mu .own ((eL D.int) found_2), .no, .no, .no, .no] _
    obtain ⟨r3, hr3, h⟩ := bs h
    obtain ⟨o26, ho26, h⟩ := bs h
    refine run_for (fun (s4 : (List Int)) env => ∃ f6, Fr f6 ∧ ∃ f7, Fr f7 ∧ ∃ f8, Fr f8 ∧ env = [.val (D.int count), .mu .own ((eL D.int) s4), f8, f6, f7, .no]) D.int ho26 (i_rg1 hr3 (x_nm rfl) rfl) ⟨_, fr_no, _, fr_no, _, fr_no, rfl⟩ ?_ ?_
    · rintro a5 s4 _ ⟨f6, hf6, f7, hf7, f8, hf8, rfl⟩ c h
      refine ⟨_, (bind_fr rfl hf8), ?_⟩
      show Run _ _ [.val (D.int count), .mu .own ((eL D.int) s4), .val (D.int a5), f6, f7, .no] _
      obtain ⟨nexts_9, hnexts_9, h⟩ := bs h
      refine run_s (s_asg (x_lst xs_nil escs_nil rfl) (store_nw rfl hf6)) ?_
      show Run _ _ [.val (D.int count), .mu .own ((eL D.int) s4), .val (D.int a5), .mu .own ((eL D.int) []), f7, .no] _
      refine run_let (fun z : (List Int) => [.val (D.int count), .mu .own ((eL D.int) s4), .val (D.int a5), .mu .own ((eL D.int) z), f7, .no]) hnexts_9 ?_
      show Run _ _ [.val (D.int count), .mu .own ((eL D.int) s4), .val (D.int a5), .mu .own ((eL D.int) nexts_9), f7, .no] _
      obtain ⟨o22, ho22, h⟩ := bs h
      refine run_for (fun (s10 : (List Int)) env => ∃ f12, Fr f12 ∧ env = [.val (D.int count), .mu .own ((eL D.int) s4), .val (D.int a5), .mu .own ((eL D.int) s10), f12, .no]) D.int ho22 (i_of (ds := List.map D.int [(1 : Int), (2 : Int)]) (x_tup (xs_cons x_int (xs_cons x_int xs_nil)) (escs_sh (escs_sh escs_nil)) rfl) rfl rfl rfl) ⟨_, hf7, rfl⟩ ?_ ?_
      · rintro a11 s10 _ ⟨f12, hf12, rfl⟩ c h
        refine ⟨_, (bind_fr rfl hf12), ?_⟩
        show Run _ _ [.val (D.int count), .mu .own ((eL D.int) s4), .val (D.int a5), .mu .own ((eL D.int) s10), .val (D.int a11), .no] _
        obtain ⟨r13, hr13, h⟩ := bs h
        obtain ⟨z19, hz19, h⟩ := bs h
        obtain ⟨z20, hz20, h⟩ := bs h
        obtain ⟨z21, hz21, h⟩ := bs h
        refine run_s (s_ext (f := D.int) (l := s10) (m := z20) hz21 ⟨_, rfl⟩ (x_lcO D.int D.int hz19 hz20 (i_rg1 hr13 (x_bin (x_bin (x_nm rfl) (x_nm rfl) rfl rfl rfl) x_int rfl rfl rfl) rfl) (fun y14 => ⟨[.val (D.int count), .mu .own ((eL D.int) s4), .val (D.int a5), .mu .own ((eL D.int) s10), .val (D.int a11), .val (D.int y14)], rfl, (fun x q18 => by obtain ⟨z15, hz15, q18⟩ := bs q18; obtain ⟨z16, hz16, q18⟩ := bs q18; obtain ⟨z17, hz17, q18⟩ := bs q18; obtain rfl := sinj q18; exact toD_of (x_call b_18 (xs_cons (x_ix (x_nmM rfl) (x_nm rfl) rfl rfl (o_ixL (f := D.int) hz15)) (xs_cons (x_ix (x_nmM rfl) (x_bin (x_bin (x_nm rfl) (x_nm rfl) rfl rfl rfl) (x_nm rfl) rfl rfl rfl) rfl rfl (o_ixL (f := D.int) hz16)) xs_nil)) (escs_sh (escs_sh escs_nil)) (gcall (k_added (n := n) (one := z15) (other := z16) hz17))) rfl), rfl⟩)) rfl) ?_
        show Run _ _ [.val (D.int count), .mu .own ((eL D.int) s4), .val (D.int a5), .mu .own ((eL D.int) z21), .val (D.int a11), .no] _
        obtain rfl := sinj h
        refine run_nil ?_
        exact run_end (on_nx ⟨_, fr_val, rfl⟩)
      · rintro _ ⟨f23, hf23, rfl⟩
        show Run _ _ [.val (D.int count), .mu .own ((eL D.int) s4), .val (D.int a5), .mu .own ((eL D.int) o22), f23, .no] _
        obtain ⟨z24, hz24, h⟩ := bs h
        obtain ⟨z25, hz25, h⟩ := bs h
        refine run_s (s_app (f := D.int) (l := s4) (x := z24) hz25 ⟨_, rfl⟩ (x_call b_13 (xs_cons (x_nmM rfl) xs_nil) (escs_own rfl (show _ = [.val (D.int count), .mu .own ((eL D.int) s4), .val (D.int a5), .val ((eL D.int) o22), f23, .no] from rfl) escs_nil) (gcall (k_least_left_out (n := n + 2) (numbers := o22) hz24))) rfl rfl) ?_
        show Run _ _ [.val (D.int count), .mu .own ((eL D.int) z25), .val (D.int a5), .val ((eL D.int) o22), f23, .no] _
        obtain rfl := sinj h
        refine run_nil ?_
        exact run_end (on_nx ⟨_, fr_val, _, hf23, _, fr_val, rfl⟩)
    · rintro _ ⟨f27, hf27, f28, hf28, f29, hf29, rfl⟩
      show Run _ _ [.val (D.int count), .mu .own ((eL D.int) o26), f29, f27, f28, .no] _
      obtain rfl := sinj h
      exact run_rt (x_bi (xs_cons (x_nmM rfl) xs_nil) rfl rfl) (fin_ret rfl rfl)
/-- round_of -/
def m_round_of_0 (values : (List Int)) : Option (Option (Int × Int)) :=
  (crng2 (1 : Int) ((((values : (List Int)).length : Int) / (2 : Int)) + (1 : Int))).bind fun r1 =>
  (fldC (ρ := (Option (Int × Int))) (σ := Unit) (fun (s2 : Unit) (a3 : Int) =>
  (some ((((values : (List Int)).length : Int) - a3) : Int)).bind fun front_6 =>
  (whl (σ := Int) (fun s7 : Int => ((RE.andM (decide ((0 : Int) < s7)) ((getI (values : (List Int)) (s7 - (1 : Int))).bind fun z10 => (getI (values : (List Int)) ((s7 - (1 : Int)) + a3)).bind fun z11 => some ((decide ((z10 : Int) = z11)) : Bool))).bind fun z12 => some (z12 : Bool))) (fun s7 : Int =>
  (some ((s7 - (1 : Int)) : Int)).bind fun front_9 =>
  some (front_9 : Int)) 1000000000 (front_6 : Int)).bind fun o14 =>
  if (decide ((o14 + ((2 : Int) * a3)) ≤ ((values : (List Int)).length : Int))) = true then (some (Ctl.ret ((some (o14, a3)) : (Option (Int × Int))))) else
  (some (Ctl.nx (() : Unit)))) r1 (() : Unit)).bind fun o17 => match o17 with
  | .bk _ => none
  | .ret r => some r
  | .nx s18 => (some (none : (Option (Int × Int))))
theorem k_round_of_0 {n : Nat} {values : (List Int)} {r : (Option (Int × Int))} (h : m_round_of_0 values = some r) : callN P.tab (n + 1) 10 [((eL D.int) values)] = some (.sh ((eO (e2 D.int D.int)) r), none) := by
  unfold m_round_of_0 at h
  refine call_run (n := n) (fn := d10.fn) rfl rfl ?_
  show Run _ [b10] [.val ((eL D.int) values), .no, .no, .no] _
  refine run_s (s_asg (x_bi (xs_cons (x_nm rfl) xs_nil) rfl rfl) (store_sh rfl fr_no)) ?_
  show Run _ _ [.val ((eL D.int) values), .val ((eT D.int) values), .no, .no] _
  obtain ⟨r1, hr1, h⟩ := bs h
  obtain ⟨o17, ho17, h⟩ := bs h
  refine run_forC (fun (s2 : Unit) env => ∃ f4, Fr f4 ∧ ∃ f5, Fr f5 ∧ env = [.val ((eL D.int) values), .val ((eT D.int) values), f5, f4]) (fun r v _ => v = .sh ((eO (e2 D.int D.int)) r)) D.int ho17 (i_rg2 hr1 x_int (x_bin (x_bin (x_bi (xs_cons (x_nm rfl) xs_nil) rfl (o_lenT (f := D.int))) x_int rfl rfl (o_divr (by decide) (by decide))) x_int rfl rfl rfl) rfl rfl) ⟨_, fr_no, _, fr_no, rfl⟩ ?_ ?_ ?_
  · rintro a3 s2 _ ⟨f4, hf4, f5, hf5, rfl⟩ c h
    refine ⟨_, (bind_fr rfl hf5), ?_⟩
    show Run _ _ [.val ((eL D.int) values), .val ((eT D.int) values), .val (D.int a3), f4] _
    obtain ⟨front_6, hfront_6, h⟩ := bs h
    refine run_s (s_asg (x_bin (x_bi (xs_cons (x_nm rfl) xs_nil) rfl (o_lenT (f := D.int))) (x_nm rfl) rfl rfl rfl) (store_sh rfl hf4)) ?_
    show Run _ _ [.val ((eL D.int) values), .val ((eT D.int) values), .val (D.int a3), .val (D.int (((values : (List Int)).length : Int) - a3))] _
    refine run_let (fun z : Int => [.val ((eL D.int) values), .val ((eT D.int) values), .val (D.int a3), .val (D.int z)]) hfront_6 ?_
    show Run _ _ [.val ((eL D.int) values), .val ((eT D.int) values), .val (D.int a3), .val (D.int front_6)] _
    obtain ⟨o14, ho14, h⟩ := bs h
    refine run_whl (fun (s7 : Int) env => env = [.val ((eL D.int) values), .val ((eT D.int) values), .val (D.int a3), .val (D.int s7)]) ho14 rfl ?_ ?_ ?_
    · rintro s7 _ rfl t q16
      obtain ⟨z12, hz12, q16⟩ := bs q16
      obtain rfl := sinj q16
      exact (t_and (ta_consM hz12 (t_v rfl (x_cmp (x_nm rfl) x_int rfl rfl rfl) rfl rfl) (fun _ c q13 => by obtain ⟨z10, hz10, q13⟩ := bs q13; obtain ⟨z11, hz11, q13⟩ := bs q13; obtain rfl := sinj q13; exact (ta_one (t_v rfl (x_cmp (x_ix (x_nm rfl) (x_bin (x_nm rfl) x_int rfl rfl rfl) rfl rfl (o_ixT (f := D.int) hz10)) (x_ix (x_nm rfl) (x_bin (x_bin (x_nm rfl) x_int rfl rfl rfl) (x_nm rfl) rfl rfl rfl) rfl rfl (o_ixT (f := D.int) hz11)) rfl rfl (o_eq rfl)) rfl rfl)))))
    · rintro s7 _ rfl c h
      show Run _ _ [.val ((eL D.int) values), .val ((eT D.int) values), .val (D.int a3), .val (D.int s7)] _
      obtain ⟨front_9, hfront_9, h⟩ := bs h
      refine run_s (s_asg (x_bin (x_nm rfl) x_int rfl rfl rfl) (store_sh rfl fr_val)) ?_
      show Run _ _ [.val ((eL D.int) values), .val ((eT D.int) values), .val (D.int a3), .val (D.int (s7 - (1 : Int)))] _
      refine run_let (fun z : Int => [.val ((eL D.int) values), .val ((eT D.int) values), .val (D.int a3), .val (D.int z)]) hfront_9 ?_
      show Run _ _ [.val ((eL D.int) values), .val ((eT D.int) values), .val (D.int a3), .val (D.int front_9)] _
      obtain rfl := sinj h
      refine run_nil ?_
      exact run_end (on_nx rfl)
    · rintro _ rfl
      show Run _ _ [.val ((eL D.int) values), .val ((eT D.int) values), .val (D.int a3), .val (D.int o14)] _
      refine run_if (t_v rfl (x_cmp (x_bin (x_nm rfl) (x_bin x_int (x_nm rfl) rfl rfl (o_mull (by decide))) rfl rfl rfl) (x_bi (xs_cons (x_nm rfl) xs_nil) rfl (o_lenT (f := D.int))) rfl rfl rfl) rfl rfl) (fun c15 => ?_) (fun c15 => ?_)
      · have h := ite_t c15 h
        show Run _ _ [.val ((eL D.int) values), .val ((eT D.int) values), .val (D.int a3), .val (D.int o14)] _
        obtain rfl := sinj h
        exact run_rt (x_tup (xs_cons (x_nm rfl) (xs_cons (x_nm rfl) xs_nil)) (escs_sh (escs_sh escs_nil)) rfl) ⟨_, rfl, rfl⟩
      · have h := ite_f c15 h
        show Run _ _ [.val ((eL D.int) values), .val ((eT D.int) values), .val (D.int a3), .val (D.int o14)] _
        refine run_nil ?_
        obtain rfl := sinj h
        refine run_nil ?_
        exact run_end ⟨.inl rfl, ⟨_, fr_val, _, fr_val, rfl⟩⟩
  · rintro s18 _ rfl ⟨f19, hf19, f20, hf20, rfl⟩
    show Run _ _ [.val ((eL D.int) values), .val ((eT D.int) values), f20, f19] _
    obtain rfl := sinj h
    exact run_rt x_non (fin_ret rfl rfl)
  · rintro r v env2 rfl rfl
    obtain rfl := sinj h
    exact fin_ret rfl rfl
/-- round_of -/
def m_round_of_1 (values : (List Int)) : Option (Option (Int × Int)) :=
  (crng2 (1 : Int) ((((values : (List Int)).length : Int) / (2 : Int)) + (1 : Int))).bind fun r1 =>
  (fldC (ρ := (Option (Int × Int))) (σ := Unit) (fun (s2 : Unit) (a3 : Int) =>
  (some ((((values : (List Int)).length : Int) - a3) : Int)).bind fun front_6 =>
  (whl (σ := Int) (fun s7 : Int => ((RE.andM (decide ((0 : Int) < s7)) ((getI (values : (List Int)) (s7 - (1 : Int))).bind fun z10 => (getI (values : (List Int)) ((s7 - (1 : Int)) + a3)).bind fun z11 => some ((decide ((z10 : Int) = z11)) : Bool))).bind fun z12 => some (z12 : Bool))) (fun s7 : Int =>
  (some ((s7 - (1 : Int)) : Int)).bind fun front_9 =>
  some (front_9 : Int)) 1000000000 (front_6 : Int)).bind fun o14 =>
  if (decide ((o14 + ((2 : Int) * a3)) ≤ ((values : (List Int)).length : Int))) = true then (some (Ctl.ret ((some (o14, a3)) : (Option (Int × Int))))) else
  (some (Ctl.nx (() : Unit)))) r1 (() : Unit)).bind fun o17 => match o17 with
  | .bk _ => none
  | .ret r => some r
  | .nx s18 => (some (none : (Option (Int × Int))))
theorem k_round_of_1 {n : Nat} {values : (List Int)} {r : (Option (Int × Int))} (h : m_round_of_1 values = some r) : callN P.tab (n + 1) 10 [((eT D.int) values)] = some (.sh ((eO (e2 D.int D.int)) r), none) := by
  unfold m_round_of_1 at h
  refine call_run (n := n) (fn := d10.fn) rfl rfl ?_
  show Run _ [b10] [.val ((eT D.int) values), .no, .no, .no] _
  refine run_s (s_asg (x_bi (xs_cons (x_nm rfl) xs_nil) rfl rfl) (store_sh rfl fr_no)) ?_
  show Run _ _ [.val ((eT D.int) values), .val ((eT D.int) values), .no, .no] _
  obtain ⟨r1, hr1, h⟩ := bs h
  obtain ⟨o17, ho17, h⟩ := bs h
  refine run_forC (fun (s2 : Unit) env => ∃ f4, Fr f4 ∧ ∃ f5, Fr f5 ∧ env = [.val ((eT D.int) values), .val ((eT D.int) values), f5, f4]) (fun r v _ => v = .sh ((eO (e2 D.int D.int)) r)) D.int ho17 (i_rg2 hr1 x_int (x_bin (x_bin (x_bi (xs_cons (x_nm rfl) xs_nil) rfl (o_lenT (f := D.int))) x_int rfl rfl (o_divr (by decide) (by decide))) x_int rfl rfl rfl) rfl rfl) ⟨_, fr_no, _, fr_no, rfl⟩ ?_ ?_ ?_
  · rintro a3 s2 _ ⟨f4, hf4, f5, hf5, rfl⟩ c h
    refine ⟨_, (bind_fr rfl hf5), ?_⟩
    show Run _ _ [.val ((eT D.int) values), .val ((eT D.int) values), .val (D.int a3), f4] _
    obtain ⟨front_6, hfront_6, h⟩ := bs h
    refine run_s (s_asg (x_bin (x_bi (xs_cons (x_nm rfl) xs_nil) rfl (o_lenT (f := D.int))) (x_nm rfl) rfl rfl rfl) (store_sh rfl hf4)) ?_
    show Run _ _ [.val ((eT D.int) values), .val ((eT D.int) values), .val (D.int a3), .val (D.int (((values : (List Int)).length : Int) - a3))] _
    refine run_let (fun z : Int => [.val ((eT D.int) values), .val ((eT D.int) values), .val (D.int a3), .val (D.int z)]) hfront_6 ?_
    show Run _ _ [.val ((eT D.int) values), .val ((eT D.int) values), .val (D.int a3), .val (D.int front_6)] _
    obtain ⟨o14, ho14, h⟩ := bs h
    refine run_whl (fun (s7 : Int) env => env = [.val ((eT D.int) values), .val ((eT D.int) values), .val (D.int a3), .val (D.int s7)]) ho14 rfl ?_ ?_ ?_
    · rintro s7 _ rfl t q16
      obtain ⟨z12, hz12, q16⟩ := bs q16
      obtain rfl := sinj q16
      exact (t_and (ta_consM hz12 (t_v rfl (x_cmp (x_nm rfl) x_int rfl rfl rfl) rfl rfl) (fun _ c q13 => by obtain ⟨z10, hz10, q13⟩ := bs q13; obtain ⟨z11, hz11, q13⟩ := bs q13; obtain rfl := sinj q13; exact (ta_one (t_v rfl (x_cmp (x_ix (x_nm rfl) (x_bin (x_nm rfl) x_int rfl rfl rfl) rfl rfl (o_ixT (f := D.int) hz10)) (x_ix (x_nm rfl) (x_bin (x_bin (x_nm rfl) x_int rfl rfl rfl) (x_nm rfl) rfl rfl rfl) rfl rfl (o_ixT (f := D.int) hz11)) rfl rfl (o_eq rfl)) rfl rfl)))))
    · rintro s7 _ rfl c h
      show Run _ _ [.val ((eT D.int) values), .val ((eT D.int) values), .val (D.int a3), .val (D.int s7)] _
      obtain ⟨front_9, hfront_9, h⟩ := bs h
      refine run_s (s_asg (x_bin (x_nm rfl) x_int rfl rfl rfl) (store_sh rfl fr_val)) ?_
      show Run _ _ [.val ((eT D.int) values), .val ((eT D.int) values), .val (D.int a3), .val (D.int (s7 - (1 : Int)))] _
      refine run_let (fun z : Int => [.val ((eT D.int) values), .val ((eT D.int) values), .val (D.int a3), .val (D.int z)]) hfront_9 ?_
      show Run _ _ [.val ((eT D.int) values), .val ((eT D.int) values), .val (D.int a3), .val (D.int front_9)] _
      obtain rfl := sinj h
      refine run_nil ?_
      exact run_end (on_nx rfl)
    · rintro _ rfl
      show Run _ _ [.val ((eT D.int) values), .val ((eT D.int) values), .val (D.int a3), .val (D.int o14)] _
      refine run_if (t_v rfl (x_cmp (x_bin (x_nm rfl) (x_bin x_int (x_nm rfl) rfl rfl (o_mull (by decide))) rfl rfl rfl) (x_bi (xs_cons (x_nm rfl) xs_nil) rfl (o_lenT (f := D.int))) rfl rfl rfl) rfl rfl) (fun c15 => ?_) (fun c15 => ?_)
      · have h := ite_t c15 h
        show Run _ _ [.val ((eT D.int) values), .val ((eT D.int) values), .val (D.int a3), .val (D.int o14)] _
        obtain rfl := sinj h
        exact run_rt (x_tup (xs_cons (x_nm rfl) (xs_cons (x_nm rfl) xs_nil)) (escs_sh (escs_sh escs_nil)) rfl) ⟨_, rfl, rfl⟩
      · have h := ite_f c15 h
        show Run _ _ [.val ((eT D.int) values), .val ((eT D.int) values), .val (D.int a3), .val (D.int o14)] _
        refine run_nil ?_
        obtain rfl := sinj h
        refine run_nil ?_
        exact run_end ⟨.inl rfl, ⟨_, fr_val, _, fr_val, rfl⟩⟩
  · rintro s18 _ rfl ⟨f19, hf19, f20, hf20, rfl⟩
    show Run _ _ [.val ((eT D.int) values), .val ((eT D.int) values), f20, f19] _
    obtain rfl := sinj h
    exact run_rt x_non (fin_ret rfl rfl)
  · rintro r v env2 rfl rfl
    obtain rfl := sinj h
    exact fin_ret rfl rfl
/-- _law_round -/
def m_law_round (values : (List Int)) : Option (Option (Int × Int)) :=
  (crng2 (1 : Int) (((values : (List Int)).length : Int) + (1 : Int))).bind fun r1 =>
  (fldC (ρ := (Option (Int × Int))) (σ := Unit) (fun (s2 : Unit) (a3 : Int) =>
  (crng1 (((values : (List Int)).length : Int) + (1 : Int))).bind fun r7 =>
  (fldC (ρ := (Option (Int × Int))) (σ := Unit) (fun (s8 : Unit) (a9 : Int) =>
  (crng2 a9 (((values : (List Int)).length : Int) - a3)).bind fun r12 =>
  (lcM (fun y13 : Int => ((getI (values : (List Int)) y13).bind fun z14 => (getI (values : (List Int)) (y13 + a3)).bind fun z15 => some ((!(decide ((z14 : Int) = z15))) : Bool))) (fun y13 : Int => (some (y13 : Int))) r12).bind fun z18 =>
  (chk z18).bind fun z19 =>
  if ((decide ((z19 : (List Int)) = [])) && (decide ((a9 + ((2 : Int) * a3)) ≤ ((values : (List Int)).length : Int)))) = true then (some (Ctl.ret ((some (a9, a3)) : (Option (Int × Int))))) else
  (some (Ctl.nx (() : Unit)))) r7 (() : Unit)).bind fun o21 => match o21 with
  | .bk _ => none
  | .ret r => some (Ctl.ret r)
  | .nx s22 => (some (Ctl.nx (() : Unit)))) r1 (() : Unit)).bind fun o25 => match o25 with
  | .bk _ => none
  | .ret r => some r
  | .nx s26 => (some (none : (Option (Int × Int))))
theorem k_law_round {n : Nat} {values : (List Int)} {r : (Option (Int × Int))} (h : m_law_round values = some r) : callN P.tab (n + 1) 9 [((eL D.int) values)] = some (.sh ((eO (e2 D.int D.int)) r), none) := by
  unfold m_law_round at h
  refine call_run (n := n) (fn := d9.fn) rfl rfl ?_
  show Run _ [b9] [.val ((eL D.int) values), .no, .no, .no, .no] _
  obtain ⟨r1, hr1, h⟩ := bs h
  obtain ⟨o25, ho25, h⟩ := bs h
  refine run_forC (fun (s2 : Unit) env => ∃ f4, Fr f4 ∧ ∃ f5, Fr f5 ∧ ∃ f6, Fr f6 ∧ env = [.val ((eL D.int) values), f6, f4, f5, .no]) (fun r v _ => v = .sh ((eO (e2 D.int D.int)) r)) D.int ho25 (i_rg2 hr1 x_int (x_bin (x_bi (xs_cons (x_nm rfl) xs_nil) rfl (o_lenL (f := D.int))) x_int rfl rfl rfl) rfl rfl) ⟨_, fr_no, _, fr_no, _, fr_no, rfl⟩ ?_ ?_ ?_
  · rintro a3 s2 _ ⟨f4, hf4, f5, hf5, f6, hf6, rfl⟩ c h
    refine ⟨_, (bind_fr rfl hf6), ?_⟩
    show Run _ _ [.val ((eL D.int) values), .val (D.int a3), f4, f5, .no] _
    obtain ⟨r7, hr7, h⟩ := bs h
    obtain ⟨o21, ho21, h⟩ := bs h
    refine run_forC (fun (s8 : Unit) env => ∃ f10, Fr f10 ∧ ∃ f11, Fr f11 ∧ env = [.val ((eL D.int) values), .val (D.int a3), f11, f10, .no]) (fun r v _ => v = .sh ((eO (e2 D.int D.int)) r)) D.int ho21 (i_rg1 hr7 (x_bin (x_bi (xs_cons (x_nm rfl) xs_nil) rfl (o_lenL (f := D.int))) x_int rfl rfl rfl) rfl) ⟨_, hf5, _, hf4, rfl⟩ ?_ ?_ ?_
    · rintro a9 s8 _ ⟨f10, hf10, f11, hf11, rfl⟩ c h
      refine ⟨_, (bind_fr rfl hf11), ?_⟩
      show Run _ _ [.val ((eL D.int) values), .val (D.int a3), .val (D.int a9), f10, .no] _
      obtain ⟨r12, hr12, h⟩ := bs h
      obtain ⟨z18, hz18, h⟩ := bs h
      obtain ⟨z19, hz19, h⟩ := bs h
      refine run_s (s_asg (x_lcM D.int D.int hz18 hz19 (i_rg2 hr12 (x_nm rfl) (x_bin (x_bi (xs_cons (x_nm rfl) xs_nil) rfl (o_lenL (f := D.int))) (x_nm rfl) rfl rfl rfl) rfl rfl) (fun y13 => ⟨[.val ((eL D.int) values), .val (D.int a3), .val (D.int a9), f10, .val (D.int y13)], rfl, (fun b q17 => by obtain ⟨z14, hz14, q17⟩ := bs q17; obtain ⟨z15, hz15, q17⟩ := bs q17; obtain rfl := sinj q17; exact c_so (t_v rfl (x_cmp (x_ix (x_nm rfl) (x_nm rfl) rfl rfl (o_ixL (f := D.int) hz14)) (x_ix (x_nm rfl) (x_bin (x_nm rfl) (x_nm rfl) rfl rfl rfl) rfl rfl (o_ixL (f := D.int) hz15)) rfl rfl (o_ne rfl)) rfl rfl)), fun x _ => ((fun x q16 => by obtain rfl := sinj q16; exact toD_of (x_nm rfl) rfl)) x, rfl⟩)) (store_nw rfl hf10)) ?_
      show Run _ _ [.val ((eL D.int) values), .val (D.int a3), .val (D.int a9), .mu .own ((eL D.int) z19), .no] _
      refine run_if (t_and (ta_cons (t_v rfl (x_cmp (x_nmM rfl) (x_lst xs_nil escs_nil rfl) rfl rfl (o_eq (q_L py_int (by omega) z19 []))) rfl rfl) (fun _ => (ta_one (t_v rfl (x_cmp (x_bin (x_nm rfl) (x_bin x_int (x_nm rfl) rfl rfl (o_mull (by decide))) rfl rfl rfl) (x_bi (xs_cons (x_nm rfl) xs_nil) rfl (o_lenL (f := D.int))) rfl rfl rfl) rfl rfl))))) (fun c20 => ?_) (fun c20 => ?_)
      · have h := ite_t c20 h
        show Run _ _ [.val ((eL D.int) values), .val (D.int a3), .val (D.int a9), .mu .own ((eL D.int) z19), .no] _
        obtain rfl := sinj h
        exact run_rt (x_tup (xs_cons (x_nm rfl) (xs_cons (x_nm rfl) xs_nil)) (escs_sh (escs_sh escs_nil)) rfl) ⟨_, rfl, rfl⟩
      · have h := ite_f c20 h
        show Run _ _ [.val ((eL D.int) values), .val (D.int a3), .val (D.int a9), .mu .own ((eL D.int) z19), .no] _
        refine run_nil ?_
        obtain rfl := sinj h
        refine run_nil ?_
        exact run_end ⟨.inl rfl, ⟨_, fr_own, _, fr_val, rfl⟩⟩
    · rintro s22 _ rfl ⟨f23, hf23, f24, hf24, rfl⟩
      show Run _ _ [.val ((eL D.int) values), .val (D.int a3), f24, f23, .no] _
      obtain rfl := sinj h
      refine run_nil ?_
      exact run_end ⟨.inl rfl, ⟨_, hf24, _, hf23, _, fr_val, rfl⟩⟩
    · rintro r v env2 rfl rfl
      obtain rfl := sinj h
      exact ⟨_, rfl, rfl⟩
  · rintro s26 _ rfl ⟨f27, hf27, f28, hf28, f29, hf29, rfl⟩
    show Run _ _ [.val ((eL D.int) values), f29, f27, f28, .no] _
    obtain rfl := sinj h
    exact run_rt x_non (fin_ret rfl rfl)
  · rintro r v env2 rfl rfl
    obtain rfl := sinj h
    exact fin_ret rfl rfl
/-- _law_least -/
def m_law_least (numbers : (List Int)) : Option Int :=
  (whl (σ := Int) (fun s1 : Int => (some ((decide ((s1 : Int) ∈ (numbers : (List Int)))) : Bool))) (fun s1 : Int =>
  (some ((s1 + (1 : Int)) : Int)).bind fun found_3 =>
  some (found_3 : Int)) 1000000000 ((0 : Int) : Int)).bind fun o4 =>
  some (o4 : Int)
theorem k_law_least {n : Nat} {numbers : (List Int)} {r : Int} (h : m_law_least numbers = some r) : callN P.tab (n + 1) 8 [((eL D.int) numbers)] = some (.sh (D.int r), none) := by
  unfold m_law_least at h
  refine call_run (n := n) (fn := d8.fn) rfl rfl ?_
  show Run _ [b8] [.val ((eL D.int) numbers), .no] _
  refine run_s (s_asg x_int (store_sh rfl fr_no)) ?_
  show Run _ _ [.val ((eL D.int) numbers), .val (D.int (0 : Int))] _
  obtain ⟨o4, ho4, h⟩ := bs h
  refine run_whl (fun (s1 : Int) env => env = [.val ((eL D.int) numbers), .val (D.int s1)]) ho4 rfl ?_ ?_ ?_
  · rintro s1 _ rfl t q5
    obtain rfl := sinj q5
    exact (t_v rfl (x_cmp (x_nm rfl) (x_nm rfl) rfl rfl (o_in (m_inL py_int (by omega) s1 numbers))) rfl rfl)
  · rintro s1 _ rfl c h
    show Run _ _ [.val ((eL D.int) numbers), .val (D.int s1)] _
    obtain ⟨found_3, hfound_3, h⟩ := bs h
    refine run_s (s_asg (x_bin (x_nm rfl) x_int rfl rfl rfl) (store_sh rfl fr_val)) ?_
    show Run _ _ [.val ((eL D.int) numbers), .val (D.int (s1 + (1 : Int)))] _
    refine run_let (fun z : Int => [.val ((eL D.int) numbers), .val (D.int z)]) hfound_3 ?_
    show Run _ _ [.val ((eL D.int) numbers), .val (D.int found_3)] _
    obtain rfl := sinj h
    refine run_nil ?_
    exact run_end (on_nx rfl)
  · rintro _ rfl
    show Run _ _ [.val ((eL D.int) numbers), .val (D.int o4)] _
    obtain rfl := sinj h
    exact run_rt (x_nm rfl) (fin_ret rfl rfl)
/-- _law_rows_right -/
noncomputable def m_law_rows_right (source : S2) : Option (Bool × S2) :=
  (some ([] : (List D))).bind fun rows_1 =>
  (crng1 (6 : Int)).bind fun r2 =>
  (fld (σ := S2 × (List D)) (fun (s3 : S2 × (List D)) (a4 : Int) =>
  (pick_m s3.1 (3 : Int)).bind fun z12 =>
  (some (((1 : Int) + z12.1) : Int)).bind fun few_13 =>
  (pick_m z12.2 (7 : Int)).bind fun z14 =>
  (crng1 z14.1).bind fun r15 =>
  (lcS (fun (t18 : S2) (y19 : Int) => ((pick_m t18 (few_13 + (1 : Int))).bind fun z20 => some ((z20.1, z20.2) : (Int × S2)))) r15 z14.2).bind fun z22 =>
  (chk z22.1).bind fun z23 =>
  (pick_m z22.2 (6 : Int)).bind fun z24 =>
  (crng1 ((1 : Int) + z24.1)).bind fun r25 =>
  (lcS (fun (t28 : S2) (y29 : Int) => ((pick_m t28 (few_13 + (1 : Int))).bind fun z30 => some ((z30.1, z30.2) : (Int × S2)))) r25 z24.2).bind fun z32 =>
  (chk z32.1).bind fun z33 =>
  (pick_m z32.2 (3 : Int)).bind fun z34 =>
  (crep (z33 : (List Int)) ((1 : Int) + z34.1)).bind fun z35 =>
  (cat (z23 : (List Int)) z35).bind fun z36 =>
  (pick_m z34.2 (((z33 : (List Int)).length : Int) + (1 : Int))).bind fun z37 =>
  (cat (z36 : (List Int)) (cutL (z33 : (List Int)) none (some z37.1))).bind fun z38 =>
  (pick_m z37.2 (16 : Int)).bind fun z39 =>
  (crng1 z39.1).bind fun r40 =>
  (lcS (fun (t43 : S2) (y44 : Int) => ((pick_m t43 few_13).bind fun z45 => some ((z45.1, z45.2) : (Int × S2)))) r40 z39.2).bind fun z47 =>
  (chk z47.1).bind fun z48 =>
  (cat (z38 : (List Int)) [(9 : Int)]).bind fun z49 =>
  (cat ([(7 : Int)] : (List Int)) z38).bind fun z50 =>
  (fld (σ := (List D)) (fun (s51 : (List D)) (a52 : (List Int)) =>
  (m_round_of_0 a52).bind fun z54 =>
  (m_law_round a52).bind fun z55 =>
  (m_round_of_1 a52).bind fun z56 =>
  (m_law_round a52).bind fun z57 =>
  (cat (s51 : (List D)) [((e2 (eO (e2 D.int D.int)) (eO (e2 D.int D.int))) (z54, z55)), ((e2 (eO (e2 D.int D.int)) (eO (e2 D.int D.int))) (z56, z57))]).bind fun z58 =>
  some (z58 : (List D))) ([z38, z48, z49, z50, (z38 : (List Int)).reverse] : (List (List Int))) (s3.2 : (List D))).bind fun o59 =>
  some ((z47.2, o59) : S2 × (List D))) r2 ((source, rows_1) : S2 × (List D))).bind fun o61 =>
  (rows_m o61.2).bind fun z69 =>
  some (z69, o61.1)
theorem k_law_rows_right {n : Nat} {source : S2} {r : (Bool × S2)} (h : m_law_rows_right source = some r) : callN P.tab (n + 15) 5 [(eS source)] = some (.sh (D.bl r.1), some (eS r.2)) := by
  unfold m_law_rows_right at h
  refine call_run (n := n + 14) (fn := d5.fn) rfl rfl ?_
  show Run _ [b5] [.mu .bor (eS source), .no, .no, .no, .no, .no, .no, .no, .no, .no] _
  obtain ⟨rows_1, hrows_1, h⟩ := bs h
  refine run_s (s_asg (x_lst xs_nil escs_nil rfl) (store_nw rfl fr_no)) ?_
  show Run _ _ [.mu .bor (eS source), .mu .own ((eL eD) []), .no, .no, .no, .no, .no, .no, .no, .no] _
  refine run_let (fun z : (List D) => [.mu .bor (eS source), .mu .own ((eL eD) z), .no, .no, .no, .no, .no, .no, .no, .no]) hrows_1 ?_
  show Run _ _ [.mu .bor (eS source), .mu .own ((eL eD) rows_1), .no, .no, .no, .no, .no, .no, .no, .no] _
  obtain ⟨r2, hr2, h⟩ := bs h
  obtain ⟨o61, ho61, h⟩ := bs h
  refine run_for (fun (s3 : S2 × (List D)) env => ∃ f5, Fr f5 ∧ ∃ f6, Fr f6 ∧ ∃ f7, Fr f7 ∧ ∃ f8, Fr f8 ∧ ∃ f9, Fr f9 ∧ ∃ f10, Fr f10 ∧ ∃ f11, Fr f11 ∧ env = [.mu .bor (eS s3.1), .mu .own ((eL eD) s3.2), f11, f5, f6, f7, f8, f9, f10, .no]) D.int ho61 (i_rg1 hr2 x_int rfl) ⟨_, fr_no, _, fr_no, _, fr_no, _, fr_no, _, fr_no, _, fr_no, _, fr_no, rfl⟩ ?_ ?_
  · rintro a4 s3 _ ⟨f5, hf5, f6, hf6, f7, hf7, f8, hf8, f9, hf9, f10, hf10, f11, hf11, rfl⟩ c h
    refine ⟨_, (bind_fr rfl hf11), ?_⟩
    show Run _ _ [.mu .bor (eS s3.1), .mu .own ((eL eD) s3.2), .val (D.int a4), f5, f6, f7, f8, f9, f10, .no] _
    obtain ⟨z12, hz12, h⟩ := bs h
    obtain ⟨few_13, hfew_13, h⟩ := bs h
    refine run_s (s_asg (x_bin x_int (x_callB b_6 (xs_cons (x_nmM rfl) (xs_cons x_int xs_nil)) (escs_sh escs_nil) rfl (gcall (pick_ok (n := n + 13) (hk := rfl) (s := s3.1) (m := (3 : Int)) hz12))) rfl rfl rfl) (store_sh rfl hf5)) ?_
    show Run _ _ [.mu .bor (eS z12.2), .mu .own ((eL eD) s3.2), .val (D.int a4), .val (D.int ((1 : Int) + z12.1)), f6, f7, f8, f9, f10, .no] _
    refine run_let (fun z : Int => [.mu .bor (eS z12.2), .mu .own ((eL eD) s3.2), .val (D.int a4), .val (D.int z), f6, f7, f8, f9, f10, .no]) hfew_13 ?_
    show Run _ _ [.mu .bor (eS z12.2), .mu .own ((eL eD) s3.2), .val (D.int a4), .val (D.int few_13), f6, f7, f8, f9, f10, .no] _
    obtain ⟨z14, hz14, h⟩ := bs h
    obtain ⟨r15, hr15, h⟩ := bs h
    obtain ⟨z22, hz22, h⟩ := bs h
    obtain ⟨z23, hz23, h⟩ := bs h
    refine run_s (s_asg (x_lcS (fun t18 : S2 => [.mu .bor (eS t18), .mu .own ((eL eD) s3.2), .val (D.int a4), .val (D.int few_13), f6, f7, f8, f9, f10, .no]) D.int D.int (s := z14.2) hz22 hz23 (i_rg1 hr15 (x_callB b_6 (xs_cons (x_nmM rfl) (xs_cons x_int xs_nil)) (escs_sh escs_nil) rfl (gcall (pick_ok (n := n + 13) (hk := rfl) (s := z12.2) (m := (7 : Int)) hz14))) rfl) (fun y19 t18 => ⟨[.mu .bor (eS t18), .mu .own ((eL eD) s3.2), .val (D.int a4), .val (D.int few_13), f6, f7, f8, f9, f10, .val (D.int y19)], rfl, (fun r q21 => by obtain ⟨z20, hz20, q21⟩ := bs q21; obtain rfl := sinj q21; exact ⟨_, toD_of (x_callB b_6 (xs_cons (x_nmM rfl) (xs_cons (x_bin (x_nm rfl) x_int rfl rfl rfl) xs_nil)) (escs_sh escs_nil) rfl (gcall (pick_ok (n := n + 13) (hk := rfl) (s := t18) (m := (few_13 + (1 : Int))) hz20))) rfl, rfl⟩)⟩)) (store_nw rfl hf6)) ?_
    show Run _ _ [.mu .bor (eS z22.2), .mu .own ((eL eD) s3.2), .val (D.int a4), .val (D.int few_13), .mu .own ((eL D.int) z23), f7, f8, f9, f10, .no] _
    obtain ⟨z24, hz24, h⟩ := bs h
    obtain ⟨r25, hr25, h⟩ := bs h
    obtain ⟨z32, hz32, h⟩ := bs h
    obtain ⟨z33, hz33, h⟩ := bs h
    refine run_s (s_asg (x_lcS (fun t28 : S2 => [.mu .bor (eS t28), .mu .own ((eL eD) s3.2), .val (D.int a4), .val (D.int few_13), .mu .own ((eL D.int) z23), f7, f8, f9, f10, .no]) D.int D.int (s := z24.2) hz32 hz33 (i_rg1 hr25 (x_bin x_int (x_callB b_6 (xs_cons (x_nmM rfl) (xs_cons x_int xs_nil)) (escs_sh escs_nil) rfl (gcall (pick_ok (n := n + 13) (hk := rfl) (s := z22.2) (m := (6 : Int)) hz24))) rfl rfl rfl) rfl) (fun y29 t28 => ⟨[.mu .bor (eS t28), .mu .own ((eL eD) s3.2), .val (D.int a4), .val (D.int few_13), .mu .own ((eL D.int) z23), f7, f8, f9, f10, .val (D.int y29)], rfl, (fun r q31 => by obtain ⟨z30, hz30, q31⟩ := bs q31; obtain rfl := sinj q31; exact ⟨_, toD_of (x_callB b_6 (xs_cons (x_nmM rfl) (xs_cons (x_bin (x_nm rfl) x_int rfl rfl rfl) xs_nil)) (escs_sh escs_nil) rfl (gcall (pick_ok (n := n + 13) (hk := rfl) (s := t28) (m := (few_13 + (1 : Int))) hz30))) rfl, rfl⟩)⟩)) (store_nw rfl hf7)) ?_
    show Run _ _ [.mu .bor (eS z32.2), .mu .own ((eL eD) s3.2), .val (D.int a4), .val (D.int few_13), .mu .own ((eL D.int) z23), .mu .own ((eL D.int) z33), f8, f9, f10, .no] _
    obtain ⟨z34, hz34, h⟩ := bs h
    obtain ⟨z35, hz35, h⟩ := bs h
    obtain ⟨z36, hz36, h⟩ := bs h
    obtain ⟨z37, hz37, h⟩ := bs h
    obtain ⟨z38, hz38, h⟩ := bs h
    refine run_s (s_asg (x_bin (x_bin (x_nmM rfl) (x_bin (x_nmM rfl) (x_bin x_int (x_callB b_6 (xs_cons (x_nmM rfl) (xs_cons x_int xs_nil)) (escs_sh escs_nil) rfl (gcall (pick_ok (n := n + 13) (hk := rfl) (s := z32.2) (m := (3 : Int)) hz34))) rfl rfl rfl) rfl rfl (o_rep (f := D.int) hz35)) rfl rfl (o_catL (f := D.int) (a := z23) (b := z35) hz36)) (x_slc (x_nmM rfl) eo_no (eo_so (x_callB b_6 (xs_cons (x_nmM rfl) (xs_cons (x_bin (x_bi (xs_cons (x_nmM rfl) xs_nil) rfl (o_lenL (f := D.int))) x_int rfl rfl rfl) xs_nil)) (escs_sh escs_nil) rfl (gcall (pick_ok (n := n + 13) (hk := rfl) (s := z34.2) (m := (((z33 : (List Int)).length : Int) + (1 : Int))) hz37))) rfl) rfl (o_slcL (f := D.int))) rfl rfl (o_catL (f := D.int) (a := z36) (b := (cutL (z33 : (List Int)) none (some z37.1))) hz38)) (store_nw rfl hf8)) ?_
    show Run _ _ [.mu .bor (eS z37.2), .mu .own ((eL eD) s3.2), .val (D.int a4), .val (D.int few_13), .mu .own ((eL D.int) z23), .mu .own ((eL D.int) z33), .mu .own ((eL D.int) z38), f9, f10, .no] _
    obtain ⟨z39, hz39, h⟩ := bs h
    obtain ⟨r40, hr40, h⟩ := bs h
    obtain ⟨z47, hz47, h⟩ := bs h
    obtain ⟨z48, hz48, h⟩ := bs h
    refine run_s (s_asg (x_lcS (fun t43 : S2 => [.mu .bor (eS t43), .mu .own ((eL eD) s3.2), .val (D.int a4), .val (D.int few_13), .mu .own ((eL D.int) z23), .mu .own ((eL D.int) z33), .mu .own ((eL D.int) z38), f9, f10, .no]) D.int D.int (s := z39.2) hz47 hz48 (i_rg1 hr40 (x_callB b_6 (xs_cons (x_nmM rfl) (xs_cons x_int xs_nil)) (escs_sh escs_nil) rfl (gcall (pick_ok (n := n + 13) (hk := rfl) (s := z37.2) (m := (16 : Int)) hz39))) rfl) (fun y44 t43 => ⟨[.mu .bor (eS t43), .mu .own ((eL eD) s3.2), .val (D.int a4), .val (D.int few_13), .mu .own ((eL D.int) z23), .mu .own ((eL D.int) z33), .mu .own ((eL D.int) z38), f9, f10, .val (D.int y44)], rfl, (fun r q46 => by obtain ⟨z45, hz45, q46⟩ := bs q46; obtain rfl := sinj q46; exact ⟨_, toD_of (x_callB b_6 (xs_cons (x_nmM rfl) (xs_cons (x_nm rfl) xs_nil)) (escs_sh escs_nil) rfl (gcall (pick_ok (n := n + 13) (hk := rfl) (s := t43) (m := few_13) hz45))) rfl, rfl⟩)⟩)) (store_nw rfl hf9)) ?_
    show Run _ _ [.mu .bor (eS z47.2), .mu .own ((eL eD) s3.2), .val (D.int a4), .val (D.int few_13), .mu .own ((eL D.int) z23), .mu .own ((eL D.int) z33), .mu .own ((eL D.int) z38), .mu .own ((eL D.int) z48), f10, .no] _
    obtain ⟨z49, hz49, h⟩ := bs h
    obtain ⟨z50, hz50, h⟩ := bs h
    obtain ⟨o59, ho59, h⟩ := bs h
    refine run_for (fun (s51 : (List D)) env => ∃ f53, Fr f53 ∧ env = [.mu .bor (eS z47.2), .mu .own ((eL eD) s51), .val (D.int a4), .val (D.int few_13), .mu .own ((eL D.int) z23), .mu .own ((eL D.int) z33), .val ((eL D.int) z38), .val ((eL D.int) z48), f53, .no]) (eL D.int) ho59 (i_of (ds := List.map (eL D.int) [z38, z48, z49, z50, (z38 : (List Int)).reverse]) (x_lst (xs_cons (x_nmM rfl) (xs_cons (x_nmM rfl) (xs_cons (x_bin (x_nmM rfl) (x_lst (xs_cons x_int xs_nil) (escs_sh escs_nil) rfl) rfl rfl (o_catL (f := D.int) (a := z38) (b := [(9 : Int)]) hz49)) (xs_cons (x_bin (x_lst (xs_cons x_int xs_nil) (escs_sh escs_nil) rfl) (x_nmM rfl) rfl rfl (o_catL (f := D.int) (a := [(7 : Int)]) (b := z38) hz50)) (xs_cons (x_rev (x_nmM rfl) rfl (o_revL (f := D.int))) xs_nil))))) (escs_own rfl (show _ = [.mu .bor (eS z47.2), .mu .own ((eL eD) s3.2), .val (D.int a4), .val (D.int few_13), .mu .own ((eL D.int) z23), .mu .own ((eL D.int) z33), .val ((eL D.int) z38), .mu .own ((eL D.int) z48), f10, .no] from rfl) (escs_own rfl (show _ = [.mu .bor (eS z47.2), .mu .own ((eL eD) s3.2), .val (D.int a4), .val (D.int few_13), .mu .own ((eL D.int) z23), .mu .own ((eL D.int) z33), .val ((eL D.int) z38), .val ((eL D.int) z48), f10, .no] from rfl) (escs_nw (escs_nw (escs_nw escs_nil))))) rfl) rfl rfl rfl) ⟨_, hf10, rfl⟩ ?_ ?_
    · rintro a52 s51 _ ⟨f53, hf53, rfl⟩ c h
      refine ⟨_, (bind_fr rfl hf53), ?_⟩
      show Run _ _ [.mu .bor (eS z47.2), .mu .own ((eL eD) s51), .val (D.int a4), .val (D.int few_13), .mu .own ((eL D.int) z23), .mu .own ((eL D.int) z33), .val ((eL D.int) z38), .val ((eL D.int) z48), .val ((eL D.int) a52), .no] _
      obtain ⟨z54, hz54, h⟩ := bs h
      obtain ⟨z55, hz55, h⟩ := bs h
      obtain ⟨z56, hz56, h⟩ := bs h
      obtain ⟨z57, hz57, h⟩ := bs h
      obtain ⟨z58, hz58, h⟩ := bs h
      refine run_s (s_asg (x_bin (x_nmM rfl) (x_lst (xs_cons (x_tup (xs_cons (x_call b_10 (xs_cons (x_nm rfl) xs_nil) (escs_sh escs_nil) (gcall (k_round_of_0 (n := n + 13) (values := a52) hz54))) (xs_cons (x_call b_9 (xs_cons (x_nm rfl) xs_nil) (escs_sh escs_nil) (gcall (k_law_round (n := n + 13) (values := a52) hz55))) xs_nil)) (escs_sh (escs_sh escs_nil)) rfl) (xs_cons (x_tup (xs_cons (x_call b_10 (xs_cons (x_bi (xs_cons (x_nm rfl) xs_nil) rfl rfl) xs_nil) (escs_sh escs_nil) (gcall (k_round_of_1 (n := n + 13) (values := a52) hz56))) (xs_cons (x_call b_9 (xs_cons (x_nm rfl) xs_nil) (escs_sh escs_nil) (gcall (k_law_round (n := n + 13) (values := a52) hz57))) xs_nil)) (escs_sh (escs_sh escs_nil)) rfl) xs_nil)) (escs_sh (escs_sh escs_nil)) rfl) rfl rfl (o_catL (f := eD) (a := s51) (b := [((e2 (eO (e2 D.int D.int)) (eO (e2 D.int D.int))) (z54, z55)), ((e2 (eO (e2 D.int D.int)) (eO (e2 D.int D.int))) (z56, z57))]) hz58)) (store_nw rfl fr_own)) ?_
      show Run _ _ [.mu .bor (eS z47.2), .mu .own ((eL eD) z58), .val (D.int a4), .val (D.int few_13), .mu .own ((eL D.int) z23), .mu .own ((eL D.int) z33), .val ((eL D.int) z38), .val ((eL D.int) z48), .val ((eL D.int) a52), .no] _
      obtain rfl := sinj h
      refine run_nil ?_
      exact run_end (on_nx ⟨_, fr_val, rfl⟩)
    · rintro _ ⟨f60, hf60, rfl⟩
      show Run _ _ [.mu .bor (eS z47.2), .mu .own ((eL eD) o59), .val (D.int a4), .val (D.int few_13), .mu .own ((eL D.int) z23), .mu .own ((eL D.int) z33), .val ((eL D.int) z38), .val ((eL D.int) z48), f60, .no] _
      obtain rfl := sinj h
      refine run_nil ?_
      exact run_end (on_nx ⟨_, fr_val, _, fr_own, _, fr_own, _, fr_val, _, fr_val, _, hf60, _, fr_val, rfl⟩)
  · rintro _ ⟨f62, hf62, f63, hf63, f64, hf64, f65, hf65, f66, hf66, f67, hf67, f68, hf68, rfl⟩
    show Run _ _ [.mu .bor (eS o61.1), .mu .own ((eL eD) o61.2), f68, f62, f63, f64, f65, f66, f67, .no] _
    obtain ⟨z69, hz69, h⟩ := bs h
    obtain rfl := sinj h
    exact run_rt (x_call b_14 (xs_cons (x_nmM rfl) xs_nil) (escs_own rfl (show _ = [.mu .bor (eS o61.1), .val ((eL eD) o61.2), f68, f62, f63, f64, f65, f66, f67, .no] from rfl) escs_nil) (gcall (rows_ok (n := n) (hk := rfl) (hS := f19) (rows := o61.2) hz69))) (fin_ret rfl rfl)
end K56
set_option Elab.async false
set_option linter.all false
set_option maxRecDepth 100000
set_option maxHeartbeats 4000000
namespace K56
open PySem RE
/-- _law_games_right -/
noncomputable def m_law_games_right (source : S2) : Option (Bool × S2) :=
  (pick_m source (6 : Int)).bind fun z1 =>
  (crng1 ((1 : Int) + z1.1)).bind fun r2 =>
  (lcS (fun (t5 : S2) (y6 : Int) => ((pick_m t5 (15 : Int)).bind fun z7 => some ((((1 : Int) + z7.1), z7.2) : (Int × S2)))) r2 z1.2).bind fun z9 =>
  (chk z9.1).bind fun z10 =>
  (some ((sortI z10) : (List Int))).bind fun takes_11 =>
  (pick_m z9.2 (200 : Int)).bind fun z12 =>
  (some (((40 : Int) + z12.1) : Int)).bind fun count_13 =>
  (m_values_of_game takes_11 count_13).bind fun z14 =>
  (some ([] : (List Int))).bind fun values_15 =>
  (crng1 count_13).bind fun r16 =>
  (fld (σ := (List Int)) (fun (s17 : (List Int)) (a18 : Int) =>
  (lcM (fun y20 : Int => (some ((decide (y20 ≤ a18)) : Bool))) (fun y20 : Int => ((getI (s17 : (List Int)) (a18 - y20)).bind fun z21 => some (z21 : Int))) (takes_11 : (List Int))).bind fun z24 =>
  (chk z24).bind fun z25 =>
  (m_law_least z25).bind fun z26 =>
  (push (s17 : (List Int)) z26).bind fun z27 =>
  some (z27 : (List Int))) r16 (values_15 : (List Int))).bind fun o28 =>
  (cat (takes_11 : (List Int)) takes_11).bind fun z30 =>
  (m_values_of_game z30 count_13).bind fun z31 =>
  (m_values_of_game (takes_11 : (List Int)).reverse count_13).bind fun z32 =>
  (some ([((e2 (eT D.int) (eT D.int)) (z14, o28)), ((e2 (eT D.int) (eT D.int)) (z31, o28)), ((e2 (eT D.int) (eT D.int)) (z32, o28))] : (List D))).bind fun rows_33 =>
  (crng1 count_13).bind fun r34 =>
  (fldC (ρ := (Bool × S2)) (σ := Unit) (fun (s35 : Unit) (a36 : Int) =>
  (lcM (fun y39 : Int => ((RE.andM (decide (y39 ≤ a36)) ((getI (z14 : (List Int)) (a36 - y39)).bind fun z40 => some ((decide ((z40 : Int) = (0 : Int))) : Bool))).bind fun z41 => some (z41 : Bool))) (fun y39 : Int => (some (y39 : Int))) (takes_11 : (List Int))).bind fun z45 =>
  (chk z45).bind fun z46 =>
  (getI (z14 : (List Int)) a36).bind fun z47 =>
  if (!(decide (((decide ((z47 : Int) = (0 : Int))) : Bool) = (decide ((z46 : (List Int)) = []))))) = true then (some (Ctl.ret (false, z12.2))) else
  (some (Ctl.nx (() : Unit)))) r34 (() : Unit)).bind fun o49 => match o49 with
  | .bk _ => none
  | .ret r => some r
  | .nx s50 => ((if (decide ((90 : Int) ≤ count_13)) = true then ((m_round_of_1 (cutL (z14 : (List Int)) none (some (90 : Int)))).bind fun z54 =>
  (m_law_round (cutL (o28 : (List Int)) none (some (90 : Int)))).bind fun z55 =>
  (cat (rows_33 : (List D)) [((e2 (eO (e2 D.int D.int)) (eO (e2 D.int D.int))) (z54, z55))]).bind fun z56 =>
  some (z56 : (List D))) else (some (rows_33 : (List D)))).bind fun j57 =>
  (pick_m z12.2 (40 : Int)).bind fun z58 =>
  (pick_m z58.2 (40 : Int)).bind fun z59 =>
  (chk (List.map (fun y60 : Int => (((z58.1 - y60), z59.1) : (Int × Int))) (List.filter (fun y60 : Int => (decide (y60 ≤ z58.1))) (takes_11 : (List Int))))).bind fun z61 =>
  (chk (List.map (fun y62 : Int => ((z58.1, (z59.1 - y62)) : (Int × Int))) (List.filter (fun y62 : Int => (decide (y62 ≤ z59.1))) (takes_11 : (List Int))))).bind fun z63 =>
  (cat (z61 : (List (Int × Int))) z63).bind fun z64 =>
  (lcM (fun y65 : (Int × Int) => ((getI (z14 : (List Int)) y65.1).bind fun z66 => (getI (z14 : (List Int)) y65.2).bind fun z67 => some ((decide ((z66 : Int) = z67)) : Bool))) (fun y65 : (Int × Int) => (some (y65 : (Int × Int)))) (z64 : (List (Int × Int)))).bind fun z70 =>
  (chk z70).bind fun z71 =>
  (getI (z14 : (List Int)) z58.1).bind fun z72 =>
  (getI (z14 : (List Int)) z59.1).bind fun z73 =>
  (cat (j57 : (List D)) [((e2 D.bl D.bl) ((decide ((z72 : Int) = z73)), (decide ((z71 : (List (Int × Int))) = []))))]).bind fun z74 =>
  (getI (z14 : (List Int)) z58.1).bind fun z75 =>
  (getI (z14 : (List Int)) z59.1).bind fun z76 =>
  (m_judged [z75, z76]).bind fun z77 =>
  (atD z77 (0 : Int)).bind fun z78 =>
  (getI (z14 : (List Int)) z58.1).bind fun z79 =>
  (getI (z14 : (List Int)) z59.1).bind fun z80 =>
  (getI ([("won" : Str), ("lost" : Str)] : (List Str)) (if (decide ((z79 : Int) = z80)) = true then (1 : Int) else 0)).bind fun z81 =>
  (cat (z74 : (List D)) [((e2 eD D.str) (z78, z81))]).bind fun z82 =>
  (atD z77 (0 : Int)).bind fun z83 =>
  (eqD z83 (D.str ("won" : Str))).bind fun z84 =>
  (if (z84) = true then ((getI (z14 : (List Int)) z58.1).bind fun z86 =>
  (getI (z14 : (List Int)) z59.1).bind fun z87 =>
  (atD z77 (1 : Int)).bind fun z88 =>
  (atD z77 (2 : Int)).bind fun z89 =>
  (unI z88).bind fun z90 =>
  (unI z89).bind fun z91 =>
  (m_played [z86, z87] z90 z91).bind fun z92 =>
  (getI (z92 : (List Int)) (0 : Int)).bind fun z93 =>
  (getI (z14 : (List Int)) z58.1).bind fun z94 =>
  (getI (z14 : (List Int)) z59.1).bind fun z95 =>
  (atD z77 (1 : Int)).bind fun z96 =>
  (atD z77 (2 : Int)).bind fun z97 =>
  (unI z96).bind fun z98 =>
  (unI z97).bind fun z99 =>
  (m_played [z94, z95] z98 z99).bind fun z100 =>
  (getI (z100 : (List Int)) (1 : Int)).bind fun z101 =>
  (cat (z82 : (List D)) [((e2 D.bl D.bl) ((decide ((z93 : Int) = z101)), true))]).bind fun z102 =>
  some (z102 : (List D))) else (some (z82 : (List D)))).bind fun j103 =>
  (pick_m z59.2 (60 : Int)).bind fun z104 =>
  (some ([] : (List Int))).bind fun pins_105 =>
  (some (((1 : Int) + z104.1) : Int)).bind fun size_106 =>
  (crng1 size_106).bind fun r107 =>
  (fld (σ := (List Int) × (List D)) (fun (s108 : (List Int) × (List D)) (a109 : Int) =>
  (fld (σ := (List Int)) (fun (s118 : (List Int)) (a119 : Int) =>
  (crng1 ((a109 - a119) + (1 : Int))).bind fun r126 =>
  (fld (σ := (List Int)) (fun (s127 : (List Int)) (a128 : Int) =>
  (getI (s108.1 : (List Int)) a128).bind fun z134 =>
  (getI (s108.1 : (List Int)) ((a109 - a119) - a128)).bind fun z135 =>
  (whl (σ := Int × Int × Int × Int) (fun s136 : Int × Int × Int × Int => (some (((decide ((0 : Int) < s136.2.1)) || (decide ((0 : Int) < s136.2.2.1))) : Bool))) (fun s136 : Int × Int × Int × Int =>
  (cmul s136.2.2.2 ((s136.2.1 + s136.2.2.1) % (2 : Int))).bind fun z138 =>
  (some ((s136.1 + z138) : Int)).bind fun whole_139 =>
  (some ((s136.2.1 / (2 : Int)) : Int)).bind fun one_140 =>
  (some ((s136.2.2.1 / (2 : Int)) : Int)).bind fun other_141 =>
  (some ((s136.2.2.2 * (2 : Int)) : Int)).bind fun scale_142 =>
  some ((whole_139, one_140, other_141, scale_142) : Int × Int × Int × Int)) 1000000000 (((0 : Int), z134, z135, (1 : Int)) : Int × Int × Int × Int)).bind fun o143 =>
  (push (s127 : (List Int)) o143.1).bind fun z144 =>
  some (z144 : (List Int))) r126 (s118 : (List Int))).bind fun o146 =>
  some (o146 : (List Int))) ([(1 : Int), (2 : Int)] : (List Int)) ([] : (List Int))).bind fun o152 =>
  (m_law_least o152).bind fun z159 =>
  (push (s108.1 : (List Int)) z159).bind fun z160 =>
  (m_least_left_out o152).bind fun z161 =>
  (getI (z160 : (List Int)) a109).bind fun z162 =>
  (cat (s108.2 : (List D)) [((e2 D.int D.int) (z161, z162))]).bind fun z163 =>
  some ((z160, z163) : (List Int) × (List D))) r107 ((pins_105, j103) : (List Int) × (List D))).bind fun o164 =>
  (m_values_of_splits size_106).bind fun z173 =>
  (cat (o164.2 : (List D)) [((e2 (eT D.int) (eT D.int)) (z173, o164.1))]).bind fun z174 =>
  (rows_m z174).bind fun z175 =>
  some (z175, z104.2))
theorem k_law_games_right {n : Nat} {source : S2} {r : (Bool × S2)} (h : m_law_games_right source = some r) : callN P.tab (n + 15) 4 [(eS source)] = some (.sh (D.bl r.1), some (eS r.2)) := by
  unfold m_law_games_right at h
  refine call_run (n := n + 14) (fn := d4.fn) rfl rfl ?_
  show Run _ [b4] [.mu .bor (eS source), .no, .no, .no, .no, .no, .no, .no, .no, .no, .no, .no, .no, .no, .no, .no, .no, .no, .no, .no, .no, .no, .no, .no, .no] _
  obtain ⟨z1, hz1, h⟩ := bs h
  obtain ⟨r2, hr2, h⟩ := bs h
  obtain ⟨z9, hz9, h⟩ := bs h
  obtain ⟨z10, hz10, h⟩ := bs h
  obtain ⟨takes_11, htakes_11, h⟩ := bs h
  refine run_s (s_asg (x_bi (xs_cons (x_lcS (fun t5 : S2 => [.mu .bor (eS t5), .no, .no, .no, .no, .no, .no, .no, .no, .no, .no, .no, .no, .no, .no, .no, .no, .no, .no, .no, .no, .no, .no, .no, .no]) D.int D.int (s := z1.2) hz9 hz10 (i_rg1 hr2 (x_bin x_int (x_callB b_6 (xs_cons (x_nmM rfl) (xs_cons x_int xs_nil)) (escs_sh escs_nil) rfl (gcall (pick_ok (n := n + 13) (hk := rfl) (s := source) (m := (6 : Int)) hz1))) rfl rfl rfl) rfl) (fun y6 t5 => ⟨[.mu .bor (eS t5), .no, .no, .no, .no, .no, .no, .no, .no, .no, .no, .no, .no, .no, .no, .no, .no, .no, .no, .val (D.int y6), .no, .no, .no, .no, .no], rfl, (fun r q8 => by obtain ⟨z7, hz7, q8⟩ := bs q8; obtain rfl := sinj q8; exact ⟨_, toD_of (x_bin x_int (x_callB b_6 (xs_cons (x_nmM rfl) (xs_cons x_int xs_nil)) (escs_sh escs_nil) rfl (gcall (pick_ok (n := n + 13) (hk := rfl) (s := t5) (m := (15 : Int)) hz7))) rfl rfl rfl) rfl, rfl⟩)⟩)) xs_nil) rfl (o_sortL (l := z10))) (store_nw rfl fr_no)) ?_
  show Run _ _ [.mu .bor (eS z9.2), .mu .own ((eL D.int) (sortI z10)), .no, .no, .no, .no, .no, .no, .no, .no, .no, .no, .no, .no, .no, .no, .no, .no, .no, .no, .no, .no, .no, .no, .no] _
  refine run_let (fun z : (List Int) => [.mu .bor (eS z9.2), .mu .own ((eL D.int) z), .no, .no, .no, .no, .no, .no, .no, .no, .no, .no, .no, .no, .no, .no, .no, .no, .no, .no, .no, .no, .no, .no, .no]) htakes_11 ?_
  show Run _ _ [.mu .bor (eS z9.2), .mu .own ((eL D.int) takes_11), .no, .no, .no, .no, .no, .no, .no, .no, .no, .no, .no, .no, .no, .no, .no, .no, .no, .no, .no, .no, .no, .no, .no] _
  obtain ⟨z12, hz12, h⟩ := bs h
  obtain ⟨count_13, hcount_13, h⟩ := bs h
  refine run_s (s_asg (x_bin x_int (x_callB b_6 (xs_cons (x_nmM rfl) (xs_cons x_int xs_nil)) (escs_sh escs_nil) rfl (gcall (pick_ok (n := n + 13) (hk := rfl) (s := z9.2) (m := (200 : Int)) hz12))) rfl rfl rfl) (store_sh rfl fr_no)) ?_
  show Run _ _ [.mu .bor (eS z12.2), .mu .own ((eL D.int) takes_11), .val (D.int ((40 : Int) + z12.1)), .no, .no, .no, .no, .no, .no, .no, .no, .no, .no, .no, .no, .no, .no, .no, .no, .no, .no, .no, .no, .no, .no] _
  refine run_let (fun z : Int => [.mu .bor (eS z12.2), .mu .own ((eL D.int) takes_11), .val (D.int z), .no, .no, .no, .no, .no, .no, .no, .no, .no, .no, .no, .no, .no, .no, .no, .no, .no, .no, .no, .no, .no, .no]) hcount_13 ?_
  show Run _ _ [.mu .bor (eS z12.2), .mu .own ((eL D.int) takes_11), .val (D.int count_13), .no, .no, .no, .no, .no, .no, .no, .no, .no, .no, .no, .no, .no, .no, .no, .no, .no, .no, .no, .no, .no, .no] _
  obtain ⟨z14, hz14, h⟩ := bs h
  obtain ⟨values_15, hvalues_15, h⟩ := bs h
  refine run_s (s_par (xs_cons (x_call b_7 (xs_cons (x_nmM rfl) (xs_cons (x_nm rfl) xs_nil)) (escs_own rfl (show _ = [.mu .bor (eS z12.2), .val ((eL D.int) takes_11), .val (D.int count_13), .no, .no, .no, .no, .no, .no, .no, .no, .no, .no, .no, .no, .no, .no, .no, .no, .no, .no, .no, .no, .no, .no] from rfl) (escs_sh escs_nil)) (gcall (k_values_of_game (n := n + 12) (takes := takes_11) (count := count_13) hz14))) (xs_cons (x_lst xs_nil escs_nil rfl) xs_nil)) rfl (stores_cons (store_sh rfl fr_no) (stores_cons (store_nw rfl fr_no) stores_nil))) ?_
  show Run _ _ [.mu .bor (eS z12.2), .val ((eL D.int) takes_11), .val (D.int count_13), .no, .no, .no, .no, .no, .no, .val ((eT D.int) z14), .mu .own ((eL D.int) []), .no, .no, .no, .no, .no, .no, .no, .no, .no, .no, .no, .no, .no, .no] _
  refine run_let (fun z : (List Int) => [.mu .bor (eS z12.2), .val ((eL D.int) takes_11), .val (D.int count_13), .no, .no, .no, .no, .no, .no, .val ((eT D.int) z14), .mu .own ((eL D.int) z), .no, .no, .no, .no, .no, .no, .no, .no, .no, .no, .no, .no, .no, .no]) hvalues_15 ?_
  show Run _ _ [.mu .bor (eS z12.2), .val ((eL D.int) takes_11), .val (D.int count_13), .no, .no, .no, .no, .no, .no, .val ((eT D.int) z14), .mu .own ((eL D.int) values_15), .no, .no, .no, .no, .no, .no, .no, .no, .no, .no, .no, .no, .no, .no] _
  obtain ⟨r16, hr16, h⟩ := bs h
  obtain ⟨o28, ho28, h⟩ := bs h
  refine run_for (fun (s17 : (List Int)) env => ∃ f19, Fr f19 ∧ env = [.mu .bor (eS z12.2), .val ((eL D.int) takes_11), .val (D.int count_13), f19, .no, .no, .no, .no, .no, .val ((eT D.int) z14), .mu .own ((eL D.int) s17), .no, .no, .no, .no, .no, .no, .no, .no, .no, .no, .no, .no, .no, .no]) D.int ho28 (i_rg1 hr16 (x_nm rfl) rfl) ⟨_, fr_no, rfl⟩ ?_ ?_
  · rintro a18 s17 _ ⟨f19, hf19, rfl⟩ c h
    refine ⟨_, (bind_fr rfl hf19), ?_⟩
    show Run _ _ [.mu .bor (eS z12.2), .val ((eL D.int) takes_11), .val (D.int count_13), .val (D.int a18), .no, .no, .no, .no, .no, .val ((eT D.int) z14), .mu .own ((eL D.int) s17), .no, .no, .no, .no, .no, .no, .no, .no, .no, .no, .no, .no, .no, .no] _
    obtain ⟨z24, hz24, h⟩ := bs h
    obtain ⟨z25, hz25, h⟩ := bs h
    obtain ⟨z26, hz26, h⟩ := bs h
    obtain ⟨z27, hz27, h⟩ := bs h
    refine run_s (s_app (f := D.int) (l := s17) (x := z26) hz27 ⟨_, rfl⟩ (x_call b_8 (xs_cons (x_lcM D.int D.int hz24 hz25 (i_of (ds := List.map D.int takes_11) (x_nm rfl) rfl rfl rfl) (fun y20 => ⟨[.mu .bor (eS z12.2), .val ((eL D.int) takes_11), .val (D.int count_13), .val (D.int a18), .no, .no, .no, .no, .no, .val ((eT D.int) z14), .mu .own ((eL D.int) s17), .no, .no, .no, .no, .no, .no, .no, .no, .no, .val (D.int y20), .no, .no, .no, .no], rfl, (fun b q23 => by obtain rfl := sinj q23; exact c_so (t_v rfl (x_cmp (x_nm rfl) (x_nm rfl) rfl rfl rfl) rfl rfl)), fun x _ => ((fun x q22 => by obtain ⟨z21, hz21, q22⟩ := bs q22; obtain rfl := sinj q22; exact toD_of (x_ix (x_nmM rfl) (x_bin (x_nm rfl) (x_nm rfl) rfl rfl rfl) rfl rfl (o_ixL (f := D.int) hz21)) rfl)) x, rfl⟩)) xs_nil) (escs_nw escs_nil) (gcall (k_law_least (n := n + 13) (numbers := z25) hz26))) rfl rfl) ?_
    show Run _ _ [.mu .bor (eS z12.2), .val ((eL D.int) takes_11), .val (D.int count_13), .val (D.int a18), .no, .no, .no, .no, .no, .val ((eT D.int) z14), .mu .own ((eL D.int) z27), .no, .no, .no, .no, .no, .no, .no, .no, .no, .no, .no, .no, .no, .no] _
    obtain rfl := sinj h
    refine run_nil ?_
    exact run_end (on_nx ⟨_, fr_val, rfl⟩)
  · rintro _ ⟨f29, hf29, rfl⟩
    show Run _ _ [.mu .bor (eS z12.2), .val ((eL D.int) takes_11), .val (D.int count_13), f29, .no, .no, .no, .no, .no, .val ((eT D.int) z14), .mu .own ((eL D.int) o28), .no, .no, .no, .no, .no, .no, .no, .no, .no, .no, .no, .no, .no, .no] _
    obtain ⟨z30, hz30, h⟩ := bs h
    obtain ⟨z31, hz31, h⟩ := bs h
    obtain ⟨z32, hz32, h⟩ := bs h
    obtain ⟨rows_33, hrows_33, h⟩ := bs h
    refine run_s (s_asg (x_lst (xs_cons (x_tup (xs_cons (x_nm rfl) (xs_cons (x_bi (xs_cons (x_nmM rfl) xs_nil) rfl rfl) xs_nil)) (escs_sh (escs_sh escs_nil)) rfl) (xs_cons (x_tup (xs_cons (x_call b_7 (xs_cons (x_bin (x_nm rfl) (x_nm rfl) rfl rfl (o_catL (f := D.int) (a := takes_11) (b := takes_11) hz30)) (xs_cons (x_nm rfl) xs_nil)) (escs_nw (escs_sh escs_nil)) (gcall (k_values_of_game (n := n + 12) (takes := z30) (count := count_13) hz31))) (xs_cons (x_bi (xs_cons (x_nmM rfl) xs_nil) rfl rfl) xs_nil)) (escs_sh (escs_sh escs_nil)) rfl) (xs_cons (x_tup (xs_cons (x_call b_7 (xs_cons (x_rev (x_nm rfl) rfl (o_revL (f := D.int))) (xs_cons (x_nm rfl) xs_nil)) (escs_nw (escs_sh escs_nil)) (gcall (k_values_of_game (n := n + 12) (takes := (takes_11 : (List Int)).reverse) (count := count_13) hz32))) (xs_cons (x_bi (xs_cons (x_nmM rfl) xs_nil) rfl rfl) xs_nil)) (escs_sh (escs_sh escs_nil)) rfl) xs_nil))) (escs_sh (escs_sh (escs_sh escs_nil))) rfl) (store_nw rfl fr_no)) ?_
    show Run _ _ [.mu .bor (eS z12.2), .val ((eL D.int) takes_11), .val (D.int count_13), f29, .mu .own ((eL eD) [((e2 (eT D.int) (eT D.int)) (z14, o28)), ((e2 (eT D.int) (eT D.int)) (z31, o28)), ((e2 (eT D.int) (eT D.int)) (z32, o28))]), .no, .no, .no, .no, .val ((eT D.int) z14), .mu .own ((eL D.int) o28), .no, .no, .no, .no, .no, .no, .no, .no, .no, .no, .no, .no, .no, .no] _
    refine run_let (fun z : (List D) => [.mu .bor (eS z12.2), .val ((eL D.int) takes_11), .val (D.int count_13), f29, .mu .own ((eL eD) z), .no, .no, .no, .no, .val ((eT D.int) z14), .mu .own ((eL D.int) o28), .no, .no, .no, .no, .no, .no, .no, .no, .no, .no, .no, .no, .no, .no]) hrows_33 ?_
    show Run _ _ [.mu .bor (eS z12.2), .val ((eL D.int) takes_11), .val (D.int count_13), f29, .mu .own ((eL eD) rows_33), .no, .no, .no, .no, .val ((eT D.int) z14), .mu .own ((eL D.int) o28), .no, .no, .no, .no, .no, .no, .no, .no, .no, .no, .no, .no, .no, .no] _
    obtain ⟨r34, hr34, h⟩ := bs h
    obtain ⟨o49, ho49, h⟩ := bs h
    refine run_forC (fun (s35 : Unit) env => ∃ f37, Fr f37 ∧ ∃ f38, Fr f38 ∧ env = [.mu .bor (eS z12.2), .val ((eL D.int) takes_11), .val (D.int count_13), f38, .mu .own ((eL eD) rows_33), .no, .no, .no, .no, .val ((eT D.int) z14), .mu .own ((eL D.int) o28), f37, .no, .no, .no, .no, .no, .no, .no, .no, .no, .no, .no, .no, .no]) (fun r v env => v = .sh (D.bl r.1) ∧ env[0]? = some (.mu .bor (eS r.2))) D.int ho49 (i_rg1 hr34 (x_nm rfl) rfl) ⟨_, fr_no, _, hf29, rfl⟩ ?_ ?_ ?_
    · rintro a36 s35 _ ⟨f37, hf37, f38, hf38, rfl⟩ c h
      refine ⟨_, (bind_fr rfl hf38), ?_⟩
      show Run _ _ [.mu .bor (eS z12.2), .val ((eL D.int) takes_11), .val (D.int count_13), .val (D.int a36), .mu .own ((eL eD) rows_33), .no, .no, .no, .no, .val ((eT D.int) z14), .mu .own ((eL D.int) o28), f37, .no, .no, .no, .no, .no, .no, .no, .no, .no, .no, .no, .no, .no] _
      obtain ⟨z45, hz45, h⟩ := bs h
      obtain ⟨z46, hz46, h⟩ := bs h
      refine run_s (s_asg (x_lcM D.int D.int hz45 hz46 (i_of (ds := List.map D.int takes_11) (x_nm rfl) rfl rfl rfl) (fun y39 => ⟨[.mu .bor (eS z12.2), .val ((eL D.int) takes_11), .val (D.int count_13), .val (D.int a36), .mu .own ((eL eD) rows_33), .no, .no, .no, .no, .val ((eT D.int) z14), .mu .own ((eL D.int) o28), f37, .no, .no, .no, .no, .no, .no, .no, .no, .val (D.int y39), .no, .no, .no, .no], rfl, (fun b q44 => by obtain ⟨z41, hz41, q44⟩ := bs q44; obtain rfl := sinj q44; exact c_so (t_and (ta_consM hz41 (t_v rfl (x_cmp (x_nm rfl) (x_nm rfl) rfl rfl rfl) rfl rfl) (fun _ c q42 => by obtain ⟨z40, hz40, q42⟩ := bs q42; obtain rfl := sinj q42; exact (ta_one (t_v rfl (x_cmp (x_ix (x_nm rfl) (x_bin (x_nm rfl) (x_nm rfl) rfl rfl rfl) rfl rfl (o_ixT (f := D.int) hz40)) x_int rfl rfl (o_eq rfl)) rfl rfl)))))), fun x _ => ((fun x q43 => by obtain rfl := sinj q43; exact toD_of (x_nm rfl) rfl)) x, rfl⟩)) (store_nw rfl hf37)) ?_
      show Run _ _ [.mu .bor (eS z12.2), .val ((eL D.int) takes_11), .val (D.int count_13), .val (D.int a36), .mu .own ((eL eD) rows_33), .no, .no, .no, .no, .val ((eT D.int) z14), .mu .own ((eL D.int) o28), .mu .own ((eL D.int) z46), .no, .no, .no, .no, .no, .no, .no, .no, .no, .no, .no, .no, .no] _
      obtain ⟨z47, hz47, h⟩ := bs h
      refine run_if (t_v rfl (x_cmp (x_cmp (x_ix (x_nm rfl) (x_nm rfl) rfl rfl (o_ixT (f := D.int) hz47)) x_int rfl rfl (o_eq rfl)) (x_cmp (x_nmM rfl) (x_lst xs_nil escs_nil rfl) rfl rfl (o_eq (q_L py_int (by omega) z46 []))) rfl rfl (o_ne rfl)) rfl rfl) (fun c48 => ?_) (fun c48 => ?_)
      · have h := ite_t c48 h
        show Run _ _ [.mu .bor (eS z12.2), .val ((eL D.int) takes_11), .val (D.int count_13), .val (D.int a36), .mu .own ((eL eD) rows_33), .no, .no, .no, .no, .val ((eT D.int) z14), .mu .own ((eL D.int) o28), .mu .own ((eL D.int) z46), .no, .no, .no, .no, .no, .no, .no, .no, .no, .no, .no, .no, .no] _
        obtain rfl := sinj h
        exact run_rt x_bl ⟨_, rfl, rfl, rfl⟩
      · have h := ite_f c48 h
        show Run _ _ [.mu .bor (eS z12.2), .val ((eL D.int) takes_11), .val (D.int count_13), .val (D.int a36), .mu .own ((eL eD) rows_33), .no, .no, .no, .no, .val ((eT D.int) z14), .mu .own ((eL D.int) o28), .mu .own ((eL D.int) z46), .no, .no, .no, .no, .no, .no, .no, .no, .no, .no, .no, .no, .no] _
        refine run_nil ?_
        obtain rfl := sinj h
        refine run_nil ?_
        exact run_end ⟨.inl rfl, ⟨_, fr_own, _, fr_val, rfl⟩⟩
    · rintro s50 _ rfl ⟨f51, hf51, f52, hf52, rfl⟩
      show Run _ _ [.mu .bor (eS z12.2), .val ((eL D.int) takes_11), .val (D.int count_13), f52, .mu .own ((eL eD) rows_33), .no, .no, .no, .no, .val ((eT D.int) z14), .mu .own ((eL D.int) o28), f51, .no, .no, .no, .no, .no, .no, .no, .no, .no, .no, .no, .no, .no] _
      obtain ⟨j57, hj57, h⟩ := bs h
      refine run_ifj (fun env => env = [.mu .bor (eS z12.2), .val ((eL D.int) takes_11), .val (D.int count_13), f52, .mu .own ((eL eD) j57), .no, .no, .no, .no, .val ((eT D.int) z14), .mu .own ((eL D.int) o28), f51, .no, .no, .no, .no, .no, .no, .no, .no, .no, .no, .no, .no, .no]) (t_v rfl (x_cmp (x_nm rfl) x_int rfl rfl rfl) rfl rfl) (fun c53 => ?_) (fun c53 => ?_) ?_
      · have h := ite_t c53 hj57
        show Run _ _ [.mu .bor (eS z12.2), .val ((eL D.int) takes_11), .val (D.int count_13), f52, .mu .own ((eL eD) rows_33), .no, .no, .no, .no, .val ((eT D.int) z14), .mu .own ((eL D.int) o28), f51, .no, .no, .no, .no, .no, .no, .no, .no, .no, .no, .no, .no, .no] _
        obtain ⟨z54, hz54, h⟩ := bs h
        obtain ⟨z55, hz55, h⟩ := bs h
        obtain ⟨z56, hz56, h⟩ := bs h
        refine run_s (s_asg (x_bin (x_nmM rfl) (x_lst (xs_cons (x_tup (xs_cons (x_call b_10 (xs_cons (x_slc (x_nm rfl) eo_no (eo_so x_int rfl) rfl (o_slcT (f := D.int))) xs_nil) (escs_sh escs_nil) (gcall (k_round_of_1 (n := n + 13) (values := (cutL (z14 : (List Int)) none (some (90 : Int)))) hz54))) (xs_cons (x_call b_9 (xs_cons (x_slc (x_nmM rfl) eo_no (eo_so x_int rfl) rfl (o_slcL (f := D.int))) xs_nil) (escs_nw escs_nil) (gcall (k_law_round (n := n + 13) (values := (cutL (o28 : (List Int)) none (some (90 : Int)))) hz55))) xs_nil)) (escs_sh (escs_sh escs_nil)) rfl) xs_nil) (escs_sh escs_nil) rfl) rfl rfl (o_catL (f := eD) (a := rows_33) (b := [((e2 (eO (e2 D.int D.int)) (eO (e2 D.int D.int))) (z54, z55))]) hz56)) (store_nw rfl fr_own)) ?_
        show Run _ _ [.mu .bor (eS z12.2), .val ((eL D.int) takes_11), .val (D.int count_13), f52, .mu .own ((eL eD) z56), .no, .no, .no, .no, .val ((eT D.int) z14), .mu .own ((eL D.int) o28), f51, .no, .no, .no, .no, .no, .no, .no, .no, .no, .no, .no, .no, .no] _
        obtain rfl := sinj h
        refine run_nil ?_
        exact run_end (nxj rfl)
      · have h := ite_f c53 hj57
        show Run _ _ [.mu .bor (eS z12.2), .val ((eL D.int) takes_11), .val (D.int count_13), f52, .mu .own ((eL eD) rows_33), .no, .no, .no, .no, .val ((eT D.int) z14), .mu .own ((eL D.int) o28), f51, .no, .no, .no, .no, .no, .no, .no, .no, .no, .no, .no, .no, .no] _
        obtain rfl := sinj h
        refine run_nil ?_
        exact run_end (nxj rfl)
      rintro _ rfl
      show Run _ _ [.mu .bor (eS z12.2), .val ((eL D.int) takes_11), .val (D.int count_13), f52, .mu .own ((eL eD) j57), .no, .no, .no, .no, .val ((eT D.int) z14), .mu .own ((eL D.int) o28), f51, .no, .no, .no, .no, .no, .no, .no, .no, .no, .no, .no, .no, .no] _
      obtain ⟨z58, hz58, h⟩ := bs h
      obtain ⟨z59, hz59, h⟩ := bs h
      refine run_s (s_par (xs_cons (x_callB b_6 (xs_cons (x_nmM rfl) (xs_cons x_int xs_nil)) (escs_sh escs_nil) rfl (gcall (pick_ok (n := n + 13) (hk := rfl) (s := z12.2) (m := (40 : Int)) hz58))) (xs_cons (x_callB b_6 (xs_cons (x_nmM rfl) (xs_cons x_int xs_nil)) (escs_sh escs_nil) rfl (gcall (pick_ok (n := n + 13) (hk := rfl) (s := z58.2) (m := (40 : Int)) hz59))) xs_nil)) rfl (stores_cons (store_sh rfl fr_no) (stores_cons (store_sh rfl fr_no) stores_nil))) ?_
      show Run _ _ [.mu .bor (eS z59.2), .val ((eL D.int) takes_11), .val (D.int count_13), f52, .mu .own ((eL eD) j57), .no, .no, .no, .no, .val ((eT D.int) z14), .mu .own ((eL D.int) o28), f51, .val (D.int z58.1), .val (D.int z59.1), .no, .no, .no, .no, .no, .no, .no, .no, .no, .no, .no] _
      obtain ⟨z61, hz61, h⟩ := bs h
      obtain ⟨z63, hz63, h⟩ := bs h
      obtain ⟨z64, hz64, h⟩ := bs h
      refine run_s (s_asg (x_bin (x_lcP D.int (e2 D.int D.int) hz61 (i_of (ds := List.map D.int takes_11) (x_nm rfl) rfl rfl rfl) (fun y60 => ⟨[.mu .bor (eS z59.2), .val ((eL D.int) takes_11), .val (D.int count_13), f52, .mu .own ((eL eD) j57), .no, .no, .no, .no, .val ((eT D.int) z14), .mu .own ((eL D.int) o28), f51, .val (D.int z58.1), .val (D.int z59.1), .no, .no, .no, .no, .no, .no, .val (D.int y60), .no, .no, .no, .no], rfl, c_so (t_v rfl (x_cmp (x_nm rfl) (x_nm rfl) rfl rfl rfl) rfl rfl), fun _ => toD_of (x_tup (xs_cons (x_bin (x_nm rfl) (x_nm rfl) rfl rfl rfl) (xs_cons (x_nm rfl) xs_nil)) (escs_sh (escs_sh escs_nil)) rfl) rfl, rfl⟩)) (x_lcP D.int (e2 D.int D.int) hz63 (i_of (ds := List.map D.int takes_11) (x_nm rfl) rfl rfl rfl) (fun y62 => ⟨[.mu .bor (eS z59.2), .val ((eL D.int) takes_11), .val (D.int count_13), f52, .mu .own ((eL eD) j57), .no, .no, .no, .no, .val ((eT D.int) z14), .mu .own ((eL D.int) o28), f51, .val (D.int z58.1), .val (D.int z59.1), .no, .no, .no, .no, .no, .no, .val (D.int y62), .no, .no, .no, .no], rfl, c_so (t_v rfl (x_cmp (x_nm rfl) (x_nm rfl) rfl rfl rfl) rfl rfl), fun _ => toD_of (x_tup (xs_cons (x_nm rfl) (xs_cons (x_bin (x_nm rfl) (x_nm rfl) rfl rfl rfl) xs_nil)) (escs_sh (escs_sh escs_nil)) rfl) rfl, rfl⟩)) rfl rfl (o_catL (f := (e2 D.int D.int)) (a := z61) (b := z63) hz64)) (store_nw rfl fr_no)) ?_
      show Run _ _ [.mu .bor (eS z59.2), .val ((eL D.int) takes_11), .val (D.int count_13), f52, .mu .own ((eL eD) j57), .mu .own ((eL (e2 D.int D.int)) z64), .no, .no, .no, .val ((eT D.int) z14), .mu .own ((eL D.int) o28), f51, .val (D.int z58.1), .val (D.int z59.1), .no, .no, .no, .no, .no, .no, .no, .no, .no, .no, .no] _
      obtain ⟨z70, hz70, h⟩ := bs h
      obtain ⟨z71, hz71, h⟩ := bs h
      refine run_s (s_asg (x_lcM (e2 D.int D.int) (e2 D.int D.int) hz70 hz71 (i_of (ds := List.map (e2 D.int D.int) z64) (x_nmM rfl) rfl rfl rfl) (fun y65 => ⟨[.mu .bor (eS z59.2), .val ((eL D.int) takes_11), .val (D.int count_13), f52, .mu .own ((eL eD) j57), .mu .lck ((eL (e2 D.int D.int)) z64), .no, .no, .no, .val ((eT D.int) z14), .mu .own ((eL D.int) o28), f51, .val (D.int z58.1), .val (D.int z59.1), .no, .no, .no, .val ((e2 D.int D.int) y65), .no, .no, .no, .no, .no, .no, .no], rfl, (fun b q69 => by obtain ⟨z66, hz66, q69⟩ := bs q69; obtain ⟨z67, hz67, q69⟩ := bs q69; obtain rfl := sinj q69; exact c_so (t_v rfl (x_cmp (x_ix (x_nm rfl) (x_ix (x_nm rfl) x_int rfl rfl rfl) rfl rfl (o_ixT (f := D.int) hz66)) (x_ix (x_nm rfl) (x_ix (x_nm rfl) x_int rfl rfl rfl) rfl rfl (o_ixT (f := D.int) hz67)) rfl rfl (o_eq rfl)) rfl rfl)), fun x _ => ((fun x q68 => by obtain rfl := sinj q68; exact toD_of (x_nm rfl) rfl)) x, rfl⟩)) (store_nw rfl fr_no)) ?_
      show Run _ _ [.mu .bor (eS z59.2), .val ((eL D.int) takes_11), .val (D.int count_13), f52, .mu .own ((eL eD) j57), .mu .own ((eL (e2 D.int D.int)) z64), .mu .own ((eL (e2 D.int D.int)) z71), .no, .no, .val ((eT D.int) z14), .mu .own ((eL D.int) o28), f51, .val (D.int z58.1), .val (D.int z59.1), .no, .no, .no, .no, .no, .no, .no, .no, .no, .no, .no] _
      obtain ⟨z72, hz72, h⟩ := bs h
      obtain ⟨z73, hz73, h⟩ := bs h
      obtain ⟨z74, hz74, h⟩ := bs h
      refine run_s (s_asg (x_bin (x_nmM rfl) (x_lst (xs_cons (x_tup (xs_cons (x_cmp (x_ix (x_nm rfl) (x_nm rfl) rfl rfl (o_ixT (f := D.int) hz72)) (x_ix (x_nm rfl) (x_nm rfl) rfl rfl (o_ixT (f := D.int) hz73)) rfl rfl (o_eq rfl)) (xs_cons (x_cmp (x_nmM rfl) (x_lst xs_nil escs_nil rfl) rfl rfl (o_eq (q_L (py_2 py_int py_int) (by omega) z71 []))) xs_nil)) (escs_sh (escs_sh escs_nil)) rfl) xs_nil) (escs_sh escs_nil) rfl) rfl rfl (o_catL (f := eD) (a := j57) (b := [((e2 D.bl D.bl) ((decide ((z72 : Int) = z73)), (decide ((z71 : (List (Int × Int))) = []))))]) hz74)) (store_nw rfl fr_own)) ?_
      show Run _ _ [.mu .bor (eS z59.2), .val ((eL D.int) takes_11), .val (D.int count_13), f52, .mu .own ((eL eD) z74), .mu .own ((eL (e2 D.int D.int)) z64), .mu .own ((eL (e2 D.int D.int)) z71), .no, .no, .val ((eT D.int) z14), .mu .own ((eL D.int) o28), f51, .val (D.int z58.1), .val (D.int z59.1), .no, .no, .no, .no, .no, .no, .no, .no, .no, .no, .no] _
      obtain ⟨z75, hz75, h⟩ := bs h
      obtain ⟨z76, hz76, h⟩ := bs h
      obtain ⟨z77, hz77, h⟩ := bs h
      refine run_s (s_asg (x_call b_11 (xs_cons (x_tup (xs_cons (x_ix (x_nm rfl) (x_nm rfl) rfl rfl (o_ixT (f := D.int) hz75)) (xs_cons (x_ix (x_nm rfl) (x_nm rfl) rfl rfl (o_ixT (f := D.int) hz76)) xs_nil)) (escs_sh (escs_sh escs_nil)) rfl) xs_nil) (escs_sh escs_nil) (gcall (k_judged (n := n + 9) (heaps := [z75, z76]) hz77))) (store_sh rfl fr_no)) ?_
      show Run _ _ [.mu .bor (eS z59.2), .val ((eL D.int) takes_11), .val (D.int count_13), f52, .mu .own ((eL eD) z74), .mu .own ((eL (e2 D.int D.int)) z64), .mu .own ((eL (e2 D.int D.int)) z71), .val (eD z77), .no, .val ((eT D.int) z14), .mu .own ((eL D.int) o28), f51, .val (D.int z58.1), .val (D.int z59.1), .no, .no, .no, .no, .no, .no, .no, .no, .no, .no, .no] _
      obtain ⟨z78, hz78, h⟩ := bs h
      obtain ⟨z79, hz79, h⟩ := bs h
      obtain ⟨z80, hz80, h⟩ := bs h
      obtain ⟨z81, hz81, h⟩ := bs h
      obtain ⟨z82, hz82, h⟩ := bs h
      refine run_s (s_asg (x_bin (x_nmM rfl) (x_lst (xs_cons (x_tup (xs_cons (x_ix (x_nm rfl) x_int rfl rfl (o_ixD hz78)) (xs_cons (x_ix (x_lst (xs_cons x_str (xs_cons x_str xs_nil)) (escs_sh (escs_sh escs_nil)) rfl) (x_bi (xs_cons (x_cmp (x_ix (x_nm rfl) (x_nm rfl) rfl rfl (o_ixT (f := D.int) hz79)) (x_ix (x_nm rfl) (x_nm rfl) rfl rfl (o_ixT (f := D.int) hz80)) rfl rfl (o_eq rfl)) xs_nil) rfl rfl) rfl rfl (o_ixL (f := D.str) hz81)) xs_nil)) (escs_sh (escs_sh escs_nil)) rfl) xs_nil) (escs_sh escs_nil) rfl) rfl rfl (o_catL (f := eD) (a := z74) (b := [((e2 eD D.str) (z78, z81))]) hz82)) (store_nw rfl fr_own)) ?_
      show Run _ _ [.mu .bor (eS z59.2), .val ((eL D.int) takes_11), .val (D.int count_13), f52, .mu .own ((eL eD) z82), .mu .own ((eL (e2 D.int D.int)) z64), .mu .own ((eL (e2 D.int D.int)) z71), .val (eD z77), .no, .val ((eT D.int) z14), .mu .own ((eL D.int) o28), f51, .val (D.int z58.1), .val (D.int z59.1), .no, .no, .no, .no, .no, .no, .no, .no, .no, .no, .no] _
      obtain ⟨z83, hz83, h⟩ := bs h
      obtain ⟨z84, hz84, h⟩ := bs h
      obtain ⟨j103, hj103, h⟩ := bs h
      refine run_ifj (fun env => env = [.mu .bor (eS z59.2), .val ((eL D.int) takes_11), .val (D.int count_13), f52, .mu .own ((eL eD) j103), .mu .own ((eL (e2 D.int D.int)) z64), .mu .own ((eL (e2 D.int D.int)) z71), .val (eD z77), .no, .val ((eT D.int) z14), .mu .own ((eL D.int) o28), f51, .val (D.int z58.1), .val (D.int z59.1), .no, .no, .no, .no, .no, .no, .no, .no, .no, .no, .no]) (t_v rfl (x_cmp (x_ix (x_nm rfl) x_int rfl rfl (o_ixD hz83)) x_str rfl rfl (o_eq hz84)) rfl rfl) (fun c85 => ?_) (fun c85 => ?_) ?_
      · have h := ite_t c85 hj103
        show Run _ _ [.mu .bor (eS z59.2), .val ((eL D.int) takes_11), .val (D.int count_13), f52, .mu .own ((eL eD) z82), .mu .own ((eL (e2 D.int D.int)) z64), .mu .own ((eL (e2 D.int D.int)) z71), .val (eD z77), .no, .val ((eT D.int) z14), .mu .own ((eL D.int) o28), f51, .val (D.int z58.1), .val (D.int z59.1), .no, .no, .no, .no, .no, .no, .no, .no, .no, .no, .no] _
        obtain ⟨z86, hz86, h⟩ := bs h
        obtain ⟨z87, hz87, h⟩ := bs h
        obtain ⟨z88, hz88, h⟩ := bs h
        obtain ⟨z89, hz89, h⟩ := bs h
        obtain ⟨z90, hz90, h⟩ := bs h
        obtain ⟨z91, hz91, h⟩ := bs h
        obtain ⟨z92, hz92, h⟩ := bs h
        obtain ⟨z93, hz93, h⟩ := bs h
        obtain ⟨z94, hz94, h⟩ := bs h
        obtain ⟨z95, hz95, h⟩ := bs h
        obtain ⟨z96, hz96, h⟩ := bs h
        obtain ⟨z97, hz97, h⟩ := bs h
        obtain ⟨z98, hz98, h⟩ := bs h
        obtain ⟨z99, hz99, h⟩ := bs h
        obtain ⟨z100, hz100, h⟩ := bs h
        obtain ⟨z101, hz101, h⟩ := bs h
        obtain ⟨z102, hz102, h⟩ := bs h
        refine run_s (s_asg (x_bin (x_nmM rfl) (x_lst (xs_cons (x_tup (xs_cons (x_cmp (x_ix (x_call b_12 (xs_cons (x_tup (xs_cons (x_ix (x_nm rfl) (x_nm rfl) rfl rfl (o_ixT (f := D.int) hz86)) (xs_cons (x_ix (x_nm rfl) (x_nm rfl) rfl rfl (o_ixT (f := D.int) hz87)) xs_nil)) (escs_sh (escs_sh escs_nil)) rfl) (xs_cons (x_unI hz90 (x_ix (x_nm rfl) x_int rfl rfl (o_ixD hz88))) (xs_cons (x_unI hz91 (x_ix (x_nm rfl) x_int rfl rfl (o_ixD hz89))) xs_nil))) (escs_sh (escs_sh (escs_sh escs_nil))) (gcall (k_played (n := n + 10) (heaps := [z86, z87]) (at_ := z90) (left := z91) hz92))) x_int rfl rfl (o_ixT (f := D.int) hz93)) (x_ix (x_call b_12 (xs_cons (x_tup (xs_cons (x_ix (x_nm rfl) (x_nm rfl) rfl rfl (o_ixT (f := D.int) hz94)) (xs_cons (x_ix (x_nm rfl) (x_nm rfl) rfl rfl (o_ixT (f := D.int) hz95)) xs_nil)) (escs_sh (escs_sh escs_nil)) rfl) (xs_cons (x_unI hz98 (x_ix (x_nm rfl) x_int rfl rfl (o_ixD hz96))) (xs_cons (x_unI hz99 (x_ix (x_nm rfl) x_int rfl rfl (o_ixD hz97))) xs_nil))) (escs_sh (escs_sh (escs_sh escs_nil))) (gcall (k_played (n := n + 10) (heaps := [z94, z95]) (at_ := z98) (left := z99) hz100))) x_int rfl rfl (o_ixT (f := D.int) hz101)) rfl rfl (o_eq rfl)) (xs_cons x_bl xs_nil)) (escs_sh (escs_sh escs_nil)) rfl) xs_nil) (escs_sh escs_nil) rfl) rfl rfl (o_catL (f := eD) (a := z82) (b := [((e2 D.bl D.bl) ((decide ((z93 : Int) = z101)), true))]) hz102)) (store_nw rfl fr_own)) ?_
        show Run _ _ [.mu .bor (eS z59.2), .val ((eL D.int) takes_11), .val (D.int count_13), f52, .mu .own ((eL eD) z102), .mu .own ((eL (e2 D.int D.int)) z64), .mu .own ((eL (e2 D.int D.int)) z71), .val (eD z77), .no, .val ((eT D.int) z14), .mu .own ((eL D.int) o28), f51, .val (D.int z58.1), .val (D.int z59.1), .no, .no, .no, .no, .no, .no, .no, .no, .no, .no, .no] _
        obtain rfl := sinj h
        refine run_nil ?_
        exact run_end (nxj rfl)
      · have h := ite_f c85 hj103
        show Run _ _ [.mu .bor (eS z59.2), .val ((eL D.int) takes_11), .val (D.int count_13), f52, .mu .own ((eL eD) z82), .mu .own ((eL (e2 D.int D.int)) z64), .mu .own ((eL (e2 D.int D.int)) z71), .val (eD z77), .no, .val ((eT D.int) z14), .mu .own ((eL D.int) o28), f51, .val (D.int z58.1), .val (D.int z59.1), .no, .no, .no, .no, .no, .no, .no, .no, .no, .no, .no] _
        obtain rfl := sinj h
        refine run_nil ?_
        exact run_end (nxj rfl)
      rintro _ rfl
      show Run _ _ [.mu .bor (eS z59.2), .val ((eL D.int) takes_11), .val (D.int count_13), f52, .mu .own ((eL eD) j103), .mu .own ((eL (e2 D.int D.int)) z64), .mu .own ((eL (e2 D.int D.int)) z71), .val (eD z77), .no, .val ((eT D.int) z14), .mu .own ((eL D.int) o28), f51, .val (D.int z58.1), .val (D.int z59.1), .no, .no, .no, .no, .no, .no, .no, .no, .no, .no, .no] _
      obtain ⟨z104, hz104, h⟩ := bs h
      obtain ⟨pins_105, hpins_105, h⟩ := bs h
      obtain ⟨size_106, hsize_106, h⟩ := bs h
      refine run_s (s_par (xs_cons (x_lst xs_nil escs_nil rfl) (xs_cons (x_bin x_int (x_callB b_6 (xs_cons (x_nmM rfl) (xs_cons x_int xs_nil)) (escs_sh escs_nil) rfl (gcall (pick_ok (n := n + 13) (hk := rfl) (s := z59.2) (m := (60 : Int)) hz104))) rfl rfl rfl) xs_nil)) rfl (stores_cons (store_nw rfl fr_no) (stores_cons (store_sh rfl fr_no) stores_nil))) ?_
      show Run _ _ [.mu .bor (eS z104.2), .val ((eL D.int) takes_11), .val (D.int count_13), f52, .mu .own ((eL eD) j103), .mu .own ((eL (e2 D.int D.int)) z64), .mu .own ((eL (e2 D.int D.int)) z71), .val (eD z77), .no, .val ((eT D.int) z14), .mu .own ((eL D.int) o28), f51, .val (D.int z58.1), .val (D.int z59.1), .mu .own ((eL D.int) []), .val (D.int ((1 : Int) + z104.1)), .no, .no, .no, .no, .no, .no, .no, .no, .no] _
      refine run_let (fun z : (List Int) => [.mu .bor (eS z104.2), .val ((eL D.int) takes_11), .val (D.int count_13), f52, .mu .own ((eL eD) j103), .mu .own ((eL (e2 D.int D.int)) z64), .mu .own ((eL (e2 D.int D.int)) z71), .val (eD z77), .no, .val ((eT D.int) z14), .mu .own ((eL D.int) o28), f51, .val (D.int z58.1), .val (D.int z59.1), .mu .own ((eL D.int) z), .val (D.int ((1 : Int) + z104.1)), .no, .no, .no, .no, .no, .no, .no, .no, .no]) hpins_105 ?_
      show Run _ _ [.mu .bor (eS z104.2), .val ((eL D.int) takes_11), .val (D.int count_13), f52, .mu .own ((eL eD) j103), .mu .own ((eL (e2 D.int D.int)) z64), .mu .own ((eL (e2 D.int D.int)) z71), .val (eD z77), .no, .val ((eT D.int) z14), .mu .own ((eL D.int) o28), f51, .val (D.int z58.1), .val (D.int z59.1), .mu .own ((eL D.int) pins_105), .val (D.int ((1 : Int) + z104.1)), .no, .no, .no, .no, .no, .no, .no, .no, .no] _
      refine run_let (fun z : Int => [.mu .bor (eS z104.2), .val ((eL D.int) takes_11), .val (D.int count_13), f52, .mu .own ((eL eD) j103), .mu .own ((eL (e2 D.int D.int)) z64), .mu .own ((eL (e2 D.int D.int)) z71), .val (eD z77), .no, .val ((eT D.int) z14), .mu .own ((eL D.int) o28), f51, .val (D.int z58.1), .val (D.int z59.1), .mu .own ((eL D.int) pins_105), .val (D.int z), .no, .no, .no, .no, .no, .no, .no, .no, .no]) hsize_106 ?_
      show Run _ _ [.mu .bor (eS z104.2), .val ((eL D.int) takes_11), .val (D.int count_13), f52, .mu .own ((eL eD) j103), .mu .own ((eL (e2 D.int D.int)) z64), .mu .own ((eL (e2 D.int D.int)) z71), .val (eD z77), .no, .val ((eT D.int) z14), .mu .own ((eL D.int) o28), f51, .val (D.int z58.1), .val (D.int z59.1), .mu .own ((eL D.int) pins_105), .val (D.int size_106), .no, .no, .no, .no, .no, .no, .no, .no, .no] _
      obtain ⟨r107, hr107, h⟩ := bs h
      obtain ⟨o164, ho164, h⟩ := bs h
      refine run_for (fun (s108 : (List Int) × (List D)) env => ∃ f110, Fr f110 ∧ ∃ f111, Fr f111 ∧ ∃ f112, Fr f112 ∧ ∃ f113, Fr f113 ∧ ∃ f114, Fr f114 ∧ ∃ f115, Fr f115 ∧ ∃ f116, Fr f116 ∧ ∃ f117, Fr f117 ∧ env = [.mu .bor (eS z104.2), .val ((eL D.int) takes_11), .val (D.int count_13), f52, .mu .own ((eL eD) s108.2), f110, .mu .own ((eL (e2 D.int D.int)) z71), .val (eD z77), f117, .val ((eT D.int) z14), .mu .own ((eL D.int) o28), f51, .val (D.int z58.1), .val (D.int z59.1), .mu .own ((eL D.int) s108.1), .val (D.int size_106), f111, .no, f112, .no, .no, f113, f114, f115, f116]) D.int ho164 (i_rg1 hr107 (x_nm rfl) rfl) ⟨_, fr_own, _, fr_no, _, fr_no, _, fr_no, _, fr_no, _, fr_no, _, fr_no, _, fr_no, rfl⟩ ?_ ?_
      · rintro a109 s108 _ ⟨f110, hf110, f111, hf111, f112, hf112, f113, hf113, f114, hf114, f115, hf115, f116, hf116, f117, hf117, rfl⟩ c h
        refine ⟨_, (bind_fr rfl hf117), ?_⟩
        show Run _ _ [.mu .bor (eS z104.2), .val ((eL D.int) takes_11), .val (D.int count_13), f52, .mu .own ((eL eD) s108.2), f110, .mu .own ((eL (e2 D.int D.int)) z71), .val (eD z77), .val (D.int a109), .val ((eT D.int) z14), .mu .own ((eL D.int) o28), f51, .val (D.int z58.1), .val (D.int z59.1), .mu .own ((eL D.int) s108.1), .val (D.int size_106), f111, .no, f112, .no, .no, f113, f114, f115, f116] _
        refine run_s (s_asg (x_lst xs_nil escs_nil rfl) (store_nw rfl hf110)) ?_
        show Run _ _ [.mu .bor (eS z104.2), .val ((eL D.int) takes_11), .val (D.int count_13), f52, .mu .own ((eL eD) s108.2), .mu .own ((eL D.int) []), .mu .own ((eL (e2 D.int D.int)) z71), .val (eD z77), .val (D.int a109), .val ((eT D.int) z14), .mu .own ((eL D.int) o28), f51, .val (D.int z58.1), .val (D.int z59.1), .mu .own ((eL D.int) s108.1), .val (D.int size_106), f111, .no, f112, .no, .no, f113, f114, f115, f116] _
        obtain ⟨o152, ho152, h⟩ := bs h
        refine run_for (fun (s118 : (List Int)) env => ∃ f120, Fr f120 ∧ ∃ f121, Fr f121 ∧ ∃ f122, Fr f122 ∧ ∃ f123, Fr f123 ∧ ∃ f124, Fr f124 ∧ ∃ f125, Fr f125 ∧ env = [.mu .bor (eS z104.2), .val ((eL D.int) takes_11), .val (D.int count_13), f52, .mu .own ((eL eD) s108.2), .mu .own ((eL D.int) s118), .mu .own ((eL (e2 D.int D.int)) z71), .val (eD z77), .val (D.int a109), .val ((eT D.int) z14), .mu .own ((eL D.int) o28), f51, .val (D.int z58.1), .val (D.int z59.1), .mu .own ((eL D.int) s108.1), .val (D.int size_106), f125, .no, f120, .no, .no, f121, f122, f123, f124]) D.int ho152 (i_of (ds := List.map D.int [(1 : Int), (2 : Int)]) (x_tup (xs_cons x_int (xs_cons x_int xs_nil)) (escs_sh (escs_sh escs_nil)) rfl) rfl rfl rfl) ⟨_, hf112, _, hf113, _, hf114, _, hf115, _, hf116, _, hf111, rfl⟩ ?_ ?_
        · rintro a119 s118 _ ⟨f120, hf120, f121, hf121, f122, hf122, f123, hf123, f124, hf124, f125, hf125, rfl⟩ c h
          refine ⟨_, (bind_fr rfl hf125), ?_⟩
          show Run _ _ [.mu .bor (eS z104.2), .val ((eL D.int) takes_11), .val (D.int count_13), f52, .mu .own ((eL eD) s108.2), .mu .own ((eL D.int) s118), .mu .own ((eL (e2 D.int D.int)) z71), .val (eD z77), .val (D.int a109), .val ((eT D.int) z14), .mu .own ((eL D.int) o28), f51, .val (D.int z58.1), .val (D.int z59.1), .mu .own ((eL D.int) s108.1), .val (D.int size_106), .val (D.int a119), .no, f120, .no, .no, f121, f122, f123, f124] _
          obtain ⟨r126, hr126, h⟩ := bs h
          obtain ⟨o146, ho146, h⟩ := bs h
          refine run_for (fun (s127 : (List Int)) env => ∃ f129, Fr f129 ∧ ∃ f130, Fr f130 ∧ ∃ f131, Fr f131 ∧ ∃ f132, Fr f132 ∧ ∃ f133, Fr f133 ∧ env = [.mu .bor (eS z104.2), .val ((eL D.int) takes_11), .val (D.int count_13), f52, .mu .own ((eL eD) s108.2), .mu .own ((eL D.int) s127), .mu .own ((eL (e2 D.int D.int)) z71), .val (eD z77), .val (D.int a109), .val ((eT D.int) z14), .mu .own ((eL D.int) o28), f51, .val (D.int z58.1), .val (D.int z59.1), .mu .own ((eL D.int) s108.1), .val (D.int size_106), .val (D.int a119), .no, f133, .no, .no, f129, f130, f131, f132]) D.int ho146 (i_rg1 hr126 (x_bin (x_bin (x_nm rfl) (x_nm rfl) rfl rfl rfl) x_int rfl rfl rfl) rfl) ⟨_, hf121, _, hf122, _, hf123, _, hf124, _, hf120, rfl⟩ ?_ ?_
          · rintro a128 s127 _ ⟨f129, hf129, f130, hf130, f131, hf131, f132, hf132, f133, hf133, rfl⟩ c h
            refine ⟨_, (bind_fr rfl hf133), ?_⟩
            show Run _ _ [.mu .bor (eS z104.2), .val ((eL D.int) takes_11), .val (D.int count_13), f52, .mu .own ((eL eD) s108.2), .mu .own ((eL D.int) s127), .mu .own ((eL (e2 D.int D.int)) z71), .val (eD z77), .val (D.int a109), .val ((eT D.int) z14), .mu .own ((eL D.int) o28), f51, .val (D.int z58.1), .val (D.int z59.1), .mu .own ((eL D.int) s108.1), .val (D.int size_106), .val (D.int a119), .no, .val (D.int a128), .no, .no, f129, f130, f131, f132] _
            obtain ⟨z134, hz134, h⟩ := bs h
            obtain ⟨z135, hz135, h⟩ := bs h
            refine run_s (s_par (xs_cons (x_ix (x_nmM rfl) (x_nm rfl) rfl rfl (o_ixL (f := D.int) hz134)) (xs_cons (x_ix (x_nmM rfl) (x_bin (x_bin (x_nm rfl) (x_nm rfl) rfl rfl rfl) (x_nm rfl) rfl rfl rfl) rfl rfl (o_ixL (f := D.int) hz135)) (xs_cons x_int (xs_cons x_int xs_nil)))) rfl (stores_cons (store_sh rfl hf129) (stores_cons (store_sh rfl hf130) (stores_cons (store_sh rfl hf131) (stores_cons (store_sh rfl hf132) stores_nil))))) ?_
            show Run _ _ [.mu .bor (eS z104.2), .val ((eL D.int) takes_11), .val (D.int count_13), f52, .mu .own ((eL eD) s108.2), .mu .own ((eL D.int) s127), .mu .own ((eL (e2 D.int D.int)) z71), .val (eD z77), .val (D.int a109), .val ((eT D.int) z14), .mu .own ((eL D.int) o28), f51, .val (D.int z58.1), .val (D.int z59.1), .mu .own ((eL D.int) s108.1), .val (D.int size_106), .val (D.int a119), .no, .val (D.int a128), .no, .no, .val (D.int z134), .val (D.int z135), .val (D.int (0 : Int)), .val (D.int (1 : Int))] _
            obtain ⟨o143, ho143, h⟩ := bs h
            refine run_whl (fun (s136 : Int × Int × Int × Int) env => env = [.mu .bor (eS z104.2), .val ((eL D.int) takes_11), .val (D.int count_13), f52, .mu .own ((eL eD) s108.2), .mu .own ((eL D.int) s127), .mu .own ((eL (e2 D.int D.int)) z71), .val (eD z77), .val (D.int a109), .val ((eT D.int) z14), .mu .own ((eL D.int) o28), f51, .val (D.int z58.1), .val (D.int z59.1), .mu .own ((eL D.int) s108.1), .val (D.int size_106), .val (D.int a119), .no, .val (D.int a128), .no, .no, .val (D.int s136.2.1), .val (D.int s136.2.2.1), .val (D.int s136.1), .val (D.int s136.2.2.2)]) ho143 rfl ?_ ?_ ?_
            · rintro s136 _ rfl t q145
              obtain rfl := sinj q145
              exact (t_or (to_cons (t_v rfl (x_cmp (x_nm rfl) x_int rfl rfl rfl) rfl rfl) (fun _ => (to_one (t_v rfl (x_cmp (x_nm rfl) x_int rfl rfl rfl) rfl rfl)))))
            · rintro s136 _ rfl c h
              show Run _ _ [.mu .bor (eS z104.2), .val ((eL D.int) takes_11), .val (D.int count_13), f52, .mu .own ((eL eD) s108.2), .mu .own ((eL D.int) s127), .mu .own ((eL (e2 D.int D.int)) z71), .val (eD z77), .val (D.int a109), .val ((eT D.int) z14), .mu .own ((eL D.int) o28), f51, .val (D.int z58.1), .val (D.int z59.1), .mu .own ((eL D.int) s108.1), .val (D.int size_106), .val (D.int a119), .no, .val (D.int a128), .no, .no, .val (D.int s136.2.1), .val (D.int s136.2.2.1), .val (D.int s136.1), .val (D.int s136.2.2.2)] _
              obtain ⟨z138, hz138, h⟩ := bs h
              obtain ⟨whole_139, hwhole_139, h⟩ := bs h
              obtain ⟨one_140, hone_140, h⟩ := bs h
              obtain ⟨other_141, hother_141, h⟩ := bs h
              obtain ⟨scale_142, hscale_142, h⟩ := bs h
              refine run_s (s_par (xs_cons (x_bin (x_nm rfl) (x_bin (x_nm rfl) (x_bin (x_bin (x_nm rfl) (x_nm rfl) rfl rfl rfl) x_int rfl rfl (o_modr (by decide))) rfl rfl (o_mul hz138)) rfl rfl rfl) (xs_cons (x_bin (x_nm rfl) x_int rfl rfl (o_divr (by decide) (by decide))) (xs_cons (x_bin (x_nm rfl) x_int rfl rfl (o_divr (by decide) (by decide))) (xs_cons (x_bin (x_nm rfl) x_int rfl rfl (o_mulr (by decide))) xs_nil)))) rfl (stores_cons (store_sh rfl fr_val) (stores_cons (store_sh rfl fr_val) (stores_cons (store_sh rfl fr_val) (stores_cons (store_sh rfl fr_val) stores_nil))))) ?_
              show Run _ _ [.mu .bor (eS z104.2), .val ((eL D.int) takes_11), .val (D.int count_13), f52, .mu .own ((eL eD) s108.2), .mu .own ((eL D.int) s127), .mu .own ((eL (e2 D.int D.int)) z71), .val (eD z77), .val (D.int a109), .val ((eT D.int) z14), .mu .own ((eL D.int) o28), f51, .val (D.int z58.1), .val (D.int z59.1), .mu .own ((eL D.int) s108.1), .val (D.int size_106), .val (D.int a119), .no, .val (D.int a128), .no, .no, .val (D.int (s136.2.1 / (2 : Int))), .val (D.int (s136.2.2.1 / (2 : Int))), .val (D.int (s136.1 + z138)), .val (D.int (s136.2.2.2 * (2 : Int)))] _
              refine run_let (fun z : Int => [.mu .bor (eS z104.2), .val ((eL D.int) takes_11), .val (D.int count_13), f52, .mu .own ((eL eD) s108.2), .mu .own ((eL D.int) s127), .mu .own ((eL (e2 D.int D.int)) z71), .val (eD z77), .val (D.int a109), .val ((eT D.int) z14), .mu .own ((eL D.int) o28), f51, .val (D.int z58.1), .val (D.int z59.1), .mu .own ((eL D.int) s108.1), .val (D.int size_106), .val (D.int a119), .no, .val (D.int a128), .no, .no, .val (D.int (s136.2.1 / (2 : Int))), .val (D.int (s136.2.2.1 / (2 : Int))), .val (D.int z), .val (D.int (s136.2.2.2 * (2 : Int)))]) hwhole_139 ?_
              show Run _ _ [.mu .bor (eS z104.2), .val ((eL D.int) takes_11), .val (D.int count_13), f52, .mu .own ((eL eD) s108.2), .mu .own ((eL D.int) s127), .mu .own ((eL (e2 D.int D.int)) z71), .val (eD z77), .val (D.int a109), .val ((eT D.int) z14), .mu .own ((eL D.int) o28), f51, .val (D.int z58.1), .val (D.int z59.1), .mu .own ((eL D.int) s108.1), .val (D.int size_106), .val (D.int a119), .no, .val (D.int a128), .no, .no, .val (D.int (s136.2.1 / (2 : Int))), .val (D.int (s136.2.2.1 / (2 : Int))), .val (D.int whole_139), .val (D.int (s136.2.2.2 * (2 : Int)))] _
              refine run_let (fun z : Int => [.mu .bor (eS z104.2), .val ((eL D.int) takes_11), .val (D.int count_13), f52, .mu .own ((eL eD) s108.2), .mu .own ((eL D.int) s127), .mu .own ((eL (e2 D.int D.int)) z71), .val (eD z77), .val (D.int a109), .val ((eT D.int) z14), .mu .own ((eL D.int) o28), f51, .val (D.int z58.1), .val (D.int z59.1), .mu .own ((eL D.int) s108.1), .val (D.int size_106), .val (D.int a119), .no, .val (D.int a128), .no, .no, .val (D.int z), .val (D.int (s136.2.2.1 / (2 : Int))), .val (D.int whole_139), .val (D.int (s136.2.2.2 * (2 : Int)))]) hone_140 ?_
              show Run _ _ [.mu .bor (eS z104.2), .val ((eL D.int) takes_11), .val (D.int count_13), f52, .mu .own ((eL eD) s108.2), .mu .own ((eL D.int) s127), .mu .own ((eL (e2 D.int D.int)) z71), .val (eD z77), .val (D.int a109), .val ((eT D.int) z14), .mu .own ((eL D.int) o28), f51, .val (D.int z58.1), .val (D.int z59.1), .mu .own ((eL D.int) s108.1), .val (D.int size_106), .val (D.int a119), .no, .val (D.int a128), .no, .no, .val (D.int one_140), .val (D.int (s136.2.2.1 / (2 : Int))), .val (D.int whole_139), .val (D.int (s136.2.2.2 * (2 : Int)))] _
              refine run_let (fun z : Int => [.mu .bor (eS z104.2), .val ((eL D.int) takes_11), .val (D.int count_13), f52, .mu .own ((eL eD) s108.2), .mu .own ((eL D.int) s127), .mu .own ((eL (e2 D.int D.int)) z71), .val (eD z77), .val (D.int a109), .val ((eT D.int) z14), .mu .own ((eL D.int) o28), f51, .val (D.int z58.1), .val (D.int z59.1), .mu .own ((eL D.int) s108.1), .val (D.int size_106), .val (D.int a119), .no, .val (D.int a128), .no, .no, .val (D.int one_140), .val (D.int z), .val (D.int whole_139), .val (D.int (s136.2.2.2 * (2 : Int)))]) hother_141 ?_
              show Run _ _ [.mu .bor (eS z104.2), .val ((eL D.int) takes_11), .val (D.int count_13), f52, .mu .own ((eL eD) s108.2), .mu .own ((eL D.int) s127), .mu .own ((eL (e2 D.int D.int)) z71), .val (eD z77), .val (D.int a109), .val ((eT D.int) z14), .mu .own ((eL D.int) o28), f51, .val (D.int z58.1), .val (D.int z59.1), .mu .own ((eL D.int) s108.1), .val (D.int size_106), .val (D.int a119), .no, .val (D.int a128), .no, .no, .val (D.int one_140), .val (D.int other_141), .val (D.int whole_139), .val (D.int (s136.2.2.2 * (2 : Int)))] _
              refine run_let (fun z : Int => [.mu .bor (eS z104.2), .val ((eL D.int) takes_11), .val (D.int count_13), f52, .mu .own ((eL eD) s108.2), .mu .own ((eL D.int) s127), .mu .own ((eL (e2 D.int D.int)) z71), .val (eD z77), .val (D.int a109), .val ((eT D.int) z14), .mu .own ((eL D.int) o28), f51, .val (D.int z58.1), .val (D.int z59.1), .mu .own ((eL D.int) s108.1), .val (D.int size_106), .val (D.int a119), .no, .val (D.int a128), .no, .no, .val (D.int one_140), .val (D.int other_141), .val (D.int whole_139), .val (D.int z)]) hscale_142 ?_
              show Run _ _ [.mu .bor (eS z104.2), .val ((eL D.int) takes_11), .val (D.int count_13), f52, .mu .own ((eL eD) s108.2), .mu .own ((eL D.int) s127), .mu .own ((eL (e2 D.int D.int)) z71), .val (eD z77), .val (D.int a109), .val ((eT D.int) z14), .mu .own ((eL D.int) o28), f51, .val (D.int z58.1), .val (D.int z59.1), .mu .own ((eL D.int) s108.1), .val (D.int size_106), .val (D.int a119), .no, .val (D.int a128), .no, .no, .val (D.int one_140), .val (D.int other_141), .val (D.int whole_139), .val (D.int scale_142)] _
              obtain rfl := sinj h
              refine run_nil ?_
              exact run_end (on_nx rfl)
            · rintro _ rfl
              show Run _ _ [.mu .bor (eS z104.2), .val ((eL D.int) takes_11), .val (D.int count_13), f52, .mu .own ((eL eD) s108.2), .mu .own ((eL D.int) s127), .mu .own ((eL (e2 D.int D.int)) z71), .val (eD z77), .val (D.int a109), .val ((eT D.int) z14), .mu .own ((eL D.int) o28), f51, .val (D.int z58.1), .val (D.int z59.1), .mu .own ((eL D.int) s108.1), .val (D.int size_106), .val (D.int a119), .no, .val (D.int a128), .no, .no, .val (D.int o143.2.1), .val (D.int o143.2.2.1), .val (D.int o143.1), .val (D.int o143.2.2.2)] _
              obtain ⟨z144, hz144, h⟩ := bs h
              refine run_s (s_app (f := D.int) (l := s127) (x := o143.1) hz144 ⟨_, rfl⟩ (x_nm rfl) rfl rfl) ?_
              show Run _ _ [.mu .bor (eS z104.2), .val ((eL D.int) takes_11), .val (D.int count_13), f52, .mu .own ((eL eD) s108.2), .mu .own ((eL D.int) z144), .mu .own ((eL (e2 D.int D.int)) z71), .val (eD z77), .val (D.int a109), .val ((eT D.int) z14), .mu .own ((eL D.int) o28), f51, .val (D.int z58.1), .val (D.int z59.1), .mu .own ((eL D.int) s108.1), .val (D.int size_106), .val (D.int a119), .no, .val (D.int a128), .no, .no, .val (D.int o143.2.1), .val (D.int o143.2.2.1), .val (D.int o143.1), .val (D.int o143.2.2.2)] _
              obtain rfl := sinj h
              refine run_nil ?_
              exact run_end (on_nx ⟨_, fr_val, _, fr_val, _, fr_val, _, fr_val, _, fr_val, rfl⟩)
          · rintro _ ⟨f147, hf147, f148, hf148, f149, hf149, f150, hf150, f151, hf151, rfl⟩
            show Run _ _ [.mu .bor (eS z104.2), .val ((eL D.int) takes_11), .val (D.int count_13), f52, .mu .own ((eL eD) s108.2), .mu .own ((eL D.int) o146), .mu .own ((eL (e2 D.int D.int)) z71), .val (eD z77), .val (D.int a109), .val ((eT D.int) z14), .mu .own ((eL D.int) o28), f51, .val (D.int z58.1), .val (D.int z59.1), .mu .own ((eL D.int) s108.1), .val (D.int size_106), .val (D.int a119), .no, f151, .no, .no, f147, f148, f149, f150] _
            obtain rfl := sinj h
            refine run_nil ?_
            exact run_end (on_nx ⟨_, hf151, _, hf147, _, hf148, _, hf149, _, hf150, _, fr_val, rfl⟩)
        · rintro _ ⟨f153, hf153, f154, hf154, f155, hf155, f156, hf156, f157, hf157, f158, hf158, rfl⟩
          show Run _ _ [.mu .bor (eS z104.2), .val ((eL D.int) takes_11), .val (D.int count_13), f52, .mu .own ((eL eD) s108.2), .mu .own ((eL D.int) o152), .mu .own ((eL (e2 D.int D.int)) z71), .val (eD z77), .val (D.int a109), .val ((eT D.int) z14), .mu .own ((eL D.int) o28), f51, .val (D.int z58.1), .val (D.int z59.1), .mu .own ((eL D.int) s108.1), .val (D.int size_106), f158, .no, f153, .no, .no, f154, f155, f156, f157] _
          obtain ⟨z159, hz159, h⟩ := bs h
          obtain ⟨z160, hz160, h⟩ := bs h
          refine run_s (s_app (f := D.int) (l := s108.1) (x := z159) hz160 ⟨_, rfl⟩ (x_call b_8 (xs_cons (x_nmM rfl) xs_nil) (escs_own rfl (show _ = [.mu .bor (eS z104.2), .val ((eL D.int) takes_11), .val (D.int count_13), f52, .mu .own ((eL eD) s108.2), .val ((eL D.int) o152), .mu .own ((eL (e2 D.int D.int)) z71), .val (eD z77), .val (D.int a109), .val ((eT D.int) z14), .mu .own ((eL D.int) o28), f51, .val (D.int z58.1), .val (D.int z59.1), .mu .own ((eL D.int) s108.1), .val (D.int size_106), f158, .no, f153, .no, .no, f154, f155, f156, f157] from rfl) escs_nil) (gcall (k_law_least (n := n + 13) (numbers := o152) hz159))) rfl rfl) ?_
          show Run _ _ [.mu .bor (eS z104.2), .val ((eL D.int) takes_11), .val (D.int count_13), f52, .mu .own ((eL eD) s108.2), .val ((eL D.int) o152), .mu .own ((eL (e2 D.int D.int)) z71), .val (eD z77), .val (D.int a109), .val ((eT D.int) z14), .mu .own ((eL D.int) o28), f51, .val (D.int z58.1), .val (D.int z59.1), .mu .own ((eL D.int) z160), .val (D.int size_106), f158, .no, f153, .no, .no, f154, f155, f156, f157] _
          obtain ⟨z161, hz161, h⟩ := bs h
          obtain ⟨z162, hz162, h⟩ := bs h
          obtain ⟨z163, hz163, h⟩ := bs h
          refine run_s (s_asg (x_bin (x_nmM rfl) (x_lst (xs_cons (x_tup (xs_cons (x_call b_13 (xs_cons (x_nm rfl) xs_nil) (escs_sh escs_nil) (gcall (k_least_left_out (n := n + 13) (numbers := o152) hz161))) (xs_cons (x_ix (x_nmM rfl) (x_nm rfl) rfl rfl (o_ixL (f := D.int) hz162)) xs_nil)) (escs_sh (escs_sh escs_nil)) rfl) xs_nil) (escs_sh escs_nil) rfl) rfl rfl (o_catL (f := eD) (a := s108.2) (b := [((e2 D.int D.int) (z161, z162))]) hz163)) (store_nw rfl fr_own)) ?_
          show Run _ _ [.mu .bor (eS z104.2), .val ((eL D.int) takes_11), .val (D.int count_13), f52, .mu .own ((eL eD) z163), .val ((eL D.int) o152), .mu .own ((eL (e2 D.int D.int)) z71), .val (eD z77), .val (D.int a109), .val ((eT D.int) z14), .mu .own ((eL D.int) o28), f51, .val (D.int z58.1), .val (D.int z59.1), .mu .own ((eL D.int) z160), .val (D.int size_106), f158, .no, f153, .no, .no, f154, f155, f156, f157] _
          obtain rfl := sinj h
          refine run_nil ?_
          exact run_end (on_nx ⟨_, fr_val, _, hf158, _, hf153, _, hf154, _, hf155, _, hf156, _, hf157, _, fr_val, rfl⟩)
      · rintro _ ⟨f165, hf165, f166, hf166, f167, hf167, f168, hf168, f169, hf169, f170, hf170, f171, hf171, f172, hf172, rfl⟩
        show Run _ _ [.mu .bor (eS z104.2), .val ((eL D.int) takes_11), .val (D.int count_13), f52, .mu .own ((eL eD) o164.2), f165, .mu .own ((eL (e2 D.int D.int)) z71), .val (eD z77), f172, .val ((eT D.int) z14), .mu .own ((eL D.int) o28), f51, .val (D.int z58.1), .val (D.int z59.1), .mu .own ((eL D.int) o164.1), .val (D.int size_106), f166, .no, f167, .no, .no, f168, f169, f170, f171] _
        obtain ⟨z173, hz173, h⟩ := bs h
        obtain ⟨z174, hz174, h⟩ := bs h
        obtain ⟨z175, hz175, h⟩ := bs h
        obtain rfl := sinj h
        exact run_rt (x_call b_14 (xs_cons (x_bin (x_nmM rfl) (x_lst (xs_cons (x_tup (xs_cons (x_call b_15 (xs_cons (x_nm rfl) xs_nil) (escs_sh escs_nil) (gcall (k_values_of_splits (n := n + 10) (count := size_106) hz173))) (xs_cons (x_bi (xs_cons (x_nmM rfl) xs_nil) rfl rfl) xs_nil)) (escs_sh (escs_sh escs_nil)) rfl) xs_nil) (escs_sh escs_nil) rfl) rfl rfl (o_catL (f := eD) (a := o164.2) (b := [((e2 (eT D.int) (eT D.int)) (z173, o164.1))]) hz174)) xs_nil) (escs_nw escs_nil) (gcall (rows_ok (n := n) (hk := rfl) (hS := f19) (rows := z174) hz175))) (fin_ret rfl rfl)
    · rintro r v env2 rfl ⟨rfl, he⟩
      obtain rfl := sinj h
      exact fin_ret rfl (endB_bor rfl (unlock_0 he))
/-- _law_right -/
noncomputable def m_law_right (source : S2) : Option (Bool × S2) :=
  (m_law_rows_right source).bind fun z1 =>
  if z1.1 = true then ((m_law_games_right z1.2).bind fun z3 =>
  some (z3.1, z3.2)) else
  (some (false, z1.2))
theorem k_law_right {n : Nat} {source : S2} {r : (Bool × S2)} (h : m_law_right source = some r) : callN P.tab (n + 16) 1 [(eS source)] = some (.sh (D.bl r.1), some (eS r.2)) := by
  unfold m_law_right at h
  refine call_run (n := n + 15) (fn := d1.fn) rfl rfl ?_
  show Run _ [b1] [.mu .bor (eS source)] _
  obtain ⟨z1, hz1, h⟩ := bs h
  refine run_and (x_callB b_5 (xs_cons (x_nmM rfl) xs_nil) escs_nil rfl (gcall (k_law_rows_right (n := n) (source := source) hz1))) (fun c2 => ?_) (fun c2 => ?_)
  · have h := ite_t c2 h
    show Run _ _ [.mu .bor (eS z1.2)] _
    obtain ⟨z3, hz3, h⟩ := bs h
    obtain rfl := sinj h
    exact run_and1 (x_callB b_4 (xs_cons (x_nmM rfl) xs_nil) escs_nil rfl (gcall (k_law_games_right (n := n) (source := z1.2) hz3))) (fin_ret rfl rfl)
  · have h := ite_f c2 h
    obtain rfl := sinj h
    exact fin_ret rfl rfl
end K56
set_option Elab.async false
set_option linter.all false
set_option maxRecDepth 100000
set_option maxHeartbeats 1000000
namespace K56
open PySem RE
theorem rngI_cons {lo hi : Int} (h : lo < hi) : rngI lo hi = lo :: rngI (lo + 1) hi := by
  unfold rngI
  obtain ⟨k, hk⟩ : ∃ k, (hi - lo).toNat = k + 1 := ⟨(hi - lo).toNat - 1, by omega⟩
  rw [hk, show (hi - (lo + 1)).toNat = k by omega, List.range_succ_eq_map, List.map_cons, List.map_map]
  congr 1
  · omega
  · apply List.map_congr_left
    intro x _
    show lo + ((x + 1 : Nat) : Int) = _
    omega
theorem rngI_nil {lo hi : Int} (h : hi ≤ lo) : rngI lo hi = [] := by
  unfold rngI
  rw [show (hi - lo).toNat = 0 by omega]
  rfl
theorem rngI_split {lo mid hi : Int} (h1 : lo ≤ mid) (h2 : mid ≤ hi) : rngI lo hi = rngI lo mid ++ rngI mid hi := by
  obtain ⟨k, hk⟩ : ∃ k : Nat, mid = lo + k := ⟨(mid - lo).toNat, by omega⟩
  subst hk
  induction k generalizing lo with
  | zero => rw [rngI_nil (show lo + ((0 : Nat) : Int) ≤ lo by omega)]; simp
  | succ k ih =>
    rw [rngI_cons (show lo < hi by omega), rngI_cons (show lo < lo + ((k + 1 : Nat) : Int) by omega)]
    have := ih (lo := lo + 1) (by omega) (by omega)
    rw [show lo + 1 + (k : Int) = lo + ((k + 1 : Nat) : Int) by omega] at this
    rw [this, List.cons_append]
theorem find_first {ρ : Type} {p : Int → Option ρ} {lo hi a : Int} {r : ρ} (h0 : lo ≤ a) (h1 : a < hi) (ha : p a = some r) (hb : ∀ b, lo ≤ b → b < a → p b = none) : (rngI lo hi).findSome? p = some r := by
  rw [rngI_split h0 (by omega), rngI_cons h1, List.findSome?_append, List.findSome?_eq_none_iff.mpr fun b h => hb b (rngI_mem.mp h).1 (rngI_mem.mp h).2, List.findSome?_cons, ha]
  rfl
/-! ### the least front -/
def frontR (l : List Int) (L : Nat) : Nat → Nat
  | 0 => 0
  | m + 1 => if l[m]? = l[m + L]? then frontR l L m else m + 1
theorem front_le (l : List Int) (L : Nat) : ∀ m, frontR l L m ≤ m
  | 0 => Nat.le_refl _
  | m + 1 => by
    rw [frontR]
    split
    · have := front_le l L m; omega
    · exact Nat.le_refl _
theorem front_eq (l : List Int) (L : Nat) : ∀ m k, frontR l L m ≤ k → k < m → l[k]? = l[k + L]?
  | 0, k, _, h => by omega
  | m + 1, k, h, hk => by
    rw [frontR] at h
    split at h
    · by_cases e : k = m
      · subst e; assumption
      · exact front_eq l L m k h (by omega)
    · omega
theorem front_ne (l : List Int) (L : Nat) : ∀ m, 0 < frontR l L m → l[frontR l L m - 1]? ≠ l[frontR l L m - 1 + L]?
  | 0, h => by simp [frontR] at h
  | m + 1, h => by
    rw [frontR] at h ⊢
    split
    · rw [if_pos ‹_›] at h
      exact front_ne l L m h
    · assumption
theorem front_whl (l : List Int) (L : Nat) {c : Int → Option Bool} {b : Int → Option Int} (hc0 : c 0 = some false) (hc : ∀ m : Nat, m + L < l.length → c ((m : Int) + 1) = some (decide (l[m]? = l[m + L]?))) (hb : ∀ s, b s = some (s - 1)) :
    ∀ (m fuel : Nat), m + L ≤ l.length → m < fuel → whl c b fuel (m : Int) = some ((frontR l L m : Nat) : Int)
  | _, 0, _, h => absurd h (Nat.not_lt_zero _)
  | 0, fuel + 1, _, _ => by
    unfold whl
    show (c 0).bind _ = _
    rw [hc0]
    rfl
  | m + 1, fuel + 1, h1, h2 => by
    unfold whl
    rw [show ((m + 1 : Nat) : Int) = (m : Int) + 1 by omega, hc m (by omega), Option.bind_some, frontR]
    by_cases e : l[m]? = l[m + L]?
    · rw [if_pos (by simpa using e), if_pos e, hb, Option.bind_some, show (m : Int) + 1 - 1 = (m : Int) by omega]
      exact front_whl l L hc0 hc hb m fuel (by omega) (by omega)
    · rw [if_neg (by simpa using e), if_neg e]
      rfl
def pA (l : List Int) (a : Int) : Option (Option (Int × Int)) := if ((frontR l a.toNat (l.length - a.toNat) : Nat) : Int) + 2 * a ≤ (l.length : Int) then some (some (((frontR l a.toNat (l.length - a.toNat) : Nat) : Int), a)) else none
theorem get_of {l : List Int} {k : Nat} (h : k < l.length) : ∃ x, l[k]? = some x := ⟨l[k], List.getElem?_eq_getElem h⟩
theorem round0 (l : List Int) (hl : l.length ≤ 100000) : m_round_of_0 l = some (((rngI 1 ((l.length : Int) / 2 + 1)).findSome? (pA l)).join) := by
  unfold m_round_of_0
  refine bok (crng2_ok (by decide) (by omega)) ?_
  refine bok (fldC_find (pA l) fun a ha => ?_) ?_
  · rw [rngI_mem] at ha
    have ha2 : a.toNat ≤ l.length := by omega
    have hf : ((l.length : Int) - a) = ((l.length - a.toNat : Nat) : Int) := by omega
    refine bok rfl ?_
    rw [hf]
    refine bok (front_whl l a.toNat ?_ ?_ ?_ (l.length - a.toNat) _ (by omega) (by omega)) ?_
    · rfl
    · intro m hm
      obtain ⟨x, hx⟩ := get_of (l := l) (k := m) (by omega)
      obtain ⟨y, hy⟩ := get_of (l := l) (k := m + a.toNat) hm
      have g1 : getI l ((m : Int) + 1 - 1) = some x := by rw [show (m : Int) + 1 - 1 = (m : Int) by omega, getI_nat]; exact hx
      have g2 : getI l ((m : Int) + 1 - 1 + a) = some y := by rw [show (m : Int) + 1 - 1 + a = ((m + a.toNat : Nat) : Int) by omega, getI_nat]; exact hy
      simp only [g1, g2, Option.bind_some]
      have : decide ((0 : Int) < (m : Int) + 1) = true := by rw [decide_eq_true_eq]; omega
      rw [this, hx, hy]
      show some (decide (x = y)) = _
      simp
    · intro s; rfl
    · unfold pA
      split <;> rename_i hz
      · rw [decide_eq_true_eq] at hz
        rw [if_pos hz]; rfl
      · rw [decide_eq_true_eq] at hz
        rw [if_neg hz]; rfl
  · cases (rngI 1 ((l.length : Int) / 2 + 1)).findSome? (pA l) with
    | none => rfl
    | some r => rfl
theorem round1 : m_round_of_1 = m_round_of_0 := rfl
def again (l : List Int) (a f : Int) : List Int := (rngI f ((l.length : Int) - a)).filter fun k => !decide (l[k.toNat]? = l[(k + a).toNat]?)
def pB (l : List Int) (a f : Int) : Option (Option (Int × Int)) := if again l a f = [] ∧ f + 2 * a ≤ (l.length : Int) then some (some (f, a)) else none
theorem roundL (l : List Int) (hl : l.length ≤ 100000) : m_law_round l = some (((rngI 1 ((l.length : Int) + 1)).findSome? fun a => (rngI 0 ((l.length : Int) + 1)).findSome? (pB l a)).join) := by
  unfold m_law_round
  refine bok (crng2_ok (by decide) (by omega)) ?_
  refine bok (fldC_find (fun a => (rngI 0 ((l.length : Int) + 1)).findSome? (pB l a)) fun a ha => ?_) ?_
  · rw [rngI_mem] at ha
    refine bok (crng1_ok (by omega)) ?_
    refine bok (fldC_find (pB l a) fun f hf => ?_) ?_
    · rw [rngI_mem] at hf
      refine bok (crng2_ok (by omega) (by omega)) ?_
      refine bok (lcM_eq (c' := fun k => !decide (l[k.toNat]? = l[(k + a).toNat]?)) (f' := fun k => k) (fun k hk => ?_) fun k _ _ => rfl) ?_
      · rw [rngI_mem] at hk
        obtain ⟨x, hx⟩ := get_of (l := l) (k := k.toNat) (by omega)
        obtain ⟨y, hy⟩ := get_of (l := l) (k := (k + a).toNat) (by omega)
        have g1 : getI l k = some x := by rw [show getI l k = getI l ((k.toNat : Nat) : Int) by rw [show ((k.toNat : Nat) : Int) = k by omega], getI_nat]; exact hx
        have g2 : getI l (k + a) = some y := by rw [show k + a = (((k + a).toNat : Nat) : Int) by omega, getI_nat]; exact hy
        rw [g1, g2, hx, hy]
        simp
      refine bok (chk_ok ?_) ?_
      · rw [List.length_map]
        refine Nat.le_trans (List.length_filter_le _ _) ?_
        rw [rngI_len]
        omega
      rw [List.map_id']
      show (if (decide (again l a f = []) && decide (f + 2 * a ≤ (l.length : Int))) = true then _ else _) = _
      unfold pB
      by_cases hp : again l a f = [] ∧ f + 2 * a ≤ (l.length : Int)
      · rw [if_pos hp, if_pos (by simpa using hp)]; rfl
      · rw [if_neg hp, if_neg (by simpa using hp)]; rfl
    · cases (rngI 0 ((l.length : Int) + 1)).findSome? (pB l a) with
      | none => rfl
      | some r => rfl
  · cases (rngI 1 ((l.length : Int) + 1)).findSome? fun a => (rngI 0 ((l.length : Int) + 1)).findSome? (pB l a) with
    | none => rfl
    | some r => rfl
theorem again_nil {l : List Int} {a f : Int} (h1 : 1 ≤ a) (h2 : a ≤ (l.length : Int)) (hf : 0 ≤ f) : again l a f = [] ↔ ((frontR l a.toNat (l.length - a.toNat) : Nat) : Int) ≤ f := by
  unfold again
  rw [List.filter_eq_nil_iff]
  constructor
  · intro h
    by_cases z : ((frontR l a.toNat (l.length - a.toNat) : Nat) : Int) ≤ f
    · exact z
    · exfalso
      have hle := front_le l a.toNat (l.length - a.toNat)
      have hne := front_ne l a.toNat (l.length - a.toNat) (by omega)
      have := h (((frontR l a.toNat (l.length - a.toNat) : Nat) : Int) - 1) (rngI_mem.mpr (by omega))
      simp only [Bool.not_eq_true', decide_eq_false_iff_not, Decidable.not_not] at this
      rw [show (((frontR l a.toNat (l.length - a.toNat) : Nat) : Int) - 1).toNat = frontR l a.toNat (l.length - a.toNat) - 1 by omega, show (((frontR l a.toNat (l.length - a.toNat) : Nat) : Int) - 1 + a).toNat = frontR l a.toNat (l.length - a.toNat) - 1 + a.toNat by omega] at this
      exact hne this
  · intro h k hk
    rw [rngI_mem] at hk
    have := front_eq l a.toNat (l.length - a.toNat) k.toNat (by omega) (by omega)
    rw [show k.toNat + a.toNat = (k + a).toNat by omega] at this
    simp [this]
theorem find_AB {l : List Int} {a : Int} (h1 : 1 ≤ a) (h2 : a ≤ (l.length : Int)) : (rngI 0 ((l.length : Int) + 1)).findSome? (pB l a) = pA l a := by
  unfold pA
  split
  · rename_i hle
    refine find_first (a := ((frontR l a.toNat (l.length - a.toNat) : Nat) : Int)) (by omega) (by omega) ?_ fun b hb hb2 => ?_
    · unfold pB
      rw [if_pos ⟨(again_nil h1 h2 (by omega)).mpr (Int.le_refl _), hle⟩]
    · unfold pB
      rw [if_neg]
      intro z
      have := (again_nil h1 h2 hb).mp z.1
      omega
  · rename_i hle
    rw [List.findSome?_eq_none_iff]
    intro f hf
    rw [rngI_mem] at hf
    unfold pB
    rw [if_neg]
    intro z
    have := (again_nil h1 h2 hf.1).mp z.1
    omega
theorem rounds (l : List Int) (hl : l.length ≤ 100000) : m_law_round l = m_round_of_0 l := by
  rw [round0 l hl, roundL l hl]
  congr 2
  rw [rngI_split (lo := 1) (mid := (l.length : Int) / 2 + 1) (hi := (l.length : Int) + 1) (by omega) (by omega), List.findSome?_append]
  have e2 : (rngI ((l.length : Int) / 2 + 1) ((l.length : Int) + 1)).findSome? (fun a => (rngI 0 ((l.length : Int) + 1)).findSome? (pB l a)) = none := by
    rw [List.findSome?_eq_none_iff]
    intro a ha
    rw [rngI_mem] at ha
    rw [find_AB (by omega) (by omega)]
    unfold pA
    rw [if_neg (by omega)]
  rw [e2, Option.or_none]
  have key : ∀ m : List Int, (∀ a ∈ m, 1 ≤ a ∧ a ≤ (l.length : Int)) → m.findSome? (fun a => (rngI 0 ((l.length : Int) + 1)).findSome? (pB l a)) = m.findSome? (pA l) := by
    intro m
    induction m with
    | nil => intro _; rfl
    | cons a m ih =>
      intro h
      have := h a (List.mem_cons_self ..)
      rw [List.findSome?_cons, List.findSome?_cons, find_AB this.1 this.2, ih fun b hb => h b (List.mem_cons_of_mem _ hb)]
  exact key _ fun a ha => by rw [rngI_mem] at ha; omega
theorem round_has (l : List Int) (hl : l.length ≤ 100000) : ∃ v, m_round_of_0 l = some v ∧ m_round_of_1 l = some v ∧ m_law_round l = some v :=
  ⟨_, round0 l hl, by rw [round1]; exact round0 l hl, by rw [rounds l hl]; exact round0 l hl⟩
end K56
set_option Elab.async false
set_option linter.all false
set_option maxRecDepth 100000
set_option maxHeartbeats 1000000
namespace K56
open PySem RE
theorem rowO (v : Option (Int × Int)) : RowOk 12 (e2 (eO (e2 D.int D.int)) (eO (e2 D.int D.int)) (v, v)) := by
  refine row_eq rfl ?_
  cases v with
  | none => exact pl_non
  | some p => exact pl_e2 pl_int pl_int
theorem rows_right (s : S2) : Ex (m_law_rows_right s) fun r => r.1 = true := by
  unfold m_law_rows_right
  refine ex_some (ex_eq (crng1_ok (by decide)) ?_)
  refine ex_bind (ex_fld (P := fun st => Rws 60 st.2) (fun i st => i ≤ 6 ∧ Rws (10 * i) st.2) ⟨by decide, Rws.nil⟩ (fun i st a ha hi => ?_) fun st h => h.2.mono (by rw [rngI_len]; decide)) fun o ho => ?_
  · have hi6 := (rngI_at ha).2
    refine ex_pickb (by decide) (by decide) fun few s1 w0 w1 => ?_
    refine ex_some (ex_pickb (by decide) (by decide) fun n1 s2 n10 n11 => ?_)
    refine ex_eq (crng1_ok (by omega)) ?_
    refine ex_lcSb (fun _ => True) (fun s a _ => ex_pickb (by omega) (by omega) fun r s' _ _ => ex_ret trivial) fun front s3 lf _ => ?_
    rw [rngI_len] at lf
    refine ex_eq (chk_ok (by simp only; omega)) ?_
    refine ex_pickb (by decide) (by decide) fun n2 s4 n20 n21 => ?_
    refine ex_eq (crng1_ok (by omega)) ?_
    refine ex_lcSb (fun _ => True) (fun s a _ => ex_pickb (by omega) (by omega) fun r s' _ _ => ex_ret trivial) fun agn s5 la _ => ?_
    rw [rngI_len] at la
    refine ex_eq (chk_ok (by simp only; omega)) ?_
    refine ex_pickb (by decide) (by decide) fun n3 s6 n30 n31 => ?_
    have hr : agn.length * (1 + n3).toNat ≤ 18 := Nat.mul_le_mul (n₁ := agn.length) (m₁ := (1 + n3).toNat) (show agn.length ≤ 6 by omega) (show (1 + n3).toNat ≤ 3 by omega)
    refine ex_eq (crep_ok (by simp only; omega) (by simp only; omega)) ?_
    have hr2 := rep_len agn (1 + n3).toNat
    rw [Nat.mul_comm] at hr2
    refine ex_eq (cat_ok (by simp only; omega)) ?_
    refine ex_pickb (by simp only; omega) (by simp only; omega) fun n4 s7 n40 n41 => ?_
    have hcut := cutL_len agn none (some n4)
    refine ex_eq (cat_ok (by simp only [List.length_append]; omega)) ?_
    have hw : (front ++ (List.replicate (1 + n3).toNat agn).flatten ++ cutL agn none (some n4)).length ≤ 1000 := by
      simp only [List.length_append]; omega
    simp only
    generalize front ++ (List.replicate (1 + n3).toNat agn).flatten ++ cutL agn none (some n4) = wide at hw ⊢
    refine ex_pickb (by decide) (by decide) fun n5 s8 n50 n51 => ?_
    refine ex_eq (crng1_ok (by omega)) ?_
    refine ex_lcSb (fun _ => True) (fun s a _ => ex_pickb (by omega) (by omega) fun r s' _ _ => ex_ret trivial) fun dr s9 ld _ => ?_
    rw [rngI_len] at ld
    refine ex_eq (chk_ok (by simp only; omega)) ?_
    refine ex_eq (cat_ok (by simp only [List.length_singleton]; omega)) ?_
    refine ex_eq (cat_ok (by simp only [List.length_singleton]; omega)) ?_
    simp only
    have hall : ∀ l ∈ [wide, dr, wide ++ [9], [7] ++ wide, wide.reverse], l.length ≤ 100000 := by
      intro l hl
      simp only [List.mem_cons, List.not_mem_nil, or_false] at hl
      rcases hl with rfl | rfl | rfl | rfl | rfl
      · omega
      · omega
      · rw [List.length_append, List.length_singleton]; omega
      · rw [List.length_append, List.length_singleton]; omega
      · rw [List.length_reverse]; omega
    refine ex_bind (ex_fld (P := fun rs => Rws (10 * i + 10) rs) (fun j rs => Rws (10 * i + 2 * j) rs) hi.2 (fun j rs l hl hj => ?_) fun rs h => h) fun rs hrs => ?_
    · have hj5 : j < 5 := by
        by_cases z : j < 5
        · exact z
        · rw [List.getElem?_eq_none (by simpa using z)] at hl; cases hl
      obtain ⟨v, e1, e2, e3⟩ := round_has l (hall l (List.mem_of_getElem? hl))
      refine ex_eq e1 (ex_eq e3 (ex_eq e2 (ex_eq e3 ?_)))
      obtain ⟨ec, R1⟩ := Rws.cat hj (Rws.cons (rowO v) (Rws.cons (rowO v) Rws.nil)) (m := 10 * i + 2 * (j + 1)) (by omega) (by omega)
      exact ex_eq ec (ex_ret R1)
    · exact ex_ret ⟨by omega, by rw [show 10 * (i + 1) = 10 * i + 10 by omega]; exact hrs⟩
  · refine ex_eq (ho.all (by decide)) ?_
    exact ex_ret rfl
end K56
set_option Elab.async false
set_option linter.all false
set_option maxRecDepth 100000
set_option maxHeartbeats 1000000
namespace K56
open PySem RE
open Classical in
noncomputable def mexI (l : List Int) : Int := if h : ∃ r, IsMex l r then h.choose else 0
theorem mexI_is {l : List Int} (hl : l.length < 1000000000) : IsMex l (mexI l) := by
  have h := mex_ex l hl
  unfold mexI
  rw [dif_pos h]
  exact h.choose_spec
theorem law_least {l : List Int} (hl : l.length < 1000000000) : m_law_least l = some (mexI l) := by
  unfold m_law_least
  obtain ⟨r, e, h⟩ := mex_whl hl (c := fun s1 : Int => (some ((decide ((s1 : Int) ∈ (l : (List Int)))) : Bool))) (b := fun s1 : Int => (some ((s1 + (1 : Int)) : Int)).bind fun found_3 => some (found_3 : Int)) (fun _ => rfl) (fun _ => rfl)
  refine bok e ?_
  rw [h.one (mexI_is hl)]
theorem left_out {l : List Int} (hl : l.length < 4000) : m_least_left_out l = some (mexI l) := by
  unfold m_least_left_out
  refine bok (a := l) (by unfold cset; rw [if_pos (by omega)]) ?_
  obtain ⟨r, e, h⟩ := mex_whl (l := l) (by omega) (c := fun s2 : Int => (some ((decide (s2 ∈ l)) : Bool))) (b := fun s2 : Int => (some ((s2 + (1 : Int)) : Int)).bind fun found_4 => some (found_4 : Int)) (fun _ => rfl) (fun _ => rfl)
  refine bok e ?_
  rw [h.one (mexI_is (by omega))]
/-! ### values of games -/
def opts (tk V : List Int) (h : Int) : List Int := (tk.filter fun y => decide (y ≤ h)).map fun y => (V[(h - y).toNat]?).getD 0
noncomputable def gameV (tk : List Int) : Nat → List Int
  | 0 => []
  | h + 1 => gameV tk h ++ [mexI (opts tk (gameV tk h) (h : Int))]
noncomputable def val (tk : List Int) (h : Nat) : Int := mexI (opts tk (gameV tk h) (h : Int))
theorem game_len (tk : List Int) : ∀ n, (gameV tk n).length = n
  | 0 => rfl
  | n + 1 => by rw [gameV, List.length_append, game_len tk n]; rfl
theorem game_get (tk : List Int) : ∀ n i, i < n → (gameV tk n)[i]? = some (val tk i)
  | 0, i, h => by omega
  | n + 1, i, h => by
    rw [gameV]
    by_cases e : i < n
    · rw [List.getElem?_append_left (by rw [game_len]; exact e)]
      exact game_get tk n i e
    · have : i = n := by omega
      subst this
      rw [List.getElem?_append_right (by rw [game_len]; exact Nat.le_refl _), game_len]
      simp [val]
theorem opts_len (tk V : List Int) (h : Int) : (opts tk V h).length ≤ tk.length := by
  unfold opts
  rw [List.length_map]
  exact List.length_filter_le _ _
section
variable {tk : List Int} (h1 : ∀ t ∈ tk, 1 ≤ t) (hl : tk.length ≤ 1000)
include h1
theorem opts_mem {h : Nat} {x : Int} : x ∈ opts tk (gameV tk h) (h : Int) ↔ ∃ t ∈ tk, t ≤ (h : Int) ∧ x = val tk ((h : Int) - t).toNat := by
  unfold opts
  rw [List.mem_map]
  constructor
  · rintro ⟨t, ht, rfl⟩
    rw [List.mem_filter, decide_eq_true_eq] at ht
    have := h1 t ht.1
    refine ⟨t, ht.1, ht.2, ?_⟩
    rw [game_get tk h _ (by omega)]
    rfl
  · rintro ⟨t, ht, hle, rfl⟩
    have := h1 t ht
    refine ⟨t, by rw [List.mem_filter, decide_eq_true_eq]; exact ⟨ht, hle⟩, ?_⟩
    rw [game_get tk h _ (by omega)]
    rfl
include hl
theorem val_is (h : Nat) : IsMex (opts tk (gameV tk h) (h : Int)) (val tk h) := mexI_is (by have := opts_len tk (gameV tk h) h; omega)
theorem val_ne {h : Nat} {t : Int} (ht : t ∈ tk) (hle : t ≤ (h : Int)) : val tk ((h : Int) - t).toNat ≠ val tk h := by
  intro e
  exact (val_is h1 hl h).out ((opts_mem h1).mpr ⟨t, ht, hle, e.symm⟩)
theorem val_low {h : Nat} {j : Int} (h0 : 0 ≤ j) (hj : j < val tk h) : ∃ t ∈ tk, t ≤ (h : Int) ∧ val tk ((h : Int) - t).toNat = j := by
  obtain ⟨t, a, b, c⟩ := (opts_mem h1).mp ((val_is h1 hl h).low j h0 hj)
  exact ⟨t, a, b, c.symm⟩
theorem val_nn (h : Nat) : 0 ≤ val tk h := (val_is h1 hl h).nn
theorem val_le : ∀ h : Nat, val tk h ≤ (h : Int) := by
  intro h
  induction h using Nat.strongRecOn with
  | _ h ih =>
    by_cases z : val tk h ≤ (h : Int)
    · exact z
    · exfalso
      obtain ⟨t, a, b, c⟩ := val_low h1 hl (h := h) (j := (h : Int)) (by omega) (by omega)
      have := h1 t a
      have := ih ((h : Int) - t).toNat (by omega)
      omega
theorem values_game {n : Nat} (hn : n ≤ 2000) : m_values_of_game tk (n : Int) = some (gameV tk n) := by
  unfold m_values_of_game
  refine mif_f (by simp; omega) ?_
  refine bok (chk_ok (by rw [List.length_map]; omega)) ?_
  refine mif_f ?_ ?_
  · rw [Bool.eq_false_iff]
    intro z
    obtain ⟨b, hb, e⟩ := List.any_eq_true.mp z
    obtain ⟨t, ht, rfl⟩ := List.mem_map.mp hb
    have := h1 t ht
    simp at e
    omega
  refine bok rfl (bok (crng1_ok (by omega)) ?_)
  have hlen : (rngI 0 (n : Int)).length = n := by rw [rngI_len]; omega
  have := fld_eq (fun i => gameV tk i) (items := rngI 0 (n : Int)) (step := fun (s7 : (List Int)) (a8 : Int) =>
    (lcM (fun y10 : Int => (some ((decide (y10 ≤ a8)) : Bool))) (fun y10 : Int => ((getI (s7 : (List Int)) (a8 - y10)).bind fun z11 => some (z11 : Int))) (tk : (List Int))).bind fun z14 =>
    (chk z14).bind fun z15 =>
    (m_least_left_out z15).bind fun z16 =>
    (push (s7 : (List Int)) z16).bind fun z17 =>
    some (z17 : (List Int))) (fun i hi => by
      rw [rngI_get hi, Int.zero_add]
      refine bok (a := opts tk (gameV tk i) (i : Int)) (lcM_eq (c' := fun y => decide (y ≤ (i : Int))) (f' := fun y => ((gameV tk i)[((i : Int) - y).toNat]?).getD 0) (fun _ _ => rfl) fun y hy hc => ?_) ?_
      · rw [decide_eq_true_eq] at hc
        have := h1 y hy
        have g := game_get tk i ((i : Int) - y).toNat (by omega)
        rw [g, show (i : Int) - y = ((((i : Int) - y).toNat : Nat) : Int) by omega, getI_nat, g]
        rfl
      · have := opts_len tk (gameV tk i) (i : Int)
        have := game_len tk i
        rw [hlen] at hi
        exact bok (chk_ok (by omega)) (bok (left_out (by omega)) (bok (push_ok (by omega)) rfl)))
  rw [hlen] at this
  exact bok this rfl
end
theorem game_congr {a b : List Int} (ha : ∀ t ∈ a, 1 ≤ t) (hb : ∀ t ∈ b, 1 ≤ t) (hla : a.length ≤ 1000) (hlb : b.length ≤ 1000) (e : ∀ x, x ∈ a ↔ x ∈ b) : ∀ n, gameV a n = gameV b n
  | 0 => rfl
  | n + 1 => by
    have ih := game_congr ha hb hla hlb e n
    rw [gameV, gameV, ih]
    congr 2
    have h1 := opts_len a (gameV b n) n
    have h2 := opts_len b (gameV b n) n
    refine ((mexI_is (by omega)).same (m := opts b (gameV b n) n) fun x => ?_).one (mexI_is (by omega))
    unfold opts
    simp only [List.mem_map, List.mem_filter, e]
/-! ### two heaps -/
def J (a b : Int) : Bool := match m_judged [a, b] with
  | some (.tup [.str w]) => decide (w = ("lost" : Str)) && decide (a = b)
  | some (.tup [.str w, .int i, .int l]) => decide (w = ("won" : Str)) && !decide (a = b) && (match m_played [a, b] i l with
    | some [x, y] => decide (x = y)
    | _ => false)
  | _ => false
def Jall : Bool := (List.range 40).all fun a => (List.range 40).all fun b => J a b
theorem J_all : Jall = true := by decide +kernel
theorem J_of {a b : Int} (a0 : 0 ≤ a) (a1 : a < 40) (b0 : 0 ≤ b) (b1 : b < 40) : (a = b ∧ m_judged [a, b] = some (.tup [.str "lost"])) ∨ (a ≠ b ∧ ∃ i l x, m_judged [a, b] = some (.tup [.str "won", .int i, .int l]) ∧ m_played [a, b] i l = some [x, x]) := by
  have h := J_all
  unfold Jall at h
  rw [List.all_eq_true] at h
  have h := h a.toNat (List.mem_range.mpr (by omega))
  rw [List.all_eq_true] at h
  have h := h b.toNat (List.mem_range.mpr (by omega))
  rw [show ((a.toNat : Nat) : Int) = a by omega, show ((b.toNat : Nat) : Int) = b by omega] at h
  unfold J at h
  split at h
  · rename_i w e
    simp only [Bool.and_eq_true, decide_eq_true_eq] at h
    exact .inl ⟨h.2, by rw [e, h.1]⟩
  · rename_i w i l e
    simp only [Bool.and_eq_true, decide_eq_true_eq, Bool.not_eq_true', decide_eq_false_iff_not] at h
    obtain ⟨⟨h1, h2⟩, h3⟩ := h
    split at h3
    · rename_i x y e2
      rw [decide_eq_true_eq] at h3
      subst h3
      exact .inr ⟨h2, i, l, x, by rw [e, h1], e2⟩
    · cases h3
  · cases h
end K56
set_option Elab.async false
set_option linter.all false
set_option maxRecDepth 100000
set_option maxHeartbeats 1000000
namespace K56
open PySem RE
/-- what can be reached from a pin of the law -/
def lawNext (V : List Int) (a : Int) : Option (List Int) :=
  fld (σ := (List Int)) (fun (s118 : (List Int)) (a119 : Int) =>
  (crng1 ((a - a119) + (1 : Int))).bind fun r126 =>
  (fld (σ := (List Int)) (fun (s127 : (List Int)) (a128 : Int) =>
  (getI (V : (List Int)) a128).bind fun z134 =>
  (getI (V : (List Int)) ((a - a119) - a128)).bind fun z135 =>
  (whl (σ := Int × Int × Int × Int) (fun s136 : Int × Int × Int × Int => (some (((decide ((0 : Int) < s136.2.1)) || (decide ((0 : Int) < s136.2.2.1))) : Bool))) (fun s136 : Int × Int × Int × Int =>
  (cmul s136.2.2.2 ((s136.2.1 + s136.2.2.1) % (2 : Int))).bind fun z138 =>
  (some ((s136.1 + z138) : Int)).bind fun whole_139 =>
  (some ((s136.2.1 / (2 : Int)) : Int)).bind fun one_140 =>
  (some ((s136.2.2.1 / (2 : Int)) : Int)).bind fun other_141 =>
  (some ((s136.2.2.2 * (2 : Int)) : Int)).bind fun scale_142 =>
  some ((whole_139, one_140, other_141, scale_142) : Int × Int × Int × Int)) 1000000000 (((0 : Int), z134, z135, (1 : Int)) : Int × Int × Int × Int)).bind fun o143 =>
  (push (s127 : (List Int)) o143.1).bind fun z144 =>
  some (z144 : (List Int))) r126 (s118 : (List Int))).bind fun o146 =>
  some (o146 : (List Int))) ([(1 : Int), (2 : Int)] : (List Int)) ([] : (List Int))
def splitStep (s4 : (List Int)) (a5 : Int) : Option (List Int) :=
  (some ([] : (List Int))).bind fun nexts_9 =>
  (fld (σ := (List Int)) (fun (s10 : (List Int)) (a11 : Int) =>
  (crng1 ((a5 - a11) + (1 : Int))).bind fun r13 =>
  (mapO (fun y14 : Int => ((getI (s4 : (List Int)) y14).bind fun z15 => (getI (s4 : (List Int)) ((a5 - a11) - y14)).bind fun z16 => (m_added z15 z16).bind fun z17 => some (z17 : Int))) r13).bind fun z19 =>
  (chk z19).bind fun z20 =>
  (cat (s10 : (List Int)) z20).bind fun z21 =>
  some (z21 : (List Int))) ([(1 : Int), (2 : Int)] : (List Int)) (nexts_9 : (List Int))).bind fun o22 =>
  (m_least_left_out o22).bind fun z24 =>
  (push (s4 : (List Int)) z24).bind fun z25 =>
  some (z25 : (List Int))
def pins : List Int := [0, 1, 2, 3, 1, 4, 3, 2, 1, 4, 2, 6, 4, 1, 2, 7, 1, 4, 3, 2, 1, 4, 6, 7, 4, 1, 2, 8, 5, 4, 7, 2, 1, 8, 6, 7, 4, 1, 2, 3, 1, 4, 7, 2, 1, 8, 2, 7, 4, 1, 2, 8, 1, 4, 7, 2, 1, 4, 2, 7]
def pinOk (i : Nat) : Bool := match lawNext (pins.take i) i with
  | some o => (match m_least_left_out o with
    | some p => decide (pins[i]? = some p) && decide (o.length ≤ 1000)
    | none => false)
  | none => false
def pinsOk : Bool := (List.range 60).all pinOk
theorem pins_ok : pinsOk = true := by decide +kernel
def splOk (i : Nat) : Bool := decide (splitStep (pins.take i) i = some (pins.take (i + 1)))
def splsOk : Bool := (List.range 60).all splOk
theorem spls_ok : splsOk = true := by decide +kernel
theorem pins_take {i : Nat} {p : Int} (h : pins[i]? = some p) : pins.take (i + 1) = pins.take i ++ [p] := by
  rw [List.take_succ, h]; rfl
theorem pin_at {i : Nat} (h : i < 60) : ∃ o p, lawNext (pins.take i) (i : Int) = some o ∧ m_least_left_out o = some p ∧ m_law_least o = some p ∧ pins.take (i + 1) = pins.take i ++ [p] ∧ pins[i]? = some p := by
  have k := pins_ok
  unfold pinsOk at k
  rw [List.all_eq_true] at k
  have k := k i (List.mem_range.mpr h)
  unfold pinOk at k
  split at k
  · rename_i o e
    split at k
    · rename_i p e2
      rw [Bool.and_eq_true, decide_eq_true_eq, decide_eq_true_eq] at k
      refine ⟨o, p, e, e2, ?_, pins_take k.1, k.1⟩
      rw [law_least (by omega), ← left_out (by omega)]
      exact e2
    · cases k
  · cases k
theorem spl_at {i : Nat} (h : i < 60) : splitStep (pins.take i) (i : Int) = some (pins.take (i + 1)) := by
  have k := spls_ok
  unfold splsOk at k
  rw [List.all_eq_true] at k
  have k := k i (List.mem_range.mpr h)
  unfold splOk at k
  rwa [decide_eq_true_eq] at k
theorem values_splits {n : Nat} (hn : n ≤ 60) : m_values_of_splits (n : Int) = some (pins.take n) := by
  unfold m_values_of_splits
  refine mif_f (by simp; omega) ?_
  refine bok rfl (bok (crng1_ok (by omega)) ?_)
  have hlen : (rngI 0 (n : Int)).length = n := by rw [rngI_len]; omega
  have := fld_eq (fun i => pins.take i) (items := rngI 0 (n : Int)) (step := splitStep) (fun i hi => by
    rw [rngI_get hi, Int.zero_add]
    exact spl_at (by omega))
  rw [hlen] at this
  exact bok this rfl
end K56
set_option Elab.async false
set_option linter.all false
set_option maxRecDepth 100000
set_option maxHeartbeats 1000000
namespace K56
open PySem RE
theorem getV {tk : List Int} {N : Nat} {i : Int} (h0 : 0 ≤ i) (h : i < (N : Int)) : getI (gameV tk N) i = some (val tk i.toNat) := by
  have g := game_get tk N i.toNat (by omega)
  rw [show getI (gameV tk N) i = getI (gameV tk N) ((i.toNat : Nat) : Int) by rw [show ((i.toNat : Nat) : Int) = i by omega], getI_nat]
  exact g
theorem pl_ints {k : Nat} {l : List Int} (h : l.length ≤ 16777216) : pl (k + 1) (eT D.int l) = true := pl_T (fun _ _ => pl_int) h
theorem rowT {l m : List Int} (e : l = m) (h : l.length ≤ 16777216) : RowOk 12 (e2 (eT D.int) (eT D.int) (l, m)) := by
  subst e
  exact row_eq rfl (pl_ints h)
section
variable {tk : List Int} (h1 : ∀ t ∈ tk, 1 ≤ t) (hl : tk.length ≤ 6)
include h1 hl
theorem law_game {N : Nat} (hN : N ≤ 2000) : fld (σ := (List Int)) (fun (s17 : (List Int)) (a18 : Int) =>
  (lcM (fun y20 : Int => (some ((decide (y20 ≤ a18)) : Bool))) (fun y20 : Int => ((getI (s17 : (List Int)) (a18 - y20)).bind fun z21 => some (z21 : Int))) (tk : (List Int))).bind fun z24 =>
  (chk z24).bind fun z25 =>
  (m_law_least z25).bind fun z26 =>
  (push (s17 : (List Int)) z26).bind fun z27 =>
  some (z27 : (List Int))) (rngI 0 (N : Int)) ([] : (List Int)) = some (gameV tk N) := by
  have hlen : (rngI 0 (N : Int)).length = N := by rw [rngI_len]; omega
  have := fld_eq (fun i => gameV tk i) (items := rngI 0 (N : Int)) (step := fun (s17 : (List Int)) (a18 : Int) =>
    (lcM (fun y20 : Int => (some ((decide (y20 ≤ a18)) : Bool))) (fun y20 : Int => ((getI (s17 : (List Int)) (a18 - y20)).bind fun z21 => some (z21 : Int))) (tk : (List Int))).bind fun z24 =>
    (chk z24).bind fun z25 =>
    (m_law_least z25).bind fun z26 =>
    (push (s17 : (List Int)) z26).bind fun z27 =>
    some (z27 : (List Int))) (fun i hi => by
      rw [rngI_get hi, Int.zero_add]
      refine bok (a := opts tk (gameV tk i) (i : Int)) (lcM_eq (c' := fun y => decide (y ≤ (i : Int))) (f' := fun y => ((gameV tk i)[((i : Int) - y).toNat]?).getD 0) (fun _ _ => rfl) fun y hy hc => ?_) ?_
      · rw [decide_eq_true_eq] at hc
        have := h1 y hy
        have g := game_get tk i ((i : Int) - y).toNat (by omega)
        rw [g, show (i : Int) - y = ((((i : Int) - y).toNat : Nat) : Int) by omega, getI_nat, g]
        rfl
      · have := opts_len tk (gameV tk i) (i : Int)
        have := game_len tk i
        rw [hlen] at hi
        exact bok (chk_ok (by omega)) (bok (law_least (by omega)) (bok (push_ok (by omega)) rfl)))
  rw [hlen] at this
  exact this
/-- a stack is lost exactly where nothing goes to a lost one -/
theorem lost_iff (h : Nat) : decide (val tk h = 0) = decide ((tk.filter fun y => decide (y ≤ (h : Int)) && decide (val tk ((h : Int) - y).toNat = 0)) = []) := by
  have hl2 : tk.length ≤ 1000 := by omega
  rw [decide_eq_decide, List.filter_eq_nil_iff]
  constructor
  · intro e y hy z
    rw [Bool.and_eq_true, decide_eq_true_eq, decide_eq_true_eq] at z
    exact val_ne h1 hl2 hy z.1 (by rw [z.2, e])
  · intro z
    by_cases e : val tk h = 0
    · exact e
    · exfalso
      have := val_nn h1 hl2 h
      obtain ⟨t, a, b, c⟩ := val_low h1 hl2 (h := h) (j := 0) (by omega) (by omega)
      exact z t a (by simp [b, c])
def gos (tk : List Int) (f s : Int) : List (Int × Int) := ((tk.filter fun y => decide (y ≤ f)).map fun y => (f - y, s)) ++ ((tk.filter fun y => decide (y ≤ s)).map fun y => (f, s - y))
omit h1 hl in
theorem gos_mem {f s : Int} {p : Int × Int} : p ∈ gos tk f s ↔ (∃ t ∈ tk, t ≤ f ∧ p = (f - t, s)) ∨ ∃ t ∈ tk, t ≤ s ∧ p = (f, s - t) := by
  unfold gos
  rw [List.mem_append, List.mem_map, List.mem_map]
  constructor
  · rintro (⟨t, h, rfl⟩ | ⟨t, h, rfl⟩)
    · rw [List.mem_filter, decide_eq_true_eq] at h
      exact .inl ⟨t, h.1, h.2, rfl⟩
    · rw [List.mem_filter, decide_eq_true_eq] at h
      exact .inr ⟨t, h.1, h.2, rfl⟩
  · rintro (⟨t, h, k, rfl⟩ | ⟨t, h, k, rfl⟩)
    · exact .inl ⟨t, by rw [List.mem_filter, decide_eq_true_eq]; exact ⟨h, k⟩, rfl⟩
    · exact .inr ⟨t, by rw [List.mem_filter, decide_eq_true_eq]; exact ⟨h, k⟩, rfl⟩
theorem two_iff {f s : Int} (f0 : 0 ≤ f) (s0 : 0 ≤ s) : decide (val tk f.toNat = val tk s.toNat) = decide (((gos tk f s).filter fun p => decide (val tk p.1.toNat = val tk p.2.toNat)) = []) := by
  have hl2 : tk.length ≤ 1000 := by omega
  rw [decide_eq_decide, List.filter_eq_nil_iff]
  constructor
  · intro e p hp z
    rw [decide_eq_true_eq] at z
    rcases gos_mem.mp hp with ⟨t, a, b, rfl⟩ | ⟨t, a, b, rfl⟩
    · refine val_ne h1 hl2 (h := f.toNat) a (by omega) ?_
      rw [show ((f.toNat : Nat) : Int) = f by omega, e]
      exact z
    · refine val_ne h1 hl2 (h := s.toNat) a (by omega) ?_
      rw [show ((s.toNat : Nat) : Int) = s by omega, ← e]
      exact z.symm
  · intro z
    by_cases e : val tk f.toNat = val tk s.toNat
    · exact e
    · exfalso
      have hf := val_nn h1 hl2 f.toNat
      have hs := val_nn h1 hl2 s.toNat
      by_cases lt : val tk f.toNat < val tk s.toNat
      · obtain ⟨t, a, b, c⟩ := val_low h1 hl2 (h := s.toNat) (j := val tk f.toNat) hf lt
        rw [show ((s.toNat : Nat) : Int) = s by omega] at b c
        exact z (f, s - t) (gos_mem.mpr (.inr ⟨t, a, b, rfl⟩)) (by simp [c])
      · obtain ⟨t, a, b, c⟩ := val_low h1 hl2 (h := f.toNat) (j := val tk s.toNat) hs (by omega)
        rw [show ((f.toNat : Nat) : Int) = f by omega] at b c
        exact z (f - t, s) (gos_mem.mpr (.inl ⟨t, a, b, rfl⟩)) (by simp [c])
end
end K56
set_option Elab.async false
set_option linter.all false
set_option maxRecDepth 100000
set_option maxHeartbeats 1000000
namespace K56
open PySem RE
theorem rowB {a b : Bool} (e : a = b) : RowOk 12 (e2 D.bl D.bl (a, b)) := row_eq (f := D.bl) e pl_bl
theorem games_right (s : S2) : Ex (m_law_games_right s) fun r => r.1 = true := by
  unfold m_law_games_right
  refine ex_pickb (by decide) (by decide) fun n1 s1 a0 a1 => ?_
  refine ex_eq (crng1_ok (by simp only; omega)) ?_
  refine ex_lcSb (fun x : Int => 1 ≤ x ∧ x ≤ 15) ?_ fun draws s2 ld hd => ?_
  · intro s a _
    refine ex_pickb (by decide) (by decide) fun r s' h0 h1 => ex_ret ⟨?_, ?_⟩ <;> simp only <;> omega
  rw [rngI_len] at ld
  refine ex_eq (chk_ok (by simp only; omega)) ?_
  refine ex_some ?_
  simp only
  have tk1 : ∀ t ∈ sortI draws, 1 ≤ t := fun t ht => (hd t ((sortI_perm draws).mem_iff.mp ht)).1
  have tkl : (sortI draws).length ≤ 6 := by rw [(sortI_perm draws).length_eq]; omega
  generalize sortI draws = tk at tk1 tkl
  refine ex_pickb (by decide) (by decide) fun n2 s3 b0 b1 => ?_
  simp only
  refine ex_some ?_
  obtain ⟨N, hN⟩ : ∃ N : Nat, 40 + n2 = (N : Int) := ⟨(40 + n2).toNat, by omega⟩
  rw [hN]
  have hN1 : 40 ≤ N := by omega
  have hN2 : N ≤ 240 := by omega
  have tkl2 : tk.length ≤ 1000 := by omega
  have gl := game_len tk N
  refine ex_eq (values_game tk1 tkl2 (by omega)) ?_
  refine ex_some ?_
  refine ex_eq (crng1_ok (by omega)) ?_
  refine ex_eq (law_game tk1 tkl (by omega)) ?_
  refine ex_eq (cat_ok (by omega)) ?_
  have m2 : ∀ t ∈ tk ++ tk, 1 ≤ t := fun t ht => (List.mem_append.mp ht).elim (tk1 t) (tk1 t)
  have m3 : ∀ t ∈ tk.reverse, 1 ≤ t := fun t ht => tk1 t (List.mem_reverse.mp ht)
  have l2 : (tk ++ tk).length ≤ 1000 := by rw [List.length_append]; omega
  have l3 : tk.reverse.length ≤ 1000 := by rw [List.length_reverse]; omega
  refine ex_eq (values_game m2 l2 (by omega)) ?_
  refine ex_eq (values_game m3 l3 (by omega)) ?_
  rw [game_congr m2 tk1 l2 tkl2 (fun x => by simp) N, game_congr m3 tk1 l3 tkl2 (fun x => by simp) N]
  refine ex_some ?_
  have R0 : Rws 3 [((e2 (eT D.int) (eT D.int)) (gameV tk N, gameV tk N)), ((e2 (eT D.int) (eT D.int)) (gameV tk N, gameV tk N)), ((e2 (eT D.int) (eT D.int)) (gameV tk N, gameV tk N))] := by
    have r := rowT (l := gameV tk N) rfl (by omega)
    exact Rws.cons r (Rws.cons r (Rws.cons r Rws.nil))
  generalize ([((e2 (eT D.int) (eT D.int)) (gameV tk N, gameV tk N)), ((e2 (eT D.int) (eT D.int)) (gameV tk N, gameV tk N)), ((e2 (eT D.int) (eT D.int)) (gameV tk N, gameV tk N))] : List D) = rows at R0
  refine ex_eq (crng1_ok (by omega)) ?_
  refine ex_bind (ex_fldC_nx (P := fun c => ∃ s, c = .nx s) (fun _ _ => True) trivial (fun i st a ha _ => ?_) fun s _ => ⟨s, rfl⟩) ?_
  · obtain ⟨ea, hi⟩ := rngI_at ha
    rw [Int.zero_add] at ea
    subst ea
    refine ex_eq (lcM_eq (c' := fun y => decide (y ≤ (i : Int)) && decide (val tk ((i : Int) - y).toNat = 0)) (f' := fun y => y) (fun y hy => ?_) fun y _ _ => rfl) ?_
    · have := tk1 y hy
      by_cases hc : y ≤ (i : Int)
      · unfold RE.andM
        rw [decide_eq_true hc, if_pos rfl, getV (by omega) (by omega)]
        rfl
      · unfold RE.andM
        rw [decide_eq_false hc]
        rfl
    · rw [List.map_id']
      refine ex_eq (chk_ok (Nat.le_trans (List.length_filter_le _ _) (by omega))) ?_
      refine ex_eq (getV (by omega) (by omega)) ?_
      rw [show ((i : Int)).toNat = i by omega, lost_iff tk1 tkl i]
      refine ex_f (by simp) ?_
      exact ex_ret ⟨_, rfl, trivial⟩
  rintro _ ⟨_, rfl⟩
  simp only
  have J1 : Ex (if (decide ((90 : Int) ≤ (N : Int))) = true then ((m_round_of_1 (cutL (gameV tk N : (List Int)) none (some (90 : Int)))).bind fun z54 =>
  (m_law_round (cutL (gameV tk N : (List Int)) none (some (90 : Int)))).bind fun z55 =>
  (cat (rows : (List D)) [((e2 (eO (e2 D.int D.int)) (eO (e2 D.int D.int))) (z54, z55))]).bind fun z56 =>
  some (z56 : (List D))) else (some (rows : (List D)))) (Rws 4) := by
    refine ex_if (fun _ => ?_) fun _ => ex_ret (R0.mono (by decide))
    have hc := cutL_len (gameV tk N) none (some 90)
    obtain ⟨v, _, e1, e2⟩ := round_has (cutL (gameV tk N) none (some 90)) (by omega)
    refine ex_eq e1 (ex_eq e2 ?_)
    obtain ⟨ec, R1⟩ := Rws.cat R0 (Rws.cons (rowO v) Rws.nil) (m := 4) (by omega) (by omega)
    exact ex_eq ec (ex_ret R1)
  refine ex_bind J1 fun rows2 R1 => ?_
  refine ex_pickb (by decide) (by decide) fun f s4 f0 f1 => ?_
  simp only
  refine ex_pickb (by decide) (by decide) fun g s5 g0 g1 => ?_
  simp only
  have lf : ∀ p : Int → Bool, (tk.filter p).length ≤ 6 := fun p => Nat.le_trans (List.length_filter_le _ _) tkl
  refine ex_eq (chk_ok (by rw [List.length_map]; have := lf (fun y => decide (y ≤ f)); omega)) ?_
  refine ex_eq (chk_ok (by rw [List.length_map]; have := lf (fun y => decide (y ≤ g)); omega)) ?_
  refine ex_eq (cat_ok (by rw [List.length_map, List.length_map]; have := lf (fun y => decide (y ≤ f)); have := lf (fun y => decide (y ≤ g)); omega)) ?_
  have hgo : (gos tk f g).length ≤ 12 := by
    unfold gos
    rw [List.length_append, List.length_map, List.length_map]
    have := lf (fun y => decide (y ≤ f)); have := lf (fun y => decide (y ≤ g)); omega
  refine ex_eq (lcM_eq (l := gos tk f g) (c' := fun p => decide (val tk p.1.toNat = val tk p.2.toNat)) (f' := fun p => p) (fun p hp => ?_) fun p _ _ => rfl) ?_
  · rcases gos_mem.mp hp with ⟨t, a, b, rfl⟩ | ⟨t, a, b, rfl⟩
    · have := tk1 t a
      simp only
      rw [getV (by omega) (by omega), getV g0 (by omega)]
      rfl
    · have := tk1 t a
      simp only
      rw [getV f0 (by omega), getV (i := g - t) (by omega) (by omega)]
      rfl
  rw [List.map_id']
  refine ex_eq (chk_ok (Nat.le_trans (List.length_filter_le _ _) (by omega))) ?_
  have ef : getI (gameV tk N) f = some (val tk f.toNat) := getV f0 (by omega)
  have eg : getI (gameV tk N) g = some (val tk g.toNat) := getV g0 (by omega)
  refine ex_eq ef (ex_eq eg ?_)
  rw [two_iff tk1 tkl f0 g0]
  obtain ⟨ec, R2⟩ := Rws.cat R1 (Rws.cons (rowB rfl) Rws.nil) (m := 5) (by omega) (by omega)
  refine ex_eq ec ?_
  clear ec
  generalize rows2 ++ _ = rows3 at R2
  refine ex_eq ef (ex_eq eg ?_)
  have vf := val_nn tk1 tkl2 f.toNat
  have vg := val_nn tk1 tkl2 g.toNat
  have wf := val_le tk1 tkl2 f.toNat
  have wg := val_le tk1 tkl2 g.toNat
  have K1 : ∃ j : D, m_judged [val tk f.toNat, val tk g.toNat] = some j ∧ ((val tk f.toNat = val tk g.toNat ∧ j = .tup [.str "lost"]) ∨ (val tk f.toNat ≠ val tk g.toNat ∧ ∃ i l x, j = .tup [.str "won", .int i, .int l] ∧ m_played [val tk f.toNat, val tk g.toNat] i l = some [x, x])) := by
    rcases J_of vf (by omega) vg (by omega) with ⟨e, h⟩ | ⟨e, i, l, x, h, h2⟩
    · exact ⟨_, h, .inl ⟨e, rfl⟩⟩
    · exact ⟨_, h, .inr ⟨e, i, l, x, rfl, h2⟩⟩
  obtain ⟨j, ej, hj⟩ := K1
  refine ex_eq ej ?_
  have tail : ∀ rows4, Rws 7 rows4 → Ex ((pick_m s5 (60 : Int)).bind fun z104 =>
    (some ([] : (List Int))).bind fun pins_105 =>
    (some (((1 : Int) + z104.1) : Int)).bind fun size_106 =>
    (crng1 size_106).bind fun r107 =>
    (fld (σ := (List Int) × (List D)) (fun (s108 : (List Int) × (List D)) (a109 : Int) =>
    (lawNext s108.1 a109).bind fun o152 =>
    (m_law_least o152).bind fun z159 =>
    (push (s108.1 : (List Int)) z159).bind fun z160 =>
    (m_least_left_out o152).bind fun z161 =>
    (getI (z160 : (List Int)) a109).bind fun z162 =>
    (cat (s108.2 : (List D)) [((e2 D.int D.int) (z161, z162))]).bind fun z163 =>
    some ((z160, z163) : (List Int) × (List D))) r107 ((pins_105, rows4) : (List Int) × (List D))).bind fun o164 =>
    (m_values_of_splits size_106).bind fun z173 =>
    (cat (o164.2 : (List D)) [((e2 (eT D.int) (eT D.int)) (z173, o164.1))]).bind fun z174 =>
    (rows_m z174).bind fun z175 =>
    some (z175, z104.2)) fun r => r.1 = true := by
    intro rows4 R4
    refine ex_pickb (by decide) (by decide) fun n5 s6 c0 c1 => ?_
    simp only
    refine ex_some (ex_some ?_)
    obtain ⟨M, hM⟩ : ∃ M : Nat, 1 + n5 = (M : Int) := ⟨(1 + n5).toNat, by omega⟩
    rw [hM]
    have hM2 : M ≤ 60 := by omega
    refine ex_eq (crng1_ok (by omega)) ?_
    have hlen : (rngI 0 (M : Int)).length = M := by rw [rngI_len]; omega
    refine ex_bind (ex_fld (P := fun st => st.1 = pins.take M ∧ Rws (7 + M) st.2) (fun i st => st.1 = pins.take i ∧ Rws (7 + i) st.2) ⟨rfl, R4⟩ (fun i st a ha hi => ?_) fun st h => by rw [hlen] at h; exact h) fun o ho => ?_
    · obtain ⟨ea, hi2⟩ := rngI_at ha
      rw [Int.zero_add] at ea
      subst ea
      obtain ⟨V, rs⟩ := st
      obtain ⟨hV, hR⟩ := hi
      simp only at hV hR ⊢
      subst hV
      obtain ⟨o, p, h1, h2, h3, h4, h5⟩ := pin_at (i := i) (by omega)
      refine ex_eq h1 (ex_eq h3 ?_)
      have hpl : (pins.take i).length ≤ 60 := by rw [List.length_take]; omega
      refine ex_eq (push_ok (by omega)) (ex_eq h2 ?_)
      rw [← h4]
      refine ex_eq (a := p) (by rw [getI_nat, List.getElem?_take_of_lt (by omega)]; exact h5) ?_
      obtain ⟨ec, R5⟩ := Rws.cat hR (Rws.cons (row_eq (f := D.int) (p := (p, p)) rfl pl_int) Rws.nil) (m := 7 + (i + 1)) (by omega) (by omega)
      exact ex_eq ec (ex_ret ⟨rfl, R5⟩)
    · refine ex_eq (values_splits hM2) ?_
      have hpl : (pins.take M).length ≤ 60 := by rw [List.length_take]; omega
      obtain ⟨ec, R6⟩ := Rws.cat ho.2 (Rws.cons (rowT ho.1.symm (by omega)) Rws.nil) (m := 8 + M) (by omega) (by omega)
      refine ex_eq ec (ex_eq (R6.all (by omega)) (ex_ret rfl))
  rcases hj with ⟨e, rfl⟩ | ⟨e, i, l, x, rfl, hp⟩
  · refine ex_eq (a := D.str "lost") rfl (ex_eq ef (ex_eq eg ?_))
    rw [if_pos (by simpa using e)]
    refine ex_eq (a := ("lost" : Str)) rfl ?_
    obtain ⟨ec, R3⟩ := Rws.cat R2 (Rws.cons (show RowOk 12 (e2 eD D.str (D.str "lost", "lost")) from ⟨D.str "lost", rfl, pl_str⟩) Rws.nil) (m := 6) (by omega) (by omega)
    refine ex_eq ec (ex_eq (a := D.str "lost") rfl (ex_eq (a := false) (by decide +kernel) ?_))
    refine ex_bind (ex_f rfl (ex_ret (R3.mono (show 6 ≤ 7 by decide)))) fun rows4 R4 => ?_
    exact tail rows4 R4
  · refine ex_eq (a := D.str "won") rfl (ex_eq ef (ex_eq eg ?_))
    rw [if_neg (by simpa using e)]
    refine ex_eq (a := ("won" : Str)) rfl ?_
    obtain ⟨ec, R3⟩ := Rws.cat R2 (Rws.cons (show RowOk 12 (e2 eD D.str (D.str "won", "won")) from ⟨D.str "won", rfl, pl_str⟩) Rws.nil) (m := 6) (by omega) (by omega)
    refine ex_eq ec (ex_eq (a := D.str "won") rfl (ex_eq (a := true) (by decide +kernel) ?_))
    refine ex_bind (Q := Rws 7) (ex_t rfl ?_) fun rows4 R4 => tail rows4 R4
    refine ex_eq ef (ex_eq eg (ex_eq (a := D.int i) rfl (ex_eq (a := D.int l) rfl (ex_eq (a := i) rfl (ex_eq (a := l) rfl (ex_eq hp (ex_eq (a := x) rfl ?_)))))))
    refine ex_eq ef (ex_eq eg (ex_eq (a := D.int i) rfl (ex_eq (a := D.int l) rfl (ex_eq (a := i) rfl (ex_eq (a := l) rfl (ex_eq hp (ex_eq (a := x) rfl ?_)))))))
    obtain ⟨ec, R4⟩ := Rws.cat R3 (Rws.cons (rowB (a := decide (x = x)) (b := true) (by simp)) Rws.nil) (m := 7) (by omega) (by omega)
    exact ex_eq ec (ex_ret R4)
end K56
set_option Elab.async false
set_option linter.all false
set_option maxRecDepth 100000
set_option maxHeartbeats 1000000
namespace K56
open PySem RE
theorem law_ok (s : S2) : ∃ s', m_law_right s = some (true, s') := by
  have h : Ex (m_law_right s) fun r => r.1 = true := by
    unfold m_law_right
    refine ex_bind (rows_right s) fun r hr => ?_
    exact ex_t hr (ex_bind (games_right r.2) fun q hq => ex_ret hq)
  obtain ⟨⟨b, s'⟩, e, h⟩ := h
  simp only at h
  subst h
  exact ⟨s', e⟩
end K56
set_option Elab.async false
set_option linter.all false
set_option maxRecDepth 100000
set_option maxHeartbeats 0
namespace K56
open PySem PySem.Spec PyProof.Rows L2 He RE
abbrev RW : PySem.W.OpenRow := PySem.W.OpenLaw.row PySem.Challenge.rw_notewhole_k56_whole_values_that_go_round
abbrev hk : PySem.W.Hook := He.hookD 6 P.fa P.fn
def ob (s : PySem.W.SharedT) : He.AlD := He.obsDG 6 P.fa P.fn (HandSHeadRun.getT s)
theorem ob_eq (s : PySem.W.SharedT) : ob s = hk.obs s.abs := He.obsDG_eq (HandSHeadRun.getT_eq s)
def loose : List PySem.Str := ["NoteError", "BadNumber", "BadDeed", "TooLarge", "checked", "natural", "added", "added_all", "least_left_out", "heaps_of", "judged", "played", "values_of_game", "values_of_splits", "round_of", "_law_cell", "_law_source", "_law_pick", "_law_same", "_law_all_same", "_law_round", "_law_least", "_law_rows_right", "_law_games_right", "_law_right", "SCALE", "LIMIT"]
theorem run (w : World) : HandSHeadRun.RunEq RW (PySem.W.view RW.prog [31]) hk ob 20000 loose w := by
  intro os
  kernel_rfl
theorem plain0 (a b : Int) : ∃ x, callN P.tab (58 + 1) 1 [.lst [.int a, .int b]] = some (.sh (.bl true), some x) := by
  obtain ⟨s', h1⟩ := law_ok (a, b)
  have h := k_law_right (n := 43) h1
  exact ⟨_, h⟩
theorem plain1 (ns : List Int) : callN P.tab (58 + 2) 0 [.lst (ns.map D.int)] = some (.sh (.bl true), none) :=
  s_law (T := P.tab) (k := 0) (L := 5) (kR := 1) (kS := 2) (kC := 3) (fR := d1.fn) (n := 58) (by decide) rfl rfl rfl rfl rfl plain0 ns
theorem plain (ns : List Int) (h : ns.length ≤ 63) : callN P.tab 60 0 [.lst (ns.map D.int)] = some (.sh (.bl true), none) := plain1 ns
end K56
open PySem PySem.W PySem.Calls PyProof.Rows
theorem PySem.Challenge.cw_notewhole_k56_whole_values_that_go_round_holds : PySem.Challenge.rw_notewhole_k56_whole_values_that_go_round.Holds := by
  w_on; o_law
  refine HandSHeadRun.head_any (r := OpenLaw.row PySem.Challenge.rw_notewhole_k56_whole_values_that_go_round) (q := view (OpenLaw.row PySem.Challenge.rw_notewhole_k56_whole_values_that_go_round).prog [31]) (H := K56.hk) (ob := K56.ob) (M := 20000) (loose := K56.loose) (d := HandSHeadRun.topDef (OpenLaw.row PySem.Challenge.rw_notewhole_k56_whole_values_that_go_round).prog 31) (kwd := []) K56.ob_eq
    (by kernel_rfl) (fun s => by kernel_rfl) K56.run (by kernel_rfl) (by kernel_rfl) (by kernel_rfl) (by rfl) (by first | assumption | decide +kernel) (by decide +kernel) ⟨rfl, rfl, rfl, rfl, rfl, by decide +kernel⟩ ?hw ?hc
  case hw => w_witness2
  case hc =>
    refine L2.walk_ofE (l := PySem.Challenge.rw_notewhole_k56_whole_values_that_go_round) (n := 63) (k := 60) (x := "script") (CX := L2.CX0) rfl (by decide) (by kernel_rfl) ⟨rfl, by decide, by decide⟩ ?F (fun _ _ _ _ z => z)
    intro w mg fa h Y G hmg0
    obtain ⟨K, KX, c⟩ := Y
    have hmg : mg ("law" : PySem.Str) = some (.ref fa) := by
      have e : (HandSHeadRun.topDef (OpenLaw.row PySem.Challenge.rw_notewhole_k56_whole_values_that_go_round).prog 31).name = ("law" : PySem.Str) := by kernel_rfl
      rw [← e]
      exact hmg0
    obtain ⟨fd, sp, h1, h2, h3⟩ := RE.law_facts (Pr := (PySem.Challenge.rw_notewhole_k56_whole_values_that_go_round).prog) (w := w) (P := K56.P) (n := 60) (kL := 0) (x := "script") rfl rfl rfl rfl KX G hmg c K56.good K56.bnd K56.plain
    exact ⟨K, fd, sp, KX, h1, h2, h3⟩
