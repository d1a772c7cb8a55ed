import PyProof.Rows.All
import HandS.List
import HandS.Codes
import HandS.Comp
import HandS.HeadHook2
import HandS.ForMost
import HandS.Exc
import HandS.ExcOwn
import HandS.SortInts
import HandS.Style
import KE.GoesMore
import KE.GoesEnum
import PyProof.TupleOfSeq
import HandS.Dict
import HandS.DictTup
import HandS.Iter
import HandS.Zip
import HandS.Walk
import HandS.Conv
import HandS.IsInst
import HandS.Defaults
import HandS.Lambda
import HandS.TupAny
import HandS.Wide
import HandS.WordsDict
import HandS.Text
import HandS.CallRecv
import HandS.Small
import KE.SortKeyHeap
import HandS.SortKw
import KE.KExcSuper
import HandS.ExcSuper
import HandS.HeadHook4
import HandS.HeadWalk
import HandS.EndTab
import HandS.TryOnly
import HandS.Head0
import HandS.Head1
import HandS.Head2
import HandS.HeadEnd
import HandS.HeadHook1
import PySem.Challenge.RW_offerstands_k78_the_gate
set_option linter.all false
set_option Elab.async false
set_option maxRecDepth 100000
/-! DI, the core: values, the small syntax, and its run. -/
namespace DI
open PySem (Str PyData)

/-- values: what is frozen stands by its content, what may change stands in the store -/
inductive D where
  | non | bl (b : Bool) | int (i : Int) | str (x : Str)
  | tup (ds : List D) | lst (ds : List D)
  | dic (ks : List Str) (vs : List D)
  | dit (ks : List (List Int)) (vs : List D)
  | ins (c : Str) (ns : List Str) (vs : List D)
  | loc (l : Nat)
  deriving Inhabited

abbrev Store := List D

inductive Slot where
  | no | val (d : D) | own (d : D)
  deriving Inhabited
abbrev Env := List Slot

inductive Bin where | add | sub | mul | fdiv | mod | pow | shl | shr | band
  deriving DecidableEq
inductive Cmp where | eq | ne | lt | le | gt | ge | isN | notN | in_ | notin
  deriving DecidableEq
inductive Ty where | int | bool | str | tuple | list | dict
  deriving DecidableEq
inductive Fn where | len | tuple | list | int | any | all | sum | sorted | sortedLen | max | min | repr | str
  deriving DecidableEq
inductive Tg where | var (i : Nat) | pair (i j : Nat)

inductive CE where
  | var (i : Nat) | con (d : D)
  | tup (es : List CE) | lst (es : List CE) | dic (ks : List Str) (es : List CE) | dit0
  | bin (op : Bin) (a b : CE) | neg (a : CE)
  | cmp (op : Cmp) (a b : CE) | cmp2 (op op' : Cmp) (a b c : CE)
  | and (a b : CE) | or (a b : CE) | not (a : CE) | ite (t a b : CE)
  | call (f : Nat) (es : List CE) | make (c : Str) (f : Nat) (es : List CE) | meth (m : Str) (o : CE) (es : List CE)
  | attr (o : CE) (f : Str)
  | fn (b : Fn) (a : CE) | isi (a : CE) (t : Ty)
  | idx (o i : CE) | slc (o : CE) (lo hi : Option CE) | rev (o : CE) | revl (o : CE)
  | rng1 (a : CE) | rng2 (a b : CE) | enum (a : CE) | zip (a b : CE)
  | comp (elt : CE) (tg : Tg) (it : CE) (c : Option CE)
  | comp2 (elt : CE) (i : Nat) (it : CE) (j : Nat) (it2 : CE)
  | mat (a : CE)

inductive CS where
  | ret (e : CE) | retN
  | asg (i : Nat) (o : Bool) (e : CE)
  | asg2 (i : Nat) (o : Bool) (j : Nat) (p : Bool) (a b : CE)
  | unp (is : List Nat) (e : CE)
  | ifs (t : CE) (a b : List CS)
  | for_ (tg : Tg) (it : CE) (b : List CS)
  | whl (t : CE) (b : List CS)
  | expr (e : CE)
  | app (i : Nat) (e : CE) | ext (i : Nat) (e : CE)
  | pop (j : Option Nat) (i : Nat) (e : Option CE)
  | appPop (i j : Nat) (e : CE)
  | put (i : Nat) (k v : CE)
  | lapp (o e : CE) | lpop (j : Option Nat) (o : CE) | lput (o k v : CE) | lswap (o k1 o2 k2 a b : CE)
  | sat (f : Str) (e : CE)
  | frz (i : Nat)
  | rse (c : Str) (ns : List Str) (es : List CE)
  | tryx (b : List CS) (c : Str) (s : List CS)
  | brk | cnt | pass | die

/-- how an expression ends: a value, or an exception (its class, its fields) -/
inductive Rs where
  | ok (d : D) | ex (c : Str) (ns : List Str) (ds : List D)
abbrev Res := Option (Rs × Store)
inductive RsL where
  | ok (ds : List D) | ex (c : Str) (ns : List Str) (ds : List D)
abbrev ResL := Option (RsL × Store)

def bnd (m : Res) (k : D → Store → Res) : Res := match m with
  | some (.ok d, st) => k d st
  | some (.ex c ns ds, st) => some (.ex c ns ds, st)
  | none => none
def bndL (m : ResL) (k : List D → Store → Res) : Res := match m with
  | some (.ok d, st) => k d st
  | some (.ex c ns ds, st) => some (.ex c ns ds, st)
  | none => none
def bndE (m : Res) (k : D → Store → ResL) : ResL := match m with
  | some (.ok d, st) => k d st
  | some (.ex c ns ds, st) => some (.ex c ns ds, st)
  | none => none
def bndLL (m : ResL) (k : List D → Store → ResL) : ResL := match m with
  | some (.ok d, st) => k d st
  | some (.ex c ns ds, st) => some (.ex c ns ds, st)
  | none => none
@[simp] theorem bnd_ok (d st k) : bnd (some (.ok d, st)) k = k d st := rfl
@[simp] theorem bnd_ex (c ns ds st k) : bnd (some (.ex c ns ds, st)) k = some (.ex c ns ds, st) := rfl
@[simp] theorem bnd_none (k) : bnd none k = none := rfl
@[simp] theorem bndL_ok (d st k) : bndL (some (.ok d, st)) k = k d st := rfl
@[simp] theorem bndL_ex (c ns ds st k) : bndL (some (.ex c ns ds, st)) k = some (.ex c ns ds, st) := rfl
@[simp] theorem bndL_none (k) : bndL none k = none := rfl
@[simp] theorem bndE_ok (d st k) : bndE (some (.ok d, st)) k = k d st := rfl
@[simp] theorem bndE_ex (c ns ds st k) : bndE (some (.ex c ns ds, st)) k = some (.ex c ns ds, st) := rfl
@[simp] theorem bndE_none (k) : bndE none k = none := rfl
@[simp] theorem bndLL_ok (d st k) : bndLL (some (.ok d, st)) k = k d st := rfl
@[simp] theorem bndLL_ex (c ns ds st k) : bndLL (some (.ex c ns ds, st)) k = some (.ex c ns ds, st) := rfl
@[simp] theorem bndLL_none (k) : bndLL none k = none := rfl

/-! ### pure operations -/
/-- what a value reads as: a place of the store looked up once -/
def rd (st : Store) : D → D
  | .loc l => (st[l]?).getD .non
  | d => d
/-- the items of a list or tuple -/
def seqOf (st : Store) (d : D) : Option (List D) := match rd st d with
  | .tup ds => some ds
  | .lst ds => some ds
  | _ => none
def lstOf (st : Store) (d : D) : Option (List D) := match rd st d with
  | .lst ds => some ds
  | _ => none
def intsOf : List D → Option (List Int)
  | [] => some []
  | .int i :: ds => (intsOf ds).map (i :: ·)
  | _ => none
def boolsOf : List D → Option (List Bool)
  | [] => some []
  | .bl i :: ds => (boolsOf ds).map (i :: ·)
  | _ => none
/-- plain data, to a depth -/
def toP : Nat → Store → D → Option PyData
  | _, _, .non => some .none
  | _, _, .bl b => some (.bool b)
  | _, _, .int i => some (.int i)
  | _, _, .str x => if PySem.PyData.strOk x then some (.str x) else none
  | n + 1, st, .tup ds => (ds.mapM (toP n st)).map .tuple
  | n + 1, st, .lst ds => (ds.mapM (toP n st)).map .list
  | n + 1, st, .loc l => match st[l]? with
    | some (.lst ds) => (ds.mapM (toP n st)).map .list
    | _ => none
  | _, _, _ => none
def eqD (st : Store) (a b : D) : Option Bool := do
  let p ← toP 60 st a
  let q ← toP 60 st b
  some (PyData.eqv p q)
def inD (st : Store) (a s : D) : Option Bool := do
  let ds ← seqOf st s
  let p ← toP 0 st a
  let qs ← ds.mapM (toP 0 st)
  some (qs.any fun q => PyData.eqv q p)
def cutL (ds : List D) (lo hi : Option Int) : List D := (ds.drop (HT.sIx ds.length 0 lo)).take (HT.sIx ds.length ds.length hi - HT.sIx ds.length 0 lo)
def lineOk (n : Nat) : Bool := decide (n ≤ 16777216)
def smallI (i : Int) : Bool := decide (-(2 ^ 62) ≤ i) && decide (i < 2 ^ 62)

def binD (st : Store) : Bin → D → D → Option D
  | .add, .int i, .int j => some (.int (i + j))
  | .add, .tup a, .tup b => if lineOk a.length && lineOk b.length && lineOk (a.length + b.length) then some (.tup (a ++ b)) else none
  | .add, .str a, .str b => if lineOk (a.length + b.length) then some (.str (a ++ b)) else none
  | .add, a, b => match rd st a, rd st b with
    | .lst a, .lst b => if lineOk (a.length + b.length) then some (.lst (a ++ b)) else none
    | _, _ => none
  | .sub, .int i, .int j => some (.int (i - j))
  | .mul, .int i, .int j => if decide (i.natAbs < 2 ^ 64) || decide (j.natAbs < 2 ^ 64) then some (.int (i * j)) else none
  | .fdiv, .int i, .int j => if decide (j ≠ 0) && decide (j.natAbs < 1073741824) then some (.int (i.fdiv j)) else none
  | .mod, .int i, .int j => if decide (j ≠ 0) then some (.int (i.fmod j)) else none
  | .pow, .int i, .int j => if decide (0 ≤ j) && decide (j ≤ 1000) && decide (i.natAbs < 2 ^ 64) then some (.int (i ^ j.toNat)) else none
  | .shl, .int i, .int j => if decide (0 ≤ j) && decide (j ≤ 1000) && decide (i.natAbs < 2 ^ 64) then some (.int (i * 2 ^ j.toNat)) else none
  | .shr, .int i, .int j => if decide (0 ≤ j) then some (.int (i / 2 ^ j.toNat)) else none
  | .band, .int i, .int j => some (.int (PySem.Builtin.bitAnd i j))
  | _, _, _ => none
def isNon : D → Bool
  | .non => true | _ => false
def cmpD (st : Store) : Cmp → D → D → Option Bool
  | .eq, a, b => eqD st a b
  | .ne, a, b => (eqD st a b).map (!·)
  | .lt, .int i, .int j => some (decide (i < j))
  | .le, .int i, .int j => some (decide (i ≤ j))
  | .gt, .int i, .int j => some (decide (j < i))
  | .ge, .int i, .int j => some (decide (j ≤ i))
  | .isN, a, .non => some (isNon a)
  | .notN, a, .non => some (!isNon a)
  | .in_, a, b => inD st a b
  | .notin, a, b => (inD st a b).map (!·)
  | _, _, _ => none
/-- isinstance by built-in classes; an instance of an own class is not asked -/
def tyD : D → Option Ty
  | .int _ => some .int | .bl _ => some .bool | .str _ => some .str | .tup _ => some .tuple | .lst _ => some .list | .dic _ _ => some .dict | .dit _ _ => some .dict
  | _ => none
def isTy (st : Store) (t : Ty) (d : D) : Option Bool := match rd st d with
  | .non => some false
  | d => (tyD d).map fun u => decide (t = u) || (decide (t = .int) && decide (u = .bool))
def insI (x : Int) : List Int → List Int
  | [] => [x]
  | y :: ys => if x ≤ y then x :: y :: ys else y :: insI x ys
def sortI : List Int → List Int
  | [] => []
  | x :: xs => insI x (sortI xs)
/-- lists of ints as Python compares tuples -/
def ltL : List Int → List Int → Bool
  | [], [] => false
  | [], _ :: _ => true
  | _ :: _, [] => false
  | x :: xs, y :: ys => if x = y then ltL xs ys else decide (x < y)
/-- shorter ones first -/
def leLen (a b : List Int) : Bool := if a.length = b.length then !ltL b a else decide (a.length < b.length)
def insL (x : List Int) : List (List Int) → List (List Int)
  | [] => [x]
  | y :: ys => if leLen x y then x :: y :: ys else y :: insL x ys
def sortL : List (List Int) → List (List Int)
  | [] => []
  | x :: xs => insL x (sortL xs)
def tupI (ns : List Int) : D := .tup (ns.map .int)
def tupsOf : List D → Option (List (List Int))
  | [] => some []
  | .tup t :: ds => do
    let a ← intsOf t
    let r ← tupsOf ds
    some (a :: r)
  | _ => none
def strT : Str := "True"
def strF : Str := "False"
def fnD (st : Store) : Fn → D → Option D
  | .len, d => match rd st d with
    | .tup ds => some (.int ds.length)
    | .lst ds => some (.int ds.length)
    | .str x => if lineOk x.length then some (.int x.length) else none
    | .dic ks _ => some (.int ks.length)
    | _ => none
  | .tuple, d => (seqOf st d).map .tup
  | .list, d => (seqOf st d).map .lst
  | .int, .int i => some (.int i)
  | .any, d => ((lstOf st d).bind boolsOf).map fun bs => .bl (bs.any id)
  | .all, d => ((lstOf st d).bind boolsOf).map fun bs => .bl (bs.all id)
  | .sum, d => ((lstOf st d).bind intsOf).map fun ns => .int ns.sum
  | .sorted, d => ((seqOf st d).bind intsOf).map fun ns => .lst ((sortI ns).map .int)
  | .sortedLen, d => ((lstOf st d).bind tupsOf).map fun ns => .lst ((sortL ns).map tupI)
  | .repr, .bl b => some (.str (if b then strT else strF))
  | _, _ => none
def lookS (f : Str) : List Str → List D → Option D
  | n :: ns, v :: vs => if n = f then some v else lookS f ns vs
  | _, _ => none
def lookI (k : List Int) : List (List Int) → List D → Option D
  | n :: ns, v :: vs => if n = k then some v else lookI k ns vs
  | _, _ => none
def idxD (st : Store) (o i : D) : Option D := match rd st o, i with
  | .tup ds, .int i => L2.atI ds i
  | .lst ds, .int i => L2.atI ds i
  | .dic ks vs, .str x => lookS x ks vs
  | .dit ks vs, .tup t => (intsOf t).bind fun k => lookI k ks vs
  | _, _ => none
def slcD (st : Store) (o : D) (lo hi : Option Int) : Option D := match rd st o with
  | .tup ds => some (.tup (cutL ds lo hi))
  | .lst ds => some (.lst (cutL ds lo hi))
  | _ => none
def revD (st : Store) (o : D) : Option D := match rd st o with
  | .lst ds => some (.lst ds.reverse)
  | .tup ds => some (.tup ds.reverse)
  | _ => none
def rngI (lo : Int) : Nat → List Int
  | 0 => []
  | n + 1 => lo :: rngI (lo + 1) n
def rngD (lo hi : Int) : List D := (rngI lo (hi - lo).toNat).map .int
def enumD : Nat → List D → List D
  | _, [] => []
  | k, d :: ds => .tup [.int k, d] :: enumD (k + 1) ds
def zipD : List D → List D → List D
  | a :: as, b :: bs => .tup [a, b] :: zipD as bs
  | _, _ => []
def tgSet : Tg → D → Env → Option Env
  | .var i, d, env => some (env.set i (.val d))
  | .pair i j, .tup [a, b], env => some ((env.set i (.val a)).set j (.val b))
  | _, _, _ => none
def slotV (env : Env) (i : Nat) : Option D := match env[i]? with
  | some (.val d) => some d
  | _ => none
/-- a list or dict of one's own may be lent -/
def lendable : D → Bool
  | .lst _ => true | .dic _ _ => true | .dit _ _ => true | _ => false
/-- lent for one look -/
def slotB (env : Env) (i : Nat) : Option D := match env[i]? with
  | some (.val d) => some d
  | some (.own d) => if lendable d then some d else none
  | _ => none

/-- what runs around: the defs, one level deeper; makers of instances, two levels; methods by names -/
structure Orc where
  call : Nat → List D → Store → Res
  make : Str → Nat → List D → Store → Res
  low : Nat → List D → Store → Res
  mid : Str → Str → Option Nat
  fld : Str → Str → Bool

/-- a comprehension over frozen items: nothing raises within -/
def compL (el : Env → Store → Res) (cd : Env → Store → Res) (tg : Tg) (env : Env) : List D → Store → Option (List D × Store)
  | [], st => some ([], st)
  | x :: xs, st => match tgSet tg x env with
    | none => none
    | some env1 => match cd env1 st with
      | some (.ok (.bl true), st1) => (match el env1 st1 with
        | some (.ok d, st2) => (match compL el cd tg env xs st2 with
          | some (ds, st3) => some (d :: ds, st3)
          | none => none)
        | _ => none)
      | some (.ok (.bl false), st1) => compL el cd tg env xs st1
      | _ => none
/-- .. over a list of the store, by places -/
def compAt (el : Env → Store → Res) (cd : Env → Store → Res) (tg : Tg) (env : Env) (l : Nat) : Nat → Nat → Store → Option (List D × Store)
  | 0, _, _ => none
  | n + 1, i, st => match st[l]? with
    | some (.lst xs) => (match xs[i]? with
      | none => some ([], st)
      | some x => (match tgSet tg x env with
        | none => none
        | some env1 => match cd env1 st with
          | some (.ok (.bl true), st1) => (match el env1 st1 with
            | some (.ok d, st2) => (match compAt el cd tg env l n (i + 1) st2 with
              | some (ds, st3) => some (d :: ds, st3)
              | none => none)
            | _ => none)
          | some (.ok (.bl false), st1) => compAt el cd tg env l n (i + 1) st1
          | _ => none))
    | _ => none
def whileFuel : Nat := 100000
def compD (el cd : Env → Store → Res) (tg : Tg) (env : Env) (src : D) (st : Store) : Res := match src with
  | .loc l => (compAt el cd tg env l whileFuel 0 st).bind fun (ds, st) => if lineOk ds.length then some (.ok (.lst ds), st) else none
  | .lst xs => (compL el cd tg env xs st).bind fun (ds, st) => if lineOk ds.length then some (.ok (.lst ds), st) else none
  | .tup xs => (compL el cd tg env xs st).bind fun (ds, st) => if lineOk ds.length then some (.ok (.lst ds), st) else none
  | _ => none
/-- two clauses over frozen items -/
def comp2L (it2 el : Env → Store → Res) (i j : Nat) (env : Env) : List D → Store → Option (List D × Store)
  | [], st => some ([], st)
  | x :: xs, st => match it2 ((env.set j .no).set i (.val x)) st with
    | some (.ok src, st1) => (match src with
      | .lst ys => (match compL el (fun _ st => some (.ok (.bl true), st)) (.var j) ((env.set j .no).set i (.val x)) ys st1 with
        | some (ds, st2) => (match comp2L it2 el i j env xs st2 with
          | some (es, st3) => some (ds ++ es, st3)
          | none => none)
        | none => none)
      | _ => none)
    | _ => none

/-- what makes a new object of its own -/
def fresh : CE → Bool
  | .lst _ => true | .dic _ _ => true | .dit0 => true | .comp _ _ _ _ => true | .comp2 _ _ _ _ _ => true
  | .fn .list _ => true | .fn .sorted _ => true | .fn .sortedLen _ => true | .revl _ => true
  | _ => false
/-- for one look: an owned name is lent -/
def lend (a : CE) (env : Env) (st : Store) (r : Res) : Res := match a with
  | .var i => (slotB env i).map fun d => (.ok d, st)
  | _ => r
mutual
def evalE (o : Orc) : CE → Env → Store → Res
  | .var i, env, st => (slotV env i).map fun d => (.ok d, st)
  | .con d, _, st => some (.ok d, st)
  | .tup es, env, st => bndL (evalL o es env st) fun ds st => if lineOk ds.length then some (.ok (.tup ds), st) else none
  | .lst es, env, st => bndL (evalL o es env st) fun ds st => if lineOk ds.length then some (.ok (.lst ds), st) else none
  | .dic ks es, env, st => bndL (evalL o es env st) fun ds st => if decide (ks.length ≤ 15) && decide (ks.length = ds.length) && decide (ks.Nodup) then some (.ok (.dic ks ds), st) else none
  | .dit0, _, st => some (.ok (.dit [] []), st)
  | .bin op a b, env, st => bnd (lend a env st (evalE o a env st)) fun x st => bnd (lend b env st (evalE o b env st)) fun y st => (binD st op x y).map fun d => (.ok d, st)
  | .neg a, env, st => bnd (evalE o a env st) fun x st => match x with
    | .int i => some (.ok (.int (-i)), st)
    | _ => none
  | .cmp op a b, env, st => bnd (lend a env st (evalE o a env st)) fun x st => bnd (lend b env st (evalE o b env st)) fun y st => (cmpD st op x y).map fun d => (.ok (.bl d), st)
  | .cmp2 op op' a b c, env, st => bnd (evalE o a env st) fun x st => bnd (evalE o b env st) fun y st => match cmpD st op x y with
    | some true => bnd (evalE o c env st) fun z st => (cmpD st op' y z).map fun d => (.ok (.bl d), st)
    | some false => some (.ok (.bl false), st)
    | none => none
  | .and a b, env, st => bnd (evalE o a env st) fun x st => match x with
    | .bl true => evalE o b env st
    | .bl false => some (.ok (.bl false), st)
    | _ => none
  | .or a b, env, st => bnd (evalE o a env st) fun x st => match x with
    | .bl true => some (.ok (.bl true), st)
    | .bl false => evalE o b env st
    | _ => none
  | .not a, env, st => bnd (evalE o a env st) fun x st => match x with
    | .bl c => some (.ok (.bl (!c)), st)
    | _ => none
  | .ite t a b, env, st => bnd (evalE o t env st) fun x st => match x with
    | .bl true => evalE o a env st
    | .bl false => evalE o b env st
    | _ => none
  | .call f es, env, st => bndL (evalL o es env st) fun ds st => o.call f ds st
  | .make c f es, env, st => bndL (evalL o es env st) fun ds st => o.make c f ds st
  | .meth m r es, env, st => bnd (evalE o r env st) fun x st => match rd st x with
    | .ins c ns vs => (match lookS m ns vs, o.mid c m with
      | none, some f => bndL (evalL o es env st) fun ds st => o.call f (x :: ds) st
      | _, _ => none)
    | _ => none
  | .attr r f, env, st => bnd (evalE o r env st) fun x st => match rd st x with
    | .ins c ns vs => if o.fld c f then (lookS f ns vs).map fun d => (.ok d, st) else none
    | _ => none
  | .fn b a, env, st => bnd (lend a env st (evalE o a env st)) fun x st => match b, x with
    | .len, .ins c ns vs => (match o.mid c "__len__" with
      | some f => (match o.low f [.ins c ns vs] st with
        | some (.ok (.int n), st) => if decide (0 ≤ n) && decide (n < 2 ^ 63) then some (.ok (.int n), st) else none
        | _ => none)
      | none => none)
    | _, _ => (fnD st b x).map fun d => (.ok d, st)
  | .isi a t, env, st => bnd (evalE o a env st) fun x st => (isTy st t x).map fun b => (.ok (.bl b), st)
  | .idx r i, env, st => bnd (lend r env st (evalE o r env st)) fun x st => bnd (evalE o i env st) fun y st => (idxD st x y).map fun d => (.ok d, st)
  | .slc r lo hi, env, st => bnd (lend r env st (evalE o r env st)) fun x st => match lo, hi with
    | none, none => (slcD st x none none).map fun d => (.ok d, st)
    | some a, none => bnd (evalE o a env st) fun y st => (match y with
      | .int i => (slcD st x (some i) none).map fun d => (.ok d, st)
      | _ => none)
    | none, some b => bnd (evalE o b env st) fun y st => (match y with
      | .int i => (slcD st x none (some i)).map fun d => (.ok d, st)
      | _ => none)
    | some a, some b => bnd (evalE o a env st) fun y st => (match y with
      | .int i => bnd (evalE o b env st) fun z st => (match z with
        | .int j => (slcD st x (some i) (some j)).map fun d => (.ok d, st)
        | _ => none)
      | _ => none)
  | .rev r, env, st => bnd (lend r env st (evalE o r env st)) fun x st => (revD st x).map fun d => (.ok d, st)
  | .revl r, env, st => bnd (lend r env st (evalE o r env st)) fun x st => (match rd st x with
    | .lst ds => some (.ok (.lst ds.reverse), st)
    | _ => none)
  | .rng1 a, env, st => bnd (evalE o a env st) fun x st => (match x with
    | .int n => if smallI n && lineOk n.toNat then some (.ok (.lst (rngD 0 n)), st) else none
    | _ => none)
  | .rng2 a b, env, st => bnd (evalE o a env st) fun x st => bnd (evalE o b env st) fun y st => (match x, y with
    | .int i, .int j => if smallI i && smallI j then some (.ok (.lst (rngD i j)), st) else none
    | _, _ => none)
  | .enum a, env, st => bnd (evalE o a env st) fun x st => (match x with
    | .tup ds => some (.ok (.lst (enumD 0 ds)), st)
    | .lst ds => some (.ok (.lst (enumD 0 ds)), st)
    | _ => none)
  | .zip a b, env, st => bnd (evalE o a env st) fun x st => bnd (evalE o b env st) fun y st => (match x, y with
    | .tup ds, .tup es => some (.ok (.lst (zipD ds es)), st)
    | .lst ds, .lst es => some (.ok (.lst (zipD ds es)), st)
    | _, _ => none)
  | .comp el tg it c, env, st => bnd (lend it env st (evalE o it env st)) fun src st => match c with
    | none => compD (fun env st => evalE o el env st) (fun _ st => some (.ok (.bl true), st)) tg env src st
    | some c => compD (fun env st => evalE o el env st) (fun env st => evalE o c env st) tg env src st
  | .comp2 el i it j it2, env, st => bnd (lend it env st (evalE o it env st)) fun src st => match src with
    | .lst xs => (comp2L (fun env st => evalE o it2 env st) (fun env st => evalE o el env st) i j env xs st).bind fun (ds, st) => if lineOk ds.length then some (.ok (.lst ds), st) else none
    | .tup xs => (comp2L (fun env st => evalE o it2 env st) (fun env st => evalE o el env st) i j env xs st).bind fun (ds, st) => if lineOk ds.length then some (.ok (.lst ds), st) else none
    | _ => none
  | .mat a, env, st => if fresh a then bnd (evalE o a env st) fun x st => (match x with
    | .lst ds => some (.ok (.loc st.length), st ++ [.lst ds])
    | .dic ks ds => some (.ok (.loc st.length), st ++ [.dic ks ds])
    | .dit ks ds => some (.ok (.loc st.length), st ++ [.dit ks ds])
    | _ => none) else none
def evalL (o : Orc) : List CE → Env → Store → ResL
  | [], _, st => some (.ok [], st)
  | e :: es, env, st => bndE (evalE o e env st) fun d st => bndLL (evalL o es env st) fun ds st => some (.ok (d :: ds), st)
end

/-! ### statements -/
inductive Fl where
  | nxt | ret (d : D) | brk | cnt | ex (c : Str) (ns : List Str) (ds : List D)
abbrev ResS := Option (Fl × Env × Store)
def bS (env : Env) (m : Res) (k : D → Store → ResS) : ResS := match m with
  | some (.ok d, st) => k d st
  | some (.ex c ns ds, st) => some (.ex c ns ds, env, st)
  | none => none
def bSL (env : Env) (m : ResL) (k : List D → Store → ResS) : ResS := match m with
  | some (.ok d, st) => k d st
  | some (.ex c ns ds, st) => some (.ex c ns ds, env, st)
  | none => none
@[simp] theorem bS_ok (env d st k) : bS env (some (.ok d, st)) k = k d st := rfl
@[simp] theorem bS_ex (env c ns ds st k) : bS env (some (.ex c ns ds, st)) k = some (.ex c ns ds, env, st) := rfl
@[simp] theorem bS_none (env k) : bS env none k = none := rfl
@[simp] theorem bSL_ok (env d st k) : bSL env (some (.ok d, st)) k = k d st := rfl
@[simp] theorem bSL_ex (env c ns ds st k) : bSL env (some (.ex c ns ds, st)) k = some (.ex c ns ds, env, st) := rfl
@[simp] theorem bSL_none (env k) : bSL env none k = none := rfl
def ownable : D → Bool
  | .lst _ => true | .dic _ _ => true | .dit _ _ => true | _ => false
def put? (o : Bool) (e : CE) (i : Nat) (d : D) (env : Env) : Option Env :=
  if o then (if fresh e && ownable d then some (env.set i (.own d)) else none) else some (env.set i (.val d))
def unpSet : List Nat → List D → Env → Option Env
  | [], [], env => some env
  | i :: is, d :: ds, env => unpSet is ds (env.set i (.val d))
  | _, _, _ => none
def popL (ds : List D) (i : Int) : Option (D × List D) := match L2.ixN ds.length i with
  | some j => (match ds[j]? with
    | some d => some (d, ds.eraseIdx j)
    | none => none)
  | none => none
def setL (ds : List D) (i : Int) (v : D) : Option (List D) := match L2.ixN ds.length i with
  | some j => some (ds.set j v)
  | none => none
/-- an instance's field -/
def putS (f : Str) (v : D) : List Str → List D → List Str × List D
  | n :: ns, x :: xs => if n = f then (n :: ns, v :: xs) else let r := putS f v ns xs; (n :: r.1, x :: r.2)
  | _, _ => ([f], [v])
/-- the value at each key k -/
def setK {κ : Type} [DecidableEq κ] (k : κ) (v : D) : List κ → List D → List D
  | n :: ns, x :: xs => (if n = k then v else x) :: setK k v ns xs
  | _, xs => xs
def putG {κ : Type} [DecidableEq κ] (k : κ) (v : D) (ns : List κ) (xs : List D) : List κ × List D :=
  if (ns.any fun n => decide (n = k)) = true then (ns, setK k v ns xs) else (ns ++ [k], xs ++ [v])
/-- c[k] = v -/
def putD (c k v : D) : Option D := match c, k with
  | .lst ds, .int i => (setL ds i v).map .lst
  | .dic ks vs, .str x => if lineOk (ks.length + 1) then some (let r := putG x v ks vs; .dic r.1 r.2) else none
  | .dit ks vs, .tup t => (intsOf t).bind fun k => if lineOk (ks.length + 1) then some (let r := putG k v ks vs; .dit r.1 r.2) else none
  | _, _ => none
def lset (st : Store) (o : D) (g : D → Option D) : Option Store := match o with
  | .loc l => (match st[l]? with
    | some c => (g c).map fun c' => st.set l c'
    | none => none)
  | _ => none

def forL (tg : Tg) (b : Env → Store → ResS) : List D → Env → Store → ResS
  | [], env, st => some (.nxt, env, st)
  | x :: xs, env, st => match tgSet tg x env with
    | none => none
    | some env1 => match b env1 st with
      | some (.nxt, e, s) => forL tg b xs e s
      | some (.cnt, e, s) => forL tg b xs e s
      | some (.brk, e, s) => some (.nxt, e, s)
      | r => r
def forAt (tg : Tg) (b : Env → Store → ResS) (l : Nat) : Nat → Nat → Env → Store → ResS
  | 0, _, _, _ => none
  | n + 1, i, env, st => match st[l]? with
    | some (.lst xs) => (match xs[i]? with
      | none => some (.nxt, env, st)
      | some x => (match tgSet tg x env with
        | none => none
        | some env1 => match b env1 st with
          | some (.nxt, e, s) => forAt tg b l n (i + 1) e s
          | some (.cnt, e, s) => forAt tg b l n (i + 1) e s
          | some (.brk, e, s) => some (.nxt, e, s)
          | r => r))
    | _ => none
def whileL (t : Env → Store → Res) (b : Env → Store → ResS) : Nat → Env → Store → ResS
  | 0, _, _ => none
  | n + 1, env, st => bS env (t env st) fun d st => match d with
    | .bl true => (match b env st with
      | some (.nxt, e, s) => whileL t b n e s
      | some (.cnt, e, s) => whileL t b n e s
      | some (.brk, e, s) => some (.nxt, e, s)
      | r => r)
    | .bl false => some (.nxt, env, st)
    | _ => none

mutual
def execS (o : Orc) : CS → Env → Store → ResS
  | .ret e, env, st => bS env (evalE o e env st) fun d st => some (.ret d, env, st)
  | .retN, env, st => some (.ret .non, env, st)
  | .asg i w e, env, st => bS env (evalE o e env st) fun d st => (put? w e i d env).map fun env => (.nxt, env, st)
  | .asg2 i w j p a b, env, st => bS env (evalE o a env st) fun x st => bS env (evalE o b env st) fun y st =>
      ((put? w a i x env).bind (put? p b j y)).map fun env => (.nxt, env, st)
  | .unp is e, env, st => bS env (evalE o e env st) fun d st => match d with
    | .tup ds => (unpSet is ds env).map fun env => (.nxt, env, st)
    | _ => none
  | .ifs t a b, env, st => bS env (evalE o t env st) fun d st => match d with
    | .bl true => execL o a env st
    | .bl false => execL o b env st
    | _ => none
  | .for_ tg it b, env, st => bS env (evalE o it env st) fun src st => match src with
    | .loc l => forAt tg (fun env st => execL o b env st) l whileFuel 0 env st
    | .lst xs => forL tg (fun env st => execL o b env st) xs env st
    | .tup xs => forL tg (fun env st => execL o b env st) xs env st
    | _ => none
  | .whl t b, env, st => whileL (fun env st => evalE o t env st) (fun env st => execL o b env st) whileFuel env st
  | .expr e, env, st => bS env (evalE o e env st) fun _ st => some (.nxt, env, st)
  | .app i e, env, st => match env[i]? with
    | some (.own (.lst ds)) => bS env (evalE o e env st) fun d st => if lineOk (ds.length + 1) then some (.nxt, env.set i (.own (.lst (ds ++ [d]))), st) else none
    | _ => none
  | .ext i e, env, st => match env[i]? with
    | some (.own (.lst ds)) => bS env (lend e env st (evalE o e env st)) fun d st => (match rd st d with
      | .lst es => if lineOk (ds.length + es.length) then some (.nxt, env.set i (.own (.lst (ds ++ es))), st) else none
      | _ => none)
    | _ => none
  | .pop j i e, env, st => match env[i]? with
    | some (.own (.lst ds)) => bS env (match e with
      | none => some (.ok (.int (-1)), st)
      | some e => evalE o e env st) fun d st => (match d with
      | .int k => if smallI k then (popL ds k).map fun (x, ds') => (.nxt, (match j with
        | none => env.set i (.own (.lst ds'))
        | some j => (env.set i (.own (.lst ds'))).set j (.val x)), st) else none
      | _ => none)
    | _ => none
  | .appPop i j e, env, st => match env[i]?, env[j]? with
    | some (.own (.lst as)), some (.own (.lst ds)) => bS env (evalE o e env st) fun d st => (match d with
      | .int k => if smallI k && lineOk (as.length + 1) && decide (i ≠ j) then (popL ds k).map fun (x, ds') => (.nxt, (env.set j (.own (.lst ds'))).set i (.own (.lst (as ++ [x]))), st) else none
      | _ => none)
    | _, _ => none
  | .put i k v, env, st => bS env (evalE o v env st) fun x st => match env[i]? with
    | some (.own c) => bS env (evalE o k env st) fun y st => (putD c y x).map fun c' => (.nxt, env.set i (.own c'), st)
    | _ => none
  | .lapp r e, env, st => bS env (evalE o r env st) fun x st => match x with
    | .loc l => (match st[l]? with
      | some (.lst _) => bS env (evalE o e env st) fun d st => (match st[l]? with
        | some (.lst ds) => if lineOk (ds.length + 1) then some (.nxt, env, st.set l (.lst (ds ++ [d]))) else none
        | _ => none)
      | _ => none)
    | _ => none
  | .lpop j r, env, st => bS env (evalE o r env st) fun x st => match x with
    | .loc l => (match st[l]? with
      | some (.lst ds) => (popL ds (-1)).map fun (x, ds') => (.nxt, (match j with
        | none => env
        | some j => env.set j (.val x)), st.set l (.lst ds'))
      | _ => none)
    | _ => none
  | .lput r k v, env, st => bS env (evalE o v env st) fun d st => bS env (evalE o r env st) fun x st => bS env (evalE o k env st) fun y st =>
      (lset st x fun c => putD c y d).map fun st => (.nxt, env, st)
  | .lswap r k1 r2 k2 a b, env, st => bS env (evalE o a env st) fun x st => bS env (evalE o b env st) fun y st =>
      bS env (evalE o r env st) fun o1 st => bS env (evalE o k1 env st) fun i st => match lset st o1 fun c => putD c i x with
        | none => none
        | some st => bS env (evalE o r2 env st) fun o2 st => bS env (evalE o k2 env st) fun j st =>
          (lset st o2 fun c => putD c j y).map fun st => (.nxt, env, st)
  | .sat f e, env, st => bS env (evalE o e env st) fun d st => match env[0]? with
    | some (Slot.own (.ins c ns vs)) => if decide (ns.length < 1000) && o.fld c f then some (.nxt, env.set 0 (.own (let r := putS f d ns vs; .ins c r.1 r.2)), st) else none
    | _ => none
  | .frz i, env, st => match env[i]? with
    | some (.own d) => some (.nxt, env.set i (.val d), st)
    | _ => some (.nxt, env, st)
  | .rse c ns es, env, st => bSL env (evalL o es env st) fun ds st => some (.ex c ns ds, env, st)
  | .tryx b c s, env, st => match execL o b env st with
    | some (.ex c' ns ds, env, st) => if c' = c then execL o s env st else some (.ex c' ns ds, env, st)
    | r => r
  | .brk, env, st => some (.brk, env, st)
  | .cnt, env, st => some (.cnt, env, st)
  | .pass, env, st => some (.nxt, env, st)
  | .die, _, _ => none
def execL (o : Orc) : List CS → Env → Store → ResS
  | [], env, st => some (.nxt, env, st)
  | s :: ss, env, st => match execS o s env st with
    | some (.nxt, env, st) => execL o ss env st
    | r => r
end

/-! ### defs -/
structure FD where
  np : Nat
  ns : Nat
  body : List CS
  prim : Option (Orc → List D → Store → Res) := none
def start (fd : FD) (ds : List D) : Env := ds.map .val ++ List.replicate (fd.ns - fd.np) .no
def runF (T : List FD) (o : Orc) (f : Nat) (ds : List D) (st : Store) : Res := match T[f]? with
  | some fd => if ds.length = fd.np then (match fd.prim with
    | some p => p o ds st
    | none => (match execL o fd.body (start fd ds) st with
      | some (.ret d, _, st) => some (.ok d, st)
      | some (.nxt, _, st) => some (.ok .non, st)
      | some (.ex c ns ds, _, st) => some (.ex c ns ds, st)
      | _ => none)) else none
  | none => none
/-- an instance made: the __init__ runs over its own new object -/
def runMk (T : List FD) (o : Orc) (c : Str) (f : Nat) (ds : List D) (st : Store) : Res := match T[f]? with
  | some fd => if ds.length + 1 = fd.np then (match execL o fd.body (.own (.ins c [] []) :: (ds.map .val ++ List.replicate (fd.ns - fd.np) .no)) st with
    | some (.nxt, env, st) => (match env[0]? with
      | some (Slot.own (.ins c' ns vs)) => some (.ok (.ins c' ns vs), st)
      | _ => none)
    | some (.ex c ns ds, _, st) => some (.ex c ns ds, st)
    | _ => none) else none
  | none => none
def noOrc (mid : Str → Str → Option Nat) (fld : Str → Str → Bool) : Orc := ⟨fun _ _ _ => none, fun _ _ _ _ => none, fun _ _ _ => none, mid, fld⟩
/-- level by level; nothing runs at 0 and 1 -/
def lev (T : List FD) (mid : Str → Str → Option Nat) (fld : Str → Str → Bool) : Nat → Orc
  | 0 => noOrc mid fld
  | 1 => noOrc mid fld
  | n + 2 => ⟨runF T (lev T mid fld (n + 1)), match n with
      | 0 => fun _ _ _ _ => none
      | m + 1 => runMk T (lev T mid fld (m + 1)), match n with
      | 0 => fun _ _ _ => none
      | m + 1 => runF T (lev T mid fld (m + 1)), mid, fld⟩
end DI
/-! DI: from the model's syntax to the small one. -/
namespace DI
open PySem

/-- what is known of the text: callables by names, classes with their makers, constants -/
structure SI where
  fns : List (Str × Option Str)
  cls : List (Str × Nat)
  cons : List (Str × D)
  ps : List (List Str)
  eflds : List (Str × List Str)
/-- what is said of one def: its names, the owned ones, freezings by lines, new places of the store by (line, col), dicts whose keys are tuples -/
structure Hint where
  N : List Str
  own : List Nat := []
  frz : List (Nat × List Nat) := []
  mat : List (Nat × Nat × Nat) := []
  dit : List (Nat × Nat) := []
  lam : Bool := false

def isVis (sc : Scope) (x : Str) : Bool := match sc.names.lookup x with
  | some .local => true | some .cell => true | some .free => true | _ => false
def isGl (sc : Scope) (x : Str) : Bool := match sc.names.lookup x with
  | some .globalImplicit => true | _ => false
def isLoc (sc : Scope) (x : Str) : Bool := match sc.names.lookup x with
  | some .local => true | some .cell => true | _ => false
def isLoc1 (sc : Scope) (x : Str) : Bool := match sc.names.lookup x with
  | some .local => true | _ => false
def cBin : Operator → Option Bin
  | .Add => some .add | .Sub => some .sub | .Mult => some .mul | .FloorDiv => some .fdiv | .Mod => some .mod | .Pow => some .pow | .LShift => some .shl | .RShift => some .shr | .BitAnd => some .band | _ => none
def cCmp : CmpOp → Option Cmp
  | .Eq => some .eq | .NotEq => some .ne | .Lt => some .lt | .LtE => some .le | .Gt => some .gt | .GtE => some .ge | .In => some .in_ | .NotIn => some .notin | _ => none
def cOrd : CmpOp → Option Cmp
  | .Lt => some .lt | .LtE => some .le | .Gt => some .gt | .GtE => some .ge | _ => none
def cTy (x : Str) : Option Ty := if x = "int" then some .int else if x = "bool" then some .bool else if x = "str" then some .str else if x = "tuple" then some .tuple else if x = "list" then some .list else if x = "dict" then some .dict else none
def cFn (x : Str) : Option Fn := if x = "len" then some .len else if x = "tuple" then some .tuple else if x = "list" then some .list else if x = "int" then some .int else if x = "any" then some .any else if x = "all" then some .all else if x = "sum" then some .sum else if x = "sorted" then some .sorted else if x = "repr" then some .repr else none
def isName (x : Str) : Expr → Bool
  | .Name y _ => decide (x = y)
  | _ => false
/-- lambda s: (len(s), s) -/
def isLenKey : Expr → Bool
  | .Lambda a (.Tuple [.Call (.Name f _) [.Name x _] [] _, .Name y _] _ _) sc _ => decide (f = "len") && decide (x = y) && isGl sc "len" && isLoc1 sc x && decide (sc.kind = .function) && !sc.isCoroutine && !sc.isGenerator && !(x == ("__debug__" : Str)) && (sc.names.all fun y => !decide (y.2 = .cell) && !decide (y.2 = .free)) && (match a with
    | ⟨[], [⟨z, _, _⟩], none, [], [], none, []⟩ => decide (z = x)
    | _ => false)
  | _ => false
def strKeys : List (Option Expr) → Option (List Str)
  | [] => some []
  | some (.Constant (.str x) _ _) :: r => (strKeys r).map (x :: ·)
  | _ => none
def minus1 : Expr → Bool
  | .UnaryOp .USub (.Constant (.int 1) _ _) _ => true
  | _ => false
def isRange (sc : Scope) : Expr → Option Expr
  | .Call (.Name x _) [a] [] _ => if isGl sc x && decide (x = "range") then some a else none
  | _ => none
def ownIx (N : List Str) (x : Str) : Option Nat := N.idxOf? x

/-- no super() -/
def abC : Expr → Bool
  | .Call (.Name id _) [] [] _ => id != ("super" : Str)
  | _ => true
def tgIx : Tg → List Nat
  | .var i => [i] | .pair i j => [i, j]
/-- what gives pairs wants two names -/
def okTg : CE → Tg → Bool
  | .enum _, .var _ => false
  | .zip _ _, .var _ => false
  | _, _ => true
def isComp : Expr → Bool
  | .ListComp _ _ _ _ => true | .SetComp _ _ _ _ => true | .DictComp _ _ _ _ _ => true | _ => false
/-- the same places -/
def sameIx (a b : List Nat) : Bool := (a.all fun i => decide (i ∈ b)) && (b.all fun i => decide (i ∈ a))
/-- a list for sure -/
def isLst : CE → Bool
  | .fn .list _ => true | .fn .sorted _ => true | .lst _ => true | .comp _ _ _ _ => true | .comp2 _ _ _ _ _ => true | .mat a => isLst a | _ => false
section
variable (S : SI) (h : Hint)
def visIx (sc : Scope) (x : Str) : Option Nat := if isVis sc x then ownIx h.N x else none
def locIx (sc : Scope) (x : Str) : Option Nat := if isLoc sc x then ownIx h.N x else none
def locIx1 (sc : Scope) (x : Str) : Option Nat := if isLoc1 sc x then ownIx h.N x else none
def matd (p : Pos) (e : CE) : CE := if decide ((p.line, p.col, p.endCol) ∈ h.mat) && fresh e then .mat e else e
def cTg (sc : Scope) : Expr → Option Tg
  | .Name x _ => (locIx h sc x).map .var
  | .Tuple [.Name x _, .Name y _] _ _ => do
    let i ← locIx h sc x
    let j ← locIx h sc y
    if i ≠ j then some (.pair i j) else none
  | _ => none
/-- a comprehension's own names -/
def ownOf (scope : Scope) : List (Str × Nat) := scope.names.filterMap fun y => match y.2 with
  | .local => (ownIx h.N y.1).map fun i => (y.1, i)
  | .cell => (ownIx h.N y.1).map fun i => (y.1, i)
  | _ => none

mutual
def cE : Nat → Scope → Expr → Option CE
  | 0, _, _ => none
  | n + 1, sc, e => match e with
    | .Constant (.int i) _ _ => some (.con (.int i))
    | .Constant (.bool b) _ _ => some (.con (.bl b))
    | .Constant .none _ _ => some (.con .non)
    | .Constant (.str x) _ _ => some (.con (.str x))
    | .Name x _ => (match visIx h sc x with
      | some i => some (.var i)
      | none => if isGl sc x then (S.cons.lookup x).map .con else none)
    | .Tuple es _ _ => (cL n sc es).map .tup
    | .List es p => (cL n sc es).map fun es => matd h p (.lst es)
    | .Dict [] [] p => if (p.line, p.col) ∈ h.dit then some .dit0 else some (matd h p (.dic [] []))
    | .Dict ks es p => do
      let ks' ← strKeys ks
      let ces ← cL n sc es
      if decide (ks'.length ≤ 15) && decide (ks'.length = es.length) && !ks.isEmpty then some (matd h p (.dic ks' ces)) else none
    | .BinOp a op b p => do
      let op ← cBin op
      let a ← cE n sc a
      let b ← cE n sc b
      some (.bin op a b)
    | .UnaryOp .USub a _ => (cE n sc a).map .neg
    | .UnaryOp .Not a _ => (cE n sc a).map .not
    | .BoolOp .And [a, b] _ => do
      let a ← cE n sc a
      let b ← cE n sc b
      some (.and a b)
    | .BoolOp .And (a :: b :: c :: r) p => do
      let a ← cE n sc a
      let b ← cE n sc (.BoolOp .And (b :: c :: r) p)
      some (.and a b)
    | .BoolOp .Or [a, b] _ => do
      let a ← cE n sc a
      let b ← cE n sc b
      some (.or a b)
    | .BoolOp .Or (a :: b :: c :: r) p => do
      let a ← cE n sc a
      let b ← cE n sc (.BoolOp .Or (b :: c :: r) p)
      some (.or a b)
    | .Compare a [.Is] [.Constant .none _ _] _ => (cE n sc a).map fun a => .cmp .isN a (.con .non)
    | .Compare a [.IsNot] [.Constant .none _ _] _ => (cE n sc a).map fun a => .cmp .notN a (.con .non)
    | .Compare a [op] [b] _ => do
      let op ← cCmp op
      let a ← cE n sc a
      let b ← cE n sc b
      some (.cmp op a b)
    | .Compare a [op, op'] [b, c] _ => do
      let op ← cOrd op
      let op' ← cOrd op'
      let a ← cE n sc a
      let b ← cE n sc b
      let c ← cE n sc c
      some (.cmp2 op op' a b c)
    | .IfExp t a b _ => do
      let t ← cE n sc t
      let a ← cE n sc a
      let b ← cE n sc b
      some (.ite t a b)
    | .Call (.Name x _) [a, .Name t _] [] _ =>
      if isGl sc x && decide (x = "isinstance") && isGl sc t then do
        let t ← cTy t
        let a ← cE n sc a
        some (.isi a t)
      else cCall n sc x [a, .Name t ⟨0, 0, 0, 0⟩] e
    | .Call (.Name x _) [a] [] p =>
      if isGl sc x then (match cFn x with
        | some b => (match isRange sc a with
          | some q => if decide (b = .list) || decide (b = .tuple) then (cE n sc q).map fun q => matd h p (.fn b (.rng1 q)) else none
          | none => (cE n sc a).map fun a => matd h p (.fn b a))
        | none => cCall n sc x [a] e) else none
    | .Call (.Name x _) es [] _ => cCall n sc x es e
    | .Call (.Name x _) [a] [⟨some k, l, _⟩] _ => if isGl sc x && decide (x = "sorted") && decide (k = "key") && isLenKey l && h.lam then (cE n sc a).map fun a => .fn .sortedLen a else none
    | .Call (.Name x _) [] ks _ => if isGl sc x then (match S.fns.idxOf? (x, none) with
      | some f => (match S.ps[f]? with
        | some ps => if ks.map (·.arg) = ps.map some then (cL n sc (ks.map (·.value))).map (.call f) else none
        | none => none)
      | none => none) else none
    | .Call (.Attribute o m ap) es [] cp => if abC o && decide (es.length < 30) && (ap.endLine == cp.line) then do
        let o ← cE n sc o
        let es ← cL n sc es
        some (.meth m o es)
      else none
    | .Attribute o f _ => if abC o then (cE n sc o).map fun o => .attr o f else none
    | .Subscript o (.Slice none none (some st) _) p => if minus1 st then (cE n sc o).map fun o => if isLst o then matd h p (.revl o) else .rev o else none
    | .Subscript o (.Slice none none none _) _ => (cE n sc o).map fun o => .slc o none none
    | .Subscript o (.Slice (some a) none none _) _ => do
      let o ← cE n sc o
      let a ← cE n sc a
      some (.slc o (some a) none)
    | .Subscript o (.Slice none (some b) none _) _ => do
      let o ← cE n sc o
      let b ← cE n sc b
      some (.slc o none (some b))
    | .Subscript o (.Slice (some a) (some b) none _) _ => do
      let o ← cE n sc o
      let a ← cE n sc a
      let b ← cE n sc b
      some (.slc o (some a) (some b))
    | .Subscript o i _ => do
      let o ← cE n sc o
      let i ← cE n sc i
      some (.idx o i)
    | .ListComp el [⟨tg, it, ifs, 0⟩] scope p =>
      let sc' := L2.relS scope sc
      if L2.blkC h.N sc scope (ownOf h scope) then do
        let tg' ← cTg h scope tg
        let it ← cI n sc it
        let el ← cE n sc' el
        if okTg it tg' && sameIx (tgIx tg') ((ownOf h scope).map (·.2)) then (match ifs with
        | [] => some (matd h p (.comp el tg' it none))
        | [c] => (cE n sc' c).map fun c => matd h p (.comp el tg' it (some c))
        | _ => none) else none
      else none
    | .ListComp el [⟨.Name x _, it, [], 0⟩, ⟨.Name y _, it2, [], 0⟩] scope p =>
      let sc' := L2.relS scope sc
      if L2.blkC h.N sc scope (ownOf h scope) then do
        let i ← locIx h scope x
        let j ← locIx h scope y
        let it ← cI n sc it
        let it2 ← cI n sc' it2
        let el ← cE n sc' el
        if decide (i ≠ j) && okTg it (.var i) && okTg it2 (.var j) && sameIx [i, j] ((ownOf h scope).map (·.2)) then some (matd h p (.comp2 el i it j it2)) else none
      else none
    | _ => none
def cCall : Nat → Scope → Str → List Expr → Expr → Option CE
  | 0, _, _, _, _ => none
  | n + 1, sc, x, _, e => match e with
    | .Call (.Name y _) es [] _ => if isGl sc y then (match S.fns.idxOf? (y, none) with
      | some f => (cL n sc es).map (.call f)
      | none => (match S.cls.lookup y with
        | some f => (cL n sc es).map (.make y f)
        | none => none)) else none
    | _ => none
def cI : Nat → Scope → Expr → Option CE
  | 0, _, _ => none
  | n + 1, sc, e => match e with
    | .Call (.Name x _) [a] [] _ =>
      if isGl sc x && decide (x = "range") then (cE n sc a).map .rng1
      else if isGl sc x && decide (x = "enumerate") then (cE n sc a).map .enum
      else cE n sc e
    | .Call (.Name x _) [a, b] [] _ =>
      if isGl sc x && decide (x = "range") then do
        let a ← cE n sc a
        let b ← cE n sc b
        some (.rng2 a b)
      else if isGl sc x && decide (x = "zip") then do
        let a ← cE n sc a
        let b ← cE n sc b
        some (.zip a b)
      else cE n sc e
    | _ => cE n sc e
def cL : Nat → Scope → List Expr → Option (List CE)
  | 0, _, _ => none
  | n + 1, sc, es => match es with
    | [] => some []
    | e :: es => do
      let e ← cE n sc e
      let es ← cL n sc es
      some (e :: es)
end

def frzOf (p : Pos) : List CS := ((h.frz.lookup p.line).getD []).map .frz
def isOwn (i : Nat) : Bool := h.own.contains i
def nameIx (sc : Scope) : Expr → Option Nat
  | .Name x _ => locIx h sc x
  | _ => none
def namesIx (sc : Scope) : List Expr → Option (List Nat)
  | [] => some []
  | e :: es => do
    let i ← nameIx h sc e
    let is ← namesIx sc es
    some (i :: is)
/-- an owned name -/
def ownName (sc : Scope) (e : Expr) : Option Nat := match nameIx h sc e with
  | some i => if isOwn h i then some i else none
  | none => none

def cPop (n : Nat) (sc : Scope) (x : Str) (r : Expr) (es : List Expr) : Option (List CS) := do
  let j ← locIx h sc x
  match ownName h sc r, es with
  | some i, [] => some [.pop (some j) i none]
  | some i, [a] => (cE S h n sc a).map fun a => [.pop (some j) i (some a)]
  | none, [] => if abC r then (cE S h n sc r).map fun r => [.lpop (some j) r] else none
  | _, _ => none
def cApp (n : Nat) (sc : Scope) (r a : Expr) : Option (List CS) := match ownName h sc r with
  | some i => (cE S h n sc a).map fun a => [.app i a]
  | none => if abC r then do
    let r ← cE S h n sc r
    let a ← cE S h n sc a
    some [.lapp r a] else none
mutual
def cS : Nat → Scope → Stmt → Option (List CS)
  | 0, _, _ => none
  | n + 1, sc, s => (match s with
    | .Return none _ => some [CS.retN]
    | .Return (some e) _ => (cE S h n sc e).map fun e => [CS.ret e]
    | .Assign [.Name x px] (.Call (.Attribute r m ap) es [] cp) p =>
      if decide (m = "pop") && (ap.endLine == cp.line) then cPop S h n sc x r es
      else do
        let i ← locIx h sc x
        let e ← cE S h n sc (.Call (.Attribute r m ap) es [] cp)
        some [.asg i (isOwn h i) e]
    | .Assign [.Name x _] e _ => do
      let i ← locIx h sc x
      let e ← cE S h n sc e
      some [.asg i (isOwn h i) e]
    | .Assign [.Tuple [.Name x px, .Name y py] _ _] (.Tuple [a, b] _ _) _ => do
      let i ← locIx1 h sc x
      let j ← locIx1 h sc y
      let a' ← cE S h n sc a
      let b' ← cE S h n sc b
      if decide (i ≠ j) && decide (px.line = py.line) && !([a, b].all (foldedForSure 8)) && !([a, b].all (constantsAlone 8)) && (!isOwn h i || fresh a') && (!isOwn h j || fresh b') then some [.asg2 i (isOwn h i) j (isOwn h j) a' b'] else none
    | .Assign [.Tuple [.Subscript r1 k1 _, .Subscript r2 k2 _] _ _] (.Tuple [a, b] _ _) _ => do
      let r1' ← cE S h n sc r1
      let k1' ← cE S h n sc k1
      let r2' ← cE S h n sc r2
      let k2' ← cE S h n sc k2
      let a ← cE S h n sc a
      let b ← cE S h n sc b
      some [.lswap r1' k1' r2' k2' a b]
    | .Assign [.Subscript r k _] e _ => (match ownName h sc r with
      | some i => do
        let k ← cE S h n sc k
        let e ← cE S h n sc e
        some [.put i k e]
      | none => do
        let r ← cE S h n sc r
        let k ← cE S h n sc k
        let e ← cE S h n sc e
        some [.lput r k e])
    | .Assign [.Attribute (.Name x _) f _] e _ => if locIx h sc x = some 0 then (cE S h n sc e).map fun e => [.sat f e] else none
    | .If t a b _ => do
      let t ← cE S h n sc t
      let a ← cSs n sc a
      let b ← cSs n sc b
      some [.ifs t a b]
    | .For tg it b [] _ => do
      let tg ← cTg h sc tg
      let it ← cI S h n sc it
      let b ← cSs n sc b
      if okTg it tg then some [.for_ tg it b] else none
    | .While t b [] _ => do
      let t ← cE S h n sc t
      let b ← cSs n sc b
      some [.whl t b]
    | .Expr (.Call (.Attribute r m ap) [.Call (.Attribute r2 m2 ap2) [k] [] cp2] [] cp) _ =>
      if decide (m = "append") && decide (m2 = "pop") && (ap.endLine == cp.line) && (ap2.endLine == cp2.line) then do
        let i ← ownName h sc r
        let j ← ownName h sc r2
        let k ← cE S h n sc k
        some [.appPop i j k]
      else if decide (m = "append") && (ap.endLine == cp.line) then cApp S h n sc r (.Call (.Attribute r2 m2 ap2) [k] [] cp2) else none
    | .Expr (.Call (.Attribute r m ap) [a] [] cp) _ =>
      if decide (m = "append") && (ap.endLine == cp.line) then cApp S h n sc r a
      else if decide (m = "extend") && (ap.endLine == cp.line) then do
        let i ← ownName h sc r
        let a ← cE S h n sc a
        some [.ext i a]
      else none
    | .Expr (.Call (.Attribute r m ap) [] [] cp) _ =>
      if decide (m = "pop") && (ap.endLine == cp.line) && abC r then (cE S h n sc r).map fun r => [.lpop none r] else none
    | .Expr e _ => if isComp e then none else (cE S h n sc e).map fun e => [.expr e]
    | .Raise (some (.Call (.Name x _) [] [] _)) none _ => if isGl sc x && decide (S.eflds.lookup x = some []) then some [.rse x [] []] else some [.die]
    | .Raise _ _ _ => some [.die]
    | .Break _ => some [.brk]
    | .Continue _ => some [.cnt]
    | .Pass _ => some [.pass]
    | _ => none).map fun cs => frzOf h s.pos ++ cs
def cSs : Nat → Scope → List Stmt → Option (List CS)
  | 0, _, _ => none
  | n + 1, sc, ss => match ss with
    | [] => some []
    | s :: ss => do
      let a ← cS n sc s
      let b ← cSs n sc ss
      some (a ++ b)
end
end
end DI
/-! Rules that the layer lacks: len of an own instance, repr of a bool, sorted of a tuple, enumerate of a tuple. -/
set_option maxHeartbeats 2000000
namespace DIR
open PySem PySem.Spec PyProof.Rows L2
section
variable {X : Cx}
theorem call_repr_bool : CallR X (.builtin "repr") (fun xs H Q => ∃ b, xs = [.bl b] ∧ Q (.str (if b then ("True" : Str) else ("False" : Str))) H) := by
  intro pins s σ H xs us Q I r h
  obtain ⟨b, rfl, q⟩ := h
  cases r with
  | cons r rr =>
    cases rr
    cases r
    exact PySem.P.repr_of_bool ⟨.str _, H, I.tok _, ⟨_, rfl⟩, q⟩
/-- len(o), by an own __len__ that raises nothing -/
def rLenI (K : PySem.W.Frag) (C : Addr) (sp : Sp) : List V → Hp → VK → Prop := fun xs H Q => ∃ a dx fs, xs = [.ref a] ∧ H a = some (.ins C dx fs) ∧
  sp [.ref a] H (fun v H' => ∃ n : Int, v = .int n ∧ (0 ≤ n ∧ n < 2 ^ 63) ∧ Q (.int n) H') (fun _ _ _ => False)
theorem call_lenI {CX : CXT} {C f : Addr} {fd : FuncData} {ps : List Str} {sp : Sp} {k : Nat} (F : FnOk X.prog X.w X.K X.mg X.base CX k f fd ps sp) (hr : Room (k + 1) X.A) (hb : Binds X.K fd ps [])
    (hs : PySem.W.findIn X.K (.ref C) "__len__" = some (some (.ref f))) (hf : PySem.W.isFn X.K (.ref f) = true) (hx : Passes CX X (fun _ _ _ => False)) : CallR X (.builtin "len") (rLenI X.K C sp) := by
  intro pins s σ H xs us Q I r h
  obtain ⟨a, dx, fs, rfl, ha, h⟩ := h
  cases r with
  | cons r rr =>
    cases rr
    cases r
    obtain ⟨mA, J, _⟩ := ins_get I.hok ha
    obtain ⟨od, J, _⟩ := J.look
    obtain ⟨m, hF⟩ := I.fr
    refine PySem.W.len_K hF I.ok.mod.kin J hs hf ?_
    have hl := F.len _ _ _ _ h
    have r2 : Vals [V.ref a] [Value.ref a] := .cons rfl .nil
    refine wpAny_call (codeAny_mono (F.run X.A.in1 X.stack s H ⟨[.ref a], []⟩ [.ref a] [.ref a] _ _ hr.in1 (I.env0.in1) (by
      have := hb s [.ref a] I.kIn (by simpa using hl)
      simpa using this) r2 h) fun r s' hq => ?_)
    cases r with
    | error e => exact (hx pins σ H s e s' I hq)
    | ok fl =>
      cases fl with
      | ret w =>
        obtain ⟨z, H', I', rz, n, rfl, hn, q⟩ := I.after hq
        obtain ⟨t, rfl⟩ := rz
        show _ ∧ _
        exact ⟨hn, .int n, H', I'.tok _, ⟨_, rfl⟩, q⟩
      | next => exact False.elim hq
      | brk => exact False.elim hq
      | cont => exact False.elim hq
end
end DIR
namespace DIR
open PySem PySem.Spec PyProof.Rows L2
open PySem.Sem (wp)
open PySem.AutoSeq1 (wpAny_loadPart')
theorem meets_enumerate_newT (l : Addr) (items : Array Value) (n : Nat) (dct : Option Addr) (sl : Array (Option Value)) :
    Meets (Builtin.«enumerate.__new__» ⟨[.type "enumerate", .ref l], []⟩) (fun _ R s => s.heap.get? l = some { cls := .type "tuple", dict := dct, data := .seq items n, slots := sl } ∧
      R (.ok (.ret (.ref (s.heap.push { cls := .type "tuple_iterator", data := .fields #[.ref l, .int 0 0] }).objs.size)))
        { s with heap := (s.heap.push { cls := .type "tuple_iterator", data := .fields #[.ref l, .int 0 0] }).push { cls := .type "enumerate", data := .fields #[.none, .bool false, .ref s.heap.objs.size, rawInt 0, .none, .none] } }) :=
  .of_wp fun prog w A R s h => by
    obtain ⟨hp, g, d, tk, os⟩ := s; obtain ⟨hl, h⟩ := h
    have hsub := sub_enumerate
    have hL : Heap.IsTuple (Shared.heap ⟨hp, g, d, tk, os⟩) l items := ⟨_, hl, rfl, n, rfl⟩
    wp_walk using wpAny_loadPart' hl
    refine wpAny_stack_any fun st => wpAny_pure ?_
    split
    · rename_i c _ _ _ _ _
      cases (c == Value.type "enumerate")
      · wp_walk using wpAny_loadPart' hl, wpAny_pyIter_tuple hL
        exact ⟨_, rfl, h⟩
      · wp_walk using wpAny_loadPart' hl, wpAny_pyIter_tuple hL
        exact ⟨_, rfl, h⟩
    · wp_walk using wpAny_loadPart' hl, wpAny_pyIter_tuple hL
      exact ⟨_, rfl, h⟩
section
variable {prog : Program} {w : World} {A : Around} {E : Value → Shared → Prop} {s : Shared}
theorem call_enumerate_tup {l : Addr} {items : Array Value} {Q : Value → Shared → Prop} (hL : s.heap.IsTuple l items)
    (h : ∀ h', IsEnum h' (s.heap.objs.size + 1) s.heap.objs.size 0 .none → h'.IsTupleIter s.heap.objs.size l 0 → h'.objs.size = s.heap.objs.size + 2 →
      (∀ b o, s.heap.get? b = some o → h'.get? b = some o) → Q (.ref (s.heap.objs.size + 1)) { s with heap := h' }) :
    wpAny (model prog w) A (call (.type "enumerate") [.ref l]) Q E s := by
  obtain ⟨⟨c, dct, dt, sl⟩, hl, hc, n, hd⟩ := hL
  replace hc : c = .type "tuple" := hc
  replace hd : dt = .seq items n := hd
  subst hc hd
  refine callType_new F.called_enumerate (by decide) (F.typeCall_enumerate_1 _) (F.newCall_enumerate_1 _) (fun obj => F.args_object_init_2 obj _) F.entry_enumerate_new
    (meets_enumerate_newT l items n dct sl) ⟨hl, ?_⟩
  have hz : (s.heap.push { cls := .type "tuple_iterator", data := .fields #[.ref l, .int 0 0] }).objs.size = s.heap.objs.size + 1 := Heap.size_push ..
  show _ ∧ _
  rw [hz]
  have he : IsEnum ((s.heap.push { cls := .type "tuple_iterator", data := .fields #[.ref l, .int 0 0] }).push
      { cls := .type "enumerate", data := .fields #[.none, .bool false, .ref s.heap.objs.size, rawInt 0, .none, .none] }) (s.heap.objs.size + 1) s.heap.objs.size 0 .none := by
    have := Heap.get?_push_size (s.heap.push { cls := .type "tuple_iterator", data := .fields #[.ref l, .int 0 0] })
      (o := { cls := .type "enumerate", data := .fields #[.none, .bool false, .ref s.heap.objs.size, rawInt 0, .none, .none] }) rfl
    rw [hz] at this; exact this
  refine ⟨⟨_, he, rfl⟩, h _ he ⟨_, Heap.get?_push_of_some _ (Heap.get?_push_size _ rfl), rfl, rfl⟩ (by rw [Heap.size_push, hz]) fun b o x => Heap.get?_push_of_some _ (Heap.get?_push_of_some _ x)⟩
end
/-- the tuple at a, each item in a new pair -/
def IteT (K : PySem.W.Frag) (a : Addr) : It :=
  ⟨fun i H => ∃ (xs : List V) (x : V), SqT K H a xs ∧ xs[i]? = some x, fun i H v H' => ∃ T x, v = .ref T ∧ H T = none ∧ H' = upd H T (.tup [.int (i : Nat), x]) ∧ ∀ xs, SqT K H a xs → xs[i]? = some x, fun i H => ∃ xs : List V, SqT K H a xs ∧ xs.length = i⟩
theorem turn_enumT {P : Program} {w : World} {K : PySem.W.Frag} {elts : List Expr} {kk : Nat} {tpos : Pos} (a e it : Addr) (hae : a ≠ it) :
    Turn P w K (.Tuple elts kk tpos) (IteT K a) [e, it] e (fun i h => (∃ old, IsEnum h e it ((i : Nat) : Int) old) ∧ h.IsTupleIter it a i ∧ e ≠ it ∧ e ≠ a) where
  mem := by simp
  obj := fun i h st b hb => by
    obtain ⟨⟨old, he⟩, ⟨o, ho, hc, hd⟩, _⟩ := st
    have e' : b = e ∨ b = it := by simpa using hb
    rcases e' with z | z
    · rw [z]; exact ⟨_, he, fun v q => nomatch q⟩
    · rw [z]; exact ⟨o, ho, fun v q => by rw [hd] at q; cases q⟩
  keep := fun i h h' st k => let ⟨⟨old, he⟩, hi, hne⟩ := st; ⟨⟨old, k e (by simp) _ he⟩, hi.at fun o q => k it (by simp) o q, hne⟩
  item := by
    intro X hP hw hK hc i pins s σ H E I hf st hg
    subst hP hw hK
    obtain ⟨⟨old, he⟩, hit, hne, hea⟩ := st
    obtain ⟨xs, x, hq, hx⟩ := hg
    obtain ⟨its, rv, p, hz⟩ := I.tuple hq
    obtain ⟨u, hu, ru⟩ := rv.get hx
    have hel : e < s.heap.objs.size := Heap.lt_size he
    have hil : it < s.heap.objs.size := by obtain ⟨_, q, _⟩ := hit; exact Heap.lt_size q
    have D := Draws.tuple (prog := X.prog) (w := X.w) (A := X.A.in1) (I.ok.hd hc) it a hae its.toArray
    have hlen : i < its.toArray.size := by
      have := (List.getElem?_eq_some_iff.mp hx).1
      rw [List.size_toArray, ← rv.length]; exact this
    refine wpAny_pyNext_enum_itemD D he (And.intro hit p) hlen hne (by simp [hne, hea]) fun x' h' tk hP ho hit' hT hsz hk => ?_
    have ex : x' = u := by
      have q1 : its.toArray[i]? = some x' := hP
      have q2 : its.toArray[i]? = some u := by simpa using hu
      rw [q1] at q2; cases q2; rfl
    subst ex
    refine ⟨_, rfl, wpAny_letOwnedTupleGo_enum (s := { s with heap := h', toks := tk + 1 }) ho fun h'' he' sb => ?_⟩
    have hT2 : h''.get? s.heap.objs.size = some { cls := .type "tuple", data := .seq #[.int i tk, x'] } := (sb.2 _ (Nat.ne_of_gt hel)).trans hT
    have new : ObjOk X.prog X.w (upd H s.heap.objs.size (.tup [.int (i : Nat), x])) h'' s.heap.objs.size (.tup [.int (i : Nat), x]) :=
      ⟨by show 2 ≤ sizeLine; decide, [.int i tk, x'], .cons ⟨_, rfl⟩ (.cons ru .nil), ⟨_, hT2, rfl, _, rfl⟩⟩
    have I1 : Inv X pins σ (upd H s.heap.objs.size (.tup [.int (i : Nat), x])) { s with heap := h'', toks := tk + 1 } :=
      I.turnedNew (ch := [e, it]) (fun b ob hb q => (sb.2 b (fun z => hb (by simp [z]))).trans (hk b ob (fun z => hb (by simp [z])) (fun z => hb (by simp [z])) q)) hf (Nat.le_refl _) new
    refine ⟨.ref s.heap.objs.size, _, I1, rfl, ⟨_, x, rfl, I.hok.fresh (Nat.le_refl _), rfl, fun ys hy => by rw [I.tuple_inj hy hq]; exact hx⟩, ⟨⟨x', ?_⟩, hit'.1.at fun o q => (sb.2 it (Ne.symm hne)).trans q, hne, hea⟩, fun b hb => ?_⟩
    · have e1 : ((i + 1 : Nat) : Int) = (i : Int) + 1 := by omega
      rw [e1]; exact he'
    · have hb' : b < s.heap.objs.size := by
        have e' : b = e ∨ b = it := by simpa using hb
        rcases e' with z | z
        · rw [z]; exact hel
        · rw [z]; exact hil
      rw [upd_ne (Nat.ne_of_lt hb')]
      exact (hf b hb).1
  done := by
    intro X hP hw hK hc i pins s σ H E I hf st hg
    subst hP hw hK
    obtain ⟨⟨old, he⟩, hit, hne, hea⟩ := st
    obtain ⟨xs, hq, hx⟩ := hg
    obtain ⟨its, rv, p, hz⟩ := I.tuple hq
    obtain ⟨f0, f1, f2, f3, f4, f5⟩ := hf it (by simp)
    have hl : i = its.toArray.size := by rw [List.size_toArray, ← rv.length]; exact hx.symm
    subst hl
    have D := Draws.tuple (prog := X.prog) (w := X.w) (A := X.A.in1) (I.ok.hd hc) it a hae its.toArray
    exact wpAny_pyNext_enum_endD D he (And.intro hit p) fun h' eb => ⟨rfl, I.turned (t' := s.toks) (fun b o hb q => eb b o hb q) f0 f1 f3 f4 f5⟩
  self := fun A i s Q E st h => let ⟨⟨_, he⟩, _⟩ := st; wpAny_pyIter_enum he h
/-- enumerate of a list or a tuple -/
def iEnumA (K : PySem.W.Frag) (ta : TA) : TI := fun σ H R => ta σ H fun vs H1 => ∃ a xs, vs = [.ref a] ∧ ((SqL K H1 a xs ∧ R (Ite K a) H1) ∨ (SqT K H1 a xs ∧ R (IteT K a) H1))
theorem pi_enumA {X : Cx} {e : Expr} {ta : TA} {p pos tpos : Pos} {elts : List Expr} {kk : Nat} (hg : Gl X "enumerate") (hm : X.mg "enumerate" = none) (ha : PA X [e] ta) (hs : starEach [e] X.env = [(false, eval e X.env)]) :
    PI X (.Tuple elts kk tpos) (.Call (.Name "enumerate" p) [e] [] pos) (iEnumA X.K ta) := by
  refine ⟨fun pins s σ H R I h => ?_⟩
  refine Call_ (ld_blt I hg hm boot_enumerate (PyProof.Rows.callWith_type1 (thn (ha.run pos pins s σ H _ I h) fun us s1 ⟨vs, H1, I1, r1, q1⟩ => ?_) hs rfl))
  obtain ⟨a, xs, ex, q1⟩ := q1
  subst ex
  have fresh2 : ∀ b, b ∈ [s1.heap.objs.size + 1, s1.heap.objs.size] → FpOk X pins H1 b := fun b hb => by
    have e' : b = s1.heap.objs.size + 1 ∨ b = s1.heap.objs.size := by simpa using hb
    have hle : s1.heap.objs.size ≤ b := by
      rcases e' with z | z
      · rw [z]; exact Nat.le_add_right _ _
      · rw [z]; exact Nat.le_refl _
    exact I1.fpOk hle (I1.hok.fresh hle)
  cases r1 with
  | cons r rr =>
    cases rr
    cases r
    rcases q1 with ⟨hq, q⟩ | ⟨hq, q⟩
    · obtain ⟨its, rv, p', hz⟩ := I1.list hq
      refine call_enumerate_list p'.isList fun h' he hit hsz hk => wpAny_pyIter_enum he ?_
      have I2 : Inv X pins σ H1 { s1 with heap := h' } := I1.kept (t' := s1.toks) hk
      exact ⟨s1.heap.objs.size + 1, [s1.heap.objs.size + 1, s1.heap.objs.size], _, _, H1, rfl, I2, turn_enum a (s1.heap.objs.size + 1) s1.heap.objs.size, ⟨⟨.none, he⟩, hit, Nat.succ_ne_self _⟩, fresh2, q⟩
    · obtain ⟨its, rv, p', hz⟩ := I1.tuple hq
      obtain ⟨o, ho, _⟩ := id p'
      have al : a < s1.heap.objs.size := Heap.lt_size ho
      refine call_enumerate_tup (show s1.heap.IsTuple a its.toArray from p') fun h' he hit hsz hk => wpAny_pyIter_enum he ?_
      have I2 : Inv X pins σ H1 { s1 with heap := h' } := I1.kept (t' := s1.toks) hk
      exact ⟨s1.heap.objs.size + 1, [s1.heap.objs.size + 1, s1.heap.objs.size], _, _, H1, rfl, I2, turn_enumT a (s1.heap.objs.size + 1) s1.heap.objs.size (Nat.ne_of_lt al), ⟨⟨.none, he⟩, hit, Nat.succ_ne_self _, Nat.ne_of_gt (Nat.lt_succ_of_lt al)⟩, fresh2, q⟩
end DIR

namespace DIR
open PySem PySem.Spec PyProof.Rows L2
section
variable {prog : Program} {w : World} {A : Around} {E : Value → Shared → Prop} {s : Shared}
theorem sliceApplied_rev {sl : Addr} {vl vu vs : Value} {n : Nat} {Q : Int × Int × Nat → Shared → Prop} (hs : s.heap.IsSliceOf sl vl vu vs) (pl : IsPart vl none) (pu : IsPart vu none) (ps : IsPart vs (some (-1)))
    (h : Q ((n : Int) - 1, -1, n) s) : wpAny (model prog w) A (Builtin.Slice.sliceApplied (.ref sl) (pure (n : Int))) Q E s := by
  obtain ⟨os, hos, hcs, hds⟩ := id hs
  unfold Builtin.Slice.sliceApplied Builtin.Slice.sliceFields
  refine wpAny_bind (wpAny_bind (wpAny_field hos hds (x := vl) rfl (wpAny_bind (wpAny_field hos hds (x := vu) rfl (wpAny_bind (wpAny_field hos hds (x := vs) rfl (wpAny_pure ?_)))))))
  refine wpAny_bind (HT.slicePart_ ps ?_)
  show wpAny _ _ (if ((-1 : Int) == 0) = true then _ else _) _ _ s
  rw [if_neg (by decide)]
  refine wpAny_bind (HT.slicePart_ pl (wpAny_bind (HT.slicePart_ pu (wpAny_bind (wpAny_pure ?_)))))
  have e1 : Builtin.Slice.sliceAdjust none none (-1) (n : Int) = ((n : Int) - 1, -1) := by
    unfold Builtin.Slice.sliceAdjust
    rfl
  have e2 : Builtin.Slice.slicePlaces ((n : Int) - 1) (-1) (-1) = n := by
    unfold Builtin.Slice.slicePlaces
    simp
    try (split <;> omega)
  show wpAny _ _ (match Builtin.Slice.sliceAdjust none none (-1) (n : Int) with | (lo, hi) => pure (lo, (-1 : Int), Builtin.Slice.slicePlaces lo hi (-1))) _ _ s
  rw [e1]
  show wpAny _ _ (pure ((n : Int) - 1, (-1 : Int), Builtin.Slice.slicePlaces ((n : Int) - 1) (-1) (-1))) _ _ s
  rw [e2]
  exact wpAny_pure h
theorem fm_map {α β : Type} {f : α → Option β} {g : α → β} : ∀ {l : List α}, (∀ x ∈ l, f x = some (g x)) → l.filterMap f = l.map g
  | [], _ => rfl
  | x :: l, h => by
    rw [List.filterMap_cons, h x List.mem_cons_self, List.map_cons, fm_map fun y hy => h y (List.mem_cons_of_mem _ hy)]
theorem pick_rev (xs : Array Value) : ((List.range xs.size).filterMap fun (m : Nat) => xs[(((xs.size : Nat) : Int) - 1 + (m : Int) * (-1)).toNat]?).toArray = xs.toList.reverse.toArray := by
  congr 1
  apply List.ext_getElem?
  intro i
  have e : (List.range xs.size).filterMap (fun (m : Nat) => xs[(((xs.size : Nat) : Int) - 1 + (m : Int) * (-1)).toNat]?) = (List.range xs.size).map (fun m => xs.toList.reverse.getD m .none) := by
    refine fm_map fun m hm => ?_
    have hm := List.mem_range.mp hm
    have e1 : (((xs.size : Nat) : Int) - 1 + (m : Int) * (-1)).toNat = xs.size - 1 - m := by omega
    have h2 : xs.size - 1 - m < xs.size := by omega
    rw [e1]
    rw [Array.getElem?_eq_getElem h2, List.getD_eq_getElem?_getD, List.getElem?_reverse (by simpa using hm)]
    simp [h2]
  rw [e]
  by_cases hi : i < xs.size
  · rw [List.getElem?_map, List.getElem?_range hi]
    simp [hi]
  · rw [List.getElem?_eq_none (by simpa using hi), List.getElem?_eq_none (by simpa using hi)]
theorem getItem_tuple_rev {t sl : Addr} {items : Array Value} {vl vu vs : Value} {Q : Value → Shared → Prop} (ht : IsTup s.heap t items) (hs : s.heap.IsSliceOf sl vl vu vs) (pl : IsPart vl none) (pu : IsPart vu none) (ps : IsPart vs (some (-1)))
    (h : Q (.ref s.heap.objs.size) { s with heap := s.heap.push { cls := .type "tuple", data := .seq items.toList.reverse.toArray } })
    (hsz : items.size ≤ sizeLine) : wpAny (model prog w) A (getItem (.ref t) (.ref sl)) Q E s := by
  have htake : sizeOk (.seq items.toList.reverse.toArray) := by
    show items.toList.reverse.toArray.size ≤ sizeLine
    rw [List.size_toArray, List.length_reverse, Array.length_toList]
    omega
  obtain ⟨os, hos, hcs, hds⟩ := id hs
  have hTs : s.TypeIs (.ref sl) "slice" := ⟨os, hos, hcs⟩
  unfold getItem
  try with_reducible refine wpAny_holding ?_
  first | refine wpAny_bind (wpAny_pure ?_) | skip
  refine wpAny_bind (wpAny_sequenceKey ht.typeIs (by decide) ?_)
  refine wpAny_bind (wpAny_callSpecial?_slot (name := Str.ofString "__getitem__") ht.typeIs PyProof.Rows.slot_tuple_getitem
    (wpAny_call_entry PyProof.Rows.slot_tuple_getitem ht.typeIs entry_tuple_getitem ?_ (args_tuple_getitem _ _)))
  show wpAny _ _ (Builtin.Tuple.tupleItemsOf (.ref t) >>= _) _ _ s
  refine wpAny_bind (tupleItemsOf_ ht ?_)
  refine wpAny_bind (wpAny_typeOf hTs ?_)
  rw [if_pos (by decide)]
  refine wpAny_bind (sliceApplied_rev hs pl pu ps ?_)
  have hno : ¬ (((items.size : Int) - 1 == 0 && (-1 : Int) == 1 && items.size == items.size) = true) := by
    intro q
    rw [Bool.and_eq_true, Bool.and_eq_true] at q
    exact absurd q.1.2 (by decide)
  show wpAny _ _ (if ((items.size : Int) - 1 == 0 && (-1 : Int) == 1 && items.size == items.size) = true then _ else _) _ _ s
  rw [if_neg hno, pick_rev]
  first
    | exact wpAny_bind (m := Builtin.Tuple.tupleExact _) (wpAny_newObj_type (wpAny_pure ⟨_, rfl, wpAny_pure h⟩) htake)
    | exact wpAny_bind (m := Builtin.Tuple.tupleExact _) (wpAny_newObj_type (wpAny_bind (wpAny_pure (wpAny_pure ⟨_, rfl, wpAny_pure h⟩))) htake)
    | exact wpAny_bind (wpAny_bind (m := Builtin.Tuple.tupleExact _) (wpAny_newObj_type (wpAny_pure (wpAny_pure ⟨_, rfl, wpAny_pure h⟩)) htake))
    | exact wpAny_bind (wpAny_bind (m := Builtin.Tuple.tupleExact _) (wpAny_newObj_type (wpAny_pure ⟨_, rfl, wpAny_pure h⟩) htake))
end
/-- x[::-1], a list or a tuple -/
def tRevA (K : PySem.W.Frag) (te : TE) : TE := fun σ H Q => te σ H fun x H1 => ∃ a xs, x = .ref a ∧ ((SqL K H1 a xs ∧ ∀ p, H1 p = none → Q (.ref p) (upd H1 p (.lst xs.reverse))) ∨ (SqT K H1 a xs ∧ ∀ p, H1 p = none → Q (.ref p) (upd H1 p (.tup xs.reverse))))
theorem pe_revA {X : Cx} {e : Expr} {te : TE} {k : Nat} {p1 p2 p3 pos : Pos} (he : PE X e te) : PE X (.Subscript e (.Slice none none (some (.UnaryOp .USub (.Constant (.int 1) k p1) p2)) p3) pos) (tRevA X.K te) := by
  refine ⟨fun pins s σ H Q I h => ?_⟩
  refine Subscript_ (thn (he.run pins s σ H _ I h) fun v s1 ⟨x, H1, I1, r1, q1⟩ => ?_)
  obtain ⟨a, xs, ex, q⟩ := q1
  subst ex
  cases r1
  have hst : PO X (some (.UnaryOp .USub (.Constant (.int 1) k p1) p2)) (tPart (tUn (rU fun i => .int (-i)) (tC (.int 1)))) := po_some (pe_un un_neg pe_int)
  refine wpAny_Slice (thn (po_none.run pins s1 σ H1 (fun o H2 => o = none ∧ H2 = H1) I1 ⟨rfl, rfl⟩) fun vl s2 ⟨l, H2, I2, pl, el, e2⟩ => ?_)
  subst el e2
  refine thn (po_none.run pins s2 σ H2 (fun o H3 => o = none ∧ H3 = H2) I2 ⟨rfl, rfl⟩) fun vu s3 ⟨u, H3, I3, pu, eu, e3⟩ => ?_
  subst eu e3
  refine thn (hst.run pins s3 σ H3 (fun o H4 => o = some (-1) ∧ H4 = H3) I3 ⟨1, rfl, -1, rfl, rfl, rfl⟩) fun vs s4 ⟨o, H4, I4, ps, eo, e4⟩ => ?_
  subst eo e4
  have I5 : Inv X pins σ H4 { s4 with heap := s4.heap.push { cls := .type "slice", data := .fields #[vl, vu, vs] } } := I4.kept (t' := s4.toks) fun b ob q => Heap.get?_push_of_some _ q
  show wpAny (model X.prog X.w) X.A (subscriptTail e (.Slice none none (some (.UnaryOp .USub (.Constant (.int 1) k p1) p2)) p3) (.ref a) (.ref s4.heap.objs.size)) (EP X pins σ Q) X.xe { s4 with heap := s4.heap.push { cls := .type "slice", data := .fields #[vl, vu, vs] } }
  rcases q with ⟨hx, q⟩ | ⟨hx, q⟩
  · obtain ⟨its, r, ht, hz⟩ := I5.list hx
    have hlen := r.length
    refine tail_any (ops := [.ref a, .ref s4.heap.objs.size]) ht.isList.typeIs (PySem.slot_list_getitem.lookup) ?_ (by with_unfolding_all rfl)
    refine wpAny_getItem_list_slice ht.isList (Heap.IsSliceOf.new _ vl vu vs) pl pu ps (by decide) ?_ (by rw [List.size_toArray]; omega)
    rw [PySem.W.krv_pick]
    refine ⟨.ref _, _, I5.laid (t' := s4.toks) (o := .lst xs.reverse) (fun b ob q => Heap.get?_push_of_some _ q) (Nat.le_refl _) ?_, rfl, q _ (I5.hok.fresh (Nat.le_refl _))⟩
    exact ⟨by rw [List.length_reverse]; exact hz, _, 0, r.reverse, Heap.get?_push_size _ rfl⟩
  · obtain ⟨its, r, ht, hz⟩ := I5.tuple hx
    have hlen : its.toArray.size = xs.length := by rw [List.size_toArray]; exact r.length.symm
    refine tail_any (ops := [.ref a, .ref s4.heap.objs.size]) ht.typeIs PyProof.Rows.slot_tuple_getitem.lookup ?_ (by with_unfolding_all rfl)
    refine getItem_tuple_rev ht (Heap.IsSliceOf.new _ vl vu vs) pl pu ps ?_ (by rw [hlen]; exact hz)
    refine ⟨.ref _, _, I5.laid (t' := s4.toks) (o := .tup xs.reverse) (fun b ob q => Heap.get?_push_of_some _ q) (Nat.le_refl _) ?_, rfl, q _ (I5.hok.fresh (Nat.le_refl _))⟩
    exact ⟨by rw [List.length_reverse]; exact hz, _, r.reverse, IsTup.new _ _⟩
end DIR

namespace DIR
open PySem PyProof.Rows Srt SrtO
section
variable {prog : Program} {w : World} {A : Around} {E : Value → Shared → Prop} {s : Shared}
theorem collect_tup {l : Addr} {vs : List Value} {Q : List Value → Shared → Prop} (hl : s.heap.IsTuple l vs.toArray)
    (h : Q vs { s with heap := (s.heap.push (seqObj "list" #[] 0)).update s.heap.objs.size (Obj.mapSeq (· ++ vs.toArray)) }) (hsz : vs.length ≤ sizeLine) :
    wpAny (model prog w) A (collect (.ref l)) Q E s := by
  obtain ⟨o, ho, hc, n, hd⟩ := id hl
  unfold collect
  refine wpAny_bind (wpAny_runValue (codeAny_builtin entry_proto_collect' ?_))
  show wpAny _ _ (do again (.builtin "list.__iadd__" ⟨[← newList [], .ref l], []⟩)) _ _ s
  refine wpAny_bind (wpAny_newList (wpAny_pure ⟨Code.quiet_builtin _ (by decide +kernel), codeAny_builtin entry_list_iadd' ?_⟩))
  show wpAny _ _ (Builtin.List.listExtendWith (.ref s.heap.objs.size) (.ref l) (.ref s.heap.objs.size)) _ _ { s with heap := s.heap.push (seqObj "list" #[] 0) }
  unfold Builtin.List.listExtendWith
  have ho' : (s.heap.push (seqObj "list" #[] 0)).get? l = some o := Heap.get?_push_of_some _ ho
  refine wpAny_bind (wpAny_typeOf (T := "tuple") ⟨o, ho', hc⟩ ?_)
  have ht : (Value.type "tuple" == Value.type "tuple") = true := by rfl
  rw [if_pos (by rw [ht]; simp)]
  refine wpAny_bind (listItems_at ho' hd ?_)
  refine wpAny_bind (listItems_at (xs := #[]) (n := 0) (Heap.get?_push_size _ rfl) rfl ?_)
  rw [if_neg (by simp)]
  refine wpAny_bind (listUpdate_at (xs := #[]) (n := 0) (Heap.get?_push_size _ rfl) rfl ?_ (Nat.zero_le _) (by show (#[] ++ vs.toArray).size ≤ sizeLine + 1; simp only [Array.size_append, List.size_toArray, List.length_nil]; omega))
  refine wpAny_pure ?_
  show wpAny (model prog w) A (do
      let o ← load s.heap.objs.size
      match o.data with
      | .seq xs _ => pure xs.toList
      | _ => unsupported "internal:collect") Q E { s with heap := (s.heap.push (seqObj "list" #[] 0)).update s.heap.objs.size (Obj.mapSeq (· ++ vs.toArray)) }
  refine wpAny_bind (wpAny_load (get?_update_seq (Heap.get?_push_size _ rfl) _) ?_)
  show wpAny _ _ (pure ((#[] : Array Value) ++ vs.toArray).toList) Q E _
  exact wpAny_pure (by simpa using h)
theorem sorted_ordT {l : Addr} {vs : List Value} {ltv : Value → Value → Bool} {Q : Value → Shared → Prop} (O : Swo ltv) (hl : s.heap.IsTuple l vs.toArray) (hz : vs.length ≤ sizeLine)
    (hS : 2 ≤ vs.length → ∀ (h₁ : Heap) (a : Addr), h₁.get? a = some (seqObj "list" vs.toArray 0) → (∀ b o, s.heap.get? b = some o → b ≠ a ∧ h₁.get? b = some o) → SortableO prog w A.in1.in1 { s with heap := h₁ } a vs ltv)
    (h : ∀ out : List Value, Srtd ltv out → Stb ltv out vs → Q (.ref (s.heap.objs.size + 1)) { s with heap := sortedAll s.heap vs out.toArray }) :
    wpAny (model prog w) A (call (.builtin "sorted") [.ref l]) Q E s := by
  refine Calls.call_function_entry kind_sorted plain_sorted entry_sorted (args_sorted1 _) ?_
  unfold Builtin.«sorted»
  refine wpAny_bind (m := checkCount "sorted" 1 1 _) (wpAny_pure ?_)
  refine wpAny_bind (collect_tup hl ?_ hz)
  refine wpAny_bind (wpAny_newList ?_ hz)
  have hsz : ((s.heap.push (seqObj "list" #[] 0)).update s.heap.objs.size (Obj.mapSeq (· ++ vs.toArray))).objs.size = s.heap.objs.size + 1 := by
    rw [Heap.size_update, size_push']
  have hoL : (((s.heap.push (seqObj "list" #[] 0)).update s.heap.objs.size (Obj.mapSeq (· ++ vs.toArray))).push (seqObj "list" vs.toArray 0)).get? (s.heap.objs.size + 1) = some (seqObj "list" vs.toArray 0) := by
    rw [← hsz]; exact Heap.get?_push_size _ rfl
  have keep : ∀ b o, s.heap.get? b = some o → b ≠ s.heap.objs.size + 1 ∧ (((s.heap.push (seqObj "list" #[] 0)).update s.heap.objs.size (Obj.mapSeq (· ++ vs.toArray))).push (seqObj "list" vs.toArray 0)).get? b = some o := fun b o q => by
    have hlt : b < s.heap.objs.size := Heap.lt_size q
    refine ⟨Nat.ne_of_lt (Nat.lt_succ_of_lt hlt), Heap.get?_push_of_some _ ?_⟩
    rw [Heap.get?_update_ne _ _ _ _ (Nat.ne_of_lt hlt)]
    exact Heap.get?_push_of_some _ q
  show wpAny _ _ _ _ _ { s with heap := ((s.heap.push (seqObj "list" #[] 0)).update s.heap.objs.size (Obj.mapSeq (· ++ vs.toArray))).push (seqObj "list" vs.toArray 0) }
  rw [hsz]
  refine wpAny_bind (wpAny_holding (wpAny_call_entry slot_list_sort ⟨_, hoL, rfl⟩ entry_list_sort (list_sort_ord O hoL hz (fun h2 => hS h2 _ _ hoL keep) fun out hs hb => ⟨_, rfl, ?_⟩) (args_list_sort _)))
  exact wpAny_pure ⟨_, rfl, h out hs hb⟩
end
end DIR
namespace DIR
open PySem PySem.Spec PyProof.Rows L2
section
variable {X : Cx}
theorem cr_sortedIT : CallR X (.builtin "sorted") (fun vs H Q => ∃ (a : Addr) (ns : List Int), vs = [V.ref a] ∧ SqT X.K H a (ns.map V.int) ∧
  ∀ (ns' : List Int) (p : Addr), ns'.Perm ns → ns'.Pairwise (· ≤ ·) → H p = none → Q (.ref p) (upd H p (.lst (ns'.map V.int)))) := by
  intro pins s σ H vs us Q I r h
  obtain ⟨a, ns, rfl, hs, q⟩ := h
  obtain ⟨its, rv, hl, hz⟩ := I.tuple hs
  rw [Vals.ref1 r]
  have hi := rv.ints
  refine sorted_ordT SrtO.swo_int (show s.heap.IsTuple a its.toArray from hl) (by rw [← rv.length]; exact hz) (fun h2 h₁ a' _ _ => SrtO.ints_sortable hi h2) fun out h1 h2 => ?_
  obtain ⟨k1, k2, k3⟩ := SrtO.ints_out hi h1 h2
  obtain ⟨ep, he'⟩ := PyProof.Rows.sortedAll_at s.heap its out.toArray
  have hlen : ((out.map SrtO.iv).map V.int).length ≤ sizeLine := by
    rw [List.length_map, k2.length_eq]
    rw [List.length_map] at hz
    exact hz
  exact ⟨.ref _, upd H (s.heap.objs.size + 1) (.lst ((out.map SrtO.iv).map V.int)), I.laid (t' := s.toks) (fun _ _ => PyProof.Rows.sortedAll_old) (Nat.le_succ _) ⟨hlen, out, ep, vals_of_ints k1, he'⟩, rfl, q _ _ k2 k3 (I.hok.fresh (Nat.le_succ _))⟩
end
end DIR
namespace DIR
open PySem PySem.Spec PyProof.Rows L2
/-- xs.extend(ys), ys a list, locked or not -/
def rExtR : V → List V → Hp → VK → Prop := fun x vs H Q => ∃ l b xs zs, x = .ref l ∧ vs = [.ref b] ∧ H l = some (.lst xs) ∧ Rd H b (.lst zs) ∧ xs.length + zs.length ≤ sizeLine ∧ Q .non (upd H l (.lst (xs ++ zs)))
theorem mt_extR {X : Cx} : MtM X "list.extend" rExtR := by
  intro pins s σ H x vs v us Q I rx rv h
  obtain ⟨l, b, xs, zs, rfl, rfl, hH, hB, hz, q⟩ := h
  rcases hB with hB | ⟨o, hB⟩
  · exact mt_extend pins s σ H _ _ v us Q I rx rv ⟨l, b, xs, zs, rfl, rfl, hH, hB, hz, q⟩
  · cases rx
    obtain ⟨u, rfl, ru⟩ := rv.one
    cases ru
    obtain ⟨z, its, n, r, hl, e⟩ := I.lstM hH
    obtain ⟨_, z2, its2, n2, r2, e2⟩ := I.hok b _ hB
    have hl2 := r2.length
    have hsz : its.toArray.size + its2.toArray.size ≤ sizeLine := by rw [List.size_toArray, List.size_toArray]; omega
    have hlong : ¬ (!its.toArray.isEmpty && Builtin.List.listTooLong (its.toArray.size + its2.toArray.size)) = true := by
      rw [notLongL hsz, Bool.and_false]
      exact Bool.false_ne_true
    refine call_meets PySem.F.slot_list_extend ⟨_, e, rfl⟩ PySem.F.entry_list_extend (PySem.F.args_list_extend_2 _ _)
      (AutoSeq1.list_extend_list_list_0 l its.toArray n b its2.toArray n2 hlong (by rw [List.size_toArray]; omega) (by omega)) ⟨e, e2, ?_⟩
    refine ⟨.non, _, I.lset (its' := its ++ its2) hH e (by simp) (r.append r2) ?_, rfl, q⟩
    rw [List.length_append]
    omega
end DIR
/-! DI: how its values lie in the layer's heap. -/
set_option maxHeartbeats 1000000
namespace DI
open PySem PySem.Spec PyProof.Rows L2

structure Cfg where
  ρ : Nat → Addr
  F : Addr → Prop
  st : Store
  H : Hp
  slf : Addr := 0

/-- no place of the store -/
def Nr (c : Cfg) (a : Addr) : Prop := ∀ l, l < c.st.length → c.ρ l ≠ a
/-- frozen -/
def Fz (c : Cfg) (a : Addr) : Prop := Nr c a ∧ ¬ c.F a

section
variable (K : PySem.W.Frag) (c : Cfg)
mutual
def RV : D → V → Prop
  | .non, v => v = .non
  | .bl b, v => v = .bl b
  | .int i, v => v = .int i
  | .str x, v => v = .str x
  | .tup ds, v => ∃ a xs, v = .ref a ∧ Fz c a ∧ c.H a = some (.tup xs) ∧ RL ds xs
  | .lst ds, v => ∃ a xs, v = .ref a ∧ Fz c a ∧ Rd c.H a (.lst xs) ∧ RL ds xs
  | .dic ks vs, v => ∃ a kvs, v = .ref a ∧ Fz c a ∧ c.H a = some (.dK kvs) ∧ kvs.map (·.1) = ks.map (Sum.inr : Str → Key) ∧ RL vs (kvs.map (·.2))
  | .dit ks vs, v => ∃ a kvs, v = .ref a ∧ Fz c a ∧ c.H a = some (.dT kvs) ∧ kvs.map (·.1) = ks.map (fun k => k.map (Sum.inl : Int → Key)) ∧ RL vs (kvs.map (·.2))
  | .ins C ns vs, v => ∃ a dx fs, v = .ref a ∧ Fz c a ∧ c.H a = some (.ins (He.ga K C) dx fs) ∧ fs.map (·.1) = ns ∧ RL vs (fs.map (·.2))
  | .loc l, v => v = .ref (c.ρ l) ∧ l < c.st.length
def RL : List D → List V → Prop
  | [], [] => True
  | d :: ds, v :: vs => RV d v ∧ RL ds vs
  | _, _ => False
end
/-- what stands at an address, by a value -/
def CR : D → Addr → Prop
  | .tup ds, a => ∃ xs, c.H a = some (.tup xs) ∧ RL K c ds xs
  | .lst ds, a => ∃ xs, c.H a = some (.lst xs) ∧ RL K c ds xs
  | .dic ks vs, a => ∃ kvs, c.H a = some (.dK kvs) ∧ kvs.map (·.1) = ks.map (Sum.inr : Str → Key) ∧ RL K c vs (kvs.map (·.2))
  | .dit ks vs, a => ∃ kvs, c.H a = some (.dT kvs) ∧ kvs.map (·.1) = ks.map (fun k => k.map (Sum.inl : Int → Key)) ∧ RL K c vs (kvs.map (·.2))
  | .ins C ns vs, a => ∃ dx fs, c.H a = some (.ins (He.ga K C) dx fs) ∧ fs.map (·.1) = ns ∧ RL K c vs (fs.map (·.2))
  | _, _ => False
/-- for one look -/
def RB (d : D) (v : V) : Prop := RV K c d v ∨ ∃ a, v = .ref a ∧ Nr c a ∧ CR K c d a ∧ match d with
  | .lst _ => True | .dic _ _ => True | .dit _ _ => True | _ => False
end

structure StepF (c c' : Cfg) : Prop where
  keep : ∀ a o, c.H a = some o → Nr c a → (∀ ps, o ≠ .tbl ps) → c'.H a = some o
  rho : ∀ l, l < c.st.length → c'.ρ l = c.ρ l
  len : c.st.length ≤ c'.st.length
  new : ∀ l, c.st.length ≤ l → l < c'.st.length → c.H (c'.ρ l) = none
  al : ∀ a, c.H a ≠ none → c'.H a ≠ none
structure Step (c c' : Cfg) : Prop extends StepF c c' where
  F : c'.F = c.F

/-- what is frozen stays -/
structure Keep (c c' : Cfg) : Prop where
  keep : ∀ a o, c.H a = some o → Fz c a → (∀ ps, o ≠ .tbl ps) → c'.H a = some o
  rho : ∀ l, l < c.st.length → c'.ρ l = c.ρ l
  len : c.st.length ≤ c'.st.length
  new : ∀ l, c.st.length ≤ l → l < c'.st.length → c.H (c'.ρ l) = none
  F : ∀ a, c.H a ≠ none → ¬ c.F a → ¬ c'.F a

/-- the defs in which a lambda is made -/
def lamNames : List Str := ["_law_sets", "_law_parts", "_law_others_right"]
/-- the tables of code objects of the defs that K tells, with the name of their lambdas -/
def tabsOf (K : PySem.W.Frag) : List (Addr × Str) := K.filterMap fun p => match p.2.data with
  | .func fd => (match fd.code with
    | .ref c => (match K.lookup c with
      | some o => (match o.data with
        | .fields vs => (match (vs[11]? : Option Value) with
          | some (.ref P) => if fd.qualname ∈ lamNames then some (P, (fd.qualname ++ ".<locals>.") ++ "<lambda>") else none
          | _ => none)
        | _ => none)
      | none => none)
    | _ => none)
  | _ => none
/-- no table, no code object -/
def NotX : HO → Prop
  | .tbl _ => False | .ext _ => False | _ => True
structure SOk (K : PySem.W.Frag) (c : Cfg) : Prop where
  tabs : LamX.Tabs (tabsOf K) c.H
  inj : ∀ l l', l < c.st.length → l' < c.st.length → c.ρ l = c.ρ l' → l = l'
  nf : ∀ l, l < c.st.length → ¬ c.F (c.ρ l)
  fa : ∀ a, c.F a → c.H a ≠ none
  cell : ∀ l d, c.st[l]? = some d → CR K c d (c.ρ l) ∧ match d with
    | .tup _ => False | _ => True

section
variable {K : PySem.W.Frag} {c c' c'' : Cfg}
theorem StepF.refl : StepF c c := ⟨fun _ _ h _ _ => h, fun _ _ => rfl, Nat.le_refl _, fun l h1 h2 => absurd h2 (Nat.not_lt.mpr h1), fun _ h => h⟩
theorem Step.refl : Step c c := ⟨StepF.refl, rfl⟩
theorem Nr.step (s : StepF c c') {a : Addr} (h : Nr c a) (ha : c.H a ≠ none) : Nr c' a := fun l hl e => by
  by_cases q : l < c.st.length
  · rw [s.rho l q] at e; exact h l q e
  · exact ha (e ▸ s.new l (Nat.not_lt.mp q) hl)
theorem StepF.trans (s : StepF c c') (t : StepF c' c'') : StepF c c'' where
  keep := fun a o h n k => t.keep a o (s.keep a o h n k) (n.step s (by rw [h]; exact fun z => by cases z)) k
  rho := fun l h => (t.rho l (Nat.lt_of_lt_of_le h s.len)).trans (s.rho l h)
  len := Nat.le_trans s.len t.len
  new := fun l h1 h2 => by
    by_cases q : l < c'.st.length
    · rw [t.rho l q]; exact s.new l h1 q
    · have z := t.new l (Nat.not_lt.mp q) h2
      cases e : c.H (c''.ρ l) with
      | none => rfl
      | some o => exact absurd z (s.al _ (by rw [e]; exact fun z => by cases z))
  al := fun a h => t.al a (s.al a h)
theorem Step.trans (s : Step c c') (t : Step c' c'') : Step c c'' := ⟨s.toStepF.trans t.toStepF, t.F.trans s.F⟩
theorem Nr.keep (s : Keep c c') {a : Addr} (h : Nr c a) (ha : c.H a ≠ none) : Nr c' a := fun l hl e => by
  by_cases q : l < c.st.length
  · rw [s.rho l q] at e; exact h l q e
  · exact ha (e ▸ s.new l (Nat.not_lt.mp q) hl)
theorem Step.kp (s : Step c c') : Keep c c' := ⟨fun a o h f k => s.keep a o h f.1 k, s.rho, s.len, s.new, fun a _ h => by rw [s.F]; exact h⟩
theorem Fz.keep (s : Keep c c') {a : Addr} (h : Fz c a) (ha : c.H a ≠ none) : Fz c' a := ⟨h.1.keep s ha, s.F a ha h.2⟩
theorem Fz.step (s : Step c c') {a : Addr} (h : Fz c a) (ha : c.H a ≠ none) : Fz c' a := ⟨h.1.step s.toStepF ha, by rw [s.F]; exact h.2⟩
theorem rdNe {H : Hp} {a : Addr} {u : HO} (r : Rd H a u) : H a ≠ none := by
  rcases r with r | ⟨o, r⟩ <;> (rw [r]; exact fun z => by cases z)
theorem rdKeep (s : Keep c c') {a : Addr} {u : HO} (hu : ∀ ps, u ≠ .tbl ps) (n : Fz c a) (r : Rd c.H a u) : Rd c'.H a u := by
  rcases r with r | ⟨o, r⟩
  · exact .inl (s.keep _ _ r n hu)
  · exact .inr ⟨o, s.keep _ _ r n (fun ps => by intro z; cases z)⟩
theorem some_ne {α : Type} {o : Option α} {x : α} (h : o = some x) : o ≠ none := by rw [h]; exact fun z => by cases z
mutual
theorem RV.keep (s : Keep c c') : ∀ (d : D) (v : V), RV K c d v → RV K c' d v
  | .non, v, h => by simpa only [RV] using h
  | .bl b, v, h => by simpa only [RV] using h
  | .int i, v, h => by simpa only [RV] using h
  | .str x, v, h => by simpa only [RV] using h
  | .tup ds, v, h => by
    simp only [RV] at h ⊢
    obtain ⟨a, xs, e, f, r, l⟩ := h
    exact ⟨a, xs, e, f.keep s (some_ne r), s.keep _ _ r f (fun ps => by intro z; cases z), RL.keep s ds xs l⟩
  | .lst ds, v, h => by
    simp only [RV] at h ⊢
    obtain ⟨a, xs, e, f, r, l⟩ := h
    exact ⟨a, xs, e, f.keep s (rdNe r), rdKeep s (fun ps => by intro z; cases z) f r, RL.keep s ds xs l⟩
  | .dic ks vs, v, h => by
    simp only [RV] at h ⊢
    obtain ⟨a, xs, e, f, r, k, l⟩ := h
    exact ⟨a, xs, e, f.keep s (some_ne r), s.keep _ _ r f (fun ps => by intro z; cases z), k, RL.keep s vs _ l⟩
  | .dit ks vs, v, h => by
    simp only [RV] at h ⊢
    obtain ⟨a, xs, e, f, r, k, l⟩ := h
    exact ⟨a, xs, e, f.keep s (some_ne r), s.keep _ _ r f (fun ps => by intro z; cases z), k, RL.keep s vs _ l⟩
  | .ins C ns vs, v, h => by
    simp only [RV] at h ⊢
    obtain ⟨a, dx, xs, e, f, r, k, l⟩ := h
    exact ⟨a, dx, xs, e, f.keep s (some_ne r), s.keep _ _ r f (fun ps => by intro z; cases z), k, RL.keep s vs _ l⟩
  | .loc l, v, h => by
    simp only [RV] at h ⊢
    exact ⟨by rw [h.1, s.rho l h.2], Nat.lt_of_lt_of_le h.2 s.len⟩
theorem RL.keep (s : Keep c c') : ∀ (ds : List D) (vs : List V), RL K c ds vs → RL K c' ds vs
  | [], [], _ => by simp only [RL]
  | [], _ :: _, h => by simp only [RL] at h
  | _ :: _, [], h => by simp only [RL] at h
  | d :: ds, v :: vs, h => by
    simp only [RL] at h ⊢
    exact ⟨RV.keep s d v h.1, RL.keep s ds vs h.2⟩
end
theorem RV.step (s : Step c c') {d : D} {v : V} (h : RV K c d v) : RV K c' d v := RV.keep s.kp d v h
theorem RL.step (s : Step c c') {ds : List D} {vs : List V} (h : RL K c ds vs) : RL K c' ds vs := RL.keep s.kp ds vs h
theorem RL.length : ∀ {ds : List D} {vs : List V}, RL K c ds vs → ds.length = vs.length
  | [], [], _ => rfl
  | [], _ :: _, h => by simp only [RL] at h
  | _ :: _, [], h => by simp only [RL] at h
  | d :: ds, v :: vs, h => by
    simp only [RL] at h
    simp only [List.length_cons, RL.length h.2]
theorem RL.get : ∀ {ds : List D} {vs : List V} {i : Nat} {d : D}, RL K c ds vs → ds[i]? = some d → ∃ v, vs[i]? = some v ∧ RV K c d v
  | [], _, _, _, _, e => by simp at e
  | _ :: _, [], _, _, h, _ => by simp only [RL] at h
  | d :: ds, v :: vs, 0, d', h, e => by
    simp only [RL] at h
    simp at e; subst e
    exact ⟨v, by simp, h.1⟩
  | d :: ds, v :: vs, i + 1, d', h, e => by
    simp only [RL] at h
    obtain ⟨w, h1, h2⟩ := RL.get (i := i) h.2 (by simpa using e)
    exact ⟨w, by simpa using h1, h2⟩
theorem RL.append : ∀ {ds es : List D} {vs ws : List V}, RL K c ds vs → RL K c es ws → RL K c (ds ++ es) (vs ++ ws)
  | [], _, [], _, _, h => h
  | [], _, _ :: _, _, h, _ => by simp only [RL] at h
  | _ :: _, _, [], _, h, _ => by simp only [RL] at h
  | d :: ds, es, v :: vs, ws, h, k => by
    simp only [RL] at h
    simp only [List.cons_append, RL]
    exact ⟨h.1, RL.append h.2 k⟩
theorem RL.one {d : D} {v : V} (h : RV K c d v) : RL K c [d] [v] := by simp only [RL]; exact ⟨h, trivial⟩
theorem RL.take : ∀ {ds : List D} {vs : List V} (n : Nat), RL K c ds vs → RL K c (ds.take n) (vs.take n)
  | _, _, 0, _ => by simp only [List.take_zero, RL]
  | [], [], n + 1, h => h
  | [], _ :: _, n + 1, h => by simp only [RL] at h
  | _ :: _, [], n + 1, h => by simp only [RL] at h
  | d :: ds, v :: vs, n + 1, h => by
    simp only [RL] at h
    simp only [List.take_succ_cons, RL]
    exact ⟨h.1, RL.take n h.2⟩
theorem RL.drop : ∀ {ds : List D} {vs : List V} (n : Nat), RL K c ds vs → RL K c (ds.drop n) (vs.drop n)
  | _, _, 0, h => h
  | [], [], n + 1, h => h
  | [], _ :: _, n + 1, h => by simp only [RL] at h
  | _ :: _, [], n + 1, h => by simp only [RL] at h
  | d :: ds, v :: vs, n + 1, h => by
    simp only [RL] at h
    simp only [List.drop_succ_cons]
    exact RL.drop n h.2
theorem RL.set {d : D} {v : V} (hr : RV K c d v) : ∀ {ds : List D} {vs : List V} (n : Nat), RL K c ds vs → RL K c (ds.set n d) (vs.set n v)
  | [], [], n, h => h
  | [], _ :: _, n, h => by simp only [RL] at h
  | _ :: _, [], n, h => by simp only [RL] at h
  | _ :: ds, _ :: vs, 0, h => by
    simp only [RL] at h
    simp only [List.set_cons_zero, RL]
    exact ⟨hr, h.2⟩
  | _ :: ds, _ :: vs, n + 1, h => by
    simp only [RL] at h
    simp only [List.set_cons_succ, RL]
    exact ⟨h.1, RL.set hr n h.2⟩
theorem RL.eraseIdx : ∀ {ds : List D} {vs : List V} (n : Nat), RL K c ds vs → RL K c (ds.eraseIdx n) (vs.eraseIdx n)
  | [], [], n, h => h
  | [], _ :: _, n, h => by simp only [RL] at h
  | _ :: _, [], n, h => by simp only [RL] at h
  | _ :: ds, _ :: vs, 0, h => by
    simp only [RL] at h
    simp only [List.eraseIdx_cons_zero]
    exact h.2
  | _ :: ds, _ :: vs, n + 1, h => by
    simp only [RL] at h
    simp only [List.eraseIdx_cons_succ, RL]
    exact ⟨h.1, RL.eraseIdx n h.2⟩
theorem RL.reverse {ds : List D} {vs : List V} (h : RL K c ds vs) : RL K c ds.reverse vs.reverse := by
  have go : ∀ (ds : List D) (vs : List V), RL K c ds vs → RL K c ds.reverse vs.reverse := by
    intro ds
    induction ds with
    | nil => intro vs h; cases vs with
      | nil => exact h
      | cons _ _ => simp only [RL] at h
    | cons d ds ih => intro vs h; cases vs with
      | nil => simp only [RL] at h
      | cons v vs =>
        simp only [RL] at h
        rw [List.reverse_cons, List.reverse_cons]
        exact (ih vs h.2).append (RL.one h.1)
  exact go ds vs h
/-- whole numbers -/
theorem RL.ints : ∀ {ds : List D} {vs : List V} {ns : List Int}, RL K c ds vs → intsOf ds = some ns → vs = ns.map V.int ∧ ds = ns.map D.int
  | [], [], ns, _, e => by simp only [intsOf, Option.some.injEq] at e; subst e; exact ⟨rfl, rfl⟩
  | [], _ :: _, _, h, _ => by simp only [RL] at h
  | _ :: _, [], _, h, _ => by simp only [RL] at h
  | d :: ds, v :: vs, ns, h, e => by
    simp only [RL] at h
    cases d with
    | int i =>
      simp only [intsOf, Option.map_eq_some_iff] at e
      obtain ⟨ms, e1, rfl⟩ := e
      have q := RL.ints h.2 e1
      have r : v = .int i := by simpa only [RV] using h.1
      rw [r, q.1, q.2]
      exact ⟨rfl, rfl⟩
    | _ => simp only [intsOf] at e; cases e
theorem RL.bools : ∀ {ds : List D} {vs : List V} {bs : List Bool}, RL K c ds vs → boolsOf ds = some bs → vs = bs.map V.bl
  | [], [], ns, _, e => by simp only [boolsOf, Option.some.injEq] at e; subst e; rfl
  | [], _ :: _, _, h, _ => by simp only [RL] at h
  | _ :: _, [], _, h, _ => by simp only [RL] at h
  | d :: ds, v :: vs, ns, h, e => by
    simp only [RL] at h
    cases d with
    | bl i =>
      simp only [boolsOf, Option.map_eq_some_iff] at e
      obtain ⟨ms, e1, rfl⟩ := e
      have q := RL.bools h.2 e1
      have r : v = .bl i := by simpa only [RV] using h.1
      rw [r, q]
      rfl
    | _ => simp only [boolsOf] at e; cases e
theorem RL.ofInts (ns : List Int) : RL K c (ns.map D.int) (ns.map V.int) := by
  induction ns with
  | nil => simp only [List.map_nil, RL]
  | cons n ns ih => simp only [List.map_cons, RL, RV]; exact ⟨trivial, ih⟩
theorem CR.keep (s : Keep c c') {d : D} {a : Addr} (n : ∀ o, c.H a = some o → c'.H a = some o) (h : CR K c d a) : CR K c' d a := by
  cases d with
  | tup ds =>
    obtain ⟨xs, r, l⟩ := h
    exact ⟨xs, n _ r, RL.keep s ds xs l⟩
  | lst ds =>
    obtain ⟨xs, r, l⟩ := h
    exact ⟨xs, n _ r, RL.keep s ds xs l⟩
  | dic ks vs =>
    obtain ⟨xs, r, k, l⟩ := h
    exact ⟨xs, n _ r, k, RL.keep s vs _ l⟩
  | dit ks vs =>
    obtain ⟨xs, r, k, l⟩ := h
    exact ⟨xs, n _ r, k, RL.keep s vs _ l⟩
  | ins C ns vs =>
    obtain ⟨dx, xs, r, k, l⟩ := h
    exact ⟨dx, xs, n _ r, k, RL.keep s vs _ l⟩
  | _ => exact h.elim
theorem CR.step (s : Step c c') {d : D} {a : Addr} (n : Nr c a) (h : CR K c d a) : CR K c' d a := by
  have nt : ∀ ps, c.H a ≠ some (.tbl ps) := fun ps z => by
    cases d with
    | tup ds => obtain ⟨xs, r, l⟩ := h; rw [r] at z; cases z
    | lst ds => obtain ⟨xs, r, l⟩ := h; rw [r] at z; cases z
    | dic ks vs => obtain ⟨xs, r, l⟩ := h; rw [r] at z; cases z
    | dit ks vs => obtain ⟨xs, r, l⟩ := h; rw [r] at z; cases z
    | ins C ns vs => obtain ⟨dx, xs, r, l⟩ := h; rw [r] at z; cases z
    | _ => exact h.elim
  exact h.keep s.kp fun o e => s.keep a o e n fun ps z => nt ps (z ▸ e)
theorem CR.ne {d : D} {a : Addr} (h : CR K c d a) : c.H a ≠ none := by
  cases d with
  | tup ds => obtain ⟨xs, r, l⟩ := h; exact some_ne r
  | lst ds => obtain ⟨xs, r, l⟩ := h; exact some_ne r
  | dic ks vs => obtain ⟨xs, r, l⟩ := h; exact some_ne r
  | dit ks vs => obtain ⟨xs, r, l⟩ := h; exact some_ne r
  | ins C ns vs => obtain ⟨dx, xs, r, l⟩ := h; exact some_ne r
  | _ => exact h.elim
theorem RB.step (s : Step c c') {d : D} {v : V} (h : RB K c d v) : RB K c' d v := by
  rcases h with h | ⟨a, e, n, r, k⟩
  · exact .inl (h.step s)
  · exact .inr ⟨a, e, n.step s.toStepF r.ne, r.step s n, k⟩
theorem tabs_upd {T : List (Addr × Str)} {H : Hp} {a : Addr} {ho : HO} (h : LamX.Tabs T H) (hn : ∀ o, H a = some o → NotX o) : LamX.Tabs T (upd H a ho) := by
  intro p hp
  obtain ⟨ps, h1, h2, h3⟩ := h p hp
  have ne : ∀ b o, H b = some o → ¬ NotX o → b ≠ a := fun b o e n z => n (hn o (z ▸ e))
  refine ⟨ps, by rw [upd_ne (ne _ _ h1 (fun z => z))]; exact h1, h2, fun pos cv hc => ?_⟩
  obtain ⟨c, e1, e2⟩ := h3 pos cv hc
  exact ⟨c, e1, by rw [upd_ne (ne _ _ e2 (fun z => z))]; exact e2⟩
theorem tabs_drop {T : List (Addr × Str)} {H : Hp} {a : Addr} (h : LamX.Tabs T H) (hn : ∀ o, H a = some o → NotX o) : LamX.Tabs T (fun b => if b = a then none else H b) := by
  intro p hp
  obtain ⟨ps, h1, h2, h3⟩ := h p hp
  have ne : ∀ b o, H b = some o → ¬ NotX o → b ≠ a := fun b o e n z => n (hn o (z ▸ e))
  refine ⟨ps, by show (if p.1 = a then none else H p.1) = _; rw [if_neg (ne _ _ h1 (fun z => z))]; exact h1, h2, fun pos cv hc => ?_⟩
  obtain ⟨c, e1, e2⟩ := h3 pos cv hc
  exact ⟨c, e1, by show (if c = a then none else H c) = _; rw [if_neg (ne _ _ e2 (fun z => z))]; exact e2⟩
end
end DI
/-! DI: readings of its runs. -/
set_option maxHeartbeats 1000000
namespace DI
open PySem PySem.Spec PyProof.Rows L2

/-- an exception: its class by name, its fields -/
def XR (K : PySem.W.Frag) (c : Cfg) (C : Str) (ns : List Str) (ds : List D) (cls : Value) (d : Option Addr) : Prop :=
  cls = .ref (He.ga K C) ∧ (ns = [] ∨ ∃ x fs, d = some x ∧ c.H x = some (.xd fs) ∧ fs.map (·.1) = ns ∧ RL K c ds (fs.map (·.2)))

/-- what the result of a run asks of what follows -/
def Post (K : PySem.W.Frag) (R : Cfg → D → V → Prop) (E : Value → Option Addr → Hp → Prop) (c : Cfg) (m : Res) (Q : VK) : Prop :=
  match m with
  | none => False
  | some (.ok d, st) => ∀ c' v, c'.st = st → Step c c' → SOk K c' → R c' d v → Q v c'.H
  | some (.ex C ns ds, st) => ∀ c' cls x, c'.st = st → Step c c' → SOk K c' → XR K c' C ns ds cls x → E cls x c'.H
def PostL (K : PySem.W.Frag) (E : Value → Option Addr → Hp → Prop) (c : Cfg) (m : ResL) (Q : List V → Hp → Prop) : Prop :=
  match m with
  | none => False
  | some (.ok d, st) => ∀ c' v, c'.st = st → Step c c' → SOk K c' → RL K c' d v → Q v c'.H
  | some (.ex C ns ds, st) => ∀ c' cls x, c'.st = st → Step c c' → SOk K c' → XR K c' C ns ds cls x → E cls x c'.H

section
variable {K : PySem.W.Frag} {R R' : Cfg → D → V → Prop} {E : Value → Option Addr → Hp → Prop} {c c' : Cfg} {m : Res} {ml : ResL} {Q Q' : VK}
theorem Post.mono (p : Post K R E c m Q) (h : ∀ v H, Q v H → Q' v H) : Post K R E c m Q' := by
  cases m with
  | none => exact p
  | some r =>
    obtain ⟨r, st⟩ := r
    cases r with
    | ok d => exact fun c' v e s k r => h _ _ (p c' v e s k r)
    | ex C ns ds => exact p
theorem PostL.mono {Q Q' : List V → Hp → Prop} (p : PostL K E c ml Q) (h : ∀ v H, Q v H → Q' v H) : PostL K E c ml Q' := by
  cases ml with
  | none => exact p
  | some r =>
    obtain ⟨r, st⟩ := r
    cases r with
    | ok d => exact fun c' v e s k r => h _ _ (p c' v e s k r)
    | ex C ns ds => exact p
theorem Post.at (p : Post K R E c m Q) (s : Step c c') : Post K R E c' m Q := by
  cases m with
  | none => exact p
  | some r =>
    obtain ⟨r, st⟩ := r
    cases r with
    | ok d => exact fun c' v e t k r => p c' v e (s.trans t) k r
    | ex C ns ds => exact fun c' v x e t k r => p c' v x e (s.trans t) k r
theorem PostL.at {Q : List V → Hp → Prop} (p : PostL K E c ml Q) (s : Step c c') : PostL K E c' ml Q := by
  cases ml with
  | none => exact p
  | some r =>
    obtain ⟨r, st⟩ := r
    cases r with
    | ok d => exact fun c' v e t k r => p c' v e (s.trans t) k r
    | ex C ns ds => exact fun c' v x e t k r => p c' v x e (s.trans t) k r
theorem Post.weak (p : Post K R E c m Q) (h : ∀ c d v, R' c d v → R c d v) : Post K R' E c m Q := by
  cases m with
  | none => exact p
  | some r =>
    obtain ⟨r, st⟩ := r
    cases r with
    | ok d => exact fun c' v e s k r => p c' v e s k (h _ _ _ r)
    | ex C ns ds => exact p
/-- two runs in a row -/
theorem Post.bnd {k : D → Store → Res} (p : Post K R E c (bnd m k) Q) : Post K R' E c m fun v H => ∃ c1 d, c1.H = H ∧ Step c c1 ∧ SOk K c1 ∧ R' c1 d v ∧ Post K R E c1 (k d c1.st) Q := by
  cases m with
  | none => exact p
  | some r =>
    obtain ⟨r, st⟩ := r
    cases r with
    | ok d => exact fun c' v e s k r => ⟨c', d, rfl, s, k, r, by subst e; exact Post.at p s⟩
    | ex C ns ds => exact p
theorem Post.bndL {k : List D → Store → Res} (p : Post K R E c (bndL ml k) Q) : PostL K E c ml fun v H => ∃ c1 d, c1.H = H ∧ Step c c1 ∧ SOk K c1 ∧ RL K c1 d v ∧ Post K R E c1 (k d c1.st) Q := by
  cases ml with
  | none => exact p
  | some r =>
    obtain ⟨r, st⟩ := r
    cases r with
    | ok d => exact fun c' v e s k r => ⟨c', d, rfl, s, k, r, by subst e; exact Post.at p s⟩
    | ex C ns ds => exact p
theorem PostL.bndE {QL : List V → Hp → Prop} {k : D → Store → ResL} (p : PostL K E c (bndE m k) QL) : Post K R' E c m fun v H => ∃ c1 d, c1.H = H ∧ Step c c1 ∧ SOk K c1 ∧ R' c1 d v ∧ PostL K E c1 (k d c1.st) QL := by
  cases m with
  | none => exact p
  | some r =>
    obtain ⟨r, st⟩ := r
    cases r with
    | ok d => exact fun c' v e s k r => ⟨c', d, rfl, s, k, r, by subst e; exact PostL.at p s⟩
    | ex C ns ds => exact p
theorem PostL.bndLL {QL : List V → Hp → Prop} {k : List D → Store → ResL} (p : PostL K E c (bndLL ml k) QL) : PostL K E c ml fun v H => ∃ c1 d, c1.H = H ∧ Step c c1 ∧ SOk K c1 ∧ RL K c1 d v ∧ PostL K E c1 (k d c1.st) QL := by
  cases ml with
  | none => exact p
  | some r =>
    obtain ⟨r, st⟩ := r
    cases r with
    | ok d => exact fun c' v e s k r => ⟨c', d, rfl, s, k, r, by subst e; exact PostL.at p s⟩
    | ex C ns ds => exact p
/-- a value at once -/
theorem Post.ok {d : D} {v : V} (p : Post K R E c (some (.ok d, c.st)) Q) (k : SOk K c) (r : R c d v) : Q v c.H := p c v rfl Step.refl k r
theorem Post.map {o : Option D} (p : Post K R E c (o.map fun d => (Rs.ok d, c.st)) Q) : ∃ d, o = some d ∧ Post K R E c (some (.ok d, c.st)) Q := by
  cases o with
  | none => exact p.elim
  | some d => exact ⟨d, rfl, p⟩
theorem Post.mapB {o : Option Bool} (p : Post K R E c (o.map fun d => (Rs.ok (.bl d), c.st)) Q) : ∃ d, o = some d ∧ Post K R E c (some (.ok (.bl d), c.st)) Q := by
  cases o with
  | none => exact p.elim
  | some d => exact ⟨d, rfl, p⟩

/-- a new frozen object -/
theorem Step.fresh {p : Addr} {o : HO} (hp : c.H p = none) : Step c { c with H := upd c.H p o } where
  keep := fun a u h _ _ => by
    show upd c.H p o a = some u
    rw [upd_ne (ne_of_none h hp)]; exact h
  rho := fun _ _ => rfl
  len := Nat.le_refl _
  new := fun l h1 h2 => absurd h2 (Nat.not_lt.mpr h1)
  al := fun a h => by
    show upd c.H p o a ≠ none
    by_cases e : a = p
    · subst e; rw [upd_same]; exact fun z => by cases z
    · rw [upd_ne e]; exact h
  F := rfl
theorem SOk.nr (k : SOk K c) {a : Addr} (h : c.F a) : Nr c a := fun l hl e => k.nf l hl (e ▸ h)
theorem SOk.fz (k : SOk K c) {p : Addr} (hp : c.H p = none) : Fz c p := ⟨fun l hl e => by
  have z := (k.cell l (c.st[l]) (by simp [hl])).1.ne
  exact z (e ▸ hp), fun z => k.fa p z hp⟩
/-- the store's own objects stand as they stood -/
theorem SOk.keep (k : SOk K c) (s : Step c c') (hs : c'.st = c.st) (hc : ∀ l, l < c.st.length → c'.H (c.ρ l) = c.H (c.ρ l)) (ht : LamX.Tabs (tabsOf K) c'.H) : SOk K c' where
  tabs := ht
  inj := fun l l' h h' e => by
    rw [hs] at h h'
    rw [s.rho l h, s.rho l' h'] at e
    exact k.inj l l' h h' e
  nf := fun l h => by
    rw [hs] at h
    rw [s.rho l h, s.F]
    exact k.nf l h
  fa := fun a h => s.al a (k.fa a (by rw [s.F] at h; exact h))
  cell := fun l d h => by
    rw [hs] at h
    have hl : l < c.st.length := (List.getElem?_eq_some_iff.mp h).1
    rw [s.rho l hl]
    obtain ⟨q, q2⟩ := k.cell l d h
    refine ⟨?_, q2⟩
    have e := hc l hl
    cases d with
    | tup ds => exact q2.elim
    | lst ds => obtain ⟨xs, r, l⟩ := q; exact ⟨xs, e.trans r, l.step s⟩
    | dic ks vs => obtain ⟨xs, r, k, l⟩ := q; exact ⟨xs, e.trans r, k, l.step s⟩
    | dit ks vs => obtain ⟨xs, r, k, l⟩ := q; exact ⟨xs, e.trans r, k, l.step s⟩
    | ins C ns vs => obtain ⟨dx, xs, r, k, l⟩ := q; exact ⟨dx, xs, e.trans r, k, l.step s⟩
    | _ => exact q.elim
theorem SOk.new (k : SOk K c) {p : Addr} {o : HO} (hp : c.H p = none) : SOk K { c with H := upd c.H p o } :=
  k.keep (Step.fresh hp) rfl (fun l hl => by
    show upd c.H p o (c.ρ l) = _
    exact upd_ne fun e => (k.cell l (c.st[l]) (by simp [hl])).1.ne (e ▸ hp)) (tabs_upd k.tabs fun u e => by rw [hp] at e; cases e)
/-- a new frozen object's value -/
theorem Post.fresh {d : D} {p : Addr} {o : HO} (q : Post K (RV K) E c (some (.ok d, c.st)) Q) (k : SOk K c) (hp : c.H p = none)
    (r : Fz { c with H := upd c.H p o } p → RV K { c with H := upd c.H p o } d (.ref p)) : Q (.ref p) (upd c.H p o) :=
  q { c with H := upd c.H p o } (.ref p) rfl (Step.fresh hp) (k.new hp) (r (k.fz hp))
end

/-! ### a def's frame -/
/-- the slots -/
structure ER (K : PySem.W.Frag) (c₀ c : Cfg) (env : DI.Env) (σ : L2.St) : Prop where
  len : env.length = σ.length
  val : ∀ (i : Nat) (d : D), env[i]? = some (Slot.val d) → ∃ v, σ[i]? = some (some v) ∧ RV K c d v
  own : ∀ (i : Nat) (d : D), env[i]? = some (Slot.own d) → ∃ a, σ[i]? = some (some (V.ref a)) ∧ c.F a ∧ c₀.H a = none ∧ CR K c d a
  apart : ∀ (i j : Nat) (d e : D) (a : Addr), env[i]? = some (Slot.own d) → env[j]? = some (Slot.own e) → σ[i]? = some (some (V.ref a)) → σ[j]? = some (some (V.ref a)) → i = j
  ins : ∀ (i : Nat) (C : Str) (ns : List Str) (vs : List D) (a : Addr), env[i]? = some (Slot.own (.ins C ns vs)) → σ[i]? = some (some (V.ref a)) → a = c₀.slf
/-- c₀: the entry -/
structure FR (K : PySem.W.Frag) (c₀ c : Cfg) (env : DI.Env) (σ : L2.St) : Prop where
  ok : SOk K c
  er : ER K c₀ c env σ
  st : StepF c₀ c
  f1 : ∀ a, c₀.F a → c.F a
  f2 : ∀ a, c.F a → c₀.F a ∨ c₀.H a = none
  f0 : ∀ a, c₀.F a → c₀.H a ≠ none
section
variable {K : PySem.W.Frag} {c₀ c c' : Cfg} {env : DI.Env} {σ : L2.St}
theorem FR.step (f : FR K c₀ c env σ) (s : Step c c') (k : SOk K c') : FR K c₀ c' env σ where
  ok := k
  er := {
    len := f.er.len
    val := fun i d h => let ⟨v, e, r⟩ := f.er.val i d h; ⟨v, e, r.step s⟩
    own := fun i d h => let ⟨a, e, r1, r2, r3⟩ := f.er.own i d h; ⟨a, e, by rw [s.F]; exact r1, r2, r3.step s (f.ok.nr r1)⟩
    apart := f.er.apart
    ins := f.er.ins }
  st := f.st.trans s.toStepF
  f1 := fun a h => by rw [s.F]; exact f.f1 a h
  f2 := fun a h => f.f2 a (by rw [s.F] at h; exact h)
  f0 := f.f0
end

/-- an expression's reading: its run's -/
def tE (K : PySem.W.Frag) (o : Orc) (W : WX) (e : CE) : TE := fun σ H Q => ∃ c₀ env c, c.H = H ∧ FR K c₀ c env σ ∧ Post K (RV K) (fun cls d H => W cls d σ H) c (evalE o e env c.st) Q
/-- .. for one look -/
def tB (K : PySem.W.Frag) (o : Orc) (W : WX) (e : CE) : TE := fun σ H Q => ∃ c₀ env c, c.H = H ∧ FR K c₀ c env σ ∧ Post K (RB K) (fun cls d H => W cls d σ H) c (lend e env c.st (evalE o e env c.st)) Q
def tT (K : PySem.W.Frag) (o : Orc) (W : WX) (e : CE) : TT := fun σ H Q => tE K o W e σ H fun v H1 => ∃ b, v = .bl b ∧ Q b H1
def tL (K : PySem.W.Frag) (o : Orc) (W : WX) (es : List CE) : TA := fun σ H Q => ∃ c₀ env c, c.H = H ∧ FR K c₀ c env σ ∧ PostL K (fun cls d H => W cls d σ H) c (evalL o es env c.st) Q

section
variable {X : Cx} {e : Expr} {es : List Expr}
theorem peImp {t t' : TE} (h : PE X e t) (k : ∀ σ H Q, t' σ H Q → t σ H Q) : PE X e t' := ⟨fun pins s σ H Q I hw => h.run pins s σ H Q I (k σ H Q hw)⟩
theorem ptImp {t t' : TT} (h : PT X e t) (k : ∀ σ H Q, t' σ H Q → t σ H Q) : PT X e t' := ⟨fun pins s σ H Q I hw => h.run pins s σ H Q I (k σ H Q hw)⟩
theorem paImp {t t' : TA} (h : PA X es t) (k : ∀ σ H Q, t' σ H Q → t σ H Q) : PA X es t' := ⟨fun pos pins s σ H Q I hw => h.run pos pins s σ H Q I (k σ H Q hw)⟩
end
end DI
/-! DI: expressions, part 1. -/
set_option maxHeartbeats 1000000
namespace DI
open PySem PySem.Spec PyProof.Rows L2

section
variable {K : PySem.W.Frag} {c : Cfg} {d : D} {v : V} {E : Value → Option Addr → Hp → Prop} {Q : VK}
theorem RB.ofV (h : RV K c d v) : RB K c d v := .inl h
theorem RB.int {i : Int} (h : RB K c (.int i) v) : v = .int i := by
  rcases h with h | ⟨a, _, _, r, _⟩
  · simpa only [RV] using h
  · exact r.elim
theorem RB.bl {i : Bool} (h : RB K c (.bl i) v) : v = .bl i := by
  rcases h with h | ⟨a, _, _, r, _⟩
  · simpa only [RV] using h
  · exact r.elim
theorem RB.non (h : RB K c .non v) : v = .non := by
  rcases h with h | ⟨a, _, _, r, _⟩
  · simpa only [RV] using h
  · exact r.elim
theorem RB.str {x : Str} (h : RB K c (.str x) v) : v = .str x := by
  rcases h with h | ⟨a, _, _, r, _⟩
  · simpa only [RV] using h
  · exact r.elim
theorem RB.loc {l : Nat} (h : RB K c (.loc l) v) : v = .ref (c.ρ l) ∧ l < c.st.length := by
  rcases h with h | ⟨a, _, _, r, _⟩
  · simpa only [RV] using h
  · exact r.elim
theorem RB.tup {ds : List D} (h : RB K c (.tup ds) v) : ∃ a xs, v = .ref a ∧ Fz c a ∧ c.H a = some (.tup xs) ∧ RL K c ds xs := by
  rcases h with h | ⟨a, _, _, r, k⟩
  · simpa only [RV] using h
  · exact k.elim
theorem RB.lst {ds : List D} (h : RB K c (.lst ds) v) : ∃ a xs, v = .ref a ∧ Nr c a ∧ Rd c.H a (.lst xs) ∧ RL K c ds xs := by
  rcases h with h | ⟨a, e, n, r, _⟩
  · simp only [RV] at h
    obtain ⟨a, xs, e, f, r, l⟩ := h
    exact ⟨a, xs, e, f.1, r, l⟩
  · obtain ⟨xs, r, l⟩ := r
    exact ⟨a, xs, e, n, .inl r, l⟩
theorem RB.dic {ks : List Str} {ds : List D} (h : RB K c (.dic ks ds) v) : ∃ a kvs, v = .ref a ∧ Nr c a ∧ c.H a = some (.dK kvs) ∧ kvs.map (·.1) = ks.map (Sum.inr : Str → Key) ∧ RL K c ds (kvs.map (·.2)) := by
  rcases h with h | ⟨a, e, n, r, _⟩
  · simp only [RV] at h
    obtain ⟨a, xs, e, f, r, l⟩ := h
    exact ⟨a, xs, e, f.1, r, l⟩
  · obtain ⟨xs, r, l⟩ := r
    exact ⟨a, xs, e, n, r, l⟩
theorem RB.dit {ks : List (List Int)} {ds : List D} (h : RB K c (.dit ks ds) v) : ∃ a kvs, v = .ref a ∧ Nr c a ∧ c.H a = some (.dT kvs) ∧ kvs.map (·.1) = ks.map (fun k => k.map (Sum.inl : Int → Key)) ∧ RL K c ds (kvs.map (·.2)) := by
  rcases h with h | ⟨a, e, n, r, _⟩
  · simp only [RV] at h
    obtain ⟨a, xs, e, f, r, l⟩ := h
    exact ⟨a, xs, e, f.1, r, l⟩
  · obtain ⟨xs, r, l⟩ := r
    exact ⟨a, xs, e, n, r, l⟩
theorem RB.ins {C : Str} {ns : List Str} {ds : List D} (h : RB K c (.ins C ns ds) v) : RV K c (.ins C ns ds) v := by
  rcases h with h | ⟨a, e, n, r, k⟩
  · exact h
  · exact k.elim
/-- what stands behind a value, read once -/
theorem RB.read (k : SOk K c) (h : RB K c d v) : RB K c (rd c.st d) v ∨ ∃ a, v = .ref a ∧ CR K c (rd c.st d) a ∧ (∀ ds, rd c.st d ≠ .tup ds) := by
  cases d with
  | loc l =>
    obtain ⟨e, hl⟩ := h.loc
    have g : c.st[l]? = some c.st[l] := by simp [hl]
    obtain ⟨q1, q2⟩ := k.cell l _ g
    have er : rd c.st (.loc l) = c.st[l] := by simp [rd, hl]
    refine .inr ⟨_, e, by rw [er]; exact q1, fun ds z => ?_⟩
    rw [er] at z
    rw [z] at q2
    exact q2
  | _ => exact .inl h
theorem RB.seq (k : SOk K c) (h : RB K c d v) {ds : List D} (e : seqOf c.st d = some ds) : ∃ a xs, v = .ref a ∧ (SqL K c.H a xs ∨ SqT K c.H a xs) ∧ RL K c ds xs := by
  unfold seqOf at e
  rcases h.read k with h | ⟨a, ev, h, ht⟩
  · revert h e
    cases rd c.st d with
    | tup es =>
      intro e h
      cases e
      obtain ⟨a, xs, ev, _, r, l⟩ := h.tup
      exact ⟨a, xs, ev, .inr (.inl (.inl r)), l⟩
    | lst es =>
      intro e h
      cases e
      obtain ⟨a, xs, ev, _, r, l⟩ := h.lst
      exact ⟨a, xs, ev, .inl (.inl r), l⟩
    | _ => intro e h; cases e
  · revert h e ht
    cases rd c.st d with
    | tup es => intro e h ht; exact (ht es rfl).elim
    | lst es =>
      intro e h _
      cases e
      obtain ⟨xs, r, l⟩ := h
      exact ⟨a, xs, ev, .inl (.inl (.inl r)), l⟩
    | _ => intro e h; cases e
/-- a list -/
theorem RB.lstOf (k : SOk K c) (h : RB K c d v) {ds : List D} (e : rd c.st d = .lst ds) : ∃ a xs, v = .ref a ∧ Rd c.H a (.lst xs) ∧ RL K c ds xs := by
  rcases h.read k with h | ⟨a, ev, h, ht⟩
  · rw [e] at h
    obtain ⟨a, xs, ev, _, r, l⟩ := h.lst
    exact ⟨a, xs, ev, r, l⟩
  · rw [e] at h
    obtain ⟨xs, r, l⟩ := h
    exact ⟨a, xs, ev, .inl r, l⟩
theorem RB.tupOf (k : SOk K c) (h : RB K c d v) {ds : List D} (e : rd c.st d = .tup ds) : ∃ a xs, v = .ref a ∧ Fz c a ∧ c.H a = some (.tup xs) ∧ RL K c ds xs := by
  rcases h.read k with h | ⟨a, ev, h, ht⟩
  · rw [e] at h
    exact h.tup
  · exact (ht _ e).elim
theorem line (n : Nat) : lineOk n = true → n ≤ sizeLine := fun h => of_decide_eq_true h
theorem none_post {R : Cfg → D → V → Prop} {α : Prop} (p : Post K R E c none Q) : α := p.elim
/-- the frozen tuple just made -/
theorem Post.tup {ds : List D} {xs : List V} (q : Post K (RV K) E c (some (.ok (.tup ds), c.st)) Q) (k : SOk K c) (l : RL K c ds xs) : ∀ p, c.H p = none → Q (.ref p) (upd c.H p (.tup xs)) := fun p hp =>
  q.fresh k hp fun f => by
    simp only [RV]
    exact ⟨p, xs, rfl, f, upd_same, l.step (Step.fresh hp)⟩
theorem Post.lst {ds : List D} {xs : List V} (q : Post K (RV K) E c (some (.ok (.lst ds), c.st)) Q) (k : SOk K c) (l : RL K c ds xs) : ∀ p, c.H p = none → Q (.ref p) (upd c.H p (.lst xs)) := fun p hp =>
  q.fresh k hp fun f => by
    simp only [RV]
    exact ⟨p, xs, rfl, f, .inl upd_same, l.step (Step.fresh hp)⟩
theorem RV.tupI {a : Addr} {xs : List V} {ds : List D} (f : Fz c a) (r : c.H a = some (.tup xs)) (l : RL K c ds xs) : RV K c (.tup ds) (.ref a) := by
  simp only [RV]
  exact ⟨a, xs, rfl, f, r, l⟩
theorem RL.nil_r {xs : List V} (l : RL K c [] xs) : xs = [] := by
  cases xs with
  | nil => rfl
  | cons _ _ => simp only [RL] at l
theorem RL.nil_l {ds : List D} (l : RL K c ds []) : ds = [] := by
  cases ds with
  | nil => rfl
  | cons _ _ => simp only [RL] at l
end

/-! ### operators -/
/-- an operator that does what the run does -/
def rBin (K : PySem.W.Frag) (op : Bin) : R2 := fun x y H Q => ∃ (c : Cfg) (d e : D) (E : Value → Option Addr → Hp → Prop), c.H = H ∧ SOk K c ∧ RB K c d x ∧ RB K c e y ∧ Post K (RV K) E c ((binD c.st op d e).map fun r => (Rs.ok r, c.st)) Q
section
variable {X : Cx}
theorem opr_imp {f : Value → Value → Sem Value} {r r' : R2} (h : OpR X f r) (k : ∀ x y H Q, r' x y H Q → r x y H Q) : OpR X f r' := fun pins s σ H x y v u Q I rx ry q => h pins s σ H x y v u Q I rx ry (k _ _ _ _ q)
theorem opr_or {f : Value → Value → Sem Value} {r r' : R2} (h : OpR X f r) (h' : OpR X f r') : OpR X f (fun x y H Q => r x y H Q ∨ r' x y H Q) := fun pins s σ H x y v u Q I rx ry q => q.elim (h pins s σ H x y v u Q I rx ry) (h' pins s σ H x y v u Q I rx ry)
/-- two whole numbers alone -/
theorem rBin_ints {op : Bin} {C : Int → Int → Prop} {g : Int → Int → Int} (hD : ∀ st d e r, binD st op d e = some r → ∃ i j, d = .int i ∧ e = .int j ∧ C i j ∧ r = .int (g i j)) {x y : V} {H : Hp} {Q : VK} (h : rBin X.K op x y H Q) :
    rI C (fun i j => .int (g i j)) x y H Q := by
  obtain ⟨c, d, e, E, rfl, k, rx, ry, p⟩ := h
  obtain ⟨r, e1, p⟩ := p.map
  obtain ⟨i, j, rfl, rfl, hc, rfl⟩ := hD _ _ _ _ e1
  exact ⟨i, j, rx.int, ry.int, hc, p.ok k (by simp only [RV])⟩
theorem s_sub : OpR X (binaryOp .Sub) (rBin X.K .sub) := opr_imp op_sub fun x y H Q h => by
  obtain ⟨i, j, a, b, _, q⟩ := rBin_ints (C := fun _ _ => True) (g := fun i j => i - j) (fun st d e r h => by
    cases d <;> cases e <;> simp only [binD] at h <;> first | (cases h; done) | (cases h; exact ⟨_, _, rfl, rfl, trivial, rfl⟩)) h
  exact ⟨i, j, a, b, q⟩
theorem s_mul : OpR X (binaryOp .Mult) (rBin X.K .mul) := opr_imp op_mul fun x y H Q h =>
  rBin_ints (fun st d e r h => by
    cases d <;> cases e <;> simp only [binD] at h <;> first | (cases h; done) | (
      split at h
      · rename_i hc
        cases h
        simp only [Bool.or_eq_true, decide_eq_true_eq] at hc
        refine ⟨_, _, rfl, rfl, ?_, rfl⟩
        rcases hc with hc | hc
        · exact .inl ⟨by omega, by omega⟩
        · exact .inr ⟨by omega, by omega⟩
      · cases h)) h
theorem s_fdiv : OpR X (binaryOp .FloorDiv) (rBin X.K .fdiv) := opr_imp op_fdivN fun x y H Q h =>
  rBin_ints (fun st d e r h => by
    cases d <;> cases e <;> simp only [binD] at h <;> first | (cases h; done) | (
      split at h
      · rename_i hc
        cases h
        simp only [Bool.and_eq_true, decide_eq_true_eq] at hc
        exact ⟨_, _, rfl, rfl, hc, rfl⟩
      · cases h)) h
theorem s_mod : OpR X (binaryOp .Mod) (rBin X.K .mod) := opr_imp op_modN fun x y H Q h =>
  rBin_ints (fun st d e r h => by
    cases d <;> cases e <;> simp only [binD] at h <;> first | (cases h; done) | (
      split at h
      · rename_i hc
        cases h
        exact ⟨_, _, rfl, rfl, of_decide_eq_true hc, rfl⟩
      · cases h)) h
theorem s_pow : OpR X (binaryOp .Pow) (rBin X.K .pow) := opr_imp op_pow fun x y H Q h =>
  rBin_ints (fun st d e r h => by
    cases d <;> cases e <;> simp only [binD] at h <;> first | (cases h; done) | (
      split at h
      · rename_i hc
        cases h
        simp only [Bool.and_eq_true, decide_eq_true_eq] at hc
        exact ⟨_, _, rfl, rfl, ⟨hc.1.1, by omega, hc.2⟩, rfl⟩
      · cases h)) h
theorem s_shl : OpR X (binaryOp .LShift) (rBin X.K .shl) := opr_imp op_shl fun x y H Q h =>
  rBin_ints (fun st d e r h => by
    cases d <;> cases e <;> simp only [binD] at h <;> first | (cases h; done) | (
      split at h
      · rename_i hc
        cases h
        simp only [Bool.and_eq_true, decide_eq_true_eq] at hc
        exact ⟨_, _, rfl, rfl, ⟨hc.1.1, by omega, hc.2⟩, rfl⟩
      · cases h)) h
theorem s_shr : OpR X (binaryOp .RShift) (rBin X.K .shr) := opr_imp op_shr fun x y H Q h =>
  rBin_ints (fun st d e r h => by
    cases d <;> cases e <;> simp only [binD] at h <;> first | (cases h; done) | (
      split at h
      · rename_i hc
        cases h
        exact ⟨_, _, rfl, rfl, of_decide_eq_true hc, rfl⟩
      · cases h)) h
theorem s_band : OpR X (binaryOp .BitAnd) (rBin X.K .band) := opr_imp op_and fun x y H Q h => by
  obtain ⟨i, j, a, b, _, q⟩ := rBin_ints (C := fun _ _ => True) (g := fun i j => Builtin.bitAnd i j) (fun st d e r h => by
    cases d <;> cases e <;> simp only [binD] at h <;> first | (cases h; done) | (cases h; exact ⟨_, _, rfl, rfl, trivial, rfl⟩)) h
  exact ⟨i, j, a, b, q⟩
/-- list + list, both read -/
theorem cat_rd : OpR X (binaryOp .Add) (fun x y H Q => ∃ l b xs zs, x = .ref l ∧ y = .ref b ∧ Rd H l (.lst xs) ∧ Rd H b (.lst zs) ∧ xs.length + zs.length ≤ sizeLine ∧ ∀ p, H p = none → Q (.ref p) (upd H p (.lst (xs ++ zs)))) := by
  intro pins s σ H x y v u Q I rx ry h
  obtain ⟨l, b, xs, zs, rfl, rfl, hH, hB, hz, q⟩ := h
  cases rx
  cases ry
  obtain ⟨z, its, n, r, e⟩ := hH.ok I.hok
  obtain ⟨z2, its2, n2, r2, e2⟩ := hB.ok I.hok
  have hl := r.length
  have hl2 := r2.length
  refine PySem.P.add_list e e2 ?_ (by rw [List.size_toArray, List.size_toArray]; omega)
  have ea : its.toArray ++ its2.toArray = (its ++ its2).toArray := by simp
  rw [ea]
  exact ⟨.ref _, _, I.lnew (t' := s.toks) (r.append r2) (by rw [List.length_append]; omega), rfl, q _ I.fresh⟩
theorem s_add : OpR X (binaryOp .Add) (rBin X.K .add) := by
  refine opr_imp (opr_or op_add (opr_or op_catA (opr_or op_add_str cat_rd))) fun x y H Q h => ?_
  obtain ⟨c, d, e, E, rfl, k, rx, ry, p⟩ := h
  obtain ⟨r, e1, p⟩ := p.map
  have lists : ∀ {a b : List D}, rd c.st d = .lst a → rd c.st e = .lst b → (if lineOk (a.length + b.length) then some (D.lst (a ++ b)) else none) = some r →
      ∃ l b xs zs, x = .ref l ∧ y = .ref b ∧ Rd c.H l (.lst xs) ∧ Rd c.H b (.lst zs) ∧ xs.length + zs.length ≤ sizeLine ∧ ∀ p, c.H p = none → Q (.ref p) (upd c.H p (.lst (xs ++ zs))) := by
    intro a b ha hb e1
    split at e1
    · rename_i hc
      cases e1
      obtain ⟨l1, xs, rfl, r1, q1⟩ := rx.lstOf k ha
      obtain ⟨l2, zs, rfl, r2, q2⟩ := ry.lstOf k hb
      exact ⟨l1, l2, xs, zs, rfl, rfl, r1, r2, by rw [← q1.length, ← q2.length]; exact line _ hc, p.lst k (q1.append q2)⟩
    · cases e1
  unfold binD at e1
  split at e1
  · cases e1
    exact .inl ⟨_, _, rx.int, ry.int, p.ok k (by simp only [RV])⟩
  · rename_i a b
    split at e1
    · rename_i hc
      cases e1
      simp only [Bool.and_eq_true] at hc
      obtain ⟨l1, xs, rfl, f1, r1, q1⟩ := rx.tup
      obtain ⟨l2, zs, rfl, f2, r2, q2⟩ := ry.tup
      refine .inr (.inl ⟨l1, l2, xs, zs, rfl, rfl, .inl (.inl r1), .inl (.inl r2), by rw [← q1.length, ← q2.length]; exact line _ hc.2, fun z => ?_, fun _ z => ?_, fun _ _ => p.tup k (q1.append q2)⟩)
      · subst z
        have := q1.nil_l
        subst this
        exact p.ok k (by rw [List.nil_append]; exact RV.tupI f2 r2 q2)
      · subst z
        have := q2.nil_l
        subst this
        exact p.ok k (by rw [List.append_nil]; exact RV.tupI f1 r1 q1)
    · cases e1
  · split at e1
    · rename_i hc
      cases e1
      exact .inr (.inr (.inl ⟨_, _, rx.str, ry.str, line _ hc, p.ok k (by simp only [RV])⟩))
    · cases e1
  · split at e1
    · rename_i ha hb
      exact .inr (.inr (.inr (lists ha hb e1)))
    · cases e1
  all_goals contradiction
def opOf : Bin → Operator
  | .add => .Add | .sub => .Sub | .mul => .Mult | .fdiv => .FloorDiv | .mod => .Mod | .pow => .Pow | .shl => .LShift | .shr => .RShift | .band => .BitAnd
theorem s_binop (op : Bin) : OpR X (binaryOp (opOf op)) (rBin X.K op) := by
  cases op
  · exact s_add
  · exact s_sub
  · exact s_mul
  · exact s_fdiv
  · exact s_mod
  · exact s_pow
  · exact s_shl
  · exact s_shr
  · exact s_band
end
end DI
/-! DI: expressions, part 2: comparisons, built-in functions. -/
set_option maxHeartbeats 1000000
namespace DI
open PySem PySem.Spec PyProof.Rows L2

section
variable {K : PySem.W.Frag} {c : Cfg}
theorem mapM_cons_some {α β : Type} {f : α → Option β} {a : α} {l : List α} {r : List β} (h : (a :: l).mapM f = some r) : ∃ b bs, f a = some b ∧ l.mapM f = some bs ∧ r = b :: bs := by
  rw [List.mapM_cons] at h
  cases e : f a with
  | none => rw [e] at h; cases h
  | some b =>
    rw [e] at h
    cases e2 : l.mapM f with
    | none => rw [e2] at h; cases h
    | some bs =>
      rw [e2] at h
      cases h
      exact ⟨b, bs, rfl, rfl, rfl⟩
theorem dpAll_of {f : D → Option PyData} (hf : ∀ d v p, f d = some p → RV K c d v → Dp K c.H v p) : ∀ {ds : List D} {vs : List V} {ps : List PyData}, ds.mapM f = some ps → RL K c ds vs → DpAll K c.H vs ps
  | [], [], ps, h, _ => by
    rw [List.mapM_nil] at h
    cases h
    exact .nil
  | [], _ :: _, _, _, l => by simp only [RL] at l
  | _ :: _, [], _, _, l => by simp only [RL] at l
  | d :: ds, v :: vs, ps, h, l => by
    simp only [RL] at l
    obtain ⟨p, qs, h1, h2, rfl⟩ := mapM_cons_some h
    exact .cons (hf d v p h1 l.1) (dpAll_of hf h2 l.2)
theorem dp_ofB (k : SOk K c) : ∀ (n : Nat) (d : D) (v : V) (p : PyData), toP n c.st d = some p → RB K c d v → Dp K c.H v p
  | n, .non, v, p, h, r => by
    have h : some PyData.none = some p := by cases n <;> exact h
    cases h; rw [r.non]; exact .non
  | n, .bl b, v, p, h, r => by
    have h : some (PyData.bool b) = some p := by cases n <;> exact h
    cases h; rw [r.bl]; exact .bl b
  | n, .int i, v, p, h, r => by
    have h : some (PyData.int i) = some p := by cases n <;> exact h
    cases h; rw [r.int]; exact .int i
  | n, .str x, v, p, h, r => by
    have h : (if PyData.strOk x then some (PyData.str x) else none) = some p := by cases n <;> exact h
    split at h
    · cases h; rw [r.str]; exact .str x
    · cases h
  | n + 1, .tup ds, v, p, h, r => by
    simp only [toP, Option.map_eq_some_iff] at h
    obtain ⟨ps, h, rfl⟩ := h
    obtain ⟨a, xs, rfl, _, rr, l⟩ := r.tup
    exact .tup (.inl (.inl rr)) (dpAll_of (fun d v p h r => dp_ofB k n d v p h (.inl r)) h l)
  | n + 1, .lst ds, v, p, h, r => by
    simp only [toP, Option.map_eq_some_iff] at h
    obtain ⟨ps, h, rfl⟩ := h
    obtain ⟨a, xs, rfl, _, rr, l⟩ := r.lst
    exact .lst (.inl rr) (dpAll_of (fun d v p h r => dp_ofB k n d v p h (.inl r)) h l)
  | n + 1, .loc i, v, p, h, r => by
    obtain ⟨rfl, hl⟩ := r.loc
    simp only [toP] at h
    split at h
    · rename_i ds e
      simp only [Option.map_eq_some_iff] at h
      obtain ⟨ps, h, rfl⟩ := h
      obtain ⟨⟨xs, q, l⟩, _⟩ := k.cell i _ e
      exact .lst (.inl (.inl q)) (dpAll_of (fun d v p h r => dp_ofB k n d v p h (.inl r)) h l)
    · cases h
  | 0, .tup ds, v, p, h, r => by cases h
  | 0, .lst ds, v, p, h, r => by cases h
  | 0, .loc i, v, p, h, r => by cases h
  | 0, .dic _ _, v, p, h, r => by cases h
  | 0, .dit _ _, v, p, h, r => by cases h
  | 0, .ins _ _ _, v, p, h, r => by cases h
  | _ + 1, .dic _ _, v, p, h, r => by cases h
  | _ + 1, .dit _ _, v, p, h, r => by cases h
  | _ + 1, .ins _ _ _, v, p, h, r => by cases h
theorem layAll_of {f : D → Option PyData} (hf : ∀ d p, f d = some p → p.canLay0 = true) : ∀ {ds : List D} {ps : List PyData}, ds.mapM f = some ps → PyData.canLayAll0 ps = true
  | [], ps, h => by rw [List.mapM_nil] at h; cases h; rfl
  | d :: ds, ps, h => by
    obtain ⟨p, qs, h1, h2, rfl⟩ := mapM_cons_some h
    show (p.canLay0 && PyData.canLayAll0 qs) = true
    rw [hf d p h1, layAll_of hf h2]; rfl
theorem depAll_of {f : D → Option PyData} {n : Nat} (hf : ∀ d p, f d = some p → p.depth ≤ n) : ∀ {ds : List D} {ps : List PyData}, ds.mapM f = some ps → PyData.depthAll ps ≤ n
  | [], ps, h => by rw [List.mapM_nil] at h; cases h; exact Nat.zero_le _
  | d :: ds, ps, h => by
    obtain ⟨p, qs, h1, h2, rfl⟩ := mapM_cons_some h
    show max p.depth (PyData.depthAll qs) ≤ n
    exact Nat.max_le.mpr ⟨hf d p h1, depAll_of hf h2⟩
theorem toP_ok : ∀ (n : Nat) (st : Store) (d : D) (p : PyData), toP n st d = some p → p.canLay0 = true ∧ p.depth ≤ n
  | n, st, .non, p, h => by
    have h : some PyData.none = some p := by cases n <;> exact h
    cases h; exact ⟨rfl, Nat.zero_le _⟩
  | n, st, .bl b, p, h => by
    have h : some (PyData.bool b) = some p := by cases n <;> exact h
    cases h; exact ⟨rfl, Nat.zero_le _⟩
  | n, st, .int i, p, h => by
    have h : some (PyData.int i) = some p := by cases n <;> exact h
    cases h; exact ⟨rfl, Nat.zero_le _⟩
  | n, st, .str x, p, h => by
    have h : (if PyData.strOk x then some (PyData.str x) else none) = some p := by cases n <;> exact h
    split at h
    · rename_i e; cases h; exact ⟨e, Nat.zero_le _⟩
    · cases h
  | n + 1, st, .tup ds, p, h => by
    simp only [toP, Option.map_eq_some_iff] at h
    obtain ⟨ps, h, rfl⟩ := h
    exact ⟨layAll_of (fun d p h => (toP_ok n st d p h).1) h, Nat.succ_le_succ (depAll_of (fun d p h => (toP_ok n st d p h).2) h)⟩
  | n + 1, st, .lst ds, p, h => by
    simp only [toP, Option.map_eq_some_iff] at h
    obtain ⟨ps, h, rfl⟩ := h
    exact ⟨layAll_of (fun d p h => (toP_ok n st d p h).1) h, Nat.succ_le_succ (depAll_of (fun d p h => (toP_ok n st d p h).2) h)⟩
  | n + 1, st, .loc i, p, h => by
    simp only [toP] at h
    split at h
    · simp only [Option.map_eq_some_iff] at h
      obtain ⟨ps, h, rfl⟩ := h
      exact ⟨layAll_of (fun d p h => (toP_ok n st d p h).1) h, Nat.succ_le_succ (depAll_of (fun d p h => (toP_ok n st d p h).2) h)⟩
    · cases h
  | 0, st, .tup ds, p, h => by cases h
  | 0, st, .lst ds, p, h => by cases h
  | 0, st, .loc i, p, h => by cases h
  | 0, st, .dic _ _, p, h => by cases h
  | 0, st, .dit _ _, p, h => by cases h
  | 0, st, .ins _ _ _, p, h => by cases h
  | _ + 1, st, .dic _ _, p, h => by cases h
  | _ + 1, st, .dit _ _, p, h => by cases h
  | _ + 1, st, .ins _ _ _, p, h => by cases h
theorem toP_shaped {st : Store} {d : D} {p : PyData} (h : toP 60 st d = some p) : SeqAt.shaped p = true := by
  obtain ⟨h1, h2⟩ := toP_ok 60 st d p h
  unfold SeqAt.shaped
  rw [h1, decide_eq_true (Nat.le_trans h2 (by decide))]; rfl
/-- flat data, by values -/
theorem toP_flat {st : Store} {d : D} {p : PyData} {v : V} (h : toP 0 st d = some p) (r : RB K c d v) : flatV v = true ∧ ∀ {e : D} {q : PyData} {w : V}, toP 0 st e = some q → RB K c e w → eqV v w = PyData.eqv p q := by
  have flat1 : ∀ {d : D} {p : PyData} {v : V}, toP 0 st d = some p → RB K c d v → (p = .none ∧ v = .non) ∨ (∃ b, p = .bool b ∧ v = .bl b) ∨ (∃ i, p = .int i ∧ v = .int i) ∨ ∃ x, p = .str x ∧ v = .str x := by
    intro d p v h r
    cases d with
    | non => cases h; exact .inl ⟨rfl, r.non⟩
    | bl b => cases h; exact .inr (.inl ⟨b, rfl, r.bl⟩)
    | int i => cases h; exact .inr (.inr (.inl ⟨i, rfl, r.int⟩))
    | str x =>
      simp only [toP] at h
      split at h
      · cases h; exact .inr (.inr (.inr ⟨x, rfl, r.str⟩))
      · cases h
    | _ => cases h
  rcases flat1 h r with ⟨rfl, rfl⟩ | ⟨b, rfl, rfl⟩ | ⟨b, rfl, rfl⟩ | ⟨b, rfl, rfl⟩ <;>
    (refine ⟨rfl, fun {e q w} h2 r2 => ?_⟩
     rcases flat1 h2 r2 with ⟨rfl, rfl⟩ | ⟨b2, rfl, rfl⟩ | ⟨b2, rfl, rfl⟩ | ⟨b2, rfl, rfl⟩ <;> simp only [eqV, PyData.eqv])
theorem flats_of {st : Store} : ∀ {ds : List D} {ps : List PyData} {vs : List V}, ds.mapM (toP 0 st) = some ps → RL K c ds vs → vs.all flatV = true ∧ ∀ {e : D} {q : PyData} {w : V}, toP 0 st e = some q → RB K c e w → inV w vs = ps.any fun p => PyData.eqv p q
  | [], ps, [], h, _ => by rw [List.mapM_nil] at h; cases h; exact ⟨rfl, fun _ _ => rfl⟩
  | [], _, _ :: _, _, l => by simp only [RL] at l
  | _ :: _, _, [], _, l => by simp only [RL] at l
  | d :: ds, ps, v :: vs, h, l => by
    simp only [RL] at l
    obtain ⟨p, qs, h1, h2, rfl⟩ := mapM_cons_some h
    obtain ⟨f1, g1⟩ := toP_flat h1 (.inl l.1)
    obtain ⟨f2, g2⟩ := flats_of h2 l.2
    refine ⟨by rw [List.all_cons, f1, f2]; rfl, fun {e q w} h3 r3 => ?_⟩
    have z := g2 h3 r3
    unfold inV at z ⊢
    rw [List.any_cons, List.any_cons, g1 h3 r3, z]
end

/-- a comparison that does what the run does -/
def rCmp (K : PySem.W.Frag) (op : Cmp) : R2 := fun x y H Q => ∃ (c : Cfg) (d e : D) (E : Value → Option Addr → Hp → Prop), c.H = H ∧ SOk K c ∧ RB K c d x ∧ RB K c e y ∧ Post K (RV K) E c ((cmpD c.st op d e).map fun r => (Rs.ok (.bl r), c.st)) Q
theorem rCmp_get {K : PySem.W.Frag} {op : Cmp} {x y : V} {H : Hp} {Q : VK} (h : rCmp K op x y H Q) : ∃ (c : Cfg) (d e : D) (b : Bool), c.H = H ∧ SOk K c ∧ RB K c d x ∧ RB K c e y ∧ cmpD c.st op d e = some b ∧ Q (.bl b) H := by
  obtain ⟨c, d, e, E, rfl, k, rx, ry, p⟩ := h
  obtain ⟨b, e1, p⟩ := p.mapB
  exact ⟨c, d, e, b, rfl, k, rx, ry, e1, p.ok k (by simp only [RV])⟩
section
variable {X : Cx}
theorem s_eq (hu : X.A.units + 64 < cLine) : OpR X (compareOp .Eq) (rCmp X.K .eq) := opr_imp (op_eqD hu) fun x y H Q h => by
  obtain ⟨c, d, e, b, rfl, k, rx, ry, h, q⟩ := rCmp_get h
  simp only [cmpD, eqD, bind, Option.bind_eq_some_iff] at h
  obtain ⟨p1, h1, p2, h2, h3⟩ := h
  cases h3
  exact ⟨p1, p2, dp_ofB k _ _ _ _ h1 rx, dp_ofB k _ _ _ _ h2 ry, toP_shaped h1, toP_shaped h2, q⟩
theorem s_ne (hu : X.A.units + 64 < cLine) : OpR X (compareOp .NotEq) (rCmp X.K .ne) := opr_imp (op_neD hu) fun x y H Q h => by
  obtain ⟨c, d, e, b, rfl, k, rx, ry, h, q⟩ := rCmp_get h
  simp only [cmpD, eqD, bind, Option.map_eq_some_iff, Option.bind_eq_some_iff] at h
  obtain ⟨b', ⟨p1, h1, p2, h2, h3⟩, rfl⟩ := h
  cases h3
  exact ⟨p1, p2, dp_ofB k _ _ _ _ h1 rx, dp_ofB k _ _ _ _ h2 ry, toP_shaped h1, toP_shaped h2, q⟩
theorem rCmp_ints {op : Cmp} {g : Int → Int → Bool} (hD : ∀ st d e r, cmpD st op d e = some r → ∃ i j, d = .int i ∧ e = .int j ∧ r = g i j) {x y : V} {H : Hp} {Q : VK} (h : rCmp X.K op x y H Q) :
    rI0 (fun i j => .bl (g i j)) x y H Q := by
  obtain ⟨c, d, e, b, rfl, k, rx, ry, h, q⟩ := rCmp_get h
  obtain ⟨i, j, rfl, rfl, rfl⟩ := hD _ _ _ _ h
  exact ⟨i, j, rx.int, ry.int, q⟩
theorem s_lt : OpR X (compareOp .Lt) (rCmp X.K .lt) := opr_imp op_lt fun x y H Q h => rCmp_ints (fun st d e r h => by
    cases d <;> cases e <;> simp only [cmpD] at h <;> first | (cases h; done) | (cases h; exact ⟨_, _, rfl, rfl, rfl⟩)) h
theorem s_le : OpR X (compareOp .LtE) (rCmp X.K .le) := opr_imp op_le fun x y H Q h => rCmp_ints (fun st d e r h => by
    cases d <;> cases e <;> simp only [cmpD] at h <;> first | (cases h; done) | (cases h; exact ⟨_, _, rfl, rfl, rfl⟩)) h
theorem s_gt : OpR X (compareOp .Gt) (rCmp X.K .gt) := opr_imp op_gt fun x y H Q h => rCmp_ints (fun st d e r h => by
    cases d <;> cases e <;> simp only [cmpD] at h <;> first | (cases h; done) | (cases h; exact ⟨_, _, rfl, rfl, rfl⟩)) h
theorem s_ge : OpR X (compareOp .GtE) (rCmp X.K .ge) := opr_imp op_ge fun x y H Q h => rCmp_ints (fun st d e r h => by
    cases d <;> cases e <;> simp only [cmpD] at h <;> first | (cases h; done) | (cases h; exact ⟨_, _, rfl, rfl, rfl⟩)) h
theorem inD_get {K : PySem.W.Frag} {c : Cfg} {d e : D} {x y : V} {b : Bool} (k : SOk K c) (rx : RB K c d x) (ry : RB K c e y) (h : inD c.st d e = some b) :
    ∃ p xs, y = .ref p ∧ (SqL K c.H p xs ∨ SqT K c.H p xs) ∧ flatV x = true ∧ xs.all flatV = true ∧ inV x xs = b := by
  simp only [inD, bind, Option.bind_eq_some_iff] at h
  obtain ⟨ds, h0, p1, h1, qs, h2, h3⟩ := h
  cases h3
  obtain ⟨a, xs, rfl, hq, l⟩ := ry.seq k h0
  obtain ⟨f2, g2⟩ := flats_of h2 l
  exact ⟨a, xs, rfl, hq, (toP_flat h1 rx).1, f2, g2 h1 rx⟩
theorem s_in : OpR X (compareOp .In) (rCmp X.K .in_) := opr_imp op_in_seq fun x y H Q h => by
  obtain ⟨c, d, e, b, rfl, k, rx, ry, h, q⟩ := rCmp_get h
  obtain ⟨p, xs, hy, hq, f1, f2, rfl⟩ := inD_get k rx ry h
  exact ⟨p, xs, hy, hq, f1, f2, q⟩
theorem s_notin : OpR X (compareOp .NotIn) (rCmp X.K .notin) := opr_imp op_notIn_seq fun x y H Q h => by
  obtain ⟨c, d, e, b, rfl, k, rx, ry, h, q⟩ := rCmp_get h
  simp only [cmpD, Option.map_eq_some_iff] at h
  obtain ⟨b', h, rfl⟩ := h
  obtain ⟨p, xs, hy, hq, f1, f2, rfl⟩ := inD_get k rx ry h
  exact ⟨p, xs, hy, hq, f1, f2, q⟩
theorem RB.isN {K : PySem.W.Frag} {c : Cfg} {d : D} {v : V} (r : RB K c d v) : decide (v = V.non) = isNon d := by
  cases d with
  | non => rw [r.non]; rfl
  | bl b => rw [r.bl]; rfl
  | int b => rw [r.int]; rfl
  | str b => rw [r.str]; rfl
  | tup ds => obtain ⟨a, _, rfl, _⟩ := r.tup; rfl
  | lst ds => obtain ⟨a, _, rfl, _⟩ := r.lst; rfl
  | dic ks ds => obtain ⟨a, _, rfl, _⟩ := r.dic; rfl
  | dit ks ds => obtain ⟨a, _, rfl, _⟩ := r.dit; rfl
  | ins C ns ds =>
    have q := r.ins
    simp only [RV] at q
    obtain ⟨a, _, _, rfl, _⟩ := q; rfl
  | loc l => rw [r.loc.1]; rfl
theorem s_isN : OpR X (compareOp .Is) (rCmp X.K .isN) := opr_imp op_isN fun x y H Q h => by
  obtain ⟨c, d, e, b, rfl, k, rx, ry, h, q⟩ := rCmp_get h
  unfold cmpD at h
  split at h
  all_goals try contradiction
  cases h
  exact ⟨ry.non, by rw [rx.isN]; exact q⟩
theorem s_notN : OpR X (compareOp .IsNot) (rCmp X.K .notN) := opr_imp op_notN fun x y H Q h => by
  obtain ⟨c, d, e, b, rfl, k, rx, ry, h, q⟩ := rCmp_get h
  unfold cmpD at h
  split at h
  all_goals try contradiction
  cases h
  exact ⟨ry.non, by rw [rx.isN]; exact q⟩
def cmpOf : Cmp → CmpOp
  | .eq => .Eq | .ne => .NotEq | .lt => .Lt | .le => .LtE | .gt => .Gt | .ge => .GtE | .isN => .Is | .notN => .IsNot | .in_ => .In | .notin => .NotIn
theorem s_cmp (op : Cmp) (hu : X.A.units + 64 < cLine) : OpR X (compareOp (cmpOf op)) (rCmp X.K op) := by
  cases op
  · exact s_eq hu
  · exact s_ne hu
  · exact s_lt
  · exact s_le
  · exact s_gt
  · exact s_ge
  · exact s_isN
  · exact s_notN
  · exact s_in
  · exact s_notin
end
end DI
/-! DI: expressions, part 3: items, slices, built-in functions. -/
set_option maxHeartbeats 1000000
namespace DI
open PySem PySem.Spec PyProof.Rows L2

section
variable {K : PySem.W.Frag} {c : Cfg}
theorem atI_rl {ds : List D} {xs : List V} {i : Int} {d : D} (l : RL K c ds xs) (h : L2.atI ds i = some d) : ∃ v, L2.atI xs i = some v ∧ RV K c d v := by
  unfold L2.atI at h ⊢
  rw [l.length] at h
  cases e : ixN xs.length i with
  | none => rw [e] at h; cases h
  | some j =>
    rw [e] at h
    exact l.get h
theorem valV_s {x : Str} : ∀ {ks : List Str} {vs : List D} {d : D} {kvs : List (Key × V)}, lookS x ks vs = some d → kvs.map (·.1) = ks.map (Sum.inr : Str → Key) → RL K c vs (kvs.map (·.2)) → ∃ v, valV kvs (Sum.inr x : Key) = some v ∧ RV K c d v
  | [], _, _, _, h, _, _ => by simp [lookS] at h
  | _ :: _, [], _, _, h, _, _ => by simp [lookS] at h
  | k :: ks, d0 :: ds, d, [], h, e, _ => by simp at e
  | k :: ks, d0 :: ds, d, kv :: kvs, h, e, l => by
    simp only [List.map_cons, List.cons.injEq] at e
    simp only [List.map_cons, RL] at l
    unfold lookS at h
    unfold valV
    rw [List.find?_cons]
    by_cases q : k = x
    · rw [if_pos q] at h
      cases h
      have : decide (kv.1 = (Sum.inr x : Key)) = true := decide_eq_true (by rw [e.1, q])
      rw [this]
      exact ⟨kv.2, rfl, l.1⟩
    · rw [if_neg q] at h
      have : decide (kv.1 = (Sum.inr x : Key)) = false := decide_eq_false (by rw [e.1]; exact fun z => q (Sum.inr.inj z))
      rw [this]
      exact valV_s h e.2 l.2
theorem mapInl_inj : ∀ {a b : List Int}, a.map (Sum.inl : Int → Key) = b.map (Sum.inl : Int → Key) → a = b
  | [], [], _ => rfl
  | [], _ :: _, h => by simp at h
  | _ :: _, [], h => by simp at h
  | x :: a, y :: b, h => by
    simp only [List.map_cons, List.cons.injEq] at h
    rw [Sum.inl.inj h.1, mapInl_inj h.2]
theorem valV_i {x : List Int} : ∀ {ks : List (List Int)} {vs : List D} {d : D} {kvs : List (List Key × V)}, lookI x ks vs = some d → kvs.map (·.1) = ks.map (fun k => k.map (Sum.inl : Int → Key)) → RL K c vs (kvs.map (·.2)) → ∃ v, valV kvs (x.map (Sum.inl : Int → Key)) = some v ∧ RV K c d v
  | [], _, _, _, h, _, _ => by simp [lookI] at h
  | _ :: _, [], _, _, h, _, _ => by simp [lookI] at h
  | k :: ks, d0 :: ds, d, [], h, e, _ => by simp at e
  | k :: ks, d0 :: ds, d, kv :: kvs, h, e, l => by
    simp only [List.map_cons, List.cons.injEq] at e
    simp only [List.map_cons, RL] at l
    unfold lookI at h
    unfold valV
    rw [List.find?_cons]
    by_cases q : k = x
    · rw [if_pos q] at h
      cases h
      have : decide (kv.1 = x.map (Sum.inl : Int → Key)) = true := decide_eq_true (by rw [e.1, q])
      rw [this]
      exact ⟨kv.2, rfl, l.1⟩
    · rw [if_neg q] at h
      have : decide (kv.1 = x.map (Sum.inl : Int → Key)) = false := decide_eq_false (by rw [e.1]; exact fun z => q (mapInl_inj z))
      rw [this]
      exact valV_i h e.2 l.2
theorem kV_ints (ns : List Int) : (ns.map (Sum.inl : Int → Key)).map kV = ns.map V.int := by
  rw [List.map_map]; rfl
/-- a dict by its entries -/
theorem RB.dicOf {v : V} {d : D} (k : SOk K c) (h : RB K c d v) {ks : List Str} {vs : List D} (e : rd c.st d = .dic ks vs) : ∃ a kvs, v = .ref a ∧ c.H a = some (.dK kvs) ∧ kvs.map (·.1) = ks.map (Sum.inr : Str → Key) ∧ RL K c vs (kvs.map (·.2)) := by
  rcases h.read k with h | ⟨a, ev, h, _⟩
  · rw [e] at h
    obtain ⟨a, kvs, q1, _, q2, q3, q4⟩ := h.dic
    exact ⟨a, kvs, q1, q2, q3, q4⟩
  · rw [e] at h
    obtain ⟨kvs, q2, q3, q4⟩ := h
    exact ⟨a, kvs, ev, q2, q3, q4⟩
theorem RB.ditOf {v : V} {d : D} (k : SOk K c) (h : RB K c d v) {ks : List (List Int)} {vs : List D} (e : rd c.st d = .dit ks vs) : ∃ a kvs, v = .ref a ∧ c.H a = some (.dT kvs) ∧ kvs.map (·.1) = ks.map (fun k => k.map (Sum.inl : Int → Key)) ∧ RL K c vs (kvs.map (·.2)) := by
  rcases h.read k with h | ⟨a, ev, h, _⟩
  · rw [e] at h
    obtain ⟨a, kvs, q1, _, q2, q3, q4⟩ := h.dit
    exact ⟨a, kvs, q1, q2, q3, q4⟩
  · rw [e] at h
    obtain ⟨kvs, q2, q3, q4⟩ := h
    exact ⟨a, kvs, ev, q2, q3, q4⟩
theorem RB.insOf {v : V} {d : D} (k : SOk K c) (h : RB K c d v) {C : Str} {ns : List Str} {vs : List D} (e : rd c.st d = .ins C ns vs) : ∃ a dx fs, v = .ref a ∧ c.H a = some (.ins (He.ga K C) dx fs) ∧ fs.map (·.1) = ns ∧ RL K c vs (fs.map (·.2)) := by
  rcases h.read k with h | ⟨a, ev, h, _⟩
  · rw [e] at h
    have q := h.ins
    simp only [RV] at q
    obtain ⟨a, dx, fs, q1, _, q2, q3, q4⟩ := q
    exact ⟨a, dx, fs, q1, q2, q3, q4⟩
  · rw [e] at h
    obtain ⟨dx, fs, q2, q3, q4⟩ := h
    exact ⟨a, dx, fs, ev, q2, q3, q4⟩
theorem lookup_fs {f : Str} : ∀ {ns : List Str} {vs : List D} {fs : List (Str × V)} {d : D}, lookS f ns vs = some d → fs.map (·.1) = ns → RL K c vs (fs.map (·.2)) → ∃ v, fs.lookup f = some v ∧ RV K c d v
  | [], _, _, _, h, _, _ => by simp [lookS] at h
  | _ :: _, [], _, _, h, _, _ => by simp [lookS] at h
  | k :: ks, d0 :: ds, [], _, _, e, _ => by simp at e
  | k :: ks, d0 :: ds, kv :: kvs, d, h, e, l => by
    obtain ⟨k1, v1⟩ := kv
    simp only [List.map_cons, List.cons.injEq] at e
    simp only [List.map_cons, RL] at l
    unfold lookS at h
    rw [List.lookup_cons]
    by_cases q : k = f
    · rw [if_pos q] at h
      cases h
      have : (f == k1) = true := beq_iff_eq.mpr (by rw [e.1, q])
      rw [this]
      exact ⟨v1, rfl, l.1⟩
    · rw [if_neg q] at h
      have : (f == k1) = false := beq_eq_false_iff_ne.mpr (by rw [e.1]; exact fun z => q z.symm)
      rw [this]
      exact lookup_fs h e.2 l.2
end

section
variable {X : Cx}
/-- a dict's item, by values -/
theorem ix_dict (hu : X.A.units + 1 < cLine) : IxR X (fun x y H Q => ∃ a v, x = .ref a ∧ DGet H a y (some v) ∧ Q v H) := by
  intro value slice pins s σ H x y v u Q I rx ry h hs
  obtain ⟨a, z, rfl, g, q⟩ := h
  cases rx
  exact tail_any (dict_typeIs I g) PySem.F.slot_dict_getitem.lookup (d_getItem hu I g ry fun w' s' I' rw' => ⟨z, H, I', rw', q⟩) hs
def rIdx (K : PySem.W.Frag) : R2 := fun x y H Q => ∃ (c : Cfg) (d e : D) (E : Value → Option Addr → Hp → Prop), c.H = H ∧ SOk K c ∧ RB K c d x ∧ RB K c e y ∧ Post K (RV K) E c ((idxD c.st d e).map fun r => (Rs.ok r, c.st)) Q
theorem ixr_imp {r r' : R2} (h : IxR X r) (k : ∀ x y H Q, r' x y H Q → r x y H Q) : IxR X r' := fun value slice pins s σ H x y v u Q I rx ry q hs => h value slice pins s σ H x y v u Q I rx ry (k _ _ _ _ q) hs
theorem s_idx (hu : X.A.units + 1 < cLine) : IxR X (rIdx X.K) := by
  refine ixr_imp (IxR.or ix_list (IxR.or ix_tup (ix_dict hu))) fun x y H Q h => ?_
  obtain ⟨c, d, e, E, rfl, k, rx, ry, p⟩ := h
  obtain ⟨r, e1, p'⟩ := p.map
  unfold idxD at e1
  split at e1
  · rename_i ds i er
    obtain ⟨a, xs, rfl, _, q, l⟩ := rx.tupOf k er
    obtain ⟨v, hv, rv⟩ := atI_rl l e1
    exact .inr (.inl ⟨a, xs, i, v, rfl, ry.int, .inl (.inl q), hv, p'.ok k rv⟩)
  · rename_i ds i er
    obtain ⟨a, xs, rfl, q, l⟩ := rx.lstOf k er
    obtain ⟨v, hv, rv⟩ := atI_rl l e1
    exact .inl ⟨a, xs, i, v, rfl, ry.int, .inl q, hv, p'.ok k rv⟩
  · rename_i ks vs x' er
    obtain ⟨a, kvs, rfl, q, hk, l⟩ := rx.dicOf k er
    obtain ⟨v, hv, rv⟩ := valV_s e1 hk l
    refine .inr (.inr ⟨a, v, rfl, ?_, p'.ok k rv⟩)
    rw [ry.str, ← hv]
    exact DGet.k (k := (Sum.inr x' : Key)) q
  · rename_i ks vs t er
    simp only [Option.bind_eq_some_iff] at e1
    obtain ⟨ns, h1, h2⟩ := e1
    obtain ⟨a, kvs, rfl, q, hk, l⟩ := rx.ditOf k er
    obtain ⟨b, ys, rfl, _, rb, lb⟩ := ry.tup
    obtain ⟨hy, _⟩ := lb.ints h1
    obtain ⟨v, hv, rv⟩ := valV_i h2 hk l
    refine .inr (.inr ⟨a, v, rfl, ?_, p'.ok k rv⟩)
    rw [← hv]
    exact DGet.t (k := ns.map (Sum.inl : Int → Key)) q (by rw [kV_ints, rb, hy])
  · cases e1

/-! ### slices -/
def rSlc (K : PySem.W.Frag) : V → Option Int → Option Int → Hp → VK → Prop := fun x lo hi H Q => ∃ (c : Cfg) (d : D) (E : Value → Option Addr → Hp → Prop), c.H = H ∧ SOk K c ∧ RB K c d x ∧ Post K (RV K) E c ((slcD c.st d lo hi).map fun r => (Rs.ok r, c.st)) Q
theorem slr_imp {r r' : V → Option Int → Option Int → Hp → VK → Prop} (h : SlR X r) (k : ∀ x lo hi H Q, r' x lo hi H Q → r x lo hi H Q) : SlR X r' := fun pins s σ H x v vl vu lo hi sl Q I rx hs pl pu q => h pins s σ H x v vl vu lo hi sl Q I rx hs pl pu (k _ _ _ _ _ q)
theorem RL.cut {K : PySem.W.Frag} {c : Cfg} {ds : List D} {xs : List V} (l : RL K c ds xs) (lo hi : Option Int) : RL K c (cutL ds lo hi) (cutV xs lo hi) := by
  unfold cutL cutV
  rw [l.length]
  exact (l.drop _).take _
theorem cutL_all {ds : List D} {lo hi : Option Int} (h : HT.sIx ds.length 0 lo = 0 ∧ HT.sIx ds.length ds.length hi = ds.length) : cutL ds lo hi = ds := by
  unfold cutL
  rw [h.1, h.2, List.drop_zero, Nat.sub_zero, List.take_length]
theorem s_slc : SlR X (rSlc X.K) := by
  refine slr_imp (SlR.or sl_list sl_tupA) fun x lo hi H Q h => ?_
  obtain ⟨c, d, E, rfl, k, rx, p⟩ := h
  obtain ⟨r, e1, p'⟩ := p.map
  unfold slcD at e1
  split at e1
  · rename_i ds er
    cases e1
    obtain ⟨a, xs, rfl, f, q, l⟩ := rx.tupOf k er
    refine .inr ⟨a, xs, rfl, .inl (.inl q), fun z => ?_, fun _ => p'.tup k (l.cut lo hi)⟩
    rw [← l.length] at z
    exact p'.ok k (by rw [cutL_all z]; exact RV.tupI f q l)
  · rename_i ds er
    cases e1
    obtain ⟨a, xs, rfl, q, l⟩ := rx.lstOf k er
    exact .inl ⟨a, xs, rfl, .inl q, p'.lst k (l.cut lo hi)⟩
  · cases e1

/-! ### built-in functions of one argument -/
def rFn (K : PySem.W.Frag) (b : Fn) : List V → Hp → VK → Prop := fun xs H Q => ∃ (c : Cfg) (d : D) (v : V) (E : Value → Option Addr → Hp → Prop), xs = [v] ∧ c.H = H ∧ SOk K c ∧ RB K c d v ∧ Post K (RV K) E c ((fnD c.st b d).map fun r => (Rs.ok r, c.st)) Q
theorem cr_imp {f : Value} {r r' : List V → Hp → VK → Prop} (h : CallR X f r) (k : ∀ xs H Q, r' xs H Q → r xs H Q) : CallR X f r' := fun pins s σ H xs us Q I rx q => h pins s σ H xs us Q I rx (k _ _ _ q)
theorem cr_or {f : Value} {r r' : List V → Hp → VK → Prop} (h : CallR X f r) (h' : CallR X f r') : CallR X f (fun xs H Q => r xs H Q ∨ r' xs H Q) := fun pins s σ H xs us Q I rx q => q.elim (h pins s σ H xs us Q I rx) (h' pins s σ H xs us Q I rx)
theorem s_len : CallR X (.builtin "len") (rFn X.K .len) := by
  refine cr_imp (cr_or call_len call_lenD) fun xs H Q h => ?_
  obtain ⟨c, d, v, E, rfl, rfl, k, rx, p⟩ := h
  obtain ⟨r, e1, p'⟩ := p.map
  simp only [fnD] at e1
  split at e1
  · rename_i ds er
    cases e1
    obtain ⟨a, xs, rfl, f, q, l⟩ := rx.tupOf k er
    exact .inl ⟨_, ds.length, rfl, .inr ⟨xs, .inl (.inl q), l.length⟩, p'.ok k (by simp only [RV])⟩
  · rename_i ds er
    cases e1
    obtain ⟨a, xs, rfl, q, l⟩ := rx.lstOf k er
    exact .inl ⟨_, ds.length, rfl, .inl ⟨xs, .inl q, l.length⟩, p'.ok k (by simp only [RV])⟩
  · rename_i x er
    split at e1
    · rename_i hc
      cases e1
      have ev : v = .str x := by
        rcases rx.read k with q | ⟨a, _, q, _⟩
        · rw [er] at q; exact q.str
        · rw [er] at q; exact q.elim
      subst ev
      exact .inl ⟨_, x.length, rfl, ⟨line _ hc, rfl⟩, p'.ok k (by simp only [RV])⟩
    · cases e1
  · rename_i ks vs er
    cases e1
    obtain ⟨a, kvs, rfl, q, hk, l⟩ := rx.dicOf k er
    have hl : kvs.length = ks.length := by simpa using congrArg List.length hk
    refine .inr ⟨a, kvs, rfl, q, ?_⟩
    rw [hl]
    exact p'.ok k (by simp only [RV])
  · cases e1
theorem s_tuple : CallR X (.type "tuple") (rFn X.K .tuple) := by
  refine cr_imp call_tuple_of fun xs H Q h => ?_
  obtain ⟨c, d, v, E, rfl, rfl, k, rx, p⟩ := h
  obtain ⟨r, e1, p'⟩ := p.map
  simp only [fnD, seqOf, Option.map_eq_some_iff] at e1
  obtain ⟨ds, e1, rfl⟩ := e1
  split at e1
  · rename_i es er
    cases e1
    obtain ⟨a, xs, rfl, f, q, l⟩ := rx.tupOf k er
    exact ⟨a, xs, rfl, .inr ⟨.inl (.inl q), p'.ok k (RV.tupI f q l)⟩⟩
  · rename_i es er
    cases e1
    obtain ⟨a, xs, rfl, q, l⟩ := rx.lstOf k er
    exact ⟨a, xs, rfl, .inl ⟨.inl q, p'.tup k l⟩⟩
  · cases e1
theorem s_int : CallR X (.type "int") (rFn X.K .int) := by
  refine cr_imp call_int1 fun xs H Q h => ?_
  obtain ⟨c, d, v, E, rfl, rfl, k, rx, p⟩ := h
  obtain ⟨r, e1, p'⟩ := p.map
  cases d <;> simp only [fnD] at e1 <;> first | (cases e1; done) | skip
  cases e1
  exact .inl ⟨_, by rw [rx.int], p'.ok k (by simp only [RV])⟩
theorem RB.bools {K : PySem.W.Frag} {c : Cfg} {d : D} {v : V} (k : SOk K c) (h : RB K c d v) {bs : List Bool} (e : (DI.lstOf c.st d).bind boolsOf = some bs) : ∃ a, v = .ref a ∧ SqL K c.H a (bs.map V.bl) := by
  simp only [DI.lstOf, Option.bind_eq_some_iff] at e
  obtain ⟨ds, e1, e2⟩ := e
  split at e1
  · rename_i es er
    cases e1
    obtain ⟨a, xs, rfl, q, l⟩ := h.lstOf k er
    exact ⟨a, rfl, .inl (by rw [← l.bools e2]; exact q)⟩
  · cases e1
theorem RB.intsL {K : PySem.W.Frag} {c : Cfg} {d : D} {v : V} (k : SOk K c) (h : RB K c d v) {bs : List Int} (e : (DI.lstOf c.st d).bind intsOf = some bs) : ∃ a, v = .ref a ∧ SqL K c.H a (bs.map V.int) := by
  simp only [DI.lstOf, Option.bind_eq_some_iff] at e
  obtain ⟨ds, e1, e2⟩ := e
  split at e1
  · rename_i es er
    cases e1
    obtain ⟨a, xs, rfl, q, l⟩ := h.lstOf k er
    exact ⟨a, rfl, .inl (by rw [← (l.ints e2).1]; exact q)⟩
  · cases e1
theorem s_any (hc : X.calm = true) : CallR X (.builtin "any") (rFn X.K .any) := by
  refine cr_imp (cr_any hc) fun xs H Q h => ?_
  obtain ⟨c, d, v, E, rfl, rfl, k, rx, p⟩ := h
  obtain ⟨r, e1, p'⟩ := p.map
  simp only [fnD] at e1
  obtain ⟨bs, e2, rfl⟩ := Option.map_eq_some_iff.mp e1
  obtain ⟨a, rfl, q⟩ := rx.bools k e2
  exact ⟨a, bs, rfl, q, p'.ok k (by simp only [RV])⟩
theorem s_all (hc : X.calm = true) : CallR X (.builtin "all") (rFn X.K .all) := by
  refine cr_imp (cr_all hc) fun xs H Q h => ?_
  obtain ⟨c, d, v, E, rfl, rfl, k, rx, p⟩ := h
  obtain ⟨r, e1, p'⟩ := p.map
  simp only [fnD] at e1
  obtain ⟨bs, e2, rfl⟩ := Option.map_eq_some_iff.mp e1
  obtain ⟨a, rfl, q⟩ := rx.bools k e2
  exact ⟨a, bs, rfl, q, p'.ok k (by simp only [RV])⟩
theorem s_sum (hc : X.calm = true) : CallR X (.builtin "sum") (rFn X.K .sum) := by
  refine cr_imp (cr_sum hc) fun xs H Q h => ?_
  obtain ⟨c, d, v, E, rfl, rfl, k, rx, p⟩ := h
  obtain ⟨r, e1, p'⟩ := p.map
  simp only [fnD] at e1
  obtain ⟨bs, e2, rfl⟩ := Option.map_eq_some_iff.mp e1
  obtain ⟨a, rfl, q⟩ := rx.intsL k e2
  exact ⟨a, bs, rfl, q, p'.ok k (by simp only [RV])⟩

/-! ### isinstance -/
def tyName : Ty → String
  | .int => "int" | .bool => "bool" | .str => "str" | .tuple => "tuple" | .list => "list" | .dict => "dict"
theorem kits (t u : Ty) : kitB (tyName u) (tyName t) = some (decide (t = u) || (decide (t = .int) && decide (u = .bool))) := by
  cases t <;> cases u <;> decide +kernel
theorem kitsN (t : Ty) : kitB "NoneType" (tyName t) = some false := by
  cases t <;> decide +kernel
def rIsT (K : PySem.W.Frag) (t : Ty) : List V → Hp → VK → Prop := fun xs H Q => ∃ (c : Cfg) (d : D) (v : V) (E : Value → Option Addr → Hp → Prop), xs = [v, .ty (tyName t)] ∧ c.H = H ∧ SOk K c ∧ RB K c d v ∧ Post K (RV K) E c ((isTy c.st t d).map fun r => (Rs.ok (.bl r), c.st)) Q
theorem s_isi (t : Ty) : CallR X (.builtin "isinstance") (rIsT X.K t) := by
  refine cr_imp call_isi fun xs H Q h => ?_
  obtain ⟨c, d, v, E, rfl, rfl, k, rx, p⟩ := h
  obtain ⟨r, e1, p'⟩ := p.mapB
  unfold isTy at e1
  have fin : ∀ {u : Ty}, (decide (t = u) || (decide (t = .int) && decide (u = .bool))) = r → TyX X.K c.H v (.type (tyName u)) → rIsi X.K [v, V.ty (tyName t)] c.H Q := fun {u} hr tx =>
    ⟨v, .ty (tyName t), .type (tyName u), .type (tyName t), r, rfl, .ty _, tx, kit_ty (by rw [kits, hr]), p'.ok k (by simp only [RV])⟩
  rcases rx.read k with q | ⟨a, rfl, q, ht⟩
  · revert q e1
    cases rd c.st d with
    | non =>
      intro e1 q
      cases e1
      exact ⟨v, .ty (tyName t), .type "NoneType", .type (tyName t), false, rfl, .ty _, .base (by rw [q.non]; exact .non), kit_ty (kitsN t), p'.ok k (by simp only [RV])⟩
    | int i => intro e1 q; simp only [tyD, Option.map_some, Option.some.injEq] at e1; exact fin e1 (.base (by rw [q.int]; exact .int i))
    | bl i => intro e1 q; simp only [tyD, Option.map_some, Option.some.injEq] at e1; exact fin e1 (.base (by rw [q.bl]; exact .bl i))
    | str i => intro e1 q; simp only [tyD, Option.map_some, Option.some.injEq] at e1; exact fin e1 (.base (by rw [q.str]; exact .str i))
    | tup i => intro e1 q; simp only [tyD, Option.map_some, Option.some.injEq] at e1; obtain ⟨a, xs, rfl, _, z, _⟩ := q.tup; exact fin e1 (.base (.tup z))
    | lst i =>
      intro e1 q; simp only [tyD, Option.map_some, Option.some.injEq] at e1; obtain ⟨a, xs, rfl, _, z, _⟩ := q.lst
      rcases z with z | ⟨o, z⟩
      · exact fin e1 (.base (.lst z))
      · exact fin e1 (.base (.frz z))
    | dic i j => intro e1 q; simp only [tyD, Option.map_some, Option.some.injEq] at e1; obtain ⟨a, xs, rfl, _, z, _⟩ := q.dic; exact fin e1 (.base (.dK z))
    | dit i j => intro e1 q; simp only [tyD, Option.map_some, Option.some.injEq] at e1; obtain ⟨a, xs, rfl, _, z, _⟩ := q.dit; exact fin e1 (.base (.dT z))
    | ins _ _ _ => intro e1 q; cases e1
    | loc _ => intro e1 q; cases e1
  · revert q e1 ht
    cases rd c.st d with
    | lst i => intro e1 q ht; simp only [tyD, Option.map_some, Option.some.injEq] at e1; obtain ⟨xs, z, _⟩ := q; exact fin e1 (.base (.lst z))
    | dic i j => intro e1 q ht; simp only [tyD, Option.map_some, Option.some.injEq] at e1; obtain ⟨xs, z, _⟩ := q; exact fin e1 (.base (.dK z))
    | dit i j => intro e1 q ht; simp only [tyD, Option.map_some, Option.some.injEq] at e1; obtain ⟨xs, z, _⟩ := q; exact fin e1 (.base (.dT z))
    | tup i => intro e1 q ht; exact (ht i rfl).elim
    | ins _ _ _ => intro e1 q ht; cases e1
    | _ => intro e1 q ht; exact q.elim
end
end DI
/-! DI: expressions, part 4: each construct. -/
set_option maxHeartbeats 1000000
namespace DI
open PySem PySem.Spec PyProof.Rows L2

section
variable {X : Cx} {W : WX} {o : Orc} {e a b t : Expr} {ca cb ct ce : CE} {pos : Pos}
abbrev PEd (X : Cx) (o : Orc) (W : WX) (e : Expr) (c : CE) : Prop := PE X e (tE X.K o W c)
abbrev PBd (X : Cx) (o : Orc) (W : WX) (e : Expr) (c : CE) : Prop := PE X e (tB X.K o W c)
abbrev PTd (X : Cx) (o : Orc) (W : WX) (e : Expr) (c : CE) : Prop := PT X e (tT X.K o W c)
abbrev PAd (X : Cx) (o : Orc) (W : WX) (es : List Expr) (c : List CE) : Prop := PA X es (tL X.K o W c)
theorem lend_ne {env : DI.Env} {st : Store} {r : Res} (h : ∀ i, ce ≠ .var i) : lend ce env st r = r := by
  cases ce <;> first | rfl | exact absurd rfl (h _)
theorem pb_of (h : PEd X o W e ce) (hn : ∀ i, ce ≠ .var i) : PBd X o W e ce := peImp h fun σ H Q ⟨c₀, env, c, hH, fr, p⟩ => ⟨c₀, env, c, hH, fr, by
  rw [lend_ne hn] at p
  exact p.weak fun _ _ _ r => .inl r⟩
theorem pt_of (h : PEd X o W e ce) (he : ∀ whole, isTrue e X.env whole = (do let v ← whole; standAt e.pos; holding [v] (truthy v)) := by intro _; rfl) : PTd X o W e ce := pt_val h he

theorem ifT {p q : Prop} (h : p) : if true = true then p else q := by rw [if_pos rfl]; exact h
theorem ifF {p q : Prop} (h : q) : if false = true then p else q := by rw [if_neg Bool.false_ne_true]; exact h
/-! ### names, constants -/
theorem d_var {x : Str} {i : Nat} (hN : X.N[i]? = some x) (hv : Vis X.env.scope x) (hd : (x == ("__debug__" : Str)) = false) (hcd : (x == ("__classdict__" : Str)) = false) : PEd X o W (.Name x pos) (.var i) := by
  refine peImp (pe_var hN hv hd hcd) fun σ H Q ⟨c₀, env, c, hH, fr, p⟩ => ?_
  simp only [evalE] at p
  subst hH
  obtain ⟨d, e, p'⟩ := p.map
  unfold slotV at e
  split at e
  · rename_i d' h
    cases e
    obtain ⟨v, hv, rv⟩ := fr.er.val i d h
    exact ⟨v, hv, p'.ok fr.ok rv⟩
  · cases e
theorem own_ok {K : PySem.W.Frag} {c₀ c : Cfg} {env : DI.Env} {σ : L2.St} (fr : FR K c₀ c env σ) {i : Nat} {d : D} (h : env[i]? = some (Slot.own d)) : ∃ v, σ[i]? = some (some v) ∧ ∃ a, v = .ref a ∧ Nr c a ∧ CR K c d a := by
  obtain ⟨a, e, f, _, r⟩ := fr.er.own i d h
  exact ⟨_, e, a, rfl, fr.ok.nr f, r⟩
theorem d_varB {x : Str} {i : Nat} (hN : X.N[i]? = some x) (hv : Vis X.env.scope x) (hd : (x == ("__debug__" : Str)) = false) (hcd : (x == ("__classdict__" : Str)) = false) : PBd X o W (.Name x pos) (.var i) := by
  refine peImp (pe_var hN hv hd hcd) fun σ H Q ⟨c₀, env, c, hH, fr, p⟩ => ?_
  simp only [lend] at p
  subst hH
  obtain ⟨d, e, p'⟩ := p.map
  unfold slotB at e
  split at e
  · rename_i d' h
    cases e
    obtain ⟨v, hv, rv⟩ := fr.er.val i d h
    exact ⟨v, hv, p'.ok fr.ok (.inl rv)⟩
  · rename_i d' h
    cases hd : lendable d' with
    | true =>
      rw [if_pos hd] at e
      cases e
      obtain ⟨v, hv, a, hva, n, r⟩ := own_ok fr h
      refine ⟨v, hv, p'.ok fr.ok (.inr ⟨a, hva, n, r, ?_⟩)⟩
      revert hd
      cases d <;> simp [lendable]
    | false =>
      rw [if_neg (by rw [hd]; exact Bool.false_ne_true)] at e
      cases e
  · cases e
theorem d_int {i : Int} {j : Nat} : PEd X o W (.Constant (.int i) j pos) (.con (.int i)) := peImp pe_int fun σ H Q ⟨c₀, env, c, hH, fr, p⟩ => by
  subst hH; exact p.ok fr.ok (by simp only [RV])
theorem d_bl {i : Bool} {j : Nat} : PEd X o W (.Constant (.bool i) j pos) (.con (.bl i)) := peImp pe_bl fun σ H Q ⟨c₀, env, c, hH, fr, p⟩ => by
  subst hH; exact p.ok fr.ok (by simp only [RV])
theorem d_non {j : Nat} : PEd X o W (.Constant .none j pos) (.con .non) := peImp pe_non fun σ H Q ⟨c₀, env, c, hH, fr, p⟩ => by
  subst hH; exact p.ok fr.ok (by simp only [RV])
theorem d_str {i : Str} {j : Nat} : PEd X o W (.Constant (.str i) j pos) (.con (.str i)) := peImp pe_str fun σ H Q ⟨c₀, env, c, hH, fr, p⟩ => by
  subst hH; exact p.ok fr.ok (by simp only [RV])
theorem d_globI {x : Str} {i : Int} {tk : Tok} (hg : Gl X x) (hm : X.mg x = some (.int i tk)) (hd : (x == ("__debug__" : Str)) = false) : PEd X o W (.Name x pos) (.con (.int i)) := peImp (pe_glob (v := .int i) hg hm ⟨tk, rfl⟩ hd) fun σ H Q ⟨c₀, env, c, hH, fr, p⟩ => by
  subst hH; exact p.ok fr.ok (by simp only [RV])
theorem d_globS {x : Str} {i : Str} {tk : Tok} (hg : Gl X x) (hm : X.mg x = some (.str i tk)) (hd : (x == ("__debug__" : Str)) = false) : PEd X o W (.Name x pos) (.con (.str i)) := peImp (pe_glob (v := .str i) hg hm ⟨tk, rfl⟩ hd) fun σ H Q ⟨c₀, env, c, hH, fr, p⟩ => by
  subst hH; exact p.ok fr.ok (by simp only [RV])

/-! ### argument lists, displays -/
theorem d_nil : PAd X o W [] [] := paImp pa_nil fun σ H Q ⟨c₀, env, c, hH, fr, p⟩ => by
  subst hH; exact p c [] rfl Step.refl fr.ok (by simp only [RL])
theorem d_cons {es : List Expr} {ces : List CE} (ha : PEd X o W e ce) (hr : PAd X o W es ces) (hs : starEach (e :: es) X.env = (false, eval e X.env) :: starEach es X.env) : PAd X o W (e :: es) (ce :: ces) := paImp (pa_cons ha hr hs) fun σ H Q ⟨c₀, env, c, hH, fr, p⟩ => by
  simp only [evalL] at p
  refine ⟨c₀, env, c, hH, fr, (p.bndE (R' := RV X.K)).mono fun v H1 ⟨c1, d1, e1, s1, k1, r1, p1⟩ => ⟨c₀, env, c1, e1, fr.step s1 k1, ?_⟩⟩
  have q := p1.bndLL
  refine PostL.mono q fun vs H2 ⟨c2, ds, e2, s2, k2, r2, p2⟩ => ?_
  subst e2
  exact p2 c2 (v :: vs) rfl Step.refl k2 (by simp only [RL]; exact ⟨r1.step s2, r2⟩)
theorem d_tup {es : List Expr} {ces : List CE} {k : Nat} (h : PAd X o W es ces) : PEd X o W (.Tuple es k pos) (.tup ces) := peImp (pe_tup h) fun σ H Q ⟨c₀, env, c, hH, fr, p⟩ => by
  simp only [evalE] at p
  refine ⟨c₀, env, c, hH, fr, p.bndL.mono fun vs H1 ⟨c1, ds, e1, s1, k1, r1, p1⟩ => ?_⟩
  subst e1
  split at p1
  · rename_i hc
    exact ⟨by rw [← r1.length]; exact line _ hc, p1.tup k1 r1⟩
  · exact p1.elim
/-! ### operators -/
theorem d_bin (op : Bin) (ha : PBd X o W a ca) (hb : PBd X o W b cb) : PEd X o W (.BinOp a (opOf op) b pos) (.bin op ca cb) := peImp (pe_op (s_binop op) ha hb) fun σ H Q ⟨c₀, env, c, hH, fr, p⟩ => by
  simp only [evalE] at p
  refine ⟨c₀, env, c, hH, fr, (p.bnd (R' := RB X.K)).mono fun v H1 ⟨c1, d1, e1, s1, k1, r1, p1⟩ => ⟨c₀, env, c1, e1, fr.step s1 k1, (p1.bnd (R' := RB X.K)).mono fun w H2 ⟨c2, d2, e2, s2, k2, r2, p2⟩ => ?_⟩⟩
  exact ⟨c2, d1, d2, _, e2, k2, r1.step s2, r2, p2⟩
theorem d_cmp (op : Cmp) (hu : X.A.units + 64 < cLine) (ha : PBd X o W a ca) (hb : PBd X o W b cb) (hm : behindInMarks (cmpOf op) b = false) : PEd X o W (.Compare a [cmpOf op] [b] pos) (.cmp op ca cb) := peImp (pe_cmpR (s_cmp op hu) ha hb hm) fun σ H Q ⟨c₀, env, c, hH, fr, p⟩ => by
  simp only [evalE] at p
  refine ⟨c₀, env, c, hH, fr, (p.bnd (R' := RB X.K)).mono fun v H1 ⟨c1, d1, e1, s1, k1, r1, p1⟩ => ⟨c₀, env, c1, e1, fr.step s1 k1, (p1.bnd (R' := RB X.K)).mono fun w H2 ⟨c2, d2, e2, s2, k2, r2, p2⟩ => ?_⟩⟩
  exact ⟨c2, d1, d2, _, e2, k2, r1.step s2, r2, p2⟩
theorem d_cmpT (op : Cmp) (hu : X.A.units + 64 < cLine) (ha : PBd X o W a ca) (hb : PBd X o W b cb) (hm : behindInMarks (cmpOf op) b = false) : PTd X o W (.Compare a [cmpOf op] [b] pos) (.cmp op ca cb) := ptImp (pt_cmpR (s_cmp op hu) ha hb hm) fun σ H Q ⟨c₀, env, c, hH, fr, p⟩ => by
  simp only [evalE] at p
  refine ⟨c₀, env, c, hH, fr, (p.bnd (R' := RB X.K)).mono fun v H1 ⟨c1, d1, e1, s1, k1, r1, p1⟩ => ⟨c₀, env, c1, e1, fr.step s1 k1, (p1.bnd (R' := RB X.K)).mono fun w H2 ⟨c2, d2, e2, s2, k2, r2, p2⟩ => ?_⟩⟩
  exact ⟨c2, d1, d2, _, e2, k2, r1.step s2, r2, p2⟩
theorem d_neg (ha : PEd X o W a ca) : PEd X o W (.UnaryOp .USub a pos) (.neg ca) := peImp (pe_un un_neg ha) fun σ H Q ⟨c₀, env, c, hH, fr, p⟩ => by
  simp only [evalE] at p
  refine ⟨c₀, env, c, hH, fr, (p.bnd (R' := RV X.K)).mono fun v H1 ⟨c1, d1, e1, s1, k1, r1, p1⟩ => ?_⟩
  subst e1
  split at p1
  · exact ⟨_, (RB.ofV r1).int, p1.ok k1 (by simp only [RV])⟩
  · exact p1.elim
theorem d_not (ha : PTd X o W a ca) : PTd X o W (.UnaryOp .Not a pos) (.not ca) := ptImp (pt_not ha) fun σ H Q ⟨c₀, env, c, hH, fr, p⟩ => by
  simp only [evalE] at p
  refine ⟨c₀, env, c, hH, fr, (p.bnd (R' := RV X.K)).mono fun v H1 ⟨c1, d1, e1, s1, k1, r1, p1⟩ => ?_⟩
  subst e1
  split at p1
  · rename_i cc
    obtain ⟨b, e, q⟩ := p1.ok k1 (v := .bl (!cc)) (by simp only [RV])
    cases e
    exact ⟨cc, (RB.ofV r1).bl, q⟩
  · exact p1.elim
theorem d_notV (ha : PEd X o W a ca) : PEd X o W (.UnaryOp .Not a pos) (.not ca) := peImp (pe_not ha) fun σ H Q ⟨c₀, env, c, hH, fr, p⟩ => by
  simp only [evalE] at p
  refine ⟨c₀, env, c, hH, fr, (p.bnd (R' := RV X.K)).mono fun v H1 ⟨c1, d1, e1, s1, k1, r1, p1⟩ => ?_⟩
  subst e1
  split at p1
  · rename_i cc
    exact ⟨cc, (RB.ofV r1).bl, p1.ok k1 (by simp only [RV])⟩
  · exact p1.elim
/-- what a chain, an and, an or hands on -/
theorem Post.blq {K : PySem.W.Frag} {E : Value → Option Addr → Hp → Prop} {c : Cfg} {b : Bool} {Q : Bool → Hp → Prop} (p : Post K (RV K) E c (some (.ok (.bl b), c.st)) fun v H1 => ∃ b, v = V.bl b ∧ Q b H1) (k : SOk K c) : Q b c.H := by
  obtain ⟨b', e, q⟩ := p.ok k (v := .bl b) (by simp only [RV])
  cases e
  exact q
theorem d_andV (ha : PEd X o W a ca) {r : List Expr} {pos : Pos} (hb : PE X (.BoolOp .And (b :: r) pos) (tE X.K o W cb)) : PEd X o W (.BoolOp .And (a :: b :: r) pos) (.and ca cb) := peImp (pe_and ha hb) fun σ H Q ⟨c₀, env, c, hH, fr, p⟩ => by
  simp only [evalE] at p
  refine ⟨c₀, env, c, hH, fr, (p.bnd (R' := RV X.K)).mono fun v H1 ⟨c1, d1, e1, s1, k1, r1, p1⟩ => ?_⟩
  split at p1
  · exact ⟨true, (RB.ofV r1).bl, ifT (⟨c₀, env, c1, e1, fr.step s1 k1, p1⟩)⟩
  · subst e1
    exact ⟨false, (RB.ofV r1).bl, ifF (p1.ok k1 (by simp only [RV]))⟩
  · exact p1.elim
theorem d_orV (ha : PEd X o W a ca) {r : List Expr} {pos : Pos} (hb : PE X (.BoolOp .Or (b :: r) pos) (tE X.K o W cb)) : PEd X o W (.BoolOp .Or (a :: b :: r) pos) (.or ca cb) := peImp (pe_or ha hb) fun σ H Q ⟨c₀, env, c, hH, fr, p⟩ => by
  simp only [evalE] at p
  refine ⟨c₀, env, c, hH, fr, (p.bnd (R' := RV X.K)).mono fun v H1 ⟨c1, d1, e1, s1, k1, r1, p1⟩ => ?_⟩
  split at p1
  · subst e1
    exact ⟨true, (RB.ofV r1).bl, ifT (p1.ok k1 (by simp only [RV]))⟩
  · exact ⟨false, (RB.ofV r1).bl, ifF (⟨c₀, env, c1, e1, fr.step s1 k1, p1⟩)⟩
  · exact p1.elim
abbrev PWd (X : Cx) (o : Orc) (W : WX) (e : Expr) (c : CE) : Prop := PW X e (tT X.K o W c)
theorem pwImp {t t' : TT} (h : PW X e t) (k : ∀ σ H Q, t' σ H Q → t σ H Q) : PW X e t' := ⟨fun wh pins s σ H Q I hw => h.run wh pins s σ H Q I (k σ H Q hw)⟩
theorem d_andT (ha : PTd X o W a ca) {r : List Expr} {pos : Pos} (hb : PWd X o W (.BoolOp .And (b :: r) pos) cb) : PWd X o W (.BoolOp .And (a :: b :: r) pos) (.and ca cb) := pwImp (pw_and ha hb) fun σ H Q ⟨c₀, env, c, hH, fr, p⟩ => by
  simp only [evalE] at p
  refine ⟨c₀, env, c, hH, fr, (p.bnd (R' := RV X.K)).mono fun v H1 ⟨c1, d1, e1, s1, k1, r1, p1⟩ => ?_⟩
  split at p1
  · exact ⟨true, (RB.ofV r1).bl, ifT (⟨c₀, env, c1, e1, fr.step s1 k1, p1⟩)⟩
  · subst e1
    exact ⟨false, (RB.ofV r1).bl, ifF (p1.blq k1)⟩
  · exact p1.elim
theorem d_orT (ha : PTd X o W a ca) {r : List Expr} {pos : Pos} (hb : PWd X o W (.BoolOp .Or (b :: r) pos) cb) : PWd X o W (.BoolOp .Or (a :: b :: r) pos) (.or ca cb) := pwImp (pw_or ha hb) fun σ H Q ⟨c₀, env, c, hH, fr, p⟩ => by
  simp only [evalE] at p
  refine ⟨c₀, env, c, hH, fr, (p.bnd (R' := RV X.K)).mono fun v H1 ⟨c1, d1, e1, s1, k1, r1, p1⟩ => ?_⟩
  split at p1
  · subst e1
    exact ⟨true, (RB.ofV r1).bl, ifT (p1.blq k1)⟩
  · exact ⟨false, (RB.ofV r1).bl, ifF (⟨c₀, env, c1, e1, fr.step s1 k1, p1⟩)⟩
  · exact p1.elim
theorem d_ite (ht : PTd X o W t ct) (ha : PEd X o W a ca) (hb : PEd X o W b cb) : PEd X o W (.IfExp t a b pos) (.ite ct ca cb) := peImp (pe_ifExp ht ha hb) fun σ H Q ⟨c₀, env, c, hH, fr, p⟩ => by
  simp only [evalE] at p
  refine ⟨c₀, env, c, hH, fr, (p.bnd (R' := RV X.K)).mono fun v H1 ⟨c1, d1, e1, s1, k1, r1, p1⟩ => ?_⟩
  split at p1
  · exact ⟨true, (RB.ofV r1).bl, ifT (⟨c₀, env, c1, e1, fr.step s1 k1, p1⟩)⟩
  · exact ⟨false, (RB.ofV r1).bl, ifF (⟨c₀, env, c1, e1, fr.step s1 k1, p1⟩)⟩
  · exact p1.elim
def ordOp : Cmp → Bool
  | .lt => true | .le => true | .gt => true | .ge => true | _ => false
theorem d_chain {op op' : Cmp} {d : Expr} {cd : CE} (hu : X.A.units + 64 < cLine) (ha : PEd X o W a ca) (hb : PEd X o W b cb) (hd : PEd X o W d cd) (hm : lastMarks [cmpOf op, cmpOf op'] [b, d] = false) :
    PEd X o W (.Compare a [cmpOf op, cmpOf op'] [b, d] pos) (.cmp2 op op' ca cb cd) := peImp (pe_chain (s_cmp op hu) (s_cmp op' hu) ha hb hd hm) fun σ H Q ⟨c₀, env, c, hH, fr, p⟩ => by
  simp only [evalE] at p
  refine ⟨c₀, env, c, hH, fr, (p.bnd (R' := RV X.K)).mono fun v H1 ⟨c1, d1, e1, s1, k1, r1, p1⟩ => ⟨c₀, env, c1, e1, fr.step s1 k1, (p1.bnd (R' := RV X.K)).mono fun w H2 ⟨c2, d2, e2, s2, k2, r2, p2⟩ => ?_⟩⟩
  have f2 := (fr.step s1 k1).step s2 k2
  refine ⟨c2, d1, d2, fun cls x H => W cls x σ H, e2, k2, .inl (r1.step s2), .inl r2, ?_⟩
  split at p2
  · rename_i hc
    rw [hc]
    intro c3 v3 e3 s3 k3 r3
    refine ⟨true, (RB.ofV r3).bl, ?_⟩
    rw [if_pos rfl]
    have p3 : Post X.K (RV X.K) _ c3 _ Q := p2.at s3
    rw [← show c3.st = c2.st from e3] at p3
    refine ⟨c₀, env, c3, rfl, f2.step s3 k3, (p3.bnd (R' := RV X.K)).mono fun z H4 ⟨c4, d4, e4, s4, k4, r4, p4⟩ => ?_⟩
    exact ⟨c4, d2, d4, _, e4, k4, .inl ((r2.step s3).step s4), .inl r4, p4⟩
  · rename_i hc
    rw [hc]
    intro c3 v3 e3 s3 k3 r3
    refine ⟨false, (RB.ofV r3).bl, ?_⟩
    rw [if_neg Bool.false_ne_true]
    exact p2 c3 (.bl false) e3 s3 k3 (by simp only [RV])
  · exact p2.elim

/-! ### items, slices, fields -/
theorem d_idx (hu : X.A.units + 1 < cLine) (ha : PBd X o W a ca) (hb : PEd X o W b cb) (hs : PlainIx b) : PEd X o W (.Subscript a b pos) (.idx ca cb) := peImp (pe_ix (s_idx hu) ha hb hs) fun σ H Q ⟨c₀, env, c, hH, fr, p⟩ => by
  simp only [evalE] at p
  refine ⟨c₀, env, c, hH, fr, (p.bnd (R' := RB X.K)).mono fun v H1 ⟨c1, d1, e1, s1, k1, r1, p1⟩ => ⟨c₀, env, c1, e1, fr.step s1 k1, (p1.bnd (R' := RV X.K)).mono fun w H2 ⟨c2, d2, e2, s2, k2, r2, p2⟩ => ?_⟩⟩
  exact ⟨c2, d1, d2, _, e2, k2, r1.step s2, .inl r2, p2⟩
theorem d_slc00 {p2 : Pos} (ha : PBd X o W a ca) : PEd X o W (.Subscript a (.Slice none none none p2) pos) (.slc ca none none) := peImp (pe_slice s_slc ha po_none po_none) fun σ H Q ⟨c₀, env, c, hH, fr, p⟩ => by
  simp only [evalE] at p
  exact ⟨c₀, env, c, hH, fr, (p.bnd (R' := RB X.K)).mono fun v H1 ⟨c1, d1, e1, s1, k1, r1, p1⟩ => ⟨c1, d1, _, e1, k1, r1, p1⟩⟩
theorem d_slc10 {p2 : Pos} (ha : PBd X o W a ca) (hb : PEd X o W b cb) : PEd X o W (.Subscript a (.Slice (some b) none none p2) pos) (.slc ca (some cb) none) := peImp (pe_slice s_slc ha (po_some hb) po_none) fun σ H Q ⟨c₀, env, c, hH, fr, p⟩ => by
  simp only [evalE] at p
  refine ⟨c₀, env, c, hH, fr, (p.bnd (R' := RB X.K)).mono fun v H1 ⟨c1, d1, e1, s1, k1, r1, p1⟩ => ⟨c₀, env, c1, e1, fr.step s1 k1, (p1.bnd (R' := RV X.K)).mono fun w H2 ⟨c2, d2, e2, s2, k2, r2, p2⟩ => ?_⟩⟩
  split at p2
  · exact ⟨_, (RB.ofV r2).int, c2, d1, _, e2, k2, r1.step s2, p2⟩
  · exact p2.elim
theorem d_slc01 {p2 : Pos} (ha : PBd X o W a ca) (hb : PEd X o W b cb) : PEd X o W (.Subscript a (.Slice none (some b) none p2) pos) (.slc ca none (some cb)) := peImp (pe_slice s_slc ha po_none (po_some hb)) fun σ H Q ⟨c₀, env, c, hH, fr, p⟩ => by
  simp only [evalE] at p
  refine ⟨c₀, env, c, hH, fr, (p.bnd (R' := RB X.K)).mono fun v H1 ⟨c1, d1, e1, s1, k1, r1, p1⟩ => ⟨c₀, env, c1, e1, fr.step s1 k1, (p1.bnd (R' := RV X.K)).mono fun w H2 ⟨c2, d2, e2, s2, k2, r2, p2⟩ => ?_⟩⟩
  split at p2
  · exact ⟨_, (RB.ofV r2).int, c2, d1, _, e2, k2, r1.step s2, p2⟩
  · exact p2.elim
theorem d_slc11 {p2 : Pos} {d : Expr} {cd : CE} (ha : PBd X o W a ca) (hb : PEd X o W b cb) (hd : PEd X o W d cd) : PEd X o W (.Subscript a (.Slice (some b) (some d) none p2) pos) (.slc ca (some cb) (some cd)) := peImp (pe_slice s_slc ha (po_some hb) (po_some hd)) fun σ H Q ⟨c₀, env, c, hH, fr, p⟩ => by
  simp only [evalE] at p
  refine ⟨c₀, env, c, hH, fr, (p.bnd (R' := RB X.K)).mono fun v H1 ⟨c1, d1, e1, s1, k1, r1, p1⟩ => ⟨c₀, env, c1, e1, fr.step s1 k1, (p1.bnd (R' := RV X.K)).mono fun w H2 ⟨c2, d2, e2, s2, k2, r2, p2⟩ => ?_⟩⟩
  cases d2 with
  | int i =>
    refine ⟨i, (RB.ofV r2).int, c₀, env, c2, e2, (fr.step s1 k1).step s2 k2, (p2.bnd (R' := RV X.K)).mono fun z H3 ⟨c3, d3, e3, s3, k3, r3, p3⟩ => ?_⟩
    split at p3
    · exact ⟨_, (RB.ofV r3).int, c3, d1, _, e3, k3, (r1.step s2).step s3, p3⟩
    · exact p3.elim
  | _ => exact p2.elim
end
end DI
/-! DI: what makes a new object. -/
set_option maxHeartbeats 1000000
namespace DI
open PySem PySem.Spec PyProof.Rows L2

/-- the new object for a value -/
def HoR (K : PySem.W.Frag) (c : Cfg) : D → HO → Prop
  | .lst ds, ho => ∃ xs, ho = .lst xs ∧ RL K c ds xs
  | .dic ks vs, ho => ∃ kvs, ho = .dK kvs ∧ kvs.map (·.1) = ks.map (Sum.inr : Str → Key) ∧ RL K c vs (kvs.map (·.2))
  | .dit ks vs, ho => ∃ kvs, ho = .dT kvs ∧ kvs.map (·.1) = ks.map (fun k => k.map (Sum.inl : Int → Key)) ∧ RL K c vs (kvs.map (·.2))
  | .ins C ns vs, ho => ∃ dx fs, ho = .ins (He.ga K C) dx fs ∧ fs.map (·.1) = ns ∧ RL K c vs (fs.map (·.2))
  | _, _ => False
def FPost (K : PySem.W.Frag) (E : Value → Option Addr → Hp → Prop) (c : Cfg) (m : Res) (Q : VK) : Prop :=
  match m with
  | none => False
  | some (.ok d, st) => ∀ c1 ho, c1.st = st → Step c c1 → SOk K c1 → HoR K c1 d ho → ∀ p, c1.H p = none → Q (.ref p) (upd c1.H p ho)
  | some (.ex C ns ds, st) => ∀ c' cls x, c'.st = st → Step c c' → SOk K c' → XR K c' C ns ds cls x → E cls x c'.H
def tF (K : PySem.W.Frag) (o : Orc) (W : WX) (e : CE) : TE := fun σ H Q => ∃ c₀ env c, c.H = H ∧ FR K c₀ c env σ ∧ FPost K (fun cls d H => W cls d σ H) c (evalE o e env c.st) Q
abbrev PFd (X : Cx) (o : Orc) (W : WX) (e : Expr) (c : CE) : Prop := PE X e (tF X.K o W c)

section
variable {K : PySem.W.Frag} {E : Value → Option Addr → Hp → Prop} {c c' : Cfg} {m : Res} {ml : ResL} {Q Q' : VK}
theorem FPost.at (p : FPost K E c m Q) (s : Step c c') : FPost K E c' m Q := by
  cases m with
  | none => exact p
  | some r =>
    obtain ⟨r, st⟩ := r
    cases r with
    | ok d => exact fun c1 v e t k r => p c1 v e (s.trans t) k r
    | ex C ns ds => exact fun c' v x e t k r => p c' v x e (s.trans t) k r
theorem FPost.bnd {R' : Cfg → D → V → Prop} {k : D → Store → Res} (p : FPost K E c (bnd m k) Q) : Post K R' E c m fun v H => ∃ c1 d, c1.H = H ∧ Step c c1 ∧ SOk K c1 ∧ R' c1 d v ∧ FPost K E c1 (k d c1.st) Q := by
  cases m with
  | none => exact p
  | some r =>
    obtain ⟨r, st⟩ := r
    cases r with
    | ok d => exact fun c' v e s k r => ⟨c', d, rfl, s, k, r, by subst e; exact FPost.at p s⟩
    | ex C ns ds => exact p
theorem FPost.bndL {k : List D → Store → Res} (p : FPost K E c (bndL ml k) Q) : PostL K E c ml fun v H => ∃ c1 d, c1.H = H ∧ Step c c1 ∧ SOk K c1 ∧ RL K c1 d v ∧ FPost K E c1 (k d c1.st) Q := by
  cases ml with
  | none => exact p
  | some r =>
    obtain ⟨r, st⟩ := r
    cases r with
    | ok d => exact fun c' v e s k r => ⟨c', d, rfl, s, k, r, by subst e; exact FPost.at p s⟩
    | ex C ns ds => exact p
theorem FPost.map {o : Option D} (p : FPost K E c (o.map fun d => (Rs.ok d, c.st)) Q) : ∃ d, o = some d ∧ FPost K E c (some (.ok d, c.st)) Q := by
  cases o with
  | none => exact p.elim
  | some d => exact ⟨d, rfl, p⟩
theorem FPost.lst {ds : List D} {xs : List V} (q : FPost K E c (some (.ok (.lst ds), c.st)) Q) (k : SOk K c) (l : RL K c ds xs) : ∀ p, c.H p = none → Q (.ref p) (upd c.H p (.lst xs)) :=
  q c _ rfl Step.refl k ⟨xs, rfl, l⟩
theorem HoR.rv {d : D} {ho : HO} {p : Addr} (h : HoR K c d ho) (k : SOk K c) (hp : c.H p = none) : RV K { c with H := upd c.H p ho } d (.ref p) := by
  have s : Step c { c with H := upd c.H p ho } := Step.fresh hp
  have f : Fz { c with H := upd c.H p ho } p := k.fz hp
  cases d with
  | lst ds => obtain ⟨xs, rfl, l⟩ := h; simp only [RV]; exact ⟨p, xs, rfl, f, .inl upd_same, l.step s⟩
  | dic ks vs => obtain ⟨xs, rfl, q, l⟩ := h; simp only [RV]; exact ⟨p, xs, rfl, f, upd_same, q, l.step s⟩
  | dit ks vs => obtain ⟨xs, rfl, q, l⟩ := h; simp only [RV]; exact ⟨p, xs, rfl, f, upd_same, q, l.step s⟩
  | ins C ns vs => obtain ⟨dx, xs, rfl, q, l⟩ := h; simp only [RV]; exact ⟨p, dx, xs, rfl, f, upd_same, q, l.step s⟩
  | _ => exact h.elim
/-- frozen at once -/
theorem FPost.of (p : Post K (RV K) E c m Q) : FPost K E c m Q := by
  cases m with
  | none => exact p
  | some r =>
    obtain ⟨r, st⟩ := r
    cases r with
    | ok d => exact fun c1 ho e s k h q hq => p { c1 with H := upd c1.H q ho } (.ref q) e (s.trans (Step.fresh hq)) (k.new hq) (h.rv k hq)
    | ex C ns ds => exact p
end
section
variable {X : Cx} {W : WX} {o : Orc} {e a b t : Expr} {ca cb ct ce : CE} {pos : Pos}
theorem pe_fresh (h : PFd X o W e ce) : PEd X o W e ce := peImp h fun σ H Q ⟨c₀, env, c, hH, fr, p⟩ => ⟨c₀, env, c, hH, fr, .of p⟩

/-! ### a new place of the store -/
def Cfg.mat (c : Cfg) (p : Addr) (d : D) (ho : HO) : Cfg := { c with ρ := fun l => if l = c.st.length then p else c.ρ l, st := c.st ++ [d], H := upd c.H p ho }
theorem Step.mat {c : Cfg} {p : Addr} {d : D} {ho : HO} (hp : c.H p = none) : Step c (c.mat p d ho) where
  keep := fun a u h _ _ => by
    show upd c.H p ho a = some u
    rw [upd_ne (ne_of_none h hp)]; exact h
  rho := fun l hl => if_neg (Nat.ne_of_lt hl)
  len := by show c.st.length ≤ (c.st ++ [d]).length; rw [List.length_append]; exact Nat.le_add_right _ _
  new := fun l h1 h2 => by
    have : l < (c.st ++ [d]).length := h2
    rw [List.length_append] at this
    have e : l = c.st.length := by simp at this; omega
    show c.H (if l = c.st.length then p else c.ρ l) = none
    rw [if_pos e]; exact hp
  al := fun a h => by
    show upd c.H p ho a ≠ none
    by_cases e : a = p
    · subst e; rw [upd_same]; exact fun z => by cases z
    · rw [upd_ne e]; exact h
  F := rfl
theorem HoR.cr {K : PySem.W.Frag} {c c' : Cfg} {d : D} {ho : HO} {p : Addr} (h : HoR K c d ho) (s : Step c c') (e : c'.H p = some ho) : CR K c' d p := by
  cases d with
  | lst ds => obtain ⟨xs, rfl, l⟩ := h; exact ⟨xs, e, l.step s⟩
  | dic ks vs => obtain ⟨xs, rfl, q, l⟩ := h; exact ⟨xs, e, q, l.step s⟩
  | dit ks vs => obtain ⟨xs, rfl, q, l⟩ := h; exact ⟨xs, e, q, l.step s⟩
  | ins C ns vs => obtain ⟨dx, xs, rfl, q, l⟩ := h; exact ⟨dx, xs, e, q, l.step s⟩
  | _ => exact h.elim
theorem SOk.mat {K : PySem.W.Frag} {c : Cfg} {p : Addr} {d : D} {ho : HO} (k : SOk K c) (hp : c.H p = none) (h : HoR K c d ho) : SOk K (c.mat p d ho) where
  tabs := tabs_upd k.tabs fun u e => by rw [hp] at e; cases e
  inj := fun l l' h1 h2 e => by
    have h1 : l < (c.st ++ [d]).length := h1
    have h2 : l' < (c.st ++ [d]).length := h2
    rw [List.length_append] at h1 h2
    simp at h1 h2
    have e : (if l = c.st.length then p else c.ρ l) = (if l' = c.st.length then p else c.ρ l') := e
    have al : ∀ j, j < c.st.length → c.ρ j ≠ p := fun j hj z => (k.fz hp).1 j hj z
    by_cases q1 : l = c.st.length
    · by_cases q2 : l' = c.st.length
      · omega
      · rw [if_pos q1, if_neg q2] at e
        exact absurd e.symm (al l' (by omega))
    · by_cases q2 : l' = c.st.length
      · rw [if_neg q1, if_pos q2] at e
        exact absurd e (al l (by omega))
      · rw [if_neg q1, if_neg q2] at e
        exact k.inj l l' (by omega) (by omega) e
  nf := fun l h1 => by
    have h1 : l < (c.st ++ [d]).length := h1
    rw [List.length_append] at h1
    simp at h1
    show ¬ c.F (if l = c.st.length then p else c.ρ l)
    by_cases q1 : l = c.st.length
    · rw [if_pos q1]; exact (k.fz hp).2
    · rw [if_neg q1]; exact k.nf l (by omega)
  fa := fun a h => (Step.mat (d := d) (ho := ho) hp).al a (k.fa a h)
  cell := fun l d' h1 => by
    have h1 : (c.st ++ [d])[l]? = some d' := h1
    have hs := Step.mat (c := c) (d := d) (ho := ho) hp
    show CR K (c.mat p d ho) d' (if l = c.st.length then p else c.ρ l) ∧ _
    by_cases q1 : l < c.st.length
    · rw [List.getElem?_append_left q1] at h1
      rw [if_neg (Nat.ne_of_lt q1)]
      obtain ⟨r, z⟩ := k.cell l d' h1
      refine ⟨r.keep hs.kp fun u e => ?_, z⟩
      show upd c.H p ho (c.ρ l) = some u
      rw [upd_ne (ne_of_none e hp)]; exact e
    · have q2 : l = c.st.length := by
        have := (List.getElem?_eq_some_iff.mp h1).1
        rw [List.length_append] at this
        simp at this
        omega
      subst q2
      rw [List.getElem?_append_right (Nat.le_refl _)] at h1
      simp at h1
      subst h1
      rw [if_pos rfl]
      refine ⟨h.cr hs upd_same, ?_⟩
      cases d with
      | tup ds => exact h
      | _ => trivial
theorem d_mat (h : PFd X o W e ce) : PEd X o W e (.mat ce) := peImp h fun σ H Q ⟨c₀, env, c, hH, fr, p⟩ => by
  refine ⟨c₀, env, c, hH, fr, ?_⟩
  simp only [evalE] at p
  split at p
  · have q := p
    revert q
    generalize evalE o ce env c.st = m
    intro q
    cases m with
    | none => exact q
    | some r =>
      obtain ⟨r, st⟩ := r
      cases r with
      | ex C ns ds => exact q
      | ok d =>
        intro c1 ho e1 s1 k1 hr p hp
        have fin : ∀ d, HoR X.K c1 d ho → Post X.K (RV X.K) (fun cls d H => W cls d σ H) c (some (.ok (.loc st.length), st ++ [d])) Q → Q (.ref p) (upd c1.H p ho) := fun d hr q => by
          subst e1
          refine q (c1.mat p d ho) (.ref p) rfl (s1.trans (Step.mat hp)) (k1.mat hp hr) ?_
          simp only [RV]
          refine ⟨?_, ?_⟩
          · show V.ref p = .ref (if c1.st.length = c1.st.length then p else c1.ρ c1.st.length)
            rw [if_pos rfl]
          · show c1.st.length < (c1.st ++ [d]).length
            rw [List.length_append]; exact Nat.lt_succ_self _
        cases d with
        | lst ds => exact fin _ hr q
        | dic ks ds => exact fin _ hr q
        | dit ks ds => exact fin _ hr q
        | _ => exact q.elim
  · exact p.elim

/-! ### displays -/
theorem f_lst {es : List Expr} {ces : List CE} (h : PAd X o W es ces) : PFd X o W (.List es pos) (.lst ces) := peImp (pe_lst h) fun σ H Q ⟨c₀, env, c, hH, fr, p⟩ => by
  simp only [evalE] at p
  refine ⟨c₀, env, c, hH, fr, p.bndL.mono fun vs H1 ⟨c1, ds, e1, s1, k1, r1, p1⟩ => ?_⟩
  subst e1
  split at p1
  · rename_i hc
    exact ⟨by rw [← r1.length]; exact line _ hc, p1.lst k1 r1⟩
  · exact p1.elim
theorem f_dit0 : PFd X o W (.Dict [] [] pos) .dit0 := peImp pe_dnewT fun σ H Q ⟨c₀, env, c, hH, fr, p⟩ => by
  subst hH
  intro q hq
  exact p c _ rfl Step.refl fr.ok ⟨[], rfl, rfl, by simp only [List.map_nil, RL]⟩ q hq
theorem f_dic0 : PFd X o W (.Dict [] [] pos) (.dic [] []) := peImp pe_dnewK fun σ H Q ⟨c₀, env, c, hH, fr, p⟩ => by
  subst hH
  intro q hq
  simp only [evalE, evalL, bndL_ok] at p
  exact p c _ rfl Step.refl fr.ok ⟨[], rfl, rfl, by simp only [List.map_nil, RL]⟩ q hq
/-- an object of one's own, out of sight -/
def Cfg.hide (c : Cfg) (p : Addr) (ho : HO) : Cfg := { c with F := fun a => c.F a ∨ a = p, H := upd c.H p ho }
def Cfg.drop (c : Cfg) (F : Addr → Prop) (p : Addr) : Cfg := { c with F := F, H := fun a => if a = p then none else c.H a }
theorem FR.hide {K : PySem.W.Frag} {c₀ c : Cfg} {env : DI.Env} {σ : L2.St} {p : Addr} {ho : HO} (fr : FR K c₀ c env σ) (hp : c.H p = none) : FR K c₀ (c.hide p ho) env σ := by
  have hk : Keep c (c.hide p ho) := {
    keep := fun a u h _ _ => by
      show upd c.H p ho a = some u
      rw [upd_ne (ne_of_none h hp)]; exact h
    rho := fun _ _ => rfl
    len := Nat.le_refl _
    new := fun l h1 h2 => absurd h2 (Nat.not_lt.mpr h1)
    F := fun a h1 h2 z => z.elim h2 fun z => h1 (z ▸ hp) }
  have sf : StepF c (c.hide p ho) := ⟨fun a u h _ k => by
      show upd c.H p ho a = some u
      rw [upd_ne (ne_of_none h hp)]; exact h, fun _ _ => rfl, Nat.le_refl _, fun l h1 h2 => absurd h2 (Nat.not_lt.mpr h1), fun a h => by
      show upd c.H p ho a ≠ none
      by_cases e : a = p
      · subst e; rw [upd_same]; exact fun z => by cases z
      · rw [upd_ne e]; exact h⟩
  have n0 : c₀.H p = none := by
    cases e : c₀.H p with
    | none => rfl
    | some u => exact absurd hp (fr.st.al p (by rw [e]; exact fun z => by cases z))
  refine ⟨⟨tabs_upd fr.ok.tabs (fun u e => by rw [hp] at e; cases e), fr.ok.inj, fun l h z => z.elim (fr.ok.nf l h) fun z => (fr.ok.fz hp).1 l h z, fun a h => h.elim (fun h => sf.al a (fr.ok.fa a h)) fun z => ?_, fun l d h => ?_⟩,
    ⟨fr.er.len, fun i d h => ?_, fun i d h => ?_, fr.er.apart, fr.er.ins⟩, fr.st.trans sf, fun a h => .inl (fr.f1 a h), fun a h => h.elim (fr.f2 a) fun z => .inr (z ▸ n0), fr.f0⟩
  · subst z
    show upd c.H a ho a ≠ none
    rw [upd_same]; exact fun z => by cases z
  · obtain ⟨r, z⟩ := fr.ok.cell l d h
    exact ⟨r.keep hk fun u e => by
      have e : c.H (c.ρ l) = some u := e
      show upd c.H p ho (c.ρ l) = some u
      rw [upd_ne (ne_of_none e hp)]; exact e, z⟩
  · obtain ⟨v, e, r⟩ := fr.er.val i d h
    exact ⟨v, e, RV.keep hk _ _ r⟩
  · obtain ⟨a, e, r1, r2, r3⟩ := fr.er.own i d h
    exact ⟨a, e, .inl r1, r2, r3.keep hk fun u e => by
      show upd c.H p ho a = some u
      rw [upd_ne (ne_of_none e hp)]; exact e⟩

/-- back from where p was hidden -/
theorem Step.unhide {c c2 : Cfg} {p : Addr} {ho : HO} (hp : c.H p = none) (s : Step (c.hide p ho) c2) : Step c (c2.drop c.F p) where
  keep := fun a u h n k => by
    have ne : a ≠ p := ne_of_none h hp
    show (if a = p then none else c2.H a) = some u
    rw [if_neg ne]
    refine s.keep a u ?_ n k
    show upd c.H p ho a = some u
    rw [upd_ne ne]; exact h
  rho := s.rho
  len := s.len
  new := fun l h1 h2 => by
    have z : upd c.H p ho (c2.ρ l) = none := s.new l h1 h2
    by_cases e : c2.ρ l = p
    · show c.H (c2.ρ l) = none
      rw [e]; exact hp
    · rw [upd_ne e] at z; exact z
  al := fun a h => by
    have ne : a ≠ p := fun e => h (e ▸ hp)
    show (if a = p then none else c2.H a) ≠ none
    rw [if_neg ne]
    refine s.al a ?_
    show upd c.H p ho a ≠ none
    rw [upd_ne ne]; exact h
  F := rfl
theorem hide_keep {K : PySem.W.Frag} {c c2 : Cfg} {p : Addr} {ho : HO} (hfa : ∀ a, c.F a → c.H a ≠ none) (hp : c.H p = none) (s : Step (c.hide p ho) c2) (k : SOk K c2) : Keep c2 (c2.drop c.F p) := by
  have hF : c2.F = fun a => c.F a ∨ a = p := s.F
  exact {
    keep := fun a u h f _ => by
      have ne : a ≠ p := fun e => f.2 (by rw [hF]; exact .inr e)
      show (if a = p then none else c2.H a) = some u
      rw [if_neg ne]; exact h
    rho := fun _ _ => rfl
    len := Nat.le_refl _
    new := fun l h1 h2 => absurd h2 (Nat.not_lt.mpr h1)
    F := fun a _ h2 z => h2 (by rw [hF]; exact .inl z) }
theorem SOk.unhide {K : PySem.W.Frag} {c c2 : Cfg} {p : Addr} {ho : HO} (hx : ∀ o, c2.H p = some o → NotX o) (hfa : ∀ a, c.F a → c.H a ≠ none) (hp : c.H p = none) (s : Step (c.hide p ho) c2) (k : SOk K c2) : SOk K (c2.drop c.F p) := by
  have hF : c2.F = fun a => c.F a ∨ a = p := s.F
  have nep : ∀ l, l < c2.st.length → c2.ρ l ≠ p := fun l hl e => k.nf l hl (by rw [hF]; exact .inr e)
  refine ⟨tabs_drop k.tabs hx, k.inj, fun l hl z => k.nf l hl (by rw [hF]; exact .inl z), fun a h => (Step.unhide hp s).al a (hfa a h), fun l d h => ?_⟩
  obtain ⟨r, z⟩ := k.cell l d h
  refine ⟨r.keep (hide_keep hfa hp s k) fun u e => ?_, z⟩
  show (if c2.ρ l = p then none else c2.H (c2.ρ l)) = some u
  rw [if_neg (nep l (List.getElem?_eq_some_iff.mp h).1)]; exact e
theorem drop_upd {c : Cfg} {F : Addr → Prop} {p : Addr} {ho : HO} : upd (c.drop F p).H p ho = upd c.H p ho := by
  funext a
  unfold upd Cfg.drop
  by_cases e : a = p
  · rw [if_pos e, if_pos e]
  · rw [if_neg e, if_neg e]
    show (if a = p then none else c.H a) = _
    rw [if_neg e]

theorem Step.unF {c c2 : Cfg} {p : Addr} {ho : HO} (hp : c.H p = none) (s : Step (c.hide p ho) c2) : Step c { c2 with F := c.F } where
  keep := fun a u h n k => by
    refine s.keep a u ?_ n k
    show upd c.H p ho a = some u
    rw [upd_ne (ne_of_none h hp)]; exact h
  rho := s.rho
  len := s.len
  new := fun l h1 h2 => by
    have z : upd c.H p ho (c2.ρ l) = none := s.new l h1 h2
    by_cases e : c2.ρ l = p
    · show c.H (c2.ρ l) = none
      rw [e]; exact hp
    · rw [upd_ne e] at z; exact z
  al := fun a h => by
    have ne : a ≠ p := fun e => h (e ▸ hp)
    refine s.al a ?_
    show upd c.H p ho a ≠ none
    rw [upd_ne ne]; exact h
  F := rfl
theorem lessF {c2 : Cfg} {F : Addr → Prop} (h : ∀ a, F a → c2.F a) : Keep c2 { c2 with F := F } := ⟨fun a o e _ _ => e, fun _ _ => rfl, Nat.le_refl _, fun l h1 h2 => absurd h2 (Nat.not_lt.mpr h1), fun a _ n z => n (h a z)⟩
theorem SOk.lessF {K : PySem.W.Frag} {c2 : Cfg} {F : Addr → Prop} (h : ∀ a, F a → c2.F a) (k : SOk K c2) : SOk K { c2 with F := F } :=
  ⟨k.tabs, k.inj, fun l hl z => k.nf l hl (h _ z), fun a z => k.fa a (h a z), fun l d e => ⟨(k.cell l d e).1.keep (DI.lessF h) fun _ e => e, (k.cell l d e).2⟩⟩
theorem XR.keep {K : PySem.W.Frag} {c c' : Cfg} {C : Str} {ns : List Str} {ds : List D} {cls : Value} {d : Option Addr} (s : Keep c c') (hH : c'.H = c.H) (h : XR K c C ns ds cls d) : XR K c' C ns ds cls d := by
  obtain ⟨h1, h2⟩ := h
  refine ⟨h1, h2.elim .inl fun ⟨x, fs, q1, q2, q3, q4⟩ => .inr ⟨x, fs, q1, by rw [hH]; exact q2, q3, RL.keep s _ _ q4⟩⟩
def trsOf (K : PySem.W.Frag) (o : Orc) (W : WX) : List Str → List CE → List (TE × TE)
  | k :: ks, e :: es => (tC (.str k), tE K o W e) :: trsOf K o W ks es
  | _, _ => []
inductive PEall (X : Cx) (o : Orc) (W : WX) : List Expr → List CE → Prop
  | nil : PEall X o W [] []
  | cons {e : Expr} {ce : CE} {es : List Expr} {ces : List CE} : PEd X o W e ce → PEall X o W es ces → PEall X o W (e :: es) (ce :: ces)
theorem pps_of : ∀ {keys : List (Option Expr)} {ks : List Str} {es : List Expr} {ces : List CE}, strKeys keys = some ks → ks.length = ces.length → PEall X o W es ces → PPs X pos keys es (trsOf X.K o W ks ces)
  | [], ks, _, _, h, hl, .nil => by
    cases h
    exact pps_nil
  | [], ks, _, _, h, hl, .cons _ _ => by
    cases h
    cases hl
  | k :: keys, ks, es, ces, h, hl, pa => by
    unfold strKeys at h
    split at h
    · contradiction
    · rename_i x _ _ r hk
      cases hk
      simp only [Option.map_eq_some_iff] at h
      obtain ⟨ks', h1, rfl⟩ := h
      cases pa with
      | nil => cases hl
      | cons he pr => exact pps_cons pe_str he (pps_of h1 (by simpa using hl) pr)
    · cases h
theorem pairs_of {K : PySem.W.Frag} {c₀ : Cfg} {env : DI.Env} {σ : L2.St} : ∀ {ks : List Str} {ces : List CE} {c : Cfg} {Q : List (V × V) → Hp → Prop}, ks.length = ces.length → FR K c₀ c env σ →
    PostL K (fun cls d H => W cls d σ H) c (evalL o ces env c.st) (fun vs H => Q ((ks.map V.str).zip vs) H) → tPairs (trsOf K o W ks ces) σ c.H Q
  | [], [], c, Q, _, fr, p => by
    simp only [evalL] at p
    exact p c [] rfl Step.refl fr.ok (by simp only [RL])
  | [], _ :: _, _, _, h, _, _ => by cases h
  | _ :: _, [], _, _, h, _, _ => by cases h
  | k :: ks, ce :: ces, c, Q, h, fr, p => by
    simp only [evalL] at p
    show tE K o W ce σ c.H _
    refine ⟨c₀, env, c, rfl, fr, (p.bndE (R' := RV K)).mono fun v H1 ⟨c1, d1, e1, s1, k1, r1, p1⟩ => ?_⟩
    subst e1
    refine pairs_of (by simpa using h) (fr.step s1 k1) (PostL.mono p1.bndLL fun vs H2 ⟨c2, ds, e2, s2, k2, r2, p2⟩ => ?_)
    subst e2
    exact p2 c2 (v :: vs) rfl Step.refl k2 (by simp only [RL]; exact ⟨r1.step s2, r2⟩)
theorem putK_new {kvs : List (Key × V)} {k : Key} {v : V} (h : ∀ kv ∈ kvs, kv.1 ≠ k) : putK kvs k v = kvs ++ [(k, v)] := by
  unfold putK
  rw [if_neg]
  intro z
  rw [List.any_eq_true] at z
  obtain ⟨kv, h1, h2⟩ := z
  exact h kv h1 (of_decide_eq_true h2)
theorem mergeK_new : ∀ {more kvs : List (Key × V)}, ((kvs ++ more).map (·.1)).Nodup → mergeK kvs more = kvs ++ more
  | [], kvs, _ => by rw [List.append_nil]; rfl
  | kv :: more, kvs, h => by
    have h2 : ((kvs ++ [kv] ++ more).map (·.1)).Nodup := by rw [List.append_assoc]; exact h
    show mergeK (putK kvs kv.1 kv.2) more = kvs ++ kv :: more
    have e : putK kvs kv.1 kv.2 = kvs ++ [kv] := putK_new fun q hq z => by
      rw [List.map_append, List.nodup_append] at h
      exact h.2.2 q.1 (List.mem_map_of_mem hq) kv.1 (by simp) z
    rw [e, mergeK_new h2, List.append_assoc]; rfl
theorem strKeys_len : ∀ {keys : List (Option Expr)} {ks : List Str}, strKeys keys = some ks → keys.length = ks.length ∧ keys.all (·.isSome) = true
  | [], ks, h => by cases h; exact ⟨rfl, rfl⟩
  | k :: keys, ks, h => by
    unfold strKeys at h
    split at h
    · contradiction
    · rename_i x _ _ r hk
      cases hk
      simp only [Option.map_eq_some_iff] at h
      obtain ⟨ks', h1, rfl⟩ := h
      obtain ⟨q1, q2⟩ := strKeys_len h1
      exact ⟨by rw [List.length_cons, List.length_cons, q1], by rw [List.all_cons, q2]; rfl⟩
    · cases h
theorem zip_fst {ks : List Str} {vs : List V} (h : ks.length = vs.length) : (ks.map V.str).zip vs = ((ks.map (Sum.inr : Str → Key)).zip vs).map (fun kv => (kV kv.1, kv.2)) := by
  induction ks generalizing vs with
  | nil => rfl
  | cons k ks ih =>
    cases vs with
    | nil => cases h
    | cons v vs =>
      simp only [List.map_cons, List.zip_cons_cons, List.cons.injEq]
      exact ⟨rfl, ih (by simpa using h)⟩
theorem f_dic {keys : List (Option Expr)} {ks : List Str} {es : List Expr} {ces : List CE} (hk : strKeys keys = some ks) (hl : ks.length = ces.length) (hle : ks.length = es.length) (h15 : ks.length ≤ 15) (h0 : keys ≠ []) (h : PEall X o W es ces) : PFd X o W (.Dict keys es pos) (.dic ks ces) := by
  obtain ⟨kl, ka⟩ := strKeys_len hk
  refine peImp (pe_disp (pps_of hk hl h) ka (by rw [kl, hle]) h0 (by rw [kl]; exact h15)) fun σ H Q ⟨c₀, env, c, hH, fr, p⟩ => ?_
  subst hH
  simp only [evalE] at p
  intro q hq
  have fr' := fr.hide (ho := .dK []) hq
  have hF1 : ∀ {c2 : Cfg}, Step (c.hide q (.dK [])) c2 → ∀ a, c.F a → c2.F a := fun s a z => by
    rw [show _ = _ from s.F]; exact .inl z
  refine pairs_of (Q := fun ps H2 => H2 q = some (.dK []) ∧ ∃ kvs : List (Key × V), ps = kvs.map (fun kv => (kV kv.1, kv.2)) ∧ kvs.length ≤ 15 ∧ Q (.ref q) (upd H2 q (.dK (mergeK [] kvs)))) hl fr' ?_
  show PostL X.K _ _ (evalL o ces env c.st) _
  revert p
  generalize evalL o ces env c.st = m
  intro p
  cases m with
  | none => exact p
  | some r =>
    obtain ⟨r, st⟩ := r
    cases r with
    | ok ds =>
      intro c2 vs e2 s2 k2 r2
      rw [bndL_ok] at p
      split at p
      · rename_i hc
        simp only [Bool.and_eq_true, decide_eq_true_eq] at hc
        have hlen : ks.length = vs.length := hc.1.2.trans (RL.length r2)
        have hlen2 : (ks.map (Sum.inr : Str → Key)).length = vs.length := by rw [List.length_map]; exact hlen
        have h1 : (((ks.map (Sum.inr : Str → Key)).zip vs).map (·.1)) = ks.map (Sum.inr : Str → Key) := List.map_fst_zip (Nat.le_of_eq hlen2)
        have h2 : (((ks.map (Sum.inr : Str → Key)).zip vs).map (·.2)) = vs := List.map_snd_zip (Nat.le_of_eq hlen2.symm)
        have nd : (List.map (fun kv : Key × V => kv.1) (([] : List (Key × V)) ++ (ks.map (Sum.inr : Str → Key)).zip vs)).Nodup := by
          rw [List.nil_append, h1]
          exact (List.pairwise_map.mpr (hc.2.imp fun {a b} h z => h (Sum.inr.inj z)))
        refine ⟨s2.keep q _ upd_same (fun l hl' => (fr.ok.fz hq).1 l hl') (fun ps => by intro z; cases z), (ks.map (Sum.inr : Str → Key)).zip vs, zip_fst hlen, ?_, ?_⟩
        · rw [List.length_zip, hlen2, Nat.min_self, ← hlen]; exact hc.1.1
        · rw [mergeK_new nd, List.nil_append]
          have z := p (c2.drop c.F q) (.dK ((ks.map (Sum.inr : Str → Key)).zip vs)) e2 (s2.unhide hq) (k2.unhide (fun o e => by rw [s2.keep q _ upd_same (fun l hl' => (fr.ok.fz hq).1 l hl') (fun ps => by intro z; cases z)] at e; cases e; trivial) fr.ok.fa hq s2) ⟨_, rfl, h1, by
            rw [h2]; exact RL.keep (hide_keep fr.ok.fa hq s2 k2) _ _ r2⟩ q (by show (if q = q then none else c2.H q) = none; rw [if_pos rfl])
          rw [drop_upd] at z
          exact z
      · exact p.elim
    | ex C ns ds =>
      intro c2 cls x e2 s2 k2 r2
      exact p { c2 with F := c.F } cls x e2 (s2.unF hq) (k2.lessF (hF1 s2)) (r2.keep (DI.lessF (hF1 s2)) rfl)
end
end DI
/-! DI: calls of built-in functions and of defs, fields. -/
set_option maxHeartbeats 1000000
namespace DI
open PySem PySem.Spec PyProof.Rows L2

section
variable {X : Cx} {W : WX} {o : Orc} {e a b t : Expr} {ca cb ct ce : CE} {pos p : Pos} {x : Str} {id : String} {T : String}
/-- one argument -/
theorem pa1 {ta : TE} (ha : PE X a ta) (hs : starEach [a] X.env = (false, eval a X.env) :: starEach [] X.env) : PA X [a] (tCons ta tNil) := pa_cons ha pa_nil hs
theorem fn_plain {f : Fn} (hf : f ≠ .len) {env : DI.Env} {st : Store} : evalE o (.fn f a') env st = bnd (lend a' env st (evalE o a' env st)) fun x st => (fnD st f x).map fun d => (.ok d, st) := by
  simp only [evalE]
  congr 1
  funext x st
  cases f <;> first | exact absurd rfl hf | (cases x <;> rfl)
theorem d_fnR {f : Fn} (hf : f ≠ .len) (h : PE X e (tCB (rFn X.K f) (tCons (tB X.K o W ca) tNil))) : PEd X o W e (.fn f ca) := peImp h fun σ H Q ⟨c₀, env, c, hH, fr, p⟩ => by
  rw [fn_plain hf] at p
  exact ⟨c₀, env, c, hH, fr, (p.bnd (R' := RB X.K)).mono fun v H1 ⟨c1, d1, e1, s1, k1, r1, p1⟩ => ⟨c1, d1, v, _, rfl, e1, k1, r1, p1⟩⟩
theorem d_fnB {f : Fn} (hf : f ≠ .len) (hc : CallR X (.builtin id) (rFn X.K f)) (hg : Gl X x) (hm : X.mg x = none) (hv : bootBuiltins x = some (.builtin id)) (hn : x ≠ "__name__") (hdb : (x == ("__debug__" : Str)) = false)
    (hs : starEach [a] X.env = (false, eval a X.env) :: starEach [] X.env) (ha : PBd X o W a ca) : PEd X o W (.Call (.Name x p) [a] [] pos) (.fn f ca) :=
  d_fnR hf (pe_callB hc hg hm hv (pa1 ha hs) hn hdb hs rfl)
theorem d_fnT {f : Fn} (hf : f ≠ .len) (hc : CallR X (.type T) (rFn X.K f)) (hg : Gl X x) (hm : X.mg x = none) (hv : bootBuiltins x = some (.type T)) (hn : x ≠ "__name__") (hdb : (x == ("__debug__" : Str)) = false)
    (hs : starEach [a] X.env = (false, eval a X.env) :: starEach [] X.env) (ha : PBd X o W a ca) : PEd X o W (.Call (.Name x p) [a] [] pos) (.fn f ca) :=
  d_fnR hf (pe_callTy hc hg hm hv (pa1 ha hs) hn hdb hs rfl)

/-- repr of a bool -/
theorem s_repr : CallR X (.builtin "repr") (rFn X.K .repr) := by
  refine cr_imp DIR.call_repr_bool fun xs H Q h => ?_
  obtain ⟨c, d, v, E, rfl, rfl, k, rx, p⟩ := h
  obtain ⟨r, e1, p'⟩ := p.map
  cases d <;> simp only [fnD] at e1 <;> first | (cases e1; done) | skip
  rename_i b
  cases e1
  refine ⟨b, by rw [rx.bl], p'.ok k ?_⟩
  cases b <;> (simp only [RV]; rfl)

/-! ### len, with an own __len__ -/
/-- what a def promises, by its run -/
def spF (K : PySem.W.Frag) (n : Nat) (g : List D → Store → Res) : Sp := fun vs H Q E => vs.length = n ∧ ∃ c ds, c.H = H ∧ SOk K c ∧ RL K c ds vs ∧ Post K (RV K) E c (g ds c.st) Q
structure LenOk (X : Cx) (o : Orc) : Prop where
  ok : ∀ C m, o.mid C "__len__" = some m → ∃ (f : Addr) (fd : FuncData) (ps : List Str) (k : Nat) (n : Nat), FnOk X.prog X.w X.K X.mg X.base (L2.CX X.prog X.w) k f fd ps (spF X.K n (o.low m)) ∧ ps.length = n ∧ Room (k + 1) X.A ∧ Binds X.K fd ps [] ∧
    PySem.W.findIn X.K (.ref (He.ga X.K C)) "__len__" = some (some (.ref f)) ∧ PySem.W.isFn X.K (.ref f) = true ∧ n = 1
theorem d_len (lo : LenOk X o) (hg : Gl X "len") (hm : X.mg "len" = none) (hs : starEach [a] X.env = (false, eval a X.env) :: starEach [] X.env) (ha : PBd X o W a ca) : PEd X o W (.Call (.Name "len" p) [a] [] pos) (.fn .len ca) := by
  refine peImp (pe_callB (r := fun xs H Q => rFn X.K .len xs H Q ∨ ∃ C m f fd ps k n, FnOk X.prog X.w X.K X.mg X.base (L2.CX X.prog X.w) k f fd ps (spF X.K n (o.low m)) ∧ ps.length = n ∧ Room (k + 1) X.A ∧ Binds X.K fd ps [] ∧
    PySem.W.findIn X.K (.ref (He.ga X.K C)) "__len__" = some (some (.ref f)) ∧ PySem.W.isFn X.K (.ref f) = true ∧ DIR.rLenI X.K (He.ga X.K C) (spF X.K n (o.low m)) xs H Q) (id := "len") ?_ hg hm rfl (pa1 ha hs) (by decide) (by decide) hs rfl) fun σ H Q ⟨c₀, env, c, hH, fr, p⟩ => ?_
  · intro pins s σ H xs us Q I r h
    rcases h with h | ⟨C, m, f, fd, ps, k, n, F, _, hr, hb, h1, h2, h⟩
    · exact s_len pins s σ H xs us Q I r h
    · exact DIR.call_lenI F hr hb h1 h2 (fun _ _ _ _ _ _ _ c => by obtain ⟨_, _, _, _, _, _, _, _, _, _, _, _, z⟩ := c; exact z.elim) pins s σ H xs us Q I r h
  · refine ⟨c₀, env, c, hH, fr, ?_⟩
    simp only [evalE] at p
    refine (p.bnd (R' := RB X.K)).mono fun v H1 ⟨c1, d1, e1, s1, k1, r1, p1⟩ => ?_
    subst e1
    have base : Post X.K (RV X.K) (fun cls d H => W cls d σ H) c1 ((fnD c1.st .len d1).map fun d => (Rs.ok d, c1.st)) Q → rFn X.K .len [v] c1.H Q := fun q => ⟨c1, d1, v, _, rfl, rfl, k1, r1, q⟩
    cases d1 with
    | ins C ns vs =>
      simp only at p1
      split at p1
      · rename_i m hm
        obtain ⟨f, fd, ps, k, n, F, hl, hr, hb, h1, h2, hn1⟩ := lo.ok C m hm
        rcases r1 with r1 | ⟨_, _, _, _, z⟩
        · obtain ⟨a, dx, fs, rfl, q2, q3, q4⟩ := RB.insOf k1 (.inl r1) (show rd c1.st (.ins C ns vs) = .ins C ns vs from rfl)
          refine .inr ⟨C, m, f, fd, ps, k, n, F, hl, hr, hb, h1, h2, a, dx, fs, rfl, q2, ?_⟩
          refine ⟨hn1.symm, c1, [.ins C ns vs], rfl, k1, RL.one r1, ?_⟩
          split at p1
          · rename_i i st hi
            rw [hi]
            split at p1
            · rename_i hc
              simp only [Bool.and_eq_true, decide_eq_true_eq] at hc
              intro c2 v2 e2 s2 k2 r2
              exact ⟨i, (RB.ofV r2).int, hc, p1 c2 _ e2 s2 k2 (by simp only [RV])⟩
            · exact p1.elim
          · exact p1.elim
        · exact z.elim
      · exact p1.elim
    | _ => exact .inl (base p1)

/-! ### isinstance, fields -/
theorem d_isi {ty : Ty} {p2 : Pos} (hg : Gl X "isinstance") (hm : X.mg "isinstance" = none) (hg2 : Gl X (tyName ty)) (hm2 : X.mg (tyName ty) = none) (hs : starEach [a, .Name (tyName ty) p2] X.env = (false, eval a X.env) :: starEach [.Name (tyName ty) p2] X.env)
    (ha : PEd X o W a ca) : PEd X o W (.Call (.Name "isinstance" p) [a, .Name (tyName ty) p2] [] pos) (.isi ca ty) := by
  have ht : PE X (.Name (tyName ty) p2) (tC (.ty (tyName ty))) := by
    cases ty <;> exact pe_bltn hg2 hm2 rfl (by first | rfl | exact ⟨_, rfl⟩) (by decide) (by decide)
  refine peImp (pe_callB (s_isi ty) hg hm rfl (pa_cons ha (pa_cons ht pa_nil rfl) hs) (by decide) (by decide) hs rfl) fun σ H Q ⟨c₀, env, c, hH, fr, p⟩ => ?_
  simp only [evalE] at p
  refine ⟨c₀, env, c, hH, fr, (p.bnd (R' := RV X.K)).mono fun v H1 ⟨c1, d1, e1, s1, k1, r1, p1⟩ => ?_⟩
  exact ⟨c1, d1, v, _, rfl, e1, k1, .inl r1, p1⟩
theorem d_attr {f : Str} (hc : ∀ C, o.fld C f = true → Cls X.K (He.ga X.K C) ∧ NoAttr X.K (He.ga X.K C) f) (hb : attributeBase e f X.env (eval e X.env) = eval e X.env) (he : PEd X o W e ce) : PEd X o W (.Attribute e f pos) (.attr ce f) := peImp (pe_fld he hb) fun σ H Q ⟨c₀, env, c, hH, fr, p⟩ => by
  simp only [evalE] at p
  refine ⟨c₀, env, c, hH, fr, (p.bnd (R' := RV X.K)).mono fun v H1 ⟨c1, d1, e1, s1, k1, r1, p1⟩ => ?_⟩
  subst e1
  split at p1
  · rename_i C ns vs hr
    split at p1
    · rename_i hf
      obtain ⟨d, hd, p2⟩ := p1.map
      obtain ⟨a, dx, fs, rfl, q2, q3, q4⟩ := RB.insOf k1 (.inl r1) hr
      obtain ⟨w, hw, rw⟩ := lookup_fs hd q3 q4
      exact ⟨a, _, dx, fs, w, rfl, q2, (hc C hf).1, (hc C hf).2, hw, p2.ok k1 rw⟩
    · exact p1.elim
  · exact p1.elim

/-! ### list(range(n)), tuple(range(n)), list(x) -/
theorem rgV_eq {a b : Int} : rgV a b = (rngI a (b - a).toNat).map V.int := by
  have go : ∀ (n : Nat) (a : Int), (List.range n).map (fun i => V.int (a + (i : Nat))) = (rngI a n).map V.int := by
    intro n
    induction n with
    | zero => intro a; rfl
    | succ n ih =>
      intro a
      rw [List.range_succ_eq_map, List.map_cons, List.map_map, rngI, List.map_cons, ← ih (a + 1)]
      congr 1
      · simp
      · refine List.map_congr_left fun i _ => ?_
        show V.int (a + ((i + 1 : Nat) : Int)) = _
        congr 1
        omega
  exact go _ a
theorem smallI_ok {i : Int} (h : smallI i = true) : -(2 ^ 62) ≤ i ∧ i < 2 ^ 62 := by
  unfold smallI at h
  simp only [Bool.and_eq_true, decide_eq_true_eq] at h
  exact h
theorem line24 {n : Nat} (h : lineOk n = true) : n ≤ 2 ^ 24 := by
  unfold lineOk at h
  have := of_decide_eq_true h
  omega
theorem rl_rng {K : PySem.W.Frag} {c : Cfg} {n : Int} : RL K c (rngD 0 n) (rgV 0 n) := by
  rw [rgV_eq]
  exact RL.ofInts _
theorem rngOk {n : Int} (h : (smallI n && lineOk n.toNat) = true) : RgOk 0 n := by
  simp only [Bool.and_eq_true] at h
  have h1 := smallI_ok h.1
  have h2 := line24 h.2
  exact ⟨by omega, by omega, h1.1, h1.2, by rw [Int.sub_zero]; exact h2⟩
theorem f_listRg {q : Expr} {cq : CE} {p2 pos2 : Pos} (hc : X.calm = true) (hg : Gl X "list") (hm : X.mg "list" = none) (hg2 : Gl X "range") (hm2 : X.mg "range" = none) (hs : starEach [q] X.env = (false, eval q X.env) :: starEach [] X.env)
    (ha : PEd X o W q cq) : PFd X o W (.Call (.Name "list" p) [.Call (.Name "range" p2) [q] [] pos2] [] pos) (.fn .list (.rng1 cq)) := by
  refine peImp (pe_listRg hc hg hm (prg_1 hg2 hm2 ha hs) rfl) fun σ H Q ⟨c₀, env, c, hH, fr, p⟩ => ?_
  rw [fn_plain (by decide)] at p
  rw [lend_ne (by intro i; exact fun z => by cases z)] at p
  simp only [evalE] at p
  refine ⟨c₀, env, c, hH, fr, ?_⟩
  revert p
  generalize hm : evalE o cq env c.st = m
  intro p
  refine Post.mono (R := RV X.K) (Q := fun v H => ∃ c1 n, c1.H = H ∧ Step c c1 ∧ SOk X.K c1 ∧ v = V.int n ∧ (smallI n && lineOk n.toNat) = true ∧ FPost X.K (fun cls d H => W cls d σ H) c1 (some (.ok (.lst (rngD 0 n)), c1.st)) Q) ?_ fun v H1 ⟨c1, n, e1, s1, k1, ev, hn, q⟩ => ?_
  · cases m with
    | none => exact p
    | some r =>
      obtain ⟨r, st⟩ := r
      cases r with
      | ex C ns ds => exact p
      | ok d =>
        intro c' v e s k r
        cases d with
        | int n =>
          simp only [bnd_ok] at p
          by_cases hn : (smallI n && lineOk n.toNat) = true
          · rw [if_pos hn] at p
            subst e
            refine ⟨c', n, rfl, s, k, (RB.ofV r).int, hn, ?_⟩
            exact FPost.at p s
          · rw [if_neg hn] at p
            exact p.elim
        | _ => exact p.elim
  · subst e1
    exact ⟨n, ev, rngOk hn, q.lst k1 rl_rng⟩
theorem d_tupRg {q : Expr} {cq : CE} {p2 pos2 : Pos} (hc : X.calm = true) (hg : Gl X "tuple") (hm : X.mg "tuple" = none) (hg2 : Gl X "range") (hm2 : X.mg "range" = none) (hs : starEach [q] X.env = (false, eval q X.env) :: starEach [] X.env)
    (ha : PEd X o W q cq) : PEd X o W (.Call (.Name "tuple" p) [.Call (.Name "range" p2) [q] [] pos2] [] pos) (.fn .tuple (.rng1 cq)) := by
  refine peImp (pe_tupRg hc hg hm (prg_1 hg2 hm2 ha hs) rfl) fun σ H Q ⟨c₀, env, c, hH, fr, p⟩ => ?_
  rw [fn_plain (by decide)] at p
  rw [lend_ne (by intro i; exact fun z => by cases z)] at p
  simp only [evalE] at p
  refine ⟨c₀, env, c, hH, fr, ?_⟩
  revert p
  generalize hm : evalE o cq env c.st = m
  intro p
  refine Post.mono (R := RV X.K) (Q := fun v H => ∃ c1 n, c1.H = H ∧ Step c c1 ∧ SOk X.K c1 ∧ v = V.int n ∧ (smallI n && lineOk n.toNat) = true ∧ Post X.K (RV X.K) (fun cls d H => W cls d σ H) c1 (some (.ok (.tup (rngD 0 n)), c1.st)) Q) ?_ fun v H1 ⟨c1, n, e1, s1, k1, ev, hn, q⟩ => ?_
  · cases m with
    | none => exact p
    | some r =>
      obtain ⟨r, st⟩ := r
      cases r with
      | ex C ns ds => exact p
      | ok d =>
        intro c' v e s k r
        cases d with
        | int n =>
          simp only [bnd_ok] at p
          by_cases hn : (smallI n && lineOk n.toNat) = true
          · rw [if_pos hn] at p
            subst e
            refine ⟨c', n, rfl, s, k, (RB.ofV r).int, hn, ?_⟩
            exact Post.at p s
          · rw [if_neg hn] at p
            exact p.elim
        | _ => exact p.elim
  · subst e1
    exact ⟨n, ev, rngOk hn, q.tup k1 rl_rng⟩

/-! ### new lists of values: list(x) -/
def rFnF (K : PySem.W.Frag) (b : Fn) : List V → Hp → VK → Prop := fun xs H Q => ∃ (c : Cfg) (d : D) (v : V) (E : Value → Option Addr → Hp → Prop), xs = [v] ∧ c.H = H ∧ SOk K c ∧ RB K c d v ∧ FPost K E c ((fnD c.st b d).map fun r => (Rs.ok r, c.st)) Q
theorem f_fnR {f : Fn} (hf : f ≠ .len) (h : PE X e (tCB (rFnF X.K f) (tCons (tB X.K o W ca) tNil))) : PFd X o W e (.fn f ca) := peImp h fun σ H Q ⟨c₀, env, c, hH, fr, p⟩ => by
  rw [fn_plain hf] at p
  exact ⟨c₀, env, c, hH, fr, (p.bnd (R' := RB X.K)).mono fun v H1 ⟨c1, d1, e1, s1, k1, r1, p1⟩ => ⟨c1, d1, v, _, rfl, e1, k1, r1, p1⟩⟩
theorem s_list : CallR X (.type "list") (rFnF X.K .list) := by
  refine cr_imp call_list_of fun xs H Q h => ?_
  obtain ⟨c, d, v, E, rfl, rfl, k, rx, p⟩ := h
  obtain ⟨r, e1, p'⟩ := p.map
  simp only [fnD, seqOf, Option.map_eq_some_iff] at e1
  obtain ⟨ds, e1, rfl⟩ := e1
  split at e1
  · rename_i es er
    cases e1
    obtain ⟨a, xs, rfl, f, q, l⟩ := rx.tupOf k er
    exact ⟨a, xs, rfl, .inr (.inl (.inl q)), p'.lst k l⟩
  · rename_i es er
    cases e1
    obtain ⟨a, xs, rfl, q, l⟩ := rx.lstOf k er
    exact ⟨a, xs, rfl, .inl (.inl q), p'.lst k l⟩
  · cases e1
end
end DI
/-! DI: calls of defs, methods, makers. -/
set_option maxHeartbeats 1000000
namespace DI
open PySem PySem.Spec PyProof.Rows L2

/-- no star -/
def NS : Expr → Prop
  | .Starred _ _ => False
  | _ => True
theorem star_cons {e : Expr} {es : List Expr} {env : PySem.Env} (h : NS e) : starEach (e :: es) env = (false, eval e env) :: starEach es env := by
  cases e <;> first | exact h.elim | rfl
def NSs : List Expr → Prop
  | [] => True
  | e :: es => NS e ∧ NSs es
theorem star_any {pos : Pos} {env : PySem.Env} : ∀ {es : List Expr}, NSs es → (backTo pos (starEach es env)).any (·.1) = false
  | [], _ => rfl
  | e :: es, h => by
    rw [star_cons h.1]
    have z := star_any (pos := pos) (env := env) h.2
    unfold backTo at z ⊢
    rw [List.map_cons, List.any_cons, z]
    rfl
/-- a def, by its run g -/
structure FnAt (X : Cx) (g : List D → Store → Res) (a : Addr) (n : Nat) (k : Nat) : Prop where
  ex : ∃ (fd : FuncData) (ps : List Str), FnOk X.prog X.w X.K X.mg X.base (L2.CX X.prog X.w) k a fd ps (spF X.K n g) ∧ Binds X.K fd ps []
  len : ∀ ds st r, g ds st = some r → ds.length = n
section
variable {X : Cx} {W : WX} {o : Orc} {e a b t : Expr} {ca cb ct ce : CE} {es : List Expr} {ces : List CE} {pos p : Pos} {x : Str}
theorem Post.run {K : PySem.W.Frag} {R : Cfg → D → V → Prop} {E : Value → Option Addr → Hp → Prop} {c : Cfg} {m : Res} {Q : VK} (p : Post K R E c m Q) : ∃ r, m = some r := by
  cases m with
  | none => exact p.elim
  | some r => exact ⟨r, rfl⟩
theorem sp_of {g : List D → Store → Res} {n : Nat} {c : Cfg} {ds : List D} {vs : List V} {Q : VK} {E : XK} (k : SOk X.K c) (r : RL X.K c ds vs) (hl : ∀ ds st r, g ds st = some r → ds.length = n) (p : Post X.K (RV X.K) E c (g ds c.st) Q) : spF X.K n g vs c.H Q E := by
  obtain ⟨z, hz⟩ := p.run
  exact ⟨by rw [← r.length]; exact hl _ _ _ hz, c, ds, rfl, k, r, p⟩
theorem pe_callS0 {CX : CXT} {k : Nat} {f : Addr} {fd : FuncData} {ps : List Str} {sp : Sp} {E : L2.St → XK} (F : FnOk X.prog X.w X.K X.mg X.base CX k f fd ps sp) (hr : Room k X.A) (hg : Gl X x) (hm : X.mg x = some (.ref f)) (hk : PySem.W.keepIn X.K (.ref f) = true) (hb : Binds X.K fd ps []) (hx : ∀ σ, PassesAt CX X σ (E σ))
    (hdb : (x == ("__debug__" : Str)) = false) : PE X (.Call (.Name x p) [] [] pos) (tCallS sp E tNil) := by
  refine ⟨fun pins s σ H Q I h => ?_⟩
  refine wpAny_Call_Name_kw (ld_glob I hg hm ?_ hdb)
  exact PySem.W.callWith_K0 I.kIn hk (run_fnS (us := []) F hr hb (hx σ) I .nil h)
theorem d_call {f : Nat} {fa : Addr} {n k : Nat} (F : FnAt X (o.call f) fa n k) (hr : Room k X.A) (tk : Takes X W) (hg : Gl X x) (hm : X.mg x = some (.ref fa)) (hk : PySem.W.keepIn X.K (.ref fa) = true) (hdb : (x == ("__debug__" : Str)) = false)
    (ns : NSs es) (hl : es.length = ces.length) (ha : PAd X o W es ces) : PEd X o W (.Call (.Name x p) es [] pos) (.call f ces) := by
  obtain ⟨fd, ps, F1, hb⟩ := F.ex
  have main : ∀ σ H Q, tE X.K o W (.call f ces) σ H Q → tCallS (spF X.K n (o.call f)) (WE W) (tL X.K o W ces) σ H Q := fun σ H Q ⟨c₀, env, c, hH, fr, p⟩ => by
    simp only [evalE] at p
    refine ⟨c₀, env, c, hH, fr, PostL.mono p.bndL fun vs H1 ⟨c1, ds, e1, s1, k1, r1, p1⟩ => ?_⟩
    subst e1
    exact sp_of k1 r1 F.len p1
  cases es with
  | nil =>
    cases ces with
    | cons _ _ => cases hl
    | nil =>
      refine peImp (pe_callS0 F1 hr hg hm hk hb (fun σ => passAt tk σ) hdb) fun σ H Q h => ?_
      obtain ⟨c₀, env, c, hH, fr, p⟩ := main σ H Q h
      subst hH
      exact p c [] rfl Step.refl fr.ok (by simp only [RL])
  | cons e es => exact peImp (pe_callS F1 hr hg hm hk hb (fun σ => passAt tk σ) ha hdb (star_cons ns.1) (star_any ns.2)) main

/-! ### methods -/
theorem abase {e : Expr} {f : Str} {env : PySem.Env} {wh : Sem Value} (h : abC e = true) : attributeBase e f env wh = wh := by
  unfold abC at h
  split at h
  · exact abase_call h
  · rename_i hx
    unfold attributeBase
    split
    · rename_i id p pos
      exact absurd rfl (hx _ _ _)
    · rfl
theorem star_all {pos : Pos} {env : PySem.Env} : ∀ {es : List Expr}, NSs es → (backTo pos (starEach es env)).all (!·.1) = true
  | [], _ => rfl
  | e :: es, h => by
    rw [star_cons h.1]
    have z := star_all (pos := pos) (env := env) h.2
    unfold backTo at z ⊢
    rw [List.map_cons, List.all_cons, z]
    rfl
theorem meth_ev {e : Expr} {es : List Expr} {m : Str} {apos pos : Pos} {env : PySem.Env} (hb : abC e = true) (ns : NSs es) (hn : es.length < 30) (hp : (apos.endLine == pos.line) = true) : eval (.Call (.Attribute e m apos) es [] pos) env = (do
      let ov ← eval e env
      standAt apos.atName
      let (f, first) ← holding [ov] (getMethod ov m (do return (← importBound e env).getD true))
      callWith pos f first (backTo pos (starEach es env)) (backToKw pos (keywordEach [] env))) := by
  rw [show eval (.Call (.Attribute e m apos) es [] pos) env = (do
    let ov ← attributeBase e m env (eval e env)
    standAt apos.atName
    methodCall e m apos pos env ov (es.length + ([] : List Keyword).length) (backTo pos (starEach es env)) (backToKw pos (keywordEach [] env))) from rfl, abase hb]
  have hf : methodCallForm (es.length + ([] : List Keyword).length) (backTo pos (starEach es env)) (backToKw pos (keywordEach [] env)) = true := by
    unfold methodCallForm
    rw [star_all ns]
    simp [backToKw, keywordEach, hn]
  have hg : ∀ ov, methodCall e m apos pos env ov (es.length + ([] : List Keyword).length) (backTo pos (starEach es env)) (backToKw pos (keywordEach [] env)) = (do
      let (f, first) ← holding [ov] (getMethod ov m (do return (← importBound e env).getD true))
      callWith pos f first (backTo pos (starEach es env)) (backToKw pos (keywordEach [] env))) := fun ov => by
    unfold methodCall
    rw [hf]
    have e1 : methodCallPos true e env apos pos = pure pos := by
      unfold methodCallPos
      rw [hp]; rfl
    rw [e1]
    rfl
  simp only [hg]
/-- o.m(..), the exception's wish by the slots -/
def tMethS (C : Addr) (m : Str) (sp : Sp) (E : L2.St → XK) (ta : TE) (t : TA) : TE := fun σ H Q => ta σ H fun x H1 => ∃ a dx fs, x = .ref a ∧ H1 a = some (.ins C dx fs) ∧ fs.lookup m = none ∧
  t σ H1 fun vs H2 => sp (x :: vs) H2 Q (E σ)
/-- a method of any class -/
def tMethA (K : PySem.W.Frag) (m : Str) (P : Addr → Sp → Prop) (E : L2.St → XK) (ta : TE) (t : TA) : TE := fun σ H Q => ta σ H fun x H1 => ∃ a C dx fs sp, x = .ref a ∧ H1 a = some (.ins C dx fs) ∧ P C sp ∧ fs.lookup m = none ∧
  t σ H1 fun vs H2 => sp (x :: vs) H2 Q (E σ)
theorem pe_methA {m : Str} {P : Addr → Sp → Prop} {E : L2.St → XK} {ta : TE} {tt : TA} {apos : Pos} (he : PE X e ta) (hP : ∀ C sp, P C sp → ∃ f fd ps k, Cls X.K C ∧ Meth X.K C m f ∧ FnOk X.prog X.w X.K X.mg X.base (L2.CX X.prog X.w) k f fd ps sp ∧ Room k X.A ∧ Binds X.K fd ps [])
    (hx : ∀ σ, PassesAt (L2.CX X.prog X.w) X σ (E σ)) (ha : PA X es tt) (h0 : es = [] → ∀ σ H Q, tt σ H Q → Q [] H) (hb : abC e = true) (ns : NSs es) (hn : es.length < 30) (hp : (apos.endLine == pos.line) = true) :
    PE X (.Call (.Attribute e m apos) es [] pos) (tMethA X.K m P E ta tt) := by
  refine ⟨fun pins s σ H Q I h => ?_⟩
  refine PySem.W.methodCall_KW (thn (he.run pins s σ H _ I h) fun u s1 ⟨x, H1, I1, rx, a, C, dx, fs, sp, ex, ea, hPC, l, q⟩ => ?_) (meth_ev hb ns hn hp)
  subst ex
  obtain rfl : u = Value.ref a := rx
  obtain ⟨f, fd, ps, k, c, hm, F, hr, hbd⟩ := hP C sp hPC
  refine getmeth_ok I1 ea c hm l ?_
  cases es with
  | nil => exact PySem.W.callWith_K0 (first := [.ref a]) I1.kIn hm.kp (run_fnS (us := [.ref a]) (vs := [.ref a]) F hr hbd (hx σ) I1 (.cons rfl .nil) (h0 rfl _ _ _ q))
  | cons e1 es1 =>
    refine PySem.W.callWith_K (first := [.ref a]) (h₀ := X.base) I1.ok.mod.kin hm.kp (thn (ha.run pos pins s1 σ H1 _ I1 q) fun us s2 ⟨vs, H2, I2, r, q2⟩ => ⟨I2.kIn, ?_⟩) (star_cons ns.1) (star_any ns.2)
    exact run_fnS (us := .ref a :: us) (vs := .ref a :: vs) F hr hbd (hx σ) I2 (.cons rfl r) q2
theorem lookup_fs_none {K : PySem.W.Frag} {c : Cfg} {f : Str} : ∀ {ns : List Str} {vs : List D} {fs : List (Str × V)}, lookS f ns vs = none → fs.map (·.1) = ns → RL K c vs (fs.map (·.2)) → fs.lookup f = none
  | [], _, [], _, _, _ => rfl
  | [], _, _ :: _, _, e, _ => by simp at e
  | _ :: _, [], kv :: kvs, _, _, l => by simp only [List.map_cons, RL] at l
  | _ :: _, [], [], _, e, _ => by simp at e
  | k :: ks, d0 :: ds, [], _, e, _ => by simp at e
  | k :: ks, d0 :: ds, kv :: kvs, h, e, l => by
    obtain ⟨k1, v1⟩ := kv
    simp only [List.map_cons, List.cons.injEq] at e
    simp only [List.map_cons, RL] at l
    unfold lookS at h
    rw [List.lookup_cons]
    by_cases q : k = f
    · rw [if_pos q] at h; cases h
    · rw [if_neg q] at h
      have : (f == k1) = false := beq_eq_false_iff_ne.mpr (by rw [e.1]; exact fun z => q z.symm)
      rw [this]
      exact lookup_fs_none h e.2 l.2
structure MethOk (X : Cx) (o : Orc) (m : Str) : Prop where
  ok : ∀ C i, o.mid C m = some i → ∃ (f : Addr) (n k : Nat), Cls X.K (He.ga X.K C) ∧ Meth X.K (He.ga X.K C) m f ∧ FnAt X (o.call i) f n k ∧ Room k X.A
theorem d_meth {m : Str} {apos : Pos} (M : MethOk X o m) (tk : Takes X W) (hb : abC e = true) (ns : NSs es) (hn : es.length < 30) (hp : (apos.endLine == pos.line) = true) (hl : es.length = ces.length) (he : PEd X o W e ce) (ha : PAd X o W es ces) :
    PEd X o W (.Call (.Attribute e m apos) es [] pos) (.meth m ce ces) := by
  refine peImp (pe_methA (P := fun C sp => ∃ Cn i f n k, C = He.ga X.K Cn ∧ Cls X.K C ∧ Meth X.K C m f ∧ FnAt X (o.call i) f n k ∧ Room k X.A ∧ sp = spF X.K n (o.call i)) (E := WE W) he (fun C sp h => ?_) (fun σ => passAt tk σ) ha (fun z σ H Q h => ?_) hb ns hn hp) fun σ H Q ⟨c₀, env, c, hH, fr, p⟩ => ?_
  · obtain ⟨Cn, i, f, n, k, rfl, h1, h2, F, hr, rfl⟩ := h
    obtain ⟨fd, ps, F1, hb⟩ := F.ex
    exact ⟨f, fd, ps, k, h1, h2, F1, hr, hb⟩
  · subst z
    cases ces with
    | cons _ _ => cases hl
    | nil =>
      obtain ⟨c₀, env, c, hH, fr, p⟩ := h
      subst hH
      exact p c [] rfl Step.refl fr.ok (by simp only [RL])
  · simp only [evalE] at p
    refine ⟨c₀, env, c, hH, fr, (p.bnd (R' := RV X.K)).mono fun v H1 ⟨c1, d1, e1, s1, k1, r1, p1⟩ => ?_⟩
    subst e1
    split at p1
    · rename_i C nms vs hrd
      split at p1
      · rename_i i hno hmid
        obtain ⟨f, n, k, h1, h2, F, hr⟩ := M.ok C i hmid
        obtain ⟨a, dx, fs, rfl, q2, q3, q4⟩ := RB.insOf k1 (.inl r1) hrd
        refine ⟨a, _, dx, fs, _, rfl, q2, ⟨C, i, f, n, k, rfl, h1, h2, F, hr, rfl⟩, lookup_fs_none hno q3 q4, c₀, env, c1, rfl, fr.step s1 k1, PostL.mono p1.bndL fun vs H2 ⟨c2, ds, e2, s2, k2, r2, p2⟩ => ?_⟩
        subst e2
        exact sp_of k2 (by simp only [RL]; exact ⟨r1.step s2, r2⟩) F.len p2
      · exact p1.elim
    · exact p1.elim

/-! ### makers -/
def spMk (K : PySem.W.Frag) (C : Str) (n : Nat) (g : List D → Store → Res) : Sp := fun vs H Q E => vs.length = n ∧ ∃ (c : Cfg) (ds : List D) (x dx : Addr) (ws : List V), vs = .ref x :: ws ∧ c.H x = none ∧ c.H dx = none ∧ dx ≠ x ∧
  H = upd (upd c.H dx (.own x)) x (.ins (He.ga K C) dx []) ∧ SOk K c ∧ RL K c ds ws ∧ Post K (fun c' d v => v = .ref x ∧ RV K c' d (.ref x)) E c (g ds c.st) (fun _ H' => Q .non H')
structure MkAt (X : Cx) (C : Str) (g : List D → Store → Res) (a : Addr) (n : Nat) (k : Nat) : Prop where
  ex : ∃ (fd : FuncData) (ps : List Str), FnOk X.prog X.w X.K X.mg X.base (L2.CX X.prog X.w) k a fd ps (spMk X.K C n g) ∧ Binds X.K fd ps []
  len : ∀ ds st r, g ds st = some r → ds.length + 1 = n
theorem run_makeS {pins : List (Addr × Obj)} {σ : L2.St} {H : Hp} {s : Shared} {Q : VK} {us : List Value} {vs : List V} {C f : Addr} {fd : FuncData} {ps : List Str} {sp : Sp} {k : Nat} {E : XK} (M : Mk X.K C f) (F : FnOk X.prog X.w X.K X.mg X.base (L2.CX X.prog X.w) k f fd ps sp) (hr : Room (k + 1) X.A) (hb : Binds X.K fd ps [])
    (hx : PassesAt (L2.CX X.prog X.w) X σ E) (I : Inv X pins σ H s) (r : Vals vs us)
    (h : ∀ x dx, H x = none → H dx = none → dx ≠ x → sp (.ref x :: vs) (upd (upd H dx (.own x)) x (.ins C dx [])) (fun v H2 => v = .non ∧ Q (.ref x) H2) E) :
    wpAny (model X.prog X.w) X.A (PySem.call (.ref C) us) (EP X pins σ Q) X.xe s := by
  have hq := h (s.heap.objs.size + 1) s.heap.objs.size (I.hok.fresh (Nat.le_succ _)) (I.hok.fresh (Nat.le_refl _)) (Nat.ne_of_lt (Nat.lt_succ_self _))
  have I2 := Inv.made (C := C) I
  have r2 : Vals (V.ref (s.heap.objs.size + 1) :: vs) (Value.ref (s.heap.objs.size + 1) :: us) := .cons rfl r
  have hl : (Value.ref (s.heap.objs.size + 1) :: us).length = ps.length := by
    have e := r2.length
    rw [F.len _ _ _ _ hq] at e
    exact e.symm
  have b := hb _ (Value.ref (s.heap.objs.size + 1) :: us) I2.kIn (by rw [List.append_nil]; exact hl)
  rw [List.append_nil] at b
  refine wpAny_call (make_map (f := f) I.kIn M.makes M.init (beq_iff_eq.mp M.fn) (codeAny_mono (F.run _ X.stack _ _ ⟨Value.ref (s.heap.objs.size + 1) :: us, []⟩ (Value.ref (s.heap.objs.size + 1) :: us) _ _ E (hr.make C us [])
    (I2.env0.make C us []) b r2 hq) fun r s' hq' => ?_))
  cases r with
  | error e => exact hx pins _ _ e s' I2 hq'
  | ok fl =>
    cases fl with
    | ret u =>
      obtain ⟨v, H', I3, rv, ev, q3⟩ := I2.after hq'
      subst ev
      exact ⟨rv, ⟨V.ref (s.heap.objs.size + 1), H', I3, rfl, q3⟩⟩
    | next => exact False.elim hq'
    | brk => exact False.elim hq'
    | cont => exact False.elim hq'
def tMakeS (C : Addr) (sp : Sp) (E : L2.St → XK) (t : TA) : TE := fun σ H Q => t σ H fun vs H1 => ∀ x dx, H1 x = none → H1 dx = none → dx ≠ x →
  sp (.ref x :: vs) (upd (upd H1 dx (.own x)) x (.ins C dx [])) (fun v H2 => v = .non ∧ Q (.ref x) H2) (E σ)
theorem pe_makeS {C f : Addr} {fd : FuncData} {ps : List Str} {sp : Sp} {k : Nat} {E : L2.St → XK} {t : TA} (M : Mk X.K C f) (F : FnOk X.prog X.w X.K X.mg X.base (L2.CX X.prog X.w) k f fd ps sp) (hr : Room (k + 1) X.A) (hg : Gl X x) (hm : X.mg x = some (.ref C)) (hb : Binds X.K fd ps []) (hx : ∀ σ, PassesAt (L2.CX X.prog X.w) X σ (E σ))
    (ha : PA X es t) (h0 : es = [] → ∀ σ H Q, t σ H Q → Q [] H) (hdb : (x == ("__debug__" : Str)) = false) (ns : NSs es) :
    PE X (.Call (.Name x p) es [] pos) (tMakeS C sp E t) := by
  refine ⟨fun pins s σ H Q I h => ?_⟩
  refine wpAny_Call_Name_kw (ld_glob I hg hm ?_ hdb)
  cases es with
  | nil => exact PySem.W.callWith_K0 I.kIn M.kp (run_makeS (us := []) M F hr hb (hx σ) I .nil (h0 rfl _ _ _ h))
  | cons e es =>
    refine PySem.W.callWith_K (h₀ := X.base) I.ok.mod.kin M.kp (thn (ha.run pos pins s σ H _ I h) fun us s1 ⟨vs, H1, I1, r, q⟩ => ⟨I1.kIn, ?_⟩) (star_cons ns.1) (star_any ns.2)
    exact run_makeS M F hr hb (hx σ) I1 r q
theorem d_make {f : Nat} {fa : Addr} {n k : Nat} (M : Mk X.K (He.ga X.K x) fa) (F : MkAt X x (o.make x f) fa n k) (hr : Room (k + 1) X.A) (tk : Takes X W) (hg : Gl X x) (hm : X.mg x = some (.ref (He.ga X.K x))) (hdb : (x == ("__debug__" : Str)) = false)
    (ns : NSs es) (hl : es.length = ces.length) (ha : PAd X o W es ces) : PEd X o W (.Call (.Name x p) es [] pos) (.make x f ces) := by
  obtain ⟨fd, ps, F1, hb⟩ := F.ex
  refine peImp (pe_makeS M F1 hr hg hm hb (fun σ => passAt tk σ) ha (fun z σ H Q h => ?_) hdb ns) fun σ H Q ⟨c₀, env, c, hH, fr, p⟩ => ?_
  · subst z
    cases ces with
    | cons _ _ => cases hl
    | nil =>
      obtain ⟨c₀, env, c, hH, fr, p⟩ := h
      subst hH
      exact p c [] rfl Step.refl fr.ok (by simp only [RL])
  · simp only [evalE] at p
    refine ⟨c₀, env, c, hH, fr, PostL.mono p.bndL fun vs H1 ⟨c1, ds, e1, s1, k1, r1, p1⟩ => ?_⟩
    subst e1
    intro y dx hy hdx hne
    obtain ⟨z, hz⟩ := p1.run
    refine ⟨by rw [List.length_cons, ← r1.length]; exact F.len _ _ _ hz, c1, ds, y, dx, vs, rfl, hy, hdx, hne, rfl, k1, r1, ?_⟩
    revert p1
    generalize o.make x f ds c1.st = m
    intro p1
    cases m with
    | none => exact p1
    | some r =>
      obtain ⟨r, st⟩ := r
      cases r with
      | ex C ns ds => exact p1
      | ok d => exact fun c' v e s k r => ⟨rfl, p1 c' (.ref y) e s k r.2⟩
end
end DI
/-! DI: what is walked. -/
set_option maxHeartbeats 1000000
namespace DI
open PySem PySem.Spec PyProof.Rows L2

/-- all but tables stand -/
def Ext (H H' : Hp) : Prop := ∀ a o, H a = some o → (∀ ps, o ≠ .tbl ps) → H' a = some o
/-- what a turn gives for the item d -/
def Yld (K : PySem.W.Frag) (c : Cfg) (H : Hp) (d : D) (x : V) (H' : Hp) : Prop :=
  (H' = H ∧ RV K c d x) ∨ ∃ a b va vb T, d = .tup [a, b] ∧ x = .ref T ∧ H T = none ∧ H' = upd H T (.tup [va, vb]) ∧ RV K c a va ∧ RV K c b vb
structure ISeq (K : PySem.W.Frag) (Rel : Cfg → Cfg → Prop) (c : Cfg) (J : It) (ds : List D) : Prop where
  go : ∀ c' H, Rel c c' → Ext c'.H H → ∀ (i : Nat) (d : D), ds[i]? = some d → J.go i H ∧ ∀ x H', J.yld i H x H' → Yld K c' H d x H'
  stop : ∀ c' H, Rel c c' → Ext c'.H H → J.stop ds.length H
def IR (K : PySem.W.Frag) (Rel : Cfg → Cfg → Prop) (c : Cfg) (J : It) : D → Prop
  | .lst ds => ISeq K Rel c J ds
  | .tup ds => ISeq K Rel c J ds
  | .loc l => J = Itl K (c.ρ l) ∧ l < c.st.length
  | _ => False
def wkb (st : Store) : D → Bool
  | .lst _ => true
  | .tup _ => true
  | .loc l => (match st[l]? with
    | some (.lst _) => true
    | _ => false)
  | _ => false
def PostI (K : PySem.W.Frag) (Rel : Cfg → Cfg → Prop) (E : Value → Option Addr → Hp → Prop) (c : Cfg) (m : Res) (R : It → Hp → Prop) : Prop :=
  match m with
  | none => False
  | some (.ok src, st) => wkb st src = true ∧ ∀ c' J, c'.st = st → Step c c' → SOk K c' → IR K Rel c' J src → R J c'.H
  | some (.ex C ns ds, st) => ∀ c' cls x, c'.st = st → Step c c' → SOk K c' → XR K c' C ns ds cls x → E cls x c'.H
def tIF (K : PySem.W.Frag) (o : Orc) (W : WX) (ce : CE) : TI := fun σ H R => ∃ c₀ env c, c.H = H ∧ FR K c₀ c env σ ∧ PostI K Keep (fun cls d H => W cls d σ H) c (evalE o ce env c.st) R
def tIB (K : PySem.W.Frag) (o : Orc) (W : WX) (ce : CE) : TI := fun σ H R => ∃ c₀ env c, c.H = H ∧ FR K c₀ c env σ ∧ PostI K Step (fun cls d H => W cls d σ H) c (lend ce env c.st (evalE o ce env c.st)) R
section
variable {K : PySem.W.Frag} {E : Value → Option Addr → Hp → Prop} {c c' : Cfg} {m : Res} {Q : VK} {J : It} {ds : List D}
theorem ISeq.low (h : ISeq K Keep c J ds) : ISeq K Step c J ds := ⟨fun c' H s e => h.go c' H s.kp e, fun c' H s e => h.stop c' H s.kp e⟩
theorem IR.low {d : D} (h : IR K Keep c J d) : IR K Step c J d := by
  cases d with
  | lst ds => exact ISeq.low h
  | tup ds => exact ISeq.low h
  | loc l => exact h
  | _ => exact h.elim
theorem fpostI {Rel : Cfg → Cfg → Prop} {k : D → Store → Res} (hk : ∀ d st, wkb st d = false → k d st = none) (p : FPost K E c (bnd m k) Q) : PostI K Rel E c m fun J H => ∃ c1 src, c1.H = H ∧ Step c c1 ∧ SOk K c1 ∧ IR K Rel c1 J src ∧ FPost K E c1 (k src c1.st) Q := by
  cases m with
  | none => exact p
  | some r =>
    obtain ⟨r, st⟩ := r
    cases r with
    | ok d =>
      refine ⟨?_, fun c' J e s k r => ⟨c', d, rfl, s, k, r, by subst e; exact FPost.at p s⟩⟩
      cases hw : wkb st d with
      | true => rfl
      | false =>
        rw [bnd_ok, hk d st hw] at p
        exact p.elim
    | ex C ns ds => exact p
theorem Ext.rd {H H' : Hp} (e : Ext H H') {a : Addr} {xs : List V} (r : Rd H a (.lst xs)) : Rd H' a (.lst xs) := by
  rcases r with r | ⟨o, r⟩
  · exact .inl (e _ _ r fun ps => by intro z; cases z)
  · exact .inr ⟨o, e _ _ r fun ps => by intro z; cases z⟩
theorem rl_get' {ds : List D} {xs : List V} {i : Nat} {d : D} {x : V} (l : RL K c ds xs) (h : ds[i]? = some d) (hx : xs[i]? = some x) : RV K c d x := by
  obtain ⟨v, hv, rv⟩ := l.get h
  rw [hx] at hv
  cases hv
  exact rv
theorem rl_idx {ds : List D} {xs : List V} {i : Nat} {d : D} (l : RL K c ds xs) (h : ds[i]? = some d) : ∃ x, xs[i]? = some x ∧ RV K c d x := l.get h
/-- lists, tuples -/
theorem iseq_lst {Rel : Cfg → Cfg → Prop} {a : Addr} {xs : List V} (h : ∀ c', Rel c c' → Rd c'.H a (.lst xs) ∧ RL K c' ds xs) : ISeq K Rel c (Itl K a) ds where
  go := fun c' H s e i d hd => by
    obtain ⟨r, l⟩ := h c' s
    obtain ⟨x, hx, rx⟩ := l.get hd
    refine ⟨⟨xs, x, .inl (e.rd r), hx⟩, fun y H' ⟨e1, e2⟩ => .inl ⟨e1, ?_⟩⟩
    have := e2 xs (.inl (e.rd r))
    rw [hx] at this
    cases this
    exact rx
  stop := fun c' H s e => by
    obtain ⟨r, l⟩ := h c' s
    exact ⟨xs, .inl (e.rd r), Nat.le_of_eq l.length.symm⟩
theorem iseq_tup {Rel : Cfg → Cfg → Prop} {a : Addr} {xs : List V} (h : ∀ c', Rel c c' → c'.H a = some (.tup xs) ∧ RL K c' ds xs) : ISeq K Rel c (Itt K a) ds where
  go := fun c' H s e i d hd => by
    obtain ⟨r, l⟩ := h c' s
    have r' : SqT K H a xs := .inl (.inl (e _ _ r fun ps => by intro z; cases z))
    obtain ⟨x, hx, rx⟩ := l.get hd
    refine ⟨⟨xs, x, r', hx⟩, fun y H' ⟨e1, e2⟩ => .inl ⟨e1, ?_⟩⟩
    have := e2 xs r'
    rw [hx] at this
    cases this
    exact rx
  stop := fun c' H s e => by
    obtain ⟨r, l⟩ := h c' s
    exact ⟨xs, .inl (.inl (e _ _ r fun ps => by intro z; cases z)), Nat.le_of_eq l.length.symm⟩
theorem rngI_length (lo : Int) (n : Nat) : (rngI lo n).length = n := by
  induction n generalizing lo with
  | zero => rfl
  | succ n ih => rw [rngI, List.length_cons, ih]
theorem rngI_get {lo : Int} {n i : Nat} {x : Int} (h : (rngI lo n)[i]? = some x) : x = lo + i ∧ i < n := by
  induction n generalizing lo i with
  | zero => simp [rngI] at h
  | succ n ih =>
    rw [rngI] at h
    cases i with
    | zero => simp at h; exact ⟨by omega, by omega⟩
    | succ i =>
      obtain ⟨h1, h2⟩ := ih (by simpa using h)
      exact ⟨by rw [h1]; omega, by omega⟩
theorem iseq_rng {Rel : Cfg → Cfg → Prop} {lo : Int} {n : Nat} : ISeq K Rel c (Itr lo n) ((rngI lo n).map .int) where
  go := fun c' H s e i d hd => by
    rw [List.getElem?_map, Option.map_eq_some_iff] at hd
    obtain ⟨x, hx, rfl⟩ := hd
    obtain ⟨h1, h2⟩ := rngI_get hx
    exact ⟨h2, fun y H' ⟨e1, e2⟩ => .inl ⟨e1, by rw [e2, h1]; simp only [RV]⟩⟩
  stop := fun c' H s e => by
    show n ≤ ((rngI lo n).map D.int).length
    rw [List.length_map, rngI_length]
    exact Nat.le_refl _
theorem enumD_length : ∀ (k : Nat) (ds : List D), (enumD k ds).length = ds.length
  | _, [] => rfl
  | k, d :: ds => by rw [enumD, List.length_cons, enumD_length (k + 1) ds, List.length_cons]
theorem enumD_get : ∀ {k : Nat} {ds : List D} {i : Nat} {d : D}, (enumD k ds)[i]? = some d → ∃ e, d = .tup [.int ((k + i : Nat) : Int), e] ∧ ds[i]? = some e
  | _, [], _, _, h => by simp [enumD] at h
  | k, d :: ds, 0, _, h => by simp [enumD] at h; exact ⟨d, by rw [← h]; simp, rfl⟩
  | k, d :: ds, i + 1, _, h => by
    obtain ⟨e, h1, h2⟩ := enumD_get (k := k + 1) (ds := ds) (i := i) (by simpa [enumD] using h)
    exact ⟨e, by rw [h1]; congr 4; omega, by simpa using h2⟩
theorem zipD_length : ∀ (as bs : List D), (zipD as bs).length = min as.length bs.length
  | [], bs => by simp [zipD]
  | _ :: _, [] => by simp [zipD]
  | a :: as, b :: bs => by rw [zipD, List.length_cons, zipD_length as bs, List.length_cons, List.length_cons]; omega
theorem zipD_get : ∀ {as bs : List D} {i : Nat} {d : D}, (zipD as bs)[i]? = some d → ∃ a b, d = .tup [a, b] ∧ as[i]? = some a ∧ bs[i]? = some b
  | [], bs, _, _, h => by simp [zipD] at h
  | _ :: _, [], _, _, h => by simp [zipD] at h
  | a :: as, b :: bs, 0, _, h => by simp [zipD] at h; exact ⟨a, b, h.symm, rfl, rfl⟩
  | a :: as, b :: bs, i + 1, _, h => by
    obtain ⟨x, y, h1, h2, h3⟩ := zipD_get (as := as) (bs := bs) (i := i) (by simpa [zipD] using h)
    exact ⟨x, y, h1, by simpa using h2, by simpa using h3⟩
theorem iseq_enumL {Rel : Cfg → Cfg → Prop} {a : Addr} {xs : List V} (h : ∀ c', Rel c c' → Rd c'.H a (.lst xs) ∧ RL K c' ds xs) : ISeq K Rel c (Ite K a) (enumD 0 ds) where
  go := fun c' H s e i d hd => by
    obtain ⟨r, l⟩ := h c' s
    obtain ⟨d', rfl, hd'⟩ := enumD_get hd
    obtain ⟨x, hx, rx⟩ := l.get hd'
    refine ⟨⟨xs, x, .inl (e.rd r), hx⟩, fun y H' ⟨T, z, e1, e2, e3, e4⟩ => .inr ⟨_, _, .int ((i : Nat) : Int), z, T, rfl, e1, e2, e3, by simp only [RV]; congr 1; omega, ?_⟩⟩
    have := e4 xs (.inl (e.rd r))
    rw [hx] at this
    cases this
    exact rx
  stop := fun c' H s e => by
    obtain ⟨r, l⟩ := h c' s
    exact ⟨xs, .inl (e.rd r), by rw [enumD_length]; exact Nat.le_of_eq l.length.symm⟩
theorem iseq_enumT {Rel : Cfg → Cfg → Prop} {a : Addr} {xs : List V} (h : ∀ c', Rel c c' → c'.H a = some (.tup xs) ∧ RL K c' ds xs) : ISeq K Rel c (DIR.IteT K a) (enumD 0 ds) where
  go := fun c' H s e i d hd => by
    obtain ⟨r, l⟩ := h c' s
    have r' : SqT K H a xs := .inl (.inl (e _ _ r fun ps => by intro z; cases z))
    obtain ⟨d', rfl, hd'⟩ := enumD_get hd
    obtain ⟨x, hx, rx⟩ := l.get hd'
    refine ⟨⟨xs, x, r', hx⟩, fun y H' ⟨T, z, e1, e2, e3, e4⟩ => .inr ⟨_, _, .int ((i : Nat) : Int), z, T, rfl, e1, e2, e3, by simp only [RV]; congr 1; omega, ?_⟩⟩
    have := e4 xs r'
    rw [hx] at this
    cases this
    exact rx
  stop := fun c' H s e => by
    obtain ⟨r, l⟩ := h c' s
    exact ⟨xs, .inl (.inl (e _ _ r fun ps => by intro z; cases z)), by rw [enumD_length]; exact l.length.symm⟩
theorem iseq_zipL {Rel : Cfg → Cfg → Prop} {es : List D} {a b : Addr} {xs ys : List V} (h : ∀ c', Rel c c' → Rd c'.H a (.lst xs) ∧ RL K c' ds xs) (h2 : ∀ c', Rel c c' → Rd c'.H b (.lst ys) ∧ RL K c' es ys) : ISeq K Rel c (Itz K a b) (zipD ds es) where
  go := fun c' H s e i d hd => by
    obtain ⟨r, l⟩ := h c' s
    obtain ⟨r2, l2⟩ := h2 c' s
    obtain ⟨d1, d2, rfl, hd1, hd2⟩ := zipD_get hd
    obtain ⟨x, hx, rx⟩ := l.get hd1
    obtain ⟨y, hy, ry⟩ := l2.get hd2
    refine ⟨⟨xs, ys, x, y, .inl (e.rd r), .inl (e.rd r2), hx, hy⟩, fun w H' ⟨T, z, z2, e1, e2, e3, e4, e5⟩ => .inr ⟨_, _, z, z2, T, rfl, e1, e2, e3, ?_, ?_⟩⟩
    · have := e4 xs (.inl (e.rd r))
      rw [hx] at this
      cases this
      exact rx
    · have := e5 ys (.inl (e.rd r2))
      rw [hy] at this
      cases this
      exact ry
  stop := fun c' H s e => by
    obtain ⟨r, l⟩ := h c' s
    obtain ⟨r2, l2⟩ := h2 c' s
    refine ⟨xs, ys, .inl (e.rd r), .inl (e.rd r2), ?_⟩
    rw [zipD_length, l.length, l2.length]
    omega
theorem iseq_zipT {Rel : Cfg → Cfg → Prop} {es : List D} {a b : Addr} {xs ys : List V} (h : ∀ c', Rel c c' → c'.H a = some (.tup xs) ∧ RL K c' ds xs) (h2 : ∀ c', Rel c c' → c'.H b = some (.tup ys) ∧ RL K c' es ys) : ISeq K Rel c (RZ.ItzT K a b) (zipD ds es) where
  go := fun c' H s e i d hd => by
    obtain ⟨r, l⟩ := h c' s
    obtain ⟨r2, l2⟩ := h2 c' s
    have r' : SqT K H a xs := .inl (.inl (e _ _ r fun ps => by intro z; cases z))
    have r2' : SqT K H b ys := .inl (.inl (e _ _ r2 fun ps => by intro z; cases z))
    obtain ⟨d1, d2, rfl, hd1, hd2⟩ := zipD_get hd
    obtain ⟨x, hx, rx⟩ := l.get hd1
    obtain ⟨y, hy, ry⟩ := l2.get hd2
    refine ⟨⟨xs, ys, x, y, r', r2', hx, hy⟩, fun w H' ⟨T, z, z2, e1, e2, e3, e4, e5⟩ => .inr ⟨_, _, z, z2, T, rfl, e1, e2, e3, ?_, ?_⟩⟩
    · have := e4 xs r'
      rw [hx] at this
      cases this
      exact rx
    · have := e5 ys r2'
      rw [hy] at this
      cases this
      exact ry
  stop := fun c' H s e => by
    obtain ⟨r, l⟩ := h c' s
    obtain ⟨r2, l2⟩ := h2 c' s
    refine ⟨xs, ys, .inl (.inl (e _ _ r fun ps => by intro z; cases z)), .inl (.inl (e _ _ r2 fun ps => by intro z; cases z)), ?_⟩
    rw [zipD_length, l.length, l2.length]
    omega
theorem keep_lst {d : D} {v : V} {ds : List D} (h : RV K c (.lst ds) v) : ∃ a xs, v = .ref a ∧ (SqL K c.H a xs) ∧ ∀ c', Keep c c' → Rd c'.H a (.lst xs) ∧ RL K c' ds xs := by
  simp only [RV] at h
  obtain ⟨a, xs, e, f, r, l⟩ := h
  exact ⟨a, xs, e, .inl r, fun c' s => ⟨rdKeep s (fun ps => by intro z; cases z) f r, RL.keep s _ _ l⟩⟩
theorem keep_tup {v : V} {ds : List D} (h : RV K c (.tup ds) v) : ∃ a xs, v = .ref a ∧ (SqT K c.H a xs) ∧ ∀ c', Keep c c' → c'.H a = some (.tup xs) ∧ RL K c' ds xs := by
  simp only [RV] at h
  obtain ⟨a, xs, e, f, r, l⟩ := h
  exact ⟨a, xs, e, .inl (.inl r), fun c' s => ⟨s.keep _ _ r f (fun ps => by intro z; cases z), RL.keep s _ _ l⟩⟩
end

/-- a list or a tuple walked -/
def iSeqA (K : PySem.W.Frag) (tl : TE) : TI := fun σ H R => tl σ H fun x H1 => ∃ a, x = .ref a ∧ (((∃ xs, SqL K H1 a xs) ∧ R (Itl K a) H1) ∨ ((∃ xs, SqT K H1 a xs) ∧ R (Itt K a) H1))
theorem pi_seqA {X : Cx} {tg l : Expr} {tl : TE} (hl : PE X l tl) : PI X tg l (iSeqA X.K tl) := by
  refine ⟨fun pins s σ H R I h => ?_⟩
  refine thn (hl.run pins s σ H _ I h) fun v s1 ⟨x, H1, I1, r1, q1⟩ => ?_
  obtain ⟨a, e, q⟩ := q1
  subst e
  cases r1
  have fin : ∀ b, b ∈ [s1.heap.objs.size] → FpOk X pins H1 b := fun b hb => by
    have e : b = s1.heap.objs.size := by simpa using hb
    subst e
    exact I1.fpOk (Nat.le_refl _) (I1.hok.fresh (Nat.le_refl _))
  rcases q with ⟨⟨xs, hq⟩, q⟩ | ⟨⟨xs, hq⟩, q⟩
  · obtain ⟨its, rv, p, hz⟩ := I1.list hq
    refine wpAny_pyIter_list p.isList ?_
    exact ⟨s1.heap.objs.size, [s1.heap.objs.size], _, _, H1, rfl, I1.kept (t' := s1.toks) fun b o e => Heap.get?_push_of_some _ e, turn_list a _, ⟨_, Heap.get?_push_size _ rfl, rfl, rfl⟩, fin, q⟩
  · obtain ⟨its, rv, p, hz⟩ := I1.tuple hq
    refine wpAny_pyIter_tuple (show s1.heap.IsTuple a its.toArray from p) ?_
    exact ⟨s1.heap.objs.size, [s1.heap.objs.size], _, _, H1, rfl, I1.kept (t' := s1.toks) fun b o e => Heap.get?_push_of_some _ e, turn_tuple a _, ⟨_, Heap.get?_push_size _ rfl, rfl, rfl⟩, fin, q⟩
theorem piImp {X : Cx} {tg e : Expr} {t t' : TI} (h : PI X tg e t) (k : ∀ σ H R, t' σ H R → t σ H R) : PI X tg e t' := ⟨fun pins s σ H R I hw => h.run pins s σ H R I (k σ H R hw)⟩
section
variable {X : Cx} {W : WX} {o : Orc} {e a b tg : Expr} {ca cb ce : CE} {pos p : Pos}
abbrev PIF (X : Cx) (o : Orc) (W : WX) (tg e : Expr) (ce : CE) : Prop := PI X tg e (tIF X.K o W ce)
abbrev PIB (X : Cx) (o : Orc) (W : WX) (tg e : Expr) (ce : CE) : Prop := PI X tg e (tIB X.K o W ce)
theorem pib_of (h : PIF X o W tg e ce) (hn : ∀ i, ce ≠ .var i) : PIB X o W tg e ce := piImp h fun σ H R ⟨c₀, env, c, hH, fr, p⟩ => by
  refine ⟨c₀, env, c, hH, fr, ?_⟩
  rw [lend_ne hn] at p
  revert p
  generalize evalE o ce env c.st = m
  intro p
  cases m with
  | none => exact p
  | some r =>
    obtain ⟨r, st⟩ := r
    cases r with
    | ok d => exact ⟨p.1, fun c' J e s k r => p.2 c' J e s k r.low⟩
    | ex C ns ds => exact p
theorem PostI.post {K : PySem.W.Frag} {Rel : Cfg → Cfg → Prop} {R' : Cfg → D → V → Prop} {E : Value → Option Addr → Hp → Prop} {c : Cfg} {m : Res} {R : It → Hp → Prop} (p : PostI K Rel E c m R) : Post K R' E c m fun v H => ∃ c' d, c'.H = H ∧ m = some (.ok d, c'.st) ∧ wkb c'.st d = true ∧ Step c c' ∧ SOk K c' ∧ R' c' d v ∧ ∀ J, IR K Rel c' J d → R J H := by
  cases m with
  | none => exact p
  | some r =>
    obtain ⟨r, st⟩ := r
    cases r with
    | ok d => exact fun c' v e s k r => ⟨c', d, rfl, by rw [e], by rw [e]; exact p.1, s, k, r, fun J hJ => p.2 c' J e s k hJ⟩
    | ex C ns ds => exact p
/-- any value -/
theorem pif_val (he : PEd X o W e ce) : PIF X o W tg e ce := piImp (pi_seqA he) fun σ H R ⟨c₀, env, c, hH, fr, p⟩ => by
  refine ⟨c₀, env, c, hH, fr, (p.post (R' := RV X.K)).mono fun v H1 ⟨c', d, e1, hm, hw, s, k, r, hR⟩ => ?_⟩
  subst e1
  cases d with
  | lst ds =>
    obtain ⟨a, xs, rfl, q, h⟩ := keep_lst (d := .non) r
    exact ⟨a, rfl, .inl ⟨⟨xs, q⟩, hR _ (iseq_lst h)⟩⟩
  | tup ds =>
    obtain ⟨a, xs, rfl, q, h⟩ := keep_tup r
    exact ⟨a, rfl, .inr ⟨⟨xs, q⟩, hR _ (iseq_tup h)⟩⟩
  | loc l =>
    simp only [RV] at r
    simp only [wkb] at hw
    cases hl : c'.st[l]? with
    | none => rw [hl] at hw; cases hw
    | some u =>
      rw [hl] at hw
      cases u <;> first | (cases hw; done) | skip
      obtain ⟨⟨xs, q, _⟩, _⟩ := k.cell l _ hl
      exact ⟨c'.ρ l, r.1, .inl ⟨⟨xs, .inl (.inl q)⟩, hR _ ⟨rfl, r.2⟩⟩⟩
  | _ => cases hw
/-- an own list, or another value -/
theorem pib_var {i : Nat} (he : PBd X o W e (.var i)) : PIB X o W tg e (.var i) := piImp (pi_seqA he) fun σ H R ⟨c₀, env, c, hH, fr, p⟩ => by
  refine ⟨c₀, env, c, hH, fr, (p.post (R' := RB X.K)).mono fun v H1 ⟨c', d, e1, hm, hw, s, k, r, hR⟩ => ?_⟩
  subst e1
  rcases r with r | ⟨a, rfl, n, r, ht⟩
  · cases d with
    | lst ds =>
      obtain ⟨a, xs, rfl, q, h⟩ := keep_lst (d := .non) r
      exact ⟨a, rfl, .inl ⟨⟨xs, q⟩, hR _ (ISeq.low (iseq_lst h))⟩⟩
    | tup ds =>
      obtain ⟨a, xs, rfl, q, h⟩ := keep_tup r
      exact ⟨a, rfl, .inr ⟨⟨xs, q⟩, hR _ (ISeq.low (iseq_tup h))⟩⟩
    | loc l =>
      simp only [RV] at r
      simp only [wkb] at hw
      cases hl : c'.st[l]? with
      | none => rw [hl] at hw; cases hw
      | some u =>
        rw [hl] at hw
        cases u <;> first | (cases hw; done) | skip
        obtain ⟨⟨xs, q, _⟩, _⟩ := k.cell l _ hl
        exact ⟨c'.ρ l, r.1, .inl ⟨⟨xs, .inl (.inl q)⟩, hR _ ⟨rfl, r.2⟩⟩⟩
    | _ => cases hw
  · cases d with
    | lst ds =>
      obtain ⟨xs, q, l⟩ := r
      exact ⟨a, rfl, .inl ⟨⟨xs, .inl (.inl q)⟩, hR _ (iseq_lst fun c'' s' => ⟨.inl (s'.keep _ _ q n (fun ps => by intro z; cases z)), l.step s'⟩)⟩⟩
    | dic _ _ => cases hw
    | dit _ _ => cases hw
    | _ => exact ht.elim
theorem pif_rng1 {p pos : Pos} (hg : Gl X "range") (hm : X.mg "range" = none) (hs : starEach [a] X.env = (false, eval a X.env) :: starEach [] X.env) (ha : PEd X o W a ca) : PIF X o W tg (.Call (.Name "range" p) [a] [] pos) (.rng1 ca) :=
  piImp (pi_range1 hg hm (pa1 ha hs) hs) fun σ H R ⟨c₀, env, c, hH, fr, p⟩ => by
    simp only [evalE] at p
    refine ⟨c₀, env, c, hH, fr, ?_⟩
    revert p
    generalize evalE o ca env c.st = m
    intro p
    cases m with
    | none => exact p
    | some r =>
      obtain ⟨r, st⟩ := r
      cases r with
      | ex C ns ds => exact p
      | ok d =>
        intro c' v e s k r
        cases d with
        | int n =>
          simp only [bnd_ok] at p
          by_cases hn : (smallI n && lineOk n.toNat) = true
          · rw [if_pos hn] at p
            have h1 := smallI_ok (by simp only [Bool.and_eq_true] at hn; exact hn.1)
            refine ⟨n, by rw [(RB.ofV r).int], h1.1, h1.2, ?_⟩
            have := p.2 c' (Itr 0 n.toNat) e s k (by
              show ISeq X.K Keep c' (Itr 0 n.toNat) (rngD 0 n)
              unfold rngD
              rw [Int.sub_zero]
              exact iseq_rng)
            exact this
          · rw [if_neg hn] at p
            exact p.elim
        | _ => exact p.elim
theorem pif_rng2 {p pos : Pos} (hg : Gl X "range") (hm : X.mg "range" = none) (hs : starEach [a, b] X.env = (false, eval a X.env) :: starEach [b] X.env) (hs2 : starEach [b] X.env = (false, eval b X.env) :: starEach [] X.env) (ha : PEd X o W a ca) (hb : PEd X o W b cb) : PIF X o W tg (.Call (.Name "range" p) [a, b] [] pos) (.rng2 ca cb) :=
  piImp (pi_range2 hg hm (pa_cons ha (pa1 hb hs2) hs) (by rw [hs, hs2]; rfl) hs2) fun σ H R ⟨c₀, env, c, hH, fr, p⟩ => by
    simp only [evalE] at p
    have step : ∀ {Rel : Cfg → Cfg → Prop} {E : Value → Option Addr → Hp → Prop} {c : Cfg} {m : Res} {k : D → Store → Res} {R : It → Hp → Prop}, PostI X.K Rel E c (bnd m k) R → Post X.K (RV X.K) E c m fun v H => ∃ c' d, c'.H = H ∧ Step c c' ∧ SOk X.K c' ∧ RV X.K c' d v ∧ PostI X.K Rel E c' (k d c'.st) R := fun {Rel E c m k R} p => by
      cases m with
      | none => exact p
      | some r =>
        obtain ⟨r, st⟩ := r
        cases r with
        | ex C ns ds => exact p
        | ok d =>
          intro c' v e s kk r
          refine ⟨c', d, rfl, s, kk, r, ?_⟩
          subst e
          simp only [bnd_ok] at p
          revert p
          generalize k d c'.st = m
          intro p
          cases m with
          | none => exact p
          | some r =>
            obtain ⟨r, st⟩ := r
            cases r with
            | ex C ns ds => exact fun c' v x e t k r => p c' v x e (s.trans t) k r
            | ok d => exact ⟨p.1, fun c1 v e t k r => p.2 c1 v e (s.trans t) k r⟩
    refine ⟨c₀, env, c, hH, fr, (step p).mono fun v H1 ⟨c1, d1, e1, s1, k1, r1, p1⟩ => ⟨c₀, env, c1, e1, fr.step s1 k1, (step p1).mono fun w H2 ⟨c2, d2, e2, s2, k2, r2, p2⟩ => ?_⟩⟩
    subst e2
    cases d1 with
    | int i => cases d2 with
      | int j =>
        by_cases hn : (smallI i && smallI j) = true
        · simp only [if_pos hn] at p2
          simp only [Bool.and_eq_true] at hn
          have h1 := smallI_ok hn.1
          have h2 := smallI_ok hn.2
          refine ⟨i, j, by rw [(RB.ofV r2).int, (RB.ofV r1).int], ⟨h1.1, h1.2, h2.1, h2.2⟩, p2.2 c2 _ rfl Step.refl k2 ?_⟩
          exact iseq_rng
        · simp only [if_neg hn] at p2
          exact p2.elim
      | _ => exact p2.elim
    | _ => exact p2.elim
theorem postI_bnd {Rel : Cfg → Cfg → Prop} {E : Value → Option Addr → Hp → Prop} {c : Cfg} {m : Res} {k : D → Store → Res} {R : It → Hp → Prop} (p : PostI X.K Rel E c (bnd m k) R) : Post X.K (RV X.K) E c m fun v H => ∃ c' d, c'.H = H ∧ Step c c' ∧ SOk X.K c' ∧ RV X.K c' d v ∧ PostI X.K Rel E c' (k d c'.st) R := by
  cases m with
  | none => exact p
  | some r =>
    obtain ⟨r, st⟩ := r
    cases r with
    | ex C ns ds => exact p
    | ok d =>
      intro c' v e s kk r
      refine ⟨c', d, rfl, s, kk, r, ?_⟩
      subst e
      simp only [bnd_ok] at p
      revert p
      generalize k d c'.st = m
      intro p
      cases m with
      | none => exact p
      | some r =>
        obtain ⟨r, st⟩ := r
        cases r with
        | ex C ns ds => exact fun c' v x e t k r => p c' v x e (s.trans t) k r
        | ok d => exact ⟨p.1, fun c1 v e t k r => p.2 c1 v e (s.trans t) k r⟩
theorem pif_enum {elts : List Expr} {kk : Nat} {tpos p pos : Pos} (hg : Gl X "enumerate") (hm : X.mg "enumerate" = none) (hs : starEach [a] X.env = (false, eval a X.env) :: starEach [] X.env) (ha : PEd X o W a ca) : PIF X o W (.Tuple elts kk tpos) (.Call (.Name "enumerate" p) [a] [] pos) (.enum ca) :=
  piImp (DIR.pi_enumA hg hm (pa1 ha hs) hs) fun σ H R ⟨c₀, env, c, hH, fr, p⟩ => by
    simp only [evalE] at p
    refine ⟨c₀, env, c, hH, fr, (postI_bnd p).mono fun v H1 ⟨c1, d1, e1, s1, k1, r1, p1⟩ => ?_⟩
    subst e1
    cases d1 with
    | tup ds =>
      obtain ⟨a, xs, rfl, q, h⟩ := keep_tup r1
      exact ⟨a, xs, rfl, .inr ⟨q, p1.2 c1 _ rfl Step.refl k1 (iseq_enumT h)⟩⟩
    | lst ds =>
      obtain ⟨a, xs, rfl, q, h⟩ := keep_lst (d := .non) r1
      exact ⟨a, xs, rfl, .inl ⟨q, p1.2 c1 _ rfl Step.refl k1 (iseq_enumL h)⟩⟩
    | _ => exact p1.elim
theorem pif_zip {elts : List Expr} {kk : Nat} {tpos p pos : Pos} (hg : Gl X "zip") (hm : X.mg "zip" = none) (hs : starEach [a, b] X.env = (false, eval a X.env) :: starEach [b] X.env) (hs2 : starEach [b] X.env = (false, eval b X.env) :: starEach [] X.env) (ha : PEd X o W a ca) (hb : PEd X o W b cb) :
    PIF X o W (.Tuple elts kk tpos) (.Call (.Name "zip" p) [a, b] [] pos) (.zip ca cb) :=
  piImp (RZ.pi_zipA hg hm (pa_cons ha (pa1 hb hs2) hs) hs (by rw [hs2]; rfl)) fun σ H R ⟨c₀, env, c, hH, fr, p⟩ => by
    simp only [evalE] at p
    refine ⟨c₀, env, c, hH, fr, (postI_bnd p).mono fun v H1 ⟨c1, d1, e1, s1, k1, r1, p1⟩ => ⟨c₀, env, c1, e1, fr.step s1 k1, (postI_bnd p1).mono fun w H2 ⟨c2, d2, e2, s2, k2, r2, p2⟩ => ?_⟩⟩
    subst e2
    split at p2
    · obtain ⟨a, xs, rfl, q, h⟩ := keep_tup (r1.step s2)
      obtain ⟨b, ys, rfl, q2, h2⟩ := keep_tup r2
      exact ⟨a, b, xs, ys, rfl, .inr ⟨q, q2, p2.2 c2 _ rfl Step.refl k2 (iseq_zipT h h2)⟩⟩
    · obtain ⟨a, xs, rfl, q, h⟩ := keep_lst (d := .non) (r1.step s2)
      obtain ⟨b, ys, rfl, q2, h2⟩ := keep_lst (d := .non) r2
      exact ⟨a, b, xs, ys, rfl, .inl ⟨q, q2, p2.2 c2 _ rfl Step.refl k2 (iseq_zipL h h2)⟩⟩
    · exact p2.elim
end
end DI
/-! DI: list comprehensions. -/
set_option maxHeartbeats 1000000
namespace DI
open PySem PySem.Spec PyProof.Rows L2

def gTg (K : PySem.W.Frag) : Tg → TG
  | .var i => gName i
  | .pair i j => gTup K 2 (gCons (gName i) (gCons (gName j) gNil))
def noTg : Tg → DI.Env → DI.Env
  | .var i, env => env.set i .no
  | .pair i j, env => (env.set i .no).set j .no
theorem wipe_get {σ : L2.St} {k : Nat} : ∀ {vs : List Nat}, (wipe σ vs)[k]? = if k ∈ vs then (σ[k]?).map (fun _ => none) else σ[k]?
  | [] => by rw [if_neg (by simp)]; rfl
  | v :: vs => by
    unfold wipe
    by_cases h : v = k
    · subst h
      rw [if_pos (List.mem_cons_self)]
      by_cases hl : v < σ.length
      · rw [List.getElem?_set_self (by rw [wipe_length]; exact hl), List.getElem?_eq_getElem hl]; rfl
      · rw [List.getElem?_eq_none (by rw [List.length_set, wipe_length]; omega), List.getElem?_eq_none (by omega)]; rfl
    · rw [List.getElem?_set_ne h, wipe_get (vs := vs)]
      by_cases hm : k ∈ vs
      · rw [if_pos hm, if_pos (List.mem_cons_of_mem _ hm)]
      · rw [if_neg hm, if_neg (by simp only [List.mem_cons, not_or]; exact ⟨fun e => h e.symm, hm⟩)]
theorem wipe_set {σ : L2.St} {vs : List Nat} {i : Nat} {x : Option V} (h : i ∈ vs) : wipe (σ.set i x) vs = wipe σ vs := by
  apply List.ext_getElem?
  intro k
  rw [wipe_get, wipe_get]
  by_cases e : i = k
  · subst e
    rw [if_pos h, if_pos h]
    by_cases hl : i < σ.length
    · rw [List.getElem?_set_self hl, List.getElem?_eq_getElem hl]; rfl
    · rw [List.getElem?_eq_none (by rw [List.length_set]; omega), List.getElem?_eq_none (by omega)]
  · rw [List.getElem?_set_ne e]
theorem wipe_wipe {σ : L2.St} {vs : List Nat} : wipe (wipe σ vs) vs = wipe σ vs := by
  apply List.ext_getElem?
  intro k
  rw [wipe_get, wipe_get]
  by_cases h : k ∈ vs
  · rw [if_pos h, if_pos h, Option.map_map]; rfl
  · rw [if_neg h, if_neg h]
section
variable {K : PySem.W.Frag} {c₀ c c' : Cfg} {env env' : DI.Env} {σ σ' : L2.St}
theorem ER.off (er : ER K c₀ c env σ) (hl : env'.length = σ'.length) (h : ∀ (k : Nat) s, env'[k]? = some s → s ≠ .no → env[k]? = some s ∧ σ'[k]? = σ[k]?) : ER K c₀ c env' σ' where
  len := hl
  val := fun i d e => by
    obtain ⟨h1, h2⟩ := h i _ e (fun z => by cases z)
    rw [h2]; exact er.val i d h1
  own := fun i d e => by
    obtain ⟨h1, h2⟩ := h i _ e (fun z => by cases z)
    rw [h2]; exact er.own i d h1
  apart := fun i j d e a h1 h2 h3 h4 => by
    obtain ⟨p1, p2⟩ := h i _ h1 (fun z => by cases z)
    obtain ⟨q1, q2⟩ := h j _ h2 (fun z => by cases z)
    exact er.apart i j d e a p1 q1 (by rw [← p2]; exact h3) (by rw [← q2]; exact h4)
  ins := fun i C ns vs a h1 h2 => by
    obtain ⟨p1, p2⟩ := h i _ h1 (fun z => by cases z)
    exact er.ins i C ns vs a p1 (by rw [← p2]; exact h2)
theorem ER.set {i : Nat} {d : D} {x : V} (er : ER K c₀ c env σ) (r : RV K c d x) : ER K c₀ c (env.set i (.val d)) (σ.set i (some x)) where
  len := by rw [List.length_set, List.length_set]; exact er.len
  val := fun k e h => by
    by_cases q : i = k
    · subst q
      have hl : i < env.length := by
        have := (List.getElem?_eq_some_iff.mp h).1
        rw [List.length_set] at this; exact this
      rw [List.getElem?_set_self hl] at h
      cases h
      rw [List.getElem?_set_self (by rw [← er.len]; exact hl)]
      exact ⟨x, rfl, r⟩
    · rw [List.getElem?_set_ne q] at h ⊢
      exact er.val k e h
  own := fun k e h => by
    by_cases q : i = k
    · subst q
      have hl : i < env.length := by
        have := (List.getElem?_eq_some_iff.mp h).1
        rw [List.length_set] at this; exact this
      rw [List.getElem?_set_self hl] at h
      cases h
    · rw [List.getElem?_set_ne q] at h ⊢
      exact er.own k e h
  apart := fun k j e f a h1 h2 h3 h4 => by
    have ne : ∀ {k : Nat} {e : D}, (env.set i (.val d))[k]? = some (Slot.own e) → i ≠ k := fun {k e} h q => by
      subst q
      have hl : i < env.length := by
        have := (List.getElem?_eq_some_iff.mp h).1
        rw [List.length_set] at this; exact this
      rw [List.getElem?_set_self hl] at h
      cases h
    have n1 := ne h1
    have n2 := ne h2
    rw [List.getElem?_set_ne n1] at h1 h3
    rw [List.getElem?_set_ne n2] at h2 h4
    exact er.apart k j e f a h1 h2 h3 h4
  ins := fun k C ns vs a h1 h2 => by
    by_cases q : i = k
    · subst q
      have hl : i < env.length := by
        have := (List.getElem?_eq_some_iff.mp h1).1
        rw [List.length_set] at this; exact this
      rw [List.getElem?_set_self hl] at h1
      cases h1
    · rw [List.getElem?_set_ne q] at h1 h2
      exact er.ins k C ns vs a h1 h2
theorem noTg_get {tg : Tg} {k : Nat} {s : Slot} (h : (noTg tg env)[k]? = some s) (hs : s ≠ .no) : env[k]? = some s ∧ k ∉ tgIx tg := by
  have one : ∀ {env : DI.Env} {i k : Nat}, (env.set i Slot.no)[k]? = some s → env[k]? = some s ∧ i ≠ k := fun {env i k} h => by
    by_cases q : i = k
    · subst q
      have hl : i < env.length := by
        have := (List.getElem?_eq_some_iff.mp h).1
        rw [List.length_set] at this; exact this
      rw [List.getElem?_set_self hl] at h
      cases h
      exact absurd rfl hs
    · rw [List.getElem?_set_ne q] at h
      exact ⟨h, q⟩
  cases tg with
  | var i =>
    obtain ⟨h1, h2⟩ := one h
    exact ⟨h1, by simp [tgIx]; exact fun e => h2 e.symm⟩
  | pair i j =>
    obtain ⟨h1, h2⟩ := one h
    obtain ⟨h3, h4⟩ := one h1
    exact ⟨h3, by simp [tgIx]; exact ⟨fun e => h4 e.symm, fun e => h2 e.symm⟩⟩
theorem noTg_length {tg : Tg} : (noTg tg env).length = env.length := by
  cases tg <;> simp [noTg]
/-- the slots of a block, its own forgotten -/
theorem ER.wiped {tg : Tg} {vs : List Nat} (er : ER K c₀ c env σ) (hvs : ∀ k ∈ vs, k ∈ tgIx tg) : ER K c₀ c (noTg tg env) (wipe σ vs) :=
  er.off (by rw [noTg_length, wipe_length]; exact er.len) fun k s h hs => by
    obtain ⟨h1, h2⟩ := noTg_get h hs
    exact ⟨h1, by rw [wipe_get, if_neg fun z => h2 (hvs k z)]⟩
theorem set_no {i : Nat} {d : D} : (env.set i Slot.no).set i (.val d) = env.set i (.val d) := by rw [List.set_set]
/-- a target set -/
theorem g_tg {tg : Tg} {d : D} {x : V} {env1 : DI.Env} {vs : List Nat} {H : Hp} {Q : L2.St → Hp → Prop} (er : ER K c₀ c env σ) (r : RV K c d x) (ext : Ext c.H H) (hvs : ∀ k ∈ vs, k ∈ tgIx tg) (hvs2 : ∀ k ∈ tgIx tg, k ∈ vs) (ht : tgSet tg d env = some env1)
    (h : ∀ σ2, wipe σ2 vs = wipe σ vs → ER K c₀ c env1 σ2 → Q σ2 H) : gTg K tg x (wipe σ vs) H Q := by
  have ew := er.wiped hvs
  cases tg with
  | var i =>
    simp only [tgSet, Option.some.injEq] at ht
    subst ht
    refine h _ ?_ ?_
    · rw [wipe_set (hvs2 i (by simp [tgIx])), wipe_wipe]
    · have := ew.set (i := i) r
      rw [show noTg (.var i) env = env.set i .no from rfl, set_no] at this
      exact this
  | pair i j =>
    cases d with
    | tup ds =>
      match ds, ht, r with
      | [a, b], ht, r =>
        simp only [tgSet, Option.some.injEq] at ht
        subst ht
        obtain ⟨p, xs, rfl, _, q, l⟩ := (RB.ofV r).tup
        match xs, l, q with
        | [va, vb], l, q =>
          simp only [RL] at l
          refine ⟨p, [va, vb], rfl, .inl (.inl (ext _ _ q fun ps => by intro z; cases z)), rfl, va, [vb], rfl, vb, [], rfl, rfl, ?_⟩
          refine h _ ?_ ?_
          · rw [wipe_set (hvs2 j (by simp [tgIx])), wipe_set (hvs2 i (by simp [tgIx])), wipe_wipe]
          · have z := (ew.set (i := i) l.1).set (i := j) l.2.1
            rw [show noTg (.pair i j) env = (env.set i .no).set j .no from rfl] at z
            by_cases e : i = j
            · subst e
              rw [List.set_set, List.set_set, List.set_set] at z
              rw [List.set_set] at z ⊢
              rw [List.set_set]
              exact z
            · rw [List.set_comm _ _ e, set_no, List.set_comm _ _ (Ne.symm e), set_no] at z
              first
                | exact z
                | (rw [List.set_comm _ _ e] at z; exact z)
                | (rw [List.set_comm _ _ (Ne.symm e)] at z; exact z)
        | [], l, _ => simp only [RL] at l
        | [_], l, _ => simp only [RL] at l; exact l.2.elim
        | _ :: _ :: _ :: _, l, _ => simp only [RL] at l; exact l.2.2.elim
      | [], ht, _ => simp [tgSet] at ht
      | [_], ht, _ => simp [tgSet] at ht
      | _ :: _ :: _ :: _, ht, _ => simp [tgSet] at ht
    | _ => simp [tgSet] at ht
def W0 : WX := fun _ _ _ _ => False
def ttC (K : PySem.W.Frag) (o : Orc) : Option CE → TT
  | none => tYes
  | some c => tT K o W0 c
def cdRun (o : Orc) : Option CE → DI.Env → Store → Res
  | none => fun _ st => some (.ok (.bl true), st)
  | some c => fun env st => evalE o c env st
theorem upd_self {H : Hp} {a : Addr} {u : HO} (h : H a = some u) : upd H a u = H := by
  funext b
  unfold upd
  by_cases e : b = a
  · rw [if_pos e, e, h]
  · rw [if_neg e]
theorem upd_upd {H : Hp} {a : Addr} {u w : HO} : upd (upd H a u) a w = upd H a w := by
  funext b
  unfold upd
  by_cases e : b = a
  · rw [if_pos e, if_pos e]
  · rw [if_neg e, if_neg e, if_neg e]
theorem upd_comm {H : Hp} {a b : Addr} {u w : HO} (h : a ≠ b) : upd (upd H a u) b w = upd (upd H b w) a u := by
  funext x
  unfold upd
  by_cases e1 : x = a
  · by_cases e2 : x = b
    · exact absurd (e1.symm.trans e2) h
    · rw [if_neg e2, if_pos e1, if_pos e1]
  · by_cases e2 : x = b
    · rw [if_pos e2, if_neg e1, if_pos e2]
    · rw [if_neg e2, if_neg e1, if_neg e1, if_neg e2]
theorem ext_upd {H : Hp} {a : Addr} {u : HO} (h : H a = none) : Ext H (upd H a u) := fun b o e _ => by
  rw [upd_ne (ne_of_none e h)]; exact e
theorem Post.fin {R : Cfg → D → V → Prop} {m : Res} {Q : VK} {d : D} {st : Store} {E : Value → Option Addr → Hp → Prop} (hm : m = some (.ok d, st)) (h : ∀ c' v, c'.st = st → Step c c' → SOk K c' → R c' d v → Q v c'.H) : Post K R E c m Q := by
  subst hm
  exact h
/-- one turn of a comprehension -/
theorem lc_turn {o : Orc} {tg : Tg} {cel : CE} {cc : Option CE} {d : D} {x : V} {env1 : DI.Env} {vs : List Nat} {D : Addr} {accv : List V} {b : Bool} {st1 : Store} {Nx : Hp → Prop} (fr : FR K c₀ c env σ) (hD : c.H D = none) (rx : RV K c d x)
    (ht : tgSet tg d env = some env1) (hvs : ∀ k ∈ vs, k ∈ tgIx tg) (hvs2 : ∀ k ∈ tgIx tg, k ∈ vs) (hcd : cdRun o cc env1 c.st = some (.ok (.bl b), st1))
    (hT : b = true → ∃ dy st2, evalE o cel env1 st1 = some (.ok dy, st2) ∧ ∀ c2 y, c2.st = st2 → Step c c2 → SOk K c2 → c2.H D = none → RV K c2 dy y → Keep c c2 → accv.length < sizeLine ∧ Nx (upd c2.H D (.lst (accv ++ [y]))))
    (hF : b = false → ∀ c2, c2.st = st1 → Step c c2 → SOk K c2 → c2.H D = none → Nx (upd c2.H D (.lst accv))) :
    gTg K tg x (wipe σ vs) (upd c.H D (.lst accv)) fun σ2 H2 => wipe σ2 vs = wipe σ vs ∧ ttC K o cc σ2 H2 fun b H3 =>
      if b = true then tE K o W0 cel σ2 H3 fun y H4 => ∃ acc, H4 D = some (.lst acc) ∧ acc.length < sizeLine ∧ Nx (upd H4 D (.lst (acc ++ [y]))) else Nx H3 := by
  refine g_tg fr.er rx (ext_upd hD) hvs hvs2 ht fun σ2 hw er2 => ⟨hw, ?_⟩
  have fr2 : FR K c₀ c env1 σ2 := ⟨fr.ok, er2, fr.st, fr.f1, fr.f2, fr.f0⟩
  have frh := fr2.hide (ho := .lst accv) hD
  have atD : ∀ {c2 : Cfg}, Step (c.hide D (.lst accv)) c2 → c2.H D = some (.lst accv) := fun s => s.keep D _ upd_same (fun l hl' => (fr.ok.fz hD).1 l hl') (fun ps => by intro z; cases z)
  have nx : ∀ {c2 : Cfg}, Step (c.hide D (.lst accv)) c2 → ∀ u, c2.H D = some u → NotX u := fun s u e => by rw [atD s] at e; cases e; trivial
  -- behind the test
  have go : ∀ c1, c1.st = st1 → Step (c.hide D (.lst accv)) c1 → SOk K c1 → (if b = true then tE K o W0 cel σ2 c1.H fun y H4 => ∃ acc, H4 D = some (.lst acc) ∧ acc.length < sizeLine ∧ Nx (upd H4 D (.lst (acc ++ [y]))) else Nx c1.H) := by
    intro c1 e1 s1 k1
    cases b with
    | true =>
      rw [if_pos rfl]
      obtain ⟨dy, st2, he, hn⟩ := hT rfl
      refine ⟨c₀, env1, c1, rfl, frh.step s1 k1, Post.fin (by rw [e1]; exact he) fun c2 y e2 s2 k2 r2 => ?_⟩
      have s12 := s1.trans s2
      obtain ⟨q1, q2⟩ := hn (c2.drop c.F D) y e2 (s12.unhide hD) (k2.unhide (nx s12) fr.ok.fa hD s12) (by show (if D = D then none else _) = none; rw [if_pos rfl])
        (RV.keep (hide_keep fr.ok.fa hD s12 k2) _ _ r2) (s12.unhide hD).kp
      rw [drop_upd] at q2
      exact ⟨accv, atD s12, q1, q2⟩
    | false =>
      rw [if_neg Bool.false_ne_true]
      have q := hF rfl (c1.drop c.F D) e1 (s1.unhide hD) (k1.unhide (nx s1) fr.ok.fa hD s1) (by show (if D = D then none else _) = none; rw [if_pos rfl])
      rw [drop_upd, upd_self (atD s1)] at q
      exact q
  cases cc with
  | none =>
    simp only [cdRun, Option.some.injEq, Prod.mk.injEq] at hcd
    obtain ⟨h1, h2⟩ := hcd
    cases h1
    exact go (c.hide D (.lst accv)) h2 Step.refl frh.ok
  | some cd =>
    refine ⟨c₀, env1, c.hide D (.lst accv), rfl, frh, Post.fin (show evalE o cd env1 c.st = _ from hcd) fun c2 v e2 s2 k2 r2 => ?_⟩
    exact ⟨b, (RB.ofV r2).bl, go c2 e2 s2 k2⟩

/-- the loop's promise -/
def LcOk (J : It) (g : TG) (tt : TT) (te : TE) (vs : List Nat) (σ : L2.St) (Q : VK) (D : Addr) (H1 : Hp) : Prop := ∃ W : Nat → Nat → Hp → Prop, (∃ m, W 0 m (upd H1 D (.lst []))) ∧ ∀ i m H, W i m H →
  (J.stop i H ∧ Q (.ref D) H) ∨ (J.go i H ∧ ∃ Nx : Hp → Prop, (∀ H', Nx H' → ∃ m', m' < m ∧ W (i + 1) m' H') ∧ ∀ x H', J.yld i H x H' → g x (wipe σ vs) H' fun σ2 H2 => wipe σ2 vs = wipe σ vs ∧ tt σ2 H2 fun b H3 =>
    if b = true then te σ2 H3 fun y H4 => ∃ acc, H4 D = some (.lst acc) ∧ acc.length < sizeLine ∧ Nx (upd H4 D (.lst (acc ++ [y]))) else Nx H3)
/-- the state at a turn's start: c as it stands without the new list -/
structure LcAt (K : PySem.W.Frag) (c₀ c1 : Cfg) (env : DI.Env) (σ : L2.St) (D : Addr) (accd : List DI.D) (H : Hp) (c : Cfg) (accv : List V) : Prop where
  fr : FR K c₀ c env σ
  st : Step c1 c
  nD : c.H D = none
  eH : H = upd c.H D (.lst accv)
  acc : RL K c accd accv
theorem LcAt.ext {c1 : Cfg} {D : Addr} {accd : List DI.D} {H : Hp} {accv : List V} (h : LcAt K c₀ c1 env σ D accd H c accv) : Ext c.H H := by rw [h.eH]; exact ext_upd h.nD
/-- a turn, whatever is walked -/
theorem lc_step {o : Orc} {tg : Tg} {cel : CE} {cc : Option CE} {d : DI.D} {x : V} {vs : List Nat} {D : Addr} {accd : List DI.D} {accv : List V} {b : Bool} {env1 : DI.Env} {st1 : Store} {H H' : Hp} {c1 : Cfg} {Nx : Hp → Prop} {out : Nat} (h : LcAt K c₀ c1 env σ D accd H c accv)
    (ht : tgSet tg d env = some env1) (hvs : ∀ k ∈ vs, k ∈ tgIx tg) (hvs2 : ∀ k ∈ tgIx tg, k ∈ vs) (hcd : cdRun o cc env1 c.st = some (.ok (.bl b), st1)) (hlen : b = true → accd.length < sizeLine)
    (hT : b = true → ∃ dy st2, evalE o cel env1 st1 = some (.ok dy, st2) ∧ ∀ c2 accv2 H2, c2.st = st2 → LcAt K c₀ c1 env σ D (accd ++ [dy]) H2 c2 accv2 → Nx H2)
    (hF : b = false → ∀ c2 accv2 H2, c2.st = st1 → LcAt K c₀ c1 env σ D accd H2 c2 accv2 → Nx H2) (hy : Yld K c H d x H') :
    gTg K tg x (wipe σ vs) H' fun σ2 H2 => wipe σ2 vs = wipe σ vs ∧ ttC K o cc σ2 H2 fun b H3 =>
      if b = true then tE K o W0 cel σ2 H3 fun y H4 => ∃ acc, H4 D = some (.lst acc) ∧ acc.length < sizeLine ∧ Nx (upd H4 D (.lst (acc ++ [y]))) else Nx H3 := by
  have main : ∀ c', c'.st = c.st → Step c c' → SOk K c' → c'.H D = none → RV K c' d x → H' = upd c'.H D (.lst accv) → gTg K tg x (wipe σ vs) H' fun σ2 H2 => wipe σ2 vs = wipe σ vs ∧ ttC K o cc σ2 H2 fun b H3 =>
      if b = true then tE K o W0 cel σ2 H3 fun y H4 => ∃ acc, H4 D = some (.lst acc) ∧ acc.length < sizeLine ∧ Nx (upd H4 D (.lst (acc ++ [y]))) else Nx H3 := by
    intro c' es s' k' nD' rx eH
    rw [eH]
    have fr' := h.fr.step s' k'
    refine lc_turn fr' nD' rx ht hvs hvs2 (by rw [es]; exact hcd) (fun hb => ?_) fun hb c2 e2 s2 k2 n2 => hF hb c2 accv _ e2 ⟨fr'.step s2 k2, (h.st.trans s').trans s2, n2, rfl, (h.acc.step s').step s2⟩
    obtain ⟨dy, st2, he, hn⟩ := hT hb
    refine ⟨dy, st2, he, fun c2 y e2 s2 k2 n2 ry kp => ⟨?_, hn c2 (accv ++ [y]) _ e2 ⟨fr'.step s2 k2, (h.st.trans s').trans s2, n2, rfl, ((h.acc.step s').step s2).append (RL.one ry)⟩⟩⟩
    rw [← h.acc.length]
    exact hlen hb
  rcases hy with ⟨e, r⟩ | ⟨a, b', va, vb, T, rfl, rfl, hT0, e, ra, rb⟩
  · exact main c rfl Step.refl h.fr.ok h.nD r (by rw [e]; exact h.eH)
  · have nT : T ≠ D := fun z => by
      rw [z, h.eH, upd_same] at hT0
      cases hT0
    have hT1 : c.H T = none := by
      rw [h.eH, upd_ne nT] at hT0
      exact hT0
    have s : Step c { c with H := upd c.H T (.tup [va, vb]) } := Step.fresh hT1
    refine main { c with H := upd c.H T (.tup [va, vb]) } rfl s (h.fr.ok.new hT1) ?_ ?_ ?_
    · show upd c.H T _ D = none
      rw [upd_ne (Ne.symm nT)]
      exact h.nD
    · refine RV.tupI (a := T) (xs := [va, vb]) ?_ upd_same ?_
      · have := h.fr.ok.fz hT1
        exact this
      · simp only [RL]
        exact ⟨RV.step s ra, RV.step s rb, trivial⟩
    · rw [e, h.eH]
      exact upd_comm (Ne.symm nT)
def LcG (J : It) (g : TG) (tt : TT) (te : TE) (vs : List Nat) (σ : L2.St) (Qe : Hp → Prop) (D : Addr) (H1 : Hp) : Prop := ∃ W : Nat → Nat → Hp → Prop, (∃ m, W 0 m H1) ∧ ∀ i m H, W i m H →
  (J.stop i H ∧ Qe H) ∨ (J.go i H ∧ ∃ Nx : Hp → Prop, (∀ H', Nx H' → ∃ m', m' < m ∧ W (i + 1) m' H') ∧ ∀ x H', J.yld i H x H' → g x (wipe σ vs) H' fun σ2 H2 => wipe σ2 vs = wipe σ vs ∧ tt σ2 H2 fun b H3 =>
    if b = true then te σ2 H3 fun y H4 => ∃ acc, H4 D = some (.lst acc) ∧ acc.length < sizeLine ∧ Nx (upd H4 D (.lst (acc ++ [y]))) else Nx H3)
theorem lc_seqG {o : Orc} {tg : Tg} {cel : CE} {cc : Option CE} {vs : List Nat} {D : Addr} {ds accd0 rds0 : List DI.D} {accv0 : List V} {st3 : Store} {c1 : Cfg} {J : It} {Qe : Hp → Prop} {Rel : Cfg → Cfg → Prop} (fr : FR K c₀ c1 env σ) (hJ : ISeq K Rel c1 J ds) (hRel : ∀ c, SOk K c → Step c1 c → c.H D = none → Rel c1 c) (nD : c1.H D = none) (hacc : RL K c1 accd0 accv0)
    (hvs : ∀ k ∈ vs, k ∈ tgIx tg) (hvs2 : ∀ k ∈ tgIx tg, k ∈ vs) (hrun : compL (fun env st => evalE o cel env st) (cdRun o cc) tg env ds c1.st = some (rds0, st3)) (hlen : (accd0 ++ rds0).length ≤ sizeLine)
    (hend : ∀ c accv H, LcAt K c₀ c1 env σ D (accd0 ++ rds0) H c accv → c.st = st3 → Qe H) :
    LcG J (gTg K tg) (ttC K o cc) (tE K o W0 cel) vs σ Qe D (upd c1.H D (.lst accv0)) := by
  refine ⟨fun i m H => ∃ c accd accv rest rds, m = rest.length ∧ i ≤ ds.length ∧ rest = ds.drop i ∧ LcAt K c₀ c1 env σ D accd H c accv ∧ compL (fun env st => evalE o cel env st) (cdRun o cc) tg env rest c.st = some (rds, st3) ∧ accd0 ++ rds0 = accd ++ rds,
    ⟨ds.length, c1, accd0, accv0, ds, rds0, rfl, Nat.zero_le _, rfl, ⟨fr, Step.refl, nD, rfl, hacc⟩, hrun, rfl⟩, ?_⟩
  rintro i m H ⟨c, accd, accv, rest, rds, rfl, hi, hrest, h, hr, ho⟩
  cases rest with
  | nil =>
    have e : i = ds.length := by
      have := congrArg List.length hrest
      rw [List.length_nil, List.length_drop] at this
      omega
    subst e
    simp only [compL, Option.some.injEq, Prod.mk.injEq] at hr
    obtain ⟨h1, h2⟩ := hr
    subst h1
    rw [List.append_nil] at ho
    rw [← ho] at h
    exact .inl ⟨hJ.stop c H (hRel c h.fr.ok h.st h.nD) h.ext, hend c accv H h h2⟩
  | cons d rest =>
    have hlt : i < ds.length := by
      have := congrArg List.length hrest
      rw [List.length_cons, List.length_drop] at this
      omega
    have hd : ds[i]? = some d := by
      have := congrArg List.head? hrest
      rw [List.head?_drop] at this
      exact this.symm
    have hrest2 : rest = ds.drop (i + 1) := by
      have := congrArg List.tail hrest
      rw [List.tail_drop] at this
      exact this
    obtain ⟨hgo, hy⟩ := hJ.go c H (hRel c h.fr.ok h.st h.nD) h.ext i d hd
    simp only [compL] at hr
    split at hr
    · cases hr
    · rename_i env1 ht
      refine .inr ⟨hgo, fun H' => ∃ c accd accv rds, LcAt K c₀ c1 env σ D accd H' c accv ∧ compL (fun env st => evalE o cel env st) (cdRun o cc) tg env rest c.st = some (rds, st3) ∧ accd0 ++ rds0 = accd ++ rds, fun H' ⟨c', accd', accv', rds', q1, q2, q3⟩ =>
        ⟨rest.length, Nat.lt_succ_self _, c', accd', accv', rest, rds', rfl, hlt, hrest2, q1, q2, q3⟩, fun x H' hyl => ?_⟩
      split at hr
      · rename_i st1 hc
        split at hr
        · rename_i dy st2 he
          split at hr
          · rename_i ds3 st4 hrec
            simp only [Option.some.injEq, Prod.mk.injEq] at hr
            obtain ⟨h1, h2⟩ := hr
            subst h1 h2
            refine lc_step (out := 0) (b := true) h ht hvs hvs2 hc (fun _ => ?_) (fun _ => ⟨dy, st2, he, fun c2 accv2 H2 e2 q => ⟨c2, accd ++ [dy], accv2, ds3, q, by rw [e2]; exact hrec, by rw [ho, List.append_assoc]; rfl⟩⟩) (fun z => by cases z) (hy x H' hyl)
            rw [ho, List.length_append, List.length_cons] at hlen
            omega
          · cases hr
        · cases hr
      · rename_i st1 hc
        exact lc_step (out := 0) (b := false) h ht hvs hvs2 hc (fun z => by cases z) (fun z => by cases z) (fun _ c2 accv2 H2 e2 q => ⟨c2, accd, accv2, rds, q, by rw [e2]; exact hr, ho⟩) (hy x H' hyl)
      · cases hr
theorem lc_seq {o : Orc} {tg : Tg} {cel : CE} {cc : Option CE} {vs : List Nat} {D : Addr} {ds out : List DI.D} {st3 : Store} {c1 : Cfg} {J : It} {E : Value → Option Addr → Hp → Prop} {Q : VK} (fr : FR K c₀ c1 env σ) (hJ : ISeq K Step c1 J ds) (nD : c1.H D = none)
    (hvs : ∀ k ∈ vs, k ∈ tgIx tg) (hvs2 : ∀ k ∈ tgIx tg, k ∈ vs) (hrun : compL (fun env st => evalE o cel env st) (cdRun o cc) tg env ds c1.st = some (out, st3)) (hlen : out.length ≤ sizeLine) (p : FPost K E c1 (some (.ok (.lst out), st3)) Q) :
    LcOk J (gTg K tg) (ttC K o cc) (tE K o W0 cel) vs σ Q D c1.H :=
  lc_seqG (accd0 := []) (accv0 := []) (Qe := Q (.ref D)) fr hJ (fun _ _ s _ => s) nD (by simp only [RL]) hvs hvs2 hrun hlen fun c accv H h e => by
    rw [h.eH]
    exact p c (.lst accv) e h.st h.fr.ok ⟨accv, rfl, h.acc⟩ D h.nD
theorem keep_thr {c c2 c' : Cfg} {D : Addr} {ho : HO} (fa : ∀ a, c.F a → c.H a ≠ none) (nD : c.H D = none) (s2 : Step (c.hide D ho) c2) (k2 : SOk K c2) (s : Step (c2.drop c.F D) c') (k : SOk K c') (n : c'.H D = none) : Keep c2 c' := by
  have hk := hide_keep fa nD s2 k2
  have hF : c2.F = fun a => c.F a ∨ a = D := s2.F
  exact {
    keep := fun a o h f nt => by
      have ne : a ≠ D := fun e => f.2 (by rw [hF]; exact .inr e)
      refine s.keep a o (hk.keep a o h f nt) (f.keep hk (some_ne h)).1 nt
    rho := s.rho
    len := s.len
    new := fun l h1 h2 => by
      have z : (if c'.ρ l = D then none else c2.H (c'.ρ l)) = none := s.new l h1 h2
      have ne : c'.ρ l ≠ D := fun e => (k.cell l (c'.st[l]) (by simp [h2])).1.ne (e ▸ n)
      rw [if_neg ne] at z
      exact z
    F := fun a h1 h2 => by
      rw [show c'.F = c.F from s.F]
      exact fun z => h2 (by rw [hF]; exact .inl z) }
theorem lc_loc {o : Orc} {tg : Tg} {cel : CE} {cc : Option CE} {vs : List Nat} {D : Addr} {l : Nat} {out : List DI.D} {st3 : Store} {c1 : Cfg} {fuel : Nat} {E : Value → Option Addr → Hp → Prop} {Q : VK} (fr : FR K c₀ c1 env σ) (hl : l < c1.st.length) (nD : c1.H D = none)
    (hvs : ∀ k ∈ vs, k ∈ tgIx tg) (hvs2 : ∀ k ∈ tgIx tg, k ∈ vs) (hrun : compAt (fun env st => evalE o cel env st) (cdRun o cc) tg env l fuel 0 c1.st = some (out, st3)) (hlen : out.length ≤ sizeLine) (p : FPost K E c1 (some (.ok (.lst out), st3)) Q) :
    LcOk (Itl K (c1.ρ l)) (gTg K tg) (ttC K o cc) (tE K o W0 cel) vs σ Q D c1.H := by
  refine ⟨fun i m H => ∃ c accd accv rds, LcAt K c₀ c1 env σ D accd H c accv ∧ compAt (fun env st => evalE o cel env st) (cdRun o cc) tg env l m i c.st = some (rds, st3) ∧ out = accd ++ rds,
    ⟨fuel, c1, [], [], out, ⟨fr, Step.refl, nD, rfl, by simp only [RL]⟩, hrun, rfl⟩, ?_⟩
  rintro i m H ⟨c, accd, accv, rds, h, hr, ho⟩
  cases m with
  | zero => simp [compAt] at hr
  | succ m =>
    simp only [compAt] at hr
    split at hr
    · rename_i xs hxs
      obtain ⟨⟨xvs, hH, lx⟩, _⟩ := h.fr.ok.cell l _ hxs
      rw [h.st.rho l hl] at hH
      have hS : SqL K H (c1.ρ l) xvs := .inl (.inl (h.ext _ _ hH fun ps => by intro z; cases z))
      split at hr
      · rename_i hn
        simp only [Option.some.injEq, Prod.mk.injEq] at hr
        obtain ⟨h1, h2⟩ := hr
        subst h1 h2
        rw [List.append_nil] at ho
        subst ho
        refine .inl ⟨⟨xvs, hS, ?_⟩, ?_⟩
        · rw [← lx.length]
          exact List.getElem?_eq_none_iff.mp hn
        · rw [h.eH]
          exact p c (.lst accv) rfl h.st h.fr.ok ⟨accv, rfl, h.acc⟩ D h.nD
      · rename_i d hd
        obtain ⟨xv, hxv, rx⟩ := lx.get hd
        split at hr
        · cases hr
        · rename_i env1 ht
          refine .inr ⟨⟨xvs, xv, hS, hxv⟩, fun H' => ∃ c accd accv rds, LcAt K c₀ c1 env σ D accd H' c accv ∧ compAt (fun env st => evalE o cel env st) (cdRun o cc) tg env l m (i + 1) c.st = some (rds, st3) ∧ out = accd ++ rds, fun H' ⟨c', accd', accv', rds', q1, q2, q3⟩ =>
            ⟨m, Nat.lt_succ_self _, c', accd', accv', rds', q1, q2, q3⟩, fun x H' hyl => ?_⟩
          have hy : Yld K c H d x H' := by
            obtain ⟨e1, e2⟩ := hyl
            have z := e2 xvs hS
            rw [hxv] at z
            cases z
            exact .inl ⟨e1, rx⟩
          split at hr
          · rename_i st1 hc
            split at hr
            · rename_i dy st2 he
              split at hr
              · rename_i ds3 st4 hrec
                simp only [Option.some.injEq, Prod.mk.injEq] at hr
                obtain ⟨h1, h2⟩ := hr
                subst h1 h2
                refine lc_step (out := 0) (b := true) h ht hvs hvs2 hc (fun _ => ?_) (fun _ => ⟨dy, st2, he, fun c2 accv2 H2 e2 q => ⟨c2, accd ++ [dy], accv2, ds3, q, by rw [e2]; exact hrec, by rw [ho, List.append_assoc]; rfl⟩⟩) (fun z => by cases z) hy
                rw [ho, List.length_append, List.length_cons] at hlen
                omega
              · cases hr
            · cases hr
          · rename_i st1 hc
            exact lc_step (out := 0) (b := false) h ht hvs hvs2 hc (fun z => by cases z) (fun z => by cases z) (fun _ c2 accv2 H2 e2 q => ⟨c2, accd, accv2, rds, q, by rw [e2]; exact hr, ho⟩) hy
          · cases hr
    · cases hr
end
section
variable {X : Cx} {W : WX} {o : Orc} {elt tg it : Expr} {ifs : List Expr} {scope : Scope} {own : List (Str × Nat)} {pos : Pos} {cel ci : CE} {cc : Option CE} {ctg : Tg}
abbrev Blk (X : Cx) (scope : Scope) (P : Cx → Prop) : Prop := ∀ (s : Shared) (H : Hp) (C : Addr) (cl : List (Str × Addr)) (fp : List Addr), P (X.blk s H scope (compEnvC scope cl C X.env) fp)
theorem compD_none {o : Orc} {el cd : DI.Env → Store → Res} {tg : Tg} {env : DI.Env} {d : D} {st : Store} (h : wkb st d = false) : compD el cd tg env d st = none := by
  cases d with
  | lst ds => cases h
  | tup ds => cases h
  | loc l =>
    simp only [wkb] at h
    have go : ∀ n, compAt el cd tg env l n 0 st = none := fun n => by
      cases n with
      | zero => rfl
      | succ n =>
        unfold compAt
        split
        · rename_i xs h2
          rw [h2] at h
          cases h
        · rfl
    show (compAt el cd tg env l whileFuel 0 st).bind _ = none
    rw [go]; rfl
  | _ => rfl
theorem lc_imp {own : List (Str × Nat)} (hvs : ∀ k ∈ own.map (·.2), k ∈ tgIx ctg) (hvs2 : ∀ k ∈ tgIx ctg, k ∈ own.map (·.2)) {σ : L2.St} {H : Hp} {Q : VK} (h : tF X.K o W (.comp cel ctg ci cc) σ H Q) : tLc (tIB X.K o W ci) (gTg X.K ctg) (ttC X.K o cc) (tE X.K o W0 cel) (own.map (·.2)) σ H Q := by
  obtain ⟨c₀, env, c, hH, fr, p⟩ := h
  have hp : FPost X.K (fun cls d H => W cls d σ H) c (bnd (lend ci env c.st (evalE o ci env c.st)) fun src st => compD (fun env st => evalE o cel env st) (cdRun o cc) ctg env src st) Q := by
    have e : evalE o (.comp cel ctg ci cc) env c.st = bnd (lend ci env c.st (evalE o ci env c.st)) fun src st => compD (fun env st => evalE o cel env st) (cdRun o cc) ctg env src st := by
      simp only [evalE]
      congr 1
      funext src st
      cases cc <;> rfl
    rw [e] at p
    exact p
  refine ⟨c₀, env, c, hH, fr, ?_⟩
  have q := fpostI (Rel := Step) (fun d st h => compD_none (o := o) h) hp
  revert q
  generalize lend ci env c.st (evalE o ci env c.st) = m
  intro q
  cases m with
  | none => exact q
  | some r =>
    obtain ⟨r, st⟩ := r
    cases r with
    | ex C ns ds => exact q
    | ok d =>
      refine ⟨q.1, fun c' J e s k ir => ?_⟩
      obtain ⟨c1, src, e1, s1, k1, ir1, p1⟩ := q.2 c' J e s k ir
      rw [← e1]
      intro D hD
      have fr1 := fr.step s1 k1
      show LcOk J (gTg X.K ctg) (ttC X.K o cc) (tE X.K o W0 cel) (own.map (·.2)) σ Q D c1.H
      have fin : ∀ {ds : List DI.D}, ISeq X.K Step c1 J ds → FPost X.K (fun cls d H => W cls d σ H) c1 ((compL (fun env st => evalE o cel env st) (cdRun o cc) ctg env ds c1.st).bind fun (ds, st) => if lineOk ds.length then some (.ok (.lst ds), st) else none) Q → LcOk J (gTg X.K ctg) (ttC X.K o cc) (tE X.K o W0 cel) (own.map (·.2)) σ Q D c1.H := by
        intro ds ir p
        cases hr : compL (fun env st => evalE o cel env st) (cdRun o cc) ctg env ds c1.st with
        | none => rw [hr] at p; exact p.elim
        | some r =>
          obtain ⟨out, st3⟩ := r
          rw [hr] at p
          simp only [Option.bind_some] at p
          by_cases hl : lineOk out.length = true
          · rw [if_pos hl] at p
            exact lc_seq fr1 ir hD hvs hvs2 hr (line _ hl) p
          · rw [if_neg hl] at p
            exact p.elim
      cases src with
      | lst ds => exact fin ir1 p1
      | tup ds => exact fin ir1 p1
      | loc l =>
        obtain ⟨rfl, hl⟩ := ir1
        simp only [compD] at p1
        cases hr : compAt (fun env st => evalE o cel env st) (cdRun o cc) ctg env l whileFuel 0 c1.st with
        | none => rw [hr] at p1; exact p1.elim
        | some r =>
          obtain ⟨out, st3⟩ := r
          rw [hr] at p1
          simp only [Option.bind_some] at p1
          by_cases hl2 : lineOk out.length = true
          · rw [if_pos hl2] at p1
            exact lc_loc fr1 hl hD hvs hvs2 hr (line _ hl2) p1
          · rw [if_neg hl2] at p1
            exact p1.elim
      | _ => exact ir1.elim

theorem f_comp (hc : X.calm = true) (hN : X.N.Nodup) (ok : BlkOk X.N X.env.scope scope own) (hvs : ∀ k ∈ own.map (·.2), k ∈ tgIx ctg) (hvs2 : ∀ k ∈ tgIx ctg, k ∈ own.map (·.2)) (hs : ∀ x, foldedSetIterable it X.env x = pure x)
    (hi : PIB X o W tg it ci) (hg : Blk X scope fun Y => PG Y tg (gTg X.K ctg)) (ht : Blk X scope fun Y => PTs Y ifs (ttC X.K o cc)) (he : Blk X scope fun Y => PEd Y o W0 elt cel) :
    PFd X o W (.ListComp elt [⟨tg, it, ifs, 0⟩] scope pos) (.comp cel ctg ci cc) :=
  peImp (pe_lc (te := tE X.K o W0 cel) (g := gTg X.K ctg) (tt := ttC X.K o cc) hc hN hi ok hg ht (fun s H C cl fp => he s H C cl fp) hs) fun σ H Q h => lc_imp hvs hvs2 h
theorem set_comp {i : Nat} {y : Str} {py spos : Pos} (hc : X.calm = true) (hN : X.N.Nodup) (ok : BlkOk X.N X.env.scope scope own) (hvs : ∀ k ∈ own.map (·.2), k ∈ tgIx ctg) (hvs2 : ∀ k ∈ tgIx ctg, k ∈ own.map (·.2)) (hs : ∀ x, foldedSetIterable it X.env x = pure x)
    (hi : PIB X o W tg it ci) (hg : Blk X scope fun Y => PG Y tg (gTg X.K ctg)) (ht : Blk X scope fun Y => PTs Y ifs (ttC X.K o cc)) (he : Blk X scope fun Y => PEd Y o W0 elt cel) (hy : X.N[i]? = some y) (hyl : X.env.scope.names.lookup y = some .local)
    (hsw : swapsWith (.ListComp elt [⟨tg, it, ifs, 0⟩] scope pos) (some (.Name y py)) spos.line X.env = pure true) : PS X (.Assign [.Name y py] (.ListComp elt [⟨tg, it, ifs, 0⟩] scope pos) spos) (tAsg (tF X.K o W (.comp cel ctg ci cc)) (gName i)) := by
  have h := ps_setLc (te := tE X.K o W0 cel) (g := gTg X.K ctg) (tt := ttC X.K o cc) hc hN hy hyl hsw hi ok hg ht (fun s H C cl fp => he s H C cl fp) hs
  exact ⟨fun pins s σ H D I hw => h.run pins s σ H D I (lc_imp hvs hvs2 hw)⟩

/-! ### two clauses -/
theorem comp2_env {env : DI.Env} {i j : Nat} {d : DI.D} (h : i ≠ j) : (noTg (.pair i j) env).set i (.val d) = (env.set j .no).set i (.val d) := by
  show ((env.set i .no).set j .no).set i (.val d) = _
  rw [List.set_comm _ _ h, List.set_set]
theorem lc2_turn {K : PySem.W.Frag} {c₀ c1 c : Cfg} {env : DI.Env} {σ : L2.St} {o : Orc} {i j : Nat} {cel ci2 : CE} {x : V} {d : DI.D} {D : Addr} {accd ys ds2 : List DI.D} {accv : List V} {st1 st2 : Store} {H H' : Hp} {vs : List Nat} {Nx : Hp → Prop} (h : LcAt K c₀ c1 env σ D accd H c accv) (hij : i ≠ j)
    (hvs : ∀ k ∈ vs, k ∈ [i, j]) (hvs2 : ∀ k ∈ [i, j], k ∈ vs) (hsrc : evalE o ci2 ((env.set j .no).set i (.val d)) c.st = some (.ok (.lst ys), st1))
    (hrun : compL (fun env st => evalE o cel env st) (cdRun o none) (.var j) ((env.set j .no).set i (.val d)) ys st1 = some (ds2, st2)) (hlen : (accd ++ ds2).length ≤ sizeLine)
    (hn : ∀ c2 accv2 H2, c2.st = st2 → LcAt K c₀ c1 env σ D (accd ++ ds2) H2 c2 accv2 → Nx H2) (hy : Yld K c H d x H') :
    gName i x (wipe σ vs) H' fun σ2 H2 => wipe σ2 vs = wipe σ vs ∧ tYes σ2 H2 fun b H3 =>
      if b = true then tIF K o W0 ci2 σ2 H3 fun J1 H4 => LcG J1 (gName j) tYes (tE K o W0 cel) [j] σ2 Nx D H4 else Nx H3 := by
  have main : ∀ c', c'.st = c.st → Step c c' → SOk K c' → c'.H D = none → RV K c' d x → H' = upd c'.H D (.lst accv) → gName i x (wipe σ vs) H' fun σ2 H2 => wipe σ2 vs = wipe σ vs ∧ tYes σ2 H2 fun b H3 =>
      if b = true then tIF K o W0 ci2 σ2 H3 fun J1 H4 => LcG J1 (gName j) tYes (tE K o W0 cel) [j] σ2 Nx D H4 else Nx H3 := by
    intro c' es s' k' nD' rx eH
    rw [eH]
    have fr' := h.fr.step s' k'
    have ew := fr'.er.wiped (tg := .pair i j) (vs := vs) hvs
    have e2 := ew.set (i := i) rx
    rw [comp2_env hij] at e2
    refine ⟨?_, ?_⟩
    · rw [wipe_set (hvs2 i (by simp)), wipe_wipe]
    · simp only [tYes, if_true]
      have fr2 : FR K c₀ c' ((env.set j .no).set i (.val d)) ((wipe σ vs).set i (some x)) := ⟨fr'.ok, e2, fr'.st, fr'.f1, fr'.f2, fr'.f0⟩
      have frh := fr2.hide (ho := .lst accv) nD'
      refine ⟨c₀, _, c'.hide D (.lst accv), rfl, frh, ?_⟩
      show PostI K Keep _ (c'.hide D (.lst accv)) (evalE o ci2 _ c'.st) _
      rw [es, hsrc]
      refine ⟨rfl, fun c2 J1 es2 s2 k2 ir => ?_⟩
      have atD : c2.H D = some (.lst accv) := s2.keep D _ upd_same (fun l hl' => (fr'.ok.fz nD').1 l hl') (fun ps => by intro z; cases z)
      have nx : ∀ u, c2.H D = some u → NotX u := fun u e => by rw [atD] at e; cases e; trivial
      have s3 : Step c' (c2.drop c'.F D) := s2.unhide nD'
      have k3 : SOk K (c2.drop c'.F D) := k2.unhide nx fr'.ok.fa nD' s2
      have n3 : (c2.drop c'.F D).H D = none := by show (if D = D then none else _) = none; rw [if_pos rfl]
      have fr3 := fr2.step s3 k3
      have hi : ISeq K (fun _ c4 => Step (c2.drop c'.F D) c4 ∧ SOk K c4 ∧ c4.H D = none) (c2.drop c'.F D) J1 ys :=
        ⟨fun c4 H4 r e => (show ISeq K Keep c2 J1 ys from ir).go c4 H4 (keep_thr fr'.ok.fa nD' s2 k2 r.1 r.2.1 r.2.2) e, fun c4 H4 r e => (show ISeq K Keep c2 J1 ys from ir).stop c4 H4 (keep_thr fr'.ok.fa nD' s2 k2 r.1 r.2.1 r.2.2) e⟩
      have eH4 : c2.H = upd (c2.drop c'.F D).H D (.lst accv) := by rw [drop_upd, upd_self atD]
      rw [eH4]
      have hacc : RL K (c2.drop c'.F D) accd accv := (h.acc.step s').step s3
      refine lc_seqG (tg := .var j) (cc := none) fr3 hi (fun c4 k s n => ⟨s, k, n⟩) n3 hacc (by intro k hk; exact hk) (by intro k hk; exact hk) (by show compL _ _ _ _ _ c2.st = _; rw [es2]; exact hrun) hlen fun c4 accv4 H4 q e4 => ?_
      have s04 : Step c c4 := (s'.trans s3).trans q.st
      have q' : LcAt K c₀ c1 env σ D (accd ++ ds2) H4 c4 accv4 := ⟨h.fr.step s04 q.fr.ok, h.st.trans s04, q.nD, q.eH, q.acc⟩
      exact hn c4 accv4 H4 e4 q'
  rcases hy with ⟨e, r⟩ | ⟨a, b', va, vb, T, rfl, rfl, hT0, e, ra, rb⟩
  · exact main c rfl Step.refl h.fr.ok h.nD r (by rw [e]; exact h.eH)
  · have nT : T ≠ D := fun z => by
      rw [z, h.eH, upd_same] at hT0
      cases hT0
    have hT1 : c.H T = none := by
      rw [h.eH, upd_ne nT] at hT0
      exact hT0
    have s : Step c { c with H := upd c.H T (.tup [va, vb]) } := Step.fresh hT1
    refine main { c with H := upd c.H T (.tup [va, vb]) } rfl s (h.fr.ok.new hT1) ?_ ?_ ?_
    · show upd c.H T _ D = none
      rw [upd_ne (Ne.symm nT)]
      exact h.nD
    · refine RV.tupI (a := T) (xs := [va, vb]) ?_ upd_same ?_
      · have := h.fr.ok.fz hT1
        exact this
      · simp only [RL]
        exact ⟨RV.step s ra, RV.step s rb, trivial⟩
    · rw [e, h.eH]
      exact upd_comm (Ne.symm nT)
theorem lc2_imp {i j : Nat} {ci2 : CE} {own : List (Str × Nat)} (hij : i ≠ j) (hvs : ∀ k ∈ own.map (·.2), k ∈ [i, j]) (hvs2 : ∀ k ∈ [i, j], k ∈ own.map (·.2)) {σ : L2.St} {H : Hp} {Q : VK} (h : tF X.K o W (.comp2 cel i ci j ci2) σ H Q) : tLc2 (tIB X.K o W ci) (gName i) tYes (tIF X.K o W0 ci2) (gName j) tYes (tE X.K o W0 cel) (own.map (·.2)) [j] σ H Q := by
  obtain ⟨c₀, env, c, hH, fr, p⟩ := h
  simp only [evalE] at p
  refine ⟨c₀, env, c, hH, fr, ?_⟩
  have q := fpostI (Rel := Step) (fun d st h => by
    cases d with
    | lst ds => cases h
    | tup ds => cases h
    | _ => rfl) p
  revert q
  generalize lend ci env c.st (evalE o ci env c.st) = m
  intro q
  cases m with
  | none => exact q
  | some r =>
    obtain ⟨r, st⟩ := r
    cases r with
    | ex C ns ds => exact q
    | ok d =>
      refine ⟨q.1, fun c' J e s k ir => ?_⟩
      obtain ⟨c1, src, e1, s1, k1, ir1, p1⟩ := q.2 c' J e s k ir
      rw [← e1]
      intro D hD
      have fr1 := fr.step s1 k1
      have fin : ∀ {ds : List DI.D}, ISeq X.K Step c1 J ds → FPost X.K (fun cls d H => W cls d σ H) c1 ((comp2L (fun env st => evalE o ci2 env st) (fun env st => evalE o cel env st) i j env ds c1.st).bind fun (ds, st) => if lineOk ds.length then some (.ok (.lst ds), st) else none) Q →
          ∃ W : Nat → Nat → Hp → Prop, (∃ m, W 0 m (upd c1.H D (.lst []))) ∧ ∀ n m H, W n m H →
            (J.stop n H ∧ Q (.ref D) H) ∨ (J.go n H ∧ ∃ Nx : Hp → Prop, (∀ H', Nx H' → ∃ m', m' < m ∧ W (n + 1) m' H') ∧ ∀ x H', J.yld n H x H' → gName i x (wipe σ (own.map (·.2))) H' fun σ2 H2 => wipe σ2 (own.map (·.2)) = wipe σ (own.map (·.2)) ∧ tYes σ2 H2 fun b H3 =>
              if b = true then tIF X.K o W0 ci2 σ2 H3 fun J1 H4 => LcG J1 (gName j) tYes (tE X.K o W0 cel) [j] σ2 Nx D H4 else Nx H3) := by
        intro ds hJ p
        cases hr : comp2L (fun env st => evalE o ci2 env st) (fun env st => evalE o cel env st) i j env ds c1.st with
        | none => rw [hr] at p; exact p.elim
        | some r =>
          obtain ⟨out, st3⟩ := r
          rw [hr] at p
          simp only [Option.bind_some] at p
          by_cases hl : lineOk out.length = true
          · rw [if_pos hl] at p
            have hlen := line _ hl
            refine ⟨fun n m H => ∃ c accd accv rest rds, m = rest.length ∧ n ≤ ds.length ∧ rest = ds.drop n ∧ LcAt X.K c₀ c1 env σ D accd H c accv ∧ comp2L (fun env st => evalE o ci2 env st) (fun env st => evalE o cel env st) i j env rest c.st = some (rds, st3) ∧ out = accd ++ rds,
              ⟨ds.length, c1, [], [], ds, out, rfl, Nat.zero_le _, rfl, ⟨fr1, Step.refl, hD, rfl, by simp only [RL]⟩, hr, rfl⟩, ?_⟩
            rintro n m H ⟨c2, accd, accv, rest, rds, rfl, hi, hrest, h, hr, ho⟩
            cases rest with
            | nil =>
              have e : n = ds.length := by
                have := congrArg List.length hrest
                rw [List.length_nil, List.length_drop] at this
                omega
              subst e
              simp only [comp2L, Option.some.injEq, Prod.mk.injEq] at hr
              obtain ⟨h1, h2⟩ := hr
              subst h1
              rw [List.append_nil] at ho
              subst ho
              refine .inl ⟨hJ.stop c2 H h.st h.ext, ?_⟩
              rw [h.eH]
              exact p c2 (.lst accv) h2 h.st h.fr.ok ⟨accv, rfl, h.acc⟩ D h.nD
            | cons d rest =>
              have hlt : n < ds.length := by
                have := congrArg List.length hrest
                rw [List.length_cons, List.length_drop] at this
                omega
              have hd : ds[n]? = some d := by
                have := congrArg List.head? hrest
                rw [List.head?_drop] at this
                exact this.symm
              have hrest2 : rest = ds.drop (n + 1) := by
                have := congrArg List.tail hrest
                rw [List.tail_drop] at this
                exact this
              obtain ⟨hgo, hy⟩ := hJ.go c2 H h.st h.ext n d hd
              simp only [comp2L] at hr
              split at hr
              · rename_i src2 st1 hsrc
                split at hr
                · rename_i ys
                  split at hr
                  · rename_i ds2 st2 hrun
                    split at hr
                    · rename_i es st4 hrec
                      simp only [Option.some.injEq, Prod.mk.injEq] at hr
                      obtain ⟨h1, h2⟩ := hr
                      subst h1 h2
                      refine .inr ⟨hgo, fun H' => ∃ c accv, LcAt X.K c₀ c1 env σ D (accd ++ ds2) H' c accv ∧ c.st = st2, fun H' ⟨c', accv', q1, q2⟩ =>
                        ⟨rest.length, Nat.lt_succ_self _, c', accd ++ ds2, accv', rest, es, rfl, hlt, hrest2, q1, by rw [q2]; exact hrec, by rw [ho, List.append_assoc]⟩, fun x H' hyl => ?_⟩
                      refine lc2_turn h hij hvs hvs2 hsrc hrun ?_ (fun c2 accv2 H2 e2 q => ⟨c2, accv2, q, e2⟩) (hy x H' hyl)
                      rw [ho, List.length_append, List.length_append] at hlen
                      rw [List.length_append]
                      omega
                    · cases hr
                  · cases hr
                · cases hr
              · cases hr
          · rw [if_neg hl] at p
            exact p.elim
      cases src with
      | lst ds => exact fin ir1 p1
      | tup ds => exact fin ir1 p1
      | loc l => exact p1.elim
      | _ => exact ir1.elim
theorem f_comp2 {it2 tgj : Expr} {px py : Pos} {i j : Nat} {ci2 : CE} {xi xj : Str} (hc : X.calm = true) (hN : X.N.Nodup) (ok : BlkOk X.N X.env.scope scope own) (hij : i ≠ j) (hvs : ∀ k ∈ own.map (·.2), k ∈ [i, j]) (hvs2 : ∀ k ∈ [i, j], k ∈ own.map (·.2)) (hs : ∀ x, foldedSetIterable it X.env x = pure x) (hs2 : ∀ env x, foldedSetIterable it2 env x = pure x)
    (hi : PIB X o W (.Name xi px) it ci) (hi2 : Blk X scope fun Y => PIF Y o W0 (.Name xj py) it2 ci2) (hg : Blk X scope fun Y => PG Y (.Name xi px) (gName i)) (hg2 : Blk X scope fun Y => PG Y (.Name xj py) (gName j)) (he : Blk X scope fun Y => PEd Y o W0 elt cel) :
    PFd X o W (.ListComp elt [⟨.Name xi px, it, [], 0⟩, ⟨.Name xj py, it2, [], 0⟩] scope pos) (.comp2 cel i ci j ci2) :=
  peImp (pe_lc2 (te := tE X.K o W0 cel) (g := gName i) (g1 := gName j) (tt := tYes) (tt1 := tYes) (wi1 := tIF X.K o W0 ci2) (vs1 := [j]) hc hN hi ok (fun k hk => by
    have : k = j := by simpa using hk
    subst this
    exact hvs2 k (by simp)) hg (fun s H C cl fp => pts_nil) (fun s H C cl fp => hi2 s H C cl fp) hg2 (fun s H C cl fp => pts_nil) (fun s H C cl fp => he s H C cl fp) hs hs2) fun σ H Q h => lc2_imp hij hvs hvs2 h
theorem set_comp2 {it2 tgj : Expr} {px py pn spos : Pos} {i j m : Nat} {ci2 : CE} {xi xj y : Str} (hc : X.calm = true) (hN : X.N.Nodup) (ok : BlkOk X.N X.env.scope scope own) (hij : i ≠ j) (hvs : ∀ k ∈ own.map (·.2), k ∈ [i, j]) (hvs2 : ∀ k ∈ [i, j], k ∈ own.map (·.2)) (hs : ∀ x, foldedSetIterable it X.env x = pure x) (hs2 : ∀ env x, foldedSetIterable it2 env x = pure x)
    (hi : PIB X o W (.Name xi px) it ci) (hi2 : Blk X scope fun Y => PIF Y o W0 (.Name xj py) it2 ci2) (hg : Blk X scope fun Y => PG Y (.Name xi px) (gName i)) (hg2 : Blk X scope fun Y => PG Y (.Name xj py) (gName j)) (he : Blk X scope fun Y => PEd Y o W0 elt cel) (hy : X.N[m]? = some y) (hyl : X.env.scope.names.lookup y = some .local)
    (hsw : swapsWith (.ListComp elt [⟨.Name xi px, it, [], 0⟩, ⟨.Name xj py, it2, [], 0⟩] scope pos) (some (.Name y pn)) spos.line X.env = pure true) :
    PS X (.Assign [.Name y pn] (.ListComp elt [⟨.Name xi px, it, [], 0⟩, ⟨.Name xj py, it2, [], 0⟩] scope pos) spos) (tAsg (tF X.K o W (.comp2 cel i ci j ci2)) (gName m)) := by
  have h := ps_setLc2 (te := tE X.K o W0 cel) (g := gName i) (g1 := gName j) (tt := tYes) (tt1 := tYes) (wi1 := tIF X.K o W0 ci2) (vs1 := [j]) hc hN hy hyl hsw hi ok (fun k hk => by
    have : k = j := by simpa using hk
    subst this
    exact hvs2 k (by simp)) hg (fun s H C cl fp => pts_nil) (fun s H C cl fp => hi2 s H C cl fp) hg2 (fun s H C cl fp => pts_nil) (fun s H C cl fp => he s H C cl fp) hs hs2
  exact ⟨fun pins s σ H D I hw => h.run pins s σ H D I (lc2_imp hij hvs hvs2 hw)⟩
end
end DI
/-! DI: statements. -/
set_option maxHeartbeats 1000000
namespace DI
open PySem PySem.Spec PyProof.Rows L2

/-- what is frozen stays, nothing is lost -/
structure Kp (c c' : Cfg) : Prop extends Keep c c' where
  al : ∀ a, c.H a ≠ none → c'.H a ≠ none
section
variable {K : PySem.W.Frag} {c₀ c c' c'' : Cfg} {env env' : DI.Env} {σ σ' : L2.St}
theorem Kp.refl : Kp c c := ⟨Step.refl.kp, fun _ h => h⟩
theorem Step.kpa (s : Step c c') : Kp c c' := ⟨s.kp, s.al⟩
theorem Kp.trans (s : Kp c c') (t : Kp c' c'') : Kp c c'' := ⟨{
  keep := fun a o h f n => t.keep a o (s.keep a o h f n) (f.keep s.toKeep (some_ne h)) n
  rho := fun l h => (t.rho l (Nat.lt_of_lt_of_le h s.len)).trans (s.rho l h)
  len := Nat.le_trans s.len t.len
  new := fun l h1 h2 => by
    by_cases q : l < c'.st.length
    · rw [t.rho l q]; exact s.new l h1 q
    · have z := t.new l (Nat.not_lt.mp q) h2
      cases e : c.H (c''.ρ l) with
      | none => rfl
      | some o => exact absurd z (s.al _ (some_ne e))
  F := fun a h1 h2 => t.F a (s.al a h1) (s.F a h1 h2) }, fun a h => t.al a (s.al a h)⟩
/-- slots -/
theorem FR.setV {i : Nat} {d : D} {x : V} (fr : FR K c₀ c env σ) (r : RV K c d x) : FR K c₀ c (env.set i (.val d)) (σ.set i (some x)) := ⟨fr.ok, fr.er.set r, fr.st, fr.f1, fr.f2, fr.f0⟩
theorem lt_of_set {env : DI.Env} {i : Nat} {s u : Slot} (h : (env.set i s)[i]? = some u) : i < env.length ∧ u = s := by
  have hl : i < env.length := by
    have := (List.getElem?_eq_some_iff.mp h).1
    rw [List.length_set] at this; exact this
  rw [List.getElem?_set_self hl] at h
  cases h
  exact ⟨hl, rfl⟩
theorem FR.setO {i : Nat} {d : D} {p : Addr} {ho : HO} (fr : FR K c₀ c env σ) (hp : c.H p = none) (hr : HoR K c d ho) (hd : ∀ C ns vs, d ≠ .ins C ns vs) : FR K c₀ (c.hide p ho) (env.set i (.own d)) (σ.set i (some (V.ref p))) := by
  have fh := fr.hide (ho := ho) hp
  have n0 : c₀.H p = none := by
    cases e : c₀.H p with
    | none => rfl
    | some u => exact absurd hp (fr.st.al p (some_ne e))
  have hk : Keep c (c.hide p ho) := {
    keep := fun a u h _ _ => by
      show upd c.H p ho a = some u
      rw [upd_ne (ne_of_none h hp)]; exact h
    rho := fun _ _ => rfl
    len := Nat.le_refl _
    new := fun l h1 h2 => absurd h2 (Nat.not_lt.mpr h1)
    F := fun a h1 h2 z => z.elim h2 fun z => h1 (z ▸ hp) }
  have cr : CR K (c.hide p ho) d p := by
    cases d with
    | lst ds => obtain ⟨xs, rfl, l⟩ := hr; exact ⟨xs, upd_same, RL.keep hk _ _ l⟩
    | dic ks vs => obtain ⟨xs, rfl, q, l⟩ := hr; exact ⟨xs, upd_same, q, RL.keep hk _ _ l⟩
    | dit ks vs => obtain ⟨xs, rfl, q, l⟩ := hr; exact ⟨xs, upd_same, q, RL.keep hk _ _ l⟩
    | ins C ns vs => obtain ⟨dx, xs, rfl, q, l⟩ := hr; exact ⟨dx, xs, upd_same, q, RL.keep hk _ _ l⟩
    | _ => exact hr.elim
  -- the others stand elsewhere
  have oth : ∀ {k : Nat} {e : D} {a : Addr}, env[k]? = some (Slot.own e) → σ[k]? = some (some (V.ref a)) → a ≠ p := fun {k e a} h1 h2 z => by
    obtain ⟨a', q1, _, _, q4⟩ := fr.er.own k e h1
    rw [h2] at q1
    cases q1
    exact q4.ne (z ▸ hp)
  refine ⟨fh.ok, ⟨?_, fun k e h => ?_, fun k e h => ?_, fun k j e f a h1 h2 h3 h4 => ?_, fun k C ns vs a h1 h2 => ?_⟩, fh.st, fh.f1, fh.f2, fh.f0⟩
  · rw [List.length_set, List.length_set]; exact fr.er.len
  · by_cases q : i = k
    · subst q; obtain ⟨_, z⟩ := lt_of_set h; cases z
    · rw [List.getElem?_set_ne q] at h ⊢
      exact fh.er.val k e h
  · by_cases q : i = k
    · subst q
      obtain ⟨hl, z⟩ := lt_of_set h
      cases z
      rw [List.getElem?_set_self (by rw [← fr.er.len]; exact hl)]
      exact ⟨p, rfl, .inr rfl, n0, cr⟩
    · rw [List.getElem?_set_ne q] at h ⊢
      exact fh.er.own k e h
  · by_cases q1 : i = k
    · by_cases q2 : i = j
      · exact q1.symm.trans q2
      · subst q1
        obtain ⟨hl, _⟩ := lt_of_set h1
        rw [List.getElem?_set_self (by rw [← fr.er.len]; exact hl)] at h3
        cases h3
        rw [List.getElem?_set_ne q2] at h2 h4
        exact absurd rfl (oth h2 h4)
    · by_cases q2 : i = j
      · subst q2
        obtain ⟨hl, _⟩ := lt_of_set h2
        rw [List.getElem?_set_self (by rw [← fr.er.len]; exact hl)] at h4
        cases h4
        rw [List.getElem?_set_ne q1] at h1 h3
        exact absurd rfl (oth h1 h3)
      · rw [List.getElem?_set_ne q1] at h1 h3
        rw [List.getElem?_set_ne q2] at h2 h4
        exact fh.er.apart k j e f a h1 h2 h3 h4
  · by_cases q : i = k
    · subst q; obtain ⟨_, z⟩ := lt_of_set h1; exact absurd (Slot.own.inj z).symm (hd C ns vs)
    · rw [List.getElem?_set_ne q] at h1 h2
      exact fh.er.ins k C ns vs a h1 h2
theorem Kp.hide {p : Addr} {ho : HO} (hp : c.H p = none) : Kp c (c.hide p ho) := ⟨{
    keep := fun a u h _ _ => by
      show upd c.H p ho a = some u
      rw [upd_ne (ne_of_none h hp)]; exact h
    rho := fun _ _ => rfl
    len := Nat.le_refl _
    new := fun l h1 h2 => absurd h2 (Nat.not_lt.mpr h1)
    F := fun a h1 h2 z => z.elim h2 fun z => h1 (z ▸ hp) }, fun a h => by
    show upd c.H p ho a ≠ none
    by_cases e : a = p
    · subst e; rw [upd_same]; exact fun z => by cases z
    · rw [upd_ne e]; exact h⟩
/-- c with the object at a written -/
def Cfg.put (c : Cfg) (a : Addr) (ho : HO) : Cfg := { c with H := upd c.H a ho }
theorem CR.notX {d : D} {a : Addr} (h : CR K c d a) : ∀ o, c.H a = some o → NotX o := fun o e => by
  cases d with
  | tup ds => obtain ⟨xs, r, l⟩ := h; rw [r] at e; cases e; trivial
  | lst ds => obtain ⟨xs, r, l⟩ := h; rw [r] at e; cases e; trivial
  | dic ks vs => obtain ⟨xs, r, l⟩ := h; rw [r] at e; cases e; trivial
  | dit ks vs => obtain ⟨xs, r, l⟩ := h; rw [r] at e; cases e; trivial
  | ins C ns vs => obtain ⟨dx, xs, r, l⟩ := h; rw [r] at e; cases e; trivial
  | _ => exact h.elim
theorem Kp.put {a : Addr} {ho : HO} (hf : c.F a) : Kp c (c.put a ho) := ⟨{
    keep := fun b u h f _ => by
      show upd c.H a ho b = some u
      rw [upd_ne (show b ≠ a from fun e => f.2 (by rw [e]; exact hf))]; exact h
    rho := fun _ _ => rfl
    len := Nat.le_refl _
    new := fun l h1 h2 => absurd h2 (Nat.not_lt.mpr h1)
    F := fun b _ h2 z => h2 z }, fun b h => by
    show upd c.H a ho b ≠ none
    by_cases e : b = a
    · subst e; rw [upd_same]; exact fun z => by cases z
    · rw [upd_ne e]; exact h⟩
theorem HoR.cr' {d : D} {ho : HO} {p : Addr} (h : HoR K c d ho) (s : Keep c c') (e : c'.H p = some ho) : CR K c' d p := by
  cases d with
  | lst ds => obtain ⟨xs, rfl, l⟩ := h; exact ⟨xs, e, RL.keep s _ _ l⟩
  | dic ks vs => obtain ⟨xs, rfl, q, l⟩ := h; exact ⟨xs, e, q, RL.keep s _ _ l⟩
  | dit ks vs => obtain ⟨xs, rfl, q, l⟩ := h; exact ⟨xs, e, q, RL.keep s _ _ l⟩
  | ins C ns vs => obtain ⟨dx, xs, rfl, q, l⟩ := h; exact ⟨dx, xs, e, q, RL.keep s _ _ l⟩
  | _ => exact h.elim
/-- an own object written -/
theorem FR.mut {i : Nat} {d d' : D} {a : Addr} {ho : HO} (fr : FR K c₀ c env σ) (hi : env[i]? = some (Slot.own d)) (hs : σ[i]? = some (some (V.ref a))) (hr : HoR K c d' ho) (hd : (∀ C ns vs, d' ≠ .ins C ns vs) ∨ ∃ C ns vs, d = .ins C ns vs := by first | exact .inl (fun _ _ _ z => by cases z) | exact .inr ⟨_, _, _, rfl⟩) : FR K c₀ (c.put a ho) (env.set i (.own d')) σ := by
  obtain ⟨a', e1, hf, h0, hc⟩ := fr.er.own i d hi
  rw [hs] at e1
  cases e1
  have kp : Kp c (c.put a ho) := Kp.put hf
  have hl : i < env.length := (List.getElem?_eq_some_iff.mp hi).1
  refine ⟨⟨tabs_upd fr.ok.tabs hc.notX, fr.ok.inj, fr.ok.nf, fun b h => kp.al b (fr.ok.fa b h), fun l e h => ?_⟩, ⟨?_, fun k e h => ?_, fun k e h => ?_, fun k j e f b h1 h2 h3 h4 => ?_, fun k C ns vs b h1 h2 => ?_⟩, ?_, fr.f1, fr.f2, fr.f0⟩
  · obtain ⟨r, z⟩ := fr.ok.cell l e h
    refine ⟨r.keep kp.toKeep fun u q => ?_, z⟩
    show upd c.H a ho (c.ρ l) = some u
    rw [upd_ne (show c.ρ l ≠ a from fun e => fr.ok.nf l (List.getElem?_eq_some_iff.mp h).1 (by rw [e]; exact hf))]; exact q
  · rw [List.length_set]; exact fr.er.len
  · by_cases q : i = k
    · subst q; obtain ⟨_, z⟩ := lt_of_set h; cases z
    · rw [List.getElem?_set_ne q] at h
      obtain ⟨v, e, r⟩ := fr.er.val k _ h
      exact ⟨v, e, RV.keep kp.toKeep _ _ r⟩
  · by_cases q : i = k
    · subst q
      obtain ⟨_, z⟩ := lt_of_set h
      cases z
      exact ⟨a, hs, hf, h0, hr.cr' kp.toKeep upd_same⟩
    · rw [List.getElem?_set_ne q] at h
      obtain ⟨b, e1, e2, e3, e4⟩ := fr.er.own k _ h
      refine ⟨b, e1, e2, e3, e4.keep kp.toKeep fun u qq => ?_⟩
      show upd c.H a ho b = some u
      rw [upd_ne (show b ≠ a from fun z => q (fr.er.apart i k _ _ a hi h hs (by rw [← z]; exact e1)))]; exact qq
  · have own_of : ∀ {k : Nat} {e : D}, (env.set i (Slot.own d'))[k]? = some (Slot.own e) → ∃ e', env[k]? = some (Slot.own e') := fun {k e} h => by
      by_cases q : i = k
      · subst q; exact ⟨d, hi⟩
      · rw [List.getElem?_set_ne q] at h; exact ⟨e, h⟩
    obtain ⟨e', g1⟩ := own_of h1
    obtain ⟨f', g2⟩ := own_of h2
    exact fr.er.apart k j e' f' b g1 g2 h3 h4
  · by_cases q : i = k
    · subst q
      obtain ⟨_, z⟩ := lt_of_set h1
      rcases hd with hd | ⟨C', ns', vs', rfl⟩
      · exact absurd (Slot.own.inj z).symm (hd C ns vs)
      · exact fr.er.ins i C' ns' vs' b hi h2
    · rw [List.getElem?_set_ne q] at h1
      exact fr.er.ins k C ns vs b h1 h2
  · exact ⟨fun b u h n t => by
        show upd c.H a ho b = some u
        rw [upd_ne (fun e => by rw [e, h0] at h; cases h)]
        exact fr.st.keep b u h n t, fr.st.rho, fr.st.len, fr.st.new, fun b h => kp.al b (fr.st.al b h)⟩
/-- an own object given away -/
def Cfg.frz (c : Cfg) (a : Addr) : Cfg := { c with F := fun b => c.F b ∧ b ≠ a }
theorem Kp.frz {a : Addr} : Kp c (c.frz a) := ⟨⟨fun _ _ h _ _ => h, fun _ _ => rfl, Nat.le_refl _, fun l h1 h2 => absurd h2 (Nat.not_lt.mpr h1), fun b _ h z => h z.1⟩, fun _ h => h⟩
theorem CR.rv {d : D} {a : Addr} (h : CR K c d a) (f : Fz c a) : RV K c d (.ref a) := by
  cases d with
  | tup ds => obtain ⟨xs, r, l⟩ := h; simp only [RV]; exact ⟨a, xs, rfl, f, r, l⟩
  | lst ds => obtain ⟨xs, r, l⟩ := h; simp only [RV]; exact ⟨a, xs, rfl, f, .inl r, l⟩
  | dic ks vs => obtain ⟨xs, r, q, l⟩ := h; simp only [RV]; exact ⟨a, xs, rfl, f, r, q, l⟩
  | dit ks vs => obtain ⟨xs, r, q, l⟩ := h; simp only [RV]; exact ⟨a, xs, rfl, f, r, q, l⟩
  | ins C ns vs => obtain ⟨dx, xs, r, q, l⟩ := h; simp only [RV]; exact ⟨a, dx, xs, rfl, f, r, q, l⟩
  | _ => exact h.elim
theorem SOk.frz {a : Addr} (k : SOk K c) : SOk K (c.frz a) := ⟨k.tabs, k.inj, fun l h z => k.nf l h z.1, fun b z => k.fa b z.1, fun l e h => ⟨(k.cell l e h).1.keep Kp.frz.toKeep fun _ q => q, (k.cell l e h).2⟩⟩
theorem FR.frz {i : Nat} {d : D} {a : Addr} (fr : FR K c₀ c env σ) (hi : env[i]? = some (Slot.own d)) (hs : σ[i]? = some (some (V.ref a))) : FR K c₀ (c.frz a) (env.set i (.val d)) σ := by
  obtain ⟨a', e1, hf, h0, hc⟩ := fr.er.own i d hi
  rw [hs] at e1
  cases e1
  have kp : Kp c (c.frz a) := Kp.frz
  have fz : Fz (c.frz a) a := ⟨fr.ok.nr hf, fun z => z.2 rfl⟩
  refine ⟨fr.ok.frz, ⟨?_, fun k e h => ?_, fun k e h => ?_, fun k j e f b h1 h2 h3 h4 => ?_, fun k C ns vs b h1 h2 => ?_⟩, ⟨fr.st.keep, fr.st.rho, fr.st.len, fr.st.new, fr.st.al⟩, fun b h => ⟨fr.f1 b h, fun e => fr.f0 b h (e ▸ h0)⟩, fun b h => fr.f2 b h.1, fr.f0⟩
  · rw [List.length_set]; exact fr.er.len
  · by_cases q : i = k
    · subst q
      obtain ⟨_, z⟩ := lt_of_set h
      cases z
      exact ⟨_, hs, (CR.keep kp.toKeep (fun _ q => q) hc).rv fz⟩
    · rw [List.getElem?_set_ne q] at h
      obtain ⟨v, e, r⟩ := fr.er.val k _ h
      exact ⟨v, e, RV.keep kp.toKeep _ _ r⟩
  · by_cases q : i = k
    · subst q; obtain ⟨_, z⟩ := lt_of_set h; cases z
    · rw [List.getElem?_set_ne q] at h
      obtain ⟨b, e1, e2, e3, e4⟩ := fr.er.own k _ h
      exact ⟨b, e1, ⟨e2, fun z => q (fr.er.apart i k _ _ a hi h hs (z ▸ e1))⟩, e3, e4.keep kp.toKeep fun _ q => q⟩
  · have ne : ∀ {k : Nat} {e : D}, (env.set i (Slot.val d))[k]? = some (Slot.own e) → i ≠ k := fun {k e} h q => by
      subst q; obtain ⟨_, z⟩ := lt_of_set h; cases z
    have n1 := ne h1
    have n2 := ne h2
    rw [List.getElem?_set_ne n1] at h1
    rw [List.getElem?_set_ne n2] at h2
    exact fr.er.apart k j e f b h1 h2 h3 h4
  · by_cases q : i = k
    · subst q; obtain ⟨_, z⟩ := lt_of_set h1; cases z
    · rw [List.getElem?_set_ne q] at h1
      exact fr.er.ins k C ns vs b h1 h2
end
end DI
/-! DI: statements, part 2: readings and the plain ones. -/
set_option maxHeartbeats 1000000
namespace DI
open PySem PySem.Spec PyProof.Rows L2

def EndS (K : PySem.W.Frag) (W : WX) (D : Ends) (fl : Fl) (c : Cfg) (σ : L2.St) : Prop := match fl with
  | .nxt => D.nx σ c.H
  | .ret d => ∀ v, RV K c d v → D.rt v c.H
  | .brk => D.bk σ c.H
  | .cnt => D.ct σ c.H
  | .ex C ns ds => ∀ cls x, XR K c C ns ds cls x → W cls x σ c.H
def PostS (K : PySem.W.Frag) (W : WX) (c₀ c : Cfg) (m : ResS) (D : Ends) : Prop := match m with
  | none => False
  | some (fl, env, st) => ∀ c' σ, c'.st = st → Kp c c' → FR K c₀ c' env σ → EndS K W D fl c' σ
def tS (K : PySem.W.Frag) (o : Orc) (W : WX) (cs : List CS) : TS := fun D σ H => ∃ c₀ env c, c.H = H ∧ FR K c₀ c env σ ∧ PostS K W c₀ c (execL o cs env c.st) D
section
variable {K : PySem.W.Frag} {W : WX} {c₀ c c' : Cfg} {env : DI.Env} {σ : L2.St} {m : Res} {ml : ResL} {ms : ResS} {D D' : Ends} {R : Cfg → DI.D → V → Prop}
theorem PostS.at (p : PostS K W c₀ c ms D) (s : Kp c c') : PostS K W c₀ c' ms D := by
  cases ms with
  | none => exact p
  | some r =>
    obtain ⟨fl, env, st⟩ := r
    exact fun c2 σ e t fr => p c2 σ e (s.trans t) fr
theorem PostS.done {fl : Fl} (p : PostS K W c₀ c (some (fl, env, c.st)) D) (fr : FR K c₀ c env σ) : EndS K W D fl c σ := p c σ rfl Kp.refl fr
theorem postS_b {k : DI.D → Store → ResS} (fr : FR K c₀ c env σ) (p : PostS K W c₀ c (bS env m k) D) : Post K R (fun cls d H => W cls d σ H) c m fun v H => ∃ c1 d, c1.H = H ∧ FR K c₀ c1 env σ ∧ R c1 d v ∧ PostS K W c₀ c1 (k d c1.st) D ∧ Step c c1 := by
  cases m with
  | none => exact p
  | some r =>
    obtain ⟨r, st⟩ := r
    cases r with
    | ok d => exact fun c' v e s k r => ⟨c', d, rfl, fr.step s k, r, by subst e; exact PostS.at p s.kpa, s⟩
    | ex C ns ds => exact fun c' cls x e s k r => p c' σ e s.kpa (fr.step s k) cls x r
theorem postS_bL {k : List DI.D → Store → ResS} (fr : FR K c₀ c env σ) (p : PostS K W c₀ c (bSL env ml k) D) : PostL K (fun cls d H => W cls d σ H) c ml fun v H => ∃ c1 d, c1.H = H ∧ FR K c₀ c1 env σ ∧ RL K c1 d v ∧ PostS K W c₀ c1 (k d c1.st) D ∧ Step c c1 := by
  cases ml with
  | none => exact p
  | some r =>
    obtain ⟨r, st⟩ := r
    cases r with
    | ok d => exact fun c' v e s k r => ⟨c', d, rfl, fr.step s k, r, by subst e; exact PostS.at p s.kpa, s⟩
    | ex C ns ds => exact fun c' cls x e s k r => p c' σ e s.kpa (fr.step s k) cls x r
theorem postS_f {k : DI.D → Store → ResS} (fr : FR K c₀ c env σ) (p : PostS K W c₀ c (bS env m k) D) : FPost K (fun cls d H => W cls d σ H) c m fun v H => ∃ c1 d p ho, v = .ref p ∧ H = upd c1.H p ho ∧ c1.H p = none ∧ HoR K c1 d ho ∧ FR K c₀ c1 env σ ∧ PostS K W c₀ c1 (k d c1.st) D := by
  cases m with
  | none => exact p
  | some r =>
    obtain ⟨r, st⟩ := r
    cases r with
    | ok d => exact fun c1 ho e s k h q hq => ⟨c1, d, q, ho, rfl, rfl, hq, h, fr.step s k, by subst e; exact PostS.at p s.kpa⟩
    | ex C ns ds => exact fun c' cls x e s k r => p c' σ e s.kpa (fr.step s k) cls x r
theorem execL_one {o : Orc} {s : CS} {env : DI.Env} {st : Store} : execL o [s] env st = execS o s env st := by
  simp only [execL]
  split
  · rename_i h
    exact h.symm
  · rename_i h
    rfl
theorem execL_app {o : Orc} {a b : List CS} {env : DI.Env} {st : Store} : execL o (a ++ b) env st = match execL o a env st with
    | some (.nxt, env, st) => execL o b env st
    | r => r := by
  induction a generalizing env st with
  | nil => rfl
  | cons s ss ih =>
    simp only [List.cons_append, execL]
    cases h : execS o s env st with
    | none => rfl
    | some r =>
      obtain ⟨fl, e, s'⟩ := r
      cases fl <;> first | exact ih | rfl
/-- statements in a row -/
theorem tS_app {o : Orc} {a b : List CS} {H : Hp} (h : tS K o W (a ++ b) D σ H) : tSeq (tS K o W a) (tS K o W b) D σ H := by
  obtain ⟨c₀, env, c, hH, fr, p⟩ := h
  refine ⟨c₀, env, c, hH, fr, ?_⟩
  rw [execL_app] at p
  revert p
  generalize execL o a env c.st = r
  intro p
  cases r with
  | none => exact p
  | some r =>
    obtain ⟨fl, e, s'⟩ := r
    intro c' σ' es kp fr'
    cases fl with
    | nxt =>
      refine ⟨c₀, e, c', rfl, fr', ?_⟩
      subst es
      exact PostS.at p kp
    | ret d => exact p c' σ' es kp fr'
    | brk => exact p c' σ' es kp fr'
    | cnt => exact p c' σ' es kp fr'
    | ex C ns ds => exact p c' σ' es kp fr'
theorem tS_frz {o : Orc} {i : Nat} {cs : List CS} {H : Hp} (h : tS K o W (.frz i :: cs) D σ H) : tS K o W cs D σ H := by
  obtain ⟨c₀, env, c, hH, fr, p⟩ := h
  simp only [execL, execS] at p
  cases hi : env[i]? with
  | none => rw [hi] at p; exact ⟨c₀, env, c, hH, fr, p⟩
  | some s =>
    rw [hi] at p
    cases s with
    | no => exact ⟨c₀, env, c, hH, fr, p⟩
    | val d => exact ⟨c₀, env, c, hH, fr, p⟩
    | own d =>
      obtain ⟨a, e1, _⟩ := fr.er.own i d hi
      exact ⟨c₀, _, c.frz a, hH, fr.frz hi e1, PostS.at p Kp.frz⟩
theorem tS_frzs {o : Orc} {cs : List CS} {H : Hp} : ∀ {is : List Nat}, tS K o W (is.map .frz ++ cs) D σ H → tS K o W cs D σ H
  | [], h => h
  | i :: is, h => tS_frzs (is := is) (tS_frz h)
end
section
variable {X : Cx} {W : WX} {o : Orc} {st : Stmt} {sts : List Stmt} {e a b : Expr} {ce ca cb : CE} {cs cs2 : List CS} {s : CS} {pos p' : Pos} {x : Str} {i : Nat}
abbrev PSd (X : Cx) (o : Orc) (W : WX) (st : Stmt) (cs : List CS) : Prop := PS X st (tS X.K o W cs)
abbrev PSsd (X : Cx) (o : Orc) (W : WX) (st : List Stmt) (cs : List CS) : Prop := PSs X st (tS X.K o W cs)
theorem psImp {t t' : TS} (h : PS X st t) (k : ∀ D σ H, t' D σ H → t D σ H) : PS X st t' := ⟨fun pins s σ H D I hw => h.run pins s σ H D I (k D σ H hw)⟩
theorem pssImp {t t' : TS} (h : PSs X sts t) (k : ∀ D σ H, t' D σ H → t D σ H) : PSs X sts t' := ⟨fun pins s σ H D I hw => h.run pins s σ H D I (k D σ H hw)⟩
theorem sd_frz {is : List Nat} (h : PSd X o W st cs) : PSd X o W st (is.map .frz ++ cs) := psImp h fun D σ H q => tS_frzs q
theorem sds_nil : PSsd X o W [] [] := pssImp pss_nil fun D σ H ⟨c₀, env, c, hH, fr, p⟩ => by
  subst hH
  simp only [execL] at p
  exact p.done fr
theorem sds_cons (h : PSd X o W st cs) (h2 : PSsd X o W sts cs2) : PSsd X o W (st :: sts) (cs ++ cs2) := pssImp (pss_cons h h2) fun D σ H q => tS_app q
/-- one statement's reading -/
theorem sd_one {t : TS} (h : PS X st t) (k : ∀ D σ c₀ env c, FR X.K c₀ c env σ → PostS X.K W c₀ c (execS o s env c.st) D → t D σ c.H) : PSd X o W st [s] := psImp h fun D σ H ⟨c₀, env, c, hH, fr, p⟩ => by
  subst hH
  rw [execL_one] at p
  exact k D σ c₀ env c fr p
theorem sd_ret (he : PEd X o W e ce) : PSd X o W (.Return (some e) pos) [.ret ce] := sd_one (ps_ret he) fun D σ c₀ env c fr p => by
  simp only [execS] at p
  exact ⟨c₀, env, c, rfl, fr, (postS_b (R := RV X.K) fr p).mono fun v H ⟨c1, d, e1, fr1, r1, p1, _⟩ => by subst e1; exact p1.done fr1 v r1⟩
theorem sd_retN : PSd X o W (.Return none pos) [.retN] := sd_one ps_retN fun D σ c₀ env c fr p => by
  simp only [execS] at p
  exact p.done fr .non (by simp only [RV])
theorem sd_brk : PSd X o W (.Break pos) [.brk] := sd_one ps_break fun D σ c₀ env c fr p => by
  simp only [execS] at p
  exact p.done fr
theorem sd_cnt : PSd X o W (.Continue pos) [.cnt] := sd_one ps_continue fun D σ c₀ env c fr p => by
  simp only [execS] at p
  exact p.done fr
theorem sd_pass : PSd X o W (.Pass pos) [.pass] := sd_one ps_pass fun D σ c₀ env c fr p => by
  simp only [execS] at p
  exact p.done fr
/-- a name's store: t the expression's reading -/
abbrev PAt (X : Cx) (x : Str) (i : Nat) (e : Expr) (p' pos : Pos) (te : TE) : Prop := PS X (.Assign [.Name x p'] e pos) (tAsg te (gName i))
theorem sd_asg (h : PAt X x i e p' pos (tE X.K o W ce)) : PSd X o W (.Assign [.Name x p'] e pos) [.asg i false ce] := sd_one h fun D σ c₀ env c fr p => by
  simp only [execS] at p
  refine ⟨c₀, env, c, rfl, fr, (postS_b (R := RV X.K) fr p).mono fun v H ⟨c1, d, e1, fr1, r1, p1, _⟩ => ?_⟩
  subst e1
  simp only [put?, Bool.false_eq_true, if_false, Option.map_some] at p1
  exact p1.done (fr1.setV r1)
theorem own_ni {e : CE} {d : DI.D} (h : (fresh e && ownable d) = true) : ∀ C ns vs, d ≠ .ins C ns vs := fun C ns vs z => by
  subst z
  simp [ownable] at h
theorem sd_asgO (h : PAt X x i e p' pos (tF X.K o W ce)) : PSd X o W (.Assign [.Name x p'] e pos) [.asg i true ce] := sd_one h fun D σ c₀ env c fr p => by
  simp only [execS] at p
  refine ⟨c₀, env, c, rfl, fr, ?_⟩
  have q := postS_f fr p
  revert q
  generalize evalE o ce env c.st = m
  intro q
  cases m with
  | none => exact q
  | some r =>
    obtain ⟨r, st⟩ := r
    cases r with
    | ex C ns ds => exact q
    | ok d =>
      intro c1 ho e s k hr p hp
      obtain ⟨c2, d2, p2, ho2, ev, eH, hn, h2, fr2, p3⟩ := q c1 ho e s k hr p hp
      cases ev
      rw [eH]
      simp only [put?, if_true] at p3
      split at p3
      · rename_i hfo
        simp only [Option.map_some] at p3
        exact (PostS.at p3 (Kp.hide (ho := ho2) hn)).done (fr2.setO hn h2 (own_ni hfo))
      · exact p3.elim
theorem sd_if {ct : CE} {t : Expr} {ba bb : List Stmt} {la lb : List CS} (ht : PTd X o W t ct) (ha : PSsd X o W ba la) (hb : PSsd X o W bb lb) : PSd X o W (.If t ba bb pos) [.ifs ct la lb] := sd_one (ps_if ht ha hb) fun D σ c₀ env c fr p => by
  simp only [execS] at p
  refine ⟨c₀, env, c, rfl, fr, (postS_b (R := RV X.K) fr p).mono fun v H ⟨c1, d, e1, fr1, r1, p1, _⟩ => ?_⟩
  cases d with
  | bl b =>
    refine ⟨b, (RB.ofV r1).bl, ?_⟩
    cases b with
    | true => rw [if_pos rfl]; exact ⟨c₀, env, c1, e1, fr1, p1⟩
    | false => rw [if_neg Bool.false_ne_true]; exact ⟨c₀, env, c1, e1, fr1, p1⟩
  | _ => exact p1.elim
theorem sd_expr (he : PEd X o W e ce) (hs : swapsWith e none pos.line X.env = pure false) : PSd X o W (.Expr e pos) [.expr ce] := sd_one (ps_expr he hs) fun D σ c₀ env c fr p => by
  simp only [execS] at p
  exact ⟨c₀, env, c, rfl, fr, (postS_b (R := RV X.K) fr p).mono fun v H ⟨c1, d, e1, fr1, r1, p1, _⟩ => by subst e1; exact p1.done fr1⟩
/-! ### while -/
theorem sd_while {t : Expr} {ct : CE} {bd : List Stmt} {lb : List CS} (hp : PassesOwn (model X.prog X.w) X.A X.env X.xe) (ht : PTd X o W t ct) (hb : PSsd X o W bd lb) : PSd X o W (.While t bd [] pos) [.whl ct lb] := sd_one (ps_while hp ht hb) fun D σ c₀ env c fr p => by
  simp only [execS] at p
  refine ⟨fun m σ H => ∃ env c, c.H = H ∧ FR X.K c₀ c env σ ∧ PostS X.K W c₀ c (whileL (fun env st => evalE o ct env st) (fun env st => execL o lb env st) m env c.st) D, ⟨whileFuel, env, c, rfl, fr, p⟩, ?_⟩
  rintro m σ H ⟨env, c, rfl, fr, p⟩
  cases m with
  | zero => exact p.elim
  | succ m =>
    simp only [whileL] at p
    refine ⟨c₀, env, c, rfl, fr, (postS_b (R := RV X.K) fr p).mono fun v H ⟨c1, d, e1, fr1, r1, p1, _⟩ => ?_⟩
    cases d with
    | bl b =>
      refine ⟨b, (RB.ofV r1).bl, ?_⟩
      cases b with
      | true =>
        rw [if_pos rfl]
        refine ⟨fun σ' H' => ∃ env c, c.H = H' ∧ FR X.K c₀ c env σ' ∧ PostS X.K W c₀ c (whileL (fun env st => evalE o ct env st) (fun env st => execL o lb env st) m env c.st) D, fun σ' H' q => ⟨m, Nat.lt_succ_self _, q⟩, c₀, env, c1, e1, fr1, ?_⟩
        revert p1
        generalize execL o lb env c1.st = r
        intro p1
        cases r with
        | none => exact p1
        | some r =>
          obtain ⟨fl, e, s'⟩ := r
          intro c2 σ2 es kp fr2
          cases fl with
          | nxt => subst es; exact ⟨e, c2, rfl, fr2, PostS.at p1 kp⟩
          | cnt => subst es; exact ⟨e, c2, rfl, fr2, PostS.at p1 kp⟩
          | brk => exact p1 c2 σ2 es kp fr2
          | ret d => exact p1 c2 σ2 es kp fr2
          | ex C ns ds => exact p1 c2 σ2 es kp fr2
      | false =>
        rw [if_neg Bool.false_ne_true]
        subst e1
        exact p1.done fr1
    | _ => exact p1.elim
end
end DI
/-! DI: statements, part 3: for; what own things take. -/
set_option maxHeartbeats 1000000
namespace DI
open PySem PySem.Spec PyProof.Rows L2
section
variable {K : PySem.W.Frag} {W : WX} {c₀ c c' c1 : Cfg} {env : DI.Env} {σ : L2.St} {D : Ends}
theorem g_tgS {tg : Tg} {d : DI.D} {x : V} {env1 : DI.Env} {Q : L2.St → Hp → Prop} (fr : FR K c₀ c env σ) (r : RV K c d x) (ht : tgSet tg d env = some env1) (h : ∀ σ2, FR K c₀ c env1 σ2 → Q σ2 c.H) : gTg K tg x σ c.H Q := by
  cases tg with
  | var i =>
    simp only [tgSet, Option.some.injEq] at ht
    subst ht
    exact h _ (fr.setV r)
  | pair i j =>
    cases d with
    | tup ds =>
      match ds, ht, r with
      | [a, b], ht, r =>
        simp only [tgSet, Option.some.injEq] at ht
        subst ht
        obtain ⟨p, xs, rfl, _, q, l⟩ := (RB.ofV r).tup
        match xs, l, q with
        | [va, vb], l, q =>
          simp only [RL] at l
          exact ⟨p, [va, vb], rfl, .inl (.inl q), rfl, va, [vb], rfl, vb, [], rfl, rfl, h _ ((fr.setV l.1).setV l.2.1)⟩
        | [], l, _ => simp only [RL] at l
        | [_], l, _ => simp only [RL] at l; exact l.2.elim
        | _ :: _ :: _ :: _, l, _ => simp only [RL] at l; exact l.2.2.elim
      | [], ht, _ => simp [tgSet] at ht
      | [_], ht, _ => simp [tgSet] at ht
      | _ :: _ :: _ :: _, ht, _ => simp [tgSet] at ht
    | _ => simp [tgSet] at ht
/-- the loop's promise -/
def ForOk (K : PySem.W.Frag) (J : It) (tg : Tg) (tb : TS) (D : Ends) (σ : L2.St) (H : Hp) : Prop := ∃ W : Nat → Nat → L2.St → Hp → Prop, (∃ m, W 0 m σ H) ∧ ∀ i m σ H, W i m σ H →
  (J.stop i H ∧ D.nx σ H) ∨ (J.go i H ∧ ∃ N : L2.St → Hp → Prop, (∀ σ' H', N σ' H' → ∃ m', m' < m ∧ W (i + 1) m' σ' H') ∧ ∀ x H', J.yld i H x H' → gTg K tg x σ H' fun σ2 H2 => tb { D with nx := N, ct := N, bk := D.nx } σ2 H2)
/-- behind the target's store the body runs -/
theorem for_body {o : Orc} {lb : List CS} {tg : Tg} {d : DI.D} {x : V} {env1 : DI.Env} {H' : Hp} {N : L2.St → Hp → Prop} {rest : DI.Env → Store → ResS} (fr : FR K c₀ c env σ) (hy : Yld K c c.H d x H') (ht : tgSet tg d env = some env1)
    (p : PostS K W c₀ c (match execL o lb env1 c.st with
          | some (.nxt, e, s) => rest e s
          | some (.cnt, e, s) => rest e s
          | some (.brk, e, s) => some (.nxt, e, s)
          | r => r) D) (hN : ∀ e c2 σ2, FR K c₀ c2 e σ2 → Kp c c2 → PostS K W c₀ c2 (rest e c2.st) D → N σ2 c2.H) :
    gTg K tg x σ H' fun σ2 H2 => tS K o W lb { D with nx := N, ct := N, bk := D.nx } σ2 H2 := by
  have main : ∀ c', c'.st = c.st → Step c c' → SOk K c' → RV K c' d x → H' = c'.H → gTg K tg x σ H' fun σ2 H2 => tS K o W lb { D with nx := N, ct := N, bk := D.nx } σ2 H2 := by
    intro c' es s k r eH
    rw [eH]
    have fr' := fr.step s k
    refine g_tgS fr' r ht fun σ2 fr2 => ⟨c₀, env1, c', rfl, fr2, ?_⟩
    have p' := PostS.at p s.kpa
    rw [← es] at p'
    revert p'
    generalize execL o lb env1 c'.st = r
    intro p'
    cases r with
    | none => exact p'
    | some r =>
      obtain ⟨fl, e, s'⟩ := r
      intro c2 σ3 es2 kp fr3
      cases fl with
      | nxt => subst es2; exact hN e c2 σ3 fr3 (s.kpa.trans kp) (PostS.at p' kp)
      | cnt => subst es2; exact hN e c2 σ3 fr3 (s.kpa.trans kp) (PostS.at p' kp)
      | brk => exact p' c2 σ3 es2 kp fr3
      | ret d => exact p' c2 σ3 es2 kp fr3
      | ex C ns ds => exact p' c2 σ3 es2 kp fr3
  rcases hy with ⟨e, r⟩ | ⟨a, b', va, vb, T, rfl, rfl, hT0, e, ra, rb⟩
  · exact main c rfl Step.refl fr.ok r e
  · have s : Step c { c with H := upd c.H T (.tup [va, vb]) } := Step.fresh hT0
    refine main { c with H := upd c.H T (.tup [va, vb]) } rfl s (fr.ok.new hT0) ?_ e
    refine RV.tupI (a := T) (xs := [va, vb]) (fr.ok.fz hT0) upd_same ?_
    simp only [RL]
    exact ⟨RV.step s ra, RV.step s rb, trivial⟩
theorem for_seq {o : Orc} {lb : List CS} {tg : Tg} {ds : List DI.D} {J : It} (fr : FR K c₀ c1 env σ) (hJ : ISeq K Keep c1 J ds) (p : PostS K W c₀ c1 (forL tg (fun env st => execL o lb env st) ds env c1.st) D) : ForOk K J tg (tS K o W lb) D σ c1.H := by
  refine ⟨fun i m σ H => ∃ env c rest, m = rest.length ∧ i ≤ ds.length ∧ rest = ds.drop i ∧ c.H = H ∧ Kp c1 c ∧ FR K c₀ c env σ ∧ PostS K W c₀ c (forL tg (fun env st => execL o lb env st) rest env c.st) D,
    ⟨ds.length, env, c1, ds, rfl, Nat.zero_le _, rfl, rfl, Kp.refl, fr, p⟩, ?_⟩
  rintro i m σ H ⟨env, c, rest, rfl, hi, hrest, rfl, kp, fr, p⟩
  cases rest with
  | nil =>
    have e : i = ds.length := by
      have := congrArg List.length hrest
      rw [List.length_nil, List.length_drop] at this
      omega
    subst e
    exact .inl ⟨hJ.stop c c.H kp.toKeep (fun a o e _ => e), p.done fr⟩
  | cons d rest =>
    have hlt : i < ds.length := by
      have := congrArg List.length hrest
      rw [List.length_cons, List.length_drop] at this
      omega
    have hd : ds[i]? = some d := by
      have := congrArg List.head? hrest
      rw [List.head?_drop] at this
      exact this.symm
    have hrest2 : rest = ds.drop (i + 1) := by
      have := congrArg List.tail hrest
      rw [List.tail_drop] at this
      exact this
    obtain ⟨hgo, hy⟩ := hJ.go c c.H kp.toKeep (fun a o e _ => e) i d hd
    simp only [forL] at p
    split at p
    · exact p.elim
    · rename_i env1 ht
      refine .inr ⟨hgo, fun σ' H' => ∃ env c, c.H = H' ∧ Kp c1 c ∧ FR K c₀ c env σ' ∧ PostS K W c₀ c (forL tg (fun env st => execL o lb env st) rest env c.st) D, fun σ' H' ⟨env, c, h1, h2, h3, h4⟩ => ⟨rest.length, Nat.lt_succ_self _, env, c, rest, rfl, hlt, hrest2, h1, h2, h3, h4⟩, fun x H' hyl => ?_⟩
      exact for_body (rest := fun e s => forL tg (fun env st => execL o lb env st) rest e s) fr (hy x H' hyl) ht p fun e c2 σ2 f k q => ⟨e, c2, rfl, kp.trans k, f, q⟩
theorem for_loc {o : Orc} {lb : List CS} {tg : Tg} {l fuel : Nat} (fr : FR K c₀ c1 env σ) (hl : l < c1.st.length) (p : PostS K W c₀ c1 (forAt tg (fun env st => execL o lb env st) l fuel 0 env c1.st) D) : ForOk K (Itl K (c1.ρ l)) tg (tS K o W lb) D σ c1.H := by
  refine ⟨fun i m σ H => ∃ env c, c.H = H ∧ Kp c1 c ∧ FR K c₀ c env σ ∧ PostS K W c₀ c (forAt tg (fun env st => execL o lb env st) l m i env c.st) D, ⟨fuel, env, c1, rfl, Kp.refl, fr, p⟩, ?_⟩
  rintro i m σ H ⟨env, c, rfl, kp, fr, p⟩
  cases m with
  | zero => exact p.elim
  | succ m =>
    simp only [forAt] at p
    split at p
    · rename_i xs hxs
      obtain ⟨⟨xvs, hH, lx⟩, _⟩ := fr.ok.cell l _ hxs
      rw [kp.rho l hl] at hH
      have hS : SqL K c.H (c1.ρ l) xvs := .inl (.inl hH)
      split at p
      · rename_i hn
        exact .inl ⟨⟨xvs, hS, by rw [← lx.length]; exact List.getElem?_eq_none_iff.mp hn⟩, p.done fr⟩
      · rename_i d hd
        obtain ⟨xv, hxv, rx⟩ := lx.get hd
        split at p
        · exact p.elim
        · rename_i env1 ht
          refine .inr ⟨⟨xvs, xv, hS, hxv⟩, fun σ' H' => ∃ env c, c.H = H' ∧ Kp c1 c ∧ FR K c₀ c env σ' ∧ PostS K W c₀ c (forAt tg (fun env st => execL o lb env st) l m (i + 1) env c.st) D, fun σ' H' q => ⟨m, Nat.lt_succ_self _, q⟩, fun x H' hyl => ?_⟩
          have hy : Yld K c c.H d x H' := by
            obtain ⟨e1, e2⟩ := hyl
            have z := e2 xvs hS
            rw [hxv] at z
            cases z
            exact .inl ⟨e1, rx⟩
          exact for_body (rest := fun e s => forAt tg (fun env st => execL o lb env st) l m (i + 1) e s) fr hy ht p fun e c2 σ2 f k q => ⟨e, c2, rfl, kp.trans k, f, q⟩
    · exact p.elim
end
section
variable {X : Cx} {W : WX} {o : Orc} {it e a b tgE : Expr} {ci ce ca cb : CE} {pos p' apos cpos : Pos} {x : Str} {i : Nat} {tg : Tg} {bd : List Stmt} {lb : List CS}
theorem sd_for (hp : PassesOwn (model X.prog X.w) X.A X.env X.xe) (hc : X.calm = true) (hi : PIF X o W tgE it ci) (hg : PG X tgE (gTg X.K tg)) (hb : PSsd X o W bd lb) (hs : ∀ x, foldedSetIterable it X.env x = pure x) : PSd X o W (.For tgE it bd [] pos) [.for_ tg ci lb] :=
  sd_one (ps_for hp hc hi hg hb hs) fun D σ c₀ env c fr p => by
    simp only [execS] at p
    refine ⟨c₀, env, c, rfl, fr, ?_⟩
    revert p
    generalize evalE o ci env c.st = m
    intro p
    cases m with
    | none => exact p
    | some r =>
      obtain ⟨r, st⟩ := r
      cases r with
      | ex C ns ds => exact fun c' cls x e s k r => p c' σ e s.kpa (fr.step s k) cls x r
      | ok d =>
        simp only [bS_ok] at p
        have hw : wkb st d = true := by
          cases d with
          | lst ds => rfl
          | tup ds => rfl
          | loc l =>
            simp only [wkb]
            split
            · rfl
            · rename_i h
              exfalso
              have go : ∀ n, forAt tg (fun env st => execL o lb env st) l n 0 env st = none := fun n => by
                cases n with
                | zero => rfl
                | succ n =>
                  unfold forAt
                  split
                  · rename_i xs h2
                    exact absurd h2 (h xs)
                  · rfl
              replace p : PostS X.K W c₀ c (forAt tg (fun env st => execL o lb env st) l whileFuel 0 env st) D := p
              rw [go whileFuel] at p
              exact p
          | _ => exact p.elim
        refine ⟨hw, fun c1 J e s k ir => ?_⟩
        have fr1 := fr.step s k
        have p1 := PostS.at p s.kpa
        subst e
        cases d with
        | lst ds => exact for_seq fr1 ir p1
        | tup ds => exact for_seq fr1 ir p1
        | loc l =>
          obtain ⟨rfl, hl⟩ := ir
          exact for_loc fr1 hl p1
        | _ => exact ir.elim
end
end DI
/-! DI: statements, part 4: what own things take. -/
set_option maxHeartbeats 1000000
namespace DI
open PySem PySem.Spec PyProof.Rows L2
section
variable {K : PySem.W.Frag} {W : WX} {c₀ c c' c1 : Cfg} {env : DI.Env} {σ : L2.St} {D : Ends}
/-- where an own thing stands -/
theorem FR.ownAt {i : Nat} {d : DI.D} (fr : FR K c₀ c env σ) (h : env[i]? = some (Slot.own d)) : ∃ a, σ[i]? = some (some (V.ref a)) ∧ c.F a ∧ CR K c d a := by
  obtain ⟨a, h1, h2, _, h4⟩ := fr.er.own i d h
  exact ⟨a, h1, h2, h4⟩
/-- a place of the store written -/
def Cfg.stp (c : Cfg) (l : Nat) (d : DI.D) (ho : HO) : Cfg := { c with st := c.st.set l d, H := upd c.H (c.ρ l) ho }
theorem Kp.stp {l : Nat} {d : DI.D} {ho : HO} (hl : l < c.st.length) : Kp c (c.stp l d ho) := ⟨{
    keep := fun b u h f _ => by
      show upd c.H (c.ρ l) ho b = some u
      rw [upd_ne (show b ≠ c.ρ l from fun e => f.1 l hl e.symm)]; exact h
    rho := fun _ _ => rfl
    len := by show c.st.length ≤ (c.st.set l d).length; rw [List.length_set]; exact Nat.le_refl _
    new := fun m h1 h2 => by
      have : m < (c.st.set l d).length := h2
      rw [List.length_set] at this
      exact absurd this (Nat.not_lt.mpr h1)
    F := fun b _ h2 z => h2 z }, fun b h => by
    show upd c.H (c.ρ l) ho b ≠ none
    by_cases e : b = c.ρ l
    · subst e; rw [upd_same]; exact fun z => by cases z
    · rw [upd_ne e]; exact h⟩
theorem FR.stp {l : Nat} {d d' : DI.D} {ho : HO} (fr : FR K c₀ c env σ) (hl : c.st[l]? = some d) (hr : HoR K c d' ho) : FR K c₀ (c.stp l d' ho) env σ := by
  have hlt : l < c.st.length := (List.getElem?_eq_some_iff.mp hl).1
  have kp : Kp c (c.stp l d' ho) := Kp.stp hlt
  have len : (c.st.set l d').length = c.st.length := List.length_set ..
  have ntup : ∀ ds, d' ≠ .tup ds := fun ds z => by subst z; exact hr
  refine ⟨⟨tabs_upd fr.ok.tabs (fr.ok.cell l d hl).1.notX, fun m n h1 h2 e => fr.ok.inj m n (by rw [← len]; exact h1) (by rw [← len]; exact h2) e, fun m h => fr.ok.nf m (by rw [← len]; exact h), fun b h => kp.al b (fr.ok.fa b h), fun m e h => ?_⟩, ⟨fr.er.len, fun k e h => ?_, fun k e h => ?_, fr.er.apart, fr.er.ins⟩, ?_, fr.f1, fr.f2, fr.f0⟩
  · have h : (c.st.set l d')[m]? = some e := h
    show CR K (c.stp l d' ho) e (c.ρ m) ∧ _
    by_cases q : l = m
    · subst q
      rw [List.getElem?_set_self hlt] at h
      cases h
      refine ⟨hr.cr' kp.toKeep upd_same, ?_⟩
      cases d' with
      | tup ds => exact absurd rfl (ntup ds)
      | _ => trivial
    · rw [List.getElem?_set_ne q] at h
      obtain ⟨r, z⟩ := fr.ok.cell m e h
      have hm : m < c.st.length := (List.getElem?_eq_some_iff.mp h).1
      refine ⟨r.keep kp.toKeep fun u qq => ?_, z⟩
      show upd c.H (c.ρ l) ho (c.ρ m) = some u
      rw [upd_ne (show c.ρ m ≠ c.ρ l from fun e => q (fr.ok.inj l m hlt hm e.symm))]; exact qq
  · obtain ⟨v, e, r⟩ := fr.er.val k _ h
    exact ⟨v, e, RV.keep kp.toKeep _ _ r⟩
  · obtain ⟨b, e1, e2, e3, e4⟩ := fr.er.own k _ h
    refine ⟨b, e1, e2, e3, e4.keep kp.toKeep fun u qq => ?_⟩
    show upd c.H (c.ρ l) ho b = some u
    rw [upd_ne (show b ≠ c.ρ l from fun z => fr.ok.nf l hlt (by rw [← z]; exact e2))]; exact qq
  · refine ⟨fun b u h n t => ?_, fr.st.rho, by show c₀.st.length ≤ (c.st.set l d').length; rw [len]; exact fr.st.len, fun m h1 h2 => fr.st.new m h1 (by rw [← len]; exact h2), fun b h => kp.al b (fr.st.al b h)⟩
    show upd c.H (c.ρ l) ho b = some u
    refine (upd_ne (show b ≠ c.ρ l from fun z => ?_)).trans (fr.st.keep b u h n t)
    by_cases q : l < c₀.st.length
    · exact n l q (by rw [← fr.st.rho l q]; exact z.symm)
    · have := fr.st.new l (Nat.not_lt.mp q) hlt
      rw [← z, h] at this
      cases this
theorem popL_get {ds ds' : List DI.D} {k : Int} {x : DI.D} {xs : List V} (h : popL ds k = some (x, ds')) (l : RL K c ds xs) : ∃ j v, ixN ds.length k = some j ∧ xs[j]? = some v ∧ RV K c x v ∧ RL K c ds' (xs.eraseIdx j) ∧ ds' = ds.eraseIdx j := by
  unfold popL at h
  split at h
  · rename_i j hj
    split at h
    · rename_i d hd
      simp only [Option.some.injEq, Prod.mk.injEq] at h
      obtain ⟨rfl, rfl⟩ := h
      obtain ⟨v, hv, rv⟩ := l.get hd
      exact ⟨j, v, hj, hv, rv, l.eraseIdx j, rfl⟩
    · cases h
  · cases h
theorem popLast {ds ds' : List DI.D} {x : DI.D} {xs : List V} (h : popL ds (-1) = some (x, ds')) (l : RL K c ds xs) : ∃ v, xs[xs.length - 1]? = some v ∧ RV K c x v ∧ RL K c ds' xs.dropLast := by
  obtain ⟨j, v, hj, hv, rv, rl, _⟩ := popL_get h l
  have e : j = xs.length - 1 := by
    have := (ixN_seq hj)
    unfold ixN at hj
    rw [if_neg (by decide)] at hj
    split at hj
    · cases hj
      rw [← l.length]
      omega
    · cases hj
  subst e
  refine ⟨v, hv, rv, ?_⟩
  rw [PyProof.Rows.Copied.eraseIdx_last] at rl
  exact rl
end
section
variable {X : Cx} {W : WX} {o : Orc} {it e a b : Expr} {ci ce ca cb : CE} {pos p' p1 apos cpos : Pos} {x y : Str} {i j : Nat}
theorem few1 {e : Expr} (h : NS e) : ((backTo cpos (starEach [e] X.env)).all (fun x => !x.1) && (backToKw cpos (keywordEach [] X.env)).all (fun x => x.1.isSome)
      && decide (([e] : List Expr).length + ([] : List Keyword).length + (if ([] : List Keyword).isEmpty then 0 else 1) < 30)) = true := by
  rw [star_cons h]; rfl
/-- a name as it stands -/
structure NmOk (X : Cx) (x : Str) (i : Nat) : Prop where
  at_ : X.N[i]? = some x
  vis : Vis X.env.scope x
  hd : (x == ("__debug__" : Str)) = false
  hcd : (x == ("__classdict__" : Str)) = false
theorem NmOk.pe (n : NmOk X x i) : PE X (.Name x p1) (tVar i) := pe_var n.at_ n.vis n.hd n.hcd
theorem sd_app (n : NmOk X x i) (ns : NS e) (hl : (apos.endLine == cpos.line) = true) (he : PEd X o W e ce) : PSd X o W (.Expr (.Call (.Attribute (.Name x p1) "append" apos) [e] [] cpos) pos) [.app i ce] :=
  sd_one (ps_expr (pe_bm PySem.F.plainAttrs_list PySem.F.slot_list_append PySem.F.type_list_append mt_append n.pe (pa1 he (star_cons ns)) rfl (few1 ns) hl (star_cons ns) rfl) rfl) fun D σ c₀ env c fr p => by
    simp only [execS] at p
    split at p
    · rename_i ds hi
      obtain ⟨a, h1, h2, xs, h3, h4⟩ := fr.ownAt hi
      refine ⟨.ref a, h1, .inl ⟨rfl, xs, .inl (.inl h3)⟩, c₀, env, c, rfl, fr, (postS_b (R := RV X.K) fr p).mono fun v H ⟨c1, d, e1, fr1, r1, p1, s⟩ => ?_⟩
      subst e1
      split at p1
      · rename_i hlen
        obtain ⟨a', q1, q2, xs', q3, q4⟩ := fr1.ownAt hi
        rw [h1] at q1
        cases q1
        have hz := line _ hlen
        refine ⟨a, xs', v, rfl, rfl, q3, by rw [← q4.length]; omega, ?_⟩
        exact (PostS.at p1 (Kp.put q2)).done (fr1.mut (d' := .lst (ds ++ [d])) (ho := .lst (xs' ++ [v])) hi h1 ⟨_, rfl, q4.append (RL.one r1)⟩)
      · exact p1.elim
    · exact p.elim
theorem sd_ext (n : NmOk X x i) (ns : NS e) (hl : (apos.endLine == cpos.line) = true) (he : PBd X o W e ce) : PSd X o W (.Expr (.Call (.Attribute (.Name x p1) "extend" apos) [e] [] cpos) pos) [.ext i ce] :=
  sd_one (ps_expr (pe_bm PySem.F.plainAttrs_list PySem.F.slot_list_extend PySem.F.type_list_extend DIR.mt_extR n.pe (pa1 he (star_cons ns)) rfl (few1 ns) hl (star_cons ns) rfl) rfl) fun D σ c₀ env c fr p => by
    simp only [execS] at p
    split at p
    · rename_i ds hi
      obtain ⟨a, h1, h2, xs, h3, h4⟩ := fr.ownAt hi
      refine ⟨.ref a, h1, .inl ⟨rfl, xs, .inl (.inl h3)⟩, c₀, env, c, rfl, fr, (postS_b (R := RB X.K) fr p).mono fun v H ⟨c1, d, e1, fr1, r1, p1, s⟩ => ?_⟩
      subst e1
      split at p1
      · rename_i es hes
        split at p1
        · rename_i hlen
          obtain ⟨a', q1, q2, xs', q3, q4⟩ := fr1.ownAt hi
          rw [h1] at q1
          cases q1
          obtain ⟨b, zs, rfl, q, l⟩ := r1.lstOf fr1.ok hes
          have hz := line _ hlen
          refine ⟨a, b, xs', zs, rfl, rfl, q3, q, by rw [← q4.length, ← l.length]; omega, ?_⟩
          exact (PostS.at p1 (Kp.put q2)).done (fr1.mut (d' := .lst (ds ++ es)) (ho := .lst (xs' ++ zs)) hi h1 ⟨_, rfl, q4.append l⟩)
        · exact p1.elim
      · exact p1.elim
    · exact p.elim
/-- name.pop(), name.pop(k): the value's reading at an own list -/
theorem pe_pop0 (n : NmOk X x i) (hl : (apos.endLine == cpos.line) = true) : PE X (.Call (.Attribute (.Name x p1) "pop" apos) [] [] cpos) (tBM0 X.K "list" rPop (tVar i)) :=
  pe_bm0 PySem.F.plainAttrs_list PySem.F.slot_list_pop PySem.F.type_list_pop mt_pop n.pe rfl hl
theorem pe_pop1 (n : NmOk X x i) (ns : NS e) (hl : (apos.endLine == cpos.line) = true) {te : TE} (he : PE X e te) : PE X (.Call (.Attribute (.Name x p1) "pop" apos) [e] [] cpos) (tBM X.K "list" rPopAt (tVar i) (tCons te tNil)) :=
  pe_bm PySem.F.plainAttrs_list PySem.F.slot_list_pop PySem.F.type_list_pop mt_popAt n.pe (pa1 he (star_cons ns)) rfl (few1 ns) hl (star_cons ns) rfl
theorem sd_pop1 {px : Pos} (n : NmOk X x i) (ns : NS e) (hl : (apos.endLine == cpos.line) = true) (he : PEd X o W e ce)
    (hset : PAt X y j (.Call (.Attribute (.Name x p1) "pop" apos) [e] [] cpos) px pos (tBM X.K "list" rPopAt (tVar i) (tCons (tE X.K o W ce) tNil))) : PSd X o W (.Assign [.Name y px] (.Call (.Attribute (.Name x p1) "pop" apos) [e] [] cpos) pos) [.pop (some j) i (some ce)] :=
  sd_one hset fun D σ c₀ env c fr p => by
    simp only [execS] at p
    split at p
    · rename_i ds hi
      obtain ⟨a, h1, h2, xs, h3, h4⟩ := fr.ownAt hi
      refine ⟨.ref a, h1, .inl ⟨rfl, xs, .inl (.inl h3)⟩, c₀, env, c, rfl, fr, (postS_b (R := RV X.K) fr p).mono fun v H ⟨c1, d, e1, fr1, r1, p1, s⟩ => ?_⟩
      subst e1
      cases d with
      | int k =>
        simp only at p1
        split at p1
        · rename_i hk
          have hk := smallI_ok hk
          cases hp : popL ds k with
          | none => rw [hp] at p1; exact p1.elim
          | some r =>
            obtain ⟨z, ds'⟩ := r
            rw [hp] at p1
            obtain ⟨a', q1, q2, xs', q3, q4⟩ := fr1.ownAt hi
            rw [h1] at q1
            cases q1
            obtain ⟨m, w, g1, g2, g3, g4, _⟩ := popL_get hp q4
            refine ⟨a, xs', k, m, w, rfl, by rw [(RB.ofV r1).int], q3, by omega, by omega, by rw [← q4.length]; exact (ixN_seq g1).1, g2, ?_⟩
            have fr2 := fr1.mut (d' := .lst ds') (ho := .lst (xs'.eraseIdx m)) hi h1 ⟨_, rfl, g4⟩
            have kp : Kp c1 (c1.put a (.lst (xs'.eraseIdx m))) := Kp.put q2
            exact (PostS.at p1 kp).done (fr2.setV (i := j) (RV.keep kp.toKeep _ _ g3))
        · exact p1.elim
      | _ => exact p1.elim
    · exact p.elim
theorem sd_pop0 {px : Pos} (n : NmOk X x i) (hl : (apos.endLine == cpos.line) = true)
    (hset : PAt X y j (.Call (.Attribute (.Name x p1) "pop" apos) [] [] cpos) px pos (tBM0 X.K "list" rPop (tVar i))) : PSd X o W (.Assign [.Name y px] (.Call (.Attribute (.Name x p1) "pop" apos) [] [] cpos) pos) [.pop (some j) i none] :=
  sd_one hset fun D σ c₀ env c fr p => by
    simp only [execS] at p
    split at p
    · rename_i ds hi
      obtain ⟨a, h1, h2, xs, h3, h4⟩ := fr.ownAt hi
      refine ⟨.ref a, h1, .inl ⟨rfl, xs, .inl (.inl h3)⟩, ?_⟩
      simp only [bS_ok] at p
      split at p
      · cases hp : popL ds (-1) with
        | none => rw [hp] at p; exact p.elim
        | some r =>
          obtain ⟨z, ds'⟩ := r
          rw [hp] at p
          obtain ⟨w, g2, g3, g4⟩ := popLast hp h4
          refine ⟨a, xs, w, rfl, rfl, h3, g2, ?_⟩
          have fr2 := fr.mut (d' := .lst ds') (ho := .lst xs.dropLast) hi h1 ⟨_, rfl, g4⟩
          have kp : Kp c (c.put a (.lst xs.dropLast)) := Kp.put h2
          exact (PostS.at p kp).done (fr2.setV (i := j) (RV.keep kp.toKeep _ _ g3))
      · exact p.elim
    · exact p.elim
theorem sd_appPop {p2 apos2 cpos2 : Pos} (n : NmOk X x i) (n2 : NmOk X y j) (ns : NS e) (hl : (apos.endLine == cpos.line) = true) (hl2 : (apos2.endLine == cpos2.line) = true) (he : PEd X o W e ce) :
    PSd X o W (.Expr (.Call (.Attribute (.Name x p1) "append" apos) [.Call (.Attribute (.Name y p2) "pop" apos2) [e] [] cpos2] [] cpos) pos) [.appPop i j ce] :=
  sd_one (ps_expr (pe_bm PySem.F.plainAttrs_list PySem.F.slot_list_append PySem.F.type_list_append mt_append n.pe (pa1 (pe_pop1 n2 ns hl2 he) rfl) rfl (few1 trivial) hl rfl rfl) rfl) fun D σ c₀ env c fr p => by
    simp only [execS] at p
    split at p
    · rename_i as ds hi hj
      obtain ⟨a, h1, h2, xs, h3, h4⟩ := fr.ownAt hi
      obtain ⟨b, k1, k2, ys, k3, k4⟩ := fr.ownAt hj
      refine ⟨.ref a, h1, .inl ⟨rfl, xs, .inl (.inl h3)⟩, .ref b, k1, .inl ⟨rfl, ys, .inl (.inl k3)⟩, c₀, env, c, rfl, fr, (postS_b (R := RV X.K) fr p).mono fun v H ⟨c1, d, e1, fr1, r1, p1, s⟩ => ?_⟩
      subst e1
      cases d with
      | int k =>
        simp only at p1
        split at p1
        · rename_i hk
          simp only [Bool.and_eq_true, decide_eq_true_eq] at hk
          obtain ⟨⟨hk1, hk2⟩, hij⟩ := hk
          have hk1 := smallI_ok hk1
          cases hp : popL ds k with
          | none => rw [hp] at p1; exact p1.elim
          | some r =>
            obtain ⟨z, ds'⟩ := r
            rw [hp] at p1
            obtain ⟨a', q1, q2, xs', q3, q4⟩ := fr1.ownAt hi
            rw [h1] at q1
            cases q1
            obtain ⟨b', g1, g2, ys', g3, g4⟩ := fr1.ownAt hj
            rw [k1] at g1
            cases g1
            obtain ⟨m, w, t1, t2, t3, t4, _⟩ := popL_get hp g4
            have nab : a ≠ b := fun z => hij (fr1.er.apart i j _ _ a hi hj h1 (by rw [z]; exact k1))
            refine ⟨b, ys', k, m, w, rfl, by rw [(RB.ofV r1).int], g3, by omega, by omega, by rw [← g4.length]; exact (ixN_seq t1).1, t2, ?_⟩
            have fr2 := fr1.mut (d' := .lst ds') (ho := .lst (ys'.eraseIdx m)) hj k1 ⟨_, rfl, t4⟩
            have kp : Kp c1 (c1.put b (.lst (ys'.eraseIdx m))) := Kp.put g2
            have h3' : (c1.put b (.lst (ys'.eraseIdx m))).H a = some (.lst xs') := by
              show upd c1.H b _ a = _
              rw [upd_ne nab]; exact q3
            have hz := line _ hk2
            refine ⟨a, xs', w, rfl, rfl, h3', by rw [← q4.length]; omega, ?_⟩
            have hi' : (env.set j (Slot.own (.lst ds')))[i]? = some (Slot.own (.lst as)) := by rw [List.getElem?_set_ne (Ne.symm hij)]; exact hi
            have fr3 := fr2.mut (d' := .lst (as ++ [z])) (ho := .lst (xs' ++ [w])) hi' h1 ⟨_, rfl, (RL.keep kp.toKeep _ _ q4).append (RL.one (RV.keep kp.toKeep _ _ t3))⟩
            exact (PostS.at p1 (kp.trans (Kp.put q2))).done fr3
        · exact p1.elim
      | _ => exact p1.elim
    · exact p.elim
end
end DI
/-! DI: statements, part 5: items stored, fields, several targets, the store's lists. -/
set_option maxHeartbeats 1000000
namespace DI
open PySem PySem.Spec PyProof.Rows L2
section
variable {K : PySem.W.Frag} {W : WX} {c₀ c c' c1 : Cfg} {env : DI.Env} {σ : L2.St} {D : Ends}
/-- a dict's entry written -/
theorem putG_ok {κ κ' : Type} [DecidableEq κ] [DecidableEq κ'] {f : κ' → κ} (inj : ∀ a b, f a = f b → a = b) {k : κ'} {x : DI.D} {v : V} (rx : RV K c x v) : ∀ {ks : List κ'} {vs : List DI.D} {kvs : List (κ × V)}, kvs.map (·.1) = ks.map f → RL K c vs (kvs.map (·.2)) →
    (putK kvs (f k) v).map (·.1) = (putG k x ks vs).1.map f ∧ RL K c (putG k x ks vs).2 ((putK kvs (f k) v).map (·.2)) := by
  intro ks vs kvs h l
  have any_eq : (kvs.any fun kv => decide (kv.1 = f k)) = (ks.any fun n => decide (n = k)) := by
    have e1 : (kvs.any fun kv => decide (kv.1 = f k)) = ((kvs.map (·.1)).any fun z => decide (z = f k)) := by rw [List.any_map]; rfl
    rw [e1, h, List.any_map]
    congr 1
    funext n
    simp only [Function.comp, decide_eq_decide]
    exact ⟨inj _ _, fun e => by rw [e]⟩
  unfold putK putG
  rw [any_eq]
  by_cases hc : (ks.any fun n => decide (n = k)) = true
  · rw [if_pos hc, if_pos hc]
    have go : ∀ {ks : List κ'} {vs : List DI.D} {kvs : List (κ × V)}, kvs.map (·.1) = ks.map f → RL K c vs (kvs.map (·.2)) →
        (kvs.map (fun kv => if kv.1 = f k then (kv.1, v) else kv)).map (·.1) = ks.map f ∧ RL K c (setK k x ks vs) ((kvs.map (fun kv => if kv.1 = f k then (kv.1, v) else kv)).map (·.2)) := by
      intro ks
      induction ks with
      | nil =>
        intro vs kvs h l
        cases kvs with
        | nil => cases vs with
          | nil => exact ⟨rfl, by simp only [setK, List.map_nil, RL]⟩
          | cons _ _ => simp only [List.map_nil, RL] at l
        | cons _ _ => simp at h
      | cons n ns ih =>
        intro vs kvs h l
        cases kvs with
        | nil => simp at h
        | cons kv kvs =>
          simp only [List.map_cons, List.cons.injEq] at h
          cases vs with
          | nil => simp only [List.map_cons, RL] at l
          | cons d ds =>
            simp only [List.map_cons, RL] at l
            obtain ⟨q1, q2⟩ := ih h.2 l.2
            by_cases e : n = k
            · have e' : kv.1 = f k := by rw [h.1, e]
              refine ⟨?_, ?_⟩
              · rw [List.map_cons, List.map_cons, q1, if_pos e', List.map_cons]
                show kv.1 :: _ = _
                rw [h.1]
              · rw [setK, if_pos e, List.map_cons, List.map_cons, if_pos e']
                simp only [RL]
                exact ⟨rx, q2⟩
            · have e' : ¬ kv.1 = f k := fun z => e (inj _ _ (by rw [← h.1]; exact z))
              refine ⟨?_, ?_⟩
              · rw [List.map_cons, List.map_cons, q1, if_neg e', List.map_cons, h.1]
              · rw [setK, if_neg e, List.map_cons, List.map_cons, if_neg e']
                simp only [RL]
                exact ⟨l.1, q2⟩
    exact go h l
  · rw [if_neg hc, if_neg hc]
    refine ⟨by simp [h], ?_⟩
    rw [List.map_append]
    exact l.append (RL.one rx)
/-- o[i] = v, a list or a dict -/
def rSetA : TSet := fun o i v H Q => rSetL o i v H Q ∨ rSetD o i v H Q
theorem set_any {X : Cx} (hu : X.A.units + 1 < cLine) : PSet X rSetA := by
  intro pins s σ H o i v ov iv u Q I ro ri rv h
  rcases h with h | h
  · exact set_list pins s σ H o i v ov iv u Q I ro ri rv h
  · exact set_dict hu pins s σ H o i v ov iv u Q I ro ri rv h
theorem putD_ok {d d' y x : DI.D} {a : Addr} {vy vx : V} (cr : CR K c d a) (ry : RV K c y vy) (rx : RV K c x vx) (h : putD d y x = some d') : ∃ ho, HoR K c d' ho ∧ ∀ Q : Hp → Prop, Q (upd c.H a ho) → rSetA (.ref a) vy vx c.H Q := by
  unfold putD at h
  split at h
  · rename_i ds i
    rw [Option.map_eq_some_iff] at h
    obtain ⟨ds', h1, rfl⟩ := h
    obtain ⟨xs, q, l⟩ := cr
    unfold setL at h1
    split at h1
    · rename_i j hj
      cases h1
      refine ⟨.lst (xs.set j vx), ⟨_, rfl, l.set rx j⟩, fun Q hQ => .inl ⟨a, xs, i, j, rfl, (RB.ofV ry).int, q, by rw [← l.length]; exact hj, hQ⟩⟩
    · cases h1
  · rename_i ks vs s
    split at h
    · rename_i hl
      simp only [Option.some.injEq] at h
      subst h
      obtain ⟨kvs, q, hk, l⟩ := cr
      obtain ⟨p1, p2⟩ := putG_ok (f := (Sum.inr : Str → Key)) (fun a b e => Sum.inr.inj e) (k := s) rx hk l
      have len : kvs.length = ks.length := by simpa using congrArg List.length hk
      have hz := line _ hl
      refine ⟨.dK (putK kvs (Sum.inr s) vx), ⟨_, rfl, p1, p2⟩, fun Q hQ => .inr ⟨a, _, rfl, ?_, hQ⟩⟩
      rw [(RB.ofV ry).str]
      exact DPut.k (k := (Sum.inr s : Key)) q (by omega)
    · cases h
  · rename_i ks vs t
    rw [Option.bind_eq_some_iff] at h
    obtain ⟨ns, h1, h2⟩ := h
    split at h2
    · rename_i hl
      simp only [Option.some.injEq] at h2
      subst h2
      obtain ⟨kvs, q, hk, l⟩ := cr
      obtain ⟨b, ys, rfl, _, rb, lb⟩ := (RB.ofV ry).tup
      obtain ⟨hy, _⟩ := lb.ints h1
      obtain ⟨p1, p2⟩ := putG_ok (f := fun k : List Int => k.map (Sum.inl : Int → Key)) (fun a b e => mapInl_inj e) (k := ns) rx hk l
      have len : kvs.length = ks.length := by simpa using congrArg List.length hk
      have hz := line _ hl
      refine ⟨.dT (putK kvs (ns.map Sum.inl) vx), ⟨_, rfl, p1, p2⟩, fun Q hQ => .inr ⟨a, _, rfl, ?_, hQ⟩⟩
      exact DPut.t (k := ns.map (Sum.inl : Int → Key)) q (by rw [kV_ints, rb, hy]) (by omega)
    · cases h2
  · cases h
theorem putD_ni {d d' y x : DI.D} (h : putD d y x = some d') : ∀ C ns vs, d' ≠ .ins C ns vs := fun C ns vs z => by
  subst z
  unfold putD at h
  split at h
  · rw [Option.map_eq_some_iff] at h
    obtain ⟨_, _, e⟩ := h
    cases e
  · split at h
    · simp only [Option.some.injEq] at h; cases h
    · cases h
  · rw [Option.bind_eq_some_iff] at h
    obtain ⟨_, _, e⟩ := h
    split at e
    · simp only [Option.some.injEq] at e; cases e
    · cases e
  · cases h
/-- a field of an own instance -/
theorem putF_ok {f : Str} {x : DI.D} {v : V} (rx : RV K c x v) : ∀ {ns : List Str} {vs : List DI.D} {fs : List (Str × V)}, fs.map (·.1) = ns → RL K c vs (fs.map (·.2)) →
    (putF f v fs).map (·.1) = (putS f x ns vs).1 ∧ RL K c (putS f x ns vs).2 ((putF f v fs).map (·.2))
  | [], [], [], _, _ => by
    refine ⟨rfl, ?_⟩
    simp only [putS, putF, List.map_cons, List.map_nil, RL]
    exact ⟨rx, trivial⟩
  | [], _, _ :: _, h, _ => by simp at h
  | [], _ :: _, [], _, l => by simp only [List.map_nil, RL] at l
  | _ :: _, _, [], h, _ => by simp at h
  | _ :: _, [], _ :: _, _, l => by simp only [List.map_cons, RL] at l
  | n :: ns, d :: ds, kv :: fs, h, l => by
    simp only [List.map_cons, List.cons.injEq] at h
    simp only [List.map_cons, RL] at l
    obtain ⟨n', v'⟩ := kv
    have h1 : n' = n := h.1
    subst h1
    by_cases e : n' = f
    · subst e
      have e1 : putF n' v ((n', v') :: fs) = (n', v) :: fs := by
        show (if n' = n' then _ else _) = _
        rw [if_pos rfl]
      have e2 : putS n' x (n' :: ns) (d :: ds) = (n' :: ns, x :: ds) := by
        show (if n' = n' then _ else _) = _
        rw [if_pos rfl]
      rw [e1, e2]
      refine ⟨by rw [List.map_cons, h.2], ?_⟩
      simp only [List.map_cons, RL]
      exact ⟨rx, l.2⟩
    · have e1 : putF f v ((n', v') :: fs) = (n', v') :: putF f v fs := by
        show (if n' = f then _ else _) = _
        rw [if_neg e]
      have e2 : putS f x (n' :: ns) (d :: ds) = (n' :: (putS f x ns ds).1, d :: (putS f x ns ds).2) := by
        show (if n' = f then _ else _) = _
        rw [if_neg e]
      obtain ⟨q1, q2⟩ := putF_ok (f := f) rx h.2 l.2
      rw [e1, e2]
      refine ⟨by rw [List.map_cons, q1], ?_⟩
      simp only [List.map_cons, RL]
      exact ⟨l.1, q2⟩
end
section
variable {X : Cx} {W : WX} {o : Orc} {it e a b k v r : Expr} {ci ce ca cb ck cv cr : CE} {pos p' p1 p2 apos cpos tpos : Pos} {x y f : Str} {i j : Nat}
theorem swaps_ns {t : Expr} {line : Nat} {env : PySem.Env} (h : ∀ x p, t ≠ .Name x p) : swapsWith v (some t) line env = pure false := by
  cases t <;> first | (exact absurd rfl (h _ _)) | (cases v <;> rfl)
/-- an index that is no slice -/
def IxE : Expr → Prop
  | .Slice _ _ _ _ => False
  | _ => True
theorem asg_sub {o i : Expr} {pos : Pos} (h : IxE i) (v : Value) : assign (.Subscript o i pos) X.env v = (do
      let ov ← holding [v] (eval o X.env)
      let iv ← holding [v, ov] (eval i X.env)
      standAt pos
      holding [v, ov, iv] (setItem ov iv v)
      release [v, ov, iv] []) := by
  cases i <;> first | exact h.elim | rfl
theorem swaps_sub {o i : Expr} {tpos : Pos} {line : Nat} {env : PySem.Env} : swapsWithSole [.Subscript o i tpos] v line env = pure false := by
  cases v <;> rfl
theorem sd_put (hu : X.A.units + 1 < cLine) (n : NmOk X x i) (ix : IxE k) (hk : PEd X o W k ck) (hv : PEd X o W v cv) : PSd X o W (.Assign [.Subscript (.Name x p1) k tpos] v pos) [.put i ck cv] :=
  sd_one (ps_asg hv (pg_sub n.pe hk (set_any hu) (asg_sub ix)) swaps_sub (by cases v <;> rfl) rfl) fun D σ c₀ env c fr p => by
    simp only [execS] at p
    refine ⟨c₀, env, c, rfl, fr, (postS_b (R := RV X.K) fr p).mono fun v H ⟨c1, d, e1, fr1, r1, p1, s⟩ => ?_⟩
    subst e1
    split at p1
    · rename_i cc hi
      obtain ⟨a, h1, h2, h3⟩ := fr1.ownAt hi
      refine ⟨.ref a, h1, c₀, env, c1, rfl, fr1, (postS_b (R := RV X.K) fr1 p1).mono fun w H ⟨c2, d2, e2, fr2, r2, p2, s2⟩ => ?_⟩
      subst e2
      cases hp : putD cc d2 d with
      | none => rw [hp] at p2; exact p2.elim
      | some c' =>
        rw [hp] at p2
        obtain ⟨a', q1, q2, q3⟩ := fr2.ownAt hi
        rw [h1] at q1
        cases q1
        obtain ⟨ho, hr, hQ⟩ := putD_ok q3 r2 (r1.step s2) hp
        exact hQ _ ((PostS.at p2 (Kp.put q2)).done (fr2.mut hi h1 hr (.inl (putD_ni hp))))
    · exact p1.elim
/-- what stands at a place of the store -/
theorem RV.locAt {K : PySem.W.Frag} {c : Cfg} {l : Nat} {v : V} {d : DI.D} (k : SOk K c) (r : RV K c (.loc l) v) (h : c.st[l]? = some d) : v = .ref (c.ρ l) ∧ l < c.st.length ∧ CR K c d (c.ρ l) := by
  simp only [RV] at r
  exact ⟨r.1, r.2, (k.cell l d h).1⟩
theorem sd_lput (hu : X.A.units + 1 < cLine) (ix : IxE k) (hr : PEd X o W r cr) (hk : PEd X o W k ck) (hv : PEd X o W v cv) : PSd X o W (.Assign [.Subscript r k tpos] v pos) [.lput cr ck cv] :=
  sd_one (ps_asg hv (pg_sub hr hk (set_any hu) (asg_sub ix)) swaps_sub (by cases v <;> rfl) rfl) fun D σ c₀ env c fr p => by
    simp only [execS] at p
    refine ⟨c₀, env, c, rfl, fr, (postS_b (R := RV X.K) fr p).mono fun v H ⟨c1, d, e1, fr1, r1, p1, s⟩ => ?_⟩
    subst e1
    refine ⟨c₀, env, c1, rfl, fr1, (postS_b (R := RV X.K) fr1 p1).mono fun w H ⟨c2, d2, e2, fr2, r2, p2, s2⟩ => ?_⟩
    subst e2
    refine ⟨c₀, env, c2, rfl, fr2, (postS_b (R := RV X.K) fr2 p2).mono fun z H ⟨c3, d3, e3, fr3, r3, p3, s3⟩ => ?_⟩
    subst e3
    cases d2 with
    | loc l =>
      simp only [lset] at p3
      cases hl : c3.st[l]? with
      | none => rw [hl] at p3; exact p3.elim
      | some cc =>
        rw [hl] at p3
        obtain ⟨ew, h1, h2⟩ := RV.locAt fr3.ok (r2.step s3) hl
        cases hp : putD cc d3 d with
        | none => simp only [hp] at p3; exact p3.elim
        | some c' =>
          simp only [hp, Option.map_some] at p3
          obtain ⟨ho, hr, hQ⟩ := putD_ok h2 r3 ((r1.step s2).step s3) hp
          rw [ew]
          exact hQ _ (p3 (c3.stp l c' ho) σ rfl (Kp.stp h1) (fr3.stp hl hr))
    | _ => exact p3.elim
theorem sd_sat {p0 : Pos} (n : NmOk X x 0) (hc : ∀ C, o.fld C f = true → Cls X.K (He.ga X.K C) ∧ NoAttr X.K (He.ga X.K C) f) (hv : PEd X o W v cv) : PSd X o W (.Assign [.Attribute (.Name x p1) f tpos] v pos) [.sat f cv] :=
  sd_one (ps_fld n.pe hv (by cases v <;> rfl)) fun D σ c₀ env c fr p => by
    simp only [execS] at p
    refine ⟨c₀, env, c, rfl, fr, (postS_b (R := RV X.K) fr p).mono fun v H ⟨c1, d, e1, fr1, r1, p1, s⟩ => ?_⟩
    subst e1
    split at p1
    · rename_i C ns vs hi
      split at p1
      · rename_i hcond
        simp only [Bool.and_eq_true, decide_eq_true_eq] at hcond
        obtain ⟨a, h1, h2, dx, fs, h3, h4, h5⟩ := fr1.ownAt hi
        obtain ⟨q1, q2⟩ := putF_ok (f := f) r1 h4 h5
        have len : fs.length = ns.length := by simpa using congrArg List.length h4
        refine ⟨.ref a, h1, a, _, dx, fs, rfl, h3, (hc C hcond.2).1, (hc C hcond.2).2, by rw [len]; exact hcond.1, ?_⟩
        exact (PostS.at p1 (Kp.put h2)).done (fr1.mut hi h1 (ho := .ins (He.ga X.K C) dx (putF f v fs)) ⟨dx, _, rfl, q1, q2⟩ (.inr ⟨C, ns, vs, rfl⟩))
      · exact p1.elim
    · exact p1.elim
theorem sd_lapp (ns : NS e) (hb : abC r = true) (hl : (apos.endLine == cpos.line) = true) (hr : PEd X o W r cr) (he : PEd X o W e ce) : PSd X o W (.Expr (.Call (.Attribute r "append" apos) [e] [] cpos) pos) [.lapp cr ce] :=
  sd_one (ps_expr (pe_bm PySem.F.plainAttrs_list PySem.F.slot_list_append PySem.F.type_list_append mt_append hr (pa1 he (star_cons ns)) (abase hb) (few1 ns) hl (star_cons ns) rfl) rfl) fun D σ c₀ env c fr p => by
    simp only [execS] at p
    refine ⟨c₀, env, c, rfl, fr, (postS_b (R := RV X.K) fr p).mono fun v H ⟨c1, d, e1, fr1, r1, p1, s⟩ => ?_⟩
    subst e1
    cases d with
    | loc l =>
      simp only at p1
      split at p1
      · rename_i ds0 hl0
        obtain ⟨ev, h1, xs0, h2, h3⟩ := RV.locAt fr1.ok r1 hl0
        refine ⟨?_, c₀, env, c1, rfl, fr1, (postS_b (R := RV X.K) fr1 p1).mono fun w H ⟨c2, d2, e2, fr2, r2, p2, s2⟩ => ?_⟩
        · rw [ev]; exact .inl ⟨rfl, xs0, .inl (.inl h2)⟩
        · subst e2
          split at p2
          · rename_i ds hl2
            split at p2
            · rename_i hz
              obtain ⟨ev2, g1, xs, g2, g3⟩ := RV.locAt fr2.ok (r1.step s2) hl2
              have hz := line _ hz
              rw [ev2]
              exact ⟨_, xs, w, rfl, rfl, g2, by rw [← g3.length]; omega, p2 (c2.stp l (.lst (ds ++ [d2])) (.lst (xs ++ [w]))) σ rfl (Kp.stp g1) (fr2.stp hl2 ⟨_, rfl, g3.append (RL.one r2)⟩)⟩
            · exact p2.elim
          · exact p2.elim
      · exact p1.elim
    | _ => exact p1.elim
theorem sd_lpop0 (hb : abC r = true) (hl : (apos.endLine == cpos.line) = true) (hr : PEd X o W r cr) : PSd X o W (.Expr (.Call (.Attribute r "pop" apos) [] [] cpos) pos) [.lpop none cr] :=
  sd_one (ps_expr (pe_bm0 PySem.F.plainAttrs_list PySem.F.slot_list_pop PySem.F.type_list_pop mt_pop hr (abase hb) hl) rfl) fun D σ c₀ env c fr p => by
    simp only [execS] at p
    refine ⟨c₀, env, c, rfl, fr, (postS_b (R := RV X.K) fr p).mono fun v H ⟨c1, d, e1, fr1, r1, p1, s⟩ => ?_⟩
    subst e1
    cases d with
    | loc l =>
      simp only at p1
      split at p1
      · rename_i ds hl0
        obtain ⟨ev, h1, xs, h2, h3⟩ := RV.locAt fr1.ok r1 hl0
        cases hp : popL ds (-1) with
        | none => rw [hp] at p1; exact p1.elim
        | some q =>
          obtain ⟨z, ds'⟩ := q
          rw [hp] at p1
          obtain ⟨w, g2, g3, g4⟩ := popLast hp h3
          rw [ev]
          exact ⟨.inl ⟨rfl, xs, .inl (.inl h2)⟩, _, xs, w, rfl, rfl, h2, g2, p1 (c1.stp l (.lst ds') (.lst xs.dropLast)) σ rfl (Kp.stp h1) (fr1.stp hl0 ⟨_, rfl, g4⟩)⟩
      · exact p1.elim
    | _ => exact p1.elim
theorem sd_lpop1 {px : Pos} (hb : abC r = true) (hl : (apos.endLine == cpos.line) = true) (hset : PAt X y j (.Call (.Attribute r "pop" apos) [] [] cpos) px pos (tBM0 X.K "list" rPop (tE X.K o W cr))) :
    PSd X o W (.Assign [.Name y px] (.Call (.Attribute r "pop" apos) [] [] cpos) pos) [.lpop (some j) cr] :=
  sd_one hset fun D σ c₀ env c fr p => by
    simp only [execS] at p
    refine ⟨c₀, env, c, rfl, fr, (postS_b (R := RV X.K) fr p).mono fun v H ⟨c1, d, e1, fr1, r1, p1, s⟩ => ?_⟩
    subst e1
    cases d with
    | loc l =>
      simp only at p1
      split at p1
      · rename_i ds hl0
        obtain ⟨ev, h1, xs, h2, h3⟩ := RV.locAt fr1.ok r1 hl0
        cases hp : popL ds (-1) with
        | none => rw [hp] at p1; exact p1.elim
        | some q =>
          obtain ⟨z, ds'⟩ := q
          rw [hp] at p1
          obtain ⟨w, g2, g3, g4⟩ := popLast hp h3
          rw [ev]
          have kp : Kp c1 (c1.stp l (.lst ds') (.lst xs.dropLast)) := Kp.stp h1
          have fr2 := fr1.stp hl0 (d' := .lst ds') (ho := .lst xs.dropLast) ⟨_, rfl, g4⟩
          exact ⟨.inl ⟨rfl, xs, .inl (.inl h2)⟩, _, xs, w, rfl, rfl, h2, g2, p1 (c1.stp l (.lst ds') (.lst xs.dropLast)) _ rfl kp (fr2.setV (i := j) (RV.keep kp.toKeep _ _ g3))⟩
      · exact p1.elim
    | _ => exact p1.elim
end
end DI
/-! DI: statements, part 6: two targets. -/
set_option maxHeartbeats 1000000
namespace DI
open PySem PySem.Spec PyProof.Rows L2
section
variable {K : PySem.W.Frag} {W : WX} {c₀ c c' c1 : Cfg} {env : DI.Env} {σ : L2.St} {D : Ends}
theorem FR.n0 (fr : FR K c₀ c env σ) {p : Addr} (hp : c.H p = none) : c₀.H p = none := by
  cases e : c₀.H p with
  | none => rfl
  | some u => exact absurd hp (fr.st.al p (some_ne e))
theorem FR.sep (fr : FR K c₀ c env σ) {p : Addr} (hp : c.H p = none) : ∀ (k : Nat) (e : DI.D) (a : Addr), env[k]? = some (Slot.own e) → σ[k]? = some (some (V.ref a)) → a ≠ p := fun k e a h1 h2 z => by
  obtain ⟨a', q1, _, _, q4⟩ := fr.er.own k e h1
  rw [h2] at q1
  cases q1
  exact q4.ne (z ▸ hp)
/-- an object of one's own gets a name -/
theorem FR.adopt {i : Nat} {d : DI.D} {p : Addr} (fr : FR K c₀ c env σ) (hF : c.F p) (n0 : c₀.H p = none) (cr : CR K c d p) (sep : ∀ (k : Nat) (e : DI.D) (a : Addr), env[k]? = some (Slot.own e) → σ[k]? = some (some (V.ref a)) → a ≠ p) (hd : ∀ C ns vs, d = .ins C ns vs → p = c₀.slf) :
    FR K c₀ c (env.set i (.own d)) (σ.set i (some (V.ref p))) := by
  refine ⟨fr.ok, ⟨?_, fun k e h => ?_, fun k e h => ?_, fun k j e f a h1 h2 h3 h4 => ?_, fun k C ns vs a h1 h2 => ?_⟩, fr.st, fr.f1, fr.f2, fr.f0⟩
  · rw [List.length_set, List.length_set]; exact fr.er.len
  · by_cases q : i = k
    · subst q; obtain ⟨_, z⟩ := lt_of_set h; cases z
    · rw [List.getElem?_set_ne q] at h ⊢
      exact fr.er.val k e h
  · by_cases q : i = k
    · subst q
      obtain ⟨hl, z⟩ := lt_of_set h
      cases z
      rw [List.getElem?_set_self (by rw [← fr.er.len]; exact hl)]
      exact ⟨p, rfl, hF, n0, cr⟩
    · rw [List.getElem?_set_ne q] at h ⊢
      exact fr.er.own k e h
  · by_cases q1 : i = k
    · by_cases q2 : i = j
      · exact q1.symm.trans q2
      · subst q1
        obtain ⟨hl, _⟩ := lt_of_set h1
        rw [List.getElem?_set_self (by rw [← fr.er.len]; exact hl)] at h3
        cases h3
        rw [List.getElem?_set_ne q2] at h2 h4
        exact absurd rfl (sep _ _ _ h2 h4)
    · by_cases q2 : i = j
      · subst q2
        obtain ⟨hl, _⟩ := lt_of_set h2
        rw [List.getElem?_set_self (by rw [← fr.er.len]; exact hl)] at h4
        cases h4
        rw [List.getElem?_set_ne q1] at h1 h3
        exact absurd rfl (sep _ _ _ h1 h3)
      · rw [List.getElem?_set_ne q1] at h1 h3
        rw [List.getElem?_set_ne q2] at h2 h4
        exact fr.er.apart k j e f a h1 h2 h3 h4
  · by_cases q : i = k
    · subst q
      obtain ⟨hl, z⟩ := lt_of_set h1
      rw [List.getElem?_set_self (by rw [← fr.er.len]; exact hl)] at h2
      cases h2
      exact hd C ns vs (Slot.own.inj z).symm
    · rw [List.getElem?_set_ne q] at h1 h2
      exact fr.er.ins k C ns vs a h1 h2
theorem HoR.step {c c' : Cfg} {d : DI.D} {ho : HO} (s : Step c c') (h : HoR K c d ho) : HoR K c' d ho := by
  cases d with
  | lst ds => obtain ⟨xs, rfl, l⟩ := h; exact ⟨xs, rfl, l.step s⟩
  | dic ks vs => obtain ⟨xs, rfl, q, l⟩ := h; exact ⟨xs, rfl, q, l.step s⟩
  | dit ks vs => obtain ⟨xs, rfl, q, l⟩ := h; exact ⟨xs, rfl, q, l.step s⟩
  | ins C ns vs => obtain ⟨dx, xs, rfl, q, l⟩ := h; exact ⟨dx, xs, rfl, q, l.step s⟩
  | _ => exact h.elim
theorem HoR.keepH {c c' : Cfg} {d : DI.D} {ho : HO} (s : Keep c c') (h : HoR K c d ho) : HoR K c' d ho := by
  cases d with
  | lst ds => obtain ⟨xs, rfl, l⟩ := h; exact ⟨xs, rfl, RL.keep s _ _ l⟩
  | dic ks vs => obtain ⟨xs, rfl, q, l⟩ := h; exact ⟨xs, rfl, q, RL.keep s _ _ l⟩
  | dit ks vs => obtain ⟨xs, rfl, q, l⟩ := h; exact ⟨xs, rfl, q, RL.keep s _ _ l⟩
  | ins C ns vs => obtain ⟨dx, xs, rfl, q, l⟩ := h; exact ⟨dx, xs, rfl, q, RL.keep s _ _ l⟩
  | _ => exact h.elim
theorem HoR.notT {c : Cfg} {d : DI.D} {ho : HO} (h : HoR K c d ho) : ∀ ps, ho ≠ .tbl ps := fun ps z => by
  subst z
  cases d with
  | lst ds => obtain ⟨xs, e, l⟩ := h; cases e
  | dic ks vs => obtain ⟨xs, e, q, l⟩ := h; cases e
  | dit ks vs => obtain ⟨xs, e, q, l⟩ := h; cases e
  | ins C ns vs => obtain ⟨dx, xs, e, q, l⟩ := h; cases e
  | _ => exact h.elim
end
section
variable {X : Cx} {W : WX} {o : Orc} {a b : Expr} {ca cb : CE} {pos px py pt pt2 : Pos} {x y : Str} {i j kt k2 : Nat}
/-- the part's reading -/
def tO (K : PySem.W.Frag) (o : Orc) (W : WX) (w : Bool) (e : CE) : TE := if w = true then tF K o W e else tE K o W e
/-- the first of two done -/
theorem sd_par {w p : Bool} (h : PS X (.Assign [.Tuple [.Name x px, .Name y py] kt pt] (.Tuple [a, b] k2 pt2) pos) (tPar i j (tCons (tO X.K o W w ca) (tCons (tO X.K o W p cb) tNil)))) :
    PSd X o W (.Assign [.Tuple [.Name x px, .Name y py] kt pt] (.Tuple [a, b] k2 pt2) pos) [.asg2 i w j p ca cb] :=
  sd_one h fun D σ c₀ env c fr q => by
    simp only [execS] at q
    -- the second, from a frame in which the first is kept by G
    have second : ∀ {c1 : Cfg} {v : V} {d1 : DI.D} {m : Res} (fr1 : FR X.K c₀ c1 env σ)
        (G : ∀ (c2 : Cfg), Step c1 c2 → FR X.K c₀ c2 env σ → ∀ env1, put? w ca i d1 env = some env1 → FR X.K c₀ c2 env1 (σ.set i (some v)))
        (q1 : PostS X.K W c₀ c1 (bS env (evalE o cb env c1.st) fun y st => ((put? w ca i d1 env).bind (put? p cb j y)).map fun env => (Fl.nxt, env, st)) D),
        tO X.K o W p cb σ c1.H fun u H2 => ∃ v' w', [v, u] = [v', w'] ∧ D.nx ((σ.set i (some v')).set j (some w')) H2 := by
      intro c1 v d1 m fr1 G q1
      cases p with
      | false =>
        refine ⟨c₀, env, c1, rfl, fr1, (postS_b (R := RV X.K) fr1 q1).mono fun u H ⟨c2, d2, e2, fr2, r2, q2, s2⟩ => ⟨v, u, rfl, ?_⟩⟩
        subst e2
        cases he : put? w ca i d1 env with
        | none => rw [he] at q2; exact q2.elim
        | some env1 =>
          rw [he] at q2
          simp only [Option.bind_some, put?, Bool.false_eq_true, if_false, Option.map_some] at q2
          exact q2.done ((G c2 s2 fr2 env1 he).setV r2)
      | true =>
        refine ⟨c₀, env, c1, rfl, fr1, ?_⟩
        revert q1
        generalize evalE o cb env c1.st = m
        intro q1
        cases m with
        | none => exact q1
        | some r =>
          obtain ⟨r, st⟩ := r
          cases r with
          | ex C ns ds => exact fun c' cls x e s k r => q1 c' σ e s.kpa (fr1.step s k) cls x r
          | ok d2 =>
            intro c2 ho e s k hr t ht
            refine ⟨v, .ref t, rfl, ?_⟩
            have q2 := PostS.at q1 s.kpa
            simp only [bS_ok] at q2
            subst e
            have fr2 := fr1.step s k
            cases he : put? w ca i d1 env with
            | none => rw [he] at q2; exact q2.elim
            | some env1 =>
              rw [he] at q2
              simp only [Option.bind_some, put?, if_true] at q2
              split at q2
              · rename_i hfo
                simp only [Option.map_some] at q2
                exact (PostS.at q2 (Kp.hide (ho := ho) ht)).done ((G c2 s fr2 env1 he).setO ht hr (own_ni hfo))
              · exact q2.elim
    cases w with
    | false =>
      refine ⟨c₀, env, c, rfl, fr, (postS_b (R := RV X.K) fr q).mono fun v H ⟨c1, d1, e1, fr1, r1, q1, s1⟩ => ?_⟩
      subst e1
      refine second (m := none) fr1 (fun c2 s2 fr2 env1 he => ?_) q1
      simp only [put?, Bool.false_eq_true, if_false, Option.some.injEq] at he
      subst he
      exact fr2.setV (r1.step s2)
    | true =>
      refine ⟨c₀, env, c, rfl, fr, ?_⟩
      revert q
      generalize evalE o ca env c.st = m
      intro q
      cases m with
      | none => exact q
      | some r =>
        obtain ⟨r, st⟩ := r
        cases r with
        | ex C ns ds => exact fun c' cls x e s k r => q c' σ e s.kpa (fr.step s k) cls x r
        | ok d1 =>
          intro c1 ho e s k hr t ht
          have q1 := PostS.at (PostS.at q s.kpa) (Kp.hide (ho := ho) ht)
          simp only [bS_ok] at q1
          subst e
          have fr1 := fr.step s k
          have frh := fr1.hide (ho := ho) ht
          have hn := hr.notT
          refine second (m := none) (c1 := c1.hide t ho) frh (fun c2 s2 fr2 env1 he => ?_) q1
          simp only [put?, if_true] at he
          split at he
          · rename_i hfo
            simp only [Option.some.injEq] at he
            subst he
            have hat : c2.H t = some ho := s2.keep t _ upd_same (fun l hl => (fr1.ok.fz ht).1 l hl) hn
            refine fr2.adopt (by rw [s2.F]; exact .inr rfl) (fr1.n0 ht) ((HoR.keepH (Kp.hide (ho := ho) ht).toKeep hr).cr' s2.kp hat) (fr1.sep ht) (fun C ns vs z => absurd z (own_ni hfo C ns vs))
          · cases he
theorem swp_some {env : PySem.Env} (hb : env.blockKind = .function) (hx : env.kindOf x = some .local) (hy : env.kindOf y = some .local) (hxy : x ≠ y) (hl : px.line = py.line) (na : NS a) (nb : NS b) (h1 : ([a, b].all (foldedForSure 8)) = false) (h2 : ([a, b].all (constantsAlone 8)) = false) :
    swappedStores [.Tuple [.Name x px, .Name y py] kt pt] (.Tuple [a, b] k2 pt2) env = pure (some [x, y]) := by
  have hs : ([a, b].any fun | .Starred .. => true | _ => false) = false := by
    cases a <;> first | exact na.elim | (cases b <;> first | exact nb.elim | rfl)
  have ed : ([x, y] : List Str).eraseDups = [x, y] := by
    have : (y == x) = false := beq_eq_false_iff_ne.mpr (Ne.symm hxy)
    simp [List.eraseDups_cons, this]
  have hlx : (px.line == py.line) = true := by rw [hl]; simp
  have hly : (py.line == px.line) = true := by rw [hl]; simp
  unfold swappedStores
  simp [hb, hx, hy, hl, Expr.pos]
  rw [if_neg ?_, if_pos (by rw [ed]; rfl), if_neg ?_, if_neg ?_]
  · intro z
    rw [List.all_cons, List.all_cons, z.1, z.2] at h2
    cases h2
  · intro z
    rw [List.all_cons, List.all_cons, z.1, z.2] at h1
    cases h1
  · intro z
    rcases z with z | z
    · cases a <;> first | exact na.elim | cases z
    · cases b <;> first | exact nb.elim | cases z
/-- two names, two values: own ones fresh -/
theorem sd_asg2 {w p : Bool} (hc : X.calm = true) (hN : X.N.Nodup) (hi : X.N[i]? = some x) (hj : X.N[j]? = some y) (hij : i ≠ j) (hx : X.env.scope.names.lookup x = some .local) (hy : X.env.scope.names.lookup y = some .local)
    (hb : X.env.blockKind = .function) (hkx : X.env.kindOf x = some .local) (hky : X.env.kindOf y = some .local) (hxy : x ≠ y) (hl : px.line = py.line) (na : NS a) (nb : NS b) (h1 : ([a, b].all (foldedForSure 8)) = false) (h2 : ([a, b].all (constantsAlone 8)) = false)
    (ha : PE X a (tO X.K o W w ca)) (hbb : PE X b (tO X.K o W p cb)) : PSd X o W (.Assign [.Tuple [.Name x px, .Name y py] kt pt] (.Tuple [a, b] k2 pt2) pos) [.asg2 i w j p ca cb] :=
  sd_par (ps_par hc hN hi hj hij hx hy (pa_cons ha (pa1 hbb (star_cons nb)) (star_cons na)) (swp_some hb hkx hky hxy hl na nb h1 h2) rfl)
end
end DI
/-! DI: more expressions. -/
set_option maxHeartbeats 1000000
namespace DI
open PySem PySem.Spec PyProof.Rows L2
section
variable {X : Cx} {W : WX} {o : Orc} {e a b t : Expr} {ca cb ct ce : CE} {es : List Expr} {ces : List CE} {pos p p1 p2 p3 : Pos} {x : Str} {k : Nat}
theorem d_rev (ha : PBd X o W a ca) : PEd X o W (.Subscript a (.Slice none none (some (.UnaryOp .USub (.Constant (.int 1) k p1) p2)) p3) pos) (.rev ca) := peImp (DIR.pe_revA ha) fun σ H Q ⟨c₀, env, c, hH, fr, p⟩ => by
  simp only [evalE] at p
  refine ⟨c₀, env, c, hH, fr, (p.bnd (R' := RB X.K)).mono fun v H1 ⟨c1, d1, e1, s1, k1, r1, p1⟩ => ?_⟩
  subst e1
  obtain ⟨r, er, p'⟩ := p1.map
  unfold revD at er
  split at er
  · rename_i ds hr
    cases er
    obtain ⟨a, xs, rfl, q, l⟩ := r1.lstOf k1 hr
    exact ⟨a, xs, rfl, .inl ⟨.inl q, p'.lst k1 l.reverse⟩⟩
  · rename_i ds hr
    cases er
    obtain ⟨a, xs, rfl, f, q, l⟩ := r1.tupOf k1 hr
    exact ⟨a, xs, rfl, .inr ⟨.inl (.inl q), p'.tup k1 l.reverse⟩⟩
  · cases er
theorem f_revl (ha : PBd X o W a ca) : PFd X o W (.Subscript a (.Slice none none (some (.UnaryOp .USub (.Constant (.int 1) k p1) p2)) p3) pos) (.revl ca) := peImp (DIR.pe_revA ha) fun σ H Q ⟨c₀, env, c, hH, fr, p⟩ => by
  simp only [evalE] at p
  refine ⟨c₀, env, c, hH, fr, (p.bnd (R' := RB X.K)).mono fun v H1 ⟨c1, d1, e1, s1, k1, r1, p1⟩ => ?_⟩
  subst e1
  split at p1
  · rename_i ds hr
    obtain ⟨a, xs, rfl, q, l⟩ := r1.lstOf k1 hr
    exact ⟨a, xs, rfl, .inl ⟨.inl q, p1.lst k1 l.reverse⟩⟩
  · exact p1.elim
/-! ### sorted -/
theorem insI_perm (x : Int) : ∀ ys, (insI x ys).Perm (x :: ys)
  | [] => List.Perm.refl _
  | y :: ys => by
    unfold insI
    by_cases h : x ≤ y
    · rw [if_pos h]
    · rw [if_neg h]
      exact ((insI_perm x ys).cons y).trans (List.Perm.swap x y ys)
theorem sortI_perm : ∀ xs, (sortI xs).Perm xs
  | [] => List.Perm.refl _
  | x :: xs => (insI_perm x _).trans ((sortI_perm xs).cons x)
theorem insI_sorted (x : Int) : ∀ {ys}, List.Pairwise (· ≤ ·) ys → List.Pairwise (· ≤ ·) (insI x ys)
  | [], _ => List.pairwise_singleton _ _
  | y :: ys, h => by
    unfold insI
    by_cases hx : x ≤ y
    · rw [if_pos hx]
      rw [List.pairwise_cons] at h
      refine List.pairwise_cons.mpr ⟨fun z hz => ?_, List.pairwise_cons.mpr h⟩
      rcases List.mem_cons.mp hz with rfl | hz
      · exact hx
      · exact Int.le_trans hx (h.1 z hz)
    · rw [if_neg hx]
      rw [List.pairwise_cons] at h
      refine List.pairwise_cons.mpr ⟨fun z hz => ?_, insI_sorted x h.2⟩
      rcases List.mem_cons.mp ((insI_perm x ys).mem_iff.mp hz) with rfl | hz
      · omega
      · exact h.1 z hz
theorem sortI_sorted : ∀ xs, List.Pairwise (· ≤ ·) (sortI xs)
  | [] => List.Pairwise.nil
  | x :: xs => insI_sorted x (sortI_sorted xs)
theorem sortI_one {ns ns' : List Int} (h : ns'.Perm ns) (hs : ns'.Pairwise (· ≤ ·)) : ns' = sortI ns :=
  List.Perm.eq_of_pairwise (le := (· ≤ ·)) (fun a b _ _ h1 h2 => Int.le_antisymm h1 h2) hs (sortI_sorted ns) (h.trans (sortI_perm ns).symm)
theorem s_sorted : CallR X (.builtin "sorted") (rFnF X.K .sorted) := by
  refine cr_imp (cr_or cr_sortedI DIR.cr_sortedIT) fun xs H Q h => ?_
  obtain ⟨c, d, v, E, rfl, rfl, k, rx, p⟩ := h
  obtain ⟨r, e1, p'⟩ := p.map
  simp only [fnD, seqOf] at e1
  rw [Option.map_eq_some_iff] at e1
  obtain ⟨ns, e2, rfl⟩ := e1
  rw [Option.bind_eq_some_iff] at e2
  obtain ⟨ds, e3, e4⟩ := e2
  split at e3
  · rename_i es er
    cases e3
    obtain ⟨a, xs, rfl, f, q, l⟩ := rx.tupOf k er
    refine .inr ⟨a, ns, rfl, .inl (.inl (by rw [← (l.ints e4).1]; exact q)), fun ns' p hp hs hn => ?_⟩
    rw [sortI_one hp hs]
    exact p'.lst k (RL.ofInts _) p hn
  · rename_i es er
    cases e3
    obtain ⟨a, xs, rfl, q, l⟩ := rx.lstOf k er
    refine .inl ⟨a, ns, rfl, .inl (by rw [← (l.ints e4).1]; exact q), fun ns' p hp hs hn => ?_⟩
    rw [sortI_one hp hs]
    exact p'.lst k (RL.ofInts _) p hn
  · cases e3
/-! ### a call by keywords alone, in the parameters' order -/
theorem pkImp {kws : List Keyword} {t t' : TA} (h : PK X kws t) (k : ∀ σ H Q, t' σ H Q → t σ H Q) : PK X kws t' := ⟨fun pos pins s σ H Q I hw => h.run pos pins s σ H Q I (k σ H Q hw)⟩
theorem pk_all : ∀ {kws : List Keyword} {ces : List CE}, PEall X o W (kws.map (·.value)) ces → PK X kws (tL X.K o W ces)
  | [], [], _ => pkImp pk_nil fun σ H Q ⟨c₀, env, c, hH, fr, p⟩ => by
    subst hH; exact p c [] rfl Step.refl fr.ok (by simp only [RL])
  | ⟨nm, v, kp⟩ :: kws, ce :: ces, h => by
    cases h with
    | cons he hr =>
      refine pkImp (pk_cons he (pk_all hr)) fun σ H Q ⟨c₀, env, c, hH, fr, p⟩ => ?_
      simp only [evalL] at p
      refine ⟨c₀, env, c, hH, fr, (p.bndE (R' := RV X.K)).mono fun v H1 ⟨c1, d1, e1, s1, k1, r1, p1⟩ => ⟨c₀, env, c1, e1, fr.step s1 k1, ?_⟩⟩
      refine PostL.mono p1.bndLL fun vs H2 ⟨c2, ds, e2, s2, k2, r2, p2⟩ => ?_
      subst e2
      exact p2 c2 (v :: vs) rfl Step.refl k2 (by simp only [RL]; exact ⟨r1.step s2, r2⟩)
  | [], _ :: _, h => by cases h
  | _ :: _, [], h => by cases h
/-- a def by its run, called by keywords -/
structure FnAtK (X : Cx) (g : List D → Store → Res) (a : Addr) (ks : List Str) (n k : Nat) : Prop where
  ex : ∃ (fd : FuncData), FnOk X.prog X.w X.K X.mg X.base (L2.CX X.prog X.w) k a fd ks (spF X.K n g) ∧ ∀ (s : Shared) (ws : List Value), X.K.In s.heap → ws.length = ks.length → BindsTo s fd ⟨[], ks.zip ws⟩ (ks.zip ws)
  len : ∀ ds st r, g ds st = some r → ds.length = n
theorem kw_names {pos : Pos} {env : PySem.Env} : ∀ {kws : List Keyword} {ks : List Str}, kws.map (·.arg) = ks.map some → (backToKw pos (keywordEach kws env)).all (·.1.isSome) = true ∧ (backToKw pos (keywordEach kws env)).filterMap (·.1) = ks ∧ (backToKw pos (keywordEach kws env)).any (·.1.isNone) = false
  | [], [], _ => ⟨rfl, rfl, rfl⟩
  | [], _ :: _, h => by cases h
  | _ :: _, [], h => by cases h
  | ⟨nm, v, kp⟩ :: kws, k :: ks, h => by
    simp only [List.map_cons, List.cons.injEq] at h
    obtain ⟨h1, h2⟩ := h
    obtain ⟨q1, q2, q3⟩ := kw_names (pos := pos) (env := env) h2
    subst h1
    unfold backToKw at q1 q2 q3 ⊢
    unfold keywordEach
    rw [List.map_cons, List.all_cons, List.any_cons, q1, q3, List.filterMap_cons]
    exact ⟨rfl, by show k :: _ = _; rw [q2], rfl⟩
theorem d_callKw {f : Nat} {fa : Addr} {n k : Nat} {kws : List Keyword} {ks : List Str} (F : FnAtK X (o.call f) fa ks n k) (hr : Room k X.A) (tk : Takes X W) (hg : Gl X x) (hm : X.mg x = some (.ref fa)) (hk : PySem.W.keepIn X.K (.ref fa) = true) (hdb : (x == ("__debug__" : Str)) = false)
    (hks : kws.map (·.arg) = ks.map some) (h : PEall X o W (kws.map (·.value)) ces) : PEd X o W (.Call (.Name x p) [] kws pos) (.call f ces) := by
  obtain ⟨fd, F1, kb⟩ := F.ex
  have base : PE X (.Call (.Name x p) [] kws pos) (tCallS (spF X.K n (o.call f)) (WE W) (tL X.K o W ces)) := by
    refine ⟨fun pins s σ H Q I h' => ?_⟩
    obtain ⟨q1, q2, q3⟩ := kw_names (pos := pos) (env := X.env) hks
    refine wpAny_Call_Name_kw (ld_glob I hg hm ?_ hdb)
    refine PySem.W.callWith_KW0 (h₀ := X.base) I.ok.mod.kin hk q1 (thn ((pk_all h).run pos pins s σ H _ I h') fun ws s2 ⟨zs, H2, I2, rz, qz⟩ => ⟨I2.kIn, ?_⟩) (by rw [q3]; rfl)
    rw [q2]
    have hl : ws.length = ks.length := by rw [← rz.length]; exact F1.len _ _ _ _ qz
    refine wpAny_call (codeAny_mono (F1.run X.A X.stack s2 H2 ⟨[], ks.zip ws⟩ ws zs Q (WE W σ) hr I2.env0 (kb s2 ws I2.kIn hl) rz qz) fun r s' hq => ?_)
    cases r with
    | error e => exact passAt tk σ pins H2 s2 e s' I2 hq
    | ok fl =>
      cases fl with
      | ret u => exact I2.after hq
      | next => exact False.elim hq
      | brk => exact False.elim hq
      | cont => exact False.elim hq
  refine peImp base fun σ H Q ⟨c₀, env, c, hH, fr, p⟩ => ?_
  simp only [evalE] at p
  refine ⟨c₀, env, c, hH, fr, PostL.mono p.bndL fun vs H1 ⟨c1, ds, e1, s1, k1, r1, p1⟩ => ?_⟩
  subst e1
  exact sp_of k1 r1 F.len p1
/-! ### tests -/
theorem pt_ite (ht : PT X t (tT X.K o W ct)) (ha : PT X a (tT X.K o W ca)) (hb : PT X b (tT X.K o W cb)) : PT X (.IfExp t a b pos) (tT X.K o W (.ite ct ca cb)) := by
  refine ⟨fun pins s σ H Q I h => ?_⟩
  show wpAny _ _ (do if ← isTrue t X.env (eval t X.env) then isTrue a X.env (eval a X.env) else isTrue b X.env (eval b X.env)) _ _ s
  have h' : tT X.K o W ct σ H fun d H1 => if d = true then tT X.K o W ca σ H1 Q else tT X.K o W cb σ H1 Q := by
    obtain ⟨c₀, env, c, hH, fr, p⟩ := h
    simp only [evalE] at p
    refine ⟨c₀, env, c, hH, fr, (p.bnd (R' := RV X.K)).mono fun v H1 ⟨c1, d1, e1, s1, k1, r1, p1⟩ => ?_⟩
    split at p1
    · exact ⟨true, (RB.ofV r1).bl, ifT (⟨c₀, env, c1, e1, fr.step s1 k1, p1⟩)⟩
    · exact ⟨false, (RB.ofV r1).bl, ifF (⟨c₀, env, c1, e1, fr.step s1 k1, p1⟩)⟩
    · exact p1.elim
  refine wpAny_bind (thn (ht.run pins s σ H _ I h') fun d s1 ⟨H1, I1, q1⟩ => ?_)
  cases d with
  | true => exact ha.run pins s1 σ H1 Q I1 (by rw [if_pos rfl] at q1; exact q1)
  | false => exact hb.run pins s1 σ H1 Q I1 (by rw [if_neg Bool.false_ne_true] at q1; exact q1)
/-- a chain as a test -/
theorem d_chainT {op op' : Cmp} {d : Expr} {cd : CE} (hu : X.A.units + 64 < cLine) (ha : PEd X o W a ca) (hb : PEd X o W b cb) (hd : PEd X o W d cd) (hm : lastMarks [cmpOf op, cmpOf op'] [b, d] = false) :
    PTd X o W (.Compare a [cmpOf op, cmpOf op'] [b, d] pos) (.cmp2 op op' ca cb cd) := ptImp (pt_chain (s_cmp op hu) (s_cmp op' hu) ha hb hd hm) fun σ H Q ⟨c₀, env, c, hH, fr, p⟩ => by
  simp only [evalE] at p
  refine ⟨c₀, env, c, hH, fr, (p.bnd (R' := RV X.K)).mono fun v H1 ⟨c1, d1, e1, s1, k1, r1, p1⟩ => ⟨c₀, env, c1, e1, fr.step s1 k1, (p1.bnd (R' := RV X.K)).mono fun w H2 ⟨c2, d2, e2, s2, k2, r2, p2⟩ => ?_⟩⟩
  have f2 := (fr.step s1 k1).step s2 k2
  refine ⟨c2, d1, d2, fun cls x H => W cls x σ H, e2, k2, .inl (r1.step s2), .inl r2, ?_⟩
  split at p2
  · rename_i hc
    rw [hc]
    intro c3 v3 e3 s3 k3 r3
    refine ⟨true, (RB.ofV r3).bl, ?_⟩
    rw [if_pos rfl]
    have p3 : Post X.K (RV X.K) _ c3 _ _ := p2.at s3
    rw [← show c3.st = c2.st from e3] at p3
    refine ⟨c₀, env, c3, rfl, f2.step s3 k3, (p3.bnd (R' := RV X.K)).mono fun z H4 ⟨c4, d4, e4, s4, k4, r4, p4⟩ => ?_⟩
    exact ⟨c4, d2, d4, _, e4, k4, .inl ((r2.step s3).step s4), .inl r4, p4⟩
  · rename_i hc
    rw [hc]
    intro c3 v3 e3 s3 k3 r3
    refine ⟨false, (RB.ofV r3).bl, ?_⟩
    rw [if_neg Bool.false_ne_true]
    exact p2 c3 (.bl false) e3 s3 k3 (by simp only [RV])
  · exact p2.elim
end
end DI
/-! DI: lists of ints by length, then in order. -/
set_option maxHeartbeats 1000000
namespace DI
open PySem PySem.Spec PyProof.Rows L2
theorem ltL_irr : ∀ a : List Int, ltL a a = false
  | [] => rfl
  | x :: xs => by unfold ltL; rw [if_pos rfl]; exact ltL_irr xs
theorem ltL_asymm : ∀ {a b : List Int}, ltL a b = true → ltL b a = false
  | [], [], h => by cases h
  | [], _ :: _, _ => rfl
  | _ :: _, [], h => by cases h
  | x :: xs, y :: ys, h => by
    unfold ltL at h ⊢
    by_cases e : x = y
    · subst e
      rw [if_pos rfl] at h ⊢
      exact ltL_asymm h
    · rw [if_neg e] at h
      rw [if_neg (fun z => e z.symm)]
      have := of_decide_eq_true h
      exact decide_eq_false (by omega)
theorem ltL_conn : ∀ {a b : List Int}, ltL a b = false → ltL b a = false → a = b
  | [], [], _, _ => rfl
  | [], _ :: _, h, _ => by cases h
  | _ :: _, [], _, h => by cases h
  | x :: xs, y :: ys, h, k => by
    unfold ltL at h k
    by_cases e : x = y
    · subst e
      rw [if_pos rfl] at h k
      rw [ltL_conn h k]
    · rw [if_neg e] at h
      rw [if_neg (fun z => e z.symm)] at k
      have h1 := of_decide_eq_false h
      have h2 := of_decide_eq_false k
      omega
theorem ltL_trans : ∀ {a b c : List Int}, ltL a b = true → ltL b c = true → ltL a c = true
  | [], [], _, h, _ => by cases h
  | [], _ :: _, [], _, h => by cases h
  | [], _ :: _, _ :: _, _, _ => rfl
  | _ :: _, [], _, h, _ => by cases h
  | _ :: _, _ :: _, [], _, h => by cases h
  | x :: xs, y :: ys, z :: zs, h, k => by
    unfold ltL at h k ⊢
    by_cases e1 : x = y
    · subst e1
      rw [if_pos rfl] at h
      by_cases e2 : x = z
      · subst e2
        rw [if_pos rfl] at k ⊢
        exact ltL_trans h k
      · rw [if_neg e2] at k ⊢
        exact k
    · rw [if_neg e1] at h
      have h1 := of_decide_eq_true h
      by_cases e2 : y = z
      · subst e2
        rw [if_neg e1]
        exact h
      · rw [if_neg e2] at k
        have k1 := of_decide_eq_true k
        rw [if_neg (by omega)]
        exact decide_eq_true (by omega)
theorem leLen_total (a b : List Int) : leLen a b = true ∨ leLen b a = true := by
  unfold leLen
  by_cases e : a.length = b.length
  · rw [if_pos e, if_pos e.symm]
    cases h : ltL b a with
    | false => exact .inl rfl
    | true => exact .inr (by rw [ltL_asymm h]; rfl)
  · rw [if_neg e, if_neg (Ne.symm e)]
    rcases Nat.lt_or_gt_of_ne e with q | q
    · exact .inl (decide_eq_true q)
    · exact .inr (decide_eq_true q)
theorem leLen_anti {a b : List Int} (h : leLen a b = true) (k : leLen b a = true) : a = b := by
  unfold leLen at h k
  by_cases e : a.length = b.length
  · rw [if_pos e] at h
    rw [if_pos e.symm] at k
    exact ltL_conn (by simpa using k) (by simpa using h)
  · rw [if_neg e] at h
    rw [if_neg (Ne.symm e)] at k
    have := of_decide_eq_true h
    have := of_decide_eq_true k
    omega
theorem leLen_trans {a b c : List Int} (h : leLen a b = true) (k : leLen b c = true) : leLen a c = true := by
  unfold leLen at h k ⊢
  by_cases e1 : a.length = b.length
  · rw [if_pos e1] at h
    by_cases e2 : b.length = c.length
    · rw [if_pos e2] at k
      rw [if_pos (e1.trans e2)]
      cases q : ltL c a with
      | false => rfl
      | true =>
        have h : ltL b a = false := by simpa using h
        have k : ltL c b = false := by simpa using k
        cases r : ltL b c with
        | true => rw [ltL_trans r q] at h; cases h
        | false =>
          have := ltL_conn r k
          subst this
          rw [q] at h; cases h
    · rw [if_neg e2] at k
      have := of_decide_eq_true k
      rw [if_neg (by omega)]
      exact decide_eq_true (by omega)
  · rw [if_neg e1] at h
    have h1 := of_decide_eq_true h
    by_cases e2 : b.length = c.length
    · rw [if_neg (by omega)]
      exact decide_eq_true (by omega)
    · rw [if_neg e2] at k
      have := of_decide_eq_true k
      rw [if_neg (by omega)]
      exact decide_eq_true (by omega)
theorem insL_perm (x : List Int) : ∀ ys, (insL x ys).Perm (x :: ys)
  | [] => List.Perm.refl _
  | y :: ys => by
    unfold insL
    by_cases h : leLen x y = true
    · rw [if_pos h]
    · rw [if_neg h]
      exact ((insL_perm x ys).cons y).trans (List.Perm.swap x y ys)
theorem sortL_perm : ∀ xs, (sortL xs).Perm xs
  | [] => List.Perm.refl _
  | x :: xs => (insL_perm x _).trans ((sortL_perm xs).cons x)
theorem insL_sorted (x : List Int) : ∀ {ys}, List.Pairwise (fun a b => leLen a b = true) ys → List.Pairwise (fun a b => leLen a b = true) (insL x ys)
  | [], _ => List.pairwise_singleton _ _
  | y :: ys, h => by
    unfold insL
    by_cases hx : leLen x y = true
    · rw [if_pos hx]
      rw [List.pairwise_cons] at h
      refine List.pairwise_cons.mpr ⟨fun z hz => ?_, List.pairwise_cons.mpr h⟩
      rcases List.mem_cons.mp hz with rfl | hz
      · exact hx
      · exact leLen_trans hx (h.1 z hz)
    · rw [if_neg hx]
      rw [List.pairwise_cons] at h
      refine List.pairwise_cons.mpr ⟨fun z hz => ?_, insL_sorted x h.2⟩
      rcases List.mem_cons.mp ((insL_perm x ys).mem_iff.mp hz) with rfl | hz
      · exact (leLen_total _ _).resolve_left hx
      · exact h.1 z hz
theorem sortL_sorted : ∀ xs, List.Pairwise (fun a b => leLen a b = true) (sortL xs)
  | [] => List.Pairwise.nil
  | x :: xs => insL_sorted x (sortL_sorted xs)
theorem mergeSort_leLen (xs : List (List Int)) : xs.mergeSort leLen = sortL xs :=
  List.Perm.eq_of_pairwise (le := fun a b => leLen a b = true) (fun a b _ _ h1 h2 => leLen_anti h1 h2)
    (List.pairwise_mergeSort (le := leLen) (fun a b c h k => leLen_trans h k) (fun a b => by rcases leLen_total a b with h | h <;> simp [h]) xs) (sortL_sorted xs) ((List.mergeSort_perm xs leLen).trans (sortL_perm xs).symm)
/-- the key -/
def keyD (ns : List Int) : PyData := .tuple [.int ns.length, .tuple (ns.map .int)]
open PySem.W in
theorem alike_ints : ∀ (a b : List Int), alike (.tuple (a.map .int)) (.tuple (b.map .int)) = true := by
  intro a b
  simp only [alike]
  induction a generalizing b with
  | nil => cases b <;> simp only [List.map_nil, List.map_cons, alikeAll]
  | cons x xs ih => cases b with
    | nil => simp only [List.map_nil, List.map_cons, alikeAll]
    | cons y ys => simp only [List.map_cons, alikeAll, alike, Bool.true_and]; exact ih ys
open PySem.W in
theorem toks_ltL : ∀ (a b : List Int), PyProof.Rows.lexLt itemOrd (keyToksAll (a.map .int)) (keyToksAll (b.map .int)) = ltL a b
  | [], [] => by
    first | rfl | decide | skip
  | [], y :: ys => by
    simp only [List.map_nil, List.map_cons, keyToksAll]
    first | rfl | (rw [lex_atom (by intro z; cases z)]; rfl)
  | x :: xs, [] => by
    simp only [List.map_nil, List.map_cons, keyToksAll]
    first | rfl | (rw [lex_atom (by intro z; cases z)]; rfl)
  | x :: xs, y :: ys => by
    by_cases e : x = y
    · subst e
      rw [List.map_cons, List.map_cons, dataLt_all_yes (by simp only [alike]) (by simp [PyData.eqv]), toks_ltL xs ys]
      show _ = (if x = x then ltL xs ys else decide (x < x))
      rw [if_pos rfl]
    · rw [List.map_cons, List.map_cons, dataLt_all_no (by simp only [alike]) (by simp [PyData.eqv, e]), dataLt_int]
      show _ = (if x = y then ltL xs ys else decide (x < y))
      rw [if_neg e]
theorem eqv_ints : ∀ {a b : List Int}, PyData.eqv (.tuple (a.map .int)) (.tuple (b.map .int)) = true → a = b := by
  intro a
  induction a with
  | nil => intro b h; cases b with
    | nil => rfl
    | cons y ys => simp [PyData.eqv, PyData.eqvAll] at h
  | cons x xs ih => intro b h; cases b with
    | nil => simp [PyData.eqv, PyData.eqvAll] at h
    | cons y ys =>
      simp only [List.map_cons, PyData.eqv, PyData.eqvAll, Bool.and_eq_true] at h
      have e1 : x = y := by simpa using h.1
      have e2 := ih (b := ys) (by simp only [PyData.eqv]; exact h.2)
      rw [e1, e2]
open PySem.W in
theorem dataLt_key (a b : List Int) : dataLt (keyD a) (keyD b) = if a.length = b.length then ltL a b else decide (a.length < b.length) := by
  unfold keyD
  rw [dataLt_tuple]
  by_cases e : a.length = b.length
  · rw [if_pos e, dataLt_all_yes (by simp only [alike]) (by simp [PyData.eqv, e])]
    by_cases ab : a = b
    · subst ab
      rw [ltL_irr]
      exact lex_irrefl _
    · have hne : PyData.eqv (.tuple (a.map .int)) (.tuple (b.map .int)) = false := by
        cases h : PyData.eqv (.tuple (a.map .int)) (.tuple (b.map .int)) with
        | false => rfl
        | true => exact absurd (eqv_ints h) ab
      rw [dataLt_all_no (alike_ints a b) hne, dataLt_tuple, toks_ltL]
  · rw [if_neg e, dataLt_all_no (by simp only [alike]) (by simp [PyData.eqv]; omega), dataLt_int]
    simp
open PySem.W in
theorem dataLe_key : dataLe false keyD = leLen := by
  funext a b
  rw [dataLe_eq]
  show (!dataLt (keyD b) (keyD a)) = leLen a b
  rw [dataLt_key]
  unfold leLen
  by_cases e : a.length = b.length
  · rw [if_pos e, if_pos e.symm]
  · rw [if_neg e, if_neg (Ne.symm e)]
    by_cases q : a.length < b.length
    · rw [decide_eq_true q, decide_eq_false (by omega)]; rfl
    · rw [decide_eq_false q, decide_eq_true (by omega)]; rfl
end DI
/-! DI: a lambda made: nothing is lost. -/
set_option maxHeartbeats 2000000
namespace DI
open PySem PySem.Spec PyProof.Rows L2 LamX
section
variable {X : Cx} {pins : List (Addr × Obj)} {σ : L2.St} {H : Hp} {s : Shared}
/-- as LamX.lam_make2, and no address is lost -/
theorem lam_make3 {T : List (Addr × Str)} {c P : Addr} {params : Arguments} {body : Expr} {scope : Scope} {pos : Pos} {E : Value → Shared → Prop} {Q : Value → Shared → Prop} (I : Inv X pins σ H s) (TB : TabB X.base X.mg c P) (hcode : X.env.code = .ref c)
    (hm : (P, X.env.qual ++ "<lambda>") ∈ T) (hu : ∀ p ∈ T, p.1 = P → p.2 = X.env.qual ++ "<lambda>") (hT : Tabs T H) (hdef : defaultsOf params X.env = ([], [])) (hfree : ∀ y ∈ scope.names, y.2 = .free → ∃ c, X.env.cells.lookup y.1 = some c)
    (h : ∀ (f c' : Addr) (pm ctv : Value) (H1 : Hp) (s' : Shared), Inv X pins σ H1 s' → ExtN H H1 → (∀ a, H a ≠ none → H1 a ≠ none) → Tabs T H1 →
      s'.heap.get? f = some (PySem.W.kla_obj "<lambda>" (X.env.qual ++ "<lambda>") params body scope (cloFrom X.env.cells scope.names []) pm c' ctv) → H1 f = none → f ∉ frs X.stack → H1 c' = some (CodeO c' (X.env.qual ++ "<lambda>")) → Q (.ref f) s') :
    wpAny (model X.prog X.w) X.A (eval (.Lambda params body scope pos) X.env) Q E s := by
  obtain ⟨ps, hP, ht, ha⟩ := hT _ hm
  refine PySem.W.kla_eval hdef ?_
  have bP : s.heap.BuiltinsAt X.mg P := TB.bm.keeps I.bk
  have hP' : s.heap.get? P = some { cls := .none, data := .fields ps } := I.hok P _ hP
  have nofr : ∀ f, s.heap.objs.size ≤ f → f ∉ frs X.stack := fun f hf z => by
    rcases List.mem_cons.mp (I.stkSub _ z) with e | e
    · have h1 := I.lt
      rw [← e] at h1
      exact Nat.lt_irrefl _ (Nat.lt_of_lt_of_le h1 hf)
    · exact I.nofs hf e
  cases hc : codeAmong pos ps.toList with
  | none =>
    refine PySem.W.kla_makeFunction (mg := X.mg) (c := c) (P := P) (ps := ps) (closure_ok hfree) I.ok.glob (I.mod.glob.keeps I.bk) hcode (TB.code.keeps I.bk) hP' ht hc TB.gP bP fun c' ctv h' tk hx hge hlt hrec htb => ?_
    obtain ⟨c2, oc, vs, t, e2, hoc, hd, hv⟩ := hrec
    cases e2
    have hsz : s.heap.objs.size ≤ h'.objs.size := Nat.le_trans hge (Nat.le_of_lt hlt)
    have nC : H c' = none := I.hok.fresh hge
    have I1 := inv_table (t' := tk) (more := #[rawInt pos.line, rawInt pos.col, .ref c']) (h' := h'.push (PySem.W.kla_obj "<lambda>" (X.env.qual ++ "<lambda>") params body scope (cloFrom X.env.cells scope.names []) ((X.mg "__name__").getD .none) c' ctv)) I hP
      (fun b o hb e => Heap.get?_push_of_some _ (hx b o hb e)) (Heap.get?_push_of_some _ htb) hge ⟨oc, vs, t, Heap.get?_push_of_some _ hoc, hd, hv⟩
    have hE : ExtN H (upd (upd H P (.tbl (ps ++ #[rawInt pos.line, rawInt pos.col, .ref c']))) c' (CodeO c' (X.env.qual ++ "<lambda>"))) := fun b o e n => by
      rw [upd_ne (ne_of_none e nC), upd_ne (fun z => n ps (Option.some.inj (e.symm.trans (by rw [z]; exact hP))))]
      exact e
    have hA : ∀ a, H a ≠ none → upd (upd H P (.tbl (ps ++ #[rawInt pos.line, rawInt pos.col, .ref c']))) c' (CodeO c' (X.env.qual ++ "<lambda>")) a ≠ none := fun a n => by
      by_cases e1 : a = c'
      · rw [e1, upd_same]; exact fun z => by cases z
      · rw [upd_ne e1]
        by_cases e2 : a = P
        · rw [e2, upd_same]; exact fun z => by cases z
        · rw [upd_ne e2]; exact n
    have eL : (ps ++ #[rawInt pos.line, rawInt pos.col, .ref c']).toList = ps.toList ++ [rawInt pos.line, rawInt pos.col, .ref c'] := by simp
    refine h h'.objs.size c' ((X.mg "__name__").getD .none) ctv _ _ I1 hE hA (fun p hp => ?_) (Heap.get?_push_size _ rfl) ?_ (nofr _ hsz) upd_same
    · by_cases hb : p.1 = P
      · rw [hu p hp hb, hb]
        refine ⟨_, by rw [upd_ne (ne_of_none hP nC), upd_same], by rw [eL]; exact PySem.TriplesOk_snoc _ _ _ _ ht, fun p' cv hcv => ?_⟩
        rw [eL] at hcv
        rcases among_app _ ht hcv with z | z
        · obtain ⟨c0, e1, e2⟩ := ha p' cv z
          exact ⟨c0, e1, hE _ _ e2 codeO_ne⟩
        · exact ⟨c', z, upd_same⟩
      · obtain ⟨ps', a1, a2, a3⟩ := hT p hp
        refine ⟨ps', by rw [upd_ne (ne_of_none a1 nC), upd_ne hb]; exact a1, a2, fun p' cv hcv => ?_⟩
        obtain ⟨c0, e1, e2⟩ := a3 p' cv hcv
        exact ⟨c0, e1, hE _ _ e2 codeO_ne⟩
    · have n1 : h'.objs.size ≠ c' := Nat.ne_of_gt hlt
      have n2 : h'.objs.size ≠ P := Nat.ne_of_gt (Nat.lt_of_lt_of_le (Heap.lt_size hP') hsz)
      rw [upd_ne n1, upd_ne n2]
      exact I.hok.fresh hsz
  | some cv =>
    obtain ⟨c', e, hco⟩ := ha pos cv hc
    subst e
    refine PySem.W.kla_makeFunctionHit (mg := X.mg) (c := c) (P := P) (ps := ps) (closure_ok hfree) I.ok.glob (I.mod.glob.keeps I.bk) hcode (TB.code.keeps I.bk) hP' ht hc bP fun ctv h' tk hx hsz => ?_
    have I1 : Inv X pins σ H { s with heap := h'.push (PySem.W.kla_obj "<lambda>" (X.env.qual ++ "<lambda>") params body scope (cloFrom X.env.cells scope.names []) ((X.mg "__name__").getD .none) c' ctv), toks := tk } := I.kept fun b o e => Heap.get?_push_of_some _ (hx b o e)
    exact h h'.objs.size c' ((X.mg "__name__").getD .none) ctv H _ I1 (ExtN.refl H) (fun _ n => n) hT (Heap.get?_push_size _ rfl) (I.hok.fresh hsz) (nofr _ hsz) hco
end
end DI
/-! DI: sorted by length: the key's call. -/
set_option maxHeartbeats 2000000
namespace DI
open PySem PySem.Spec PyProof.Rows L2
/-- an item of the list: a tuple of ints -/
def IsItem (h : Heap) (v : Value) (ns : List Int) : Prop := ∃ (t : Addr) (its : List Value), v = .ref t ∧ IsTup h t its.toArray ∧ IntsAre its ns
theorem isItem_keeps {h h' : Heap} {v : Value} {ns : List Int} (k : ∀ b o, h.get? b = some o → h'.get? b = some o) (i : IsItem h v ns) : IsItem h' v ns := by
  obtain ⟨t, its, rfl, ⟨o, ho, hc, n, hd⟩, hi⟩ := i
  exact ⟨t, its, rfl, ⟨o, k _ _ ho, hc, n, hd⟩, hi⟩
theorem readsAll_ints {h : Heap} : ∀ {its : List Value} {ns : List Int}, IntsAre its ns → ReadsAll h its (ns.map PyData.int) []
  | [], [], _ => .nil
  | v :: its, n :: ns, hi => by
    cases hi with | cons _ _ r =>
    exact ReadsAll.cons (as := []) (bs := []) (.int _ _) (readsAll_ints r)
theorem reads_item {h : Heap} {t : Addr} {its : List Value} {ns : List Int} (ht : IsTup h t its.toArray) (hi : IntsAre its ns) : Reads h (.ref t) (.tuple (ns.map PyData.int)) [] := by
  obtain ⟨o, ho, hc, n, hd⟩ := ht
  exact .tuple ho hc hd (readsAll_ints hi)
theorem bind1 {qual x : Str} {an : Option Expr} {pa : Pos} {body : Expr} {scope : Scope} {cl : List (Str × Addr)} {pm cd ctv v : Value} : bindArgs (PySem.W.kla_fn "<lambda>" qual ⟨[], [⟨x, an, pa⟩], none, [], [], none, []⟩ body scope cl pm cd ctv) ⟨[v], []⟩ = pure [(x, v)] := by
  unfold bindArgs
  simp [seqItems?, List.lookup]
  rfl
section
variable {prog : Program} {w : World} {A : Around} {s : Shared}
/-- (lambda x: (len(x), x))(t) -/
theorem key_turn {f c' : Addr} {qual x : Str} {an : Option Expr} {pa p1 p2 p3 p4 p5 : Pos} {k : Nat} {scope : Scope} {pm ctv v : Value} {mg mb : Str → Option Value} {ns : List Int}
    (hroom : A.depth < recursionLimit) (ho : s.heap.get? f = some (PySem.W.kla_obj "<lambda>" qual ⟨[], [⟨x, an, pa⟩], none, [], [], none, []⟩ (.Tuple [.Call (.Name "len" p1) [.Name x p2] [] p3, .Name x p4] k p5) scope [] pm c' ctv))
    (hcd : s.heap.CodeRec (.ref c') qual) (hg : s.heap.Ns mainGlobals mg) (hm : mg "len" = none) (hb : s.heap.Ns builtinsNs mb) (hv : mb "len" = some (.builtin "len")) (hlim : s.heap.NoLimit)
    (hk : scope.kind = .function) (hco : scope.isCoroutine = false) (hgen : scope.isGenerator = false) (hcell : ∀ y ∈ scope.names, y.2 ≠ .cell) (hx : scope.names.lookup x = some .local) (hl : scope.names.lookup ("len" : Str) = some .globalImplicit)
    (hxd : (x == ("__debug__" : Str)) = false) (hns : ns.length ≤ 2 ^ 24) (hi : IsItem s.heap v ns) :
    wpAny (model prog w) A (call (.ref f) [v]) (PySem.W.KeyPure (keyD ns) s) (fun _ _ => False) s := by
  obtain ⟨t, its, rfl, ht, hin⟩ := hi
  have hlen : its.length = ns.length := hin.length
  refine wpAny_call (PySem.W.kla_callFunE hroom ho rfl hco hgen rfl hcd ?_)
  refine wpAny_of_eq (a := [(x, Value.ref t)]) bind1 ?_
  refine wpAny_newFunctionEnv hcell (fun y hy => by rw [List.mem_singleton.mp hy]; exact hx) (fun h₁ hn hsb => ⟨hlim.fresh _ hsb, ?_⟩) hk
  have kp : ∀ b o, s.heap.get? b = some o → h₁.get? b = some o := fun b o e => hsb.extBut b o (Nat.ne_of_lt (Heap.lt_size e)) (Heap.get?_push_of_some _ e)
  have hmx : ([(x, Value.ref t)] : List (Str × Value)).reverse.lookup x = some (.ref t) := by simp
  refine PySem.W.kla_codeExpr ?_
  refine wpAny_Tuple_spliced ?_
  refine Calls.spliced_cons ?_
  refine wpAny_Call_Name_kw (Calls.Name_function_global hk hl (Calls.loadGlobal_builtin (hg.keeps kp) hm (hb.keeps kp) hv ?_))
  refine PyProof.Rows.callWith_builtin1 (Calls.spliced_cons (wpAny_Name (wpAny_loadName_local hk hx hn hmx (Calls.spliced_nil ?_)) hxd)) rfl rfl
  have ht1 : IsTup h₁ t its.toArray := by
    obtain ⟨o, ho, hc, n, hd⟩ := ht
    exact ⟨o, kp _ _ ho, hc, n, hd⟩
  refine len_tuple ht1 (by simp only [List.size_toArray]; omega) ?_
  refine Calls.spliced_cons (wpAny_Name (wpAny_loadName_local hk hx hn hmx (Calls.spliced_nil ?_)) hxd)
  refine ⟨by rw [sizeLine_eq]; simp, _, _, rfl, fun b o e => Heap.get?_push_of_some _ (kp b o e), ?_⟩
  refine .tuple (Heap.get?_push_size _ rfl) rfl rfl ?_
  have e : (its.toArray.size : Int) = (ns.length : Int) := by rw [List.size_toArray, hlen]
  refine ReadsAll.cons (as := []) (bs := []) ?_ (ReadsAll.cons (as := []) (bs := []) (reads_item ?_ hin) .nil)
  · rw [e]; exact .int _ _
  · obtain ⟨o, ho, hc, n, hd⟩ := ht1
    exact ⟨o, Heap.get?_push_of_some _ ho, hc, n, hd⟩
end
end DI
/-! DI: sorted by length. -/
set_option maxHeartbeats 2000000
namespace DI
open PySem PySem.Spec PyProof.Rows L2
/-- where a lambda may be made -/
def LamOk (X : Cx) : Prop := ∃ c P, X.env.code = .ref c ∧ LamX.TabB X.base X.mg c P ∧ (P, X.env.qual ++ "<lambda>") ∈ tabsOf X.K ∧ ∀ p ∈ tabsOf X.K, p.1 = P → p.2 = X.env.qual ++ "<lambda>"
theorem cloFrom_nil (cells : List (Str × Addr)) : ∀ (names : List (Str × NameKind)) (acc : List (Str × Addr)), (∀ y ∈ names, y.2 ≠ .free) → cloFrom cells names acc = acc
  | [], acc, _ => rfl
  | (n, k) :: r, acc, h => by
    unfold cloFrom
    have hk : (k == NameKind.free) = false := by
      have := h (n, k) List.mem_cons_self
      simpa using this
    rw [if_neg (by rw [hk]; exact Bool.false_ne_true)]
    exact cloFrom_nil cells r acc fun y hy => h y (List.mem_cons_of_mem _ hy)
theorem lenKey_form {lam : Expr} (h : isLenKey lam = true) : ∃ (x : Str) (an : Option Expr) (pa p1 p2 p3 p4 p5 p6 : Pos) (k : Nat) (scope : Scope), lam = .Lambda ⟨[], [⟨x, an, pa⟩], none, [], [], none, []⟩ (.Tuple [.Call (.Name "len" p1) [.Name x p2] [] p3, .Name x p4] k p5) scope p6 ∧
    scope.kind = .function ∧ scope.isCoroutine = false ∧ scope.isGenerator = false ∧ (∀ y ∈ scope.names, y.2 ≠ .cell ∧ y.2 ≠ .free) ∧ scope.names.lookup x = some .local ∧ scope.names.lookup ("len" : Str) = some .globalImplicit ∧ (x == ("__debug__" : Str)) = false := by
  unfold isLenKey at h
  split at h
  · rename_i a f p1 x p2 p3 y p4 k p5 sc p6
    simp only [Bool.and_eq_true, decide_eq_true_eq, Bool.not_eq_true', List.all_eq_true, decide_eq_false_iff_not] at h
    obtain ⟨⟨⟨⟨⟨⟨⟨⟨⟨rfl, rfl⟩, h3⟩, h4⟩, h5⟩, h6⟩, h7⟩, h8⟩, h9⟩, h10⟩ := h
    split at h10
    · rename_i z an pa
      have e := of_decide_eq_true h10
      subst e
      refine ⟨z, an, pa, p1, p2, p3, p4, p5, p6, k, sc, rfl, h5, h6, h7, h9, ?_, ?_, h8⟩
      · unfold isLoc1 at h4
        split at h4
        · assumption
        · cases h4
      · unfold isGl at h3
        split at h3
        · assumption
        · cases h3
    · cases h10
  · cases h
theorem depth_ints : ∀ ns : List Int, PyData.depthAll (ns.map PyData.int) = 0
  | [] => rfl
  | n :: ns => by
    rw [List.map_cons]
    unfold PyData.depthAll
    rw [depth_ints ns]
    rfl
theorem depth_key (ns : List Int) : (keyD ns).depth ≤ 2 := by
  unfold keyD
  simp only [PyData.depth, PyData.depthAll, depth_ints]
  omega
open PySem.W in
theorem alike_key (a b : List Int) : alike (keyD a) (keyD b) = true := by
  unfold keyD
  simp only [alike, alikeAll, Bool.true_and, Bool.and_true]
  have := alike_ints a b
  simp only [alike] at this
  exact this
/-- an item, as the config has it -/
def ItemC (c : Cfg) (v : Value) (ns : List Int) : Prop := ∃ t, v = .ref t ∧ Fz c t ∧ c.H t = some (.tup (ns.map V.int))
theorem items_of {K : PySem.W.Frag} {c : Cfg} : ∀ {ds : List DI.D} {xs : List V} {us : List Value} {nss : List (List Int)}, RL K c ds xs → tupsOf ds = some nss → Vals xs us → PySem.W.EachIs (ItemC c) us nss
  | [], [], _, _, _, e, .nil => by
    simp only [tupsOf, Option.some.injEq] at e
    subst e
    exact .nil
  | [], _ :: _, _, _, h, _, _ => by simp only [RL] at h
  | _ :: _, [], _, _, h, _, _ => by simp only [RL] at h
  | d :: ds, x :: xs, _, nss, h, e, .cons r rs => by
    simp only [RL] at h
    cases d with
    | tup t =>
      simp only [tupsOf, Option.bind_eq_bind, Option.bind_eq_some_iff] at e
      obtain ⟨a, e1, r1, e2, e3⟩ := e
      cases e3
      refine .cons ?_ (items_of h.2 e2 rs)
      have h1 := h.1
      simp only [RV] at h1
      obtain ⟨ta, ys, ev, fz, hH, rl⟩ := h1
      subst ev
      have er := (rl.ints e1).1
      subst er
      exact ⟨ta, r, fz, hH⟩
    | _ => simp only [tupsOf] at e; cases e
theorem items_back {K : PySem.W.Frag} {c : Cfg} : ∀ {us : List Value} {nss : List (List Int)}, PySem.W.EachIs (ItemC c) us nss → RL K c (nss.map tupI) (us.map backV) ∧ Vals (us.map backV) us
  | _, _, .nil => ⟨by simp only [List.map_nil, RL], .nil⟩
  | _, _, .cons (a := u) (b := ns) h t => by
    obtain ⟨ta, rfl, fz, hH⟩ := h
    obtain ⟨q1, q2⟩ := items_back (K := K) t
    refine ⟨?_, .cons rfl q2⟩
    simp only [List.map_cons, RL]
    refine ⟨?_, q1⟩
    unfold tupI
    simp only [RV]
    exact ⟨ta, _, rfl, fz, hH, RL.ofInts ns⟩
section
variable {X : Cx} {W : WX} {o : Orc} {a : Expr} {ca : CE} {p pos kp : Pos} {lam : Expr}
theorem f_sortLen (lo : LamOk X) (hr : Room 1 X.A) (hg : Gl X "sorted") (hm : X.mg "sorted" = none) (hml : X.mg "len" = none) (hs : starEach [a] X.env = (false, eval a X.env) :: starEach [] X.env) (hl : isLenKey lam = true) (ha : PBd X o W a ca) :
    PFd X o W (.Call (.Name "sorted" p) [a] [⟨some "key", lam, kp⟩] pos) (.fn .sortedLen ca) := by
  obtain ⟨x, an, pa, p1, p2, p3, p4, p5, p6, k, scope, rfl, sk, sco, sgen, snames, sx, slen, sxd⟩ := lenKey_form hl
  obtain ⟨cc, P, hcode, TB, hmem, huniq⟩ := lo
  refine ⟨fun pins s σ H Q I h => ?_⟩
  obtain ⟨c₀, env, c, hH, fr, pp⟩ := h
  subst hH
  rw [fn_plain (by intro z; cases z)] at pp
  refine wpAny_Call_Name_kw (ld_blt I hg hm rfl ?_ (by decide) (by decide))
  refine PyProof.Rows.callWith_kw ?_ (by rw [hs]; rfl) (by rw [hs]; rfl) rfl rfl
  refine thn ((pa1 ha hs).run pos pins s σ c.H (fun vs H1 => ∃ v c1 d1, vs = [v] ∧ c1.H = H1 ∧ Step c c1 ∧ SOk X.K c1 ∧ RB X.K c1 d1 v ∧ FPost X.K (fun cls d H => W cls d σ H) c1 ((fnD c1.st .sortedLen d1).map fun r => (Rs.ok r, c1.st)) Q) I ?_) fun us s1 hh => ?_
  · exact ⟨c₀, env, c, rfl, fr, (pp.bnd (R' := RB X.K)).mono fun v H1 ⟨c1, d1, e1, s1, k1, r1, q1⟩ => ⟨v, c1, d1, rfl, e1, s1, k1, r1, q1⟩⟩
  obtain ⟨vs, H1, I1, r1, v, c1, d1, rfl, rfl, s01, k1, rb, pq1⟩ := hh
  obtain ⟨u, rfl, ru⟩ := vals1 r1
  show wpAny _ _ (evalAll [do let v ← eval (.Lambda ⟨[], [⟨x, an, pa⟩], none, [], [], none, []⟩ (.Tuple [.Call (.Name "len" p1) [.Name x p2] [] p3, .Name x p4] k p5) scope p6) X.env; standAt pos; pure v]) _ _ s1
  refine wpAny_evalAll_cons (wpAny_bind (lam_make3 I1 TB hcode hmem huniq k1.tabs rfl (fun y hy z => absurd z (snames y hy).2) fun f c' pm ctv H2 s2 I2 eN al T2 hf hfn hfr hco => wpAny_bind (wpAny_standAt (wpAny_pure (wpAny_evalAll_nil ?_)))))
  rw [cloFrom_nil _ _ _ fun y hy => (snames y hy).2] at hf
  -- the config with the table grown
  have nt : ∀ {d : DI.D} {q : Addr}, CR X.K c1 d q → ∀ {o : HO}, c1.H q = some o → ∀ ps, o ≠ .tbl ps := fun {d q} hc {o} e ps z => by
    subst z
    cases d with
    | tup ds => obtain ⟨xs, r, l⟩ := hc; rw [r] at e; cases e
    | lst ds => obtain ⟨xs, r, l⟩ := hc; rw [r] at e; cases e
    | dic ks vs => obtain ⟨xs, r, l⟩ := hc; rw [r] at e; cases e
    | dit ks vs => obtain ⟨xs, r, l⟩ := hc; rw [r] at e; cases e
    | ins C ns vs => obtain ⟨dx, xs, r, l⟩ := hc; rw [r] at e; cases e
    | _ => exact hc.elim
  have s12 : Step c1 { c1 with H := H2 } := ⟨⟨fun b o e _ n => eN b o e n, fun _ _ => rfl, Nat.le_refl _, fun l h1 h2 => absurd h2 (Nat.not_lt.mpr h1), al⟩, rfl⟩
  have k2 : SOk X.K { c1 with H := H2 } := k1.keep s12 rfl (fun l hl => by
    have hc := (k1.cell l (c1.st[l]) (by simp [hl])).1
    cases e : c1.H (c1.ρ l) with
    | none => exact absurd e hc.ne
    | some o => exact eN _ _ e (nt hc e)) T2
  have pq2 := FPost.at pq1 s12
  have rb2 := rb.step s12
  obtain ⟨r, er, pq3⟩ := FPost.map (c := { c1 with H := H2 }) pq2
  simp only [fnD] at er
  rw [Option.map_eq_some_iff] at er
  obtain ⟨nss, er, rfl⟩ := er
  rw [Option.bind_eq_some_iff] at er
  obtain ⟨ds, el, et⟩ := er
  unfold lstOf at el
  split at el
  · rename_i ds' hrd
    cases el
    obtain ⟨l, xs, rfl, hrl, rl⟩ := RB.lstOf k2 rb2 hrd
    obtain rfl : u = Value.ref l := ru
    obtain ⟨its, rv, pl, hz⟩ := I2.list (.inl hrl)
    have each := items_of rl et rv
    have hlen : its.length = nss.length := each.length
    have hsize : xs.length = its.length := rv.length
    obtain ⟨mb, hb1, hb2⟩ := I2.mod.blt
    obtain ⟨⟨oc, vsc, tc, hoc, hdc, hvc⟩, _, _⟩ := I2.hok c' _ hco
    have rd : X.A.in1.in1.depth < recursionLimit := hr.depth
    refine PySem.W.sorted_key_data (b := false) (f := .ref f) (R := ItemC { c1 with H := H2 }) (vs := its) (bs := nss) keyD pl.isList each (PySem.W.AllAlike.of alike_key) (PySem.W.Sortable.tuples fun b => ⟨_, _, rfl⟩) (by rw [← hlen, ← hsize]; exact hz)
      (fun q _ => ?_) (PyProof.Rows.ksk_s1 _ _) (fun _ => PyProof.Rows.ksk_l1 _ _) (fun _ => PyProof.Rows.ksk_t1 _ _) (fun v ns hv hn hp tk kp => ?_) fun out c3 h' tk kp hfr hD ho eo => ?_
    · have := depth_key q
      have := hr.un
      omega
    · obtain ⟨t, rfl, fz, hH⟩ := hv
      obtain ⟨its', rv', tp', hz'⟩ := I2.tuple (.inl (.inl hH))
      have hns : ns.length ≤ 2 ^ 24 := by
        rw [List.length_map, sizeLine_eq] at hz'
        exact hz'
      exact key_turn (s := { s2 with heap := hp, toks := tk }) rd (kp _ _ hf) ⟨c', oc, vsc, tc, rfl, kp _ _ hoc, hdc, hvc⟩ (I2.mod.glob.keeps fun b o e => kp _ _ (I2.bk b o e)) hml (hb1.keeps fun b o e => kp _ _ (I2.bk b o e)) ((hb2 "len" (by decide)).trans (by first | exact F.boot_len | exact Boot.«len» | decide +kernel))
        (I2.nolimit.keeps kp) sk sco sgen (fun y hy => (snames y hy).1) sx slen sxd hns (isItem_keeps kp ⟨t, its', rfl, tp', rv'.ints⟩)
    · rw [dataLe_key, mergeSort_leLen] at eo
      obtain ⟨q1, q2⟩ := items_back (K := X.K) eo
      have q3 := pq3.lst k2 q1
      refine ⟨.ref (s2.heap.objs.size + 1), _, I2.laid (a := s2.heap.objs.size + 1) (o := .lst (out.map backV)) (t' := tk) kp (Nat.le_succ _) ⟨?_, out, c3, q2, hD⟩, rfl, q3 _ (I2.hok.fresh (Nat.le_succ _))⟩
      rw [List.length_map, ho, ← hlen, ← hsize]
      exact hz
  · cases el
end
end DI
/-! DI: an own exception class whose __init__ says super().__init__(): made. -/
set_option maxHeartbeats 2000000
namespace DI
open PySem PySem.Spec PyProof.Rows L2
abbrev exBm : List Value := [.type "Exception", .type "BaseException", .type "object"]
/-- what the written part tells of an exception class with an own __init__ that speaks of super() -/
structure ExI (P : Program) (K : PySem.W.Frag) (C : Addr) (params : Arguments) (body : List Stmt) (scope : Scope) : Prop where
  init : PySem.W.excInitIn K C exBm "Exception.__new__" = true
  kC : PySem.W.keepIn K (.ref C) = true
  exC : PySem.W.subIn K (.ref C) (.type "BaseException") = some true
  tyC : PySem.W.typeIn K (.ref C) = some (.type "type")
  exE : PySem.W.subIn K (.ref C) (.type "Exception") = some true
  cls : ∃ cd, PySem.W.clsIn K C = some cd
  mro : PySem.W.mroIn K C (.ref C) = some true
  sup : PySem.W.ks_superIn K C C "__init__" = some (some (.builtin "Exception.__init__"))
  opq : PySem.W.nsIn K cStatics "thirdparty.any" = some none
  top : (P.main.scope.names.lookup ("super" : Str)).isSome = false
  fn : ∃ (fI cc cda : Addr) (oc : Value) (od : Option Addr) (osl : Array (Option Value)) (name qual : Str) (dV kV doc pm ct : Value) (an : Option Addr) (ccl : Value) (cdd : Option Addr) (vs : Array Value) (ccs : Array (Option Value)) (t1 : Tok) (file : Str) (tf : Tok) (cl : Value) (cld : Option Addr) (csl : Array (Option Value)),
    PySem.W.findIn K (.ref C) "__init__" = some (some (.ref fI)) ∧ PySem.W.typeIn K (.ref fI) = some (.type "function") ∧
    K.lookup fI = some ⟨oc, od, .func (PySem.W.ksFn name qual params body scope dV kV doc pm an (.ref cda) ct cc), osl⟩ ∧ dV = .none ∧
    K.lookup cda = some ⟨ccl, cdd, .fields vs, ccs⟩ ∧ vs[1]? = some (.str qual t1) ∧ vs[2]? = some (.str file tf) ∧ ((P.main.file : Str) == file) = true ∧
    K.lookup cc = some ⟨cl, cld, .cell (some (.ref C)), csl⟩
/-- the scope of such an __init__ -/
structure ExS (scope : Scope) (me : Str) : Prop where
  kind : scope.kind = .function
  co : scope.isCoroutine = false
  gen : scope.isGenerator = false
  cell : ∀ y ∈ scope.names, y.2 ≠ .cell
  sup : scope.names.lookup ("super" : Str) = some .globalImplicit
  cls : scope.names.lookup ("__class__" : Str) = some .free
  self : scope.names.lookup me = some .local
  meD : (me == ("__debug__" : Str)) = false
abbrev pars (me : Str) (an : Option Expr) (pa : Pos) : Arguments := ⟨[], [⟨me, an, pa⟩], none, [], [], none, []⟩
theorem bind1s {name qual x : Str} {an : Option Expr} {pa : Pos} {body : List Stmt} {scope : Scope} {kV doc pm cd ctv v : Value} {an' : Option Addr} {cc : Addr} : bindArgs (PySem.W.ksFn name qual (pars x an pa) body scope .none kV doc pm an' cd ctv cc) ⟨[v], []⟩ = pure [(x, v)] := by
  unfold bindArgs
  simp [seqItems?, List.lookup]
  rfl
theorem interact {fd : FuncData} {L a : Addr} (h : fd.scope.kind = .function) : interactive (callEnv fd L a) = false := by
  unfold interactive callEnv newEnv
  simp [h]
theorem meth_ev0 {e : Expr} {es : List Expr} {m : Str} {apos pos : Pos} {env : PySem.Env} (ns : NSs es) (hn : es.length < 30) (hp : (apos.endLine == pos.line) = true) : eval (.Call (.Attribute e m apos) es [] pos) env = (do
      let ov ← attributeBase e m env (eval e env)
      standAt apos.atName
      let (f, first) ← holding [ov] (getMethod ov m (do return (← importBound e env).getD true))
      callWith pos f first (backTo pos (starEach es env)) []) := by
  rw [show eval (.Call (.Attribute e m apos) es [] pos) env = (do
    let ov ← attributeBase e m env (eval e env)
    standAt apos.atName
    methodCall e m apos pos env ov (es.length + ([] : List Keyword).length) (backTo pos (starEach es env)) (backToKw pos (keywordEach [] env))) from rfl]
  have hf : methodCallForm (es.length + ([] : List Keyword).length) (backTo pos (starEach es env)) (backToKw pos (keywordEach [] env)) = true := by
    unfold methodCallForm
    rw [star_all ns]
    simp [backToKw, keywordEach, hn]
  have hg : ∀ ov, methodCall e m apos pos env ov (es.length + ([] : List Keyword).length) (backTo pos (starEach es env)) (backToKw pos (keywordEach [] env)) = (do
      let (f, first) ← holding [ov] (getMethod ov m (do return (← importBound e env).getD true))
      callWith pos f first (backTo pos (starEach es env)) []) := fun ov => by
    unfold methodCall
    rw [hf]
    have e1 : methodCallPos true e env apos pos = pure pos := by
      unfold methodCallPos
      rw [hp]; rfl
    rw [e1]
    rfl
  simp only [hg]
section
variable {X : Cx} {C : Addr} {x me : Str} {p pos : Pos}
/-- C() -/
theorem pmk_sup0 {an : Option Expr} {pa p0 p1 p2 p3 p4 : Pos} {scope : Scope} (T : ExI X.prog X.K C (pars me an pa) [.Expr (.Call (.Attribute (.Call (.Name "super" p0) [] [] p1) "__init__" p2) [] [] p3) p4] scope) (S : ExS scope me)
    (hg : Gl X x) (hm : X.mg x = some (.ref C)) (hms : X.mg "super" = none) (hr : Room 1 X.A) (hline : (p2.endLine == p3.line) = true) (hdb : (x == ("__debug__" : Str)) = false) : PMk X (.Call (.Name x p) [] [] pos) (fun _ H Q => Q (.ref C) none H) := by
  intro pins s σ H Q I h
  obtain ⟨fI, cc, cda, oc, od, osl, name, qual, dV, kV, doc, pm, ct, an', ccl, cdd, vs, ccs, t1, file, tf, cl, cld, csl, iC, tI, lk, rfl, hcode, hv1, hv2, hfile, hcell⟩ := T.fn
  obtain ⟨cdD, hD⟩ := T.cls
  refine wpAny_Call_Name_kw (ld_glob I hg hm ?_ hdb)
  refine PySem.W.callWith_K0 I.kIn T.kC ?_
  show wpAny _ _ (call (.ref C) []) _ _ _
  obtain ⟨hp, g, dr, tk, os⟩ := s
  obtain ⟨nm, N', qn, bs, bm, hdct, sn, sub, ab, col, dd, k0, k1, k2, k3, k5, hC, hT⟩ := PySem.W.excInit_of I.kIn T.init
  have hax : hp.get? (hp.objs.size + 1) = none := Heap.get?_none_of_le (Nat.le_succ _)
  have kk : ∀ b o, hp.get? b = some o → ((hp.push (PySem.W.kdv_tup [])).push (PySem.HandSPX.excO C hp.objs.size)).get? b = some o := fun b o e => Heap.get?_push_of_some _ (Heap.get?_push_of_some _ e)
  have hget : ((hp.push (PySem.W.kdv_tup [])).push (PySem.HandSPX.excO C hp.objs.size)).get? (hp.objs.size + 1) = some (PySem.HandSPX.excO C hp.objs.size) := by heap_get
  have K2 : X.K.In ((hp.push (PySem.W.kdv_tup [])).push (PySem.HandSPX.excO C hp.objs.size)) := PySem.W.Frag.In.keeps I.kIn kk
  have rC : Raises X (.ref C) := raises_own T.exC T.tyC
  refine wpAny_call (PySem.HandSPX.call_own PySem.F.excBase_Exception hT hC (PySem.W.looks_findIn I.kIn iC) (fun self => PySem.W.bind_fn I.kIn self tI) (Nat.zero_le _) ?_)
  refine PySem.ks_codeAny_call_defAt (fd := PySem.W.ksFn name qual (pars me an pa) _ scope .none kV doc pm an' (.ref cda) ct cc) (binds := [(me, .ref (hp.objs.size + 1))]) (by rw [make_depth]; have := hr.dp; omega) (K2 _ _ lk) rfl (I.nolimit.keeps kk) ⟨cda, _, vs, t1, rfl, K2 _ _ hcode, rfl, hv1⟩ rfl (BindsTo.of_eq bind1s) S.cell (fun y hy => by rw [List.mem_singleton.mp hy]; exact S.self) (fun h₁ hns hk₁ => ?_) S.co S.gen S.kind
  have kk1 : ∀ b o, hp.get? b = some o → h₁.get? b = some o := fun b o e => hk₁ b o (kk b o e)
  have X1 : X.K.In h₁ := PySem.W.Frag.In.keeps I.kIn kk1
  have hgl : h₁.Ns mainGlobals X.mg := I.mod.glob.keeps fun b o e => kk1 _ _ (I.bk b o e)
  obtain ⟨mb, hb1, hb2⟩ := I.mod.blt
  have hbl : h₁.Ns builtinsNs mb := hb1.keeps fun b o e => kk1 _ _ (I.bk b o e)
  have hx1 := hk₁ _ _ hget
  obtain ⟨oD, hD1, hD2⟩ : ∃ oD, h₁.get? C = some oD ∧ oD.data = .cls cdD := by
    unfold PySem.W.clsIn at hD
    split at hD
    · rename_i c d cd' sl ho
      cases hD
      exact ⟨_, X1 _ _ ho, rfl⟩
    · cases hD
  refine PySem.ks_wpAt_execs_cons (PySem.ks_wpAt_Expr_any (PySem.ks_wpAt_MethodCall ?_ (meth_ev0 (es := []) trivial (Nat.zero_lt_succ _) hline)) (interact S.kind))
  refine PySem.ks_wpAt_super_base (env := PySem.W.ksEnv qual scope ((hp.push (PySem.W.kdv_tup [])).push (PySem.HandSPX.excO C hp.objs.size)).objs.size fI (.ref cda) cc) (ar := ⟨me, an, pa⟩) S.sup S.cls (by decide) rfl (X1 _ _ lk) rfl rfl rfl (X1 _ _ hcode) rfl hv2 hfile T.top ?_
  refine PySem.W.ks_loadName_global S.kind S.sup (PySem.Calls.loadGlobal_builtin hgl hms hbl ((hb2 _ (by decide)).trans Boot.«super») ⟨rfl, ?_⟩)
  refine wpAny_loadName_free S.kind S.cls rfl ⟨_, X1 _ _ hcell, rfl⟩ ?_
  refine wpAny_loadName_local S.kind S.self hns (v := .ref (hp.objs.size + 1)) (by simp) ?_
  refine PySem.ks_wpAny_isType_cls hD1 hD2 ⟨rfl, ?_⟩
  refine PySem.ks_wpAny_call_super hD1 hD2 hx1 rfl (fun c e => by cases e) (PySem.W.looks_mroIn X1 T.mro) (fun h₂ hso k2 => ?_)
  have X2 : X.K.In h₂ := PySem.W.Frag.In.keeps X1 k2
  have hx2 := k2 _ _ hx1
  have hm2 := T.sup
  unfold PySem.W.ks_superIn at hm2
  rw [hD] at hm2
  have hxC : hp.objs.size + 1 ≠ C := fun e => by
    have := I.kIn
    rw [e] at hax
    rw [hax] at hC
    cases hC
  refine PySem.W.kxs_getMethod PySem.W.kxs_Exception hso (PySem.W.looks_opaque X2 T.opq) (l₀ := cdD.mro) ?_ rfl X2 hm2 ?_ hxC (by decide) ?_
  · exact fun A Q E s k q => wpAny_bind ((PySem.W.looks_clsIn X2 hD) A _ E s k (wpAny_pure q))
  · exact (PySem.W.InstAt.type (od := none) ⟨hx2, rfl, rfl, trivial⟩).andThen (PySem.W.looks_subIn X2 T.exE)
  have hu : (h₂.push (PySem.W.kxs_mw "Exception.__init__" (hp.objs.size + 1))).get? h₂.objs.size = some (PySem.W.kxs_mw "Exception.__init__" (hp.objs.size + 1)) := Heap.get?_push_size _ rfl
  have up3 : ∀ b o, h₂.get? b = some o → (h₂.push (PySem.W.kxs_mw "Exception.__init__" (hp.objs.size + 1))).get? b = some o := fun b o e => Heap.get?_push_of_some _ e
  refine PySem.W.kxs_callWith (i := "Exception.__init__") (x := hp.objs.size + 1) rfl (PyProof.Rows.evalArgs_empty ⟨hu, ?_⟩)
  refine PySem.ESX.call_bw (up3 _ _ (k2 _ _ (kk1 _ _ hC))) (up3 _ _ hx2) hu (Nat.zero_le _) fun h₄ t4 k4 he4 => ?_
  refine PySem.wpAt_of_wpAny (wpAny_execs_nil ⟨rfl, ?_⟩)
  have old : ∀ b o, hp.get? b = some o → h₄.get? b = some o := fun b o e => k4 b o (fun z => by rw [z, hax] at e; cases e) (up3 _ _ (k2 _ _ (kk1 _ _ e)))
  exact ⟨hp.objs.size + 1, _, _, ⟨hp, g, dr, tk, os⟩, H, .ref C, none, rfl, I, old, hax, he4, ⟨rfl, rfl⟩, rfl, rfl, I.hok.fresh (Nat.le_succ _), rfl, I.bare, rC, h⟩
end
/-- an exception class without fields, as the text has it -/
structure ExOk (P : Program) (K : PySem.W.Frag) (mg : Str → Option Value) (x : Str) : Prop where
  ex : ∃ (me : Str) (an : Option Expr) (pa p0 p1 p2 p3 p4 : Pos) (scope : Scope), ExI P K (He.ga K x) (pars me an pa) [.Expr (.Call (.Attribute (.Call (.Name "super" p0) [] [] p1) "__init__" p2) [] [] p3) p4] scope ∧ ExS scope me ∧ (p2.endLine == p3.line) = true
  dbg : (x == ("__debug__" : Str)) = false
  at_ : mg x = some (.ref (He.ga K x))
  sup : mg "super" = none
/-- it may be raised -/
def PMkA (X : Cx) (x : Str) : Prop := Gl X x → ∀ p pos, PMk X (.Call (.Name x p) [] [] pos) (fun _ H Q => Q (.ref (He.ga X.K x)) none H)
theorem ExOk.pmk {X : Cx} {x : Str} (E : ExOk X.prog X.K X.mg x) (hr : Room 1 X.A) : PMkA X x := fun hg p pos => by
  obtain ⟨me, an, pa, p0, p1, p2, p3, p4, scope, T, S, hl⟩ := E.ex
  exact pmk_sup0 T S hg E.at_ E.sup hr hl E.dbg
theorem sd_rse {X : Cx} {W : WX} {o : Orc} {x : Str} {p1 p2 p3 : Pos} (hc : X.calm = true) (tk : Takes X W) (hg : Gl X x) (he : PMkA X x) : PSd X o W (.Raise (some (.Call (.Name x p1) [] [] p2)) none p3) [.rse x [] []] := sd_one (ps_raise hc tk (he hg p1 p2)) fun D σ c₀ env c fr p => by
  simp only [execS, evalL, bSL_ok] at p
  exact p.done fr (.ref (He.ga X.K x)) none ⟨rfl, .inl rfl⟩
end DI
/-! DI: what compiles is sound: expressions. -/
set_option maxHeartbeats 4000000
namespace DI
open PySem PySem.Spec PyProof.Rows L2

def bltNames : List Str := ["len", "tuple", "list", "int", "any", "all", "sum", "sorted", "repr", "isinstance", "range", "enumerate", "zip", "bool", "str", "dict"]
/-- the surroundings: the names, the module, the other defs -/
structure GOk (S : SI) (h : Hint) (o : Orc) (X : Cx) (W : WX) : Prop where
  N : X.N = h.N
  nd : X.N.Nodup
  calm : X.calm = true
  tk : Takes X W
  u64 : X.A.units + 64 < cLine
  names : ∀ x ∈ h.N, (x == ("__debug__" : Str)) = false ∧ (x == ("__classdict__" : Str)) = false
  cons : ∀ x d, S.cons.lookup x = some d → (x == ("__debug__" : Str)) = false ∧ ((∃ i tk, d = .int i ∧ X.mg x = some (.int i tk)) ∨ (∃ s tk, d = .str s ∧ X.mg x = some (.str s tk)))
  blt : ∀ x ∈ bltNames, X.mg x = none
  fns : ∀ f x, S.fns.idxOf? (x, none) = some f → (x == ("__debug__" : Str)) = false ∧ ∃ a n k, X.mg x = some (.ref a) ∧ PySem.W.keepIn X.K (.ref a) = true ∧ FnAt X (o.call f) a n k ∧ Room k X.A ∧ ∀ ks, S.ps[f]? = some ks → FnAtK X (o.call f) a ks n k
  mkr : ∀ x f, S.cls.lookup x = some f → (x == ("__debug__" : Str)) = false ∧ ∃ fa n k, Mk X.K (He.ga X.K x) fa ∧ MkAt X x (o.make x f) fa n k ∧ Room (k + 1) X.A ∧ X.mg x = some (.ref (He.ga X.K x))
  len : LenOk X o
  meth : ∀ m, MethOk X o m
  fld : ∀ C f, o.fld C f = true → Cls X.K (He.ga X.K C) ∧ NoAttr X.K (He.ga X.K C) f
  rm : Room 1 X.A
  lam : h.lam = true → LamOk X
theorem GOk.blk {S : SI} {h : Hint} {o : Orc} {X : Cx} {W : WX} (g : GOk S h o X W) (s : Shared) (H : Hp) (scope : Scope) (ce : PySem.Env) (fp : List Addr) (hq : ce.code = X.env.code ∧ ce.qual = X.env.qual) : GOk S h o (X.blk s H scope ce fp) W0 where
  N := g.N
  nd := g.nd
  calm := g.calm
  tk := fun _ _ x => by
    obtain ⟨_, _, _, _, _, _, _, _, _, _, _, _, _, _, _, _, z⟩ := x
    exact z.elim
  u64 := g.u64
  names := g.names
  cons := g.cons
  blt := g.blt
  fns := fun f x hx => by
    obtain ⟨h1, a, n, k, h2, h3, h4, h5, h6⟩ := g.fns f x hx
    exact ⟨h1, a, n, k, h2, h3, ⟨h4.ex, h4.len⟩, h5, fun ks hk => ⟨(h6 ks hk).ex, (h6 ks hk).len⟩⟩
  mkr := fun x f hx => by
    obtain ⟨h1, fa, n, k, h2, h3, h4, h5⟩ := g.mkr x f hx
    exact ⟨h1, fa, n, k, h2, ⟨h3.ex, h3.len⟩, h4, h5⟩
  len := ⟨fun C m hm => g.len.ok C m hm⟩
  meth := fun m => ⟨fun C i hi => by
    obtain ⟨f, n, k, h1, h2, h3, h4⟩ := (g.meth m).ok C i hi
    exact ⟨f, n, k, h1, h2, ⟨h3.ex, h3.len⟩, h4⟩⟩
  fld := g.fld
  rm := g.rm
  lam := fun hl => by
    obtain ⟨c, P, h1, h2, h3, h4⟩ := g.lam hl
    refine ⟨c, P, hq.1.trans h1, h2, ?_, ?_⟩
    · show (P, ce.qual ++ "<lambda>") ∈ tabsOf X.K
      rw [hq.2]; exact h3
    · show ∀ p ∈ tabsOf X.K, p.1 = P → p.2 = ce.qual ++ "<lambda>"
      rw [hq.2]; exact h4
def TrE : Expr → Prop
  | .UnaryOp .Not _ _ => False
  | .BoolOp _ _ _ => False
  | .IfExp _ _ _ _ => False
  | .Compare _ _ _ _ => False
  | _ => True
theorem tr_of {e : Expr} {env : PySem.Env} (h : TrE e) : ∀ whole, isTrue e env whole = (do let v ← whole; standAt e.pos; holding [v] (truthy v)) := by
  intro whole
  cases e <;> first | exact h.elim | rfl | skip
  rename_i op a p
  cases op <;> first | exact h.elim | rfl
structure Gd (X : Cx) (o : Orc) (W : WX) (e : Expr) (ce : CE) : Prop where
  ns : NS e
  ix : IxE e
  ds : ∀ es k p, e ≠ .Set es k p
  pe : PEd X o W e ce
  pb : PBd X o W e ce
  pt : PTd X o W e ce
  pw : ∀ op vs p, e = .BoolOp op vs p → PW X e (tT X.K o W ce)
  pf : fresh ce = true → PFd X o W e ce
  set : ∀ (x : Str) (i : Nat) (p' pos : Pos), X.N[i]? = some x → Loc X.env.scope x → (X.fn x = true ∨ X.env.scope.names.lookup x = some .local) → PAt X x i e p' pos (tE X.K o W ce) ∧ (fresh ce = true → PAt X x i e p' pos (tF X.K o W ce))
def plainE : Expr → Prop
  | .Starred _ _ => False
  | .Slice _ _ _ _ => False
  | .Set _ _ _ => False
  | _ => True
section
variable {X : Cx} {W : WX} {o : Orc} {e : Expr} {ce : CE}
theorem plain_ns (h : plainE e) : NS e ∧ IxE e ∧ ∀ es k p, e ≠ .Set es k p := by
  cases e <;> first | exact h.elim | exact ⟨trivial, trivial, fun _ _ _ z => by cases z⟩
theorem swaps_nc {x : Str} {p' : Pos} {line : Nat} (h : isComp e = false) : swapsWith e (some (.Name x p')) line X.env = pure false := by
  cases e <;> first | (cases h; done) | rfl
theorem set_nc {te : TE} (hN : X.N.Nodup) (h : isComp e = false) (he : PE X e te) : ∀ (x : Str) (i : Nat) (p' pos : Pos), X.N[i]? = some x → Loc X.env.scope x → (X.fn x = true ∨ X.env.scope.names.lookup x = some .local) → PAt X x i e p' pos te :=
  fun x i p' pos hi hx hf => ps_set hN hi hx he (swaps_nc h) hf
/-- no new object -/
theorem Gd.val (hN : X.N.Nodup) (pl : plainE e) (hc : isComp e = false) (tr : TrE e) (hv : ∀ i, ce ≠ .var i) (hf : fresh ce = false) (he : PEd X o W e ce) : Gd X o W e ce :=
  ⟨(plain_ns pl).1, (plain_ns pl).2.1, (plain_ns pl).2.2, he, pb_of he hv, pt_of he (tr_of tr), fun op vs p z => by subst z; exact tr.elim, (fun z => by rw [hf] at z; cases z), fun x i p' pos h1 h2 h3 => ⟨set_nc hN hc he x i p' pos h1 h2 h3, fun z => by rw [hf] at z; cases z⟩⟩
/-- a test -/
theorem Gd.tst (hN : X.N.Nodup) (pl : plainE e) (hc : isComp e = false) (hv : ∀ i, ce ≠ .var i) (hf : fresh ce = false) (he : PEd X o W e ce) (pt : PTd X o W e ce) (pw : ∀ op vs p, e = .BoolOp op vs p → PW X e (tT X.K o W ce)) : Gd X o W e ce :=
  ⟨(plain_ns pl).1, (plain_ns pl).2.1, (plain_ns pl).2.2, he, pb_of he hv, pt, pw, (fun z => by rw [hf] at z; cases z), fun x i p' pos h1 h2 h3 => ⟨set_nc hN hc he x i p' pos h1 h2 h3, fun z => by rw [hf] at z; cases z⟩⟩
theorem asg_of {x : Str} {i : Nat} {p' pos : Pos} (h : PAt X x i e p' pos (tF X.K o W ce)) : PAt X x i e p' pos (tE X.K o W ce) := psImp h fun D σ H ⟨c₀, env, c, hH, fr, p⟩ => ⟨c₀, env, c, hH, fr, .of p⟩
/-- a new object -/
theorem Gd.new (pl : plainE e) (tr : TrE e) (hv : ∀ i, ce ≠ .var i) (hf : PFd X o W e ce) (st : ∀ (x : Str) (i : Nat) (p' pos : Pos), X.N[i]? = some x → Loc X.env.scope x → (X.fn x = true ∨ X.env.scope.names.lookup x = some .local) → PAt X x i e p' pos (tF X.K o W ce)) : Gd X o W e ce :=
  ⟨(plain_ns pl).1, (plain_ns pl).2.1, (plain_ns pl).2.2, pe_fresh hf, pb_of (pe_fresh hf) hv, pt_of (pe_fresh hf) (tr_of tr), fun op vs p z => by subst z; exact tr.elim, fun _ => hf, fun x i p' pos h1 h2 h3 => ⟨asg_of (st x i p' pos h1 h2 h3), fun _ => st x i p' pos h1 h2 h3⟩⟩
theorem mat_imp {σ : L2.St} {H : Hp} {Q : VK} (h : tE X.K o W (.mat ce) σ H Q) : tF X.K o W ce σ H Q := by
  obtain ⟨c₀, env, c, hH, fr, p⟩ := h
  refine ⟨c₀, env, c, hH, fr, ?_⟩
  simp only [evalE] at p
  split at p
  · have q := p
    revert q
    generalize evalE o ce env c.st = m
    intro q
    cases m with
    | none => exact q
    | some r =>
      obtain ⟨r, st⟩ := r
      cases r with
      | ex C ns ds => exact q
      | ok d =>
        intro c1 ho e1 s1 k1 hr p hp
        have fin : ∀ d, HoR X.K c1 d ho → Post X.K (RV X.K) (fun cls d H => W cls d σ H) c (some (.ok (.loc st.length), st ++ [d])) Q → Q (.ref p) (upd c1.H p ho) := fun d hr q => by
          subst e1
          refine q (c1.mat p d ho) (.ref p) rfl (s1.trans (Step.mat hp)) (k1.mat hp hr) ?_
          simp only [RV]
          refine ⟨?_, ?_⟩
          · show V.ref p = .ref (if c1.st.length = c1.st.length then p else c1.ρ c1.st.length)
            rw [if_pos rfl]
          · show c1.st.length < (c1.st ++ [d]).length
            rw [List.length_append]; exact Nat.lt_succ_self _
        cases d with
        | lst ds => exact fin _ hr q
        | dic ks ds => exact fin _ hr q
        | dit ks ds => exact fin _ hr q
        | _ => exact q.elim
  · exact p.elim
/-- a place of the store, where the hint tells so -/
theorem Gd.matd {h : Hint} {p : Pos} (g : Gd X o W e ce) (tr : TrE e) : Gd X o W e (matd h p ce) := by
  unfold DI.matd
  split
  · rename_i hc
    simp only [Bool.and_eq_true] at hc
    have he : PEd X o W e (.mat ce) := peImp (g.pf hc.2) fun σ H Q q => mat_imp q
    exact ⟨g.ns, g.ix, g.ds, he, pb_of he (fun i z => by cases z), pt_of he (tr_of tr), fun op vs p z => by subst z; exact tr.elim, (fun z => by cases z), fun x i p' pos h1 h2 h3 => ⟨psImp ((g.set x i p' pos h1 h2 h3).2 hc.2) fun D σ H q => mat_imp q, fun z => by cases z⟩⟩
  · exact g
end
theorem idxOf_get {α : Type} [BEq α] [LawfulBEq α] {l : List α} {x : α} {i : Nat} (h : l.idxOf? x = some i) : l[i]? = some x := by
  unfold List.idxOf? at h
  rw [List.findIdx?_eq_some_iff_getElem] at h
  obtain ⟨h1, h2, _⟩ := h
  rw [List.getElem?_eq_getElem h1]
  exact congrArg some (by simpa using h2)
section
variable {S : SI} {h : Hint} {o : Orc} {X : Cx} {W : WX} {sc : Scope} {x : Str} {i : Nat}
theorem vis_ok (g : GOk S h o X W) (hs : X.env.scope = sc) (hv : visIx h sc x = some i) : NmOk X x i := by
  unfold visIx at hv
  split at hv
  · rename_i hc
    have hi := idxOf_get (show h.N.idxOf? x = some i from hv)
    have hm : x ∈ h.N := List.mem_of_getElem? hi
    refine ⟨by rw [g.N]; exact hi, ?_, (g.names x hm).1, (g.names x hm).2⟩
    unfold isVis at hc
    rw [← hs] at hc
    split at hc <;> first | (cases hc; done) | skip
    · exact .inl (by assumption)
    · exact .inr (.inl (by assumption))
    · exact .inr (.inr (by assumption))
  · cases hv
theorem gl_ok (hs : X.env.scope = sc) (hg : isGl sc x = true) : Gl X x := by
  unfold isGl at hg
  rw [← hs] at hg
  split at hg
  · assumption
  · cases hg
theorem loc_ok (g : GOk S h o X W) (hs : X.env.scope = sc) (hv : locIx h sc x = some i) : X.N[i]? = some x ∧ Loc X.env.scope x := by
  unfold locIx at hv
  split at hv
  · rename_i hc
    have hi := idxOf_get (show h.N.idxOf? x = some i from hv)
    refine ⟨by rw [g.N]; exact hi, ?_⟩
    unfold isLoc at hc
    rw [← hs] at hc
    split at hc <;> first | (cases hc; done) | skip
    · exact .inl (by assumption)
    · exact .inr (by assumption)
  · cases hv
end
end DI
/-! DI: what compiles is sound: the induction for expressions. -/
set_option maxHeartbeats 8000000
namespace DI
open PySem PySem.Spec PyProof.Rows L2
structure GdL (X : Cx) (o : Orc) (W : WX) (es : List Expr) (ces : List CE) : Prop where
  pa : PAd X o W es ces
  len : es.length = ces.length
  ns : NSs es
  all : PEall X o W es ces
/-- what gives pairs gives them to a tuple -/
def okT (ci : CE) (tgE : Expr) : Prop := match ci with
  | .enum _ => ∃ elts k p, tgE = .Tuple elts k p
  | .zip _ _ => ∃ elts k p, tgE = .Tuple elts k p
  | _ => True
structure GdI (X : Cx) (o : Orc) (W : WX) (it : Expr) (ci : CE) : Prop where
  pi : ∀ tgE, okT ci tgE → PIF X o W tgE it ci ∧ PIB X o W tgE it ci
  fs : ∀ env x, foldedSetIterable it env x = pure x
section
variable {S : SI} {h : Hint} {o : Orc}
abbrev IHE (S : SI) (h : Hint) (o : Orc) (n : Nat) : Prop := ∀ {X : Cx} {W : WX} {sc : Scope} {e : Expr} {ce : CE}, GOk S h o X W → X.env.scope = sc → cE S h n sc e = some ce → Gd X o W e ce
abbrev IHL (S : SI) (h : Hint) (o : Orc) (n : Nat) : Prop := ∀ {X : Cx} {W : WX} {sc : Scope} {es : List Expr} {ces : List CE}, GOk S h o X W → X.env.scope = sc → cL S h n sc es = some ces → GdL X o W es ces
abbrev IHI (S : SI) (h : Hint) (o : Orc) (n : Nat) : Prop := ∀ {X : Cx} {W : WX} {sc : Scope} {e : Expr} {ce : CE}, GOk S h o X W → X.env.scope = sc → cI S h n sc e = some ce → GdI X o W e ce
abbrev IHC (S : SI) (h : Hint) (o : Orc) (n : Nat) : Prop := ∀ {X : Cx} {W : WX} {sc : Scope} {x : Str} {as : List Expr} {e : Expr} {ce : CE}, GOk S h o X W → X.env.scope = sc → cCall S h n sc x as e = some ce → Gd X o W e ce
theorem lstep {n : Nat} (ihE : IHE S h o n) (ihL : IHL S h o n) : IHL S h o (n + 1) := by
  intro X W sc es ces g hs hc
  unfold cL at hc
  cases es with
  | nil => cases hc; exact ⟨d_nil, rfl, trivial, .nil⟩
  | cons e es =>
    simp only [Option.bind_eq_bind, Option.bind_eq_some_iff] at hc
    obtain ⟨ce, h1, ces', h2, h3⟩ := hc
    cases h3
    have g1 := ihE g hs h1
    have g2 := ihL g hs h2
    exact ⟨d_cons g1.pe g2.pa (star_cons g1.ns), by rw [List.length_cons, List.length_cons, g2.len], ⟨g1.ns, g2.ns⟩, .cons g1.pe g2.all⟩
theorem gl1 {X : Cx} {W : WX} {sc : Scope} {x : Str} {b : Bool} (g : GOk S h o X W) (hs : X.env.scope = sc) (hx : x ∈ bltNames) (hg : isGl sc x = true) : Gl X x ∧ X.mg x = none := ⟨gl_ok hs hg, g.blt x hx⟩
theorem okT_var {ci : CE} {tgE : Expr} {i : Nat} (h : okTg ci (.var i) = true) : okT ci tgE := by
  cases ci <;> first | exact trivial | cases h
theorem gdi_val {X : Cx} {W : WX} {e : Expr} {ce : CE} (g : Gd X o W e ce) (hf : ∀ env x, foldedSetIterable e env x = pure x) : GdI X o W e ce := ⟨fun tgE _ => by
  refine ⟨pif_val g.pe, ?_⟩
  by_cases hv : ∃ i, ce = .var i
  · obtain ⟨i, rfl⟩ := hv
    exact pib_var g.pb
  · exact pib_of (pif_val g.pe) fun i z => hv ⟨i, z⟩, hf⟩
theorem fsi {e : Expr} (h : ∀ es k p, e ≠ .Set es k p) : ∀ env x, foldedSetIterable e env x = pure x := by
  intro env x
  cases e <;> first | rfl | exact absurd rfl (h _ _ _)
theorem istep {n : Nat} (ihE : IHE S h o n) : IHI S h o (n + 1) := by
  intro X W sc e ce g hs hc
  have val : ∀ {e : Expr} {ce : CE}, cE S h n sc e = some ce → GdI X o W e ce := fun {e ce} hc => gdi_val (ihE g hs hc) (fsi (ihE g hs hc).ds)
  unfold cI at hc
  split at hc
  · rename_i x px a p
    split at hc
    · rename_i hg
      simp only [Bool.and_eq_true, decide_eq_true_eq] at hg
      obtain ⟨hg, rfl⟩ := hg
      rw [Option.map_eq_some_iff] at hc
      obtain ⟨ca, h1, rfl⟩ := hc
      have g1 := ihE g hs h1
      exact ⟨fun tgE _ => ⟨pif_rng1 (gl_ok hs hg) (g.blt _ (by decide)) (star_cons g1.ns) g1.pe, pib_of (pif_rng1 (gl_ok hs hg) (g.blt _ (by decide)) (star_cons g1.ns) g1.pe) fun i z => by cases z⟩, fun _ _ => rfl⟩
    · split at hc
      · rename_i hg
        simp only [Bool.and_eq_true, decide_eq_true_eq] at hg
        obtain ⟨hg, rfl⟩ := hg
        rw [Option.map_eq_some_iff] at hc
        obtain ⟨ca, h1, rfl⟩ := hc
        have g1 := ihE g hs h1
        refine ⟨fun tgE ht => ?_, fun _ _ => rfl⟩
        obtain ⟨elts, k, p, rfl⟩ := ht
        have q := pif_enum (elts := elts) (kk := k) (tpos := p) (p := px) (pos := ‹Pos›) (gl_ok hs hg) (g.blt _ (by decide)) (star_cons g1.ns) g1.pe
        exact ⟨pif_enum (gl_ok hs hg) (g.blt _ (by decide)) (star_cons g1.ns) g1.pe, pib_of (pif_enum (gl_ok hs hg) (g.blt _ (by decide)) (star_cons g1.ns) g1.pe) fun i z => by cases z⟩
      · exact val hc
  · rename_i x px a b p
    split at hc
    · rename_i hg
      simp only [Bool.and_eq_true, decide_eq_true_eq] at hg
      obtain ⟨hg, rfl⟩ := hg
      simp only [Option.bind_eq_bind, Option.bind_eq_some_iff] at hc
      obtain ⟨ca, h1, cb, h2, h3⟩ := hc
      cases h3
      have g1 := ihE g hs h1
      have g2 := ihE g hs h2
      exact ⟨fun tgE _ => ⟨pif_rng2 (gl_ok hs hg) (g.blt _ (by decide)) (star_cons g1.ns) (star_cons g2.ns) g1.pe g2.pe, pib_of (pif_rng2 (gl_ok hs hg) (g.blt _ (by decide)) (star_cons g1.ns) (star_cons g2.ns) g1.pe g2.pe) fun i z => by cases z⟩, fun _ _ => rfl⟩
    · split at hc
      · rename_i hg
        simp only [Bool.and_eq_true, decide_eq_true_eq] at hg
        obtain ⟨hg, rfl⟩ := hg
        simp only [Option.bind_eq_bind, Option.bind_eq_some_iff] at hc
        obtain ⟨ca, h1, cb, h2, h3⟩ := hc
        cases h3
        have g1 := ihE g hs h1
        have g2 := ihE g hs h2
        refine ⟨fun tgE ht => ?_, fun _ _ => rfl⟩
        obtain ⟨elts, k, p, rfl⟩ := ht
        exact ⟨pif_zip (gl_ok hs hg) (g.blt _ (by decide)) (star_cons g1.ns) (star_cons g2.ns) g1.pe g2.pe, pib_of (pif_zip (gl_ok hs hg) (g.blt _ (by decide)) (star_cons g1.ns) (star_cons g2.ns) g1.pe g2.pe) fun i z => by cases z⟩
      · exact val hc
  · exact val hc
theorem cstep {n : Nat} (ihL : IHL S h o n) : IHC S h o (n + 1) := by
  intro X W sc x as e ce g hs hc
  unfold cCall at hc
  split at hc
  · rename_i y py es p
    split at hc
    · rename_i hg
      split at hc
      · rename_i f hf
        rw [Option.map_eq_some_iff] at hc
        obtain ⟨ces, h1, rfl⟩ := hc
        have g1 := ihL g hs h1
        obtain ⟨hd, a, m, k, q1, q2, q3, q4, q5⟩ := g.fns f y hf
        exact .val g.nd trivial rfl trivial (fun i z => by cases z) rfl (d_call q3 q4 g.tk (gl_ok hs hg) q1 q2 hd g1.ns g1.len g1.pa)
      · split at hc
        · rename_i f hf
          rw [Option.map_eq_some_iff] at hc
          obtain ⟨ces, h1, rfl⟩ := hc
          have g1 := ihL g hs h1
          obtain ⟨hd, fa, m, k, q1, q2, q3, q4⟩ := g.mkr y f hf
          exact .val g.nd trivial rfl trivial (fun i z => by cases z) rfl (d_make q1 q2 q3 g.tk (gl_ok hs hg) q4 hd g1.ns g1.len g1.pa)
        · cases hc
    · cases hc
  · cases hc
theorem plainIx_of {b : Expr} (h : IxE b) : PlainIx b := by
  intro o i
  cases b <;> first | exact h.elim | rfl
theorem cTy_name {t : Str} {ty : Ty} (h : cTy t = some ty) : t = (tyName ty : Str) := by
  unfold cTy at h
  repeat' (split at h)
  all_goals first | (cases h; assumption) | cases h
/-- targets in a block -/
theorem blk_name {X : Cx} {W : WX} {scope : Scope} {x : Str} {p : Pos} {i : Nat} (g : GOk S h o X W) (hv : locIx h scope x = some i) : Blk X scope fun Y => PG Y (.Name x p) (gName i) := by
  intro s H C cl fp
  unfold locIx at hv
  split at hv
  · rename_i hc
    have hi := idxOf_get (show h.N.idxOf? x = some i from hv)
    have hk : scope.names.lookup x = some .local ∨ scope.names.lookup x = some .cell := by
      unfold isLoc at hc
      split at hc <;> first | (cases hc; done) | skip
      · exact .inl (by assumption)
      · exact .inr (by assumption)
    have kp : ∀ {k : NameKind}, k ≠ .free → scope.names.lookup x = some k → (relS scope X.env.scope).names.lookup x = some k := fun {k} hne hl => lookup_relS_keep hne hl
    rcases hk with hk | hk
    · exact pg_name (X := X.blk s H scope (compEnvC scope cl C X.env) fp) g.nd (by show X.N[i]? = _; rw [g.N]; exact hi) (.inl (kp (by intro z; cases z) hk)) (.inr (kp (by intro z; cases z) hk))
    · exact pg_name (X := X.blk s H scope (compEnvC scope cl C X.env) fp) g.nd (by show X.N[i]? = _; rw [g.N]; exact hi) (.inr (kp (by intro z; cases z) hk)) (.inl (by show (scope.names.lookup x == some .cell) = true; rw [hk]; rfl))
  · cases hv
theorem assign_names {ts : List Expr} {env : PySem.Env} (h : ∀ t ∈ ts, ∃ x p, t = Expr.Name x p) : (assignEach ts env).length = ts.length ∧ (assignEach ts env).findIdx? (·.1) = none ∧ True := by
  induction ts with
  | nil => exact ⟨rfl, rfl, trivial⟩
  | cons t ts ih =>
    obtain ⟨x, p, rfl⟩ := h _ List.mem_cons_self
    obtain ⟨h1, h2, _⟩ := ih fun t ht => h t (List.mem_cons_of_mem _ ht)
    refine ⟨?_, ?_, trivial⟩
    · show ((false, assign (.Name x p) env) :: assignEach ts env).length = _
      rw [List.length_cons, h1, List.length_cons]
    · show ((false, assign (.Name x p) env) :: assignEach ts env).findIdx? (·.1) = none
      rw [List.findIdx?_cons, h2]
      rfl
theorem blk_tg {X : Cx} {W : WX} {scope : Scope} {tg : Expr} {ctg : Tg} (g : GOk S h o X W) (hv : cTg h scope tg = some ctg) : Blk X scope fun Y => PG Y tg (gTg X.K ctg) := by
  unfold cTg at hv
  split at hv
  · rename_i x p
    rw [Option.map_eq_some_iff] at hv
    obtain ⟨i, h1, rfl⟩ := hv
    exact blk_name g h1
  · rename_i x px y py k p
    simp only [Option.bind_eq_bind, Option.bind_eq_some_iff] at hv
    obtain ⟨i, h1, j, h2, h3⟩ := hv
    split at h3
    · cases h3
      intro s H C cl fp
      exact pg_tup (X := X.blk s H scope (compEnvC scope cl C X.env) fp) g.calm (pgs_cons (blk_name g h1 s H C cl fp) (pgs_cons (blk_name g h2 s H C cl fp) pgs_nil rfl) rfl) rfl rfl
    · cases h3
  · cases hv
theorem okT_tg {ci : CE} {scope : Scope} {tg : Expr} {ctg : Tg} (hv : cTg h scope tg = some ctg) (hk : okTg ci ctg = true) : okT ci tg := by
  unfold cTg at hv
  split at hv
  · rw [Option.map_eq_some_iff] at hv
    obtain ⟨i, h1, rfl⟩ := hv
    exact okT_var hk
  · cases ci <;> first | exact trivial | exact ⟨_, _, _, rfl⟩
  · cases hv
theorem sameIx_ok {a b : List Nat} (h : sameIx a b = true) : (∀ k ∈ b, k ∈ a) ∧ (∀ k ∈ a, k ∈ b) := by
  unfold sameIx at h
  simp only [Bool.and_eq_true, List.all_eq_true, decide_eq_true_eq] at h
  exact ⟨h.2, h.1⟩
/-- a comprehension's name in a store: swapped or not -/
theorem swaps_two {e : Expr} {x : Str} {p' : Pos} {line : Nat} {env : PySem.Env} (hk : ∃ el gs sc p, e = .ListComp el gs sc p) : swapsWith e (some (.Name x p')) line env = pure false ∨ (swapsWith e (some (.Name x p')) line env = pure true ∧ env.kindOf x = some .local) := by
  obtain ⟨el, gs, sc, p, rfl⟩ := hk
  show (pure (env.blockKind == .function && env.kindOf x == some .local && p'.line == (Expr.ListComp el gs sc p).pos.line && !(sc.names.any fun (n, k) => n == x && (k == .local || k == .cell))) : Sem Bool) = _ ∨ (pure _ = pure true ∧ _)
  cases hb : (env.blockKind == .function && env.kindOf x == some .local && p'.line == (Expr.ListComp el gs sc p).pos.line && !(sc.names.any fun (n, k) => n == x && (k == .local || k == .cell))) with
  | false => exact .inl rfl
  | true =>
    refine .inr ⟨rfl, ?_⟩
    simp only [Bool.and_eq_true, beq_iff_eq] at hb
    exact hb.1.1.2
theorem cE_set {n : Nat} {sc : Scope} {es : List Expr} {k : Nat} {p : Pos} : cE S h n sc (.Set es k p) = none := by
  cases n <;> simp only [cE]
theorem cI_fs {n : Nat} {sc : Scope} {it : Expr} {ci : CE} (hc : cI S h n sc it = some ci) : ∀ env x, foldedSetIterable it env x = pure x := fsi fun es k p z => by
  subst z
  cases n with
  | zero => simp only [cI] at hc; cases hc
  | succ n =>
    simp only [cI] at hc
    rw [cE_set] at hc
    cases hc
theorem estep {n : Nat} (ihE : IHE S h o n) (ihL : IHL S h o n) (ihI : IHI S h o n) (ihC : IHC S h o n) : IHE S h o (n + 1) := by
  intro X W sc e ce g hs hc
  have u1 : X.A.units + 1 < cLine := by have := g.u64; omega
  unfold cE at hc
  split at hc
  · cases hc; exact .val g.nd trivial rfl trivial (fun i z => by cases z) rfl d_int
  · cases hc; exact .val g.nd trivial rfl trivial (fun i z => by cases z) rfl d_bl
  · cases hc; exact .val g.nd trivial rfl trivial (fun i z => by cases z) rfl d_non
  · cases hc; exact .val g.nd trivial rfl trivial (fun i z => by cases z) rfl d_str
  · -- a name
    rename_i x px
    split at hc
    · rename_i i hv
      cases hc
      have nm := vis_ok g hs hv
      have he : PEd X o W (.Name x px) (.var i) := d_var nm.at_ nm.vis nm.hd nm.hcd
      exact ⟨trivial, trivial, (fun _ _ _ z => by cases z), he, d_varB nm.at_ nm.vis nm.hd nm.hcd, pt_of he (tr_of trivial), (fun _ _ _ z => by cases z), (fun z => by cases z), fun x i p' pos h1 h2 h3 => ⟨set_nc g.nd rfl he x i p' pos h1 h2 h3, fun z => by cases z⟩⟩
    · split at hc
      · rename_i hg
        rw [Option.map_eq_some_iff] at hc
        obtain ⟨d, hd, rfl⟩ := hc
        obtain ⟨hdb, q⟩ := g.cons x d hd
        rcases q with ⟨i, tk, rfl, hm⟩ | ⟨i, tk, rfl, hm⟩
        · exact .val g.nd trivial rfl trivial (fun i z => by cases z) rfl (d_globI (gl_ok hs hg) hm hdb)
        · exact .val g.nd trivial rfl trivial (fun i z => by cases z) rfl (d_globS (gl_ok hs hg) hm hdb)
      · cases hc
  · -- a tuple
    rw [Option.map_eq_some_iff] at hc
    obtain ⟨ces, h1, rfl⟩ := hc
    exact .val g.nd trivial rfl trivial (fun i z => by cases z) rfl (d_tup (ihL g hs h1).pa)
  · rw [Option.map_eq_some_iff] at hc
    obtain ⟨ces, h1, rfl⟩ := hc
    have hf := f_lst (pos := ‹Pos›) (ihL g hs h1).pa
    exact Gd.matd (.new trivial trivial (fun i z => by cases z) (f_lst (ihL g hs h1).pa) (set_nc g.nd rfl (f_lst (ihL g hs h1).pa))) trivial
  · split at hc
    · cases hc
      exact .new trivial trivial (fun i z => by cases z) f_dit0 (set_nc g.nd rfl f_dit0)
    · cases hc
      exact Gd.matd (.new trivial trivial (fun i z => by cases z) f_dic0 (set_nc g.nd rfl f_dic0)) trivial
  · -- a dict display
    rename_i ks es p _
    simp only [Option.bind_eq_bind, Option.bind_eq_some_iff] at hc
    obtain ⟨ks', h1, ces, h2, h3⟩ := hc
    split at h3
    · rename_i hq
      cases h3
      simp only [Bool.and_eq_true, decide_eq_true_eq] at hq
      obtain ⟨⟨q1, q2⟩, q3⟩ := hq
      have g1 := ihL g hs h2
      have hf : ∀ {p}, PFd X o W (.Dict ks es p) (.dic ks' ces) := f_dic h1 (by rw [q2, g1.len]) q2 q1 (by intro z; subst z; cases q3) g1.all
      exact Gd.matd (.new trivial trivial (fun i z => by cases z) hf (set_nc g.nd rfl hf)) trivial
    · cases h3
  · -- an operator
    rename_i a op b p
    simp only [Option.bind_eq_bind, Option.bind_eq_some_iff] at hc
    obtain ⟨op', h1, ca, h2, cb, h3, h4⟩ := hc
    cases h4
    have g1 := ihE g hs h2
    have g2 := ihE g hs h3
    have eo : op = opOf op' := by
      cases op <;> simp only [cBin, Option.some.injEq] at h1 <;> first | (cases h1; done) | (subst h1; rfl)
    subst eo
    exact .val g.nd trivial rfl trivial (fun i z => by cases z) rfl (d_bin op' g1.pb g2.pb)
  · rw [Option.map_eq_some_iff] at hc
    obtain ⟨ca, h1, rfl⟩ := hc
    exact .val g.nd trivial rfl trivial (fun i z => by cases z) rfl (d_neg (ihE g hs h1).pe)
  · rw [Option.map_eq_some_iff] at hc
    obtain ⟨ca, h1, rfl⟩ := hc
    have g1 := ihE g hs h1
    exact .tst g.nd trivial rfl (fun i z => by cases z) rfl (d_notV g1.pe) (d_not g1.pt) (fun _ _ _ z => by cases z)
  · -- and
    simp only [Option.bind_eq_bind, Option.bind_eq_some_iff] at hc
    obtain ⟨ca, h1, cb, h2, h3⟩ := hc
    cases h3
    have g1 := ihE g hs h1
    have g2 := ihE g hs h2
    have pw : ∀ {p}, PW X (.BoolOp .And [_, _] p) (tT X.K o W (.and ca cb)) := fun {p} => d_andT g1.pt (pw_and1 (pos := p) g2.pt)
    exact .tst g.nd trivial rfl (fun i z => by cases z) rfl (d_andV g1.pe (pe_one g2.pe)) (PW.pt pw) (fun _ _ _ z => by cases z; exact pw)
  · simp only [Option.bind_eq_bind, Option.bind_eq_some_iff] at hc
    obtain ⟨ca, h1, cb, h2, h3⟩ := hc
    cases h3
    have g1 := ihE g hs h1
    have g2 := ihE g hs h2
    have pw := d_andT g1.pt (g2.pw _ _ _ rfl)
    exact .tst g.nd trivial rfl (fun i z => by cases z) rfl (d_andV g1.pe g2.pe) pw.pt (fun _ _ _ z => by cases z; exact pw)
  · -- or
    simp only [Option.bind_eq_bind, Option.bind_eq_some_iff] at hc
    obtain ⟨ca, h1, cb, h2, h3⟩ := hc
    cases h3
    have g1 := ihE g hs h1
    have g2 := ihE g hs h2
    have pw : ∀ {p}, PW X (.BoolOp .Or [_, _] p) (tT X.K o W (.or ca cb)) := fun {p} => d_orT g1.pt (pw_or1 (pos := p) g2.pt)
    exact .tst g.nd trivial rfl (fun i z => by cases z) rfl (d_orV g1.pe (pe_one g2.pe)) (PW.pt pw) (fun _ _ _ z => by cases z; exact pw)
  · simp only [Option.bind_eq_bind, Option.bind_eq_some_iff] at hc
    obtain ⟨ca, h1, cb, h2, h3⟩ := hc
    cases h3
    have g1 := ihE g hs h1
    have g2 := ihE g hs h2
    have pw := d_orT g1.pt (g2.pw _ _ _ rfl)
    exact .tst g.nd trivial rfl (fun i z => by cases z) rfl (d_orV g1.pe g2.pe) pw.pt (fun _ _ _ z => by cases z; exact pw)
  · -- is None
    rw [Option.map_eq_some_iff] at hc
    obtain ⟨ca, h1, rfl⟩ := hc
    have g1 := ihE g hs h1
    exact .tst g.nd trivial rfl (fun i z => by cases z) rfl (d_cmp .isN g.u64 g1.pb (pb_of d_non fun i z => by cases z) rfl) (d_cmpT .isN g.u64 g1.pb (pb_of d_non fun i z => by cases z) rfl) (fun _ _ _ z => by cases z)
  · rw [Option.map_eq_some_iff] at hc
    obtain ⟨ca, h1, rfl⟩ := hc
    have g1 := ihE g hs h1
    exact .tst g.nd trivial rfl (fun i z => by cases z) rfl (d_cmp .notN g.u64 g1.pb (pb_of d_non fun i z => by cases z) rfl) (d_cmpT .notN g.u64 g1.pb (pb_of d_non fun i z => by cases z) rfl) (fun _ _ _ z => by cases z)
  · -- a comparison
    rename_i a op b p _ _
    simp only [Option.bind_eq_bind, Option.bind_eq_some_iff] at hc
    obtain ⟨op', h1, ca, h2, cb, h3, h4⟩ := hc
    cases h4
    have g1 := ihE g hs h2
    have g2 := ihE g hs h3
    have eo : op = cmpOf op' := by
      cases op <;> simp only [cCmp, Option.some.injEq] at h1 <;> first | (cases h1; done) | (subst h1; rfl)
    subst eo
    have hm : behindInMarks (cmpOf op') b = false := by
      cases b <;> first | rfl | exact absurd rfl (g2.ds _ _ _)
    exact .tst g.nd trivial rfl (fun i z => by cases z) rfl (d_cmp op' g.u64 g1.pb g2.pb hm) (d_cmpT op' g.u64 g1.pb g2.pb hm) (fun _ _ _ z => by cases z)
  · rename_i a op op2 b d p
    simp only [Option.bind_eq_bind, Option.bind_eq_some_iff] at hc
    obtain ⟨op', h1, op2', h2, ca, h3, cb, h4, cd, h5, h6⟩ := hc
    cases h6
    have g1 := ihE g hs h3
    have g2 := ihE g hs h4
    have g3 := ihE g hs h5
    have eo : op = cmpOf op' := by
      cases op <;> simp only [cOrd, Option.some.injEq] at h1 <;> first | (cases h1; done) | (subst h1; rfl)
    have eo2 : op2 = cmpOf op2' := by
      cases op2 <;> simp only [cOrd, Option.some.injEq] at h2 <;> first | (cases h2; done) | (subst h2; rfl)
    subst eo eo2
    have hm : lastMarks [cmpOf op', cmpOf op2'] [b, d] = false := by
      cases d <;> first | rfl | exact absurd rfl (g3.ds _ _ _)
    exact .tst g.nd trivial rfl (fun i z => by cases z) rfl (d_chain g.u64 g1.pe g2.pe g3.pe hm) (d_chainT g.u64 g1.pe g2.pe g3.pe hm) (fun _ _ _ z => by cases z)
  · -- if-expression
    simp only [Option.bind_eq_bind, Option.bind_eq_some_iff] at hc
    obtain ⟨ct, h1, ca, h2, cb, h3, h4⟩ := hc
    cases h4
    have g1 := ihE g hs h1
    have g2 := ihE g hs h2
    have g3 := ihE g hs h3
    exact .tst g.nd trivial rfl (fun i z => by cases z) rfl (d_ite g1.pt g2.pe g3.pe) (pt_ite g1.pt g2.pt g3.pt) (fun _ _ _ z => by cases z)
  · -- isinstance
    rename_i x px a t pt p
    split at hc
    · rename_i hg
      simp only [Bool.and_eq_true, decide_eq_true_eq] at hg
      obtain ⟨⟨hg, rfl⟩, hg2⟩ := hg
      simp only [Option.bind_eq_bind, Option.bind_eq_some_iff] at hc
      obtain ⟨ty, h1, ca, h2, h3⟩ := hc
      cases h3
      have et := cTy_name h1
      subst et
      have g1 := ihE g hs h2
      exact .val g.nd trivial rfl trivial (fun i z => by cases z) rfl (d_isi (gl_ok hs hg) (g.blt _ (by decide)) (gl_ok hs hg2) (g.blt _ (by cases ty <;> decide)) (star_cons g1.ns) g1.pe)
    · exact ihC g hs hc
  · -- a call with one argument
    rename_i _ x px a p
    split at hc
    · rename_i hg
      split at hc
      · rename_i b hb
        have hG : Gl X x := gl_ok hs hg
        split at hc
        · rename_i q hq
          split at hc
          · rename_i hbb
            rw [Option.map_eq_some_iff] at hc
            obtain ⟨cq, h1, rfl⟩ := hc
            have g1 := ihE g hs h1
            unfold isRange at hq
            split at hq
            · rename_i y py q' pq
              split at hq
              · rename_i hr
                simp only [Bool.and_eq_true, decide_eq_true_eq] at hr
                obtain ⟨hr, rfl⟩ := hr
                cases hq
                simp only [Bool.or_eq_true, decide_eq_true_eq] at hbb
                rcases hbb with rfl | rfl
                · have ex : x = "list" := by
                    revert hb
                    unfold cFn
                    repeat' split
                    all_goals first | (intro z; cases z; done) | (intro _; assumption)
                  subst ex
                  have hf : ∀ {p}, PFd X o W (.Call (.Name "list" px) [.Call (.Name "range" py) [_] [] pq] [] p) (.fn .list (.rng1 cq)) := f_listRg g.calm hG (g.blt _ (by decide)) (gl_ok hs hr) (g.blt _ (by decide)) (star_cons g1.ns) g1.pe
                  exact Gd.matd (.new trivial trivial (fun i z => by cases z) hf (set_nc g.nd rfl hf)) trivial
                · have ex : x = "tuple" := by
                    revert hb
                    unfold cFn
                    repeat' split
                    all_goals first | (intro z; cases z; done) | (intro _; assumption)
                  subst ex
                  have hm : DI.matd h p (.fn .tuple (.rng1 cq)) = .fn .tuple (.rng1 cq) := by
                    unfold DI.matd
                    rw [if_neg (by simp [fresh])]
                  rw [hm]
                  exact .val g.nd trivial rfl trivial (fun i z => by cases z) rfl (d_tupRg g.calm hG (g.blt _ (by decide)) (gl_ok hs hr) (g.blt _ (by decide)) (star_cons g1.ns) g1.pe)
              · cases hq
            · cases hq
          · cases hc
        · rw [Option.map_eq_some_iff] at hc
          obtain ⟨ca, h1, rfl⟩ := hc
          have g1 := ihE g hs h1
          have nf : ∀ {ce : CE}, fresh ce = false → DI.matd h p ce = ce := fun {ce} hf => by
            unfold DI.matd
            rw [if_neg (by rw [hf, Bool.and_false]; exact Bool.false_ne_true)]
          unfold cFn at hb
          split at hb
          · rename_i ex
            subst ex
            cases hb
            rw [nf rfl]
            exact .val g.nd trivial rfl trivial (fun i z => by cases z) rfl (d_len g.len hG (g.blt _ (by decide)) (star_cons g1.ns) g1.pb)
          split at hb
          · rename_i ex
            subst ex
            cases hb
            rw [nf rfl]
            exact .val g.nd trivial rfl trivial (fun i z => by cases z) rfl (d_fnT (by intro z; cases z) s_tuple hG (g.blt _ (by decide)) rfl (by decide) (by decide) (star_cons g1.ns) g1.pb)
          split at hb
          · rename_i ex
            subst ex
            cases hb
            have hf : ∀ {p}, PFd X o W (.Call (.Name "list" px) [a] [] p) (.fn .list ca) := f_fnR (by intro z; cases z) (pe_callTy s_list hG (g.blt _ (by decide)) rfl (pa1 g1.pb (star_cons g1.ns)) (by decide) (by decide) (star_cons g1.ns) rfl)
            exact Gd.matd (.new trivial trivial (fun i z => by cases z) hf (set_nc g.nd rfl hf)) trivial
          split at hb
          · rename_i ex
            subst ex
            cases hb
            rw [nf rfl]
            exact .val g.nd trivial rfl trivial (fun i z => by cases z) rfl (d_fnT (by intro z; cases z) s_int hG (g.blt _ (by decide)) rfl (by decide) (by decide) (star_cons g1.ns) g1.pb)
          split at hb
          · rename_i ex
            subst ex
            cases hb
            rw [nf rfl]
            exact .val g.nd trivial rfl trivial (fun i z => by cases z) rfl (d_fnB (by intro z; cases z) (s_any g.calm) hG (g.blt _ (by decide)) rfl (by decide) (by decide) (star_cons g1.ns) g1.pb)
          split at hb
          · rename_i ex
            subst ex
            cases hb
            rw [nf rfl]
            exact .val g.nd trivial rfl trivial (fun i z => by cases z) rfl (d_fnB (by intro z; cases z) (s_all g.calm) hG (g.blt _ (by decide)) rfl (by decide) (by decide) (star_cons g1.ns) g1.pb)
          split at hb
          · rename_i ex
            subst ex
            cases hb
            rw [nf rfl]
            exact .val g.nd trivial rfl trivial (fun i z => by cases z) rfl (d_fnB (by intro z; cases z) (s_sum g.calm) hG (g.blt _ (by decide)) rfl (by decide) (by decide) (star_cons g1.ns) g1.pb)
          split at hb
          · rename_i ex
            subst ex
            cases hb
            have hf : ∀ {p}, PFd X o W (.Call (.Name "sorted" px) [a] [] p) (.fn .sorted ca) := f_fnR (by intro z; cases z) (pe_callB s_sorted hG (g.blt _ (by decide)) rfl (pa1 g1.pb (star_cons g1.ns)) (by decide) (by decide) (star_cons g1.ns) rfl)
            exact Gd.matd (.new trivial trivial (fun i z => by cases z) hf (set_nc g.nd rfl hf)) trivial
          split at hb
          · rename_i ex
            subst ex
            cases hb
            rw [nf rfl]
            exact .val g.nd trivial rfl trivial (fun i z => by cases z) rfl (d_fnB (by intro z; cases z) s_repr hG (g.blt _ (by decide)) rfl (by decide) (by decide) (star_cons g1.ns) g1.pb)
          · cases hb
      · exact ihC g hs hc
    · cases hc
  · exact ihC g hs hc
  · -- sorted by length
    rename_i x px a k l kp p
    split at hc
    · rename_i hq
      simp only [Bool.and_eq_true, decide_eq_true_eq] at hq
      obtain ⟨⟨⟨⟨hg, rfl⟩, rfl⟩, hl⟩, hlam⟩ := hq
      rw [Option.map_eq_some_iff] at hc
      obtain ⟨ca, h1, rfl⟩ := hc
      have g1 := ihE g hs h1
      have hf : PFd X o W (.Call (.Name "sorted" px) [a] [⟨some "key", l, kp⟩] p) (.fn .sortedLen ca) := f_sortLen (g.lam hlam) g.rm (gl_ok hs hg) (g.blt _ (by decide)) (g.blt _ (by decide)) (star_cons g1.ns) hl g1.pb
      exact .new trivial trivial (fun i z => by cases z) hf (set_nc g.nd rfl hf)
    · cases hc
  · -- keywords alone
    rename_i x px ks p _
    split at hc
    · rename_i hg
      split at hc
      · rename_i f hf
        split at hc
        · rename_i ps hps
          split at hc
          · rename_i hks
            rw [Option.map_eq_some_iff] at hc
            obtain ⟨ces, h1, rfl⟩ := hc
            have g1 := ihL g hs h1
            obtain ⟨hd, a, m, k, q1, q2, q3, q4, q5⟩ := g.fns f x hf
            exact .val g.nd trivial rfl trivial (fun i z => by cases z) rfl (d_callKw (q5 ps hps) q4 g.tk (gl_ok hs hg) q1 q2 hd hks g1.all)
          · cases hc
        · cases hc
      · cases hc
    · cases hc
  · -- a method
    rename_i r m ap es cp
    split at hc
    · rename_i hq
      simp only [Bool.and_eq_true, decide_eq_true_eq] at hq
      obtain ⟨⟨q1, q2⟩, q3⟩ := hq
      simp only [Option.bind_eq_bind, Option.bind_eq_some_iff] at hc
      obtain ⟨cr, h1, ces, h2, h3⟩ := hc
      cases h3
      have g1 := ihE g hs h1
      have g2 := ihL g hs h2
      exact .val g.nd trivial rfl trivial (fun i z => by cases z) rfl (d_meth (g.meth m) g.tk q1 g2.ns q2 q3 g2.len g1.pe g2.pa)
    · cases hc
  · -- a field
    split at hc
    · rename_i hb
      rw [Option.map_eq_some_iff] at hc
      obtain ⟨ca, h1, rfl⟩ := hc
      exact .val g.nd trivial rfl trivial (fun i z => by cases z) rfl (d_attr (fun C hf => g.fld C _ hf) (abase hb) (ihE g hs h1).pe)
    · cases hc
  · -- x[::-1]
    rename_i r st p3 p
    split at hc
    · rename_i hm
      rw [Option.map_eq_some_iff] at hc
      obtain ⟨cr, h1, h2⟩ := hc
      have g1 := ihE g hs h1
      have est : ∃ k p1 p2, st = .UnaryOp .USub (.Constant (.int 1) k p1) p2 := by
        unfold minus1 at hm
        split at hm
        · exact ⟨_, _, _, rfl⟩
        · cases hm
      obtain ⟨k, p1, p2, rfl⟩ := est
      split at h2
      · subst h2
        have hf : ∀ {p}, PFd X o W (.Subscript r (.Slice none none (some (.UnaryOp .USub (.Constant (.int 1) k p1) p2)) p3) p) (.revl cr) := f_revl g1.pb
        exact Gd.matd (.new trivial trivial (fun i z => by cases z) hf (set_nc g.nd rfl hf)) trivial
      · subst h2
        exact .val g.nd trivial rfl trivial (fun i z => by cases z) rfl (d_rev g1.pb)
    · cases hc
  · rw [Option.map_eq_some_iff] at hc
    obtain ⟨ca, h1, rfl⟩ := hc
    exact .val g.nd trivial rfl trivial (fun i z => by cases z) rfl (d_slc00 (ihE g hs h1).pb)
  · simp only [Option.bind_eq_bind, Option.bind_eq_some_iff] at hc
    obtain ⟨ca, h1, cb, h2, h3⟩ := hc
    cases h3
    exact .val g.nd trivial rfl trivial (fun i z => by cases z) rfl (d_slc10 (ihE g hs h1).pb (ihE g hs h2).pe)
  · simp only [Option.bind_eq_bind, Option.bind_eq_some_iff] at hc
    obtain ⟨ca, h1, cb, h2, h3⟩ := hc
    cases h3
    exact .val g.nd trivial rfl trivial (fun i z => by cases z) rfl (d_slc01 (ihE g hs h1).pb (ihE g hs h2).pe)
  · simp only [Option.bind_eq_bind, Option.bind_eq_some_iff] at hc
    obtain ⟨ca, h1, cb, h2, cd, h3, h4⟩ := hc
    cases h4
    exact .val g.nd trivial rfl trivial (fun i z => by cases z) rfl (d_slc11 (ihE g hs h1).pb (ihE g hs h2).pe (ihE g hs h3).pe)
  · -- an item
    simp only [Option.bind_eq_bind, Option.bind_eq_some_iff] at hc
    obtain ⟨ca, h1, cb, h2, h3⟩ := hc
    cases h3
    have g2 := ihE g hs h2
    exact .val g.nd trivial rfl trivial (fun i z => by cases z) rfl (d_idx u1 (ihE g hs h1).pb g2.pe (plainIx_of g2.ix))
  · -- a comprehension
    rename_i el tg it ifs scope p
    simp only at hc
    split at hc
    · rename_i hb
      simp only [Option.bind_eq_bind, Option.bind_eq_some_iff] at hc
      obtain ⟨ctg, h1, ci, h2, cel, h3, h4⟩ := hc
      split at h4
      · rename_i hq
        simp only [Bool.and_eq_true] at hq
        obtain ⟨q1, q2⟩ := hq
        obtain ⟨v1, v2⟩ := sameIx_ok q2
        have gi := ihI g hs h2
        have ok : BlkOk X.N X.env.scope scope (ownOf h scope) := by rw [g.N, hs]; exact blkOk_by hb
        have hel : ∀ {e : Expr} {ce : CE}, cE S h n (relS scope sc) e = some ce → ∀ (s : Shared) (H : Hp) (C : Addr) (cl : List (Str × Addr)) (fp : List Addr), Gd (X.blk s H scope (compEnvC scope cl C X.env) fp) o W0 e ce := fun {e ce} hx s H C cl fp =>
          ihE (g.blk s H scope (compEnvC scope cl C X.env) fp ⟨rfl, rfl⟩) (by rw [← hs]; rfl) hx
        have fin : ∀ {ifs : List Expr} {cc : Option CE}, (Blk X scope fun Y => PTs Y ifs (ttC X.K o cc)) → ∀ {p}, Gd X o W (.ListComp el [⟨tg, it, ifs, 0⟩] scope p) (.comp cel ctg ci cc) := fun {ifs cc} ht {p} => by
          have hf := f_comp (elt := el) (pos := p) g.calm g.nd ok v1 v2 (gi.fs X.env) (gi.pi tg (okT_tg h1 q1)).2 (blk_tg g h1) ht (fun s H C cl fp => (hel h3 s H C cl fp).pe)
          refine .new trivial trivial (fun i z => by cases z) hf fun x i p' pos a1 a2 a3 => ?_
          rcases swaps_two (e := .ListComp el [⟨tg, it, ifs, 0⟩] scope p) (x := x) (p' := p') (line := pos.line) (env := X.env) ⟨_, _, _, _, rfl⟩ with hw | ⟨hw, hl⟩
          · exact ps_set g.nd a1 a2 hf hw a3
          · exact set_comp g.calm g.nd ok v1 v2 (gi.fs X.env) (gi.pi tg (okT_tg h1 q1)).2 (blk_tg g h1) ht (fun s H C cl fp => (hel h3 s H C cl fp).pe) a1 hl hw
        split at h4
        · cases h4
          exact Gd.matd (fin fun s H C cl fp => pts_nil) trivial
        · rw [Option.map_eq_some_iff] at h4
          obtain ⟨cc, h5, rfl⟩ := h4
          exact Gd.matd (fin fun s H C cl fp => pts_one (hel h5 s H C cl fp).pt) trivial
        · cases h4
      · cases h4
    · cases hc
  · -- two clauses
    rename_i el x px it y py it2 scope p
    simp only at hc
    split at hc
    · rename_i hb
      simp only [Option.bind_eq_bind, Option.bind_eq_some_iff] at hc
      obtain ⟨i, h1, j, h2, ci, h3, ci2, h4, cel, h5, h6⟩ := hc
      split at h6
      · rename_i hq
        cases h6
        simp only [Bool.and_eq_true, decide_eq_true_eq] at hq
        obtain ⟨⟨⟨q0, q1⟩, q2⟩, q3⟩ := hq
        obtain ⟨v1, v2⟩ := sameIx_ok q3
        have gi := ihI g hs h3
        have ok : BlkOk X.N X.env.scope scope (ownOf h scope) := by rw [g.N, hs]; exact blkOk_by hb
        have gb : ∀ (s : Shared) (H : Hp) (C : Addr) (cl : List (Str × Addr)) (fp : List Addr), GOk S h o (X.blk s H scope (compEnvC scope cl C X.env) fp) W0 := fun s H C cl fp => g.blk s H scope (compEnvC scope cl C X.env) fp ⟨rfl, rfl⟩
        have hel : Blk X scope fun Y => PEd Y o W0 el cel := fun s H C cl fp => (ihE (gb s H C cl fp) (by rw [← hs]; rfl) h5).pe
        have hi2 : Blk X scope fun Y => PIF Y o W0 (.Name y py) it2 ci2 := fun s H C cl fp => ((ihI (gb s H C cl fp) (by rw [← hs]; rfl) h4).pi _ (okT_var q2)).1
        have fs2 : ∀ env x, foldedSetIterable it2 env x = pure x := cI_fs h4
        have hf : ∀ {p}, PFd X o W (.ListComp el [⟨.Name x px, it, [], 0⟩, ⟨.Name y py, it2, [], 0⟩] scope p) (.comp2 cel i ci j ci2) := f_comp2 (tgj := it) g.calm g.nd ok q0 v1 v2 (gi.fs X.env) fs2 (gi.pi _ (okT_var q1)).2 hi2 (blk_name g h1) (blk_name g h2) hel
        refine Gd.matd (.new trivial trivial (fun i z => by cases z) hf fun z m p' pos a1 a2 a3 => ?_) trivial
        rcases swaps_two (e := .ListComp el [⟨.Name x px, it, [], 0⟩, ⟨.Name y py, it2, [], 0⟩] scope p) (x := z) (p' := p') (line := pos.line) (env := X.env) ⟨_, _, _, _, rfl⟩ with hw | ⟨hw, hl⟩
        · exact ps_set g.nd a1 a2 hf hw a3
        · exact set_comp2 (tgj := it) g.calm g.nd ok q0 v1 v2 (gi.fs X.env) fs2 (gi.pi _ (okT_var q1)).2 hi2 (blk_name g h1) (blk_name g h2) hel a1 hl hw
      · cases h6
    · cases hc
  · cases hc
end
end DI
/-! DI: r[i], r[j] = x, y. -/
set_option maxHeartbeats 1000000
namespace DI
open PySem PySem.Spec PyProof.Rows L2
section
variable {X : Cx} {W : WX} {o : Orc} {a b r1 k1 r2 k2 : Expr} {ca cb cr1 ck1 cr2 ck2 : CE} {pos t1 t2 pt pt2 : Pos} {kt kt2 : Nat}
theorem swp_none {env : PySem.Env} : swappedStores [.Tuple [.Subscript r1 k1 t1, .Subscript r2 k2 t2] kt pt] (.Tuple [a, b] kt2 pt2) env = pure none := by
  unfold swappedStores
  simp
theorem sd_lswap (hc : X.calm = true) (hu : X.A.units + 1 < cLine) (na : NS a) (nb : NS b) (ix1 : IxE k1) (ix2 : IxE k2) (ha : PEd X o W a ca) (hb : PEd X o W b cb) (hr1 : PEd X o W r1 cr1) (hk1 : PEd X o W k1 ck1) (hr2 : PEd X o W r2 cr2) (hk2 : PEd X o W k2 ck2) :
    PSd X o W (.Assign [.Tuple [.Subscript r1 k1 t1, .Subscript r2 k2 t2] kt pt] (.Tuple [a, b] kt2 pt2) pos) [.lswap cr1 ck1 cr2 ck2 ca cb] :=
  sd_one (ps_asg (pe_tup (pa_cons ha (pa1 hb (star_cons nb)) (star_cons na))) (pg_tup (n := 2) hc (pgs_cons (pg_sub hr1 hk1 (set_any hu) (asg_sub ix1)) (pgs_cons (pg_sub hr2 hk2 (set_any hu) (asg_sub ix2)) pgs_nil rfl) rfl) rfl rfl) rfl swp_none rfl) fun D σ c₀ env c fr p => by
    simp only [execS] at p
    refine ⟨c₀, env, c, rfl, fr, (postS_b (R := RV X.K) fr p).mono fun v H ⟨c1, d, e1, fr1, r1, p1, s1⟩ => ⟨c₀, env, c1, e1, fr1, (postS_b (R := RV X.K) fr1 p1).mono fun w H ⟨c2, d2, e2, fr2, r2, p2, s2⟩ => ?_⟩⟩
    subst e2
    refine ⟨by show 2 ≤ sizeLine; decide, fun q hq => ?_⟩
    have sq : Step c2 { c2 with H := upd c2.H q (.tup [v, w]) } := Step.fresh hq
    have fq := fr2.step sq (fr2.ok.new hq)
    have pq := PostS.at p2 sq.kpa
    refine ⟨q, [v, w], rfl, .inl (.inl upd_same), rfl, v, [w], rfl, ?_⟩
    refine ⟨c₀, env, _, rfl, fq, (postS_b (R := RV X.K) fq pq).mono fun u H ⟨c3, d3, e3, fr3, r3, p3, s3⟩ => ⟨c₀, env, c3, e3, fr3, (postS_b (R := RV X.K) fr3 p3).mono fun z H ⟨c4, d4, e4, fr4, r4, p4, s4⟩ => ?_⟩⟩
    subst e4
    have rd1 : RV X.K c4 d v := (((r1.step s2).step sq).step s3).step s4
    cases d3 with
    | loc l =>
      simp only [lset] at p4
      cases hl : c4.st[l]? with
      | none => rw [hl] at p4; exact p4.elim
      | some cc =>
        rw [hl] at p4
        obtain ⟨ew, h1, h2⟩ := RV.locAt fr4.ok (r3.step s4) hl
        cases hp : putD cc d4 d with
        | none => simp only [hp, Option.map_none] at p4; exact p4.elim
        | some c' =>
          simp only [hp, Option.map_some] at p4
          obtain ⟨ho, hr, hQ⟩ := putD_ok h2 r4 rd1 hp
          rw [ew]
          refine hQ _ ?_
          have kp := Kp.stp (c := c4) (l := l) (d := c') (ho := ho) h1
          have fr5 := fr4.stp hl hr
          have p5 := PostS.at p4 kp
          refine ⟨w, [], rfl, ?_⟩
          have rd2 : RV X.K (c4.stp l c' ho) d2 w := RV.keep kp.toKeep _ _ (((r2.step sq).step s3).step s4)
          refine ⟨c₀, env, c4.stp l c' ho, rfl, fr5, (postS_b (R := RV X.K) fr5 p5).mono fun u2 H ⟨c6, d6, e6, fr6, r6, p6, s6⟩ => ⟨c₀, env, c6, e6, fr6, (postS_b (R := RV X.K) fr6 p6).mono fun z2 H ⟨c7, d7, e7, fr7, r7, p7, s7⟩ => ?_⟩⟩
          subst e7
          cases d6 with
          | loc l2 =>
            simp only [lset] at p7
            cases hl2 : c7.st[l2]? with
            | none => rw [hl2] at p7; exact p7.elim
            | some cc2 =>
              rw [hl2] at p7
              obtain ⟨ew2, g1, g2⟩ := RV.locAt fr7.ok (r6.step s7) hl2
              cases hp2 : putD cc2 d7 d2 with
              | none => simp only [hp2, Option.map_none] at p7; exact p7.elim
              | some c'' =>
                simp only [hp2, Option.map_some] at p7
                obtain ⟨ho2, hr2, hQ2⟩ := putD_ok g2 r7 ((rd2.step s6).step s7) hp2
                rw [ew2]
                exact hQ2 _ ⟨rfl, p7 (c7.stp l2 c'' ho2) σ rfl (Kp.stp g1) (fr7.stp hl2 hr2)⟩
          | _ => exact p7.elim
    | _ => exact p4.elim
end
end DI
/-! DI: what compiles is sound: statements. -/
set_option maxHeartbeats 8000000
namespace DI
open PySem PySem.Spec PyProof.Rows L2
section
variable {S : SI} {h : Hint} {o : Orc}
theorem expr_all (n : Nat) : IHE S h o n ∧ IHL S h o n ∧ IHI S h o n ∧ IHC S h o n := by
  induction n with
  | zero =>
    refine ⟨fun {X W sc e ce} g hs hc => ?_, fun {X W sc e ce} g hs hc => ?_, fun {X W sc e ce} g hs hc => ?_, fun {X W sc x as e ce} g hs hc => ?_⟩
    · simp only [cE] at hc; cases hc
    · simp only [cL] at hc; cases hc
    · simp only [cI] at hc; cases hc
    · simp only [cCall] at hc; cases hc
  | succ n ih => exact ⟨estep ih.1 ih.2.1 ih.2.2.1 ih.2.2.2, lstep ih.1 ih.2.1, istep ih.1, cstep ih.2.1⟩
/-- a def's own frame -/
structure SOkX (S : SI) (X : Cx) : Prop where
  fn : ∀ x, X.fn x = true
  blk : X.env.blockKind = .function
  pass : PassesOwn (model X.prog X.w) X.A X.env X.xe
  exc : ∀ x, S.eflds.lookup x = some [] → PMkA X x
section
variable {X : Cx} {W : WX} {sc : Scope} {n : Nat}
theorem sd_die {st : Stmt} : PSd X o W st [.die] := psImp ps_never fun D σ H ⟨c₀, env, c, hH, fr, p⟩ => by
  rw [execL_one] at p
  simp only [execS] at p
  exact p
/-- an own name takes new things alone -/
theorem sd_asgN {x : Str} {i : Nat} {e : Expr} {ce : CE} {p' pos : Pos} (hf : fresh ce = false) (h : PAt X x i e p' pos (tE X.K o W ce)) : PSd X o W (.Assign [.Name x p'] e pos) [.asg i true ce] := sd_one h fun D σ c₀ env c fr p => by
  simp only [execS] at p
  refine ⟨c₀, env, c, rfl, fr, (postS_b (R := RV X.K) fr p).mono fun v H ⟨c1, d, e1, fr1, r1, p1, _⟩ => ?_⟩
  simp only [put?, hf, Bool.false_and, Bool.false_eq_true, if_false, if_true, Option.map_none] at p1
  exact p1.elim
theorem own_name (g : GOk S h o X W) (hs : X.env.scope = sc) {e : Expr} {i : Nat} (hv : ownName h sc e = some i) : ∃ x p, e = .Name x p ∧ NmOk X x i := by
  unfold ownName at hv
  split at hv
  · rename_i j hj
    split at hv
    · cases hv
      unfold nameIx at hj
      split at hj
      · rename_i x p
        obtain ⟨h1, h2⟩ := loc_ok g hs hj
        have hm : x ∈ h.N := by rw [← g.N]; exact List.mem_of_getElem? h1
        exact ⟨x, p, rfl, h1, by rcases h2 with k | k; exact .inl k; exact .inr (.inl k), (g.names x hm).1, (g.names x hm).2⟩
      · cases hj
    · cases hv
  · cases hv
theorem asg_all (g : GOk S h o X W) (sx : SOkX S X) (hs : X.env.scope = sc) {x : Str} {i : Nat} {e : Expr} {ce : CE} {p' pos : Pos} (hv : locIx h sc x = some i) (ge : Gd X o W e ce) : PSd X o W (.Assign [.Name x p'] e pos) [.asg i (isOwn h i) ce] := by
  obtain ⟨h1, h2⟩ := loc_ok g hs hv
  have st := ge.set x i p' pos h1 h2 (.inl (sx.fn x))
  cases isOwn h i with
  | false => exact sd_asg st.1
  | true =>
    cases hf : fresh ce with
    | true => exact sd_asgO (st.2 hf)
    | false => exact sd_asgN hf st.1
theorem loc1_ok (g : GOk S h o X W) (hs : X.env.scope = sc) {x : Str} {i : Nat} (hv : locIx1 h sc x = some i) : X.N[i]? = some x ∧ X.env.scope.names.lookup x = some .local := by
  unfold locIx1 at hv
  split at hv
  · rename_i hc
    have hi := idxOf_get (show h.N.idxOf? x = some i from hv)
    refine ⟨by rw [g.N]; exact hi, ?_⟩
    unfold isLoc1 at hc
    rw [← hs] at hc
    split at hc <;> first | (cases hc; done) | assumption
  · cases hv
theorem def_tg (g : GOk S h o X W) (sx : SOkX S X) (hs : X.env.scope = sc) {tg : Expr} {ctg : Tg} (hv : cTg h sc tg = some ctg) : PG X tg (gTg X.K ctg) := by
  unfold cTg at hv
  split at hv
  · rename_i x p
    rw [Option.map_eq_some_iff] at hv
    obtain ⟨i, h1, rfl⟩ := hv
    obtain ⟨q1, q2⟩ := loc_ok g hs h1
    exact pg_name g.nd q1 q2 (.inl (sx.fn x))
  · rename_i x px y py k p
    simp only [Option.bind_eq_bind, Option.bind_eq_some_iff] at hv
    obtain ⟨i, h1, j, h2, h3⟩ := hv
    split at h3
    · cases h3
      obtain ⟨q1, q2⟩ := loc_ok g hs h1
      obtain ⟨q3, q4⟩ := loc_ok g hs h2
      exact pg_tup g.calm (pgs_cons (pg_name g.nd q1 q2 (.inl (sx.fn x))) (pgs_cons (pg_name g.nd q3 q4 (.inl (sx.fn y))) pgs_nil rfl) rfl) rfl rfl
    · cases h3
  · cases hv
abbrev SHS (S : SI) (h : Hint) (o : Orc) (n : Nat) : Prop := ∀ {X : Cx} {W : WX} {sc : Scope} {st : Stmt} {cs : List CS}, GOk S h o X W → SOkX S X → X.env.scope = sc → cS S h n sc st = some cs → PSd X o W st cs
abbrev SHL (S : SI) (h : Hint) (o : Orc) (n : Nat) : Prop := ∀ {X : Cx} {W : WX} {sc : Scope} {st : List Stmt} {cs : List CS}, GOk S h o X W → SOkX S X → X.env.scope = sc → cSs S h n sc st = some cs → PSsd X o W st cs
theorem app_ok (g : GOk S h o X W) (hs : X.env.scope = sc) {r a : Expr} {cs : List CS} {ap cp pos : Pos} (hl : (ap.endLine == cp.line) = true) (hc : DI.cApp S h n sc r a = some cs) : PSd X o W (.Expr (.Call (.Attribute r "append" ap) [a] [] cp) pos) cs := by
  have ihE : IHE S h o n := (expr_all (S := S) (h := h) (o := o) n).1
  unfold DI.cApp at hc
  split at hc
  · rename_i i hi
    rw [Option.map_eq_some_iff] at hc
    obtain ⟨ca, h1, rfl⟩ := hc
    obtain ⟨x, p, rfl, nm⟩ := own_name g hs hi
    have g1 := ihE g hs h1
    exact sd_app nm g1.ns hl g1.pe
  · split at hc
    · rename_i hb
      simp only [Option.bind_eq_bind, Option.bind_eq_some_iff] at hc
      obtain ⟨cr, h1, ca, h2, h3⟩ := hc
      cases h3
      have g1 := ihE g hs h1
      have g2 := ihE g hs h2
      exact sd_lapp g2.ns hb hl g1.pe g2.pe
    · cases hc
theorem pop_ok (g : GOk S h o X W) (sx : SOkX S X) (hs : X.env.scope = sc) {x : Str} {r : Expr} {es : List Expr} {cs : List CS} {px ap cp pos : Pos} (hl : (ap.endLine == cp.line) = true) (hc : cPop S h n sc x r es = some cs) :
    PSd X o W (.Assign [.Name x px] (.Call (.Attribute r "pop" ap) es [] cp) pos) cs := by
  have ihE : IHE S h o n := (expr_all (S := S) (h := h) (o := o) n).1
  unfold cPop at hc
  simp only [Option.bind_eq_bind, Option.bind_eq_some_iff] at hc
  obtain ⟨j, hj, hc⟩ := hc
  obtain ⟨q1, q2⟩ := loc_ok g hs hj
  split at hc
  · rename_i i hi
    cases hc
    obtain ⟨y, p, rfl, nm⟩ := own_name g hs hi
    exact sd_pop0 nm hl (ps_set g.nd q1 q2 (pe_pop0 nm hl) rfl (.inl (sx.fn x)))
  · rename_i i a hi
    rw [Option.map_eq_some_iff] at hc
    obtain ⟨ca, h1, rfl⟩ := hc
    obtain ⟨y, p, rfl, nm⟩ := own_name g hs hi
    have g1 := ihE g hs h1
    exact sd_pop1 nm g1.ns hl g1.pe (ps_set g.nd q1 q2 (pe_pop1 nm g1.ns hl g1.pe) rfl (.inl (sx.fn x)))
  · split at hc
    · rename_i hb
      rw [Option.map_eq_some_iff] at hc
      obtain ⟨cr, h1, rfl⟩ := hc
      have g1 := ihE g hs h1
      exact sd_lpop1 hb hl (ps_set g.nd q1 q2 (pe_bm0 PySem.F.plainAttrs_list PySem.F.slot_list_pop PySem.F.type_list_pop mt_pop g1.pe (abase hb) hl) rfl (.inl (sx.fn x)))
    · cases hc
  · cases hc
theorem slstep (ihS : SHS S h o n) (ihL : SHL S h o n) : SHL S h o (n + 1) := by
  intro X W sc st cs g sx hs hc
  unfold cSs at hc
  cases st with
  | nil => cases hc; exact sds_nil
  | cons s ss =>
    simp only [Option.bind_eq_bind, Option.bind_eq_some_iff] at hc
    obtain ⟨a, h1, b, h2, h3⟩ := hc
    cases h3
    exact sds_cons (ihS g sx hs h1) (ihL g sx hs h2)
theorem frz_of {st : Stmt} {cs : List CS} {p : Pos} (hd : PSd X o W st cs) : PSd X o W st (frzOf h p ++ cs) := sd_frz hd
theorem sstep (ihS : SHS S h o n) (ihL : SHL S h o n) : SHS S h o (n + 1) := by
  intro X W sc st cs g sx hs hc
  have u1 : X.A.units + 1 < cLine := by have := g.u64; omega
  have ihE : IHE S h o n := (expr_all (S := S) (h := h) (o := o) n).1
  have ihI : IHI S h o n := (expr_all (S := S) (h := h) (o := o) n).2.2.1
  unfold cS at hc
  rw [Option.map_eq_some_iff] at hc
  obtain ⟨cs', hc, rfl⟩ := hc
  refine frz_of ?_
  split at hc
  · cases hc; exact sd_retN
  · rw [Option.map_eq_some_iff] at hc
    obtain ⟨ce, h1, rfl⟩ := hc
    exact sd_ret (ihE g hs h1).pe
  · -- name = a method's call
    rename_i x px r m ap es cp p
    split at hc
    · rename_i hq
      simp only [Bool.and_eq_true, decide_eq_true_eq] at hq
      obtain ⟨rfl, hl⟩ := hq
      exact pop_ok g sx hs hl hc
    · simp only [Option.bind_eq_bind, Option.bind_eq_some_iff] at hc
      obtain ⟨i, h1, ce, h2, h3⟩ := hc
      cases h3
      exact asg_all g sx hs h1 (ihE g hs h2)
  · simp only [Option.bind_eq_bind, Option.bind_eq_some_iff] at hc
    obtain ⟨i, h1, ce, h2, h3⟩ := hc
    cases h3
    exact asg_all g sx hs h1 (ihE g hs h2)
  · -- two names
    rename_i x px y py kt pt a b k2 pt2 p
    simp only [Option.bind_eq_bind, Option.bind_eq_some_iff] at hc
    obtain ⟨i, h1, j, h2, ca, h3, cb, h4, h5⟩ := hc
    split at h5
    · rename_i hq
      cases h5
      simp only [Bool.and_eq_true, decide_eq_true_eq, Bool.not_eq_true'] at hq
      obtain ⟨⟨⟨⟨⟨q1, q2⟩, q3⟩, q4⟩, q5⟩, q6⟩ := hq
      obtain ⟨a1, a2⟩ := loc1_ok g hs h1
      obtain ⟨b1, b2⟩ := loc1_ok g hs h2
      have ga := ihE g hs h3
      have gb := ihE g hs h4
      have to : ∀ {e : Expr} {ce : CE} {w : Bool}, Gd X o W e ce → (!w || fresh ce) = true → PE X e (tO X.K o W w ce) := fun {e ce w} gd hw => by
        cases w with
        | false => exact gd.pe
        | true => exact gd.pf (by simpa using hw)
      have hxy : x ≠ y := fun z => q1 (by
        subst z
        have hi : i < X.N.length := (List.getElem?_eq_some_iff.mp a1).1
        exact (List.getElem?_inj hi g.nd).mp (a1.trans b1.symm))
      exact sd_asg2 g.calm g.nd a1 b1 q1 a2 b2 sx.blk a2 b2 hxy q2 ga.ns gb.ns q3 q4 (to ga q5) (to gb q6)
    · cases h5
  · -- two items stored
    simp only [Option.bind_eq_bind, Option.bind_eq_some_iff] at hc
    obtain ⟨r1', h1, k1', h2, r2', h3, k2', h4, a', h5, b', h6, h7⟩ := hc
    cases h7
    have gk1 := ihE g hs h2
    have gk2 := ihE g hs h4
    have ga := ihE g hs h5
    have gb := ihE g hs h6
    exact sd_lswap g.calm u1 ga.ns gb.ns gk1.ix gk2.ix ga.pe gb.pe (ihE g hs h1).pe gk1.pe (ihE g hs h3).pe gk2.pe
  · -- an item stored
    rename_i r k tp e p
    split at hc
    · rename_i i hi
      simp only [Option.bind_eq_bind, Option.bind_eq_some_iff] at hc
      obtain ⟨ck, h1, ce, h2, h3⟩ := hc
      cases h3
      obtain ⟨x, px, rfl, nm⟩ := own_name g hs hi
      have g1 := ihE g hs h1
      exact sd_put u1 nm g1.ix g1.pe (ihE g hs h2).pe
    · simp only [Option.bind_eq_bind, Option.bind_eq_some_iff] at hc
      obtain ⟨cr, h0, ck, h1, ce, h2, h3⟩ := hc
      cases h3
      have g1 := ihE g hs h1
      exact sd_lput u1 g1.ix (ihE g hs h0).pe g1.pe (ihE g hs h2).pe
  · -- a field stored
    rename_i x px f tp e p
    split at hc
    · rename_i hv
      rw [Option.map_eq_some_iff] at hc
      obtain ⟨ce, h1, rfl⟩ := hc
      obtain ⟨a1, a2⟩ := loc_ok g hs hv
      have hm : x ∈ h.N := by rw [← g.N]; exact List.mem_of_getElem? a1
      exact sd_sat (p0 := px) ⟨a1, by rcases a2 with k | k; exact .inl k; exact .inr (.inl k), (g.names x hm).1, (g.names x hm).2⟩ (fun C hf => g.fld C _ hf) (ihE g hs h1).pe
    · cases hc
  · simp only [Option.bind_eq_bind, Option.bind_eq_some_iff] at hc
    obtain ⟨ct, h1, la, h2, lb, h3, h4⟩ := hc
    cases h4
    exact sd_if (ihE g hs h1).pt (ihL g sx hs h2) (ihL g sx hs h3)
  · -- for
    rename_i tg it b p
    simp only [Option.bind_eq_bind, Option.bind_eq_some_iff] at hc
    obtain ⟨ctg, h1, ci, h2, lb, h3, h4⟩ := hc
    split at h4
    · rename_i hk
      cases h4
      have gi := ihI g hs h2
      exact sd_for sx.pass g.calm (gi.pi tg (okT_tg h1 hk)).1 (def_tg g sx hs h1) (ihL g sx hs h3) (gi.fs X.env)
    · cases h4
  · simp only [Option.bind_eq_bind, Option.bind_eq_some_iff] at hc
    obtain ⟨ct, h1, lb, h2, h3⟩ := hc
    cases h3
    exact sd_while sx.pass (ihE g hs h1).pt (ihL g sx hs h2)
  · -- append(pop)
    rename_i r m ap r2 m2 ap2 k cp2 cp p
    split at hc
    · rename_i hq
      simp only [Bool.and_eq_true, decide_eq_true_eq] at hq
      obtain ⟨⟨⟨rfl, rfl⟩, hl⟩, hl2⟩ := hq
      simp only [Option.bind_eq_bind, Option.bind_eq_some_iff] at hc
      obtain ⟨i, h1, j, h2, ck, h3, h4⟩ := hc
      cases h4
      obtain ⟨x, px, rfl, nm⟩ := own_name g hs h1
      obtain ⟨y, py, rfl, nm2⟩ := own_name g hs h2
      have g1 := ihE g hs h3
      exact sd_appPop nm nm2 g1.ns hl hl2 g1.pe
    · split at hc
      · rename_i hq
        simp only [Bool.and_eq_true, decide_eq_true_eq] at hq
        obtain ⟨rfl, hl⟩ := hq
        exact app_ok g hs hl hc
      · cases hc
  · -- append, extend
    rename_i r m ap a cp p _
    split at hc
    · rename_i hq
      simp only [Bool.and_eq_true, decide_eq_true_eq] at hq
      obtain ⟨rfl, hl⟩ := hq
      exact app_ok g hs hl hc
    · split at hc
      · rename_i hq
        simp only [Bool.and_eq_true, decide_eq_true_eq] at hq
        obtain ⟨rfl, hl⟩ := hq
        simp only [Option.bind_eq_bind, Option.bind_eq_some_iff] at hc
        obtain ⟨i, h1, ca, h2, h3⟩ := hc
        cases h3
        obtain ⟨x, px, rfl, nm⟩ := own_name g hs h1
        have g1 := ihE g hs h2
        exact sd_ext nm g1.ns hl g1.pb
      · cases hc
  · -- pop, the value dropped
    rename_i r m ap cp p
    split at hc
    · rename_i hq
      simp only [Bool.and_eq_true, decide_eq_true_eq] at hq
      obtain ⟨⟨rfl, hl⟩, hb⟩ := hq
      rw [Option.map_eq_some_iff] at hc
      obtain ⟨cr, h1, rfl⟩ := hc
      exact sd_lpop0 hb hl (ihE g hs h1).pe
    · cases hc
  · split at hc
    · cases hc
    · rename_i hi
      rw [Option.map_eq_some_iff] at hc
      obtain ⟨ce, h1, rfl⟩ := hc
      refine sd_expr (ihE g hs h1).pe ?_
      rename_i e p _ _ _
      cases e <;> first | rfl | exact absurd rfl hi
  · split at hc
    · rename_i hq
      simp only [Bool.and_eq_true, decide_eq_true_eq] at hq
      cases hc
      exact sd_rse g.calm g.tk (gl_ok hs hq.1) (sx.exc _ hq.2)
    · cases hc; exact sd_die
  · cases hc; exact sd_die
  · cases hc; exact sd_brk
  · cases hc; exact sd_cnt
  · cases hc; exact sd_pass
  · cases hc
theorem stmt_all (n : Nat) : SHS S h o n ∧ SHL S h o n := by
  induction n with
  | zero =>
    refine ⟨fun {X W sc st cs} g sx hs hc => ?_, fun {X W sc st cs} g sx hs hc => ?_⟩
    · simp only [cS] at hc; cases hc
    · simp only [cSs] at hc; cases hc
  | succ n ih => exact ⟨sstep ih.1 ih.2, slstep ih.1 ih.2⟩
end
end
end DI
/-! DI: defs. -/
set_option maxHeartbeats 8000000
namespace DI
open PySem PySem.Spec PyProof.Rows L2
section
variable {K : PySem.W.Frag} {c c' : Cfg}
theorem RL.at_ {ds : List DI.D} {vs : List V} (l : RL K c ds vs) {i : Nat} {d : DI.D} (h : ds[i]? = some d) : ∃ v, vs[i]? = some v ∧ RV K c d v := l.get h
/-- a frame at its start -/
theorem FR.start {ds : List DI.D} {vs : List V} {N : List Str} {n : Nat} (k : SOk K c) (l : RL K c ds vs) (hn : n = N.length - vs.length) : FR K c c (ds.map Slot.val ++ List.replicate n .no) (L2.start N vs) := by
  have hl := l.length
  refine ⟨k, ⟨?_, fun i d h => ?_, fun i d h => ?_, fun i j d e a h1 h2 h3 h4 => ?_, fun i C ns' vs' a h1 h2 => ?_⟩, StepF.refl, fun _ h => h, fun _ h => .inl h, k.fa⟩
  · unfold L2.start
    simp [hl, hn]
  · by_cases hi : i < ds.length
    · rw [List.getElem?_append_left (by simpa using hi), List.getElem?_map, Option.map_eq_some_iff] at h
      obtain ⟨d', h1, h2⟩ := h
      cases h2
      obtain ⟨v, hv, rv⟩ := l.get h1
      refine ⟨v, ?_, rv⟩
      unfold L2.start
      rw [List.getElem?_append_left (by simp; omega), List.getElem?_map, hv]
      rfl
    · rw [List.getElem?_append_right (by simpa using hi)] at h
      have := List.mem_of_getElem? h
      rw [List.mem_replicate] at this
      cases this.2
  · by_cases hi : i < ds.length
    · rw [List.getElem?_append_left (by simpa using hi), List.getElem?_map, Option.map_eq_some_iff] at h
      obtain ⟨d', h1, h2⟩ := h
      cases h2
    · rw [List.getElem?_append_right (by simpa using hi)] at h
      have := List.mem_of_getElem? h
      rw [List.mem_replicate] at this
      cases this.2
  · by_cases hi : i < ds.length
    · rw [List.getElem?_append_left (by simpa using hi), List.getElem?_map, Option.map_eq_some_iff] at h1
      obtain ⟨d', g1, g2⟩ := h1
      cases g2
    · rw [List.getElem?_append_right (by simpa using hi)] at h1
      have := List.mem_of_getElem? h1
      rw [List.mem_replicate] at this
      cases this.2
  · by_cases hi : i < ds.length
    · rw [List.getElem?_append_left (by simpa using hi), List.getElem?_map, Option.map_eq_some_iff] at h1
      obtain ⟨d', g1, g2⟩ := h1
      cases g2
    · rw [List.getElem?_append_right (by simpa using hi)] at h1
      have := List.mem_of_getElem? h1
      rw [List.mem_replicate] at this
      cases this.2
/-- a def's run, from its body's -/
theorem postS_of {ds : List DI.D} {st : Store} {T : List FD} {o : Orc} {f : Nat} {fd : FD} {Q : VK} {E : XK} (hT : T[f]? = some fd) (hp : fd.prim = none) (p : Post K (RV K) E c (runF T o f ds st) Q) :
    ds.length = fd.np ∧ PostS K (fun cls d _ H => E cls d H) c c (execL o fd.body (start fd ds) st) { nx := fun _ H' => Q .non H', rt := Q } := by
  unfold runF at p
  rw [hT] at p
  simp only at p
  split at p
  · rename_i hl
    refine ⟨hl, ?_⟩
    rw [hp] at p
    simp only at p
    revert p
    generalize execL o fd.body (start fd ds) st = m
    intro p
    cases m with
    | none => exact p
    | some r =>
      obtain ⟨fl, env', st'⟩ := r
      intro c' σ es kp fr
      have less : ∀ a, c.F a → c'.F a := fr.f1
      have s : Step c { c' with F := c.F } := ⟨⟨fr.st.keep, fr.st.rho, fr.st.len, fr.st.new, fr.st.al⟩, rfl⟩
      have k : SOk K { c' with F := c.F } := fr.ok.lessF less
      cases fl with
      | ret d => exact fun v rv => p { c' with F := c.F } v es s k (RV.keep (DI.lessF less) _ _ rv)
      | nxt => exact p { c' with F := c.F } .non es s k (by simp only [RV])
      | brk => exact p.elim
      | cnt => exact p.elim
      | ex C ns ds' => exact fun cls x xr => p { c' with F := c.F } cls x es s k (xr.keep (DI.lessF less) rfl)
  · exact p.elim
end
/-- where a lambda may be made in a def -/
def LamAt (K : PySem.W.Frag) (mg : Str → Option Value) (base : Heap) (cdv : Value) (qual : Str) : Prop := ∃ c P, cdv = .ref c ∧ LamX.TabB base mg c P ∧ (P, (qual ++ ".<locals>.") ++ "<lambda>") ∈ tabsOf K ∧ ∀ p ∈ tabsOf K, p.1 = P → p.2 = (qual ++ ".<locals>.") ++ "<lambda>"
/-- a def as the fragment tells it -/
structure DefAt (S : SI) (h : Hint) (T : List FD) (K : PySem.W.Frag) (mg : Str → Option Value) (base : Heap) (f : Nat) (fd : FD) (a : Addr) (fdt : FuncData) (ps : List Str) : Prop where
  ex : ∃ (oc : Value) (od : Option Addr) (osl : Array (Option Value)) (name qual : Str) (params : Arguments) (body : List Stmt) (scope : Scope) (dV kV doc pm cdv ct : Value) (an : Option Addr),
    fdt = PySem.W.fnOf name qual params body scope dV kV doc pm an cdv ct ∧ K.lookup a = some ⟨oc, od, .func fdt, osl⟩ ∧ PySem.W.codeIn K cdv qual = true ∧ FnScope h.N ps scope ∧ cSs S h 100 scope body = some fd.body ∧ (h.lam = true → LamAt K mg base cdv qual)
  np : fd.np = ps.length
  ns : fd.ns = h.N.length
  prim : fd.prim = none
  at_ : T[f]? = some fd
/-- the surroundings of every def's frame at a level -/
abbrev GAll (S : SI) (h : Hint) (o : Orc) (P : Program) (w : World) (K : PySem.W.Frag) (mg : Str → Option Value) (base : Heap) (k : Nat) : Prop :=
  ∀ (X : Cx), X.prog = P → X.w = w → X.K = K → X.mg = mg → X.base = base → X.N = h.N → X.calm = true → Room k X.A → (h.lam = true → LamOk X) → ∀ W, Takes X W → GOk S h o X W
theorem def_ok {S : SI} {h : Hint} {T : List FD} {o : Orc} {P : Program} {w : World} {K : PySem.W.Frag} {mg : Str → Option Value} {base : Heap} {k f : Nat} {fd : FD} {a : Addr} {fdt : FuncData} {ps : List Str} (d : DefAt S h T K mg base f fd a fdt ps) (G : GAll S h o P w K mg base k) (hk : 1 ≤ k) (hex : ∀ x, S.eflds.lookup x = some [] → ExOk P K mg x) :
    FnOk P w K mg base (L2.CX P w) (k + 1) a fdt ps (spF K ps.length (runF T o f)) := by
  obtain ⟨oc, od, osl, name, qual, params, body, scope, dV, kV, doc, pm, cdv, ct, an, rfl, lk, hcd, FS, hcs, hlam⟩ := d.ex
  refine fn_of lk hcd FS (fun vs H Q E h => h.1) fun A outer s H vs Q E hr hsp => ?_
  obtain ⟨hl, c, ds, rfl, kk, rl, p⟩ := hsp
  have tk : Takes (cxOf (L2.CX P w) P w K mg base h.N qual scope a cdv A outer s c.H E) (fun cls d _ H => E cls d H) := takes_of (X := cxOf (L2.CX P w) P w K mg base h.N qual scope a cdv A outer s c.H E) rfl rfl rfl rfl
  have g := G (cxOf (L2.CX P w) P w K mg base h.N qual scope a cdv A outer s c.H E) rfl rfl rfl rfl rfl rfl rfl hr hlam _ tk
  have sx : SOkX S (cxOf (L2.CX P w) P w K mg base h.N qual scope a cdv A outer s c.H E) := ⟨fun _ => rfl, by show (if scope.kind.isAnnotationScope then ScopeKind.function else scope.kind) = .function; rw [FS.kind]; rfl, passes_of (X := cxOf (L2.CX P w) P w K mg base h.N qual scope a cdv A outer s c.H E) rfl, fun x hx => ExOk.pmk (hex x hx) (hr.mono hk)⟩
  refine ⟨_, (stmt_all (S := S) (h := h) (o := o) 100).2 g sx rfl hcs, ?_⟩
  obtain ⟨hn, ps'⟩ := postS_of d.at_ d.prim p
  refine ⟨c, _, c, rfl, FR.start (n := fd.ns - fd.np) kk rl (by rw [d.ns, ← rl.length, hn]), ps'⟩
theorem runF_len {T : List FD} {o : Orc} {f : Nat} {fd : FD} (hT : T[f]? = some fd) : ∀ ds st r, runF T o f ds st = some r → ds.length = fd.np := fun ds st r hr => by
  unfold runF at hr
  rw [hT] at hr
  simp only at hr
  split at hr
  · assumption
  · cases hr

section
variable {K : PySem.W.Frag} {c₀ c c' : Cfg} {env : DI.Env} {σ : L2.St}
theorem FR.consNo {s : Option V} (fr : FR K c₀ c env σ) : FR K c₀ c (.no :: env) (s :: σ) := by
  refine ⟨fr.ok, ⟨by rw [List.length_cons, List.length_cons, fr.er.len], fun i d h => ?_, fun i d h => ?_, fun i j d e a h1 h2 h3 h4 => ?_, fun i C ns vs a h1 h2 => ?_⟩, fr.st, fr.f1, fr.f2, fr.f0⟩
  · cases i with
    | zero => cases h
    | succ i => exact fr.er.val i d (by simpa using h)
  · cases i with
    | zero => cases h
    | succ i => exact fr.er.own i d (by simpa using h)
  · cases i with
    | zero => cases h1
    | succ i => cases j with
      | zero => cases h2
      | succ j => exact congrArg _ (fr.er.apart i j d e a (by simpa using h1) (by simpa using h2) (by simpa using h3) (by simpa using h4))
  · cases i with
    | zero => cases h1
    | succ i => exact fr.er.ins i C ns vs a (by simpa using h1) (by simpa using h2)
theorem vals_no_own {ds : List DI.D} {n : Nat} {k : Nat} {e : DI.D} (h : (Slot.no :: (ds.map Slot.val ++ List.replicate n .no))[k]? = some (Slot.own e)) : False := by
  have := List.mem_of_getElem? h
  simp at this
/-- the config, with self -/
def Cfg.me (c : Cfg) (x : Addr) : Cfg := { c with slf := x }
theorem Keep.me {x : Addr} : Keep c (c.me x) := ⟨fun _ _ h _ _ => h, fun _ _ => rfl, Nat.le_refl _, fun l h1 h2 => absurd h2 (Nat.not_lt.mpr h1), fun _ _ h => h⟩
theorem SOk.me {x : Addr} (k : SOk K c) : SOk K (c.me x) := ⟨k.tabs, k.inj, k.nf, k.fa, fun l d h => ⟨(k.cell l d h).1.keep Keep.me fun _ q => q, (k.cell l d h).2⟩⟩
/-- a maker's run, from its __init__'s -/
theorem postS_mk {ds : List DI.D} {st : Store} {T : List FD} {o : Orc} {f : Nat} {fd : FD} {C : Str} {Q : VK} {E : XK} {x : Addr} {c1 : Cfg} (hT : T[f]? = some fd) (hx : c.H x = none) (fa : ∀ a, c.F a → c.H a ≠ none)
    (p : Post K (fun c' d v => v = .ref x ∧ RV K c' d (.ref x)) E c (runMk T o C f ds st) (fun _ H' => Q .non H')) :
    ds.length + 1 = fd.np ∧ PostS K (fun cls d _ H => E cls d H) (c.me x) c1 (execL o fd.body (.own (.ins C [] []) :: (ds.map Slot.val ++ List.replicate (fd.ns - fd.np) .no)) st) { nx := fun _ H' => Q .non H', rt := Q } := by
  unfold runMk at p
  rw [hT] at p
  simp only at p
  split at p
  · rename_i hl
    refine ⟨hl, ?_⟩
    revert p
    generalize execL o fd.body (.own (.ins C [] []) :: (ds.map Slot.val ++ List.replicate (fd.ns - fd.np) .no)) st = m
    intro p
    cases m with
    | none => exact p
    | some r =>
      obtain ⟨fl, env', st'⟩ := r
      intro c' σ es kp fr
      have less : ∀ a, c.F a → c'.F a := fr.f1
      have s : Step c { c' with F := c.F } := ⟨⟨fr.st.keep, fr.st.rho, fr.st.len, fr.st.new, fr.st.al⟩, rfl⟩
      have k : SOk K { c' with F := c.F } := fr.ok.lessF less
      cases fl with
      | nxt =>
        simp only at p
        split at p
        · rename_i C' ns vs hi
          obtain ⟨a, h1, h2, h3, h4⟩ := fr.er.own 0 _ hi
          have ea : a = x := fr.er.ins 0 C' ns vs a hi h1
          subst ea
          have cr : CR K { c' with F := c.F } (.ins C' ns vs) a := h4.keep (DI.lessF less) fun _ q => q
          have fz : Fz { c' with F := c.F } a := ⟨fr.ok.nr h2, fun z => fa a z hx⟩
          exact p { c' with F := c.F } (.ref a) es s k ⟨rfl, cr.rv fz⟩
        · exact p.elim
      | ret d => exact p.elim
      | brk => exact p.elim
      | cnt => exact p.elim
      | ex C ns ds' => exact fun cls x xr => p { c' with F := c.F } cls x es s k (xr.keep (DI.lessF less) rfl)
  · exact p.elim
end
theorem mk_ok {S : SI} {h : Hint} {T : List FD} {o : Orc} {P : Program} {w : World} {K : PySem.W.Frag} {mg : Str → Option Value} {base : Heap} {k f : Nat} {fd : FD} {a : Addr} {fdt : FuncData} {ps : List Str} {C : Str} (d : DefAt S h T K mg base f fd a fdt ps) (G : GAll S h o P w K mg base k) (hk : 1 ≤ k) (hex : ∀ x, S.eflds.lookup x = some [] → ExOk P K mg x) :
    FnOk P w K mg base (L2.CX P w) (k + 1) a fdt ps (spMk K C ps.length (runMk T o C f)) := by
  obtain ⟨oc, od, osl, name, qual, params, body, scope, dV, kV, doc, pm, cdv, ct, an, rfl, lk, hcd, FS, hcs, hlam⟩ := d.ex
  refine fn_of lk hcd FS (fun vs H Q E h => h.1) fun A outer s H vs Q E hr hsp => ?_
  obtain ⟨hl, c, ds, x, dx, ws, rfl, hx, hdx, hne, rfl, kk, rl, p⟩ := hsp
  generalize hH : upd (upd c.H dx (.own x)) x (.ins (He.ga K C) dx []) = H
  have tk : Takes (cxOf (L2.CX P w) P w K mg base h.N qual scope a cdv A outer s H E) (fun cls d _ H => E cls d H) := takes_of (X := cxOf (L2.CX P w) P w K mg base h.N qual scope a cdv A outer s H E) rfl rfl rfl rfl
  have g := G (cxOf (L2.CX P w) P w K mg base h.N qual scope a cdv A outer s H E) rfl rfl rfl rfl rfl rfl rfl hr hlam _ tk
  have sx : SOkX S (cxOf (L2.CX P w) P w K mg base h.N qual scope a cdv A outer s H E) := ⟨fun _ => rfl, by show (if scope.kind.isAnnotationScope then ScopeKind.function else scope.kind) = .function; rw [FS.kind]; rfl, passes_of (X := cxOf (L2.CX P w) P w K mg base h.N qual scope a cdv A outer s H E) rfl, fun x hx => ExOk.pmk (hex x hx) (hr.mono hk)⟩
  refine ⟨_, (stmt_all (S := S) (h := h) (o := o) 100).2 g sx rfl hcs, ?_⟩
  have hx1 : ({ c.me x with H := upd c.H dx (.own x) } : Cfg).H x = none := by
    show upd c.H dx _ x = none
    rw [upd_ne (Ne.symm hne)]; exact hx
  obtain ⟨hn, ps'⟩ := postS_mk (c1 := ({ c.me x with H := upd c.H dx (.own x) } : Cfg).hide x (.ins (He.ga K C) dx [])) d.at_ hx kk.fa p
  have fr0 : FR K (c.me x) (c.me x) (ds.map Slot.val ++ List.replicate (fd.ns - fd.np) .no) (L2.start h.N.tail ws) := FR.start kk.me (RL.keep Keep.me _ _ rl) (by rw [d.ns, List.length_tail, ← rl.length]; omega)
  have fr1 := (fr0.consNo (s := some (V.ref x))).step (Step.fresh (c := c.me x) (o := .own x) hdx) (kk.me.new hdx)
  have fr2 := fr1.hide (ho := .ins (He.ga K C) dx []) hx1
  have fr3 := fr2.adopt (i := 0) (d := .ins C [] []) (p := x) (.inr rfl) hx ⟨dx, [], upd_same, rfl, by simp only [List.map_nil, RL]⟩ (fun k e a h1 _ => (vals_no_own h1).elim) (fun _ _ _ _ => rfl)
  refine ⟨c.me x, _, _, hH, ?_, ps'⟩
  have e : L2.start h.N (V.ref x :: ws) = some (V.ref x) :: L2.start h.N.tail ws := by
    unfold L2.start
    rw [List.map_cons, List.cons_append, List.length_cons, List.length_tail]
    congr 3
    omega
  rw [e]
  exact fr3
theorem runMk_len {T : List FD} {o : Orc} {C : Str} {f : Nat} {fd : FD} (hT : T[f]? = some fd) : ∀ ds st r, runMk T o C f ds st = some r → ds.length + 1 = fd.np := fun ds st r hr => by
  unfold runMk at hr
  rw [hT] at hr
  simp only at hr
  split at hr
  · assumption
  · cases hr
end DI
/-! DI: all levels. -/
set_option maxHeartbeats 8000000
namespace DI
open PySem PySem.Spec PyProof.Rows L2
/-- the facts of a program's defs, as the fragment tells them -/
structure Wd (S : SI) (hs : Nat → Hint) (T : List FD) (mid : Str → Str → Option Nat) (fld : Str → Str → Bool) (P : Program) (w : World) (K : PySem.W.Frag) (mg : Str → Option Value) (base : Heap) (adr : Nat → Addr) (fdt : Nat → FuncData) (psf : Nat → List Str) : Prop where
  df : ∀ f fd, T[f]? = some fd → fd.prim = none → DefAt S (hs f) T K mg base f fd (adr f) (fdt f) (psf f)
  np : ∀ f fd, T[f]? = some fd → fd.np = (psf f).length
  bd : ∀ f fd, T[f]? = some fd → Binds K (fdt f) (psf f) []
  kb : ∀ f fd, T[f]? = some fd → ∀ (s : Shared) (ws : List Value), K.In s.heap → ws.length = (psf f).length → BindsTo s (fdt f) ⟨[], (psf f).zip ws⟩ ((psf f).zip ws)
  ps : ∀ f ks, S.ps[f]? = some ks → ks = psf f
  nd : ∀ f, (hs f).N.Nodup
  names : ∀ f, ∀ x ∈ (hs f).N, (x == ("__debug__" : Str)) = false ∧ (x == ("__classdict__" : Str)) = false
  cons : ∀ x d, S.cons.lookup x = some d → (x == ("__debug__" : Str)) = false ∧ ((∃ i tk, d = .int i ∧ mg x = some (.int i tk)) ∨ (∃ s tk, d = .str s ∧ mg x = some (.str s tk)))
  blt : ∀ x ∈ bltNames, mg x = none
  fns : ∀ f x, S.fns.idxOf? (x, none) = some f → (x == ("__debug__" : Str)) = false ∧ (∃ fd, T[f]? = some fd) ∧ mg x = some (.ref (adr f)) ∧ PySem.W.keepIn K (.ref (adr f)) = true
  cls : ∀ x f, S.cls.lookup x = some f → (x == ("__debug__" : Str)) = false ∧ (∃ fd, T[f]? = some fd ∧ fd.prim = none) ∧ Mk K (He.ga K x) (adr f) ∧ mg x = some (.ref (He.ga K x))
  meth : ∀ C m i, mid C m = some i → Cls K (He.ga K C) ∧ Meth K (He.ga K C) m (adr i) ∧ ∃ fd, T[i]? = some fd
  len1 : ∀ C m, mid C "__len__" = some m → (psf m).length = 1
  fl : ∀ C f, fld C f = true → Cls K (He.ga K C) ∧ NoAttr K (He.ga K C) f
  exc : ∀ x, S.eflds.lookup x = some [] → ExOk P K mg x
  /-- what runs by hand -/
  pr : ∀ f fd p, T[f]? = some fd → fd.prim = some p → ∀ k, GAll S (hs f) (lev T mid fld (k + 1)) P w K mg base (k + 1) →
    FnOk P w K mg base (L2.CX P w) (k + 2) (adr f) (fdt f) (psf f) (spF K (psf f).length (runF T (lev T mid fld (k + 1)) f))
section
variable {S : SI} {hs : Nat → Hint} {T : List FD} {mid : Str → Str → Option Nat} {fld : Str → Str → Bool} {P : Program} {w : World} {K : PySem.W.Frag} {mg : Str → Option Value} {base : Heap} {adr : Nat → Addr} {fdt : Nat → FuncData} {psf : Nat → List Str}
/-- the defs at a level -/
structure LV (S : SI) (T : List FD) (mid : Str → Str → Option Nat) (fld : Str → Str → Bool) (P : Program) (w : World) (K : PySem.W.Frag) (mg : Str → Option Value) (base : Heap) (adr : Nat → Addr) (fdt : Nat → FuncData) (psf : Nat → List Str) (k : Nat) : Prop where
  call : ∀ f fd, T[f]? = some fd → FnOk P w K mg base (L2.CX P w) k (adr f) (fdt f) (psf f) (spF K (psf f).length ((lev T mid fld k).call f)) ∧ ∀ ds st r, (lev T mid fld k).call f ds st = some r → ds.length = (psf f).length
  low : ∀ f fd, T[f]? = some fd → FnOk P w K mg base (L2.CX P w) (k - 1) (adr f) (fdt f) (psf f) (spF K (psf f).length ((lev T mid fld k).low f))
  mkr : ∀ C f fd, T[f]? = some fd → fd.prim = none → FnOk P w K mg base (L2.CX P w) (k - 1) (adr f) (fdt f) (psf f) (spMk K C (psf f).length ((lev T mid fld k).make C f)) ∧ ∀ ds st r, (lev T mid fld k).make C f ds st = some r → ds.length + 1 = (psf f).length
theorem lev_mid (k : Nat) : (lev T mid fld k).mid = mid ∧ (lev T mid fld k).fld = fld := by
  match k with
  | 0 => exact ⟨rfl, rfl⟩
  | 1 => exact ⟨rfl, rfl⟩
  | 2 => exact ⟨rfl, rfl⟩
  | n + 3 => exact ⟨rfl, rfl⟩
theorem lev_call (k : Nat) : (lev T mid fld (k + 2)).call = runF T (lev T mid fld (k + 1)) := by
  cases k <;> rfl
theorem spF_none {n k : Nat} {a : Addr} {fd : FuncData} {ps : List Str} (hn : n = ps.length) : FnOk P w K mg base (L2.CX P w) k a fd ps (spF K n (fun _ _ => none)) :=
  ⟨fun vs H Q E h => by rw [h.1, hn], fun A outer s H args us vs Q E _ _ _ _ h => by obtain ⟨_, c, ds, _, _, _, p⟩ := h; exact p.elim⟩
theorem spMk_none {n k : Nat} {a : Addr} {fd : FuncData} {ps : List Str} {C : Str} (hn : n = ps.length) : FnOk P w K mg base (L2.CX P w) k a fd ps (spMk K C n (fun _ _ => none)) :=
  ⟨fun vs H Q E h => by rw [h.1, hn], fun A outer s H args us vs Q E _ _ _ _ h => by obtain ⟨_, c, ds, x, dx, ws, _, _, _, _, _, _, _, p⟩ := h; exact p.elim⟩
theorem gall (W : Wd S hs T mid fld P w K mg base adr fdt psf) {k : Nat} (hk : 1 ≤ k) (L : LV S T mid fld P w K mg base adr fdt psf k) (f : Nat) : GAll S (hs f) (lev T mid fld k) P w K mg base k := by
  intro X h1 h2 h3 h4 h5 h6 h7 hr hlam W' tk
  subst h1 h2 h3 h4 h5
  have fat : ∀ g gd, T[g]? = some gd → FnAt X ((lev T mid fld k).call g) (adr g) (psf g).length k := fun g gd hg => ⟨⟨fdt g, psf g, (L.call g gd hg).1, W.bd g gd hg⟩, (L.call g gd hg).2⟩
  have hr1 : Room (k - 1 + 1) X.A := by rw [Nat.sub_add_cancel hk]; exact hr
  exact {
    N := h6
    nd := by rw [h6]; exact W.nd f
    calm := h7
    tk := tk
    u64 := hr.units
    rm := hr.mono hk
    lam := hlam
    names := W.names f
    cons := W.cons
    blt := W.blt
    fns := fun g x hx => by
      obtain ⟨q1, ⟨gd, q2⟩, q3, q4⟩ := W.fns g x hx
      refine ⟨q1, adr g, _, k, q3, q4, fat g gd q2, hr, fun ks hks => ?_⟩
      rw [W.ps g ks hks]
      exact ⟨⟨fdt g, (L.call g gd q2).1, W.kb g gd q2⟩, (L.call g gd q2).2⟩
    mkr := fun x g hx => by
      obtain ⟨q1, ⟨gd, q2, q2'⟩, q3, q4⟩ := W.cls x g hx
      exact ⟨q1, adr g, _, k - 1, q3, ⟨⟨fdt g, psf g, (L.mkr x g gd q2 q2').1, W.bd g gd q2⟩, (L.mkr x g gd q2 q2').2⟩, hr1, q4⟩
    len := ⟨fun C m hm => by
      rw [(lev_mid k).1] at hm
      obtain ⟨q1, q2, gd, q3⟩ := W.meth C _ m hm
      exact ⟨adr m, fdt m, psf m, k - 1, (psf m).length, L.low m gd q3, rfl, hr1, W.bd m gd q3, q2.at_, q2.fn, W.len1 C m hm⟩⟩
    meth := fun m => ⟨fun C i hi => by
      rw [(lev_mid k).1] at hi
      obtain ⟨q1, q2, gd, q3⟩ := W.meth C m i hi
      exact ⟨adr i, _, k, q1, q2, fat i gd q3, hr⟩⟩
    fld := fun C g hg => W.fl C g (by rw [← (lev_mid (T := T) (mid := mid) (fld := fld) k).2]; exact hg) }
theorem levels (W : Wd S hs T mid fld P w K mg base adr fdt psf) : ∀ k, LV S T mid fld P w K mg base adr fdt psf k := by
  have go : ∀ k, LV S T mid fld P w K mg base adr fdt psf k ∧ LV S T mid fld P w K mg base adr fdt psf (k + 1) := by
    intro k
    induction k with
    | zero =>
      refine ⟨⟨fun f fd h => ⟨spF_none rfl, fun _ _ _ z => by cases z⟩, fun f fd h => spF_none rfl, fun C f fd h _ => ⟨spMk_none rfl, fun _ _ _ z => by cases z⟩⟩, ⟨fun f fd h => ⟨spF_none rfl, fun _ _ _ z => by cases z⟩, fun f fd h => spF_none rfl, fun C f fd h _ => ⟨spMk_none rfl, fun _ _ _ z => by cases z⟩⟩⟩
    | succ k ih =>
      refine ⟨ih.2, ?_⟩
      have G : ∀ f, GAll S (hs f) (lev T mid fld (k + 1)) P w K mg base (k + 1) := gall W (Nat.succ_le_succ (Nat.zero_le _)) ih.2
      have run : ∀ f fd, T[f]? = some fd → FnOk P w K mg base (L2.CX P w) (k + 2) (adr f) (fdt f) (psf f) (spF K (psf f).length (runF T (lev T mid fld (k + 1)) f)) := fun f fd hf => by
        cases hp : fd.prim with
        | none => exact def_ok (W.df f fd hf hp) (G f) (Nat.succ_le_succ (Nat.zero_le _)) W.exc
        | some p => exact W.pr f fd p hf hp k (G f)
      refine ⟨fun f fd hf => ⟨by rw [lev_call]; exact run f fd hf, fun ds st r hr => ?_⟩, fun f fd hf => ?_, fun C f fd hf hp => ?_⟩
      · rw [lev_call] at hr
        rw [← W.np f fd hf]; exact runF_len hf ds st r hr
      · cases k with
        | zero => exact spF_none rfl
        | succ m =>
          have q := (ih.2.call f fd hf).1
          rw [lev_call] at q
          exact q
      · cases k with
        | zero => exact ⟨spMk_none rfl, fun _ _ _ z => by cases z⟩
        | succ m =>
          refine ⟨mk_ok (W.df f fd hf hp) (gall W (Nat.succ_le_succ (Nat.zero_le _)) ih.1 f) (Nat.succ_le_succ (Nat.zero_le _)) W.exc, fun ds st r hr => ?_⟩
          rw [← W.np f fd hf]
          exact runMk_len (C := C) hf ds st r hr
  exact fun k => (go k).1
end
end DI
/-! DI: a text's head: the facts that the levels ask. -/
set_option maxHeartbeats 2000000
namespace DI
open PySem PySem.Spec PyProof.Rows L2
/-! ### binding -/
theorem look_zip : ∀ {ps : List Str} {us : List Value} {n : Str}, us.length = ps.length → n ∈ ps → ((ps.zip us).lookup n).isNone = false
  | [], _, _, _, h => by cases h
  | p :: ps, [], _, h, _ => by simp at h
  | p :: ps, u :: us, n, h, hn => by
    rw [List.zip_cons_cons]
    by_cases e : n = p
    · subst e; simp [List.lookup]
    · have : (n == p) = false := by simpa using e
      simp only [List.lookup, this]
      exact look_zip (by simpa using h) ((List.mem_cons.mp hn).resolve_left e)
theorem fm_zip : ∀ {ps : List Str} {us : List Value}, us.length = ps.length → ps.Nodup → ps.filterMap (fun n => ((ps.zip us).lookup n).map (n, ·)) = ps.zip us
  | [], _, _, _ => by simp
  | p :: ps, [], h, _ => by simp at h
  | p :: ps, u :: us, h, nd => by
    rw [List.nodup_cons] at nd
    rw [List.zip_cons_cons, List.filterMap_cons]
    simp only [List.lookup, beq_self_eq_true, Option.map_some]
    congr 1
    refine Eq.trans ?_ (fm_zip (ps := ps) (us := us) (by simpa using h) nd.2)
    have key : ∀ l : List Str, (∀ n ∈ l, n ∈ ps) → l.filterMap (fun n => ((match n == p with | true => some u | false => (ps.zip us).lookup n)).map (n, ·)) = l.filterMap (fun n => ((ps.zip us).lookup n).map (n, ·)) := by
      intro l
      induction l with
      | nil => intro _; rfl
      | cons a l ih =>
        intro h
        have : (a == p) = false := by
          have : a ≠ p := fun z => nd.1 (z ▸ h a List.mem_cons_self)
          simpa using this
        rw [List.filterMap_cons, List.filterMap_cons, ih fun n hn => h n (List.mem_cons_of_mem _ hn), this]
    exact key ps fun _ h => h
theorem bind_pos {fd : FuncData} {as : List Arg} {ps : List Str} (hp : fd.params = ⟨[], as, none, [], [], none, []⟩) (hps : as.map (·.arg) = ps) (hd : fd.defaults = .none) {us : List Value} (hl : us.length = ps.length) (nd : ps.Nodup) : bindArgs fd ⟨us, []⟩ = pure (ps.zip us) := by
  obtain ⟨n1, n2, n3, n4, n5, n6, n7, n8, n9, n10, n11, n12, n13, n14, n15⟩ := fd
  dsimp only at hp hd
  subst hp hd
  have h1 : (ps.filter fun n => ((ps.zip us).lookup n).isNone) = [] := by
    rw [List.filter_eq_nil_iff]
    intro n hn
    rw [look_zip hl hn]
    exact Bool.false_ne_true
  have h2 := fm_zip hl nd
  unfold bindArgs
  simp only [hps, List.map_nil, List.nil_append]
  simp [seqItems?, hl, h1, h2]
  rfl
theorem look_none : ∀ {l : List (Str × Value)} {n : Str}, (∀ y ∈ l, y.1 ≠ n) → l.lookup n = none
  | [], _, _ => rfl
  | (a, u) :: l, n, h => by
    have : (n == a) = false := by
      have : n ≠ a := fun z => h (a, u) List.mem_cons_self z.symm
      simpa using this
    simp only [List.lookup, this]
    exact look_none fun y hy => h y (List.mem_cons_of_mem _ hy)
theorem forIn_slots {ps : List Str} {body : Str × Value → List (Str × Value) × List (Str × Value) → Sem (ForInStep (List (Str × Value) × List (Str × Value)))}
    (hb : ∀ x sl, x.1 ∈ ps → sl.lookup x.1 = none → body x (sl, []) = pure (.yield (sl ++ [(x.1, x.2)], []))) : ∀ (l sl : List (Str × Value)), (∀ x ∈ l, x.1 ∈ ps) → (l.map (·.1)).Nodup → (∀ x ∈ l, ∀ y ∈ sl, y.1 ≠ x.1) → forIn l (sl, []) body = pure (sl ++ l, [])
  | [], sl, _, _, _ => by simp
  | x :: l, sl, h1, h2, h3 => by
    rw [List.forIn_cons, hb x sl (h1 x List.mem_cons_self) (look_none (h3 x List.mem_cons_self))]
    rw [List.map_cons, List.nodup_cons] at h2
    simp only [pure_bind]
    rw [forIn_slots hb l (sl ++ [(x.1, x.2)]) (fun y hy => h1 y (List.mem_cons_of_mem _ hy)) h2.2 fun y hy z hz => ?_]
    · simp
    · rcases List.mem_append.mp hz with hz | hz
      · exact h3 y (List.mem_cons_of_mem _ hy) z hz
      · rw [List.mem_singleton.mp hz]
        exact fun e => h2.1 (List.mem_map.mpr ⟨y, hy, e.symm⟩)
/-- by keywords alone -/
theorem bind_kw {fd : FuncData} {as : List Arg} {ps : List Str} (hp : fd.params = ⟨[], as, none, [], [], none, []⟩) (hps : as.map (·.arg) = ps) (hd : fd.defaults = .none) {us : List Value} (hl : us.length = ps.length) (nd : ps.Nodup) : bindArgs fd ⟨[], ps.zip us⟩ = pure (ps.zip us) := by
  obtain ⟨n1, n2, n3, n4, n5, n6, n7, n8, n9, n10, n11, n12, n13, n14, n15⟩ := fd
  dsimp only at hp hd
  subst hp hd
  have h1 : (ps.filter fun n => ((ps.zip us).lookup n).isNone) = [] := by
    rw [List.filter_eq_nil_iff]
    intro n hn
    rw [look_zip hl hn]
    exact Bool.false_ne_true
  have h2 := fm_zip hl nd
  unfold bindArgs
  simp only [hps, List.map_nil, List.nil_append]
  simp [seqItems?, hl, h1, h2]
  rw [forIn_slots (ps := ps) ?_ (ps.zip us) [] ?_ ?_ ?_]
  · simp [h1, h2]
    rfl
  · intro x sl hx hl
    simp [hx, hl]
  · intro x hx
    exact (List.of_mem_zip hx).1
  · rw [List.map_fst_zip (by omega)]
    exact nd
  · intro x _ y hy
    cases hy

/-! ### a text -/
/-- its program, tables, defs, exceptions -/
structure Txt where
  P : Program
  S : SI
  dfs : List He.DefD
  hs : List Hint
  prim : Nat → Option (Orc → List D → Store → Res)
  mids : List (Str × Str)
  flds : List (Str × Str)
  tf : List (Str × Option Str)
  exs : List (Str × Arguments × List Stmt × Scope)
def fd0 : FuncData := PySem.W.fnOf "" "" ⟨[], [], none, [], [], none, []⟩ [] ⟨.function, [], false, false, []⟩ .none .none .none .none none .none .none
namespace Txt
variable (t : Txt) (K : PySem.W.Frag)
def psf (k : Nat) : List Str := match t.dfs[k]? with
  | some d => d.params.args.map (·.arg)
  | none => []
def hint (k : Nat) : Hint := t.hs.getD k { N := [] }
def cmp (k : Nat) : Option (List CS) := match t.dfs[k]? with
  | some d => cSs t.S (t.hint k) 100 d.scope d.body
  | none => none
def T : List FD := (List.range t.dfs.length).map fun k => ⟨(t.psf k).length, (t.hint k).N.length, (t.cmp k).getD [], t.prim k⟩
def mid (c m : Str) : Option Nat := if (c, m) ∈ t.mids then t.S.fns.idxOf? (c, some m) else none
def fld (c f : Str) : Bool := decide ((c, f) ∈ t.flds)
def adr (k : Nat) : Addr := match t.dfs[k]? with
  | some d => He.fAd K d.at_
  | none => 0
def fdt (k : Nat) : FuncData := match K.lookup (t.adr K k) with
  | some ⟨_, _, .func fd, _⟩ => fd
  | _ => fd0
/-! what is looked at in the text alone -/
def plainP : Arguments → Bool
  | ⟨[], _, none, [], [], none, []⟩ => true
  | _ => false
def nm (x : Str) : Bool := !(x == ("__debug__" : Str))
def okDef (k : Nat) (d : He.DefD) : Bool :=
  plainP d.params && d.dfl.isEmpty && d.kwd.isEmpty && C8.scC (t.hint k).N (d.params.args.map (·.arg)) d.scope && ((t.hint k).N.all fun x => nm x && !(x == ("__classdict__" : Str))) && ((t.prim k).isSome || (t.cmp k).isSome) &&
    (!(t.hint k).lam || (decide (d.at_ ∈ t.tf) && decide (d.qual ∈ lamNames))) && (!decide (d.at_.2 = some ("__len__" : Str)) || decide (d.params.args.length = 1)) && decide (d.params.args.map (·.arg)).Nodup
def exShape (a : Arguments) (b : List Stmt) (sc : Scope) : Bool := match a, b with
  | ⟨[], [⟨me, _, _⟩], none, [], [], none, []⟩, [.Expr (.Call (.Attribute (.Call (.Name s _) [] [] _) i p2) [] [] p3) _] => decide (s = "super") && decide (i = "__init__") && (p2.endLine == p3.line) &&
    decide (sc.kind = .function) && !sc.isCoroutine && !sc.isGenerator && (sc.names.all fun y => !decide (y.2 = .cell)) && decide (sc.names.lookup ("super" : Str) = some .globalImplicit) && decide (sc.names.lookup ("__class__" : Str) = some .free) && decide (sc.names.lookup me = some .local) && nm me
  | _, _ => false
def okCons (p : Str × D) : Bool := nm p.1 && match p.2 with
  | .int _ => true
  | .str _ => true
  | _ => false
def ok : Bool :=
  decide (t.S.fns = t.dfs.map (·.at_)) && ((List.range t.dfs.length).all fun k => match t.dfs[k]? with
    | some d => t.okDef k d
    | none => true) && decide (t.S.ps = (List.range t.dfs.length).map t.psf) && (t.S.fns.all fun p => nm p.1) && (t.S.cons.all okCons) &&
    (t.S.cls.all fun p => nm p.1 && (t.prim p.2).isNone && match t.dfs[p.2]? with
      | some d => decide (d.at_ = (p.1, some ("__init__" : Str)))
      | none => false) && decide (t.hs.length = t.dfs.length) &&
    (t.S.eflds.all fun p => !p.2.isEmpty || (nm p.1 && t.exs.any fun e => decide (e.1 = p.1))) && (t.exs.all fun e => exShape e.2.1 e.2.2.1 e.2.2.2) && !(t.P.main.scope.names.lookup ("super" : Str)).isSome &&
    (t.tf.all fun p => t.dfs.any fun d => decide (d.at_ = p))
/-! facts by names -/
def conFa (p : Str × D) : He.Fa := match p.2 with
  | .int i => .int p.1 i
  | .str x => .str p.1 x
  | _ => .free p.1
def fa : List He.Fa :=
  (t.S.fns.filterMap fun p => match p.2 with
    | none => some (He.Fa.glo p.1)
    | some _ => none) ++ bltNames.map He.Fa.free ++ [He.Fa.free "super"] ++ t.S.cons.map conFa ++ t.S.cls.flatMap (fun p => [He.Fa.glo p.1, He.Fa.mkr p.1]) ++ t.mids.flatMap (fun p => [He.Fa.cls p.1, He.Fa.meth p.1 p.2]) ++
    t.flds.flatMap (fun p => [He.Fa.cls p.1, He.Fa.noat p.1 p.2]) ++ t.exs.flatMap (fun e => [He.Fa.glo e.1, He.Fa.exm e.1 e.1 true])
/-! exceptions -/
abbrev ExW : Type := Option (Arguments × FuncBody × Scope × Addr × List Str × Addr)
def exW (x : Str) : ExW := match K.lookup (He.ma K (He.ga K x) "__init__") with
  | some ⟨_, _, .func fd, _⟩ => some (fd.params, fd.body, fd.scope, fd.globals, fd.closure.map (·.1), fd.builtins)
  | _ => none
def exV (e : Str × Arguments × List Stmt × Scope) : ExW := some (e.2.1, .stmts e.2.2.1, e.2.2.2, mainGlobals, ["__class__"], builtinsNs)
def exB (P : Program) (x : Str) : Bool :=
  PySem.W.excInitIn K (He.ga K x) exBm "Exception.__new__" && (PySem.W.keepIn K (.ref (He.ga K x)) && (decide (PySem.W.subIn K (.ref (He.ga K x)) (.type "BaseException") = some true) && (decide (PySem.W.typeIn K (.ref (He.ga K x)) = some (.type "type")) &&
  (decide (PySem.W.subIn K (.ref (He.ga K x)) (.type "Exception") = some true) && ((PySem.W.clsIn K (He.ga K x)).isSome && (decide (PySem.W.mroIn K (He.ga K x) (.ref (He.ga K x)) = some true) &&
  (He.eqO (PySem.W.ks_superIn K (He.ga K x) (He.ga K x) "__init__") (some (some (.builtin "Exception.__init__"))) && (He.eqO (PySem.W.nsIn K cStatics "thirdparty.any") (some none) &&
  (He.eqO (PySem.W.findIn K (.ref (He.ga K x)) "__init__") (some (some (.ref (He.ma K (He.ga K x) "__init__")))) && (decide (PySem.W.typeIn K (.ref (He.ma K (He.ga K x) "__init__")) = some (.type "function")) &&
  (match K.lookup (He.ma K (He.ga K x) "__init__") with
    | some ⟨_, _, .func fd, _⟩ => (match fd.defaults with
      | .none => true
      | _ => false) && ((match fd.closure with
      | [(_, cc)] => (match K.lookup cc with
        | some ⟨_, _, .cell (some (.ref D)), _⟩ => decide (D = He.ga K x)
        | _ => false)
      | _ => false) && (match fd.code with
      | .ref c => (match K.lookup c with
        | some ⟨_, _, .fields vs, _⟩ => (match (vs[1]? : Option Value), (vs[2]? : Option Value) with
          | some (.str q _), some (.str f _) => decide (q = fd.qualname) && ((P.main.file : Str) == f)
          | _, _ => false)
        | _ => false)
      | _ => false))
    | _ => false)))))))))))
theorem exI_of {P : Program} {K : PySem.W.Frag} {e : Str × Arguments × List Stmt × Scope} (h : exW K e.1 = exV e) (b : exB K P e.1 = true) (ht : (P.main.scope.names.lookup ("super" : Str)).isSome = false) : ExI P K (He.ga K e.1) e.2.1 e.2.2.1 e.2.2.2 := by
  obtain ⟨b1, b⟩ := He.ba b
  obtain ⟨b2, b⟩ := He.ba b
  obtain ⟨b3, b⟩ := He.ba b
  obtain ⟨b4, b⟩ := He.ba b
  obtain ⟨b5, b⟩ := He.ba b
  obtain ⟨b6, b⟩ := He.ba b
  obtain ⟨b7, b⟩ := He.ba b
  obtain ⟨b8, b⟩ := He.ba b
  obtain ⟨b9, b⟩ := He.ba b
  obtain ⟨b10, b⟩ := He.ba b
  obtain ⟨b11, b⟩ := He.ba b
  refine ⟨b1, b2, of_decide_eq_true b3, of_decide_eq_true b4, of_decide_eq_true b5, Option.isSome_iff_exists.mp b6, of_decide_eq_true b7, He.eqO_ok b8, He.eqO_ok b9, ht, ?_⟩
  unfold exW at h
  cases q : K.lookup (He.ma K (He.ga K e.1) "__init__") with
  | none => rw [q] at h; cases h
  | some o =>
    obtain ⟨oc, od, dt, osl⟩ := o
    rw [q] at h b
    cases dt with
    | func fd =>
      obtain ⟨n1, n2, n3, n4, n5, n6, n7, n8, n9, n10, n11, n12, n13, n14, n15⟩ := fd
      have h2 : (some (n3, n4, n5, n6, n7.map (fun x => x.1), n15) : Option (Arguments × FuncBody × Scope × Addr × List Str × Addr)) = some (e.2.1, FuncBody.stmts e.2.2.1, e.2.2.2, mainGlobals, [("__class__" : Str)], builtinsNs) := h
      simp only [Option.some.injEq, Prod.mk.injEq] at h2
      obtain ⟨h3, h4, h5, h6, h7, h8⟩ := h2
      subst h3 h4 h5 h6 h8
      dsimp only at b
      obtain ⟨c1, b⟩ := He.ba b
      obtain ⟨c2, c3⟩ := He.ba b
      split at c1
      · split at c2
        · rename_i nmc cc _
          have en : nmc = "__class__" := by simpa using h7
          subst en
          split at c2
          · rename_i cl cld D csl hcc
            have eD := of_decide_eq_true c2
            subst eD
            split at c3
            · rename_i cda _
              split at c3
              · rename_i ccl cdd vs ccs hcd
                split at c3
                · rename_i q' t1 f tf hv1 hv2
                  obtain ⟨c4, c5⟩ := He.ba c3
                  have eq := of_decide_eq_true c4
                  subst eq
                  exact ⟨_, cc, cda, oc, od, osl, n1, _, .none, n9, n10, n11, n14, n12, ccl, cdd, vs, ccs, t1, f, tf, cl, cld, csl, He.eqO_ok b10, of_decide_eq_true b11, q, rfl, hcd, hv1, hv2, c5, hcc⟩
                · cases c3
              · cases c3
            · cases c3
          · cases c2
        · cases c2
      · cases c1
    | _ => cases h
/-! tables -/
def cTn (p : Str × Option Str) : Addr × Str := ((He.cT K p).2, match K.lookup (He.fAd K p) with
  | some ⟨_, _, .func fd, _⟩ => (fd.qualname ++ ".<locals>.") ++ "<lambda>"
  | _ => "")
def lamB : Bool := ((tabsOf K).all fun p => t.tf.any fun d => decide (cTn K d = p)) && (t.tf.all fun d => decide (cTn K d ∈ tabsOf K) && (tabsOf K).all fun p => !decide (p.1 = (cTn K d).1) || decide (p.2 = (cTn K d).2))
def noLst : Bool := K.all fun p => match p.2.cls with
  | .type c => !decide (c = "list")
  | _ => true
def more : Bool := (t.exs.all fun e => exB K t.P e.1) && (t.lamB K && noLst K)
/-! the Hook -/
def asY (g : Addr → Option Obj) : Nat → List Addr
  | 0 => [mainGlobals, cStatics]
  | n + 1 => He.growD g (asY g n)
abbrev AlY : Type := (He.AlD × List ExW) × Bool
def obsY (n : Nat) (g : Addr → Option Obj) : AlY := ((He.obsD t.fa t.dfs (He.frT g (asY g n)), t.exs.map fun e => exW (He.frT g (asY g n)) e.1), t.more (He.frT g (asY g n)) && He.tabsB g t.tf (He.frT g (asY g n)))
def valY : AlY := ((He.valD t.dfs, t.exs.map exV), true)
/-- what is told -/
structure Says (h : Heap) : Prop where
  d : He.SaysD t.fa t.dfs K
  ex : t.exs.map (fun e => exW K e.1) = t.exs.map exV
  more : t.more K = true
  hd : ∀ p ∈ t.tf, PySem.W.codeHdIn K (He.cT K p).1 (He.cT K p).2 = true
  out : ∀ p ∈ t.tf, K.lookup (He.cT K p).2 = none
  empty : ∀ p ∈ t.tf, h.get? (He.cT K p).2 = some { cls := .none, data := .fields #[] }
theorem says_of {n : Nat} {h : Heap} (e : t.obsY n h.get? = t.valY) : t.Says (He.frT h.get? (asY h.get? n)) h := by
  have e1 : He.obsD t.fa t.dfs (He.frT h.get? (asY h.get? n)) = He.valD t.dfs := congrArg (fun z : AlY => z.1.1) e
  have e3 : (t.exs.map fun e => exW (He.frT h.get? (asY h.get? n)) e.1) = t.exs.map exV := congrArg (fun z : AlY => z.1.2) e
  have e2 : (t.more (He.frT h.get? (asY h.get? n)) && He.tabsB h.get? t.tf (He.frT h.get? (asY h.get? n))) = true := congrArg (fun z : AlY => z.2) e
  obtain ⟨h1, h2⟩ := He.ba e2
  have key : ∀ p ∈ t.tf, PySem.W.codeHdIn (He.frT h.get? (asY h.get? n)) (He.cT (He.frT h.get? (asY h.get? n)) p).1 (He.cT (He.frT h.get? (asY h.get? n)) p).2 = true ∧ ∃ o, h.get? (He.cT (He.frT h.get? (asY h.get? n)) p).2 = some o ∧ He.emptyTab o = true := fun p hp => by
    obtain ⟨h3, h4⟩ := He.ba (List.all_eq_true.mp h2 p hp)
    refine ⟨h3, ?_⟩
    split at h4
    · rename_i o q
      exact ⟨o, q, h4⟩
    · cases h4
  exact ⟨e1, e3, h1, fun p hp => (key p hp).1, fun p hp => by
    obtain ⟨_, o, q, z⟩ := key p hp
    exact He.frT_none q z, fun p hp => by
    obtain ⟨_, o, q, z⟩ := key p hp
    rw [q, He.emptyTab_eq z]⟩
def hook (n : Nat) : PySem.W.Hook where
  α := AlY
  obs := fun s => t.obsY n s.heap.get?
  val := fun _ => t.valY
  says := fun _ h => ∃ K : PySem.W.Frag, K.In h ∧ t.Says K h
  of := fun _ _ e => ⟨_, He.frT_in, t.says_of e⟩
  keeps := fun _ _ _ ⟨K, hK, c⟩ k => ⟨K, PySem.W.Frag.In.keeps hK k, ⟨c.d, c.ex, c.more, c.hd, c.out, fun p hp => k _ _ (c.empty p hp)⟩⟩
theorem obsY_eq {n : Nat} {g : Addr → Option Obj} {s : Shared} (h : ∀ a, g a = s.heap.get? a) : t.obsY n g = (t.hook n).obs s := by
  have e : g = s.heap.get? := funext h
  rw [e] <;> rfl
end Txt
end DI
/-! DI: a text's facts, for all levels. -/
set_option maxHeartbeats 2000000
namespace DI
open PySem PySem.Spec PyProof.Rows L2
namespace Txt
variable {t : Txt} {K : PySem.W.Frag}
theorem idxOf_lt {α : Type} [BEq α] [LawfulBEq α] {l : List α} {x : α} {i : Nat} (h : l.idxOf? x = some i) : i < l.length := by
  have := idxOf_get h
  exact (List.getElem?_eq_some_iff.mp this).1
theorem T_get {k : Nat} {d : He.DefD} (h : t.dfs[k]? = some d) : t.T[k]? = some ⟨(t.psf k).length, (t.hint k).N.length, (t.cmp k).getD [], t.prim k⟩ := by
  have hl : k < t.dfs.length := (List.getElem?_eq_some_iff.mp h).1
  unfold T
  rw [List.getElem?_map, List.getElem?_range hl]
  rfl
theorem T_of {k : Nat} {fd : FD} (h : t.T[k]? = some fd) : ∃ d, t.dfs[k]? = some d ∧ fd = ⟨(t.psf k).length, (t.hint k).N.length, (t.cmp k).getD [], t.prim k⟩ := by
  unfold T at h
  rw [List.getElem?_map, Option.map_eq_some_iff] at h
  obtain ⟨j, h1, h2⟩ := h
  have hl : k < t.dfs.length := by
    have := (List.getElem?_eq_some_iff.mp h1).1
    simpa using this
  rw [List.getElem?_range hl] at h1
  cases h1
  exact ⟨t.dfs[k], by simp [hl], h2.symm⟩
/-- what the look at the text tells -/
structure Ok (t : Txt) : Prop where
  fns : t.S.fns = t.dfs.map (·.at_)
  defs : ∀ k d, t.dfs[k]? = some d → t.okDef k d = true
  ps : t.S.ps = (List.range t.dfs.length).map t.psf
  nms : ∀ p ∈ t.S.fns, nm p.1 = true
  cons : ∀ p ∈ t.S.cons, okCons p = true
  cls : ∀ p ∈ t.S.cls, nm p.1 = true ∧ t.prim p.2 = none ∧ ∃ d, t.dfs[p.2]? = some d ∧ d.at_ = (p.1, some ("__init__" : Str))
  hl : t.hs.length = t.dfs.length
  efl : ∀ p ∈ t.S.eflds, p.2 = [] → nm p.1 = true ∧ ∃ e ∈ t.exs, e.1 = p.1
  exs : ∀ e ∈ t.exs, exShape e.2.1 e.2.2.1 e.2.2.2 = true
  top : (t.P.main.scope.names.lookup ("super" : Str)).isSome = false
  tf : ∀ p ∈ t.tf, ∃ d ∈ t.dfs, d.at_ = p
theorem ok_of (h : t.ok = true) : t.Ok := by
  unfold ok at h
  simp only [Bool.and_eq_true] at h
  obtain ⟨⟨⟨⟨⟨⟨⟨⟨⟨⟨h1, h2⟩, h3⟩, h4⟩, h5⟩, h6⟩, h7⟩, h8⟩, h9⟩, h10⟩, h11⟩ := h
  refine ⟨of_decide_eq_true h1, fun k d hk => ?_, of_decide_eq_true h3, fun p hp => List.all_eq_true.mp h4 p hp, fun p hp => List.all_eq_true.mp h5 p hp, fun p hp => ?_, of_decide_eq_true h7, fun p hp e => ?_, fun e he => List.all_eq_true.mp h9 e he, ?_, fun p hp => ?_⟩
  · have hl : k < t.dfs.length := (List.getElem?_eq_some_iff.mp hk).1
    have := List.all_eq_true.mp h2 k (List.mem_range.mpr hl)
    rw [hk] at this
    exact this
  · have := List.all_eq_true.mp h6 p hp
    simp only [Bool.and_eq_true] at this
    obtain ⟨⟨q1, q2⟩, q3⟩ := this
    refine ⟨q1, by simpa using q2, ?_⟩
    split at q3
    · rename_i d hd
      exact ⟨d, hd, of_decide_eq_true q3⟩
    · cases q3
  · have := List.all_eq_true.mp h8 p hp
    rw [e] at this
    simp only [List.isEmpty_nil, Bool.not_true, Bool.false_or, Bool.and_eq_true, List.any_eq_true, decide_eq_true_eq] at this
    exact this
  · simpa using h10
  · have := List.all_eq_true.mp h11 p hp
    simp only [List.any_eq_true, decide_eq_true_eq] at this
    exact this
theorem nm_ok {x : Str} (h : nm x = true) : (x == ("__debug__" : Str)) = false := by
  unfold nm at h
  simpa using h
theorem tab_lam {p : Str × Option Str} {oc : Value} {od : Option Addr} {osl : Array (Option Value)} {fd : FuncData} (lk : K.lookup (He.fAd K p) = some ⟨oc, od, .func fd, osl⟩) : cTn K p = ((He.cT K p).2, (fd.qualname ++ ".<locals>.") ++ "<lambda>") := by
  unfold cTn
  rw [lk]
theorem plain_of {a : Arguments} (h : plainP a = true) : a = ⟨[], a.args, none, [], [], none, []⟩ := by
  unfold plainP at h
  split at h
  · rfl
  · cases h
section
variable {w : World} {mg : Str → Option Value} {base h0 : Heap}
theorem exOk_of (O : t.Ok) (s : t.Says K h0) (hs : ∀ f ∈ t.fa, f.ok K = true) (X : K.In base) (G : base.Ns mainGlobals mg) (x : Str) (hx : t.S.eflds.lookup x = some []) : ExOk t.P K mg x := by
  have hm : (x, ([] : List Str)) ∈ t.S.eflds := PySem.mem_of_lookup hx
  obtain ⟨h1, e, he, ee⟩ := O.efl _ hm rfl
  have ee : e.1 = x := ee
  subst ee
  have hw : exW K e.1 = exV e := by
    have := s.ex
    obtain ⟨i, hi, q⟩ := List.mem_iff_getElem.mp he
    have z : (t.exs.map fun e => exW K e.1)[i]? = (t.exs.map exV)[i]? := by rw [this]
    rw [List.getElem?_map, List.getElem?_map, List.getElem?_eq_getElem hi, q] at z
    exact Option.some.inj z
  obtain ⟨m1, m2⟩ := He.ba s.more
  have hb := List.all_eq_true.mp m1 e he
  have hI := exI_of hw hb O.top
  have sh := O.exs e he
  obtain ⟨e1, e2, e3, e4⟩ := e
  dsimp only at hI sh
  unfold exShape at sh
  split at sh
  · rename_i me an pa sn p0 p1 i p2 p3 p4
    simp only [Bool.and_eq_true, decide_eq_true_eq, Bool.not_eq_true', List.all_eq_true, decide_eq_false_iff_not] at sh
    obtain ⟨⟨⟨⟨⟨⟨⟨⟨⟨⟨rfl, rfl⟩, q3⟩, q4⟩, q5⟩, q6⟩, q7⟩, q8⟩, q9⟩, q10⟩, q11⟩ := sh
    refine ⟨⟨me, an, pa, p0, p1, p2, p3, p4, e4, hI, ⟨q4, q5, q6, q7, q8, q9, q10, nm_ok q11⟩, q3⟩, nm_ok h1, ?_, ?_⟩
    · exact He.glo_ok X G (hs (.glo e1) (by
        unfold fa
        exact List.mem_append_right _ (List.mem_flatMap.mpr ⟨_, he, by simp⟩)))
    · exact He.free_ok X G (hs (.free "super") (by
        unfold fa
        simp))
  · cases sh
theorem wd (O : t.Ok) (s : t.Says K h0) (X : K.In base) (G : base.Ns mainGlobals mg) (TB : ∀ p ∈ t.tf, LamX.TabB base mg (He.cT K p).1 (He.cT K p).2)
    (pr : ∀ f fd p, t.T[f]? = some fd → fd.prim = some p → ∀ k, GAll t.S (t.hint f) (lev t.T t.mid t.fld (k + 1)) t.P w K mg base (k + 1) →
      FnOk t.P w K mg base (L2.CX t.P w) (k + 2) (t.adr K f) (t.fdt K f) (t.psf f) (spF K (t.psf f).length (runF t.T (lev t.T t.mid t.fld (k + 1)) f))) :
    Wd t.S t.hint t.T t.mid t.fld t.P w K mg base (t.adr K) (t.fdt K) t.psf := by
  have hs : ∀ f ∈ t.fa, f.ok K = true := fun f hf => He.SaysD.facts s.d hf
  have dk : ∀ k d, t.dfs[k]? = some d → ∃ fd, He.DefD.ok K d = true ∧ FunD K d.name d.qual d.params d.body d.scope (d.dvs K) (d.kws K) (t.adr K k) fd ∧ t.fdt K k = fd := fun k d hk => by
    obtain ⟨fd, F⟩ := s.d.def_ k hk
    have ea : t.adr K k = He.fAd K d.at_ := by unfold adr; rw [hk]
    have c1 := (He.ba (show ((t.fa.all fun f => f.ok K) && t.dfs.all fun d => d.ok K) = true from congrArg (fun z : He.AlD => z.1) s.d)).2
    refine ⟨fd, List.all_eq_true.mp c1 d (List.mem_of_getElem? hk), by rw [ea]; exact F, ?_⟩
    obtain ⟨oc, od, dV, kV, doc, pm, an, cdv, ct, osl, e, lk, _⟩ := F.ex
    unfold fdt
    rw [ea, lk]
  have od : ∀ k d, t.dfs[k]? = some d → plainP d.params = true ∧ d.dfl = [] ∧ d.kwd = [] ∧ FnScope (t.hint k).N (t.psf k) d.scope ∧ (∀ x ∈ (t.hint k).N, nm x = true ∧ (x == ("__classdict__" : Str)) = false) ∧ (t.prim k = none → t.cmp k = some ((t.cmp k).getD [])) ∧
      ((t.hint k).lam = true → d.at_ ∈ t.tf ∧ d.qual ∈ lamNames) ∧ (d.at_.2 = some ("__len__" : Str) → (t.psf k).length = 1) ∧ (t.psf k).Nodup ∧ t.psf k = d.params.args.map (·.arg) := fun k d hk => by
    have h := O.defs k d hk
    have ep : t.psf k = d.params.args.map (·.arg) := by unfold psf; rw [hk]
    unfold okDef at h
    simp only [Bool.and_eq_true, List.isEmpty_iff, List.all_eq_true, Bool.or_eq_true, Bool.not_eq_true', decide_eq_true_eq, decide_eq_false_iff_not] at h
    obtain ⟨⟨⟨⟨⟨⟨⟨⟨h1, h2⟩, h3⟩, h4⟩, h5⟩, h6⟩, h7⟩, h8⟩, h9⟩ := h
    refine ⟨h1, h2, h3, by rw [ep]; exact C8.fnScope_by h4, h5, fun hp => ?_, fun hl => ?_, fun he => ?_, by rw [ep]; exact h9, ep⟩
    · rcases h6 with h6 | h6
      · rw [hp] at h6; cases h6
      · obtain ⟨c, hc⟩ := Option.isSome_iff_exists.mp h6
        rw [hc]; rfl
    · rcases h7 with h7 | h7
      · rw [hl] at h7; cases h7
      · exact h7
    · rcases h8 with h8 | h8
      · exact absurd he h8
      · rw [ep, List.length_map]; exact h8
  have hints : ∀ k, t.dfs[k]? = none → t.hint k = { N := [] } := fun k hk => by
    unfold hint
    rw [List.getD_eq_getElem?_getD, List.getElem?_eq_none (by rw [O.hl]; exact List.getElem?_eq_none_iff.mp hk)]
    rfl
  have dv : ∀ k d fd, t.dfs[k]? = some d → t.fdt K k = fd → FunD K d.name d.qual d.params d.body d.scope (d.dvs K) (d.kws K) (t.adr K k) fd → fd.params = ⟨[], d.params.args, none, [], [], none, []⟩ ∧ fd.defaults = .none := fun k d fd hk e F => by
    obtain ⟨oc, od', dV, kV, doc, pm, an, cdv, ct, osl, rfl, lk, hcd, hD, hK⟩ := F.ex
    obtain ⟨o1, o2, _⟩ := od k d hk
    refine ⟨plain_of o1, ?_⟩
    have : d.dvs K = [] := by unfold He.DefD.dvs; rw [o2]; rfl
    rw [this] at hD
    rcases hD with ⟨_, h⟩ | ⟨h, _⟩
    · exact h
    · exact absurd rfl h
  refine {
    df := fun f fd hf hp => ?_
    np := fun f fd hf => ?_
    bd := fun f fd hf => ?_
    kb := fun f fd hf s ws hK hl => ?_
    ps := fun f ks hk => ?_
    nd := fun f => ?_
    names := fun f x hx => ?_
    cons := fun x d hx => ?_
    blt := fun x hx => ?_
    fns := fun f x hx => ?_
    cls := fun x f hx => ?_
    meth := fun C m i hi => ?_
    len1 := fun C m hm => ?_
    fl := fun C f hf => ?_
    exc := fun x hx => exOk_of O s hs X G x hx
    pr := pr }
  · obtain ⟨d, hd, rfl⟩ := T_of hf
    obtain ⟨fd, hok, F, e⟩ := dk f d hd
    obtain ⟨o1, o2, o3, o4, o5, o6, o7, o8, o9, o10⟩ := od f d hd
    rw [e]
    obtain ⟨oc, od', dV, kV, doc, pm, an, cdv, ct, osl, rfl, lk, hcd, hD, hK⟩ := F.ex
    refine ⟨⟨oc, od', osl, d.name, d.qual, d.params, d.body, d.scope, dV, kV, doc, pm, cdv, ct, an, rfl, lk, hcd, o4, ?_, fun hl => ?_⟩, rfl, rfl, hp, hf⟩
    · have := o6 hp
      unfold cmp at this
      rw [hd] at this
      unfold cmp
      rw [hd]
      exact this
    · obtain ⟨q1, q2⟩ := o7 hl
      have ea : t.adr K f = He.fAd K d.at_ := by unfold adr; rw [hd]
      rw [ea] at lk
      obtain ⟨c, rfl⟩ := He.codeIn_ref hcd
      have hc : (He.cT K d.at_).1 = c := He.codeOf_eq lk rfl
      obtain ⟨m1, m2⟩ := He.ba s.more
      obtain ⟨m3, m4⟩ := He.ba m2
      unfold lamB at m3
      obtain ⟨m5, m6⟩ := He.ba m3
      obtain ⟨m7, m8⟩ := He.ba (List.all_eq_true.mp m6 _ q1)
      have m7 := of_decide_eq_true m7
      rw [tab_lam lk] at m7 m8
      refine ⟨c, (He.cT K d.at_).2, rfl, by rw [← hc]; exact TB _ q1, m7, fun p hp e => ?_⟩
      have := List.all_eq_true.mp m8 p hp
      simp only [Bool.or_eq_true, Bool.not_eq_true', decide_eq_false_iff_not, decide_eq_true_eq] at this
      rcases this with z | z
      · exact absurd e z
      · exact z
  · obtain ⟨d, hd, rfl⟩ := T_of hf
    rfl
  · obtain ⟨d, hd, rfl⟩ := T_of hf
    obtain ⟨fd, hok, F, e⟩ := dk f d hd
    obtain ⟨o1, o2, o3, o4, o5, o6, o7, o8, o9, o10⟩ := od f d hd
    obtain ⟨v1, v2⟩ := dv f d fd hd e F
    rw [e]
    exact Binds.all fun us hl => bind_pos v1 o10.symm v2 hl o9
  · obtain ⟨d, hd, rfl⟩ := T_of hf
    obtain ⟨fd, hok, F, e⟩ := dk f d hd
    obtain ⟨o1, o2, o3, o4, o5, o6, o7, o8, o9, o10⟩ := od f d hd
    obtain ⟨v1, v2⟩ := dv f d fd hd e F
    rw [e]
    exact BindsTo.of_eq (bind_kw v1 o10.symm v2 hl o9)
  · rw [O.ps] at hk
    rw [List.getElem?_map, Option.map_eq_some_iff] at hk
    obtain ⟨j, h1, h2⟩ := hk
    have hl : f < t.dfs.length := by
      have := (List.getElem?_eq_some_iff.mp h1).1
      simpa using this
    rw [List.getElem?_range hl] at h1
    cases h1
    exact h2.symm
  · cases hd : t.dfs[f]? with
    | none => rw [hints f hd]; exact List.nodup_nil
    | some d => exact (od f d hd).2.2.2.1.nd
  · cases hd : t.dfs[f]? with
    | none => rw [hints f hd] at hx; cases hx
    | some d => exact ⟨nm_ok ((od f d hd).2.2.2.2.1 x hx).1, ((od f d hd).2.2.2.2.1 x hx).2⟩
  · have hm : (x, d) ∈ t.S.cons := PySem.mem_of_lookup hx
    have hc := O.cons _ hm
    have hf := hs (conFa (x, d)) (by
      unfold fa
      exact List.mem_append_left _ (List.mem_append_left _ (List.mem_append_left _ (List.mem_append_left _ (List.mem_append_right _ (List.mem_map.mpr ⟨_, hm, rfl⟩))))))
    unfold okCons at hc
    obtain ⟨c1, c2⟩ := He.ba hc
    refine ⟨nm_ok c1, ?_⟩
    cases d with
    | int i =>
      obtain ⟨tk, e⟩ := He.int_ok X G hf
      exact .inl ⟨i, tk, rfl, e⟩
    | str y =>
      obtain ⟨tk, e⟩ := He.str_ok X G hf
      exact .inr ⟨y, tk, rfl, e⟩
    | _ => cases c2
  · exact He.free_ok X G (hs (.free x) (by
      unfold fa
      exact List.mem_append_left _ (List.mem_append_left _ (List.mem_append_left _ (List.mem_append_left _ (List.mem_append_left _ (List.mem_append_left _ (List.mem_append_right _ (List.mem_map.mpr ⟨x, hx, rfl⟩)))))))))
  · have hlt := idxOf_lt hx
    have hg := idxOf_get hx
    have hlt2 : f < t.dfs.length := by rw [O.fns, List.length_map] at hlt; exact hlt
    have hd : t.dfs[f]? = some t.dfs[f] := by simp [hlt2]
    have hat : t.dfs[f].at_ = (x, none) := by
      have := hg
      rw [O.fns, List.getElem?_map, hd] at this
      exact Option.some.inj this
    have hmem : (x, (none : Option Str)) ∈ t.S.fns := List.mem_of_getElem? hg
    obtain ⟨fd, hok, F, e⟩ := dk f _ hd
    have ea : t.adr K f = He.ga K x := by unfold adr; rw [hd]; show He.fAd K t.dfs[f].at_ = _; rw [hat]; rfl
    refine ⟨nm_ok (O.nms _ hmem), ⟨_, T_get hd⟩, ?_, F.kp⟩
    rw [ea]
    exact He.glo_ok X G (hs (.glo x) (by
      unfold fa
      exact List.mem_append_left _ (List.mem_append_left _ (List.mem_append_left _ (List.mem_append_left _ (List.mem_append_left _ (List.mem_append_left _ (List.mem_append_left _ (List.mem_filterMap.mpr ⟨_, hmem, rfl⟩)))))))))
  · have hm : (x, f) ∈ t.S.cls := PySem.mem_of_lookup hx
    obtain ⟨q1, q2, d, hd, hat⟩ := O.cls _ hm
    have ea : t.adr K f = He.ma K (He.ga K x) "__init__" := by
      unfold adr
      rw [hd]
      show He.fAd K d.at_ = _
      rw [hat]
      rfl
    refine ⟨nm_ok q1, ⟨_, T_get hd, q2⟩, ?_, ?_⟩
    · rw [ea]
      exact He.mkr_ok (hs (.mkr x) (by
        unfold fa
        refine List.mem_append_left _ (List.mem_append_left _ (List.mem_append_left _ (List.mem_append_right _ (List.mem_flatMap.mpr ⟨_, hm, ?_⟩))))
        simp))
    · exact He.glo_ok X G (hs (.glo x) (by
        unfold fa
        refine List.mem_append_left _ (List.mem_append_left _ (List.mem_append_left _ (List.mem_append_right _ (List.mem_flatMap.mpr ⟨_, hm, ?_⟩))))
        simp))
  · unfold mid at hi
    split at hi
    · rename_i hm
      have hlt := idxOf_lt hi
      have hg := idxOf_get hi
      have hlt2 : i < t.dfs.length := by rw [O.fns, List.length_map] at hlt; exact hlt
      have hd : t.dfs[i]? = some t.dfs[i] := by simp [hlt2]
      have hat : t.dfs[i].at_ = (C, some m) := by
        have := hg
        rw [O.fns, List.getElem?_map, hd] at this
        exact Option.some.inj this
      have ea : t.adr K i = He.ma K (He.ga K C) m := by unfold adr; rw [hd]; show He.fAd K t.dfs[i].at_ = _; rw [hat]; rfl
      refine ⟨?_, ?_, _, T_get hd⟩
      · exact He.cls_ok (hs (.cls C) (by
          unfold fa
          refine List.mem_append_left _ (List.mem_append_left _ (List.mem_append_right _ (List.mem_flatMap.mpr ⟨_, hm, ?_⟩)))
          simp))
      · rw [ea]
        exact He.meth_ok (hs (.meth C m) (by
          unfold fa
          refine List.mem_append_left _ (List.mem_append_left _ (List.mem_append_right _ (List.mem_flatMap.mpr ⟨_, hm, ?_⟩)))
          simp))
    · cases hi
  · unfold mid at hm
    split at hm
    · have hlt := idxOf_lt hm
      have hg := idxOf_get hm
      have hlt2 : m < t.dfs.length := by rw [O.fns, List.length_map] at hlt; exact hlt
      have hd : t.dfs[m]? = some t.dfs[m] := by simp [hlt2]
      have hat : t.dfs[m].at_ = (C, some ("__len__" : Str)) := by
        have := hg
        rw [O.fns, List.getElem?_map, hd] at this
        exact Option.some.inj this
      exact (od m _ hd).2.2.2.2.2.2.2.1 (by rw [hat])
    · cases hm
  · unfold fld at hf
    have hm := of_decide_eq_true hf
    refine ⟨He.cls_ok (hs (.cls C) (by
          unfold fa
          refine List.mem_append_left _ (List.mem_append_right _ (List.mem_flatMap.mpr ⟨_, hm, ?_⟩))
          simp)), He.noat_ok (hs (.noat C f) (by
          unfold fa
          refine List.mem_append_left _ (List.mem_append_right _ (List.mem_flatMap.mpr ⟨_, hm, ?_⟩))
          simp))⟩
end
end Txt
end DI
/-! DI: a law's end. -/
set_option maxHeartbeats 2000000
namespace DI
open PySem PySem.Spec PyProof.Rows L2
namespace Txt
variable {t : Txt}
/-- what is asked of the defs that run by hand -/
def PrOk (t : Txt) (w : World) : Prop := ∀ (K : PySem.W.Frag) (mg : Str → Option Value) (base h0 : Heap), t.Ok → t.Says K h0 → K.In base → base.Ns mainGlobals mg → (∀ p ∈ t.tf, LamX.TabB base mg (He.cT K p).1 (He.cT K p).2) →
    ∀ f fd p, t.T[f]? = some fd → fd.prim = some p → ∀ k, GAll t.S (t.hint f) (lev t.T t.mid t.fld (k + 1)) t.P w K mg base (k + 1) →
      FnOk t.P w K mg base (L2.CX t.P w) (k + 2) (t.adr K f) (t.fdt K f) (t.psf f) (spF K (t.psf f).length (runF t.T (lev t.T t.mid t.fld (k + 1)) f))
theorem lookup_mem {a : Addr} {o : Obj} {K : PySem.W.Frag} (h : K.lookup a = some o) : (a, o) ∈ K := He.lookup_mem h
theorem law_at {l : PySem.W.OpenLaw} (hP : l.prog = t.P) (O : t.Ok) {w : World} {n k li : Nat} {x nmL : Str} {d : He.DefD} (hd : t.dfs[li]? = some d) (hat : d.at_ = (nmL, none)) (hps : t.psf li = [x]) (pr : t.PrOk w)
    (hrun : ∀ ns : List Int, ns.length ≤ n → (∀ z ∈ ns, Builtin.Int.intBits z ≤ 1048576) → ∃ st, (lev t.T t.mid t.fld k).call li [.lst (ns.map D.int)] [] = some (.ok (.bl true), st))
    {mg : Str → Option Value} {fa : Addr} {h : Heap} (Y : ∃ K : PySem.W.Frag, K.In h ∧ t.Says K h) (G : h.Ns mainGlobals mg) (hmg : mg nmL = some (.ref fa)) :
    ∃ K : PySem.W.Frag, K.In h ∧ LamX.LawAtS l w K (L2.CX l.prog w) k n x mg fa h := by
  obtain ⟨K, KX, s⟩ := Y
  have hs : ∀ f ∈ t.fa, f.ok K = true := fun f hf => He.SaysD.facts s.d hf
  obtain ⟨m1, m2⟩ := He.ba s.more
  obtain ⟨m3, m4⟩ := He.ba m2
  unfold lamB at m3
  obtain ⟨m5, m6⟩ := He.ba m3
  have hmem : (nmL, (none : Option Str)) ∈ t.S.fns := by
    rw [O.fns]
    exact List.mem_map.mpr ⟨d, List.mem_of_getElem? hd, hat⟩
  have ea : t.adr K li = fa := by
    have e1 : t.adr K li = He.ga K nmL := by unfold adr; rw [hd]; show He.fAd K d.at_ = _; rw [hat]; rfl
    have e2 := He.glo_ok KX G (hs (.glo nmL) (by
      unfold Txt.fa
      exact List.mem_append_left _ (List.mem_append_left _ (List.mem_append_left _ (List.mem_append_left _ (List.mem_append_left _ (List.mem_append_left _ (List.mem_append_left _ (List.mem_filterMap.mpr ⟨_, hmem, rfl⟩)))))))))
    rw [hmg] at e2
    cases e2
    exact e1
  refine ⟨K, KX, t.fdt K li, t.tf.map (He.cT K), spF K 1 ((lev t.T t.mid t.fld k).call li), ?_, ?_, ?_, ?_, ?_, ?_⟩
  · intro p hp
    obtain ⟨q, hq, rfl⟩ := List.mem_map.mp hp
    exact s.empty q hq
  · intro p hp
    obtain ⟨q, hq, rfl⟩ := List.mem_map.mp hp
    exact s.out q hq
  · intro p hp
    obtain ⟨q, hq, rfl⟩ := List.mem_map.mp hp
    exact PySem.W.codeHd_of_K KX (s.hd q hq)
  · intro s' u
    obtain ⟨fd, F⟩ := s.d.def_ li hd
    have hdf := O.defs li d hd
    unfold okDef at hdf
    simp only [Bool.and_eq_true, List.isEmpty_iff] at hdf
    obtain ⟨⟨⟨⟨⟨⟨⟨⟨h1, h2⟩, h3⟩, h4⟩, h5⟩, h6⟩, h7⟩, h8⟩, h9⟩ := hdf
    have ep : t.psf li = d.params.args.map (·.arg) := by unfold psf; rw [hd]
    have e2 : t.adr K li = He.fAd K d.at_ := by unfold adr; rw [hd]
    obtain ⟨oc, od', dV, kV, doc, pm, an, cdv, ct, osl, rfl, lk, hcd, hD, hK⟩ := F.ex
    have e : t.fdt K li = PySem.W.fnOf d.name d.qual d.params d.body d.scope dV kV doc pm an cdv ct := by
      unfold fdt
      rw [e2, lk]
    have : d.dvs K = [] := by unfold He.DefD.dvs; rw [h2]; rfl
    rw [this] at hD
    rcases hD with ⟨_, hD⟩ | ⟨hD, _⟩
    · subst hD
      rw [e]
      have := bind_pos (fd := PySem.W.fnOf d.name d.qual d.params d.body d.scope .none kV doc pm an cdv ct) (us := [u]) (plain_of h1) (ep.symm.trans hps) rfl rfl (by simp)
      exact BindsTo.of_eq this
    · exact absurd rfl hD
  · intro H a ns hl hb hT hS
    obtain ⟨st, hr⟩ := hrun ns hl hb
    have hS' : Rd H a (.lst (ns.map V.int)) := by
      rcases hS with z | ⟨o, its, m, hk, hc, _⟩
      · exact z
      · have := List.all_eq_true.mp m4 _ (lookup_mem hk)
        dsimp only at this
        rw [hc] at this
        simp at this
    have fz : Fz { ρ := fun _ => a, F := fun _ => False, st := [], H := H } a := ⟨fun l hl => absurd hl (Nat.not_lt_zero _), fun z => z⟩
    refine ⟨rfl, { ρ := fun _ => a, F := fun _ => False, st := [], H := H }, [.lst (ns.map D.int)], rfl, ⟨fun p hp => ?_, fun l _ hl => absurd hl (Nat.not_lt_zero _), fun l hl => absurd hl (Nat.not_lt_zero _), fun _ z => z.elim, fun l d hl => by cases hl⟩, ?_, ?_⟩
    · have := List.all_eq_true.mp m5 p hp
      simp only [List.any_eq_true, decide_eq_true_eq] at this
      obtain ⟨q, hq, e⟩ := this
      subst e
      have e1 : (cTn K q).1 = (He.cT K q).2 := rfl
      refine LamX.TabS.nil ?_
      rw [e1]
      exact hT _ (List.mem_map.mpr ⟨q, hq, rfl⟩)
    · refine RL.one ?_
      simp only [RV]
      exact ⟨a, _, rfl, fz, hS', RL.ofInts ns⟩
    · show Post _ _ _ _ ((lev t.T t.mid t.fld k).call li [.lst (ns.map D.int)] []) _
      rw [hr]
      exact fun c' v _ _ _ rv => by simpa only [RV] using rv
  · intro base KB GB TB
    have TB' : ∀ p ∈ t.tf, LamX.TabB base mg (He.cT K p).1 (He.cT K p).2 := fun p hp => TB _ (List.mem_map.mpr ⟨p, hp, rfl⟩)
    have W := wd (w := w) O s KB GB TB' (pr K mg base h O s KB GB TB')
    have L := (levels W k).call li _ (T_get hd)
    have L1 := L.1
    rw [ea, hps] at L1
    rw [hP]
    exact L1
theorem no_exc {P : Program} {w : World} {H : Hp} {s : Shared} {e : Value} {s' : Shared} (h : L2.CX P w [] H s (fun _ _ _ => False) e s') : False := by
  obtain ⟨_, _, _, _, _, _, _, _, _, _, _, _, z⟩ := h
  exact z.elim
end Txt
end DI
/-! DI: what is known of a def that runs by hand. -/
set_option maxHeartbeats 2000000
namespace DI
open PySem PySem.Spec PyProof.Rows L2
namespace Txt
variable {t : Txt} {K : PySem.W.Frag} {h0 base : Heap} {mg : Str → Option Value}
structure Hand (t : Txt) (K : PySem.W.Frag) (mg : Str → Option Value) (base : Heap) (f : Nat) (d : He.DefD) : Prop where
  ex : ∃ (oc : Value) (od : Option Addr) (osl : Array (Option Value)) (dV kV doc pm cdv ct : Value) (an : Option Addr),
    t.fdt K f = PySem.W.fnOf d.name d.qual d.params d.body d.scope dV kV doc pm an cdv ct ∧ K.lookup (t.adr K f) = some ⟨oc, od, .func (PySem.W.fnOf d.name d.qual d.params d.body d.scope dV kV doc pm an cdv ct), osl⟩ ∧ PySem.W.codeIn K cdv d.qual = true ∧
    FnScope (t.hint f).N (t.psf f) d.scope ∧ L2.Binds K (PySem.W.fnOf d.name d.qual d.params d.body d.scope dV kV doc pm an cdv ct) (t.psf f) [] ∧ (d.at_ ∈ t.tf → LamAt K mg base cdv d.qual)
  ps : t.psf f = d.params.args.map (·.arg)
  kp : PySem.W.keepIn K (.ref (t.adr K f)) = true
  glo : ∀ x, d.at_ = (x, none) → (x == ("__debug__" : Str)) = false ∧ mg x = some (.ref (t.adr K f))
theorem hand (O : t.Ok) (s : t.Says K h0) (KB : K.In base) (GB : base.Ns mainGlobals mg) (TB : ∀ p ∈ t.tf, LamX.TabB base mg (He.cT K p).1 (He.cT K p).2) {f : Nat} {d : He.DefD} (hd : t.dfs[f]? = some d) : Hand t K mg base f d := by
  obtain ⟨fd, F⟩ := s.d.def_ f hd
  have ea : t.adr K f = He.fAd K d.at_ := by unfold adr; rw [hd]
  have h := O.defs f d hd
  have ep : t.psf f = d.params.args.map (·.arg) := by unfold psf; rw [hd]
  unfold okDef at h
  simp only [Bool.and_eq_true, List.isEmpty_iff] at h
  obtain ⟨⟨⟨⟨⟨⟨⟨⟨h1, h2⟩, h3⟩, h4⟩, h5⟩, h6⟩, h7⟩, h8⟩, h9⟩ := h
  have kp := F.kp
  obtain ⟨oc, od', dV, kV, doc, pm, an, cdv, ct, osl, rfl, lk, hcd, hD, hK⟩ := F.ex
  have e : t.fdt K f = PySem.W.fnOf d.name d.qual d.params d.body d.scope dV kV doc pm an cdv ct := by
    unfold fdt
    rw [ea, lk]
  have hv : d.dvs K = [] := by unfold He.DefD.dvs; rw [h2]; rfl
  rw [hv] at hD
  have v2 : dV = .none := by
    rcases hD with ⟨_, h⟩ | ⟨h, _⟩
    · exact h
    · exact absurd rfl h
  refine ⟨⟨oc, od', osl, dV, kV, doc, pm, cdv, ct, an, e, by rw [ea]; exact lk, hcd, by rw [ep]; exact C8.fnScope_by h4, Binds.all fun us hl => bind_pos (plain_of h1) ep.symm v2 hl (by rw [ep]; exact of_decide_eq_true h9), fun ht => ?_⟩, ep, by rw [ea]; exact kp, fun x hx => ?_⟩
  rotate_left
  · have hmem : (x, (none : Option Str)) ∈ t.S.fns := by
      rw [O.fns]
      exact List.mem_map.mpr ⟨d, List.mem_of_getElem? hd, hx⟩
    refine ⟨nm_ok (O.nms _ hmem), ?_⟩
    have hs : ∀ f ∈ t.fa, f.ok K = true := fun f hf => He.SaysD.facts s.d hf
    rw [ea, hx]
    exact He.glo_ok KB GB (hs (.glo x) (by
      unfold fa
      exact List.mem_append_left _ (List.mem_append_left _ (List.mem_append_left _ (List.mem_append_left _ (List.mem_append_left _ (List.mem_append_left _ (List.mem_append_left _ (List.mem_filterMap.mpr ⟨_, hmem, rfl⟩)))))))))
  obtain ⟨c, rfl⟩ := He.codeIn_ref hcd
  have hc : (He.cT K d.at_).1 = c := He.codeOf_eq lk rfl
  obtain ⟨m1, m2⟩ := He.ba s.more
  obtain ⟨m3, m4⟩ := He.ba m2
  unfold lamB at m3
  obtain ⟨m5, m6⟩ := He.ba m3
  obtain ⟨m7, m8⟩ := He.ba (List.all_eq_true.mp m6 _ ht)
  have m7 := of_decide_eq_true m7
  rw [tab_lam lk] at m7 m8
  refine ⟨c, (He.cT K d.at_).2, rfl, by rw [← hc]; exact TB _ ht, m7, fun p hp e => ?_⟩
  have := List.all_eq_true.mp m8 p hp
  simp only [Bool.or_eq_true, Bool.not_eq_true', decide_eq_false_iff_not, decide_eq_true_eq] at this
  rcases this with z | z
  · exact absurd e z
  · exact z
/-- an own exception class -/
theorem exc_at (s : t.Says K h0) (KB : K.In base) (GB : base.Ns mainGlobals mg) {e : Str × Arguments × List Stmt × Scope} (he : e ∈ t.exs) : mg e.1 = some (.ref (He.ga K e.1)) ∧ PySem.W.exmOne K (.ref (He.ga K e.1)) (.ref (He.ga K e.1)) = some true := by
  have hs : ∀ f ∈ t.fa, f.ok K = true := fun f hf => He.SaysD.facts s.d hf
  exact ⟨He.glo_ok KB GB (hs (.glo e.1) (by
    unfold fa
    exact List.mem_append_right _ (List.mem_flatMap.mpr ⟨_, he, by simp⟩))), He.exm_ok (hs (.exm e.1 e.1 true) (by
    unfold fa
    exact List.mem_append_right _ (List.mem_flatMap.mpr ⟨_, he, by simp⟩)))⟩
end Txt
end DI
/-! DI: a lambda made: nothing is lost. -/
set_option maxHeartbeats 2000000
namespace DI
open PySem PySem.Spec PyProof.Rows L2 LamX
section
variable {X : Cx} {pins : List (Addr × Obj)} {σ : L2.St} {H : Hp} {s : Shared}
/-- as LamX.lam_make2, and no address is lost -/
theorem lam_make4 {T : List (Addr × Str)} {c P : Addr} {params : Arguments} {body : Expr} {scope : Scope} {pos : Pos} {E : Value → Shared → Prop} {Q : Value → Shared → Prop} (I : Inv X pins σ H s) (TB : TabB X.base X.mg c P) (hcode : X.env.code = .ref c)
    (hm : (P, X.env.qual ++ "<lambda>") ∈ T) (hu : ∀ p ∈ T, p.1 = P → p.2 = X.env.qual ++ "<lambda>") (hT : Tabs T H) (hdef : defaultsOf params X.env = ([], [])) (hfree : ∀ y ∈ scope.names, y.2 = .free → ∃ c, X.env.cells.lookup y.1 = some c)
    (h : ∀ (f c' : Addr) (pm ctv : Value) (H1 : Hp) (s' : Shared), s.heap.objs.size ≤ f → Inv X pins σ H1 s' → ExtN H H1 → (∀ a, H a ≠ none → H1 a ≠ none) → Tabs T H1 →
      s'.heap.get? f = some (PySem.W.kla_obj "<lambda>" (X.env.qual ++ "<lambda>") params body scope (cloFrom X.env.cells scope.names []) pm c' ctv) → H1 f = none → f ∉ frs X.stack → H1 c' = some (CodeO c' (X.env.qual ++ "<lambda>")) → Q (.ref f) s') :
    wpAny (model X.prog X.w) X.A (eval (.Lambda params body scope pos) X.env) Q E s := by
  obtain ⟨ps, hP, ht, ha⟩ := hT _ hm
  refine PySem.W.kla_eval hdef ?_
  have bP : s.heap.BuiltinsAt X.mg P := TB.bm.keeps I.bk
  have hP' : s.heap.get? P = some { cls := .none, data := .fields ps } := I.hok P _ hP
  have nofr : ∀ f, s.heap.objs.size ≤ f → f ∉ frs X.stack := fun f hf z => by
    rcases List.mem_cons.mp (I.stkSub _ z) with e | e
    · have h1 := I.lt
      rw [← e] at h1
      exact Nat.lt_irrefl _ (Nat.lt_of_lt_of_le h1 hf)
    · exact I.nofs hf e
  cases hc : codeAmong pos ps.toList with
  | none =>
    refine PySem.W.kla_makeFunction (mg := X.mg) (c := c) (P := P) (ps := ps) (closure_ok hfree) I.ok.glob (I.mod.glob.keeps I.bk) hcode (TB.code.keeps I.bk) hP' ht hc TB.gP bP fun c' ctv h' tk hx hge hlt hrec htb => ?_
    obtain ⟨c2, oc, vs, t, e2, hoc, hd, hv⟩ := hrec
    cases e2
    have hsz : s.heap.objs.size ≤ h'.objs.size := Nat.le_trans hge (Nat.le_of_lt hlt)
    have nC : H c' = none := I.hok.fresh hge
    have I1 := inv_table (t' := tk) (more := #[rawInt pos.line, rawInt pos.col, .ref c']) (h' := h'.push (PySem.W.kla_obj "<lambda>" (X.env.qual ++ "<lambda>") params body scope (cloFrom X.env.cells scope.names []) ((X.mg "__name__").getD .none) c' ctv)) I hP
      (fun b o hb e => Heap.get?_push_of_some _ (hx b o hb e)) (Heap.get?_push_of_some _ htb) hge ⟨oc, vs, t, Heap.get?_push_of_some _ hoc, hd, hv⟩
    have hE : ExtN H (upd (upd H P (.tbl (ps ++ #[rawInt pos.line, rawInt pos.col, .ref c']))) c' (CodeO c' (X.env.qual ++ "<lambda>"))) := fun b o e n => by
      rw [upd_ne (ne_of_none e nC), upd_ne (fun z => n ps (Option.some.inj (e.symm.trans (by rw [z]; exact hP))))]
      exact e
    have hA : ∀ a, H a ≠ none → upd (upd H P (.tbl (ps ++ #[rawInt pos.line, rawInt pos.col, .ref c']))) c' (CodeO c' (X.env.qual ++ "<lambda>")) a ≠ none := fun a n => by
      by_cases e1 : a = c'
      · rw [e1, upd_same]; exact fun z => by cases z
      · rw [upd_ne e1]
        by_cases e2 : a = P
        · rw [e2, upd_same]; exact fun z => by cases z
        · rw [upd_ne e2]; exact n
    have eL : (ps ++ #[rawInt pos.line, rawInt pos.col, .ref c']).toList = ps.toList ++ [rawInt pos.line, rawInt pos.col, .ref c'] := by simp
    refine h h'.objs.size c' ((X.mg "__name__").getD .none) ctv _ _ hsz I1 hE hA (fun p hp => ?_) (Heap.get?_push_size _ rfl) ?_ (nofr _ hsz) upd_same
    · by_cases hb : p.1 = P
      · rw [hu p hp hb, hb]
        refine ⟨_, by rw [upd_ne (ne_of_none hP nC), upd_same], by rw [eL]; exact PySem.TriplesOk_snoc _ _ _ _ ht, fun p' cv hcv => ?_⟩
        rw [eL] at hcv
        rcases among_app _ ht hcv with z | z
        · obtain ⟨c0, e1, e2⟩ := ha p' cv z
          exact ⟨c0, e1, hE _ _ e2 codeO_ne⟩
        · exact ⟨c', z, upd_same⟩
      · obtain ⟨ps', a1, a2, a3⟩ := hT p hp
        refine ⟨ps', by rw [upd_ne (ne_of_none a1 nC), upd_ne hb]; exact a1, a2, fun p' cv hcv => ?_⟩
        obtain ⟨c0, e1, e2⟩ := a3 p' cv hcv
        exact ⟨c0, e1, hE _ _ e2 codeO_ne⟩
    · have n1 : h'.objs.size ≠ c' := Nat.ne_of_gt hlt
      have n2 : h'.objs.size ≠ P := Nat.ne_of_gt (Nat.lt_of_lt_of_le (Heap.lt_size hP') hsz)
      rw [upd_ne n1, upd_ne n2]
      exact I.hok.fresh hsz
  | some cv =>
    obtain ⟨c', e, hco⟩ := ha pos cv hc
    subst e
    refine PySem.W.kla_makeFunctionHit (mg := X.mg) (c := c) (P := P) (ps := ps) (closure_ok hfree) I.ok.glob (I.mod.glob.keeps I.bk) hcode (TB.code.keeps I.bk) hP' ht hc bP fun ctv h' tk hx hsz => ?_
    have I1 : Inv X pins σ H { s with heap := h'.push (PySem.W.kla_obj "<lambda>" (X.env.qual ++ "<lambda>") params body scope (cloFrom X.env.cells scope.names []) ((X.mg "__name__").getD .none) c' ctv), toks := tk } := I.kept fun b o e => Heap.get?_push_of_some _ (hx b o e)
    exact h h'.objs.size c' ((X.mg "__name__").getD .none) ctv H _ hsz I1 (ExtN.refl H) (fun _ n => n) hT (Heap.get?_push_size _ rfl) (I.hok.fresh hsz) (nofr _ hsz) hco
end
end DI
/-! DI: lambdas kept in a list, and called by a def that gets them. -/
set_option maxHeartbeats 2000000
namespace DI
open PySem PySem.Spec PyProof.Rows L2 LamX
/-- the object at f is a lambda's, its code object at c -/
def LamO (f : Addr) (q : Str) (params : Arguments) (body : Expr) (scope : Scope) (cl : List (Str × Addr)) (c : Addr) : HO := .ext fun h => ∃ pm ctv, h.get? f = some (PySem.W.kla_obj "<lambda>" q params body scope cl pm c ctv)
theorem lamO_ne {f : Addr} {q : Str} {params : Arguments} {body : Expr} {scope : Scope} {cl : List (Str × Addr)} {c : Addr} (ps : Array Value) : LamO f q params body scope cl c ≠ .tbl ps := fun z => by unfold LamO at z; cases z
theorem lamO_at {P : Program} {w : World} {H : Hp} {h : Heap} {f : Addr} {q : Str} {params : Arguments} {body : Expr} {scope : Scope} {cl : List (Str × Addr)} {c : Addr} (k : HOk P w H h) (e : H f = some (LamO f q params body scope cl c)) : ∃ pm ctv, h.get? f = some (PySem.W.kla_obj "<lambda>" q params body scope cl pm c ctv) := (k f _ e).1
section
variable {X : Cx} {pins : List (Addr × Obj)} {σ : L2.St} {H : Hp} {s s1 : Shared}
/-- a new object, known from now on -/
theorem track {H0 : Hp} {f : Addr} {φ : Heap → Prop} (I0 : Inv X pins σ H0 s) (I : Inv X pins σ H s1) (hf : s.heap.objs.size ≤ f) (hn : H f = none) (hp : φ s1.heap) (ho : ∃ o, s1.heap.get? f = some o) (st : ∀ h1 h2 : Heap, φ h1 → (∀ o, h1.get? f = some o → h2.get? f = some o) → φ h2) : Inv X pins σ (upd H f (.ext φ)) s1 := by
  have old : ∀ b o, X.s_0.heap.get? b = some o → b ≠ f := fun b o e z => by
    subst z
    exact absurd (Nat.lt_of_lt_of_le (Heap.lt_size e) (Nat.le_trans I0.sz hf)) (Nat.lt_irrefl _)
  have sm : ∀ b u, H b = some u → b ≠ f := fun b u e => ne_of_none e hn
  have nl : X.env.locals ≠ f := fun z => absurd (Nat.lt_of_lt_of_le I0.lt hf) (by rw [z]; exact Nat.lt_irrefl _)
  have nc : ∀ x c, X.env.cells.lookup x = some c → c ≠ f := fun x c e z => by
    obtain ⟨v, q⟩ := I0.cell x c e
    exact absurd (Nat.lt_of_lt_of_le q.lt hf) (by rw [z]; exact Nat.lt_irrefl _)
  have np : ∀ p ∈ X.pn ++ pins, p.1 ≠ f := fun p hp z => by
    have := Heap.lt_size (I0.pin p hp).1
    rw [z] at this
    exact absurd (Nat.lt_of_lt_of_le this hf) (Nat.lt_irrefl _)
  refine ⟨I.ok, I.os, I.bare, ⟨I.base.keep, I.base.slot, fun b o e n hx => ?_, I.base.there, fun b xs e => ?_, fun b o u e => ?_, fun b ps e => ?_⟩, I.loc, I.cell, ?_, fun x c e => ?_, fun p hp => ?_, fun b u e => ?_, I.len⟩
  · rw [upd_ne (old b o e)]; exact I.base.free b o e n hx
  · have := I.base.tups b xs e
    rw [upd_ne (sm _ _ this)]; exact this
  · have := I.base.frzs b o u e
    rw [upd_ne (sm _ _ this)]; exact this
  · obtain ⟨m, q⟩ := I.base.tbls b ps e
    exact ⟨m, by rw [upd_ne (sm _ _ q)]; exact q⟩
  · rw [upd_ne nl]; exact I.free
  · rw [upd_ne (nc x c e)]; exact I.freeC x c e
  · obtain ⟨e, n, r⟩ := I.pin p hp
    exact ⟨e, by rw [upd_ne (np p hp)]; exact n, r⟩
  · by_cases hb : b = f
    · subst hb
      rw [upd_same] at e
      cases e
      exact ⟨hp, ho, st⟩
    · rw [upd_ne hb] at e
      exact (I.hok b u e).stay (fun _ _ _ q => q) (fun d q => by rw [upd_ne (sm _ _ q)]; exact q) fun d xs q => by rw [upd_ne (sm _ _ q)]; exact q
/-- what the making of a lambda gives -/
def tLamX (X : Cx) (T : List (Addr × Str)) (params : Arguments) (body : Expr) (scope : Scope) : TE := fun σ H Q => Tabs T H ∧ ∀ (f c' : Addr) (H1 : Hp), ExtN H H1 → (∀ a, H a ≠ none → H1 a ≠ none) → Tabs T H1 → H1 f = none → H1 c' = some (CodeO c' (X.env.qual ++ "<lambda>")) →
  Q (.ref f) (upd H1 f (LamO f (X.env.qual ++ "<lambda>") params body scope (cloFrom X.env.cells scope.names []) c'))
theorem pe_lamX {T : List (Addr × Str)} {c P : Addr} {params : Arguments} {body : Expr} {scope : Scope} {pos : Pos} (TB : TabB X.base X.mg c P) (hcode : X.env.code = .ref c) (hm : (P, X.env.qual ++ "<lambda>") ∈ T) (hu : ∀ p ∈ T, p.1 = P → p.2 = X.env.qual ++ "<lambda>")
    (hdef : defaultsOf params X.env = ([], [])) (L : LamS X.env.scope scope) : PE X (.Lambda params body scope pos) (tLamX X T params body scope) := by
  refine ⟨fun pins s σ H Q I ⟨hT, h⟩ => ?_⟩
  refine lam_make4 I TB hcode hm hu hT hdef (L.has I.ok) fun f c' pm ctv H1 s1 hf I1 eN al T1 hg hn hfr hco => ?_
  have I2 := track (φ := fun h => ∃ pm ctv, h.get? f = some (PySem.W.kla_obj "<lambda>" (X.env.qual ++ "<lambda>") params body scope (cloFrom X.env.cells scope.names []) pm c' ctv)) (I0 := I) (I := I1) hf hn ⟨pm, ctv, hg⟩ ⟨_, hg⟩ fun h1 h2 ⟨a, b, e⟩ k => ⟨a, b, k _ e⟩
  exact ⟨.ref f, _, I2, rfl, h f c' H1 eN al T1 hn hco⟩
/-- x(), in the def that got the lambda (its context Z was entered at s): the lambda's object is a known one -/
theorem pe_act4 {CXg : CXT} {Eg : XK} {Ng : List Str} {qg : Str} {sg : Scope} {g f c' : Addr} {cdg : Value} {params : Arguments} {body : Expr} {scope : Scope} {k i : Nat} {a : Str} {pn : List (Addr × Obj)} {xe : Value → Shared → Prop} {W : WX} {E : XK} {tb : TE} {p1 p2 : Pos}
    (I : Inv X pins σ H s) (L : LamS X.env.scope scope)
    (hbind : ∀ pm ctv : Value, bindArgs (PySem.W.kla_fn "<lambda>" (X.env.qual ++ "<lambda>") params body scope (cloFrom X.env.cells scope.names []) pm (.ref c') ctv) ⟨[], []⟩ = pure [])
    (tk : Takes ((cxOf CXg X.prog X.w X.K X.mg X.base Ng qg sg g cdg X.A X.stack s H Eg).tr pn xe) W) (hW : ∀ cls d σ' H', E cls d H' → W cls d σ' H') (hr : Room 0 (X.A.deeper (envOfC qg sg s.heap.objs.size g cdg))) (hR : ∀ e, Room k ((X.A.deeper (envOfC qg sg s.heap.objs.size g cdg)).deeper e))
    (hbody : ∀ (A : Around) (outer : List PySem.Env) (s : Shared) (H : Hp), Room k (A.deeper (lamEnv X scope s.heap.objs.size f c')) → PE (lamCx X A outer s H E scope f c') body tb)
    (hN : Ng[i]? = some a) (hv : Vis sg a) (hd : (a == ("__debug__" : Str)) = false) (hcd : (a == ("__classdict__" : Str)) = false) :
    PE ((cxOf CXg X.prog X.w X.K X.mg X.base Ng qg sg g cdg X.A X.stack s H Eg).tr pn xe) (.Call (.Name a p1) [] [] p2)
      (fun σZ HZ Q => σZ[i]? = some (some (.ref f)) ∧ HZ f = some (LamO f (X.env.qual ++ "<lambda>") params body scope (cloFrom X.env.cells scope.names []) c') ∧ HZ c' = some (CodeO c' (X.env.qual ++ "<lambda>")) ∧ tb σ HZ Q) := by
  generalize hZ : (cxOf CXg X.prog X.w X.K X.mg X.base Ng qg sg g cdg X.A X.stack s H Eg).tr pn xe = Z at tk
  have nm : PE Z (.Name a p1) (tVar i) := by
    rw [← hZ]; exact pe_var hN hv hd hcd
  refine ⟨fun pz sz σZ HZ Q J ⟨h1, h2, h3, h4⟩ => wpAny_Call_Name_kw (thn (nm.run pz sz σZ HZ (fun v H1 => v = .ref f ∧ H1 = HZ) J ⟨.ref f, h1, rfl, rfl⟩) fun u t ⟨v, H1, J1, rv, ev, eH⟩ => ?_)⟩
  subst ev eH
  cases rv
  obtain ⟨pm, ctv, hobj⟩ := lamO_at J1.hok h2
  have hcode : t.heap.CodeRec (.ref c') (X.env.qual ++ "<lambda>") := by
    obtain ⟨⟨oc, vs, tk, q1, q2, q3⟩, _⟩ := J1.hok c' _ h3
    exact ⟨c', oc, vs, tk, rfl, q1, q2, q3⟩
  refine PySem.W.callWith_F0 ⟨_, _, _, _, hobj⟩ (wpAny_call ?_)
  have un : Un (frs X.stack) [] H H1 s.heap t.heap := by
    have b := J1.base
    rw [← hZ] at b
    exact b
  have e0 := J1.env0
  have lim := J1.nolimit
  have px : ∀ e s', L2.CX X.prog X.w Z.stack H1 t E e s' → Z.xe e s' := fun e s' hq => passes_call tk hW pz σZ H1 t e s' (by rw [← hZ] at J1 ⊢; exact J1) (by rw [← hZ] at hq ⊢; exact hq)
  have fin : ∀ u s', L2.CE Z.stack Z.prog Z.w H1 t Q u s' → EP Z pz σZ Q u s' := fun u s' hq => J1.after hq
  subst hZ
  refine codeAny_mono (PySem.W.kla_callFunE hr.depth hobj rfl L.co L.gen rfl hcode (R := L2.CR (L2.CX X.prog X.w) (envOfC qg sg s.heap.objs.size g cdg :: X.stack) X.prog X.w H1 t Q E) ?_) fun r s' hq => ?_
  · rw [List.nil_append, hbind pm ctv]
    refine wpAny_pure (wpAny_newFunctionEnv (fun y hy => (L.own y hy).2) (fun y hy => absurd hy (List.not_mem_nil)) (fun h₁ hns hsb => ⟨lim.fresh _ hsb, PySem.W.kla_codeExpr ?_⟩) L.kind)
    have J2 := lam_start2 (X := X) (E := E) (c' := c') (f := f) (tk := t.toks + ([] : List (Str × Value)).length) I L e0 hr.hd un hns fun b o e => hsb.extBut b o (Nat.ne_of_lt (Heap.lt_size e)) (Heap.get?_push_of_some _ e)
    exact wpAny_mono ((hbody _ _ t H1 (hR _)).run [] _ _ H1 Q J2 h4) (fun v s' ⟨w', H', J', rv, q⟩ => ⟨w', H', J'.os, J'.bare, J'.base, J'.hok, rv, q⟩) fun _ _ hq => hq
  · cases r with
    | error e => exact px e s' hq
    | ok fl =>
      cases fl with
      | ret u => exact fin u s' hq
      | next => exact hq.elim
      | brk => exact hq.elim
      | cont => exact hq.elim
end
end DI
/-! DI: a comprehension none of whose items pass; the test knows the state at the block's start. -/
set_option maxHeartbeats 2000000
namespace DI
open PySem PySem.Spec PyProof.Rows L2 LamX
section
variable {X : Cx} {pins : List (Addr × Obj)} {σ : L2.St} {H : Hp} {s : Shared}
/-- from the block back to the def -/
theorem Inv.back {H0 : Hp} {s0 : Shared} {scope : Scope} {ce : PySem.Env} {fp : List Addr} {pz : List (Addr × Obj)} {σ' : L2.St} (I : Inv X pins σ H0 s0) (hf : ∀ b ∈ fp, FpOk X pins H0 b) (J : Inv (X.blk s0 H0 scope ce fp) pz σ' H s) : Inv X pins σ H s :=
  I.call' (ch := fp) J.os J.base J.hok J.bare fun b hb => let ⟨_, f1, _, f3, f4, f5⟩ := hf b hb; ⟨f3, f1, f4, f5⟩
theorem lc_none {elt tg iter : Expr} {ifs : List Expr} {scope : Scope} {own : List (Str × Nat)} {pos : Pos} {wi : TI} {g : TG} {tt : TT} {Q : VK}
    (hc : X.calm = true) (hN : X.N.Nodup) (I : Inv X pins σ H s) (hi : PI X tg iter wi) (ok : BlkOk X.N X.env.scope scope own) (hs : ∀ x, foldedSetIterable iter X.env x = pure x)
    (hg : ∀ (s : Shared) (H : Hp) (C : Addr) (cl : List (Str × Addr)) (fp : List Addr), PG (X.blk s H scope (compEnvC scope cl C X.env) fp) tg g)
    (ht : ∀ (s : Shared) (H : Hp) (C : Addr) (cl : List (Str × Addr)) (fp : List Addr), Inv X pins σ H s → (∀ b ∈ fp, FpOk X pins H b) → PTs (X.blk s H scope (compEnvC scope cl C X.env) fp) ifs tt)
    (h : wi σ H fun J H1 => ∀ D, H1 D = none → ∃ W : Nat → Nat → Hp → Prop, (∃ m, W 0 m (upd H1 D (.lst []))) ∧ ∀ i m H, W i m H →
      (J.stop i H ∧ Q (.ref D) H) ∨ (J.go i H ∧ ∀ x H', J.yld i H x H' → g x (wipe σ (own.map (·.2))) H' fun σ2 H2 => wipe σ2 (own.map (·.2)) = wipe σ (own.map (·.2)) ∧ tt σ2 H2 fun b H3 => b = false ∧ ∃ m', m' < m ∧ W (i + 1) m' H3)) :
    wpAny (model X.prog X.w) X.A (eval (.ListComp elt [⟨tg, iter, ifs, 0⟩] scope pos) X.env) (EP X pins σ Q) X.xe s := by
  generalize hvs : own.map (·.2) = vs at h
  have hfree : ∀ y ∈ scope.names, y.2 = .free → ∃ c, X.env.cells.lookup y.1 = some c := fun y hy e => I.ok.has _ (ok.free y hy e)
  rw [eval_ListComp]
  refine wpAny_comprehension_free (use := none) rfl hs (closure_ok hfree) ok.kind (fun y hy e => (ok.uniq y hy).trans (congrArg some e)) (thn (hi.run pins s σ H _ I h) fun _ _ hx => thn hx fun _ sa ⟨it, fp, tn, J, Ha, e, Ia, T, ta, fa, q⟩ => ?_)
  subst e
  have hD0 : Ha sa.heap.objs.size = none := Ia.hok.fresh (Nat.le_refl _)
  obtain ⟨W, ⟨m0, w0⟩, turn⟩ := q _ hD0
  refine wpAny_newObj_type (newEnv_comp ?_) (Nat.zero_le _)
  have ha : ∀ b ∈ fp, b < sa.heap.objs.size := fun b hb => let ⟨_, e, _⟩ := T.obj _ _ ta b hb; Heap.lt_size e
  have Ib := Ia.laid (t' := sa.toks) (a := sa.heap.objs.size) (o := .lst []) (h' := sa.heap.push { cls := .type "list", data := .seq ([] : List Value).toArray }) (fun _ _ e => Heap.get?_push_of_some _ e) (Nat.le_refl _) ⟨Nat.zero_le _, [], 0, .nil, Heap.get?_push_size _ rfl⟩
  have tb : tn 0 (sa.heap.push { cls := .type "list", data := .seq ([] : List Value).toArray }) := T.keep _ _ _ ta fun _ _ _ e => Heap.get?_push_of_some _ e
  generalize hsb : ({ sa with heap := sa.heap.push { cls := .type "list", data := .seq ([] : List Value).toArray }, toks := sa.toks } : Shared) = sb at Ib
  have hsb' : sb = { sa with heap := sa.heap.push { cls := .type "list", data := .seq ([] : List Value).toArray } } := hsb.symm
  have hbh : sb.heap = sa.heap.push { cls := .type "list", data := .seq ([] : List Value).toArray } := by rw [hsb']
  rw [← hbh] at tb
  generalize sa.heap.objs.size = D at *
  generalize hHb : upd Ha D (.lst []) = Hb at Ib w0
  have fb : ∀ b ∈ fp, FpOk X pins Hb b ∧ b < sb.heap.objs.size := fun b hb => by
    obtain ⟨o, eo, _⟩ := T.obj _ _ tb b hb
    refine ⟨⟨?_, (fa b hb).2⟩, Heap.lt_size eo⟩
    rw [← hHb, upd_ne (Nat.ne_of_lt (ha b hb))]
    exact (fa b hb).1
  have Ic := block_start Ib ok hN fb
  have pt := ht sb Hb sb.heap.objs.size (cellsFrom (sb.heap.objs.size + 1) scope.names (cloFrom X.env.cells scope.names [])) fp Ib fun b hb => (fb b hb).1
  have pg := hg sb Hb sb.heap.objs.size (cellsFrom (sb.heap.objs.size + 1) scope.names (cloFrom X.env.cells scope.names [])) fp
  rw [hvs] at Ic
  show codeAny _ _ (.compStart (.ListComp elt [⟨tg, iter, ifs, 0⟩] scope pos) 0 (.ref it) (.ref D) (compEnvC scope (cellsFrom (sb.heap.objs.size + 1) scope.names (cloFrom X.env.cells scope.names [])) sb.heap.objs.size X.env)) (compPost (model X.prog X.w) X.A X.xe none (EP X pins σ Q) (.ref D) sb.heap.objs.size) { sb with heap := pushCells (sb.heap.push { cls := .type "dict", data := .dict #[] }) scope.names }
  generalize hce : compEnvC scope (cellsFrom (sb.heap.objs.size + 1) scope.names (cloFrom X.env.cells scope.names [])) sb.heap.objs.size X.env = ce at Ic pg pt ⊢
  have cL : ce.locals = sb.heap.objs.size := by rw [← hce]; rfl
  have tc : tn 0 (pushCells (sb.heap.push { cls := .type "dict", data := .dict #[] }) scope.names) := T.keep _ _ _ tb fun _ _ _ e => pushCells_keeps _ _ _ _ (Heap.get?_push_of_some _ e)
  generalize hsc : ({ sb with heap := pushCells (sb.heap.push { cls := .type "dict", data := .dict #[] }) scope.names } : Shared) = sc at Ic ⊢
  rw [show pushCells (sb.heap.push { cls := .type "dict", data := .dict #[] }) scope.names = sc.heap by rw [← hsc]] at tc
  have fpY : ∀ {σ' : L2.St} {H' : Hp} {s' : Shared}, Inv (X.blk sb Hb scope ce fp) [] σ' H' s' → (∀ b ∈ fp, H' b = none) → ∀ b ∈ fp, FpOk (X.blk sb Hb scope ce fp) [] H' b := fun {σ' H' s'} IY hn b hb =>
    ⟨hn b hb, (IY.ok.exf b hb).1, IY.ok.exfs b hb, .inl hb, fun x c e => (IY.ok.exf b hb).2 x c e, fun p hp => nomatch (show p ∈ ([] : List (Addr × Obj)) from hp)⟩
  have loop : codeAny (model X.prog X.w) X.A (.compLoop (.ListComp elt [⟨tg, iter, ifs, 0⟩] scope pos) 0 (.ref it) (.ref D) ce) (compPost (model X.prog X.w) X.A X.xe none (EP X pins σ Q) (.ref D) sb.heap.objs.size) sc := by
    refine compLoop_any (fun n s' => ∃ i H', Inv (X.blk sb Hb scope ce fp) [] (wipe σ vs) H' s' ∧ tn i s'.heap ∧ (∀ b ∈ fp, H' b = none) ∧ W i n H') ?_ m0 ⟨0, Hb, Ic, tc, fun b hb => (fb b hb).1.1, w0⟩
    rintro n sd ⟨i, Hd, Id, td, nd, wd⟩
    rcases turn i n Hd wd with ⟨stop, qq⟩ | ⟨go, step⟩
    · refine thnF (T.done (X.blk sb Hb scope ce fp) rfl rfl rfl hc i [] sd _ Hd (fun _ _ => False) Id (fpY Id nd) td stop) fun r se ⟨hr, Ie⟩ => ?_
      subst hr
      have If : Inv X pins σ Hd se := Inv.back Ib (fun b hb => (fb b hb).1) Ie
      obtain ⟨m, hn, _⟩ := Ie.loc
      have hn : se.heap.Ns ce.locals m := hn
      have nC : Hd ce.locals = none := Ie.free
      rw [cL] at hn nC
      obtain ⟨f0, f1, f2, f3, f4, f5⟩ := Ib.fpOk (Nat.le_refl _) nC
      exact ⟨m, hn, fun h'' sm => ⟨.ref D, Hd, If.turned (t' := se.toks) (fun b o hb e => (sm.2 b hb).trans e) f0 f1 f3 f4 f5, rfl, qq⟩⟩
    · refine thnF (T.item (X.blk sb Hb scope ce fp) rfl rfl rfl hc i [] sd _ Hd (fun _ _ => False) Id (fpY Id nd) td go) fun r se ⟨u, hr, he⟩ => ?_
      subst hr
      refine thnF he fun _ sf ⟨x, Hf, If, rf, yf, tf, nf⟩ => ?_
      refine thnF (pg.run _ sf _ Hf x u _ (If.pinned (fpY If nf) (T.obj _ _ tf)) rf (step x Hf yf)) fun _ sg ⟨σg, Hg, Ig, wg, qg⟩ => ?_
      refine thnF (pt.run _ sg σg Hg _ Ig qg) fun b sh ⟨Hh, Ih, eb, m', hm, w'⟩ => ?_
      subst eb
      have pin : ∀ b ∈ fp, ∀ o, sf.heap.get? b = some o → sh.heap.get? b = some o ∧ Hh b = none := fun b hb o e => let z := Ih.pin (b, o) (List.mem_append_right _ (List.mem_append_right _ (mem_pinsAt hb e))); ⟨z.1, z.2.1⟩
      have hl : (wipe σ vs).length = σg.length := by rw [← wg, wipe_length]
      refine ⟨m', hm, i + 1, Hh, (Ih.unpinned (pins := [])).weak hl (fun j v e => ?_), T.keep _ _ _ tf fun b hb o e => (pin b hb o e).1, fun b hb => ?_, w'⟩
      · rw [← wg] at e
        exact (wipe_some e).1
      · obtain ⟨o, e, _⟩ := T.obj _ _ tf b hb
        exact (pin b hb o e).2
  exact codeAny_compStart_list loop (T.self X.A 0 _ _ _ tc loop)
end
end DI
/-! DI: a list of lambdas, made by a def. -/
set_option maxHeartbeats 2000000
namespace DI
open PySem PySem.Spec PyProof.Rows L2 LamX
section
variable {K : PySem.W.Frag} {c₀ c c' : Cfg} {env : DI.Env} {σ : L2.St}
/-- a hidden object written, no slot owns one -/
theorem FR.putN {a : Addr} {ho : HO} (fr : FR K c₀ c env σ) (no : ∀ (i : Nat) (d : DI.D), env[i]? ≠ some (Slot.own d)) (hf : c.F a) (h0 : c₀.H a = none) (nx : ∀ o, c.H a = some o → NotX o) : FR K c₀ (c.put a ho) env σ := by
  have kp : Kp c (c.put a ho) := Kp.put hf
  refine ⟨⟨tabs_upd fr.ok.tabs nx, fr.ok.inj, fr.ok.nf, fun b h => kp.al b (fr.ok.fa b h), fun l e h => ?_⟩, ⟨fr.er.len, fun i d h => ?_, fun i d h => absurd h (no i d), fun i j d e b h _ _ _ => absurd h (no i d), fun i C ns vs b h _ => absurd h (no i _)⟩, ?_, fr.f1, fr.f2, fr.f0⟩
  · obtain ⟨r, z⟩ := fr.ok.cell l e h
    refine ⟨r.keep kp.toKeep fun u q => ?_, z⟩
    have ne : c.ρ l ≠ a := fun e => fr.ok.nf l (List.getElem?_eq_some_iff.mp h).1 (by rw [e]; exact hf)
    exact (upd_ne ne).trans q
  · obtain ⟨v, e, r⟩ := fr.er.val i d h
    exact ⟨v, e, RV.keep kp.toKeep _ _ r⟩
  · refine ⟨fun b u h n t => ?_, fr.st.rho, fr.st.len, fr.st.new, fun b h => kp.al b (fr.st.al b h)⟩
    have ne : b ≠ a := fun e => by rw [e, h0] at h; cases h
    exact (upd_ne ne).trans (fr.st.keep b u h n t)
/-- a slot that the run leaves out -/
theorem FR.setNo {j : Nat} {x : Option V} (fr : FR K c₀ c env σ) (h : env[j]? = some Slot.no) : FR K c₀ c env (σ.set j x) := by
  have ne : ∀ {i : Nat} {s : Slot}, env[i]? = some s → s ≠ .no → j ≠ i := fun {i s} e n z => by
    subst z
    rw [h] at e
    exact n (Option.some.inj e).symm
  refine ⟨fr.ok, ⟨by rw [List.length_set]; exact fr.er.len, fun i d e => ?_, fun i d e => ?_, fun i k d e a h1 h2 h3 h4 => ?_, fun i C ns vs a h1 h2 => ?_⟩, fr.st, fr.f1, fr.f2, fr.f0⟩
  · rw [List.getElem?_set_ne (ne e (fun z => by cases z))]; exact fr.er.val i d e
  · rw [List.getElem?_set_ne (ne e (fun z => by cases z))]; exact fr.er.own i d e
  · rw [List.getElem?_set_ne (ne h1 (fun z => by cases z))] at h3
    rw [List.getElem?_set_ne (ne h2 (fun z => by cases z))] at h4
    exact fr.er.apart i k d e a h1 h2 h3 h4
  · rw [List.getElem?_set_ne (ne h1 (fun z => by cases z))] at h2
    exact fr.er.ins i C ns vs a h1 h2
theorem CR.notT {d : DI.D} {q : Addr} (h : CR K c d q) : ∀ {o : HO}, c.H q = some o → ∀ ps, o ≠ .tbl ps := fun {o} e ps z => by
  have := h.notX o e
  rw [z] at this
  exact this
/-- the tables may have grown -/
theorem grown {H1 : Hp} (k : SOk K c) (eN : ExtN c.H H1) (al : ∀ a, c.H a ≠ none → H1 a ≠ none) (T : Tabs (tabsOf K) H1) : Step c { c with H := H1 } ∧ SOk K { c with H := H1 } := by
  have s : Step c { c with H := H1 } := ⟨⟨fun b o e _ n => eN b o e n, fun _ _ => rfl, Nat.le_refl _, fun l h1 h2 => absurd h2 (Nat.not_lt.mpr h1), al⟩, rfl⟩
  refine ⟨s, k.keep s rfl (fun l hl => ?_) T⟩
  have hc := (k.cell l (c.st[l]) (by simp [hl])).1
  cases e : c.H (c.ρ l) with
  | none => exact absurd e hc.ne
  | some o => exact eN _ _ e (hc.notT e)
end
/-- no parameters -/
def noArgs : Arguments := ⟨[], [], none, [], [], none, []⟩
/-- a lambda made: its own place, its code object's, its text -/
structure LamP where
  f : Addr
  c : Addr
  body : Expr
  scope : Scope
section
variable (X : Cx)
abbrev lamHO (p : LamP) : HO := LamO p.f (X.env.qual ++ "<lambda>") noArgs p.body p.scope (cloFrom X.env.cells p.scope.names []) p.c
structure LamK (c : Cfg) (p : LamP) : Prop where
  nf : Nr c p.f
  f : c.H p.f = some (lamHO X p)
  nc : Nr c p.c
  c : c.H p.c = some (CodeO p.c (X.env.qual ++ "<lambda>"))
structure LSt (c₀ c : Cfg) (env : DI.Env) (σ : L2.St) (j : Nat) (L : Addr) (ps : List LamP) : Prop where
  fr : FR X.K c₀ c env σ
  nl : Nr c L
  lst : c.H L = some (.lst (ps.map fun p => V.ref p.f))
  hid : c.F L
  n0 : c₀.H L = none
  at_ : σ[j]? = some (some (V.ref L))
  lam : ∀ p ∈ ps, LamK X c p
end
section
variable {X : Cx} {c₀ c c' : Cfg} {env : DI.Env} {σ : L2.St} {j : Nat} {L : Addr} {ps : List LamP} {D : Ends}
theorem codeO_ne' {c : Addr} {q : Str} (ps : Array Value) : CodeO c q ≠ .tbl ps := codeO_ne ps
theorem LamK.step {p : LamP} (h : LamK X c p) (s : StepF c c') : LamK X c' p :=
  ⟨h.nf.step s (some_ne h.f), s.keep _ _ h.f h.nf (lamO_ne ·), h.nc.step s (some_ne h.c), s.keep _ _ h.c h.nc (codeO_ne' ·)⟩
theorem LSt.step (h : LSt X c₀ c env σ j L ps) (s : Step c c') (k : SOk X.K c') : LSt X c₀ c' env σ j L ps :=
  ⟨h.fr.step s k, h.nl.step s.toStepF (some_ne h.lst), s.keep _ _ h.lst h.nl (fun _ => by intro z; cases z), by rw [s.F]; exact h.hid, h.n0, h.at_, fun p hp => (h.lam p hp).step s.toStepF⟩
/-- the config behind the making of a lambda -/
def Cfg.lam (X : Cx) (c : Cfg) (H1 : Hp) (p : LamP) : Cfg := { c with H := upd H1 p.f (lamHO X p) }
theorem lam_step {H1 : Hp} {p : LamP} (k : SOk X.K c) (eN : ExtN c.H H1) (al : ∀ a, c.H a ≠ none → H1 a ≠ none) (T : Tabs (tabsOf X.K) H1) (hn : H1 p.f = none) (hc : H1 p.c = some (CodeO p.c (X.env.qual ++ "<lambda>"))) :
    Step c (c.lam X H1 p) ∧ SOk X.K (c.lam X H1 p) ∧ LamK X (c.lam X H1 p) p := by
  obtain ⟨s1, k1⟩ := grown k eN al T
  refine ⟨s1.trans (Step.fresh hn), k1.new hn, ?_⟩
  have ne : p.c ≠ p.f := fun e => by rw [e, hn] at hc; cases hc
  have nc : Nr c p.c := fun l hl e => by
    have := (k1.cell l (c.st[l]) (by simp [hl])).1.notX _ (show H1 (c.ρ l) = some _ by rw [e]; exact hc)
    exact this
  exact ⟨(k1.fz hn).1, upd_same, nc, (upd_ne ne).trans hc⟩
/-- calls = [lambda: ..] -/
theorem lam0_use {body : Expr} {scope : Scope} (fr : FR X.K c₀ c env σ) (hj : env[j]? = some Slot.no) (h : ∀ L p c', LSt X c₀ c' env (σ.set j (some (V.ref L))) j L [p] → p.body = body → p.scope = scope → c'.st = c.st → D.nx (σ.set j (some (V.ref L))) c'.H) :
    tAsg (tLst (tCons (tLamX X (tabsOf X.K) noArgs body scope) tNil)) (gName j) D σ c.H := by
  refine ⟨fr.ok.tabs, fun f c' H1 eN al T1 hn hc => ⟨by rw [sizeLine_eq]; simp, fun L hL => ?_⟩⟩
  obtain ⟨s1, k1, l1⟩ := lam_step (p := ⟨f, c', body, scope⟩) fr.ok eN al T1 hn hc
  have fr1 := fr.step s1 k1
  have hl : j < σ.length := by rw [← fr.er.len]; exact (List.getElem?_eq_some_iff.mp hj).1
  have fr2 := (fr1.hide (ho := .lst [V.ref f]) hL).setNo (x := some (V.ref L)) hj
  have nL : Nr (c.lam X H1 ⟨f, c', body, scope⟩) L := (k1.fz hL).1
  have up : ∀ {a : Addr} {o : HO}, (c.lam X H1 ⟨f, c', body, scope⟩).H a = some o → upd (c.lam X H1 ⟨f, c', body, scope⟩).H L (.lst [V.ref f]) a = some o := fun {a o} e => by rw [upd_ne (ne_of_none e hL)]; exact e
  exact h L ⟨f, c', body, scope⟩ ((c.lam X H1 ⟨f, c', body, scope⟩).hide L (.lst [V.ref f])) ⟨fr2, nL, upd_same, .inr rfl, fr1.n0 hL, by rw [List.getElem?_set_self hl], fun p hp => by
    rw [List.mem_singleton.mp hp]
    exact ⟨l1.nf, up l1.f, l1.nc, up l1.c⟩⟩ rfl rfl rfl
/-- calls.append(lambda: ..) -/
theorem lamA_use {body : Expr} {scope : Scope} (l : LSt X c₀ c env σ j L ps) (no : ∀ (i : Nat) (d : DI.D), env[i]? ≠ some (Slot.own d)) (hs : ps.length < 1000) (h : ∀ p c', LSt X c₀ c' env σ j L (ps ++ [p]) → p.body = body → p.scope = scope → c'.st = c.st → D.nx σ c'.H) :
    tDrop (tBM X.K "list" rAppend (tVar j) (tCons (tLamX X (tabsOf X.K) noArgs body scope) tNil)) D σ c.H := by
  refine ⟨.ref L, l.at_, .inl ⟨rfl, _, .inl (.inl l.lst)⟩, l.fr.ok.tabs, fun f c' H1 eN al T1 hn hc => ?_⟩
  obtain ⟨s1, k1, l1⟩ := lam_step (p := ⟨f, c', body, scope⟩) l.fr.ok eN al T1 hn hc
  have m1 := l.step s1 k1
  refine ⟨L, _, .ref f, rfl, rfl, m1.lst, by rw [List.length_map, sizeLine_eq]; omega, ?_⟩
  have kp := Kp.put (c := c.lam X H1 ⟨f, c', body, scope⟩) (ho := .lst ((ps.map fun p => V.ref p.f) ++ [V.ref f])) m1.hid
  have fr2 := m1.fr.putN (ho := .lst ((ps.map fun p => V.ref p.f) ++ [V.ref f])) no m1.hid m1.n0 fun o e => by rw [m1.lst] at e; cases e; trivial
  have up : ∀ {a : Addr} {φ : Heap → Prop}, (c.lam X H1 ⟨f, c', body, scope⟩).H a = some (.ext φ) → upd (c.lam X H1 ⟨f, c', body, scope⟩).H L (.lst ((ps.map fun p => V.ref p.f) ++ [V.ref f])) a = some (.ext φ) := fun {a φ} e => by
    rw [upd_ne (fun z => by rw [z, m1.lst] at e; cases e)]; exact e
  refine h ⟨f, c', body, scope⟩ ((c.lam X H1 ⟨f, c', body, scope⟩).put L (.lst ((ps.map fun p => V.ref p.f) ++ [V.ref f]))) ⟨fr2, m1.nl, ?_, m1.hid, m1.n0, m1.at_, fun p hp => ?_⟩ rfl rfl rfl
  · show upd _ L _ L = _
    rw [upd_same, List.map_append]; rfl
  · rcases List.mem_append.mp hp with hp | hp
    · have q := m1.lam p hp
      exact ⟨q.nf, up q.f, q.nc, up q.c⟩
    · rw [List.mem_singleton.mp hp]
      exact ⟨l1.nf, up l1.f, l1.nc, up l1.c⟩
end
end DI
/-! DI: a def that tells whether a call raises. -/
set_option maxHeartbeats 2000000
namespace DI
open PySem PySem.Spec PyProof.Rows L2 LamX
/-- try: a() / except e: return True / return False -/
inductive IsRefB (a e : Str) : List Stmt → Prop
  | mk {j1 j2 : Nat} {p1 p2 p3 p4 p5 p6 p7 p8 p9 p10 : Pos} : IsRefB a e [.Try [.Expr (.Call (.Name a p1) [] [] p2) p3] [.ExceptHandler (some (.Name e p4)) none [.Return (some (.Constant (.bool true) j1 p5)) p6] p7] [] [] p8, .Return (some (.Constant (.bool false) j2 p9)) p10]
structure RefAt (X : Cx) (x e : Str) (g CS : Addr) : Prop where
  ex : ∃ (oc : Value) (od : Option Addr) (osl : Array (Option Value)) (qual a : Str) (pg : Arguments) (bg : List Stmt) (sg : Scope) (dV kV doc pm cdv ct : Value) (an : Option Addr), X.K.lookup g = some ⟨oc, od, .func (PySem.W.fnOf x qual pg bg sg dV kV doc pm an cdv ct), osl⟩ ∧ PySem.W.codeIn X.K cdv qual = true ∧
    L2.Binds X.K (PySem.W.fnOf x qual pg bg sg dV kV doc pm an cdv ct) [a] [] ∧ FnScope [a] [a] sg ∧ Vis sg a ∧ (a == ("__debug__" : Str)) = false ∧ (a == ("__classdict__" : Str)) = false ∧ sg.names.lookup e = some .globalImplicit ∧ IsRefB a e bg
  me : X.mg e = some (.ref CS)
  de : (e == ("__debug__" : Str)) = false
  mx : X.mg x = some (.ref g)
  dx : (x == ("__debug__" : Str)) = false
  kx : PySem.W.keepIn X.K (.ref g) = true
/-- what the call of a lambda that raises asks -/
def tRef (X : Cx) (CS : Addr) (k i : Nat) (σ : L2.St) : TE := fun σY H Q => ∃ (p : LamP) (tb : XK → TE), σY[i]? = some (some (V.ref p.f)) ∧ H p.f = some (lamHO X p) ∧ H p.c = some (CodeO p.c (X.env.qual ++ "<lambda>")) ∧ LamS X.env.scope p.scope ∧
  (∀ (A : Around) (outer : List PySem.Env) (s : Shared) (H : Hp) (E : XK) (f c' : Addr), Room k (A.deeper (lamEnv X p.scope s.heap.objs.size f c')) → PE (lamCx X A outer s H E p.scope f c') p.body (tb E)) ∧
  tb (fun cls _ H' => ∃ b, PySem.W.exmOne X.K cls (.ref CS) = some b ∧ (b = true → Q (.bl true) H') ∧ (b = false → False)) σ H (fun _ H' => Q (.bl false) H')
theorem bind0 {q : Str} {body : Expr} {scope : Scope} {cl : List (Str × Addr)} {pm cv ctv : Value} : bindArgs (PySem.W.kla_fn "<lambda>" q noArgs body scope cl pm cv ctv) ⟨[], []⟩ = pure [] := by
  unfold bindArgs noArgs
  simp [seqItems?, List.lookup]
  rfl
section
variable {X : Cx} {pins : List (Addr × Obj)} {σ : L2.St} {H0 : Hp} {s0 : Shared} {x e v : Str} {g CS : Addr} {k i : Nat} {p pv pos : Pos} {scope : Scope} {ce : PySem.Env} {fp : List Addr}
theorem pe_ref (I0 : Inv X pins σ H0 s0) (hf : ∀ b ∈ fp, FpOk X pins H0 b) (R : RefAt X x e g CS) (hr : Room 1 X.A) (hR : ∀ e1 e2, Room k ((X.A.deeper e1).deeper e2)) (hg : Gl (X.blk s0 H0 scope ce fp) x) (hv : PE (X.blk s0 H0 scope ce fp) (.Name v pv) (tVar i)) :
    PE (X.blk s0 H0 scope ce fp) (.Call (.Name x p) [.Name v pv] [] pos) (tRef X CS k i σ) := by
  obtain ⟨oc, od, osl, qual, a, pg, bg, sg, dV, kV, doc, pm, cdv, ct, an, lk, hcd, hb, Sg, va, da, dca, he, hB⟩ := R.ex
  generalize hY : X.blk s0 H0 scope ce fp = Y at hg hv
  have y1 : Y.prog = X.prog := by rw [← hY]
  refine ⟨fun pz sY σY H Q J ⟨q, tb, h1, h2, h3, L, hbody, h4⟩ => wpAny_Call_Name_kw (ld_glob J hg (by rw [← hY]; exact R.mx) ?_ R.dx)⟩
  refine PySem.W.callWith_K (h₀ := Y.base) J.ok.mod.kin (by rw [← hY]; exact R.kx) ?_ (by rfl) (by rfl)
  refine thn ((pa1 hv rfl).run pos pz sY σY H (fun vs H1 => vs = [V.ref q.f] ∧ H1 = H) J ⟨.ref q.f, h1, rfl, rfl⟩) fun us s1 ⟨vs, H1, J1, rv, ev, eH⟩ => ⟨J1.kIn, ?_⟩
  subst ev eH
  obtain ⟨u, rfl, ru⟩ := vals1 rv
  cases ru
  have I1 : Inv X pins σ H1 s1 := by
    rw [← hY] at J1
    exact Inv.back I0 hf J1
  have e0 : Env0 X.prog X.w X.K X.mg X.base X.A X.stack s1 H1 := I1.env0
  have rc : codeAny (model X.prog X.w) X.A (.call (.ref g) ⟨[.ref q.f], []⟩) (L2.CR C8.CX0 X.stack X.prog X.w H1 s1 Q C8.E0) s1 := by
    refine run_ofS (k := 0) (N := [a]) (ps := [a]) (us := [.ref q.f]) (vs := [V.ref q.f]) lk hcd Sg hr e0 (hb s1 [.ref q.f] I1.kIn rfl) (.cons rfl .nil) rfl fun hr' => ?_
    cases hB with | mk =>
    refine ⟨_, pss_cons (ps_try_only (c := .ref CS) (tb := fun W D σZ HZ => ∃ Ech : XK, (∀ cls d σ' H', Ech cls d H' → W cls d σ' H') ∧ σZ[0]? = some (some (V.ref q.f)) ∧ HZ q.f = some (lamHO X q) ∧ HZ q.c = some (CodeO q.c (X.env.qual ++ "<lambda>")) ∧ tb Ech σ HZ fun _ H' => D.nx σZ H')
      rfl rfl ⟨he, R.de, .inl R.me⟩ takes0 (fun W pn xe tk _ => ?_) (fun _ _ _ _ _ _ _ => pss_one (ps_ret pe_bl))) (pss_one (ps_ret pe_bl)), ?_⟩
    · refine ⟨fun pins' s' σ' H' D I' ⟨Ech, hW, g1, g2, g3, g4⟩ => ?_⟩
      exact (pss_one (ps_expr (pe_act4 (f := q.f) (c' := q.c) (params := noArgs) (body := q.body) (scope := q.scope) (i := 0) (k := k) (E := Ech) (tb := tb Ech) I1 L (fun _ _ => bind0) tk hW hr' (fun _ => hR _ _) (fun A outer s H hr2 => hbody A outer s H Ech q.f q.c hr2) rfl va da dca))).run pins' s' σ' H' D I' ⟨g1, g2, g3, g4⟩
    · exact ⟨fun cls _ H' => ∃ b, PySem.W.exmOne X.K cls (.ref CS) = some b ∧ (b = true → Q (.bl true) H') ∧ (b = false → False), fun cls d σ' H' ⟨b, e1, e2, e3⟩ => ⟨b, e1, fun hb a _ => e2 hb, fun hb => e3 hb⟩, rfl, h2, h3, h4⟩
  subst hY
  refine wpAny_call (codeAny_mono rc fun r s2 hq => ?_)
  cases r with
  | error e => exact (show False from hq).elim
  | ok fl =>
    cases fl with
    | ret u => exact J1.after hq
    | next => exact hq.elim
    | brk => exact hq.elim
    | cont => exact hq.elim
end
end DI
/-! DI: whether all calls of a list are refused. -/
set_option maxHeartbeats 2000000
namespace DI
open PySem PySem.Spec PyProof.Rows L2 LamX
/-- the lambdas' runs, each raising nm -/
def runRef (o : Orc) (env : DI.Env) (nm : Str) : List CE → Store → Option Store
  | [], st => some st
  | ce :: ces, st => match evalE o ce env st with
    | some (.ex C [] [], st1) => if C = nm then runRef o env nm ces st1 else none
    | _ => none
structure OthX (S : SI) (h : Hint) (o : Orc) (X : Cx) (y v x nm : Str) (j i k : Nat) (g CS : Addr) (csc : Scope) : Prop where
  calm : X.calm = true
  nd : X.N.Nodup
  yl : X.env.scope.names.lookup y = some .local
  ny : NmOk X y j
  nv : X.N[i]? = some v
  vd : (v == ("__debug__" : Str)) = false
  vcd : (v == ("__classdict__" : Str)) = false
  ok : BlkOk X.N X.env.scope csc [(v, i)]
  rv : (relS csc X.env.scope).names.lookup v = some .local
  rx : (relS csc X.env.scope).names.lookup x = some .globalImplicit
  ref : RefAt X x nm g CS
  rm : Room 1 X.A
  rm2 : ∀ e1 e2, Room k ((X.A.deeper e1).deeper e2)
  u64 : X.A.units + 64 < cLine
  lam : LamOk X
  exm : PySem.W.exmOne X.K (.ref (He.ga X.K nm)) (.ref CS) = some true
  G : ∀ (scope : Scope) (A : Around) (outer : List PySem.Env) (s : Shared) (H : Hp) (E : XK) (f c' : Addr), Room k (A.deeper (lamEnv X scope s.heap.objs.size f c')) → GOk S h o (lamCx X A outer s H E scope f c') (fun cls d _ H => E cls d H)
/-- return [.. for v in y if not x(v)] == [] -/
inductive IsRetB (y v x : Str) (csc : Scope) : Stmt → Prop
  | mk {elt : Expr} {r1 r2 r3 r4 r5 r6 r7 r8 r9 r10 : Pos} : IsRetB y v x csc (.Return (some (.Compare (.ListComp elt [⟨.Name v r1, .Name y r2, [.UnaryOp .Not (.Call (.Name x r3) [.Name v r4] [] r5) r6], 0⟩] csc r7) [.Eq] [.List [] r8] r9)) r10)
/-- an expression's own reading -/
def tWp (X : Cx) (e : Expr) : TE := fun σ H Q => ∀ pins s, Inv X pins σ H s → wpAny (model X.prog X.w) X.A (eval e X.env) (EP X pins σ Q) X.xe s
theorem pe_wp {X : Cx} {e : Expr} : PE X e (tWp X e) := ⟨fun pins s σ H Q I h => h pins s I⟩
def tWpS (X : Cx) (b : List Stmt) : TS := fun D σ H => ∀ pins s, Inv X pins σ H s → wpAny (model X.prog X.w) X.A (execs b X.env) (SP X pins D) X.xe s
theorem pss_wp {X : Cx} {b : List Stmt} : PSs X b (tWpS X b) := ⟨fun pins s σ H D I h => h pins s I⟩
section
variable {S : SI} {h : Hint} {o : Orc} {X : Cx} {y v x nm : Str} {j i k n : Nat} {g CS : Addr} {csc : Scope} {c₀ c : Cfg} {env : DI.Env} {σ : L2.St} {L : Addr} {ps : List LamP} {ces : List CE} {D : Ends} {stF : Store}
theorem ret_run {st : Stmt} (O : OthX S h o X y v x nm j i k g CS csc) (hB : IsRetB y v x csc st) (hi : i ≠ j) (l : LSt X c₀ c env σ j L ps) (hl : ps.length = ces.length) (hz : ps.length < 1000) (hc : ∀ (m : Nat) (p : LamP) (ce : CE), ps[m]? = some p → ces[m]? = some ce → cE S h n p.scope p.body = some ce ∧ LamS X.env.scope p.scope)
    (hr : runRef o env nm ces c.st = some stF) (hD : ∀ c', FR X.K c₀ c' env σ → c'.st = stF → D.rt (.bl true) c'.H) : tWpS X [st] D σ c.H := by
  intro pins s I
  cases hB
  rename_i elt r1 r2 r3 r4 r5 r6 r7 r8 r9 r10
  refine (pss_one (ps_ret (pe_cmpR (s_eq O.u64) pe_wp (pe_lst pa_nil) rfl))).run pins s σ c.H D I ?_
  intro pins s I
  refine lc_none (own := [(v, i)]) O.calm O.nd I (pi_list O.ny.pe) O.ok (fun _ => rfl) (fun s H C cl fp => pg_name (X := X.blk s H csc (compEnvC csc cl C X.env) fp) (i := i) O.nd O.nv (.inl O.rv) (.inr O.rv))
    (fun s H C cl fp I0 hf => pts_one (pt_not (pt_val (pe_ref I0 hf O.ref O.rm O.rm2 O.rx (pe_var (X := X.blk s H csc (compEnvC csc cl C X.env) fp) (i := i) O.nv (.inl O.rv) O.vd O.vcd)) (fun _ => rfl)))) ?_
  refine ⟨.ref L, l.at_, L, rfl, ⟨_, .inl (.inl l.lst)⟩, fun N hN => ?_⟩
  refine ⟨fun a m H' => m = ps.length - a ∧ a ≤ ps.length ∧ ∃ c', c'.H = H' ∧ LSt X c₀ c' env σ j L ps ∧ RV X.K c' (.lst []) (.ref N) ∧ runRef o env nm (ces.drop a) c'.st = some stF, ⟨_, rfl, Nat.zero_le _, { c with H := upd c.H N (.lst []) }, rfl, l.step (Step.fresh hN) (l.fr.ok.new hN), ?_, hr⟩, ?_⟩
  · have fz := (l.fr.ok.fz hN).step (Step.fresh (o := .lst []) hN)
    simp only [RV]
    exact ⟨N, [], rfl, ⟨(l.fr.ok.fz hN).1, (l.fr.ok.fz hN).2⟩, .inl upd_same, by simp only [RL]⟩
  · rintro a m H' ⟨rfl, ha, c', rfl, l', rN, hr'⟩
    by_cases he : a = ps.length
    · subst he
      refine .inl ⟨⟨_, .inl (.inl l'.lst), by rw [List.length_map]; exact Nat.le_refl _⟩, by rw [sizeLine_eq]; simp, fun p hp => ?_⟩
      have e : c'.st = stF := by
        rw [hl, List.drop_length] at hr'
        exact Option.some.inj hr'
      have s1 : Step c' { c' with H := upd c'.H p (.lst []) } := Step.fresh hp
      have k1 : SOk X.K { c' with H := upd c'.H p (.lst []) } := l'.fr.ok.new hp
      have rp : RV X.K { c' with H := upd c'.H p (.lst []) } (.lst []) (.ref p) := by
        simp only [RV]
        exact ⟨p, [], rfl, ⟨(l'.fr.ok.fz hp).1, (l'.fr.ok.fz hp).2⟩, .inl upd_same, by simp only [RL]⟩
      refine ⟨{ c' with H := upd c'.H p (.lst []) }, .lst [], .lst [], fun _ _ _ => False, rfl, k1, .inl (rN.step s1), .inl rp, ?_⟩
      show ∀ c'' v, c''.st = c'.st → Step _ c'' → SOk X.K c'' → RV X.K c'' (.bl true) v → D.rt v c''.H
      intro c'' v e2 s2 k2 rv
      simp only [RV] at rv
      subst rv
      exact hD c'' ((l'.fr.step s1 k1).step s2 k2) (by rw [e2]; exact e)
    · have hlt : a < ps.length := by omega
      obtain ⟨p, hp⟩ : ∃ p, ps[a]? = some p := ⟨ps[a], by simp [hlt]⟩
      obtain ⟨ce, hce⟩ : ∃ ce, ces[a]? = some ce := ⟨ces[a]'(by omega), by simp [show a < ces.length by omega]⟩
      have hpi : (ps.map fun p => V.ref p.f)[a]? = some (V.ref p.f) := by rw [List.getElem?_map, hp]; rfl
      refine .inr ⟨⟨_, _, .inl (.inl l'.lst), hpi⟩, ?_⟩
      rintro z H2 ⟨rfl, hy⟩
      have := hy _ (.inl (.inl l'.lst))
      rw [hpi] at this
      cases this
      have pm : p ∈ ps := List.mem_of_getElem? hp
      have lp := l'.lam p pm
      have hil : i < σ.length := by rw [I.len]; exact (List.getElem?_eq_some_iff.mp O.nv).1
      obtain ⟨hcE, hLS⟩ := hc a p ce hp hce
      refine ⟨?_, p, fun E => tE X.K o (fun cls d _ H => E cls d H) ce, ?_, lp.f, lp.c, hLS, fun A outer s H E f c' hroom => ((expr_all n).1 (O.G p.scope A outer s H E f c' hroom) rfl hcE).pe, ?_⟩
      · show wipe ((wipe σ [i]).set i (some (V.ref p.f))) [i] = wipe σ [i]
        simp [wipe]
      · show ((wipe σ [i]).set i (some (V.ref p.f)))[i]? = _
        rw [List.getElem?_set_self (by rw [wipe_length]; exact hil)]
      · refine ⟨c₀, env, c', rfl, l'.fr, ?_⟩
        have hd : ces.drop a = ce :: ces.drop (a + 1) := by
          obtain ⟨h1, h2⟩ := List.getElem?_eq_some_iff.mp hce
          rw [← h2, List.drop_eq_getElem_cons h1]
        rw [hd] at hr'
        simp only [runRef] at hr'
        revert hr'
        generalize evalE o ce env c'.st = r
        intro hr'
        split at hr'
        · rename_i C st1
          split at hr'
          · rename_i hC
            subst hC
            intro c'' cls d e2 s2 k2 xr
            obtain ⟨rfl, _⟩ := xr
            refine ⟨true, O.exm, fun _ => ⟨true, rfl, rfl, ps.length - (a + 1), by omega, rfl, by omega, c'', rfl, l'.step s2 k2, rN.step s2, by rw [e2]; exact hr'⟩, fun z => by cases z⟩
          · cases hr'
        · cases hr'
/-- calls.append(lambda: ..), again and again -/
inductive IsApps (y : Str) : List (Expr × Scope) → List Stmt → List Stmt → Prop
  | nil {b : List Stmt} : IsApps y [] b b
  | app {body : Expr} {sc : Scope} {ls : List (Expr × Scope)} {b w : List Stmt} {q1 q2 q3 q4 q5 : Pos} (hl : (q2.endLine == q4.line) = true) (t : IsApps y ls b w) : IsApps y ((body, sc) :: ls) b (.Expr (.Call (.Attribute (.Name y q1) "append" q2) [.Lambda noArgs body sc q3] [] q4) q5 :: w)
theorem apps_run {ls : List (Expr × Scope)} {b w : List Stmt} (ny : NmOk X y j) (lam : LamOk X) (no : ∀ (i : Nat) (d : DI.D), env[i]? ≠ some (Slot.own d)) (hA : IsApps y ls b w) : ∀ (ps : List LamP) (c : Cfg), LSt X c₀ c env σ j L ps → ps.length + ls.length < 1000 → (∀ p ∈ ls, LamS X.env.scope p.2) →
    (∀ (ps' : List LamP) (c' : Cfg), LSt X c₀ c' env σ j L ps' → (ps'.map fun p => (p.body, p.scope)) = (ps.map fun p => (p.body, p.scope)) ++ ls → c'.st = c.st → tWpS X b D σ c'.H) → tWpS X w D σ c.H := by
  induction hA with
  | nil => exact fun ps c l _ _ K => K ps c l (by simp) rfl
  | app hl t ih =>
    rename_i body sc ls b w q1 q2 q3 q4 q5
    intro ps c l hlen hS K pins s I
    obtain ⟨cc, P, hcode, TB, hm, hu⟩ := lam
    have e1 : PE X (.Lambda noArgs body sc q3) (tLamX X (tabsOf X.K) noArgs body sc) := pe_lamX TB hcode hm hu rfl (hS _ List.mem_cons_self)
    have st1 : PS X (.Expr (.Call (.Attribute (.Name y q1) "append" q2) [.Lambda noArgs body sc q3] [] q4) q5) (tDrop (tBM X.K "list" rAppend (tVar j) (tCons (tLamX X (tabsOf X.K) noArgs body sc) tNil))) :=
      ps_expr (pe_bm PySem.F.plainAttrs_list PySem.F.slot_list_append PySem.F.type_list_append mt_append ny.pe (pa1 e1 rfl) rfl rfl hl rfl rfl) rfl
    refine (pss_cons st1 pss_wp).run pins s σ c.H D I (lamA_use l no (by simp at hlen; omega) fun p c' l' e1 e2 e3 => ?_)
    refine ih (ps ++ [p]) c' l' (by simp at hlen ⊢; omega) (fun q hq => hS q (List.mem_cons_of_mem _ hq)) fun ps' c'' l'' em es => K ps' c'' l'' (by rw [em]; simp [e1, e2]) (es.trans e3)
end
end DI
/-! DI: a def that keeps lambdas in a list and asks whether all calls are refused. -/
set_option maxHeartbeats 2000000
namespace DI
open PySem PySem.Spec PyProof.Rows L2 LamX
def notOwn : Slot → Bool
  | .own _ => false
  | _ => true
def isNo : Option Slot → Bool
  | some .no => true
  | _ => false
/-- the def's run: its first statement's, then the lambdas', one by one -/
def prOth (np ns j : Nat) (nm : Str) (cs : List CS) (ces : List CE) : Orc → List DI.D → Store → Res := fun o ds st => match execL o cs (ds.map .val ++ List.replicate (ns - np) .no) st with
  | some (.nxt, env, st1) => if env.all notOwn && isNo env[j]? then (runRef o env nm ces st1).map fun st2 => (.ok (.bl true), st2) else none
  | _ => none
/-- the def's text -/
structure IsOth (y v x : Str) (csc : Scope) (s1 : Stmt) (ls : List (Expr × Scope)) (body : List Stmt) : Prop where
  ex : ∃ (b0 : Expr) (sc0 : Scope) (py lp llp ap : Pos) (w : List Stmt) (st : Stmt) (r : List (Expr × Scope)), ls = (b0, sc0) :: r ∧ body = s1 :: .Assign [.Name y py] (.List [.Lambda noArgs b0 sc0 lp] llp) ap :: w ∧ IsApps y r [st] w ∧ IsRetB y v x csc st
theorem oth_ok {S : SI} {h : Hint} {T : List FD} {o : Orc} {P : Program} {w : World} {K : PySem.W.Frag} {mg : Str → Option Value} {base : Heap} {k f : Nat} {fd : FD} {a : Addr} {fdt : FuncData} {ps : List Str} {name qual : Str} {params : Arguments} {body : List Stmt} {scope : Scope} {dV kV doc pm cdv ct oc : Value} {an od : Option Addr} {osl : Array (Option Value)}
    {y v x nm : Str} {i j n : Nat} {g CA : Addr} {csc : Scope} {s1 : Stmt} {ls : List (Expr × Scope)} {cs : List CS} {ces : List CE}
    (e : fdt = PySem.W.fnOf name qual params body scope dV kV doc pm an cdv ct) (lk : K.lookup a = some ⟨oc, od, .func (PySem.W.fnOf name qual params body scope dV kV doc pm an cdv ct), osl⟩) (hcd : PySem.W.codeIn K cdv qual = true) (FS : FnScope h.N ps scope) (LA : LamAt K mg base cdv qual)
    (hO : IsOth y v x csc s1 ls body) (h1 : cS S h 100 scope s1 = some cs) (hc : cs ≠ [] ∧ ls.length = ces.length ∧ ls.length < 900 ∧ ∀ (m : Nat) (p : Expr × Scope) (ce : CE), ls[m]? = some p → ces[m]? = some ce → cE S h n p.2 p.1 = some ce ∧ LamS scope p.2)
    (G : GAll S h o P w K mg base (k + 1)) (hlam : h.lam = false) (hex : ∀ x, S.eflds.lookup x = some [] → ExOk P K mg x) (hT : T[f]? = some fd) (hnp : fd.np = ps.length) (hpr : fd.prim = some (prOth ps.length h.N.length j nm cs ces))
    (hj : h.N[j]? = some y) (hjl : scope.names.lookup y = some .local) (hi : h.N[i]? = some v) (hij : i ≠ j) (hnm : ∀ z ∈ [y, v], (z == ("__debug__" : Str)) = false ∧ (z == ("__classdict__" : Str)) = false)
    (hblk : BlkOk h.N scope csc [(v, i)]) (hrv : (relS csc scope).names.lookup v = some .local) (hrx : (relS csc scope).names.lookup x = some .globalImplicit)
    (hexm : PySem.W.exmOne K (.ref (He.ga K nm)) (.ref CA) = some true) (href : ∀ X : Cx, X.K = K → X.mg = mg → RefAt X x nm g CA) :
    FnOk P w K mg base (L2.CX P w) (k + 2) a fdt ps (spF K ps.length (runF T o f)) := by
  subst e
  refine ⟨fun vs H Q E h => h.1, fun A outer s H args us vs Q E hr e0 hb r hsp => ?_⟩
  have hlv : vs.length = ps.length := hsp.1
  refine run_ofS (k := k + 1) (N := h.N) lk hcd FS hr e0 hb r hlv fun hr' => ?_
  obtain ⟨hl, c, ds, rfl, kk, rl, p⟩ := hsp
  have tk : Takes (cxOf (L2.CX P w) P w K mg base h.N qual scope a cdv A outer s c.H E) (fun cls d _ H => E cls d H) := takes_of (X := cxOf (L2.CX P w) P w K mg base h.N qual scope a cdv A outer s c.H E) rfl rfl rfl rfl
  have gX := G (cxOf (L2.CX P w) P w K mg base h.N qual scope a cdv A outer s c.H E) rfl rfl rfl rfl rfl rfl rfl hr' (fun z => by rw [hlam] at z; cases z) _ tk
  have sx : SOkX S (cxOf (L2.CX P w) P w K mg base h.N qual scope a cdv A outer s c.H E) := ⟨fun _ => rfl, by show (if scope.kind.isAnnotationScope then ScopeKind.function else scope.kind) = .function; rw [FS.kind]; rfl, passes_of (X := cxOf (L2.CX P w) P w K mg base h.N qual scope a cdv A outer s c.H E) rfl, fun x hx => ExOk.pmk (hex x hx) (hr'.mono (by omega))⟩
  have rm2 : ∀ e1 e2, Room (k + 1) (((A.deeper (envOfC qual scope s.heap.objs.size a cdv)).deeper e1).deeper e2) := fun e1 e2 => ⟨hr.hd, by have := hr.dp; show A.depth + 1 + 1 + 1 + 3 * (k + 1) + 5 < _; omega, by have := hr.un; show A.units + 3 + 3 + 3 + 16 * (k + 1) + 200 < _; omega⟩
  have rm : Room 1 (A.deeper (envOfC qual scope s.heap.objs.size a cdv)) := ⟨hr.hd, by have := hr.dp; show A.depth + 1 + 3 * 1 + 5 < _; omega, by have := hr.un; show A.units + 3 + 16 * 1 + 200 < _; omega⟩
  have hlo : LamOk (cxOf (L2.CX P w) P w K mg base h.N qual scope a cdv A outer s c.H E) := LA
  have O : OthX S h o (cxOf (L2.CX P w) P w K mg base h.N qual scope a cdv A outer s c.H E) y v x nm j i (k + 1) g CA csc := {
    calm := rfl
    nd := FS.nd
    yl := hjl
    ny := ⟨hj, .inl hjl, (hnm y (by simp)).1, (hnm y (by simp)).2⟩
    nv := hi
    vd := (hnm v (by simp)).1
    vcd := (hnm v (by simp)).2
    ok := hblk
    rv := hrv
    rx := hrx
    ref := href _ rfl rfl
    rm := rm
    rm2 := rm2
    u64 := hr'.units
    lam := hlo
    exm := hexm
    G := fun sc A' outer' s' H' E' f' c' hrm => G (lamCx (cxOf (L2.CX P w) P w K mg base h.N qual scope a cdv A outer s c.H E) A' outer' s' H' E' sc f' c') rfl rfl rfl rfl rfl rfl rfl hrm (fun z => by rw [hlam] at z; cases z) _ (takes_of (X := lamCx (cxOf (L2.CX P w) P w K mg base h.N qual scope a cdv A outer s c.H E) A' outer' s' H' E' sc f' c') rfl rfl rfl rfl) }
  obtain ⟨b0, sc0, py, lp, llp, ap, wb, st, rs, rfl, rfl, hA, hB⟩ := hO.ex
  obtain ⟨cc, Pt, hcode, TB, hmm, huu⟩ := hlo
  have s2 : PS (cxOf (L2.CX P w) P w K mg base h.N qual scope a cdv A outer s c.H E) (.Assign [.Name y py] (.List [.Lambda noArgs b0 sc0 lp] llp) ap) (tAsg (tLst (tCons (tLamX (cxOf (L2.CX P w) P w K mg base h.N qual scope a cdv A outer s c.H E) (tabsOf K) noArgs b0 sc0) tNil)) (gName j)) := by
    obtain ⟨ce0, hce0⟩ : ∃ ce0, ces[0]? = some ce0 := ⟨ces[0]'(by have := hc.2.1; simp at this; omega), by simp⟩
    exact ps_set FS.nd hj (.inl hjl) (pe_lst (pa1 (pe_lamX TB hcode hmm huu rfl (hc.2.2.2 0 _ ce0 rfl hce0).2) rfl)) rfl (.inr hjl)
  have ps1 := (stmt_all (S := S) (h := h) (o := o) 100).1 gX sx rfl h1
  refine ⟨_, pss_cons ps1 (pss_cons s2 pss_wp), c, _, c, rfl, FR.start (n := h.N.length - ps.length) kk rl (by rw [hlv]), ?_⟩
  -- the run
  have hrun : ∃ env st1 st2, execL o cs (ds.map Slot.val ++ List.replicate (h.N.length - ps.length) .no) c.st = some (.nxt, env, st1) ∧ (env.all notOwn && isNo env[j]?) = true ∧ runRef o env nm ces st1 = some st2 ∧ Post K (RV K) E c (some (.ok (.bl true), st2)) Q := by
    unfold runF at p
    rw [hT] at p
    simp only at p
    split at p
    · rw [hpr] at p
      simp only [prOth] at p
      split at p
      · rename_i env st1 he
        split at p
        · rename_i hcnd
          cases hrr : runRef o env nm ces st1 with
          | none => rw [hrr] at p; exact p.elim
          | some st2 => rw [hrr] at p; exact ⟨env, st1, st2, he, hcnd, hrr, p⟩
        · exact p.elim
      · exact p.elim
    · exact p.elim
  obtain ⟨env, st1, st2, he, hcnd, hrr, pq⟩ := hrun
  simp only [Bool.and_eq_true] at hcnd
  have no : ∀ (i : Nat) (d : DI.D), env[i]? ≠ some (Slot.own d) := fun i d z => by
    have := List.all_eq_true.mp hcnd.1 _ (List.mem_of_getElem? z)
    cases this
  have hjn : env[j]? = some Slot.no := by
    have := hcnd.2
    revert this
    cases env[j]? with
    | none => intro z; cases z
    | some s => cases s <;> intro z <;> first | rfl | cases z
  rw [he]
  intro c1 σ1 es1 kp1 fr1
  refine lam0_use fr1 hjn fun L q c2 l2 eb esc es2 => ?_
  refine apps_run O.ny O.lam no hA [q] c2 l2 (by have := hc.2.2.1; simp at this ⊢; omega) (fun p hp => ?_) (fun ps' c3 l3 em es3 => ?_)
  · obtain ⟨m, hm⟩ := List.getElem?_of_mem hp
    have hm1 : ((b0, sc0) :: rs)[m + 1]? = some p := by simpa using hm
    obtain ⟨ce, hce⟩ : ∃ ce, ces[m + 1]? = some ce := ⟨ces[m + 1]'(by rw [← hc.2.1]; exact (List.getElem?_eq_some_iff.mp hm1).1), by simp⟩
    exact (hc.2.2.2 _ _ ce hm1 hce).2
  · have em' : (ps'.map fun p => (p.body, p.scope)) = (b0, sc0) :: rs := by rw [em]; simp [eb, esc]
    have hlen : ps'.length = ces.length := by rw [← hc.2.1, ← em', List.length_map]
    refine ret_run (n := n) O hB hij l3 hlen (by rw [hlen, ← hc.2.1]; have := hc.2.2.1; omega) (fun m p ce hp hce => ?_) (stF := st2) (by rw [es3, es2, es1]; exact hrr) fun c4 fr4 es4 => ?_
    · have hm : ((b0, sc0) :: rs)[m]? = some (p.body, p.scope) := by rw [← em', List.getElem?_map, hp]; rfl
      exact hc.2.2.2 m _ ce hm hce
    · have less : ∀ a, c.F a → c4.F a := fr4.f1
      refine pq { c4 with F := c.F } (.bl true) es4 ⟨⟨fr4.st.keep, fr4.st.rho, fr4.st.len, fr4.st.new, fr4.st.al⟩, rfl⟩ (fr4.ok.lessF less) (by simp only [RV])
end DI
/-! DI: runs read by what they end in. -/
namespace DI
open PySem (Str PyData)
/-- what bears a tag of q is read by simp without going into q -/
inductive Tag {α : Sort u} (q : α) : Type
  | mk : Tag q
def Ok (m : Res) (Q : D → Store → Prop) (_t : Tag Q := .mk) : Prop := ∃ d st, m = some (.ok d, st) ∧ Q d st
def OkL (m : ResL) (Q : List D → Store → Prop) : Prop := ∃ ds st, m = some (.ok ds, st) ∧ Q ds st
def Fl.fine : Fl → Prop
  | .ex _ _ _ => False
  | _ => True
def OkS (m : ResS) (Q : Fl → Env → Store → Prop) : Prop := ∃ fl env st, m = some (fl, env, st) ∧ fl.fine ∧ Q fl env st
def OkC (m : Option (List D × Store)) (Q : List D → Store → Prop) : Prop := ∃ ds st, m = some (ds, st) ∧ Q ds st
/-- an operation's value -/
def OkO {α : Type} (o : Option α) (Q : α → Prop) (_t : Tag Q := .mk) : Prop := ∃ d, o = some d ∧ Q d
theorem c_okO {α : Type} {o o' : Option α} {Q : α → Prop} (h : o = o') : OkO o Q = OkO o' Q := by rw [h]
@[simp] theorem okO_some {α : Type} {d : α} {Q : α → Prop} : OkO (some d) Q ↔ Q d := ⟨fun ⟨_, e, q⟩ => by cases e; exact q, fun h => ⟨d, rfl, h⟩⟩
@[simp] theorem okO_none {α : Type} {Q : α → Prop} : OkO none Q ↔ False := ⟨fun ⟨_, e, _⟩ => (by cases e), False.elim⟩
def IsI (x : D) (Q : Int → Prop) (_t : Tag Q := .mk) : Prop := ∃ i, x = .int i ∧ Q i
theorem c_isI {x x' : D} {Q : Int → Prop} (h : x = x') : IsI x Q = IsI x' Q := by rw [h]
@[simp] theorem isI_int {i : Int} {Q : Int → Prop} : IsI (.int i) Q ↔ Q i := ⟨fun ⟨_, e, q⟩ => by cases e; exact q, fun h => ⟨i, rfl, h⟩⟩
def IsB (x : D) (Q : Bool → Prop) (_t : Tag Q := .mk) : Prop := ∃ i, x = .bl i ∧ Q i
theorem c_isB {x x' : D} {Q : Bool → Prop} (h : x = x') : IsB x Q = IsB x' Q := by rw [h]
@[simp] theorem isB_bl {i : Bool} {Q : Bool → Prop} : IsB (.bl i) Q ↔ Q i := ⟨fun ⟨_, e, q⟩ => by cases e; exact q, fun h => ⟨i, rfl, h⟩⟩
/-- by a truth value -/
def ByB (d : D) (P R : Prop) (_t : Tag (P ∧ R) := .mk) : Prop := ∃ c, d = .bl c ∧ (c = true → P) ∧ (c = false → R)
theorem byB_bl {c : Bool} {P R : Prop} : ByB (.bl c) P R ↔ (c = true → P) ∧ (c = false → R) := ⟨fun ⟨_, e, h⟩ => by cases e; exact h, fun h => ⟨c, rfl, h⟩⟩
section
variable {m : Res} {ml : ResL} {ms : ResS} {mc : Option (List D × Store)}
theorem Ok.mono {Q Q' : D → Store → Prop} (h : Ok m Q) (k : ∀ d st, Q d st → Q' d st) : Ok m Q' := by
  obtain ⟨d, st, e, q⟩ := h
  exact ⟨d, st, e, k d st q⟩
theorem OkS.mono {Q Q' : Fl → Env → Store → Prop} (h : OkS ms Q) (k : ∀ d e st, Q d e st → Q' d e st) : OkS ms Q' := by
  obtain ⟨d, e, st, e1, f, q⟩ := h
  exact ⟨d, e, st, e1, f, k d e st q⟩
theorem OkC.mono {Q Q' : List D → Store → Prop} (h : OkC mc Q) (k : ∀ d st, Q d st → Q' d st) : OkC mc Q' := by
  obtain ⟨d, st, e, q⟩ := h
  exact ⟨d, st, e, k d st q⟩
theorem ok_congr {P P' : D → Store → Prop} (h : ∀ d st, P d st ↔ P' d st) : Ok m P ↔ Ok m P' := ⟨fun z => z.mono fun d st => (h d st).mp, fun z => z.mono fun d st => (h d st).mpr⟩
theorem ok_some {d st Q} : Ok (some (.ok d, st)) Q ↔ Q d st := ⟨fun ⟨d', st', e, q⟩ => by cases e; exact q, fun h => ⟨d, st, rfl, h⟩⟩
theorem okL_some {d st Q} : OkL (some (.ok d, st)) Q ↔ Q d st := ⟨fun ⟨d', st', e, q⟩ => by cases e; exact q, fun h => ⟨d, st, rfl, h⟩⟩
theorem okC_some {d st Q} : OkC (some (d, st)) Q ↔ Q d st := ⟨fun ⟨d', st', e, q⟩ => by cases e; exact q, fun h => ⟨d, st, rfl, h⟩⟩
theorem okS_some {fl env st Q} : OkS (some (fl, env, st)) Q ↔ fl.fine ∧ Q fl env st := ⟨fun ⟨d', e', st', e, q⟩ => by cases e; exact q, fun h => ⟨fl, env, st, rfl, h⟩⟩
theorem okS_none {Q} : OkS none Q ↔ False := ⟨fun ⟨_, _, _, e, _⟩ => (by cases e), False.elim⟩
theorem ok_none {Q} : Ok none Q ↔ False := ⟨fun ⟨_, _, e, _⟩ => (by cases e), False.elim⟩
theorem ok_ifn {c : Prop} [Decidable c] {x : Res} {Q} : Ok (if c then x else none) Q ↔ c ∧ Ok x Q := by
  by_cases h : c
  · rw [if_pos h]; exact ⟨fun z => ⟨h, z⟩, fun z => z.2⟩
  · rw [if_neg h, ok_none]; exact ⟨False.elim, fun z => h z.1⟩
theorem ok_mat {o : Option D} {st : Store} {Q} : Ok (o.map fun d => (Rs.ok d, st)) Q ↔ OkO (o) fun d => Q d st := by
  cases o with
  | none => exact ⟨fun ⟨_, _, e, _⟩ => (by cases e), fun ⟨_, e, _⟩ => (by cases e)⟩
  | some d => exact ⟨fun h => ⟨d, rfl, ok_some.mp h⟩, fun ⟨d', e, h⟩ => by cases e; exact ok_some.mpr h⟩
theorem ok_matB {o : Option Bool} {st : Store} {Q} : Ok (o.map fun d => (Rs.ok (.bl d), st)) Q ↔ OkO (o) fun d => Q (.bl d) st := by
  cases o with
  | none => exact ⟨fun ⟨_, _, e, _⟩ => (by cases e), fun ⟨_, e, _⟩ => (by cases e)⟩
  | some d => exact ⟨fun h => ⟨d, rfl, ok_some.mp h⟩, fun ⟨d', e, h⟩ => by cases e; exact ok_some.mpr h⟩
theorem ok_bnd {k Q} : Ok (bnd m k) Q ↔ Ok m fun d st => Ok (k d st) Q := by
  cases m with
  | none => exact ⟨fun ⟨_, _, e, _⟩ => (by cases e), fun ⟨_, _, e, _⟩ => (by cases e)⟩
  | some r =>
    obtain ⟨r, st⟩ := r
    cases r with
    | ok d => rw [bnd_ok, ok_some]
    | ex c ns ds => exact ⟨fun ⟨_, _, e, _⟩ => (by cases e), fun ⟨_, _, e, _⟩ => (by cases e)⟩
theorem ok_bndL {k Q} : Ok (bndL ml k) Q ↔ OkL ml fun d st => Ok (k d st) Q := by
  cases ml with
  | none => exact ⟨fun ⟨_, _, e, _⟩ => (by cases e), fun ⟨_, _, e, _⟩ => (by cases e)⟩
  | some r =>
    obtain ⟨r, st⟩ := r
    cases r with
    | ok d => rw [bndL_ok, okL_some]
    | ex c ns ds => exact ⟨fun ⟨_, _, e, _⟩ => (by cases e), fun ⟨_, _, e, _⟩ => (by cases e)⟩
theorem okL_bndE {k Q} : OkL (bndE m k) Q ↔ Ok m fun d st => OkL (k d st) Q := by
  cases m with
  | none => exact ⟨fun ⟨_, _, e, _⟩ => (by cases e), fun ⟨_, _, e, _⟩ => (by cases e)⟩
  | some r =>
    obtain ⟨r, st⟩ := r
    cases r with
    | ok d => rw [bndE_ok, ok_some]
    | ex c ns ds => exact ⟨fun ⟨_, _, e, _⟩ => (by cases e), fun ⟨_, _, e, _⟩ => (by cases e)⟩
theorem okL_bndLL {k Q} : OkL (bndLL ml k) Q ↔ OkL ml fun d st => OkL (k d st) Q := by
  cases ml with
  | none => exact ⟨fun ⟨_, _, e, _⟩ => (by cases e), fun ⟨_, _, e, _⟩ => (by cases e)⟩
  | some r =>
    obtain ⟨r, st⟩ := r
    cases r with
    | ok d => rw [bndLL_ok, okL_some]
    | ex c ns ds => exact ⟨fun ⟨_, _, e, _⟩ => (by cases e), fun ⟨_, _, e, _⟩ => (by cases e)⟩
theorem okS_bS {env k Q} : OkS (bS env m k) Q ↔ Ok m fun d st => OkS (k d st) Q := by
  cases m with
  | none => exact ⟨fun ⟨_, _, _, e, _⟩ => (by cases e), fun ⟨_, _, e, _⟩ => (by cases e)⟩
  | some r =>
    obtain ⟨r, st⟩ := r
    cases r with
    | ok d => rw [bS_ok, ok_some]
    | ex c ns ds => exact ⟨fun ⟨_, _, _, e, f, _⟩ => (by cases e; exact f.elim), fun ⟨_, _, e, _⟩ => (by cases e)⟩
theorem okS_ifn {c : Prop} [Decidable c] {x : ResS} {Q} : OkS (if c then x else none) Q ↔ c ∧ OkS x Q := by
  by_cases h : c
  · rw [if_pos h]; exact ⟨fun z => ⟨h, z⟩, fun z => z.2⟩
  · rw [if_neg h, okS_none]; exact ⟨False.elim, fun z => h z.1⟩
theorem okS_map {α : Type} {o : Option α} {f : α → Fl × Env × Store} {Q} : OkS (o.map f) Q ↔ OkO (o) fun d => OkS (some (f d)) Q := by
  cases o with
  | none => exact ⟨fun ⟨_, _, _, e, _⟩ => (by cases e), fun ⟨_, e, _⟩ => (by cases e)⟩
  | some d => exact ⟨fun h => ⟨d, rfl, h⟩, fun ⟨d', e, h⟩ => by cases e; exact h⟩
theorem ok_map {α : Type} {o : Option α} {f : α → Rs × Store} {Q} : Ok (o.map f) Q ↔ ∃ d, o = some d ∧ Ok (some (f d)) Q := by
  cases o with
  | none => exact ⟨fun ⟨_, _, e, _⟩ => (by cases e), fun ⟨_, e, _⟩ => (by cases e)⟩
  | some d => exact ⟨fun h => ⟨d, rfl, h⟩, fun ⟨d', e, h⟩ => by cases e; exact h⟩
end
/-! ### expressions -/
/-- a look: owned names too -/
def OkB (o : Orc) (a : CE) (env : Env) (st : Store) (Q : D → Store → Prop) (_t : Tag Q := .mk) : Prop := Ok (lend a env st (evalE o a env st)) Q
def OkE (o : Orc) (a : CE) (env : Env) (st : Store) (Q : D → Store → Prop) (_t : Tag Q := .mk) : Prop := Ok (evalE o a env st) Q
def OkA (o : Orc) (es : List CE) (env : Env) (st : Store) (Q : List D → Store → Prop) (_t : Tag Q := .mk) : Prop := OkL (evalL o es env st) Q
theorem byB_iff {d : D} {x y : Res} {Q} : Ok (match d with | .bl true => x | .bl false => y | _ => none) Q ↔ ByB d (Ok x Q) (Ok y Q) := by
  cases d with
  | bl c => cases c <;> simp [byB_bl]
  | _ => exact ⟨fun ⟨_, _, e, _⟩ => (by cases e), fun ⟨_, e, _⟩ => (by cases e)⟩
section
variable {o : Orc} {env : Env} {st : Store} {Q : D → Store → Prop} {a b c : CE} {es : List CE}
@[simp] theorem b_var {i : Nat} : OkB o (.var i) env st Q ↔ OkO (slotB env i) fun d => Q d st := by
  unfold OkB lend
  exact ok_mat
@[simp] theorem b_of {a : CE} (h : ∀ i, a ≠ .var i) : OkB o a env st Q ↔ OkE o a env st Q := by
  unfold OkB OkE lend
  cases a <;> first | rfl | exact absurd rfl (h _)
@[simp] theorem e_var {i : Nat} : OkE o (.var i) env st Q ↔ OkO (slotV env i) fun d => Q d st := by
  unfold OkE
  simp only [evalE]
  exact ok_mat
@[simp] theorem e_con {d : D} : OkE o (.con d) env st Q ↔ Q d st := by
  unfold OkE
  simp only [evalE, ok_some]
@[simp] theorem a_nil {Q : List D → Store → Prop} : OkA o [] env st Q ↔ Q [] st := by
  unfold OkA
  simp only [evalL, okL_some]
@[simp] theorem a_cons {Q : List D → Store → Prop} {e : CE} : OkA o (e :: es) env st Q ↔ OkE o e env st fun d st => OkA o es env st fun ds st => Q (d :: ds) st := by
  unfold OkA OkE
  simp only [evalL, okL_bndE]
  refine ok_congr fun d st => ?_
  simp only [okL_bndLL, okL_some]
@[simp] theorem e_tup : OkE o (.tup es) env st Q ↔ OkA o es env st fun ds st => lineOk ds.length = true ∧ Q (.tup ds) st := by
  unfold OkE OkA
  simp only [evalE, ok_bndL, ok_ifn, ok_some]
@[simp] theorem e_lst : OkE o (.lst es) env st Q ↔ OkA o es env st fun ds st => lineOk ds.length = true ∧ Q (.lst ds) st := by
  unfold OkE OkA
  simp only [evalE, ok_bndL, ok_ifn, ok_some]
@[simp] theorem e_dic {ks : List Str} : OkE o (.dic ks es) env st Q ↔ OkA o es env st fun ds st => (decide (ks.length ≤ 15) && decide (ks.length = ds.length) && decide (ks.Nodup)) = true ∧ Q (.dic ks ds) st := by
  unfold OkE OkA
  simp only [evalE, ok_bndL, ok_ifn, ok_some]
@[simp] theorem e_dit0 : OkE o .dit0 env st Q ↔ Q (.dit [] []) st := by
  unfold OkE
  simp only [evalE, ok_some]
@[simp] theorem e_bin {op : Bin} : OkE o (.bin op a b) env st Q ↔ OkB o a env st fun x st => OkB o b env st fun y st => OkO (binD st op x y) fun d => Q d st := by
  unfold OkE OkB
  simp only [evalE, ok_bnd]
  refine ok_congr fun x st => ?_
  simp only [ok_bnd]
  refine ok_congr fun y st => ?_
  simp only [ok_mat]
@[simp] theorem e_neg : OkE o (.neg a) env st Q ↔ OkE o a env st fun x st => IsI x fun i => Q (.int (-i)) st := by
  unfold OkE
  simp only [evalE, ok_bnd]
  constructor
  · rintro ⟨d, st', e, h⟩
    refine ⟨d, st', e, ?_⟩
    split at h
    · exact ⟨_, rfl, ok_some.mp h⟩
    · exact (ok_none.mp h).elim
  · rintro ⟨d, st', e, i, rfl, h⟩
    exact ⟨_, st', e, ok_some.mpr h⟩
@[simp] theorem e_cmp {op : Cmp} : OkE o (.cmp op a b) env st Q ↔ OkB o a env st fun x st => OkB o b env st fun y st => OkO (cmpD st op x y) fun d => Q (.bl d) st := by
  unfold OkE OkB
  simp only [evalE, ok_bnd]
  refine ok_congr fun x st => ?_
  simp only [ok_bnd]
  refine ok_congr fun y st => ?_
  simp only [ok_matB]
@[simp] theorem e_cmp2 {op op' : Cmp} : OkE o (.cmp2 op op' a b c) env st Q ↔ OkE o a env st fun x st => OkE o b env st fun y st => OkO (cmpD st op x y) fun d => ByB (.bl d) (OkE o c env st fun z st => OkO (cmpD st op' y z) fun d' => Q (.bl d') st) (Q (.bl false) st) := by
  unfold OkE
  simp only [evalE, ok_bnd]
  refine ok_congr fun x st => ?_
  try simp only [ok_bnd]
  refine ok_congr fun y st => ?_
  cases cmpD st op x y with
  | none => exact ⟨fun h => (ok_none.mp h).elim, fun ⟨_, e, _⟩ => (by cases e)⟩
  | some d =>
    cases d with
    | true =>
      simp only [ok_bnd]
      refine (ok_congr fun z st => ok_matB).trans ?_
      exact ⟨fun h => ⟨true, rfl, byB_bl.mpr ⟨fun _ => h, fun z => (by cases z)⟩⟩, fun ⟨_, e, h⟩ => by cases e; exact (byB_bl.mp h).1 rfl⟩
    | false =>
      simp only [ok_some]
      exact ⟨fun h => ⟨false, rfl, byB_bl.mpr ⟨fun z => (by cases z), fun _ => h⟩⟩, fun ⟨_, e, h⟩ => by cases e; exact (byB_bl.mp h).2 rfl⟩
@[simp] theorem e_and : OkE o (.and a b) env st Q ↔ OkE o a env st fun x st => ByB x (OkE o b env st Q) (Q (.bl false) st) := by
  unfold OkE
  simp only [evalE, ok_bnd]
  refine ok_congr fun d st => ?_
  cases d with
  | bl c => cases c <;> simp [byB_bl, ok_some]
  | _ => exact ⟨fun h => (ok_none.mp h).elim, fun ⟨_, e, _⟩ => (by cases e)⟩
@[simp] theorem e_or : OkE o (.or a b) env st Q ↔ OkE o a env st fun x st => ByB x (Q (.bl true) st) (OkE o b env st Q) := by
  unfold OkE
  simp only [evalE, ok_bnd]
  refine ok_congr fun d st => ?_
  cases d with
  | bl c => cases c <;> simp [byB_bl, ok_some]
  | _ => exact ⟨fun h => (ok_none.mp h).elim, fun ⟨_, e, _⟩ => (by cases e)⟩
@[simp] theorem e_ite {t : CE} : OkE o (.ite t a b) env st Q ↔ OkE o t env st fun x st => ByB x (OkE o a env st Q) (OkE o b env st Q) := by
  unfold OkE
  simp only [evalE, ok_bnd]
  refine ok_congr fun d st => ?_
  cases d with
  | bl c => cases c <;> simp [byB_bl, ok_some]
  | _ => exact ⟨fun h => (ok_none.mp h).elim, fun ⟨_, e, _⟩ => (by cases e)⟩
@[simp] theorem e_not : OkE o (.not a) env st Q ↔ OkE o a env st fun x st => IsB x fun c => Q (.bl (!c)) st := by
  unfold OkE
  simp only [evalE, ok_bnd]
  constructor
  · rintro ⟨d, st', e, h⟩
    refine ⟨d, st', e, ?_⟩
    split at h
    · exact ⟨_, rfl, ok_some.mp h⟩
    · exact (ok_none.mp h).elim
  · rintro ⟨d, st', e, i, rfl, h⟩
    exact ⟨_, st', e, ok_some.mpr h⟩
@[simp] theorem e_call {f : Nat} : OkE o (.call f es) env st Q ↔ OkA o es env st fun ds st => Ok (o.call f ds st) Q := by
  unfold OkE OkA
  simp only [evalE, ok_bndL]
@[simp] theorem e_make {C : Str} {f : Nat} : OkE o (.make C f es) env st Q ↔ OkA o es env st fun ds st => Ok (o.make C f ds st) Q := by
  unfold OkE OkA
  simp only [evalE, ok_bndL]
/-- a method's call on x -/
def OkM (o : Orc) (m : Str) (x : D) (es : List CE) (env : Env) (st : Store) (Q : D → Store → Prop) (_t : Tag Q := .mk) : Prop := Ok (match rd st x with
    | .ins c ns vs => (match lookS m ns vs, o.mid c m with
      | none, some f => bndL (evalL o es env st) fun ds st => o.call f (x :: ds) st
      | _, _ => none)
    | _ => none) Q
@[simp] theorem e_meth {m : Str} {r : CE} : OkE o (.meth m r es) env st Q ↔ OkE o r env st fun x st => OkM o m x es env st Q := by
  unfold OkE OkM
  simp only [evalE, ok_bnd]
  all_goals
    refine ok_congr fun x st => ?_
    generalize rd st x = y
    cases y with
    | ins c ns vs =>
      dsimp only
      generalize lookS m ns vs = z
      generalize o.mid c m = w
      cases z <;> cases w <;> exact Iff.rfl
    | _ => exact Iff.rfl
theorem m_ins {m C : Str} {ns : List Str} {vs : List D} {f : Nat} (h1 : lookS m ns vs = none) (h2 : o.mid C m = some f) : OkM o m (.ins C ns vs) es env st Q ↔ OkA o es env st fun ds st => Ok (o.call f (.ins C ns vs :: ds) st) Q := by
  unfold OkM OkA
  simp only [rd, h1, h2, ok_bndL]
/-- a field of x -/
def OkAt (o : Orc) (f : Str) (x : D) (st : Store) (Q : D → Store → Prop) (_t : Tag Q := .mk) : Prop := Ok (match rd st x with
    | .ins c ns vs => if o.fld c f then (lookS f ns vs).map fun d => (Rs.ok d, st) else none
    | _ => none) Q
@[simp] theorem e_attr {f : Str} {r : CE} : OkE o (.attr r f) env st Q ↔ OkE o r env st fun x st => OkAt o f x st Q := by
  unfold OkE OkAt
  simp only [evalE, ok_bnd]
  all_goals
    refine ok_congr fun x st => ?_
    generalize rd st x = y
    cases y <;> exact Iff.rfl
@[simp] theorem at_ins {f C : Str} {ns : List Str} {vs : List D} : OkAt o f (.ins C ns vs) st Q ↔ o.fld C f = true ∧ OkO (lookS f ns vs) fun d => Q d st := by
  unfold OkAt
  simp only [rd, ok_ifn, ok_mat]
@[simp] theorem e_fn {f : Fn} (hf : f ≠ .len) : OkE o (.fn f a) env st Q ↔ OkB o a env st fun x st => OkO (fnD st f x) fun d => Q d st := by
  unfold OkE OkB
  simp only [evalE, ok_bnd]
  refine ok_congr fun x st => ?_
  cases f <;> first | exact absurd rfl hf | (cases x <;> exact ok_mat)
/-- len x -/
def OkLen (o : Orc) (st : Store) (x : D) (Q : D → Store → Prop) (_t : Tag Q := .mk) : Prop := Ok (match x with
    | .ins c ns vs => (match o.mid c "__len__" with
      | some f => (match o.low f [.ins c ns vs] st with
        | some (.ok (.int n), st) => if decide (0 ≤ n) && decide (n < 2 ^ 63) then some (.ok (.int n), st) else none
        | _ => none)
      | none => none)
    | x => (fnD st .len x).map fun d => (Rs.ok d, st)) Q
@[simp] theorem e_len : OkE o (.fn .len a) env st Q ↔ OkB o a env st fun x st => OkLen o st x Q := by
  unfold OkE OkB OkLen
  simp only [evalE, ok_bnd]
  refine ok_congr fun x st => ?_
  cases x <;> exact Iff.rfl
@[simp] theorem len_tup {ds : List D} : OkLen o st (.tup ds) Q ↔ Q (.int ds.length) st := by
  unfold OkLen
  simp only [fnD, rd, Option.map_some, ok_some]
@[simp] theorem len_lst {ds : List D} : OkLen o st (.lst ds) Q ↔ Q (.int ds.length) st := by
  unfold OkLen
  simp only [fnD, rd, Option.map_some, ok_some]
theorem len_ins {C : Str} {ns : List Str} {vs : List D} {f : Nat} {n : Int} {st' : Store} (h1 : o.mid C "__len__" = some f) (h2 : o.low f [.ins C ns vs] st = some (.ok (.int n), st')) (h3 : 0 ≤ n) (h4 : n < 2 ^ 63) : OkLen o st (.ins C ns vs) Q ↔ Q (.int n) st' := by
  unfold OkLen
  have h5 : (decide (0 ≤ n) && decide (n < 2 ^ 63)) = true := by simp [h3]; omega
  simp only [h1, h2, h5, if_true, ok_some]
theorem len_loc {l : Nat} {ds : List D} (h : st[l]? = some (.lst ds)) (q : Q (.int ds.length) st) : OkLen o st (.loc l) Q := by
  unfold OkLen
  simp only [fnD, rd, h, Option.getD_some, Option.map_some, ok_some]
  exact q
@[simp] theorem e_isi {t : Ty} : OkE o (.isi a t) env st Q ↔ OkE o a env st fun x st => OkO (isTy st t x) fun d => Q (.bl d) st := by
  unfold OkE
  simp only [evalE, ok_bnd]
  exact ok_congr fun x st => ok_matB
@[simp] theorem e_idx {r i : CE} : OkE o (.idx r i) env st Q ↔ OkB o r env st fun x st => OkE o i env st fun y st => OkO (idxD st x y) fun d => Q d st := by
  unfold OkE OkB
  simp only [evalE, ok_bnd]
  refine ok_congr fun x st => ?_
  simp only [ok_bnd]
  exact ok_congr fun y st => ok_mat
@[simp] theorem e_slc00 {r : CE} : OkE o (.slc r none none) env st Q ↔ OkB o r env st fun x st => OkO (slcD st x none none) fun d => Q d st := by
  unfold OkE OkB
  simp only [evalE, ok_bnd]
  exact ok_congr fun x st => ok_mat
@[simp] theorem e_slc10 {r i : CE} : OkE o (.slc r (some i) none) env st Q ↔ OkB o r env st fun x st => OkE o i env st fun y st => IsI y fun i => OkO (slcD st x (some i) none) fun d => Q d st := by
  unfold OkE OkB
  simp only [evalE, ok_bnd]
  refine ok_congr fun x st => ?_
  try simp only [ok_bnd]
  refine ok_congr fun y st => ?_
  cases y with
  | int i => exact ⟨fun h => ⟨i, rfl, ok_mat.mp h⟩, fun ⟨_, e, h⟩ => by cases e; exact ok_mat.mpr h⟩
  | _ => exact ⟨fun h => (ok_none.mp h).elim, fun ⟨_, e, _⟩ => (by cases e)⟩
@[simp] theorem e_slc01 {r i : CE} : OkE o (.slc r none (some i)) env st Q ↔ OkB o r env st fun x st => OkE o i env st fun y st => IsI y fun i => OkO (slcD st x none (some i)) fun d => Q d st := by
  unfold OkE OkB
  simp only [evalE, ok_bnd]
  refine ok_congr fun x st => ?_
  try simp only [ok_bnd]
  refine ok_congr fun y st => ?_
  cases y with
  | int i => exact ⟨fun h => ⟨i, rfl, ok_mat.mp h⟩, fun ⟨_, e, h⟩ => by cases e; exact ok_mat.mpr h⟩
  | _ => exact ⟨fun h => (ok_none.mp h).elim, fun ⟨_, e, _⟩ => (by cases e)⟩
@[simp] theorem e_rev {r : CE} : OkE o (.rev r) env st Q ↔ OkB o r env st fun x st => OkO (revD st x) fun d => Q d st := by
  unfold OkE OkB
  simp only [evalE, ok_bnd]
  exact ok_congr fun x st => ok_mat
theorem e_revl {r : CE} (h : OkB o r env st fun x st => ∃ ds, rd st x = .lst ds ∧ Q (.lst ds.reverse) st) : OkE o (.revl r) env st Q := by
  unfold OkB at h
  unfold OkE
  simp only [evalE, ok_bnd]
  refine h.mono fun x st => ?_
  rintro ⟨ds, h1, h2⟩
  simp only [h1]
  exact ok_some.mpr h2
@[simp] theorem e_rng1 : OkE o (.rng1 a) env st Q ↔ OkE o a env st fun x st => IsI x fun n => (smallI n && lineOk n.toNat) = true ∧ Q (.lst (rngD 0 n)) st := by
  unfold OkE
  simp only [evalE, ok_bnd]
  refine ok_congr fun x st => ?_
  cases x with
  | int n =>
    simp only [ok_ifn, ok_some]
    exact ⟨fun h => ⟨n, rfl, h⟩, fun ⟨_, e, h⟩ => by cases e; exact h⟩
  | _ => exact ⟨fun h => (ok_none.mp h).elim, fun ⟨_, e, _⟩ => (by cases e)⟩
@[simp] theorem e_rng2 : OkE o (.rng2 a b) env st Q ↔ OkE o a env st fun x st => OkE o b env st fun y st => ∃ i j, x = .int i ∧ y = .int j ∧ (smallI i && smallI j) = true ∧ Q (.lst (rngD i j)) st := by
  unfold OkE
  simp only [evalE, ok_bnd]
  refine ok_congr fun x st => ?_
  try simp only [ok_bnd]
  refine ok_congr fun y st => ?_
  constructor
  · intro h
    cases x with
    | int i =>
      cases y with
      | int j => exact ⟨i, j, rfl, rfl, (ok_ifn.mp h).1, ok_some.mp (ok_ifn.mp h).2⟩
      | _ => exact (ok_none.mp h).elim
    | _ => exact (ok_none.mp h).elim
  · rintro ⟨i, j, rfl, rfl, h⟩
    simp only [ok_ifn, ok_some]
    exact h
@[simp] theorem e_enum : OkE o (.enum a) env st Q ↔ OkE o a env st fun x st => ∃ ds, (x = .tup ds ∨ x = .lst ds) ∧ Q (.lst (enumD 0 ds)) st := by
  unfold OkE
  simp only [evalE, ok_bnd]
  refine ok_congr fun x st => ?_
  cases x with
  | tup ds => exact ⟨fun h => ⟨ds, .inl rfl, ok_some.mp h⟩, fun ⟨_, e, h⟩ => by rcases e with e | e <;> cases e; exact ok_some.mpr h⟩
  | lst ds => exact ⟨fun h => ⟨ds, .inr rfl, ok_some.mp h⟩, fun ⟨_, e, h⟩ => by rcases e with e | e <;> cases e; exact ok_some.mpr h⟩
  | _ => exact ⟨fun h => (ok_none.mp h).elim, fun ⟨_, e, _⟩ => by rcases e with e | e <;> cases e⟩
/-- two sequences side by side -/
def OkZip (x y : D) (st : Store) (Q : D → Store → Prop) (_t : Tag Q := .mk) : Prop := Ok (match x, y with
    | .tup ds, .tup es => some (.ok (.lst (zipD ds es)), st)
    | .lst ds, .lst es => some (.ok (.lst (zipD ds es)), st)
    | _, _ => none) Q
@[simp] theorem e_zip : OkE o (.zip a b) env st Q ↔ OkE o a env st fun x st => OkE o b env st fun y st => OkZip x y st Q := by
  unfold OkE OkZip
  simp only [evalE, ok_bnd]
  all_goals
    refine ok_congr fun x st => ?_
    try simp only [ok_bnd]
    all_goals
      refine ok_congr fun y st => ?_
      cases x <;> cases y <;> exact Iff.rfl
@[simp] theorem zip_tup {ds es : List D} : OkZip (.tup ds) (.tup es) st Q ↔ Q (.lst (zipD ds es)) st := by
  unfold OkZip
  exact ok_some
@[simp] theorem zip_lst {ds es : List D} : OkZip (.lst ds) (.lst es) st Q ↔ Q (.lst (zipD ds es)) st := by
  unfold OkZip
  exact ok_some
theorem e_mat (hf : fresh a = true) (h : OkE o a env st fun x st => ((∃ ds, x = .lst ds) ∨ (∃ ks ds, x = .dic ks ds) ∨ (∃ ks ds, x = .dit ks ds)) ∧ Q (.loc st.length) (st ++ [x])) : OkE o (.mat a) env st Q := by
  unfold OkE at h ⊢
  simp only [evalE, hf, if_true, ok_bnd]
  obtain ⟨x, st', e, h, q⟩ := h
  refine ⟨x, st', e, ?_⟩
  rcases h with ⟨ds, rfl⟩ | ⟨ks, ds, rfl⟩ | ⟨ks, ds, rfl⟩ <;> exact ok_some.mpr q
/-! comprehensions -/
theorem ok_comp {m : Option (List D × Store)} : Ok (m.bind fun (ds, st) => if lineOk ds.length then some (.ok (.lst ds), st) else none) Q ↔ OkC m fun ds st => lineOk ds.length = true ∧ Q (.lst ds) st := by
  cases m with
  | none => exact ⟨fun h => (ok_none.mp h).elim, fun ⟨_, _, e, _⟩ => (by cases e)⟩
  | some r =>
    obtain ⟨ds, st⟩ := r
    rw [okC_some]
    show Ok (if lineOk ds.length then some (.ok (.lst ds), st) else none) Q ↔ _
    rw [ok_ifn, ok_some]
/-- the comprehension's turns, by its source -/
def OkCp (el cd : Env → Store → Res) (tg : Tg) (env : Env) (src : D) (st : Store) (Q : List D → Store → Prop) (_t : Tag Q := .mk) : Prop := match src with
  | .loc l => OkC (compAt el cd tg env l whileFuel 0 st) Q
  | .lst xs => OkC (compL el cd tg env xs st) Q
  | .tup xs => OkC (compL el cd tg env xs st) Q
  | _ => False
@[simp] theorem e_comp {el it : CE} {tg : Tg} : OkE o (.comp el tg it none) env st Q ↔ OkB o it env st fun src st => OkCp (fun env st => evalE o el env st) (fun _ st => some (.ok (.bl true), st)) tg env src st fun ds st => lineOk ds.length = true ∧ Q (.lst ds) st := by
  unfold OkE OkB
  simp only [evalE, ok_bnd]
  refine ok_congr fun src st => ?_
  unfold compD OkCp
  cases src <;> first | exact ok_comp | exact ok_none
@[simp] theorem e_compc {el it c : CE} {tg : Tg} : OkE o (.comp el tg it (some c)) env st Q ↔ OkB o it env st fun src st => OkCp (fun env st => evalE o el env st) (fun env st => evalE o c env st) tg env src st fun ds st => lineOk ds.length = true ∧ Q (.lst ds) st := by
  unfold OkE OkB
  simp only [evalE, ok_bnd]
  refine ok_congr fun src st => ?_
  unfold compD OkCp
  cases src <;> first | exact ok_comp | exact ok_none
end
end DI
/-! DI: statements, loops, calls read by what they end in. -/
namespace DI
open PySem (Str PyData)
/-- the rest of a suite -/
def thenS (o : Orc) (ss : List CS) (Q : Fl → Env → Store → Prop) (fl : Fl) (env : Env) (st : Store) : Prop := match fl with
  | .nxt => OkS (execL o ss env st) Q
  | fl => Q fl env st
def OkX (o : Orc) (s : CS) (env : Env) (st : Store) (Q : Fl → Env → Store → Prop) (_t : Tag Q := .mk) : Prop := OkS (execS o s env st) Q
def OkXs (o : Orc) (ss : List CS) (env : Env) (st : Store) (Q : Fl → Env → Store → Prop) (_t : Tag Q := .mk) : Prop := OkS (execL o ss env st) Q
def ifB (d : D) (P R : Prop) (_t : Tag (P ∧ R) := .mk) : Prop := ByB d P R
/-- a list, by a look -/
def IsL (x : D) (Q : List D → Prop) (_t : Tag Q := .mk) : Prop := ∃ ds, x = .lst ds ∧ Q ds
theorem c_isL {x x' : D} {Q : List D → Prop} (h : x = x') : IsL x Q = IsL x' Q := by rw [h]
@[simp] theorem isL_lst {ds : List D} {Q : List D → Prop} : IsL (.lst ds) Q ↔ Q ds := ⟨fun ⟨_, e, q⟩ => by cases e; exact q, fun h => ⟨ds, rfl, h⟩⟩
def OkFor (o : Orc) (tg : Tg) (b : List CS) (src : D) (env : Env) (st : Store) (Q : Fl → Env → Store → Prop) (_t : Tag Q := .mk) : Prop := match src with
  | .loc l => OkS (forAt tg (fun env st => execL o b env st) l whileFuel 0 env st) Q
  | .lst xs => OkS (forL tg (fun env st => execL o b env st) xs env st) Q
  | .tup xs => OkS (forL tg (fun env st => execL o b env st) xs env st) Q
  | _ => False
def OkWhl (o : Orc) (t : CE) (b : List CS) (env : Env) (st : Store) (Q : Fl → Env → Store → Prop) (_t : Tag Q := .mk) : Prop := OkS (whileL (fun env st => evalE o t env st) (fun env st => execL o b env st) whileFuel env st) Q
/-- left alone by simp -/
def Box (p : Prop) (_t : Tag p := .mk) : Prop := p
theorem c_box {p : Prop} : Box p = Box p := rfl
/-! what is looked at first -/
section
variable {o : Orc} {e e' : CE} {env env' : Env} {st st' : Store} {Q : D → Store → Prop} {m m' : Res} {QL : List D → Store → Prop} {QS : Fl → Env → Store → Prop}
theorem c_ok (h : m = m') : Ok m Q = Ok m' Q := by rw [h]
theorem c_okE (h : e = e') (h1 : env = env') (h2 : st = st') : OkE o e env st Q = OkE o e' env' st' Q := by rw [h, h1, h2]
theorem c_okB (h : e = e') (h1 : env = env') (h2 : st = st') : OkB o e env st Q = OkB o e' env' st' Q := by rw [h, h1, h2]
theorem c_okA {es es' : List CE} (h : es = es') (h1 : env = env') (h2 : st = st') : OkA o es env st QL = OkA o es' env' st' QL := by rw [h, h1, h2]
theorem c_okX {s s' : CS} (h : s = s') (h1 : env = env') (h2 : st = st') : OkX o s env st QS = OkX o s' env' st' QS := by rw [h, h1, h2]
theorem c_okXs {s s' : List CS} (h : s = s') (h1 : env = env') (h2 : st = st') : OkXs o s env st QS = OkXs o s' env' st' QS := by rw [h, h1, h2]
theorem c_okLen {x x' : D} (h : x = x') (h2 : st = st') : OkLen o st x Q = OkLen o st' x' Q := by rw [h, h2]
theorem c_okM {mm : Str} {x x' : D} {es : List CE} (h : x = x') (h1 : env = env') (h2 : st = st') : OkM o mm x es env st Q = OkM o mm x' es env' st' Q := by rw [h, h1, h2]
theorem c_okAt {f : Str} {x x' : D} (h : x = x') (h2 : st = st') : OkAt o f x st Q = OkAt o f x' st' Q := by rw [h, h2]
theorem c_okZip {x x' y y' : D} (h : x = x') (h1 : y = y') (h2 : st = st') : OkZip x y st Q = OkZip x' y' st' Q := by rw [h, h1, h2]
theorem c_okFor {tg : Tg} {b : List CS} {x x' : D} (h : x = x') (h1 : env = env') (h2 : st = st') : OkFor o tg b x env st QS = OkFor o tg b x' env' st' QS := by rw [h, h1, h2]
theorem c_okCp {el cd : Env → Store → Res} {tg : Tg} {x x' : D} (h : x = x') (h1 : env = env') (h2 : st = st') : OkCp el cd tg env x st QL = OkCp el cd tg env' x' st' QL := by rw [h, h1, h2]
theorem c_okWhl {t : CE} {b : List CS} (h1 : env = env') (h2 : st = st') : OkWhl o t b env st QS = OkWhl o t b env' st' QS := by rw [h1, h2]
theorem c_byB {d d' : D} {P R : Prop} (h : d = d') : ByB d P R = ByB d' P R := by rw [h]
@[simp] theorem byB_t {P R : Prop} : ByB (.bl true) P R ↔ P := by simp [byB_bl]
@[simp] theorem byB_f {P R : Prop} : ByB (.bl false) P R ↔ R := by simp [byB_bl]
theorem c_ifB {d d' : D} {P R : Prop} (h : d = d') : ifB d P R = ifB d' P R := by rw [h]
theorem c_thenS {ss : List CS} {fl fl' : Fl} (h : fl = fl') (h1 : env = env') (h2 : st = st') : thenS o ss QS fl env st = thenS o ss QS fl' env' st' := by rw [h, h1, h2]
end
section
variable {o : Orc} {env : Env} {st : Store} {Q : Fl → Env → Store → Prop} {e a b : CE} {s : CS} {ss : List CS}
@[simp ↓] theorem then_nxt : thenS o ss Q .nxt env st ↔ OkXs o ss env st Q := Iff.rfl
@[simp ↓] theorem then_ret {d : D} : thenS o ss Q (.ret d) env st ↔ Q (.ret d) env st := Iff.rfl
@[simp ↓] theorem then_brk : thenS o ss Q .brk env st ↔ Q .brk env st := Iff.rfl
@[simp ↓] theorem then_cnt : thenS o ss Q .cnt env st ↔ Q .cnt env st := Iff.rfl
@[simp] theorem ifB_true {P R : Prop} : ifB (.bl true) P R ↔ P := by unfold ifB; simp [byB_bl]
@[simp] theorem ifB_false {P R : Prop} : ifB (.bl false) P R ↔ R := by unfold ifB; simp [byB_bl]
theorem ifB_bl {c : Bool} {P R : Prop} : ifB (.bl c) P R ↔ (c = true → P) ∧ (c = false → R) := byB_bl
@[simp] theorem l_nil : OkXs o [] env st Q ↔ Q .nxt env st := by
  unfold OkXs
  simp only [execL, okS_some]
  exact ⟨fun h => h.2, fun h => ⟨trivial, h⟩⟩
@[simp] theorem l_cons : OkXs o (s :: ss) env st Q ↔ OkX o s env st (thenS o ss Q) := by
  unfold OkXs OkX
  simp only [execL]
  cases execS o s env st with
  | none => exact ⟨fun ⟨_, _, _, e, _⟩ => (by cases e), fun ⟨_, _, _, e, _⟩ => (by cases e)⟩
  | some r =>
    obtain ⟨fl, e, st'⟩ := r
    cases fl with
    | nxt => exact ⟨fun h => okS_some.mpr ⟨trivial, h⟩, fun h => (okS_some.mp h).2⟩
    | _ => simp only [okS_some]; exact Iff.rfl
@[simp] theorem s_ret : OkX o (.ret e) env st Q ↔ OkE o e env st fun d st => Q (.ret d) env st := by
  unfold OkX OkE
  simp only [execS, okS_bS]
  exact ok_congr fun d st => okS_some.trans ⟨fun h => h.2, fun h => ⟨trivial, h⟩⟩
@[simp] theorem s_retN : OkX o .retN env st Q ↔ Q (.ret .non) env st := by
  unfold OkX
  simp only [execS, okS_some]
  exact ⟨fun h => h.2, fun h => ⟨trivial, h⟩⟩
theorem okO_congr {α : Type} {o : Option α} {P P' : α → Prop} (h : ∀ d, P d ↔ P' d) : OkO o P ↔ OkO o P' := ⟨fun ⟨d, e, q⟩ => ⟨d, e, (h d).mp q⟩, fun ⟨d, e, q⟩ => ⟨d, e, (h d).mpr q⟩⟩
theorem fine_nxt {P : Prop} : (Fl.fine .nxt ∧ P) ↔ P := ⟨fun h => h.2, fun h => ⟨trivial, h⟩⟩
@[simp] theorem s_asgF {i : Nat} : OkX o (.asg i false e) env st Q ↔ OkE o e env st fun d st => Q .nxt (env.set i (.val d)) st := by
  unfold OkX OkE
  simp only [execS, okS_bS, put?]
  exact ok_congr fun d st => by simp [okS_some, fine_nxt]
@[simp] theorem s_asgT {i : Nat} : OkX o (.asg i true e) env st Q ↔ OkE o e env st fun d st => (fresh e && ownable d) = true ∧ Q .nxt (env.set i (.own d)) st := by
  unfold OkX OkE
  simp only [execS, okS_bS, put?, if_true]
  refine ok_congr fun d st => ?_
  by_cases h : (fresh e && ownable d) = true
  · rw [if_pos h]; simp [okS_some, fine_nxt, h]
  · rw [if_neg h]; simp [okS_none, h]
@[simp] theorem s_asg2 {i j : Nat} {w p : Bool} : OkX o (.asg2 i w j p a b) env st Q ↔ OkE o a env st fun x st => OkE o b env st fun y st => OkO ((put? w a i x env).bind (put? p b j y)) fun env' => Q .nxt env' st := by
  unfold OkX OkE
  simp only [execS, okS_bS]
  refine ok_congr fun x st => ?_
  simp only [okS_bS]
  refine ok_congr fun y st => ?_
  simp only [okS_map]
  exact okO_congr fun e => okS_some.trans fine_nxt
@[simp] theorem s_ifs {A B : List CS} {t : CE} : OkX o (.ifs t A B) env st Q ↔ OkE o t env st fun d st => ifB d (OkXs o A env st Q) (OkXs o B env st Q) := by
  unfold OkX OkE OkXs ifB
  simp only [execS, okS_bS]
  refine ok_congr fun d st => ?_
  cases d with
  | bl c => cases c <;> simp [byB_bl]
  | _ => exact ⟨fun h => (okS_none.mp h).elim, fun ⟨_, e, _⟩ => (by cases e)⟩
@[simp] theorem s_for {tg : Tg} {it : CE} {B : List CS} : OkX o (.for_ tg it B) env st Q ↔ OkE o it env st fun src st => OkFor o tg B src env st Q := by
  unfold OkX OkE OkFor
  simp only [execS, okS_bS]
  refine ok_congr fun d st => ?_
  cases d <;> first | exact Iff.rfl | exact okS_none
@[simp] theorem s_whl {t : CE} {B : List CS} : OkX o (.whl t B) env st Q ↔ OkWhl o t B env st Q := by
  unfold OkX OkWhl
  simp only [execS]
@[simp] theorem s_expr : OkX o (.expr e) env st Q ↔ OkE o e env st fun _ st => Q .nxt env st := by
  unfold OkX OkE
  simp only [execS, okS_bS]
  exact ok_congr fun d st => okS_some.trans fine_nxt
theorem s_app {i : Nat} {ds : List D} (h : env[i]? = some (.own (.lst ds))) : OkX o (.app i e) env st Q ↔ OkE o e env st fun d st => lineOk (ds.length + 1) = true ∧ Q .nxt (env.set i (.own (.lst (ds ++ [d])))) st := by
  unfold OkX OkE
  simp only [execS, h, okS_bS]
  refine ok_congr fun d st => ?_
  simp only [okS_ifn, okS_some, fine_nxt]
theorem s_ext {i : Nat} {ds : List D} (h : env[i]? = some (.own (.lst ds))) : OkX o (.ext i e) env st Q ↔ OkB o e env st fun d st => IsL (rd st d) fun es => lineOk (ds.length + es.length) = true ∧ Q .nxt (env.set i (.own (.lst (ds ++ es)))) st := by
  unfold OkX OkB
  simp only [execS, h, okS_bS]
  refine ok_congr fun d st => ?_
  cases rd st d with
  | lst es =>
    simp only [okS_ifn, okS_some, fine_nxt]
    exact ⟨fun h => ⟨es, rfl, h⟩, fun ⟨_, e, h⟩ => by cases e; exact h⟩
  | _ => exact ⟨fun h => (okS_none.mp h).elim, fun ⟨_, e, _⟩ => (by cases e)⟩
theorem s_appPop {i j : Nat} {as ds : List D} (h : env[i]? = some (.own (.lst as))) (h2 : env[j]? = some (.own (.lst ds))) : OkX o (.appPop i j e) env st Q ↔ OkE o e env st fun d st => IsI d fun k => (smallI k && lineOk (as.length + 1) && decide (i ≠ j)) = true ∧ OkO (popL ds k) fun r => Q .nxt ((env.set j (.own (.lst r.2))).set i (.own (.lst (as ++ [r.1])))) st := by
  unfold OkX OkE
  simp only [execS, h, h2, okS_bS]
  refine ok_congr fun d st => ?_
  cases d with
  | int k =>
    simp only [okS_ifn, okS_map]
    refine (and_congr_right fun _ => okO_congr fun r => okS_some.trans fine_nxt).trans ?_
    exact ⟨fun h => ⟨k, rfl, h⟩, fun ⟨_, e, h⟩ => by cases e; exact h⟩
  | _ => exact ⟨fun h => (okS_none.mp h).elim, fun ⟨_, e, _⟩ => (by cases e)⟩
theorem s_pop {i j : Nat} {ds : List D} (h : env[i]? = some (.own (.lst ds))) : OkX o (.pop (some j) i (some e)) env st Q ↔ OkE o e env st fun d st => IsI d fun k => smallI k = true ∧ OkO (popL ds k) fun r => Q .nxt ((env.set i (.own (.lst r.2))).set j (.val r.1)) st := by
  unfold OkX OkE
  simp only [execS, h, okS_bS]
  refine ok_congr fun d st => ?_
  cases d with
  | int k =>
    simp only [okS_ifn, okS_map]
    refine (and_congr_right fun _ => okO_congr fun r => okS_some.trans fine_nxt).trans ?_
    exact ⟨fun h => ⟨k, rfl, h⟩, fun ⟨_, e, h⟩ => by cases e; exact h⟩
  | _ => exact ⟨fun h => (okS_none.mp h).elim, fun ⟨_, e, _⟩ => (by cases e)⟩
theorem s_put {i : Nat} {k v : CE} {c : D} (h : env[i]? = some (.own c)) : OkX o (.put i k v) env st Q ↔ OkE o v env st fun x st => OkE o k env st fun y st => OkO (putD c y x) fun c' => Q .nxt (env.set i (.own c')) st := by
  unfold OkX OkE
  simp only [execS, okS_bS]
  refine ok_congr fun x st => ?_
  simp only [h, okS_bS]
  refine ok_congr fun y st => ?_
  simp only [okS_map]
  exact okO_congr fun e => okS_some.trans fine_nxt
theorem s_lapp {r : CE} (h : OkE o r env st fun x st => ∃ l ds0, x = .loc l ∧ st[l]? = some (.lst ds0) ∧ OkE o e env st fun d st => ∃ ds, st[l]? = some (.lst ds) ∧ lineOk (ds.length + 1) = true ∧ Q .nxt env (st.set l (.lst (ds ++ [d])))) : OkX o (.lapp r e) env st Q := by
  unfold OkE at h
  unfold OkX
  simp only [execS, okS_bS]
  refine h.mono fun x st => ?_
  rintro ⟨l, ds0, rfl, h1, h2⟩
  simp only [h1, okS_bS]
  refine h2.mono fun d st => ?_
  rintro ⟨ds, h3, h4, h5⟩
  simp only [h3, okS_ifn, okS_some, fine_nxt]
  exact ⟨h4, h5⟩
theorem s_lpop {r : CE} {j : Nat} (h : OkE o r env st fun x st => ∃ l ds, x = .loc l ∧ st[l]? = some (.lst ds) ∧ OkO (popL ds (-1)) fun z => Q .nxt (env.set j (.val z.1)) (st.set l (.lst z.2))) : OkX o (.lpop (some j) r) env st Q := by
  unfold OkE at h
  unfold OkX
  simp only [execS, okS_bS]
  refine h.mono fun x st => ?_
  rintro ⟨l, ds0, rfl, h1, z, h2, h3⟩
  simp only [h1, h2, Option.map_some, okS_some, fine_nxt]
  exact h3
theorem s_lpop0 {r : CE} (h : OkE o r env st fun x st => ∃ l ds, x = .loc l ∧ st[l]? = some (.lst ds) ∧ OkO (popL ds (-1)) fun z => Q .nxt env (st.set l (.lst z.2))) : OkX o (.lpop none r) env st Q := by
  unfold OkE at h
  unfold OkX
  simp only [execS, okS_bS]
  refine h.mono fun x st => ?_
  rintro ⟨l, ds0, rfl, h1, z, h2, h3⟩
  simp only [h1, h2, Option.map_some, okS_some, fine_nxt]
  exact h3
@[simp] theorem s_lput {r k v : CE} : OkX o (.lput r k v) env st Q ↔ OkE o v env st fun d st => OkE o r env st fun x st => OkE o k env st fun y st => OkO ((lset st x fun c => putD c y d)) fun st' => Q .nxt env st' := by
  unfold OkX OkE
  simp only [execS, okS_bS]
  refine ok_congr fun x st => ?_
  simp only [okS_bS]
  refine ok_congr fun y st => ?_
  simp only [okS_bS]
  refine ok_congr fun z st => ?_
  simp only [okS_map]
  exact okO_congr fun e => okS_some.trans fine_nxt
@[simp] theorem s_sat {f : Str} {c : Str} {ns : List Str} {vs : List D} (h : env[0]? = some (.own (.ins c ns vs))) : OkX o (.sat f e) env st Q ↔ OkE o e env st fun d st => (decide (ns.length < 1000) && o.fld c f) = true ∧ Q .nxt (env.set 0 (.own (.ins c (putS f d ns vs).1 (putS f d ns vs).2))) st := by
  unfold OkX OkE
  simp only [execS, okS_bS]
  refine ok_congr fun d st => ?_
  simp only [h, okS_ifn, okS_some, fine_nxt]
@[simp] theorem s_frz {i : Nat} : OkX o (.frz i) env st Q ↔ Q .nxt (match env[i]? with
    | some (.own d) => env.set i (.val d)
    | _ => env) st := by
  unfold OkX
  simp only [execS]
  cases h : env[i]? with
  | none => simp only [okS_some, fine_nxt]
  | some v => cases v <;> simp only [okS_some, fine_nxt]
@[simp] theorem s_brk : OkX o .brk env st Q ↔ Q .brk env st := by
  unfold OkX
  simp only [execS, okS_some]
  exact ⟨fun h => h.2, fun h => ⟨trivial, h⟩⟩
@[simp] theorem s_cnt : OkX o .cnt env st Q ↔ Q .cnt env st := by
  unfold OkX
  simp only [execS, okS_some]
  exact ⟨fun h => h.2, fun h => ⟨trivial, h⟩⟩
@[simp] theorem s_pass : OkX o .pass env st Q ↔ Q .nxt env st := by
  unfold OkX
  simp only [execS, okS_some, fine_nxt]
/-- how a turn of a loop ends -/
def turn (I : Env → Store → Prop) (Q : Fl → Env → Store → Prop) (fl : Fl) (e : Env) (s : Store) : Prop := match fl with
  | .nxt => I e s
  | .cnt => I e s
  | .brk => Q .nxt e s
  | .ret d => Q (.ret d) e s
  | .ex _ _ _ => False
@[simp ↓] theorem turn_nxt {I Q} {e : Env} {s : Store} : turn I Q .nxt e s ↔ I e s := Iff.rfl
@[simp ↓] theorem turn_cnt {I Q} {e : Env} {s : Store} : turn I Q .cnt e s ↔ I e s := Iff.rfl
@[simp ↓] theorem turn_brk {I Q} {e : Env} {s : Store} : turn I Q .brk e s ↔ Q .nxt e s := Iff.rfl
@[simp ↓] theorem turn_ret {I Q} {d : D} {e : Env} {s : Store} : turn I Q (.ret d) e s ↔ Q (.ret d) e s := Iff.rfl
theorem forL_inv {tg : Tg} {B : List CS} (I : List D → Env → Store → Prop) (hs : ∀ x xs env st, I (x :: xs) env st → ∃ env1, tgSet tg x env = some env1 ∧ OkXs o B env1 st (turn (I xs) Q)) (he : ∀ env st, I [] env st → Q .nxt env st) :
    ∀ (xs : List D) (env : Env) (st : Store), I xs env st → OkS (forL tg (fun env st => execL o B env st) xs env st) Q
  | [], env, st, h => by
    simp only [forL, okS_some, fine_nxt]
    exact he env st h
  | x :: xs, env, st, h => by
    obtain ⟨env1, h1, h2⟩ := hs x xs env st h
    unfold OkXs at h2
    obtain ⟨fl, e, s, h3, h4, h5⟩ := h2
    simp only [forL, h1, h3]
    cases fl with
    | nxt => exact forL_inv I hs he xs e s h5
    | cnt => exact forL_inv I hs he xs e s h5
    | brk => exact okS_some.mpr ⟨trivial, h5⟩
    | ret d => exact okS_some.mpr ⟨trivial, h5⟩
    | ex _ _ _ => exact h4.elim
/-- a loop over a list or tuple -/
theorem for_inv {tg : Tg} {B : List CS} {xs : List D} (I : List D → Env → Store → Prop) (h0 : I xs env st) (hs : ∀ x xs env st, I (x :: xs) env st → ∃ env1, tgSet tg x env = some env1 ∧ OkXs o B env1 st (turn (I xs) Q)) (he : ∀ env st, I [] env st → Q .nxt env st) :
    OkFor o tg B (.lst xs) env st Q ∧ OkFor o tg B (.tup xs) env st Q := ⟨forL_inv I hs he xs env st h0, forL_inv I hs he xs env st h0⟩
theorem whl_inv {t : CE} {B : List CS} (I : Nat → Env → Store → Prop) (hs : ∀ n env st, I n env st → OkE o t env st fun d st => (d = .bl true ∧ ∃ m, n = m + 1 ∧ OkXs o B env st (turn (I m) Q)) ∨ (d = .bl false ∧ Q .nxt env st)) :
    ∀ (n : Nat) (k : Nat) (env : Env) (st : Store), I n env st → n < k → OkS (whileL (fun env st => evalE o t env st) (fun env st => execL o B env st) k env st) Q := by
  intro n
  induction n with
  | zero =>
    intro k env st h hk
    obtain ⟨j, rfl⟩ : ∃ j, k = j + 1 := ⟨k - 1, by omega⟩
    have := hs 0 env st h
    unfold OkE at this
    simp only [whileL, okS_bS]
    refine this.mono fun d st => ?_
    rintro (⟨rfl, m, e, _⟩ | ⟨rfl, q⟩)
    · cases e
    · exact okS_some.mpr ⟨trivial, q⟩
  | succ n ih =>
    intro k env st h hk
    obtain ⟨j, rfl⟩ : ∃ j, k = j + 1 := ⟨k - 1, by omega⟩
    have := hs (n + 1) env st h
    unfold OkE at this
    simp only [whileL, okS_bS]
    refine this.mono fun d st => ?_
    rintro (⟨rfl, m, e, q⟩ | ⟨rfl, q⟩)
    · have em : n = m := by omega
      subst em
      unfold OkXs at q
      obtain ⟨fl, e', s, h3, h4, h5⟩ := q
      simp only [h3]
      cases fl with
      | nxt => exact ih j e' s h5 (by omega)
      | cnt => exact ih j e' s h5 (by omega)
      | brk => exact okS_some.mpr ⟨trivial, h5⟩
      | ret d => exact okS_some.mpr ⟨trivial, h5⟩
      | ex _ _ _ => exact h4.elim
    · exact okS_some.mpr ⟨trivial, q⟩
end
/-! comprehensions over frozen items -/
section
variable {tg : Tg} {env : Env}
theorem compL_inv {el cd : Env → Store → Res} {Q : List D → Store → Prop} (I : List D → List D → Store → Prop)
    (hs : ∀ x xs acc st, I (x :: xs) acc st → ∃ env1, tgSet tg x env = some env1 ∧ Ok (cd env1 st) fun c st1 => (c = .bl true ∧ Ok (el env1 st1) fun d st2 => I xs (acc ++ [d]) st2) ∨ (c = .bl false ∧ I xs acc st1))
    (he : ∀ acc st, I [] acc st → Q acc st) : ∀ (xs acc : List D) (st : Store), I xs acc st → OkC (compL el cd tg env xs st) fun ds st => Q (acc ++ ds) st
  | [], acc, st, h => by
    simp only [compL, okC_some, List.append_nil]
    exact he acc st h
  | x :: xs, acc, st, h => by
    obtain ⟨env1, h1, c, st1, h2, h3⟩ := hs x xs acc st h
    rcases h3 with ⟨rfl, d, st2, h4, h5⟩ | ⟨rfl, h4⟩
    · obtain ⟨ds, st3, h6, h7⟩ := compL_inv I hs he xs (acc ++ [d]) st2 h5
      refine ⟨d :: ds, st3, ?_, by simpa using h7⟩
      simp only [compL, h1, h2, h4, h6]
    · obtain ⟨ds, st3, h6, h7⟩ := compL_inv I hs he xs acc st1 h4
      refine ⟨ds, st3, ?_, h7⟩
      simp only [compL, h1, h2, h6]
/-- nothing is changed -/
theorem compL_pure {el cd : Env → Store → Res} {Q : List D → Store → Prop} {st : Store} (p : D → Bool) (f : D → D) : ∀ (xs : List D),
    (∀ x ∈ xs, ∃ env1, tgSet tg x env = some env1 ∧ cd env1 st = some (.ok (.bl (p x)), st) ∧ (p x = true → el env1 st = some (.ok (f x), st))) → Q ((xs.filter p).map f) st → OkC (compL el cd tg env xs st) Q := by
  have key : ∀ (xs : List D), (∀ x ∈ xs, ∃ env1, tgSet tg x env = some env1 ∧ cd env1 st = some (.ok (.bl (p x)), st) ∧ (p x = true → el env1 st = some (.ok (f x), st))) → compL el cd tg env xs st = some ((xs.filter p).map f, st) := by
    intro xs
    induction xs with
    | nil => intro _; rfl
    | cons x xs ih =>
      intro h
      obtain ⟨env1, h1, h2, h3⟩ := h x List.mem_cons_self
      have hr := ih fun y hy => h y (List.mem_cons_of_mem _ hy)
      cases hp : p x with
      | true =>
        rw [hp] at h2
        simp only [compL, h1, h2, h3 hp, hr, List.filter_cons, hp, if_true, List.map_cons]
      | false =>
        rw [hp] at h2
        simp only [compL, h1, h2, hr, List.filter_cons, hp, Bool.false_eq_true, if_false]
  exact fun xs h q => by rw [key xs h, okC_some]; exact q
/-- a list of the store, looked at -/
theorem compAt_eq {el cd : Env → Store → Res} {st : Store} {l : Nat} {xs : List D} (hl : st[l]? = some (.lst xs)) (p : D → Bool) (f : D → D)
    (h : ∀ x ∈ xs, ∃ env1, tgSet tg x env = some env1 ∧ cd env1 st = some (.ok (.bl (p x)), st) ∧ (p x = true → el env1 st = some (.ok (f x), st))) :
    ∀ (n i : Nat), xs.length - i < n → compAt el cd tg env l n i st = some (((xs.drop i).filter p).map f, st)
  | 0, i, hn => absurd hn (Nat.not_lt_zero _)
  | n + 1, i, hn => by
    by_cases hi : i < xs.length
    · obtain ⟨env1, h1, h2, h3⟩ := h xs[i] (List.getElem_mem hi)
      have hr := compAt_eq hl p f h n (i + 1) (by omega)
      have hx : xs[i]? = some xs[i] := by simp [hi]
      rw [List.drop_eq_getElem_cons hi]
      cases hp : p xs[i] with
      | true =>
        rw [hp] at h2
        simp only [compAt, hl, hx, h1, h2, h3 hp, hr, List.filter_cons, hp, if_true, List.map_cons]
      | false =>
        rw [hp] at h2
        simp only [compAt, hl, hx, h1, h2, hr, List.filter_cons, hp, Bool.false_eq_true, if_false]
    · have hx : xs[i]? = none := by simp; omega
      rw [List.drop_eq_nil_of_le (by omega)]
      simp only [compAt, hl, hx, List.filter_nil, List.map_nil]
/-- .. over a list or a place of the store -/
theorem cp_pure {el cd : Env → Store → Res} {Q : List D → Store → Prop} {st : Store} {src : D} {xs : List D} (hs : seqOf st src = some xs) (hn : xs.length < whileFuel) (p : D → Bool) (f : D → D)
    (h : ∀ x ∈ xs, ∃ env1, tgSet tg x env = some env1 ∧ cd env1 st = some (.ok (.bl (p x)), st) ∧ (p x = true → el env1 st = some (.ok (f x), st))) (ht : ∀ l, src = .loc l → st[l]? = some (.lst xs)) (q : Q ((xs.filter p).map f) st) : OkCp el cd tg env src st Q := by
  unfold OkCp
  cases src with
  | loc l =>
    have := compAt_eq (ht l rfl) p f h whileFuel 0 (by omega)
    simp only [this, List.drop_zero, okC_some]
    exact q
  | lst ys =>
    have e : ys = xs := by simpa [seqOf, rd] using hs
    subst e
    exact compL_pure p f ys h q
  | tup ys =>
    have e : ys = xs := by simpa [seqOf, rd] using hs
    subst e
    exact compL_pure p f ys h q
  | _ => simp [seqOf, rd] at hs
end
section
variable {tg : Tg} {env : Env} {α : Type} {el cd : Env → Store → Res} {Q : List D → Store → Prop} {st : Store}
theorem compL_map (p : α → Bool) (g h : α → D) : ∀ (l : List α), (∀ a ∈ l, ∃ env1, tgSet tg (g a) env = some env1 ∧ cd env1 st = some (.ok (.bl (p a)), st) ∧ (p a = true → el env1 st = some (.ok (h a), st))) → compL el cd tg env (l.map g) st = some ((l.filter p).map h, st)
  | [], _ => rfl
  | a :: l, hh => by
    obtain ⟨env1, h1, h2, h3⟩ := hh a List.mem_cons_self
    have hr := compL_map p g h l fun b hb => hh b (List.mem_cons_of_mem _ hb)
    cases hp : p a with
    | true =>
      rw [hp] at h2
      simp only [List.map_cons, compL, h1, h2, h3 hp, hr, List.filter_cons, hp, if_true]
    | false =>
      rw [hp] at h2
      simp only [List.map_cons, compL, h1, h2, hr, List.filter_cons, hp, Bool.false_eq_true, if_false]
/-- a comprehension over values by a map -/
theorem cp_map {src : D} {l : List α} {g : α → D} (p : α → Bool) (h : α → D) (hs : src = .lst (l.map g) ∨ src = .tup (l.map g)) (hh : ∀ a ∈ l, ∃ env1, tgSet tg (g a) env = some env1 ∧ cd env1 st = some (.ok (.bl (p a)), st) ∧ (p a = true → el env1 st = some (.ok (h a), st)))
    (q : Q ((l.filter p).map h) st) : OkCp el cd tg env src st Q := by
  unfold OkCp
  rcases hs with rfl | rfl <;> simp only [compL_map p g h l hh, okC_some] <;> exact q
theorem cp_mapT {src : D} {l : List α} {g : α → D} (h : α → D) (hs : src = .lst (l.map g) ∨ src = .tup (l.map g)) (hh : ∀ a ∈ l, ∃ env1, tgSet tg (g a) env = some env1 ∧ el env1 st = some (.ok (h a), st))
    (q : Q (l.map h) st) : OkCp el (fun _ st => some (.ok (.bl true), st)) tg env src st Q := by
  refine cp_map (fun _ => true) h hs (fun a ha => ?_) (by rw [List.filter_eq_self.mpr fun _ _ => rfl]; exact q)
  obtain ⟨env1, h1, h2⟩ := hh a ha
  exact ⟨env1, h1, rfl, fun _ => h2⟩
theorem bools_map (f : α → Bool) : ∀ (l : List α), boolsOf (l.map fun a => D.bl (f a)) = some (l.map f)
  | [] => rfl
  | a :: l => by simp [boolsOf, bools_map f l]
theorem any_map (f : α → Bool) (l : List α) : fnD st .any (.lst (l.map fun a => D.bl (f a))) = some (.bl (l.any f)) := by
  simp [fnD, lstOf, rd, bools_map, List.any_map]
theorem all_map (f : α → Bool) (l : List α) : fnD st .all (.lst (l.map fun a => D.bl (f a))) = some (.bl (l.all f)) := by
  simp [fnD, lstOf, rd, bools_map, List.all_map]
theorem ok_eq {m : Res} {x : D} (h : Ok m fun d s => d = x ∧ s = st) : m = some (.ok x, st) := by
  obtain ⟨d, s, e, rfl, rfl⟩ := h
  exact e
theorem ev_of {o : Orc} {e : CE} {x : D} (h : OkE o e env st fun d s => d = x ∧ s = st) : evalE o e env st = some (.ok x, st) := ok_eq h
end
/-! calls -/
section
variable {T : List FD} {mid : Str → Str → Option Nat} {fld : Str → Str → Bool} {f : Nat} {fd : FD} {ds : List D} {st : Store} {Q : D → Store → Prop} {k : Nat}
theorem call_eq : (lev T mid fld (k + 2)).call = runF T (lev T mid fld (k + 1)) := by cases k <;> rfl
theorem low_eq : (lev T mid fld (k + 3)).low = runF T (lev T mid fld (k + 1)) := rfl
theorem make_eq : (lev T mid fld (k + 3)).make = runMk T (lev T mid fld (k + 1)) := rfl
@[simp] theorem lmid : (lev T mid fld k).mid = mid := by
  match k with
  | 0 => rfl
  | 1 => rfl
  | 2 => rfl
  | n + 3 => rfl
@[simp] theorem lfld : (lev T mid fld k).fld = fld := by
  match k with
  | 0 => rfl
  | 1 => rfl
  | 2 => rfl
  | n + 3 => rfl
/-- how a def ends -/
def fin (Q : D → Store → Prop) (fl : Fl) (_ : Env) (st : Store) : Prop := match fl with
  | .ret d => Q d st
  | .nxt => Q .non st
  | _ => False
@[simp ↓] theorem fin_ret {d : D} {e : Env} : fin Q (.ret d) e st ↔ Q d st := Iff.rfl
@[simp ↓] theorem fin_nxt {e : Env} : fin Q .nxt e st ↔ Q .non st := Iff.rfl
theorem run_ok {o : Orc} (hT : T[f]? = some fd) (hp : fd.prim = none) (hl : ds.length = fd.np) (h : OkXs o fd.body (start fd ds) st (fin Q)) : Ok (runF T o f ds st) Q := by
  unfold OkXs at h
  obtain ⟨fl, e, s, h1, h2, h3⟩ := h
  unfold runF
  simp only [hT, hl, if_true, hp, h1]
  cases fl with
  | ret d => exact ok_some.mpr h3
  | nxt => exact ok_some.mpr h3
  | ex _ _ _ => exact h2.elim
  | _ => exact h3.elim
theorem call_ok (hk : 2 ≤ k) (hT : T[f]? = some fd) (hp : fd.prim = none) (hl : ds.length = fd.np) (h : ∀ j, k = j + 1 → OkXs (lev T mid fld j) fd.body (start fd ds) st (fin Q)) : Ok ((lev T mid fld k).call f ds st) Q := by
  obtain ⟨j, rfl⟩ : ∃ j, k = j + 2 := ⟨k - 2, by omega⟩
  rw [call_eq]
  exact run_ok hT hp hl (h (j + 1) rfl)
end
end DI
set_option maxHeartbeats 0
namespace G78
open PySem PySem.Spec PyProof.Rows L2 C8 DI
def top (i : Nat) : Stmt := PySem.Challenge.pw_offerstands_k78_the_gate.main.body.getD i (.Pass ⟨0, 0, 0, 0⟩)
def mth (i j : Nat) : Stmt := (clsBody (top i)).getD j (.Pass ⟨0, 0, 0, 0⟩)
def dF (i : Nat) (x : Str) : He.DefD := ⟨(x, none), x, x, fnArgs (top i), fnBody (top i), fnScope (top i), [], []⟩
def dM (i j : Nat) (c m q : Str) : He.DefD := ⟨(c, some m), m, q, fnArgs (mth i j), fnBody (mth i j), fnScope (mth i j), [], []⟩
/-- the first statement of _law_others_right, its lambdas -/
def csO : List CS := [.asg 3 false (.bin .add (.tup [.call 19 [.bin .add (.idx (.var 0) (.con (.str "offers"))) (.con (.int 1)), .lst [.lst [.con (.int 0)]]]]) (.slc (.var 2) (some (.con (.int 1))) none))]
def cesO : List CE := [.call 10 [.idx (.var 0) (.con (.str "room")), .var 1, .var 3], .call 9 [.idx (.var 0) (.con (.str "room")), .var 3, .var 1], .call 12 [.idx (.var 0) (.con (.str "room")), .var 1, .var 3, .con .non], .call 12 [.idx (.var 0) (.con (.str "room")), .var 3, .var 2, .tup []]]
def prOthers : Orc → List D → Store → Res := prOth 3 6 4 "OtherOffers" csO cesO
def prNone : Orc → List D → Store → Res := fun _ _ _ => none
/-! tables: printed by gen2.py -/
def h0 : Hint := { N := ["thing"], own := [], frz := [], mat := [], dit := [], lam := false }  -- is_whole
def h1 : Hint := { N := ["offers", "thing", "before", "one"], own := [], frz := [], mat := [], dit := [], lam := false }  -- is_set
def h2 : Hint := { N := ["offers", "found", "rows", "size", "row", "one"], own := [1], frz := [], mat := [], dit := [], lam := false }  -- all_sets
def h3 : Hint := { N := ["things", "thing"], own := [], frz := [], mat := [], dit := [], lam := false }  -- same_offers
def h4 : Hint := { N := ["part", "some", "one"], own := [], frz := [], mat := [], dit := [], lam := false }  -- chooser_is_part
def h5 : Hint := { N := ["self", "offers", "picks", "sets", "table", "number", "some", "pick"], own := [4], frz := [(81, [4])], mat := [], dit := [(73, 16)], lam := false }  -- Chooser.__init__
def h6 : Hint := { N := ["self"], own := [], frz := [], mat := [], dit := [], lam := false }  -- Chooser.__len__
def h7 : Hint := { N := ["self", "some"], own := [], frz := [], mat := [], dit := [], lam := false }  -- Chooser.taken
def h8 : Hint := { N := ["before", "after", "some", "one", "other"], own := [], frz := [], mat := [], dit := [], lam := false }  -- gate_parts
def h9 : Hint := { N := ["room", "before", "after", "some", "offer"], own := [], frz := [], mat := [], dit := [], lam := false }  -- first_shown
def h10 : Hint := { N := ["room", "before", "after"], own := [], frz := [], mat := [], dit := [], lam := false }  -- is_shown
def h11 : Hint := { N := ["offers", "thing"], own := [], frz := [], mat := [], dit := [], lam := false }  -- gate_comes
def h12 : Hint := { N := ["room", "before", "after", "thing", "offers", "deed", "came", "some", "offer"], own := [], frz := [], mat := [], dit := [], lam := false }  -- shown_holds
def h13 : Hint := { N := ["_law_script", "_law_mixed", "_law_cell"], own := [], frz := [], mat := [(143, 11, 82), (143, 20, 48)], dit := [], lam := false }  -- _law_deck
def h14 : Hint := { N := ["_law_deck_here", "_law_many", "_law_figure", "_law_cell"], own := [], frz := [], mat := [], dit := [], lam := false }  -- _law_draw
def h15 : Hint := { N := ["_law_deck_here", "_law_some"], own := [], frz := [], mat := [], dit := [], lam := false }  -- _law_pick
def h16 : Hint := { N := ["_law_offers", "_law_found", "_law_number", "_law_x"], own := [1], frz := [], mat := [], dit := [], lam := true }  -- _law_sets
def h17 : Hint := { N := ["_law_deck_here", "_law_offers", "_law_found", "_law_go", "_law_left", "_law_row", "_law_step"], own := [2, 4, 5], frz := [(169, [5]), (170, [2])], mat := [], dit := [], lam := false }  -- _law_lists
def h18 : Hint := { N := ["_law_lists_here", "_law_some", "_law_found", "_law_row", "_law_there", "_law_x"], own := [2], frz := [], mat := [], dit := [], lam := false }  -- _law_taken
def h19 : Hint := { N := ["_law_offers", "_law_lists_here", "_law_some"], own := [], frz := [], mat := [], dit := [], lam := false }  -- _law_code
def h20 : Hint := { N := ["_law_deck_here", "_law_offers", "_law_before", "_law_go", "_law_after", "_law_lists_here", "_law_other", "_law_row", "_law_way", "_law_at"], own := [4], frz := [(196, [4])], mat := [(184, 22, 36)], dit := [], lam := false }  -- _law_world
def h21 : Hint := { N := ["_law_w", "_law_some", "_law_near", "_law_far"], own := [], frz := [], mat := [], dit := [], lam := false }  -- _law_is_unlike
def h22 : Hint := { N := ["_law_w", "_law_thing", "_law_there", "_law_deed", "_law_some", "_law_x"], own := [2], frz := [], mat := [], dit := [], lam := false }  -- _law_is_one
def h23 : Hint := { N := ["_law_deck_here", "_law_w", "_law_some", "_law_left", "_law_found", "_law_x"], own := [4, 3], frz := [], mat := [], dit := [], lam := false }  -- _law_comings
def h24 : Hint := { N := ["_law_deck_here", "_law_w", "_law_some", "_law_stream", "_law_found", "_law_at", "_law_odd", "_law_go"], own := [4], frz := [], mat := [], dit := [], lam := false }  -- _law_things
def h25 : Hint := { N := ["_law_w", "_law_before", "_law_after", "_law_other", "_law_calls", "_law_call"], own := [4], frz := [], mat := [], dit := [], lam := false }  -- _law_others_right
def h26 : Hint := { N := ["_law_script", "_law_deck_here", "_law_w", "_law_before", "_law_lists_here", "_law_after", "_law_some", "_law_one", "_law_due", "_law_x", "_law_things_here", "_law_thing"], own := [], frz := [], mat := [], dit := [], lam := false }  -- law
def h27 : Hint := { N := ["_law_call"], own := [], frz := [], mat := [], dit := [], lam := false }  -- _law_refuses
def hints : List Hint := [h0, h1, h2, h3, h4, h5, h6, h7, h8, h9, h10, h11, h12, h13, h14, h15, h16, h17, h18, h19, h20, h21, h22, h23, h24, h25, h26, h27]
def fnsL0 : List (Str × Option Str) := [("is_whole", none), ("is_set", none), ("all_sets", none), ("same_offers", none), ("chooser_is_part", none), ("Chooser", some "__init__"), ("Chooser", some "__len__"), ("Chooser", some "taken"), ("gate_parts", none), ("first_shown", none), ("is_shown", none), ("gate_comes", none)]
def fnsL1 : List (Str × Option Str) := [("shown_holds", none), ("_law_deck", none), ("_law_draw", none), ("_law_pick", none), ("_law_sets", none), ("_law_lists", none), ("_law_taken", none), ("_law_code", none), ("_law_world", none), ("_law_is_unlike", none), ("_law_is_one", none), ("_law_comings", none)]
def fnsL2 : List (Str × Option Str) := [("_law_things", none), ("_law_others_right", none), ("law", none), ("_law_refuses", none)]
def fnsL : List (Str × Option Str) := fnsL0 ++ fnsL1 ++ fnsL2
def psL0 : List (List Str) := [["thing"], ["offers", "thing"], ["offers"], ["things"], ["part", "some"], ["self", "offers", "picks"], ["self"], ["self", "some"], ["before", "after", "some"], ["room", "before", "after"], ["room", "before", "after"], ["offers", "thing"]]
def psL1 : List (List Str) := [["room", "before", "after", "thing"], ["_law_script"], ["_law_deck_here", "_law_many"], ["_law_deck_here", "_law_some"], ["_law_offers"], ["_law_deck_here", "_law_offers"], ["_law_lists_here", "_law_some"], ["_law_offers", "_law_lists_here"], ["_law_deck_here"], ["_law_w", "_law_some"], ["_law_w", "_law_thing"], ["_law_deck_here", "_law_w", "_law_some"]]
def psL2 : List (List Str) := [["_law_deck_here", "_law_w"], ["_law_w", "_law_before", "_law_after"], ["_law_script"], ["_law_call"]]
def psL : List (List Str) := psL0 ++ psL1 ++ psL2
def SI0 : SI := { fns := fnsL,  cls := [("Chooser", 5)],  cons := [("CHOOSER_MOST", D.int 6)],  ps := psL,  eflds := [("OtherOffers", [])] }
def dfs0 : List He.DefD := [dF 8 "is_whole", dF 9 "is_set", dF 10 "all_sets", dF 12 "same_offers", dF 16 "chooser_is_part", dM 17 0 "Chooser" "__init__" "Chooser.__init__", dM 17 1 "Chooser" "__len__" "Chooser.__len__", dM 17 5 "Chooser" "taken" "Chooser.taken", dF 19 "gate_parts", dF 20 "first_shown", dF 21 "is_shown", dF 22 "gate_comes"]
def dfs1 : List He.DefD := [dF 23 "shown_holds", dF 25 "_law_deck", dF 26 "_law_draw", dF 27 "_law_pick", dF 28 "_law_sets", dF 29 "_law_lists", dF 30 "_law_taken", dF 31 "_law_code", dF 32 "_law_world", dF 33 "_law_is_unlike", dF 34 "_law_is_one", dF 35 "_law_comings"]
def dfs2 : List He.DefD := [dF 36 "_law_things", dF 38 "_law_others_right", dF 39 "law", dF 37 "_law_refuses"]
def dfs : List He.DefD := dfs0 ++ dfs1 ++ dfs2
def primF (k : Nat) : Option (Orc → List D → Store → Res) := if k = 25 then some prOthers else if k = 27 then some prNone else none
def tx : Txt where
  P := PySem.Challenge.pw_offerstands_k78_the_gate
  S := SI0
  dfs := dfs
  hs := hints
  prim := primF
  mids := [("Chooser", "taken"), ("Chooser", "__len__")]
  flds := [("Chooser", "offers"), ("Chooser", "picks"), ("Chooser", "table"), ("Chooser", "places")]
  tf := [("_law_sets", none), ("_law_others_right", none)]
  exs := [("OtherOffers", fnArgs (mth 2 0), fnBody (mth 2 0), fnScope (mth 2 0))]
-- law: index [26] top [39] body 40
def loose0 : List Str := ["OfferError", "OtherOffers", "BadText", "BadChooser", "BadSet", "CHOOSER_MOST", "is_whole", "is_set", "all_sets", "subsets_of", "same_offers", "chooser_line", "chooser_head", "chooser_part", "chooser_is_part"]
def loose1 : List Str := ["Chooser", "gate_parts", "first_shown", "is_shown", "gate_comes", "shown_holds", "_law_deck", "_law_draw", "_law_pick", "_law_sets", "_law_lists", "_law_taken", "_law_code", "_law_world", "_law_is_unlike"]
def loose2 : List Str := ["_law_is_one", "_law_comings", "_law_things", "_law_refuses", "_law_others_right"]
def loose : List Str := loose0 ++ loose1 ++ loose2

end G78
set_option maxHeartbeats 0
namespace G78
open PySem PySem.Spec PyProof.Rows L2 C8 DI
theorem tx_ok : tx.ok = true := by kernel_rfl
abbrev R : PySem.W.OpenRow := PySem.W.OpenLaw.row PySem.Challenge.rw_offerstands_k78_the_gate
abbrev hk : PySem.W.Hook := tx.hook 5
def ob (s : PySem.W.SharedT) : Txt.AlY := tx.obsY 5 (HandSHeadRun.getT s)
theorem ob_eq (s : PySem.W.SharedT) : ob s = hk.obs s.abs := tx.obsY_eq (HandSHeadRun.getT_eq s)
theorem run (w : World) : HandSHeadRun.RunEq R (PySem.W.view R.prog [39]) hk ob 4000 loose w := by
  intro os
  kernel_rfl
end G78
namespace G78
open PySem (Str)
open DI
def b0 : List CS := [.ret (.and (.isi (.var 0) .int) (.not (.isi (.var 0) .bool)))]
theorem t0 : tx.T[0]? = some ⟨1, 1, b0, none⟩ := by kernel_rfl
def b1_0 : List CS := [.ifs (.or (.not (.call 0 [(.var 3)])) (.not (.cmp2 .lt .lt (.var 2) (.var 3) (.var 0)))) [.ret (.con (.bl false))] [], .asg 2 false (.var 3)]
def b1 : List CS := [.ifs (.not (.isi (.var 1) .tuple)) [.ret (.con (.bl false))] [], .asg 2 false (.neg (.con (.int 1))), .for_ (.var 3) (.var 1) b1_0, .ret (.con (.bl true))]
theorem t1 : tx.T[1]? = some ⟨2, 4, b1, none⟩ := by kernel_rfl
def b2_0 : CE := (.bin .add (.var 4) (.tup [(.var 5)]))
def b2_1 : CE := (.rng2 (.ite (.cmp .ne (.var 4) (.tup [])) (.bin .add (.idx (.var 4) (.neg (.con (.int 1)))) (.con (.int 1))) (.con (.int 0))) (.var 0))
def b2_2 : List CS := [.asg 2 false (.comp2 b2_0 4 (.var 2) 5 b2_1), .ext 1 (.var 2)]
def b2 : List CS := [.asg2 1 true 2 false (.lst [(.tup [])]) (.lst [(.tup [])]), .for_ (.var 3) (.rng1 (.var 0)) b2_2, .ret (.fn .tuple (.var 1))]
theorem t2 : tx.T[2]? = some ⟨1, 6, b2, none⟩ := by kernel_rfl
def b3_0 : List CS := [.ifs (.cmp .ne (.fn .len (.var 1)) (.fn .len (.idx (.var 0) (.con (.int 0))))) [.rse "OtherOffers" [] []] []]
def b3 : List CS := [.for_ (.var 1) (.var 0) b3_0]
theorem t3 : tx.T[3]? = some ⟨1, 2, b3, none⟩ := by kernel_rfl
def b4_0 : List CS := [.ifs (.cmp .notin (.var 2) (.var 1)) [.ret (.con (.bl false))] []]
def b4 : List CS := [.for_ (.var 2) (.var 0) b4_0, .ret (.con (.bl true))]
theorem t4 : tx.T[4]? = some ⟨2, 3, b4, none⟩ := by kernel_rfl
def b5_0 : List CS := [.asg 7 false (.idx (.var 2) (.var 5)), .ifs (.or (.not (.call 1 [(.var 1), (.var 7)])) (.not (.call 4 [(.var 7), (.var 6)]))) [.die] [], .put 4 (.var 6) (.var 7)]
def b5 : List CS := [.ifs (.or (.not (.call 0 [(.var 1)])) (.not (.cmp2 .le .le (.con (.int 1)) (.var 1) (.con (.int 6))))) [.die] [], .asg 3 false (.call 2 [(.var 1)]), .ifs (.or (.not (.isi (.var 2) .tuple)) (.cmp .ne (.fn .len (.var 2)) (.fn .len (.var 3)))) [.die] [], .asg 4 true (.dit0), .for_ (.pair 5 6) (.enum (.var 3)) b5_0, .sat "offers" (.var 1), .sat "picks" (.var 2), .frz 4, .sat "table" (.var 4), .sat "places" (.fn .tuple (.rng1 (.var 1)))]
theorem t5 : tx.T[5]? = some ⟨3, 8, b5, none⟩ := by kernel_rfl
def b6 : List CS := [.ret (.fn .len (.attr (.var 0) "places"))]
theorem t6 : tx.T[6]? = some ⟨1, 1, b6, none⟩ := by kernel_rfl
def b7 : List CS := [.ifs (.not (.call 1 [(.attr (.var 0) "offers"), (.var 1)])) [.die] [], .ret (.idx (.attr (.var 0) "table") (.var 1))]
theorem t7 : tx.T[7]? = some ⟨2, 2, b7, none⟩ := by kernel_rfl
def b8_0 : CE := (.cmp .ne (.meth "taken" (.var 3) [(.var 2)]) (.meth "taken" (.var 4) [(.var 2)]))
def b8 : List CS := [.ret (.fn .any (.comp b8_0 (.pair 3 4) (.zip (.var 0) (.var 1)) none))]
theorem t8 : tx.T[8]? = some ⟨3, 5, b8, none⟩ := by kernel_rfl
def b9_0 : CE := (.tup [(.con (.str "come")), (.var 4)])
def b9_1 : List CS := [.ifs (.and (.cmp .le (.fn .len (.var 3)) (.var 0)) (.call 8 [(.var 1), (.var 2), (.var 3)])) [.ret (.fn .tuple (.comp b9_0 (.var 4) (.var 3) none))] []]
def b9 : List CS := [.expr (.call 3 [(.bin .add (.fn .list (.var 1)) (.fn .list (.var 2)))]), .for_ (.var 3) (.call 2 [(.fn .len (.idx (.var 1) (.con (.int 0))))]) b9_1, .ret (.con (.non))]
theorem t9 : tx.T[9]? = some ⟨3, 5, b9, none⟩ := by kernel_rfl
def b10 : List CS := [.ret (.cmp .notN (.call 9 [(.var 0), (.var 1), (.var 2)]) (.con (.non)))]
theorem t10 : tx.T[10]? = some ⟨3, 3, b10, none⟩ := by kernel_rfl
def b11 : List CS := [.ifs (.or (.not (.isi (.var 1) .tuple)) (.or (.cmp .ne (.fn .len (.var 1)) (.con (.int 2))) (.not (.isi (.idx (.var 1) (.con (.int 0))) .str)))) [.ret (.con (.bl false))] [], .ret (.and (.cmp .eq (.idx (.var 1) (.con (.int 0))) (.con (.str "come"))) (.and (.call 0 [(.idx (.var 1) (.con (.int 1)))]) (.cmp2 .le .lt (.con (.int 0)) (.idx (.var 1) (.con (.int 1))) (.var 0))))]
theorem t11 : tx.T[11]? = some ⟨2, 2, b11, none⟩ := by kernel_rfl
def b12_0 : CE := (.call 11 [(.var 4), (.var 5)])
def b12_1 : CE := (.idx (.var 5) (.con (.int 1)))
def b12_2 : CE := (.var 8)
def b12_3 : CE := (.cmp .in_ (.var 8) (.var 6))
def b12 : List CS := [.expr (.call 3 [(.bin .add (.fn .list (.var 1)) (.fn .list (.var 2)))]), .asg 4 false (.fn .len (.idx (.var 1) (.con (.int 0)))), .ifs (.or (.not (.isi (.var 3) .tuple)) (.not (.fn .all (.comp b12_0 (.var 5) (.var 3) none)))) [.ret (.con (.bl false))] [], .asg 6 false (.comp b12_1 (.var 5) (.var 3) none), .asg 7 false (.fn .tuple (.comp b12_2 (.var 8) (.rng1 (.var 4)) (some b12_3))), .ret (.and (.cmp .le (.fn .len (.var 7)) (.var 0)) (.call 8 [(.var 1), (.var 2), (.var 7)]))]
theorem t12 : tx.T[12]? = some ⟨4, 9, b12, none⟩ := by kernel_rfl
def b13_0 : List CS := [.asg 1 false (.bin .mod (.fn .int (.bin .add (.bin .add (.bin .mul (.var 1) (.con (.int 48271))) (.bin .mod (.fn .int (.var 2)) (.con (.int 2147483629)))) (.con (.int 78)))) (.con (.int 2147483587)))]
def b13 : List CS := [.asg 1 false (.con (.int 1087278)), .for_ (.var 2) (.slc (.var 0) none (some (.con (.int 63)))) b13_0, .ret (.mat (.dic ["left", "mixed", "draws"] [(.mat (.revl (.fn .list (.slc (.var 0) none (some (.con (.int 63))))))), (.var 1), (.con (.int 0))]))]
theorem t13 : tx.T[13]? = some ⟨1, 3, b13, none⟩ := by kernel_rfl
def b14 : List CS := [.lput (.var 0) (.con (.str "draws")) (.bin .add (.idx (.var 0) (.con (.str "draws"))) (.con (.int 1))), .asg 2 false (.bin .add (.idx (.var 0) (.con (.str "mixed"))) (.bin .mul (.con (.int 61129)) (.idx (.var 0) (.con (.str "draws"))))), .ifs (.cmp .ne (.idx (.var 0) (.con (.str "left"))) (.lst [])) [.lpop (some 3) (.idx (.var 0) (.con (.str "left"))), .ifs (.cmp .ge (.var 3) (.bin .pow (.con (.int 10)) (.con (.int 18)))) [.lapp (.idx (.var 0) (.con (.str "left"))) (.bin .fdiv (.var 3) (.var 1)), .ret (.fn .int (.bin .mod (.var 3) (.var 1)))] [], .asg 2 false (.bin .add (.var 2) (.bin .mod (.fn .int (.var 3)) (.con (.int 2147483629))))] [], .asg 2 false (.bin .mod (.fn .int (.bin .add (.bin .mul (.var 2) (.con (.int 39373))) (.con (.int 78)))) (.con (.int 2147483647))), .asg 2 false (.bin .mod (.fn .int (.bin .add (.bin .add (.bin .mul (.var 2) (.var 2)) (.bin .mul (.con (.int 52711)) (.idx (.var 0) (.con (.str "draws"))))) (.con (.int 78)))) (.con (.int 2147483587))), .ret (.fn .int (.bin .mod (.bin .fdiv (.bin .mod (.bin .mul (.var 2) (.con (.int 40692))) (.con (.int 2147483563))) (.con (.int 64))) (.var 1)))]
theorem t14 : tx.T[14]? = some ⟨2, 4, b14, none⟩ := by kernel_rfl
def b15 : List CS := [.ret (.idx (.var 1) (.call 14 [(.var 0), (.fn .len (.var 1))]))]
theorem t15 : tx.T[15]? = some ⟨2, 2, b15, none⟩ := by kernel_rfl
def b16_0 : CE := (.var 3)
def b16_1 : CE := (.cmp .eq (.bin .band (.bin .shr (.var 2) (.var 3)) (.con (.int 1))) (.con (.int 1)))
def b16_2 : List CS := [.app 1 (.fn .tuple (.comp b16_0 (.var 3) (.rng1 (.var 0)) (some b16_1)))]
def b16 : List CS := [.asg 1 true (.lst []), .for_ (.var 2) (.rng1 (.bin .shl (.con (.int 1)) (.var 0))) b16_2, .ret (.fn .sortedLen (.var 1))]
theorem t16 : tx.T[16]? = some ⟨1, 4, b16, none⟩ := by kernel_rfl
def b17_0 : List CS := [.appPop 5 4 (.call 14 [(.var 0), (.fn .len (.var 4))])]
def b17_1 : List CS := [.asg2 4 true 5 true (.fn .list (.rng1 (.var 1))) (.lst []), .for_ (.var 6) (.rng1 (.call 15 [(.var 0), (.lst [(.var 1), (.var 1), (.bin .sub (.var 1) (.con (.int 1))), (.con (.int 1))])])) b17_0, .frz 5, .app 2 (.var 5)]
def b17 : List CS := [.asg 2 true (.lst []), .for_ (.var 3) (.rng1 (.call 15 [(.var 0), (.lst [(.con (.int 1)), (.con (.int 2)), (.con (.int 2)), (.con (.int 3)), (.con (.int 0))])])) b17_1, .frz 2, .ret (.var 2)]
theorem t17 : tx.T[17]? = some ⟨2, 7, b17, none⟩ := by kernel_rfl
def b18_0 : CE := (.var 5)
def b18_1 : CE := (.cmp .in_ (.var 5) (.var 1))
def b18_2 : List CS := [.asg 4 false (.comp b18_0 (.var 5) (.var 3) (some b18_1)), .ext 2 (.slc (.var 4) none (some (.con (.int 1))))]
def b18_3 : CE := (.var 5)
def b18_4 : CE := (.cmp .in_ (.var 5) (.var 2))
def b18 : List CS := [.asg 2 true (.lst []), .for_ (.var 3) (.var 0) b18_2, .ret (.fn .tuple (.comp b18_3 (.var 5) (.fn .sorted (.var 1)) (some b18_4)))]
theorem t18 : tx.T[18]? = some ⟨2, 6, b18, none⟩ := by kernel_rfl
def b19_0 : CE := (.call 18 [(.var 1), (.var 2)])
def b19 : List CS := [.ret (.make "Chooser" 5 [(.var 0), (.fn .tuple (.comp b19_0 (.var 2) (.call 16 [(.var 0)]) none))])]
theorem t19 : tx.T[19]? = some ⟨2, 3, b19, none⟩ := by kernel_rfl
def b20_0 : CE := (.call 17 [(.var 0), (.var 1)])
def b20_1 : CE := (.mat (.fn .list (.var 7)))
def b20_2 : List CS := [.asg 6 false (.comp b20_1 (.var 7) (.var 5) none), .asg 8 false (.call 14 [(.var 0), (.con (.int 5))]), .ifs (.cmp .eq (.var 8) (.con (.int 0))) [.asg 6 false (.call 17 [(.var 0), (.var 1)])] [.ifs (.and (.cmp .lt (.var 8) (.con (.int 4))) (.cmp .ne (.var 6) (.lst []))) [.asg 7 false (.call 15 [(.var 0), (.var 6)]), .asg 9 false (.call 14 [(.var 0), (.fn .len (.var 7))]), .ifs (.cmp .lt (.bin .add (.var 9) (.con (.int 1))) (.fn .len (.var 7))) [.lswap (.var 7) (.var 9) (.var 7) (.bin .add (.var 9) (.con (.int 1))) (.idx (.var 7) (.bin .add (.var 9) (.con (.int 1)))) (.idx (.var 7) (.var 9))] [.ifs (.cmp .eq (.var 8) (.con (.int 1))) [.lpop none (.var 7)] []]] []], .app 4 (.var 6)]
def b20 : List CS := [.asg 1 false (.call 15 [(.var 0), (.lst [(.con (.int 2)), (.con (.int 3)), (.con (.int 3)), (.con (.int 4))])]), .asg 2 false (.comp b20_0 (.var 3) (.rng1 (.bin .add (.con (.int 1)) (.call 14 [(.var 0), (.con (.int 2))]))) none), .asg 4 true (.lst []), .for_ (.var 5) (.var 2) b20_2, .frz 4, .ret (.dic ["offers", "before", "after", "room"] [(.var 1), (.var 2), (.var 4), (.bin .add (.con (.int 1)) (.call 14 [(.var 0), (.con (.int 5))]))])]
theorem t20 : tx.T[20]? = some ⟨1, 10, b20, none⟩ := by kernel_rfl
def b21_0 : List CS := [.ifs (.cmp .ne (.call 18 [(.var 2), (.var 1)]) (.call 18 [(.var 3), (.var 1)])) [.ret (.con (.bl true))] []]
def b21 : List CS := [.for_ (.pair 2 3) (.zip (.idx (.var 0) (.con (.str "before"))) (.idx (.var 0) (.con (.str "after")))) b21_0, .ret (.con (.bl false))]
theorem t21 : tx.T[21]? = some ⟨2, 4, b21, none⟩ := by kernel_rfl
def b22_0 : List CS := [.ifs (.or (.not (.isi (.var 3) .tuple)) (.or (.cmp .ne (.fn .len (.var 3)) (.con (.int 2))) (.or (.not (.isi (.idx (.var 3) (.con (.int 0))) .str)) (.cmp .ne (.idx (.var 3) (.con (.int 0))) (.con (.str "come")))))) [.ret (.con (.bl false))] [], .ifs (.or (.not (.isi (.idx (.var 3) (.con (.int 1))) .int)) (.or (.isi (.idx (.var 3) (.con (.int 1))) .bool) (.not (.cmp2 .le .lt (.con (.int 0)) (.idx (.var 3) (.con (.int 1))) (.idx (.var 0) (.con (.str "offers"))))))) [.ret (.con (.bl false))] [], .app 2 (.idx (.var 3) (.con (.int 1)))]
def b22_1 : CE := (.var 5)
def b22_2 : CE := (.cmp .in_ (.var 5) (.var 2))
def b22 : List CS := [.ifs (.not (.isi (.var 1) .tuple)) [.ret (.con (.bl false))] [], .asg 2 true (.lst []), .for_ (.var 3) (.var 1) b22_0, .asg 4 false (.comp b22_1 (.var 5) (.rng1 (.idx (.var 0) (.con (.str "offers")))) (some b22_2)), .ret (.and (.cmp .le (.fn .len (.var 4)) (.idx (.var 0) (.con (.str "room")))) (.call 21 [(.var 0), (.var 4)]))]
theorem t22 : tx.T[22]? = some ⟨2, 6, b22, none⟩ := by kernel_rfl
def b23_0 : List CS := [.pop (some 5) 3 (some (.call 14 [(.var 0), (.fn .len (.var 3))])), .app 4 (.tup [(.con (.str "come")), (.var 5)]), .ifs (.cmp .eq (.call 14 [(.var 0), (.con (.int 4))]) (.con (.int 0))) [.app 4 (.tup [(.con (.str "come")), (.call 15 [(.var 0), (.fn .list (.var 2))])])] []]
def b23_1 : CE := (.cmp .ne (.var 3) (.lst []))
def b23 : List CS := [.asg2 3 true 4 true (.fn .list (.var 2)) (.lst []), .whl b23_1 b23_0, .ret (.fn .tuple (.var 4))]
theorem t23 : tx.T[23]? = some ⟨3, 6, b23, none⟩ := by kernel_rfl
def b24_0 : List CS := [.app 4 (.bin .add (.bin .add (.slc (.var 3) none (some (.var 5))) (.tup [(.call 15 [(.var 0), (.var 6)])])) (.slc (.var 3) (some (.var 5)) none))]
def b24 : List CS := [.asg 2 false (.call 15 [(.var 0), (.call 16 [(.idx (.var 1) (.con (.str "offers")))])]), .asg 3 false (.call 23 [(.var 0), (.var 1), (.var 2)]), .asg 4 true (.lst [(.tup []), (.var 3), (.call 23 [(.var 0), (.var 1), (.call 15 [(.var 0), (.call 16 [(.idx (.var 1) (.con (.str "offers")))])])])]), .asg 5 false (.call 14 [(.var 0), (.bin .add (.fn .len (.var 3)) (.con (.int 1)))]), .asg 6 false (.lst [(.tup [(.con (.str "day"))]), (.tup [(.con (.str "gone")), (.con (.int 0))]), (.tup [(.con (.str "come")), (.idx (.var 1) (.con (.str "offers")))]), (.tup [(.con (.str "come")), (.neg (.con (.int 1)))]), (.tup [(.con (.str "come")), (.con (.bl true))]), (.tup [(.con (.str "come")), (.con (.str "0"))]), (.lst [(.con (.str "come")), (.con (.int 0))])]), .asg 6 false (.bin .add (.var 6) (.lst [(.tup [(.con (.str "come"))]), (.tup [(.con (.str "come")), (.con (.int 0)), (.con (.int 0))]), (.con (.str "come")), (.con (.non)), (.con (.int 0)), (.tup [(.con (.str "came")), (.con (.int 0))]), (.tup [(.con (.str "come")), (.con (.non))]), (.tup [(.tup []), (.con (.int 0))]), (.tup [(.con (.str "come")), (.bin .pow (.con (.int 10)) (.con (.int 39)))])])), .for_ (.var 7) (.rng1 (.con (.int 4))) b24_0, .ret (.bin .add (.var 4) (.lst [(.fn .list (.var 3)), (.con (.non)), (.con (.int 0)), (.con (.str "")), (.con (.str "come")), (.dic [] []), (.tup [(.var 3)]), (.con (.bl true))]))]
theorem t24 : tx.T[24]? = some ⟨2, 8, b24, none⟩ := by kernel_rfl
def b26_0 : CE := (.call 19 [(.idx (.var 2) (.con (.str "offers"))), (.var 4)])
def b26_1 : CE := (.call 19 [(.idx (.var 2) (.con (.str "offers"))), (.var 4)])
def b26_2 : CE := (.var 7)
def b26_3 : CE := (.and (.cmp .le (.fn .len (.var 7)) (.idx (.var 2) (.con (.str "room")))) (.call 21 [(.var 2), (.var 7)]))
def b26_4 : CE := (.tup [(.con (.str "come")), (.var 9)])
def b26_5 : List CS := [.ifs (.cmp .ne (.fn .repr (.call 12 [(.idx (.var 2) (.con (.str "room"))), (.var 3), (.var 5), (.var 11)])) (.fn .repr (.call 22 [(.var 2), (.var 11)]))) [.ret (.con (.bl false))] []]
def b26 : List CS := [.asg 1 false (.call 13 [(.var 0)]), .asg 2 false (.call 20 [(.var 1)]), .asg 3 false (.fn .tuple (.comp b26_0 (.var 4) (.idx (.var 2) (.con (.str "before"))) none)), .asg 5 false (.fn .tuple (.comp b26_1 (.var 4) (.idx (.var 2) (.con (.str "after"))) none)), .asg 6 false (.comp b26_2 (.var 7) (.call 16 [(.idx (.var 2) (.con (.str "offers")))]) (some b26_3)), .asg 8 false (.ite (.cmp .ne (.var 6) (.lst [])) (.fn .tuple (.comp b26_4 (.var 9) (.idx (.var 6) (.con (.int 0))) none)) (.con (.non))), .ifs (.or (.cmp .ne (.call 9 [(.idx (.var 2) (.con (.str "room"))), (.var 3), (.var 5)]) (.var 8)) (.cmp .ne (.call 10 [(.idx (.var 2) (.con (.str "room"))), (.var 3), (.var 5)]) (.cmp .notN (.var 8) (.con (.non))))) [.ret (.con (.bl false))] [], .ifs (.cmp .ne (.call 9 [(.idx (.var 2) (.con (.str "room"))), (.var 5), (.var 3)]) (.var 8)) [.ret (.con (.bl false))] [], .asg 10 false (.bin .add (.call 24 [(.var 1), (.var 2)]) (.ite (.cmp .notN (.var 8) (.con (.non))) (.lst [(.var 8), (.rev (.var 8)), (.bin .add (.var 8) (.var 8))]) (.lst []))), .for_ (.var 11) (.var 10) b26_5, .ifs (.or (.call 10 [(.idx (.var 2) (.con (.str "room"))), (.var 3), (.var 3)]) (.cmp .notN (.call 9 [(.idx (.var 2) (.con (.str "room"))), (.var 5), (.var 5)]) (.con (.non)))) [.ret (.con (.bl false))] [], .ret (.or (.cmp .gt (.call 14 [(.var 1), (.con (.int 4))]) (.con (.int 0))) (.call 25 [(.var 2), (.var 3), (.var 5)]))]
theorem t26 : tx.T[26]? = some ⟨1, 12, b26, none⟩ := by kernel_rfl
end G78
set_option maxHeartbeats 1000000
namespace G78
open PySem (Str)
open DI
abbrev lv (k : Nat) : Orc := lev tx.T tx.mid tx.fld k
@[simp] theorem cmp_lt {st i j} : cmpD st .lt (.int i) (.int j) = some (decide (i < j)) := rfl
@[simp] theorem cmp_le {st i j} : cmpD st .le (.int i) (.int j) = some (decide (i ≤ j)) := rfl
@[simp] theorem cmp_gt {st i j} : cmpD st .gt (.int i) (.int j) = some (decide (j < i)) := rfl
@[simp] theorem cmp_ge {st i j} : cmpD st .ge (.int i) (.int j) = some (decide (j ≤ i)) := rfl
@[simp] theorem cmp_eqI {st i j} : cmpD st .eq (.int i) (.int j) = some (decide (i = j)) := by
  simp [cmpD, eqD, toP, PySem.PyData.eqv, Bool.beq_eq_decide_eq]
@[simp] theorem cmp_neI {st i j} : cmpD st .ne (.int i) (.int j) = some (!decide (i = j)) := by
  simp [cmpD, eqD, toP, PySem.PyData.eqv, Bool.beq_eq_decide_eq]
@[simp] theorem bin_addI {st i j} : binD st .add (.int i) (.int j) = some (.int (i + j)) := rfl
@[simp] theorem bin_subI {st i j} : binD st .sub (.int i) (.int j) = some (.int (i - j)) := rfl
theorem bin_mul1 {st : Store} {i j : Int} (h : i.natAbs < 2 ^ 64) : binD st .mul (.int i) (.int j) = some (.int (i * j)) := by
  simp only [binD, decide_eq_true h, Bool.true_or, if_true]
theorem bin_mul2 {st : Store} {i j : Int} (h : j.natAbs < 2 ^ 64) : binD st .mul (.int i) (.int j) = some (.int (i * j)) := by
  simp only [binD, decide_eq_true h, Bool.or_true, if_true]
theorem bin_mod {st : Store} {i j : Int} (h : 0 < j) : binD st .mod (.int i) (.int j) = some (.int (i % j)) := by
  have : decide (j ≠ 0) = true := decide_eq_true (by omega)
  simp only [binD, this, if_true]
  rw [Int.fmod_eq_emod_of_nonneg _ (Int.le_of_lt h)]
theorem bin_fdiv {st : Store} {i j : Int} (h : 0 < j) (h2 : j < 2 ^ 29) : binD st .fdiv (.int i) (.int j) = some (.int (i / j)) := by
  have h1 : decide (j ≠ 0) = true := decide_eq_true (by omega)
  have h3 : decide (j.natAbs < 1073741824) = true := decide_eq_true (by omega)
  simp only [binD, h1, h3, Bool.and_self, if_true]
  rw [Int.fdiv_eq_ediv_of_nonneg _ (Int.le_of_lt h)]
@[simp] theorem bin_p18 {st : Store} : binD st .pow (.int 10) (.int 18) = some (.int 1000000000000000000) := rfl
@[simp] theorem bin_p39 {st : Store} : binD st .pow (.int 10) (.int 39) = some (.int 1000000000000000000000000000000000000000) := rfl
@[simp] theorem fn_int {st : Store} {i : Int} : fnD st .int (.int i) = some (.int i) := rfl
@[simp] theorem lineOk_iff {n : Nat} : lineOk n = true ↔ n ≤ 16777216 := by simp [lineOk]
@[simp] theorem s1 : (("left" : Str) = "mixed") = False := by decide
@[simp] theorem s2 : (("left" : Str) = "draws") = False := by decide
@[simp] theorem s3 : (("mixed" : Str) = "draws") = False := by decide
/-- is_whole -/
theorem whole_int {k : Nat} (hk : 2 ≤ k) {i : Int} {st : Store} {Q} (q : Q (.bl true) st) : Ok ((lv k).call 0 [.int i] st) Q := by
  refine call_ok hk t0 rfl rfl fun j _ => ?_
  simp [b0, start, slotV, isTy, rd, tyD]
  exact q
/-! ### the deck -/
def dkD (m d : Int) : D := .dic ["left", "mixed", "draws"] [.loc 0, .int m, .int d]
def deckS (ns : List Int) (m d : Int) (rest : Store) : Store := .lst (ns.map .int) :: dkD m d :: rest
def Dk (st rest : Store) : Prop := ∃ ns m d, st = deckS ns m d rest ∧ ns.length ≤ 63
theorem dk_left {ns m d rest} : idxD (deckS ns m d rest) (.loc 1) (.str "left") = some (.loc 0) := by
  simp [idxD, rd, deckS, dkD, lookS]
theorem dk_mixed {ns m d rest} : idxD (deckS ns m d rest) (.loc 1) (.str "mixed") = some (.int m) := by
  simp [idxD, rd, deckS, dkD, lookS]
theorem dk_draws {ns m d rest} : idxD (deckS ns m d rest) (.loc 1) (.str "draws") = some (.int d) := by
  simp [idxD, rd, deckS, dkD, lookS]
theorem dk_put {ns m d d' rest} : (lset (deckS ns m d rest) (.loc 1) fun c => putD c (.str "draws") (.int d')) = some (deckS ns m d' rest) := by
  simp [lset, deckS, dkD, putD, putG, setK]
theorem dk_at0 {ns m d rest} : (deckS ns m d rest)[0]? = some (.lst (ns.map .int)) := rfl
theorem dk_set0 {ns ns' : List Int} {m d rest} : (deckS ns m d rest).set 0 (.lst (ns'.map .int)) = deckS ns' m d rest := rfl
theorem toP_ints {n : Nat} {st : Store} (ns : List Int) : (ns.map D.int).mapM (toP n st) = some (ns.map PySem.PyData.int) := by
  induction ns with
  | nil => rfl
  | cons x xs ih =>
    rw [List.map_cons, List.mapM_cons, ih]
    cases n <;> rfl
theorem dk_ne {ns m d rest} : cmpD (deckS ns m d rest) .ne (.loc 0) (.lst []) = some (!decide (ns = [])) := by
  have h1 : toP 60 (deckS ns m d rest) (.loc 0) = some (.list (ns.map PySem.PyData.int)) := by
    show (match (deckS ns m d rest)[0]? with
      | some (.lst ds) => (ds.mapM (toP 59 (deckS ns m d rest))).map PySem.PyData.list
      | _ => none) = _
    rw [dk_at0]
    simp only [toP_ints, Option.map_some]
  have h2 : toP 60 (deckS ns m d rest) (.lst []) = some (.list []) := rfl
  simp only [cmpD, eqD, h1, h2, Option.bind_eq_bind, Option.bind_some, Option.map_some]
  cases ns with
  | nil => rfl
  | cons x xs => simp [PySem.PyData.eqv, PySem.PyData.eqvAll]
theorem pop_last {ns : List Int} (h : ns ≠ []) : ∃ x l, ns = l ++ [x] ∧ popL (ns.map D.int) (-1) = some (.int x, l.map .int) := by
  refine ⟨ns.getLast h, ns.dropLast, (List.dropLast_concat_getLast h).symm, ?_⟩
  generalize hx : ns.getLast h = x
  generalize hl : ns.dropLast = l
  have e : ns = l ++ [x] := by rw [← hx, ← hl]; exact (List.dropLast_concat_getLast h).symm
  clear hx hl
  subst e
  have h1 : L2.ixN (List.map D.int (l ++ [x])).length (-1) = some l.length := by
    unfold L2.ixN
    simp
    omega
  unfold popL
  rw [h1]
  have h2 : (l.map D.int ++ [D.int x]).eraseIdx l.length = l.map D.int := by
    rw [List.eraseIdx_append_of_length_le (by simp)]
    simp
  simp [h2]
theorem mod_nat (a : Int) {c : Int} (h : 0 < c) (h2 : c < 2 ^ 62) : (a % c).natAbs < 2 ^ 64 := by
  have := Int.emod_nonneg a (Int.ne_of_gt h)
  have := Int.emod_lt_of_pos a h
  omega
theorem draw_ok {k : Nat} (hk : 2 ≤ k) {st rest : Store} {n : Int} {Q : D → Store → Prop} (hd : Dk st rest) (h1 : 0 < n) (h2 : n < 2 ^ 29)
    (q : ∀ r st', Dk st' rest → 0 ≤ r → r < n → Q (.int r) st') : Ok ((lv k).call 14 [.loc 1, .int n] st) Q := by
  obtain ⟨ns, m, d, rfl, hl⟩ := hd
  refine call_ok hk t14 rfl rfl fun j _ => ?_
  have fin1 : ∀ (x : Int) (ns' : List Int) (y : Slot) (o : Orc), ns'.length ≤ 63 → OkXs o [CS.asg 2 false (.bin .mod (.fn .int (.bin .add (.bin .mul (.var 2) (.con (.int 39373))) (.con (.int 78)))) (.con (.int 2147483647))), .asg 2 false (.bin .mod (.fn .int (.bin .add (.bin .add (.bin .mul (.var 2) (.var 2)) (.bin .mul (.con (.int 52711)) (.idx (.var 0) (.con (.str "draws"))))) (.con (.int 78)))) (.con (.int 2147483587))), .ret (.fn .int (.bin .mod (.bin .fdiv (.bin .mod (.bin .mul (.var 2) (.con (.int 40692))) (.con (.int 2147483563))) (.con (.int 64))) (.var 1)))]
      [Slot.val (D.loc 1), Slot.val (D.int n), Slot.val (.int x), y] (deckS ns' m (d + 1) rest) (fin Q) := by
    intro x ns' y o hl'
    simp [slotV, slotB, dk_draws, bin_mul1]
    repeat' (first | rw [bin_mul1 (by decide), okO_some] | rw [bin_mul1 (mod_nat _ (by decide) (by decide)), okO_some] | rw [bin_mul2 (by decide), okO_some] | rw [bin_addI, okO_some] | rw [fn_int, okO_some] | rw [bin_mod (by decide), okO_some] | rw [bin_fdiv (by decide) (by decide), okO_some] | rw [bin_mod h1, okO_some] | simp [slotV, slotB, dk_draws])
    exact q _ _ ⟨ns', m, d + 1, rfl, hl'⟩ (Int.emod_nonneg _ (Int.ne_of_gt h1)) (Int.emod_lt_of_pos _ h1)
  simp [b14, start, slotV, slotB, dk_draws, dk_put, dk_mixed, dk_left, dk_ne, bin_mul1]
  rw [ifB_bl]
  refine ⟨fun hn => ?_, fun hn => ?_⟩
  · have hne : ns ≠ [] := by simpa using hn
    obtain ⟨x, l, e, hp⟩ := pop_last hne
    simp
    refine s_lpop ?_
    simp [slotV, slotB, dk_left]
    refine ⟨_, dk_at0, ?_⟩
    rw [hp, okO_some]
    simp only [dk_set0]
    have hl' : l.length + 1 ≤ 63 := by rw [e] at hl; simpa using hl
    simp [slotV, slotB]
    rw [ifB_bl]
    refine ⟨fun hx => ?_, fun hx => ?_⟩
    · simp
      refine s_lapp ?_
      simp [slotV, slotB, dk_left]
      refine ⟨⟨_, dk_at0⟩, ?_⟩
      rw [bin_fdiv h1 h2, okO_some]
      refine ⟨_, dk_at0, by simp; omega, ?_⟩
      have e2 : (deckS l m (d + 1) rest).set 0 (.lst (l.map D.int ++ [D.int (x / n)])) = deckS (l ++ [x / n]) m (d + 1) rest := by
        unfold deckS
        simp
      simp only [e2]
      simp [slotV, slotB, bin_mod h1]
      exact q _ _ ⟨_, m, d + 1, rfl, by simp; omega⟩ (Int.emod_nonneg _ (Int.ne_of_gt h1)) (Int.emod_lt_of_pos _ h1)
    · simpa [slotV, slotB, dk_draws, bin_mul1, bin_mod] using fin1 (m + 61129 * (d + 1) + x % 2147483629) l (.val (.int x)) (lv j) (by omega)
  · simpa [slotV, slotB, dk_draws, bin_mul1] using fin1 (m + 61129 * (d + 1)) ns .no (lv j) hl
end G78
set_option maxHeartbeats 1000000
namespace G78
open PySem (Str)
open DI
theorem atI_get {ds : List D} {i : Int} (h0 : 0 ≤ i) (h1 : i < ds.length) : ∃ x, L2.atI ds i = some x ∧ x ∈ ds ∧ ds[i.toNat]? = some x := by
  have hl : i.toNat < ds.length := by omega
  refine ⟨ds[i.toNat], ?_, List.getElem_mem hl, by simp [hl]⟩
  unfold L2.atI L2.ixN
  rw [if_pos h0, if_pos h1]
  simp [hl]
theorem pick_ok {k : Nat} (hk : 3 ≤ k) {st rest : Store} {ds : List D} {Q : D → Store → Prop} (hd : Dk st rest) (h1 : ds ≠ []) (h2 : ds.length < 2 ^ 29)
    (q : ∀ x st', Dk st' rest → x ∈ ds → Q x st') : Ok ((lv k).call 15 [.loc 1, .lst ds] st) Q := by
  refine call_ok (by omega) t15 rfl rfl fun j hj => ?_
  have hl : 0 < ds.length := List.length_pos_iff.mpr h1
  simp [b15, start, slotV, slotB]
  refine draw_ok (by omega) hd (by omega) (by omega) fun r st' hd' h3 h4 => ?_
  obtain ⟨x, e, hm, _⟩ := atI_get h3 h4
  simp [idxD, rd, e]
  exact q x st' hd' hm
/-! ### sets -/
def setsI (n : Nat) : List (List Int) := sortL ((List.range (2 ^ n)).map fun m => (List.range n).filterMap fun x => if m.testBit x then some (x : Int) else none)
def OkN (n : Nat) : Prop := n = 2 ∨ n = 3 ∨ n = 4 ∨ n = 5
/-- a run without its slots -/
def ends (m : ResS) : Option (Fl × Store) := m.map fun r => (r.1, r.2.2)
theorem ends_ok {o : Orc} {b : List CS} {env : Env} {st : Store} {d : D} {Q : D → Store → Prop} (h : ends (execL o b env st) = some (.ret d, st)) (q : Q d st) : OkXs o b env st (fin Q) := by
  unfold ends at h
  rw [Option.map_eq_some_iff] at h
  obtain ⟨⟨fl, e, s⟩, h1, h2⟩ := h
  simp only [Prod.mk.injEq] at h2
  obtain ⟨rfl, rfl⟩ := h2
  exact ⟨_, e, _, h1, trivial, q⟩
theorem sets_run2 (o : Orc) (st : Store) : ends (execL o b16 (start ⟨1, 4, b16, none⟩ [.int 2]) st) = some (.ret (.lst ((setsI 2).map tupI)), st) := by kernel_rfl
theorem sets_run3 (o : Orc) (st : Store) : ends (execL o b16 (start ⟨1, 4, b16, none⟩ [.int 3]) st) = some (.ret (.lst ((setsI 3).map tupI)), st) := by kernel_rfl
theorem sets_run4 (o : Orc) (st : Store) : ends (execL o b16 (start ⟨1, 4, b16, none⟩ [.int 4]) st) = some (.ret (.lst ((setsI 4).map tupI)), st) := by kernel_rfl
theorem sets_run5 (o : Orc) (st : Store) : ends (execL o b16 (start ⟨1, 4, b16, none⟩ [.int 5]) st) = some (.ret (.lst ((setsI 5).map tupI)), st) := by kernel_rfl
theorem sets_ok {k : Nat} (hk : 2 ≤ k) {n : Nat} (hn : OkN n) {st : Store} {Q : D → Store → Prop} (q : Q (.lst ((setsI n).map tupI)) st) : Ok ((lv k).call 16 [.int n] st) Q := by
  refine call_ok hk t16 rfl rfl fun j _ => ?_
  rcases hn with rfl | rfl | rfl | rfl
  · exact ends_ok (sets_run2 _ _) q
  · exact ends_ok (sets_run3 _ _) q
  · exact ends_ok (sets_run4 _ _) q
  · exact ends_ok (sets_run5 _ _) q
theorem all_run2 (o : Orc) (st : Store) : ends (execL o b2 (start ⟨1, 6, b2, none⟩ [.int 2]) st) = some (.ret (.tup ((setsI 2).map tupI)), st) := by kernel_rfl
theorem all_run3 (o : Orc) (st : Store) : ends (execL o b2 (start ⟨1, 6, b2, none⟩ [.int 3]) st) = some (.ret (.tup ((setsI 3).map tupI)), st) := by kernel_rfl
theorem all_run4 (o : Orc) (st : Store) : ends (execL o b2 (start ⟨1, 6, b2, none⟩ [.int 4]) st) = some (.ret (.tup ((setsI 4).map tupI)), st) := by kernel_rfl
theorem all_run5 (o : Orc) (st : Store) : ends (execL o b2 (start ⟨1, 6, b2, none⟩ [.int 5]) st) = some (.ret (.tup ((setsI 5).map tupI)), st) := by kernel_rfl
theorem all_ok {k : Nat} (hk : 2 ≤ k) {n : Nat} (hn : OkN n) {st : Store} {Q : D → Store → Prop} (q : Q (.tup ((setsI n).map tupI)) st) : Ok ((lv k).call 2 [.int n] st) Q := by
  refine call_ok hk t2 rfl rfl fun j _ => ?_
  rcases hn with rfl | rfl | rfl | rfl
  · exact ends_ok (all_run2 _ _) q
  · exact ends_ok (all_run3 _ _) q
  · exact ends_ok (all_run4 _ _) q
  · exact ends_ok (all_run5 _ _) q
end G78
set_option maxHeartbeats 1000000
namespace G78
open PySem (Str)
open DI
/-! ### what lists take -/
/-- a row of a list's value: frozen, or a place of the store -/
def RowR (st : Store) (d : D) (ns : List Int) : Prop := (d = .lst (ns.map .int) ∨ ∃ l, d = .loc l ∧ st[l]? = some (.lst (ns.map .int))) ∧ ns.length < 100
def RowsR (st : Store) : List D → List (List Int) → Prop
  | [], [] => True
  | d :: ds, r :: rs => RowR st d r ∧ RowsR st ds rs
  | _, _ => False
def found (L : List (List Int)) (s : List Int) : List Int := L.flatMap fun r => (r.filter fun x => decide (x ∈ s)).take 1
def takenI (L : List (List Int)) (s : List Int) : List Int := (sortI s).filter fun x => decide (x ∈ found L s)
theorem mapM_toP0 {st : Store} (s : List Int) : (s.map D.int).mapM (toP 0 st) = some (s.map PySem.PyData.int) := toP_ints s
theorem any_int (x : Int) (s : List Int) : ((s.map PySem.PyData.int).any fun q => PySem.PyData.eqv q (.int x)) = decide (x ∈ s) := by
  induction s with
  | nil => rfl
  | cons y s ih =>
    rw [List.map_cons, List.any_cons, ih]
    simp only [PySem.PyData.eqv, List.mem_cons, Bool.decide_or]
    congr 1
    rw [Bool.beq_eq_decide_eq]
    exact decide_eq_decide.mpr eq_comm
theorem in_tup {st : Store} {x : Int} {s : List Int} : inD st (.int x) (.tup (s.map .int)) = some (decide (x ∈ s)) := by
  simp only [inD, seqOf, rd, toP, mapM_toP0, Option.bind_eq_bind, Option.bind_some, any_int]
theorem in_lst {st : Store} {x : Int} {s : List Int} : inD st (.int x) (.lst (s.map .int)) = some (decide (x ∈ s)) := by
  simp only [inD, seqOf, rd, toP, mapM_toP0, Option.bind_eq_bind, Option.bind_some, any_int]
theorem filter_map_int (p : Int → Bool) (ns : List Int) : ((ns.map D.int).filter fun d => match d with | .int x => p x | _ => false).map id = (ns.filter p).map D.int := by
  induction ns with
  | nil => rfl
  | cons x xs ih =>
    rw [List.map_cons, List.filter_cons, List.filter_cons]
    cases hp : p x with
    | true => simp only [hp, if_true, List.map_cons, ih]; rfl
    | false => simp only [hp, Bool.false_eq_true, if_false, ih]
/-- a sequence of ints as a value -/
def SeqI (d : D) (s : List Int) : Prop := d = .tup (s.map .int) ∨ d = .lst (s.map .int)
theorem in_seq {st : Store} {x : Int} {s : List Int} {d : D} (h : SeqI d s) : inD st (.int x) d = some (decide (x ∈ s)) := by
  rcases h with rfl | rfl
  · exact in_tup
  · exact in_lst
theorem row_seq {st : Store} {d : D} {ns : List Int} (h : RowR st d ns) : seqOf st d = some (ns.map .int) ∧ (∀ l, d = .loc l → st[l]? = some (.lst (ns.map .int))) := by
  rcases h.1 with rfl | ⟨l, rfl, e⟩
  · exact ⟨rfl, fun l z => by cases z⟩
  · refine ⟨by simp [seqOf, rd, e], fun l' z => by cases z; exact e⟩
theorem intsOf_map (ns : List Int) : intsOf (ns.map D.int) = some ns := by
  induction ns with
  | nil => rfl
  | cons x xs ih => simp [intsOf, ih]
theorem cut1 (ns : List Int) : cutL (ns.map D.int) none (some 1) = (ns.take 1).map D.int := by
  unfold cutL
  cases ns with
  | nil => rfl
  | cons x xs =>
    have h1 : HT.sIx ((x :: xs).map D.int).length 0 none = 0 := rfl
    have h2 : HT.sIx ((x :: xs).map D.int).length ((x :: xs).map D.int).length (some 1) = 1 := by
      unfold HT.sIx
      simp
    rw [h1, h2]
    rfl
def TkI (st : Store) (rows : List D) (L : List (List Int)) (sd : D) (s : List Int) (rem : List D) (env : Env) (st' : Store) : Prop :=
  ∃ done left x3 x4 x5, L = done ++ left ∧ RowsR st rem left ∧ st' = st ∧ env = [.val (.lst rows), .val sd, .own (.lst ((found done s).map .int)), x3, x4, x5] ∧ (found done s).length ≤ done.length
theorem taken_ok {k : Nat} (hk : 2 ≤ k) {st : Store} {rows : List D} {L : List (List Int)} {sd : D} {s : List Int} {Q : D → Store → Prop} (hr : RowsR st rows L) (hs : SeqI sd s) (hlL : L.length < 100) (hls : s.length < 100)
    (q : Q (tupI (takenI L s)) st) : Ok ((lv k).call 18 [.lst rows, sd] st) Q := by
  refine call_ok hk t18 rfl rfl fun j hj => ?_
  simp [b18, start, slotV, slotB, fresh, ownable]
  refine (for_inv (TkI st rows L sd s) ?_ ?_ ?_).1
  · exact ⟨[], L, .no, .no, .no, rfl, hr, rfl, rfl, by simp [found]⟩
  · rintro x xs env st' ⟨done, left, x3, x4, x5, e1, e2, rfl, rfl, e3⟩
    cases left with
    | nil => simp [RowsR] at e2
    | cons r left =>
      obtain ⟨h1, h2⟩ := e2
      obtain ⟨h3, h4⟩ := row_seq h1
      refine ⟨_, rfl, ?_⟩
      simp [b18_2, slotV, slotB]
      refine cp_pure h3 (by simp [whileFuel]; have := h1.2; omega) (fun d => match d with | .int y => decide (y ∈ s) | _ => false) id ?_ h4 ?_
      · intro d hd
        obtain ⟨y, hy, rfl⟩ := List.mem_map.mp hd
        exact ⟨_, rfl, by simp [b18_1, evalE, lend, slotB, slotV, cmpD, in_seq hs], fun _ => by simp [b18_0, evalE, slotV]⟩
      · rw [filter_map_int]
        refine ⟨by simp; have := List.length_filter_le (fun y => decide (y ∈ s)) r; have := h1.2; omega, ?_⟩
        try simp [slotV, slotB, slcD, rd]
        rw [s_ext (ds := (found done s).map .int) rfl]
        simp [slotV, slotB, slcD, rd]
        rw [cut1]
        have hd : done.length < 100 := by rw [e1] at hlL; simp at hlL; omega
        have ef : found (done ++ [r]) s = found done s ++ (r.filter fun y => decide (y ∈ s)).take 1 := by simp [found]
        refine ⟨by simp; omega, done ++ [r], left, _, _, _, by rw [e1]; simp, h2, rfl, by rw [ef, List.map_append], ?_⟩
        rw [ef]
        simp
        omega
  · rintro env st' ⟨done, left, x3, x4, x5, e1, e2, rfl, rfl, e3⟩
    cases left with
    | cons r left => simp [RowsR] at e2
    | nil =>
      simp at e1
      subst e1
      simp [slotV, slotB]
      have hsort : fnD st' .sorted sd = some (.lst ((sortI s).map .int)) := by
        rcases hs with rfl | rfl <;> simp [fnD, seqOf, rd, intsOf_map]
      simp [hsort]
      have hp := (sortI_perm s).length_eq
      refine cp_pure (xs := (sortI s).map .int) rfl (by simp [whileFuel, hp]; omega) (fun d => match d with | .int y => decide (y ∈ found L s) | _ => false) id ?_ (fun l z => by cases z) ?_
      · intro d hd
        obtain ⟨y, hy, rfl⟩ := List.mem_map.mp hd
        exact ⟨_, rfl, by simp [b18_4, evalE, lend, slotB, slotV, lendable, cmpD, in_lst], fun _ => by simp [b18_3, evalE, slotV]⟩
      · rw [filter_map_int]
        refine ⟨by simp; have := List.length_filter_le (fun y => decide (y ∈ found L s)) (sortI s); omega, ?_⟩
        simp [fnD, seqOf, rd]
        exact q
end G78
set_option maxHeartbeats 1000000
namespace G78
open PySem (Str)
open DI
/-! ### choosers -/
def goodFrom (b n : Int) : List Int → Prop
  | [] => True
  | x :: xs => b < x ∧ x < n ∧ goodFrom x n xs
def SetI2 (n : Int) (s rem : List Int) (env : Env) (st0 st : Store) : Prop := ∃ b x3, st = st0 ∧ goodFrom b n rem ∧ env = [.val (.int n), .val (.tup (s.map .int)), .val (.int b), x3]
theorem isset_ok {k : Nat} (hk : 3 ≤ k) {n : Int} {s : List Int} {st : Store} {Q : D → Store → Prop} (h : goodFrom (-1) n s) (q : Q (.bl true) st) : Ok ((lv k).call 1 [.int n, .tup (s.map .int)] st) Q := by
  refine call_ok (by omega) t1 rfl rfl fun j hj => ?_
  simp [b1, start, slotV, slotB, isTy, rd, tyD]
  refine (for_inv (fun rem env st' => ∃ r, rem = r.map .int ∧ SetI2 n s r env st st') ⟨s, rfl, -1, .no, rfl, h, rfl⟩ ?_ ?_).2
  · rintro x xs env st' ⟨r, e1, b, x3, rfl, g, rfl⟩
    cases r with
    | nil => cases e1
    | cons y r =>
      cases e1
      obtain ⟨g1, g2, g3⟩ := g
      refine ⟨_, rfl, ?_⟩
      simp [b1_0, slotV, slotB]
      refine whole_int (by omega) ?_
      simp [slotV, slotB, decide_eq_true g1, decide_eq_true g2]
      exact ⟨r, rfl, y, _, rfl, g3, rfl⟩
  · rintro env st' ⟨r, e1, b, x3, rfl, g, rfl⟩
    simp [slotV, slotB]
    exact q
def PartI (s p : List Int) (env : Env) (st0 st : Store) : Prop := ∃ x2, st = st0 ∧ env = [.val (.tup (p.map .int)), .val (.tup (s.map .int)), x2]
theorem part_ok {k : Nat} (hk : 2 ≤ k) {p s : List Int} {st : Store} {Q : D → Store → Prop} (h : ∀ x ∈ p, x ∈ s) (q : Q (.bl true) st) : Ok ((lv k).call 4 [.tup (p.map .int), .tup (s.map .int)] st) Q := by
  refine call_ok (by omega) t4 rfl rfl fun j hj => ?_
  simp [b4, start, slotV, slotB]
  refine (for_inv (fun rem env st' => ∃ r, rem = r.map .int ∧ (∀ x ∈ r, x ∈ s) ∧ PartI s p env st st') ⟨p, rfl, h, .no, rfl, rfl⟩ ?_ ?_).2
  · rintro x xs env st' ⟨r, e1, g, x2, rfl, rfl⟩
    cases r with
    | nil => cases e1
    | cons y r =>
      cases e1
      refine ⟨_, rfl, ?_⟩
      have hy : y ∈ s := g y List.mem_cons_self
      simp [b4_0, slotV, slotB, cmpD, in_tup, hy]
      exact ⟨r, rfl, fun z hz => g z (List.mem_cons_of_mem _ hz), _, rfl, rfl⟩
  · rintro env st' ⟨r, e1, g, x2, rfl, rfl⟩
    simp [slotV, slotB]
    exact q
/-- how a maker ends -/
def finM (Q : D → Store → Prop) (fl : Fl) (env : Env) (st : Store) : Prop := fl = .nxt ∧ ∃ c ns vs, env[0]? = some (.own (.ins c ns vs)) ∧ Q (.ins c ns vs) st
theorem mk_ok' {T : List FD} {f : Nat} {fd : FD} {ds : List D} {st : Store} {Q : D → Store → Prop} {o : Orc} {c : Str} (hT : T[f]? = some fd) (hl : ds.length + 1 = fd.np) (h : OkXs o fd.body (.own (.ins c [] []) :: (ds.map .val ++ List.replicate (fd.ns - fd.np) .no)) st (finM Q)) : Ok (runMk T o c f ds st) Q := by
  unfold OkXs at h
  obtain ⟨fl, e, s, h1, h2, rfl, c', ns, vs, h3, h4⟩ := h
  unfold runMk
  simp only [hT, hl, if_true, h1, h3]
  exact ok_some.mpr h4
def chD (n : Nat) (P : List (List Int)) : D := .ins "Chooser" ["offers", "picks", "table", "places"] [.int n, .tup (P.map tupI), .dit (setsI n) (P.map tupI), .tup (rngD 0 n)]
def InitI (n : Nat) (P : List (List Int)) (st0 : Store) (rem : List D) (env : Env) (st : Store) : Prop :=
  ∃ i x5 x6 x7, i ≤ (setsI n).length ∧ st = st0 ∧ rem = enumD i (((setsI n).drop i).map tupI) ∧ env = [.own (.ins "Chooser" [] []), .val (.int n), .val (.tup (P.map tupI)), .val (.tup ((setsI n).map tupI)), .own (.dit ((setsI n).take i) ((P.map tupI).take i)), x5, x6, x7]
@[simp] theorem s4 : (("offers" : Str) = "picks") = False := by decide
@[simp] theorem s5 : (("offers" : Str) = "table") = False := by decide
@[simp] theorem s6 : (("offers" : Str) = "places") = False := by decide
@[simp] theorem s7 : (("picks" : Str) = "table") = False := by decide
@[simp] theorem s8 : (("picks" : Str) = "places") = False := by decide
@[simp] theorem s9 : (("table" : Str) = "places") = False := by decide
@[simp] theorem f1 : tx.fld "Chooser" "offers" = true := by decide
@[simp] theorem f2 : tx.fld "Chooser" "picks" = true := by decide
@[simp] theorem f3 : tx.fld "Chooser" "table" = true := by decide
@[simp] theorem f4 : tx.fld "Chooser" "places" = true := by decide
theorem sets_len (n : Nat) (h : OkN n) : (setsI n).length ≤ 32 ∧ 0 < (setsI n).length := by
  rcases h with rfl | rfl | rfl | rfl <;> decide +kernel
theorem sets_nd (n : Nat) (h : OkN n) : (setsI n).Nodup := by
  rcases h with rfl | rfl | rfl | rfl <;> decide +kernel
instance (b n : Int) : ∀ s, Decidable (goodFrom b n s)
  | [] => isTrue trivial
  | x :: xs => by
    unfold goodFrom
    have := instDecidableGoodFrom x n xs
    exact inferInstance
theorem atI_nat {ds : List D} {i : Nat} {x : D} (h : ds[i]? = some x) : L2.atI ds (i : Int) = some x := by
  have hl : i < ds.length := (List.getElem?_eq_some_iff.mp h).1
  unfold L2.atI L2.ixN
  rw [if_pos (by omega), if_pos (by omega)]
  simp [h]
theorem init_ok {k : Nat} (hk : 5 ≤ k) {n : Nat} (hn : OkN n) {P : List (List Int)} {st : Store} {Q : D → Store → Prop} (hP : P.length = (setsI n).length)
    (hv : ∀ (i : Nat) (s p : List Int), (setsI n)[i]? = some s → P[i]? = some p → goodFrom (-1) n p ∧ ∀ x ∈ p, x ∈ s) (q : Q (chD n P) st) : Ok ((lv k).make "Chooser" 5 [.int n, .tup (P.map tupI)] st) Q := by
  obtain ⟨j, rfl⟩ : ∃ j, k = j + 3 := ⟨k - 3, by omega⟩
  show Ok ((lev tx.T tx.mid tx.fld (j + 3)).make "Chooser" 5 _ st) Q
  rw [make_eq]
  refine mk_ok' t5 rfl ?_
  simp [b5, slotV, slotB]
  refine whole_int (by omega) ?_
  have h1 : (1 : Int) ≤ n := by rcases hn with rfl | rfl | rfl | rfl <;> decide
  have h2 : (n : Int) ≤ 6 := by rcases hn with rfl | rfl | rfl | rfl <;> decide
  obtain ⟨hl1, hl2⟩ := sets_len n hn
  simp [slotV, slotB, h1, h2]
  refine all_ok (by omega) hn ?_
  simp [slotV, slotB, isTy, rd, tyD, hP, fresh, ownable]
  refine (for_inv (InitI n P st) ⟨0, .no, .no, .no, Nat.zero_le _, rfl, rfl, rfl⟩ ?_ ?_).1
  · rintro x xs env st' ⟨i, x5, x6, x7, hi, rfl, e1, rfl⟩
    by_cases hlt : i < (setsI n).length
    · rw [List.drop_eq_getElem_cons hlt, List.map_cons, enumD] at e1
      cases e1
      refine ⟨_, rfl, ?_⟩
      have hs : (setsI n)[i]? = some (setsI n)[i] := by simp [hlt]
      have hp : P[i]? = some P[i] := by simp [hP, hlt]
      have hpm : (P.map tupI)[i]? = some (tupI P[i]) := by simp [hP, hlt]
      obtain ⟨g1, g2⟩ := hv i _ _ hs hp
      simp [b5_0, slotV, slotB, idxD, rd, atI_nat hpm]
      refine isset_ok (by omega) g1 ?_
      simp [slotV, slotB]
      refine part_ok (by omega) g2 ?_
      simp
      rw [s_put (c := .dit ((setsI n).take i) ((P.map tupI).take i)) rfl]
      have hnd : ¬ (setsI n)[i] ∈ (setsI n).take i := by
        intro hm
        have nd := sets_nd n hn
        rw [List.nodup_iff_pairwise_ne] at nd
        obtain ⟨a, ha, e⟩ := List.mem_take_iff_getElem.mp hm
        exact List.pairwise_iff_getElem.mp nd a i (by omega) hlt (by omega) e
      have hmin : min i (setsI n).length ≤ 16777215 := by omega
      simp [slotV, slotB, tupI, putD, intsOf_map, putG, hnd, hmin]
      refine ⟨i + 1, .val (.int i), .val (tupI (setsI n)[i]), .val (tupI P[i]), by omega, rfl, by rw [List.map_drop], ?_⟩
      have e2 : (setsI n).take (i + 1) = (setsI n).take i ++ [(setsI n)[i]] := by rw [List.take_add_one, hs]; rfl
      have e3 : (P.map tupI).take (i + 1) = (P.map tupI).take i ++ [tupI P[i]] := by rw [List.take_add_one, hpm]; rfl
      rw [e3]
      rfl
    · rw [List.drop_eq_nil_of_le (by omega)] at e1
      cases e1
  · rintro env st' ⟨i, x5, x6, x7, hi, rfl, e1, rfl⟩
    have hi2 : i = (setsI n).length := by
      by_cases hlt : i < (setsI n).length
      · rw [List.drop_eq_getElem_cons hlt, List.map_cons, enumD] at e1
        cases e1
      · omega
    subst hi2
    simp
    rw [s_sat (c := "Chooser") (ns := []) (vs := []) rfl]
    have ht : (P.map tupI).take (setsI n).length = P.map tupI := List.take_of_length_le (by simp [hP])
    simp [slotV, slotB, putS, ht]
    rw [s_sat (c := "Chooser") rfl]
    simp [slotV, slotB, putS]
    rw [s_sat (c := "Chooser") rfl]
    simp [slotV, slotB, putS]
    rw [s_sat (c := "Chooser") rfl]
    simp [slotV, slotB, putS, fnD, seqOf, rd]
    refine ⟨?_, rfl, _, _, _, rfl, q⟩
    simp [smallI]
    omega
end G78
set_option maxHeartbeats 1000000
namespace G78
open PySem (Str)
open DI
theorem good_mono {b c n : Int} : ∀ {s}, goodFrom c n s → b ≤ c → goodFrom b n s
  | [], _, _ => trivial
  | x :: xs, h, hb => ⟨by have := h.1; omega, h.2.1, h.2.2⟩
theorem good_filter {n : Int} (p : Int → Bool) : ∀ {s} {b : Int}, goodFrom b n s → goodFrom b n (s.filter p)
  | [], _, _ => trivial
  | x :: xs, b, h => by
    rw [List.filter_cons]
    split
    · exact ⟨h.1, h.2.1, good_filter p h.2.2⟩
    · exact good_mono (good_filter p h.2.2) (by have := h.1; omega)
theorem sets_good (n : Nat) (h : OkN n) : ∀ s ∈ setsI n, sortI s = s ∧ goodFrom (-1) n s ∧ s.length ≤ 5 := by
  rcases h with rfl | rfl | rfl | rfl <;> decide +kernel
theorem taken_valid {n : Nat} (h : OkN n) {s : List Int} (hs : s ∈ setsI n) (L : List (List Int)) : goodFrom (-1) n (takenI L s) ∧ ∀ x ∈ takenI L s, x ∈ s := by
  obtain ⟨h1, h2, _⟩ := sets_good n h s hs
  unfold takenI
  rw [h1]
  exact ⟨good_filter _ h2, fun x hx => (List.mem_filter.mp hx).1⟩
def chL (n : Nat) (L : List (List Int)) : D := chD n ((setsI n).map (takenI L))
theorem map_tupI_filter (S : List (List Int)) (f : List Int → List Int) : ((S.map tupI).filter fun _ => true).map (fun d => match d with | .tup t => (match intsOf t with | some s => tupI (f s) | none => .non) | _ => .non) = (S.map f).map tupI := by
  induction S with
  | nil => rfl
  | cons s S ih =>
    rw [List.map_cons, List.filter_cons, if_pos rfl, List.map_cons, ih]
    simp [tupI, intsOf_map]
theorem code_ok {k : Nat} (hk : 7 ≤ k) {n : Nat} (hn : OkN n) {st : Store} {rows : List D} {L : List (List Int)} {Q : D → Store → Prop} (hr : RowsR st rows L) (hlL : L.length < 100) (q : Q (chL n L) st) : Ok ((lv k).call 19 [.int n, .lst rows] st) Q := by
  refine call_ok (by omega) t19 rfl rfl fun j hj => ?_
  obtain ⟨hl1, hl2⟩ := sets_len n hn
  simp [b19, start, slotV, slotB]
  refine sets_ok (by omega) hn ?_
  refine cp_pure (xs := (setsI n).map tupI) rfl (by simp [whileFuel]; omega) (fun _ => true) (fun d => match d with | .tup t => (match intsOf t with | some s => tupI (takenI L s) | none => .non) | _ => .non) ?_ (fun l z => by cases z) ?_
  · intro d hd
    obtain ⟨s, hs, rfl⟩ := List.mem_map.mp hd
    have h5 := (sets_good n hn s hs).2.2
    refine ⟨_, rfl, rfl, fun _ => ev_of ?_⟩
    simp [b19_0, slotV, tupI, intsOf_map]
    refine taken_ok (by omega) hr (.inl rfl) hlL (by omega) ⟨?_, rfl⟩
    simp [tupI, intsOf_map]
  · rw [map_tupI_filter]
    refine ⟨by simp; omega, ?_⟩
    simp [fnD, seqOf, rd]
    rw [← List.map_map]
    refine init_ok (by omega) hn (by simp) (fun i s p hs hp => ?_) q
    rw [List.getElem?_map, hs] at hp
    cases hp
    exact taken_valid hn (List.mem_of_getElem? hs) L
theorem lookI_map (f : List Int → List Int) {s : List Int} : ∀ {S : List (List Int)}, s ∈ S → lookI s S ((S.map f).map tupI) = some (tupI (f s))
  | [], h => by cases h
  | t :: S, h => by
    rw [List.map_cons, List.map_cons, lookI]
    by_cases e : t = s
    · subst e; simp
    · rw [if_neg e]
      exact lookI_map f ((List.mem_cons.mp h).resolve_left (fun z => e z.symm))
theorem takenM_ok {k : Nat} (hk : 4 ≤ k) {n : Nat} (hn : OkN n) {L : List (List Int)} {s : List Int} {st : Store} {Q : D → Store → Prop} (hs : s ∈ setsI n) (q : Q (tupI (takenI L s)) st) : Ok ((lv k).call 7 [chL n L, tupI s] st) Q := by
  refine call_ok (by omega) t7 rfl rfl fun j hj => ?_
  simp [b7, start, slotV, slotB]
  simp [slotV, chL, chD, rd, lookS]
  refine isset_ok (k := j) (s := s) (by omega) (sets_good n hn s hs).2.1 ?_
  simp [slotV, chL, chD, rd, lookS, idxD, tupI, intsOf_map]
  have := lookI_map (takenI L) hs
  simp at this
  simp [this]
  exact q
theorem eqv_ints2 (a b : List Int) : PySem.PyData.eqv (.tuple (a.map .int)) (.tuple (b.map .int)) = decide (a = b) := by
  cases h : PySem.PyData.eqv (.tuple (a.map .int)) (.tuple (b.map .int)) with
  | true => exact (decide_eq_true (eqv_ints h)).symm
  | false =>
    refine (decide_eq_false fun e => ?_).symm
    subst e
    have : ∀ a : List Int, PySem.PyData.eqvAll (a.map .int) (a.map .int) = true := by
      intro a
      induction a with
      | nil => rfl
      | cons x xs ih => simp [PySem.PyData.eqvAll, PySem.PyData.eqv, ih]
    simp [PySem.PyData.eqv, this] at h
theorem toP_tupI {st : Store} (a : List Int) : toP 60 st (tupI a) = some (.tuple (a.map .int)) := by
  unfold tupI
  simp only [toP, toP_ints, Option.map_some]
theorem ne_tupI {st : Store} {a b : List Int} : cmpD st .ne (tupI a) (tupI b) = some (!decide (a = b)) := by
  simp only [cmpD, eqD, toP_tupI, Option.bind_eq_bind, Option.bind_some, Option.map_some, eqv_ints2]
def unl (Bs As : List (List (List Int))) (s : List Int) : Bool := (Bs.zip As).any fun p => !decide (takenI p.1 s = takenI p.2 s)
@[simp] theorem mid7 : tx.mid "Chooser" "taken" = some 7 := by kernel_rfl
@[simp] theorem mid6 : tx.mid "Chooser" "__len__" = some 6 := by kernel_rfl
theorem zipD_map (f : List (List Int) → D) : ∀ (Bs As : List (List (List Int))), zipD (Bs.map f) (As.map f) = (Bs.zip As).map fun p => .tup [f p.1, f p.2]
  | [], _ => by simp [zipD]
  | _ :: _, [] => by simp [zipD]
  | b :: Bs, a :: As => by simp [zipD, zipD_map f Bs As]
theorem ntk {n : Nat} {P : List (List Int)} : ∃ ns vs, chD n P = .ins "Chooser" ns vs ∧ lookS "taken" ns vs = none := ⟨_, _, rfl, by
  have h1 : (("offers" : Str) = "taken") = False := by decide
  have h2 : (("picks" : Str) = "taken") = False := by decide
  have h3 : (("table" : Str) = "taken") = False := by decide
  have h4 : (("places" : Str) = "taken") = False := by decide
  simp [lookS, h1, h2, h3, h4]⟩
theorem parts_ok {k : Nat} (hk : 6 ≤ k) {n : Nat} (hn : OkN n) {Bs As : List (List (List Int))} {s : List Int} {st : Store} {Q : D → Store → Prop} (hs : s ∈ setsI n) (hl : Bs.length ≤ 2) (q : Q (.bl (unl Bs As s)) st) :
    Ok ((lv k).call 8 [.tup (Bs.map (chL n)), .tup (As.map (chL n)), tupI s] st) Q := by
  refine call_ok (by omega) t8 rfl rfl fun j hj => ?_
  simp [b8, start, slotV, slotB]
  rw [zipD_map]
  refine cp_mapT (fun p => .bl (!decide (takenI p.1 s = takenI p.2 s))) (.inl rfl) (fun p _ => ⟨_, rfl, ev_of ?_⟩) ?_
  · simp [b8_0, slotV, slotB]
    obtain ⟨ns, vs, e, hn1⟩ := ntk (n := n) (P := (setsI n).map (takenI p.1))
    have hc : chL n p.1 = .ins "Chooser" ns vs := e
    obtain ⟨ns2, vs2, e2, hn2⟩ := ntk (n := n) (P := (setsI n).map (takenI p.2))
    have hc2 : chL n p.2 = .ins "Chooser" ns2 vs2 := e2
    rw [hc, m_ins (f := 7) hn1 (by simp)]
    simp [slotV]
    rw [← hc]
    refine takenM_ok (by omega) hn hs ?_
    try simp [slotV, slotB, slcD, rd]
    rw [hc2, m_ins (f := 7) hn2 (by simp)]
    simp [slotV]
    rw [← hc2]
    refine takenM_ok (by omega) hn hs ?_
    simp [ne_tupI]
  · refine ⟨by simp; omega, ?_⟩
    rw [any_map]
    simp
    exact q
end G78
set_option maxHeartbeats 1000000
namespace G78
open PySem (Str)
open DI
theorem rngD_len (n : Nat) : (rngD 0 n).length = n := by
  have : ∀ (k : Nat) (i : Int), (rngI i k).length = k := by
    intro k
    induction k with
    | zero => intro i; rfl
    | succ k ih => intro i; rw [rngI, List.length_cons, ih]
  simp [rngD, this]
theorem len_ch {k : Nat} (hk : 5 ≤ k) {n : Nat} (hn : OkN n) {L : List (List Int)} {st : Store} {Q : D → Store → Prop} (q : Q (.int n) st) : OkLen (lv k) st (chL n L) Q := by
  obtain ⟨j, rfl⟩ : ∃ j, k = j + 3 := ⟨k - 3, by omega⟩
  have h : Ok (runF tx.T (lev tx.T tx.mid tx.fld (j + 1)) 6 [chL n L] st) fun d s => d = .int n ∧ s = st := by
    refine run_ok t6 rfl rfl ?_
    simp [b6, start, slotV, slotB, chL, chD, lookS, rngD_len]
  have h2 := ok_eq h
  have h0 : (n : Int) < 2 ^ 63 := by
    rcases hn with rfl | rfl | rfl | rfl <;> decide
  exact (len_ins (f := 6) (by simp) h2 (Int.natCast_nonneg n) h0).mpr q
@[simp] theorem len_tupI {o : Orc} {st : Store} {s : List Int} {Q : D → Store → Prop} : OkLen o st (tupI s) Q ↔ Q (.int s.length) st := by
  unfold tupI
  simp
theorem come_comp {o : Orc} {s : List Int} {tg : Tg} {env : Env} {st : Store} {Q : D → Store → Prop} {el : Env → Store → Res} (hs : s.length ≤ 100) (h : ∀ x : Int, ∃ env1, tgSet tg (.int x) env = some env1 ∧ el env1 st = some (.ok (.tup [.str "come", .int x]), st)) (q : Q (.tup (s.map fun x => .tup [.str "come", .int x])) st) :
    OkCp el (fun _ st => some (.ok (.bl true), st)) tg env (tupI s) st fun ds st => lineOk ds.length = true ∧ OkO (fnD st .tuple (.lst ds)) fun d => Q d st :=
  cp_mapT (fun x => .tup [.str "come", .int x]) (.inr rfl) (fun x _ => h x) ⟨by simp; omega, by simp [fnD, seqOf, rd]; exact q⟩
/-- same_offers passes -/
theorem same_ok {k : Nat} (hk : 6 ≤ k) {n : Nat} (hn : OkN n) {C : List (List (List Int))} {st : Store} {Q : D → Store → Prop} (q : Q .non st) : Ok ((lv k).call 3 [.lst (C.map (chL n))] st) Q := by
  refine call_ok (by omega) t3 rfl rfl fun j hj => ?_
  simp [b3, start, slotV, slotB]
  obtain ⟨I, hI⟩ : ∃ I : List D → Env → Store → Prop, ∀ rem env st', I rem env st' ↔ ∃ done left x1, C = done ++ left ∧ rem = left.map (chL n) ∧ st' = st ∧ env = [.val (.lst (C.map (chL n))), x1] := ⟨_, fun _ _ _ => Iff.rfl⟩
  refine (for_inv I ((hI _ _ _).mpr ⟨[], C, .no, rfl, rfl, rfl, rfl⟩) ?_ ?_).1
  · rintro x xs env st' h
    obtain ⟨done, left, x1, e1, e2, rfl, rfl⟩ := (hI _ _ _).mp h
    cases left with
    | nil => cases e2
    | cons c left =>
      cases e2
      refine ⟨_, rfl, ?_⟩
      have h0 : ∃ c0 C0, C = c0 :: C0 := by
        cases C with
        | nil => simp at e1
        | cons c0 C0 => exact ⟨c0, C0, rfl⟩
      obtain ⟨c0, C0, e3⟩ := h0
      simp [b3_0, slotV, slotB]
      refine len_ch (by omega) hn ?_
      simp [slotV, slotB, e3, idxD, rd, L2.atI, L2.ixN]
      refine len_ch (by omega) hn ?_
      simp
      try simp [slotV, slotB, slcD, rd]
      exact (hI _ _ _).mpr ⟨done ++ [c], left, _, by rw [e1]; simp, rfl, rfl, by first | rfl | (rw [e3]; done) | (rw [e3]; rfl)⟩
  · rintro env st' h
    obtain ⟨done, left, x1, e1, e2, rfl, rfl⟩ := (hI _ _ _).mp h
    simp
    exact q
def comeT (s : List Int) : D := .tup (s.map fun x => .tup [.str "come", .int x])
def dueD (n : Nat) (room : Int) (Bs As : List (List (List Int))) : Option (List Int) := (setsI n).find? fun s => decide ((s.length : Int) ≤ room) && unl Bs As s
def dueV : Option (List Int) → D
  | some s => comeT s
  | none => .non
theorem lst_add {st : Store} {a b : List D} (ha : a.length < 100) (hb : b.length < 100) : binD st .add (.lst a) (.lst b) = some (.lst (a ++ b)) := by
  have : lineOk (a.length + b.length) = true := by simp; omega
  simp [binD, rd, this]
theorem first_ok {k : Nat} (hk : 8 ≤ k) {n : Nat} (hn : OkN n) {room : Int} {Bs As : List (List (List Int))} {st : Store} {Q : D → Store → Prop} (hb : Bs ≠ []) (hl : Bs.length ≤ 2) (hl2 : As.length ≤ 2) (q : Q (dueV (dueD n room Bs As)) st) :
    Ok ((lv k).call 9 [.int room, .tup (Bs.map (chL n)), .tup (As.map (chL n))] st) Q := by
  refine call_ok (by omega) t9 rfl rfl fun j hj => ?_
  obtain ⟨b0, B0, e0⟩ : ∃ b0 B0, Bs = b0 :: B0 := by
    cases Bs with
    | nil => exact absurd rfl hb
    | cons b B => exact ⟨b, B, rfl⟩
  simp [b9, start, slotV, slotB, fnD, seqOf, rd]
  rw [lst_add (by simp; omega) (by simp; omega), okO_some]
  try simp [slotV, slotB, slcD, rd]
  rw [← List.map_append]
  refine same_ok (by omega) hn ?_
  simp [slotV, slotB, e0, idxD, rd, L2.atI, L2.ixN]
  refine len_ch (by omega) hn ?_
  try simp [slotV, slotB, slcD, rd]
  refine all_ok (by omega) hn ?_
  rw [show chL n b0 :: List.map (chL n) B0 = Bs.map (chL n) by rw [e0]; rfl]
  obtain ⟨I, hI⟩ : ∃ I : List D → Env → Store → Prop, ∀ rem env st', I rem env st' ↔ ∃ done left x3 x4, setsI n = done ++ left ∧ rem = left.map tupI ∧ st' = st ∧ (∀ s ∈ done, (decide ((s.length : Int) ≤ room) && unl Bs As s) = false) ∧ env = [.val (.int room), .val (.tup (Bs.map (chL n))), .val (.tup (As.map (chL n))), x3, x4] := ⟨_, fun _ _ _ => Iff.rfl⟩
  refine (for_inv I ((hI _ _ _).mpr ⟨[], setsI n, .no, .no, rfl, rfl, rfl, fun _ h => (by cases h), rfl⟩) ?_ ?_).2
  · rintro x xs env st' h
    obtain ⟨done, left, x3, x4, e1, e2, rfl, hd, rfl⟩ := (hI _ _ _).mp h
    cases left with
    | nil => cases e2
    | cons s left =>
      cases e2
      refine ⟨_, rfl, ?_⟩
      have hs : s ∈ setsI n := by rw [e1]; simp
      simp [b9_1, slotV, slotB]
      have hlen := (sets_good n hn s hs).2.2
      have stay : (decide ((s.length : Int) ≤ room) && unl Bs As s) = false → ∀ x4, I (left.map tupI) [.val (.int room), .val (.tup (Bs.map (chL n))), .val (.tup (As.map (chL n))), .val (tupI s), x4] st' := fun hf x4 =>
        (hI _ _ _).mpr ⟨done ++ [s], left, _, _, by rw [e1]; simp, rfl, rfl, fun t ht => by
          rcases List.mem_append.mp ht with ht | ht
          · exact hd t ht
          · rw [List.mem_singleton.mp ht]; exact hf, rfl⟩
      rw [byB_bl]
      refine ⟨fun h1 => ?_, fun h1 => ?_⟩
      rotate_left
      · try simp [slotV, slotB]
        exact stay (by rw [h1]; rfl) x4
      try simp [slotV, slotB]
      refine parts_ok (by omega) hn hs hl ?_
      rw [ifB_bl]
      refine ⟨fun h2 => ?_, fun h2 => ?_⟩
      rotate_left
      · try simp [slotV, slotB]
        exact stay (by rw [h2, Bool.and_false]) x4
      try simp [slotV, slotB]
      try simp [slotV, slotB, slcD, rd]
      refine come_comp (o := lv j) (by omega) (fun x => ⟨_, rfl, by simp [b9_0, evalE, evalL, slotV, lineOk]⟩) ?_
      try simp
      have : dueD n room Bs As = some s := by
        unfold dueD
        rw [e1, List.find?_append, List.find?_eq_none.mpr fun t ht => by rw [hd t ht]; exact Bool.false_ne_true]
        simp [h2]
        exact .inl (of_decide_eq_true h1)
      rw [this] at q
      exact q
  · rintro env st' h
    obtain ⟨done, left, x3, x4, e1, e2, rfl, hd, rfl⟩ := (hI _ _ _).mp h
    cases left with
    | cons s left => cases e2
    | nil =>
      simp
      have : dueD n room Bs As = none := by
        unfold dueD
        rw [List.find?_eq_none]
        intro s hs
        rw [e1] at hs
        simp only [List.append_nil] at hs
        rw [hd s hs]
        exact Bool.false_ne_true
      rw [this] at q
      exact q
end G78
set_option maxHeartbeats 1000000
namespace G78
open PySem (Str)
open DI
theorem shown_ok {k : Nat} (hk : 9 ≤ k) {n : Nat} (hn : OkN n) {room : Int} {Bs As : List (List (List Int))} {st : Store} {Q : D → Store → Prop} (hb : Bs ≠ []) (hl : Bs.length ≤ 2) (hl2 : As.length ≤ 2) (q : Q (.bl (dueD n room Bs As).isSome) st) :
    Ok ((lv k).call 10 [.int room, .tup (Bs.map (chL n)), .tup (As.map (chL n))] st) Q := by
  refine call_ok (by omega) t10 rfl rfl fun j hj => ?_
  simp [b10, start, slotV, slotB]
  refine first_ok (by omega) hn hb hl hl2 ?_
  cases h : dueD n room Bs As with
  | none => rw [h] at q; simp [dueV, cmpD, isNon]; exact q
  | some s => rw [h] at q; simp [dueV, comeT, cmpD, isNon]; exact q
/-! ### the world -/
def LR (st : Store) (d : D) (L : List (List Int)) : Prop := ∃ rows, d = .lst rows ∧ RowsR st rows L ∧ L.length < 100
def LsR (st : Store) : List D → List (List (List Int)) → Prop
  | [], [] => True
  | d :: ds, L :: Ls => LR st d L ∧ LsR st ds Ls
  | _, _ => False
def wD (n : Nat) (room : Int) (Bd Ad : List D) : D := .dic ["offers", "before", "after", "room"] [.int n, .lst Bd, .lst Ad, .int room]
@[simp] theorem s10 : (("offers" : Str) = "before") = False := by decide
@[simp] theorem s11 : (("offers" : Str) = "after") = False := by decide
@[simp] theorem s12 : (("offers" : Str) = "room") = False := by decide
@[simp] theorem s13 : (("before" : Str) = "after") = False := by decide
@[simp] theorem s14 : (("before" : Str) = "room") = False := by decide
@[simp] theorem s15 : (("after" : Str) = "room") = False := by decide
@[simp] theorem w_off {st n room Bd Ad} : idxD st (wD n room Bd Ad) (.str "offers") = some (.int n) := by simp [idxD, rd, wD, lookS]
@[simp] theorem w_bef {st n room Bd Ad} : idxD st (wD n room Bd Ad) (.str "before") = some (.lst Bd) := by simp [idxD, rd, wD, lookS]
@[simp] theorem w_aft {st n room Bd Ad} : idxD st (wD n room Bd Ad) (.str "after") = some (.lst Ad) := by simp [idxD, rd, wD, lookS]
@[simp] theorem w_room {st n room Bd Ad} : idxD st (wD n room Bd Ad) (.str "room") = some (.int room) := by simp [idxD, rd, wD, lookS]
theorem unlike_ok {k : Nat} (hk : 3 ≤ k) {n : Nat} {room : Int} {Bd Ad : List D} {Bs As : List (List (List Int))} {sd : D} {s : List Int} {st : Store} {Q : D → Store → Prop} (hB : LsR st Bd Bs) (hA : LsR st Ad As) (hs : SeqI sd s) (hls : s.length < 100)
    (q : Q (.bl (unl Bs As s)) st) : Ok ((lv k).call 21 [wD n room Bd Ad, sd] st) Q := by
  refine call_ok (by omega) t21 rfl rfl fun j hj => ?_
  simp [b21, start, slotV, slotB]
  obtain ⟨I, hI⟩ : ∃ I : List D → Env → Store → Prop, ∀ rem env st', I rem env st' ↔ ∃ Bd' Ad' Bs' As' x2 x3, rem = zipD Bd' Ad' ∧ LsR st Bd' Bs' ∧ LsR st Ad' As' ∧ st' = st ∧ unl Bs As s = unl Bs' As' s ∧ env = [.val (wD n room Bd Ad), .val sd, x2, x3] := ⟨_, fun _ _ _ => Iff.rfl⟩
  refine (for_inv I ((hI _ _ _).mpr ⟨Bd, Ad, Bs, As, .no, .no, rfl, hB, hA, rfl, rfl, rfl⟩) ?_ ?_).1
  · intro x xs env st' h
    obtain ⟨Bd', Ad', Bs', As', x2, x3, e1, h1, h2, rfl, e2, rfl⟩ := (hI _ _ _).mp h
    cases Bd' with
    | nil => simp [zipD] at e1
    | cons bd Bd' =>
      cases Ad' with
      | nil => simp [zipD] at e1
      | cons ad Ad' =>
        cases e1
        cases Bs' with
        | nil => exact h1.elim
        | cons b Bs' =>
          cases As' with
          | nil => exact h2.elim
          | cons a As' =>
            obtain ⟨⟨r1, rfl, hr1, hl1⟩, h1⟩ := h1
            obtain ⟨⟨r2, rfl, hr2, hl2⟩, h2⟩ := h2
            refine ⟨_, rfl, ?_⟩
            simp [b21_0, slotV, slotB]
            refine taken_ok (by omega) hr1 hs hl1 hls ?_
            refine taken_ok (by omega) hr2 hs hl2 hls ?_
            have e3 : unl (b :: Bs') (a :: As') s = (!decide (takenI b s = takenI a s) || unl Bs' As' s) := by simp [unl]
            rw [e3] at e2
            simp [ne_tupI]
            rw [ifB_bl]
            refine ⟨fun h3 => ?_, fun h3 => ?_⟩
            · rw [e2, h3] at q
              simp
              exact q
            · try simp
              exact (hI _ _ _).mpr ⟨Bd', Ad', Bs', As', _, _, rfl, h1, h2, rfl, by rw [e2, h3]; rfl, rfl⟩
  · intro env st' h
    obtain ⟨Bd', Ad', Bs', As', x2, x3, e1, h1, h2, rfl, e2, rfl⟩ := (hI _ _ _).mp h
    have : unl Bs' As' s = false := by
      cases Bd' with
      | nil => cases Bs' with
        | nil => rfl
        | cons _ _ => exact h1.elim
      | cons bd Bd' => cases Ad' with
        | nil => cases As' with
          | nil => simp [unl]
          | cons _ _ => exact h2.elim
        | cons ad Ad' => simp [zipD] at e1
    rw [e2, this] at q
    simp
    exact q
/-! ### items, things -/
def goodI (n : Int) : D → Bool
  | .tup [.str x, .int i] => decide (x = "come") && decide (0 ≤ i) && decide (i < n)
  | _ => false
/-- the items that are asked -/
inductive ItemOk : D → Prop
  | non : ItemOk .non
  | int (i : Int) : ItemOk (.int i)
  | str (x : Str) : ItemOk (.str x)
  | lst (ds : List D) : ItemOk (.lst ds)
  | tup (ds : List D) : ds.length ≠ 2 → ItemOk (.tup ds)
  | tt (t : List D) (b : D) : ItemOk (.tup [.tup t, b])
  | si (x : Str) (i : Int) : PySem.PyData.strOk x = true → ItemOk (.tup [.str x, .int i])
  | sb (x : Str) (i : Bool) : PySem.PyData.strOk x = true → ItemOk (.tup [.str x, .bl i])
  | ss (x y : Str) : PySem.PyData.strOk x = true → ItemOk (.tup [.str x, .str y])
  | sn (x : Str) : PySem.PyData.strOk x = true → ItemOk (.tup [.str x, .non])
theorem eq_str {st : Store} {x y : Str} (hx : PySem.PyData.strOk x = true) (hy : PySem.PyData.strOk y = true) : cmpD st .eq (.str x) (.str y) = some (decide (x = y)) := by
  simp [cmpD, eqD, toP, hx, hy, PySem.PyData.eqv, Bool.beq_eq_decide_eq]
theorem ne_str {st : Store} {x y : Str} (hx : PySem.PyData.strOk x = true) (hy : PySem.PyData.strOk y = true) : cmpD st .ne (.str x) (.str y) = some (!decide (x = y)) := by
  simp [cmpD, eqD, toP, hx, hy, PySem.PyData.eqv, Bool.beq_eq_decide_eq]
theorem come_str : PySem.PyData.strOk "come" = true := by decide +kernel
theorem whole_bl {k : Nat} (hk : 2 ≤ k) {i : Bool} {st : Store} {Q : D → Store → Prop} (q : Q (.bl false) st) : Ok ((lv k).call 0 [.bl i] st) Q := by
  refine call_ok hk t0 rfl rfl fun j _ => ?_
  simp [b0, start, slotV, isTy, rd, tyD]
  exact q
theorem whole_str {k : Nat} (hk : 2 ≤ k) {i : Str} {st : Store} {Q : D → Store → Prop} (q : Q (.bl false) st) : Ok ((lv k).call 0 [.str i] st) Q := by
  refine call_ok hk t0 rfl rfl fun j _ => ?_
  simp [b0, start, slotV, isTy, rd, tyD]
  exact q
theorem whole_non {k : Nat} (hk : 2 ≤ k) {st : Store} {Q : D → Store → Prop} (q : Q (.bl false) st) : Ok ((lv k).call 0 [.non] st) Q := by
  refine call_ok hk t0 rfl rfl fun j _ => ?_
  simp [b0, start, slotV, isTy, rd]
  exact q
theorem comes_ok {k : Nat} (hk : 3 ≤ k) {n : Nat} {d : D} {st : Store} {Q : D → Store → Prop} (h : ItemOk d) (q : Q (.bl (goodI n d)) st) : Ok ((lv k).call 11 [.int n, d] st) Q := by
  refine call_ok (by omega) t11 rfl rfl fun j hj => ?_
  cases h with
  | non => simp [b11, start, slotV, slotB, isTy, rd]; exact q
  | int i => simp [b11, start, slotV, slotB, isTy, rd, tyD]; exact q
  | str i => simp [b11, start, slotV, slotB, isTy, rd, tyD]; exact q
  | lst i => simp [b11, start, slotV, slotB, isTy, rd, tyD]; exact q
  | tup ds hl =>
    have : ¬ ((ds.length : Int) = 2) := by omega
    simp [b11, start, slotV, slotB, isTy, rd, tyD, this]
    have e : goodI n (.tup ds) = false := by
      unfold goodI
      split
      · rename_i e; cases e; simp at hl
      · rfl
    rw [e] at q
    exact q
  | tt t b => simp [b11, start, slotV, slotB, isTy, rd, tyD, idxD, L2.atI, L2.ixN]; exact q
  | si x i hx =>
    simp [b11, start, slotV, slotB, isTy, rd, tyD, idxD, L2.atI, L2.ixN, eq_str hx come_str]
    rw [byB_bl]
    refine ⟨fun h1 => ?_, fun h1 => ?_⟩
    · simp [slotV, slotB, idxD, rd, L2.atI, L2.ixN]
      refine whole_int (by omega) ?_
      simp [slotV, slotB, idxD, rd, L2.atI, L2.ixN]
      have h1 := of_decide_eq_true h1
      subst h1
      rw [byB_bl]
      refine ⟨fun h2 => ?_, fun h2 => ?_⟩
      · simp [goodI, of_decide_eq_true h2] at q
        simp [slotV, slotB, cmpD]
        exact q
      · have h3 := of_decide_eq_false h2
        simp [goodI, h3] at q
        try simp
        exact q
    · have h3 := of_decide_eq_false h1
      simp [goodI, h3] at q
      try simp
      exact q
  | sb x i hx =>
    simp [b11, start, slotV, slotB, isTy, rd, tyD, idxD, L2.atI, L2.ixN, eq_str hx come_str]
    rw [byB_bl]
    refine ⟨fun h1 => ?_, fun h1 => ?_⟩
    · simp [slotV, slotB, idxD, rd, L2.atI, L2.ixN]
      refine whole_bl (by omega) ?_
      simp
      exact q
    · try simp
      exact q
  | ss x y hx =>
    simp [b11, start, slotV, slotB, isTy, rd, tyD, idxD, L2.atI, L2.ixN, eq_str hx come_str]
    rw [byB_bl]
    refine ⟨fun h1 => ?_, fun h1 => ?_⟩
    · simp [slotV, slotB, idxD, rd, L2.atI, L2.ixN]
      refine whole_str (by omega) ?_
      simp
      exact q
    · try simp
      exact q
  | sn x hx =>
    simp [b11, start, slotV, slotB, isTy, rd, tyD, idxD, L2.atI, L2.ixN, eq_str hx come_str]
    rw [byB_bl]
    refine ⟨fun h1 => ?_, fun h1 => ?_⟩
    · simp [slotV, slotB, idxD, rd, L2.atI, L2.ixN]
      refine whole_non (by omega) ?_
      simp
      exact q
    · try simp
      exact q
end G78
set_option maxHeartbeats 1000000
namespace G78
open PySem (Str)
open DI
@[simp] theorem fn_listT {st : Store} {ds : List D} : fnD st .list (.tup ds) = some (.lst ds) := rfl
@[simp] theorem fn_tupL {st : Store} {ds : List D} : fnD st .tuple (.lst ds) = some (.tup ds) := rfl
@[simp] theorem idx_p0 {st : Store} {a b : D} : idxD st (.tup [a, b]) (.int 0) = some a := rfl
@[simp] theorem idx_p1 {st : Store} {a b : D} : idxD st (.tup [a, b]) (.int 1) = some b := rfl
def secI : D → Int
  | .tup [.str _, .int i] => i
  | _ => 0
theorem good_form {n : Int} {d : D} (h : goodI n d = true) : ∃ i, d = .tup [.str "come", .int i] ∧ 0 ≤ i ∧ i < n := by
  unfold goodI at h
  split at h
  · rename_i x i
    simp only [Bool.and_eq_true, decide_eq_true_eq] at h
    obtain ⟨⟨rfl, h1⟩, h2⟩ := h
    exact ⟨i, rfl, h1, h2⟩
  · cases h
def Ok3 (n : Nat) : Prop := n = 2 ∨ n = 3 ∨ n = 4
theorem Ok3.ok {n : Nat} (h : Ok3 n) : OkN n := by
  rcases h with rfl | rfl | rfl
  · exact .inl rfl
  · exact .inr (.inl rfl)
  · exact .inr (.inr (.inl rfl))
theorem sets_filter {n : Nat} (h : Ok3 n) (p : Int → Bool) : (rngI 0 n).filter p ∈ setsI n := by
  rcases h with rfl | rfl | rfl
  · show ([0, 1] : List Int).filter p ∈ setsI 2
    simp only [List.filter]
    cases p 0 <;> cases p 1 <;> decide +kernel
  · show ([0, 1, 2] : List Int).filter p ∈ setsI 3
    simp only [List.filter]
    cases p 0 <;> cases p 1 <;> cases p 2 <;> decide +kernel
  · show ([0, 1, 2, 3] : List Int).filter p ∈ setsI 4
    simp only [List.filter]
    cases p 0 <;> cases p 1 <;> cases p 2 <;> cases p 3 <;> decide +kernel
def someI (n : Nat) (ds : List D) : List Int := (rngI 0 n).filter fun x => decide (x ∈ ds.map secI)
def isOne (n : Nat) (room : Int) (Bs As : List (List (List Int))) : D → Bool
  | .tup ds => ds.all (goodI n) && (decide (((someI n ds).length : Int) ≤ room) && unl Bs As (someI n ds))
  | _ => false
/-- the values that are asked -/
inductive ThingOk : D → Prop
  | non : ThingOk .non
  | int (i : Int) : ThingOk (.int i)
  | bl (i : Bool) : ThingOk (.bl i)
  | str (x : Str) : ThingOk (.str x)
  | lst (ds : List D) : ThingOk (.lst ds)
  | dic (ks : List Str) (ds : List D) : ThingOk (.dic ks ds)
  | tup (ds : List D) : (∀ d ∈ ds, ItemOk d) → ds.length < 1000 → ThingOk (.tup ds)
theorem some_comp {n : Nat} (hn : OkN n) {ds : List D} {tg : Tg} {env : Env} {st : Store} {el cd : Env → Store → Res} (h : ∀ x : Int, ∃ env1, tgSet tg (.int x) env = some env1 ∧ cd env1 st = some (.ok (.bl (decide (x ∈ ds.map secI))), st) ∧ el env1 st = some (.ok (.int x), st))
    {Q : List D → Store → Prop} (q : Q ((someI n ds).map .int) st) : OkCp el cd tg env (.lst (rngD 0 n)) st Q := by
  refine cp_map (l := rngI 0 n) (g := D.int) (fun x => decide (x ∈ ds.map secI)) D.int (.inl ?_) (fun x _ => ?_) q
  · simp [rngD]
  · obtain ⟨env1, h1, h2, h3⟩ := h x
    exact ⟨env1, h1, h2, fun _ => h3⟩
theorem some_len {n : Nat} (hn : OkN n) (ds : List D) : (someI n ds).length ≤ 5 := by
  have h1 := List.length_filter_le (fun x => decide (x ∈ ds.map secI)) (rngI 0 n)
  have h2 : (rngI 0 n).length ≤ 5 := by rcases hn with rfl | rfl | rfl | rfl <;> decide
  unfold someI
  omega
theorem small_n {n : Nat} (hn : OkN n) : (smallI n && lineOk (n : Int).toNat) = true := by
  rcases hn with rfl | rfl | rfl | rfl <;> decide
theorem holds_ok {k : Nat} (hk : 9 ≤ k) {n : Nat} (hn : Ok3 n) {room : Int} {Bs As : List (List (List Int))} {d : D} {st : Store} {Q : D → Store → Prop} (hb : Bs ≠ []) (hl : Bs.length ≤ 2) (hl2 : As.length ≤ 2) (ht : ThingOk d) (q : Q (.bl (isOne n room Bs As d)) st) :
    Ok ((lv k).call 12 [.int room, .tup (Bs.map (chL n)), .tup (As.map (chL n)), d] st) Q := by
  refine call_ok (by omega) t12 rfl rfl fun j hj => ?_
  obtain ⟨b0, B0, e0⟩ : ∃ b0 B0, Bs = b0 :: B0 := by
    cases Bs with
    | nil => exact absurd rfl hb
    | cons b B => exact ⟨b, B, rfl⟩
  simp [b12, start, slotV, slotB]
  rw [lst_add (by simp; omega) (by simp; omega), okO_some]
  try simp [slotV, slotB, slcD, rd]
  rw [← List.map_append]
  refine same_ok (by omega) hn.ok ?_
  simp [slotV, slotB, e0, idxD, rd, L2.atI, L2.ixN]
  refine len_ch (by omega) hn.ok ?_
  rw [show chL n b0 :: List.map (chL n) B0 = Bs.map (chL n) by rw [e0]; rfl]
  cases ht with
  | non => simp [slotV, isTy, rd]; exact q
  | int i => simp [slotV, isTy, rd, tyD]; exact q
  | bl i => simp [slotV, isTy, rd, tyD]; exact q
  | str x => simp [slotV, isTy, rd, tyD]; exact q
  | lst ds => simp [slotV, isTy, rd, tyD]; exact q
  | dic ks ds => simp [slotV, isTy, rd, tyD]; exact q
  | tup ds hi hlen =>
    simp [slotV, slotB, isTy, rd, tyD]
    refine cp_mapT (l := ds) (g := fun d => d) (fun d => .bl (goodI n d)) (.inr (by simp)) (fun d hd => ⟨_, rfl, ev_of ?_⟩) ?_
    · simp [b12_0, slotV]
      exact comes_ok (by omega) (hi d hd) ⟨rfl, rfl⟩
    · refine ⟨by simp; omega, ?_⟩
      rw [all_map]
      simp
      rw [ifB_bl]
      refine ⟨fun h1 => ?_, fun h1 => ?_⟩
      · have h2 : ds.all (goodI n) = false := by simpa using h1
        have : isOne n room Bs As (.tup ds) = false := by
          show (ds.all (goodI n) && _) = false
          rw [h2]; rfl
        rw [this] at q
        simp
        exact q
      · have h2 : ds.all (goodI n) = true := by simpa using h1
        have h3 := List.all_eq_true.mp h2
        simp [slotV, slotB]
        refine cp_mapT (l := ds) (g := fun d => d) (fun d => .int (secI d)) (.inr (by simp)) (fun d hd => ⟨_, rfl, ev_of ?_⟩) ?_
        · obtain ⟨i, rfl, _⟩ := good_form (h3 d hd)
          simp [b12_1, slotV, slotB, idxD, rd, L2.atI, L2.ixN, secI]
        · refine ⟨by simp; omega, ?_⟩
          have ec : (ds.map fun d => D.int (secI d)) = (ds.map secI).map .int := by rw [List.map_map]; rfl
          rw [ec]
          have hsm := small_n hn.ok
          simp at hsm
          have h5 := some_len hn.ok ds
          have h6 : someI n ds ∈ setsI n := sets_filter hn _
          simp [slotV, slotB]
          refine ⟨⟨hsm.1, by omega⟩, some_comp (ds := ds) hn.ok (fun x => ⟨_, rfl, ?_, by simp [b12_2, evalE, slotV]⟩) ?_⟩
          · simp [b12_3, evalE, lend, slotB, slotV, lendable, cmpD]
            rw [← List.map_map, in_lst]
            simp
          · simp
            refine ⟨by omega, ?_⟩
            have e1 : isOne n room Bs As (.tup ds) = (decide (((someI n ds).length : Int) ≤ room) && unl Bs As (someI n ds)) := by
              show (ds.all (goodI n) && _) = _
              rw [h2]; rfl
            rw [e1] at q
            simp [slotV, slotB]
            rw [byB_bl]
            refine ⟨fun h7 => ?_, fun h7 => ?_⟩
            · simp [slotV, slotB]
              refine parts_ok (s := someI n ds) (by omega) hn.ok h6 hl ?_
              rw [h7] at q
              try simp
              exact q
            · rw [h7] at q
              try simp
              exact q
theorem one_ok {k : Nat} (hk : 5 ≤ k) {n : Nat} (hn : Ok3 n) {room : Int} {Bd Ad : List D} {Bs As : List (List (List Int))} {d : D} {st : Store} {Q : D → Store → Prop} (hB : LsR st Bd Bs) (hA : LsR st Ad As) (ht : ThingOk d) (q : Q (.bl (isOne n room Bs As d)) st) :
    Ok ((lv k).call 22 [wD n room Bd Ad, d] st) Q := by
  refine call_ok (by omega) t22 rfl rfl fun j hj => ?_
  cases ht with
  | non => simp [b22, start, slotV, isTy, rd]; exact q
  | int i => simp [b22, start, slotV, isTy, rd, tyD]; exact q
  | bl i => simp [b22, start, slotV, isTy, rd, tyD]; exact q
  | str x => simp [b22, start, slotV, isTy, rd, tyD]; exact q
  | lst ds => simp [b22, start, slotV, isTy, rd, tyD]; exact q
  | dic ks ds => simp [b22, start, slotV, isTy, rd, tyD]; exact q
  | tup ds hi hlen =>
    simp [b22, start, slotV, slotB, isTy, rd, tyD, fresh, ownable]
    obtain ⟨I, hI⟩ : ∃ I : List D → Env → Store → Prop, ∀ rem env st', I rem env st' ↔ ∃ done x3 x4 x5, ds = done ++ rem ∧ done.all (goodI n) = true ∧ st' = st ∧ env = [.val (wD n room Bd Ad), .val (.tup ds), .own (.lst ((done.map secI).map .int)), x3, x4, x5] := ⟨_, fun _ _ _ => Iff.rfl⟩
    refine (for_inv I ((hI _ _ _).mpr ⟨[], .no, .no, .no, rfl, rfl, rfl, rfl⟩) ?_ ?_).2
    · intro x xs env st' h
      obtain ⟨done, x3, x4, x5, e1, hd, rfl, rfl⟩ := (hI _ _ _).mp h
      refine ⟨_, rfl, ?_⟩
      have hx : x ∈ ds := by rw [e1]; simp
      have hlen2 : done.length < 1000 := by rw [e1] at hlen; simp at hlen; omega
      have bad : goodI n x = false → Q (.bl false) st' := fun hg => by
        have : ds.all (goodI n) = false := by rw [e1]; simp [hg]
        have e2 : isOne n room Bs As (.tup ds) = false := by
          show (ds.all (goodI n) && _) = false
          rw [this]; rfl
        rw [e2] at q
        exact q
      have good : ∀ i, x = .tup [.str "come", .int i] → goodI n x = true → I xs [.val (wD n room Bd Ad), .val (.tup ds), .own (.lst ((done.map secI).map .int ++ [.int i])), .val x, x4, x5] st' := fun i ei hg =>
        (hI _ _ _).mpr ⟨done ++ [x], _, _, _, by rw [e1]; simp, by rw [List.all_append, hd]; simp [hg], rfl, by rw [List.map_append, List.map_append, ei]; rfl⟩
      cases hi x hx with
      | non => simp [b22_0, slotV, slotB, isTy, rd]; exact bad rfl
      | int i => simp [b22_0, slotV, slotB, isTy, rd, tyD]; exact bad rfl
      | str i => simp [b22_0, slotV, slotB, isTy, rd, tyD]; exact bad rfl
      | lst i => simp [b22_0, slotV, slotB, isTy, rd, tyD]; exact bad rfl
      | tup es hl =>
        have : ¬ ((es.length : Int) = 2) := by omega
        simp [b22_0, slotV, slotB, isTy, rd, tyD, this]
        refine bad ?_
        unfold goodI
        split
        · rename_i e; cases e; simp at hl
        · rfl
      | tt t b => simp [b22_0, slotV, slotB, isTy, rd, tyD]; exact bad rfl
      | si y i hy =>
        simp [b22_0, slotV, slotB, isTy, rd, tyD, ne_str hy come_str]
        rw [ifB_bl]
        refine ⟨fun h1 => ?_, fun h1 => ?_⟩
        · have h1 : ¬ y = "come" := by simpa using h1
          simp
          exact bad (by simp [goodI, h1])
        · have h1 : y = "come" := by simpa using h1
          subst h1
          simp [slotV, slotB, isTy, rd, tyD]
          rw [byB_bl]
          refine ⟨fun h2 => ?_, fun h2 => ?_⟩
          · simp [slotV, slotB]
            rw [ifB_bl]
            refine ⟨fun h3 => ?_, fun h3 => ?_⟩
            · have h3 : ¬ i < n := by simpa using h3
              simp
              exact bad (by simp [goodI, h3])
            · have h3 : i < n := by simpa using h3
              have h2 := of_decide_eq_true h2
              try simp
              rw [s_app (ds := done.map (D.int ∘ secI)) rfl]
              simp [slotV, slotB]
              refine ⟨by omega, ?_⟩
              have := good i rfl (by simp [goodI, h2, h3])
              simp at this
              exact this
          · have h2 := of_decide_eq_false h2
            simp [slotV, slotB]
            exact bad (by simp [goodI, h2])
      | sb y i hy =>
        simp [b22_0, slotV, slotB, isTy, rd, tyD, ne_str hy come_str]
        rw [ifB_bl]
        refine ⟨fun h1 => ?_, fun h1 => ?_⟩ <;> simp [slotV, slotB, isTy, rd, tyD] <;> exact bad rfl
      | ss y z hy =>
        simp [b22_0, slotV, slotB, isTy, rd, tyD, ne_str hy come_str]
        rw [ifB_bl]
        refine ⟨fun h1 => ?_, fun h1 => ?_⟩ <;> simp [slotV, slotB, isTy, rd, tyD] <;> exact bad rfl
      | sn y hy =>
        simp [b22_0, slotV, slotB, isTy, rd, tyD, ne_str hy come_str]
        rw [ifB_bl]
        refine ⟨fun h1 => ?_, fun h1 => ?_⟩ <;> simp [slotV, slotB, isTy, rd, tyD] <;> exact bad rfl
    · intro env st' h
      obtain ⟨done, x3, x4, x5, e1, hd, rfl, rfl⟩ := (hI _ _ _).mp h
      simp at e1
      subst e1
      have hsm := small_n hn.ok
      simp at hsm
      have h5 := some_len hn.ok ds
      simp [slotV, slotB]
      refine ⟨⟨hsm.1, by omega⟩, some_comp (ds := ds) hn.ok (fun x => ⟨_, rfl, ?_, by simp [b22_1, evalE, slotV]⟩) ?_⟩
      · simp [b22_2, evalE, lend, slotB, slotV, lendable, cmpD]
        rw [← List.map_map, in_lst]
        simp
      · simp [slotV, slotB]
        refine ⟨by omega, ?_⟩
        have e1 : isOne n room Bs As (.tup ds) = (decide (((someI n ds).length : Int) ≤ room) && unl Bs As (someI n ds)) := by
          show (ds.all (goodI n) && _) = _
          rw [hd]; rfl
        rw [e1] at q
        rw [byB_bl]
        refine ⟨fun h7 => ?_, fun h7 => ?_⟩
        · rw [h7] at q
          simp [slotV, slotB]
          exact unlike_ok (by omega) hB hA (.inr rfl) (by omega) q
        · rw [h7] at q
          try simp
          exact q
end G78
set_option maxHeartbeats 1000000
namespace G78
open PySem (Str)
open DI
/-- drawn lists, frozen -/
def frzD (L : List (List Int)) : D := .lst (L.map fun r => .lst (r.map .int))
def LOk (L : List (List Int)) : Prop := L.length ≤ 3 ∧ ∀ r ∈ L, r ≠ [] ∧ r.length ≤ 5
theorem erase_map {α β : Type} (f : α → β) : ∀ (l : List α) (i : Nat), (l.map f).eraseIdx i = (l.eraseIdx i).map f
  | [], _ => rfl
  | _ :: _, 0 => rfl
  | a :: l, i + 1 => by simp [erase_map f l i]
theorem popL_ok {ns : List Int} {k : Int} (h0 : 0 ≤ k) (h1 : k < ns.length) : ∃ (x : Int) (l : List Int), popL (ns.map D.int) k = some (.int x, l.map .int) ∧ l.length + 1 = ns.length := by
  have hl : k.toNat < ns.length := by omega
  refine ⟨ns[k.toNat], ns.eraseIdx k.toNat, ?_, by rw [List.length_eraseIdx_of_lt hl]; omega⟩
  unfold popL L2.ixN
  have h2 : k < ((ns.map D.int).length : Int) := by simpa using h1
  rw [if_pos h0, if_pos h2]
  have h3 : (ns.map D.int)[k.toNat]? = some (.int ns[k.toNat]) := by simp [hl]
  simp only [h3, erase_map]
theorem rngI_len (i : Int) (k : Nat) : (rngI i k).length = k := by
  induction k generalizing i with
  | zero => rfl
  | succ k ih => rw [rngI, List.length_cons, ih]
theorem small_of {c : Int} (h0 : 0 ≤ c) (h1 : c ≤ 100) : smallI c = true ∧ c.toNat ≤ 16777216 := by
  refine ⟨?_, by omega⟩
  simp [smallI]
  omega
theorem lists_ok {k : Nat} (hk : 5 ≤ k) {st rest : Store} {n : Nat} (hn : Ok3 n) {Q : D → Store → Prop} (hd : Dk st rest)
    (q : ∀ L st', Dk st' rest → LOk L → Q (frzD L) st') : Ok ((lv k).call 17 [.loc 1, .int n] st) Q := by
  refine call_ok (by omega) t17 rfl rfl fun j hj => ?_
  have hn5 : 2 ≤ n ∧ n ≤ 4 := by rcases hn with rfl | rfl | rfl <;> decide
  simp [b17, start, slotV, slotB, fresh, ownable]
  refine pick_ok (by omega) hd (by simp) (by simp) fun x st1 hd1 hx => ?_
  obtain ⟨c, rfl, hc0, hc3⟩ : ∃ c : Int, x = .int c ∧ 0 ≤ c ∧ c ≤ 3 := by
    simp at hx
    rcases hx with rfl | rfl | rfl | rfl | rfl <;> exact ⟨_, rfl, by decide, by decide⟩
  obtain ⟨sm1, sm2⟩ := small_of hc0 (by omega)
  simp [sm1]
  refine ⟨by omega, ?_⟩
  obtain ⟨I, hI⟩ : ∃ I : List D → Env → Store → Prop, ∀ rem env st', I rem env st' ↔ ∃ L x3 x4 x5 x6, rem.length + L.length ≤ 3 ∧ (∀ r ∈ L, r ≠ [] ∧ r.length ≤ 5) ∧ Dk st' rest ∧ env = [.val (.loc 1), .val (.int n), .own (frzD L), x3, x4, x5, x6] := ⟨_, fun _ _ _ => Iff.rfl⟩
  refine (for_inv (xs := rngD 0 c) I ((hI _ _ _).mpr ⟨[], .no, .no, .no, .no, by
    have := rngI_len 0 (c - 0).toNat
    simp only [rngD, List.length_map, this, List.length_nil]
    omega, fun _ h => (by cases h), hd1, rfl⟩) ?_ ?_).1
  · intro y ys env st' h
    obtain ⟨L, x3, x4, x5, x6, hlen, hL, hd', rfl⟩ := (hI _ _ _).mp h
    refine ⟨_, rfl, ?_⟩
    simp at hlen
    have sn := small_n hn.ok
    simp at sn
    have hn1 : (n : Int) ≤ 16777216 := by omega
    simp [b17_1, slotV, slotB, fresh, ownable, put?, sn.1, hn1, fnD, seqOf, rd]
    refine ⟨by omega, ?_⟩
    try simp [slotV, slotB, fresh, ownable, put?, fnD, seqOf, rd]
    refine pick_ok (by omega) hd' (by simp) (by simp) fun x st2 hd2 hx => ?_
    obtain ⟨m, rfl, hm1, hmn⟩ : ∃ m : Int, x = .int m ∧ 1 ≤ m ∧ m ≤ n := by
      simp at hx
      rcases hx with rfl | rfl | rfl <;> exact ⟨_, rfl, by omega, by omega⟩
    obtain ⟨sm3, sm4⟩ := small_of (c := m) (by omega) (by omega)
    simp [sm3]
    refine ⟨by omega, ?_⟩
    have hr0 : rngD 0 (n : Int) = (rngI 0 n).map .int := by simp [rngD]
    obtain ⟨I2, hI2⟩ : ∃ I : List D → Env → Store → Prop, ∀ rem env st', I rem env st' ↔ ∃ (left row : List Int) (x6 : Slot), left.length + row.length = n ∧ (rem.length : Int) + row.length = m ∧ Dk st' rest ∧ env = [.val (.loc 1), .val (.int n), .own (frzD L), .val y, .own (.lst (left.map .int)), .own (.lst (row.map .int)), x6] := ⟨_, fun _ _ _ => Iff.rfl⟩
    refine (for_inv (xs := rngD 0 m) I2 ((hI2 _ _ _).mpr ⟨rngI 0 n, [], x6, by rw [rngI_len]; rfl, by
      have := rngI_len 0 (m - 0).toNat
      simp only [rngD, List.length_map, this, List.length_nil]
      omega, hd2, by rw [hr0]; rfl⟩) ?_ ?_).1
    · intro z zs env st3 h
      obtain ⟨left, row, x6, e1, e2, hd3, rfl⟩ := (hI2 _ _ _).mp h
      simp at e2
      refine ⟨_, rfl, ?_⟩
      simp only [b17_0, l_cons]
      rw [s_appPop (as := row.map .int) (ds := left.map .int) rfl rfl]
      simp [slotV, slotB, lendable]
      refine draw_ok (by omega) hd3 (by omega) (by omega) fun r st4 hd4 h0 h1 => ?_
      obtain ⟨v, l, hp, hl⟩ := popL_ok h0 h1
      have hsm : smallI r = true := (small_of h0 (by omega)).1
      simp [hsm, hp]
      refine ⟨by omega, ?_⟩
      exact (hI2 _ _ _).mpr ⟨l, row ++ [v], .val z, by simp; omega, by simp; omega, hd4, by simp⟩
    · intro env st3 h
      obtain ⟨left, row, x6, e1, e2, hd3, rfl⟩ := (hI2 _ _ _).mp h
      simp at e2
      simp
      rw [s_app (ds := L.map fun r => .lst (r.map .int)) rfl]
      simp [slotV, slotB]
      refine ⟨by omega, ?_⟩
      refine (hI _ _ _).mpr ⟨L ++ [row], .val y, _, _, _, by simp; omega, ?_, hd3, by simp [frzD]; exact ⟨rfl, rfl, rfl⟩⟩
      intro r hr
      rcases List.mem_append.mp hr with hr | hr
      · exact hL r hr
      · rw [List.mem_singleton.mp hr]
        refine ⟨fun e => ?_, by omega⟩
        rw [e] at e2
        simp at e2
        omega
  · intro env st' h
    obtain ⟨L, x3, x4, x5, x6, hlen, hL, hd', rfl⟩ := (hI _ _ _).mp h
    simp [slotV, slotB]
    exact q L st' hd' ⟨by simpa using hlen, hL⟩
end G78
set_option maxHeartbeats 1000000
namespace G78
open PySem (Str)
open DI
/-! ### the world -/
/-- a row, frozen or a place behind the deck -/
def RowD (rest : Store) (d : D) (ns : List Int) : Prop := (d = .lst (ns.map .int) ∨ ∃ l, d = .loc (l + 2) ∧ rest[l]? = some (.lst (ns.map .int))) ∧ ns.length < 100
def RowsD (rest : Store) : List D → List (List Int) → Prop
  | [], [] => True
  | d :: ds, r :: rs => RowD rest d r ∧ RowsD rest ds rs
  | _, _ => False
def LD (rest : Store) (d : D) (L : List (List Int)) : Prop := ∃ rows, d = .lst rows ∧ RowsD rest rows L ∧ L.length < 100
def LsD (rest : Store) : List D → List (List (List Int)) → Prop
  | [], [] => True
  | d :: ds, L :: Ls => LD rest d L ∧ LsD rest ds Ls
  | _, _ => False
theorem row_up {st rest : Store} {d : D} {ns : List Int} (hd : Dk st rest) (h : RowD rest d ns) : RowR st d ns := by
  obtain ⟨ms, m, dd, rfl, _⟩ := hd
  refine ⟨?_, h.2⟩
  rcases h.1 with h | ⟨l, rfl, e⟩
  · exact .inl h
  · exact .inr ⟨l + 2, rfl, by simpa [deckS] using e⟩
theorem rows_up {st rest : Store} (hd : Dk st rest) : ∀ {ds rs}, RowsD rest ds rs → RowsR st ds rs
  | [], [], _ => trivial
  | [], _ :: _, h => h.elim
  | _ :: _, [], h => h.elim
  | _ :: _, _ :: _, h => ⟨row_up hd h.1, rows_up hd h.2⟩
theorem ls_up {st rest : Store} (hd : Dk st rest) : ∀ {ds Ls}, LsD rest ds Ls → LsR st ds Ls
  | [], [], _ => trivial
  | [], _ :: _, h => h.elim
  | _ :: _, [], h => h.elim
  | _ :: _, _ :: _, h => by
    obtain ⟨⟨rows, rfl, h1, h2⟩, h3⟩ := h
    exact ⟨⟨rows, rfl, rows_up hd h1, h2⟩, ls_up hd h3⟩
/-- what stands below b stays -/
def Same (b : Nat) (r r' : Store) : Prop := ∀ l, l < b → r'[l]? = r[l]?
def RowB (b : Nat) (rest : Store) (d : D) (ns : List Int) : Prop := (d = .lst (ns.map .int) ∨ ∃ l, l < b ∧ d = .loc (l + 2) ∧ rest[l]? = some (.lst (ns.map .int))) ∧ ns.length < 100
def RowsB (b : Nat) (rest : Store) : List D → List (List Int) → Prop
  | [], [] => True
  | d :: ds, r :: rs => RowB b rest d r ∧ RowsB b rest ds rs
  | _, _ => False
def LsB (b : Nat) (rest : Store) : List D → List (List (List Int)) → Prop
  | [], [] => True
  | d :: ds, L :: Ls => (∃ rows, d = .lst rows ∧ RowsB b rest rows L ∧ L.length < 100) ∧ LsB b rest ds Ls
  | _, _ => False
theorem rowsB_same {b c : Nat} {r r' : Store} (h : Same b r r') (hb : b ≤ c) : ∀ {ds rs}, RowsB b r ds rs → RowsB c r' ds rs
  | [], [], _ => trivial
  | [], _ :: _, h => h.elim
  | _ :: _, [], h => h.elim
  | _ :: _, _ :: _, hh => ⟨⟨by
      rcases hh.1.1 with e | ⟨l, h1, h2, h3⟩
      · exact .inl e
      · exact .inr ⟨l, by omega, h2, (h l h1).trans h3⟩, hh.1.2⟩, rowsB_same h hb hh.2⟩
theorem lsB_same {b c : Nat} {r r' : Store} (h : Same b r r') (hb : b ≤ c) : ∀ {ds Ls}, LsB b r ds Ls → LsB c r' ds Ls
  | [], [], _ => trivial
  | [], _ :: _, h => h.elim
  | _ :: _, [], h => h.elim
  | _ :: _, _ :: _, hh => by
    obtain ⟨⟨rows, h1, h2, h3⟩, h4⟩ := hh
    exact ⟨⟨rows, h1, rowsB_same h hb h2, h3⟩, lsB_same h hb h4⟩
theorem rowsB_D {b : Nat} {r : Store} : ∀ {ds rs}, RowsB b r ds rs → RowsD r ds rs
  | [], [], _ => trivial
  | [], _ :: _, h => h.elim
  | _ :: _, [], h => h.elim
  | _ :: _, _ :: _, hh => ⟨⟨by
      rcases hh.1.1 with e | ⟨l, h1, h2, h3⟩
      · exact .inl e
      · exact .inr ⟨l, h2, h3⟩, hh.1.2⟩, rowsB_D hh.2⟩
theorem lsB_D {b : Nat} {r : Store} : ∀ {ds Ls}, LsB b r ds Ls → LsD r ds Ls
  | [], [], _ => trivial
  | [], _ :: _, h => h.elim
  | _ :: _, [], h => h.elim
  | _ :: _, _ :: _, hh => by
    obtain ⟨⟨rows, h1, h2, h3⟩, h4⟩ := hh
    exact ⟨⟨rows, h1, rowsB_D h2, h3⟩, lsB_D h4⟩
theorem lsB_snoc {b : Nat} {r : Store} {d : D} {L : List (List Int)} (h : ∃ rows, d = .lst rows ∧ RowsB b r rows L ∧ L.length < 100) : ∀ {ds Ls}, LsB b r ds Ls → LsB b r (ds ++ [d]) (Ls ++ [L])
  | [], [], _ => ⟨h, trivial⟩
  | [], _ :: _, h => h.elim
  | _ :: _, [], h => h.elim
  | _ :: _, _ :: _, hh => ⟨hh.1, lsB_snoc h hh.2⟩
theorem rowsB_frz {b : Nat} {r : Store} : ∀ {L : List (List Int)}, (∀ x ∈ L, x.length < 100) → RowsB b r (L.map fun r => .lst (r.map .int)) L
  | [], _ => trivial
  | x :: L, h => ⟨⟨.inl rfl, h x List.mem_cons_self⟩, rowsB_frz fun y hy => h y (List.mem_cons_of_mem _ hy)⟩
theorem s_lswap {o : Orc} {env : Env} {st : Store} {Q : Fl → Env → Store → Prop} {r1 k1 r2 k2 a b : CE} (h : OkE o a env st fun x st => OkE o b env st fun y st => OkE o r1 env st fun o1 st => OkE o k1 env st fun i st => OkO (lset st o1 fun c => putD c i x) fun st => OkE o r2 env st fun o2 st => OkE o k2 env st fun j st => OkO (lset st o2 fun c => putD c j y) fun st => Q .nxt env st) :
    OkX o (.lswap r1 k1 r2 k2 a b) env st Q := by
  unfold OkE at h
  unfold OkX
  simp only [execS, okS_bS]
  refine Ok.mono h fun x st h => ?_
  simp only [okS_bS]
  refine Ok.mono h fun y st h => ?_
  simp only [okS_bS]
  refine Ok.mono h fun o1 st h => ?_
  simp only [okS_bS]
  refine Ok.mono h fun i st h => ?_
  obtain ⟨st', e, h⟩ := h
  simp only [e, okS_bS]
  refine Ok.mono h fun o2 st h => ?_
  simp only [okS_bS]
  refine Ok.mono h fun j st h => ?_
  rw [okS_map]
  exact (okO_congr fun e => okS_some.trans fine_nxt).mpr h
/-- the copies of rows: new places -/
def locsD (b : Nat) : Nat → List D
  | 0 => []
  | m + 1 => .loc (b + 2) :: locsD (b + 1) m
def rowsS (L : List (List Int)) : Store := L.map fun r => .lst (r.map .int)
theorem locs_B {rest : Store} : ∀ (L : List (List Int)) (b : Nat) (r : Store), (∀ i x, L[i]? = some x → r[b + i]? = some (.lst (x.map .int))) → (∀ x ∈ L, x.length < 100) → RowsB (b + L.length) r (locsD b L.length) L
  | [], b, r, _, _ => trivial
  | x :: L, b, r, h, hx => by
    refine ⟨⟨.inr ⟨b, by simp, rfl, by simpa using h 0 x rfl⟩, hx x List.mem_cons_self⟩, ?_⟩
    have := locs_B (rest := rest) L (b + 1) r (fun i y e => by
      have := h (i + 1) y (by simpa using e)
      rw [show b + 1 + i = b + (i + 1) by omega]
      exact this) fun y hy => hx y (List.mem_cons_of_mem _ hy)
    simp only [List.length_cons]
    rw [show b + (L.length + 1) = b + 1 + L.length by omega]
    exact this
end G78
set_option maxHeartbeats 1000000
namespace G78
open PySem (Str)
open DI
theorem dk_app {st rest : Store} {x : D} (hd : Dk st rest) : Dk (st ++ [x]) (rest ++ [x]) ∧ st.length = rest.length + 2 := by
  obtain ⟨ns, m, d, rfl, h⟩ := hd
  exact ⟨⟨ns, m, d, rfl, h⟩, by simp [deckS]⟩
theorem dk_at {st rest : Store} (hd : Dk st rest) (l : Nat) : st[l + 2]? = rest[l]? := by
  obtain ⟨ns, m, d, rfl, h⟩ := hd
  simp [deckS]
theorem dk_set {st rest : Store} (hd : Dk st rest) (l : Nat) (x : D) : Dk (st.set (l + 2) x) (rest.set l x) := by
  obtain ⟨ns, m, d, rfl, h⟩ := hd
  exact ⟨ns, m, d, rfl, h⟩
theorem locs_snoc (b : Nat) : ∀ m, locsD b (m + 1) = locsD b m ++ [.loc (b + m + 2)] := by
  intro m
  induction m generalizing b with
  | zero => rfl
  | succ m ih =>
    rw [locsD, ih (b + 1), locsD]
    simp
    omega
theorem copy_ok {o : Orc} {env : Env} {st rest : Store} {L : List (List Int)} {Q : List D → Store → Prop} (hd : Dk st rest) (he : 7 < env.length) (hL : LOk L) (q : ∀ st', Dk st' (rest ++ rowsS L) → Q (locsD rest.length L.length) st') :
    OkCp (fun env st => evalE o b20_1 env st) (fun _ st => some (.ok (.bl true), st)) (.var 7) env (frzD L) st Q := by
  unfold OkCp frzD
  dsimp only
  have key := compL_inv (tg := .var 7) (env := env) (el := fun env st => evalE o b20_1 env st) (cd := fun _ st => some (.ok (.bl true), st)) (Q := Q)
    (fun rem acc st' => ∃ i, i ≤ L.length ∧ rem = (L.drop i).map (fun r => .lst (r.map .int)) ∧ acc = locsD rest.length i ∧ Dk st' (rest ++ rowsS (L.take i))) ?_ ?_ (L.map fun r => .lst (r.map .int)) [] st ⟨0, Nat.zero_le _, rfl, rfl, by simpa [rowsS] using hd⟩
  · simpa using key
  · rintro x xs acc st' ⟨i, hi, e1, rfl, hd'⟩
    by_cases hlt : i < L.length
    · rw [List.drop_eq_getElem_cons hlt, List.map_cons] at e1
      cases e1
      refine ⟨_, rfl, ok_some.mpr (.inl ⟨rfl, ?_⟩)⟩
      show OkE o b20_1 _ _ _
      unfold b20_1
      refine e_mat rfl ?_
      have hs : slotB (env.set 7 (.val (.lst (L[i].map .int)))) 7 = some (.lst (L[i].map .int)) := by
        unfold slotB
        rw [List.getElem?_set_self he]
      simp [hs, fnD, seqOf, rd]
      obtain ⟨h1, h2⟩ := dk_app (x := .lst (L[i].map .int)) hd'
      refine ⟨i + 1, by omega, rfl, ?_, ?_⟩
      · rw [locs_snoc]
        congr 2
        rw [h2]
        simp [rowsS]
        omega
      · have : L.take (i + 1) = L.take i ++ [L[i]] := by rw [List.take_add_one]; simp [hlt]
        rw [this, rowsS, List.map_append, ← List.append_assoc]
        exact h1
    · rw [List.drop_eq_nil_of_le (by omega)] at e1
      cases e1
  · rintro acc st' ⟨i, hi, e1, rfl, hd'⟩
    have : i = L.length := by
      by_cases hlt : i < L.length
      · rw [List.drop_eq_getElem_cons hlt, List.map_cons] at e1
        cases e1
      · omega
    subst this
    rw [List.take_length] at hd'
    exact q st' hd'
/-- a place with ints -/
def Pl (r : Store) (l : Nat) : Prop := ∃ ns : List Int, r[l]? = some (.lst (ns.map .int)) ∧ ns.length < 100
theorem locs_pl {r : Store} : ∀ (m b : Nat), (∀ i, i < m → Pl r (b + i)) → ∃ L, RowsB (b + m) r (locsD b m) L ∧ L.length = m
  | 0, b, _ => ⟨[], trivial, rfl⟩
  | m + 1, b, h => by
    obtain ⟨ns, h1, h2⟩ := h 0 (by omega)
    obtain ⟨L, h3, h4⟩ := locs_pl m (b + 1) fun i hi => by
      have := h (i + 1) (by omega)
      rw [show b + 1 + i = b + (i + 1) by omega]
      exact this
    refine ⟨ns :: L, ⟨⟨.inr ⟨b, by omega, rfl, h1⟩, h2⟩, ?_⟩, by simp [h4]⟩
    rw [show b + (m + 1) = b + 1 + m by omega]
    exact h3
theorem locs_mem {x : D} : ∀ {m b : Nat}, x ∈ locsD b m → ∃ i, i < m ∧ x = .loc (b + i + 2)
  | 0, b, h => by cases h
  | m + 1, b, h => by
    rcases List.mem_cons.mp h with rfl | h
    · exact ⟨0, by omega, rfl⟩
    · obtain ⟨i, h1, h2⟩ := locs_mem h
      exact ⟨i + 1, by omega, by rw [h2]; congr 1; omega⟩
theorem pl_set {r : Store} {l k : Nat} {ns : List Int} (h : Pl r k) (hn : ns.length < 100) : Pl (r.set l (.lst (ns.map .int))) k := by
  obtain ⟨ms, h1, h2⟩ := h
  by_cases e : l = k
  · subst e
    have hl : l < r.length := (List.getElem?_eq_some_iff.mp h1).1
    exact ⟨ns, by rw [List.getElem?_set_self hl], hn⟩
  · exact ⟨ms, by rw [List.getElem?_set_ne e]; exact h1, h2⟩
theorem same_set {b l : Nat} {r : Store} {x : D} (h : b ≤ l) : Same b r (r.set l x) := fun k hk => by rw [List.getElem?_set_ne (by omega)]
theorem toP_rows {st : Store} : ∀ {ds : List D}, (∀ d ∈ ds, ∃ l ns, d = .loc l ∧ st[l]? = some (.lst ((ns : List Int).map .int))) → ∃ ps, ds.mapM (toP 59 st) = some ps ∧ ps.length = ds.length
  | [], _ => ⟨[], rfl, rfl⟩
  | d :: ds, h => by
    obtain ⟨l, ns, rfl, e⟩ := h d List.mem_cons_self
    obtain ⟨ps, h1, h2⟩ := toP_rows fun x hx => h x (List.mem_cons_of_mem _ hx)
    have h3 : toP 59 st (.loc l) = some (.list (ns.map .int)) := by
      show (match st[l]? with
        | some (.lst ds) => (ds.mapM (toP 58 st)).map PySem.PyData.list
        | _ => none) = _
      rw [e]
      simp only [toP_ints, Option.map_some]
    exact ⟨_ :: ps, by rw [List.mapM_cons, h3, h1]; rfl, by simp [h2]⟩
theorem ne_rows {st : Store} {ds : List D} (h : ∀ d ∈ ds, ∃ l ns, d = .loc l ∧ st[l]? = some (.lst ((ns : List Int).map .int))) : cmpD st .ne (.lst ds) (.lst []) = some (!decide (ds = [])) := by
  obtain ⟨ps, h1, h2⟩ := toP_rows h
  have h3 : toP 60 st (.lst ds) = some (.list ps) := by
    show (ds.mapM (toP 59 st)).map PySem.PyData.list = _
    rw [h1]; rfl
  have h4 : toP 60 st (.lst []) = some (.list []) := rfl
  simp only [cmpD, eqD, h3, h4, Option.bind_eq_bind, Option.bind_some, Option.map_some]
  cases ds with
  | nil => cases ps with
    | nil => rfl
    | cons _ _ => simp at h2
  | cons d ds => cases ps with
    | nil => simp at h2
    | cons p ps => simp [PySem.PyData.eqv, PySem.PyData.eqvAll]
theorem put_int {ds : List Int} {i : Int} {x : Int} (h0 : 0 ≤ i) (h1 : i < ds.length) : ∃ es : List Int, putD (.lst (ds.map .int)) (.int i) (.int x) = some (.lst (es.map .int)) ∧ es.length = ds.length := by
  refine ⟨ds.set i.toNat x, ?_, by simp⟩
  have h2 : i < ((ds.map D.int).length : Int) := by simpa using h1
  have h3 : L2.ixN (ds.map D.int).length i = some i.toNat := by
    unfold L2.ixN
    rw [if_pos h0, if_pos h2]
  show (setL (ds.map D.int) i (.int x)).map D.lst = _
  unfold setL
  rw [h3]
  simp [List.map_set]
theorem lset_at {st : Store} {l : Nat} {c c' : D} {g : D → Option D} (h : st[l]? = some c) (hg : g c = some c') : lset st (.loc l) g = some (st.set l c') := by
  simp only [lset, h, hg, Option.map_some]
theorem idx_loc {st : Store} {l : Nat} {ns : List Int} {i : Int} (h : st[l]? = some (.lst (ns.map .int))) (h0 : 0 ≤ i) (h1 : i < ns.length) : ∃ x : Int, idxD st (.loc l) (.int i) = some (.int x) := by
  obtain ⟨x, h2, h3, _⟩ := atI_get (ds := ns.map D.int) h0 (by simpa using h1)
  obtain ⟨y, _, rfl⟩ := List.mem_map.mp h3
  refine ⟨y, ?_⟩
  simp only [idxD, rd, h, Option.getD_some]
  exact h2
def WI (n : Nat) (Bls : List (List (List Int))) (rem : List D) (env : Env) (st : Store) : Prop :=
  ∃ done left Ad As rest x3 x5 x6 x7 x8 x9, Bls = done ++ left ∧ rem = left.map frzD ∧ Dk st rest ∧ LsB rest.length rest Ad As ∧ As.length = done.length ∧ Ad.length = done.length ∧
    env = [.val (.loc 1), .val (.int n), .val (.lst (Bls.map frzD)), x3, .own (.lst Ad), x5, x6, x7, x8, x9]
/-- a turn's end -/
theorem wi_end {n : Nat} {Bls done left : List (List (List Int))} {b : List (List Int)} {Ad : List D} {As : List (List (List Int))} {rest rest' : Store} {st : Store} {d : D} {L : List (List Int)} {x3 x5 x7 x8 x9 : Slot} {o : Orc} {Q : Fl → Env → Store → Prop}
    (e1 : Bls = done ++ b :: left) (hl : Bls.length ≤ 2) (hA : LsB rest.length rest Ad As) (e2 : As.length = done.length) (e3 : Ad.length = done.length) (hd : Dk st rest') (hs : Same rest.length rest rest') (hb : rest.length ≤ rest'.length) (hL : ∃ rows, d = .lst rows ∧ RowsB rest'.length rest' rows L ∧ L.length < 100) :
    OkX o (.app 4 (.var 6)) [.val (.loc 1), .val (.int n), .val (.lst (Bls.map frzD)), x3, .own (.lst Ad), x5, .val d, x7, x8, x9] st (thenS o [] (turn (WI n Bls (left.map frzD)) Q)) := by
  rw [s_app (ds := Ad) rfl]
  have : done.length ≤ 1 := by rw [e1] at hl; simp at hl; omega
  simp [slotV, slotB]
  refine ⟨by omega, done ++ [b], left, Ad ++ [d], As ++ [L], rest', x3, x5, .val d, x7, x8, x9, by rw [e1]; simp, rfl, hd, lsB_snoc hL (lsB_same hs hb hA), by simp [e2], by simp [e3], rfl⟩
end G78
set_option maxHeartbeats 1000000
namespace G78
open PySem (Str)
open DI
theorem wi_turn {j : Nat} (hj : 6 ≤ j) {n : Nat} (hn : Ok3 n) {Bls : List (List (List Int))} (hB : Bls.length ≤ 2) (hL : ∀ L ∈ Bls, LOk L) {Q : Fl → Env → Store → Prop} {x : D} {xs : List D} {env : Env} {st : Store} (h : WI n Bls (x :: xs) env st) :
    ∃ env1, tgSet (.var 5) x env = some env1 ∧ OkXs (lv j) b20_2 env1 st (turn (WI n Bls xs) Q) := by
  obtain ⟨done, left, Ad, As, rest, x3, x5, x6, x7, x8, x9, e1, e2, hd, hA, e3, e4, rfl⟩ := h
  cases left with
  | nil => cases e2
  | cons b left =>
    cases e2
    have hb : LOk b := hL b (by rw [e1]; simp)
    refine ⟨_, rfl, ?_⟩
    simp [b20_2, slotV, slotB, frzD, lendable]
    refine copy_ok hd (by simp) hb fun st1 hd1 => ?_
    have hbl : (locsD rest.length b.length).length ≤ 16777216 := by
      have : ∀ m c, (locsD c m).length = m := by
        intro m
        induction m with
        | zero => intro c; rfl
        | succ m ih => intro c; rw [locsD, List.length_cons, ih]
      rw [this]
      have := hb.1
      omega
    try simp [slotV, slotB, slcD, rd]
    refine ⟨hbl, ?_⟩
    refine draw_ok (by omega) hd1 (by decide) (by decide) fun way st2 hd2 hw0 hw5 => ?_
    simp [slotV, slotB]
    have pl1 : ∀ i, i < b.length → ∃ ns : List Int, (rest ++ rowsS b)[rest.length + i]? = some (.lst (ns.map .int)) ∧ ns ≠ [] ∧ ns.length ≤ 5 := fun i hi => by
      refine ⟨b[i], ?_, hb.2 _ (List.getElem_mem hi)⟩
      rw [List.getElem?_append_right (by omega)]
      simp [rowsS, hi]
    have lenR : (rest ++ rowsS b).length = rest.length + b.length := by simp [rowsS]
    have same1 : Same rest.length rest (rest ++ rowsS b) := fun l hl => by rw [List.getElem?_append_left hl]
    have fin1 : ∀ (st' rest' : Store) (x7 x8 x9 : Slot), Dk st' rest' → Same rest.length rest rest' → rest'.length = rest.length + b.length → (∀ i, i < b.length → Pl rest' (rest.length + i)) →
        OkX (lv j) (.app 4 (.var 6)) [.val (.loc 1), .val (.int n), .val (.lst (Bls.map frzD)), x3, .own (.lst Ad), .val (.lst (b.map fun r => .lst (r.map .int))), .val (.lst (locsD rest.length b.length)), x7, x8, x9] st' (thenS (lv j) [] (turn (WI n Bls (left.map frzD)) Q)) := fun st' rest' x7 x8 x9 h1 h2 h3 h4 => by
      obtain ⟨L, hL1, hL2⟩ := locs_pl (r := rest') b.length rest.length h4
      rw [← h3] at hL1
      exact wi_end e1 hB hA e3 e4 h1 h2 (by omega) ⟨_, rfl, hL1, by have := hb.1; omega⟩
    have plAll : ∀ i, i < b.length → Pl (rest ++ rowsS b) (rest.length + i) := fun i hi => by
      obtain ⟨ns, h1, _, h2⟩ := pl1 i hi
      exact ⟨ns, h1, by omega⟩
    rw [ifB_bl]
    refine ⟨fun h1 => ?_, fun h1 => ?_⟩
    · try simp [slotV, slotB, slcD, rd]
      refine lists_ok (by omega) hn hd2 fun L st3 hd3 hL3 => ?_
      try simp [slotV, slotB, slcD, rd]
      refine wi_end (L := L) e1 hB hA e3 e4 hd3 same1 (by omega) ⟨_, rfl, rowsB_frz fun r hr => ?_, by have := hL3.1; omega⟩
      have := (hL3.2 r hr).2
      omega
    · try simp [slotV, slotB, slcD, rd]
      rw [byB_bl]
      try simp [slotV, slotB, slcD, rd]
      refine ⟨fun h2 => ?_, fun h2 => fin1 _ _ _ _ _ hd2 same1 lenR plAll⟩
      rw [ne_rows (fun d hd' => by
        obtain ⟨i, hi, rfl⟩ := locs_mem hd'
        obtain ⟨ns, h3, _⟩ := pl1 i hi
        exact ⟨_, ns, rfl, by rw [dk_at hd2]; exact h3⟩), okO_some, ifB_bl]
      try simp [slotV, slotB, slcD, rd]
      refine ⟨fun h3 => ?_, fun h3 => fin1 _ _ _ _ _ hd2 same1 lenR plAll⟩
      have hne : locsD rest.length b.length ≠ [] := by simpa using h3
      have hll : ∀ m c, (locsD c m).length = m := by
        intro m
        induction m with
        | zero => intro c; rfl
        | succ m ih => intro c; rw [locsD, List.length_cons, ih]
      refine pick_ok (by omega) hd2 hne (by rw [hll]; have := hb.1; omega) fun row st3 hd3 hrow => ?_
      obtain ⟨i, hi, rfl⟩ := locs_mem hrow
      obtain ⟨ns, h4, h5, h6⟩ := pl1 i hi
      have at3 : st3[rest.length + i + 2]? = some (.lst (ns.map .int)) := by rw [dk_at hd3]; exact h4
      have hnl : 0 < ns.length := List.length_pos_iff.mpr h5
      try simp [slotV, slotB, slcD, rd]
      refine len_loc at3 ?_
      simp
      refine draw_ok (by omega) hd3 (by omega) (by omega) fun at_ st4 hd4 ha0 ha1 => ?_
      have at4 : st4[rest.length + i + 2]? = some (.lst (ns.map .int)) := by rw [dk_at hd4]; exact h4
      simp
      try simp [slotV, slotB, slcD, rd]
      refine len_loc at4 ?_
      simp
      rw [ifB_bl]
      refine ⟨fun h7 => ?_, fun h7 => ?_⟩
      · have h7 : at_ + 1 < ns.length := by simpa using h7
        try simp [slotV, slotB, slcD, rd]
        refine s_lswap ?_
        simp [slotV, slotB]
        obtain ⟨v1, e5⟩ := idx_loc at4 (i := at_ + 1) (by omega) h7
        obtain ⟨v2, e6⟩ := idx_loc at4 (i := at_) ha0 ha1
        try simp [slotV, slotB, slcD, rd]
        rw [e5, okO_some]
        try simp [slotV, slotB, -List.set_set]
        rw [e6, okO_some]
        try simp [slotV, slotB, -List.set_set]
        obtain ⟨es, e7, e8⟩ := put_int (ds := ns) (x := v1) ha0 ha1
        rw [lset_at at4 e7, okO_some]
        try simp [slotV, slotB, -List.set_set]
        have hd5 := dk_set hd4 (rest.length + i) (.lst (es.map .int))
        have at5 : (st4.set (rest.length + i + 2) (.lst (es.map .int)))[rest.length + i + 2]? = some (.lst (es.map .int)) := by
          rw [List.getElem?_set_self (List.getElem?_eq_some_iff.mp at4).1]
        obtain ⟨fs, e9, e10⟩ := put_int (ds := es) (i := at_ + 1) (x := v2) (by omega) (by omega)
        rw [lset_at at5 e9, okO_some]
        try simp [slotV, slotB, -List.set_set]
        have hd6 := dk_set hd5 (rest.length + i) (.lst (fs.map .int))
        refine fin1 _ _ _ _ _ hd6 (fun l hl => ?_) (by simp only [List.length_set]; exact lenR) fun i' hi' => pl_set (pl_set (plAll i' hi') (by omega)) (by omega)
        rw [same_set (b := rest.length) (by omega) l hl, same_set (b := rest.length) (by omega) l hl, same1 l hl]
      · simp [slotV, slotB]
        rw [ifB_bl]
        refine ⟨fun h8 => ?_, fun h8 => ?_⟩
        rotate_left
        · try simp
          exact fin1 _ _ _ _ _ hd4 same1 lenR plAll
        try simp
        refine s_lpop0 ?_
        simp [slotV, slotB]
        refine ⟨_, at4, ?_⟩
        obtain ⟨x', l', e5, e6⟩ := pop_last h5
        rw [e6, okO_some]
        try simp
        have hd6 := dk_set hd4 (rest.length + i) (.lst (l'.map .int))
        have hl' : l'.length < 100 := by rw [e5] at h6; simp at h6; omega
        refine fin1 _ _ _ _ _ hd6 (fun l hl => ?_) (by simp only [List.length_set]; exact lenR) fun i' hi' => pl_set (plAll i' hi') hl'
        rw [same_set (b := rest.length) (by omega) l hl, same1 l hl]
end G78
set_option maxHeartbeats 1000000
namespace G78
open PySem (Str)
open DI
/-- what the world is -/
structure World78 (n : Nat) (Bs As : List (List (List Int))) : Prop where
  n : Ok3 n
  b : Bs ≠ []
  bl : Bs.length ≤ 2
  al : As.length = Bs.length
theorem frz_B {b : Nat} {r : Store} : ∀ {Bls : List (List (List Int))}, (∀ L ∈ Bls, LOk L) → LsB b r (Bls.map frzD) Bls
  | [], _ => trivial
  | L :: Bls, h => ⟨⟨_, rfl, rowsB_frz fun x hx => by
      have := ((h L List.mem_cons_self).2 x hx).2
      omega, by have := (h L List.mem_cons_self).1; omega⟩, frz_B fun M hM => h M (List.mem_cons_of_mem _ hM)⟩
theorem world_ok {k : Nat} (hk : 8 ≤ k) {st : Store} {Q : D → Store → Prop} (hd : Dk st [])
    (q : ∀ n room Bd Ad Bs As rest st', World78 n Bs As → Dk st' rest → LsD rest Bd Bs → LsD rest Ad As → Q (wD n room Bd Ad) st') : Ok ((lv k).call 20 [.loc 1] st) Q := by
  refine call_ok (by omega) t20 rfl rfl fun j hj => ?_
  simp [b20, start, slotV, slotB]
  refine pick_ok (by omega) hd (by simp) (by simp) fun x st1 hd1 hx => ?_
  obtain ⟨n, rfl, hn⟩ : ∃ n : Nat, x = .int n ∧ Ok3 n := by
    simp at hx
    rcases hx with rfl | rfl | rfl
    · exact ⟨2, rfl, .inl rfl⟩
    · exact ⟨3, rfl, .inr (.inl rfl)⟩
    · exact ⟨4, rfl, .inr (.inr rfl)⟩
  try simp [slotV, slotB, slcD, rd]
  refine draw_ok (by omega) hd1 (by decide) (by decide) fun r st2 hd2 hr0 hr1 => ?_
  have sm := small_of (c := 1 + r) (by omega) (by omega)
  simp [sm.1]
  refine ⟨by omega, ?_⟩
  have key := compL_inv (tg := .var 3) (env := [.val (.loc 1), .val (.int n), .no, .no, .no, .no, .no, .no, .no, .no]) (el := fun env st => evalE (lv j) b20_0 env st) (cd := fun _ st => some (.ok (.bl true), st))
    (Q := fun ds st' => ∃ Bls, ds = Bls.map frzD ∧ Dk st' [] ∧ (∀ L ∈ Bls, LOk L) ∧ Bls.length ≤ 2 ∧ Bls ≠ [])
    (fun rem acc st' => ∃ Bls, acc = Bls.map frzD ∧ Dk st' [] ∧ (∀ L ∈ Bls, LOk L) ∧ rem.length + Bls.length ≤ 2 ∧ 1 ≤ rem.length + Bls.length) ?_ ?_ (rngD 0 (1 + r)) [] st2 ⟨[], rfl, hd2, fun _ h => (by cases h), by
      have := rngI_len 0 (1 + r - 0).toNat
      simp only [rngD, List.length_map, this, List.length_nil]; omega, by
      have := rngI_len 0 (1 + r - 0).toNat
      simp only [rngD, List.length_map, this, List.length_nil]; omega⟩
  · unfold OkCp
    dsimp only
    refine key.mono fun ds st3 => ?_
    rintro ⟨Bls, e1, hd3, hL, hlen, hne⟩
    simp only [List.nil_append] at e1
    subst e1
    simp [fresh, ownable]
    refine ⟨by omega, ?_⟩
    try simp [slotV, slotB, slcD, rd]
    refine (for_inv (WI n Bls) ⟨[], Bls, [], [], [], _, _, _, _, _, _, rfl, rfl, hd3, trivial, rfl, rfl, rfl⟩ ?_ ?_).1
    · exact fun x xs env st4 h => wi_turn (by omega) hn hlen hL h
    · rintro env st4 ⟨done, left, Ad, As, rest, x3, x5, x6, x7, x8, x9, e1, e2, hd4, hA, e3, e4, rfl⟩
      cases left with
      | cons _ _ => cases e2
      | nil =>
        simp at e1
        subst e1
        simp [slotV, slotB]
        refine draw_ok (by omega) hd4 (by decide) (by decide) fun rr st5 hd5 _ _ => ?_
        have e5 : Bls.map frzD = Bls.map frzD := rfl
        simp
        exact q n (1 + rr) (Bls.map frzD) Ad Bls As rest st5 ⟨hn, hne, hlen, e3⟩ hd5 (lsB_D (frz_B (b := 0) hL)) (lsB_D hA)
  · rintro x xs acc st' ⟨Bls, rfl, hd', hL, h1, h2⟩
    refine ⟨_, rfl, ok_some.mpr (.inl ⟨rfl, ?_⟩)⟩
    show OkE (lv j) b20_0 _ _ _
    simp [b20_0, slotV]
    refine lists_ok (by omega) hn hd' fun L st'' hd'' hLL => ⟨Bls ++ [L], by simp, hd'', fun M hM => ?_, by simp at h1 ⊢; omega, by simp; omega⟩
    rcases List.mem_append.mp hM with hM | hM
    · exact hL M hM
    · rw [List.mem_singleton.mp hM]; exact hLL
  · rintro acc st' ⟨Bls, rfl, hd', hL, h1, h2⟩
    refine ⟨Bls, rfl, hd', hL, by simpa using h1, fun e => ?_⟩
    subst e
    simp at h2
end G78
set_option maxHeartbeats 1000000
namespace G78
open PySem (Str)
open DI
def CI (ds : List D) : Prop := ∀ d ∈ ds, ∃ i : Int, d = .tup [.str "come", .int i]
theorem ci_item {ds : List D} (h : CI ds) : ∀ d ∈ ds, ItemOk d := fun d hd => by
  obtain ⟨i, rfl⟩ := h d hd
  exact .si _ i come_str
theorem ci_snoc {ds : List D} {i : Int} (h : CI ds) : CI (ds ++ [.tup [.str "come", .int i]]) := fun d hd => by
  rcases List.mem_append.mp hd with hd | hd
  · exact h d hd
  · exact ⟨i, List.mem_singleton.mp hd⟩
theorem ne_ints {st : Store} {ns : List Int} : cmpD st .ne (.lst (ns.map .int)) (.lst []) = some (!decide (ns = [])) := by
  have h1 : toP 60 st (.lst (ns.map .int)) = some (.list (ns.map .int)) := by
    show ((ns.map D.int).mapM (toP 59 st)).map PySem.PyData.list = _
    rw [toP_ints]; rfl
  have h2 : toP 60 st (.lst []) = some (.list []) := rfl
  simp only [cmpD, eqD, h1, h2, Option.bind_eq_bind, Option.bind_some, Option.map_some]
  cases ns with
  | nil => rfl
  | cons x xs => simp [PySem.PyData.eqv, PySem.PyData.eqvAll]
theorem comings_ok {k : Nat} (hk : 5 ≤ k) {st rest : Store} {w : D} {s : List Int} {Q : D → Store → Prop} (hd : Dk st rest) (hs : s.length ≤ 5)
    (q : ∀ ds st', Dk st' rest → CI ds → ds.length ≤ 10 → Q (.tup ds) st') : Ok ((lv k).call 23 [.loc 1, w, tupI s] st) Q := by
  refine call_ok (by omega) t23 rfl rfl fun j hj => ?_
  simp [b23, start, slotV, slotB, fresh, ownable, put?, tupI]
  obtain ⟨I, hI⟩ : ∃ I : Nat → Env → Store → Prop, ∀ m env st', I m env st' ↔ ∃ left items x5, left.length = m ∧ CI items ∧ items.length + 2 * left.length ≤ 10 ∧ Dk st' rest ∧ (s = [] → left = []) ∧ env = [.val (.loc 1), .val w, .val (.tup (s.map .int)), .own (.lst ((left : List Int).map .int)), .own (.lst items), x5] := ⟨_, fun _ _ _ => Iff.rfl⟩
  unfold OkWhl
  refine whl_inv I ?_ s.length whileFuel _ st ((hI _ _ _).mpr ⟨s, [], .no, rfl, fun _ h => (by cases h), by simp; omega, hd, fun h => h, rfl⟩) (by simp [whileFuel]; omega)
  intro m env st' h
  obtain ⟨left, items, x5, e1, hc, hlen, hd', hse, rfl⟩ := (hI _ _ _).mp h
  simp [b23_1, slotB, lendable]
  rw [ne_ints, okO_some]
  cases left with
  | nil =>
    refine .inr ⟨rfl, ?_⟩
    simp [slotV, slotB, lendable, fnD, seqOf, rd]
    exact q items st' hd' hc (by simpa using hlen)
  | cons y left =>
    have hne : s ≠ [] := fun e => by
      have := hse e
      cases this
    refine .inl ⟨rfl, left.length, by simpa using e1.symm, ?_⟩
    simp only [b23_0, l_cons]
    rw [s_pop (ds := (y :: left).map .int) rfl]
    simp [slotV, slotB, lendable]
    refine draw_ok (by omega) hd' (by omega) (by simp at hlen; omega) fun r st1 hd1 h0 h1 => ?_
    obtain ⟨v, l, hp, hl⟩ := popL_ok (ns := y :: left) h0 (by simp; omega)
    have hsm : smallI r = true := (small_of h0 (by simp at hlen; omega)).1
    simp at hp
    simp [hsm, hp]
    rw [s_app (ds := items) rfl]
    simp at hlen hl
    simp [slotV]
    refine ⟨by omega, ?_⟩
    refine draw_ok (by omega) hd1 (by decide) (by decide) fun r2 st2 hd2 _ _ => ?_
    simp
    rw [ifB_bl]
    refine ⟨fun _ => ?_, fun _ => ?_⟩
    · simp
      rw [s_app (ds := items ++ [.tup [.str "come", .int v]]) rfl]
      simp [slotV, slotB]
      refine pick_ok (by omega) hd2 (by simpa using hne) (by simp; omega) fun x st3 hd3 hx => ?_
      obtain ⟨i, _, rfl⟩ := List.mem_map.mp hx
      try simp [slotV, slotB, slcD, rd]
      refine ⟨by omega, (hI _ _ _).mpr ⟨l, items ++ [.tup [.str "come", .int v]] ++ [.tup [.str "come", .int i]], _, by omega, ci_snoc (ci_snoc hc), by simp; omega, hd3, fun e => absurd e hne, by simp; rfl⟩⟩
    · try simp [slotV, slotB, slcD, rd]
      exact (hI _ _ _).mpr ⟨l, items ++ [.tup [.str "come", .int v]], _, by omega, ci_snoc hc, by simp; omega, hd2, fun e => absurd e hne, rfl⟩
theorem deck_ok {k : Nat} (hk : 2 ≤ k) {ns : List Int} (hl : ns.length ≤ 63) {Q : D → Store → Prop} (q : ∀ st, Dk st [] → Q (.loc 1) st) : Ok ((lv k).call 13 [.lst (ns.map .int)] []) Q := by
  refine call_ok hk t13 rfl rfl fun j hj => ?_
  have hcut : cutL (ns.map D.int) none (some 63) = ns.map .int := by
    unfold cutL
    have h1 : HT.sIx (ns.map D.int).length 0 none = 0 := rfl
    have h2 : HT.sIx (ns.map D.int).length (ns.map D.int).length (some 63) = ns.length := by
      unfold HT.sIx
      simp
      omega
    rw [h1, h2, List.drop_zero, Nat.sub_zero]
    exact List.take_of_length_le (by simp)
  simp [b13, start, slotV, slotB, slcD, rd, hcut]
  obtain ⟨I, hI⟩ : ∃ I : List D → Env → Store → Prop, ∀ rem env st', I rem env st' ↔ ∃ (l : List Int) (m : Int) (x2 : Slot), rem = l.map .int ∧ st' = [] ∧ env = [.val (.lst (ns.map .int)), .val (.int m), x2] := ⟨_, fun _ _ _ => Iff.rfl⟩
  refine (for_inv I ((hI _ _ _).mpr ⟨ns, 1087278, .no, rfl, rfl, rfl⟩) ?_ ?_).1
  · intro x xs env st' h
    obtain ⟨l, m, x2, e1, rfl, rfl⟩ := (hI _ _ _).mp h
    cases l with
    | nil => cases e1
    | cons y l =>
      cases e1
      refine ⟨_, rfl, ?_⟩
      simp [b13_0, slotV, slotB]
      try simp [slotV, slotB, slcD, rd]
      repeat' (first | rw [bin_mul2 (by decide), okO_some] | rw [bin_addI, okO_some] | rw [fn_int, okO_some] | rw [bin_mod (by decide), okO_some] | simp [slotV, slotB])
      exact (hI _ _ _).mpr ⟨l, _, _, rfl, rfl, rfl⟩
  · intro env st' h
    obtain ⟨l, m, x2, e1, rfl, rfl⟩ := (hI _ _ _).mp h
    simp
    refine e_mat rfl ?_
    rw [e_dic, a_cons]
    refine e_mat rfl ?_
    refine e_revl ?_
    simp [slotV, slotB, slcD, rd, hcut, fnD, seqOf]
    exact q _ ⟨ns.reverse, m, 0, by simp [deckS, dkD], by simpa using hl⟩
end G78
set_option maxHeartbeats 1000000
namespace G78
open PySem (Str)
open DI
def oddA (n : Nat) : List D := [.tup [.str "day"], .tup [.str "gone", .int 0], .tup [.str "come", .int n], .tup [.str "come", .int (-1)], .tup [.str "come", .bl true], .tup [.str "come", .str "0"], .lst [.str "come", .int 0]]
def oddB : List D := [.tup [.str "come"], .tup [.str "come", .int 0, .int 0], .str "come", .non, .int 0, .tup [.str "came", .int 0], .tup [.str "come", .non], .tup [.tup [], .int 0], .tup [.str "come", .int 1000000000000000000000000000000000000000]]
theorem odd_ok (n : Nat) : ∀ d ∈ oddA n ++ oddB, ItemOk d := by
  have g : PySem.PyData.strOk "gone" = true := by decide +kernel
  have c : PySem.PyData.strOk "came" = true := by decide +kernel
  intro d hd
  simp only [oddA, oddB, List.mem_append, List.mem_cons, List.not_mem_nil, or_false] at hd
  rcases hd with (rfl | rfl | rfl | rfl | rfl | rfl | rfl) | (rfl | rfl | rfl | rfl | rfl | rfl | rfl | rfl | rfl)
  · exact .tup _ (by simp)
  · exact .si _ _ g
  · exact .si _ _ come_str
  · exact .si _ _ come_str
  · exact .sb _ _ come_str
  · exact .ss _ _ come_str
  · exact .lst _
  · exact .tup _ (by simp)
  · exact .tup _ (by simp)
  · exact .str _
  · exact .non
  · exact .int _
  · exact .si _ _ c
  · exact .sn _ come_str
  · exact .tt _ _
  · exact .si _ _ come_str
theorem cut_mem {ds : List D} {lo hi : Option Int} : ∀ d ∈ cutL ds lo hi, d ∈ ds := fun d hd => by
  unfold cutL at hd
  exact List.mem_of_mem_drop (List.mem_of_mem_take hd)
theorem cut_len {ds : List D} {lo hi : Option Int} : (cutL ds lo hi).length ≤ ds.length := by
  unfold cutL
  rw [List.length_take, List.length_drop]
  omega
theorem tup_add {st : Store} {a b : List D} (ha : a.length < 1000) (hb : b.length < 1000) : binD st .add (.tup a) (.tup b) = some (.tup (a ++ b)) := by
  have h1 : lineOk a.length = true := by simp; omega
  have h2 : lineOk b.length = true := by simp; omega
  have h3 : lineOk (a.length + b.length) = true := by simp; omega
  simp only [binD, h1, h2, h3, Bool.and_self, if_true]
theorem stream_item {ds : List D} (h : CI ds) : ItemOk (.tup ds) := by
  by_cases hl : ds.length = 2
  · obtain ⟨a, b, rfl⟩ : ∃ a b, ds = [a, b] := by
      match ds, hl with
      | [a, b], _ => exact ⟨a, b, rfl⟩
    obtain ⟨i, rfl⟩ := h a (by simp)
    exact .tt _ _
  · exact .tup _ hl
theorem sets_mem5 {n : Nat} (hn : OkN n) {s : List Int} (hs : s ∈ setsI n) : s.length ≤ 5 := (sets_good n hn s hs).2.2
theorem things_ok {k : Nat} (hk : 7 ≤ k) {st rest : Store} {n : Nat} (hn : Ok3 n) {room : Int} {Bd Ad : List D} {Q : D → Store → Prop} (hd : Dk st rest)
    (q : ∀ ts st', Dk st' rest → (∀ t ∈ ts, ThingOk t) → ts.length ≤ 50 → Q (.lst ts) st') : Ok ((lv k).call 24 [.loc 1, wD n room Bd Ad] st) Q := by
  refine call_ok (by omega) t24 rfl rfl fun j hj => ?_
  obtain ⟨hl1, hl2⟩ := sets_len n hn.ok
  have hne : (setsI n).map tupI ≠ [] := by
    intro e
    have := congrArg List.length e
    simp at this
    rw [this] at hl2
    simp at hl2
  simp [b24, start, slotV, slotB]
  refine sets_ok (by omega) hn.ok ?_
  try simp
  refine pick_ok (by omega) hd hne (by simp; omega) fun x st1 hd1 hx => ?_
  obtain ⟨s, hs, rfl⟩ := List.mem_map.mp hx
  try simp [slotV]
  refine comings_ok (by omega) hd1 (sets_mem5 hn.ok hs) fun ds st2 hd2 hc hlen => ?_
  try simp [slotV, slotB]
  refine sets_ok (by omega) hn.ok ?_
  try simp
  refine pick_ok (by omega) hd2 hne (by simp; omega) fun x st3 hd3 hx => ?_
  obtain ⟨s2, hs2, rfl⟩ := List.mem_map.mp hx
  try simp
  refine comings_ok (by omega) hd3 (sets_mem5 hn.ok hs2) fun ds2 st4 hd4 hc2 hlen2 => ?_
  simp [slotV, slotB, fresh, ownable]
  refine draw_ok (by omega) hd4 (by omega) (by omega) fun at_ st5 hd5 _ _ => ?_
  try simp [slotV, slotB]
  rw [lst_add (by simp) (by simp)]
  try simp
  have sm4 : smallI 4 = true := by decide
  refine ⟨sm4, ?_⟩
  have hodd := odd_ok n
  obtain ⟨I, hI⟩ : ∃ I : List D → Env → Store → Prop, ∀ rem env st', I rem env st' ↔ ∃ (ts : List D) (x7 : Slot), Dk st' rest ∧ (∀ t ∈ ts, ThingOk t) ∧ ts.length + rem.length ≤ 7 ∧ env = [.val (.loc 1), .val (wD n room Bd Ad), .val (tupI s), .val (.tup ds), .own (.lst ts), .val (.int at_), .val (.lst (oddA n ++ oddB)), x7] := ⟨_, fun _ _ _ => Iff.rfl⟩
  have t0 : ThingOk (.tup []) := .tup [] (fun _ h => (by cases h)) (by simp)
  have t1 : ThingOk (.tup ds) := .tup ds (ci_item hc) (by omega)
  have t2 : ThingOk (.tup ds2) := .tup ds2 (ci_item hc2) (by omega)
  refine (for_inv (xs := rngD 0 4) I ((hI _ _ _).mpr ⟨[.tup [], .tup ds, .tup ds2], .no, hd5, ?_, ?_, rfl⟩) ?_ ?_).1
  · intro t ht
    simp at ht
    rcases ht with rfl | rfl | rfl
    · exact t0
    · exact t1
    · exact t2
  · have h4 : (rngD 0 4).length = 4 := rfl
    rw [h4]
    simp
  · intro x xs env st6 h
    obtain ⟨ts, x7, hd6, hts, hlt, rfl⟩ := (hI _ _ _).mp h
    refine ⟨_, rfl, ?_⟩
    simp only [b24_0, l_cons]
    rw [s_app (ds := ts) rfl]
    simp [slotV, slotB, slcD, rd]
    refine pick_ok (by omega) hd6 (by simp [oddA]) (by simp [oddA, oddB]) fun y st7 hd7 hy => ?_
    have hyo := hodd y hy
    have c1 := cut_len (ds := ds) (lo := none) (hi := some at_)
    have c2 := cut_len (ds := ds) (lo := some at_) (hi := none)
    try simp
    rw [tup_add (by omega) (by simp), okO_some]
    try simp [slotV, slotB, slcD, rd]
    rw [tup_add (by simp; omega) (by omega), okO_some]
    simp at hlt
    try simp [slotV, slotB, slcD, rd]
    refine ⟨by omega, (hI _ _ _).mpr ⟨ts ++ [.tup (cutL ds none (some at_) ++ y :: cutL ds (some at_) none)], _, hd7, fun t ht => ?_, by simp; omega, by simp; rfl⟩⟩
    rcases List.mem_append.mp ht with ht | ht
    · exact hts t ht
    · rw [List.mem_singleton.mp ht]
      refine .tup _ (fun d hd' => ?_) (by simp; omega)
      rcases List.mem_append.mp hd' with hd' | hd'
      · exact ci_item hc d (cut_mem d hd')
      · rcases List.mem_cons.mp hd' with rfl | hd'
        · exact hyo
        · exact ci_item hc d (cut_mem d hd')
  · intro env st6 h
    obtain ⟨ts, x7, hd6, hts, hlt, rfl⟩ := (hI _ _ _).mp h
    simp [slotV, slotB, lendable]
    rw [lst_add (by simp at hlt; omega) (by simp), okO_some]
    refine q _ st6 hd6 (fun t ht => ?_) (by simp at hlt ⊢; omega)
    rcases List.mem_append.mp ht with ht | ht
    · exact hts t ht
    · simp at ht
      rcases ht with rfl | rfl | rfl | rfl | rfl | rfl | rfl | rfl
      · exact .lst _
      · exact .non
      · exact .int _
      · exact .str _
      · exact .str _
      · exact .dic _ _
      · exact .tup _ (fun d hd' => by rw [List.mem_singleton.mp hd']; exact stream_item hc) (by simp)
      · exact .bl _
end G78
set_option maxHeartbeats 1000000
namespace G78
open PySem (Str)
open DI
def comeP (s : List Int) : List PySem.PyData := s.map fun x => .tuple [.str "come", .int x]
theorem toP_come {n : Nat} {st : Store} (s : List Int) : (s.map fun x => D.tup [.str "come", .int x]).mapM (toP (n + 1) st) = some (comeP s) := by
  induction s with
  | nil => rfl
  | cons x xs ih =>
    rw [List.map_cons, List.mapM_cons, ih]
    simp [toP, come_str, comeP]
theorem eqv_come (s : List Int) : PySem.PyData.eqvAll (comeP s) (comeP s) = true := by
  induction s with
  | nil => rfl
  | cons x xs ih =>
    unfold comeP at ih ⊢
    simp [PySem.PyData.eqvAll, PySem.PyData.eqv, ih]
theorem ne_due {st : Store} (a : Option (List Int)) : cmpD st .ne (dueV a) (dueV a) = some false := by
  cases a with
  | none => rfl
  | some s =>
    have h : toP 60 st (comeT s) = some (.tuple (comeP s)) := by
      unfold comeT
      rw [show (60 : Nat) = 58 + 1 + 1 from rfl, toP, toP_come]
      rfl
    simp only [dueV, cmpD, eqD, h, Option.bind_eq_bind, Option.bind_some, Option.map_some, PySem.PyData.eqv, eqv_come, Bool.not_true]
theorem notN_due {st : Store} (a : Option (List Int)) : cmpD st .notN (dueV a) .non = some a.isSome := by
  cases a with
  | none => rfl
  | some s => rfl
theorem ne_bl {st : Store} (a : Bool) : cmpD st .ne (.bl a) (.bl a) = some false := by
  cases a <;> rfl
theorem toP_tups {n : Nat} {st : Store} (S : List (List Int)) : (S.map tupI).mapM (toP (n + 1) st) = some (S.map fun s => .tuple (s.map .int)) := by
  induction S with
  | nil => rfl
  | cons x xs ih =>
    have hx : toP (n + 1) st (tupI x) = some (.tuple (x.map .int)) := by
      unfold tupI
      rw [toP, toP_ints]
      rfl
    rw [List.map_cons, List.mapM_cons, ih, hx]
    rfl
theorem ne_nil {st : Store} (S : List (List Int)) : cmpD st .ne (.lst (S.map tupI)) (.lst []) = some (!decide (S = [])) := by
  have h : toP 60 st (.lst (S.map tupI)) = some (.list (S.map fun s => .tuple (s.map .int))) := by
    rw [show (60 : Nat) = 58 + 1 + 1 from rfl, toP, toP_tups]
    rfl
  have h2 : toP 60 st (.lst []) = some (.list []) := rfl
  simp only [cmpD, eqD, h, h2, Option.bind_eq_bind, Option.bind_some, Option.map_some]
  cases S with
  | nil => rfl
  | cons s S => simp [PySem.PyData.eqv, PySem.PyData.eqvAll]
theorem unl_symm (s : List Int) : ∀ (As Bs : List (List (List Int))), unl As Bs s = unl Bs As s
  | [], Bs => by cases Bs <;> rfl
  | _ :: _, [] => rfl
  | a :: As, b :: Bs => by
    have := unl_symm s As Bs
    unfold unl at this ⊢
    rw [List.zip_cons_cons, List.zip_cons_cons, List.any_cons, List.any_cons, this]
    congr 2
    exact decide_eq_decide.mpr eq_comm
theorem due_symm {n : Nat} {room : Int} (As Bs : List (List (List Int))) : dueD n room As Bs = dueD n room Bs As := by
  unfold dueD
  congr 1
  funext s
  rw [unl_symm]
theorem unl_self (s : List Int) : ∀ (As : List (List (List Int))), unl As As s = false
  | [] => rfl
  | a :: As => by
    have := unl_self s As
    unfold unl at this ⊢
    rw [List.zip_cons_cons, List.any_cons, this]
    simp
theorem due_self {n : Nat} {room : Int} (As : List (List (List Int))) : dueD n room As As = none := by
  unfold dueD
  rw [List.find?_eq_none]
  intro s _
  rw [unl_self]
  simp
theorem due_mem {n : Nat} {room : Int} {As Bs : List (List (List Int))} {s : List Int} (h : dueD n room As Bs = some s) : s ∈ setsI n := by
  unfold dueD at h
  exact List.mem_of_find?_eq_some h
theorem come_ci (s : List Int) : CI (s.map fun x => D.tup [.str "come", .int x]) := fun d hd => by
  obtain ⟨x, _, rfl⟩ := List.mem_map.mp hd
  exact ⟨x, rfl⟩
theorem ls_len {st : Store} : ∀ {ds : List D} {Ls : List (List (List Int))}, LsR st ds Ls → ds.length = Ls.length
  | [], [], _ => rfl
  | [], _ :: _, h => h.elim
  | _ :: _, [], h => h.elim
  | d :: ds, L :: Ls, h => by
    rw [List.length_cons, List.length_cons, ls_len h.2]
theorem codes {n : Nat} {st : Store} {tg : Tg} {env : Env} {el : Env → Store → Res} (hel : ∀ (d : D) (L : List (List Int)), LR st d L → ∃ env1, tgSet tg d env = some env1 ∧ el env1 st = some (.ok (chL n L), st)) :
    ∀ {ds : List D} {Ls : List (List (List Int))}, LsR st ds Ls → compL el (fun _ st => some (.ok (.bl true), st)) tg env ds st = some (Ls.map (chL n), st)
  | [], [], _ => rfl
  | [], _ :: _, h => h.elim
  | _ :: _, [], h => h.elim
  | d :: ds, L :: Ls, ⟨h0, h⟩ => by
    obtain ⟨env1, h1, h2⟩ := hel d L h0
    simp only [compL, h1, h2, codes hel h, List.map_cons]
theorem codes_ok {n : Nat} {st : Store} {tg : Tg} {env : Env} {el : Env → Store → Res} {ds : List D} {Ls : List (List (List Int))} {Q : List D → Store → Prop} (h : LsR st ds Ls)
    (hel : ∀ (d : D) (L : List (List Int)), LR st d L → ∃ env1, tgSet tg d env = some env1 ∧ el env1 st = some (.ok (chL n L), st)) (q : Q (Ls.map (chL n)) st) : OkCp el (fun _ st => some (.ok (.bl true), st)) tg env (.lst ds) st Q := by
  show OkC (compL el _ tg env ds st) Q
  rw [codes hel h, okC_some]
  exact q
def dueE : CE := (.ite (.cmp .ne (.var 6) (.lst [])) (.fn .tuple (.comp b26_4 (.var 9) (.idx (.var 6) (.con (.int 0))) none)) (.con (.non)))
def moreE : CE := (.ite (.cmp .notN (.var 8) (.con (.non))) (.lst [(.var 8), (.rev (.var 8)), (.bin .add (.var 8) (.var 8))]) (.lst []))
def b26T : List CS := [.asg 8 false dueE, .ifs (.or (.cmp .ne (.call 9 [(.idx (.var 2) (.con (.str "room"))), (.var 3), (.var 5)]) (.var 8)) (.cmp .ne (.call 10 [(.idx (.var 2) (.con (.str "room"))), (.var 3), (.var 5)]) (.cmp .notN (.var 8) (.con (.non))))) [.ret (.con (.bl false))] [], .ifs (.cmp .ne (.call 9 [(.idx (.var 2) (.con (.str "room"))), (.var 5), (.var 3)]) (.var 8)) [.ret (.con (.bl false))] [], .asg 10 false (.bin .add (.call 24 [(.var 1), (.var 2)]) moreE), .for_ (.var 11) (.var 10) b26_5, .ifs (.or (.call 10 [(.idx (.var 2) (.con (.str "room"))), (.var 3), (.var 3)]) (.cmp .notN (.call 9 [(.idx (.var 2) (.con (.str "room"))), (.var 5), (.var 5)]) (.con (.non)))) [.ret (.con (.bl false))] [], .ret (.or (.cmp .gt (.call 14 [(.var 1), (.con (.int 4))]) (.con (.int 0))) (.call 25 [(.var 2), (.var 3), (.var 5)]))]
theorem b26_cut : b26 = .asg 1 false (.call 13 [(.var 0)]) :: .asg 2 false (.call 20 [(.var 1)]) :: .asg 3 false (.fn .tuple (.comp b26_0 (.var 4) (.idx (.var 2) (.con (.str "before"))) none)) :: .asg 5 false (.fn .tuple (.comp b26_1 (.var 4) (.idx (.var 2) (.con (.str "after"))) none)) :: .asg 6 false (.comp b26_2 (.var 7) (.call 16 [(.idx (.var 2) (.con (.str "offers")))]) (some b26_3)) :: b26T := rfl
def okSet (room : Int) (Bs As : List (List (List Int))) (s : List Int) : Bool := decide ((s.length : Int) ≤ room) && unl Bs As s
theorem due_ok {o : Orc} {n : Nat} (hn : OkN n) {room : Int} {Bs As : List (List (List Int))} {x0 x1 x2 x3 x4 x5 x7 x8 x9 x10 x11 : Slot} {st : Store} {Q : D → Store → Prop} (q : Q (dueV (dueD n room Bs As)) st) :
    OkE o dueE [x0, x1, x2, x3, x4, x5, .val (.lst (((setsI n).filter (okSet room Bs As)).map tupI)), x7, x8, x9, x10, x11] st Q := by
  have e : dueD n room Bs As = ((setsI n).filter (okSet room Bs As)).head? := by
    unfold dueD okSet
    rw [List.head?_filter]
  have hm : ∀ s ∈ (setsI n).filter (okSet room Bs As), s ∈ setsI n := fun s hs => (List.mem_filter.mp hs).1
  rw [e] at q
  generalize (setsI n).filter (okSet room Bs As) = S at q hm ⊢
  simp [dueE, slotV, slotB, ne_nil]
  cases S with
  | nil => simp; exact q
  | cons s S =>
    have := (sets_good n hn s (hm s List.mem_cons_self)).2.2
    simp [idxD, rd, L2.atI, L2.ixN]
    try simp [slotV, slotB, slcD, rd]
    refine cp_mapT (l := s) (g := .int) (fun x => .tup [.str "come", .int x]) (.inr rfl) (fun x _ => ⟨_, rfl, ?_⟩) ⟨by simp; omega, okO_some.mpr q⟩
    simp [b26_4, evalE, evalL, slotV, lineOk]
theorem more_ok {o : Orc} {n : Nat} (hn : OkN n) {room : Int} {Bs As : List (List (List Int))} {x0 x1 x2 x3 x4 x5 x6 x7 x9 x10 x11 : Slot} {st : Store} {Q : D → Store → Prop}
    (q : ∀ ts : List D, (∀ t ∈ ts, ThingOk t) → ts.length ≤ 3 → Q (.lst ts) st) :
    OkE o moreE [x0, x1, x2, x3, x4, x5, x6, x7, .val (dueV (dueD n room Bs As)), x9, x10, x11] st Q := by
  simp [moreE, slotV, slotB, notN_due]
  cases h : dueD n room Bs As with
  | none => simp; exact q _ (fun _ h => by cases h) (by simp)
  | some s =>
    have hl := (sets_good n hn s (due_mem h)).2.2
    have hc := come_ci s
    simp [dueV, comeT, revD, rd, slotV, slotB]
    rw [tup_add (by simp; omega) (by simp; omega), okO_some]
    try simp [fresh]
    refine q _ (fun t ht => ?_) (by simp)
    simp at ht
    rcases ht with rfl | rfl | rfl
    · exact .tup _ (ci_item hc) (by simp; omega)
    · exact .tup _ (fun d hd => ci_item hc d (by simpa using hd)) (by simp; omega)
    · exact .tup _ (fun d hd => ci_item hc d (by simpa using hd)) (by simp; omega)
theorem law_ok {k : Nat} (hk : 12 ≤ k) {ns : List Int} (hl : ns.length ≤ 63) (H25 : ∀ (j : Nat) n room Bd Ad Bs As rest st, 10 ≤ j → World78 n Bs As → Dk st rest → Ok ((lv j).call 25 [wD n room Bd Ad, .tup (Bs.map (chL n)), .tup (As.map (chL n))] st) fun d _ => d = .bl true) :
    Ok ((lv k).call 26 [.lst (ns.map .int)] []) fun d _ => d = .bl true := by
  refine call_ok (by omega) t26 rfl rfl fun j hj => ?_
  rw [b26_cut]
  simp [start, slotV, slotB]
  refine deck_ok (by omega) hl fun st1 hd1 => ?_
  try simp [slotV]
  refine world_ok (by omega) hd1 fun n room Bd Ad Bs As rest st2 hw hd2 hB hA => ?_
  have hBR := ls_up hd2 hB
  have hAR := ls_up hd2 hA
  have hn := hw.n.ok
  have hbl := hw.bl
  have hal := hw.al
  have hA0 : As ≠ [] := fun e => hw.b (List.length_eq_zero_iff.mp (by rw [← hal, e]; rfl))
  simp [slotV, slotB]
  refine codes_ok (n := n) hBR (fun d L h => ⟨_, rfl, ev_of ?_⟩) ?_
  · obtain ⟨rows, rfl, hr, hl⟩ := h
    simp [b26_0, slotV, slotB]
    exact code_ok (by omega) hn hr hl ⟨rfl, rfl⟩
  refine ⟨by simp; omega, ?_⟩
  simp [slotV, slotB]
  refine codes_ok (n := n) hAR (fun d L h => ⟨_, rfl, ev_of ?_⟩) ?_
  · obtain ⟨rows, rfl, hr, hl⟩ := h
    simp [b26_1, slotV, slotB]
    exact code_ok (by omega) hn hr hl ⟨rfl, rfl⟩
  refine ⟨by simp; omega, ?_⟩
  simp [slotV, slotB]
  refine sets_ok (by omega) hn ?_
  refine cp_map (l := setsI n) (g := tupI) (okSet room Bs As) tupI (.inl rfl) (fun s hs => ?_) ?_
  · refine ⟨_, rfl, ev_of ?_, fun _ => rfl⟩
    have hgl := (sets_good n hn s hs).2.2
    simp [b26_3, slotV, slotB]
    rw [byB_bl]
    unfold okSet
    refine ⟨fun h1 => ?_, fun h1 => ?_⟩
    · simp [slotV, slotB]
      refine unlike_ok (by omega) hBR hAR (.inl rfl) (by omega) ?_
      rw [h1]; exact ⟨rfl, rfl⟩
    · simp [h1]
  clear hBR hAR
  refine ⟨?_, ?_⟩
  · simp
    have := List.length_filter_le (okSet room Bs As) (setsI n)
    have := (sets_len n hn).1
    omega
  unfold b26T
  simp [slotV, slotB]
  refine due_ok hn ?_
  simp [slotV, slotB]
  refine first_ok (by omega) hn hw.b hbl (by omega) ?_
  try simp [slotV, slotB]
  rw [ne_due, okO_some, byB_bl]
  refine ⟨fun h => (by cases h), fun _ => ?_⟩
  try simp [slotV, slotB]
  refine shown_ok (by omega) hn hw.b hbl (by omega) ?_
  try simp [slotV, slotB]
  rw [notN_due, okO_some]
  try simp [slotV, slotB]
  rw [ne_bl, okO_some, ifB_bl]
  refine ⟨fun h => (by cases h), fun _ => ?_⟩
  try simp [slotV, slotB]
  refine first_ok (by omega) hn hA0 (by omega) hbl ?_
  try simp [slotV, slotB]
  rw [due_symm, ne_due, okO_some, ifB_bl]
  refine ⟨fun h => (by cases h), fun _ => ?_⟩
  try simp [slotV, slotB]
  refine things_ok (by omega) hw.n hd2 fun ts st3 hd3 hts hlt => ?_
  try simp [slotV, slotB]
  try simp [slotV, slotB]
  refine more_ok hn fun ts2 ht2 hlt2 => ?_
  try simp [slotV, slotB]
  rw [lst_add (by omega) (by omega), okO_some]
  try simp [slotV, slotB]
  have hBR := ls_up hd3 hB
  have hAR := ls_up hd3 hA
  obtain ⟨I, hI⟩ : ∃ I : List D → Env → Store → Prop, ∀ rem env st', I rem env st' ↔ ∃ x11, st' = st3 ∧ (∀ t ∈ rem, ThingOk t) ∧ env = [.val (.lst (ns.map .int)), .val (.loc 1), .val (wD n room Bd Ad), .val (.tup (Bs.map (chL n))), .no, .val (.tup (As.map (chL n))), .val (.lst (((setsI n).filter (okSet room Bs As)).map tupI)), .no, .val (dueV (dueD n room Bs As)), .no, .val (.lst (ts ++ ts2)), x11] := ⟨_, fun _ _ _ => Iff.rfl⟩
  refine (for_inv I ((hI _ _ _).mpr ⟨.no, rfl, fun t ht => ?_, rfl⟩) ?_ ?_).1
  · rcases List.mem_append.mp ht with ht | ht
    · exact hts t ht
    · exact ht2 t ht
  · intro x xs env st4 h
    obtain ⟨x11, rfl, hr, rfl⟩ := (hI _ _ _).mp h
    have hx := hr x List.mem_cons_self
    refine ⟨_, rfl, ?_⟩
    simp [b26_5, slotV, slotB]
    refine holds_ok (by omega) hw.n hw.b hbl (by omega) hx ?_
    try simp [slotV, slotB]
    rw [show fnD st4 Fn.repr (D.bl (isOne n room Bs As x)) = some (.str (if isOne n room Bs As x then strT else strF)) from rfl, okO_some]
    try simp [slotV, slotB, slcD, rd]
    refine one_ok (by omega) hw.n hBR hAR hx ?_
    try simp [slotV, slotB]
    rw [show fnD st4 Fn.repr (D.bl (isOne n room Bs As x)) = some (.str (if isOne n room Bs As x then strT else strF)) from rfl, okO_some]
    have hs : PySem.PyData.strOk (if isOne n room Bs As x then strT else strF) = true := by
      cases isOne n room Bs As x <;> decide +kernel
    rw [ne_str hs hs, okO_some, ifB_bl]
    try simp
    exact (hI _ _ _).mpr ⟨_, rfl, fun t ht => hr t (List.mem_cons_of_mem _ ht), rfl⟩
  · intro env st4 h
    obtain ⟨x11, rfl, _, rfl⟩ := (hI _ _ _).mp h
    simp [slotV, slotB]
    refine shown_ok (by omega) hn hw.b hbl hbl ?_
    try simp [slotV, slotB]
    rw [due_self, byB_bl]
    refine ⟨fun h => (by cases h), fun _ => ?_⟩
    try simp [slotV, slotB]
    refine first_ok (by omega) hn hA0 (by omega) (by omega) ?_
    try simp [slotV, slotB]
    rw [due_self, notN_due, okO_some, ifB_bl]
    refine ⟨fun h => (by cases h), fun _ => ?_⟩
    try simp [slotV, slotB]
    refine draw_ok (by omega) hd3 (by omega) (by omega) fun r st5 hd5 _ _ => ?_
    try simp [slotV, slotB]
    rw [byB_bl]
    refine ⟨fun _ => ?_, fun _ => ?_⟩
    · simp
    · simp [slotV, slotB]
      exact H25 j n room Bd Ad Bs As rest st5 (by omega) hw hd5
end G78
set_option maxHeartbeats 2000000
namespace G78
open PySem PySem.Spec PyProof.Rows L2 C8 DI
def s1O : Stmt := (fnBody (top 38)).getD 0 (.Pass ⟨0, 0, 0, 0⟩)
def lamsO : List (Expr × Scope) := ((fnBody (top 38)).filterMap fun s => match s with
  | .Assign _ (.List [.Lambda _ b sc _] _) _ => some (b, sc)
  | .Expr (.Call _ [.Lambda _ b sc _] _ _) _ => some (b, sc)
  | _ => none)
def cscO : Scope := match (fnBody (top 38)).getD 5 (.Pass ⟨0, 0, 0, 0⟩) with
  | .Return (some (.Compare (.ListComp _ _ sc _) _ _ _)) _ => sc
  | _ => ⟨.function, [], false, false, []⟩
theorem csO_ok : cS SI0 h25 100 (fnScope (top 38)) s1O = some csO := by kernel_rfl
theorem cesO_ok : (lamsO.map fun p => cE SI0 h25 100 p.2 p.1) = cesO.map some := by kernel_rfl
theorem lamsO_sc : (lamsO.all fun p => LamX.lamSB (fnScope (top 38)) p.2) = true := by kernel_rfl
theorem isOth : IsOth "_law_calls" "_law_call" "_law_refuses" cscO s1O lamsO (fnBody (top 38)) :=
  ⟨⟨_, _, _, _, _, _, _, _, _, rfl, rfl, .app rfl (.app rfl (.app rfl .nil)), .mk⟩⟩
theorem blkO : BlkOk h25.N (fnScope (top 38)) cscO [("_law_call", 5)] := blkOk_by (by kernel_rfl)
theorem isRef : IsRefB "_law_call" "OtherOffers" (fnBody (top 37)) := .mk
theorem prim_of {f : Nat} {p : Orc → List D → Store → Res} (h : tx.prim f = some p) : (f = 25 ∧ p = prOthers) ∨ (f = 27 ∧ p = prNone) := by
  have h : primF f = some p := h
  unfold primF at h
  split at h
  · exact .inl ⟨by assumption, (Option.some.inj h).symm⟩
  · split at h
    · exact .inr ⟨by assumption, (Option.some.inj h).symm⟩
    · cases h
theorem lamsO_of (m : Nat) (p : Expr × Scope) (ce : CE) (hp : lamsO[m]? = some p) (hc : cesO[m]? = some ce) : cE SI0 h25 100 p.2 p.1 = some ce ∧ LamX.LamS (fnScope (top 38)) p.2 := by
  refine ⟨?_, LamX.lamS_by (List.all_eq_true.mp lamsO_sc p (List.mem_of_getElem? hp))⟩
  have h1 : (lamsO.map fun p => cE SI0 h25 100 p.2 p.1)[m]? = some (cE SI0 h25 100 p.2 p.1) := by rw [List.getElem?_map, hp]; rfl
  rw [cesO_ok, List.getElem?_map, hc] at h1
  exact (Option.some.inj h1).symm
theorem prOk (w : World) : tx.PrOk w := by
  intro K mg base h0 O s KB GB TB f fd p hT hp k hG
  obtain ⟨d0, hd0, rfl⟩ := Txt.T_of hT
  rcases prim_of hp with ⟨rfl, rfl⟩ | ⟨rfl, rfl⟩
  · have H := Txt.hand (f := 25) (d := dF 38 "_law_others_right") O s KB GB TB rfl
    have R := Txt.hand (f := 27) (d := dF 37 "_law_refuses") O s KB GB TB rfl
    obtain ⟨oc, od, osl, dV, kV, doc, pm, cdv, ct, an, e1, e2, e3, e4, e5, e6⟩ := H.ex
    obtain ⟨roc, rod, rosl, rdV, rkV, rdoc, rpm, rcdv, rct, ran, r1, r2, r3, r4, r5, r6⟩ := R.ex
    obtain ⟨x1, x2⟩ := Txt.exc_at s KB GB (e := ("OtherOffers", fnArgs (mth 2 0), fnBody (mth 2 0), fnScope (mth 2 0))) (List.mem_cons_self)
    have hs : ∀ f ∈ tx.fa, f.ok K = true := fun f hf => He.SaysD.facts s.d hf
    have lam : LamAt K mg base cdv (dF 38 "_law_others_right").qual := e6 (by show (_ : Str × Option Str) ∈ [(("_law_sets" : Str), (none : Option Str)), ("_law_others_right", none)]; simp [dF])
    refine oth_ok (k := k) (y := "_law_calls") (v := "_law_call") (x := "_law_refuses") (nm := "OtherOffers") (i := 5) (j := 4) (n := 100) (g := tx.adr K 27) (CA := He.ga K "OtherOffers") (csc := cscO) (s1 := s1O) (ls := lamsO) (cs := csO) (ces := cesO)
      e1 e2 e3 e4 lam isOth csO_ok ⟨by decide, rfl, by decide, lamsO_of⟩ hG rfl (fun x hx => Txt.exOk_of O s hs KB GB x hx) hT rfl rfl rfl (by kernel_rfl) rfl (by decide) (by decide) blkO (by kernel_rfl) (by kernel_rfl) x2 fun X hK hM => ?_
    have g := R.glo "_law_refuses" rfl
    refine ⟨⟨roc, rod, rosl, _, "_law_call", _, _, _, rdV, rkV, rdoc, rpm, rcdv, rct, ran, by rw [hK]; exact r2, by rw [hK]; exact r3, by rw [hK]; exact r5, r4, ?_, by decide, by decide, ?_, isRef⟩, by rw [hM]; exact x1, by decide, by rw [hM]; exact g.2, g.1, by rw [hK]; exact R.kp⟩
    · exact .inl (by kernel_rfl)
    · kernel_rfl
  · refine ⟨fun vs H Q E h => h.1, fun A outer s H args us vs Q E _ _ _ _ h => ?_⟩
    obtain ⟨_, c, ds, _, _, _, q⟩ := h
    unfold runF at q
    rw [hT] at q
    simp only at q
    split at q
    · rw [show tx.prim 27 = some prNone from hp] at q
      exact q.elim
    · exact q.elim
end G78
set_option maxHeartbeats 1000000
namespace G78
open PySem (Str)
open DI
/-- another number of offers -/
def chP (p : Nat × List (List Int)) : D := chL p.1 p.2
theorem callF {k : Nat} (hk : 2 ≤ k) : ∃ j, k = j + 1 ∧ (lv k).call = runF tx.T (lv j) := ⟨k - 1, by omega, by
  obtain ⟨j, rfl⟩ : ∃ j, k = j + 2 := ⟨k - 2, by omega⟩
  exact call_eq⟩
theorem ne_int {st : Store} {i j : Int} : cmpD st .ne (.int i) (.int j) = some (!decide (i = j)) := by
  simp [cmpD, eqD, toP, PySem.PyData.eqv, Bool.beq_eq_decide_eq]
theorem turn3 {k : Nat} (hk : 5 ≤ k) {m m0 : Nat} (h : OkN m) (h0 : OkN m0) {L L0 : List (List Int)} {cs : List D} {st : Store} :
    execL (lv k) b3_0 [.val (.lst (chL m0 L0 :: cs)), .val (chL m L)] st = if m = m0 then some (.nxt, [.val (.lst (chL m0 L0 :: cs)), .val (chL m L)], st) else some (.ex "OtherOffers" [] [], [.val (.lst (chL m0 L0 :: cs)), .val (chL m L)], st) := by
  have ht : evalE (lv k) (.cmp .ne (.fn .len (.var 1)) (.fn .len (.idx (.var 0) (.con (.int 0))))) [.val (.lst (chL m0 L0 :: cs)), .val (chL m L)] st = some (.ok (.bl (!decide (m = m0))), st) := by
    refine ev_of ?_
    simp [slotV, slotB]
    refine len_ch hk h ?_
    simp [slotV, slotB, idxD, rd, L2.atI, L2.ixN]
    refine len_ch hk h0 ?_
    rw [ne_int, okO_some]
    refine ⟨?_, rfl⟩
    congr 2
    try simp [slotV, slotB, slcD, rd]
    first | exact Int.ofNat_inj | exact propext Int.ofNat_inj
  simp only [b3_0, execL, execS, ht, bS]
  by_cases e : m = m0
  · subst e; simp [execL]
  · simp [e, execL, execS, evalL, bSL]
theorem for3 {k : Nat} (hk : 5 ≤ k) {m0 : Nat} (h0 : OkN m0) {L0 : List (List Int)} {cs rest : List D} {q : Nat × List (List Int)} (hq : OkN q.1) (hne : q.1 ≠ m0) {st : Store} : ∀ (pre : List (Nat × List (List Int))), (∀ p ∈ pre, p.1 = m0) → ∀ x1 : Slot,
    ∃ e, forL (.var 1) (fun env st => execL (lv k) b3_0 env st) (pre.map chP ++ chP q :: rest) [.val (.lst (chL m0 L0 :: cs)), x1] st = some (.ex "OtherOffers" [] [], e, st)
  | [], _, x1 => ⟨[.val (.lst (chL m0 L0 :: cs)), .val (chL q.1 q.2)], by
    simp only [List.map_nil, List.nil_append, forL, tgSet, List.set_cons_succ, List.set_cons_zero, chP, turn3 hk hq h0, if_neg hne]⟩
  | p :: pre, hp, x1 => by
    have e1 := hp p List.mem_cons_self
    obtain ⟨e, he⟩ := for3 hk h0 hq hne pre (fun p h => hp p (List.mem_cons_of_mem _ h)) (.val (chP p)) (st := st) (L0 := L0) (cs := cs) (rest := rest)
    refine ⟨e, ?_⟩
    simp only [List.map_cons, List.cons_append, forL, tgSet, List.set_cons_succ, List.set_cons_zero]
    rw [show chP p = chL p.1 p.2 from rfl, turn3 hk (by rw [e1]; exact h0) h0, if_pos e1]
    exact he
/-- same_offers raises -/
theorem same_ex {k : Nat} (hk : 6 ≤ k) {p0 q : Nat × List (List Int)} {pre : List (Nat × List (List Int))} {rest : List D} {st : Store} (h0 : OkN p0.1) (hq : OkN q.1) (hne : q.1 ≠ p0.1) (hp : ∀ p ∈ pre, p.1 = p0.1) :
    (lv k).call 3 [.lst (chP p0 :: (pre.map chP ++ chP q :: rest))] st = some (.ex "OtherOffers" [] [], st) := by
  obtain ⟨j, rfl, hc⟩ := callF (k := k) (by omega)
  rw [hc]
  obtain ⟨e, he⟩ := for3 (k := j) (by omega) h0 hq hne (p0 :: pre) (fun p h => by
    rcases List.mem_cons.mp h with rfl | h
    · rfl
    · exact hp p h) .no (st := st) (L0 := p0.2) (cs := pre.map chP ++ chP q :: rest) (rest := rest)
  rw [List.map_cons, List.cons_append] at he
  have hx : execL (lv j) b3 (start ⟨1, 2, b3, none⟩ [.lst (chP p0 :: (pre.map chP ++ chP q :: rest))]) st = some (.ex "OtherOffers" [] [], e, st) := by
    have hv : evalE (lv j) (.var 0) [.val (.lst (chP p0 :: (pre.map chP ++ chP q :: rest))), .no] st = some (.ok (.lst (chP p0 :: (pre.map chP ++ chP q :: rest))), st) := by simp [evalE, slotV]
    show execL (lv j) b3 [.val (.lst (chP p0 :: (pre.map chP ++ chP q :: rest))), .no] st = _
    simp only [b3, execL, execS, hv, bS]
    rw [show (chL p0.1 p0.2 : D) = chP p0 from rfl] at he
    rw [he]
  unfold runF
  rw [t3]
  simp only [List.length_cons, List.length_nil, if_true, hx]
/-- the two lists of choosers, put together -/
def Clash (C : List D) : Prop := ∃ (p0 q : Nat × List (List Int)) (pre : List (Nat × List (List Int))) (rest : List D), C = chP p0 :: (pre.map chP ++ chP q :: rest) ∧ OkN p0.1 ∧ OkN q.1 ∧ q.1 ≠ p0.1 ∧ ∀ p ∈ pre, p.1 = p0.1
theorem clash_ex {k : Nat} (hk : 6 ≤ k) {C : List D} {st : Store} (h : Clash C) : (lv k).call 3 [.lst C] st = some (.ex "OtherOffers" [] [], st) := by
  obtain ⟨p0, q, pre, rest, rfl, h0, hq, hne, hp⟩ := h
  exact same_ex hk h0 hq hne hp
section
variable {o : Orc} {env : Env} {st st1 : Store} {c : Str} {ns : List Str} {vs : List D}
theorem x_call {f : Nat} {es : List CE} {ds : List D} (h1 : evalL o es env st = some (.ok ds, st)) (h2 : o.call f ds st = some (.ex c ns vs, st1)) : evalE o (.call f es) env st = some (.ex c ns vs, st1) := by
  simp only [evalE, h1, bndL, h2]
theorem x_expr {e : CE} {rest : List CS} (h : evalE o e env st = some (.ex c ns vs, st1)) : execL o (.expr e :: rest) env st = some (.ex c ns vs, env, st1) := by
  simp only [execL, execS, h, bS]
theorem x_ret {e : CE} {rest : List CS} (h : evalE o e env st = some (.ex c ns vs, st1)) : execL o (.ret e :: rest) env st = some (.ex c ns vs, env, st1) := by
  simp only [execL, execS, h, bS]
theorem x_cmp {op : Cmp} {f : Nat} {es : List CE} {b : CE} (h : evalE o (.call f es) env st = some (.ex c ns vs, st1)) : evalE o (.cmp op (.call f es) b) env st = some (.ex c ns vs, st1) := by
  rw [show evalE o (.cmp op (.call f es) b) env st = bnd (lend (.call f es) env st (evalE o (.call f es) env st)) fun x st => bnd (lend b env st (evalE o b env st)) fun y st => (cmpD st op x y).map fun r => (.ok (.bl r), st) by simp only [evalE], h]
  rfl
theorem x_run {T : List FD} {f : Nat} {fd : FD} {ds : List D} {e : Env} (hT : T[f]? = some fd) (hp : fd.prim = none) (hl : ds.length = fd.np) (h : execL o fd.body (start fd ds) st = some (.ex c ns vs, e, st1)) : runF T o f ds st = some (.ex c ns vs, st1) := by
  unfold runF
  simp only [hT, hl, if_true, hp, h]
theorem l_one {e : CE} {d : D} (h : evalE o e env st = some (.ok d, st)) {es : List CE} {ds : List D} (h2 : evalL o es env st = some (.ok ds, st)) : evalL o (e :: es) env st = some (.ok (d :: ds), st) := by
  simp only [evalL, h, bndE, h2, bndLL]
theorem l_nil : evalL o [] env st = some (.ok [], st) := by simp only [evalL]
theorem v_at {i : Nat} {d : D} (h : slotV env i = some d) : evalE o (.var i) env st = some (.ok d, st) := by
  simp only [evalE, h, Option.map_some]
end
theorem first_ex {k : Nat} (hk : 7 ≤ k) {r : D} {B A : List D} {st : Store} (hB : B.length < 50) (hA : A.length < 50) (h : Clash (B ++ A)) : (lv k).call 9 [r, .tup B, .tup A] st = some (.ex "OtherOffers" [] [], st) := by
  obtain ⟨j, rfl, hc⟩ := callF (k := k) (by omega)
  rw [hc]
  refine x_run t9 rfl rfl (x_expr (x_call (l_one (ev_of ?_) l_nil) (clash_ex (k := j) (by omega) h)))
  simp [start, slotV, slotB, fnD, seqOf, rd]
  rw [lst_add (by omega) (by omega), okO_some]
  exact ⟨rfl, rfl⟩
theorem shown_ex {k : Nat} (hk : 8 ≤ k) {r : D} {B A : List D} {st : Store} (hB : B.length < 50) (hA : A.length < 50) (h : Clash (B ++ A)) : (lv k).call 10 [r, .tup B, .tup A] st = some (.ex "OtherOffers" [] [], st) := by
  obtain ⟨j, rfl, hc⟩ := callF (k := k) (by omega)
  rw [hc]
  exact x_run t10 rfl rfl (x_ret (x_cmp (x_call (l_one (v_at rfl) (l_one (v_at rfl) (l_one (v_at rfl) l_nil))) (first_ex (k := j) (by omega) hB hA h))))
theorem holds_ex {k : Nat} (hk : 7 ≤ k) {r d : D} {B A : List D} {st : Store} (hB : B.length < 50) (hA : A.length < 50) (h : Clash (B ++ A)) : (lv k).call 12 [r, .tup B, .tup A, d] st = some (.ex "OtherOffers" [] [], st) := by
  obtain ⟨j, rfl, hc⟩ := callF (k := k) (by omega)
  rw [hc]
  refine x_run t12 rfl rfl (x_expr (x_call (l_one (ev_of ?_) l_nil) (clash_ex (k := j) (by omega) h)))
  simp [start, slotV, slotB, fnD, seqOf, rd]
  rw [lst_add (by omega) (by omega), okO_some]
  exact ⟨rfl, rfl⟩
end G78
set_option maxHeartbeats 1000000
namespace G78
open PySem (Str)
open DI
def oth (n : Nat) : D := chL (n + 1) [[0]]
theorem Ok3.succ {n : Nat} (h : Ok3 n) : OkN (n + 1) := by
  rcases h with rfl | rfl | rfl
  · exact .inr (.inl rfl)
  · exact .inr (.inr (.inl rfl))
  · exact .inr (.inr (.inr rfl))
theorem map_chP (n : Nat) (Xs : List (List (List Int))) : Xs.map (chL n) = (Xs.map fun L => (n, L)).map chP := by
  rw [List.map_map]; rfl
theorem clash_last {n : Nat} (hn : Ok3 n) {Bs : List (List (List Int))} (hb : Bs ≠ []) (rest : List D) : Clash (Bs.map (chL n) ++ oth n :: rest) := by
  cases Bs with
  | nil => exact absurd rfl hb
  | cons b Bs =>
    refine ⟨(n, b), (n + 1, [[0]]), Bs.map fun L => (n, L), rest, ?_, hn.ok, hn.succ, by simp, fun p hp => ?_⟩
    · rw [List.map_cons, ← map_chP]; rfl
    · obtain ⟨L, _, rfl⟩ := List.mem_map.mp hp; rfl
theorem clash_head {n : Nat} (hn : Ok3 n) {Xs : List (List (List Int))} (hx : Xs ≠ []) : Clash (oth n :: Xs.map (chL n)) := by
  cases Xs with
  | nil => exact absurd rfl hx
  | cons x Xs => exact ⟨(n + 1, [[0]]), (n, x), [], Xs.map (chL n), rfl, hn.succ, hn.ok, by simp, fun p hp => by cases hp⟩
theorem tail_cut {n : Nat} {As : List (List (List Int))} (h : As ≠ []) (hl : As.length ≤ 2) : cutL (As.map (chL n)) (some 1) none = (As.drop 1).map (chL n) := by
  match As, h, hl with
  | [a], _, _ => rfl
  | [a, b], _, _ => rfl
theorem others_ok {k : Nat} (hk : 10 ≤ k) {n : Nat} {room : Int} {Bd Ad : List D} {Bs As : List (List (List Int))} {st : Store} (hw : World78 n Bs As) :
    Ok ((lv k).call 25 [wD n room Bd Ad, .tup (Bs.map (chL n)), .tup (As.map (chL n))] st) fun d _ => d = .bl true := by
  obtain ⟨j, rfl, hc⟩ := callF (k := k) (by omega)
  have hal := hw.al
  have hbl := hw.bl
  have hA0 : As ≠ [] := fun e => hw.b (List.length_eq_zero_iff.mp (by rw [← hal, e]; rfl))
  have hn := hw.n
  obtain ⟨R, hR⟩ : ∃ R, R = (As.drop 1).map (chL n) := ⟨_, rfl⟩
  have lR : R.length < 10 := by rw [hR]; simp; omega
  have he : evalE (lv j) (.bin .add (.tup [.call 19 [.bin .add (.idx (.var 0) (.con (.str "offers"))) (.con (.int 1)), .lst [.lst [.con (.int 0)]]]]) (.slc (.var 2) (some (.con (.int 1))) none)) [.val (wD n room Bd Ad), .val (.tup (Bs.map (chL n))), .val (.tup (As.map (chL n))), .no, .no, .no] st = some (.ok (.tup (oth n :: R)), st) := by
    refine ev_of ?_
    simp [slotV, slotB]
    have h1 : binD st .add (.int (n : Int)) (.int 1) = some (.int ((n + 1 : Nat) : Int)) := by simp [binD]
    try rw [h1, okO_some]
    refine code_ok (L := [[0]]) (by omega) hn.succ ⟨⟨.inl rfl, by simp⟩, trivial⟩ (by simp) ?_
    simp [slotV, slotB, slcD, rd]
    rw [tail_cut hA0 (by omega), ← hR, tup_add (by simp) (by omega), okO_some]
    first | exact ⟨rfl, rfl⟩ | rfl
  rw [hc]
  have hx : execL (lv j) csO [.val (wD n room Bd Ad), .val (.tup (Bs.map (chL n))), .val (.tup (As.map (chL n))), .no, .no, .no] st = some (.nxt, [.val (wD n room Bd Ad), .val (.tup (Bs.map (chL n))), .val (.tup (As.map (chL n))), .val (.tup (oth n :: R)), .no, .no], st) := by
    simp only [csO, execL, execS, he, bS, put?]
    rfl
  have hr : evalE (lv j) (.idx (.var 0) (.con (.str "room"))) [.val (wD n room Bd Ad), .val (.tup (Bs.map (chL n))), .val (.tup (As.map (chL n))), .val (.tup (oth n :: R)), .no, .no] st = some (.ok (.int room), st) := by
    refine ev_of ?_
    simp [slotV, slotB]
  have lB : (Bs.map (chL n)).length < 50 := by rw [List.length_map]; omega
  have lA : (As.map (chL n)).length < 50 := by rw [List.length_map]; omega
  have lO : (oth n :: R).length < 50 := by rw [List.length_cons]; omega
  have c1 := clash_last hn hw.b R
  have c2 : Clash ((oth n :: R) ++ Bs.map (chL n)) := by
    rw [hR, List.cons_append, ← List.map_append]
    exact clash_head hn (by simp [hw.b])
  have c4 : Clash ((oth n :: R) ++ As.map (chL n)) := by
    rw [hR, List.cons_append, ← List.map_append]
    exact clash_head hn (by simp [hA0])
  have e1 := x_call (l_one hr (l_one (v_at (i := 1) rfl) (l_one (v_at (i := 3) rfl) l_nil))) (shown_ex (k := j) (st := st) (by omega) lB lO c1)
  have e2 := x_call (l_one hr (l_one (v_at (i := 3) rfl) (l_one (v_at (i := 1) rfl) l_nil))) (first_ex (k := j) (st := st) (by omega) lO lB c2)
  have e3 := x_call (l_one hr (l_one (v_at (i := 1) rfl) (l_one (v_at (i := 3) rfl) (l_one (e := .con .non) (d := .non) (by simp only [evalE]) l_nil)))) (holds_ex (k := j) (st := st) (d := .non) (by omega) lB lO c1)
  have e4 := x_call (l_one hr (l_one (v_at (i := 3) rfl) (l_one (v_at (i := 2) rfl) (l_one (e := .tup []) (d := .tup []) (by simp [evalE, evalL, lineOk]) l_nil)))) (holds_ex (k := j) (st := st) (d := .tup []) (by omega) lO lA c4)
  have hT : tx.T[25]? = some ⟨3, 6, (tx.cmp 25).getD [], some prOthers⟩ := by kernel_rfl
  have hp : prOthers (lv j) [wD n room Bd Ad, .tup (Bs.map (chL n)), .tup (As.map (chL n))] st = some (.ok (.bl true), st) := by
    show prOth 3 6 4 "OtherOffers" csO cesO (lv j) _ st = _
    unfold prOth
    simp only [List.map_cons, List.map_nil, List.cons_append, List.nil_append, show List.replicate (6 - 3) Slot.no = [.no, .no, .no] from rfl, hx]
    simp [notOwn, isNo, cesO, runRef, e1, e2, e3, e4]
  unfold runF
  rw [hT]
  simp only [List.length_cons, List.length_nil, if_true, hp]
  exact ⟨_, _, rfl, rfl⟩
/-- the law's own run -/
theorem law_run (ns : List Int) (hl : ns.length ≤ 63) : ∃ st, (lev tx.T tx.mid tx.fld 25).call 26 [.lst (ns.map .int)] [] = some (.ok (.bl true), st) := by
  obtain ⟨d, st, h, rfl⟩ := law_ok (k := 25) (by omega) hl fun j n room Bd Ad Bs As rest st hj hw hd => others_ok hj hw
  exact ⟨st, h⟩
end G78
set_option maxHeartbeats 0
open PySem PySem.W PySem.Calls PyProof.Rows
theorem G78.room : L2.Room 25 callerA := ⟨rfl, by decide +kernel, by decide +kernel⟩
theorem G78.holds (pr : ∀ w, G78.tx.PrOk w)
    (hrun : ∀ ns : List Int, ns.length ≤ 63 → (∀ z ∈ ns, Builtin.Int.intBits z ≤ 1048576) → ∃ st, (DI.lev G78.tx.T G78.tx.mid G78.tx.fld 25).call 26 [.lst (ns.map DI.D.int)] [] = some (.ok (.bl true), st)) : PySem.Challenge.rw_offerstands_k78_the_gate.Holds := by
  w_on; o_law
  refine HandSHeadRun.head_any (r := OpenLaw.row PySem.Challenge.rw_offerstands_k78_the_gate) (q := view (OpenLaw.row PySem.Challenge.rw_offerstands_k78_the_gate).prog [39]) (H := G78.hk) (ob := G78.ob) (M := 4000) (loose := G78.loose) (d := HandSHeadRun.topDef (OpenLaw.row PySem.Challenge.rw_offerstands_k78_the_gate).prog 39) (kwd := []) G78.ob_eq
    (by kernel_rfl) (fun s => by kernel_rfl) G78.run (by kernel_rfl) (by kernel_rfl) (by kernel_rfl) (by rfl) (by first | assumption | decide +kernel) (by decide +kernel) ⟨rfl, rfl, rfl, rfl, rfl, by decide +kernel⟩ ?hw ?hc
  case hw => w_witness2
  case hc =>
    refine LamX.walk_ofTsE (l := PySem.Challenge.rw_offerstands_k78_the_gate) (n := 63) (k := 25) (x := "_law_script") (CX := fun w => L2.CX (PySem.Challenge.rw_offerstands_k78_the_gate).prog w) rfl (by decide) (by kernel_rfl) G78.room ?F (fun w H s e s' z => DI.Txt.no_exc z)
    intro w mg fa h Y G hmg0
    have hmg : mg ("law" : PySem.Str) = some (.ref fa) := by
      have e : (HandSHeadRun.topDef (OpenLaw.row PySem.Challenge.rw_offerstands_k78_the_gate).prog 39).name = ("law" : PySem.Str) := by kernel_rfl
      rw [← e]
      exact hmg0
    exact DI.Txt.law_at (t := G78.tx) (li := 26) rfl (DI.Txt.ok_of G78.tx_ok) (d := G78.dF 39 "law") rfl rfl (by kernel_rfl) (pr w) hrun Y G hmg
theorem G78.final : PySem.Challenge.rw_offerstands_k78_the_gate.Holds := G78.holds G78.prOk fun ns hl _ => G78.law_run ns hl
theorem PySem.Challenge.cw_offerstands_k78_the_gate_holds : PySem.Challenge.rw_offerstands_k78_the_gate.Holds := by
  exact G78.final
