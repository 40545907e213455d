import PyProof.Rows.All
import Wide.All
import OpenK.AllK
import Wide.FinOn
import PySem.Syntax
import PyProof.P3Statements
import PyProof.EqLayable
import KE.LtData
import Open.Row
import HandS.Comp
import HandS.ForMost
import HandS.TupAny
import HandS.TupMul
import HandS.Wide
import HandS.Flow
import HandS.Style
import HandS.Conv
import HandS.NoneIn
import HandS.Lambda
import HandS.AnyAll
import HandS.HeadHook4
import HandS.HeadWalk
import HandS.Zip
import HandS.Defaults
import HandS.IsInst
import HandS.Iter
import HandS.GenList
import PyProof.TupleOfGen
import PyProof.SumAny
import HandS.Head2
import HandS.NestedK
import HandS.Words
import KE.SortData
import KE.SortKeyHeap
import KE.KLam
import HandS.Keys
import KE.KStateDown
import Lean
import PySem.Challenge.RW_gladlydone_k85_letting
set_option Elab.async false
set_option linter.all false
/-! MpCore: a small language with a plain evaluator: values are trees, mutable objects stand in a store. -/
namespace Mp
open PySem

/-- values: loc n is the n-th object of the store -/
inductive PV where
  | non | bl (b : Bool) | int (i : Int) | str (s : Str) | tup (xs : List PV) | loc (n : Nat)

/-- mutable objects; fl: a list that is only read -/
inductive MO where
  | lst (xs : List PV)
  | fl (xs : List PV)

abbrev Sto := List MO
abbrev Env := List (Option PV)

inductive Bop where | add | sub | mul | fdiv | mod | pow
  deriving DecidableEq, Repr
inductive Cop where | eq | ne | lt | le | gt | ge | is | isnot | isin | notin
  deriving DecidableEq, Repr
inductive Ty where | int | bool | str | tuple | list
  deriving DecidableEq, Repr
/-- built-ins called with values -/
inductive Bi where | abs | len | int | max | min | sum | tuple | list | sorted | any | all
  deriving DecidableEq, Repr
/-- methods of lists -/
inductive Mt where | append | extend | pop | index
  deriving DecidableEq, Repr
/-- what becomes of the items of a comprehension -/
inductive CK where | lst | tup | sum | all | any
  deriving DecidableEq, Repr

mutual
inductive E where
  | non | bl (b : Bool) | int (i : Int) | str (s : Str)
  | var (i : Nat) | glo (x : Str)
  | tup (es : List E) | lst (es : List E)
  | bin (o : Bop) (a b : E) | neg (a : E) | not (a : E)
  | and (a b : E) | or (a b : E)
  | ifx (c a b : E)
  | cmp (o : Cop) (a b : E) | chn (o o2 : Cop) (a b c : E)
  | ix (a i : E) | sl (a : E) (lo hi : Option E) | rev (a : E)
  | call (f : Str) (as : List E) | callk (f : Str) (as : List E) (ns : List Nat) (ks : List E)
  | bi (f : Bi) (as : List E)
  /-- tuple(range(..)), list(range(..)) -/
  | rngv (tup : Bool) (as : List E)
  | isa (e : E) (t : Ty)
  /-- vs: the names of its own -/
  | comp (k : CK) (vs : List Nat) (elt : E) (cs : List Cl)
  | sortk (e : E) (i : Nat) (key : E)
  | mt (m : Mt) (o : E) (as : List E)
inductive Cl where
  | mk (t : T) (it : It) (ifs : List E)
inductive It where
  | val (e : E) | rng (as : List E) | enum (e : E) | zip (es : List E)
inductive T where
  | nm (i : Nat) | tup (ts : List T) | sub (o i : E)
end

inductive S where
  | asg (t : T) (e : E)
  | aug (i : Nat) (o : Bop) (e : E)
  | augs (o i : E) (op : Bop) (e : E)
  | expr (e : E)
  | ret (e : E) | retn
  | ite (c : E) (a b : List S)
  | for_ (t : T) (it : It) (b : List S)
  | while_ (c : E) (b : List S)
  | brk | cnt | pass
  /-- a statement that the evaluator never comes to -/
  | never

structure Fn where
  np : Nat
  nv : Nat
  body : List S

/-! ### results -/
abbrev Res (α : Type) := Option (α × Sto)
@[inline] def Res.bind {α β : Type} (r : Res α) (f : α → Sto → Res β) : Res β := match r with
  | some (a, s) => f a s
  | none => none
theorem Res.bind_some {α β : Type} (a : α) (s : Sto) (f : α → Sto → Res β) : Res.bind (some (a, s)) f = f a s := rfl
theorem Res.bind_none {α β : Type} (f : α → Sto → Res β) : Res.bind (none : Res α) f = none := rfl
/-- a result without an effect -/
@[inline] def Res.of {α : Type} (o : Option α) (s : Sto) : Res α := match o with
  | some a => some (a, s)
  | none => none
theorem Res.of_some {α : Type} (a : α) (s : Sto) : Res.of (some a) s = some (a, s) := rfl
theorem Res.of_none {α : Type} (s : Sto) : Res.of (none : Option α) s = none := rfl

/-- the longest list -/
abbrev LIM : Nat := 16777216

/-! ### the store -/
def new (o : MO) (st : Sto) : Res PV := some (.loc st.length, st ++ [o])
def getL (st : Sto) (n : Nat) : Option (List PV) := match st[n]? with
  | some (.lst xs) => some xs
  | some (.fl xs) => some xs
  | _ => none
/-- a list that may be written -/
def getM (st : Sto) (n : Nat) : Option (List PV) := match st[n]? with
  | some (.lst xs) => some xs
  | _ => none
def newL (xs : List PV) (st : Sto) : Res PV := if xs.length ≤ LIM then new (.lst xs) st else none
def mkT (xs : List PV) (st : Sto) : Res PV := if xs.length ≤ LIM then some (.tup xs, st) else none
def setL (st : Sto) (n : Nat) (xs : List PV) : Sto := st.set n (.lst xs)
/-- the items of a tuple or a list -/
def items (st : Sto) : PV → Option (List PV)
  | .tup xs => some xs
  | .loc n => getL st n
  | _ => none

/-! ### data for == -/
mutual
def dat : PV → Option PyData
  | .non => some .none
  | .bl b => some (.bool b)
  | .int i => some (.int i)
  | .str s => some (.str s)
  | .tup xs => (datAll xs).map .tuple
  | .loc _ => none
def datAll : List PV → Option (List PyData)
  | [] => some []
  | x :: xs => match dat x, datAll xs with
    | some d, some ds => some (d :: ds)
    | _, _ => none
end
def datS (st : Sto) : PV → Option PyData
  | .loc n => match getL st n with
    | some xs => (datAll xs).map .list
    | none => none
  | v => dat v
def eqv (st : Sto) (a b : PV) : Option Bool := match datS st a, datS st b with
  | some d, some e => if SeqAt.shaped d && SeqAt.shaped e then some (PyData.eqv d e) else none
  | _, _ => none

/-! ### operators -/
def mulOk (a b : Int) : Bool := decide (a.natAbs.log2 + b.natAbs.log2 < 100000000)
def rep {α : Type} (n : Nat) (xs : List α) : List α := (List.replicate n xs).flatten
def bin (o : Bop) (a b : PV) (st : Sto) : Res PV := match o, a, b with
  | .add, .int i, .int j => some (.int (i + j), st)
  | .sub, .int i, .int j => some (.int (i - j), st)
  | .mul, .int i, .int j => if mulOk i j then some (.int (i * j), st) else none
  | .fdiv, .int i, .int j => if j ≠ 0 ∧ j.natAbs.log2 < 9000 then some (.int (i.fdiv j), st) else none
  | .mod, .int i, .int j => if j ≠ 0 then some (.int (i.fmod j), st) else none
  | .pow, .int i, .int j => if 0 ≤ j ∧ j ≤ 1000000 ∧ i.natAbs < 2 ^ 64 then some (.int (i ^ j.toNat), st) else none
  | .add, .tup xs, .tup ys => mkT (xs ++ ys) st
  | .mul, .tup xs, .int k => if xs ≠ [] ∧ 2 ≤ k ∧ k ≤ 1000 ∧ xs.length ≤ 1000 then some (.tup (rep k.toNat xs), st) else none
  | .add, .loc n, .loc m => match getM st n, getM st m with
    | some xs, some ys => newL (xs ++ ys) st
    | _, _ => none
  | .mul, .loc n, .int k => match getM st n with
    | some xs => if 0 ≤ k ∧ k ≤ 1000000 ∧ xs.length * k.toNat ≤ LIM then newL (rep k.toNat xs) st else none
    | none => none
  | _, _, _ => none

/-- flat values that «in» compares -/
def flat : PV → Bool
  | .non => true | .bl _ => true | .int _ => true | .str _ => true
  | _ => false
def flatEq : PV → PV → Bool
  | .non, .non => true
  | .bl a, .bl b => a == b
  | .int a, .int b => a == b
  | .int a, .bl b => a == (if b then 1 else 0)
  | .bl a, .int b => (if a then 1 else 0) == b
  | .str a, .str b => a == b
  | _, _ => false
def inSeq (x : PV) (xs : List PV) : Option Bool := if flat x && xs.all flat then some (xs.any fun y => flatEq y x) else none
def cmp (o : Cop) (a b : PV) (st : Sto) : Option Bool := match o with
  | .eq => eqv st a b
  | .ne => (eqv st a b).map (!·)
  | .lt => match a, b with | .int i, .int j => some (decide (i < j)) | _, _ => none
  | .le => match a, b with | .int i, .int j => some (decide (i ≤ j)) | _, _ => none
  | .gt => match a, b with | .int i, .int j => some (decide (j < i)) | _, _ => none
  | .ge => match a, b with | .int i, .int j => some (decide (j ≤ i)) | _, _ => none
  | .is => match a, b with
    | .non, .non => some true
    | _, .non => some false
    | .bl x, .bl y => some (x == y)
    | _, _ => none
  | .isnot => match a, b with
    | .non, .non => some false
    | _, .non => some true
    | .bl x, .bl y => some (x != y)
    | _, _ => none
  | .isin => match items st b with | some xs => inSeq a xs | none => none
  | .notin => match items st b with | some xs => (inSeq a xs).map (!·) | none => none

/-- the truth of a value -/
def truth (st : Sto) : PV → Option Bool
  | .non => some false
  | .bl b => some b
  | .int i => some (i != 0)
  | .str s => if s.length ≤ LIM then some ((s.length : Int) != 0) else none
  | .tup xs => some (!xs.isEmpty)
  | .loc n => (getL st n).map (!·.isEmpty)

/-! ### subscripts -/
def ixN (n : Nat) (i : Int) : Option Nat := if 0 ≤ i then (if i < n then some i.toNat else none) else if -(n : Int) ≤ i then some (i + n).toNat else none
def atI {α : Type} (xs : List α) (i : Int) : Option α := (ixN xs.length i).bind fun j => xs[j]?
def ixV (st : Sto) (a i : PV) : Option PV := match items st a, i with
  | some xs, .int k => atI xs k
  | _, _ => none
def sIx (n d : Nat) : Option Int → Nat
  | none => d
  | some v => if v < 0 then (v + (n : Int)).toNat else min v.toNat n
def cut {α : Type} (xs : List α) (lo hi : Option Int) : List α := (xs.drop (sIx xs.length 0 lo)).take (sIx xs.length xs.length hi - sIx xs.length 0 lo)
def slV (a : PV) (lo hi : Option Int) (st : Sto) : Res PV := match a with
  | .tup xs => some (.tup (cut xs lo hi), st)
  | .loc n => match getL st n with
    | some xs => newL (cut xs lo hi) st
    | none => none
  | _ => none
def revV (a : PV) (st : Sto) : Res PV := match a with
  | .tup xs => none
  | .loc n => match getL st n with
    | some xs => newL xs.reverse st
    | none => none
  | _ => none

/-! ### sorting -/
def intsOf : List PV → Option (List Int)
  | [] => some []
  | .int i :: r => (intsOf r).map (i :: ·)
  | _ :: _ => none
def boolsOf : List PV → Option (List Bool)
  | [] => some []
  | .bl b :: r => (boolsOf r).map (b :: ·)
  | _ :: _ => none
/-- a tuple with an item; no tuple, not None; a tuple -/
def neTup : PyData → Bool
  | .tuple (_ :: _) => true
  | _ => false
def noTup : PyData → Bool
  | .tuple _ => false
  | .none => false
  | _ => true
def anTup : PyData → Bool
  | .tuple _ => true
  | _ => false
def mtTup : PyData → Bool
  | .tuple [] => true
  | _ => false
def mtFirst : List PyData → Bool
  | d :: _ => mtTup d
  | [] => false
/-- what these items, or these keys, are sorted by is known -/
def srtOk (ds : List PyData) : Bool := (ds.all fun a => ds.all fun b => PySem.W.alike a b) && ((ds.all fun d => decide (d.depth ≤ 60)) && (ds.all neTup || (ds.all noTup || (mtFirst ds && ds.all anTup))))
/-- the items xs by their keys ds -/
def srt (ds : List PyData) (xs : List PV) : List PV := ((xs.zip ds).mergeSort fun p q => !PySem.W.dataLt q.2 p.2).map (·.1)

/-! ### built-ins -/
def biV (f : Bi) (as : List PV) (st : Sto) : Res PV := match f, as with
  | .abs, [.int i] => some (.int (if i < 0 then -i else i), st)
  | .len, [.str s] => if s.length ≤ LIM then some (.int s.length, st) else none
  | .len, [v] => match items st v with | some xs => some (.int xs.length, st) | none => none
  | .int, [.int i] => some (.int i, st)
  | .int, [.bl b] => some (.int (if b then 1 else 0), st)
  | .max, [.int i, .int j] => some (.int (if j > i then j else i), st)
  | .min, [.int i, .int j] => some (.int (if j < i then j else i), st)
  | .max, [.loc n] => match (getL st n).bind intsOf with
    | some (i :: r) => some (.int (r.foldl (fun m j => if j > m then j else m) i), st)
    | _ => none
  | .min, [.loc n] => match (getL st n).bind intsOf with
    | some (i :: r) => some (.int (r.foldl (fun m j => if j < m then j else m) i), st)
    | _ => none
  | .sum, [.loc n] => match (getL st n).bind intsOf with
    | some is => some (.int is.sum, st)
    | none => none
  | .tuple, [v] => match items st v with | some xs => some (.tup xs, st) | none => none
  | .list, [v] => match items st v with | some xs => newL xs st | none => none
  | .any, [.loc n] => match (getL st n).bind boolsOf with | some bs => some (.bl (bs.any id), st) | none => none
  | .all, [.loc n] => match (getL st n).bind boolsOf with | some bs => some (.bl (bs.all id), st) | none => none
  | .sorted, [v] => match items st v with
    | some xs => match datAll xs with
      | some ds => if srtOk ds then newL (srt ds xs) st else none
      | none => none
    | none => none
  | _, _ => none
def isaV (st : Sto) (v : PV) (t : Ty) : Option Bool := match v with
  | .non => some false
  | .bl _ => some (t = .bool ∨ t = .int)
  | .int _ => some (t = .int)
  | .str _ => some (t = .str)
  | .tup _ => some (t = .tuple)
  | .loc n => match st[n]? with
    | some (.lst _) => some (t = .list)
    | some (.fl _) => some (t = .list)
    | none => none
def mtV (m : Mt) (o : PV) (as : List PV) (st : Sto) : Res PV := match m, o, as with
  | .append, .loc n, [v] => match getM st n with
    | some xs => if xs.length < LIM then some (.non, setL st n (xs ++ [v])) else none
    | none => none
  | .extend, .loc n, [.loc m] => match getM st n, getM st m with
    | some xs, some ys => if n ≠ m ∧ xs.length + ys.length ≤ LIM then some (.non, setL st n (xs ++ ys)) else none
    | _, _ => none
  | .pop, .loc n, [] => match getM st n with
    | some xs => match xs[xs.length - 1]? with
      | some v => some (v, setL st n xs.dropLast)
      | none => none
    | none => none
  | .pop, .loc n, [.int i] => match getM st n with
    | some xs => match ixN xs.length i with
      | some k => match xs[k]? with
        | some v => some (v, setL st n (xs.eraseIdx k))
        | none => none
      | none => none
    | none => none
  | .index, .loc n, [v] => match getL st n with
    | some xs => if flat v && xs.all flat then match xs.findIdx? (fun y => flatEq y v) with
      | some k => some (.int k, st)
      | none => none else none
    | none => none
  | _, _, _ => none

/-! ### what is walked -/
def rangeL (lo c : Int) : Nat → List PV
  | 0 => []
  | n + 1 => .int lo :: rangeL (lo + c) c n
/-- a sequence to be walked: its items, and the list that must stay as it is -/
structure Wk where
  xs : List PV
  gs : List (Nat × List PV)
def wkV (st : Sto) : PV → Option Wk
  | .tup xs => some ⟨xs, []⟩
  | .loc n => match getL st n with
    | some xs => some ⟨xs, [(n, xs)]⟩
    | none => none
  | _ => none
def sm (i : Int) : Bool := decide (-4611686018427387904 ≤ i ∧ i < 4611686018427387904)
def wkR : List PV → Option Wk
  | [.int j] => if sm j then some ⟨rangeL 0 1 j.toNat, []⟩ else none
  | [.int i, .int j] => if sm i && sm j then some ⟨rangeL i 1 (j - i).toNat, []⟩ else none
  | [.int i, .int j, .int (-1)] => if sm i && sm j then some ⟨rangeL i (-1) (i - j).toNat, []⟩ else none
  | _ => none
def wkR2 : List PV → Option (List PV)
  | [.int j] => if sm j && decide (j ≤ 16777216) then some (rangeL 0 1 j.toNat) else none
  | [.int i, .int j] => if sm i && sm j && decide (j - i ≤ 16777216) then some (rangeL i 1 (j - i).toNat) else none
  | _ => none
def enumL : Int → List PV → List PV
  | _, [] => []
  | i, x :: r => .tup [.int i, x] :: enumL (i + 1) r
def zip2 : List PV → List PV → List PV
  | x :: xs, y :: ys => .tup [x, y] :: zip2 xs ys
  | _, _ => []
def zip3 : List PV → List PV → List PV → List PV
  | x :: xs, y :: ys, z :: zs => .tup [x, y, z] :: zip3 xs ys zs
  | _, _, _ => []
def wkZ (st : Sto) : List PV → Option Wk
  | [.tup xs, .tup ys] => some ⟨zip2 xs ys, []⟩
  | [.loc n, .loc m] => match getL st n, getL st m with
    | some xs, some ys => some ⟨zip2 xs ys, [(n, xs), (m, ys)]⟩
    | _, _ => none
  | _ => none
def wkE (st : Sto) : PV → Option Wk
  | .loc n => match getL st n with
    | some xs => some ⟨enumL 0 xs, [(n, xs)]⟩
    | none => none
  | _ => none
mutual
def PV.beq : PV → PV → Bool
  | .non, .non => true
  | .bl a, .bl b => a == b
  | .int a, .int b => a == b
  | .str a, .str b => a == b
  | .tup a, .tup b => PV.beqs a b
  | .loc a, .loc b => a == b
  | _, _ => false
def PV.beqs : List PV → List PV → Bool
  | [], [] => true
  | x :: xs, y :: ys => PV.beq x y && PV.beqs xs ys
  | _, _ => false
end
/-- the lists that are walked stand as they did -/
def gsOk (st : Sto) (gs : List (Nat × List PV)) : Bool := gs.all fun g => match getL st g.1 with
  | some xs => PV.beqs xs g.2
  | none => false

/-! ### the evaluator -/
def wipe (env : Env) : List Nat → Env
  | [] => env
  | v :: vs => (wipe env vs).set v none
def truthR (r : Res PV) : Res Bool := r.bind fun v st => Res.of (truth st v) st
/-- the turns of a comprehension's clause: the items so far, and whether it has been stopped -/
def compLoop (turn : PV → List PV → Sto → Res (List PV × Bool)) (gs : List (Nat × List PV)) : List PV → List PV → Sto → Res (List PV × Bool)
  | [], acc, st => if gsOk st gs then some ((acc, false), st) else none
  | x :: xs, acc, st => if gsOk st gs then (turn x acc st).bind fun r st1 => if r.2 then some (r, st1) else compLoop turn gs xs r.1 st1 else none
/-- does this item end it? -/
def stops (k : CK) (st : Sto) (v : PV) : Option Bool := match k with
  | .all => match v with | .bl b => some (!b) | _ => none
  | .any => match v with | .bl b => some b | _ => none
  | _ => some false
def compEnd (k : CK) (acc : List PV) (stopped : Bool) (st : Sto) : Res PV := match k with
  | .lst => newL acc st
  | .tup => mkT acc st
  | .sum => match intsOf acc with | some is => some (.int is.sum, st) | none => none
  | .all => some (.bl (!stopped), st)
  | .any => some (.bl stopped, st)
def intO : PV → Option Int
  | .int i => some i
  | _ => none
/-- keyword arguments: ns tells the place of each parameter, the positional ones first -/
def permK (as ks : List PV) (ns : List Nat) : Option (List PV) := (List.range ks.length).mapM (fun j => (ns.findIdx? (· == as.length + j)).bind fun i => ks[i]?) |>.map (as ++ ·)

/-- the keys of items, one behind the other -/
def evKeys (key : PV → Sto → Res PV) : List PV → Sto → Res (List PV)
  | [], st => some ([], st)
  | x :: xs, st => (key x st).bind fun k st => (evKeys key xs st).bind fun ks st => some (k :: ks, st)

section
variable (C : Str → List PV → Sto → Res PV) (G : Str → Option PV)
mutual
def evE : E → Env → Sto → Res PV
  | .non, _, st => some (.non, st)
  | .bl b, _, st => some (.bl b, st)
  | .int i, _, st => some (.int i, st)
  | .str s, _, st => some (.str s, st)
  | .var i, env, st => match env[i]? with
    | some (some v) => some (v, st)
    | _ => none
  | .glo x, _, st => Res.of (G x) st
  | .tup es, env, st => (evEs es env st).bind fun vs st => mkT vs st
  | .lst es, env, st => (evEs es env st).bind fun vs st => newL vs st
  | .bin o a b, env, st => (evE a env st).bind fun x st => (evE b env st).bind fun y st => bin o x y st
  | .neg a, env, st => (evE a env st).bind fun x st => match x with
    | .int i => some (.int (-i), st)
    | _ => none
  | .not a, env, st => (evE a env st).bind fun x st => match truth st x with
    | some b => some (.bl (!b), st)
    | none => none
  | .and a b, env, st => (evE a env st).bind fun x st => match truth st x with
    | some true => evE b env st
    | some false => some (x, st)
    | none => none
  | .or a b, env, st => (evE a env st).bind fun x st => match truth st x with
    | some true => some (x, st)
    | some false => evE b env st
    | none => none
  | .ifx c a b, env, st => (truthR (evE c env st)).bind fun t st => if t then evE a env st else evE b env st
  | .cmp o a b, env, st => (evE a env st).bind fun x st => (evE b env st).bind fun y st => match cmp o x y st with
    | some r => some (.bl r, st)
    | none => none
  | .chn o o2 a b c, env, st => (evE a env st).bind fun x st => (evE b env st).bind fun y st => match cmp o x y st with
    | some true => (evE c env st).bind fun z st => match cmp o2 y z st with
      | some r => some (.bl r, st)
      | none => none
    | some false => some (.bl false, st)
    | none => none
  | .ix a i, env, st => (evE a env st).bind fun x st => (evE i env st).bind fun y st => Res.of (ixV st x y) st
  | .sl a lo hi, env, st => (evE a env st).bind fun x st => (evO lo env st).bind fun l st => (evO hi env st).bind fun h st => slV x l h st
  | .rev a, env, st => (evE a env st).bind fun x st => revV x st
  | .call f as, env, st => (evEs as env st).bind fun vs st => C f vs st
  | .callk f as ns ks, env, st => (evEs as env st).bind fun vs st => (evEs ks env st).bind fun us st => match permK vs us ns with
    | some ws => C f ws st
    | none => none
  | .bi f as, env, st => (evEs as env st).bind fun vs st => biV f vs st
  | .rngv b as, env, st => (evEs as env st).bind fun vs st => match wkR2 vs with
    | some xs => if b then mkT xs st else newL xs st
    | none => none
  | .isa e t, env, st => (evE e env st).bind fun v st => match isaV st v t with
    | some b => some (.bl b, st)
    | none => none
  | .comp k vs elt cs, env, st => (evCls cs (fun env acc st => (evE elt env st).bind fun v st => match stops k st v with
      | some b => some ((acc ++ [v], b), st)
      | none => none) (wipe env vs) [] st).bind fun r st => compEnd k r.1 r.2 st
  | .sortk e i key, env, st => (evE e env st).bind fun v st => match items st v with
    | some xs => (evKeys (fun x st => evE key (env.set i (some x)) st) xs st).bind fun ks st => match datAll ks with
      | some ds => if srtOk ds then newL (srt ds xs) st else none
      | none => none
    | none => none
  | .mt m o as, env, st => (evE o env st).bind fun x st => (evEs as env st).bind fun vs st => mtV m x vs st
def evEs : List E → Env → Sto → Res (List PV)
  | [], _, st => some ([], st)
  | e :: es, env, st => (evE e env st).bind fun v st => (evEs es env st).bind fun vs st => some (v :: vs, st)
def evO : Option E → Env → Sto → Res (Option Int)
  | none, _, st => some (none, st)
  | some e, env, st => (evE e env st).bind fun v st => match v with
    | .int i => some (some i, st)
    | _ => none
def evIfs : List E → Env → Sto → Res Bool
  | [], _, st => some (true, st)
  | e :: es, env, st => (truthR (evE e env st)).bind fun b st => if b then evIfs es env st else some (false, st)
def evIt : It → Env → Sto → Res Wk
  | .val e, env, st => (evE e env st).bind fun v st => Res.of (wkV st v) st
  | .rng as, env, st => (evEs as env st).bind fun vs st => Res.of (wkR vs) st
  | .enum e, env, st => (evE e env st).bind fun v st => Res.of (wkE st v) st
  | .zip es, env, st => (evEs es env st).bind fun vs st => Res.of (wkZ st vs) st
def evT : T → PV → Env → Sto → Res Env
  | .nm i, v, env, st => if i < env.length then some (env.set i (some v), st) else none
  | .tup ts, v, env, st => match items st v with
    | some xs => if xs.length = ts.length then evTs ts xs env st else none
    | none => none
  | .sub o i, v, env, st => (evE o env st).bind fun ov st => (evE i env st).bind fun iv st => match ov, iv with
    | .loc n, .int k => match getM st n with
      | some xs => match ixN xs.length k with
        | some j => some (env, setL st n (xs.set j v))
        | none => none
      | none => none
    | _, _ => none
def evTs : List T → List PV → Env → Sto → Res Env
  | [], [], env, st => some (env, st)
  | t :: ts, v :: vs, env, st => (evT t v env st).bind fun env st => evTs ts vs env st
  | _, _, _, _ => none
def evCl : Cl → (Env → List PV → Sto → Res (List PV × Bool)) → Env → List PV → Sto → Res (List PV × Bool)
  | .mk t it ifs, body, env, acc, st => (evIt it env st).bind fun w st =>
    compLoop (fun x acc st => (evT t x env st).bind fun env' st => (evIfs ifs env' st).bind fun b st => if b then body env' acc st else some ((acc, false), st)) w.gs w.xs acc st
def evCls : List Cl → (Env → List PV → Sto → Res (List PV × Bool)) → Env → List PV → Sto → Res (List PV × Bool)
  | [], body, env, acc, st => body env acc st
  | c :: cs, body, env, acc, st => evCl c (fun env acc st => evCls cs body env acc st) env acc st
end
end

/-! ### statements -/
inductive Out where
  | nx (env : Env) | rt (v : PV) | bk (env : Env) | ct (env : Env)
def forLoop (body : PV → Env → Sto → Res Out) (gs : List (Nat × List PV)) : List PV → Env → Sto → Res Out
  | [], env, st => if gsOk st gs then some (.nx env, st) else none
  | x :: xs, env, st => if gsOk st gs then (body x env st).bind fun o st => match o with
    | .nx env => forLoop body gs xs env st
    | .ct env => forLoop body gs xs env st
    | .bk env => some (.nx env, st)
    | .rt v => some (.rt v, st) else none
def whileLoop (c : Env → Sto → Res Bool) (body : Env → Sto → Res Out) : Nat → Env → Sto → Res Out
  | 0, _, _ => none
  | n + 1, env, st => (c env st).bind fun b st => if b then (body env st).bind fun o st => match o with
    | .nx env => whileLoop c body n env st
    | .ct env => whileLoop c body n env st
    | .bk env => some (.nx env, st)
    | .rt v => some (.rt v, st) else some (.nx env, st)
/-- x op= y for values that are never changed in place -/
def augV (o : Bop) (a b : PV) (st : Sto) : Res PV := match a, b with
  | .int _, .int _ => bin o a b st
  | _, _ => none

section
variable (C : Str → List PV → Sto → Res PV) (G : Str → Option PV) (w : Nat)
mutual
def exS : S → Env → Sto → Res Out
  | .asg t e, env, st => (evE C G e env st).bind fun v st => (evT C G t v env st).bind fun env st => some (.nx env, st)
  | .aug i o e, env, st => match env[i]? with
    | some (some x) => (evE C G e env st).bind fun y st => (augV o x y st).bind fun z st => some (.nx (env.set i (some z)), st)
    | _ => none
  | .augs o i op e, env, st => (evE C G o env st).bind fun ov st => (evE C G i env st).bind fun iv st => match ov, iv with
    | .loc n, .int k => match getM st n with
      | some xs => match atI xs k with
        | some x => (evE C G e env st).bind fun y st => (augV op x y st).bind fun z st => match getM st n with
          | some ys => match ixN ys.length k with
            | some j => some (.nx env, setL st n (ys.set j z))
            | none => none
          | none => none
        | none => none
      | none => none
    | _, _ => none
  | .expr e, env, st => (evE C G e env st).bind fun _ st => some (.nx env, st)
  | .ret e, env, st => (evE C G e env st).bind fun v st => some (.rt v, st)
  | .retn, _, st => some (.rt .non, st)
  | .ite c a b, env, st => (truthR (evE C G c env st)).bind fun t st => if t then exSs a env st else exSs b env st
  | .for_ t it b, env, st => (evIt C G it env st).bind fun wk st => forLoop (fun x env st => (evT C G t x env st).bind fun env st => exSs b env st) wk.gs wk.xs env st
  | .while_ c b, env, st => whileLoop (fun env st => truthR (evE C G c env st)) (fun env st => exSs b env st) w env st
  | .brk, env, st => some (.bk env, st)
  | .cnt, env, st => some (.ct env, st)
  | .pass, env, st => some (.nx env, st)
  | .never, _, _ => none
def exSs : List S → Env → Sto → Res Out
  | [], env, st => some (.nx env, st)
  | s :: ss, env, st => (exS s env st).bind fun o st => match o with
    | .nx env => exSs ss env st
    | o => some (o, st)
end
end

/-- a call of a def: k calls deep, at most w turns of a while -/
def callF (P : Str → Option Fn) (G : Str → Option PV) (w : Nat) : Nat → Str → List PV → Sto → Res PV
  | 0, _, _, _ => none
  | k + 1, f, as, st => match P f with
    | some fn => if as.length = fn.np then (exSs (callF P G w k) G w fn.body (as.map some ++ List.replicate (fn.nv - fn.np) none) st).bind fun o st => match o with
      | .nx _ => some (.non, st)
      | .rt v => some (v, st)
      | _ => none
      else none
    | none => none
end Mp
set_option Elab.async false
set_option linter.all false
/-! MpTr: from the row's syntax tree to the small language. -/
namespace Mp
open PySem L2

def visB (sc : Scope) (x : Str) : Bool := match sc.names.lookup x with
  | some .local => true | some .cell => true | some .free => true
  | _ => false
def gloB (sc : Scope) (x : Str) : Bool := match sc.names.lookup x with
  | some .globalImplicit => true
  | _ => false
def nameOk (x : Str) : Bool := !(x == ("__debug__" : Str)) && !(x == ("__classdict__" : Str)) && !(x == ("__name__" : Str))
def slot (N : List Str) (x : Str) : Option Nat := match N.findIdx? (· == x) with
  | some i => some i
  | none => none
/-- names stored by a target -/
def tgtNames : Nat → Expr → List Str
  | _, .Name x _ => [x]
  | n + 1, .Tuple es _ _ => es.flatMap (tgtNames n)
  | _, _ => []
def ownOf (N : List Str) (gens : List Comprehension) : List (Str × Nat) :=
  (gens.flatMap fun g => tgtNames 8 g.target).eraseDups.filterMap fun x => (slot N x).map fun i => (x, i)
def bopOf : Operator → Option Bop
  | .Add => some .add | .Sub => some .sub | .Mult => some .mul | .FloorDiv => some .fdiv | .Mod => some .mod | .Pow => some .pow
  | _ => none
def augOf : Operator → Option Bop
  | .Add => some .add | .Sub => some .sub
  | _ => none
def copOf : CmpOp → Option Cop
  | .Eq => some .eq | .NotEq => some .ne | .Lt => some .lt | .LtE => some .le | .Gt => some .gt | .GtE => some .ge
  | .Is => some .is | .IsNot => some .isnot | .In => some .isin | .NotIn => some .notin
def biOf (x : Str) : Option Bi :=
  if x = ("abs" : Str) then some .abs else if x = ("len" : Str) then some .len else if x = ("int" : Str) then some .int else
  if x = ("max" : Str) then some .max else if x = ("min" : Str) then some .min else if x = ("sum" : Str) then some .sum else
  if x = ("tuple" : Str) then some .tuple else if x = ("list" : Str) then some .list else if x = ("sorted" : Str) then some .sorted else
  if x = ("any" : Str) then some .any else if x = ("all" : Str) then some .all else none
def ckOf (x : Str) : Option CK :=
  if x = ("tuple" : Str) then some .tup else if x = ("sum" : Str) then some .sum else if x = ("all" : Str) then some .all else
  if x = ("any" : Str) then some .any else none
def tyOf (x : Str) : Option Ty :=
  if x = ("int" : Str) then some .int else if x = ("bool" : Str) then some .bool else if x = ("str" : Str) then some .str else
  if x = ("tuple" : Str) then some .tuple else if x = ("list" : Str) then some .list else none
def mtOf (x : Str) : Option Mt :=
  if x = ("append" : Str) then some .append else if x = ("extend" : Str) then some .extend else if x = ("pop" : Str) then some .pop else
  if x = ("index" : Str) then some .index else none
/-- what the program's top binds: its defs with their parameters, its constants -/
structure Tops where
  fns : List (Str × List Str)
  cons : List (Str × PV)
def Tops.fn (t : Tops) (x : Str) : Option (List Str) := t.fns.lookup x
def Tops.con (t : Tops) (x : Str) : Option PV := t.cons.lookup x
/-- a name of the top that nothing binds: a built-in's -/
def Tops.free (t : Tops) (x : Str) : Bool := (t.fn x).isNone && (t.con x).isNone
def isSlice : Expr → Bool
  | .Slice .. => true
  | _ => false
def isStar : Expr → Bool
  | .Starred .. => true
  | _ => false
def isCall : Expr → Bool
  | .Call .. => true
  | _ => false
def isSet : Expr → Bool
  | .Set .. => true
  | _ => false
/-- a name that may be stored in this block -/
def locB (sc : Scope) (x : Str) : Bool := match sc.names.lookup x with
  | some .local => true | some .cell => true
  | _ => false
def isList : Expr → Bool
  | .List .. => true
  | _ => false
/-- a generator expression's or a lambda's own block: its names are its own (with their places), captured, or global -/
def genC (N : List Str) (sc scope : Scope) (own : List (Str × Nat)) : Bool :=
  decide (scope.kind = .function) && !scope.isCoroutine && (scope.names.all fun y => decide (scope.names.lookup y.1 = some y.2)) && (own.all fun p => decide (N[p.2]? = some p.1)) &&
    (scope.names.all fun y => match y.2 with
      | .free => (match sc.names.lookup y.1 with | some .cell => true | some .free => true | _ => false)
      | .local => decide (y.1 ∈ own.map (·.1)) || decide (y.1 ∉ N)
      | .cell => decide (y.1 ∈ own.map (·.1)) || decide (y.1 ∉ N)
      | _ => true)
def dotB (scope : Scope) : Bool := decide (scope.names.lookup (".0" : Str) = some NameKind.local)
def isTup : Expr → Bool
  | .Tuple .. => true
  | _ => false
mutual
def tNames : T → List Nat
  | .nm i => [i]
  | .tup ts => tNamess ts
  | .sub _ _ => []
def tNamess : List T → List Nat
  | [] => []
  | t :: ts => tNames t ++ tNamess ts
end
/-- how a pair of names is stored: from the right (the names), or plainly; none: not known -/
def swN (sc : Scope) (tg e : Expr) : Option (Option (List Str)) := match tg, e with
  | .Tuple ts _ _, .Tuple vs _ _ =>
    if !(ts.length == 2 || ts.length == 3) || vs.length != ts.length then some none else
    if vs.any isStar then some none else
    if (ts.filterMap fun | .Name id pos => if sc.names.lookup id == some .local && pos.line == (ts.head?.map (·.pos.line)).getD 0 then some id else none | _ => none).length != ts.length ||
      (ts.filterMap fun | .Name id pos => if sc.names.lookup id == some .local && pos.line == (ts.head?.map (·.pos.line)).getD 0 then some id else none | _ => none).eraseDups.length !=
      (ts.filterMap fun | .Name id pos => if sc.names.lookup id == some .local && pos.line == (ts.head?.map (·.pos.line)).getD 0 then some id else none | _ => none).length then some none else
    if vs.all (foldedForSure 8) then some none else
    if vs.all (constantsAlone 8) then none else
    some (some (ts.filterMap fun | .Name id pos => if sc.names.lookup id == some .local && pos.line == (ts.head?.map (·.pos.line)).getD 0 then some id else none | _ => none))
  | .List .., _ => none
  | _, _ => some none
def isComp : Expr → Bool
  | .ListComp .. => true | .SetComp .. => true | .DictComp .. => true
  | _ => false
/-- enumerate and zip ask a target that unpacks -/
def okIt (tg : Expr) : It → Bool
  | .enum _ => isTup tg
  | .zip es => isTup tg && decide (es.length = 2)
  | _ => true
/-- the keywords' places: distinct, behind the positional ones -/
def nsOk (n : Nat) (ns : List Nat) : Bool := decide ns.Nodup && ns.all fun i => decide (n ≤ i)
section
variable (t : Tops) (N : List Str)
mutual
def trE : Nat → Nat → Scope → Expr → Option E
  | 0, _, _, _ => none
  | n + 1, d, sc, e => match e with
    | .Constant .none _ _ => some .non
    | .Constant (.bool b) _ _ => some (.bl b)
    | .Constant (.int i) _ _ => some (.int i)
    | .Constant (.str s) _ _ => some (.str s)
    | .Name x _ => if nameOk x then (if visB sc x then (slot N x).map .var else if gloB sc x && (t.con x).isSome then some (.glo x) else none) else none
    | .Tuple es _ _ => (trEs n d sc es).map .tup
    | .List es _ => (trEs n d sc es).map .lst
    | .BinOp a op b _ => match bopOf op, trE n d sc a, trE n d sc b with
      | some o, some x, some y => some (.bin o x y)
      | _, _, _ => none
    | .UnaryOp .USub a _ => (trE n d sc a).map .neg
    | .UnaryOp .Not a _ => (trE n d sc a).map .not
    | .BoolOp op vs _ => trB n d sc op vs
    | .IfExp c a b _ => match trE n d sc c, trE n d sc a, trE n d sc b with
      | some z, some x, some y => some (.ifx z x y)
      | _, _, _ => none
    | .Compare a [op] [b] _ => if behindInMarks op b then none else match copOf op, trE n d sc a, trE n d sc b with
      | some o, some x, some y => some (.cmp o x y)
      | _, _, _ => none
    | .Compare a [op, op2] [b, c] _ => if lastMarks [op, op2] [b, c] || isSet b then none else match copOf op, copOf op2, trE n d sc a, trE n d sc b, trE n d sc c with
      | some o, some o2, some x, some y, some z => some (.chn o o2 x y z)
      | _, _, _, _, _ => none
    | .Subscript a (.Slice none none (some (.UnaryOp .USub (.Constant (.int 1) _ _) _)) _) _ => (trE n d sc a).map .rev
    | .Subscript a (.Slice lo hi none _) _ => match trE n d sc a, trO n d sc lo, trO n d sc hi with
      | some x, some l, some h => some (.sl x l h)
      | _, _, _ => none
    | .Subscript a i _ => if isSlice i || isStar i then none else match trE n d sc a, trE n d sc i with
      | some x, some y => some (.ix x y)
      | _, _ => none
    | .Call (.Name f _) args kws _ => if nameOk f && gloB sc f then
        (match t.fn f with
        | some ps => match kws with
          | [] => (trEs n d sc args).map (.call f)
          | _ :: _ => match trEs n d sc args, trKs n d sc kws with
            | some as, some (ks : List (Str × E)) => (ks.mapM fun k => ps.findIdx? (· == k.1)).bind fun ns => if nsOk as.length ns then some (.callk f as ns (ks.map (·.2))) else none
            | _, _ => none
        | none => if t.free f then (match kws with
          | [] => trBi n d sc f args
          | [⟨some kw, .Lambda ps body scope _, _⟩] => if f = ("sorted" : Str) ∧ kw = ("key" : Str) then (match args, ps, d with
            | [a], ⟨[], [⟨x, none, _⟩], none, [], [], none, []⟩, d' + 1 => match trE n (d' + 1) sc a, slot N x, trE n d' scope body with
              | some v, some i, some b => if genC N sc scope [(x, i)] && !scope.isGenerator && decide (scope.names.lookup x = some NameKind.local) then some (.sortk v i b) else none
              | _, _, _ => none
            | _, _, _ => none) else none
          | _ => none) else none)
      else none
    | .Call (.Attribute o m apos) args [] cpos => if (apos.endLine == cpos.line) && !isCall o && decide (args.length < 20) then (match mtOf m, trE n d sc o, trEs n d sc args with
      | some k, some x, some as => some (.mt k x as)
      | _, _, _ => none) else none
    | .ListComp elt gens scope _ => if blkC N sc scope (ownOf N gens) then trC n d d sc .lst elt gens scope else none
    | _ => none
def trBi : Nat → Nat → Scope → Str → List Expr → Option E
  | 0, _, _, _, _ => none
  | n + 1, d, sc, f, args => match args with
    | [.GeneratorExp elt gens scope _] => match ckOf f, d with
      | some k, d' + 1 => if genC N sc scope (ownOf N gens) && dotB scope && !(gens.any fun g => isList g.iter) then trC n (d' + 1) d' sc k elt gens scope else none
      | _, _ => none
    | [.Call (.Name r _) as [] _] => if gloB sc r && t.free r && r = ("range" : Str) && (f = ("tuple" : Str) || f = ("list" : Str)) then (trEs n d sc as).map (.rngv (f = ("tuple" : Str)))
      else (match biOf f, trEs n d sc args with
      | some b, some as => some (.bi b as)
      | _, _ => none)
    | [e, .Name ty _] => if f = ("isinstance" : Str) then (match tyOf ty, trE n d sc e with
        | some y, some x => if nameOk ty && gloB sc ty && t.free ty then some (.isa x y) else none
        | _, _ => none) else (match biOf f, trEs n d sc args with
        | some b, some as => some (.bi b as)
        | _, _ => none)
    | _ => match biOf f, trEs n d sc args with
      | some b, some as => some (.bi b as)
      | _, _ => none
def trB : Nat → Nat → Scope → BoolOp → List Expr → Option E
  | 0, _, _, _, _ => none
  | n + 1, d, sc, op, vs => match vs with
    | [] => none
    | [a] => trE n d sc a
    | a :: r => match trE n d sc a, trB n d sc op r with
      | some x, some y => some (match op with | .And => .and x y | .Or => .or x y)
      | _, _ => none
def trO : Nat → Nat → Scope → Option Expr → Option (Option E)
  | 0, _, _, _ => none
  | _ + 1, _, _, none => some none
  | n + 1, d, sc, some e => (trE n d sc e).map some
def trEs : Nat → Nat → Scope → List Expr → Option (List E)
  | 0, _, _, _ => none
  | _ + 1, _, _, [] => some []
  | n + 1, d, sc, e :: es => if isStar e then none else match trE n d sc e, trEs n d sc es with
    | some x, some xs => some (x :: xs)
    | _, _ => none
def trKs : Nat → Nat → Scope → List Keyword → Option (List (Str × E))
  | 0, _, _, _ => none
  | _ + 1, _, _, [] => some []
  | n + 1, d, sc, ⟨some k, e, _⟩ :: es => match trE n d sc e, trKs n d sc es with
    | some x, some xs => some ((k, x) :: xs)
    | _, _ => none
  | _ + 1, _, _, _ => none
/-- d: around, d2: within -/
def trC : Nat → Nat → Nat → Scope → CK → Expr → List Comprehension → Scope → Option E
  | 0, _, _, _, _, _, _, _ => none
  | n + 1, d, d2, sc, k, elt, gens, scope => match gens with
    | [⟨tg, iter, ifs, 0⟩] => match trE n d2 scope elt, trT n d2 scope tg, trIt n d sc iter, trEs n d2 scope ifs with
      | some x, some y, some z, some w => if !okIt tg z || !((tNames y).all fun i => decide (i ∈ (ownOf N gens).map (·.2))) || decide (2 ≤ ifs.length) then none else some (.comp k ((ownOf N gens).map (·.2)) x [.mk y z w])
      | _, _, _, _ => none
    | _ => none
def trIt : Nat → Nat → Scope → Expr → Option It
  | 0, _, _, _ => none
  | n + 1, d, sc, e => match e with
    | .Call (.Name f p) args [] q => if gloB sc f && t.free f && f = ("range" : Str) then (trEs n d sc args).map .rng
      else if gloB sc f && t.free f && f = ("enumerate" : Str) then (match args with | [a] => (trE n d sc a).map .enum | _ => none)
      else if gloB sc f && t.free f && f = ("zip" : Str) then (trEs n d sc args).map .zip
      else (trE n d sc (.Call (.Name f p) args [] q)).map .val
    | e => if isSet e then none else (trE n d sc e).map .val
def trT : Nat → Nat → Scope → Expr → Option T
  | 0, _, _, _ => none
  | n + 1, d, sc, e => match e with
    | .Name x _ => if nameOk x && locB sc x then (slot N x).map .nm else none
    | .Tuple es _ _ => (trTs n d sc es).map .tup
    | .Subscript o i _ => if isSlice i || isStar i then none else match trE n d sc o, trE n d sc i with
      | some x, some y => some (.sub x y)
      | _, _ => none
    | _ => none
def trTs : Nat → Nat → Scope → List Expr → Option (List T)
  | 0, _, _, _ => none
  | _ + 1, _, _, [] => some []
  | n + 1, d, sc, e :: es => if isStar e then none else match trT n d sc e, trTs n d sc es with
    | some x, some xs => some (x :: xs)
    | _, _ => none
end
mutual
def trS : Nat → Nat → Scope → Stmt → Option S
  | 0, _, _, _ => none
  | n + 1, d, sc, s => match s with
    | .Assign [tg] e _ => if (swN sc tg e).isNone then none else match trT t N n d sc tg, trE t N n d sc e with
      | some x, some y => some (.asg x y)
      | _, _ => none
    | .AugAssign (.Name x _) op e _ => match augOf op, slot N x, trE t N n d sc e with
      | some o, some i, some y => if nameOk x && locB sc x then some (.aug i o y) else none
      | _, _, _ => none
    | .Expr e _ => if isComp e then none else (trE t N n d sc e).map .expr
    | .Return (some e) _ => (trE t N n d sc e).map .ret
    | .Return none _ => some .retn
    | .If c a b _ => match trE t N n d sc c, trSs n d sc a, trSs n d sc b with
      | some x, some y, some z => some (.ite x y z)
      | _, _, _ => none
    | .For tg iter body [] _ => match trT t N n d sc tg, trIt t N n d sc iter, trSs n d sc body with
      | some x, some y, some z => if !okIt tg y then none else some (.for_ x y z)
      | _, _, _ => none
    | .While c body [] _ => match trE t N n d sc c, trSs n d sc body with
      | some x, some y => some (.while_ x y)
      | _, _ => none
    | .Break _ => some .brk
    | .Continue _ => some .cnt
    | .Pass _ => some .pass
    | .Raise .. => some .never
    | _ => none
def trSs : Nat → Nat → Scope → List Stmt → Option (List S)
  | 0, _, _, _ => none
  | _ + 1, _, _, [] => some []
  | n + 1, d, sc, s :: ss => match trS n d sc s, trSs n d sc ss with
    | some x, some xs => some (x :: xs)
    | _, _ => none
end
end
/-- a def's names: parameters, then the other names of its own, then those of its comprehensions and lambdas -/
def argNames (a : Arguments) : Option (List Str) := match a with
  | ⟨[], as, none, [], [], none, []⟩ => some (as.map (·.arg))
  | _ => none
end Mp
set_option Elab.async false
set_option linter.all false
set_option maxRecDepth 100000
/-! MpRep: a value, a store, a world of the small language in the abstract heap. -/
namespace Mp
open PySem PySem.Spec PyProof.Rows L2

/-! ### tables of code objects -/
/-- the object at c is a code object with its table at P -/
def CodeT (c P : Addr) : HO := .ext fun h => PySem.W.CodeHd h c P
/-- a good table: its code objects are known, their tables are good -/
inductive TabOk (H : Hp) : Addr → Prop
  | mk {P : Addr} {ps : Array Value} (cf : Pos → Addr × Addr) : H P = some (.tbl ps) → TriplesOk ps.toList →
      (∀ pos cv, codeAmong pos ps.toList = some cv → cv = .ref (cf pos).1 ∧ H (cf pos).1 = some (CodeT (cf pos).1 (cf pos).2)) →
      (∀ pos cv, codeAmong pos ps.toList = some cv → TabOk H (cf pos).2) → TabOk H P
theorem TabOk.tbl {H : Hp} {P : Addr} (t : TabOk H P) : ∃ ps, H P = some (.tbl ps) := by
  cases t with
  | mk cf h _ _ _ => exact ⟨_, h⟩
theorem TabOk.mono {H H' : Hp} {P : Addr} (t : TabOk H P) (k : ∀ a o, H a = some o → (∀ xs, o ≠ .lst xs) → H' a = some o) : TabOk H' P := by
  induction t with
  | mk cf h1 h2 h3 _ ih => exact .mk cf (k _ _ h1 fun xs z => by cases z) h2 (fun pos cv e => ⟨(h3 pos cv e).1, k _ _ (h3 pos cv e).2 fun xs z => by unfold CodeT at z; cases z⟩) ih
theorem TabOk.empty {H : Hp} {P : Addr} (h : H P = some (.tbl #[])) : TabOk H P := .mk (fun _ => (0, 0)) h True.intro
  (fun pos cv e => by
    have z : codeAmong pos [] = some cv := e
    simp [codeAmong] at z)
  (fun pos cv e => by
    have z : codeAmong pos [] = some cv := e
    simp [codeAmong] at z)

/-! ### values -/
/-- a tuple that stands at a -/
def TupAt (K : PySem.W.Frag) (H : Hp) (a : Addr) (xs : List V) : Prop :=
  H a = some (.tup xs) ∨ ∃ (o : Obj) (its : Array Value) (n : Nat), K.lookup a = some o ∧ o.cls = .type "tuple" ∧ o.data = .seq its n ∧ its.size ≤ sizeLine ∧ Vals xs its.toList
theorem TupAt.sq {K : PySem.W.Frag} {H : Hp} {a : Addr} {xs : List V} (h : TupAt K H a xs) : SqT K H a xs := by
  rcases h with h | h
  · exact .inl (.inl h)
  · exact .inr h
mutual
def Rep (K : PySem.W.Frag) (H : Hp) (L : List Addr) : PV → V → Prop
  | .non, v => v = .non
  | .bl b, v => v = .bl b
  | .int i, v => v = .int i
  | .str s, v => v = .str s
  | .tup xs, v => ∃ a vs, v = .ref a ∧ TupAt K H a vs ∧ Reps K H L xs vs
  | .loc n, v => ∃ a, v = .ref a ∧ L[n]? = some a
def Reps (K : PySem.W.Frag) (H : Hp) (L : List Addr) : List PV → List V → Prop
  | [], vs => vs = []
  | x :: xs, vs => ∃ v r, vs = v :: r ∧ Rep K H L x v ∧ Reps K H L xs r
end
section
variable {K : PySem.W.Frag} {H H' : Hp} {L L' : List Addr}
theorem Reps.length : ∀ {xs : List PV} {vs : List V}, Reps K H L xs vs → vs.length = xs.length
  | [], vs, h => by
    have e : vs = [] := h
    rw [e] <;> rfl
  | x :: xs, vs, h => by
    obtain ⟨v, r, rfl, _, h2⟩ := (show ∃ v r, vs = v :: r ∧ Rep K H L x v ∧ Reps K H L xs r from h)
    rw [List.length_cons, List.length_cons, Reps.length h2]
theorem Reps.get : ∀ {xs : List PV} {vs : List V} {i : Nat} {x : PV}, Reps K H L xs vs → xs[i]? = some x → ∃ v, vs[i]? = some v ∧ Rep K H L x v
  | [], _, _, _, _, e => by simp at e
  | y :: xs, vs, i, x, h, e => by
    obtain ⟨v, r, rfl, h1, h2⟩ := (show ∃ v r, vs = v :: r ∧ Rep K H L y v ∧ Reps K H L xs r from h)
    cases i with
    | zero =>
      have : y = x := by simpa using e
      subst this
      exact ⟨v, rfl, h1⟩
    | succ i => exact (Reps.get h2 (by simpa using e)).imp fun u q => ⟨by simpa using q.1, q.2⟩
theorem Reps.cons {x : PV} {xs : List PV} {v : V} {vs : List V} (h1 : Rep K H L x v) (h2 : Reps K H L xs vs) : Reps K H L (x :: xs) (v :: vs) := by
  unfold Reps
  exact ⟨v, vs, rfl, h1, h2⟩
theorem Reps.nil : Reps K H L [] [] := by unfold Reps; rfl
theorem Reps.uncons {x : PV} {xs : List PV} {vs : List V} (h : Reps K H L (x :: xs) vs) : ∃ v r, vs = v :: r ∧ Rep K H L x v ∧ Reps K H L xs r := by
  unfold Reps at h
  exact h
theorem Reps.nil_iff {vs : List V} (h : Reps K H L [] vs) : vs = [] := by
  unfold Reps at h
  exact h
theorem Reps.append : ∀ {xs ys : List PV} {vs us : List V}, Reps K H L xs vs → Reps K H L ys us → Reps K H L (xs ++ ys) (vs ++ us)
  | [], _, _, _, h, g => by
    rw [h.nil_iff]
    exact g
  | x :: xs, _, _, _, h, g => by
    obtain ⟨v, r, rfl, h1, h2⟩ := h.uncons
    exact .cons h1 (Reps.append h2 g)
theorem Reps.drop : ∀ {xs : List PV} {vs : List V} (n : Nat), Reps K H L xs vs → Reps K H L (xs.drop n) (vs.drop n)
  | xs, vs, 0, h => by
    rw [List.drop_zero, List.drop_zero]
    exact h
  | [], vs, n + 1, h => by
    rw [h.nil_iff, List.drop_nil, List.drop_nil]
    exact .nil
  | x :: xs, vs, n + 1, h => by
    obtain ⟨v, r, rfl, _, h2⟩ := h.uncons
    exact Reps.drop n h2
theorem Reps.take : ∀ {xs : List PV} {vs : List V} (n : Nat), Reps K H L xs vs → Reps K H L (xs.take n) (vs.take n)
  | xs, vs, 0, h => by
    rw [List.take_zero, List.take_zero]
    exact .nil
  | [], vs, n + 1, h => by
    rw [h.nil_iff, List.take_nil, List.take_nil]
    exact .nil
  | x :: xs, vs, n + 1, h => by
    obtain ⟨v, r, rfl, h1, h2⟩ := h.uncons
    exact .cons h1 (Reps.take n h2)
theorem Reps.reverse : ∀ {xs : List PV} {vs : List V}, Reps K H L xs vs → Reps K H L xs.reverse vs.reverse
  | [], vs, h => by
    rw [h.nil_iff]
    exact .nil
  | x :: xs, vs, h => by
    obtain ⟨v, r, rfl, h1, h2⟩ := h.uncons
    rw [List.reverse_cons, List.reverse_cons]
    exact (Reps.reverse h2).append (.cons h1 .nil)
theorem Reps.set : ∀ {xs : List PV} {vs : List V} {x : PV} {v : V} (i : Nat), Reps K H L xs vs → Rep K H L x v → Reps K H L (xs.set i x) (vs.set i v)
  | [], vs, _, _, i, h, _ => by
    rw [h.nil_iff]
    exact .nil
  | y :: xs, vs, x, v, i, h, g => by
    obtain ⟨u, r, rfl, h1, h2⟩ := h.uncons
    cases i with
    | zero => exact .cons g h2
    | succ i => exact .cons h1 (Reps.set i h2 g)
theorem Reps.eraseIdx : ∀ {xs : List PV} {vs : List V} (i : Nat), Reps K H L xs vs → Reps K H L (xs.eraseIdx i) (vs.eraseIdx i)
  | [], vs, i, h => by
    rw [h.nil_iff]
    exact .nil
  | y :: xs, vs, i, h => by
    obtain ⟨u, r, rfl, h1, h2⟩ := h.uncons
    cases i with
    | zero => exact h2
    | succ i => exact .cons h1 (Reps.eraseIdx i h2)
theorem Reps.dropLast {xs : List PV} {vs : List V} (h : Reps K H L xs vs) : Reps K H L xs.dropLast vs.dropLast := by
  rw [List.dropLast_eq_take, List.dropLast_eq_take, h.length]
  exact h.take _
theorem Reps.rep {xs : List PV} {vs : List V} (h : Reps K H L xs vs) : ∀ n : Nat, Reps K H L (Mp.rep n xs) (List.replicate n vs).flatten
  | 0 => .nil
  | n + 1 => by
    unfold Mp.rep
    rw [List.replicate_succ, List.replicate_succ, List.flatten_cons, List.flatten_cons]
    exact h.append (Reps.rep h n)
mutual
theorem Rep.mono (hp : L <+: L') (ht : ∀ a xs, H a = some (.tup xs) → H' a = some (.tup xs)) : ∀ {x : PV} {v : V}, Rep K H L x v → Rep K H' L' x v
  | .non, v, h => by unfold Rep at h ⊢; exact h
  | .bl _, v, h => by unfold Rep at h ⊢; exact h
  | .int _, v, h => by unfold Rep at h ⊢; exact h
  | .str _, v, h => by unfold Rep at h ⊢; exact h
  | .tup xs, v, h => by
    unfold Rep at h ⊢
    obtain ⟨a, vs, e, q, r⟩ := h
    refine ⟨a, vs, e, ?_, Reps.mono hp ht r⟩
    rcases q with q | q
    · exact .inl (ht _ _ q)
    · exact .inr q
  | .loc n, v, h => by
    unfold Rep at h ⊢
    obtain ⟨a, e, q⟩ := h
    refine ⟨a, e, ?_⟩
    obtain ⟨t, rfl⟩ := hp
    exact List.getElem?_append_left (List.getElem?_eq_some_iff.mp q).1 ▸ q
theorem Reps.mono (hp : L <+: L') (ht : ∀ a xs, H a = some (.tup xs) → H' a = some (.tup xs)) : ∀ {xs : List PV} {vs : List V}, Reps K H L xs vs → Reps K H' L' xs vs
  | [], vs, h => by unfold Reps at h ⊢; exact h
  | x :: xs, vs, h => by
    unfold Reps at h ⊢
    obtain ⟨v, r, e, h1, h2⟩ := h
    exact ⟨v, r, e, Rep.mono hp ht h1, Reps.mono hp ht h2⟩
end
end

/-! ### worlds -/
/-- a list of the written part -/
def KList (K : PySem.W.Frag) (a : Addr) (xs : List V) : Prop :=
  ∃ (o : Obj) (its : Array Value) (n : Nat), K.lookup a = some o ∧ o.cls = .type "list" ∧ o.dict = none ∧ o.data = .seq its n ∧ its.size ≤ sizeLine ∧ Vals xs its.toList
/-- an address of the store that may be written -/
def wr (L : List Addr) (st : Sto) (a : Addr) : Prop := ∃ (n : Nat) (xs : List PV), L[n]? = some a ∧ st[n]? = some (MO.lst xs)
structure Wd (K : PySem.W.Frag) (L : List Addr) (H : Hp) (st : Sto) : Prop where
  len : L.length = st.length
  nd : ∀ (n m : Nat) (a : Addr) (xs ys : List PV), L[n]? = some a → L[m]? = some a → st[n]? = some (MO.lst xs) → st[m]? = some (MO.lst ys) → n = m
  lst : ∀ (n : Nat) (a : Addr) (xs : List PV), L[n]? = some a → st[n]? = some (MO.lst xs) → ∃ vs, H a = some (.lst vs) ∧ Reps K H L xs vs
  fl : ∀ (n : Nat) (a : Addr) (xs : List PV), L[n]? = some a → st[n]? = some (MO.fl xs) → ∃ vs, (KList K a vs ∨ (Rd H a (.lst vs) ∧ ¬ wr L st a)) ∧ Reps K H L xs vs
/-- what a later world is to an earlier one -/
structure Ext (L : List Addr) (H : Hp) (st : Sto) (L' : List Addr) (H' : Hp) (st' : Sto) : Prop where
  pre : L <+: L'
  keep : ∀ a o, H a = some o → ¬ wr L st a → (∀ ps, o ≠ .tbl ps) → H' a = some o
  tbl : ∀ a ps, H a = some (.tbl ps) → ∃ more, H' a = some (.tbl (ps ++ more))
  tab : ∀ P, TabOk H P → TabOk H' P
  new : ∀ a, wr L' st' a → wr L st a ∨ H a = none
  fl : ∀ (n : Nat) (xs : List PV), st'[n]? = some (MO.fl xs) → st[n]? = some (MO.fl xs)
section
variable {K : PySem.W.Frag} {H H' H1 H2 : Hp} {L L' L1 L2 : List Addr} {st st' st1 st2 : Sto}
theorem Wd.wr_lst (w : Wd K L H st) {a : Addr} (h : wr L st a) : ∃ vs, H a = some (.lst vs) := by
  obtain ⟨n, xs, e1, e2⟩ := h
  obtain ⟨vs, q, _⟩ := w.lst n a _ e1 e2
  exact ⟨vs, q⟩
theorem Wd.notwr (w : Wd K L H st) {a : Addr} {o : HO} (h : H a = some o) (n : ∀ xs, o ≠ .lst xs) : ¬ wr L st a := fun z => by
  obtain ⟨vs, e⟩ := w.wr_lst z
  rw [h] at e
  exact n vs (Option.some.inj e)
theorem Ext.refl : Ext L H st L H st := ⟨List.prefix_rfl, fun _ _ h _ _ => h, fun _ ps h => ⟨#[], by rw [h]; simp⟩, fun _ h => h, fun _ h => .inl h, fun _ _ h => h⟩
theorem Ext.trans (a : Ext L H st L1 H1 st1) (b : Ext L1 H1 st1 L2 H2 st2) : Ext L H st L2 H2 st2 where
  pre := a.pre.trans b.pre
  keep := fun c o h n t => b.keep c o (a.keep c o h n t) (fun z => (a.new c z).elim n fun q => by rw [h] at q; cases q) t
  tbl := fun c ps h => by
    obtain ⟨m1, e1⟩ := a.tbl c ps h
    obtain ⟨m2, e2⟩ := b.tbl c _ e1
    exact ⟨m1 ++ m2, by rw [e2, Array.append_assoc]⟩
  tab := fun P h => b.tab P (a.tab P h)
  new := fun c h => by
    rcases b.new c h with z | z
    · exact a.new c z
    · by_cases q : wr L st c
      · exact .inl q
      · refine .inr ?_
        cases e : H c with
        | none => rfl
        | some o =>
          by_cases t : ∀ ps, o ≠ .tbl ps
          · rw [a.keep c o e q t] at z; cases z
          · exfalso
            apply t
            intro ps ep
            subst ep
            obtain ⟨m, e1⟩ := a.tbl c ps e
            rw [e1] at z
            cases z
  fl := fun n xs h => a.fl n xs (b.fl n xs h)
theorem Ext.tup (e : Ext L H st L' H' st') (w : Wd K L H st) : ∀ a xs, H a = some (.tup xs) → H' a = some (.tup xs) := fun a xs h =>
  e.keep a _ h (w.notwr h fun _ z => by cases z) fun _ z => by cases z
theorem Ext.frz (e : Ext L H st L' H' st') (w : Wd K L H st) : ∀ a o u, H a = some (.frz o u) → H' a = some (.frz o u) := fun a o u h =>
  e.keep a _ h (w.notwr h fun _ z => by cases z) fun _ z => by cases z
theorem Rep.ext {x : PV} {v : V} (h : Rep K H L x v) (w : Wd K L H st) (e : Ext L H st L' H' st') : Rep K H' L' x v := h.mono e.pre (e.tup w)
theorem Reps.ext {xs : List PV} {vs : List V} (h : Reps K H L xs vs) (w : Wd K L H st) (e : Ext L H st L' H' st') : Reps K H' L' xs vs := h.mono e.pre (e.tup w)
/-- all that is tracked stays -/
theorem Ext.grow (k : ∀ a o, H a = some o → H' a = some o) : Ext L H st L H' st := ⟨List.prefix_rfl, fun a o h _ _ => k a o h, fun a ps h => ⟨#[], by rw [k a _ h]; simp⟩, fun P h => h.mono fun a o q _ => k a o q, fun _ h => .inl h, fun _ _ h => h⟩
/-- the world behind a step: what must be shown anew are the lists that may be written -/
theorem Wd.next (w : Wd K L H st) (e : Ext L H st L' H' st') (len : L'.length = st'.length)
    (nd : ∀ (n m : Nat) (a : Addr) (xs ys : List PV), L'[n]? = some a → L'[m]? = some a → st'[n]? = some (MO.lst xs) → st'[m]? = some (MO.lst ys) → n = m)
    (lst : ∀ (n : Nat) (a : Addr) (xs : List PV), L'[n]? = some a → st'[n]? = some (MO.lst xs) → ∃ vs, H' a = some (.lst vs) ∧ Reps K H' L' xs vs)
    (fl : ∀ (n : Nat) (xs : List PV), st'[n]? = some (MO.fl xs) → st[n]? = some (MO.fl xs)) : Wd K L' H' st' where
  len := len
  nd := nd
  lst := lst
  fl := fun n a xs h1 h2 => by
    have h3 := fl n xs h2
    have hn : n < L.length := by
      rw [w.len]
      exact (List.getElem?_eq_some_iff.mp h3).1
    have h4 : L[n]? = some a := by
      obtain ⟨t, et⟩ := e.pre
      rw [← et, List.getElem?_append_left hn] at h1
      exact h1
    obtain ⟨vs, q, r⟩ := w.fl n a xs h4 h3
    refine ⟨vs, ?_, r.ext w e⟩
    rcases q with q | ⟨q, nw⟩
    · exact .inl q
    · refine .inr ⟨?_, fun z => ?_⟩
      · rcases q with q | ⟨o, q⟩
        · exact .inl (e.keep _ _ q nw fun _ z => by cases z)
        · exact .inr ⟨o, e.keep _ _ q nw fun _ z => by cases z⟩
      · rcases e.new a z with y | y
        · exact nw y
        · rcases q with q | ⟨o, q⟩ <;> (rw [y] at q; cases q)
/-- all that is tracked stays -/
theorem Wd.grow (w : Wd K L H st) (k : ∀ a o, H a = some o → H' a = some o) : Wd K L H' st :=
  w.next (Ext.grow k) w.len w.nd (fun n a xs h1 h2 => by
    obtain ⟨vs, q, r⟩ := w.lst n a xs h1 h2
    exact ⟨vs, k _ _ q, r.ext w (Ext.grow (st := st) k)⟩) fun _ _ h => h
theorem grow_upd {a : Addr} {o : HO} (h : H a = none) : ∀ b u, H b = some u → upd H a o b = some u := fun b u e => by
  rw [upd_ne (ne_of_none e h)]
  exact e
/-- a new list -/
theorem Ext.push {p : Addr} {vs : List V} {xs : List PV} (h : H p = none) (hl : L.length = st.length) : Ext L H st (L ++ [p]) (upd H p (.lst vs)) (st ++ [MO.lst xs]) where
  pre := List.prefix_append _ _
  keep := fun a o e _ _ => grow_upd h a o e
  tbl := fun a ps e => ⟨#[], by rw [grow_upd h a _ e]; simp⟩
  tab := fun P t => t.mono fun a o e _ => grow_upd h a o e
  new := fun a ⟨n, ys, e1, e2⟩ => by
    by_cases hn : n < L.length
    · rw [List.getElem?_append_left hn] at e1
      rw [List.getElem?_append_left (by omega)] at e2
      exact .inl ⟨n, ys, e1, e2⟩
    · have hn' : L.length ≤ n := Nat.le_of_not_lt hn
      rw [List.getElem?_append_right hn'] at e1
      have e3 := (List.getElem?_eq_some_iff.mp e1)
      obtain ⟨h3, e3⟩ := e3
      simp only [List.length_singleton] at h3
      have h4 : n - L.length = 0 := by omega
      simp only [h4, List.getElem_cons_zero] at e3
      rw [← e3]
      exact .inr h
  fl := fun n ys e2 => by
    by_cases hn : n < st.length
    · rw [List.getElem?_append_left hn] at e2
      exact e2
    · have hn' : st.length ≤ n := Nat.le_of_not_lt hn
      rw [List.getElem?_append_right hn'] at e2
      obtain ⟨h3, e3⟩ := List.getElem?_eq_some_iff.mp e2
      simp only [List.length_singleton] at h3
      have h4 : n - st.length = 0 := by omega
      simp only [h4, List.getElem_cons_zero] at e3
      cases e3
theorem Wd.push (w : Wd K L H st) {p : Addr} {vs : List V} {xs : List PV} (h : H p = none) (r : Reps K H L xs vs) : Wd K (L ++ [p]) (upd H p (.lst vs)) (st ++ [MO.lst xs]) := by
  have e : Ext L H st (L ++ [p]) (upd H p (.lst vs)) (st ++ [MO.lst xs]) := Ext.push h w.len
  have at_ : ∀ (n : Nat) (a : Addr) (ys : List PV), (L ++ [p])[n]? = some a → (st ++ [MO.lst xs])[n]? = some (MO.lst ys) → (n < L.length ∧ L[n]? = some a ∧ st[n]? = some (MO.lst ys)) ∨ (n = L.length ∧ a = p ∧ ys = xs) := fun n a ys e1 e2 => by
    by_cases hn : n < L.length
    · rw [List.getElem?_append_left hn] at e1
      rw [List.getElem?_append_left (by rw [← w.len]; exact hn)] at e2
      exact .inl ⟨hn, e1, e2⟩
    · have hn' : L.length ≤ n := Nat.le_of_not_lt hn
      rw [List.getElem?_append_right hn'] at e1
      rw [List.getElem?_append_right (by rw [← w.len]; exact hn')] at e2
      obtain ⟨h3, e3⟩ := List.getElem?_eq_some_iff.mp e1
      simp only [List.length_singleton] at h3
      have h4 : n - L.length = 0 := by omega
      have h5 : n - st.length = 0 := by rw [← w.len]; exact h4
      simp only [h4, List.getElem_cons_zero] at e3
      rw [h5] at e2
      have e5 := Option.some.inj e2
      injection e5 with e6
      exact .inr ⟨by omega, e3.symm, e6.symm⟩
  refine w.next e ?_ (fun n m a ys zs e1 e2 e3 e4 => ?_) (fun n a ys e1 e2 => ?_) (fun n ys e2 => ?_)
  · rw [List.length_append, List.length_append, w.len, List.length_singleton, List.length_singleton]
  · rcases at_ n a ys e1 e3 with ⟨_, a1, a2⟩ | ⟨a1, a2, _⟩
    · rcases at_ m a zs e2 e4 with ⟨_, b1, b2⟩ | ⟨b1, b2, _⟩
      · exact w.nd n m a ys zs a1 b1 a2 b2
      · exfalso
        obtain ⟨us, q, _⟩ := w.lst n a ys a1 a2
        rw [b2, h] at q
        cases q
    · rcases at_ m a zs e2 e4 with ⟨_, b1, b2⟩ | ⟨b1, b2, _⟩
      · exfalso
        obtain ⟨us, q, _⟩ := w.lst m a zs b1 b2
        rw [a2, h] at q
        cases q
      · omega
  · rcases at_ n a ys e1 e2 with ⟨_, a1, a2⟩ | ⟨a1, a2, a3⟩
    · obtain ⟨us, q, r⟩ := w.lst n a ys a1 a2
      exact ⟨us, grow_upd h _ _ q, r.ext w e⟩
    · rw [a2, a3]
      exact ⟨vs, upd_same, r.ext w e⟩
  · by_cases hn : n < st.length
    · rw [List.getElem?_append_left hn] at e2
      exact e2
    · have hn' : st.length ≤ n := Nat.le_of_not_lt hn
      rw [List.getElem?_append_right hn'] at e2
      obtain ⟨h3, e3⟩ := List.getElem?_eq_some_iff.mp e2
      simp only [List.length_singleton] at h3
      have h4 : n - st.length = 0 := by omega
      simp only [h4, List.getElem_cons_zero] at e3
      cases e3
/-- a list is written -/
theorem Ext.write {n : Nat} {a : Addr} {vs : List V} {xs ys : List PV} (w : Wd K L H st) (h1 : L[n]? = some a) (h2 : st[n]? = some (MO.lst ys)) : Ext L H st L (upd H a (.lst vs)) (st.set n (MO.lst xs)) := by
  have hw : wr L st a := ⟨n, ys, h1, h2⟩
  obtain ⟨us, hus⟩ := w.wr_lst hw
  have ne : ∀ b o, H b = some o → (∀ xs, o ≠ .lst xs) → upd H a (.lst vs) b = some o := fun b o e t => by
    rw [upd_ne (fun z => t us (Option.some.inj (by rw [← e, z, hus])))]
    exact e
  refine ⟨List.prefix_rfl, fun b o e nw t => ?_, fun b ps e => ⟨#[], ?_⟩, fun P t => t.mono fun b o e t => ne b o e t, fun b ⟨m, zs, e1, e2⟩ => ?_, fun m zs q => ?_⟩
  · rw [upd_ne (fun z => nw (by rw [z]; exact hw))]
    exact e
  · rw [ne b _ e fun _ z => by cases z]
    simp
  · by_cases hm : n = m
    · subst hm
      rw [h1] at e1
      exact .inl ⟨n, ys, by rw [h1]; exact e1, h2⟩
    · rw [List.getElem?_set_ne hm] at e2
      exact .inl ⟨m, zs, e1, e2⟩
  · by_cases hm : n = m
    · subst hm
      rw [List.getElem?_set_self (List.getElem?_eq_some_iff.mp h2).1] at q
      cases q
    · rw [List.getElem?_set_ne hm] at q
      exact q
theorem Wd.write {n : Nat} {a : Addr} {vs : List V} {xs ys : List PV} (w : Wd K L H st) (h1 : L[n]? = some a) (h2 : st[n]? = some (MO.lst ys)) (r : Reps K H L xs vs) : Wd K L (upd H a (.lst vs)) (st.set n (MO.lst xs)) := by
  have e : Ext L H st L (upd H a (.lst vs)) (st.set n (MO.lst xs)) := Ext.write w h1 h2
  have hn : n < st.length := (List.getElem?_eq_some_iff.mp h2).1
  have at_ : ∀ (m : Nat) (zs : List PV), (st.set n (MO.lst xs))[m]? = some (MO.lst zs) → (m = n ∧ zs = xs) ∨ (m ≠ n ∧ st[m]? = some (MO.lst zs)) := fun m zs q => by
    by_cases hm : n = m
    · subst hm
      rw [List.getElem?_set_self hn] at q
      have q1 := Option.some.inj q
      injection q1 with q2
      exact .inl ⟨rfl, q2.symm⟩
    · rw [List.getElem?_set_ne hm] at q
      exact .inr ⟨fun z => hm z.symm, q⟩
  have old : ∀ (m : Nat) (zs : List PV), (st.set n (MO.lst xs))[m]? = some (MO.lst zs) → ∃ us, st[m]? = some (MO.lst us) := fun m zs q => by
    rcases at_ m zs q with ⟨z, _⟩ | ⟨_, z⟩
    · exact ⟨ys, by rw [z]; exact h2⟩
    · exact ⟨zs, z⟩
  refine w.next e (by rw [List.length_set]; exact w.len) (fun i j b us zs e1 e2 e3 e4 => ?_) (fun m b zs e1 e2 => ?_) (fun m zs q => ?_)
  · obtain ⟨_, q1⟩ := old i us e3
    obtain ⟨_, q2⟩ := old j zs e4
    exact w.nd i j b _ _ e1 e2 q1 q2
  · rcases at_ m zs e2 with ⟨z1, z2⟩ | ⟨z1, z2⟩
    · subst z1 z2
      rw [h1] at e1
      have := Option.some.inj e1
      subst this
      exact ⟨vs, upd_same, r.ext w e⟩
    · obtain ⟨us, q, r'⟩ := w.lst m b zs e1 z2
      refine ⟨us, ?_, r'.ext w e⟩
      rw [upd_ne (fun z => z1 (w.nd m n b _ _ e1 (by rw [z]; exact h1) z2 h2))]
      exact q
  · by_cases hm : n = m
    · subst hm
      rw [List.getElem?_set_self hn] at q
      cases q
    · rw [List.getElem?_set_ne hm] at q
      exact q
/-- a list of the store is read -/
theorem Wd.seq (w : Wd K L H st) {n : Nat} {a : Addr} {xs : List PV} (h1 : L[n]? = some a) (h2 : getL st n = some xs) : ∃ vs, SqL K H a vs ∧ Reps K H L xs vs := by
  unfold getL at h2
  cases q : st[n]? with
  | none => rw [q] at h2; cases h2
  | some o =>
    rw [q] at h2
    cases o with
    | lst ys =>
      cases (Option.some.inj h2)
      obtain ⟨vs, e, r⟩ := w.lst n a _ h1 q
      exact ⟨vs, .inl (.inl e), r⟩
    | fl ys =>
      cases (Option.some.inj h2)
      obtain ⟨vs, e, r⟩ := w.fl n a _ h1 q
      refine ⟨vs, ?_, r⟩
      rcases e with e | ⟨e, _⟩
      · exact .inr e
      · exact .inl e
theorem getM_st {n : Nat} {xs : List PV} (h : getM st n = some xs) : st[n]? = some (MO.lst xs) := by
  unfold getM at h
  cases q : st[n]? with
  | none => rw [q] at h; cases h
  | some o =>
    rw [q] at h
    cases o with
    | lst ys =>
      cases (Option.some.inj h)
      rfl
    | fl ys => cases h
theorem Wd.mut (w : Wd K L H st) {n : Nat} {a : Addr} {xs : List PV} (h1 : L[n]? = some a) (h2 : getM st n = some xs) : ∃ vs, H a = some (.lst vs) ∧ Reps K H L xs vs :=
  w.lst n a xs h1 (getM_st h2)
end

/-! ### names -/
def EnvOk (K : PySem.W.Frag) (H : Hp) (L : List Addr) (σ : L2.St) (env : Mp.Env) : Prop :=
  σ.length = env.length ∧ ∀ (i : Nat) (x : PV), env[i]? = some (some x) → ∃ v, σ[i]? = some (some v) ∧ Rep K H L x v
section
variable {K : PySem.W.Frag} {H H' : Hp} {L L' : List Addr} {st st' : Sto} {σ : L2.St} {env : Mp.Env}
theorem EnvOk.ext (h : EnvOk K H L σ env) (w : Wd K L H st) (e : Ext L H st L' H' st') : EnvOk K H' L' σ env := ⟨h.1, fun i x q => by
  obtain ⟨v, e1, e2⟩ := h.2 i x q
  exact ⟨v, e1, e2.ext w e⟩⟩
theorem EnvOk.set (h : EnvOk K H L σ env) {x : PV} {v : V} (i : Nat) (r : Rep K H L x v) : EnvOk K H L (σ.set i (some v)) (env.set i (some x)) := by
  refine ⟨by rw [List.length_set, List.length_set]; exact h.1, fun j y q => ?_⟩
  by_cases hj : i = j
  · subst hj
    by_cases hi : i < env.length
    · rw [List.getElem?_set_self hi] at q
      have e := Option.some.inj (Option.some.inj q)
      subst e
      exact ⟨v, by rw [List.getElem?_set_self (by rw [h.1]; exact hi)], r⟩
    · rw [List.getElem?_eq_none (by rw [List.length_set]; omega)] at q
      cases q
  · rw [List.getElem?_set_ne hj] at q
    obtain ⟨u, e1, e2⟩ := h.2 j y q
    exact ⟨u, by rw [List.getElem?_set_ne hj]; exact e1, e2⟩
theorem EnvOk.wipe (h : EnvOk K H L σ env) : ∀ vs : List Nat, EnvOk K H L (L2.wipe σ vs) (Mp.wipe env vs)
  | [] => h
  | v :: vs => by
    have ih := EnvOk.wipe h vs
    unfold L2.wipe Mp.wipe
    refine ⟨by rw [List.length_set, List.length_set]; exact ih.1, fun j y q => ?_⟩
    by_cases hj : v = j
    · subst hj
      by_cases hi : v < (Mp.wipe env vs).length
      · rw [List.getElem?_set_self hi] at q
        cases q
      · rw [List.getElem?_eq_none (by rw [List.length_set]; omega)] at q
        cases q
    · rw [List.getElem?_set_ne hj] at q
      obtain ⟨u, e1, e2⟩ := ih.2 j y q
      exact ⟨u, by rw [List.getElem?_set_ne hj]; exact e1, e2⟩
/-- fewer names known -/
theorem EnvOk.wiped (h : EnvOk K H L σ env) (vs : List Nat) : EnvOk K H L σ (Mp.wipe env vs) := by
  induction vs with
  | nil => exact h
  | cons v vs ih =>
    unfold Mp.wipe
    refine ⟨by rw [List.length_set]; exact ih.1, fun j y q => ?_⟩
    by_cases hj : v = j
    · subst hj
      by_cases hi : v < (Mp.wipe env vs).length
      · rw [List.getElem?_set_self hi] at q
        cases q
      · rw [List.getElem?_eq_none (by rw [List.length_set]; omega)] at q
        cases q
    · rw [List.getElem?_set_ne hj] at q
      exact ih.2 j y q
end
end Mp
set_option Elab.async false
set_option linter.all false
set_option maxRecDepth 100000
/-! MpOps: what the small language does to values, the model does. -/
namespace Mp
open PySem PySem.Spec PyProof.Rows L2

/-- what follows a result -/
def Fin (K : PySem.W.Frag) (L : List Addr) (H : Hp) (st : Sto) (pv : PV) (st' : Sto) (Q : VK) : Prop :=
  ∀ L' H' v, Ext L H st L' H' st' → Wd K L' H' st' → Rep K H' L' pv v → Q v H'
section
variable {K : PySem.W.Frag} {H H' : Hp} {L L' : List Addr} {st st' : Sto} {Q : VK} {pv : PV}
theorem Fin.here {v : V} (f : Fin K L H st pv st Q) (w : Wd K L H st) (r : Rep K H L pv v) : Q v H := f L H v Ext.refl w r
theorem Fin.int {i : Int} (f : Fin K L H st (.int i) st Q) (w : Wd K L H st) : Q (.int i) H := f.here w (by unfold Rep; rfl)
theorem Fin.bl {b : Bool} (f : Fin K L H st (.bl b) st Q) (w : Wd K L H st) : Q (.bl b) H := f.here w (by unfold Rep; rfl)
theorem Fin.str {b : Str} (f : Fin K L H st (.str b) st Q) (w : Wd K L H st) : Q (.str b) H := f.here w (by unfold Rep; rfl)
theorem Fin.non (f : Fin K L H st .non st Q) (w : Wd K L H st) : Q .non H := f.here w (by unfold Rep; rfl)
theorem Fin.tup {xs : List PV} {vs : List V} {p : Addr} (f : Fin K L H st (.tup xs) st Q) (w : Wd K L H st) (h : H p = none) (r : Reps K H L xs vs) : Q (.ref p) (upd H p (.tup vs)) :=
  f L _ _ (Ext.grow (grow_upd h)) (w.grow (grow_upd h)) (by
    unfold Rep
    exact ⟨p, vs, rfl, .inl upd_same, r.mono List.prefix_rfl fun a xs e => grow_upd h a _ e⟩)
theorem Fin.lst {xs : List PV} {vs : List V} {p : Addr} (f : Fin K L H st (.loc st.length) (st ++ [MO.lst xs]) Q) (w : Wd K L H st) (h : H p = none) (r : Reps K H L xs vs) : Q (.ref p) (upd H p (.lst vs)) :=
  f _ _ _ (Ext.push h w.len) (w.push h r) (by
    unfold Rep
    refine ⟨p, rfl, ?_⟩
    rw [← w.len, List.getElem?_append_right (Nat.le_refl _), Nat.sub_self]
    rfl)
theorem newL_eq {xs : List PV} {v : PV} (h : newL xs st = some (v, st')) : xs.length ≤ sizeLine ∧ v = .loc st.length ∧ st' = st ++ [MO.lst xs] := by
  unfold newL at h
  split at h
  · rename_i hz
    unfold new at h
    cases h
    exact ⟨by rw [sizeLine_eq]; exact hz, rfl, rfl⟩
  · cases h
theorem mkT_eq {xs : List PV} {v : PV} (h : mkT xs st = some (v, st')) : xs.length ≤ sizeLine ∧ v = .tup xs ∧ st' = st := by
  unfold mkT at h
  split at h
  · rename_i hz
    cases h
    exact ⟨by rw [sizeLine_eq]; exact hz, rfl, rfl⟩
  · cases h
theorem Rep.int_inv {i : Int} {v : V} (h : Rep K H L (.int i) v) : v = .int i := by unfold Rep at h; exact h
theorem Rep.bl_inv {i : Bool} {v : V} (h : Rep K H L (.bl i) v) : v = .bl i := by unfold Rep at h; exact h
theorem Rep.str_inv {i : Str} {v : V} (h : Rep K H L (.str i) v) : v = .str i := by unfold Rep at h; exact h
theorem Rep.non_inv {v : V} (h : Rep K H L .non v) : v = .non := by unfold Rep at h; exact h
theorem Rep.tup_inv {xs : List PV} {v : V} (h : Rep K H L (.tup xs) v) : ∃ a vs, v = .ref a ∧ TupAt K H a vs ∧ Reps K H L xs vs := by unfold Rep at h; exact h
theorem Rep.loc_inv {n : Nat} {v : V} (h : Rep K H L (.loc n) v) : ∃ a, v = .ref a ∧ L[n]? = some a := by unfold Rep at h; exact h
/-- the items of a sequence -/
theorem items_rep {a : PV} {v : V} {xs : List PV} (w : Wd K L H st) (r : Rep K H L a v) (h : items st a = some xs) : ∃ p vs, v = .ref p ∧ (SqL K H p vs ∨ SqT K H p vs) ∧ Reps K H L xs vs := by
  cases a with
  | tup ys =>
    have e : ys = xs := Option.some.inj h
    obtain ⟨p, vs, ev, t, rs⟩ := r.tup_inv
    exact ⟨p, vs, ev, .inr t.sq, by rw [← e]; exact rs⟩
  | loc n =>
    obtain ⟨p, ev, q⟩ := r.loc_inv
    obtain ⟨vs, s, rs⟩ := w.seq q (show getL st n = some xs from h)
    exact ⟨p, vs, ev, .inl s, rs⟩
  | _ => cases h
end

/-! ### arithmetic -/
def rBin (K : PySem.W.Frag) (o : Bop) : R2 := fun x y H Q => ∃ L st a b pv st', Wd K L H st ∧ Rep K H L a x ∧ Rep K H L b y ∧ bin o a b st = some (pv, st') ∧ Fin K L H st pv st' Q
theorem mulOk_ok {a b : Int} (h : mulOk a b = true) : IntMulOk a b := by
  have h3 : a.natAbs.log2 + b.natAbs.log2 < 100000000 := of_decide_eq_true h
  have bd : ∀ x : Int, Builtin.Int.intBits x ≤ x.natAbs.log2 + 1 := fun x => by
    unfold Builtin.Int.intBits
    split <;> omega
  have h1 := bd a
  have h2 := bd b
  have e : bitsLine = 134217728 := by decide
  unfold IntMulOk
  intro z
  rw [Bool.and_eq_true] at z
  have z2 := z.2
  unfold Builtin.Int.intTooBig at z2
  have z3 := of_decide_eq_true z2
  rw [e] at z3
  omega
section
variable {X : Cx}
theorem ite_some {α : Type} {c : Prop} [Decidable c] {a b : α} (h : (if c then some a else none) = some b) : c ∧ a = b := by
  split at h
  · rename_i hc
    exact ⟨hc, Option.some.inj h⟩
  · cases h
theorem op_addM : OpR X (binaryOp .Add) (rBin X.K .add) := by
  intro pins s σ H x y v u Q I rx ry h
  obtain ⟨L, st, a, b, pv, st', w, ra, rb, e, f⟩ := h
  cases a with
  | int i =>
    cases b with
    | int j =>
      obtain ⟨rfl, rfl⟩ := Prod.mk.inj (Option.some.inj e)
      cases ra.int_inv
      cases rb.int_inv
      exact op_add pins s σ H _ _ v u Q I rx ry ⟨i, j, rfl, rfl, f.int w⟩
    | _ => cases e
  | tup xs =>
    cases b with
    | tup ys =>
      obtain ⟨hz, rfl, rfl⟩ := mkT_eq (show mkT (xs ++ ys) st = some (pv, st') from e)
      obtain ⟨p, vs, rfl, tp, rs⟩ := ra.tup_inv
      obtain ⟨q, us, rfl, tq, rs2⟩ := rb.tup_inv
      refine op_catA pins s σ H _ _ v u Q I rx ry ⟨p, q, vs, us, rfl, rfl, tp.sq, tq.sq, ?_, fun e => ?_, fun _ e => ?_, fun _ _ t ht => f.tup w ht (rs.append rs2)⟩
      · rw [List.length_append] at hz
        rw [rs.length, rs2.length]
        exact hz
      · have e1 : xs = [] := List.eq_nil_of_length_eq_zero (by rw [← rs.length, e]; rfl)
        subst e1
        exact f.here w rb
      · have e1 : ys = [] := List.eq_nil_of_length_eq_zero (by rw [← rs2.length, e]; rfl)
        subst e1
        rw [List.append_nil] at f
        exact f.here w ra
    | _ => cases e
  | loc n =>
    cases b with
    | loc m =>
      have e1 : (match getM st n, getM st m with
        | some xs, some ys => newL (xs ++ ys) st
        | _, _ => none) = some (pv, st') := e
      split at e1
      · rename_i xs ys h1 h2
        obtain ⟨hz, rfl, rfl⟩ := newL_eq e1
        obtain ⟨p, rfl, lp⟩ := ra.loc_inv
        obtain ⟨q, rfl, lq⟩ := rb.loc_inv
        obtain ⟨vs, hp, rs⟩ := w.mut lp h1
        obtain ⟨us, hq, rs2⟩ := w.mut lq h2
        refine op_cat pins s σ H _ _ v u Q I rx ry ⟨p, q, vs, us, rfl, rfl, hp, hq, ?_, fun t ht => f.lst w ht (rs.append rs2)⟩
        rw [List.length_append] at hz
        rw [rs.length, rs2.length]
        exact hz
      · cases e1
    | _ => cases e
  | _ => cases b <;> cases e
theorem op_subM : OpR X (binaryOp .Sub) (rBin X.K .sub) := by
  intro pins s σ H x y v u Q I rx ry h
  obtain ⟨L, st, a, b, pv, st', w, ra, rb, e, f⟩ := h
  cases a with
  | int i =>
    cases b with
    | int j =>
      obtain ⟨rfl, rfl⟩ := Prod.mk.inj (Option.some.inj e)
      cases ra.int_inv
      cases rb.int_inv
      exact op_sub pins s σ H _ _ v u Q I rx ry ⟨i, j, rfl, rfl, f.int w⟩
    | _ => cases e
  | _ => cases b <;> cases e
theorem op_mulM : OpR X (binaryOp .Mult) (rBin X.K .mul) := by
  intro pins s σ H x y v u Q I rx ry h
  obtain ⟨L, st, a, b, pv, st', w, ra, rb, e, f⟩ := h
  cases a with
  | int i =>
    cases b with
    | int j =>
      obtain ⟨hm, e1⟩ := ite_some (show (if mulOk i j then some (PV.int (i * j), st) else none) = some (pv, st') from e)
      obtain ⟨rfl, rfl⟩ := Prod.mk.inj e1
      cases ra.int_inv
      cases rb.int_inv
      obtain ⟨t, rfl⟩ := rx
      obtain ⟨t', rfl⟩ := ry
      exact mul_int ⟨.int (i * j), H, I.tok _, ⟨_, rfl⟩, f.int w⟩ (mulOk_ok hm)
    | _ => cases e
  | tup xs =>
    cases b with
    | int k =>
      obtain ⟨hm, e1⟩ := ite_some (show (if xs ≠ [] ∧ 2 ≤ k ∧ k ≤ 1000 ∧ xs.length ≤ 1000 then some (PV.tup (rep k.toNat xs), st) else none) = some (pv, st') from e)
      obtain ⟨rfl, rfl⟩ := Prod.mk.inj e1
      obtain ⟨p, vs, rfl, tp, rs⟩ := ra.tup_inv
      cases rb.int_inv
      refine op_repT pins s σ H _ _ v u Q I rx ry ⟨p, k, vs, rfl, rfl, tp.sq, fun z => hm.1 (List.eq_nil_of_length_eq_zero (by rw [← rs.length, z]; rfl)), hm.2.1, hm.2.2.1, by rw [rs.length]; exact hm.2.2.2, fun t ht => f.tup w ht (rs.rep _)⟩
    | _ => cases e
  | loc n =>
    cases b with
    | int k =>
      have e1 : (match getM st n with
        | some xs => if 0 ≤ k ∧ k ≤ 1000000 ∧ xs.length * k.toNat ≤ LIM then newL (rep k.toNat xs) st else none
        | none => none) = some (pv, st') := e
      split at e1
      · rename_i xs h1
        split at e1
        · rename_i hm
          obtain ⟨hz, rfl, rfl⟩ := newL_eq e1
          obtain ⟨p, rfl, lp⟩ := ra.loc_inv
          cases rb.int_inv
          obtain ⟨vs, hp, rs⟩ := w.mut lp h1
          refine op_rep pins s σ H _ _ v u Q I rx ry ⟨p, k, vs, rfl, rfl, hp, by omega, by omega, ?_, fun t ht => f.lst w ht (rs.rep _)⟩
          rw [rs.length, sizeLine_eq]
          exact hm.2.2
        · cases e1
      · cases e1
    | _ => cases e
  | _ => cases b <;> cases e
theorem op_fdivM : OpR X (binaryOp .FloorDiv) (rBin X.K .fdiv) := by
  intro pins s σ H x y v u Q I rx ry h
  obtain ⟨L, st, a, b, pv, st', w, ra, rb, e, f⟩ := h
  cases a with
  | int i =>
    cases b with
    | int j =>
      obtain ⟨hm, e1⟩ := ite_some (show (if j ≠ 0 ∧ j.natAbs.log2 < 9000 then some (PV.int (i.fdiv j), st) else none) = some (pv, st') from e)
      obtain ⟨rfl, rfl⟩ := Prod.mk.inj e1
      cases ra.int_inv
      cases rb.int_inv
      obtain ⟨t, rfl⟩ := rx
      obtain ⟨t', rfl⟩ := ry
      exact floordiv_int hm.1 ⟨.int (i.fdiv j), H, I.tok _, ⟨_, rfl⟩, f.int w⟩ (.inl (PyProof.noPylong_of_log2 hm.2))
    | _ => cases e
  | _ => cases b <;> cases e
theorem op_modM : OpR X (binaryOp .Mod) (rBin X.K .mod) := by
  intro pins s σ H x y v u Q I rx ry h
  obtain ⟨L, st, a, b, pv, st', w, ra, rb, e, f⟩ := h
  cases a with
  | int i =>
    cases b with
    | int j =>
      obtain ⟨hm, e1⟩ := ite_some (show (if j ≠ 0 then some (PV.int (i.fmod j), st) else none) = some (pv, st') from e)
      obtain ⟨rfl, rfl⟩ := Prod.mk.inj e1
      cases ra.int_inv
      cases rb.int_inv
      exact op_modN pins s σ H _ _ v u Q I rx ry ⟨i, j, rfl, rfl, hm, f.int w⟩
    | _ => cases e
  | _ => cases b <;> cases e
theorem op_powM : OpR X (binaryOp .Pow) (rBin X.K .pow) := by
  intro pins s σ H x y v u Q I rx ry h
  obtain ⟨L, st, a, b, pv, st', w, ra, rb, e, f⟩ := h
  cases a with
  | int i =>
    cases b with
    | int j =>
      obtain ⟨hm, e1⟩ := ite_some (show (if 0 ≤ j ∧ j ≤ 1000000 ∧ i.natAbs < 2 ^ 64 then some (PV.int (i ^ j.toNat), st) else none) = some (pv, st') from e)
      obtain ⟨rfl, rfl⟩ := Prod.mk.inj e1
      cases ra.int_inv
      cases rb.int_inv
      exact op_pow pins s σ H _ _ v u Q I rx ry ⟨i, j, rfl, rfl, hm, f.int w⟩
    | _ => cases e
  | _ => cases b <;> cases e
/-- the operator by its name -/
theorem op_binM {op : Operator} {o : Bop} (h : bopOf op = some o) : OpR X (binaryOp op) (rBin X.K o) := by
  cases op <;> first | cases h | skip
  · exact op_addM
  · exact op_subM
  · exact op_mulM
  · exact op_modM
  · exact op_powM
  · exact op_fdivM
/-- x op= y of ints -/
def rAug (K : PySem.W.Frag) (o : Bop) : R2 := fun x y H Q => ∃ L st a b pv st', Wd K L H st ∧ Rep K H L a x ∧ Rep K H L b y ∧ augV o a b st = some (pv, st') ∧ Fin K L H st pv st' Q
end

/-! ### comparisons -/
section
variable {K : PySem.W.Frag} {H : Hp} {L : List Addr} {st : Sto}
mutual
theorem dat_dp : ∀ {x : PV} {v : V} {d : PyData}, Rep K H L x v → dat x = some d → Dp K H v d
  | .non, v, d, r, e => by
    cases r.non_inv
    have e1 : PyData.none = d := by unfold dat at e; exact Option.some.inj e
    rw [← e1]
    exact .non
  | .bl b, v, d, r, e => by
    cases r.bl_inv
    have e1 : PyData.bool b = d := by unfold dat at e; exact Option.some.inj e
    rw [← e1]
    exact .bl b
  | .int b, v, d, r, e => by
    cases r.int_inv
    have e1 : PyData.int b = d := by unfold dat at e; exact Option.some.inj e
    rw [← e1]
    exact .int b
  | .str b, v, d, r, e => by
    cases r.str_inv
    have e1 : PyData.str b = d := by unfold dat at e; exact Option.some.inj e
    rw [← e1]
    exact .str b
  | .tup xs, v, d, r, e => by
    obtain ⟨p, vs, rfl, t, rs⟩ := r.tup_inv
    unfold dat at e
    obtain ⟨ds, e1, e2⟩ := Option.map_eq_some_iff.mp e
    rw [← e2]
    exact .tup t.sq (datAll_dp rs e1)
  | .loc n, v, d, r, e => by
    unfold dat at e
    cases e
theorem datAll_dp : ∀ {xs : List PV} {vs : List V} {ds : List PyData}, Reps K H L xs vs → datAll xs = some ds → DpAll K H vs ds
  | [], vs, ds, r, e => by
    rw [r.nil_iff]
    unfold datAll at e
    cases e
    exact .nil
  | x :: xs, vs, ds, r, e => by
    obtain ⟨v, us, rfl, r1, r2⟩ := r.uncons
    unfold datAll at e
    split at e
    · rename_i d ds' e1 e2
      cases e
      exact .cons (dat_dp r1 e1) (datAll_dp r2 e2)
    · cases e
end
theorem datS_dp (w : Wd K L H st) {x : PV} {v : V} {d : PyData} (r : Rep K H L x v) (e : datS st x = some d) : Dp K H v d := by
  cases x with
  | loc n =>
    have e0 : (match getL st n with
      | some xs => (datAll xs).map PyData.list
      | none => none) = some d := e
    split at e0
    · rename_i xs h
      obtain ⟨p, rfl, lp⟩ := r.loc_inv
      obtain ⟨vs, s, rs⟩ := w.seq lp h
      obtain ⟨ds, e1, e2⟩ := Option.map_eq_some_iff.mp e0
      rw [← e2]
      exact .lst s (datAll_dp rs e1)
    · cases e0
  | _ => exact dat_dp r e
theorem eqv_dp (w : Wd K L H st) {a b : PV} {x y : V} {r : Bool} (ra : Rep K H L a x) (rb : Rep K H L b y) (e : eqv st a b = some r) :
    ∃ d e, Dp K H x d ∧ Dp K H y e ∧ SeqAt.shaped d = true ∧ SeqAt.shaped e = true ∧ r = PyData.eqv d e := by
  unfold eqv at e
  split at e
  · rename_i d d' e1 e2
    split at e
    · rename_i hs
      rw [Bool.and_eq_true] at hs
      exact ⟨d, d', datS_dp w ra e1, datS_dp w rb e2, hs.1, hs.2, (Option.some.inj e).symm⟩
    · cases e
  · cases e
theorem flat_rep {x : PV} {v : V} (r : Rep K H L x v) (f : flat x = true) : flatV v = true := by
  cases x with
  | non => cases r.non_inv; rfl
  | bl _ => cases r.bl_inv; rfl
  | int _ => cases r.int_inv; rfl
  | str _ => cases r.str_inv; rfl
  | _ => cases f
theorem flat_reps : ∀ {xs : List PV} {vs : List V}, Reps K H L xs vs → xs.all flat = true → vs.all flatV = true
  | [], vs, r, _ => by rw [r.nil_iff]; rfl
  | x :: xs, vs, r, f => by
    obtain ⟨v, us, rfl, r1, r2⟩ := r.uncons
    rw [List.all_cons, Bool.and_eq_true] at f ⊢
    exact ⟨flat_rep r1 f.1, flat_reps r2 f.2⟩
theorem flatEq_rep {x y : PV} {v u : V} (r : Rep K H L x v) (q : Rep K H L y u) (f : flat x = true) (g : flat y = true) : eqV v u = flatEq x y := by
  cases x with
  | non => cases r.non_inv; cases y <;> first | (cases q.non_inv; rfl) | (cases q.bl_inv; rfl) | (cases q.int_inv; rfl) | (cases q.str_inv; rfl) | cases g
  | bl _ => cases r.bl_inv; cases y <;> first | (cases q.non_inv; rfl) | (cases q.bl_inv; rfl) | (cases q.int_inv; rfl) | (cases q.str_inv; rfl) | cases g
  | int _ => cases r.int_inv; cases y <;> first | (cases q.non_inv; rfl) | (cases q.bl_inv; rfl) | (cases q.int_inv; rfl) | (cases q.str_inv; rfl) | cases g
  | str _ => cases r.str_inv; cases y <;> first | (cases q.non_inv; rfl) | (cases q.bl_inv; rfl) | (cases q.int_inv; rfl) | (cases q.str_inv; rfl) | cases g
  | _ => cases f
theorem inSeq_rep {x : PV} {v : V} (r : Rep K H L x v) (f : flat x = true) : ∀ {xs : List PV} {vs : List V}, Reps K H L xs vs → xs.all flat = true → inV v vs = xs.any fun y => flatEq y x
  | [], vs, rs, _ => by rw [rs.nil_iff]; rfl
  | y :: xs, vs, rs, g => by
    obtain ⟨u, us, rfl, r1, r2⟩ := rs.uncons
    rw [List.all_cons, Bool.and_eq_true] at g
    have ih := inSeq_rep r f r2 g.2
    unfold inV at ih ⊢
    rw [List.any_cons, List.any_cons, ih, flatEq_rep r1 r g.1 f]
end
def rCmp (K : PySem.W.Frag) (o : Cop) : R2 := fun x y H Q => ∃ L st a b r, Wd K L H st ∧ Rep K H L a x ∧ Rep K H L b y ∧ cmp o a b st = some r ∧ Q (.bl r) H
section
variable {X : Cx}
theorem op_cmpI {op : CmpOp} {o : Cop} {p : Int → Int → Bool} (h0 : OpR X (compareOp op) (rI0 fun i j => .bl (p i j)))
    (he : ∀ a b st r, cmp o a b st = some r → ∃ i j, a = .int i ∧ b = .int j ∧ r = p i j) : OpR X (compareOp op) (rCmp X.K o) := by
  intro pins s σ H x y v u Q I rx ry h
  obtain ⟨L, st, a, b, r, w, ra, rb, e, q⟩ := h
  obtain ⟨i, j, rfl, rfl, rfl⟩ := he a b st r e
  cases ra.int_inv
  cases rb.int_inv
  exact h0 pins s σ H _ _ v u Q I rx ry ⟨i, j, rfl, rfl, q⟩
theorem op_cmpM (hu : X.A.units + 64 < cLine) {op : CmpOp} {o : Cop} (h : copOf op = some o) : OpR X (compareOp op) (rCmp X.K o) := by
  have two : ∀ {p : Int → Int → Bool} {a b : PV} {r : Bool}, (match a, b with | .int i, .int j => some (p i j) | _, _ => none) = some r → ∃ i j, a = .int i ∧ b = .int j ∧ r = p i j := fun {p a b r} e => by
    cases a with
    | int i =>
      cases b with
      | int j => exact ⟨i, j, rfl, rfl, (Option.some.inj e).symm⟩
      | _ => cases e
    | _ => cases b <;> cases e
  cases op <;> cases h
  · -- ==
    intro pins s σ H x y v u Q I rx ry h
    obtain ⟨L, st, a, b, r, w, ra, rb, e, q⟩ := h
    obtain ⟨d, d', h1, h2, h3, h4, rfl⟩ := eqv_dp w ra rb (show eqv st a b = some r from e)
    exact op_eqD hu pins s σ H x y v u Q I rx ry ⟨d, d', h1, h2, h3, h4, q⟩
  · intro pins s σ H x y v u Q I rx ry h
    obtain ⟨L, st, a, b, r, w, ra, rb, e, q⟩ := h
    obtain ⟨r', e1, rfl⟩ := Option.map_eq_some_iff.mp (show (eqv st a b).map (!·) = some r from e)
    obtain ⟨d, d', h1, h2, h3, h4, rfl⟩ := eqv_dp w ra rb e1
    exact op_neD hu pins s σ H x y v u Q I rx ry ⟨d, d', h1, h2, h3, h4, q⟩
  · exact op_cmpI op_lt fun a b st r e => two (p := fun i j => decide (i < j)) e
  · exact op_cmpI op_le fun a b st r e => two (p := fun i j => decide (i ≤ j)) e
  · exact op_cmpI op_gt fun a b st r e => two (p := fun i j => decide (j < i)) e
  · exact op_cmpI op_ge fun a b st r e => two (p := fun i j => decide (j ≤ i)) e
  · -- is
    intro pins s σ H x y v u Q I rx ry h
    obtain ⟨L, st, a, b, r, w, ra, rb, e, q⟩ := h
    cases b with
    | non =>
      cases rb.non_inv
      refine op_isN pins s σ H x _ v u Q I rx ry ⟨rfl, ?_⟩
      cases a with
      | non => cases ra.non_inv; cases e; exact q
      | bl _ => cases ra.bl_inv; cases e; exact q
      | int _ => cases ra.int_inv; cases e; exact q
      | str _ => cases ra.str_inv; cases e; exact q
      | tup _ => obtain ⟨p, vs, rfl, _⟩ := ra.tup_inv; cases e; exact q
      | loc _ => obtain ⟨p, rfl, _⟩ := ra.loc_inv; cases e; exact q
    | bl k =>
      cases a with
      | bl j =>
        cases ra.bl_inv
        cases rb.bl_inv
        cases e
        refine op_isBl pins s σ H _ _ v u Q I rx ry ⟨j, k, rfl, rfl, ?_⟩
        have e1 : decide (j = k) = (j == k) := by cases j <;> cases k <;> rfl
        rw [e1]
        exact q
      | _ => cases e
    | _ => cases a <;> cases e
  · intro pins s σ H x y v u Q I rx ry h
    obtain ⟨L, st, a, b, r, w, ra, rb, e, q⟩ := h
    cases b with
    | non =>
      cases rb.non_inv
      refine op_notN pins s σ H x _ v u Q I rx ry ⟨rfl, ?_⟩
      cases a with
      | non => cases ra.non_inv; cases e; exact q
      | bl _ => cases ra.bl_inv; cases e; exact q
      | int _ => cases ra.int_inv; cases e; exact q
      | str _ => cases ra.str_inv; cases e; exact q
      | tup _ => obtain ⟨p, vs, rfl, _⟩ := ra.tup_inv; cases e; exact q
      | loc _ => obtain ⟨p, rfl, _⟩ := ra.loc_inv; cases e; exact q
    | bl k =>
      cases a with
      | bl j =>
        cases ra.bl_inv
        cases rb.bl_inv
        cases e
        refine op_notBl pins s σ H _ _ v u Q I rx ry ⟨j, k, rfl, rfl, ?_⟩
        have e1 : (!decide (j = k)) = (j != k) := by cases j <;> cases k <;> rfl
        rw [e1]
        exact q
      | _ => cases e
    | _ => cases a <;> cases e
  · -- in
    intro pins s σ H x y v u Q I rx ry h
    obtain ⟨L, st, a, b, r, w, ra, rb, e, q⟩ := h
    have e0 : (match items st b with | some xs => inSeq a xs | none => none) = some r := e
    split at e0
    · rename_i xs hx
      obtain ⟨p, vs, rfl, sq, rs⟩ := items_rep w rb hx
      obtain ⟨hf, rfl⟩ := ite_some (show (if flat a && xs.all flat then some (xs.any fun y => flatEq y a) else none) = some r from e0)
      rw [Bool.and_eq_true] at hf
      refine op_in_seq pins s σ H x _ v u Q I rx ry ⟨p, vs, rfl, sq, flat_rep ra hf.1, flat_reps rs hf.2, ?_⟩
      rw [inSeq_rep ra hf.1 rs hf.2]
      exact q
    · cases e0
  · intro pins s σ H x y v u Q I rx ry h
    obtain ⟨L, st, a, b, r, w, ra, rb, e, q⟩ := h
    have e0 : (match items st b with | some xs => (inSeq a xs).map (!·) | none => none) = some r := e
    split at e0
    · rename_i xs hx
      obtain ⟨p, vs, rfl, sq, rs⟩ := items_rep w rb hx
      obtain ⟨r', e1, rfl⟩ := Option.map_eq_some_iff.mp e0
      obtain ⟨hf, rfl⟩ := ite_some (show (if flat a && xs.all flat then some (xs.any fun y => flatEq y a) else none) = some r' from e1)
      rw [Bool.and_eq_true] at hf
      refine op_notIn_seq pins s σ H x _ v u Q I rx ry ⟨p, vs, rfl, sq, flat_rep ra hf.1, flat_reps rs hf.2, ?_⟩
      rw [inSeq_rep ra hf.1 rs hf.2]
      exact q
    · cases e0
/-- the truth of a value -/
theorem truth_rep {K : PySem.W.Frag} {H : Hp} {L : List Addr} {st : Sto} (w : Wd K L H st) {x : PV} {v : V} {b : Bool} (r : Rep K H L x v) (e : truth st x = some b) : TruV K v H b := by
  cases x with
  | non => cases r.non_inv; exact (Option.some.inj e).symm
  | bl c => cases r.bl_inv; exact (Option.some.inj e).symm
  | int i => cases r.int_inv; exact (Option.some.inj e).symm
  | str s =>
    cases r.str_inv
    obtain ⟨h, rfl⟩ := ite_some (show (if s.length ≤ LIM then some ((s.length : Int) != 0) else none) = some b from e)
    exact ⟨by rw [sizeLine_eq]; exact h, rfl⟩
  | tup xs =>
    obtain ⟨p, vs, rfl, t, rs⟩ := r.tup_inv
    refine .inr (.inl ⟨vs, t.sq, ?_⟩)
    rw [← Option.some.inj e]
    have := rs.length
    cases xs <;> cases vs <;> first | rfl | (simp at this)
  | loc n =>
    obtain ⟨p, rfl, lp⟩ := r.loc_inv
    obtain ⟨xs, h1, h2⟩ := Option.map_eq_some_iff.mp (show (getL st n).map (!·.isEmpty) = some b from e)
    obtain ⟨vs, sq, rs⟩ := w.seq lp h1
    refine .inl ⟨vs, sq, ?_⟩
    rw [← h2]
    have := rs.length
    cases xs <;> cases vs <;> first | rfl | (simp at this)
end
end Mp
set_option Elab.async false
set_option linter.all false
set_option maxRecDepth 100000
set_option maxHeartbeats 1000000
/-! MpExpr: what the evaluator gives for an expression, the model gives. -/
namespace Mp
open PySem PySem.Spec PyProof.Rows L2

/-- the program: its top, its defs, the turns of a while, the tables of the defs' code objects -/
structure Gc where
  t : Tops
  P : Str → Option Fn
  w : Nat
  T : List Addr
  /-- levels for a call -/
  m : Nat
abbrev Gc.G (g : Gc) : Str → Option PV := g.t.con
abbrev Gc.C (g : Gc) (k : Nat) : Str → List PV → Sto → Res PV := callF g.P g.t.con g.w k
def CX0 : CXT := fun _ _ _ _ _ _ => False
def E0 : XK := fun _ _ _ => False

/-- what a def promises: k calls deep -/
def spM (K : PySem.W.Frag) (g : Gc) (k : Nat) (f : Str) (np : Nat) : Sp := fun vs H Q _ => ∃ L st pvs pv st', Wd K L H st ∧ (∀ a ∈ g.T, TabOk H a) ∧ Reps K H L pvs vs ∧ pvs.length = np ∧ g.C k f pvs st = some (pv, st') ∧ Fin K L H st pv st' Q
def bNames : List Str := ["abs", "len", "int", "max", "min", "sum", "tuple", "list", "sorted", "any", "all", "range", "enumerate", "zip", "isinstance", "bool", "str"]
structure FnsOk (prog : Program) (w : World) (K : PySem.W.Frag) (mg : Str → Option Value) (base : Heap) (g : Gc) (k : Nat) : Prop where
  fn : ∀ (f : Str) (ps : List Str), g.t.fn f = some ps → ∃ (fa : Addr) (fd : FuncData), mg f = some (.ref fa) ∧ PySem.W.keepIn K (.ref fa) = true ∧ Binds K fd ps [] ∧
    (∀ (us ws zs : List Value) (ks : List Str) (ns : List Nat) (s : Shared), K.In s.heap → (ks.mapM fun k => ps.findIdx? (· == k)) = some ns → zs.length = ps.length → ks.length = ws.length → ns.Nodup → (∀ i ∈ ns, us.length ≤ i) →
      ((List.range ws.length).mapM (fun j => (ns.findIdx? (· == us.length + j)).bind fun i => ws[i]?)).map (us ++ ·) = some zs → BindsTo s fd ⟨us, ks.zip ws⟩ (ps.zip zs)) ∧
    FnOk prog w K mg base CX0 (g.m * k) fa fd ps (spM K g k f ps.length)
  cons : ∀ (x : Str) (pv : PV), g.t.con x = some pv → ∃ (v : V) (u : Value), mg x = some u ∧ RelV v u ∧ ∀ (H : Hp) (L : List Addr), Rep K H L pv v
  free : ∀ x ∈ bNames, g.t.free x = true → mg x = none
  blt : ∃ (bm : Addr) (o : Obj), mg "__builtins__" = some (.ref bm) ∧ bm ≠ builtinsNs ∧ base.get? bm = some o ∧ o.cls = .type "module" ∧ o.dict = some builtinsNs ∧ o.data = .plain

/-- where the code runs: N its names, sc its written scope, d: so many generator expressions within one another, k calls, the code object at c -/
structure XOk (g : Gc) (N : List Str) (sc : Scope) (d k : Nat) (c : Addr) (X : Cx) : Prop where
  hN : X.N = N
  nd : N.Nodup
  calm : X.calm = true
  room : Room (g.m * k + 6 * d) X.A
  loc : ∀ x, sc.names.lookup x = some .local → X.env.scope.names.lookup x = some .local
  cell : ∀ x, sc.names.lookup x = some .cell → X.env.scope.names.lookup x = some .cell ∧ X.fn x = true
  free : ∀ x, sc.names.lookup x = some .free → X.env.scope.names.lookup x = some .cell ∨ X.env.scope.names.lookup x = some .free
  glo : ∀ x, sc.names.lookup x = some .globalImplicit → X.env.scope.names.lookup x = some .globalImplicit
  code : X.env.code = .ref c
  kind : X.env.scope.kind = .function
  fns : FnsOk X.prog X.w X.K X.mg X.base g k
  xe : X.xe = fun _ _ => False
theorem lk_cases {α : Type} [DecidableEq α] {o : Option α} {p : α → Bool} (h : (match o with | some a => p a | none => false) = true) : ∃ a, o = some a ∧ p a = true := by
  cases o with
  | none => cases h
  | some a => exact ⟨a, rfl, h⟩
section
variable {g : Gc} {N : List Str} {sc : Scope} {d k : Nat} {c : Addr} {X : Cx}
theorem XOk.vis (h : XOk g N sc d k c X) {x : Str} (v : visB sc x = true) : Vis X.env.scope x := by
  unfold visB at v
  cases e : sc.names.lookup x with
  | none => rw [e] at v; cases v
  | some y =>
    rw [e] at v
    cases y <;> first | cases v | skip
    · exact .inl (h.loc x e)
    · exact .inr (.inl (h.cell x e).1)
    · exact .inr ((h.free x e).elim .inl .inr)
theorem XOk.gl (h : XOk g N sc d k c X) {x : Str} (v : gloB sc x = true) : Gl X x := by
  unfold gloB at v
  cases e : sc.names.lookup x with
  | none => rw [e] at v; cases v
  | some y =>
    rw [e] at v
    cases y <;> first | exact h.glo x e | cases v
theorem XOk.lo (h : XOk g N sc d k c X) {x : Str} (v : locB sc x = true) : Loc X.env.scope x ∧ (X.fn x = true ∨ X.env.scope.names.lookup x = some .local) := by
  unfold locB at v
  cases e : sc.names.lookup x with
  | none => rw [e] at v; cases v
  | some y =>
    rw [e] at v
    cases y <;> first | cases v | skip
    · exact ⟨.inl (h.loc x e), .inr (h.loc x e)⟩
    · exact ⟨.inr (h.cell x e).1, .inl (h.cell x e).2⟩
theorem slot_get {N : List Str} {x : Str} {i : Nat} (h : slot N x = some i) : N[i]? = some x := by
  unfold slot at h
  split at h
  · rename_i j hj
    cases h
    obtain ⟨h1, h2, _⟩ := List.findIdx?_eq_some_iff_getElem.mp hj
    rw [List.getElem?_eq_getElem h1]
    simpa using h2
  · cases h
theorem nameOk_iff {x : Str} (h : nameOk x = true) : (x == ("__debug__" : Str)) = false ∧ (x == ("__classdict__" : Str)) = false ∧ x ≠ ("__name__" : Str) := by
  unfold nameOk at h
  simp only [Bool.and_eq_true, Bool.not_eq_true'] at h
  exact ⟨h.1.1, h.1.2, fun e => by rw [e] at h; exact absurd h.2 (by simp)⟩
end

/-! ### worlds where code runs -/
structure Wo (K : PySem.W.Frag) (base : Heap) (g : Gc) (c P : Addr) (L : List Addr) (H : Hp) (st : Sto) : Prop where
  wd : Wd K L H st
  tabs : ∀ a ∈ g.T, TabOk H a
  tab : TabOk H P
  code : PySem.W.CodeHd base c P ∨ H c = some (CodeT c P)
section
variable {K : PySem.W.Frag} {base : Heap} {g : Gc} {c P : Addr} {L L' : List Addr} {H H' : Hp} {st st' st1 : Sto} {pv : PV} {Q : VK}
theorem Wo.ext (w : Wo K base g c P L H st) (e : Ext L H st L' H' st') (w' : Wd K L' H' st') : Wo K base g c P L' H' st' where
  wd := w'
  tabs := fun a h => e.tab a (w.tabs a h)
  tab := e.tab P w.tab
  code := w.code.elim .inl fun h => .inr (e.keep c _ h (w.wd.notwr h fun _ z => by unfold CodeT at z; cases z) fun _ z => by unfold CodeT at z; cases z)
theorem Fin.after (f : Fin K L H st pv st' Q) (e : Ext L H st L' H' st1) : Fin K L' H' st1 pv st' Q := fun L2 H2 v e2 w r => f L2 H2 v (e.trans e2) w r
end
/-- what follows a list of results -/
def Fins (K : PySem.W.Frag) (L : List Addr) (H : Hp) (st : Sto) (pvs : List PV) (st' : Sto) (Q : List V → Hp → Prop) : Prop :=
  ∀ L' H' vs, Ext L H st L' H' st' → Wd K L' H' st' → Reps K H' L' pvs vs → Q vs H'
/-- what follows a plain result -/
def FinA {α : Type} (K : PySem.W.Frag) (L : List Addr) (H : Hp) (st : Sto) (a : α) (st' : Sto) (Q : α → Hp → Prop) : Prop :=
  ∀ L' H', Ext L H st L' H' st' → Wd K L' H' st' → Q a H'

/-- the readings -/
structure Md where
  K : PySem.W.Frag
  base : Heap
  g : Gc
  k : Nat
  c : Addr
  P : Addr
def tM (m : Md) (y : E) : TE := fun σ H Q => ∃ L env st pv st', EnvOk m.K H L σ env ∧ Wo m.K m.base m.g m.c m.P L H st ∧ evE (m.g.C m.k) m.g.G y env st = some (pv, st') ∧ Fin m.K L H st pv st' Q
def tMs (m : Md) (ys : List E) : TA := fun σ H Q => ∃ L env st pvs st', EnvOk m.K H L σ env ∧ Wo m.K m.base m.g m.c m.P L H st ∧ evEs (m.g.C m.k) m.g.G ys env st = some (pvs, st') ∧ Fins m.K L H st pvs st' Q
def tMT (m : Md) (y : E) : TT := fun σ H Q => ∃ L env st b st', EnvOk m.K H L σ env ∧ Wo m.K m.base m.g m.c m.P L H st ∧ truthR (evE (m.g.C m.k) m.g.G y env st) = some (b, st') ∧ FinA m.K L H st b st' Q
def tMO (m : Md) (y : Option E) : TO := fun σ H Q => ∃ L env st o st', EnvOk m.K H L σ env ∧ Wo m.K m.base m.g m.c m.P L H st ∧ evO (m.g.C m.k) m.g.G y env st = some (o, st') ∧ FinA m.K L H st o st' Q
def mdOf (X : Cx) (g : Gc) (k : Nat) (c P : Addr) : Md := ⟨X.K, X.base, g, k, c, P⟩

theorem bind_inv {α β : Type} {r : Res α} {f : α → Sto → Res β} {b : β} {s : Sto} (h : r.bind f = some (b, s)) : ∃ a s1, r = some (a, s1) ∧ f a s1 = some (b, s) := by
  cases r with
  | none => cases h
  | some p => exact ⟨p.1, p.2, rfl, h⟩
theorem of_inv {α : Type} {o : Option α} {s s' : Sto} {a : α} (h : Res.of o s = some (a, s')) : o = some a ∧ s' = s := by
  cases o with
  | none => cases h
  | some b => cases h; exact ⟨rfl, rfl⟩
theorem PE.weak {X : Cx} {e : Expr} {t t' : TE} (h : PE X e t) (i : ∀ σ H Q, t' σ H Q → t σ H Q) : PE X e t' := ⟨fun pins s σ H Q I q => h.run pins s σ H Q I (i σ H Q q)⟩
theorem PA.weak {X : Cx} {e : List Expr} {t t' : TA} (h : PA X e t) (i : ∀ σ H Q, t' σ H Q → t σ H Q) : PA X e t' := ⟨fun pos pins s σ H Q I q => h.run pos pins s σ H Q I (i σ H Q q)⟩
theorem PT.weak {X : Cx} {e : Expr} {t t' : TT} (h : PT X e t) (i : ∀ σ H Q, t' σ H Q → t σ H Q) : PT X e t' := ⟨fun pins s σ H Q I q => h.run pins s σ H Q I (i σ H Q q)⟩
theorem PW.weak {X : Cx} {e : Expr} {t t' : TT} (h : PW X e t) (i : ∀ σ H Q, t' σ H Q → t σ H Q) : PW X e t' := ⟨fun wh pins s σ H Q I q => h.run wh pins s σ H Q I (i σ H Q q)⟩
theorem PO.weak {X : Cx} {e : Option Expr} {t t' : TO} (h : PO X e t) (i : ∀ σ H Q, t' σ H Q → t σ H Q) : PO X e t' := ⟨fun pins s σ H Q I q => h.run pins s σ H Q I (i σ H Q q)⟩

section
variable {m : Md} {σ : L2.St} {H : Hp} {L : List Addr} {env : Mp.Env} {st st1 : Sto}
/-- a part is evaluated, then the rest -/
theorem tM.mk {y : E} {pa : PV} {Q : VK} (he : EnvOk m.K H L σ env) (w : Wo m.K m.base m.g m.c m.P L H st) (ha : evE (m.g.C m.k) m.g.G y env st = some (pa, st1))
    (h : ∀ L1 H1 x, Ext L H st L1 H1 st1 → Wo m.K m.base m.g m.c m.P L1 H1 st1 → EnvOk m.K H1 L1 σ env → Rep m.K H1 L1 pa x → Q x H1) : tM m y σ H Q :=
  ⟨L, env, st, pa, st1, he, w, ha, fun L1 H1 v e w1 r => h L1 H1 v e (w.ext e w1) (he.ext w.wd e) r⟩
theorem tMs.mk {y : List E} {pa : List PV} {Q : List V → Hp → Prop} (he : EnvOk m.K H L σ env) (w : Wo m.K m.base m.g m.c m.P L H st) (ha : evEs (m.g.C m.k) m.g.G y env st = some (pa, st1))
    (h : ∀ L1 H1 x, Ext L H st L1 H1 st1 → Wo m.K m.base m.g m.c m.P L1 H1 st1 → EnvOk m.K H1 L1 σ env → Reps m.K H1 L1 pa x → Q x H1) : tMs m y σ H Q :=
  ⟨L, env, st, pa, st1, he, w, ha, fun L1 H1 v e w1 r => h L1 H1 v e (w.ext e w1) (he.ext w.wd e) r⟩
theorem tMT.mk {y : E} {b : Bool} {Q : Bool → Hp → Prop} (he : EnvOk m.K H L σ env) (w : Wo m.K m.base m.g m.c m.P L H st) (ha : truthR (evE (m.g.C m.k) m.g.G y env st) = some (b, st1))
    (h : ∀ L1 H1, Ext L H st L1 H1 st1 → Wo m.K m.base m.g m.c m.P L1 H1 st1 → EnvOk m.K H1 L1 σ env → Q b H1) : tMT m y σ H Q :=
  ⟨L, env, st, b, st1, he, w, ha, fun L1 H1 e w1 => h L1 H1 e (w.ext e w1) (he.ext w.wd e)⟩
theorem tMO.mk {y : Option E} {b : Option Int} {Q : Option Int → Hp → Prop} (he : EnvOk m.K H L σ env) (w : Wo m.K m.base m.g m.c m.P L H st) (ha : evO (m.g.C m.k) m.g.G y env st = some (b, st1))
    (h : ∀ L1 H1, Ext L H st L1 H1 st1 → Wo m.K m.base m.g m.c m.P L1 H1 st1 → EnvOk m.K H1 L1 σ env → Q b H1) : tMO m y σ H Q :=
  ⟨L, env, st, b, st1, he, w, ha, fun L1 H1 e w1 => h L1 H1 e (w.ext e w1) (he.ext w.wd e)⟩
theorem truthR_inv {r : Res PV} {b : Bool} {s : Sto} (h : truthR r = some (b, s)) : ∃ v, r = some (v, s) ∧ truth s v = some b := by
  obtain ⟨v, s1, e1, e2⟩ := bind_inv h
  obtain ⟨e3, e4⟩ := of_inv e2
  subst e4
  exact ⟨v, e1, e3⟩
theorem truthR_mk {r : Res PV} {v : PV} {b : Bool} {s : Sto} (h : r = some (v, s)) (t : truth s v = some b) : truthR r = some (b, s) := by
  rw [h]
  show Res.of (truth s v) s = _
  rw [t]
  rfl
end

/-! ### the parts -/
section
variable {X : Cx} {g : Gc} {k : Nat} {c P : Addr} {a b e : Expr} {ea eb ec : E} {pos : Pos}
theorem se_const {v : V} {pv : PV} {y : E} (h : PE X e (tC v)) (hy : ∀ env st, evE (g.C k) g.G y env st = some (pv, st)) (hr : ∀ H L, Rep X.K H L pv v) : PE X e (tM (mdOf X g k c P) y) :=
  PE.weak h fun σ H Q ⟨L, env, st, pv', st', he, w, hv, f⟩ => by
    have hv := (hy env st).symm.trans hv
    cases hv
    exact f.here w.wd (hr H L)
theorem se_var {i : Nat} {x : Str} (h : PE X e (tVar i)) : PE X e (tM (mdOf X g k c P) (.var i)) :=
  PE.weak h fun σ H Q ⟨L, env, st, pv', st', he, w, hv, f⟩ => by
    have hv' : (match env[i]? with | some (some v) => some (v, st) | _ => none) = some (pv', st') := by
      unfold evE at hv
      exact hv
    split at hv'
    · rename_i v q
      cases hv'
      obtain ⟨u, e1, e2⟩ := he.2 i _ q
      exact ⟨u, e1, f.here w.wd e2⟩
    · cases hv'
theorem se_bin {op : Operator} {o : Bop} (ho : bopOf op = some o) (ha : PE X a (tM (mdOf X g k c P) ea)) (hb : PE X b (tM (mdOf X g k c P) eb)) : PE X (.BinOp a op b pos) (tM (mdOf X g k c P) (.bin o ea eb)) :=
  PE.weak (pe_op (op_binM ho) ha hb) fun σ H Q ⟨L, env, st, pv, st', he, w, hv, f⟩ => by
    unfold evE at hv
    obtain ⟨x, s1, e1, h1⟩ := bind_inv hv
    obtain ⟨y, s2, e2, h2⟩ := bind_inv h1
    exact tM.mk he w e1 fun L1 H1 v x1 w1 he1 r1 => tM.mk he1 w1 e2 fun L2 H2 u x2 w2 he2 r2 => ⟨L2, s2, x, y, pv, st', w2.wd, r1.ext w1.wd x2, r2, h2, f.after (x1.trans x2)⟩
theorem se_neg (ha : PE X a (tM (mdOf X g k c P) ea)) : PE X (.UnaryOp .USub a pos) (tM (mdOf X g k c P) (.neg ea)) :=
  PE.weak (pe_un un_neg ha) fun σ H Q ⟨L, env, st, pv, st', he, w, hv, f⟩ => by
    unfold evE at hv
    obtain ⟨x, s1, e1, h1⟩ := bind_inv hv
    refine tM.mk he w e1 fun L1 H1 v x1 w1 he1 r1 => ?_
    cases x with
    | int i =>
      cases h1
      cases r1.int_inv
      exact ⟨i, rfl, (f.after x1).int w1.wd⟩
    | _ => cases h1
theorem se_not (ha : PE X a (tM (mdOf X g k c P) ea)) : PE X (.UnaryOp .Not a pos) (tM (mdOf X g k c P) (.not ea)) :=
  PE.weak (pe_notT ha) fun σ H Q ⟨L, env, st, pv, st', he, w, hv, f⟩ => by
    unfold evE at hv
    obtain ⟨x, s1, e1, h1⟩ := bind_inv hv
    refine tM.mk he w e1 fun L1 H1 v x1 w1 he1 r1 => ?_
    split at h1
    · rename_i q
      cases h1
      exact ⟨_, truth_rep w1.wd r1 q, (f.after x1).bl w1.wd⟩
    · cases h1
theorem se_and {rest : List Expr} (ha : PE X a (tM (mdOf X g k c P) ea)) (hb : PE X (.BoolOp .And (b :: rest) pos) (tM (mdOf X g k c P) eb)) : PE X (.BoolOp .And (a :: b :: rest) pos) (tM (mdOf X g k c P) (.and ea eb)) :=
  PE.weak (pe_andT ha hb) fun σ H Q ⟨L, env, st, pv, st', he, w, hv, f⟩ => by
    unfold evE at hv
    obtain ⟨x, s1, e1, h1⟩ := bind_inv hv
    refine tM.mk he w e1 fun L1 H1 v x1 w1 he1 r1 => ?_
    split at h1
    · rename_i q
      refine ⟨_, truth_rep w1.wd r1 q, ?_⟩
      rw [if_pos rfl]
      exact ⟨L1, env, s1, pv, st', he1, w1, h1, f.after x1⟩
    · rename_i q
      refine ⟨_, truth_rep w1.wd r1 q, ?_⟩
      rw [if_neg Bool.false_ne_true]
      cases h1
      exact (f.after x1).here w1.wd r1
    · cases h1
theorem se_or {rest : List Expr} (ha : PE X a (tM (mdOf X g k c P) ea)) (hb : PE X (.BoolOp .Or (b :: rest) pos) (tM (mdOf X g k c P) eb)) : PE X (.BoolOp .Or (a :: b :: rest) pos) (tM (mdOf X g k c P) (.or ea eb)) :=
  PE.weak (pe_orT ha hb) fun σ H Q ⟨L, env, st, pv, st', he, w, hv, f⟩ => by
    unfold evE at hv
    obtain ⟨x, s1, e1, h1⟩ := bind_inv hv
    refine tM.mk he w e1 fun L1 H1 v x1 w1 he1 r1 => ?_
    split at h1
    · rename_i q
      refine ⟨_, truth_rep w1.wd r1 q, ?_⟩
      rw [if_pos rfl]
      cases h1
      exact (f.after x1).here w1.wd r1
    · rename_i q
      refine ⟨_, truth_rep w1.wd r1 q, ?_⟩
      rw [if_neg Bool.false_ne_true]
      exact ⟨L1, env, s1, pv, st', he1, w1, h1, f.after x1⟩
    · cases h1
theorem se_ifx {t : Expr} (ht : PT X t (tMT (mdOf X g k c P) ec)) (ha : PE X a (tM (mdOf X g k c P) ea)) (hb : PE X b (tM (mdOf X g k c P) eb)) : PE X (.IfExp t a b pos) (tM (mdOf X g k c P) (.ifx ec ea eb)) :=
  PE.weak (pe_ifExp ht ha hb) fun σ H Q ⟨L, env, st, pv, st', he, w, hv, f⟩ => by
    unfold evE at hv
    obtain ⟨x, s1, e1, h1⟩ := bind_inv hv
    refine tMT.mk he w e1 fun L1 H1 x1 w1 he1 => ?_
    cases x with
    | true =>
      rw [if_pos rfl] at h1 ⊢
      exact ⟨L1, env, s1, pv, st', he1, w1, h1, f.after x1⟩
    | false =>
      rw [if_neg Bool.false_ne_true] at h1 ⊢
      exact ⟨L1, env, s1, pv, st', he1, w1, h1, f.after x1⟩
theorem cmp_seq {o : Cop} {σ : L2.St} {H : Hp} {Q : VK} (h : tM (mdOf X g k c P) (.cmp o ea eb) σ H Q) : tOp (rCmp X.K o) (tM (mdOf X g k c P) ea) (tM (mdOf X g k c P) eb) σ H Q := by
  obtain ⟨L, env, st, pv, st', he, w, hv, f⟩ := h
  unfold evE at hv
  obtain ⟨x, s1, e1, h1⟩ := bind_inv hv
  obtain ⟨y, s2, e2, h2⟩ := bind_inv h1
  refine tM.mk he w e1 fun L1 H1 v x1 w1 he1 r1 => tM.mk he1 w1 e2 fun L2 H2 u x2 w2 he2 r2 => ?_
  split at h2
  · rename_i r q
    cases h2
    exact ⟨L2, _, x, y, r, w2.wd, r1.ext w1.wd x2, r2, q, (f.after (x1.trans x2)).bl w2.wd⟩
  · cases h2
theorem se_cmp {op : CmpOp} {o : Cop} (hu : X.A.units + 64 < cLine) (ho : copOf op = some o) (hm : behindInMarks op b = false) (ha : PE X a (tM (mdOf X g k c P) ea)) (hb : PE X b (tM (mdOf X g k c P) eb)) :
    PE X (.Compare a [op] [b] pos) (tM (mdOf X g k c P) (.cmp o ea eb)) := PE.weak (pe_cmpR (op_cmpM hu ho) ha hb hm) fun σ H Q h => cmp_seq h
theorem st_cmp {op : CmpOp} {o : Cop} (hu : X.A.units + 64 < cLine) (ho : copOf op = some o) (hm : behindInMarks op b = false) (ha : PE X a (tM (mdOf X g k c P) ea)) (hb : PE X b (tM (mdOf X g k c P) eb)) :
    PT X (.Compare a [op] [b] pos) (tMT (mdOf X g k c P) (.cmp o ea eb)) := PT.weak (pt_cmpR (op_cmpM hu ho) ha hb hm) fun σ H Q ⟨L, env, st, r, st', he, w, hv, f⟩ => by
  obtain ⟨v, e1, e2⟩ := truthR_inv hv
  refine cmp_seq ⟨L, env, st, v, st', he, w, e1, fun L' H' u x1 w1 r1 => ?_⟩
  unfold evE at e1
  obtain ⟨x, s1, e3, h1⟩ := bind_inv e1
  obtain ⟨y, s2, e4, h2⟩ := bind_inv h1
  split at h2
  · rename_i r' q
    cases h2
    cases r1.bl_inv
    cases e2
    exact ⟨r, rfl, f L' H' x1 w1⟩
  · cases h2
theorem chn_seq {b' : Expr} {o o2 : Cop} {σ : L2.St} {H : Hp} {Q : VK} (h : tM (mdOf X g k c P) (.chn o o2 ea eb ec) σ H Q) : tChain (rCmp X.K o) (rCmp X.K o2) (tM (mdOf X g k c P) ea) (tM (mdOf X g k c P) eb) (tM (mdOf X g k c P) ec) σ H Q := by
  obtain ⟨L, env, st, pv, st', he, w, hv, f⟩ := h
  unfold evE at hv
  obtain ⟨x, s1, e1, h1⟩ := bind_inv hv
  obtain ⟨y, s2, e2, h2⟩ := bind_inv h1
  refine tM.mk he w e1 fun L1 H1 v x1 w1 he1 r1 => tM.mk he1 w1 e2 fun L2 H2 u x2 w2 he2 r2 => ?_
  split at h2
  · rename_i q
    refine ⟨L2, s2, x, y, true, w2.wd, r1.ext w1.wd x2, r2, q, true, rfl, ?_⟩
    rw [if_pos rfl]
    obtain ⟨z, s3, e3, h3⟩ := bind_inv h2
    refine tM.mk he2 w2 e3 fun L3 H3 t x3 w3 he3 r3 => ?_
    split at h3
    · rename_i r q2
      cases h3
      exact ⟨L3, _, y, z, r, w3.wd, r2.ext w2.wd x3, r3, q2, (f.after (x1.trans (x2.trans x3))).bl w3.wd⟩
    · cases h3
  · rename_i q
    refine ⟨L2, s2, x, y, false, w2.wd, r1.ext w1.wd x2, r2, q, false, rfl, ?_⟩
    rw [if_neg Bool.false_ne_true]
    cases h2
    exact (f.after (x1.trans x2)).bl w2.wd
  · cases h2
theorem se_chn {cc : Expr} {op op2 : CmpOp} {o o2 : Cop} (hu : X.A.units + 64 < cLine) (ho : copOf op = some o) (ho2 : copOf op2 = some o2) (hm : lastMarks [op, op2] [b, cc] = false) (ha : PE X a (tM (mdOf X g k c P) ea)) (hb : PE X b (tM (mdOf X g k c P) eb)) (hc : PE X cc (tM (mdOf X g k c P) ec)) :
    PE X (.Compare a [op, op2] [b, cc] pos) (tM (mdOf X g k c P) (.chn o o2 ea eb ec)) := PE.weak (pe_chain (op_cmpM hu ho) (op_cmpM hu ho2) ha hb hc hm) fun σ H Q h => chn_seq (b' := b) h
theorem st_chn {cc : Expr} {op op2 : CmpOp} {o o2 : Cop} (hu : X.A.units + 64 < cLine) (ho : copOf op = some o) (ho2 : copOf op2 = some o2) (hm : lastMarks [op, op2] [b, cc] = false) (ha : PE X a (tM (mdOf X g k c P) ea)) (hb : PE X b (tM (mdOf X g k c P) eb)) (hc : PE X cc (tM (mdOf X g k c P) ec)) :
    PT X (.Compare a [op, op2] [b, cc] pos) (tMT (mdOf X g k c P) (.chn o o2 ea eb ec)) := PT.weak (pt_chain (op_cmpM hu ho) (op_cmpM hu ho2) ha hb hc hm) fun σ H Q ⟨L, env, st, r, st', he, w, hv, f⟩ => by
  obtain ⟨v, e1, e2⟩ := truthR_inv hv
  refine chn_seq (b' := b) ⟨L, env, st, v, st', he, w, e1, fun L' H' u x1 w1 r1 => ?_⟩
  have key : ∃ r', v = .bl r' := by
    unfold evE at e1
    obtain ⟨x, s1, e3, h1⟩ := bind_inv e1
    obtain ⟨y, s2, e4, h2⟩ := bind_inv h1
    split at h2
    · obtain ⟨z, s3, e5, h3⟩ := bind_inv h2
      split at h3
      · cases h3; exact ⟨_, rfl⟩
      · cases h3
    · cases h2; exact ⟨_, rfl⟩
    · cases h2
  obtain ⟨r', rfl⟩ := key
  cases r1.bl_inv
  cases e2
  exact ⟨r, rfl, f L' H' x1 w1⟩
/-- any expression as a test -/
theorem st_val (ha : PE X a (tM (mdOf X g k c P) ea)) (he : ∀ whole, isTrue a X.env whole = (do let v ← whole; standAt a.pos; holding [v] (truthy v))) : PT X a (tMT (mdOf X g k c P) ea) :=
  PT.weak (pt_truth ha he) fun σ H Q ⟨L, env, st, r, st', hen, w, hv, f⟩ => by
    obtain ⟨v, e1, e2⟩ := truthR_inv hv
    exact tM.mk hen w e1 fun L1 H1 u x1 w1 he1 r1 => ⟨r, truth_rep w1.wd r1 e2, f L1 H1 x1 w1.wd⟩
theorem st_not (ha : PT X a (tMT (mdOf X g k c P) ea)) : PT X (.UnaryOp .Not a pos) (tMT (mdOf X g k c P) (.not ea)) :=
  PT.weak (pt_not ha) fun σ H Q ⟨L, env, st, r, st', hen, w, hv, f⟩ => by
    obtain ⟨v, e1, e2⟩ := truthR_inv hv
    unfold evE at e1
    obtain ⟨x, s1, e3, h1⟩ := bind_inv e1
    split at h1
    · rename_i b q
      cases h1
      cases e2
      exact tMT.mk hen w (truthR_mk e3 q) fun L1 H1 x1 w1 he1 => f L1 H1 x1 w1.wd
    · cases h1
theorem st_ifx {t : Expr} (ht : PT X t (tMT (mdOf X g k c P) ec)) (ha : PT X a (tMT (mdOf X g k c P) ea)) (hb : PT X b (tMT (mdOf X g k c P) eb)) : PT X (.IfExp t a b pos) (tMT (mdOf X g k c P) (.ifx ec ea eb)) := by
  refine ⟨fun pins s σ H Q I ⟨L, env, st, r, st', hen, w, hv, f⟩ => ?_⟩
  obtain ⟨v, e1, e2⟩ := truthR_inv hv
  unfold evE at e1
  obtain ⟨x, s1, e3, h1⟩ := bind_inv e1
  show wpAny (model X.prog X.w) X.A (do if ← isTrue t X.env (eval t X.env) then isTrue a X.env (eval a X.env) else isTrue b X.env (eval b X.env)) _ _ s
  refine wpAny_bind (thn (ht.run pins s σ H (fun b' H1 => b' = x ∧ ∃ L1, Ext L H st L1 H1 s1 ∧ Wo X.K X.base g c P L1 H1 s1 ∧ EnvOk X.K H1 L1 σ env) I (tMT.mk hen w e3 fun L1 H1 x1 w1 he1 => ⟨rfl, L1, x1, w1, he1⟩)) fun b' s2 ⟨H2, I2, hb', L1, x1, w1, he1⟩ => ?_)
  subst hb'
  cases b' with
  | true =>
    rw [if_pos rfl] at h1 ⊢
    exact ha.run pins s2 σ H2 Q I2 ⟨L1, env, s1, r, st', he1, w1, truthR_mk h1 e2, fun L' H' x2 w2 => f L' H' (x1.trans x2) w2⟩
  | false =>
    rw [if_neg Bool.false_ne_true] at h1 ⊢
    exact hb.run pins s2 σ H2 Q I2 ⟨L1, env, s1, r, st', he1, w1, truthR_mk h1 e2, fun L' H' x2 w2 => f L' H' (x1.trans x2) w2⟩
theorem sw_one {op : BoolOp} (ha : PT X a (tMT (mdOf X g k c P) ea)) : PW X (.BoolOp op [a] pos) (tMT (mdOf X g k c P) ea) := by
  cases op with
  | And => exact pw_and1 ha
  | Or => exact pw_or1 ha
theorem sw_and {rest : List Expr} (ha : PT X a (tMT (mdOf X g k c P) ea)) (hb : PW X (.BoolOp .And (b :: rest) pos) (tMT (mdOf X g k c P) eb)) : PW X (.BoolOp .And (a :: b :: rest) pos) (tMT (mdOf X g k c P) (.and ea eb)) :=
  PW.weak (pw_and ha hb) fun σ H Q ⟨L, env, st, r, st', hen, w, hv, f⟩ => by
    obtain ⟨v, e1, e2⟩ := truthR_inv hv
    unfold evE at e1
    obtain ⟨x, s1, e3, h1⟩ := bind_inv e1
    split at h1
    · rename_i q
      refine tMT.mk hen w (truthR_mk e3 q) fun L1 H1 x1 w1 he1 => ?_
      rw [if_pos rfl]
      exact ⟨L1, env, s1, r, st', he1, w1, truthR_mk h1 e2, fun L' H' x2 w2 => f L' H' (x1.trans x2) w2⟩
    · rename_i q
      refine tMT.mk hen w (truthR_mk e3 q) fun L1 H1 x1 w1 he1 => ?_
      rw [if_neg Bool.false_ne_true]
      cases h1
      rw [q] at e2
      cases e2
      exact f L1 H1 x1 w1.wd
    · cases h1
theorem sw_or {rest : List Expr} (ha : PT X a (tMT (mdOf X g k c P) ea)) (hb : PW X (.BoolOp .Or (b :: rest) pos) (tMT (mdOf X g k c P) eb)) : PW X (.BoolOp .Or (a :: b :: rest) pos) (tMT (mdOf X g k c P) (.or ea eb)) :=
  PW.weak (pw_or ha hb) fun σ H Q ⟨L, env, st, r, st', hen, w, hv, f⟩ => by
    obtain ⟨v, e1, e2⟩ := truthR_inv hv
    unfold evE at e1
    obtain ⟨x, s1, e3, h1⟩ := bind_inv e1
    split at h1
    · rename_i q
      refine tMT.mk hen w (truthR_mk e3 q) fun L1 H1 x1 w1 he1 => ?_
      rw [if_pos rfl]
      cases h1
      rw [q] at e2
      cases e2
      exact f L1 H1 x1 w1.wd
    · rename_i q
      refine tMT.mk hen w (truthR_mk e3 q) fun L1 H1 x1 w1 he1 => ?_
      rw [if_neg Bool.false_ne_true]
      exact ⟨L1, env, s1, r, st', he1, w1, truthR_mk h1 e2, fun L' H' x2 w2 => f L' H' (x1.trans x2) w2⟩
    · cases h1

/-! ### lists of expressions -/
theorem star_cons {es : List Expr} (h : isStar e = false) (env : PySem.Env) : starEach (e :: es) env = (false, eval e env) :: starEach es env := by
  cases e <;> first | rfl | cases h
theorem sa_nil : PA X [] (tMs (mdOf X g k c P) []) :=
  PA.weak pa_nil fun σ H Q ⟨L, env, st, pvs, st', he, w, hv, f⟩ => by
    unfold evEs at hv
    cases hv
    exact f L H [] Ext.refl w.wd .nil
theorem sa_cons {es : List Expr} {xs : List E} (hs : isStar e = false) (ha : PE X e (tM (mdOf X g k c P) ea)) (hb : PA X es (tMs (mdOf X g k c P) xs)) : PA X (e :: es) (tMs (mdOf X g k c P) (ea :: xs)) :=
  PA.weak (pa_cons ha hb (star_cons hs _)) fun σ H Q ⟨L, env, st, pvs, st', he, w, hv, f⟩ => by
    unfold evEs at hv
    obtain ⟨x, s1, e1, h1⟩ := bind_inv hv
    obtain ⟨ys, s2, e2, h2⟩ := bind_inv h1
    cases h2
    exact tM.mk he w e1 fun L1 H1 v x1 w1 he1 r1 => tMs.mk he1 w1 e2 fun L2 H2 us x2 w2 he2 r2 => f L2 H2 _ (x1.trans x2) w2.wd (.cons (r1.ext w1.wd x2) r2)
theorem se_tup {es : List Expr} {xs : List E} {x1 : Nat} (ha : PA X es (tMs (mdOf X g k c P) xs)) : PE X (.Tuple es x1 pos) (tM (mdOf X g k c P) (.tup xs)) :=
  PE.weak (pe_tup ha) fun σ H Q ⟨L, env, st, pv, st', he, w, hv, f⟩ => by
    unfold evE at hv
    obtain ⟨ys, s1, e1, h1⟩ := bind_inv hv
    refine tMs.mk he w e1 fun L1 H1 vs x1 w1 he1 r1 => ?_
    obtain ⟨z, rfl, rfl⟩ := mkT_eq h1
    exact ⟨by rw [r1.length]; exact z, fun p hp => (f.after x1).tup w1.wd hp r1⟩
theorem se_lst {es : List Expr} {xs : List E} (ha : PA X es (tMs (mdOf X g k c P) xs)) : PE X (.List es pos) (tM (mdOf X g k c P) (.lst xs)) :=
  PE.weak (pe_lst ha) fun σ H Q ⟨L, env, st, pv, st', he, w, hv, f⟩ => by
    unfold evE at hv
    obtain ⟨ys, s1, e1, h1⟩ := bind_inv hv
    refine tMs.mk he w e1 fun L1 H1 vs x1 w1 he1 r1 => ?_
    obtain ⟨z, rfl, rfl⟩ := newL_eq h1
    exact ⟨by rw [r1.length]; exact z, fun p hp => (f.after x1).lst w1.wd hp r1⟩
end
end Mp
set_option Elab.async false
set_option linter.all false
set_option maxRecDepth 100000
set_option maxHeartbeats 1000000
/-! MpCall: subscripts, calls, built-ins, methods. -/
namespace Mp
open PySem PySem.Spec PyProof.Rows L2

section
variable {K : PySem.W.Frag} {H : Hp} {L : List Addr} {st : Sto}
theorem ixN_eq (n : Nat) (i : Int) : Mp.ixN n i = L2.ixN n i := rfl
theorem atI_rep {xs : List PV} {vs : List V} {i : Int} {x : PV} (r : Reps K H L xs vs) (h : Mp.atI xs i = some x) : ∃ v, L2.atI vs i = some v ∧ Rep K H L x v := by
  obtain ⟨j, h1, h2⟩ := Option.bind_eq_some_iff.mp h
  obtain ⟨v, e, rv⟩ := r.get h2
  refine ⟨v, ?_, rv⟩
  unfold L2.atI
  rw [r.length, ← ixN_eq, h1]
  exact e
theorem ints_rep : ∀ {xs : List PV} {vs : List V} {ns : List Int}, Reps K H L xs vs → intsOf xs = some ns → vs = ns.map V.int
  | [], vs, ns, r, h => by
    cases h
    exact r.nil_iff
  | x :: xs, vs, ns, r, h => by
    obtain ⟨v, us, rfl, r1, r2⟩ := r.uncons
    cases x with
    | int i =>
      obtain ⟨ms, h1, h2⟩ := Option.map_eq_some_iff.mp (show (intsOf xs).map (i :: ·) = some ns from h)
      rw [← h2, List.map_cons, r1.int_inv, ints_rep r2 h1]
    | _ => cases h
theorem bools_rep : ∀ {xs : List PV} {vs : List V} {ns : List Bool}, Reps K H L xs vs → boolsOf xs = some ns → vs = ns.map V.bl
  | [], vs, ns, r, h => by
    cases h
    exact r.nil_iff
  | x :: xs, vs, ns, r, h => by
    obtain ⟨v, us, rfl, r1, r2⟩ := r.uncons
    cases x with
    | bl i =>
      obtain ⟨ms, h1, h2⟩ := Option.map_eq_some_iff.mp (show (boolsOf xs).map (i :: ·) = some ns from h)
      rw [← h2, List.map_cons, r1.bl_inv, bools_rep r2 h1]
    | _ => cases h
theorem foldMax : ∀ (r : List Int) (i : Int), r.foldl (fun m j => if j > m then j else m) i ∈ i :: r ∧ ∀ y ∈ i :: r, y ≤ r.foldl (fun m j => if j > m then j else m) i
  | [], i => ⟨List.mem_singleton.mpr rfl, fun y h => by rw [List.mem_singleton.mp h]; exact Int.le_refl _⟩
  | j :: r, i => by
    rw [List.foldl_cons]
    obtain ⟨h1, h2⟩ := foldMax r (if j > i then j else i)
    have hm : (if j > i then j else i) ∈ i :: j :: r := by split <;> simp
    refine ⟨?_, fun y hy => ?_⟩
    · rcases List.mem_cons.mp h1 with z | z
      · rw [z]; exact hm
      · exact List.mem_cons_of_mem _ (List.mem_cons_of_mem _ z)
    · have h3 := h2 _ List.mem_cons_self
      rcases List.mem_cons.mp hy with z | z
      · rw [z]
        refine Int.le_trans ?_ h3
        split <;> omega
      · rcases List.mem_cons.mp z with z | z
        · rw [z]
          refine Int.le_trans ?_ h3
          split <;> omega
        · exact h2 y (List.mem_cons_of_mem _ z)
theorem foldMin : ∀ (r : List Int) (i : Int), r.foldl (fun m j => if j < m then j else m) i ∈ i :: r ∧ ∀ y ∈ i :: r, r.foldl (fun m j => if j < m then j else m) i ≤ y
  | [], i => ⟨List.mem_singleton.mpr rfl, fun y h => by rw [List.mem_singleton.mp h]; exact Int.le_refl _⟩
  | j :: r, i => by
    rw [List.foldl_cons]
    obtain ⟨h1, h2⟩ := foldMin r (if j < i then j else i)
    have hm : (if j < i then j else i) ∈ i :: j :: r := by split <;> simp
    refine ⟨?_, fun y hy => ?_⟩
    · rcases List.mem_cons.mp h1 with z | z
      · rw [z]; exact hm
      · exact List.mem_cons_of_mem _ (List.mem_cons_of_mem _ z)
    · have h3 := h2 _ List.mem_cons_self
      rcases List.mem_cons.mp hy with z | z
      · rw [z]
        refine Int.le_trans h3 ?_
        split <;> omega
      · rcases List.mem_cons.mp z with z | z
        · rw [z]
          refine Int.le_trans h3 ?_
          split <;> omega
        · exact h2 y (List.mem_cons_of_mem _ z)
end

/-! ### subscripts -/
def rIxM (K : PySem.W.Frag) : R2 := fun x y H Q => ∃ L st a b pv, Wd K L H st ∧ Rep K H L a x ∧ Rep K H L b y ∧ ixV st a b = some pv ∧ ∀ v, Rep K H L pv v → Q v H
theorem ix_m {X : Cx} : IxR X (rIxM X.K) := by
  intro value slice pins s σ H x y v u Q I rx ry h hs
  obtain ⟨L, st, a, b, pv, w, ra, rb, e, q⟩ := h
  unfold ixV at e
  split at e
  · rename_i xs k e1
    obtain ⟨p, vs, rfl, sq, rs⟩ := items_rep w ra e1
    cases rb.int_inv
    obtain ⟨z, h1, h2⟩ := atI_rep rs e
    rcases sq with sq | sq
    · exact ix_list value slice pins s σ H _ _ v u Q I rx ry ⟨p, vs, k, z, rfl, rfl, sq, h1, q z h2⟩ hs
    · exact ix_tup value slice pins s σ H _ _ v u Q I rx ry ⟨p, vs, k, z, rfl, rfl, sq, h1, q z h2⟩ hs
  · cases e
theorem plainIx {b : Expr} (h1 : isSlice b = false) : PlainIx b := by
  intro o i
  cases b <;> first | rfl | cases h1
/-- a slice -/
def rSlM (K : PySem.W.Frag) : V → Option Int → Option Int → Hp → VK → Prop := fun x lo hi H Q => ∃ L st a pv st', Wd K L H st ∧ Rep K H L a x ∧ slV a lo hi st = some (pv, st') ∧ Fin K L H st pv st' Q
theorem sIx_eq (n d : Nat) (o : Option Int) : Mp.sIx n d o = HT.sIx n d o := by cases o <;> rfl
theorem cut_rep {K : PySem.W.Frag} {H : Hp} {L : List Addr} {xs : List PV} {vs : List V} (r : Reps K H L xs vs) (lo hi : Option Int) : Reps K H L (cut xs lo hi) (cutV vs lo hi) := by
  unfold cut cutV
  rw [r.length, ← sIx_eq, ← sIx_eq]
  exact (r.drop _).take _
theorem sl_m {X : Cx} : SlR X (rSlM X.K) := by
  intro pins s σ H x v vl vu lo hi sl Q I rx hs pl pu h
  obtain ⟨L, st, a, pv, st', w, ra, e, f⟩ := h
  cases a with
  | tup xs =>
    cases e
    obtain ⟨p, vs, rfl, t, rs⟩ := ra.tup_inv
    have rc := cut_rep rs lo hi
    refine sl_tupA pins s σ H _ v vl vu lo hi sl Q I rx hs pl pu ⟨p, vs, rfl, t.sq, fun z => ?_, fun _ q hq => f.tup w hq rc⟩
    refine f.here w ?_
    unfold Rep
    refine ⟨p, vs, rfl, t, ?_⟩
    have e2 : cutV vs lo hi = vs := by
      unfold cutV
      rw [z.1, z.2, List.drop_zero, Nat.sub_zero, List.take_length]
    rw [e2] at rc
    exact rc
  | loc n =>
    have e1 : (match getL st n with
      | some xs => newL (cut xs lo hi) st
      | none => none) = some (pv, st') := e
    split at e1
    · rename_i xs h1
      obtain ⟨hz, rfl, rfl⟩ := newL_eq e1
      obtain ⟨p, rfl, lp⟩ := ra.loc_inv
      obtain ⟨vs, sq, rs⟩ := w.seq lp h1
      exact sl_list pins s σ H _ v vl vu lo hi sl Q I rx hs pl pu ⟨p, vs, rfl, sq, fun q hq => f.lst w hq (cut_rep rs lo hi)⟩
    · cases e1
  | _ => cases e

section
variable {X : Cx} {g : Gc} {N : List Str} {sc : Scope} {d k : Nat} {c P : Addr} {a b e : Expr} {ea eb ec : E} {pos : Pos} {es : List Expr} {xs : List E}
theorem se_ix (hs : isSlice b = false) (ha : PE X a (tM (mdOf X g k c P) ea)) (hb : PE X b (tM (mdOf X g k c P) eb)) : PE X (.Subscript a b pos) (tM (mdOf X g k c P) (.ix ea eb)) :=
  PE.weak (pe_ix ix_m ha hb (plainIx hs)) fun σ H Q ⟨L, env, st, pv, st', he, w, hv, f⟩ => by
    unfold evE at hv
    obtain ⟨x, s1, e1, h1⟩ := bind_inv hv
    obtain ⟨y, s2, e2, h2⟩ := bind_inv h1
    obtain ⟨h3, rfl⟩ := of_inv h2
    exact tM.mk he w e1 fun L1 H1 v x1 w1 he1 r1 => tM.mk he1 w1 e2 fun L2 H2 u x2 w2 he2 r2 => ⟨L2, _, x, y, pv, w2.wd, r1.ext w1.wd x2, r2, h3, fun v r => (f.after (x1.trans x2)).here w2.wd r⟩
theorem so_none : PO X none (tMO (mdOf X g k c P) none) :=
  PO.weak po_none fun σ H Q ⟨L, env, st, o, st', he, w, hv, f⟩ => by
    unfold evO at hv
    cases hv
    exact f L H Ext.refl w.wd
theorem so_some (ha : PE X a (tM (mdOf X g k c P) ea)) : PO X (some a) (tMO (mdOf X g k c P) (some ea)) :=
  PO.weak (po_some ha) fun σ H Q ⟨L, env, st, o, st', he, w, hv, f⟩ => by
    unfold evO at hv
    obtain ⟨x, s1, e1, h1⟩ := bind_inv hv
    refine tM.mk he w e1 fun L1 H1 v x1 w1 he1 r1 => ?_
    cases x with
    | int i =>
      cases h1
      cases r1.int_inv
      exact ⟨i, rfl, f L1 H1 x1 w1.wd⟩
    | _ => cases h1
theorem se_sl {lo hi : Option Expr} {el eh : Option E} {p2 : Pos} (ha : PE X a (tM (mdOf X g k c P) ea)) (hl : PO X lo (tMO (mdOf X g k c P) el)) (hh : PO X hi (tMO (mdOf X g k c P) eh)) :
    PE X (.Subscript a (.Slice lo hi none p2) pos) (tM (mdOf X g k c P) (.sl ea el eh)) :=
  PE.weak (pe_slice sl_m ha hl hh) fun σ H Q ⟨L, env, st, pv, st', he, w, hv, f⟩ => by
    unfold evE at hv
    obtain ⟨x, s1, e1, h1⟩ := bind_inv hv
    obtain ⟨l, s2, e2, h2⟩ := bind_inv h1
    obtain ⟨u, s3, e3, h3⟩ := bind_inv h2
    exact tM.mk he w e1 fun L1 H1 v x1 w1 he1 r1 => tMO.mk he1 w1 e2 fun L2 H2 x2 w2 he2 => tMO.mk he2 w2 e3 fun L3 H3 x3 w3 he3 =>
      ⟨L3, s3, x, pv, st', w3.wd, (r1.ext w1.wd x2).ext w2.wd x3, h3, f.after (x1.trans (x2.trans x3))⟩

/-! ### calls of defs -/
theorem passes0 : Passes CX0 X E0 := fun _ _ _ _ _ _ _ h => False.elim h
theorem noStar_any : ∀ {es : List Expr}, (∀ e ∈ es, isStar e = false) → ∀ (pos : Pos) (env : PySem.Env), (backTo pos (starEach es env)).any (·.1) = false
  | [], _, _, _ => rfl
  | e :: es, h, pos, env => by
    rw [star_cons (h e List.mem_cons_self)]
    show (false || (backTo pos (starEach es env)).any (·.1)) = false
    rw [noStar_any (fun x hx => h x (List.mem_cons_of_mem _ hx))]
    rfl
theorem kw_all : ∀ {kws : List Keyword}, (∀ q ∈ kws, q.arg.isSome = true) → ∀ (pos : Pos) (env : PySem.Env), (backToKw pos (keywordEach kws env)).all (·.1.isSome) = true ∧ (backToKw pos (keywordEach kws env)).any (·.1.isNone) = false
  | [], _, _, _ => ⟨rfl, rfl⟩
  | ⟨n, v, p⟩ :: r, h, pos, env => by
    obtain ⟨h1, h2⟩ := kw_all (kws := r) (fun x hx => h x (List.mem_cons_of_mem _ hx)) pos env
    have h3 : n.isSome = true := h _ List.mem_cons_self
    refine ⟨?_, ?_⟩
    · show (n.isSome && (backToKw pos (keywordEach r env)).all (·.1.isSome)) = true
      rw [h1, h3]; rfl
    · show (n.isNone || (backToKw pos (keywordEach r env)).any (·.1.isNone)) = false
      rw [h2]
      cases n with
      | none => cases h3
      | some _ => rfl
theorem kw_names : ∀ {kws : List Keyword} {ks : List Str}, kws.map (·.arg) = ks.map some → ∀ (pos : Pos) (env : PySem.Env), (backToKw pos (keywordEach kws env)).filterMap (·.1) = ks
  | [], ks, h, _, _ => by
    cases ks with
    | nil => rfl
    | cons _ _ => cases h
  | ⟨n, v, p⟩ :: r, ks, h, pos, env => by
    cases ks with
    | nil => cases h
    | cons q ks =>
      injection h with h1 h2
      have h1 : n = some q := h1
      subst h1
      show q :: (backToKw pos (keywordEach r env)).filterMap (·.1) = q :: ks
      rw [kw_names h2]
theorem call_seq {f : Str} {np : Nat} {fn : Fn} {σ : L2.St} {H : Hp} {Q : VK} (hf : g.P f = some fn) (hn : fn.np = np) (h : tM (mdOf X g k c P) (.call f xs) σ H Q) : tCall (spM X.K g k f np) [] E0 (tMs (mdOf X g k c P) xs) σ H Q := by
  obtain ⟨L, env, st, pv, st', he, w, hv, fi⟩ := h
  unfold evE at hv
  obtain ⟨ys, s1, e1, h1⟩ := bind_inv hv
  refine tMs.mk he w e1 fun L1 H1 vs x1 w1 he1 r1 => ?_
  have hl : ys.length = np := by
    have h1 : g.C k f ys s1 = some (pv, st') := h1
    unfold Gc.C at h1
    cases k with
    | zero => unfold callF at h1; cases h1
    | succ k =>
      unfold callF at h1
      rw [hf] at h1
      by_cases z : ys.length = fn.np
      · rw [z, hn]
      · simp only [if_neg z] at h1
        cases h1
  exact ⟨L1, s1, ys, pv, st', w1.wd, w1.tabs, by rw [List.append_nil]; exact r1, hl, h1, fi.after x1⟩
theorem se_call {f : Str} {ps : List Str} {p : Pos} (O : XOk g N sc d k c X) (hf : g.t.fn f = some ps) (hP : ∃ fn, g.P f = some fn ∧ fn.np = ps.length) (hn : nameOk f = true) (hg : gloB sc f = true) (hs : ∀ e ∈ es, isStar e = false) (h0 : es = [] → xs = []) (ha : PA X es (tMs (mdOf X g k c P) xs)) :
    PE X (.Call (.Name f p) es [] pos) (tM (mdOf X g k c P) (.call f xs)) := by
  obtain ⟨fa, fd, h1, h2, h3, _, h5⟩ := O.fns.fn f ps hf
  obtain ⟨fn, h6, h7⟩ := hP
  have hr : Room (g.m * k) X.A := O.room.mono (by omega)
  cases es with
  | nil =>
    refine PE.weak (pe_call0 h5 hr (O.gl hg) h1 h2 h3 .nil passes0 (nameOk_iff hn).1) fun σ H Q h => ?_
    obtain ⟨L, env, st, pvs, st', he, w, hv, fi⟩ := call_seq h6 h7 h
    rw [h0 rfl] at hv
    unfold evEs at hv
    cases hv
    exact fi L H [] Ext.refl w.wd .nil
  | cons e es =>
    exact PE.weak (pe_call h5 hr (O.gl hg) h1 h2 h3 .nil passes0 ha (nameOk_iff hn).1 (star_cons (hs e List.mem_cons_self) _) (noStar_any (fun x hx => hs x (List.mem_cons_of_mem _ hx)) _ _)) fun σ H Q h => call_seq h6 h7 h

/-! ### keywords -/
theorem perm_rep {K : PySem.W.Frag} {H : Hp} {L : List Addr} {xs : List PV} {vs : List V} (r : Reps K H L xs vs) (ix : Nat → Option Nat) : ∀ {js : List Nat} {ys : List PV}, js.mapM (fun j => (ix j).bind fun i => xs[i]?) = some ys →
    ∃ us, js.mapM (fun j => (ix j).bind fun i => vs[i]?) = some us ∧ Reps K H L ys us
  | [], ys, h => by
    cases h
    exact ⟨[], rfl, .nil⟩
  | j :: js, ys, h => by
    rw [List.mapM_cons] at h
    cases e : ix j with
    | none => rw [e] at h; cases h
    | some i =>
      rw [e] at h
      cases e2 : xs[i]? with
      | none =>
        have h : (xs[i]?).bind (fun a => (js.mapM (fun j => (ix j).bind fun i => xs[i]?)).bind fun b => some (a :: b)) = some ys := h
        rw [e2] at h; cases h
      | some y =>
        have h : (xs[i]?).bind (fun a => (js.mapM (fun j => (ix j).bind fun i => xs[i]?)).bind fun b => some (a :: b)) = some ys := h
        rw [e2] at h
        obtain ⟨zs, h1, h2⟩ := Option.bind_eq_some_iff.mp (show (js.mapM (fun j => (ix j).bind fun i => xs[i]?)).bind (fun b => some (y :: b)) = some ys from h)
        obtain ⟨us, e3, r3⟩ := perm_rep r ix h1
        obtain ⟨v, e4, r4⟩ := r.get e2
        refine ⟨v :: us, ?_, ?_⟩
        · rw [List.mapM_cons, e]
          show (vs[i]?).bind (fun a => (js.mapM (fun j => (ix j).bind fun i => vs[i]?)).bind fun b => some (a :: b)) = _
          rw [e4, e3]
          rfl
        · cases h2
          exact .cons r4 r3
theorem perm_val {vs : List V} {us : List Value} (r : Vals vs us) (ix : Nat → Option Nat) : ∀ {js : List Nat} {ys : List V}, js.mapM (fun j => (ix j).bind fun i => vs[i]?) = some ys →
    ∃ ws, js.mapM (fun j => (ix j).bind fun i => us[i]?) = some ws ∧ Vals ys ws
  | [], ys, h => by
    cases h
    exact ⟨[], rfl, .nil⟩
  | j :: js, ys, h => by
    rw [List.mapM_cons] at h
    cases e : ix j with
    | none => rw [e] at h; cases h
    | some i =>
      rw [e] at h
      cases e2 : vs[i]? with
      | none =>
        have h : (vs[i]?).bind (fun a => (js.mapM (fun j => (ix j).bind fun i => vs[i]?)).bind fun b => some (a :: b)) = some ys := h
        rw [e2] at h; cases h
      | some y =>
        have h : (vs[i]?).bind (fun a => (js.mapM (fun j => (ix j).bind fun i => vs[i]?)).bind fun b => some (a :: b)) = some ys := h
        rw [e2] at h
        obtain ⟨zs, h1, h2⟩ := Option.bind_eq_some_iff.mp (show (js.mapM (fun j => (ix j).bind fun i => vs[i]?)).bind (fun b => some (y :: b)) = some ys from h)
        obtain ⟨us', e3, r3⟩ := perm_val r ix h1
        obtain ⟨v, e4, r4⟩ := r.get e2
        refine ⟨v :: us', ?_, ?_⟩
        · rw [List.mapM_cons, e]
          show (us[i]?).bind (fun a => (js.mapM (fun j => (ix j).bind fun i => us[i]?)).bind fun b => some (a :: b)) = _
          rw [e4, e3]
          rfl
        · cases h2
          exact .cons r4 r3
theorem sk_nil : PK X [] (tMs (mdOf X g k c P) []) := by
  refine ⟨fun pos pins s σ H Q I ⟨L, env, st, pvs, st', he, w, hv, f⟩ => ?_⟩
  unfold evEs at hv
  cases hv
  exact pk_nil.run pos pins s σ H Q I (f L H [] Ext.refl w.wd .nil)
theorem sk_cons {kws : List Keyword} {nm : Option Str} {kpos : Pos} (ha : PE X e (tM (mdOf X g k c P) ea)) (hb : PK X kws (tMs (mdOf X g k c P) xs)) : PK X (⟨nm, e, kpos⟩ :: kws) (tMs (mdOf X g k c P) (ea :: xs)) := by
  refine ⟨fun pos pins s σ H Q I ⟨L, env, st, pvs, st', he, w, hv, f⟩ => ?_⟩
  unfold evEs at hv
  obtain ⟨x, s1, e1, h1⟩ := bind_inv hv
  obtain ⟨ys, s2, e2, h2⟩ := bind_inv h1
  cases h2
  refine (pk_cons ha hb).run pos pins s σ H Q I ?_
  exact tM.mk he w e1 fun L1 H1 v x1 w1 he1 r1 => tMs.mk he1 w1 e2 fun L2 H2 us x2 w2 he2 r2 => f L2 H2 _ (x1.trans x2) w2.wd (.cons (r1.ext w1.wd x2) r2)
theorem evEs_len {C : Str → List PV → Sto → Res PV} {G : Str → Option PV} : ∀ {ys : List E} {env : Mp.Env} {st : Sto} {pvs : List PV} {st' : Sto}, evEs C G ys env st = some (pvs, st') → pvs.length = ys.length
  | [], env, st, pvs, st', h => by
    unfold evEs at h
    cases h
    rfl
  | y :: ys, env, st, pvs, st', h => by
    unfold evEs at h
    obtain ⟨x, s1, e1, h1⟩ := bind_inv h
    obtain ⟨zs, s2, e2, h2⟩ := bind_inv h1
    cases h2
    rw [List.length_cons, List.length_cons, evEs_len e2]
theorem nsOk_iff {n : Nat} {ns : List Nat} (h : nsOk n ns = true) : ns.Nodup ∧ ∀ i ∈ ns, n ≤ i := by
  unfold nsOk at h
  rw [Bool.and_eq_true] at h
  exact ⟨of_decide_eq_true h.1, fun i hi => of_decide_eq_true (List.all_eq_true.mp h.2 i hi)⟩
/-- f(e, .., k = v, ..) -/
theorem se_callk {f : Str} {ps : List Str} {p : Pos} {kws : List Keyword} {ys : List E} {ks : List Str} {ns : List Nat} (O : XOk g N sc d k c X) (hf : g.t.fn f = some ps) (hP : ∃ fn, g.P f = some fn ∧ fn.np = ps.length) (hn : nameOk f = true) (hg : gloB sc f = true) (hs : ∀ e ∈ es, isStar e = false) (h0 : es = [] → xs = [])
    (ha : PA X es (tMs (mdOf X g k c P) xs)) (hk : PK X kws (tMs (mdOf X g k c P) ys)) (hks : kws.map (·.arg) = ks.map some) (hns : (ks.mapM fun k => ps.findIdx? (· == k)) = some ns) (hyl : ks.length = ys.length) (hok : nsOk xs.length ns = true) :
    PE X (.Call (.Name f p) es kws pos) (tM (mdOf X g k c P) (.callk f xs ns ys)) := by
  obtain ⟨fa, fd, h1, h2, _, h4, h5⟩ := O.fns.fn f ps hf
  obtain ⟨fn, h6, h7⟩ := hP
  have hr : Room (g.m * k) X.A := O.room.mono (by omega)
  have hkw : ∀ q ∈ kws, q.arg.isSome = true := fun q hq => by
    have : q.arg ∈ ks.map some := by rw [← hks]; exact List.mem_map.mpr ⟨q, hq, rfl⟩
    obtain ⟨y, _, e⟩ := List.mem_map.mp this
    rw [← e]; rfl
  refine ⟨fun pins s σ H Q I ⟨L, env, st, pv, st', he, w, hv, fi⟩ => ?_⟩
  unfold evE at hv
  obtain ⟨as, s1, e1, k1⟩ := bind_inv hv
  obtain ⟨bs, s2, e2, k2⟩ := bind_inv k1
  split at k2
  · rename_i cs hcs
    obtain ⟨hall, hany⟩ := kw_all hkw pos X.env
    -- behind the arguments
    have fin : ∀ (us : List Value) (vs : List V) (sA : Shared) (HA : Hp) (L1 : List Addr), Inv X pins σ HA sA → Vals vs us → Ext L H st L1 HA s1 → Wo X.K X.base g c P L1 HA s1 → EnvOk X.K HA L1 σ env → Reps X.K HA L1 as vs →
        wpAny (model X.prog X.w) X.A (evalAll ((backToKw pos (keywordEach kws X.env)).map (·.2))) (fun ws s3 => X.K.In s3.heap ∧ wpAny (model X.prog X.w) X.A (call (.ref fa) us (((backToKw pos (keywordEach kws X.env)).filterMap (·.1)).zip ws)) (EP X pins σ Q) X.xe s3) X.xe sA := by
      intro us vs sA HA L1 IA rv x1 w1 he1 r1
      refine thn (hk.run pos pins sA σ HA (fun zs H2 => ∃ L2, Ext L1 HA s1 L2 H2 s2 ∧ Wo X.K X.base g c P L2 H2 s2 ∧ Reps X.K H2 L2 bs zs) IA (tMs.mk he1 w1 e2 fun L2 H2 zs x2 w2 _ r2 => ⟨L2, x2, w2, r2⟩)) fun ws s3 ⟨zs, H2, I2, rz, L2, x2, w2, r2⟩ => ⟨I2.kIn, ?_⟩
      rw [kw_names hks]
      have r1' := r1.ext w1.wd x2
      -- the parameters in their order
      obtain ⟨ds, hds, ecs⟩ := Option.map_eq_some_iff.mp (show ((List.range bs.length).mapM (fun j => (ns.findIdx? (· == as.length + j)).bind fun i => bs[i]?)).map (as ++ ·) = some cs from hcs)
      obtain ⟨dvs, hdvs, rdv⟩ := perm_rep r2 _ hds
      obtain ⟨dus, hdus, rdu⟩ := perm_val rz _ hdvs
      have hcl : cs.length = ps.length := by
        have k2 : g.C k f cs s2 = some (pv, st') := k2
        unfold Gc.C at k2
        cases k with
        | zero => unfold callF at k2; cases k2
        | succ k =>
          unfold callF at k2
          rw [h6] at k2
          by_cases z : cs.length = fn.np
          · rw [z, h7]
          · simp only [if_neg z] at k2
            cases k2
      have rall : Reps X.K H2 L2 cs (vs ++ dvs) := by rw [← ecs]; exact r1'.append rdv
      have hul : (us ++ dus).length = ps.length := by rw [← (rv.append rdu).length, rall.length, hcl]
      have hB : BindsTo s3 fd ⟨us, ks.zip ws⟩ (ps.zip (us ++ dus)) := by
        have l1 : us.length = as.length := by rw [← rv.length, r1.length]
        have l2 : ws.length = bs.length := by rw [← rz.length, r2.length]
        refine h4 us ws (us ++ dus) ks ns s3 I2.kIn hns hul (by rw [l2, evEs_len e2, hyl]) (nsOk_iff hok).1 (by rw [l1, evEs_len e1]; exact (nsOk_iff hok).2) ?_
        rw [l1, l2, hdus]
        rfl
      refine wpAny_call (codeAny_mono (h5.run X.A X.stack s3 H2 ⟨us, ks.zip ws⟩ (us ++ dus) (vs ++ dvs) Q E0 hr I2.env0 hB (rv.append rdu) ⟨L2, s2, cs, pv, st', w2.wd, w2.tabs, rall, hcl, k2, fi.after (x1.trans x2)⟩) fun r s' hq => ?_)
      cases r with
      | error e => exact False.elim hq
      | ok fl =>
        cases fl with
        | ret u => exact I2.after hq
        | next => exact False.elim hq
        | brk => exact False.elim hq
        | cont => exact False.elim hq
    refine wpAny_Call_Name_kw (ld_glob I (O.gl hg) h1 ?_ (nameOk_iff hn).1)
    cases es with
    | nil =>
      have hx := h0 rfl
      subst hx
      unfold evEs at e1
      cases e1
      refine PySem.W.callWith_KW0 (h₀ := X.base) I.ok.mod.kin h2 hall (fin [] [] s H L I .nil Ext.refl w he .nil) ?_
      show (false || (backToKw pos (keywordEach kws X.env)).any (·.1.isNone)) = false
      rw [hany] <;> rfl
    | cons e es =>
      refine PySem.W.callWith_KW (h₀ := X.base) I.ok.mod.kin h2 hall (thn (ha.run pos pins s σ H (fun vs H1 => ∃ L1, Ext L H st L1 H1 s1 ∧ Wo X.K X.base g c P L1 H1 s1 ∧ EnvOk X.K H1 L1 σ env ∧ Reps X.K H1 L1 as vs) I
        (tMs.mk he w e1 fun L1 H1 vs x1 w1 he1 r1 => ⟨L1, x1, w1, he1, r1⟩)) fun us sA ⟨vs, HA, IA, rv, L1, x1, w1, he1, r1⟩ => ?_) ?_ (star_cons (hs e List.mem_cons_self) _)
      · exact fin us vs sA HA L1 IA rv x1 w1 he1 r1
      · rw [noStar_any hs, hany] <;> rfl
  · cases k2

/-! ### built-ins -/
def rBi (K : PySem.W.Frag) (f : Bi) : List V → Hp → VK → Prop := fun vs H Q => ∃ L st pvs pv st', Wd K L H st ∧ Reps K H L pvs vs ∧ biV f pvs st = some (pv, st') ∧ Fin K L H st pv st' Q
theorem reps1 {K : PySem.W.Frag} {H : Hp} {L : List Addr} {x : PV} {vs : List V} (r : Reps K H L [x] vs) : ∃ v, vs = [v] ∧ Rep K H L x v := by
  obtain ⟨v, us, rfl, r1, r2⟩ := r.uncons
  rw [r2.nil_iff]
  exact ⟨v, rfl, r1⟩
theorem reps2 {K : PySem.W.Frag} {H : Hp} {L : List Addr} {x y : PV} {vs : List V} (r : Reps K H L [x, y] vs) : ∃ v u, vs = [v, u] ∧ Rep K H L x v ∧ Rep K H L y u := by
  obtain ⟨v, us, rfl, r1, r2⟩ := r.uncons
  obtain ⟨u, rfl, r3⟩ := reps1 r2
  exact ⟨v, u, rfl, r1, r3⟩
theorem cr_absM : CallR X (.builtin "abs") (rBi X.K .abs) := by
  intro pins s σ H vs us Q I r ⟨L, st, pvs, pv, st', w, rs, e, f⟩
  match pvs, e with
  | [.int i], e =>
    cases e
    obtain ⟨v, rfl, rv⟩ := reps1 rs
    cases rv.int_inv
    exact call_abs pins s σ H _ us Q I r ⟨i, rfl, f.int w⟩
theorem cr_lenM : CallR X (.builtin "len") (rBi X.K .len) := by
  intro pins s σ H vs us Q I r ⟨L, st, pvs, pv, st', w, rs, e, f⟩
  have seq : ∀ (x : PV), pvs = [x] → (match items st x with | some xs => some (PV.int xs.length, st) | none => none) = some (pv, st') → wpAny (model X.prog X.w) X.A (call (.builtin "len") us) (EP X pins σ Q) X.xe s := by
    intro x hx e2
    subst hx
    split at e2
    · rename_i xs hxs
      cases e2
      obtain ⟨v, rfl, rv⟩ := reps1 rs
      obtain ⟨p, ws, rfl, sq, rw'⟩ := items_rep w rv hxs
      refine call_len_seq pins s σ H _ us Q I r ⟨p, ws, rfl, sq, ?_⟩
      rw [rw'.length]
      exact f.int w
    · cases e2
  rcases pvs with _ | ⟨x, _ | ⟨y, zs⟩⟩
  · cases e
  · cases x with
    | str z =>
      obtain ⟨hz, e1⟩ := ite_some (show (if z.length ≤ LIM then some (PV.int z.length, st) else none) = some (pv, st') from e)
      cases e1
      obtain ⟨v, rfl, rv⟩ := reps1 rs
      cases rv.str_inv
      exact call_len_str pins s σ H _ us Q I r ⟨z, rfl, by rw [sizeLine_eq]; exact hz, f.int w⟩
    | tup xs => exact seq _ rfl e
    | loc n => exact seq _ rfl e
    | _ => cases e
  · cases x <;> cases e
theorem cr_intM : CallR X (.type "int") (rBi X.K .int) := by
  intro pins s σ H vs us Q I r ⟨L, st, pvs, pv, st', w, rs, e, f⟩
  match pvs, e with
  | [.int i], e =>
    cases e
    obtain ⟨v, rfl, rv⟩ := reps1 rs
    cases rv.int_inv
    exact call_int1 pins s σ H _ us Q I r (.inl ⟨i, rfl, f.int w⟩)
  | [.bl i], e =>
    cases e
    obtain ⟨v, rfl, rv⟩ := reps1 rs
    cases rv.bl_inv
    exact call_int1 pins s σ H _ us Q I r (.inr ⟨i, rfl, f.int w⟩)
theorem lstI {n : Nat} {st : Sto} {ns : List Int} (h : (getL st n).bind intsOf = some ns) : ∃ xs, getL st n = some xs ∧ intsOf xs = some ns := Option.bind_eq_some_iff.mp h
theorem cr_maxM (hc : X.calm = true) : CallR X (.builtin "max") (rBi X.K .max) := by
  intro pins s σ H vs us Q I r ⟨L, st, pvs, pv, st', w, rs, e, f⟩
  match pvs, e with
  | [.int i, .int j], e =>
    cases e
    obtain ⟨v, u, rfl, rv, ru⟩ := reps2 rs
    cases rv.int_inv
    cases ru.int_inv
    exact call_max2 hc pins s σ H _ us Q I r ⟨i, j, rfl, f.int w⟩
  | [.loc n], e =>
    have e : (match (getL st n).bind intsOf with
      | some (i :: r) => some (PV.int (r.foldl (fun m j => if j > m then j else m) i), st)
      | _ => none) = some (pv, st') := e
    split at e
    · rename_i i ir hi
      cases e
      obtain ⟨xs, h1, h2⟩ := lstI hi
      obtain ⟨v, rfl, rv⟩ := reps1 rs
      obtain ⟨p, rfl, lp⟩ := rv.loc_inv
      obtain ⟨ws, sq, rw'⟩ := w.seq lp h1
      rw [ints_rep rw' h2] at sq
      refine cr_max hc pins s σ H _ us Q I r ⟨p, _, rfl, sq, Nat.succ_pos _, fun m hm hall => ?_⟩
      obtain ⟨g1, g2⟩ := foldMax ir i
      have : m = ir.foldl (fun m j => if j > m then j else m) i := Int.le_antisymm (g2 m hm) (hall _ g1)
      rw [this]
      exact f.int w
    · cases e
theorem cr_minM (hc : X.calm = true) : CallR X (.builtin "min") (rBi X.K .min) := by
  intro pins s σ H vs us Q I r ⟨L, st, pvs, pv, st', w, rs, e, f⟩
  match pvs, e with
  | [.int i, .int j], e =>
    cases e
    obtain ⟨v, u, rfl, rv, ru⟩ := reps2 rs
    cases rv.int_inv
    cases ru.int_inv
    exact call_min2 hc pins s σ H _ us Q I r ⟨i, j, rfl, f.int w⟩
  | [.loc n], e =>
    have e : (match (getL st n).bind intsOf with
      | some (i :: r) => some (PV.int (r.foldl (fun m j => if j < m then j else m) i), st)
      | _ => none) = some (pv, st') := e
    split at e
    · rename_i i ir hi
      cases e
      obtain ⟨xs, h1, h2⟩ := lstI hi
      obtain ⟨v, rfl, rv⟩ := reps1 rs
      obtain ⟨p, rfl, lp⟩ := rv.loc_inv
      obtain ⟨ws, sq, rw'⟩ := w.seq lp h1
      rw [ints_rep rw' h2] at sq
      refine cr_min hc pins s σ H _ us Q I r ⟨p, _, rfl, sq, Nat.succ_pos _, fun m hm hall => ?_⟩
      obtain ⟨g1, g2⟩ := foldMin ir i
      have : m = ir.foldl (fun m j => if j < m then j else m) i := Int.le_antisymm (hall _ g1) (g2 m hm)
      rw [this]
      exact f.int w
    · cases e
theorem cr_sumM (hc : X.calm = true) : CallR X (.builtin "sum") (rBi X.K .sum) := by
  intro pins s σ H vs us Q I r ⟨L, st, pvs, pv, st', w, rs, e, f⟩
  match pvs, e with
  | [.loc n], e =>
    have e : (match (getL st n).bind intsOf with
      | some is => some (PV.int is.sum, st)
      | none => none) = some (pv, st') := e
    split at e
    · rename_i is hi
      cases e
      obtain ⟨xs, h1, h2⟩ := lstI hi
      obtain ⟨v, rfl, rv⟩ := reps1 rs
      obtain ⟨p, rfl, lp⟩ := rv.loc_inv
      obtain ⟨ws, sq, rw'⟩ := w.seq lp h1
      rw [ints_rep rw' h2] at sq
      exact cr_sum hc pins s σ H _ us Q I r ⟨p, _, rfl, sq, f.int w⟩
    · cases e
theorem cr_anyM (hc : X.calm = true) : CallR X (.builtin "any") (rBi X.K .any) := by
  intro pins s σ H vs us Q I r ⟨L, st, pvs, pv, st', w, rs, e, f⟩
  match pvs, e with
  | [.loc n], e =>
    have e : (match (getL st n).bind boolsOf with
      | some is => some (PV.bl (is.any id), st)
      | none => none) = some (pv, st') := e
    split at e
    · rename_i is hi
      cases e
      obtain ⟨xs, h1, h2⟩ := Option.bind_eq_some_iff.mp hi
      obtain ⟨v, rfl, rv⟩ := reps1 rs
      obtain ⟨p, rfl, lp⟩ := rv.loc_inv
      obtain ⟨ws, sq, rw'⟩ := w.seq lp h1
      rw [bools_rep rw' h2] at sq
      exact cr_any hc pins s σ H _ us Q I r ⟨p, _, rfl, sq, f.bl w⟩
    · cases e
theorem cr_allM (hc : X.calm = true) : CallR X (.builtin "all") (rBi X.K .all) := by
  intro pins s σ H vs us Q I r ⟨L, st, pvs, pv, st', w, rs, e, f⟩
  match pvs, e with
  | [.loc n], e =>
    have e : (match (getL st n).bind boolsOf with
      | some is => some (PV.bl (is.all id), st)
      | none => none) = some (pv, st') := e
    split at e
    · rename_i is hi
      cases e
      obtain ⟨xs, h1, h2⟩ := Option.bind_eq_some_iff.mp hi
      obtain ⟨v, rfl, rv⟩ := reps1 rs
      obtain ⟨p, rfl, lp⟩ := rv.loc_inv
      obtain ⟨ws, sq, rw'⟩ := w.seq lp h1
      rw [bools_rep rw' h2] at sq
      exact cr_all hc pins s σ H _ us Q I r ⟨p, _, rfl, sq, f.bl w⟩
    · cases e
theorem cr_tupleM : CallR X (.type "tuple") (rBi X.K .tuple) := by
  intro pins s σ H vs us Q I r ⟨L, st, pvs, pv, st', w, rs, e, f⟩
  match pvs, e with
  | [x], e =>
    have e : (match items st x with | some xs => some (PV.tup xs, st) | none => none) = some (pv, st') := e
    split at e
    · rename_i xs hxs
      cases e
      obtain ⟨v, rfl, rv⟩ := reps1 rs
      cases x with
      | tup ys =>
        cases hxs
        obtain ⟨p, ws, rfl, t, rw'⟩ := rv.tup_inv
        exact call_tuple_of pins s σ H _ us Q I r ⟨p, ws, rfl, .inr ⟨t.sq, f.here w rv⟩⟩
      | loc n =>
        obtain ⟨p, rfl, lp⟩ := rv.loc_inv
        obtain ⟨ws, sq, rw'⟩ := w.seq lp (show getL st n = some xs from hxs)
        exact call_tuple_of pins s σ H _ us Q I r ⟨p, ws, rfl, .inl ⟨sq, fun l hl => f.tup w hl rw'⟩⟩
      | _ => cases hxs
    · cases e
theorem cr_listM : CallR X (.type "list") (rBi X.K .list) := by
  intro pins s σ H vs us Q I r ⟨L, st, pvs, pv, st', w, rs, e, f⟩
  match pvs, e with
  | [x], e =>
    have e : (match items st x with | some xs => newL xs st | none => none) = some (pv, st') := e
    split at e
    · rename_i xs hxs
      obtain ⟨hz, rfl, rfl⟩ := newL_eq e
      obtain ⟨v, rfl, rv⟩ := reps1 rs
      obtain ⟨p, ws, rfl, sq, rw'⟩ := items_rep w rv hxs
      exact call_list_of pins s σ H _ us Q I r ⟨p, ws, rfl, sq, fun l hl => f.lst w hl rw'⟩
    · cases e
theorem bi_nil {f : Bi} (st : Sto) : biV f [] st = none := by cases f <;> rfl
theorem bi_seq {f : Bi} {σ : L2.St} {H : Hp} {Q : VK} (h : tM (mdOf X g k c P) (.bi f xs) σ H Q) : tCB (rBi X.K f) (tMs (mdOf X g k c P) xs) σ H Q := by
  obtain ⟨L, env, st, pv, st', he, w, hv, fi⟩ := h
  unfold evE at hv
  obtain ⟨ys, s1, e1, h1⟩ := bind_inv hv
  exact tMs.mk he w e1 fun L1 H1 vs x1 w1 he1 r1 => ⟨L1, s1, ys, pv, st', w1.wd, r1, h1, fi.after x1⟩
theorem tM_never {y : E} {e : Expr} (h : ∀ env st, evE (g.C k) g.G y env st = none) : PE X e (tM (mdOf X g k c P) y) :=
  ⟨fun pins s σ H Q I ⟨L, env, st, pv, st', he, w, hv, fi⟩ => by
    have hv := (h env st).symm.trans hv
    cases hv⟩
/-- what stands under the name -/
inductive BiAt : Bi → Value → Prop
  | abs : BiAt .abs (.builtin "abs") | len : BiAt .len (.builtin "len") | int : BiAt .int (.type "int") | max : BiAt .max (.builtin "max") | min : BiAt .min (.builtin "min") | sum : BiAt .sum (.builtin "sum")
  | tuple : BiAt .tuple (.type "tuple") | list : BiAt .list (.type "list") | sorted : BiAt .sorted (.builtin "sorted") | any : BiAt .any (.builtin "any") | all : BiAt .all (.builtin "all")
theorem se_bi {f : Bi} {v : Value} {x : Str} {p : Pos} (O : XOk g N sc d k c X) (hb : BiAt f v) (hv : bootBuiltins x = some v) (hx : x ∈ bNames) (hfr : g.t.free x = true) (hso : CallR X (.builtin "sorted") (rBi X.K .sorted)) (hn : nameOk x = true) (hg : gloB sc x = true) (hs : ∀ e ∈ es, isStar e = false) (h0 : es = [] → xs = [])
    (ha : PA X es (tMs (mdOf X g k c P) xs)) : PE X (.Call (.Name x p) es [] pos) (tM (mdOf X g k c P) (.bi f xs)) := by
  cases es with
  | nil =>
    have := h0 rfl
    subst this
    refine tM_never fun env st => ?_
    unfold evE evEs
    exact bi_nil st
  | cons e es =>
    have key : CallR X v (rBi X.K f) := by
      cases hb
      · exact cr_absM
      · exact cr_lenM
      · exact cr_intM
      · exact cr_maxM O.calm
      · exact cr_minM O.calm
      · exact cr_sumM O.calm
      · exact cr_tupleM
      · exact cr_listM
      · exact hso
      · exact cr_anyM O.calm
      · exact cr_allM O.calm
    have hm := O.fns.free x hx hfr
    obtain ⟨n1, _, n3⟩ := nameOk_iff hn
    have hst := star_cons (hs e List.mem_cons_self) (es := es) X.env
    have hpl := noStar_any (fun x hx => hs x (List.mem_cons_of_mem _ hx)) pos X.env
    cases hb <;> first
      | exact PE.weak (pe_callB key (O.gl hg) hm hv ha n3 n1 hst hpl) fun σ H Q h => bi_seq h
      | exact PE.weak (pe_callTy key (O.gl hg) hm hv ha n3 n1 hst hpl) fun σ H Q h => bi_seq h
end
end Mp
set_option Elab.async false
set_option linter.all false
set_option maxRecDepth 100000
set_option maxHeartbeats 1000000
/-! MpMore: isinstance, the methods of lists, ranges as values, xs[::-1]. -/
namespace Mp
open PySem PySem.Spec PyProof.Rows L2

def tyStr : Ty → String
  | .int => "int" | .bool => "bool" | .str => "str" | .tuple => "tuple" | .list => "list"
def pvStr (st : Sto) : PV → Option String
  | .non => some "NoneType" | .bl _ => some "bool" | .int _ => some "int" | .str _ => some "str" | .tup _ => some "tuple"
  | .loc n => match st[n]? with | some _ => some "list" | none => none
section
variable {K : PySem.W.Frag} {H : Hp} {L : List Addr} {st : Sto}
theorem tyx_rep {x : PV} {v : V} {T : String} (w : Wd K L H st) (r : Rep K H L x v) (h : pvStr st x = some T) : TyX K H v (.type T) := by
  cases x with
  | non => cases h; cases r.non_inv; exact .base .non
  | bl b => cases h; cases r.bl_inv; exact .base (.bl _)
  | int i => cases h; cases r.int_inv; exact .base (.int _)
  | str z => cases h; cases r.str_inv; exact .base (.str _)
  | tup xs =>
    cases h
    obtain ⟨a, vs, rfl, t, _⟩ := r.tup_inv
    rcases t with t | ⟨o, its, n, e, hc, _⟩
    · exact .base (.tup t)
    · exact .kTuple e hc
  | loc n =>
    obtain ⟨a, rfl, q⟩ := r.loc_inv
    have h : (match st[n]? with | some _ => some "list" | none => none) = some T := h
    cases e : st[n]? with
    | none => rw [e] at h; cases h
    | some o =>
      rw [e] at h
      cases h
      cases o with
      | lst ys =>
        obtain ⟨vs, h1, _⟩ := w.lst n a ys q e
        exact .base (.lst h1)
      | fl ys =>
        obtain ⟨vs, h1, _⟩ := w.fl n a ys q e
        rcases h1 with ⟨o, its, m, h2, h3, _⟩ | ⟨h2 | ⟨o, h2⟩, _⟩
        · exact .kList h2 h3
        · exact .base (.lst h2)
        · exact .base (.frz h2)
theorem isaV_pv {x : PV} {t : Ty} {b : Bool} (h : isaV st x t = some b) : ∃ T, pvStr st x = some T ∧ kitB T (tyStr t) = some b := by
  have k0 : ∀ T ∈ ["NoneType", "bool", "int", "str", "tuple", "list"], ∀ t : Ty, kitB T (tyStr t) = some (decide (T = tyStr t) || (decide (T = "bool") && decide (t = .int))) := by
    intro T hT t
    simp only [List.mem_cons, List.not_mem_nil, or_false] at hT
    rcases hT with rfl | rfl | rfl | rfl | rfl | rfl <;> cases t <;> decide +kernel
  have mk : ∀ T ∈ ["NoneType", "bool", "int", "str", "tuple", "list"], pvStr st x = some T → (decide (T = tyStr t) || (decide (T = "bool") && decide (t = .int))) = b → ∃ T, pvStr st x = some T ∧ kitB T (tyStr t) = some b := fun T hT h1 h2 => ⟨T, h1, by rw [k0 T hT t, h2]⟩
  cases x with
  | non => exact mk "NoneType" (by simp) rfl (by cases h; cases t <;> decide)
  | bl c => exact mk "bool" (by simp) rfl (by cases h; cases t <;> decide)
  | int i => exact mk "int" (by simp) rfl (by cases h; cases t <;> decide)
  | str z => exact mk "str" (by simp) rfl (by cases h; cases t <;> decide)
  | tup xs => exact mk "tuple" (by simp) rfl (by cases h; cases t <;> decide)
  | loc n =>
    have h' : (match st[n]? with | some (MO.lst _) => some (decide (t = .list)) | some (MO.fl _) => some (decide (t = .list)) | none => none) = some b := h
    cases e : st[n]? with
    | none => rw [e] at h'; cases h'
    | some o =>
      refine mk "list" (by simp) (by unfold pvStr; simp only [e]) ?_
      rw [e] at h'
      cases o <;> (cases h'; cases t <;> decide)
theorem Wd.any (w : Wd K L H st) {n : Nat} {a : Addr} (h : L[n]? = some a) : ∃ vs, SqL K H a vs := by
  have hn : n < st.length := by
    rw [← w.len]
    exact (List.getElem?_eq_some_iff.mp h).1
  have e : st[n]? = some st[n] := List.getElem?_eq_getElem hn
  cases q : st[n] with
  | lst ys => rw [q] at e; exact (w.seq h (show getL st n = some ys by unfold getL; rw [e])).imp fun _ r => r.1
  | fl ys => rw [q] at e; exact (w.seq h (show getL st n = some ys by unfold getL; rw [e])).imp fun _ r => r.1
end

section
variable {X : Cx} {g : Gc} {N : List Str} {sc : Scope} {d k : Nat} {c P : Addr} {a b e : Expr} {ea eb ec : E} {pos : Pos} {es : List Expr} {xs : List E}
theorem se_isa {ty : Str} {t : Ty} {p p2 : Pos} (O : XOk g N sc d k c X) (hi : g.t.free "isinstance" = true) (hgi : gloB sc ("isinstance" : Str) = true) (hb : bootBuiltins ty = some (.type (tyStr t))) (hty : ty ∈ bNames) (hft : g.t.free ty = true) (hn : nameOk ty = true) (hg : gloB sc ty = true)
    (hs : isStar a = false) (ha : PE X a (tM (mdOf X g k c P) ea)) : PE X (.Call (.Name "isinstance" p) [a, .Name ty p2] [] pos) (tM (mdOf X g k c P) (.isa ea t)) := by
  have hT : PE X (.Name ty p2) (tC (.ty (tyStr t))) := pe_bltn (O.gl hg) (O.fns.free ty hty hft) hb rfl (nameOk_iff hn).2.2 (nameOk_iff hn).1
  have hA : PA X [a, .Name ty p2] (tCons (tM (mdOf X g k c P) ea) (tCons (tC (.ty (tyStr t))) tNil)) := pa_cons ha (pa_cons hT pa_nil rfl) (star_cons hs _)
  refine PE.weak (pe_callB call_isi (O.gl hgi) (O.fns.free _ (by simp [bNames]) hi) boot_isinstance hA (by decide) (by decide) (star_cons hs _) rfl) fun σ H Q ⟨L, env, st, pv, st', he, w, hv, f⟩ => ?_
  unfold evE at hv
  obtain ⟨x, s1, e1, h1⟩ := bind_inv hv
  refine tM.mk he w e1 fun L1 H1 v x1 w1 he1 r1 => ?_
  split at h1
  · rename_i r hr
    cases h1
    obtain ⟨T, h2, h3⟩ := isaV_pv hr
    exact ⟨v, .ty (tyStr t), .type T, .type (tyStr t), r, rfl, .ty _, tyx_rep w1.wd r1 h2, kit_ty h3, (f.after x1).bl w1.wd⟩
  · cases h1

/-! ### methods -/
def mtStr : Mt → String
  | .append => "list.append" | .extend => "list.extend" | .pop => "list.pop" | .index => "list.index"
def rMt (K : PySem.W.Frag) (m : Mt) : V → List V → Hp → VK → Prop := fun x vs H Q => ∃ L st o pvs pv st', Wd K L H st ∧ Rep K H L o x ∧ Reps K H L pvs vs ∧ mtV m o pvs st = some (pv, st') ∧ Fin K L H st pv st' Q
theorem findIdx_some {α : Type} {p : α → Bool} {xs : List α} {j : Nat} (h : xs.findIdx? p = some j) : (∃ x, xs[j]? = some x ∧ p x = true) ∧ ∀ m < j, ∀ x, xs[m]? = some x → p x = false := by
  obtain ⟨h1, h2, h3⟩ := List.findIdx?_eq_some_iff_getElem.mp h
  refine ⟨⟨xs[j], List.getElem?_eq_getElem h1, h2⟩, fun m hm x hx => ?_⟩
  have hml : m < xs.length := Nat.lt_trans hm h1
  rw [List.getElem?_eq_getElem hml] at hx
  cases hx
  simpa using h3 m hm
theorem mtr_m {m : Mt} : MtR X (mtStr m) (rMt X.K m) := by
  intro pins s σ H x vs v us Q I rx rvs ⟨L, st, o, pvs, pv, st', w, ro, rs, e, f⟩
  cases m with
  | append =>
    match o, pvs, e with
    | .loc n, [z], e =>
      have e : (match getM st n with
        | some xs => if xs.length < LIM then some (PV.non, setL st n (xs ++ [z])) else none
        | none => none) = some (pv, st') := e
      split at e
      · rename_i ys h1
        obtain ⟨hz, e1⟩ := ite_some e
        cases e1
        obtain ⟨p, rfl, lp⟩ := ro.loc_inv
        obtain ⟨ws, hp, rw'⟩ := w.mut lp h1
        obtain ⟨u, rfl, ru⟩ := reps1 rs
        exact mt_append pins s σ H _ _ v us Q I rx rvs ⟨p, ws, u, rfl, rfl, hp, by rw [rw'.length, sizeLine_eq]; exact hz, f L _ .non (Ext.write w lp (getM_st h1)) (w.write lp (getM_st h1) (rw'.append (.cons ru .nil))) (by unfold Rep; rfl)⟩
      · cases e
  | extend =>
    match o, pvs, e with
    | .loc n, [.loc m], e =>
      have e : (match getM st n, getM st m with
        | some xs, some ys => if n ≠ m ∧ xs.length + ys.length ≤ LIM then some (PV.non, setL st n (xs ++ ys)) else none
        | _, _ => none) = some (pv, st') := e
      split at e
      · rename_i xs ys h1 h2
        obtain ⟨hz, e1⟩ := ite_some e
        cases e1
        obtain ⟨p, rfl, lp⟩ := ro.loc_inv
        obtain ⟨ws, hp, rw'⟩ := w.mut lp h1
        obtain ⟨u, rfl, ru⟩ := reps1 rs
        obtain ⟨q, rfl, lq⟩ := ru.loc_inv
        obtain ⟨ws2, hq, rw2⟩ := w.mut lq h2
        exact mt_extend pins s σ H _ _ v us Q I rx rvs ⟨p, q, ws, ws2, rfl, rfl, hp, hq, by rw [rw'.length, rw2.length, sizeLine_eq]; exact hz.2, f L _ .non (Ext.write w lp (getM_st h1)) (w.write lp (getM_st h1) (rw'.append rw2)) (by unfold Rep; rfl)⟩
      · cases e
  | pop =>
    match o, pvs, e with
    | .loc n, [], e =>
      have e : (match getM st n with
        | some xs => match xs[xs.length - 1]? with
          | some v => some (v, setL st n xs.dropLast)
          | none => none
        | none => none) = some (pv, st') := e
      split at e
      · rename_i xs h1
        split at e
        · rename_i z h2
          cases e
          obtain ⟨p, rfl, lp⟩ := ro.loc_inv
          obtain ⟨ws, hp, rw'⟩ := w.mut lp h1
          obtain ⟨u, hu, ru⟩ := rw'.get h2
          have x1 : Ext L H st L (upd H p (.lst ws.dropLast)) (setL st n xs.dropLast) := Ext.write w lp (getM_st h1)
          cases rs.nil_iff
          exact mt_pop pins s σ H _ _ v us Q I rx rvs ⟨p, ws, u, rfl, rfl, hp, by rw [rw'.length]; exact hu, f L _ u x1 (w.write lp (getM_st h1) rw'.dropLast) (ru.ext w x1)⟩
        · cases e
      · cases e
    | .loc n, [.int i], e =>
      have e : (match getM st n with
        | some xs => match Mp.ixN xs.length i with
          | some k => match xs[k]? with
            | some v => some (v, setL st n (xs.eraseIdx k))
            | none => none
          | none => none
        | none => none) = some (pv, st') := e
      split at e
      · rename_i xs h1
        split at e
        · rename_i j h2
          split at e
          · rename_i z h3
            cases e
            obtain ⟨p, rfl, lp⟩ := ro.loc_inv
            obtain ⟨ws, hp, rw'⟩ := w.mut lp h1
            obtain ⟨u, hu, ru⟩ := rw'.get h3
            have x1 : Ext L H st L (upd H p (.lst (ws.eraseIdx j))) (setL st n (xs.eraseIdx j)) := Ext.write w lp (getM_st h1)
            obtain ⟨y, rfl, ry⟩ := reps1 rs
            cases ry.int_inv
            rw [ixN_eq, ← rw'.length] at h2
            obtain ⟨g1, g2, g3, g4⟩ := ixN_seq h2
            have hz : ws.length ≤ sizeLine := (I.hok p _ hp).1
            rw [sizeLine_eq] at hz
            exact mt_popAt pins s σ H _ _ v us Q I rx rvs ⟨p, ws, i, j, u, rfl, rfl, hp, by omega, by omega, g1, hu, f L _ u x1 (w.write lp (getM_st h1) (rw'.eraseIdx j)) (ru.ext w x1)⟩
          · cases e
        · cases e
      · cases e
  | index =>
    match o, pvs, e with
    | .loc n, [z], e =>
      have e : (match getL st n with
        | some xs => if flat z && xs.all flat then match xs.findIdx? (fun y => flatEq y z) with
          | some k => some (PV.int k, st)
          | none => none else none
        | none => none) = some (pv, st') := e
      split at e
      · rename_i xs h1
        split at e
        · rename_i hf
          rw [Bool.and_eq_true] at hf
          split at e
          · rename_i j h2
            cases e
            obtain ⟨p, rfl, lp⟩ := ro.loc_inv
            obtain ⟨ws, sq, rw'⟩ := w.seq lp (show getL st n = some xs from h1)
            obtain ⟨u, rfl, ru⟩ := reps1 rs
            obtain ⟨⟨q, g1, g2⟩, g3⟩ := findIdx_some h2
            obtain ⟨uq, g4, g5⟩ := rw'.get g1
            have fx : ∀ {m : Nat} {y : PV}, xs[m]? = some y → flat y = true := fun {m y} h => List.all_eq_true.mp hf.2 y (List.mem_of_getElem? h)
            refine mt_index pins s σ H _ _ v us Q I rx rvs ⟨p, ws, u, j, uq, rfl, rfl, sq, flat_rep ru hf.1, flat_reps rw' hf.2, g4, ?_, fun m z' hm hz' => ?_, f.int w⟩
            · rw [flatEq_rep g5 ru (fx g1) hf.1]
              exact g2
            · have hml : m < xs.length := by
                rw [← rw'.length]
                exact (List.getElem?_eq_some_iff.mp hz').1
              obtain ⟨v2, g6, g7⟩ := rw'.get (List.getElem?_eq_getElem hml)
              rw [hz'] at g6
              cases g6
              rw [flatEq_rep g7 ru (fx (List.getElem?_eq_getElem hml)) hf.1]
              exact g3 m hm _ (List.getElem?_eq_getElem hml)
          · cases e
        · cases e
      · cases e
theorem mt_seq {m : Mt} {σ : L2.St} {H : Hp} {Q : VK} (h : tM (mdOf X g k c P) (.mt m ea xs) σ H Q) : tBM X.K "list" (rMt X.K m) (tM (mdOf X g k c P) ea) (tMs (mdOf X g k c P) xs) σ H Q := by
  obtain ⟨L, env, st, pv, st', he, w, hv, f⟩ := h
  unfold evE at hv
  obtain ⟨x, s1, e1, h1⟩ := bind_inv hv
  obtain ⟨ys, s2, e2, h2⟩ := bind_inv h1
  refine tM.mk he w e1 fun L1 H1 v x1 w1 he1 r1 => ⟨?_, tMs.mk he1 w1 e2 fun L2 H2 vs x2 w2 he2 r2 => ⟨L2, s2, x, ys, pv, st', w2.wd, r1.ext w1.wd x2, r2, h2, f.after (x1.trans x2)⟩⟩
  have hl : ∃ n, x = .loc n := by
    unfold mtV at h2
    split at h2 <;> first | exact ⟨_, rfl⟩ | cases h2
  obtain ⟨n, rfl⟩ := hl
  obtain ⟨p, rfl, lp⟩ := r1.loc_inv
  exact .inl ⟨rfl, w1.wd.any lp⟩
theorem mtStr_name {x : Str} {m : Mt} (h : mtOf x = some m) : Slot "list" x (mtStr m) ∧ typeOf (.builtin (mtStr m)) = pure (.type "method_descriptor") := by
  unfold mtOf at h
  split at h
  · rename_i e; cases h; rw [e]; exact ⟨PySem.F.slot_list_append, PySem.F.type_list_append⟩
  · split at h
    · rename_i e; cases h; rw [e]; exact ⟨PySem.F.slot_list_extend, PySem.F.type_list_extend⟩
    · split at h
      · rename_i e; cases h; rw [e]; exact ⟨PySem.F.slot_list_pop, PySem.F.type_list_pop⟩
      · split at h
        · rename_i e; cases h; rw [e]; exact ⟨PySem.F.slot_list_index, PySem.F.type_list_index⟩
        · cases h
theorem attrBase {o : Expr} {name : Str} (h : isCall o = false) (env : PySem.Env) : attributeBase o name env (eval o env) = eval o env := by
  cases o <;> first | rfl | cases h
theorem few_args : ∀ {es : List Expr}, (∀ e ∈ es, isStar e = false) → ∀ (pos : Pos) (env : PySem.Env), (backTo pos (starEach es env)).all (fun x => !x.1) = true
  | [], _, _, _ => rfl
  | e :: es, h, pos, env => by
    rw [star_cons (h e List.mem_cons_self)]
    show (!false && (backTo pos (starEach es env)).all (fun x => !x.1)) = true
    rw [few_args (fun x hx => h x (List.mem_cons_of_mem _ hx))]
    rfl
theorem se_mt {x : Str} {m : Mt} {apos : Pos} (hx : mtOf x = some m) (hl : (apos.endLine == pos.line) = true) (hc : isCall a = false) (hf : es.length < 20) (hs : ∀ e ∈ es, isStar e = false) (h0 : es = [] → xs = []) (ha : PE X a (tM (mdOf X g k c P) ea)) (hb : PA X es (tMs (mdOf X g k c P) xs)) :
    PE X (.Call (.Attribute a x apos) es [] pos) (tM (mdOf X g k c P) (.mt m ea xs)) := by
  obtain ⟨h1, h2⟩ := mtStr_name hx
  cases es with
  | nil =>
    have := h0 rfl
    subst this
    refine PE.weak (pe_bm0 PySem.F.plainAttrs_list h1 h2 mtr_m ha (attrBase hc _) hl) fun σ H Q h => ?_
    obtain ⟨L, env, st, pv, st', he, w, hv, f⟩ := h
    have h := mt_seq (xs := []) ⟨L, env, st, pv, st', he, w, hv, f⟩
    obtain ⟨L, env, st, pv, st', he, w, hv, f⟩ := h
    refine ⟨L, env, st, pv, st', he, w, hv, fun L' H' v x1 w1 r1 => ?_⟩
    obtain ⟨q1, L2, env2, s2, pvs, s3, he2, w2, hv2, f2⟩ := f L' H' v x1 w1 r1
    unfold evEs at hv2
    cases hv2
    exact ⟨q1, f2 L2 H' [] Ext.refl w2.wd .nil⟩
  | cons e es =>
    refine PE.weak (pe_bm PySem.F.plainAttrs_list h1 h2 mtr_m ha hb (attrBase hc _) ?_ hl (star_cons (hs e List.mem_cons_self) _) (noStar_any (fun x hx => hs x (List.mem_cons_of_mem _ hx)) _ _)) fun σ H Q h => mt_seq h
    rw [few_args hs]
    show (true && true && decide ((e :: es).length + 0 + 0 < 30)) = true
    rw [Bool.and_self, Bool.true_and]
    exact decide_eq_true (by omega)

/-! ### ranges as values -/
theorem rg_rep {K : PySem.W.Frag} {H : Hp} {L : List Addr} : ∀ (n : Nat) (lo : Int), Reps K H L (rangeL lo 1 n) ((List.range n).map fun i => V.int (lo + (i : Nat)))
  | 0, _ => .nil
  | n + 1, lo => by
    rw [List.range_succ_eq_map, List.map_cons, List.map_map]
    refine .cons ?_ ?_
    · unfold Rep
      congr 1
      omega
    · have h := rg_rep (K := K) (H := H) (L := L) n (lo + 1)
      have e : (fun i : Nat => V.int (lo + 1 + (i : Nat))) = ((fun i : Nat => V.int (lo + (i : Nat))) ∘ Nat.succ) := by
        funext i
        show V.int (lo + 1 + (i : Nat)) = V.int (lo + ((i + 1 : Nat) : Int))
        congr 1
        omega
      rw [← e]
      exact h
theorem sm_iff {i : Int} (h : sm i = true) : -4611686018427387904 ≤ i ∧ i < 4611686018427387904 := of_decide_eq_true h
theorem wkR2_rg {pvs : List PV} {xs : List PV} (h : wkR2 pvs = some xs) : (∃ j, pvs = [.int j] ∧ RgOk 0 j ∧ xs = rangeL 0 1 (j - 0).toNat) ∨ ∃ i j, pvs = [.int i, .int j] ∧ RgOk i j ∧ xs = rangeL i 1 (j - i).toNat := by
  unfold wkR2 at h
  split at h
  · rename_i j
    obtain ⟨h1, h2⟩ := ite_some h
    rw [Bool.and_eq_true] at h1
    have h3 := sm_iff h1.1
    have h4 := of_decide_eq_true h1.2
    refine .inl ⟨j, rfl, ⟨by omega, by omega, by omega, by omega, by omega⟩, ?_⟩
    rw [Int.sub_zero]
    exact h2.symm
  · rename_i i j
    obtain ⟨h1, h2⟩ := ite_some h
    rw [Bool.and_eq_true, Bool.and_eq_true] at h1
    have h3 := sm_iff h1.1.1
    have h4 := sm_iff h1.1.2
    have h5 := of_decide_eq_true h1.2
    exact .inr ⟨i, j, rfl, ⟨by omega, by omega, by omega, by omega, by omega⟩, h2.symm⟩
  · cases h
theorem rg_end {tup : Bool} {K : PySem.W.Frag} {H : Hp} {L : List Addr} {st st' : Sto} {pv : PV} {Q : VK} {i j : Int} (w : Wd K L H st) (h : (if tup then mkT (rangeL i 1 (j - i).toNat) st else newL (rangeL i 1 (j - i).toNat) st) = some (pv, st')) (f : Fin K L H st pv st' Q) :
    ∀ q, H q = none → Q (.ref q) (upd H q (if tup then .tup (rgV i j) else .lst (rgV i j))) := by
  intro q hq
  cases tup with
  | true =>
    rw [if_pos rfl] at h ⊢
    obtain ⟨_, rfl, rfl⟩ := mkT_eq h
    exact f.tup w hq (rg_rep _ _)
  | false =>
    rw [if_neg Bool.false_ne_true] at h ⊢
    obtain ⟨_, rfl, rfl⟩ := newL_eq h
    exact f.lst w hq (rg_rep _ _)
theorem se_rngv1 {tup : Bool} {p p2 pos2 : Pos} (O : XOk g N sc d k c X) (hr : g.t.free "range" = true) (hgr : gloB sc ("range" : Str) = true) (ht : g.t.free (if tup then "tuple" else "list") = true) (hgt : gloB sc (if tup then ("tuple" : Str) else "list") = true)
    (hs : isStar a = false) (ha : PE X a (tM (mdOf X g k c P) ea)) : PE X (.Call (.Name (if tup then "tuple" else "list") p) [.Call (.Name "range" p2) [a] [] pos2] [] pos) (tM (mdOf X g k c P) (.rngv tup [ea])) := by
  have key : ∀ {σ : L2.St} {H : Hp} {Q : VK}, tM (mdOf X g k c P) (.rngv tup [ea]) σ H Q → tRg1 (tM (mdOf X g k c P) ea) σ H (fun a b H1 => RgOk a b ∧ ∀ q, H1 q = none → Q (.ref q) (upd H1 q (if tup then .tup (rgV a b) else .lst (rgV a b)))) := by
    intro σ H Q ⟨L, env, st, pv, st', he, w, hv, f⟩
    unfold evE evEs evEs at hv
    obtain ⟨ys, s2, e0, h2⟩ := bind_inv hv
    obtain ⟨x, s1, e1, h1⟩ := bind_inv e0
    cases h1
    refine tM.mk he w e1 fun L1 H1 v x1 w1 he1 r1 => ?_
    split at h2
    · rename_i xs hx
      rcases wkR2_rg hx with ⟨j, h3, h4, rfl⟩ | ⟨i, j, h3, _⟩
      · cases h3
        cases r1.int_inv
        exact ⟨j, rfl, h4, rg_end w1.wd h2 (f.after x1)⟩
      · cases h3
    · cases h2
  have hp := prg_1 (p := p2) (pos := pos2) (O.gl hgr) (O.fns.free _ (by simp [bNames]) hr) ha (star_cons hs _)
  cases tup with
  | true => exact PE.weak (pe_tupRg O.calm (O.gl hgt) (O.fns.free _ (by simp [bNames]) ht) hp (by rfl)) fun σ H Q h => key h
  | false => exact PE.weak (pe_listRg O.calm (O.gl hgt) (O.fns.free _ (by simp [bNames]) ht) hp (by rfl)) fun σ H Q h => key h
theorem se_rngv2 {tup : Bool} {p p2 pos2 : Pos} (O : XOk g N sc d k c X) (hr : g.t.free "range" = true) (hgr : gloB sc ("range" : Str) = true) (ht : g.t.free (if tup then "tuple" else "list") = true) (hgt : gloB sc (if tup then ("tuple" : Str) else "list") = true)
    (hs : isStar a = false) (hs2 : isStar b = false) (ha : PE X a (tM (mdOf X g k c P) ea)) (hb : PE X b (tM (mdOf X g k c P) eb)) : PE X (.Call (.Name (if tup then "tuple" else "list") p) [.Call (.Name "range" p2) [a, b] [] pos2] [] pos) (tM (mdOf X g k c P) (.rngv tup [ea, eb])) := by
  have key : ∀ {σ : L2.St} {H : Hp} {Q : VK}, tM (mdOf X g k c P) (.rngv tup [ea, eb]) σ H Q → tRg2 (tM (mdOf X g k c P) ea) (tM (mdOf X g k c P) eb) σ H (fun a b H1 => RgOk a b ∧ ∀ q, H1 q = none → Q (.ref q) (upd H1 q (if tup then .tup (rgV a b) else .lst (rgV a b)))) := by
    intro σ H Q ⟨L, env, st, pv, st', he, w, hv, f⟩
    unfold evE evEs evEs evEs at hv
    obtain ⟨ys, s2, e0, h2⟩ := bind_inv hv
    obtain ⟨x, s1, e1, h1⟩ := bind_inv e0
    obtain ⟨zs, s3, e2, h3⟩ := bind_inv h1
    obtain ⟨y, s4, e3, h4⟩ := bind_inv e2
    cases h4
    cases h3
    refine tM.mk he w e1 fun L1 H1 v x1 w1 he1 r1 => tM.mk he1 w1 e3 fun L2 H2 u x2 w2 he2 r2 => ?_
    split at h2
    · rename_i xs hx
      rcases wkR2_rg hx with ⟨j, h3, _⟩ | ⟨i, j, h3, h4, rfl⟩
      · cases h3
      · cases h3
        cases r1.int_inv
        cases r2.int_inv
        exact ⟨i, j, rfl, rfl, h4, rg_end w2.wd h2 (f.after (x1.trans x2))⟩
    · cases h2
  have hp := prg_2 (p := p2) (pos := pos2) (O.gl hgr) (O.fns.free _ (by simp [bNames]) hr) ha hb (star_cons hs _) (star_cons hs2 _) (noStar_any (es := [b]) (fun e he => by rw [List.mem_singleton.mp he]; exact hs2) _ _)
  cases tup with
  | true => exact PE.weak (pe_tupRg O.calm (O.gl hgt) (O.fns.free _ (by simp [bNames]) ht) hp (by rfl)) fun σ H Q h => key h
  | false => exact PE.weak (pe_listRg O.calm (O.gl hgt) (O.fns.free _ (by simp [bNames]) ht) hp (by rfl)) fun σ H Q h => key h
/-- xs[::-1] of a list -/
theorem se_rev {n : Nat} {p1 p2 p3 : Pos} (ha : PE X a (tM (mdOf X g k c P) ea)) : PE X (.Subscript a (.Slice none none (some (.UnaryOp .USub (.Constant (.int 1) n p1) p2)) p3) pos) (tM (mdOf X g k c P) (.rev ea)) :=
  PE.weak (pe_revL ha) fun σ H Q ⟨L, env, st, pv, st', he, w, hv, f⟩ => by
    unfold evE at hv
    obtain ⟨x, s1, e1, h1⟩ := bind_inv hv
    refine tM.mk he w e1 fun L1 H1 v x1 w1 he1 r1 => ?_
    cases x with
    | loc n =>
      have h1 : (match getL s1 n with
        | some xs => newL xs.reverse s1
        | none => none) = some (pv, st') := h1
      split at h1
      · rename_i ys hy
        obtain ⟨hz, rfl, rfl⟩ := newL_eq h1
        obtain ⟨p, rfl, lp⟩ := r1.loc_inv
        obtain ⟨ws, sq, rw'⟩ := w1.wd.seq lp hy
        exact ⟨p, ws, rfl, sq, fun q hq => (f.after x1).lst w1.wd hq rw'.reverse⟩
      · cases h1
    | _ => cases h1
end
end Mp
set_option Elab.async false
set_option linter.all false
set_option maxRecDepth 100000
set_option maxHeartbeats 1000000
/-! MpWalk: what loops walk; targets. -/
namespace Mp
open PySem PySem.Spec PyProof.Rows L2

mutual
theorem beq_eq : ∀ {a b : PV}, PV.beq a b = true → a = b
  | .non, b, h => by cases b <;> first | rfl | cases h
  | .bl x, b, h => by
    cases b with
    | bl y => rw [eq_of_beq (show (x == y) = true from h)]
    | _ => cases h
  | .int x, b, h => by
    cases b with
    | int y => rw [eq_of_beq (show (x == y) = true from h)]
    | _ => cases h
  | .str x, b, h => by
    cases b with
    | str y => rw [eq_of_beq (show (x == y) = true from h)]
    | _ => cases h
  | .tup xs, b, h => by
    cases b with
    | tup ys => rw [beqs_eq (show PV.beqs xs ys = true from h)]
    | _ => cases h
  | .loc x, b, h => by
    cases b with
    | loc y => rw [eq_of_beq (show (x == y) = true from h)]
    | _ => cases h
theorem beqs_eq : ∀ {a b : List PV}, PV.beqs a b = true → a = b
  | [], b, h => by cases b <;> first | rfl | cases h
  | x :: xs, b, h => by
    cases b with
    | nil => cases h
    | cons y ys =>
      have h : (PV.beq x y && PV.beqs xs ys) = true := h
      rw [Bool.and_eq_true] at h
      rw [beq_eq h.1, beqs_eq h.2]
end
theorem gs_get {st : Sto} {gs : List (Nat × List PV)} (h : gsOk st gs = true) {n : Nat} {xs : List PV} (hm : (n, xs) ∈ gs) : getL st n = some xs := by
  unfold gsOk at h
  have h1 := List.all_eq_true.mp h (n, xs) hm
  simp only at h1
  split at h1
  · rename_i ys e
    rw [e, beqs_eq h1]
  · cases h1

/-- J walks the items of wk, as long as what is walked stays -/
structure JOk (K : PySem.W.Frag) (J : L2.It) (wk : Wk) (L0 : List Addr) (H0 : Hp) (st0 : Sto) : Prop where
  go : ∀ L H st, Ext L0 H0 st0 L H st → Wd K L H st → gsOk st wk.gs = true → ∀ i x, wk.xs[i]? = some x → J.go i H ∧ ∀ v H', J.yld i H v H' → (∀ a o, H a = some o → H' a = some o) ∧ Rep K H' L x v
  stop : ∀ L H st, Ext L0 H0 st0 L H st → Wd K L H st → gsOk st wk.gs = true → J.stop wk.xs.length H
section
variable {K : PySem.W.Frag} {H H' : Hp} {L L' : List Addr} {st st' : Sto}
theorem JOk.later {J : L2.It} {wk : Wk} (j : JOk K J wk L H st) (e : Ext L H st L' H' st') : JOk K J wk L' H' st' :=
  ⟨fun L2 H2 s2 e2 w2 g2 => j.go L2 H2 s2 (e.trans e2) w2 g2, fun L2 H2 s2 e2 w2 g2 => j.stop L2 H2 s2 (e.trans e2) w2 g2⟩
theorem TupAt.ext {a : Addr} {vs : List V} (t : TupAt K H a vs) (w : Wd K L H st) (e : Ext L H st L' H' st') : TupAt K H' a vs := by
  rcases t with t | t
  · exact .inl (e.tup w _ _ t)
  · exact .inr t
theorem jok_list {n : Nat} {a : Addr} {xs : List PV} (h : L[n]? = some a) : JOk K (Itl K a) ⟨xs, [(n, xs)]⟩ L H st where
  go := fun L' H' st' e w hg i x hx => by
    have h1 : L'[n]? = some a := by
      obtain ⟨t, rfl⟩ := e.pre
      exact List.getElem?_append_left (List.getElem?_eq_some_iff.mp h).1 ▸ h
    obtain ⟨vs, sq, rs⟩ := w.seq h1 (gs_get hg (List.mem_singleton.mpr rfl))
    obtain ⟨v, hv, rv⟩ := rs.get hx
    refine ⟨⟨vs, v, sq, hv⟩, fun u H'' ⟨hH, hu⟩ => ?_⟩
    subst hH
    have e1 := hu vs sq
    rw [hv] at e1
    cases e1
    exact ⟨fun _ _ q => q, rv⟩
  stop := fun L' H' st' e w hg => by
    have h1 : L'[n]? = some a := by
      obtain ⟨t, rfl⟩ := e.pre
      exact List.getElem?_append_left (List.getElem?_eq_some_iff.mp h).1 ▸ h
    obtain ⟨vs, sq, rs⟩ := w.seq h1 (gs_get hg (List.mem_singleton.mpr rfl))
    exact ⟨vs, sq, Nat.le_of_eq rs.length⟩
theorem jok_tup {a : Addr} {xs : List PV} {vs : List V} (w0 : Wd K L H st) (t : TupAt K H a vs) (r : Reps K H L xs vs) : JOk K (Itt K a) ⟨xs, []⟩ L H st where
  go := fun L' H' st' e w hg i x hx => by
    have rs := r.ext w0 e
    have sq := (t.ext w0 e).sq
    obtain ⟨v, hv, rv⟩ := rs.get hx
    refine ⟨⟨vs, v, sq, hv⟩, fun u H'' ⟨hH, hu⟩ => ?_⟩
    subst hH
    have e1 := hu vs sq
    rw [hv] at e1
    cases e1
    exact ⟨fun _ _ q => q, rv⟩
  stop := fun L' H' st' e w hg => ⟨vs, (t.ext w0 e).sq, Nat.le_of_eq r.length⟩
theorem rangeL_get (c : Int) : ∀ (n : Nat) (lo : Int) (i : Nat) (x : PV), (rangeL lo c n)[i]? = some x → i < n ∧ x = .int (lo + (i : Nat) * c)
  | 0, _, _, _, h => by simp [rangeL] at h
  | n + 1, lo, i, x, h => by
    unfold rangeL at h
    cases i with
    | zero =>
      have e : PV.int lo = x := by simpa using h
      refine ⟨Nat.succ_pos _, ?_⟩
      rw [← e]
      congr 1
      simp
    | succ i =>
      obtain ⟨h1, h2⟩ := rangeL_get c n (lo + c) i x (by simpa using h)
      refine ⟨Nat.succ_lt_succ h1, ?_⟩
      rw [h2]
      congr 1
      rw [Int.add_assoc]
      congr 1
      have : ((i + 1 : Nat) : Int) = (i : Int) + 1 := by omega
      rw [this, Int.add_mul, Int.one_mul, Int.add_comm]
theorem rangeL_len (c : Int) : ∀ (n : Nat) (lo : Int), (rangeL lo c n).length = n
  | 0, _ => rfl
  | n + 1, lo => by
    unfold rangeL
    rw [List.length_cons, rangeL_len c n]
theorem jok_rng {lo : Int} {n : Nat} : JOk K (Itr lo n) ⟨rangeL lo 1 n, []⟩ L H st where
  go := fun L' H' st' e w hg i x hx => by
    obtain ⟨h1, rfl⟩ := rangeL_get 1 n lo i x hx
    refine ⟨h1, fun v H'' ⟨hH, hv⟩ => ?_⟩
    subst hH hv
    refine ⟨fun _ _ q => q, ?_⟩
    unfold Rep
    rw [Int.mul_one]
  stop := fun L' H' st' e w hg => by
    show n ≤ (rangeL lo 1 n).length
    rw [rangeL_len]
    exact Nat.le_refl _
theorem jok_rngc {lo c : Int} {n : Nat} : JOk K (Itc lo c n) ⟨rangeL lo c n, []⟩ L H st where
  go := fun L' H' st' e w hg i x hx => by
    obtain ⟨h1, rfl⟩ := rangeL_get c n lo i x hx
    refine ⟨h1, fun v H'' ⟨hH, hv⟩ => ?_⟩
    subst hH hv
    exact ⟨fun _ _ q => q, by unfold Rep; rfl⟩
  stop := fun L' H' st' e w hg => by
    show n ≤ (rangeL lo c n).length
    rw [rangeL_len]
    exact Nat.le_refl _
theorem enumL_get : ∀ (xs : List PV) (k : Int) (i : Nat) (x : PV), (enumL k xs)[i]? = some x → ∃ y, xs[i]? = some y ∧ x = .tup [.int (k + (i : Nat)), y]
  | [], _, _, _, h => by simp [enumL] at h
  | y :: xs, k, i, x, h => by
    unfold enumL at h
    cases i with
    | zero =>
      have e : PV.tup [.int k, y] = x := by simpa using h
      exact ⟨y, rfl, by rw [← e]; simp⟩
    | succ i =>
      obtain ⟨z, h1, h2⟩ := enumL_get xs (k + 1) i x (by simpa using h)
      refine ⟨z, by simpa using h1, ?_⟩
      rw [h2]
      have : k + 1 + (i : Int) = k + ((i + 1 : Nat) : Int) := by omega
      rw [this]
theorem enumL_len : ∀ (xs : List PV) (k : Int), (enumL k xs).length = xs.length
  | [], _ => rfl
  | y :: xs, k => by
    unfold enumL
    rw [List.length_cons, List.length_cons, enumL_len xs]
theorem rep_pair {x y : PV} {v u : V} {T : Addr} (h : H T = none) (rx : Rep K H L x v) (ry : Rep K H L y u) : Rep K (upd H T (.tup [v, u])) L (.tup [x, y]) (.ref T) := by
  have t : ∀ a xs, H a = some (.tup xs) → upd H T (.tup [v, u]) a = some (.tup xs) := fun a xs e => grow_upd h a _ e
  unfold Rep
  exact ⟨T, [v, u], rfl, .inl upd_same, .cons (rx.mono List.prefix_rfl t) (.cons (ry.mono List.prefix_rfl t) .nil)⟩
theorem jok_enum {n : Nat} {a : Addr} {xs : List PV} (h : L[n]? = some a) : JOk K (Ite K a) ⟨enumL 0 xs, [(n, xs)]⟩ L H st where
  go := fun L' H' st' e w hg i x hx => by
    have h1 : L'[n]? = some a := by
      obtain ⟨t, rfl⟩ := e.pre
      exact List.getElem?_append_left (List.getElem?_eq_some_iff.mp h).1 ▸ h
    obtain ⟨vs, sq, rs⟩ := w.seq h1 (gs_get hg (List.mem_singleton.mpr rfl))
    obtain ⟨y, hy, rfl⟩ := enumL_get xs 0 i x hx
    obtain ⟨v, hv, rv⟩ := rs.get hy
    refine ⟨⟨vs, v, sq, hv⟩, fun u H'' ⟨T, z, hu, hT, hH, hz⟩ => ?_⟩
    subst hH hu
    have e1 := hz vs sq
    rw [hv] at e1
    cases e1
    refine ⟨grow_upd hT, rep_pair hT ?_ rv⟩
    unfold Rep
    rw [Int.zero_add]
  stop := fun L' H' st' e w hg => by
    have h1 : L'[n]? = some a := by
      obtain ⟨t, rfl⟩ := e.pre
      exact List.getElem?_append_left (List.getElem?_eq_some_iff.mp h).1 ▸ h
    obtain ⟨vs, sq, rs⟩ := w.seq h1 (gs_get hg (List.mem_singleton.mpr rfl))
    refine ⟨vs, sq, ?_⟩
    rw [enumL_len]
    exact Nat.le_of_eq rs.length
theorem zip2_get : ∀ (xs ys : List PV) (i : Nat) (x : PV), (zip2 xs ys)[i]? = some x → ∃ a b, xs[i]? = some a ∧ ys[i]? = some b ∧ x = .tup [a, b]
  | [], _, _, _, h => by simp [zip2] at h
  | _ :: _, [], _, _, h => by simp [zip2] at h
  | a :: xs, b :: ys, i, x, h => by
    unfold zip2 at h
    cases i with
    | zero =>
      have e : PV.tup [a, b] = x := by simpa using h
      exact ⟨a, b, rfl, rfl, e.symm⟩
    | succ i =>
      obtain ⟨c, d, h1, h2, h3⟩ := zip2_get xs ys i x (by simpa using h)
      exact ⟨c, d, by simpa using h1, by simpa using h2, h3⟩
theorem zip2_len : ∀ (xs ys : List PV), (zip2 xs ys).length = min xs.length ys.length
  | [], ys => by simp [zip2]
  | _ :: _, [] => by simp [zip2]
  | _ :: xs, _ :: ys => by
    unfold zip2
    rw [List.length_cons, List.length_cons, List.length_cons, zip2_len xs ys]
    omega
theorem jok_zipL {n m : Nat} {a b : Addr} {xs ys : List PV} (h : L[n]? = some a) (h' : L[m]? = some b) : JOk K (Itz K a b) ⟨zip2 xs ys, [(n, xs), (m, ys)]⟩ L H st := by
  have lift : ∀ {L' : List Addr} {H' : Hp} {st' : Sto}, Ext L H st L' H' st' → Wd K L' H' st' → gsOk st' [(n, xs), (m, ys)] = true → (∃ vs, SqL K H' a vs ∧ Reps K H' L' xs vs) ∧ ∃ us, SqL K H' b us ∧ Reps K H' L' ys us := by
    intro L' H' st' e w hg
    obtain ⟨t, rfl⟩ := e.pre
    exact ⟨w.seq (List.getElem?_append_left (List.getElem?_eq_some_iff.mp h).1 ▸ h) (gs_get hg (by simp)), w.seq (List.getElem?_append_left (List.getElem?_eq_some_iff.mp h').1 ▸ h') (gs_get hg (by simp))⟩
  refine ⟨fun L' H' st' e w hg i x hx => ?_, fun L' H' st' e w hg => ?_⟩
  · obtain ⟨⟨vs, sv, rv⟩, us, su, ru⟩ := lift e w hg
    obtain ⟨p, q, h1, h2, rfl⟩ := zip2_get xs ys i x hx
    obtain ⟨vp, e1, r1⟩ := rv.get h1
    obtain ⟨vq, e2, r2⟩ := ru.get h2
    refine ⟨⟨vs, us, vp, vq, sv, su, e1, e2⟩, fun u H'' ⟨T, z, z', hu, hT, hH, hz, hz'⟩ => ?_⟩
    subst hH hu
    have e3 := hz vs sv
    rw [e1] at e3
    cases e3
    have e4 := hz' us su
    rw [e2] at e4
    cases e4
    exact ⟨grow_upd hT, rep_pair hT r1 r2⟩
  · obtain ⟨⟨vs, sv, rv⟩, us, su, ru⟩ := lift e w hg
    refine ⟨vs, us, sv, su, ?_⟩
    rw [zip2_len, rv.length, ru.length]
    omega
theorem jok_zipT {a b : Addr} {xs ys : List PV} {vs us : List V} (w0 : Wd K L H st) (t : TupAt K H a vs) (t' : TupAt K H b us) (r : Reps K H L xs vs) (r' : Reps K H L ys us) : JOk K (RZ.ItzT K a b) ⟨zip2 xs ys, []⟩ L H st := by
  refine ⟨fun L' H' st' e w hg i x hx => ?_, fun L' H' st' e w hg => ?_⟩
  · obtain ⟨p, q, h1, h2, rfl⟩ := zip2_get xs ys i x hx
    obtain ⟨vp, e1, r1⟩ := (r.ext w0 e).get h1
    obtain ⟨vq, e2, r2⟩ := (r'.ext w0 e).get h2
    have sv := (t.ext w0 e).sq
    have su := (t'.ext w0 e).sq
    refine ⟨⟨vs, us, vp, vq, sv, su, e1, e2⟩, fun u H'' ⟨T, z, z', hu, hT, hH, hz, hz'⟩ => ?_⟩
    subst hH hu
    have e3 := hz vs sv
    rw [e1] at e3
    cases e3
    have e4 := hz' us su
    rw [e2] at e4
    cases e4
    exact ⟨grow_upd hT, rep_pair hT r1 r2⟩
  · refine ⟨vs, us, (t.ext w0 e).sq, (t'.ext w0 e).sq, ?_⟩
    rw [zip2_len, r.length, r'.length]
    omega
end

/-! ### the walked -/
def tMI (m : Md) (y : It) : TI := fun σ H R => ∃ L env st wk st', EnvOk m.K H L σ env ∧ Wo m.K m.base m.g m.c m.P L H st ∧ evIt (m.g.C m.k) m.g.G y env st = some (wk, st') ∧
  ∀ L' H' J, Ext L H st L' H' st' → Wd m.K L' H' st' → JOk m.K J wk L' H' st' → R J H'
theorem PI.weak {X : Cx} {tg e : Expr} {t t' : TI} (h : PI X tg e t) (i : ∀ σ H R, t' σ H R → t σ H R) : PI X tg e t' := ⟨fun pins s σ H R I q => h.run pins s σ H R I (i σ H R q)⟩
section
variable {X : Cx} {g : Gc} {N : List Str} {sc : Scope} {d k : Nat} {c P : Addr} {tg a b e : Expr} {ea eb ec : E} {pos : Pos} {es : List Expr} {xs : List E}
/-- a list or a tuple -/
theorem pi_val {l : Expr} {tl : TE} (hl : PE X l tl) : PI X tg l (fun σ H R => tl σ H fun x H1 => ∃ a, x = .ref a ∧ (((∃ xs, SqL X.K H1 a xs) ∧ R (Itl X.K a) H1) ∨ ((∃ xs, SqT X.K H1 a xs) ∧ R (Itt X.K a) H1))) := by
  refine ⟨fun pins s σ H R I h => ?_⟩
  refine thn (hl.run pins s σ H _ I h) fun v s1 ⟨x, H1, I1, r1, q1⟩ => ?_
  obtain ⟨a, e, q⟩ := q1
  subst e
  cases r1
  rcases q with ⟨⟨xs, hq⟩, q⟩ | ⟨⟨xs, hq⟩, q⟩
  · obtain ⟨its, rv, p, hz⟩ := I1.list hq
    refine wpAny_pyIter_list p.isList ?_
    refine ⟨s1.heap.objs.size, [s1.heap.objs.size], _, _, H1, rfl, I1.kept (t' := s1.toks) fun b o e => Heap.get?_push_of_some _ e, turn_list a _, ⟨_, Heap.get?_push_size _ rfl, rfl, rfl⟩, fun b hb => ?_, q⟩
    have e : b = s1.heap.objs.size := by simpa using hb
    subst e
    exact I1.fpOk (Nat.le_refl _) (I1.hok.fresh (Nat.le_refl _))
  · obtain ⟨its, rv, p, hz⟩ := I1.tuple hq
    refine wpAny_pyIter_tuple (show s1.heap.IsTuple a its.toArray from p) ?_
    refine ⟨s1.heap.objs.size, [s1.heap.objs.size], _, _, H1, rfl, I1.kept (t' := s1.toks) fun b o e => Heap.get?_push_of_some _ e, turn_tuple a _, ⟨_, Heap.get?_push_size _ rfl, rfl, rfl⟩, fun b hb => ?_, q⟩
    have e : b = s1.heap.objs.size := by simpa using hb
    subst e
    exact I1.fpOk (Nat.le_refl _) (I1.hok.fresh (Nat.le_refl _))
theorem si_val (ha : PE X a (tM (mdOf X g k c P) ea)) : PI X tg a (tMI (mdOf X g k c P) (.val ea)) :=
  PI.weak (pi_val ha) fun σ H R ⟨L, env, st, wk, st', he, w, hv, f⟩ => by
    unfold evIt at hv
    obtain ⟨x, s1, e1, h1⟩ := bind_inv hv
    obtain ⟨h2, rfl⟩ := of_inv h1
    refine tM.mk he w e1 fun L1 H1 v x1 w1 he1 r1 => ?_
    cases x with
    | tup ys =>
      cases h2
      obtain ⟨p, vs, rfl, t, rs⟩ := r1.tup_inv
      exact ⟨p, rfl, .inr ⟨⟨vs, t.sq⟩, f L1 H1 _ x1 w1.wd (jok_tup w1.wd t rs)⟩⟩
    | loc n =>
      have h2 : (match getL st' n with
        | some xs => some (Wk.mk xs [(n, xs)])
        | none => none) = some wk := h2
      split at h2
      · rename_i ys hy
        cases h2
        obtain ⟨p, rfl, lp⟩ := r1.loc_inv
        obtain ⟨vs, sq, rs⟩ := w1.wd.seq lp hy
        exact ⟨p, rfl, .inl ⟨⟨vs, sq⟩, f L1 H1 _ x1 w1.wd (jok_list lp)⟩⟩
      · cases h2
    | _ => cases h2
theorem wkR_cases {pvs : List PV} {wk : Wk} (h : wkR pvs = some wk) : (∃ j, pvs = [.int j] ∧ sm j = true ∧ wk = ⟨rangeL 0 1 j.toNat, []⟩) ∨ (∃ i j, pvs = [.int i, .int j] ∧ sm i = true ∧ sm j = true ∧ wk = ⟨rangeL i 1 (j - i).toNat, []⟩) ∨
    ∃ i j, pvs = [.int i, .int j, .int (-1)] ∧ sm i = true ∧ sm j = true ∧ wk = ⟨rangeL i (-1) (i - j).toNat, []⟩ := by
  unfold wkR at h
  split at h
  · obtain ⟨h1, h2⟩ := ite_some h
    exact .inl ⟨_, rfl, h1, h2.symm⟩
  · obtain ⟨h1, h2⟩ := ite_some h
    rw [Bool.and_eq_true] at h1
    exact .inr (.inl ⟨_, _, rfl, h1.1, h1.2, h2.symm⟩)
  · obtain ⟨h1, h2⟩ := ite_some h
    rw [Bool.and_eq_true] at h1
    exact .inr (.inr ⟨_, _, rfl, h1.1, h1.2, h2.symm⟩)
  · cases h
theorem si_never {y : It} (h : ∀ env st, evIt (g.C k) g.G y env st = none) : PI X tg e (tMI (mdOf X g k c P) y) :=
  ⟨fun pins s σ H Q I ⟨L, env, st, pv, st', he, w, hv, fi⟩ => by
    have hv := (h env st).symm.trans hv
    cases hv⟩
theorem si_rng {p : Pos} (O : XOk g N sc d k c X) (hr : g.t.free "range" = true) (hg : gloB sc ("range" : Str) = true) (hs : ∀ e ∈ es, isStar e = false) (hl : es.length = xs.length) (ha : PA X es (tMs (mdOf X g k c P) xs)) :
    PI X tg (.Call (.Name "range" p) es [] pos) (tMI (mdOf X g k c P) (.rng xs)) := by
  have hm := O.fns.free "range" (by simp [bNames]) hr
  have nev : (xs.length ≠ 1 ∧ xs.length ≠ 2 ∧ xs.length ≠ 3) → PI X tg (.Call (.Name "range" p) es [] pos) (tMI (mdOf X g k c P) (.rng xs)) := fun hx => ⟨fun pins s σ H Q I ⟨L, env, st, wk, st', he, w, hv, fi⟩ => by
    unfold evIt at hv
    obtain ⟨ys, s1, e1, h1⟩ := bind_inv hv
    obtain ⟨h2, rfl⟩ := of_inv h1
    have hlen := evEs_len e1
    rcases wkR_cases h2 with ⟨j, rfl, _⟩ | ⟨i, j, rfl, _⟩ | ⟨i, j, rfl, _⟩
    · exact (hx.1 (by simpa using hlen.symm)).elim
    · exact (hx.2.1 (by simpa using hlen.symm)).elim
    · exact (hx.2.2 (by simpa using hlen.symm)).elim⟩
  have big : ∀ {i : Int}, sm i = true → -(2 ^ 62) ≤ i ∧ i < 2 ^ 62 := fun h => by
    have := sm_iff h
    omega
  rcases es with _ | ⟨e1, _ | ⟨e2, _ | ⟨e3, _ | ⟨e4, es⟩⟩⟩⟩
  · exact nev ⟨by simp at hl; omega, by simp at hl; omega, by simp at hl; omega⟩
  · refine PI.weak (pi_range1 (O.gl hg) hm ha (by rw [star_cons (hs e1 (by simp))]; rfl)) fun σ H R ⟨L, env, st, wk, st', he, w, hv, f⟩ => ?_
    unfold evIt at hv
    obtain ⟨ys, s1, e1, h1⟩ := bind_inv hv
    obtain ⟨h2, rfl⟩ := of_inv h1
    have hlen := evEs_len e1
    refine tMs.mk he w e1 fun L1 H1 vs x1 w1 he1 r1 => ?_
    rcases wkR_cases h2 with ⟨j, rfl, h3, rfl⟩ | ⟨i, j, rfl, _⟩ | ⟨i, j, rfl, _⟩
    · obtain ⟨v, rfl, rv⟩ := reps1 r1
      cases rv.int_inv
      exact ⟨j, rfl, (big h3).1, (big h3).2, f L1 H1 _ x1 w1.wd jok_rng⟩
    · simp at hlen hl; omega
    · simp at hlen hl; omega
  · refine PI.weak (pi_range2 (O.gl hg) hm ha (by rw [star_cons (hs e1 (by simp)), star_cons (hs e2 (by simp))]; rfl) (by rw [star_cons (hs e2 (by simp))]; rfl)) fun σ H R ⟨L, env, st, wk, st', he, w, hv, f⟩ => ?_
    unfold evIt at hv
    obtain ⟨ys, s1, e1, h1⟩ := bind_inv hv
    obtain ⟨h2, rfl⟩ := of_inv h1
    have hlen := evEs_len e1
    refine tMs.mk he w e1 fun L1 H1 vs x1 w1 he1 r1 => ?_
    rcases wkR_cases h2 with ⟨j, rfl, _⟩ | ⟨i, j, rfl, h3, h4, rfl⟩ | ⟨i, j, rfl, _⟩
    · simp at hlen hl; omega
    · obtain ⟨v, u, rfl, rv, ru⟩ := reps2 r1
      cases rv.int_inv
      cases ru.int_inv
      exact ⟨i, j, rfl, ⟨(big h3).1, (big h3).2, (big h4).1, (big h4).2⟩, f L1 H1 _ x1 w1.wd jok_rng⟩
    · simp at hlen hl; omega
  · refine PI.weak (pi_range3 (O.gl hg) hm ha (star_cons (hs e1 (by simp)) _) (noStar_any (es := [e2, e3]) (fun x hx => hs x (List.mem_cons_of_mem _ hx)) _ _)) fun σ H R ⟨L, env, st, wk, st', he, w, hv, f⟩ => ?_
    unfold evIt at hv
    obtain ⟨ys, s1, e1, h1⟩ := bind_inv hv
    obtain ⟨h2, rfl⟩ := of_inv h1
    have hlen := evEs_len e1
    refine tMs.mk he w e1 fun L1 H1 vs x1 w1 he1 r1 => ?_
    rcases wkR_cases h2 with ⟨j, rfl, _⟩ | ⟨i, j, rfl, _⟩ | ⟨i, j, rfl, h3, h4, rfl⟩
    · simp at hlen hl; omega
    · simp at hlen hl; omega
    · obtain ⟨v, us, rfl, rv, r2⟩ := r1.uncons
      obtain ⟨u, z, rfl, ru, rz⟩ := reps2 r2
      cases rv.int_inv
      cases ru.int_inv
      cases rz.int_inv
      exact ⟨i, j, -1, _, rfl, RgC.neg (big h3).1 (big h3).2 (big h4).1 (big h4).2, f L1 H1 _ x1 w1.wd jok_rngc⟩
  · exact nev ⟨by simp at hl; omega, by simp at hl; omega, by simp at hl; omega⟩
theorem si_enum {p tpos : Pos} {elts : List Expr} {kk : Nat} (O : XOk g N sc d k c X) (hr : g.t.free "enumerate" = true) (hg : gloB sc ("enumerate" : Str) = true) (hs : isStar a = false) (ha : PE X a (tM (mdOf X g k c P) ea)) :
    PI X (.Tuple elts kk tpos) (.Call (.Name "enumerate" p) [a] [] pos) (tMI (mdOf X g k c P) (.enum ea)) :=
  PI.weak (pi_enum (O.gl hg) (O.fns.free "enumerate" (by simp [bNames]) hr) (pa_cons ha pa_nil (star_cons hs _)) (by rw [star_cons hs]; rfl)) fun σ H R ⟨L, env, st, wk, st', he, w, hv, f⟩ => by
    unfold evIt at hv
    obtain ⟨x, s1, e1, h1⟩ := bind_inv hv
    obtain ⟨h2, rfl⟩ := of_inv h1
    refine tM.mk he w e1 fun L1 H1 v x1 w1 he1 r1 => ?_
    cases x with
    | loc n =>
      have h2 : (match getL st' n with
        | some xs => some (Wk.mk (enumL 0 xs) [(n, xs)])
        | none => none) = some wk := h2
      split at h2
      · rename_i ys hy
        cases h2
        obtain ⟨p, rfl, lp⟩ := r1.loc_inv
        obtain ⟨vs, sq, rs⟩ := w1.wd.seq lp hy
        exact ⟨p, vs, rfl, sq, f L1 H1 _ x1 w1.wd (jok_enum lp)⟩
      · cases h2
    | _ => cases h2
theorem si_zip {p tpos : Pos} {elts : List Expr} {kk : Nat} {e2 : Expr} {ys : List E} (O : XOk g N sc d k c X) (hr : g.t.free "zip" = true) (hg : gloB sc ("zip" : Str) = true) (hs : isStar a = false) (hs2 : isStar e2 = false) (ha : PA X [a, e2] (tMs (mdOf X g k c P) ys)) :
    PI X (.Tuple elts kk tpos) (.Call (.Name "zip" p) [a, e2] [] pos) (tMI (mdOf X g k c P) (.zip ys)) :=
  PI.weak (RZ.pi_zipA (O.gl hg) (O.fns.free "zip" (by simp [bNames]) hr) ha (star_cons hs _) (noStar_any (es := [e2]) (fun x hx => by rw [List.mem_singleton.mp hx]; exact hs2) _ _)) fun σ H R ⟨L, env, st, wk, st', he, w, hv, f⟩ => by
    unfold evIt at hv
    obtain ⟨zs, s1, e1, h1⟩ := bind_inv hv
    obtain ⟨h2, rfl⟩ := of_inv h1
    refine tMs.mk he w e1 fun L1 H1 vs x1 w1 he1 r1 => ?_
    unfold wkZ at h2
    split at h2
    · rename_i us ws
      cases h2
      obtain ⟨v, u, rfl, rv, ru⟩ := reps2 r1
      obtain ⟨pa, vas, rfl, ta, ra⟩ := rv.tup_inv
      obtain ⟨pb, vbs, rfl, tb, rb⟩ := ru.tup_inv
      exact ⟨pa, pb, vas, vbs, rfl, .inr ⟨ta.sq, tb.sq, f L1 H1 _ x1 w1.wd (jok_zipT w1.wd ta tb ra rb)⟩⟩
    · rename_i n m
      split at h2
      · rename_i us ws hn hm
        cases h2
        obtain ⟨v, u, rfl, rv, ru⟩ := reps2 r1
        obtain ⟨pa, rfl, la⟩ := rv.loc_inv
        obtain ⟨pb, rfl, lb⟩ := ru.loc_inv
        obtain ⟨vas, sa, ra⟩ := w1.wd.seq la hn
        obtain ⟨vbs, sb, rb⟩ := w1.wd.seq lb hm
        exact ⟨pa, pb, vas, vbs, rfl, .inl ⟨sa, sb, f L1 H1 _ x1 w1.wd (jok_zipL la lb)⟩⟩
      · cases h2
    · cases h2
end

/-! ### targets -/
/-- the names outside ns stay -/
def Same (ns : List Nat) (σ σ' : L2.St) : Prop := σ'.length = σ.length ∧ ∀ j, j ∉ ns → σ'[j]? = σ[j]?
theorem Same.refl (ns : List Nat) (σ : L2.St) : Same ns σ σ := ⟨rfl, fun _ _ => rfl⟩
theorem Same.trans {ns ms : List Nat} {σ σ' σ'' : L2.St} (a : Same ns σ σ') (b : Same ms σ' σ'') : Same (ns ++ ms) σ σ'' :=
  ⟨b.1.trans a.1, fun j hj => (b.2 j fun h => hj (List.mem_append_right _ h)).trans (a.2 j fun h => hj (List.mem_append_left _ h))⟩
def tMG (m : Md) (y : T) : TG := fun v σ H Q => ∃ L env st pv env' st', EnvOk m.K H L σ env ∧ Wo m.K m.base m.g m.c m.P L H st ∧ Rep m.K H L pv v ∧ evT (m.g.C m.k) m.g.G y pv env st = some (env', st') ∧
  ∀ L' H' σ', Ext L H st L' H' st' → Wd m.K L' H' st' → EnvOk m.K H' L' σ' env' → Same (tNames y) σ σ' → Q σ' H'
def tMGs (m : Md) (ys : List T) : TGs := fun vs σ H Q => ∃ L env st pvs env' st', EnvOk m.K H L σ env ∧ Wo m.K m.base m.g m.c m.P L H st ∧ Reps m.K H L pvs vs ∧ evTs (m.g.C m.k) m.g.G ys pvs env st = some (env', st') ∧
  ∀ L' H' σ', Ext L H st L' H' st' → Wd m.K L' H' st' → EnvOk m.K H' L' σ' env' → Same (tNamess ys) σ σ' → Q σ' H'
theorem PG.weak {X : Cx} {tg : Expr} {t t' : TG} (h : PG X tg t) (i : ∀ v σ H Q, t' v σ H Q → t v σ H Q) : PG X tg t' := ⟨fun pins s σ H v u Q I r q => h.run pins s σ H v u Q I r (i v σ H Q q)⟩
theorem PGs.weak {X : Cx} {tg : List Expr} {t t' : TGs} (h : PGs X tg t) (i : ∀ v σ H Q, t' v σ H Q → t v σ H Q) : PGs X tg t' := ⟨fun pins s σ H v u Q I r q => h.run pins s σ H v u Q I r (i v σ H Q q)⟩
section
variable {X : Cx} {g : Gc} {N : List Str} {sc : Scope} {d k : Nat} {c P : Addr} {tg a b e : Expr} {ea eb ec : E} {pos : Pos} {es : List Expr} {ts : List T}
theorem sg_name {x : Str} {i : Nat} (O : XOk g N sc d k c X) (hi : N[i]? = some x) (hl : locB sc x = true) : PG X (.Name x pos) (tMG (mdOf X g k c P) (.nm i)) :=
  PG.weak (pg_name (by rw [O.hN]; exact O.nd) (by rw [O.hN]; exact hi) (O.lo hl).1 (O.lo hl).2) fun v σ H Q ⟨L, env, st, pv, env', st', he, w, r, hv, f⟩ => by
    unfold evT at hv
    obtain ⟨h1, h2⟩ := ite_some hv
    cases h2
    refine f L H _ Ext.refl w.wd (he.set i r) ⟨by rw [List.length_set], fun j hj => ?_⟩
    rw [List.getElem?_set_ne (fun e => hj (by unfold tNames; rw [e]; exact List.mem_singleton.mpr rfl))]
theorem sgs_nil : PGs X [] (tMGs (mdOf X g k c P) []) :=
  PGs.weak pgs_nil fun vs σ H Q ⟨L, env, st, pvs, env', st', he, w, r, hv, f⟩ => by
    cases pvs with
    | nil =>
      unfold evTs at hv
      cases hv
      exact ⟨r.nil_iff, f L H σ Ext.refl w.wd he (Same.refl _ _)⟩
    | cons p ps => unfold evTs at hv; cases hv
theorem asg_cons {e : Expr} {es : List Expr} (h : isStar e = false) (env : PySem.Env) : assignEach (e :: es) env = (false, assign e env) :: assignEach es env := by
  cases e <;> first | rfl | cases h
theorem sgs_cons {t : T} (hs : isStar e = false) (h1 : PG X e (tMG (mdOf X g k c P) t)) (h2 : PGs X es (tMGs (mdOf X g k c P) ts)) : PGs X (e :: es) (tMGs (mdOf X g k c P) (t :: ts)) :=
  PGs.weak (pgs_cons h1 h2 (by rw [asg_cons hs] <;> rfl)) fun vs σ H Q ⟨L, env, st, pvs, env', st', he, w, r, hv, f⟩ => by
    cases pvs with
    | nil => unfold evTs at hv; cases hv
    | cons p ps =>
      unfold evTs at hv
      obtain ⟨env1, s1, e1, k1⟩ := bind_inv hv
      obtain ⟨v, us, rfl, rv, ru⟩ := r.uncons
      refine ⟨v, us, rfl, L, env, st, p, env1, s1, he, w, rv, e1, fun L1 H1 σ1 x1 w1 he1 m1 => ?_⟩
      exact ⟨L1, env1, s1, ps, env', st', he1, w.ext x1 w1, ru.ext w.wd x1, k1, fun L2 H2 σ2 x2 w2 he2 m2 => f L2 H2 σ2 (x1.trans x2) w2 he2 (by unfold tNamess; exact m1.trans m2)⟩
theorem asg_len : ∀ {es : List Expr}, (∀ e ∈ es, isStar e = false) → ∀ env : PySem.Env, (assignEach es env).length = es.length ∧ (assignEach es env).findIdx? (·.1) = none
  | [], _, _ => ⟨rfl, rfl⟩
  | e :: es, h, env => by
    obtain ⟨h1, h2⟩ := asg_len (es := es) (fun x hx => h x (List.mem_cons_of_mem _ hx)) env
    rw [asg_cons (h e List.mem_cons_self)]
    refine ⟨by rw [List.length_cons, List.length_cons, h1], ?_⟩
    rw [List.findIdx?_cons, h2]
    rfl
theorem sg_tup {kk : Nat} (O : XOk g N sc d k c X) (hs : ∀ e ∈ es, isStar e = false) (hl : es.length = ts.length) (h : PGs X es (tMGs (mdOf X g k c P) ts)) : PG X (.Tuple es kk pos) (tMG (mdOf X g k c P) (.tup ts)) := by
  obtain ⟨a1, a2⟩ := asg_len hs X.env
  refine ⟨fun pins s σ H v u Q I ru ⟨L, env, st, pv, env', st', he, w, r, hv, f⟩ => ?_⟩
  unfold evT at hv
  split at hv
  · rename_i xs hx
    by_cases h1 : xs.length = ts.length
    case neg => rw [if_neg h1] at hv; cases hv
    rw [if_pos h1] at hv
    have h2 := hv
    obtain ⟨p, vs, rfl, sq, rs⟩ := items_rep w.wd r hx
    have hlen : vs.length = es.length := by rw [rs.length, h1, hl]
    have key : tMGs (mdOf X g k c P) ts vs σ H Q := ⟨L, env, st, xs, env', st', he, w, rs, h2, fun L' H' σ' x1 w1 he1 m1 => f L' H' σ' x1 w1 he1 (by unfold tNames; exact m1)⟩
    rcases sq with sq | sq
    · exact (pg_unl O.calm h a1 a2).run pins s σ H _ u Q I ru ⟨p, vs, rfl, sq, hlen, key⟩
    · exact (pg_tup O.calm h a1 a2).run pins s σ H _ u Q I ru ⟨p, vs, rfl, sq, hlen, key⟩
  · cases hv
theorem sg_sub (hs : isSlice b = false) (hs2 : isStar b = false) (ha : PE X a (tM (mdOf X g k c P) ea)) (hb : PE X b (tM (mdOf X g k c P) eb)) : PG X (.Subscript a b pos) (tMG (mdOf X g k c P) (.sub ea eb)) := by
  refine PG.weak (pg_sub ha hb set_list ?_) fun v σ H Q ⟨L, env, st, pv, env', st', he, w, r, hv, f⟩ => ?_
  · intro v
    cases b <;> first | rfl | cases hs | cases hs2
  unfold evT at hv
  obtain ⟨x, s1, e1, h1⟩ := bind_inv hv
  obtain ⟨y, s2, e2, h2⟩ := bind_inv h1
  refine tM.mk he w e1 fun L1 H1 u x1 w1 he1 r1 => tM.mk he1 w1 e2 fun L2 H2 z x2 w2 he2 r2 => ?_
  have r1' := r1.ext w1.wd x2
  have rv' := r.ext w.wd (x1.trans x2)
  split at h2
  · rename_i n i
    split at h2
    · rename_i ys hy
      split at h2
      · rename_i j hj
        cases h2
        obtain ⟨p, rfl, lp⟩ := r1'.loc_inv
        cases r2.int_inv
        obtain ⟨vs, hp, rs⟩ := w2.wd.mut lp hy
        refine ⟨p, vs, i, j, rfl, rfl, hp, by rw [rs.length, ← ixN_eq]; exact hj, ?_⟩
        have x3 : Ext L2 H2 s2 L2 (upd H2 p (.lst (vs.set j v))) (setL s2 n (ys.set j pv)) := Ext.write w2.wd lp (getM_st hy)
        exact f L2 _ σ (x1.trans (x2.trans x3)) (w2.wd.write lp (getM_st hy) (rs.set j rv')) (he2.ext w2.wd x3) (Same.refl _ _)
      · cases h2
    · cases h2
  · cases h2
end
end Mp
set_option Elab.async false
set_option linter.all false
set_option maxRecDepth 100000
set_option maxHeartbeats 1000000
/-! MpLc: list comprehensions. -/
namespace Mp
open PySem PySem.Spec PyProof.Rows L2

/-- a list at D that is filled, apart from the store -/
structure Acc (K : PySem.W.Frag) (L1 : List Addr) (H1 : Hp) (st1 : Sto) (D : Addr) (L : List Addr) (H : Hp) (st : Sto) (vs : List V) : Prop where
  ext : Ext L1 H1 st1 L H st
  at_ : H D = some (.lst vs)
  nw : ¬ wr L st D
  free : H1 D = none
  w1 : Wd K L1 H1 st1
section
variable {K : PySem.W.Frag} {L1 L L' : List Addr} {H1 H H' : Hp} {st1 st st' : Sto} {D : Addr} {vs us : List V} {xs : List PV}
theorem Acc.apart (a : Acc K L1 H1 st1 D L H st vs) {n : Nat} {b : Addr} {ys : List PV} {u : HO} (h1 : L[n]? = some b) (h2 : st[n]? = some (MO.fl ys)) (h : Rd H b u) : (∃ ws, KList K b ws ∧ Reps K H L ys ws) ∨ b ≠ D := by
  have h3 := a.ext.fl n ys h2
  have hn : n < L1.length := by
    rw [a.w1.len]
    exact (List.getElem?_eq_some_iff.mp h3).1
  have h4 : L1[n]? = some b := by
    obtain ⟨t, et⟩ := a.ext.pre
    rw [← et, List.getElem?_append_left hn] at h1
    exact h1
  obtain ⟨ws, q, r⟩ := a.w1.fl n b ys h4 h3
  rcases q with q | ⟨q, _⟩
  · exact .inl ⟨ws, q, r.ext a.w1 a.ext⟩
  · refine .inr fun e => ?_
    rw [e] at q
    rcases q with q | ⟨o, q⟩ <;> (rw [a.free] at q; cases q)
/-- the list is written -/
theorem Acc.put (a : Acc K L1 H1 st1 D L H st vs) (w : Wd K L H st) (us : List V) : Acc K L1 H1 st1 D L (upd H D (.lst us)) st us ∧ Wd K L (upd H D (.lst us)) st ∧ (∀ P, TabOk H P → TabOk (upd H D (.lst us)) P) ∧ ∀ b o, H b = some o → (∀ xs, o ≠ .lst xs) → upd H D (.lst us) b = some o := by
  have ne : ∀ b o, H b = some o → (∀ xs, o ≠ .lst xs) → upd H D (.lst us) b = some o := fun b o e t => by
    rw [upd_ne (fun z => t vs (Option.some.inj (by rw [← e, z, a.at_])))]
    exact e
  have ht : ∀ c xs, H c = some (.tup xs) → upd H D (.lst us) c = some (.tup xs) := fun c xs e => ne c _ e fun _ z => by cases z
  have neD : ∀ b o, H1 b = some o → b ≠ D := fun b o e z => by
    rw [z, a.free] at e
    cases e
  refine ⟨⟨⟨a.ext.pre, fun b o e n t => ?_, fun b ps e => ?_, fun P h => (a.ext.tab P h).mono ne, a.ext.new, a.ext.fl⟩, upd_same, a.nw, a.free, a.w1⟩, ⟨w.len, w.nd, fun n b xs h1 h2 => ?_, fun n b xs h1 h2 => ?_⟩, fun P h => h.mono ne, ne⟩
  · rw [upd_ne (neD b o e)]
    exact a.ext.keep b o e n t
  · obtain ⟨more, q⟩ := a.ext.tbl b ps e
    exact ⟨more, by rw [upd_ne (neD b _ e)]; exact q⟩
  · obtain ⟨ws, q, r⟩ := w.lst n b xs h1 h2
    refine ⟨ws, ?_, r.mono List.prefix_rfl ht⟩
    rw [upd_ne (fun z => a.nw ⟨n, xs, by rw [← z]; exact h1, h2⟩)]
    exact q
  · obtain ⟨ws, q, r⟩ := w.fl n b xs h1 h2
    rcases q with q | ⟨q, nw⟩
    · exact ⟨ws, .inl q, r.mono List.prefix_rfl ht⟩
    · rcases a.apart h1 h2 q with ⟨zs, z1, z2⟩ | z
      · exact ⟨zs, .inl z1, z2.mono List.prefix_rfl ht⟩
      · refine ⟨ws, .inr ⟨?_, nw⟩, r.mono List.prefix_rfl ht⟩
        rcases q with q | ⟨o, q⟩
        · exact .inl (by rw [upd_ne z]; exact q)
        · exact .inr ⟨o, by rw [upd_ne z]; exact q⟩
theorem Acc.step (a : Acc K L1 H1 st1 D L H st vs) (e : Ext L H st L' H' st') : Acc K L1 H1 st1 D L' H' st' vs :=
  ⟨a.ext.trans e, e.keep D _ a.at_ a.nw (fun _ z => by cases z), fun h => (e.new D h).elim a.nw (fun z => by rw [a.at_] at z; cases z), a.free, a.w1⟩
theorem Acc.start (w : Wd K L1 H1 st1) (h : H1 D = none) : Acc K L1 H1 st1 D L1 (upd H1 D (.lst [])) st1 [] ∧ Wd K L1 (upd H1 D (.lst [])) st1 :=
  ⟨⟨Ext.grow (grow_upd h), upd_same, (fun ⟨n, xs, e1, e2⟩ => by
    obtain ⟨vs, q, _⟩ := w.lst n D xs e1 e2
    rw [h] at q
    cases q), h, w⟩, w.grow (grow_upd h)⟩
/-- it joins the store -/
theorem Acc.adopt (a : Acc K L1 H1 st1 D L H st vs) (w : Wd K L H st) (r : Reps K H L xs vs) : Ext L1 H1 st1 (L ++ [D]) H (st ++ [MO.lst xs]) ∧ Wd K (L ++ [D]) H (st ++ [MO.lst xs]) := by
  have at_ : ∀ (n : Nat) (b : Addr) (o : MO), (L ++ [D])[n]? = some b → (st ++ [MO.lst xs])[n]? = some o → (L[n]? = some b ∧ st[n]? = some o) ∨ (n = L.length ∧ b = D ∧ o = MO.lst xs) := fun n b o e1 e2 => by
    by_cases hn : n < L.length
    · rw [List.getElem?_append_left hn] at e1
      rw [List.getElem?_append_left (by rw [← w.len]; exact hn)] at e2
      exact .inl ⟨e1, e2⟩
    · have hn' : L.length ≤ n := Nat.le_of_not_lt hn
      rw [List.getElem?_append_right hn'] at e1
      rw [List.getElem?_append_right (by rw [← w.len]; exact hn')] at e2
      obtain ⟨h3, e3⟩ := List.getElem?_eq_some_iff.mp e1
      simp only [List.length_singleton] at h3
      have h4 : n - L.length = 0 := by omega
      have h5 : n - st.length = 0 := by rw [← w.len]; exact h4
      simp only [h4, List.getElem_cons_zero] at e3
      rw [h5] at e2
      exact .inr ⟨by omega, e3.symm, (Option.some.inj e2).symm⟩
  have pre : L <+: L ++ [D] := List.prefix_append _ _
  have tid : ∀ c xs, H c = some (.tup xs) → H c = some (.tup xs) := fun _ _ h => h
  refine ⟨⟨a.ext.pre.trans pre, a.ext.keep, a.ext.tbl, a.ext.tab, fun b ⟨n, ys, e1, e2⟩ => ?_, fun n ys e2 => ?_⟩, ⟨?_, fun n m b ys zs e1 e2 e3 e4 => ?_, fun n b ys e1 e2 => ?_, fun n b ys e1 e2 => ?_⟩⟩
  · rcases at_ n b _ e1 e2 with ⟨h1, h2⟩ | ⟨_, h2, _⟩
    · exact a.ext.new b ⟨n, ys, h1, h2⟩
    · rw [h2]
      exact .inr a.free
  · by_cases hn : n < st.length
    · rw [List.getElem?_append_left hn] at e2
      exact a.ext.fl n ys e2
    · have hn' : st.length ≤ n := Nat.le_of_not_lt hn
      rw [List.getElem?_append_right hn'] at e2
      obtain ⟨h3, e3⟩ := List.getElem?_eq_some_iff.mp e2
      simp only [List.length_singleton] at h3
      have h4 : n - st.length = 0 := by omega
      simp only [h4, List.getElem_cons_zero] at e3
      cases e3
  · rw [List.length_append, List.length_append, w.len, List.length_singleton, List.length_singleton]
  · rcases at_ n b _ e1 e3 with ⟨h1, h2⟩ | ⟨h1, h2, _⟩
    · rcases at_ m b _ e2 e4 with ⟨h3, h4⟩ | ⟨h3, h4, _⟩
      · exact w.nd n m b ys zs h1 h3 h2 h4
      · exact (a.nw ⟨n, ys, by rw [← h4]; exact h1, h2⟩).elim
    · rcases at_ m b _ e2 e4 with ⟨h3, h4⟩ | ⟨h3, h4, _⟩
      · exact (a.nw ⟨m, zs, by rw [← h2]; exact h3, h4⟩).elim
      · omega
  · rcases at_ n b _ e1 e2 with ⟨h1, h2⟩ | ⟨_, h2, h3⟩
    · obtain ⟨ws, q, r2⟩ := w.lst n b ys h1 h2
      exact ⟨ws, q, r2.mono pre tid⟩
    · cases h3
      exact ⟨vs, by rw [h2]; exact a.at_, r.mono pre tid⟩
  · rcases at_ n b _ e1 e2 with ⟨h1, h2⟩ | ⟨_, _, h3⟩
    · obtain ⟨ws, q, r2⟩ := w.fl n b ys h1 h2
      rcases q with q | ⟨q, nw⟩
      · exact ⟨ws, .inl q, r2.mono pre tid⟩
      · rcases a.apart h1 h2 q with ⟨zs, z1, z2⟩ | z
        · exact ⟨zs, .inl z1, z2.mono pre tid⟩
        · refine ⟨ws, .inr ⟨q, fun ⟨m, zs, e3, e4⟩ => ?_⟩, r2.mono pre tid⟩
          rcases at_ m b _ e3 e4 with ⟨h5, h6⟩ | ⟨_, h6, _⟩
          · exact nw ⟨m, zs, h5, h6⟩
          · exact z h6
    · cases h3
end

/-! ### tests of a clause -/
def tMF (m : Md) (ys : List E) : TT := fun σ H Q => ∃ L env st b st', EnvOk m.K H L σ env ∧ Wo m.K m.base m.g m.c m.P L H st ∧ evIfs (m.g.C m.k) m.g.G ys env st = some (b, st') ∧ FinA m.K L H st b st' Q
theorem PTs.weak {X : Cx} {e : List Expr} {t t' : TT} (h : PTs X e t) (i : ∀ σ H Q, t' σ H Q → t σ H Q) : PTs X e t' := ⟨fun pins s σ H Q I q => h.run pins s σ H Q I (i σ H Q q)⟩
section
variable {X : Cx} {g : Gc} {N : List Str} {sc : Scope} {d k : Nat} {c P : Addr} {tg a b e : Expr} {ea eb ec : E} {pos : Pos} {es : List Expr} {xs : List E}
theorem sf_nil : PTs X [] (tMF (mdOf X g k c P) []) :=
  PTs.weak pts_nil fun σ H Q ⟨L, env, st, b, st', he, w, hv, f⟩ => by
    unfold evIfs at hv
    cases hv
    exact f L H Ext.refl w.wd
theorem sf_one (ha : PT X a (tMT (mdOf X g k c P) ea)) : PTs X [a] (tMF (mdOf X g k c P) [ea]) :=
  PTs.weak (pts_one ha) fun σ H Q ⟨L, env, st, b, st', he, w, hv, f⟩ => by
    unfold evIfs evIfs at hv
    obtain ⟨x, s1, e1, h1⟩ := bind_inv hv
    refine tMT.mk he w e1 fun L1 H1 x1 w1 he1 => ?_
    cases x with
    | true =>
      rw [if_pos rfl] at h1
      cases h1
      exact f L1 H1 x1 w1.wd
    | false =>
      rw [if_neg Bool.false_ne_true] at h1
      cases h1
      exact f L1 H1 x1 w1.wd

/-! ### the block -/
theorem lookup_relS_free {sc : Scope} (hk : sc.kind = .function) : ∀ {names : List (Str × NameKind)} {x : Str}, names.lookup x = some NameKind.free → (sc.names.lookup x = some .cell ∨ sc.names.lookup x = some .free) →
    (names.map fun (n, k) => if (k == NameKind.free && sc.kind == .function && sc.names.lookup n == some .cell) then (n, NameKind.cell) else (n, k)).lookup x = some .cell ∨
    (names.map fun (n, k) => if (k == NameKind.free && sc.kind == .function && sc.names.lookup n == some .cell) then (n, NameKind.cell) else (n, k)).lookup x = some .free
  | [], _, h, _ => by simp at h
  | (n, k₀) :: r, x, h, hs => by
    have ih := @lookup_relS_free sc hk r x
    rw [List.map_cons]
    cases hx : x == n with
    | true =>
      rw [List.lookup_cons, hx] at h
      cases h
      by_cases hc : (NameKind.free == NameKind.free && sc.kind == .function && sc.names.lookup n == some .cell) = true
      · left
        simp only [hc, if_true, List.lookup_cons, hx]
      · right
        simp only [if_neg hc, List.lookup_cons, hx]
    | false =>
      rw [List.lookup_cons, hx] at h
      have ih' := ih h hs
      by_cases hc : (k₀ == NameKind.free && sc.kind == .function && sc.names.lookup n == some .cell) = true
      · simp only [hc, if_true, List.lookup_cons, hx]
        exact ih'
      · simp only [if_neg hc, List.lookup_cons, hx]
        exact ih'
theorem XOk.blk {scope : Scope} {own : List (Str × Nat)} (O : XOk g N sc d k c X) (hb : blkC N sc scope own = true) (s : Shared) (H : Hp) (C : Addr) (cl : List (Str × Addr)) (fp : List Addr) :
    XOk g N scope d k c (X.blk s H scope (compEnvC scope cl C X.env) fp) := by
  have B := blkOk_by hb
  have fr : ∀ x, scope.names.lookup x = some .free → X.env.scope.names.lookup x = some .cell ∨ X.env.scope.names.lookup x = some .free := fun x h => by
    rcases B.free _ (PySem.mem_of_lookup h) rfl with z | z
    · exact .inl (O.cell x z).1
    · exact O.free x z
  exact { hN := O.hN, nd := O.nd, calm := O.calm, room := O.room
          loc := fun x h => lookup_relS_keep (by decide) h
          cell := fun x h => ⟨lookup_relS_keep (by decide) h, by
            show (scope.names.lookup x == some NameKind.cell) = true
            rw [h]
            rfl⟩
          free := fun x h => lookup_relS_free O.kind h (fr x h)
          kind := B.kind
          glo := fun x h => lookup_relS_keep (by decide) h
          code := O.code
          fns := O.fns
          xe := rfl }
theorem XOk.blkOk {scope : Scope} {own : List (Str × Nat)} (O : XOk g N sc d k c X) (hb : blkC N sc scope own = true) : BlkOk X.N X.env.scope scope own := by
  have B := blkOk_by hb
  rw [O.hN]
  exact ⟨B.kind, B.uniq, B.ix, fun y hy e => (B.free y hy e).elim (fun z => .inl (O.cell _ z).1) (fun z => O.free _ z), B.own⟩
theorem wipe_same {σ σ' : L2.St} {vs ns : List Nat} (h : Same ns σ σ') (hv : ∀ n ∈ ns, n ∈ vs) : L2.wipe σ' vs = L2.wipe σ vs := by
  apply List.ext_getElem?
  intro j
  by_cases hj : j ∈ vs
  · have gone : ∀ (τ : L2.St) (ws : List Nat), j ∈ ws → (L2.wipe τ ws)[j]? = if j < τ.length then some none else none := by
      intro τ ws
      induction ws with
      | nil => intro z; cases z
      | cons w ws ih =>
        intro z
        unfold L2.wipe
        by_cases e : w = j
        · subst e
          by_cases hl : w < τ.length
          · rw [List.getElem?_set_self (by rw [wipe_length]; exact hl), if_pos hl]
          · rw [List.getElem?_eq_none (by rw [List.length_set, wipe_length]; omega), if_neg hl]
        · rw [List.getElem?_set_ne e]
          exact ih ((List.mem_cons.mp z).resolve_left fun q => e q.symm)
    rw [gone σ' vs hj, gone σ vs hj, h.1]
  · rw [wipe_out hj, wipe_out hj]
    exact h.2 j fun z => hj (hv j z)
theorem wipe_wipe (σ : L2.St) (vs : List Nat) : L2.wipe (L2.wipe σ vs) vs = L2.wipe σ vs := by
  have : Same vs σ (L2.wipe σ vs) := ⟨wipe_length σ vs, fun j hj => wipe_out hj⟩
  exact wipe_same this fun _ h => h

/-! ### one clause -/
theorem compLoop_len {turn : PV → List PV → Sto → Res (List PV × Bool)} {gs : List (Nat × List PV)} (ht : ∀ x acc st r st', turn x acc st = some (r, st') → acc.length ≤ r.1.length) : ∀ {xs : List PV} {acc : List PV} {st : Sto} {r : List PV × Bool} {st' : Sto},
    compLoop turn gs xs acc st = some (r, st') → acc.length ≤ r.1.length
  | [], acc, st, r, st', h => by
    unfold compLoop at h
    obtain ⟨_, h2⟩ := ite_some h
    cases h2
    exact Nat.le_refl _
  | x :: xs, acc, st, r, st', h => by
    unfold compLoop at h
    split at h
    · obtain ⟨q, s1, e1, h1⟩ := bind_inv h
      have l1 := ht _ _ _ _ _ e1
      by_cases hq : q.2 = true
      · rw [if_pos hq] at h1
        cases h1
        exact l1
      · rw [if_neg hq] at h1
        exact Nat.le_trans l1 (compLoop_len ht h1)
    · cases h
def turn1 (C : Str → List PV → Sto → Res PV) (G : Str → Option PV) (t : T) (ifs : List E) (body : Mp.Env → List PV → Sto → Res (List PV × Bool)) (env : Mp.Env) : PV → List PV → Sto → Res (List PV × Bool) :=
  fun x acc st => (evT C G t x env st).bind fun env' st => (evIfs C G ifs env' st).bind fun b st => if b then body env' acc st else some ((acc, false), st)
def bodyL (C : Str → List PV → Sto → Res PV) (G : Str → Option PV) (elt : E) : Mp.Env → List PV → Sto → Res (List PV × Bool) := fun env acc st => (evE C G elt env st).bind fun v st => some ((acc ++ [v], false), st)
theorem evE_lc1 {C : Str → List PV → Sto → Res PV} {G : Str → Option PV} {vs : List Nat} {elt : E} {t : T} {it : It} {ifs : List E} {env : Mp.Env} {st : Sto} :
    evE C G (.comp .lst vs elt [.mk t it ifs]) env st = ((evIt C G it (wipe env vs) st).bind fun w st => compLoop (turn1 C G t ifs (bodyL C G elt) (wipe env vs)) w.gs w.xs [] st).bind fun r st => newL r.1 st := by
  unfold evE evCls evCl evCls
  rfl
theorem turn1_len {C : Str → List PV → Sto → Res PV} {G : Str → Option PV} {t : T} {ifs : List E} {body : Mp.Env → List PV → Sto → Res (List PV × Bool)} {env : Mp.Env} (hb : ∀ env acc st r st', body env acc st = some (r, st') → acc.length ≤ r.1.length) :
    ∀ x acc st r st', turn1 C G t ifs body env x acc st = some (r, st') → acc.length ≤ r.1.length := by
  intro x acc st r st' h
  obtain ⟨env', s1, e1, h1⟩ := bind_inv h
  obtain ⟨b, s2, e2, h2⟩ := bind_inv h1
  cases b with
  | true => exact hb _ _ _ _ _ h2
  | false => cases h2; exact Nat.le_refl _
theorem bodyL_len {C : Str → List PV → Sto → Res PV} {G : Str → Option PV} {elt : E} : ∀ env acc st r st', bodyL C G elt env acc st = some (r, st') → acc.length ≤ r.1.length := by
  intro env acc st r st' h
  obtain ⟨v, s1, e1, h1⟩ := bind_inv h
  cases h1
  rw [List.length_append]
  exact Nat.le_add_right _ _
theorem turn1_no {C : Str → List PV → Sto → Res PV} {G : Str → Option PV} {t : T} {ifs : List E} {elt : E} {env : Mp.Env} {x : PV} {acc : List PV} {st : Sto} {r : List PV × Bool} {st' : Sto} (h : turn1 C G t ifs (bodyL C G elt) env x acc st = some (r, st')) : r.2 = false := by
  obtain ⟨env', s1, e1, h1⟩ := bind_inv h
  obtain ⟨b, s2, e2, h2⟩ := bind_inv h1
  cases b with
  | true =>
    obtain ⟨v, s3, e3, h3⟩ := bind_inv h2
    cases h3
    rfl
  | false => cases h2; rfl
/-- the reading of a list comprehension -/
theorem lc_seq {own : List (Str × Nat)} {y : T} {z : It} {ws : List E} {x : E} {σ : L2.St} {H : Hp} {Q : VK} (hv : ∀ n ∈ tNames y, n ∈ own.map (·.2)) (h : tM (mdOf X g k c P) (.comp .lst (own.map (·.2)) x [.mk y z ws]) σ H Q) :
    tLc (tMI (mdOf X g k c P) z) (tMG (mdOf X g k c P) y) (tMF (mdOf X g k c P) ws) (tM (mdOf X g k c P) x) (own.map (·.2)) σ H Q := by
  generalize own.map (·.2) = vs at hv h ⊢
  obtain ⟨L, env, st, pv, st', he, w, hev, f⟩ := h
  rw [evE_lc1] at hev
  obtain ⟨r, s1, e1, h1⟩ := bind_inv hev
  obtain ⟨wk, s2, e2, h2⟩ := bind_inv e1
  obtain ⟨hz, rfl, rfl⟩ := newL_eq h1
  refine ⟨L, wipe env vs, st, wk, s2, he.wiped vs, w, e2, fun L1 H1 J x1 wd1 hJ => ?_⟩
  intro D hD
  have w1 : Wo X.K X.base g c P L1 H1 s2 := w.ext x1 wd1
  have he1 : EnvOk X.K H1 L1 (L2.wipe σ vs) (wipe env vs) := (he.ext w.wd x1).wipe vs
  refine ⟨fun i m H2 => ∃ L2 st2 acc avs, Acc X.K L1 H1 s2 D L2 H2 st2 avs ∧ Wo X.K X.base g c P L2 H2 st2 ∧ Reps X.K H2 L2 acc avs ∧ i ≤ wk.xs.length ∧ m = wk.xs.length - i ∧
    compLoop (turn1 (g.C k) g.G y ws (bodyL (g.C k) g.G x) (wipe env vs)) wk.gs (wk.xs.drop i) acc st2 = some (r, s1), ⟨wk.xs.length, ?_⟩, ?_⟩
  · obtain ⟨a0, wd0⟩ := Acc.start wd1 hD
    exact ⟨L1, s2, [], [], a0, w1.ext (Ext.grow (grow_upd hD)) wd0, .nil, Nat.zero_le _, by rw [Nat.sub_zero], by rw [List.drop_zero]; exact h2⟩
  · rintro i m H2 ⟨L2, st2, acc, avs, a2, w2, ra, hi, rfl, hl⟩
    have hx2 : Ext L1 H1 s2 L2 H2 st2 := a2.ext
    have he2 : EnvOk X.K H2 L2 (_root_.L2.wipe σ vs) (wipe env vs) := he1.ext wd1 hx2
    by_cases hi' : i = wk.xs.length
    · left
      subst hi'
      rw [List.drop_length] at hl
      unfold compLoop at hl
      obtain ⟨hg, hl⟩ := ite_some hl
      cases hl
      refine ⟨hJ.stop L2 H2 _ hx2 w2.wd hg, ?_⟩
      obtain ⟨e3, w3⟩ := a2.adopt w2.wd ra
      refine f _ _ _ (x1.trans e3) w3 ?_
      unfold Rep
      refine ⟨D, rfl, ?_⟩
      rw [← w2.wd.len, List.getElem?_append_right (Nat.le_refl _), Nat.sub_self]
      rfl
    · right
      have hlt : i < wk.xs.length := by omega
      have hd : wk.xs.drop i = wk.xs[i] :: wk.xs.drop (i + 1) := List.drop_eq_getElem_cons hlt
      rw [hd] at hl
      unfold compLoop at hl
      split at hl
      case isFalse => cases hl
      rename_i hg
      obtain ⟨q, s3, e3, hl⟩ := bind_inv hl
      have hq := turn1_no e3
      rw [if_neg (by rw [hq]; exact Bool.false_ne_true)] at hl
      obtain ⟨j1, j2⟩ := hJ.go L2 H2 st2 hx2 w2.wd hg i _ (List.getElem?_eq_getElem hlt)
      refine ⟨j1, fun H9 => ∃ L9 avs9, Acc X.K L1 H1 s2 D L9 H9 s3 avs9 ∧ Wo X.K X.base g c P L9 H9 s3 ∧ Reps X.K H9 L9 q.1 avs9, ?_, ?_⟩
      · rintro H9 ⟨L9, avs9, a9, w9, r9⟩
        exact ⟨wk.xs.length - (i + 1), by omega, L9, s3, q.1, avs9, a9, w9, r9, hlt, rfl, hl⟩
      · intro v H3 hy
        obtain ⟨grow, rv⟩ := j2 v H3 hy
        have x3 : Ext L2 H2 st2 L2 H3 st2 := Ext.grow grow
        have w3 := w2.ext x3 (w2.wd.grow grow)
        have a3 := a2.step x3
        obtain ⟨env', s4, e4, h4⟩ := bind_inv e3
        refine ⟨L2, wipe env vs, st2, _, env', s4, he2.ext w2.wd x3, w3, rv, e4, fun L4 H4 σ4 x4 wd4 he4 m4 => ?_⟩
        have w4 := w3.ext x4 wd4
        refine ⟨?_, ?_⟩
        · rw [wipe_same m4 hv, wipe_wipe]
        obtain ⟨b, s5, e5, h5⟩ := bind_inv h4
        refine ⟨L4, env', s4, b, s5, he4, w4, e5, fun L5 H5 x5 wd5 => ?_⟩
        have w5 := w4.ext x5 wd5
        have he5 := he4.ext wd4 x5
        have a5 : Acc X.K L1 H1 s2 D L5 H5 s5 avs := (a3.step x4).step x5
        have ra5 : Reps X.K H5 L5 acc avs := ((ra.ext w2.wd x3).ext w3.wd x4).ext wd4 x5
        cases b with
        | false =>
          show if false = true then _ else _
          rw [if_neg Bool.false_ne_true] at h5 ⊢
          cases h5
          exact ⟨L5, avs, a5, w5, ra5⟩
        | true =>
          show if true = true then _ else _
          rw [if_pos rfl] at h5 ⊢
          obtain ⟨pv, s6, e6, h6⟩ := bind_inv h5
          cases h6
          refine ⟨L5, env', s5, pv, _, he5, w5, e6, fun L6 H6 u x6 wd6 r6 => ?_⟩
          have a6 := a5.step x6
          have w6 := w5.ext x6 wd6
          have ra6 := ra5.ext wd5 x6
          have hlen : (acc ++ [pv]).length ≤ r.1.length := compLoop_len (turn1_len bodyL_len) hl
          rw [List.length_append, List.length_singleton] at hlen
          obtain ⟨a7, wd7, t7, n7⟩ := a6.put wd6 (avs ++ [u])
          have ht7 : ∀ c xs, H6 c = some (.tup xs) → upd H6 D (.lst (avs ++ [u])) c = some (.tup xs) := fun c xs e => n7 c _ e fun _ z => by cases z
          refine ⟨avs, a6.at_, by rw [ra6.length]; omega, L6, avs ++ [u], a7, ⟨wd7, fun a ha => t7 a (w6.tabs a ha), t7 P w6.tab, w6.code.elim .inl fun z => .inr (n7 c _ z fun _ z => by unfold CodeT at z; cases z)⟩, ?_⟩
          exact (ra6.append (.cons r6 .nil)).mono List.prefix_rfl ht7
theorem foldSet {iter : Expr} (h : isSet iter = false) (env : PySem.Env) (x : Value) : foldedSetIterable iter env x = pure x := by
  cases iter <;> first | rfl | cases h
theorem se_lc {own : List (Str × Nat)} {scope : Scope} {y : T} {z : It} {ws : List E} {x : E} {elt tg iter : Expr} {ifs : List Expr} (O : XOk g N sc d k c X) (hb : blkC N sc scope own = true) (hv : ∀ n ∈ tNames y, n ∈ own.map (·.2)) (hset : isSet iter = false)
    (hi : PI X tg iter (tMI (mdOf X g k c P) z)) (hg : ∀ Y, XOk g N scope d k c Y → PG Y tg (tMG (mdOf Y g k c P) y)) (ht : ∀ Y, XOk g N scope d k c Y → PTs Y ifs (tMF (mdOf Y g k c P) ws)) (he : ∀ Y, XOk g N scope d k c Y → PE Y elt (tM (mdOf Y g k c P) x)) :
    PE X (.ListComp elt [⟨tg, iter, ifs, 0⟩] scope pos) (tM (mdOf X g k c P) (.comp .lst (own.map (·.2)) x [.mk y z ws])) :=
  PE.weak (pe_lc O.calm (by rw [O.hN]; exact O.nd) hi (O.blkOk hb) (fun s H C cl fp => hg _ (O.blk hb s H C cl fp)) (fun s H C cl fp => ht _ (O.blk hb s H C cl fp)) (fun s H C cl fp => he _ (O.blk hb s H C cl fp)) (foldSet hset X.env)) fun σ H Q h => lc_seq hv h
/-- name = [..] -/
theorem ss_setLc {i : Nat} {n : Str} {pn spos : Pos} {own : List (Str × Nat)} {scope : Scope} {y : T} {z : It} {ws : List E} {x : E} {elt tg iter : Expr} {ifs : List Expr} (O : XOk g N sc d k c X) (hb : blkC N sc scope own = true) (hv : ∀ n ∈ tNames y, n ∈ own.map (·.2)) (hset : isSet iter = false)
    (hi : PI X tg iter (tMI (mdOf X g k c P) z)) (hg : ∀ Y, XOk g N scope d k c Y → PG Y tg (tMG (mdOf Y g k c P) y)) (ht : ∀ Y, XOk g N scope d k c Y → PTs Y ifs (tMF (mdOf Y g k c P) ws)) (he : ∀ Y, XOk g N scope d k c Y → PE Y elt (tM (mdOf Y g k c P) x))
    (hn : N[i]? = some n) (hl : X.env.scope.names.lookup n = some .local) (hsw : swapsWith (.ListComp elt [⟨tg, iter, ifs, 0⟩] scope pos) (some (.Name n pn)) spos.line X.env = pure true) :
    PS X (.Assign [.Name n pn] (.ListComp elt [⟨tg, iter, ifs, 0⟩] scope pos) spos) (tAsg (tM (mdOf X g k c P) (.comp .lst (own.map (·.2)) x [.mk y z ws])) (gName i)) :=
  ⟨fun pins s σ H D I q => (ps_setLc O.calm (by rw [O.hN]; exact O.nd) (by rw [O.hN]; exact hn) hl hsw hi (O.blkOk hb) (fun s H C cl fp => hg _ (O.blk hb s H C cl fp)) (fun s H C cl fp => ht _ (O.blk hb s H C cl fp)) (fun s H C cl fp => he _ (O.blk hb s H C cl fp)) (foldSet hset X.env)).run pins s σ H D I (lc_seq hv q)⟩
end
end Mp
set_option Elab.async false
set_option linter.all false
set_option maxRecDepth 100000
set_option maxHeartbeats 1000000
/-! MpGen: generator expressions: the generator's side. -/
namespace Mp
open PySem PySem.Spec PyProof.Rows L2 GenW

/-- the consumer's own objects, by what it has been given -/
structure Csm where
  Sa : List Addr
  C : List V → List (Addr × Obj) → Prop
  nc : ∀ vs op, C vs op → op.map (·.1) = Sa ∧ ∀ p ∈ op, ∀ v, p.2.data ≠ .cell v
/-- while the generator sleeps the consumer writes its own objects -/
structure Slp (cs : Csm) (vs : List V) (s s' : Shared) : Prop where
  os : s'.os = s.os
  bare : AllBare s'.gens
  keep : ∀ b o, b ∉ cs.Sa → s.heap.get? b = some o → s'.heap.get? b = some o
  own : ∃ op, cs.C vs op ∧ ∀ p ∈ op, s'.heap.get? p.1 = some p.2
/-- the context of the generator's frame -/
def genX (X : Cx) (s : Shared) (H : Hp) (cenv : PySem.Env) (A : Around) (fp : List Addr) (pn : List (Addr × Obj)) : Cx :=
  { X with A := A, s_0 := s, H_0 := H, env := cenv, outer := X.stack, stack := cenv :: X.stack, ex := fp, fn := fun x => cenv.scope.names.lookup x == some .cell, calm := true, pn := pn, xe := fun _ _ => False }
def GIm (Y : Cx) (cs : Csm) (ip : List (Addr × Obj)) (vs : List V) (σ : L2.St) (H : Hp) (s : Shared) : Prop := ∃ op, cs.C vs op ∧ Inv Y (op ++ ip) σ H s
structure Apt (Y : Cx) (cs : Csm) : Prop where
  own : ∀ b ∈ cs.Sa, Y.s_0.heap.objs.size ≤ b ∧ b ≠ Y.env.locals ∧ (∀ x c, Y.env.cells.lookup x = some c → c ≠ b) ∧ ∀ p ∈ Y.pn, p.1 ≠ b
  ex : ∀ b ∈ Y.ex, b ∉ cs.Sa ∧ ∀ p ∈ Y.pn, p.1 ≠ b
theorem GIm.woken {Y : Cx} {cs : Csm} {ip : List (Addr × Obj)} {vs us : List V} {σ : L2.St} {H : Hp} {s s' : Shared} (ap : Apt Y cs) (hip : ∀ p ∈ ip, p.1 ∉ cs.Sa) (h : GIm Y cs ip vs σ H s) (z : Slp cs us s s') : GIm Y cs ip us σ H s' := by
  obtain ⟨op, hC, I⟩ := h
  obtain ⟨hop, hnc⟩ := cs.nc vs op hC
  have inOp : ∀ b ∈ cs.Sa, ∃ o, (b, o) ∈ op := fun b hb => by
    rw [← hop] at hb
    obtain ⟨p, hp, e⟩ := List.mem_map.mp hb
    exact ⟨p.2, by rw [← e]; exact hp⟩
  have hS : ∀ b ∈ cs.Sa, H b = none ∧ b ∉ Y.fs ∧ ∃ o, s.heap.get? b = some o := fun b hb => by
    obtain ⟨o, ho⟩ := inOp b hb
    obtain ⟨h1, h2, _, h4, _⟩ := I.pin (b, o) (List.mem_append_right _ (List.mem_append_left _ ho))
    exact ⟨h2, h4, o, h1⟩
  have I0 : Inv Y ip σ H s := I.pins_of fun p hp => I.pin p (List.mem_append_right _ (List.mem_append_right _ hp))
  have nt : ∀ b u, H b = some u → b ∉ cs.Sa := fun b u q hb => by rw [(hS b hb).1] at q; cases q
  obtain ⟨z1, z2, z3, op', hC', z5⟩ := z
  obtain ⟨hop', hnc'⟩ := cs.nc us op' hC'
  have at' : ∀ b ∈ cs.Sa, ∃ o, s'.heap.get? b = some o := fun b hb => by
    rw [← hop'] at hb
    obtain ⟨p, hp, e⟩ := List.mem_map.mp hb
    exact ⟨p.2, by rw [← e]; exact z5 p hp⟩
  obtain ⟨hh, g, d, t, o⟩ := s'
  have ho : o = s.os := z1
  subst ho
  have J : Inv Y ip σ H { s with heap := hh, gens := g, drawn := d, toks := t } := by
    refine I0.step (g' := g) (t' := t) (d' := d) (ch := cs.Sa) (fun b hb => ?_)
      (fun b ob _ _ hc q _ => z3 b ob hc q) (fun b ob _ _ hc q _ => ⟨ob.slots, z3 b ob hc q⟩) (fun _ _ _ _ n => n) (fun b ob hc q => ⟨ob, z3 b ob hc q⟩)
      (fun _ _ q => q) (fun _ _ _ q => q) (fun b ps q => ⟨#[], by rw [q]; simp⟩) (fun m hm => ?_) (fun b u q => ?_) z2
    · obtain ⟨a1, a2, a3, a4⟩ := ap.own b hb
      refine ⟨.inr a1, a2, a3, fun p hp => ?_⟩
      rcases List.mem_append.mp hp with hp | hp
      · exact a4 p hp
      · exact fun e => hip p hp (by rw [e]; exact hb)
    · obtain ⟨ob, es, ep, ho, r⟩ := hm
      exact ⟨ob, es, ep, z3 _ ob (fun hb => (ap.own _ hb).2.1 rfl) ho, r⟩
    · refine (I0.hok b u q).stay (fun c v hc y => z3 c v ?_ y) (fun _ y => y) fun _ _ y => y
      rcases hc with y | y
      · rw [y]; exact nt b u q
      · exact nt c _ y
  refine ⟨op', hC', J.pins_of fun p hp => ?_⟩
  rcases List.mem_append.mp hp with hp | hp
  · have hb : p.1 ∈ cs.Sa := by rw [← hop']; exact List.mem_map.mpr ⟨p, hp, rfl⟩
    exact ⟨z5 p hp, (hS p.1 hb).1, (ap.own p.1 hb).2.1, (hS p.1 hb).2.1, hnc' p hp⟩
  · exact J.pin p (List.mem_append_right _ hp)

/-- .. and the consumer's objects stand as they did at s₀ -/
def GIs (Y : Cx) (cs : Csm) (ip : List (Addr × Obj)) (vs : List V) (σ : L2.St) (H : Hp) (s₀ s : Shared) : Prop := ∃ op, cs.C vs op ∧ Inv Y (op ++ ip) σ H s ∧ ∀ p ∈ op, s₀.heap.get? p.1 = some p.2
theorem GIs.gm {Y : Cx} {cs : Csm} {ip : List (Addr × Obj)} {vs : List V} {σ : L2.St} {H : Hp} {s₀ s : Shared} (h : GIs Y cs ip vs σ H s₀ s) : GIm Y cs ip vs σ H s := let ⟨op, a, b, _⟩ := h; ⟨op, a, b⟩
/-! ### the protocol -/
/-- an item comes out: either the consumer goes on, or it stops here -/
def GYm (Y : Cx) (cs : Csm) (tn : Nat) (Go Ha : List V → V → Hp → Prop) : Protocol := fun n s₀ v s kap =>
  ∃ vs x ip σ H, GIs Y cs ip vs σ H s₀ s ∧ RelV x v ∧ ((Go vs x H ∧ n + 1 + vs.length = tn ∧ ∀ s', Slp cs (vs ++ [x]) s s' → kap (.send .none) s') ∨ Ha vs x H)
def GRm (Y : Cx) (cs : Csm) (Qe : List V → Hp → Prop) : GenEnd := fun n s₀ r s => ((r = .ok (.ret .none) ∨ r = .ok .next) ∧ ∃ vs σ H, GIs Y cs [] vs σ H s₀ s ∧ Qe vs H) ∨ ∃ e, r = .error e ∧ False

def bodyG (C : Str → List PV → Sto → Res PV) (G : Str → Option PV) (kk : CK) (elt : E) : Mp.Env → List PV → Sto → Res (List PV × Bool) := fun env acc st => (evE C G elt env st).bind fun v st => match stops kk st v with
  | some b => some ((acc ++ [v], b), st)
  | none => none
theorem evE_g1 {C : Str → List PV → Sto → Res PV} {G : Str → Option PV} {kk : CK} {vs : List Nat} {elt : E} {t : T} {it : It} {ifs : List E} {env : Mp.Env} {st : Sto} :
    evE C G (.comp kk vs elt [.mk t it ifs]) env st = ((evIt C G it (wipe env vs) st).bind fun w st => compLoop (turn1 C G t ifs (bodyG C G kk elt) (wipe env vs)) w.gs w.xs [] st).bind fun r st => compEnd kk r.1 r.2 st := by
  unfold evE evCls evCl evCls
  rfl
theorem compLoop_pre {turn : PV → List PV → Sto → Res (List PV × Bool)} {gs : List (Nat × List PV)} (ht : ∀ x acc st r st', turn x acc st = some (r, st') → acc <+: r.1) : ∀ {xs : List PV} {acc : List PV} {st : Sto} {r : List PV × Bool} {st' : Sto},
    compLoop turn gs xs acc st = some (r, st') → acc <+: r.1
  | [], acc, st, r, st', h => by
    unfold compLoop at h
    obtain ⟨_, h2⟩ := ite_some h
    cases h2
    exact List.prefix_rfl
  | x :: xs, acc, st, r, st', h => by
    unfold compLoop at h
    split at h
    · obtain ⟨q, s1, e1, h1⟩ := bind_inv h
      have l1 := ht _ _ _ _ _ e1
      by_cases hq : q.2 = true
      · rw [if_pos hq] at h1
        cases h1
        exact l1
      · rw [if_neg hq] at h1
        exact l1.trans (compLoop_pre ht h1)
    · cases h
theorem bodyG_pre {C : Str → List PV → Sto → Res PV} {G : Str → Option PV} {kk : CK} {elt : E} : ∀ env acc st r st', bodyG C G kk elt env acc st = some (r, st') → acc <+: r.1 := by
  intro env acc st r st' h
  obtain ⟨v, s1, e1, h1⟩ := bind_inv h
  split at h1
  · cases h1
    exact List.prefix_append _ _
  · cases h1
theorem turn1_pre {C : Str → List PV → Sto → Res PV} {G : Str → Option PV} {t : T} {ifs : List E} {body : Mp.Env → List PV → Sto → Res (List PV × Bool)} {env : Mp.Env} (hb : ∀ env acc st r st', body env acc st = some (r, st') → acc <+: r.1) :
    ∀ x acc st r st', turn1 C G t ifs body env x acc st = some (r, st') → acc <+: r.1 := by
  intro x acc st r st' h
  obtain ⟨env', s1, e1, h1⟩ := bind_inv h
  obtain ⟨b, s2, e2, h2⟩ := bind_inv h1
  cases b with
  | true => exact hb _ _ _ _ _ h2
  | false => cases h2; exact List.prefix_rfl

section
variable {Y : Cx} {g : Gc} {k : Nat} {c P : Addr} {cs : Csm} {elt tg iter : Expr} {ifs : List Expr} {scope : Scope} {pos : Pos} {it : Addr} {tn : Nat → Heap → Prop} {J : L2.It} {A : Around} {y : T} {ws : List E} {x : E} {kk : CK}
/-- the turns of a generator expression of one clause -/
theorem seg_turns {σw : L2.St} {envw : Mp.Env} {wk : Wk} {L1 : List Addr} {H1 : Hp} {st1 : Sto} {rF : List PV} {bF : Bool} {stF : Sto} {Go Ha : List V → V → Hp → Prop} {Qe : List V → Hp → Prop}
    (hA : A.over (.compLoop (.GeneratorExp elt [⟨tg, iter, ifs, 0⟩] scope pos) 0 (.ref it) .none Y.env) [] = Y.A) (hcalm : Y.calm = true) (hxe : Y.xe = fun _ _ => False) (hco : Y.env.scope.isCoroutine = false)
    (T : Turn Y.prog Y.w Y.K tg J Y.ex it tn) (ap : Apt Y cs) (pg : PG Y tg (tMG (mdOf Y g k c P) y)) (pt : PTs Y ifs (tMF (mdOf Y g k c P) ws)) (pe : PE Y elt (tM (mdOf Y g k c P) x))
    (hw : ∀ i ∈ tNames y, ∀ v, σw[i]? ≠ some (some v)) (hJ : JOk Y.K J wk L1 H1 st1) (wd1 : Wd Y.K L1 H1 st1) (he1 : EnvOk Y.K H1 L1 σw envw)
    (hGo : ∀ L H st vs acc pv u, Ext L1 H1 st1 L H st → Wd Y.K L H st → Reps Y.K H L acc vs → Rep Y.K H L pv u → stops kk st pv = some false → acc ++ [pv] <+: rF → Go vs u H)
    (hHa : ∀ L H vs acc pv u, Ext L1 H1 st1 L H stF → Wd Y.K L H stF → Reps Y.K H L acc vs → Rep Y.K H L pv u → stops kk stF pv = some true → rF = acc ++ [pv] → bF = true → Ha vs u H)
    (hEnd : ∀ L H vs, Ext L1 H1 st1 L H stF → Wd Y.K L H stF → Reps Y.K H L rF vs → bF = false → Qe vs H) :
    ∀ (r n i : Nat) (s₀ s : Shared) (L : List Addr) (H : Hp) (st : Sto) (acc : List PV) (vs : List V), i + r = wk.xs.length → n + vs.length = rF.length → Ext L1 H1 st1 L H st → Wo Y.K Y.base g c P L H st → Reps Y.K H L acc vs →
      compLoop (turn1 (g.C k) g.G y ws (bodyG (g.C k) g.G kk x) envw) wk.gs (wk.xs.drop i) acc st = some ((rF, bF), stF) → GIs Y cs [] vs σw H s₀ s → tn i s.heap → (∀ b ∈ Y.ex, H b = none) →
      Seg (model Y.prog Y.w) A (GRm Y cs Qe) (GYm Y cs rF.length Go Ha) n s₀ (.compLoop (.GeneratorExp elt [⟨tg, iter, ifs, 0⟩] scope pos) 0 (.ref it) .none Y.env)
        ((model Y.prog Y.w).den (.compLoop (.GeneratorExp elt [⟨tg, iter, ifs, 0⟩] scope pos) 0 (.ref it) .none Y.env)) [] s := by
  have stat : ∀ {op : List (Addr × Obj)} {vs : List V} {σ' : L2.St} {H' : Hp} {s' : Shared}, cs.C vs op → Inv Y op σ' H' s' → (∀ b ∈ Y.ex, H' b = none) → ∀ b ∈ Y.ex, FpOk Y op H' b := fun {op vs σ' H' s'} hC I' hn b hb =>
    ⟨hn b hb, (I'.ok.exf b hb).1, I'.ok.exfs b hb, .inl hb, fun x c e => (I'.ok.exf b hb).2 x c e, fun p hp => by
      rcases List.mem_append.mp hp with hp | hp
      · exact (ap.ex b hb).2 p hp
      · exact fun e => (ap.ex b hb).1 (by rw [← (cs.nc vs op hC).1, ← e]; exact List.mem_map.mpr ⟨p, hp, rfl⟩)⟩
  have ff : ∀ {α : Type} {t : Sem α} {Q Q' : α → Shared → Prop} {E : Value → Shared → Prop} {B : Around} {s : Shared}, wpAny (model Y.prog Y.w) B t Q (fun _ _ => False) s → (∀ a s, Q a s → Q' a s) → wpAny (model Y.prog Y.w) B t Q' E s := fun h q => thnF h q
  intro r
  induction r with
  | zero =>
    intro n i s₀ s L H st acc vs hi hn hx wo ra hl hG hst hnf
    obtain ⟨op, hC, I0, hs0⟩ := hG
    have I : Inv Y op σw H s := by rw [List.append_nil] at I0; exact I0
    have hi' : i = wk.xs.length := by omega
    subst hi'
    rw [List.drop_length] at hl
    unfold compLoop at hl
    obtain ⟨hg, hl⟩ := ite_some hl
    cases hl
    show Seg _ A _ _ _ s₀ _ ((compTurn (.GeneratorExp elt [⟨tg, iter, ifs, 0⟩] scope pos) 0 (.ref it) .none Y.env).onRaise (leaving Y.env)) [] s
    rw [compTurn_gen, Sem.onRaise_eq_wrap]
    refine seg_bind_wrap (wpAny_standAt ?_)
    refine seg_bind_wrap ?_
    rw [hA]
    refine ff (T.done Y rfl rfl rfl hcalm _ op s σw H (fun _ _ => False) I (stat hC I hnf) hst (hJ.stop L H _ hx wo.wd hg)) fun r' s1 ⟨hr, I1⟩ => ?_
    subst hr
    exact seg_end (.ok .next) (.inl ⟨.inr rfl, vs, σw, H, ⟨op, hC, by rw [List.append_nil]; exact I1, hs0⟩, hEnd L H vs hx wo.wd ra rfl⟩)
  | succ r ih =>
    intro n i s₀ s L H st acc vs hi hn hx wo ra hl hG hst hnf
    obtain ⟨op, hC, I0, hs0⟩ := hG
    have I : Inv Y op σw H s := by rw [List.append_nil] at I0; exact I0
    have hlt : i < wk.xs.length := by omega
    have hd : wk.xs.drop i = wk.xs[i] :: wk.xs.drop (i + 1) := List.drop_eq_getElem_cons hlt
    rw [hd] at hl
    unfold compLoop at hl
    split at hl
    case isFalse => cases hl
    rename_i hg
    obtain ⟨q, s3, e3, hl⟩ := bind_inv hl
    obtain ⟨j1, j2⟩ := hJ.go L H st hx wo.wd hg i _ (List.getElem?_eq_getElem hlt)
    show Seg _ A _ _ _ s₀ _ ((compTurn (.GeneratorExp elt [⟨tg, iter, ifs, 0⟩] scope pos) 0 (.ref it) .none Y.env).onRaise (leaving Y.env)) [] s
    rw [compTurn_gen, Sem.onRaise_eq_wrap]
    refine seg_bind_wrap (wpAny_standAt ?_)
    refine seg_bind_wrap ?_
    rw [hA]
    refine ff (T.item Y rfl rfl rfl hcalm i op s σw H (fun _ _ => False) I (stat hC I hnf) hst j1) fun r' s6 ⟨u, hr, h6⟩ => ?_
    subst hr
    refine seg_bind_wrap ?_
    rw [hA]
    refine ff h6 fun _ s7 ⟨v, H7, I7, r7, y7, st7, n7⟩ => ?_
    obtain ⟨grow, rv⟩ := j2 v H7 y7
    have x7 : Ext L H st L H7 st := Ext.grow grow
    have w7 := wo.ext x7 (wo.wd.grow grow)
    have he7 : EnvOk Y.K H7 L σw envw := he1.ext wd1 (hx.trans x7)
    have I7' := I7.pinned (stat hC I7 n7) (T.obj _ _ st7)
    obtain ⟨env', s4, e4, h4⟩ := bind_inv e3
    refine seg_bind_wrap ?_
    rw [hA]
    have ag := pg.run _ s7 σw H7 v u (fun σ8 H8 => ∃ L8, Ext L H7 st L8 H8 s4 ∧ Wo Y.K Y.base g c P L8 H8 s4 ∧ EnvOk Y.K H8 L8 σ8 env' ∧ Same (tNames y) σw σ8) I7' r7
      ⟨L, envw, st, _, env', s4, he7, w7, rv, e4, fun L4 H4 σ4 x4 wd4 he4 m4 => ⟨L4, x4, w7.ext x4 wd4, he4, m4⟩⟩
    rw [hxe] at ag
    refine ff ag fun _ s8 ⟨σ8, H8, I8, L8, x8, w8, he8, m8⟩ => ?_
    obtain ⟨b, s5, e5, h5⟩ := bind_inv h4
    refine seg_bind_wrap ?_
    rw [hA]
    have at9 := pt.run _ s8 σ8 H8 (fun b' H9 => b' = b ∧ ∃ L9, Ext L8 H8 s4 L9 H9 s5 ∧ Wo Y.K Y.base g c P L9 H9 s5) I8 ⟨L8, env', s4, b, s5, he8, w8, e5, fun L5 H5 x5 wd5 => ⟨rfl, L5, x5, w8.ext x5 wd5⟩⟩
    rw [hxe] at at9
    refine ff at9 fun b' s9 ⟨H9, I9, hb9, L9, x9, w9⟩ => ?_
    subst hb9
    have hx9 : Ext L1 H1 st1 L9 H9 s5 := hx.trans (x7.trans (x8.trans x9))
    have ra9 : Reps Y.K H9 L9 acc vs := ((ra.ext wo.wd x7).ext w7.wd x8).ext w8.wd x9
    -- back at the head of the loop
    have weak : ∀ {op' : List (Addr × Obj)} {H' : Hp} {s' : Shared}, Inv Y (op' ++ pinsAt Y.ex s7.heap) σ8 H' s' → Inv Y op' σw H' s' ∧ tn (i + 1) s'.heap ∧ ∀ b ∈ Y.ex, H' b = none := fun {op' H' s'} I' => by
      have pin' : ∀ b ∈ Y.ex, ∀ o, s7.heap.get? b = some o → s'.heap.get? b = some o ∧ H' b = none := fun b hb o e =>
        let z := I'.pin (b, o) (List.mem_append_right _ (List.mem_append_right _ (mem_pinsAt hb e)))
        ⟨z.1, z.2.1⟩
      refine ⟨(I'.unpinned (pins := op')).weak m8.1.symm (fun j w e => ?_), T.keep _ _ _ st7 fun b hb o e => (pin' b hb o e).1, fun b hb => ?_⟩
      · rw [m8.2 j fun hj => hw j hj w e]
        exact e
      · obtain ⟨o, e, _⟩ := T.obj _ _ st7 b hb
        exact (pin' b hb o e).2
    cases b' with
    | false =>
      have h5 : (if false = true then bodyG (g.C k) g.G kk x env' acc s5 else some ((acc, false), s5)) = some (q, s3) := h5
      rw [if_neg Bool.false_ne_true] at h5
      cases h5
      simp only [Bool.false_eq_true, if_false] at hl ⊢
      obtain ⟨Iw, tw, nw⟩ := weak I9
      exact seg_again rfl (ih n (i + 1) s₀ s9 L9 H9 _ acc vs (by omega) hn hx9 w9 ra9 hl ⟨op, hC, by rw [List.append_nil]; exact Iw, hs0⟩ tw nw)
    | true =>
      have h5 : (if true = true then bodyG (g.C k) g.G kk x env' acc s5 else some ((acc, false), s5)) = some (q, s3) := h5
      rw [if_pos rfl] at h5
      obtain ⟨pv, s6, e6, h6'⟩ := bind_inv h5
      simp only [if_true]
      have hy : ∀ v, yieldOut Y.env v = yieldValue v := fun v => by simp only [yieldOut, hco, Bool.false_eq_true, if_false]
      simp only [hy]
      rw [Sem.bind_eq_wrap', Sem.bind_eq_wrap', Sem.wrap_wrap, Sem.wrap_wrap]
      refine seg_wrap ?_
      rw [hA]
      have he9 := he8.ext w8.wd x9
      have ae := pe.run _ s9 σ8 H9 (fun u' H10 => ∃ L10, Ext L9 H9 s5 L10 H10 s6 ∧ Wo Y.K Y.base g c P L10 H10 s6 ∧ Rep Y.K H10 L10 pv u') I9 ⟨L9, env', s5, pv, s6, he9, w9, e6, fun L6 H6 u' x6 wd6 r6 => ⟨L6, x6, w9.ext x6 wd6, r6⟩⟩
      rw [hxe] at ae
      refine ff ae fun val s10 ⟨u', H10, I10, r10, L10, x10, w10, rp10⟩ => ?_
      have hx10 := hx9.trans x10
      have ra10 := ra9.ext w9.wd x10
      have hG10 : GIs Y cs (pinsAt Y.ex s7.heap) vs σ8 H10 s₀ s10 := ⟨op, hC, I10, hs0⟩
      have hip : ∀ p ∈ pinsAt Y.ex s7.heap, p.1 ∉ cs.Sa := fun p hp => (ap.ex p.1 (of_pinsAt hp).1).1
      split at h6'
      case h_2 => cases h6'
      rename_i hb hsb
      cases hb with
      | true =>
        cases h6'
        rw [if_pos rfl] at hl
        cases hl
        obtain ⟨n, rfl⟩ | hn0 : (∃ m, n = m + 1) ∨ n = 0 := by cases n; exact .inr rfl; exact .inl ⟨_, rfl⟩
        · exact seg_at (seg_yield rfl rfl rfl ⟨vs, u', _, σ8, H10, hG10, r10, .inr (hHa L10 H10 vs acc pv u' hx10 w10.wd ra10 rp10 hsb rfl rfl)⟩)
        · subst hn0
          have := ra.length
          simp only [List.length_append, List.length_singleton] at hn
          omega
      | false =>
        cases h6'
        rw [if_neg Bool.false_ne_true] at hl
        have hpre := compLoop_pre (turn1_pre bodyG_pre) hl
        have hlen : acc.length + 1 ≤ rF.length := by
          have := hpre.length_le
          rw [List.length_append, List.length_singleton] at this
          exact this
        rw [← ra.length] at hlen
        obtain ⟨n, rfl⟩ : ∃ m, n = m + 1 := ⟨n - 1, by omega⟩
        refine seg_at (seg_yield rfl rfl rfl ⟨vs, u', _, σ8, H10, hG10, r10, .inl ⟨hGo L10 H10 _ vs acc pv u' hx10 w10.wd ra10 rp10 hsb hpre, by omega, fun s' z => ?_⟩⟩)
        obtain ⟨op2, hC2, I2⟩ := hG10.gm.woken ap hip z
        obtain ⟨Iw, tw, nw⟩ := weak I2
        exact seg_again rfl (ih n (i + 1) s' s' L10 H10 _ (acc ++ [pv]) (vs ++ [u']) (by omega) (by rw [List.length_append, List.length_singleton]; omega) hx10 w10 (ra10.append (.cons rp10 .nil)) hl ⟨op2, hC2, by rw [List.append_nil]; exact Iw, fun p hp => (I2.pin p (List.mem_append_right _ (List.mem_append_left _ hp))).1⟩ tw nw)
end
end Mp
set_option Elab.async false
set_option linter.all false
set_option maxRecDepth 100000
set_option maxHeartbeats 1000000
/-! MpGen2: generator expressions: the frame, the code object, the start. -/
namespace Mp
open PySem PySem.Spec PyProof.Rows L2 GenW

/-- the frame of a generator expression -/
theorem newEnv_gen {M : Model} {A : Around} {E : Value → Shared → Prop} {s : Shared} {scope : Scope} {globals : Addr} {closure : List (Str × Addr)} {it : Value} {qual : Str} {code : Value} {builtins : Addr} {Q : PySem.Env → Shared → Prop}
    (hk : scope.kind = .function) (h0 : scope.names.lookup (".0" : Str) = some NameKind.local)
    (h : ∀ h' tk, h'.Ns s.heap.objs.size (fun y => if y = (".0" : Str) then some it else none) → Heap.SameBut s.heap.objs.size (pushCells (s.heap.push { cls := .type "frame", data := .dict #[] }) scope.names) h' →
      Q (newEnv scope s.heap.objs.size globals (cellsFrom (s.heap.objs.size + 1) scope.names closure) qual none code none builtins) { s with heap := h', toks := tk }) :
    wpAny M A (newFunctionEnv scope globals closure [(".0", it)] qual none code none builtins) Q E s := by
  simp only [newFunctionEnv, Option.isSome_none, Bool.false_eq_true, if_false]
  refine wpAny_bind (wpAny_alloc ?_)
  refine wpAny_bind (wpAny_layCells _ (fun n k c => rfl) scope.names closure _ _ ?_)
  rw [show ({ s with heap := s.heap.push { cls := .type "frame", data := .dict #[] } } : Shared).heap.objs.size = s.heap.objs.size + 1 from Heap.size_push ..]
  rw [List.forIn_cons]
  have hn : (pushCells (s.heap.push { cls := .type "frame", data := .dict #[] }) scope.names).Ns s.heap.objs.size (fun _ => none) := (Heap.Ns.new s.heap (.type "frame")).keeps (pushCells_keeps _ _)
  refine wpAny_bind (wpAny_bind (wpAny_bind ?_))
  refine wpAny_storeName_local (env := newEnv scope s.heap.objs.size globals (cellsFrom (s.heap.objs.size + 1) scope.names closure) qual none code none builtins) h0 hn (fun h' hn' hs' => ?_)
    (by show (scope.kind == .class || (scope.kind == .module && _)) = false; rw [hk]; rfl)
  refine wpAny_pure ?_
  show wpAny M A (forIn ([] : List (Str × Value)) _ _) _ _ _
  rw [List.forIn_nil]
  exact wpAny_pure (wpAny_pure (h h' _ hn' hs'))

/-- an untracked new object is tracked -/
theorem track {X : Cx} {pins : List (Addr × Obj)} {σ : L2.St} {H : Hp} {s : Shared} {a : Addr} {o : HO} (I : Inv X pins σ H s) (ha : H a = none) (h0 : X.s_0.heap.objs.size ≤ a) (hL : a ≠ X.env.locals) (hc : ∀ x c, X.env.cells.lookup x = some c → c ≠ a) (hp : ∀ p ∈ X.pn ++ pins, p.1 ≠ a)
    (new : ObjOk X.prog X.w (upd H a o) s.heap a o) : Inv X pins σ (upd H a o) s := by
  have g := grow_upd (o := o) ha
  refine ⟨I.ok, I.os, I.bare, ⟨I.base.keep, I.base.slot, fun b ob q n hx => ?_, I.base.there, fun b xs q => g b _ (I.base.tups b xs q), fun b ob u q => g b _ (I.base.frzs b ob u q), fun b ps q => ?_⟩, I.loc, I.cell, ?_, fun x c e => ?_, fun p hp' => ?_, fun b u e => ?_, I.len⟩
  · rw [upd_ne (Nat.ne_of_lt (Nat.lt_of_lt_of_le (Heap.lt_size q) h0))]
    exact I.base.free b ob q n hx
  · obtain ⟨more, e⟩ := I.base.tbls b ps q
    exact ⟨more, g b _ e⟩
  · rw [upd_ne (Ne.symm hL)]
    exact I.free
  · rw [upd_ne (hc x c e)]
    exact I.freeC x c e
  · obtain ⟨e, n, r⟩ := I.pin p hp'
    exact ⟨e, by rw [upd_ne (hp p hp')]; exact n, r⟩
  · by_cases hb : b = a
    · subst hb
      rw [upd_same] at e
      cases e
      exact new
    · rw [upd_ne hb] at e
      exact (I.hok b u e).stay (fun _ _ _ z => z) (fun d z => g d _ z) fun d xs z => g d _ z

theorem codeHd_of {h : Heap} {c P : Addr} {ps : Array Value} (a : h.IsCode c P ps) (b : h.TableAt c P ps) : PySem.W.CodeHd h c P := by
  obtain ⟨o, vs, file, tf, flags, tg, inF, text, tt, op, ho, hd, h11, h2, h7, h9, h10, hop, hpd, htr, hne⟩ := a
  obtain ⟨⟨o', vs', ho', hc', hd', h11'⟩, _⟩ := b
  rw [ho] at ho'
  cases ho'
  rw [hd] at hd'
  cases hd'
  exact ⟨o, vs, file, tf, flags, tg, inF, text, tt, ho, hc', hd, h11', h11, h2, h7, h9, h10, hne⟩
theorem codeT_ok {P : Program} {w : World} {H : Hp} {h : Heap} {c Pt : Addr} (x : PySem.W.CodeHd h c Pt) : ObjOk P w H h c (CodeT c Pt) := by
  refine ⟨x, ?_, fun h1 h2 x1 k => ?_⟩
  · obtain ⟨o, vs, file, tf, flags, tg, inF, text, tt, ho, r⟩ := x
    exact ⟨o, ho⟩
  · obtain ⟨o, vs, file, tf, flags, tg, inF, text, tt, ho, r⟩ := x1
    exact ⟨o, vs, file, tf, flags, tg, inF, text, tt, k o ho, r⟩
theorem codeAmong_app {pos : Pos} {a b : Int} {ta tb : Tok} {c : Value} (l : List Value) (h : TriplesOk l) :
    codeAmong pos (l ++ [.int a ta, .int b tb, c]) = match codeAmong pos l with | some x => some x | none => if a == pos.line && b == pos.col then some c else none := by
  fun_induction TriplesOk l with
  | case1 => simp [codeAmong]
  | case2 x tx y ty v rest ih =>
    rw [List.cons_append, List.cons_append, List.cons_append]
    unfold codeAmong
    by_cases q : (x == pos.line && y == pos.col) = true
    · rw [if_pos q]
      simp only [if_pos q]
    · rw [if_neg q]
      simp only [if_neg q]
      exact ih h
  | case3 => exact h.elim
/-- the table at P has grown by a code object -/
theorem TabOk.grown {H H' : Hp} {P c' P' : Addr} {ps : Array Value} {pos : Pos} (hP : H P = some (.tbl ps)) (ht : TriplesOk ps.toList) (k : ∀ a o, H a = some o → a ≠ P → H' a = some o) (hP' : H' P = some (.tbl (ps ++ #[rawInt pos.line, rawInt pos.col, .ref c']))) (hc : H' c' = some (CodeT c' P')) (hn : TabOk H' P') :
    ∀ {P0 : Addr}, TabOk H P0 → TabOk H' P0 := by
  intro P0 t
  induction t with
  | @mk P1 ps1 cf h1 h2 h3 h4 ih =>
    have neP : ∀ (a : Addr) (q : Addr), H a = some (CodeT a q) → a ≠ P := fun a q e z => by
      rw [z, hP] at e
      unfold CodeT at e
      cases e
    by_cases e : P1 = P
    · subst e
      rw [hP] at h1
      cases h1
      have hl : (ps ++ #[rawInt pos.line, rawInt pos.col, Value.ref c']).toList = ps.toList ++ [rawInt pos.line, rawInt pos.col, .ref c'] := by simp
      refine .mk (fun q => if (codeAmong q ps.toList).isSome = true then cf q else (c', P')) hP' (by rw [hl]; exact TriplesOk_snoc _ _ _ _ ht) (fun q cv e => ?_) (fun q cv e => ?_)
      · rw [hl, show rawInt pos.line = Value.int pos.line 0 from rfl, show rawInt pos.col = Value.int pos.col 0 from rfl, codeAmong_app _ ht] at e
        cases z : codeAmong q ps.toList with
        | some x =>
          rw [z] at e
          cases e
          simp only [Option.isSome_some, if_true]
          obtain ⟨z1, z2⟩ := h3 q _ z
          exact ⟨z1, k _ _ z2 (neP _ _ z2)⟩
        | none =>
          rw [z] at e
          simp only [Option.isSome_none, Bool.false_eq_true, if_false]
          obtain ⟨_, e2⟩ := ite_some e
          cases e2
          exact ⟨rfl, hc⟩
      · rw [hl, show rawInt pos.line = Value.int pos.line 0 from rfl, show rawInt pos.col = Value.int pos.col 0 from rfl, codeAmong_app _ ht] at e
        cases z : codeAmong q ps.toList with
        | some x =>
          simp only [Option.isSome_some, if_true]
          exact ih q x z
        | none =>
          simp only [Option.isSome_none, Bool.false_eq_true, if_false]
          exact hn
    · exact .mk cf (k _ _ h1 e) h2 (fun q cv z => ⟨(h3 q cv z).1, k _ _ (h3 q cv z).2 (neP _ _ (h3 q cv z).2)⟩) fun q cv z => ih q cv z

section
variable {X : Cx} {g : Gc} {N : List Str} {sc : Scope} {d k : Nat} {c P : Addr} {pins : List (Addr × Obj)} {σ : L2.St} {H : Hp} {s : Shared} {L : List Addr} {st : Sto}
theorem Wo.hd {K : PySem.W.Frag} {prog : Program} {w : World} {base h : Heap} (wo : Wo K base g c P L H st) (hb : ∀ b o, base.get? b = some o → h.get? b = some o) (hok : HOk prog w H h) : PySem.W.CodeHd h c P := by
  rcases wo.code with z | z
  · exact z.keeps hb
  · exact (hok c _ z).1
/-- the code object of a generator expression: found, or made and put into the table -/
theorem gen_code {pos : Pos} {q : Str} {scope : Scope} {E : Value → Shared → Prop} {A : Around} (O : XOk g N sc d k c X) (I : Inv X pins σ H s) (wo : Wo X.K X.base g c P L H st) :
    wpAny (model X.prog X.w) A (genexprCode X.env pos q scope) (fun code s2 => ∃ c2 P2 H2, code = .ref c2 ∧ Inv X pins σ H2 s2 ∧ Ext L H st L H2 st ∧ Wo X.K X.base g c2 P2 L H2 st ∧
      (∀ b o, b ≠ P → s.heap.get? b = some o → s2.heap.get? b = some o) ∧ ∀ b o, s.heap.get? b = some o → H b = none → H2 b = none) E s := by
  obtain ⟨ps, hP⟩ := wo.tab.tbl
  have hPs : s.heap.get? P = some { cls := .none, data := .fields ps } := I.hok P _ hP
  have cd : PySem.W.CodeHd s.heap c P := wo.hd I.bk I.hok
  cases htab : wo.tab with
  | @mk _ ps' cf h1 h2 h3 h4 =>
    rw [hP] at h1
    cases h1
    cases hf : codeAmong pos ps.toList with
    | some cv =>
      obtain ⟨e1, e2⟩ := h3 pos cv hf
      exact wpAny_genexprCode_hit O.code (cd.code hPs h2) hf ⟨(cf pos).1, (cf pos).2, H, e1, I, Ext.refl, ⟨wo.wd, wo.tabs, h4 pos cv hf, .inr e2⟩, fun _ _ _ e => e, fun _ _ _ n => n⟩
    | none =>
      refine wpAny_genexprCodeX O.code (cd.code hPs h2) (cd.tab hPs) hf fun c' h' tk hx hge hlt hco' hrec htab' ⟨P', hP'ge, hcn, htn⟩ => ?_
      have hPlt : P < s.heap.objs.size := Heap.lt_size hPs
      have J := GxR.inv_tab (more := #[rawInt pos.line, rawInt pos.col, .ref c']) (h' := h') (g' := s.gens) (d' := s.drawn) (t' := tk) I hP (fun b o hb e => hx b o hb e) htab'.2 I.bare
      have cdn := codeHd_of hcn htn
      have hcP' : c' ≠ P' := by
        obtain ⟨o, vs, file, tf, flags, tg, inF, text, tt, _, _, _, _, _, _, _, _, _, hne⟩ := id cdn
        exact hne
      have fresh : ∀ a, s.heap.objs.size ≤ a → upd H P (.tbl (ps ++ #[rawInt pos.line, rawInt pos.col, .ref c'])) a = none ∧ X.s_0.heap.objs.size ≤ a ∧ a ≠ X.env.locals ∧ (∀ x cc, X.env.cells.lookup x = some cc → cc ≠ a) ∧ ∀ p ∈ X.pn ++ pins, p.1 ≠ a := fun a ha => by
        obtain ⟨f0, f1, f2, f3, f4, f5⟩ := I.fpOk ha (I.hok.fresh ha)
        refine ⟨by rw [upd_ne (Nat.ne_of_gt (Nat.lt_of_lt_of_le hPlt ha))]; exact f0, Nat.le_trans I.sz ha, f1, f4, f5⟩
      obtain ⟨n1, n2, n3, n4, n5⟩ := fresh c' hge
      have J1 := track J n1 n2 n3 n4 n5 (o := CodeT c' P') (codeT_ok cdn)
      obtain ⟨m1, m2, m3, m4, m5⟩ := fresh P' hP'ge
      have J2 := track J1 (a := P') (o := .tbl #[]) (by rw [upd_ne (Ne.symm hcP')]; exact m1) m2 m3 m4 m5 (show ObjOk X.prog X.w _ h' P' (.tbl #[]) from htn.2)
      -- the abstract heaps
      have up1 : ∀ b o, H b = some o → b ≠ P → upd (upd (upd H P (.tbl (ps ++ #[rawInt pos.line, rawInt pos.col, .ref c']))) c' (CodeT c' P')) P' (.tbl #[]) b = some o := fun b o e hb => by
        have hbl : b < s.heap.objs.size := by
          rcases Nat.lt_or_ge b s.heap.objs.size with z | z
          · exact z
          · rw [I.hok.fresh z] at e; cases e
        rw [upd_ne (Nat.ne_of_lt (Nat.lt_of_lt_of_le hbl hP'ge)), upd_ne (Nat.ne_of_lt (Nat.lt_of_lt_of_le hbl hge)), upd_ne hb]
        exact e
      have upP : upd (upd (upd H P (.tbl (ps ++ #[rawInt pos.line, rawInt pos.col, .ref c']))) c' (CodeT c' P')) P' (.tbl #[]) P = some (.tbl (ps ++ #[rawInt pos.line, rawInt pos.col, .ref c'])) := by
        rw [upd_ne (Nat.ne_of_lt (Nat.lt_of_lt_of_le hPlt hP'ge)), upd_ne (Nat.ne_of_lt (Nat.lt_of_lt_of_le hPlt hge)), upd_same]
      have upc : upd (upd (upd H P (.tbl (ps ++ #[rawInt pos.line, rawInt pos.col, .ref c']))) c' (CodeT c' P')) P' (.tbl #[]) c' = some (CodeT c' P') := by
        rw [upd_ne hcP', upd_same]
      have tn : TabOk (upd (upd (upd H P (.tbl (ps ++ #[rawInt pos.line, rawInt pos.col, .ref c']))) c' (CodeT c' P')) P' (.tbl #[])) P' := .empty upd_same
      have grown : ∀ P0, TabOk H P0 → TabOk (upd (upd (upd H P (.tbl (ps ++ #[rawInt pos.line, rawInt pos.col, .ref c']))) c' (CodeT c' P')) P' (.tbl #[])) P0 := fun P0 t => TabOk.grown hP h2 up1 upP upc tn t
      have ex : Ext L H st L (upd (upd (upd H P (.tbl (ps ++ #[rawInt pos.line, rawInt pos.col, .ref c']))) c' (CodeT c' P')) P' (.tbl #[])) st := by
        refine ⟨List.prefix_rfl, fun a o e _ t => up1 a o e fun z => ?_, fun a ps' e => ?_, grown, fun a h => .inl h, fun _ _ h => h⟩
        · rw [z, hP] at e
          cases e
          exact t ps rfl
        · by_cases hb : a = P
          · subst hb
            rw [hP] at e
            cases e
            exact ⟨_, upP⟩
          · exact ⟨#[], by rw [up1 a _ e hb]; simp⟩
      have lstP : ∀ a vs, H a = some (.lst vs) → a ≠ P := fun a vs e z => by rw [z, hP] at e; cases e
      have wd : Wd X.K L (upd (upd (upd H P (.tbl (ps ++ #[rawInt pos.line, rawInt pos.col, .ref c']))) c' (CodeT c' P')) P' (.tbl #[])) st :=
        wo.wd.next ex wo.wd.len wo.wd.nd (fun n a xs g1 g2 => by
          obtain ⟨vs, e, r⟩ := wo.wd.lst n a xs g1 g2
          exact ⟨vs, up1 a _ e (lstP a vs e), r.ext wo.wd ex⟩) fun _ _ h => h
      refine ⟨c', P', _, rfl, J2, ex, ⟨wd, fun a ha => grown a (wo.tabs a ha), tn, .inr upc⟩, fun b o hb e => hx b o hb e, fun b o e n => ?_⟩
      have hbl := Heap.lt_size e
      have hbP : b ≠ P := fun z => by rw [z, hP] at n; cases n
      rw [upd_ne (Nat.ne_of_lt (Nat.lt_of_lt_of_le hbl hP'ge)), upd_ne (Nat.ne_of_lt (Nat.lt_of_lt_of_le hbl hge)), upd_ne hbP]
      exact n
end
end Mp
set_option Elab.async false
set_option linter.all false
set_option maxRecDepth 100000
set_option maxHeartbeats 1000000
/-! MpGen3: generator expressions: the frame's start. -/
namespace Mp
open PySem PySem.Spec PyProof.Rows L2 GenW

/-- what the translator has checked of a generator expression's own block -/
theorem genC_ok {N : List Str} {sc scope : Scope} {own : List (Str × Nat)} (h : genC N sc scope own = true) : BlkOk N sc scope own ∧ scope.isCoroutine = false := by
  unfold genC at h
  simp only [Bool.and_eq_true] at h
  obtain ⟨⟨⟨⟨h1, h2⟩, h3⟩, h4⟩, h5⟩ := h
  refine ⟨⟨of_decide_eq_true h1, fun y hy => of_decide_eq_true (List.all_eq_true.mp h3 y hy), fun p hp => of_decide_eq_true (List.all_eq_true.mp h4 p hp), fun y hy e => ?_, fun y hy e => ?_⟩, by simpa using h2⟩
  · have q := List.all_eq_true.mp h5 y hy
    rw [e] at q
    simp only at q
    cases z : sc.names.lookup y.1 with
    | none => rw [z] at q; cases q
    | some kk =>
      rw [z] at q
      cases kk <;> first | exact .inl rfl | exact .inr rfl | cases q
  · have q := List.all_eq_true.mp h5 y hy
    rcases e with e | e <;> (rw [e] at q; simp only [Bool.or_eq_true] at q; exact q.elim (fun z => .inl (of_decide_eq_true z)) fun z => .inr (of_decide_eq_true z))
section
variable {X : Cx} {pins : List (Addr × Obj)} {σ : L2.St} {H : Hp} {s : Shared}
theorem gen_invG {scope : Scope} {own : List (Str × Nat)} {fp : List Addr} {qual : Str} {code : Value} {fo : Option Addr} {mm : Str → Option Value} {σ' : L2.St} {h' : Heap} {tk : Nat} {A : Around} (I : Inv X pins σ H s) (ok : BlkOk X.N X.env.scope scope own) (hN : X.N.Nodup) (hfp : ∀ b ∈ fp, FpOk X pins H b ∧ b < s.heap.objs.size)
    (hσl : σ'.length = σ.length) (hσ : ∀ (i : Nat) (y : Str) (av : V), X.N[i]? = some y → σ'[i]? = some (some av) → (L2.wipe σ (own.map (·.2)))[i]? = some (some av) ∨ (scope.names.lookup y = some .local ∧ ∃ w, RelV av w ∧ mm y = some w))
    (hns : h'.Ns s.heap.objs.size mm) (hsb : Heap.SameBut s.heap.objs.size (pushCells (s.heap.push { cls := .type "frame", data := .dict #[] }) scope.names) h')
    (hh : A.handled = none) (hfr : A.frames = some (newEnv scope s.heap.objs.size X.env.globals (cellsFrom (s.heap.objs.size + 1) scope.names (cloFrom X.env.cells scope.names [])) qual fo code none builtinsNs :: X.stack)) :
    Inv (genX X s H (newEnv scope s.heap.objs.size X.env.globals (cellsFrom (s.heap.objs.size + 1) scope.names (cloFrom X.env.cells scope.names [])) qual fo code none builtinsNs) A fp []) [] σ' H { s with heap := h', toks := tk } := by
  have hfree : ∀ y ∈ scope.names, y.2 = .free → ∃ c, X.env.cells.lookup y.1 = some c := fun y hy e => by
    rcases ok.free y hy e with k | k
    · exact I.ok.has _ (.inl k)
    · exact I.ok.has _ (.inr k)
  generalize hcenv : newEnv scope s.heap.objs.size X.env.globals (cellsFrom (s.heap.objs.size + 1) scope.names (cloFrom X.env.cells scope.names [])) qual fo code none builtinsNs = cenv at hfr ⊢
  have kp0 : ∀ b o, s.heap.get? b = some o → (pushCells (s.heap.push { cls := .type "frame", data := .dict #[] }) scope.names).get? b = some o := fun b o e => pushCells_keeps _ _ _ _ (Heap.get?_push_of_some _ e)
  have kp : ∀ b o, s.heap.get? b = some o → h'.get? b = some o := fun b o e => (hsb.2 b (Nat.ne_of_lt (Heap.lt_size e))).trans (kp0 b o e)
  have hL : cenv.locals = s.heap.objs.size := by rw [← hcenv]; rfl
  have hF : cenv.frame = some s.heap.objs.size := by rw [← hcenv]; rfl
  have hcl : cenv.cells = cellsFrom (s.heap.objs.size + 1) scope.names (cloFrom X.env.cells scope.names []) := by rw [← hcenv]; rfl
  have hsc : cenv.scope = scope := by rw [← hcenv]; rfl
  rw [← Heap.size_push s.heap { cls := .type "frame", data := .dict #[] }] at hcl
  have cm : ∀ {y c}, (y, c) ∈ cloFrom X.env.cells scope.names [] → X.env.cells.lookup y = some c ∧ c < s.heap.objs.size := fun {y c} hm => by
    rcases cloFrom_mem hm with hm | ⟨h1, rfl⟩
    · cases hm
    · obtain ⟨c, hc⟩ := hfree _ h1 rfl
      rw [hc]
      obtain ⟨w, z⟩ := I.cell _ _ hc
      exact ⟨rfl, z.lt⟩
  have mem : ∀ {y c}, cenv.cells.lookup y = some c → (X.env.cells.lookup y = some c ∧ c < s.heap.objs.size) ∨ (s.heap.objs.size + 1 ≤ c ∧ CellAt (pushCells (s.heap.push { cls := .type "frame", data := .dict #[] }) scope.names) c none) := fun {y c} e => by
    rw [hcl] at e
    rcases cells_mem (PySem.mem_of_lookup e) with hm | ⟨_, h2, h3⟩
    · exact .inl (cm hm)
    · rw [Heap.size_push] at h2; exact .inr ⟨h2, h3⟩
  have look : ∀ {y}, scope.names.lookup y = some .free → ∃ c, cenv.cells.lookup y = some c ∧ X.env.cells.lookup y = some c := fun {y} hl => by
    have hy : (y, NameKind.free) ∈ scope.names := PySem.mem_of_lookup hl
    obtain ⟨c', e'⟩ := mem_lookup (cells_acc (names := scope.names) (n := (s.heap.push { cls := .type "frame", data := .dict #[] }).objs.size) (cloFrom_has (cells := X.env.cells) (acc := []) hy))
    rw [← hcl] at e'
    refine ⟨c', e', ?_⟩
    rw [hcl] at e'
    rcases cells_mem (PySem.mem_of_lookup e') with hm | ⟨h1, _, _⟩
    · exact (cm hm).1
    · have := ok.uniq _ h1
      rw [hl] at this; cases this
  have okB : (genX X s H cenv A fp []).Ok := by
    refine ⟨I.ok.mod, by show cenv.scope.kind = _; rw [hsc]; exact ok.kind, by show cenv.globals = _; rw [← hcenv]; exact I.ok.glob, by show cenv.builtins = _; rw [← hcenv]; rfl, by show s.heap.objs.size ≤ cenv.locals; rw [hL]; exact Nat.le_refl _,
      fun y z c e1 e2 => ?_, fun y hy => ?_, fun y c z e => ?_, fun _ => hh, hfr, .inr ⟨rfl, by show cenv.frame = some cenv.locals; rw [hF, hL]⟩, fun b hb => ⟨?_, fun y c e z => ?_⟩, I.bs, Nat.le_trans I.ok.bsz I.sz, fun b o e hb => ?_, fun b hb z => ?_, I.stack, I.stkFree⟩
    · have e1 : cenv.cells.lookup y = some c := e1
      have e2 : cenv.cells.lookup z = some c := e2
      rw [hcl] at e1 e2
      refine cells_inj (fun p hp => ?_) (fun y z c a b => I.ok.inj y z c (cm a).1 (cm b).1) (PySem.mem_of_lookup e1) (PySem.mem_of_lookup e2)
      rw [Heap.size_push]
      exact Nat.lt_succ_of_lt (cm (y := p.1) (c := p.2) hp).2
    · show ∃ c, cenv.cells.lookup y = some c
      have key : ∀ k, cenv.kindOf y = some k → (k = .cell ∨ k = .free) → ∃ c, cenv.cells.lookup y = some c := fun k hk hk' => by
        unfold Env.kindOf at hk
        rw [hsc] at hk
        rcases hk' with rfl | rfl
        · obtain ⟨c, hm⟩ := cells_has (n := (s.heap.push { cls := .type "frame", data := .dict #[] }).objs.size) (acc := cloFrom X.env.cells scope.names []) (PySem.mem_of_lookup hk)
          obtain ⟨c', e'⟩ := mem_lookup hm
          exact ⟨c', by rw [hcl]; exact e'⟩
        · obtain ⟨c, h1, _⟩ := look hk
          exact ⟨c, h1⟩
      rcases hy with hy | hy
      · exact key _ hy (.inl rfl)
      · exact key _ hy (.inr rfl)
    · have z : (cenv.scope.names.lookup y == some NameKind.cell) = true := z
      rw [hsc] at z
      have z : scope.names.lookup y = some .cell := by simpa using z
      have e : cenv.cells.lookup y = some c := e
      rw [hcl] at e
      rcases cells_mem (PySem.mem_of_lookup e) with hm | ⟨_, h2, _⟩
      · rcases cloFrom_mem hm with hm | ⟨h1, _⟩
        · cases hm
        · have q := ok.uniq _ h1
          rw [z] at q; cases q
      · rw [Heap.size_push] at h2
        exact Nat.le_of_succ_le h2
    · show b ≠ cenv.locals
      rw [hL]; exact Nat.ne_of_lt (hfp b hb).2
    · have e : cenv.cells.lookup y = some c := e
      rcases mem e with ⟨h1, _⟩ | ⟨h1, _⟩
      · exact (hfp b hb).1.2.2.2.2.1 y c h1 z
      · have h2 : s.heap.objs.size + 1 ≤ b := by rw [← z]; exact h1
        exact absurd (Nat.lt_of_lt_of_le (hfp b hb).2 (Nat.le_of_succ_le h2)) (Nat.lt_irrefl _)
    · rcases (hfp b hb).1.2.2.2.1 with z | z
      · exact I.ok.noex b o e z
      · exact absurd (Nat.lt_of_lt_of_le (Heap.lt_size e) (Nat.le_trans I.ok.bsz z)) (Nat.lt_irrefl _)
    · rcases List.mem_cons.mp (I.stkSub b z) with z | z
      · exact (hfp b hb).1.2.1 z
      · exact (hfp b hb).1.2.2.1 z
  refine ⟨okB, rfl, I.bare, Un.kept kp, ⟨_, by show Heap.Ns _ cenv.locals _; rw [hL]; exact hns, fun i y av e1 e2 e3 => ?_⟩, fun y c e => ?_, ?_, fun y c e => ?_, fun p hp => ?_, I.hok.kept kp, by rw [hσl]; exact I.len⟩
  · rcases hσ i y av e1 e2 with e2 | ⟨k1, w, k2, k3⟩
    case inr => exact ⟨w, k2, .inl ⟨by show cenv.scope.names.lookup y = _; rw [hsc]; exact k1, k3⟩⟩
    obtain ⟨e2, hne⟩ := wipe_some e2
    have hfr2 : scope.names.lookup y = some .free ∧ (cenv.kindOf y = some .cell ∨ cenv.kindOf y = some .free) := by
      have key : ∀ k, cenv.scope.names.lookup y = some k → k = .local ∨ k = .cell ∨ k = .free → scope.names.lookup y = some .free ∧ (cenv.kindOf y = some .cell ∨ cenv.kindOf y = some .free) := fun k hk hk' => by
        have hk0 := hk
        rw [hsc] at hk
        have no : ¬ (k = .local ∨ k = .cell) := fun hh => by
          rcases ok.own _ (PySem.mem_of_lookup hk) hh with e' | e'
          · obtain ⟨p, hp, hpy⟩ := List.mem_map.mp e'
            have e3 := ok.ix p hp
            have : p.1 = y := hpy
            rw [this] at e3
            exact hne (List.mem_map.mpr ⟨p, hp, nodup_ix hN e3 e1⟩)
          · exact e' (List.mem_of_getElem? e1)
        rcases hk' with rfl | rfl | rfl
        · exact absurd (.inl rfl) no
        · exact absurd (.inr rfl) no
        · exact ⟨hk, .inr hk0⟩
      have e3 : Vis cenv.scope y := e3
      rcases e3 with e3 | e3 | e3
      · exact key _ e3 (.inl rfl)
      · exact key _ e3 (.inr (.inl rfl))
      · exact key _ e3 (.inr (.inr rfl))
    obtain ⟨m, hn, hl⟩ := I.loc
    have hvis : Vis X.env.scope y := (ok.free _ (PySem.mem_of_lookup hfr2.1) rfl).elim (fun k => .inr (.inl k)) (fun k => .inr (.inr k))
    obtain ⟨w, r, q⟩ := hl i y av e1 e2 hvis
    refine ⟨w, r, .inr ⟨hfr2.2, ?_⟩⟩
    obtain ⟨c, h1, h2⟩ := look hfr2.1
    rcases q with ⟨k, _⟩ | ⟨_, c', e', z⟩
    · have k : X.env.scope.names.lookup y = some .local := k
      rcases ok.free _ (PySem.mem_of_lookup hfr2.1) rfl with k' | k' <;> rw [show X.env.scope.names.lookup y = _ from k'] at k <;> cases k
    · rw [h2] at e'; cases e'
      exact ⟨c, h1, z.keeps kp⟩
  · have e : cenv.cells.lookup y = some c := e
    rcases mem e with ⟨h1, _⟩ | ⟨h1, o, z1, z2⟩
    · obtain ⟨w, z⟩ := I.cell y c h1
      exact ⟨w, z.keeps kp⟩
    · exact ⟨none, o, (hsb.2 c (Nat.ne_of_gt (Nat.lt_of_lt_of_le (Nat.lt_succ_self _) h1))).trans z1, z2⟩
  · show H cenv.locals = none
    rw [hL]; exact I.hok.fresh (Nat.le_refl _)
  · have e : cenv.cells.lookup y = some c := e
    rcases mem e with ⟨h1, _⟩ | ⟨h1, _⟩
    · exact I.freeC y c h1
    · exact I.hok.fresh (Nat.le_of_succ_le h1)
  · exact absurd (show p ∈ ([] : List (Addr × Obj)) ++ [] from hp) (by simp)
theorem gen_inv {scope : Scope} {own : List (Str × Nat)} {fp : List Addr} {qual : Str} {code it : Value} {h' : Heap} {tk : Nat} {A : Around} (I : Inv X pins σ H s) (ok : BlkOk X.N X.env.scope scope own) (hN : X.N.Nodup) (hfp : ∀ b ∈ fp, FpOk X pins H b ∧ b < s.heap.objs.size)
    (hns : h'.Ns s.heap.objs.size (fun y => if y = (".0" : Str) then some it else none)) (hsb : Heap.SameBut s.heap.objs.size (pushCells (s.heap.push { cls := .type "frame", data := .dict #[] }) scope.names) h')
    (hh : A.handled = none) (hfr : A.frames = some (newEnv scope s.heap.objs.size X.env.globals (cellsFrom (s.heap.objs.size + 1) scope.names (cloFrom X.env.cells scope.names [])) qual none code none builtinsNs :: X.stack)) :
    Inv (genX X s H (newEnv scope s.heap.objs.size X.env.globals (cellsFrom (s.heap.objs.size + 1) scope.names (cloFrom X.env.cells scope.names [])) qual none code none builtinsNs) A fp []) [] (L2.wipe σ (own.map (·.2))) H { s with heap := h', toks := tk } :=
  gen_invG I ok hN hfp (wipe_length ..) (fun i y av _ e => .inl e) hns hsb hh hfr
/-- more pins, if they hold -/
theorem pinnedX {Y : Cx} {pn pins' : List (Addr × Obj)} {σ' : L2.St} {H' : Hp} {s1 : Shared} (hY : Y.pn = []) (I : Inv Y [] σ' H' s1) (h : ∀ p ∈ pn ++ pins', s1.heap.get? p.1 = some p.2 ∧ H' p.1 = none ∧ p.1 ≠ Y.env.locals ∧ p.1 ∉ Y.fs ∧ ∀ v, p.2.data ≠ .cell v) :
    Inv { Y with pn := pn } pins' σ' H' s1 :=
  ⟨⟨I.ok.mod, I.ok.kind, I.ok.glob, I.ok.blt, I.ok.above, I.ok.inj, I.ok.has, I.ok.cab, I.ok.hd, I.ok.frames, I.ok.stk, I.ok.exf, I.ok.bs, I.ok.bsz, I.ok.noex, I.ok.exfs, I.ok.funs, I.ok.frf⟩, I.os, I.bare, I.base, I.loc, I.cell, I.free, I.freeC, h, I.hok, I.len⟩
end
section
variable {X : Cx} {g : Gc} {N : List Str} {sc : Scope} {d k : Nat} {c c2 P : Addr}
theorem XOk.gen {scope : Scope} {own : List (Str × Nat)} {s : Shared} {H : Hp} {cells : List (Str × Addr)} {qual : Str} {fo : Option Addr} {A : Around} {fp : List Addr} {pn : List (Addr × Obj)} (O : XOk g N sc (d + 1) k c X) (hb : genC N sc scope own = true) (hr : Room (g.m * k + 6 * d) A) :
    XOk g N scope d k c2 (genX X s H (newEnv scope s.heap.objs.size X.env.globals cells qual fo (.ref c2) none builtinsNs) A fp pn) := by
  obtain ⟨B, _⟩ := genC_ok hb
  exact { hN := O.hN, nd := O.nd, calm := rfl, room := hr, loc := fun x h => h
          cell := fun x h => ⟨h, by
            show (scope.names.lookup x == some NameKind.cell) = true
            rw [h]
            rfl⟩
          free := fun x h => .inr h, glo := fun x h => h, code := rfl, kind := B.kind, fns := O.fns, xe := rfl }
theorem XOk.genBlk {scope : Scope} {own : List (Str × Nat)} (O : XOk g N sc d k c X) (hb : genC N sc scope own = true) : BlkOk X.N X.env.scope scope own := by
  obtain ⟨B, _⟩ := genC_ok hb
  rw [O.hN]
  exact ⟨B.kind, B.uniq, B.ix, fun y hy e => (B.free y hy e).elim (fun z => .inl (O.cell _ z).1) (fun z => O.free _ z), B.own⟩
end
end Mp
set_option Elab.async false
set_option linter.all false
set_option maxRecDepth 100000
set_option maxHeartbeats 1000000
/-! MpGen4: generator expressions: made, to be woken. -/
namespace Mp
open PySem PySem.Spec PyProof.Rows L2 GenW

/-- a generator that has not begun: it is at a; whoever wakes it gets its items one by one -/
def GMx (X : Cx) (pins : List (Addr × Obj)) (σ : L2.St) (lev : Nat) (L4 : List Addr) (H4 : Hp) (st4 : Sto) (kk : CK) (rF : List PV) (bF : Bool) (stF : Sto) (a : Addr) (s5 : Shared) : Prop :=
  ∃ (gi : Nat) (c0 : Code), s5.heap.IsGen a gi ∧ s5.gens[gi]? = some (.fresh c0) ∧ Inv X pins σ H4 s5 ∧ Wd X.K L4 H4 st4 ∧
    ∀ (A : Around) (cs : Csm) (op0 : List (Addr × Obj)) (s6 : Shared) (Go Ha : List V → V → Hp → Prop) (Qe : List V → Hp → Prop), Room (lev + 1) A → A.frames = some X.stack → (∀ b ∈ cs.Sa, s5.heap.objs.size ≤ b) → cs.C [] op0 → (∀ p ∈ op0, s6.heap.get? p.1 = some p.2) →
      (∀ b o, s5.heap.get? b = some o → s6.heap.get? b = some o) → s6.os = s5.os → AllBare s6.gens →
      (∀ L H st vs acc pv u, Ext L4 H4 st4 L H st → Wd X.K L H st → Reps X.K H L acc vs → Rep X.K H L pv u → stops kk st pv = some false → acc ++ [pv] <+: rF → Go vs u H) →
      (∀ L H vs acc pv u, Ext L4 H4 st4 L H stF → Wd X.K L H stF → Reps X.K H L acc vs → Rep X.K H L pv u → stops kk stF pv = some true → rF = acc ++ [pv] → bF = true → Ha vs u H) →
      (∀ L H vs, Ext L4 H4 st4 L H stF → Wd X.K L H stF → Reps X.K H L rF vs → bF = false → Qe vs H) →
      ∃ Y : Cx, (∀ ip vs σ' H' s', GIm Y cs ip vs σ' H' s' → Inv X pins σ H' s' ∧ s'.heap.IsGen a gi ∧ (∃ op, cs.C vs op ∧ ∀ p ∈ op, s'.heap.get? p.1 = some p.2 ∧ H' p.1 = none)) ∧
        Seg (model X.prog X.w) A (GRm Y cs Qe) (GYm Y cs rF.length Go Ha) rF.length s6 c0 ((model X.prog X.w).den c0) [] s6

theorem genFold_ok {iter : Expr} (h1 : isSet iter = false) (h2 : isList iter = false) (env : PySem.Env) (v : Value) : genFold iter env v = pure v := by
  cases iter <;> first | rfl | (have h1 : true = false := h1; cases h1) | (have h2 : true = false := h2; cases h2)
theorem over_gen {A : Around} {elt tg iter : Expr} {ifs : List Expr} {scope : Scope} {pos : Pos} {it : Value} {cenv : PySem.Env} : A.over (.compLoop (.GeneratorExp elt [⟨tg, iter, ifs, 0⟩] scope pos) 0 it .none cenv) [] = A.deeper cenv := by
  first
    | rfl
    | (obtain ⟨hd, d, fr, gs, u⟩ := A; simp [Around.over, Around.deeper, marksOver, frameCount, unitsOf, envsOf, guardsOf, pushEnvs, pushGuards, Code.envs, Code.env?, Code.isFrame, Code.guards, Code.isGuard, Code.weight, Code.frames, Code.isCreation, Code.isCaller, Code.cUnits])
theorem over_gen0 {A : Around} {elt tg iter : Expr} {ifs : List Expr} {scope : Scope} {pos : Pos} {it : Value} {cenv : PySem.Env} : A.over (.compStart (.GeneratorExp elt [⟨tg, iter, ifs, 0⟩] scope pos) 0 it .none cenv) [] = A.deeper cenv := by
  first
    | rfl
    | (obtain ⟨hd, d, fr, gs, u⟩ := A; simp [Around.over, Around.deeper, marksOver, frameCount, unitsOf, envsOf, guardsOf, pushEnvs, pushGuards, Code.envs, Code.env?, Code.isFrame, Code.guards, Code.isGuard, Code.weight, Code.frames, Code.isCreation, Code.isCaller, Code.cUnits])
section
variable {X : Cx} {g : Gc} {N : List Str} {sc : Scope} {d k : Nat} {c P : Addr} {pins : List (Addr × Obj)} {σ : L2.St} {H : Hp} {s : Shared} {L : List Addr} {st : Sto}
theorem eval_gen {own : List (Str × Nat)} {scope : Scope} {y : T} {z : It} {ws : List E} {x : E} {elt tg iter : Expr} {ifs : List Expr} {pos : Pos} {kk : CK} {env : Mp.Env} {wk : Wk} {s1 stF : Sto} {rF : List PV} {bF : Bool} {Q : Value → Shared → Prop}
    (O : XOk g N sc (d + 1) k c X) (hb : genC N sc scope own = true) (hdot : scope.names.lookup (".0" : Str) = some NameKind.local) (hv : ∀ n ∈ tNames y, n ∈ own.map (·.2)) (hset : isSet iter = false) (hlist : isList iter = false)
    (hi : PI X tg iter (tMI (mdOf X g k c P) z)) (hg : ∀ Y c2 P2, XOk g N scope d k c2 Y → PG Y tg (tMG (mdOf Y g k c2 P2) y)) (ht : ∀ Y c2 P2, XOk g N scope d k c2 Y → PTs Y ifs (tMF (mdOf Y g k c2 P2) ws)) (hel : ∀ Y c2 P2, XOk g N scope d k c2 Y → PE Y elt (tM (mdOf Y g k c2 P2) x))
    (I : Inv X pins σ H s) (he : EnvOk X.K H L σ env) (wo : Wo X.K X.base g c P L H st) (e1 : evIt (g.C k) g.G z (wipe env (own.map (·.2))) st = some (wk, s1))
    (e2 : compLoop (turn1 (g.C k) g.G y ws (bodyG (g.C k) g.G kk x) (wipe env (own.map (·.2)))) wk.gs wk.xs [] s1 = some ((rF, bF), stF))
    (hQ : ∀ a s5 L4 H4, Ext L H st L4 H4 s1 → GMx X pins σ (g.m * k + 6 * d) L4 H4 s1 kk rF bF stF a s5 → Q (.ref a) s5) :
    wpAny (model X.prog X.w) X.A (eval (.GeneratorExp elt [⟨tg, iter, ifs, 0⟩] scope pos) X.env) Q X.xe s := by
  obtain ⟨_, hco⟩ := genC_ok hb
  have B := O.genBlk hb
  have hNd : X.N.Nodup := by rw [O.hN]; exact O.nd
  have hfree : ∀ y ∈ scope.names, y.2 = .free → ∃ c, X.env.cells.lookup y.1 = some c := fun y hy e => by
    rcases B.free y hy e with k | k
    · exact I.ok.has _ (.inl k)
    · exact I.ok.has _ (.inr k)
  rw [eval_GeneratorExp1 _ _ _ _ _ _ _ hco, closure_ok hfree]
  refine wpAny_bind (thn (hi.run pins s σ H (fun J H2 => ∃ L2, Ext L H st L2 H2 s1 ∧ Wd X.K L2 H2 s1 ∧ JOk X.K J wk L2 H2 s1) I ⟨L, wipe env (own.map fun q : Str × Nat => q.2), st, wk, s1, he.wiped (own.map fun q : Str × Nat => q.2), wo, e1, fun L' H' J x1 w1 hJ => ⟨L', x1, w1, hJ⟩⟩) fun xv sa hx => ?_)
  refine wpAny_bind (wpAny_standAt ?_)
  refine wpAny_bind (wpAny_of_eq (genFold_ok hset hlist _ xv) ?_)
  refine wpAny_bind (wpAny_holding (thn hx fun itv s2 h2 => ?_))
  obtain ⟨it, fp, tn, J, H2, eit, I2, T, st2, f2, L2', x2, wd2, hJ2⟩ := h2
  subst eit
  have hroom := O.room
  refine wpAny_bind (wpAny_enterFrame I2.nolimit hroom.depth ?_)
  refine wpAny_bind (wpAny_pure ?_)
  have wo2 := wo.ext x2 wd2
  refine wpAny_bind (thn (gen_code O I2 wo2) fun code s3 ⟨c2, P2, H3, ecode, I3, x3, wo3, k3, n3⟩ => ?_)
  subst ecode
  obtain ⟨ps, hP⟩ := wo2.tab.tbl
  -- the built-ins
  obtain ⟨bm, ob, b1, b2, b3, b4, b5, b6⟩ := O.fns.blt
  refine wpAny_bind (wpAny_builtinsFor (m := X.mg) (by rw [I3.ok.glob]; exact I3.mod.glob.keeps I3.bk) b1 b2 (I3.bk _ _ b3) b4 b5 b6 ?_)
  refine wpAny_bind (newEnv_gen B.kind hdot fun h' tk hns hsb => ?_)
  -- the state at the frame's start
  have hfpP : ∀ b ∈ fp, b ≠ P := fun b hb z => by
    have := (f2 b hb).1
    rw [z, hP] at this
    cases this
  have fp3 : ∀ b ∈ fp, ∀ o, s2.heap.get? b = some o → s3.heap.get? b = some o := fun b hb o e => k3 b o (hfpP b hb) e
  have st3 : tn 0 s3.heap := T.keep _ _ _ st2 fp3
  have f3 : ∀ b ∈ fp, FpOk X pins H3 b ∧ b < s3.heap.objs.size := fun b hb => by
    obtain ⟨o, e, _⟩ := T.obj _ _ st2 b hb
    refine ⟨⟨n3 b o e (f2 b hb).1, (f2 b hb).2⟩, Heap.lt_size (fp3 b hb o e)⟩
  have hsz' : h'.objs.size = (pushCells (s3.heap.push { cls := .type "frame", data := .dict #[] }) scope.names).objs.size := hsb.1
  have hge : s3.heap.objs.size + 1 ≤ h'.objs.size := by
    rw [hsz']
    have := pushCells_size scope.names (s3.heap.push { cls := .type "frame", data := .dict #[] })
    rw [Heap.size_push] at this
    exact this
  have kp3 : ∀ b o, s3.heap.get? b = some o → h'.get? b = some o := fun b o e => (hsb.2 b (Nat.ne_of_lt (Heap.lt_size e))).trans (pushCells_keeps _ _ _ _ (Heap.get?_push_of_some _ e))
  generalize hcenv : newEnv scope s3.heap.objs.size X.env.globals (cellsFrom (s3.heap.objs.size + 1) scope.names (cloFrom X.env.cells scope.names [])) (X.env.qual ++ "<genexpr>.") none (.ref c2) none builtinsNs = cenv
  simp only [newGenerator, newFields]
  refine wpAny_bind (wpAny_newGen (wpAny_bind (wpAny_mkText (wpAny_bind (wpAny_mkText (wpAny_newObj_type ?_ (by size_fits)))))))
  have main : ∀ (go : Obj) (nm qn : Value) (tk2 : Nat), go.cls = .type "generator" → go.data = .fields #[.int s3.gens.size 0, nm, qn] → go.slots = #[] → (∀ h : Heap, (h.push go).get? h.objs.size = some go) →
      Q (.ref h'.objs.size) { s3 with gens := s3.gens.push (.fresh (.compStart (.GeneratorExp elt [⟨tg, iter, ifs, 0⟩] scope pos) 0 (.ref it) .none cenv)), toks := tk2, heap := h'.push go } := by
    intro go nm qn tk2 hgc hgd0 hgs hgp
    have hgen : ∀ h : Heap, h.get? h'.objs.size = some go → h.IsGen h'.objs.size s3.gens.size := fun h e => ⟨go, nm, qn, e, hgc, hgd0, hgs⟩
    have hgd : ∀ v, go.data ≠ .cell v := fun v q => by rw [hgd0] at q; cases q
    have kp5 : ∀ b o, s3.heap.get? b = some o → (h'.push go).get? b = some o := fun b o e => Heap.get?_push_of_some _ (kp3 b o e)
    have hba : AllBare (s3.gens.push (.fresh (.compStart (.GeneratorExp elt [⟨tg, iter, ifs, 0⟩] scope pos) 0 (.ref it) .none cenv))) := I3.bare.push rfl
    have I5 : Inv X pins σ H3 { s3 with gens := s3.gens.push (.fresh (.compStart (.GeneratorExp elt [⟨tg, iter, ifs, 0⟩] scope pos) 0 (.ref it) .none cenv)), toks := tk2, heap := h'.push go } :=
      I3.call' (ch := []) rfl (Un.kept kp5) (I3.hok.kept kp5) hba fun b hb => by simp at hb
    refine hQ h'.objs.size _ L2' H3 (x2.trans x3) ⟨s3.gens.size, _, hgen _ (hgp _), Array.getElem?_push_size .., I5, wo3.wd, ?_⟩
    intro A cs op0 s6 Go Ha Qe hrA hfrA hSa hC0 hop0 hk6 hos6 hba6 hGo hHa hEnd
    have hszg : (h'.push go).objs.size = h'.objs.size + 1 := Heap.size_push ..
    -- the context of the frame
    have hAd : (A.deeper cenv).handled = none := hrA.hd
    have hAf : (A.deeper cenv).frames = some (cenv :: X.stack) := by
      rw [← hcenv]
      exact Around.frames_deeper hfrA
    have J0 : Inv (genX X s3 H3 cenv (A.deeper cenv) fp []) [] (L2.wipe σ (own.map fun q : Str × Nat => q.2)) H3 { s3 with heap := h', toks := tk } := by
      rw [← hcenv]
      exact gen_inv I3 B hNd f3 hns hsb (by rw [hcenv]; exact hAd) (by rw [hcenv]; exact hAf)
    have kp6 : ∀ b o, h'.get? b = some o → s6.heap.get? b = some o := fun b o e => hk6 b o (Heap.get?_push_of_some _ e)
    have J1 : Inv (genX X s3 H3 cenv (A.deeper cenv) fp []) [] (L2.wipe σ (own.map fun q : Str × Nat => q.2)) H3 s6 :=
      J0.call' (ch := []) hos6 (Un.kept kp6) (J0.hok.kept kp6) hba6 fun b hb => by simp at hb
    have young : ∀ b, h'.objs.size ≤ b → H3 b = none ∧ b ≠ cenv.locals ∧ b ∉ frs X.stack ∧ s3.heap.objs.size ≤ b ∧ ∀ y cc, cenv.cells.lookup y = some cc → cc ≠ b := fun b hb => by
      obtain ⟨f0, f1, f2', f3', f4, f5⟩ := J0.fpOk (b := b) (by exact hb) (J0.hok.fresh hb)
      exact ⟨f0, f1, f2', Nat.le_trans (Nat.le_trans (Nat.le_succ _) hge) hb, f4⟩
    have hSlt : ∀ b ∈ cs.Sa, h'.objs.size + 1 ≤ b := fun b hb => by
      have := hSa b hb
      rw [show ({ s3 with gens := s3.gens.push (.fresh (.compStart (.GeneratorExp elt [⟨tg, iter, ifs, 0⟩] scope pos) 0 (.ref it) .none cenv)), toks := tk2, heap := h'.push go } : Shared).heap.objs.size = h'.objs.size + 1 from hszg] at this
      exact this
    obtain ⟨hopm, hopn⟩ := cs.nc [] op0 hC0
    have hgo6 : s6.heap.get? h'.objs.size = some go := hk6 _ _ (hgp _)
    have J2 : Inv { genX X s3 H3 cenv (A.deeper cenv) fp [] with pn := [(h'.objs.size, go)] } op0 (L2.wipe σ (own.map fun q : Str × Nat => q.2)) H3 s6 := by
      refine pinnedX rfl J1 fun p hp => ?_
      rcases List.mem_append.mp hp with hp | hp
      · rw [List.mem_singleton.mp hp]
        obtain ⟨y1, y2, y3, _, _⟩ := young h'.objs.size (Nat.le_refl _)
        exact ⟨hgo6, y1, y2, y3, hgd⟩
      · have hb : p.1 ∈ cs.Sa := by rw [← hopm]; exact List.mem_map.mpr ⟨p, hp, rfl⟩
        obtain ⟨y1, y2, y3, _, _⟩ := young p.1 (Nat.le_trans (Nat.le_succ _) (hSlt p.1 hb))
        exact ⟨hop0 p hp, y1, y2, y3, hopn p hp⟩
    have J3 : Inv (genX X s3 H3 cenv (A.deeper cenv) fp [(h'.objs.size, go)]) op0 (L2.wipe σ (own.map fun q : Str × Nat => q.2)) H3 s6 := J2
    have ap : Apt (genX X s3 H3 cenv (A.deeper cenv) fp [(h'.objs.size, go)]) cs := by
      refine ⟨fun b hb => ?_, fun b hb => ?_⟩
      · obtain ⟨y1, y2, y3, y4, y5⟩ := young b (Nat.le_trans (Nat.le_succ _) (hSlt b hb))
        refine ⟨y4, y2, y5, fun p hp => ?_⟩
        rw [List.mem_singleton.mp hp]
        exact Nat.ne_of_lt (hSlt b hb)
      · have hlt : b < h'.objs.size := Nat.lt_of_lt_of_le (f3 b hb).2 (Nat.le_trans (Nat.le_succ _) hge)
        refine ⟨fun hb' => absurd (Nat.lt_of_lt_of_le hlt (Nat.le_of_succ_le (hSlt b hb'))) (Nat.lt_irrefl _), fun p hp => ?_⟩
        rw [List.mem_singleton.mp hp]
        exact Nat.ne_of_gt hlt
    have OY : XOk g N scope d k c2 (genX X s3 H3 cenv (A.deeper cenv) fp [(h'.objs.size, go)]) := by
      rw [← hcenv]
      exact O.gen hb (by rw [hcenv]; exact hrA.deeper _)
    refine ⟨genX X s3 H3 cenv (A.deeper cenv) fp [(h'.objs.size, go)], fun ip vs σ' H' s' ⟨op, hC, I'⟩ => ?_, ?_⟩
    · refine ⟨I3.call' (ch := fp) I'.os I'.base I'.hok I'.bare fun b hb => ⟨(f3 b hb).1.2.2.2.1, (f3 b hb).1.2.1, (f3 b hb).1.2.2.2.2.1, (f3 b hb).1.2.2.2.2.2⟩, hgen _ (I'.pin (h'.objs.size, go) (List.mem_append_left _ (List.mem_singleton.mpr rfl))).1, op, hC, fun p hp => ?_⟩
      obtain ⟨z1, z2, _⟩ := I'.pin p (List.mem_append_right _ (List.mem_append_left _ hp))
      exact ⟨z1, z2⟩
    · have he2 := (he.ext wo.wd x2).ext wd2 x3
      have he3 : EnvOk X.K H3 L2' (L2.wipe σ (own.map fun q : Str × Nat => q.2)) (Mp.wipe env (own.map fun q : Str × Nat => q.2)) := he2.wipe _
      have st6 : tn 0 s6.heap := T.keep _ _ _ st3 fun b hb o e => kp6 b o (kp3 b o e)
      have loop := seg_turns (Y := genX X s3 H3 cenv (A.deeper cenv) fp [(h'.objs.size, go)]) (g := g) (k := k) (c := c2) (P := P2) (cs := cs) (elt := elt) (tg := tg) (iter := iter) (ifs := ifs) (scope := scope) (pos := pos) (it := it) (tn := tn) (J := J) (A := A) (y := y) (ws := ws) (x := x) (kk := kk)
        (σw := L2.wipe σ (own.map fun q : Str × Nat => q.2)) (envw := Mp.wipe env (own.map fun q : Str × Nat => q.2)) (wk := wk) (L1 := L2') (H1 := H3) (st1 := s1) (rF := rF) (bF := bF) (stF := stF) (Go := Go) (Ha := Ha) (Qe := Qe)
        over_gen rfl rfl (by show cenv.scope.isCoroutine = false; rw [← hcenv]; exact hco) T ap (hg _ _ _ OY) (ht _ _ _ OY) (hel _ _ _ OY) (fun i hi v e => (wipe_some e).2 (hv i hi)) (hJ2.later x3) wo3.wd he3 hGo hHa hEnd
        wk.xs.length rF.length 0 s6 s6 L2' H3 s1 [] [] (Nat.zero_add _) (Nat.add_zero _) Ext.refl wo3 .nil (by rw [List.drop_zero]; exact e2) ⟨op0, hC0, by rw [List.append_nil]; exact J3, hop0⟩ st6 (fun b hb => (f3 b hb).1.1)
      show Seg _ A _ _ _ s6 _ ((compStart (.GeneratorExp elt [⟨tg, iter, ifs, 0⟩] scope pos) 0 (.ref it) .none cenv).onRaise (leaving cenv)) [] s6
      unfold compStart
      rw [Sem.onRaise_eq_wrap]
      show Seg _ A _ _ _ s6 _ ((ask >>= _).wrap _ _ _ _) [] s6
      refine seg_bind_wrap (wpAny_askSetting ?_)
      split
      · exact seg_again rfl loop
      · first
          | exact seg_bind_wrap (wpAny_rule (seg_bind_wrap (wpAny_standAt (seg_bind_wrap (T.self _ 0 s6 _ _ st6 (seg_again rfl loop))))))
          | (refine seg_bind_wrap (wpAny_rule ?_); show Seg _ A _ _ _ s6 _ ((standAt iter.pos >>= _).wrap _ _ _ _) [] s6; exact seg_bind_wrap (wpAny_standAt (seg_bind_wrap (T.self _ 0 s6 _ _ st6 (seg_again rfl loop)))))
  exact main _ _ _ _ rfl rfl rfl fun h => Heap.get?_push_size _ rfl
end
end Mp
set_option Elab.async false
set_option linter.all false
set_option maxRecDepth 100000
set_option maxHeartbeats 1000000
/-! MpGen5: generator expressions: who takes the items. -/
namespace Mp
open PySem PySem.Spec PyProof.Rows L2 GenW

/-- the generator may be woken n times more -/
def GN (Y : Cx) (M : Model) (A : Around) (cs : Csm) (tn : Nat) (Go Ha : List V → V → Hp → Prop) (Qe : List V → Hp → Prop) (gi n : Nat) (s : Shared) : Prop :=
  ∃ gs, s.gens[gi]? = some gs ∧ gs.Goes M A (GRm Y cs Qe) (GYm Y cs tn Go Ha) n (.send .none) (s.setGen gi .running)
section
variable {X : Cx} {pins : List (Addr × Obj)} {σ : L2.St} {Y : Cx} {cs : Csm} {tn gi : Nat} {Go Ha : List V → V → Hp → Prop} {Qe : List V → Hp → Prop} {a : Addr} {A : Around}
abbrev Back (X : Cx) (pins : List (Addr × Obj)) (σ : L2.St) (Y : Cx) (cs : Csm) (a : Addr) (gi : Nat) : Prop :=
  ∀ ip vs σ' H' s', GIm Y cs ip vs σ' H' s' → Inv X pins σ H' s' ∧ s'.heap.IsGen a gi ∧ (∃ op, cs.C vs op ∧ ∀ p ∈ op, s'.heap.get? p.1 = some p.2 ∧ H' p.1 = none)
/-- the next item -/
theorem gm_next {n : Nat} {s : Shared} {Q : Option Value → Shared → Prop} {E : Value → Shared → Prop} (back : Back X pins σ Y cs a gi) (hh : A.handled = none) (hd : A.depth < recursionLimit) (hg : s.heap.IsGen a gi) (hl : s.heap.NoLimit)
    (hn : GN Y (model X.prog X.w) A.in1 cs tn Go Ha Qe gi n s)
    (exs : ∀ vs x v H' (s2 : Shared) op, Go vs x H' → RelV x v → cs.C vs op → (∀ p ∈ op, s2.heap.get? p.1 = some p.2) → AllBare s2.gens → ∃ s', Slp cs (vs ++ [x]) s2 s')
    (item : ∀ v s2 vs x H', RelV x v → Inv X pins σ H' s2 → s2.heap.IsGen a gi → (∃ op, cs.C vs op ∧ ∀ p ∈ op, s2.heap.get? p.1 = some p.2 ∧ s.heap.get? p.1 = some p.2) →
      ((Go vs x H' ∧ n ≤ tn ∧ vs.length + n = tn ∧ ∃ m, n = m + 1 ∧ ∀ s', s'.gens = s2.gens → Slp cs (vs ++ [x]) s2 s' → GN Y (model X.prog X.w) A.in1 cs tn Go Ha Qe gi m s') ∨ Ha vs x H') → Q (some v) s2)
    (stop : ∀ s2 vs H', Inv X pins σ H' s2 → Qe vs H' → (∃ op, cs.C vs op ∧ ∀ p ∈ op, s2.heap.get? p.1 = some p.2 ∧ s.heap.get? p.1 = some p.2) → Q none s2) :
    wpAny (model X.prog X.w) A (pyNext (.ref a)) Q E s := by
  obtain ⟨gs, hgs, hgo⟩ := hn
  have hgl : gi < s.gens.size := (Array.getElem?_eq_some_iff.mp hgs).1
  refine wpAny_gsz (n := gi + 1) hgl (next_genG (Er := fun _ _ => False) (F := fun _ s₀ s1 => ∃ vs σ H, GIs Y cs [] vs σ H s₀ s1 ∧ Qe vs H) hh hl hd hg hgs hgo (fun v s₁ gs' hbare hv => ?_) (fun s₁ hp h' hk => ?_) fun e s₁ he => he.elim)
  · intro hsz
    obtain ⟨vs, x, ip, σ', H', ⟨op, hC, hIv, hs0⟩, rx, hq⟩ := hv
    obtain ⟨I1, hg1, _⟩ := back ip vs σ' H' s₁ ⟨op, hC, hIv⟩
    have hop : ∀ p ∈ op, s₁.heap.get? p.1 = some p.2 ∧ s.heap.get? p.1 = some p.2 := fun p hp => ⟨(hIv.pin p (List.mem_append_right _ (List.mem_append_left _ hp))).1, hs0 p hp⟩
    have I2 : Inv X pins σ H' (s₁.setGen gi gs') := I1.call' (ch := []) rfl Un.refl I1.hok (allBare_setGen I1.bare hbare) fun b hb => by simp at hb
    refine item v _ vs x H' rx I2 hg1 ⟨op, hC, hop⟩ ?_
    rcases hq with ⟨q1, q2, q3⟩ | q
    · cases n with
      | zero =>
        obtain ⟨s', z⟩ := exs vs x v H' s₁ op q1 rx hC (fun p hp => (hop p hp).1) I1.bare
        exact (q3 _ z).elim
      | succ m =>
        left
        refine ⟨q1, by omega, by omega, m, rfl, fun s' hgen z => ?_⟩
        have hszs : gi < s₁.gens.size := by
          have q : (s₁.setGen gi gs').gens.size = s₁.gens.size := setGen_size _ _ _
          have hsz' : gi + 1 ≤ (s₁.setGen gi gs').gens.size := hsz
          omega
        refine ⟨gs', by rw [hgen]; exact setGen_at hszs, ?_⟩
        refine q3 _ ⟨z.os, allBare_setGen z.bare rfl, z.keep, z.own⟩
    · exact .inr q
  · intro hsz
    obtain ⟨vs, σ', H', ⟨op, hC, hIv, hs0⟩, hq⟩ := hp
    obtain ⟨I1, _⟩ := back [] vs σ' H' s₁ ⟨op, hC, hIv⟩
    have hop : ∀ p ∈ op, s₁.heap.get? p.1 = some p.2 ∧ s.heap.get? p.1 = some p.2 := fun p hp => ⟨(hIv.pin p (List.mem_append_right _ (List.mem_append_left _ hp))).1, hs0 p hp⟩
    have I2 : Inv X pins σ H' { s₁.setGen gi .finished with heap := h' } := I1.call' (ch := []) rfl (Un.kept hk) (I1.hok.kept hk) (allBare_setGen I1.bare rfl) fun b hb => by simp at hb
    exact stop _ vs H' I2 hq ⟨op, hC, fun p hp => ⟨hk _ _ (hop p hp).1, (hop p hp).2⟩⟩
/-- a consumer without objects -/
def cs0 : Csm := ⟨[], fun _ op => op = [], fun _ op h => by rw [h]; exact ⟨rfl, fun p hp => by simp at hp⟩⟩
theorem slp0 {vs us : List V} {s s' : Shared} (h1 : s'.os = s.os) (h2 : AllBare s'.gens) (h3 : ∀ b o, s.heap.get? b = some o → s'.heap.get? b = some o) : Slp cs0 vs s s' := ⟨h1, h2, fun b o _ e => h3 b o e, [], rfl, fun p hp => by simp at hp⟩
/-- all(..) -/
theorem loop_all {R : Result → Shared → Prop} (back : Back X pins σ Y cs0 a gi) (hh : A.handled = none) (hd : A.depth < recursionLimit)
    (hQ : ∀ s2 H', Inv X pins σ H' s2 → Qe [] H' → R (.ok (.ret (.bool true))) s2) (hQ2 : ∀ s2 H', Inv X pins σ H' s2 → Ha [] (.bl false) H' → R (.ok (.ret (.bool false))) s2) (hqe : ∀ vs H, Qe vs H → Qe [] H)
    (hgo : ∀ vs x H, Go vs x H → x = .bl true) (hha : ∀ vs x H, Ha vs x H → x = .bl false ∧ Ha [] x H) :
    ∀ (n : Nat) (s : Shared), s.heap.IsGen a gi → s.heap.NoLimit → GN Y (model X.prog X.w) A.in1.in1 cs0 tn Go Ha Qe gi n s → codeAny (model X.prog X.w) A (.builtin "all.loop" ⟨[.ref a], []⟩) R s := by
  intro n
  induction n with
  | zero =>
    intro s hg hl hn
    refine codeAny_builtin F.entry_all_loop ?_
    rw [Around.under_plainId F.plain_all_loop _]
    show wpAny _ A.in1 (pyNext (.ref a) >>= _) _ _ s
    refine wpAny_bind (gm_next (A := A.in1) back hh hd hg hl hn (fun vs x v H' s2 op _ _ _ _ hb => ⟨s2, slp0 (us := vs) rfl hb fun _ _ e => e⟩) (fun v s2 vs x H' rx I2 hg2 hop hq => ?_) fun s2 vs H' I2 hq _ => ?_)
    · rcases hq with ⟨_, _, _, m, e, _⟩ | hq
      · omega
      · obtain ⟨rfl, h2⟩ := hha vs x H' hq
        cases rx
        refine wpAny_bind (wpAny_holding (wpAny_truthy_bool (wpAny_bind (wpAny_letGo ?_))))
        simp only [Bool.false_eq_true, if_false]
        exact wpAny_bind (wpAny_rule (wpAny_pure (hQ2 s2 H' I2 h2)))
    · exact wpAny_bind (wpAny_rule (wpAny_pure (hQ s2 H' I2 (hqe vs H' hq))))
  | succ n ih =>
    intro s hg hl hn
    refine codeAny_builtin F.entry_all_loop ?_
    rw [Around.under_plainId F.plain_all_loop _]
    show wpAny _ A.in1 (pyNext (.ref a) >>= _) _ _ s
    refine wpAny_bind (gm_next (A := A.in1) back hh hd hg hl hn (fun vs x v H' s2 op _ _ _ _ hb => ⟨s2, slp0 (us := vs) rfl hb fun _ _ e => e⟩) (fun v s2 vs x H' rx I2 hg2 hop hq => ?_) fun s2 vs H' I2 hq _ => ?_)
    · rcases hq with ⟨hq, _, _, m, e, nxt⟩ | hq
      · have := hgo vs x H' hq
        subst this
        cases rx
        refine wpAny_bind (wpAny_holding (wpAny_truthy_bool (wpAny_bind (wpAny_letGo ?_))))
        simp only [if_true]
        have em : m = n := by omega
        subst em
        exact wpAny_pure ⟨plainId_quiet F.plain_all_loop _, ih s2 hg2 I2.nolimit (nxt s2 rfl (slp0 (us := vs) rfl I2.bare fun _ _ e => e))⟩
      · obtain ⟨rfl, h2⟩ := hha vs x H' hq
        cases rx
        refine wpAny_bind (wpAny_holding (wpAny_truthy_bool (wpAny_bind (wpAny_letGo ?_))))
        simp only [Bool.false_eq_true, if_false]
        exact wpAny_bind (wpAny_rule (wpAny_pure (hQ2 s2 H' I2 h2)))
    · exact wpAny_bind (wpAny_rule (wpAny_pure (hQ s2 H' I2 (hqe vs H' hq))))
/-- any(..) -/
theorem loop_any {R : Result → Shared → Prop} (back : Back X pins σ Y cs0 a gi) (hh : A.handled = none) (hd : A.depth < recursionLimit)
    (hQ : ∀ s2 H', Inv X pins σ H' s2 → Qe [] H' → R (.ok (.ret (.bool false))) s2) (hQ2 : ∀ s2 H', Inv X pins σ H' s2 → Ha [] (.bl true) H' → R (.ok (.ret (.bool true))) s2) (hqe : ∀ vs H, Qe vs H → Qe [] H)
    (hgo : ∀ vs x H, Go vs x H → x = .bl false) (hha : ∀ vs x H, Ha vs x H → x = .bl true ∧ Ha [] x H) :
    ∀ (n : Nat) (s : Shared), s.heap.IsGen a gi → s.heap.NoLimit → GN Y (model X.prog X.w) A.in1.in1 cs0 tn Go Ha Qe gi n s → codeAny (model X.prog X.w) A (.builtin "any.loop" ⟨[.ref a], []⟩) R s := by
  intro n
  induction n with
  | zero =>
    intro s hg hl hn
    refine codeAny_builtin F.entry_any_loop ?_
    rw [Around.under_plainId F.plain_any_loop _]
    show wpAny _ A.in1 (pyNext (.ref a) >>= _) _ _ s
    refine wpAny_bind (gm_next (A := A.in1) back hh hd hg hl hn (fun vs x v H' s2 op _ _ _ _ hb => ⟨s2, slp0 (us := vs) rfl hb fun _ _ e => e⟩) (fun v s2 vs x H' rx I2 hg2 hop hq => ?_) fun s2 vs H' I2 hq _ => ?_)
    · rcases hq with ⟨_, _, _, m, e, _⟩ | hq
      · omega
      · obtain ⟨rfl, h2⟩ := hha vs x H' hq
        cases rx
        refine wpAny_bind (wpAny_holding (wpAny_truthy_bool (wpAny_bind (wpAny_letGo ?_))))
        simp only [if_true]
        exact wpAny_bind (wpAny_rule (wpAny_pure (hQ2 s2 H' I2 h2)))
    · exact wpAny_bind (wpAny_rule (wpAny_pure (hQ s2 H' I2 (hqe vs H' hq))))
  | succ n ih =>
    intro s hg hl hn
    refine codeAny_builtin F.entry_any_loop ?_
    rw [Around.under_plainId F.plain_any_loop _]
    show wpAny _ A.in1 (pyNext (.ref a) >>= _) _ _ s
    refine wpAny_bind (gm_next (A := A.in1) back hh hd hg hl hn (fun vs x v H' s2 op _ _ _ _ hb => ⟨s2, slp0 (us := vs) rfl hb fun _ _ e => e⟩) (fun v s2 vs x H' rx I2 hg2 hop hq => ?_) fun s2 vs H' I2 hq _ => ?_)
    · rcases hq with ⟨hq, _, _, m, e, nxt⟩ | hq
      · have := hgo vs x H' hq
        subst this
        cases rx
        refine wpAny_bind (wpAny_holding (wpAny_truthy_bool (wpAny_bind (wpAny_letGo ?_))))
        simp only [Bool.false_eq_true, if_false]
        have em : m = n := by omega
        subst em
        exact wpAny_pure ⟨plainId_quiet F.plain_any_loop _, ih s2 hg2 I2.nolimit (nxt s2 rfl (slp0 (us := vs) rfl I2.bare fun _ _ e => e))⟩
      · obtain ⟨rfl, h2⟩ := hha vs x H' hq
        cases rx
        refine wpAny_bind (wpAny_holding (wpAny_truthy_bool (wpAny_bind (wpAny_letGo ?_))))
        simp only [if_true]
        exact wpAny_bind (wpAny_rule (wpAny_pure (hQ2 s2 H' I2 h2)))
    · exact wpAny_bind (wpAny_rule (wpAny_pure (hQ s2 H' I2 (hqe vs H' hq))))

/-! ### tuple(..): the items go into a list -/
def csL (S : Addr) : Csm := ⟨[S], fun vs op => ∃ acc n, op = [(S, lstObj acc n)] ∧ Vals vs acc.toList, fun _ op ⟨acc, n, h, _⟩ => by
  rw [h]
  refine ⟨rfl, fun p hp v e => ?_⟩
  rw [List.mem_singleton.mp hp] at e
  cases e⟩
theorem slpL {S : Addr} {vs : List V} {x : V} {v : Value} {s : Shared} {acc : Array Value} {n : Nat} (hS : s.heap.get? S = some (lstObj acc n)) (hb : AllBare s.gens) (r : Vals vs acc.toList) (rx : RelV x v) : Slp (csL S) (vs ++ [x]) s { s with heap := s.heap.update S (Obj.mapSeq (·.push v)) } where
  os := rfl
  bare := hb
  keep := fun b o hb e => (Heap.get?_update_other _ _ (fun z => hb (by rw [← z]; exact List.mem_singleton.mpr rfl))).trans e
  own := by
    refine ⟨[(S, Obj.mapSeq (·.push v) (lstObj acc n))], ⟨acc.push v, _, rfl, ?_⟩, fun p hp => ?_⟩
    · rw [Array.toList_push]
      exact r.append (.cons rx .nil)
    · rw [List.mem_singleton.mp hp]
      exact Heap.get?_update_self _ hS rfl
theorem loop_ext {S : Addr} {res : Value} {R : Result → Shared → Prop} (back : Back X pins σ Y (csL S) a gi) (hh : A.handled = none) (hd : A.depth < recursionLimit) (hSa : S ≠ a) (htn : tn ≤ sizeLine)
    (hQ : ∀ s2 H' vs acc n, Inv X pins σ H' s2 → Qe vs H' → s2.heap.get? S = some (lstObj acc n) → Vals vs acc.toList → R (.ok (.ret res)) s2) (hha : ∀ vs x H, ¬ Ha vs x H) :
    ∀ (n : Nat) (s : Shared), s.heap.IsGen a gi → s.heap.NoLimit → GN Y (model X.prog X.w) A.in1.in1 (csL S) tn Go Ha Qe gi n s → codeAny (model X.prog X.w) A (.builtin "list.extend.loop" ⟨[.ref S, .ref a, res], []⟩) R s := by
  intro n
  induction n with
  | zero =>
    intro s hg hl hn
    refine codeAny_builtin F.entry_extend_loop ?_
    rw [Around.under_plainId F.plain_extend_loop _]
    show wpAny _ A.in1 (pyNext (.ref a) >>= _) _ _ s
    refine wpAny_bind (gm_next (A := A.in1) back hh hd hg hl hn (fun vs x v H' s2 op _ rx ⟨acc, c', e, r⟩ hop hb => ⟨_, slpL (hop (S, lstObj acc c') (by rw [e]; exact List.mem_singleton.mpr rfl)) hb r rx⟩) (fun v s2 vs x H' rx I2 hg2 hop hq => ?_) fun s2 vs H' I2 hq ⟨op, ⟨acc, c', e, r⟩, hop⟩ => ?_)
    · rcases hq with ⟨_, _, _, m, e, _⟩ | hq
      · omega
      · exact (hha vs x H' hq).elim
    · exact wpAny_pure (hQ s2 H' vs acc c' I2 hq (hop (S, lstObj acc c') (by rw [e]; exact List.mem_singleton.mpr rfl)).1 r)
  | succ n ih =>
    intro s hg hl hn
    refine codeAny_builtin F.entry_extend_loop ?_
    rw [Around.under_plainId F.plain_extend_loop _]
    show wpAny _ A.in1 (pyNext (.ref a) >>= _) _ _ s
    refine wpAny_bind (gm_next (A := A.in1) back hh hd hg hl hn (fun vs x v H' s2 op _ rx ⟨acc, c', e, r⟩ hop hb => ⟨_, slpL (hop (S, lstObj acc c') (by rw [e]; exact List.mem_singleton.mpr rfl)) hb r rx⟩) (fun v s2 vs x H' rx I2 hg2 hop hq => ?_) fun s2 vs H' I2 hq ⟨op, ⟨acc, c', e, r⟩, hop⟩ => ?_)
    · rcases hq with ⟨_, _, hlen, m, e, nxt⟩ | hq
      · have em : m = n := by omega
        subst em
        obtain ⟨op, ⟨acc, c', e, r⟩, hop⟩ := hop
        have hS := (hop (S, lstObj acc c') (by rw [e]; exact List.mem_singleton.mpr rfl)).1
        have hacc : acc.size = vs.length := by
          have := r.length
          rw [Array.length_toList] at this
          exact this.symm
        show wpAny _ A.in1 (updateSeq S (·.push v) >>= _) _ _ _
        refine wpAny_bind ?_
        have z := slpL (s := s2) hS I2.bare r rx
        refine wpAny_updateSeq hS rfl (wpAny_pure ⟨plainId_quiet F.plain_extend_loop _, ?_⟩) (by rw [hacc]; omega) (by show (acc.push v).size ≤ sizeLine + 1; rw [Array.size_push, hacc]; omega)
        refine ih _ ?_ ?_ (nxt _ rfl z)
        · obtain ⟨o, nm, qn, ho, r'⟩ := hg2
          exact ⟨o, nm, qn, z.keep a o (fun h => hSa (List.mem_singleton.mp h).symm) ho, r'⟩
        · have hSc : S ≠ cStatics := by
            intro h
            obtain ⟨_, ⟨o, es, ep, ho, hd', _⟩, _⟩ := I2.nolimit
            rw [h] at hS
            rw [hS] at ho
            cases ho
            cases hd'
          obtain ⟨mc, hns, hnn⟩ := I2.nolimit
          exact ⟨mc, hns.at' fun o e => z.keep _ o (fun h => hSc (List.mem_singleton.mp h).symm) e, hnn⟩
      · exact (hha vs x H' hq).elim
    · exact wpAny_pure (hQ s2 H' vs acc c' I2 hq (hop (S, lstObj acc c') (by rw [e]; exact List.mem_singleton.mpr rfl)).1 r)

/-! ### sum(..) -/
def csS (S : Addr) : Csm := ⟨[S], fun vs op => ∃ (n : Nat) (t : Tok) (is : List Int), op = [(S, { cls := .type "list", dict := none, data := .seq #[.int is.sum t] n, slots := #[] })] ∧ vs = is.map V.int, fun _ op ⟨n, t, is, h, _⟩ => by
  rw [h]
  refine ⟨rfl, fun p hp v e => ?_⟩
  rw [List.mem_singleton.mp hp] at e
  cases e⟩
theorem lstCs {S : Addr} {x : Int} {t : Tok} {n : Nat} {h : Heap} {mc : Str → Option Value} (hS : h.get? S = some { cls := .type "list", dict := none, data := .seq #[.int x t] n, slots := #[] }) (hn : h.Ns cStatics mc) : S ≠ cStatics := by
  intro e
  obtain ⟨o, es, ep, ho, hd', _⟩ := hn
  rw [e] at hS
  rw [hS] at ho
  cases ho
  cases hd'
theorem sum_snoc (is : List Int) (b : Int) : (is ++ [b]).sum = is.sum + b := by
  rw [List.sum_append]
  simp
theorem loop_sum {S : Addr} {R : Result → Shared → Prop} (back : Back X pins σ Y (csS S) a gi) (hh : A.handled = none) (hd : A.depth < recursionLimit) (hSa : S ≠ a)
    (hQ : ∀ s2 H' (is : List Int) (t : Tok), Inv X pins σ H' s2 → Qe (is.map V.int) H' → R (.ok (.ret (.int is.sum t))) s2) (hgo : ∀ vs x H, Go vs x H → ∃ b, x = .int b) (hha : ∀ vs x H, ¬ Ha vs x H) :
    ∀ (n : Nat) (s : Shared) (tot : Int) (tA : Tok) (c : Nat) (stg : Int), (stg = 0 ∨ stg = 2) → s.heap.IsGen a gi → s.heap.NoLimit → s.heap.get? S = some { cls := .type "list", dict := none, data := .seq #[.int tot tA] c, slots := #[] } →
      GN Y (model X.prog X.w) A.in1.in1 (csS S) tn Go Ha Qe gi n s → codeAny (model X.prog X.w) A (.builtin "sum.loop" ⟨[.ref a, .ref S, rawInt stg, rawInt 0], []⟩) R s := by
  have upd1 : ∀ {s2 : Shared} {is : List Int} {b : Int} {n : Nat} {t : Tok} {tk : Nat}, s2.heap.get? S = some { cls := .type "list", dict := none, data := .seq #[.int is.sum t] n, slots := #[] } → AllBare s2.gens →
      Slp (csS S) (is.map V.int ++ [V.int b]) s2 { s2 with heap := s2.heap.update S (Obj.mapSeq fun _ => #[.int (is.sum + b) s2.toks]), toks := tk } := fun {s2 is b n t tk} hS hb => by
    refine ⟨rfl, hb, fun b' o hb' e => (Heap.get?_update_other _ _ (fun z => hb' (by rw [← z]; exact List.mem_singleton.mpr rfl))).trans e, [(S, Obj.mapSeq (fun _ => #[Value.int (is.sum + b) s2.toks]) { cls := .type "list", dict := none, data := .seq #[.int is.sum t] n, slots := #[] })], ⟨_, s2.toks, is ++ [b], by rw [sum_snoc]; rfl, by rw [List.map_append]; rfl⟩, fun p hp => ?_⟩
    rw [List.mem_singleton.mp hp]
    exact Heap.get?_update_self (Obj.mapSeq fun _ => #[Value.int (is.sum + b) s2.toks]) hS rfl
  have upd2 : ∀ {s2 : Shared} {is : List Int} {b : Int} {n : Nat} {t : Tok} {tk : Nat}, s2.heap.get? S = some { cls := .type "list", dict := none, data := .seq #[.int is.sum t] n, slots := #[] } → AllBare s2.gens →
      Slp (csS S) (is.map V.int ++ [V.int b]) s2 { s2 with heap := (s2.heap.update S (Obj.mapSeq fun _ => #[.int (is.sum + b) s2.toks])).update S (Obj.mapSeq fun _ => #[.int (is.sum + b) s2.toks]), toks := tk } := fun {s2 is b n t tk} hS hb => by
    have hS2 := Heap.get?_update_self (Obj.mapSeq fun _ => #[Value.int (is.sum + b) s2.toks]) hS rfl
    refine ⟨rfl, hb, fun b' o hb' e => (Heap.get?_update_other _ _ (fun z => hb' (by rw [← z]; exact List.mem_singleton.mpr rfl))).trans ((Heap.get?_update_other _ _ (fun z => hb' (by rw [← z]; exact List.mem_singleton.mpr rfl))).trans e), [(S, Obj.mapSeq (fun _ => #[Value.int (is.sum + b) s2.toks]) (Obj.mapSeq (fun _ => #[Value.int (is.sum + b) s2.toks]) { cls := .type "list", dict := none, data := .seq #[.int is.sum t] n, slots := #[] }))], ⟨_, s2.toks, is ++ [b], by rw [sum_snoc]; rfl, by rw [List.map_append]; rfl⟩, fun p hp => ?_⟩
    rw [List.mem_singleton.mp hp]
    exact Heap.get?_update_self (Obj.mapSeq fun _ => #[Value.int (is.sum + b) s2.toks]) hS2 rfl
  have exs : ∀ vs x v H' (s2 : Shared) op, Go vs x H' → RelV x v → (csS S).C vs op → (∀ p ∈ op, s2.heap.get? p.1 = some p.2) → AllBare s2.gens → ∃ s', Slp (csS S) (vs ++ [x]) s2 s' := fun vs x v H' s2 op hg rx ⟨n, t, is, e, ev⟩ hop hb => by
    obtain ⟨b, rfl⟩ := hgo vs x H' hg
    rw [ev]
    exact ⟨_, upd1 (tk := s2.toks) (hop _ (by rw [e]; exact List.mem_singleton.mpr rfl)) hb⟩
  have fin : ∀ {s s2 : Shared} {vs : List V} {H' : Hp} {tot : Int} {tA : Tok} {c : Nat}, s.heap.get? S = some { cls := .type "list", dict := none, data := .seq #[.int tot tA] c, slots := #[] } → Inv X pins σ H' s2 → Qe vs H' →
      (∃ op, (csS S).C vs op ∧ ∀ p ∈ op, s2.heap.get? p.1 = some p.2 ∧ s.heap.get? p.1 = some p.2) → R (.ok (.ret (.int tot tA))) s2 := fun {s s2 vs H' tot tA c} hS I2 hq ⟨op, ⟨n, t, is, e, ev⟩, hop⟩ => by
    have z := (hop _ (by rw [e]; exact List.mem_singleton.mpr rfl)).2
    rw [hS] at z
    cases z
    rw [ev] at hq
    exact hQ s2 H' is tA I2 hq
  intro n
  induction n with
  | zero =>
    intro s tot tA c stg hst hg hl hS hn
    refine codeAny_builtin F.entry_sum_loop ?_
    rw [Around.under_plainId F.plain_sum_loop _]
    show wpAny _ A.in1 (seqItems? (.ref S) >>= _) _ _ s
    refine wpAny_bind (wpAny_seqItems hS rfl ?_)
    show wpAny _ A.in1 (tryCatch (pyNext (.ref a)) _ >>= _) _ _ s
    refine wpAny_bind (wpAny_tryCatch (gm_next (A := A.in1) back hh hd hg hl hn exs (fun v s2 vs x H' rx I2 hg2 hop hq => ?_) fun s2 vs H' I2 hq hop => ?_))
    · rcases hq with ⟨_, _, _, m, e, _⟩ | hq
      · omega
      · exact (hha vs x H' hq).elim
    · exact wpAny_pure (fin hS I2 hq hop)
  | succ n ih =>
    intro s tot tA c stg hst hg hl hS hn
    refine codeAny_builtin F.entry_sum_loop ?_
    rw [Around.under_plainId F.plain_sum_loop _]
    show wpAny _ A.in1 (seqItems? (.ref S) >>= _) _ _ s
    refine wpAny_bind (wpAny_seqItems hS rfl ?_)
    show wpAny _ A.in1 (tryCatch (pyNext (.ref a)) _ >>= _) _ _ s
    refine wpAny_bind (wpAny_tryCatch (gm_next (A := A.in1) back hh hd hg hl hn exs (fun v s2 vs x H' rx I2 hg2 hop hq => ?_) fun s2 vs H' I2 hq hop => ?_))
    · rcases hq with ⟨hq, _, _, m, e, nxt⟩ | hq
      · have em : m = n := by omega
        subst em
        obtain ⟨b, rfl⟩ := hgo vs x H' hq
        obtain ⟨op, ⟨c', t', is, eop, ev⟩, hop⟩ := hop
        have z := hop _ (by rw [eop]; exact List.mem_singleton.mpr rfl)
        have z2 := z.2
        rw [hS] at z2
        cases z2
        have hS' := z.1
        subst ev
        obtain ⟨t, rfl⟩ := rx
        have again : ∀ {s' : Shared} {c2 : Nat} {stg' : Int}, (stg' = 0 ∨ stg' = 2) → s'.gens = s2.gens → Slp (csS S) (is.map V.int ++ [V.int b]) s2 s' → s'.heap.get? S = some { cls := .type "list", dict := none, data := .seq #[.int (is.sum + b) s2.toks] c2, slots := #[] } →
            codeAny (model X.prog X.w) A (.builtin "sum.loop" ⟨[.ref a, .ref S, rawInt stg', rawInt 0], []⟩) R s' := fun {s' c2 stg'} hst' hgens hz hS2 => by
          refine ih s' (is.sum + b) s2.toks c2 stg' hst' ?_ ?_ hS2 (nxt s' hgens hz)
          · obtain ⟨o, nm, qn, ho, r'⟩ := hg2
            exact ⟨o, nm, qn, hz.keep a o (fun h => hSa (List.mem_singleton.mp h).symm) ho, r'⟩
          · obtain ⟨mc, hns, hnn⟩ := I2.nolimit
            have hSc := lstCs hS' hns
            exact ⟨mc, hns.at' fun o e => hz.keep _ o (fun h => hSc (List.mem_singleton.mp h).symm) e, hnn⟩
        rcases hst with rfl | rfl
        · show wpAny _ A.in1 (if (_ : Bool) = true then (mkInt (is.sum + b) >>= _) else _) _ _ _
          split
          · refine wpAny_bind (wpAny_mkInt ?_)
            show wpAny _ A.in1 (updateSeq S (fun _ => #[.int (is.sum + b) s2.toks]) >>= _) _ _ _
            refine wpAny_bind ?_
            refine wpAny_updateSeq hS' rfl (wpAny_pure ⟨plainId_quiet F.plain_sum_loop _, again (.inl rfl) rfl (upd1 hS' I2.bare) (Heap.get?_update_self (Obj.mapSeq fun _ => #[Value.int (is.sum + b) s2.toks]) hS' rfl)⟩)
          · refine wpAny_bind (wpAny_rule ?_)
            refine wpAny_bind (wpAny_attempt (wpAny_holding (wpAny_add_int ?_)))
            show wpAny _ A.in1 (updateSeq S (fun _ => #[.int (is.sum + b) s2.toks]) >>= _) _ _ _
            refine wpAny_bind (wpAny_updateSeq hS' rfl ?_)
            have hS₂ := Heap.get?_update_self (Obj.mapSeq fun _ => #[Value.int (is.sum + b) s2.toks]) hS' rfl
            refine wpAny_bind (wpAny_letGo ?_)
            refine wpAny_bind (wpAny_updateSeq hS₂ rfl (wpAny_pure ⟨plainId_quiet F.plain_sum_loop _, again (.inr rfl) rfl (upd2 hS' I2.bare) (Heap.get?_update_self (Obj.mapSeq fun _ => #[Value.int (is.sum + b) s2.toks]) hS₂ rfl)⟩))
        · show wpAny _ A.in1 ((holding [Value.int b t] (binaryOp .Add (.int is.sum tA) (.int b t))).attempt >>= _) _ _ _
          refine wpAny_bind (wpAny_attempt (wpAny_holding (wpAny_add_int ?_)))
          show wpAny _ A.in1 (updateSeq S (fun _ => #[.int (is.sum + b) s2.toks]) >>= _) _ _ _
          refine wpAny_bind (wpAny_updateSeq hS' rfl ?_)
          have hS₂ := Heap.get?_update_self (Obj.mapSeq fun _ => #[Value.int (is.sum + b) s2.toks]) hS' rfl
          refine wpAny_bind (wpAny_letGo ?_)
          refine wpAny_bind (wpAny_updateSeq hS₂ rfl (wpAny_pure ⟨plainId_quiet F.plain_sum_loop _, again (.inr rfl) rfl (upd2 hS' I2.bare) (Heap.get?_update_self (Obj.mapSeq fun _ => #[Value.int (is.sum + b) s2.toks]) hS₂ rfl)⟩))
      · exact (hha vs x H' hq).elim
    · exact wpAny_pure (fin hS I2 hq hop)
end
end Mp
set_option Elab.async false
set_option linter.all false
set_option maxRecDepth 100000
set_option maxHeartbeats 1000000
/-! MpGen6: tuple, sum, all, any of a generator expression. -/
namespace Mp
open PySem PySem.Spec PyProof.Rows L2 GenW

theorem room_in {n : Nat} {A : Around} (h : Room (n + 2) A) : Room n A.in1 ∧ Room n A.in1.in1 ∧ Room n A.in1.in1.in1 ∧ Room n A.in1.in1.in1.in1 ∧ Room n A.in1.in1.in1.in1.in1 ∧ Room n A.in1.in1.in1.in1.in1.in1 := by
  have h1 := h.dp
  have h2 := h.un
  refine ⟨⟨h.hd, ?_, ?_⟩, ⟨h.hd, ?_, ?_⟩, ⟨h.hd, ?_, ?_⟩, ⟨h.hd, ?_, ?_⟩, ⟨h.hd, ?_, ?_⟩, ⟨h.hd, ?_, ?_⟩⟩
  all_goals first | (show A.depth + 3 * n + 5 < _; omega) | skip
  · show A.units + 1 + 16 * n + 200 < _; omega
  · show A.units + 1 + 1 + 16 * n + 200 < _; omega
  · show A.units + 1 + 1 + 1 + 16 * n + 200 < _; omega
  · show A.units + 1 + 1 + 1 + 1 + 16 * n + 200 < _; omega
  · show A.units + 1 + 1 + 1 + 1 + 1 + 16 * n + 200 < _; omega
  · show A.units + 1 + 1 + 1 + 1 + 1 + 1 + 16 * n + 200 < _; omega
section
variable {X : Cx} {pins : List (Addr × Obj)} {σ : L2.St} {lev : Nat} {L4 : List Addr} {H4 : Hp} {st4 stF : Sto} {rF : List PV} {bF : Bool} {a : Addr} {s : Shared} {A : Around}
/-- all(g) -/
theorem call_allG {Q : Value → Shared → Prop} {E : Value → Shared → Prop} (hr : Room (lev + 3) A) (hfr : A.frames = some X.stack) (G : GMx X pins σ lev L4 H4 st4 .all rF bF stF a s)
    (hT : ∀ L H, Ext L4 H4 st4 L H stF → Wd X.K L H stF → bF = false → ∀ s2, Inv X pins σ H s2 → Q (.bool true) s2) (hF : ∀ L H, Ext L4 H4 st4 L H stF → Wd X.K L H stF → bF = true → ∀ s2, Inv X pins σ H s2 → Q (.bool false) s2) :
    wpAny (model X.prog X.w) A (call (.builtin "all") [.ref a]) Q E s := by
  obtain ⟨gi, c0, hg, hgs, I, wd4, wake⟩ := G
  refine call_function_tree F.kind_all F.plain_all F.entry_all (F.args_all1 _) ?_
  unfold Builtin.«all»
  refine wpAny_bind (m := oneArg "all" _) (wpAny_pure ?_)
  refine wpAny_bind (wpAny_pyIter_gen hg ?_)
  obtain ⟨r1, r2, r3, r4, r5, r6⟩ := room_in (n := lev + 1) hr
  have hba : AllBare (s.setGen gi .running).gens := allBare_setGen I.bare rfl
  obtain ⟨Y, back, sg⟩ := wake A.in1.in1 cs0 [] (s.setGen gi .running) (fun vs x _ => x = .bl true) (fun vs x H => x = .bl false ∧ bF = true ∧ ∃ L, Ext L4 H4 st4 L H stF ∧ Wd X.K L H stF) (fun vs H => bF = false ∧ ∃ L, Ext L4 H4 st4 L H stF ∧ Wd X.K L H stF)
    r2 hfr (fun b hb => by cases hb) rfl (fun p hp => by simp at hp) (fun _ _ e => e) rfl hba
    (fun L H st vs acc pv u _ _ _ rp hs _ => by
      cases pv with
      | bl b =>
        cases rp.bl_inv
        have e : some (!b) = some false := hs
        cases b with
        | true => rfl
        | false => cases e
      | _ => cases hs)
    (fun L H vs acc pv u hx hw _ rp hs _ hb => by
      cases pv with
      | bl b =>
        cases rp.bl_inv
        have e : some (!b) = some true := hs
        cases b with
        | true => cases e
        | false => exact ⟨rfl, hb, L, hx, hw⟩
      | _ => cases hs)
    (fun L H vs hx hw _ hb => ⟨hb, L, hx, hw⟩)
  refine wpAny_pure ⟨plainId_quiet F.plain_all_loop _, ?_⟩
  refine loop_all back hr.hd hr.depth (fun s2 H' I2 ⟨hb, L, hx, hw⟩ => hT L H' hx hw hb s2 I2) (fun s2 H' I2 ⟨_, hb, L, hx, hw⟩ => hF L H' hx hw hb s2 I2) (fun vs H h => h) (fun vs x H h => h) (fun vs x H h => ⟨h.1, h⟩) rF.length s hg I.nolimit ⟨_, hgs, rfl, sg⟩
/-- any(g) -/
theorem call_anyG {Q : Value → Shared → Prop} {E : Value → Shared → Prop} (hr : Room (lev + 3) A) (hfr : A.frames = some X.stack) (G : GMx X pins σ lev L4 H4 st4 .any rF bF stF a s)
    (hT : ∀ L H, Ext L4 H4 st4 L H stF → Wd X.K L H stF → bF = false → ∀ s2, Inv X pins σ H s2 → Q (.bool false) s2) (hF : ∀ L H, Ext L4 H4 st4 L H stF → Wd X.K L H stF → bF = true → ∀ s2, Inv X pins σ H s2 → Q (.bool true) s2) :
    wpAny (model X.prog X.w) A (call (.builtin "any") [.ref a]) Q E s := by
  obtain ⟨gi, c0, hg, hgs, I, wd4, wake⟩ := G
  refine call_function_tree F.kind_any F.plain_any F.entry_any (F.args_any1 _) ?_
  unfold Builtin.«any»
  refine wpAny_bind (m := oneArg "any" _) (wpAny_pure ?_)
  refine wpAny_bind (wpAny_pyIter_gen hg ?_)
  obtain ⟨r1, r2, r3, r4, r5, r6⟩ := room_in (n := lev + 1) hr
  have hba : AllBare (s.setGen gi .running).gens := allBare_setGen I.bare rfl
  obtain ⟨Y, back, sg⟩ := wake A.in1.in1 cs0 [] (s.setGen gi .running) (fun vs x _ => x = .bl false) (fun vs x H => x = .bl true ∧ bF = true ∧ ∃ L, Ext L4 H4 st4 L H stF ∧ Wd X.K L H stF) (fun vs H => bF = false ∧ ∃ L, Ext L4 H4 st4 L H stF ∧ Wd X.K L H stF)
    r2 hfr (fun b hb => by cases hb) rfl (fun p hp => by simp at hp) (fun _ _ e => e) rfl hba
    (fun L H st vs acc pv u _ _ _ rp hs _ => by
      cases pv with
      | bl b =>
        cases rp.bl_inv
        have e : some b = some false := hs
        cases e
        rfl
      | _ => cases hs)
    (fun L H vs acc pv u hx hw _ rp hs _ hb => by
      cases pv with
      | bl b =>
        cases rp.bl_inv
        have e : some b = some true := hs
        cases e
        exact ⟨rfl, hb, L, hx, hw⟩
      | _ => cases hs)
    (fun L H vs hx hw _ hb => ⟨hb, L, hx, hw⟩)
  refine wpAny_pure ⟨plainId_quiet F.plain_any_loop _, ?_⟩
  refine loop_any back hr.hd hr.depth (fun s2 H' I2 ⟨hb, L, hx, hw⟩ => hT L H' hx hw hb s2 I2) (fun s2 H' I2 ⟨_, hb, L, hx, hw⟩ => hF L H' hx hw hb s2 I2) (fun vs H h => h) (fun vs x H h => h) (fun vs x H h => ⟨h.1, h⟩) rF.length s hg I.nolimit ⟨_, hgs, rfl, sg⟩
theorem intsOf_mem : ∀ {xs : List PV} {is : List Int}, intsOf xs = some is → ∀ x ∈ xs, ∃ i, x = .int i
  | [], _, _, x, hx => by cases hx
  | y :: xs, is, h, x, hx => by
    cases y with
    | int i =>
      obtain ⟨ms, h1, h2⟩ := Option.map_eq_some_iff.mp (show (intsOf xs).map (i :: ·) = some is from h)
      rcases List.mem_cons.mp hx with e | e
      · exact ⟨i, e⟩
      · exact intsOf_mem h1 x e
    | _ => cases h
/-- sum(g) -/
theorem call_sumG {is : List Int} {Q : Value → Shared → Prop} {E : Value → Shared → Prop} (hr : Room (lev + 3) A) (hfr : A.frames = some X.stack) (G : GMx X pins σ lev L4 H4 st4 .sum rF bF stF a s) (hb0 : bF = false) (hi : intsOf rF = some is)
    (hT : ∀ L H t, Ext L4 H4 st4 L H stF → Wd X.K L H stF → ∀ s2, Inv X pins σ H s2 → Q (.int is.sum t) s2) :
    wpAny (model X.prog X.w) A (call (.builtin "sum") [.ref a]) Q E s := by
  obtain ⟨gi, c0, hg, hgs, I, wd4, wake⟩ := G
  obtain ⟨r1, r2, r3, r4, r5, r6⟩ := room_in (n := lev + 1) hr
  refine call_function_tree F.kind_sum F.plain_sum F.entry_sum (F.args_sum1 _) ?_
  unfold Builtin.«sum»
  simp only [List.length_cons, List.length_nil]
  rw [if_neg (by decide)]
  refine wpAny_bind (wpAny_of_eq (show Builtin.Builtins.bindParams "sum" ["start"] 0 { } = pure [none] from rfl) ?_)
  refine wpAny_bind (wpAny_pyIter_gen hg ?_)
  refine wpAny_bind (wpAny_mkInt ?_)
  refine wpAny_bind (wpAny_pure ?_)
  simp only [List.forIn_cons, List.forIn_nil]
  refine wpAny_bind (wpAny_bind (wpAny_bind (wpAny_isInstance (T := "int") (b := false) (typeIs_int _ _ _) PySem.sub_int_str ?_)))
  simp only [Bool.false_eq_true, if_false]
  refine wpAny_pure (wpAny_bind (wpAny_bind (wpAny_isInstance (T := "int") (b := false) (typeIs_int _ _ _) PySem.sub_int_bytes ?_)))
  simp only [Bool.false_eq_true, if_false]
  refine wpAny_pure (wpAny_bind (wpAny_bind (wpAny_isInstance (T := "int") (b := false) (typeIs_int _ _ _) PySem.sub_int_bytearray ?_)))
  simp only [Bool.false_eq_true, if_false]
  refine wpAny_pure (wpAny_pure ?_)
  refine wpAny_bind (wpAny_newObj_type ?_)
  have hlt : a < s.heap.objs.size := by
    obtain ⟨o, _, _, ho, _⟩ := hg
    exact Heap.lt_size ho
  have hS : (s.heap.push { cls := .type "list", data := .seq [Value.int 0 s.toks].toArray }).get? s.heap.objs.size = some { cls := .type "list", data := .seq [Value.int 0 s.toks].toArray } := Heap.get?_push_size _ rfl
  have kp : ∀ b o, s.heap.get? b = some o → (s.heap.push { cls := .type "list", data := .seq [Value.int 0 s.toks].toArray }).get? b = some o := fun b o e => Heap.get?_push_of_some _ e
  obtain ⟨Y, back, sg⟩ := wake A.in1.in1 (csS s.heap.objs.size) [(s.heap.objs.size, { cls := .type "list", data := .seq #[Value.int 0 s.toks] })] (({ s with heap := s.heap.push { cls := .type "list", data := .seq [Value.int 0 s.toks].toArray }, toks := s.toks + 1 } : Shared).setGen gi .running) (fun vs x _ => ∃ b, x = .int b) (fun vs x H => False)
    (fun vs H => vs = is.map V.int ∧ ∃ L, Ext L4 H4 st4 L H stF ∧ Wd X.K L H stF)
    r2 hfr (fun b hb => by rw [List.mem_singleton.mp hb]; exact Nat.le_refl _) ⟨_, _, [], rfl, rfl⟩ (fun p hp => by rw [List.mem_singleton.mp hp]; exact hS) kp rfl (allBare_setGen (s := ({ s with heap := _, toks := _ } : Shared)) I.bare rfl)
    (fun L H st vs acc pv u _ _ _ rp _ hpre => by
      obtain ⟨b, hb⟩ := intsOf_mem hi pv (hpre.subset (List.mem_append_right _ (List.mem_singleton.mpr rfl)))
      subst hb
      exact ⟨b, rp.int_inv⟩)
    (fun L H vs acc pv u _ _ _ _ hs _ _ => by cases hs)
    (fun L H vs hx hw rr _ => ⟨ints_rep rr hi, L, hx, hw⟩)
  refine wpAny_pure ⟨plainId_quiet F.plain_sum_loop _, ?_⟩
  have inj : ∀ {xs ys : List Int}, xs.map V.int = ys.map V.int → xs = ys := fun {xs ys} h => by
    have : (xs.map V.int).map (fun v => match v with | V.int i => i | _ => 0) = (ys.map V.int).map (fun v => match v with | V.int i => i | _ => 0) := by rw [h]
    simpa [List.map_map, Function.comp_def] using this
  refine loop_sum back hr.hd hr.depth (Nat.ne_of_gt hlt) (fun s2 H' js t I2 ⟨hj, L, hx, hw⟩ => by rw [inj hj]; exact hT L H' t hx hw s2 I2) (fun vs x H h => h) (fun vs x H h => h) rF.length _ 0 s.toks _ 0 (.inl rfl) (hg.keeps kp) (I.nolimit.keeps kp) hS ⟨_, hgs, rfl, sg⟩
/-- collect(g) -/
theorem collectG {Q : List Value → Shared → Prop} {E : Value → Shared → Prop} (hr : Room (lev + 3) A) (hfr : A.frames = some X.stack) (G : GMx X pins σ lev L4 H4 st4 .tup rF bF stF a s) (hb0 : bF = false) (hsz : rF.length ≤ sizeLine)
    (hT : ∀ L H vs acc, Ext L4 H4 st4 L H stF → Wd X.K L H stF → Reps X.K H L rF vs → Vals vs acc → ∀ s2, Inv X pins σ H s2 → Q acc s2) :
    wpAny (model X.prog X.w) A (collect (.ref a)) Q E s := by
  obtain ⟨gi, c0, hg, hgs, I, wd4, wake⟩ := G
  obtain ⟨r1, r2, r3, r4, r5, r6⟩ := room_in (n := lev + 1) hr
  have hlt : a < s.heap.objs.size := by
    obtain ⟨o, _, _, ho, _⟩ := hg
    exact Heap.lt_size ho
  have hSI : s.heap.objs.size ≠ a := Nat.ne_of_gt hlt
  unfold collect
  refine wpAny_bind (wpAny_runValue (codeAny_builtin F.entry_proto_collect ?_))
  rw [Around.under_plainId F.plain_proto_collect _]
  show wpAny _ A.in1 (newList [] >>= fun l => again (.builtin "list.__iadd__" ⟨[l, .ref a], []⟩)) _ _ s
  refine wpAny_bind (wpAny_newObj_type ?_)
  refine wpAny_pure ⟨plainId_quiet F.plain_list_iadd _, codeAny_builtin F.entry_list_iadd ?_⟩
  rw [Around.under_plainId F.plain_list_iadd _]
  show wpAny _ A.in1 (Builtin.List.listExtendWith (.ref s.heap.objs.size) (.ref a) (.ref s.heap.objs.size)) _ _ _
  unfold Builtin.List.listExtendWith
  have k1 : ∀ b o, s.heap.get? b = some o → (s.heap.push { cls := .type "list", data := .seq ([] : List Value).toArray }).get? b = some o := fun b o e => Heap.get?_push_of_some _ e
  have g1 : (s.heap.push { cls := .type "list", data := .seq ([] : List Value).toArray }).IsGen a gi := hg.keeps k1
  refine wpAny_bind (wpAny_typeOf (Heap.IsGen.typeIs (s := { s with heap := _ }) g1) ?_)
  have h1 : Builtin.List.listSameRef (.ref s.heap.objs.size) (.ref a) = false := by simp [Builtin.List.listSameRef, hSI]
  have h2 : (Value.type "generator" == Value.type "list") = false := by decide
  have h3 : (Value.type "generator" == Value.type "tuple") = false := by decide
  simp only [h1, h2, h3, Bool.or_false, Bool.false_eq_true, if_false]
  refine wpAny_bind (wpAny_pyIter_gen (s := { s with heap := _ }) g1 ?_)
  refine wpAny_bind (wpAny_holding ?_)
  unfold Builtin.List.listLengthHint
  refine wpAny_bind (wpAny_specialOf (Heap.IsGen.typeIs (s := { s with heap := _ }) g1) F.gen_no_len ?_)
  show wpAny _ A.in1 (specialOf (Value.ref a) (Str.ofString "__length_hint__") >>= _) _ _ _
  refine wpAny_bind (wpAny_specialOf (Heap.IsGen.typeIs (s := { s with heap := _ }) g1) F.gen_no_hint ?_)
  refine wpAny_pure ?_
  show wpAny _ A.in1 (rule "list.extend.makes-room" >>= fun _ => Builtin.List.listTouch (.ref s.heap.objs.size) >>= fun _ =>
    again (.builtin "list.extend.loop" ⟨[.ref s.heap.objs.size, .ref a, .ref s.heap.objs.size], []⟩)) _ _ _
  refine wpAny_bind (wpAny_rule ?_)
  have hS₁ : (s.heap.push { cls := .type "list", data := .seq ([] : List Value).toArray }).get? s.heap.objs.size = some { cls := .type "list", data := .seq ([] : List Value).toArray } := Heap.get?_push_size _ rfl
  refine wpAny_bind ?_
  show wpAny _ A.in1 (updateSeq s.heap.objs.size (·.push .none) >>= fun _ => updateSeq s.heap.objs.size (·.pop)) _ _ _
  refine wpAny_bind (wpAny_updateSeq hS₁ rfl ?_)
  have hS₂ := Heap.get?_update_self (Obj.mapSeq (·.push Value.none)) hS₁ rfl
  refine wpAny_updateSeq (hz := by seq_fits) hS₂ rfl ?_
  have hS₃ := Heap.get?_update_self (Obj.mapSeq (·.pop)) hS₂ rfl
  have k4 : ∀ b o, s.heap.get? b = some o → (((s.heap.push { cls := .type "list", data := .seq ([] : List Value).toArray }).update s.heap.objs.size (Obj.mapSeq (·.push Value.none))).update s.heap.objs.size (Obj.mapSeq (·.pop))).get? b = some o :=
    fun b o e => (Heap.get?_update_other _ _ (Nat.ne_of_gt (Heap.lt_size e))).trans ((Heap.get?_update_other _ _ (Nat.ne_of_gt (Heap.lt_size e))).trans (k1 b o e))
  refine wpAny_pure ⟨plainId_quiet F.plain_extend_loop _, ?_⟩
  obtain ⟨Y, back, sg⟩ := wake A.in1.in1 (csL s.heap.objs.size) [(s.heap.objs.size, _)] (({ s with heap := ((s.heap.push { cls := .type "list", data := .seq ([] : List Value).toArray }).update s.heap.objs.size (Obj.mapSeq (·.push Value.none))).update s.heap.objs.size (Obj.mapSeq (·.pop)) } : Shared).setGen gi .running) (fun vs x _ => True) (fun vs x H => False)
    (fun vs H => ∃ L, Ext L4 H4 st4 L H stF ∧ Wd X.K L H stF ∧ Reps X.K H L rF vs)
    r2 hfr (fun b hb => by rw [List.mem_singleton.mp hb]; exact Nat.le_refl _) ⟨#[], _, rfl, .nil⟩ (fun p hp => by rw [List.mem_singleton.mp hp]; exact hS₃) k4 rfl (allBare_setGen (s := ({ s with heap := _ } : Shared)) I.bare rfl)
    (fun _ _ _ _ _ _ _ _ _ _ _ _ _ => trivial) (fun L H vs acc pv u _ _ _ _ hs _ _ => by cases hs) (fun L H vs hx hw rr _ => ⟨L, hx, hw, rr⟩)
  refine loop_ext back hr.hd hr.depth hSI hsz (fun s2 H' vs acc n I2 ⟨L, hx, hw, rr⟩ hS rv => ?_) (fun vs x H h => h) rF.length _ (hg.keeps k4) (I.nolimit.keeps k4) ⟨_, hgs, rfl, sg⟩
  show wpAny _ A (load s.heap.objs.size >>= _) _ _ s2
  refine wpAny_bind (wpAny_load hS ?_)
  exact wpAny_pure (hT L H' vs acc.toList hx hw rr rv s2 I2)
/-- tuple(g) -/
theorem call_tupG {Q : Value → Shared → Prop} {E : Value → Shared → Prop} (hr : Room (lev + 5) A) (hfr : A.frames = some X.stack) (G : GMx X pins σ lev L4 H4 st4 .tup rF bF stF a s) (hb0 : bF = false) (hsz : rF.length ≤ sizeLine)
    (hT : ∀ L H vs, Ext L4 H4 st4 L H stF → Wd X.K L H stF → Reps X.K H L rF vs → ∀ s2 p, H p = none → Inv X pins σ (upd H p (.tup vs)) s2 → Q (.ref p) s2) :
    wpAny (model X.prog X.w) A (call (.type "tuple") [.ref a]) Q E s := by
  obtain ⟨r1, r2, r3, r4, r5, r6⟩ := room_in (n := lev + 3) hr
  have hgt : s.TypeIs (.ref a) "generator" := let ⟨gi, c0, hg, _⟩ := G; Heap.IsGen.typeIs hg
  refine callType_codes (Q₁ := fun obj s₁ => s₁.TypeIs obj "tuple" ∧ Q obj s₁) F.called_tuple (F.typeCall_tuple_1 _) F.entry_object_init ?_ fun obj s₁ h₁ => ?_
  · refine codeAny_of_tree ?_
    show wpAny _ A.in1.in1 (do checkBuiltinCall "tuple.__new__" ⟨[.type "tuple", .ref a], []⟩; again (.builtin "tuple.__new__" ⟨[.type "tuple", .ref a], []⟩)) _ _ s
    refine wpAny_bind (wpAny_of_eq (F.newCall_tuple_1 _) (wpAny_pure ⟨plainId_quiet F.plain_tuple_new _, codeAny_builtin F.entry_tuple_new ?_⟩))
    rw [Around.under_plainId F.plain_tuple_new _]
    have hsub := sub_tuple_self
    have hinit := init_tuple_lookup
    have hmh := madeHere_tuple
    wp_walk using wpAny_typeOf hgt, collectG r2 hfr G hb0 hsz
    intro L H vs acc hx hw rr rv s2 I2
    show wpAny _ _ (Builtin.Tuple.tupleExact acc.toArray >>= fun v => ret v) _ _ _
    unfold Builtin.Tuple.tupleExact
    have hz : acc.toArray.size ≤ sizeLine := by
      rw [List.size_toArray, ← rv.length, rr.length]
      exact hsz
    refine wpAny_bind (wpAny_newObj_type ?_ hz)
    refine wpAny_pure ?_
    have hn : H s2.heap.objs.size = none := I2.hok.fresh (Nat.le_refl _)
    refine ⟨⟨_, Heap.get?_push_size _ rfl, rfl⟩, hT L H vs hx hw rr _ s2.heap.objs.size hn ?_⟩
    refine I2.laid (t' := s2.toks) (o := .tup vs) (fun b o e => Heap.get?_push_of_some _ e) (Nat.le_refl _) (show ObjOk X.prog X.w _ _ _ (.tup vs) from ⟨by rw [rr.length]; exact hsz, acc, rv, ⟨_, Heap.get?_push_size _ rfl, rfl, _, rfl⟩⟩)
  · exact ⟨h₁.1, F.args_object_init_2 obj _, object_init_meets F.called_tuple.init.lookup F.called_tuple.made (by decide) _ _ A.in1 _ s₁ ⟨h₁.1, rfl, h₁.2⟩⟩
end
end Mp
set_option Elab.async false
set_option linter.all false
set_option maxRecDepth 100000
set_option maxHeartbeats 1000000
/-! MpGen7: the rule for tuple(..), sum(..), all(..), any(..) of a generator expression. -/
namespace Mp
open PySem PySem.Spec PyProof.Rows L2 GenW

theorem compLoop_no {turn : PV → List PV → Sto → Res (List PV × Bool)} {gs : List (Nat × List PV)} (ht : ∀ x acc st r st', turn x acc st = some (r, st') → r.2 = false) : ∀ {xs : List PV} {acc : List PV} {st : Sto} {r : List PV × Bool} {st' : Sto},
    compLoop turn gs xs acc st = some (r, st') → r.2 = false
  | [], acc, st, r, st', h => by
    unfold compLoop at h
    obtain ⟨_, h2⟩ := ite_some h
    cases h2
    rfl
  | x :: xs, acc, st, r, st', h => by
    unfold compLoop at h
    split at h
    · obtain ⟨q, s1, e1, h1⟩ := bind_inv h
      have l1 := ht _ _ _ _ _ e1
      rw [if_neg (by rw [l1]; exact Bool.false_ne_true)] at h1
      exact compLoop_no ht h1
    · cases h
theorem turnG_no {C : Str → List PV → Sto → Res PV} {G : Str → Option PV} {t : T} {ifs : List E} {elt : E} {kk : CK} (hk : ∀ st v, stops kk st v = some false) {env : Mp.Env} : ∀ x acc st r st', turn1 C G t ifs (bodyG C G kk elt) env x acc st = some (r, st') → r.2 = false := by
  intro x acc st r st' h
  obtain ⟨env', s1, e1, h1⟩ := bind_inv h
  obtain ⟨b, s2, e2, h2⟩ := bind_inv h1
  cases b with
  | true =>
    obtain ⟨v, s3, e3, h3⟩ := bind_inv h2
    rw [hk] at h3
    cases h3
    rfl
  | false => cases h2; rfl
section
variable {X : Cx} {g : Gc} {N : List Str} {sc : Scope} {d k : Nat} {c P : Addr}
theorem se_gen {own : List (Str × Nat)} {scope : Scope} {y : T} {z : It} {ws : List E} {x : E} {elt tg iter : Expr} {ifs : List Expr} {p pos gpos : Pos} {kk : CK} {f : Str}
    (O : XOk g N sc (d + 1) k c X) (hkk : ckOf f = some kk) (hfr : g.t.free f = true) (hgl : gloB sc f = true) (hb : genC N sc scope own = true) (hdot : scope.names.lookup (".0" : Str) = some NameKind.local) (hv : ∀ n ∈ tNames y, n ∈ own.map (·.2)) (hset : isSet iter = false) (hlist : isList iter = false)
    (hi : PI X tg iter (tMI (mdOf X g k c P) z)) (hg : ∀ Y c2 P2, XOk g N scope d k c2 Y → PG Y tg (tMG (mdOf Y g k c2 P2) y)) (ht : ∀ Y c2 P2, XOk g N scope d k c2 Y → PTs Y ifs (tMF (mdOf Y g k c2 P2) ws)) (hel : ∀ Y c2 P2, XOk g N scope d k c2 Y → PE Y elt (tM (mdOf Y g k c2 P2) x)) :
    PE X (.Call (.Name f p) [.GeneratorExp elt [⟨tg, iter, ifs, 0⟩] scope gpos] [] pos) (tM (mdOf X g k c P) (.comp kk (own.map (·.2)) x [.mk y z ws])) := by
  refine ⟨fun pins s σ H Q I ⟨L, env, st, pv, st', he, w, hev, fin⟩ => ?_⟩
  rw [evE_g1] at hev
  obtain ⟨r, sF, e1, h1⟩ := bind_inv hev
  obtain ⟨wk, s2, e2, h2⟩ := bind_inv e1
  obtain ⟨rF, bF⟩ := r
  have hst : starEach [.GeneratorExp elt [⟨tg, iter, ifs, 0⟩] scope gpos] X.env = (false, eval (.GeneratorExp elt [⟨tg, iter, ifs, 0⟩] scope gpos) X.env) :: starEach [] X.env := rfl
  have gen := fun (Q' : Value → Shared → Prop) (hQ : ∀ a s5 L4 H4, Ext L H st L4 H4 s2 → GMx X pins σ (g.m * k + 6 * d) L4 H4 s2 kk rF bF sF a s5 → Q' (.ref a) s5) =>
    eval_gen (pos := gpos) (kk := kk) O hb hdot hv hset hlist hi hg ht hel I he w e2 h2 hQ
  have room : Room (g.m * k + 6 * d + 5) X.A := O.room.mono (by omega)
  have hfrm := I.ok.frames
  unfold ckOf at hkk
  split at hkk
  · -- tuple
    rename_i e
    subst e
    cases hkk
    have hm := O.fns.free ("tuple" : Str) (by simp [bNames]) hfr
    refine wpAny_Call_Name_kw (ld_blt I (O.gl hgl) hm PyProof.Rows.boot_tuple ?_ (by decide) (by decide))
    refine PyProof.Rows.callWith_type1 ?_ hst rfl
    rw [hst]
    show wpAny _ _ (spliced ((false, eval (.GeneratorExp elt [⟨tg, iter, ifs, 0⟩] scope gpos) X.env) :: backTo pos (starEach [] X.env))) _ _ s
    refine Calls.spliced_cons (gen _ fun a s5 L4 H4 x4 G => ?_)
    refine Calls.spliced_nil ?_
    obtain ⟨hz, rfl, rfl⟩ := mkT_eq (show mkT rF sF = some (pv, st') from h1)
    exact call_tupG room hfrm G (compLoop_no (turnG_no fun _ _ => rfl) h2) hz fun L5 H5 vs hx hw rr s6 q hq J => ⟨.ref q, _, J, rfl, (fin.after (x4.trans hx)).tup hw hq rr⟩
  · split at hkk
    · -- sum
      rename_i e
      subst e
      cases hkk
      have hm := O.fns.free ("sum" : Str) (by simp [bNames]) hfr
      refine wpAny_Call_Name_kw (ld_blt I (O.gl hgl) hm PyProof.Rows.boot_sum ?_ (by decide) (by decide))
      refine PyProof.Rows.callWith_builtin1 ?_ hst rfl
      rw [hst]
      show wpAny _ _ (spliced ((false, eval (.GeneratorExp elt [⟨tg, iter, ifs, 0⟩] scope gpos) X.env) :: backTo pos (starEach [] X.env))) _ _ s
      refine Calls.spliced_cons (gen _ fun a s5 L4 H4 x4 G => ?_)
      refine Calls.spliced_nil ?_
      have h1 : (match intsOf rF with | some is => some (PV.int is.sum, sF) | none => none) = some (pv, st') := h1
      split at h1
      · rename_i is his
        cases h1
        exact call_sumG (room.mono (by omega)) hfrm G (compLoop_no (turnG_no fun _ _ => rfl) h2) his fun L5 H5 t hx hw s6 J => ⟨.int is.sum, H5, J, ⟨t, rfl⟩, (fin.after (x4.trans hx)).int hw⟩
      · cases h1
    · split at hkk
      · -- all
        rename_i e
        subst e
        cases hkk
        have hm := O.fns.free ("all" : Str) (by simp [bNames]) hfr
        refine wpAny_Call_Name_kw (ld_blt I (O.gl hgl) hm PyProof.Rows.boot_all ?_ (by decide) (by decide))
        refine PyProof.Rows.callWith_builtin1 ?_ hst rfl
        rw [hst]
        show wpAny _ _ (spliced ((false, eval (.GeneratorExp elt [⟨tg, iter, ifs, 0⟩] scope gpos) X.env) :: backTo pos (starEach [] X.env))) _ _ s
        refine Calls.spliced_cons (gen _ fun a s5 L4 H4 x4 G => ?_)
        refine Calls.spliced_nil ?_
        have h1 : some (PV.bl (!bF), sF) = some (pv, st') := h1
        cases h1
        refine call_allG (room.mono (by omega)) hfrm G (fun L5 H5 hx hw hbF s6 J => ?_) (fun L5 H5 hx hw hbF s6 J => ?_)
        · rw [hbF] at fin
          exact ⟨.bl true, H5, J, rfl, (fin.after (x4.trans hx)).bl hw⟩
        · rw [hbF] at fin
          exact ⟨.bl false, H5, J, rfl, (fin.after (x4.trans hx)).bl hw⟩
      · split at hkk
        · -- any
          rename_i e
          subst e
          cases hkk
          have hm := O.fns.free ("any" : Str) (by simp [bNames]) hfr
          refine wpAny_Call_Name_kw (ld_blt I (O.gl hgl) hm PyProof.Rows.boot_any ?_ (by decide) (by decide))
          refine PyProof.Rows.callWith_builtin1 ?_ hst rfl
          rw [hst]
          show wpAny _ _ (spliced ((false, eval (.GeneratorExp elt [⟨tg, iter, ifs, 0⟩] scope gpos) X.env) :: backTo pos (starEach [] X.env))) _ _ s
          refine Calls.spliced_cons (gen _ fun a s5 L4 H4 x4 G => ?_)
          refine Calls.spliced_nil ?_
          have h1 : some (PV.bl bF, sF) = some (pv, st') := h1
          cases h1
          refine call_anyG (room.mono (by omega)) hfrm G (fun L5 H5 hx hw hbF s6 J => ?_) (fun L5 H5 hx hw hbF s6 J => ?_)
          · rw [hbF] at fin
            exact ⟨.bl false, H5, J, rfl, (fin.after (x4.trans hx)).bl hw⟩
          · rw [hbF] at fin
            exact ⟨.bl true, H5, J, rfl, (fin.after (x4.trans hx)).bl hw⟩
        · cases hkk
end
end Mp
set_option Elab.async false
set_option linter.all false
set_option maxRecDepth 100000
set_option maxHeartbeats 1000000
/-! MpStmt: statements. -/
namespace Mp
open PySem PySem.Spec PyProof.Rows L2

def FinS (K : PySem.W.Frag) (L : List Addr) (H : Hp) (st : Sto) (o : Out) (st' : Sto) (D : Ends) (σ : L2.St) : Prop := match o with
  | .nx env => ∀ L' H' σ', Ext L H st L' H' st' → Wd K L' H' st' → EnvOk K H' L' σ' env → D.nx σ' H'
  | .bk env => ∀ L' H' σ', Ext L H st L' H' st' → Wd K L' H' st' → EnvOk K H' L' σ' env → D.bk σ' H'
  | .ct env => ∀ L' H' σ', Ext L H st L' H' st' → Wd K L' H' st' → EnvOk K H' L' σ' env → D.ct σ' H'
  | .rt pv => ∀ L' H' v, Ext L H st L' H' st' → Wd K L' H' st' → Rep K H' L' pv v → D.rt v H'
theorem FinS.after {K : PySem.W.Frag} {L L' : List Addr} {H H' : Hp} {st st1 st' : Sto} {o : Out} {D : Ends} {σ σ1 : L2.St} (f : FinS K L H st o st' D σ) (e : Ext L H st L' H' st1) : FinS K L' H' st1 o st' D σ1 := by
  cases o <;> exact fun L2 H2 v e2 w r => f L2 H2 v (e.trans e2) w r
def tMS (m : Md) (ss : List S) : TS := fun D σ H => ∃ L env st o st', EnvOk m.K H L σ env ∧ Wo m.K m.base m.g m.c m.P L H st ∧ exSs (m.g.C m.k) m.g.G m.g.w ss env st = some (o, st') ∧ FinS m.K L H st o st' D σ
def tM1 (m : Md) (s : S) : TS := fun D σ H => ∃ L env st o st', EnvOk m.K H L σ env ∧ Wo m.K m.base m.g m.c m.P L H st ∧ exS (m.g.C m.k) m.g.G m.g.w s env st = some (o, st') ∧ FinS m.K L H st o st' D σ
theorem PS.weak {X : Cx} {e : Stmt} {t t' : TS} (h : PS X e t) (i : ∀ D σ H, t' D σ H → t D σ H) : PS X e t' := ⟨fun pins s σ H D I q => h.run pins s σ H D I (i D σ H q)⟩
theorem PSs.weak {X : Cx} {e : List Stmt} {t t' : TS} (h : PSs X e t) (i : ∀ D σ H, t' D σ H → t D σ H) : PSs X e t' := ⟨fun pins s σ H D I q => h.run pins s σ H D I (i D σ H q)⟩
section
variable {X : Cx} {g : Gc} {N : List Str} {sc : Scope} {d k : Nat} {c P : Addr} {pos : Pos} {e tg iter cnd : Expr} {ea ec : E} {y : T} {z : It} {body els rest : List Stmt} {bs es ss : List S} {st1 : Stmt} {s1 : S}
theorem ss_nil : PSs X [] (tMS (mdOf X g k c P) []) :=
  PSs.weak pss_nil fun D σ H ⟨L, env, st, o, st', he, w, hv, f⟩ => by
    unfold exSs at hv
    cases hv
    exact f L H σ Ext.refl w.wd he
theorem ss_cons (h1 : PS X st1 (tM1 (mdOf X g k c P) s1)) (h2 : PSs X rest (tMS (mdOf X g k c P) ss)) : PSs X (st1 :: rest) (tMS (mdOf X g k c P) (s1 :: ss)) :=
  PSs.weak (pss_cons h1 h2) fun D σ H ⟨L, env, st, o, st', he, w, hv, f⟩ => by
    unfold exSs at hv
    obtain ⟨q, s2, e1, h⟩ := bind_inv hv
    refine ⟨L, env, st, q, s2, he, w, e1, ?_⟩
    cases q with
    | nx env2 => exact fun L1 H1 σ1 x1 w1 he1 => ⟨L1, env2, s2, o, st', he1, w.ext x1 w1, h, f.after x1⟩
    | rt v => cases h; exact f
    | bk v => cases h; exact f
    | ct v => cases h; exact f
theorem s1_asg (hs : swapsWithSole [tg] e pos.line X.env = pure false) (hw : swappedStores [tg] e X.env = pure none) (h1 : (assignEach [tg] X.env).map (·.2) = [assign tg X.env]) (he : PE X e (tM (mdOf X g k c P) ea)) (hg : PG X tg (tMG (mdOf X g k c P) y)) : PS X (.Assign [tg] e pos) (tM1 (mdOf X g k c P) (.asg y ea)) :=
  PS.weak (ps_asg he hg hs hw h1) fun D σ H ⟨L, env, st, o, st', hen, w, hv, f⟩ => by
    unfold exS at hv
    obtain ⟨v, s2, e1, h⟩ := bind_inv hv
    obtain ⟨env2, s3, e2, h⟩ := bind_inv h
    cases h
    exact tM.mk hen w e1 fun L1 H1 x x1 w1 he1 r1 => ⟨L1, env, s2, v, env2, _, he1, w1, r1, e2, fun L2 H2 σ2 x2 w2 he2 _ => f L2 H2 σ2 (x1.trans x2) w2 he2⟩
end
section
variable {C : Str → List PV → Sto → Res PV} {G : Str → Option PV}
theorem evT_nm {i : Nat} {v : PV} {env : Mp.Env} {st : Sto} : evT C G (.nm i) v env st = if i < env.length then some (env.set i (some v), st) else none := by
  unfold evT
  rfl
theorem evT_tup {ts : List T} {v : PV} {env : Mp.Env} {st : Sto} : evT C G (.tup ts) v env st = match items st v with
    | some xs => if xs.length = ts.length then evTs C G ts xs env st else none
    | none => none := by
  unfold evT
  cases items st v <;> rfl
theorem evTs_nil {env : Mp.Env} {st : Sto} : evTs C G [] [] env st = some (env, st) := by
  unfold evTs
  rfl
theorem evTs_cons {t : T} {ts : List T} {v : PV} {vs : List PV} {env : Mp.Env} {st : Sto} : evTs C G (t :: ts) (v :: vs) env st = (evT C G t v env st).bind fun env st => evTs C G ts vs env st := by
  conv => lhs; unfold evTs
theorem evTs_cons_nil {t : T} {ts : List T} {env : Mp.Env} {st : Sto} : evTs C G (t :: ts) [] env st = none := by
  unfold evTs
  rfl
theorem evTs_nil_cons {v : PV} {vs : List PV} {env : Mp.Env} {st : Sto} : evTs C G [] (v :: vs) env st = none := by
  unfold evTs
  rfl
/-- plain names, one behind the other -/
theorem evTs_names : ∀ (is : List Nat) {vs : List PV} {env env' : Mp.Env} {st st' : Sto}, evTs C G (is.map T.nm) vs env st = some (env', st') → vs.length = is.length ∧ st' = st ∧ env' = (is.zip vs).foldl (fun (e : Mp.Env) p => e.set p.1 (some p.2)) env
  | [], [], env, env', st, st', h => by
    rw [List.map_nil, evTs_nil] at h
    cases h
    exact ⟨rfl, rfl, rfl⟩
  | [], v :: vs, env, env', st, st', h => by
    rw [List.map_nil, evTs_nil_cons] at h
    cases h
  | i :: is, [], env, env', st, st', h => by
    rw [List.map_cons, evTs_cons_nil] at h
    cases h
  | i :: is, v :: vs, env, env', st, st', h => by
    rw [List.map_cons, evTs_cons, evT_nm] at h
    obtain ⟨e1, s1, h1, h2⟩ := bind_inv h
    obtain ⟨_, h3⟩ := ite_some h1
    cases h3
    obtain ⟨g1, g2, g3⟩ := evTs_names is h2
    exact ⟨by rw [List.length_cons, List.length_cons, g1], g2, by rw [g3]; rfl⟩
theorem evT_names {is : List Nat} {vs : List PV} {env env' : Mp.Env} {st st' : Sto} (h : evT C G (.tup (is.map T.nm)) (.tup vs) env st = some (env', st')) : vs.length = is.length ∧ st' = st ∧ env' = (is.zip vs).foldl (fun (e : Mp.Env) p => e.set p.1 (some p.2)) env := by
  rw [evT_tup] at h
  have h : (if vs.length = (is.map T.nm).length then evTs C G (is.map T.nm) vs env st else none) = some (env', st') := h
  by_cases hl : vs.length = (is.map T.nm).length
  · rw [if_pos hl] at h
    exact evTs_names is h
  · rw [if_neg hl] at h
    cases h
end
section
variable {X : Cx} {g : Gc} {N : List Str} {sc : Scope} {d k : Nat} {c P : Addr} {pos : Pos} {e tg iter cnd : Expr} {ea ec : E} {y : T} {z : It} {body els rest : List Stmt} {bs es ss : List S} {st1 : Stmt} {s1 : S}
/-- name = [..] on one line -/
theorem s1_lc {i : Nat} (h : PS X (.Assign [tg] e pos) (tAsg (tM (mdOf X g k c P) ea) (gName i))) : PS X (.Assign [tg] e pos) (tM1 (mdOf X g k c P) (.asg (.nm i) ea)) :=
  PS.weak h fun D σ H ⟨L, env, st, o, st', hen, w, hv, f⟩ => by
    unfold exS at hv
    obtain ⟨v, s2, e1, h⟩ := bind_inv hv
    obtain ⟨env2, s3, e2, h⟩ := bind_inv h
    cases h
    unfold evT at e2
    obtain ⟨_, e3⟩ := ite_some e2
    cases e3
    exact tM.mk hen w e1 fun L1 H1 x x1 w1 he1 r1 => f L1 H1 _ x1 w1.wd (he1.set i r1)
theorem s1_par {i j : Nat} {x x' : Str} {a b : Expr} {xs : List E} {px py pt : Pos} {kt k2 pt2} (O : XOk g N sc d k c X) (hi : N[i]? = some x) (hj : N[j]? = some x') (hij : i ≠ j) (hx : X.env.scope.names.lookup x = some .local) (hx' : X.env.scope.names.lookup x' = some .local) (ha : PA X [a, b] (tMs (mdOf X g k c P) xs))
    (hw : swappedStores [.Tuple [.Name x px, .Name x' py] kt pt] (.Tuple [a, b] k2 pt2) X.env = pure (some [x, x'])) : PS X (.Assign [.Tuple [.Name x px, .Name x' py] kt pt] (.Tuple [a, b] k2 pt2) pos) (tM1 (mdOf X g k c P) (.asg (.tup [.nm i, .nm j]) (.tup xs))) :=
  PS.weak (ps_par O.calm (by rw [O.hN]; exact O.nd) (by rw [O.hN]; exact hi) (by rw [O.hN]; exact hj) hij hx hx' ha hw rfl) fun D σ H ⟨L, env, st, o, st', hen, w, hv, f⟩ => by
    unfold exS evE at hv
    obtain ⟨v, s2, e1, h⟩ := bind_inv hv
    obtain ⟨vs, s3, e3, h3⟩ := bind_inv e1
    obtain ⟨hz, rfl, rfl⟩ := mkT_eq h3
    obtain ⟨env2, s4, e2, h⟩ := bind_inv h
    cases h
    obtain ⟨hl, rfl, rfl⟩ := evT_names (is := [i, j]) e2
    obtain ⟨p, q, rfl⟩ : ∃ p q, vs = [p, q] := by
      rcases vs with _ | ⟨p, _ | ⟨q, _ | ⟨r, t⟩⟩⟩
      · cases hl
      · cases hl
      · exact ⟨p, q, rfl⟩
      · cases hl
    refine tMs.mk hen w e3 fun L1 H1 us x1 w1 he1 r1 => ?_
    obtain ⟨v1, v2, rfl, rv1, rv2⟩ := reps2 r1
    exact ⟨v1, v2, rfl, f L1 H1 _ x1 w1.wd ((he1.set i rv1).set j rv2)⟩
theorem s1_par3 {i j l : Nat} {x x' x3 : Str} {a b c3 : Expr} {xs : List E} {px py pz pt : Pos} {kt k2 pt2} (O : XOk g N sc d k c X) (hi : N[i]? = some x) (hj : N[j]? = some x') (hl : N[l]? = some x3) (hij : i ≠ j) (hil : i ≠ l) (hjl : j ≠ l) (hx : X.env.scope.names.lookup x = some .local) (hx' : X.env.scope.names.lookup x' = some .local) (hx3 : X.env.scope.names.lookup x3 = some .local) (ha : PA X [a, b, c3] (tMs (mdOf X g k c P) xs))
    (hw : swappedStores [.Tuple [.Name x px, .Name x' py, .Name x3 pz] kt pt] (.Tuple [a, b, c3] k2 pt2) X.env = pure (some [x, x', x3])) : PS X (.Assign [.Tuple [.Name x px, .Name x' py, .Name x3 pz] kt pt] (.Tuple [a, b, c3] k2 pt2) pos) (tM1 (mdOf X g k c P) (.asg (.tup [.nm i, .nm j, .nm l]) (.tup xs))) :=
  PS.weak (ps_par3 O.calm (by rw [O.hN]; exact O.nd) (by rw [O.hN]; exact hi) (by rw [O.hN]; exact hj) (by rw [O.hN]; exact hl) hij hil hjl hx hx' hx3 ha hw rfl) fun D σ H ⟨L, env, st, o, st', hen, w, hv, f⟩ => by
    unfold exS evE at hv
    obtain ⟨v, s2, e1, h⟩ := bind_inv hv
    obtain ⟨vs, s3, e3, h3⟩ := bind_inv e1
    obtain ⟨hz, rfl, rfl⟩ := mkT_eq h3
    obtain ⟨env2, s4, e2, h⟩ := bind_inv h
    cases h
    obtain ⟨hl, rfl, rfl⟩ := evT_names (is := [i, j, l]) e2
    obtain ⟨p, q, r, rfl⟩ : ∃ p q r, vs = [p, q, r] := by
      rcases vs with _ | ⟨p, _ | ⟨q, _ | ⟨r, _ | ⟨t, u⟩⟩⟩⟩
      · cases hl
      · cases hl
      · cases hl
      · exact ⟨p, q, r, rfl⟩
      · cases hl
    refine tMs.mk hen w e3 fun L1 H1 us x1 w1 he1 r1 => ?_
    obtain ⟨v1, us2, rfl, rv1, r2⟩ := r1.uncons
    obtain ⟨v2, v3, rfl, rv2, rv3⟩ := reps2 r2
    exact ⟨v1, v2, v3, rfl, f L1 H1 _ x1 w1.wd (((he1.set i rv1).set j rv2).set l rv3)⟩
theorem s1_expr (hs : swapsWith e none pos.line X.env = pure false) (he : PE X e (tM (mdOf X g k c P) ea)) : PS X (.Expr e pos) (tM1 (mdOf X g k c P) (.expr ea)) :=
  PS.weak (ps_expr he hs) fun D σ H ⟨L, env, st, o, st', hen, w, hv, f⟩ => by
    unfold exS at hv
    obtain ⟨v, s2, e1, h⟩ := bind_inv hv
    cases h
    exact tM.mk hen w e1 fun L1 H1 x x1 w1 he1 r1 => f L1 H1 σ x1 w1.wd he1
theorem s1_ret (he : PE X e (tM (mdOf X g k c P) ea)) : PS X (.Return (some e) pos) (tM1 (mdOf X g k c P) (.ret ea)) :=
  PS.weak (ps_ret he) fun D σ H ⟨L, env, st, o, st', hen, w, hv, f⟩ => by
    unfold exS at hv
    obtain ⟨v, s2, e1, h⟩ := bind_inv hv
    cases h
    exact tM.mk hen w e1 fun L1 H1 x x1 w1 he1 r1 => f L1 H1 x x1 w1.wd r1
theorem s1_retn : PS X (.Return none pos) (tM1 (mdOf X g k c P) .retn) :=
  PS.weak ps_retN fun D σ H ⟨L, env, st, o, st', hen, w, hv, f⟩ => by
    unfold exS at hv
    cases hv
    exact f L H .non Ext.refl w.wd (by unfold Rep; rfl)
theorem s1_pass : PS X (.Pass pos) (tM1 (mdOf X g k c P) .pass) :=
  PS.weak ps_pass fun D σ H ⟨L, env, st, o, st', hen, w, hv, f⟩ => by
    unfold exS at hv
    cases hv
    exact f L H σ Ext.refl w.wd hen
theorem s1_brk : PS X (.Break pos) (tM1 (mdOf X g k c P) .brk) :=
  PS.weak ps_break fun D σ H ⟨L, env, st, o, st', hen, w, hv, f⟩ => by
    unfold exS at hv
    cases hv
    exact f L H σ Ext.refl w.wd hen
theorem s1_cnt : PS X (.Continue pos) (tM1 (mdOf X g k c P) .cnt) :=
  PS.weak ps_continue fun D σ H ⟨L, env, st, o, st', hen, w, hv, f⟩ => by
    unfold exS at hv
    cases hv
    exact f L H σ Ext.refl w.wd hen
theorem s1_never {q : Stmt} : PS X q (tM1 (mdOf X g k c P) .never) :=
  ⟨fun pins s σ H D I ⟨L, env, st, o, st', hen, w, hv, f⟩ => by
    unfold exS at hv
    cases hv⟩
theorem s1_ite (hc : PT X cnd (tMT (mdOf X g k c P) ec)) (ha : PSs X body (tMS (mdOf X g k c P) bs)) (hb : PSs X els (tMS (mdOf X g k c P) es)) : PS X (.If cnd body els pos) (tM1 (mdOf X g k c P) (.ite ec bs es)) :=
  PS.weak (ps_if hc ha hb) fun D σ H ⟨L, env, st, o, st', hen, w, hv, f⟩ => by
    unfold exS at hv
    obtain ⟨b, s2, e1, h⟩ := bind_inv hv
    refine tMT.mk hen w e1 fun L1 H1 x1 w1 he1 => ?_
    cases b with
    | true =>
      rw [if_pos rfl] at h ⊢
      exact ⟨L1, env, s2, o, st', he1, w1, h, f.after x1⟩
    | false =>
      rw [if_neg Bool.false_ne_true] at h ⊢
      exact ⟨L1, env, s2, o, st', he1, w1, h, f.after x1⟩
theorem s1_aug {op : Operator} {o : Bop} {i : Nat} {n : Str} {p2 : Pos} (O : XOk g N sc d k c X) (ho : augOf op = some o) (hi : N[i]? = some n) (hl : locB sc n = true) (he : PE X e (tM (mdOf X g k c P) ea)) : PS X (.AugAssign (.Name n p2) op e pos) (tM1 (mdOf X g k c P) (.aug i o ea)) := by
  have key : ∀ (f : Int → Int → Int), PIp X op (ipI f) → (∀ a b st, bin o (.int a) (.int b) st = some (.int (f a b), st)) → PS X (.AugAssign (.Name n p2) op e pos) (tM1 (mdOf X g k c P) (.aug i o ea)) := fun fn hp hb =>
    PS.weak (ps_aug (by rw [O.hN]; exact O.nd) (by rw [O.hN]; exact hi) (O.lo hl).1 he hp (O.lo hl).2) fun D σ H ⟨L, env, st, q, st', hen, w, hv, f⟩ => by
      unfold exS at hv
      split at hv
      · rename_i x hx
        obtain ⟨v, s2, e1, h⟩ := bind_inv hv
        obtain ⟨z, s3, e2, h⟩ := bind_inv h
        cases h
        obtain ⟨u, hu, ru⟩ := hen.2 i x hx
        refine ⟨u, hu, tM.mk hen w e1 fun L1 H1 y x1 w1 he1 r1 => ?_⟩
        unfold augV at e2
        split at e2
        · rename_i a b
          rw [hb] at e2
          cases e2
          cases ru.int_inv
          cases r1.int_inv
          exact ⟨a, b, rfl, rfl, f L1 H1 _ x1 w1.wd (he1.set i (by unfold Rep; rfl))⟩
        · cases e2
      · cases hv
  cases op <;> first | cases ho | skip
  · exact key (fun a b => a + b) ip_add fun _ _ _ => rfl
  · exact key (fun a b => a - b) ip_sub fun _ _ _ => rfl
theorem s1_while (hxe : X.xe = fun _ _ => False) (hc : PT X cnd (tMT (mdOf X g k c P) ec)) (hb : PSs X body (tMS (mdOf X g k c P) bs)) : PS X (.While cnd body [] pos) (tM1 (mdOf X g k c P) (.while_ ec bs)) :=
  PS.weak (ps_while (fun x s' hx => by rw [hxe] at hx; exact hx.elim) hc hb) fun D σ H ⟨L, env, st, o, st', hen, w, hv, f⟩ => by
    unfold exS at hv
    refine ⟨fun m σ2 H2 => ∃ L2 env2 st2, Ext L H st L2 H2 st2 ∧ EnvOk X.K H2 L2 σ2 env2 ∧ Wo X.K X.base g c P L2 H2 st2 ∧
      whileLoop (fun env st => truthR (evE (g.C k) g.G ec env st)) (fun env st => exSs (g.C k) g.G g.w bs env st) m env2 st2 = some (o, st'), ⟨g.w, L, env, st, Ext.refl, hen, w, hv⟩, ?_⟩
    rintro m σ2 H2 ⟨L2, env2, st2, x2, he2, w2, hl⟩
    cases m with
    | zero => unfold whileLoop at hl; cases hl
    | succ m =>
      unfold whileLoop at hl
      obtain ⟨b, s3, e1, h⟩ := bind_inv hl
      refine tMT.mk he2 w2 e1 fun L3 H3 x3 w3 he3 => ?_
      cases b with
      | false =>
        rw [if_neg Bool.false_ne_true] at h ⊢
        cases h
        exact f L3 H3 σ2 (x2.trans x3) w3.wd he3
      | true =>
        rw [if_pos rfl] at h ⊢
        obtain ⟨q, s4, e4, h⟩ := bind_inv h
        refine ⟨fun σ5 H5 => ∃ L5 env5, Ext L H st L5 H5 s4 ∧ EnvOk X.K H5 L5 σ5 env5 ∧ Wo X.K X.base g c P L5 H5 s4 ∧ whileLoop (fun env st => truthR (evE (g.C k) g.G ec env st)) (fun env st => exSs (g.C k) g.G g.w bs env st) m env5 s4 = some (o, st'), ?_, L3, env2, s3, q, s4, he3, w3, e4, ?_⟩
        · rintro σ5 H5 ⟨L5, env5, a1, a2, a3, a4⟩
          exact ⟨m, Nat.lt_succ_self m, L5, env5, s4, a1, a2, a3, a4⟩
        · cases q with
          | nx env5 => exact fun L5 H5 σ5 x5 w5 he5 => ⟨L5, env5, x2.trans (x3.trans x5), he5, w3.ext x5 w5, h⟩
          | ct env5 => exact fun L5 H5 σ5 x5 w5 he5 => ⟨L5, env5, x2.trans (x3.trans x5), he5, w3.ext x5 w5, h⟩
          | bk env5 =>
            cases h
            exact fun L5 H5 σ5 x5 w5 he5 => f L5 H5 σ5 (x2.trans (x3.trans x5)) w5 he5
          | rt v =>
            cases h
            exact fun L5 H5 v5 x5 w5 r5 => f L5 H5 v5 (x2.trans (x3.trans x5)) w5 r5
theorem s1_for (hcalm : X.calm = true) (hxe : X.xe = fun _ _ => False) (hset : isSet iter = false) (hi : PI X tg iter (tMI (mdOf X g k c P) z)) (hg : PG X tg (tMG (mdOf X g k c P) y)) (hb : PSs X body (tMS (mdOf X g k c P) bs)) : PS X (.For tg iter body [] pos) (tM1 (mdOf X g k c P) (.for_ y z bs)) :=
  PS.weak (ps_for (fun x s' hx => by rw [hxe] at hx; exact hx.elim) hcalm hi hg hb (foldSet hset X.env)) fun D σ H ⟨L, env, st, o, st', hen, w, hv, f⟩ => by
    unfold exS at hv
    obtain ⟨wk, s1, e1, hl0⟩ := bind_inv hv
    refine ⟨L, env, st, wk, s1, hen, w, e1, fun L1 H1 J x1 wd1 hJ => ?_⟩
    refine ⟨fun i m σ2 H2 => ∃ L2 env2 st2, Ext L1 H1 s1 L2 H2 st2 ∧ EnvOk X.K H2 L2 σ2 env2 ∧ Wo X.K X.base g c P L2 H2 st2 ∧ i ≤ wk.xs.length ∧ m = wk.xs.length - i ∧
      forLoop (fun x env st => (evT (g.C k) g.G y x env st).bind fun env st => exSs (g.C k) g.G g.w bs env st) wk.gs (wk.xs.drop i) env2 st2 = some (o, st'), ⟨wk.xs.length, L1, env, s1, Ext.refl, hen.ext w.wd x1, w.ext x1 wd1, Nat.zero_le _, by rw [Nat.sub_zero], by rw [List.drop_zero]; exact hl0⟩, ?_⟩
    rintro i m σ2 H2 ⟨L2, env2, st2, x2, he2, w2, hi', rfl, hl⟩
    by_cases hie : i = wk.xs.length
    · left
      subst hie
      rw [List.drop_length] at hl
      unfold forLoop at hl
      obtain ⟨hgs, hl⟩ := ite_some hl
      cases hl
      exact ⟨hJ.stop L2 H2 _ x2 w2.wd hgs, f L2 H2 σ2 (x1.trans x2) w2.wd he2⟩
    · right
      have hlt : i < wk.xs.length := by omega
      have hd : wk.xs.drop i = wk.xs[i] :: wk.xs.drop (i + 1) := List.drop_eq_getElem_cons hlt
      rw [hd] at hl
      unfold forLoop at hl
      split at hl
      case isFalse => cases hl
      rename_i hgs
      obtain ⟨q, s3, e3, hl⟩ := bind_inv hl
      obtain ⟨env3, s4, e4, e5⟩ := bind_inv e3
      obtain ⟨j1, j2⟩ := hJ.go L2 H2 st2 x2 w2.wd hgs i _ (List.getElem?_eq_getElem hlt)
      refine ⟨j1, fun σ9 H9 => ∃ L9 env9, Ext L1 H1 s1 L9 H9 s3 ∧ EnvOk X.K H9 L9 σ9 env9 ∧ Wo X.K X.base g c P L9 H9 s3 ∧ forLoop (fun x env st => (evT (g.C k) g.G y x env st).bind fun env st => exSs (g.C k) g.G g.w bs env st) wk.gs (wk.xs.drop (i + 1)) env9 s3 = some (o, st'), ?_, ?_⟩
      · rintro σ9 H9 ⟨L9, env9, a1, a2, a3, a4⟩
        exact ⟨wk.xs.length - (i + 1), by omega, L9, env9, s3, a1, a2, a3, hlt, rfl, a4⟩
      · intro v H3 hy
        obtain ⟨grow, rv⟩ := j2 v H3 hy
        have x3 : Ext L2 H2 st2 L2 H3 st2 := Ext.grow grow
        have w3 := w2.ext x3 (w2.wd.grow grow)
        refine ⟨L2, env2, st2, _, env3, s4, he2.ext w2.wd x3, w3, rv, e4, fun L4 H4 σ4 x4 wd4 he4 _ => ?_⟩
        have hx4 := x2.trans (x3.trans x4)
        refine ⟨L4, env3, s4, q, s3, he4, w3.ext x4 wd4, e5, ?_⟩
        cases q with
        | nx env5 => exact fun L5 H5 σ5 x5 w5 he5 => ⟨L5, env5, hx4.trans x5, he5, (w3.ext x4 wd4).ext x5 w5, hl⟩
        | ct env5 => exact fun L5 H5 σ5 x5 w5 he5 => ⟨L5, env5, hx4.trans x5, he5, (w3.ext x4 wd4).ext x5 w5, hl⟩
        | bk env5 =>
          cases hl
          exact fun L5 H5 σ5 x5 w5 he5 => f L5 H5 σ5 (x1.trans (hx4.trans x5)) w5 he5
        | rt v5 =>
          cases hl
          exact fun L5 H5 v6 x5 w5 r5 => f L5 H5 v6 (x1.trans (hx4.trans x5)) w5 r5
end
end Mp
set_option Elab.async false
set_option linter.all false
set_option maxRecDepth 100000
set_option maxHeartbeats 2000000
/-! MpAll: what the translator takes is run as the evaluator says. -/
namespace Mp
open PySem PySem.Spec PyProof.Rows L2

/-- sorted(..) -/
def SortedOk : Prop := ∀ X : Cx, X.calm = true → X.A.units + 64 < cLine → CallR X (.builtin "sorted") (rBi X.K .sorted)
/-- sorted(.., key = lambda x: ..) -/
def SortKOk (g : Gc) : Prop := ∀ (N : List Str) (sc scope : Scope) (d k : Nat) (c P : Addr) (X : Cx) (a body : Expr) (x kw : Str) (ea eb : E) (i : Nat) (p p1 p2 pos kpos : Pos) (an : Option Expr), XOk g N sc (d + 1) k c X → g.t.free "sorted" = true → gloB sc ("sorted" : Str) = true → kw = ("key" : Str) → N[i]? = some x →
  genC N sc scope [(x, i)] = true → scope.isGenerator = false → scope.names.lookup x = some .local → isStar a = false → (∀ Y c2 P2, XOk g N scope d k c2 Y → PE Y body (tM (mdOf Y g k c2 P2) eb)) → PE X a (tM (mdOf X g k c P) ea) →
  PE X (.Call (.Name "sorted" p) [a] [⟨some kw, .Lambda ⟨[], [⟨x, none, p1⟩], none, [], [], none, []⟩ body scope p2, kpos⟩] pos) (tM (mdOf X g k c P) (.sortk ea i eb))
/-- the defs of the program -/
def PrgOk (g : Gc) : Prop := ∀ (f : Str) (ps : List Str), g.t.fn f = some ps → ∃ fn, g.P f = some fn ∧ fn.np = ps.length

/-- soundness at fuel n -/
structure PSnd (g : Gc) (n : Nat) : Prop where
  e : ∀ {N : List Str} {sc : Scope} {d k : Nat} {c P : Addr} {X : Cx} {e : Expr} {y : E}, XOk g N sc d k c X → trE g.t N n d sc e = some y → PE X e (tM (mdOf X g k c P) y)
  t : ∀ {N : List Str} {sc : Scope} {d k : Nat} {c P : Addr} {X : Cx} {e : Expr} {y : E}, XOk g N sc d k c X → trE g.t N n d sc e = some y → PT X e (tMT (mdOf X g k c P) y)
  b : ∀ {N : List Str} {sc : Scope} {d k : Nat} {c P : Addr} {X : Cx} {op : BoolOp} {vs : List Expr} {y : E} {pos : Pos}, XOk g N sc d k c X → trB g.t N n d sc op vs = some y → PE X (.BoolOp op vs pos) (tM (mdOf X g k c P) y) ∧ PW X (.BoolOp op vs pos) (tMT (mdOf X g k c P) y)
  o : ∀ {N : List Str} {sc : Scope} {d k : Nat} {c P : Addr} {X : Cx} {e : Option Expr} {y : Option E}, XOk g N sc d k c X → trO g.t N n d sc e = some y → PO X e (tMO (mdOf X g k c P) y)
  s : ∀ {N : List Str} {sc : Scope} {d k : Nat} {c P : Addr} {X : Cx} {es : List Expr} {ys : List E}, XOk g N sc d k c X → trEs g.t N n d sc es = some ys → PA X es (tMs (mdOf X g k c P) ys) ∧ (∀ e ∈ es, isStar e = false) ∧ es.length = ys.length ∧ ∀ (i : Nat) (e : Expr) (y : E), es[i]? = some e → ys[i]? = some y → PE X e (tM (mdOf X g k c P) y)
  ks : ∀ {N : List Str} {sc : Scope} {d k : Nat} {c P : Addr} {X : Cx} {es : List Keyword} {ys : List (Str × E)}, XOk g N sc d k c X → trKs g.t N n d sc es = some ys → PK X es (tMs (mdOf X g k c P) (ys.map (·.2))) ∧ es.map (·.arg) = (ys.map (·.1)).map some
  i : ∀ {N : List Str} {sc : Scope} {d k : Nat} {c P : Addr} {X : Cx} {tg e : Expr} {z : It}, XOk g N sc d k c X → trIt g.t N n d sc e = some z → okIt tg z = true → PI X tg e (tMI (mdOf X g k c P) z) ∧ isSet e = false
  tg : ∀ {N : List Str} {sc : Scope} {d k : Nat} {c P : Addr} {X : Cx} {e : Expr} {y : T}, XOk g N sc d k c X → trT g.t N n d sc e = some y → PG X e (tMG (mdOf X g k c P) y)
  tgs : ∀ {N : List Str} {sc : Scope} {d k : Nat} {c P : Addr} {X : Cx} {es : List Expr} {ys : List T}, XOk g N sc d k c X → trTs g.t N n d sc es = some ys → PGs X es (tMGs (mdOf X g k c P) ys) ∧ (∀ e ∈ es, isStar e = false) ∧ es.length = ys.length
  f : ∀ {N : List Str} {sc : Scope} {d k : Nat} {c P : Addr} {X : Cx} {es : List Expr} {ys : List E}, XOk g N sc d k c X → trEs g.t N n d sc es = some ys → es.length ≤ 1 → PTs X es (tMF (mdOf X g k c P) ys)
  c : ∀ {N : List Str} {sc scope : Scope} {d d2 : Nat} {kk : CK} {elt : Expr} {gens : List Comprehension} {y : E}, trC g.t N n d d2 sc kk elt gens scope = some y → ∃ tg iter ifs x t z ws, gens = [⟨tg, iter, ifs, 0⟩] ∧ y = .comp kk ((ownOf N gens).map (·.2)) x [.mk t z ws] ∧
    (∀ i ∈ tNames t, i ∈ (ownOf N gens).map (·.2)) ∧ isSet iter = false ∧ (∀ {k : Nat} {c P : Addr} {X : Cx}, XOk g N sc d k c X → PI X tg iter (tMI (mdOf X g k c P) z)) ∧
    ∀ {k : Nat} {c P : Addr} {X : Cx}, XOk g N scope d2 k c X → PG X tg (tMG (mdOf X g k c P) t) ∧ PTs X ifs (tMF (mdOf X g k c P) ws) ∧ PE X elt (tM (mdOf X g k c P) x)
  bi : ∀ {N : List Str} {sc : Scope} {d k : Nat} {c P : Addr} {X : Cx} {f : Str} {args : List Expr} {y : E} {p pos : Pos}, XOk g N sc d k c X → trBi g.t N n d sc f args = some y → nameOk f = true → gloB sc f = true → g.t.free f = true → PE X (.Call (.Name f p) args [] pos) (tM (mdOf X g k c P) y)

theorem snd_zero {g : Gc} : PSnd g 0 where
  e := fun _ h => by unfold trE at h; cases h
  t := fun _ h => by unfold trE at h; cases h
  b := fun _ h => by unfold trB at h; cases h
  o := fun _ h => by unfold trO at h; cases h
  s := fun _ h => by unfold trEs at h; cases h
  ks := fun _ h => by unfold trKs at h; cases h
  i := fun _ h => by unfold trIt at h; cases h
  tg := fun _ h => by unfold trT at h; cases h
  tgs := fun _ h => by unfold trTs at h; cases h
  f := fun _ h => by unfold trEs at h; cases h
  c := fun h => by unfold trC at h; cases h
  bi := fun _ h => by unfold trBi at h; cases h
section
variable {g : Gc} {n : Nat} {N : List Str} {sc : Scope} {d k : Nat} {c P : Addr} {X : Cx}
theorem snd_o (ih : PSnd g n) {e : Option Expr} {y : Option E} (O : XOk g N sc d k c X) (h : trO g.t N (n + 1) d sc e = some y) : PO X e (tMO (mdOf X g k c P) y) := by
  unfold trO at h
  cases e with
  | none => cases h; exact so_none
  | some e =>
    obtain ⟨z, h1, h2⟩ := Option.map_eq_some_iff.mp h
    rw [← h2]
    exact so_some (ih.e O h1)
theorem snd_s (ih : PSnd g n) {es : List Expr} {ys : List E} (O : XOk g N sc d k c X) (h : trEs g.t N (n + 1) d sc es = some ys) : PA X es (tMs (mdOf X g k c P) ys) ∧ (∀ e ∈ es, isStar e = false) ∧ es.length = ys.length ∧ ∀ (i : Nat) (e : Expr) (y : E), es[i]? = some e → ys[i]? = some y → PE X e (tM (mdOf X g k c P) y) := by
  unfold trEs at h
  cases es with
  | nil => cases h; exact ⟨sa_nil, fun _ h => (by cases h), rfl, fun i e y h => by simp at h⟩
  | cons e es =>
    simp only at h
    split at h
    · cases h
    · rename_i hs
      have hs : isStar e = false := by simpa using hs
      split at h
      · rename_i x xs h1 h2
        cases h
        obtain ⟨a1, a2, a3, a4⟩ := ih.s (P := P) O h2
        refine ⟨sa_cons hs (ih.e O h1) a1, fun q hq => (List.mem_cons.mp hq).elim (fun z => by rw [z]; exact hs) (a2 q), by rw [List.length_cons, List.length_cons, a3], fun i e' y' g1 g2 => ?_⟩
        cases i with
        | zero =>
          cases g1
          cases g2
          exact ih.e O h1
        | succ i => exact a4 i e' y' (by simpa using g1) (by simpa using g2)
      · cases h
theorem snd_ks (ih : PSnd g n) {es : List Keyword} {ys : List (Str × E)} (O : XOk g N sc d k c X) (h : trKs g.t N (n + 1) d sc es = some ys) : PK X es (tMs (mdOf X g k c P) (ys.map (·.2))) ∧ es.map (·.arg) = (ys.map (·.1)).map some := by
  unfold trKs at h
  rcases es with _ | ⟨⟨nm, e, kp⟩, es⟩
  · cases h; exact ⟨sk_nil, rfl⟩
  · cases nm with
    | none => cases h
    | some q =>
      simp only at h
      split at h
      · rename_i x xs h1 h2
        cases h
        obtain ⟨a1, a2⟩ := ih.ks (P := P) O h2
        exact ⟨sk_cons (ih.e O h1) a1, by rw [List.map_cons, List.map_cons, List.map_cons, a2]⟩
      · cases h
theorem snd_tgs (ih : PSnd g n) {es : List Expr} {ys : List T} (O : XOk g N sc d k c X) (h : trTs g.t N (n + 1) d sc es = some ys) : PGs X es (tMGs (mdOf X g k c P) ys) ∧ (∀ e ∈ es, isStar e = false) ∧ es.length = ys.length := by
  unfold trTs at h
  cases es with
  | nil => cases h; exact ⟨sgs_nil, fun _ h => (by cases h), rfl⟩
  | cons e es =>
    simp only at h
    split at h
    · cases h
    · rename_i hs
      have hs : isStar e = false := by simpa using hs
      split at h
      · rename_i x xs h1 h2
        cases h
        obtain ⟨a1, a2, a3⟩ := ih.tgs (P := P) O h2
        exact ⟨sgs_cons hs (ih.tg O h1) a1, fun q hq => (List.mem_cons.mp hq).elim (fun z => by rw [z]; exact hs) (a2 q), by rw [List.length_cons, List.length_cons, a3]⟩
      · cases h
theorem snd_tg (ih : PSnd g n) {e : Expr} {y : T} (O : XOk g N sc d k c X) (h : trT g.t N (n + 1) d sc e = some y) : PG X e (tMG (mdOf X g k c P) y) := by
  unfold trT at h
  split at h
  · split at h
    · rename_i hq
      rw [Bool.and_eq_true] at hq
      obtain ⟨i, h1, h2⟩ := Option.map_eq_some_iff.mp h
      rw [← h2]
      exact sg_name O (slot_get h1) hq.2
    · cases h
  · obtain ⟨ys, h1, h2⟩ := Option.map_eq_some_iff.mp h
    rw [← h2]
    obtain ⟨a1, a2, a3⟩ := ih.tgs (P := P) O h1
    exact sg_tup O a2 a3 a1
  · split at h
    · cases h
    · rename_i hq
      rw [Bool.or_eq_true, not_or] at hq
      split at h
      · rename_i x z h1 h2
        cases h
        exact sg_sub (by simpa using hq.1) (by simpa using hq.2) (ih.e O h1) (ih.e O h2)
      · cases h
  · cases h
theorem snd_b (ih : PSnd g n) {op : BoolOp} {vs : List Expr} {y : E} {pos : Pos} (O : XOk g N sc d k c X) (h : trB g.t N (n + 1) d sc op vs = some y) : PE X (.BoolOp op vs pos) (tM (mdOf X g k c P) y) ∧ PW X (.BoolOp op vs pos) (tMT (mdOf X g k c P) y) := by
  unfold trB at h
  rcases vs with _ | ⟨a, _ | ⟨b, r⟩⟩
  · cases h
  · exact ⟨pe_one (ih.e O h), sw_one (ih.t O h)⟩
  · simp only at h
    split at h
    · rename_i x z h1 h2
      cases h
      obtain ⟨b1, b2⟩ := ih.b (P := P) (pos := pos) O h2
      cases op with
      | And => exact ⟨se_and (ih.e O h1) b1, sw_and (ih.t O h1) b2⟩
      | Or => exact ⟨se_or (ih.e O h1) b1, sw_or (ih.t O h1) b2⟩
    · cases h
end
end Mp
set_option Elab.async false
set_option linter.all false
set_option maxRecDepth 100000
set_option maxHeartbeats 2000000
/-! MpAll2: the steps for iterators and expressions. -/
namespace Mp
open PySem PySem.Spec PyProof.Rows L2
section
variable {g : Gc} {n : Nat} {N : List Str} {sc : Scope} {d k : Nat} {c P : Addr} {X : Cx}
theorem len0 {α β : Type} {as : List α} {bs : List β} (h : as.length = bs.length) : as = [] → bs = [] := fun e => by
  rw [e] at h
  exact List.eq_nil_of_length_eq_zero h.symm
theorem snd_i (ih : PSnd g n) {tg e : Expr} {z : It} (O : XOk g N sc d k c X) (h : trIt g.t N (n + 1) d sc e = some z) (hok : okIt tg z = true) : PI X tg e (tMI (mdOf X g k c P) z) ∧ isSet e = false := by
  unfold trIt at h
  split at h
  · rename_i f p args q
    refine ⟨?_, rfl⟩
    split at h
    · rename_i hc
      simp only [Bool.and_eq_true, decide_eq_true_eq] at hc
      obtain ⟨⟨h1, h2⟩, rfl⟩ := hc
      obtain ⟨ys, h3, h4⟩ := Option.map_eq_some_iff.mp h
      rw [← h4]
      obtain ⟨a1, a2, a3, _⟩ := ih.s (P := P) O h3
      exact si_rng O h2 h1 a2 a3 a1
    · split at h
      · rename_i hc
        simp only [Bool.and_eq_true, decide_eq_true_eq] at hc
        obtain ⟨⟨h1, h2⟩, rfl⟩ := hc
        split at h
        · rename_i a
          obtain ⟨x, h3, h4⟩ := Option.map_eq_some_iff.mp h
          rw [← h4] at hok ⊢
          cases tg <;> first | (have hok : false = true := hok; cases hok) | skip
          by_cases hs : isStar a = false
          · exact si_enum O h2 h1 hs (ih.e O h3)
          · exfalso
            cases a <;> first | exact hs rfl | skip
            cases n with
            | zero => unfold trE at h3; cases h3
            | succ n => unfold trE at h3; cases h3
        · cases h
      · split at h
        · rename_i hc
          simp only [Bool.and_eq_true, decide_eq_true_eq] at hc
          obtain ⟨⟨h1, h2⟩, rfl⟩ := hc
          obtain ⟨ys, h3, h4⟩ := Option.map_eq_some_iff.mp h
          rw [← h4] at hok ⊢
          obtain ⟨a1, a2, a3, _⟩ := ih.s (P := P) O h3
          have hok : (isTup tg && decide (ys.length = 2)) = true := hok
          rw [Bool.and_eq_true, decide_eq_true_eq] at hok
          obtain ⟨hok, hl⟩ := hok
          cases tg <;> first | cases hok | skip
          rw [hl] at a3
          rcases args with _ | ⟨a, _ | ⟨b, _ | ⟨q1, q2⟩⟩⟩
          · cases a3
          · cases a3
          · exact si_zip O h2 h1 (a2 a (by simp)) (a2 b (by simp)) a1
          · cases a3
        · obtain ⟨x, h3, h4⟩ := Option.map_eq_some_iff.mp h
          rw [← h4]
          exact si_val (ih.e O h3)
  · split at h
    · cases h
    · rename_i hs
      obtain ⟨x, h3, h4⟩ := Option.map_eq_some_iff.mp h
      rw [← h4]
      exact ⟨si_val (ih.e O h3), by simpa using hs⟩
/-- what a comprehension's translation says -/
theorem c_parts {k2 : CK} {d2 : Nat} {elt : Expr} {gens : List Comprehension} {scope : Scope} {y : E} (h : trC g.t N (n + 1) d d2 sc k2 elt gens scope = some y) :
    ∃ tg iter ifs x t z ws, gens = [⟨tg, iter, ifs, 0⟩] ∧ y = .comp k2 ((ownOf N gens).map (·.2)) x [.mk t z ws] ∧ trE g.t N n d2 scope elt = some x ∧ trT g.t N n d2 scope tg = some t ∧ trIt g.t N n d sc iter = some z ∧ trEs g.t N n d2 scope ifs = some ws ∧
      okIt tg z = true ∧ (∀ i ∈ tNames t, i ∈ (ownOf N gens).map (·.2)) ∧ ifs.length ≤ 1 := by
  unfold trC at h
  split at h
  · rename_i tg iter ifs
    split at h
    · rename_i x t z ws h1 h2 h3 h4
      split at h
      · cases h
      · rename_i hc
        simp only [Bool.or_eq_true, Bool.not_eq_true', decide_eq_true_eq, not_or] at hc
        cases h
        refine ⟨tg, iter, ifs, x, t, z, ws, rfl, rfl, h1, h2, h3, h4, ?_, ?_, by omega⟩
        · simpa using hc.1.1
        · have := hc.1.2
          simp only [Bool.not_eq_false] at this
          intro i hi
          exact of_decide_eq_true (List.all_eq_true.mp this i hi)
    · cases h
  · cases h
theorem snd_f (ih : PSnd g n) {es : List Expr} {ys : List E} (O : XOk g N sc d k c X) (h : trEs g.t N (n + 1) d sc es = some ys) (hl : es.length ≤ 1) : PTs X es (tMF (mdOf X g k c P) ys) := by
  unfold trEs at h
  rcases es with _ | ⟨a, _ | ⟨b, r⟩⟩
  · cases h
    exact sf_nil
  · simp only at h
    split at h
    · cases h
    · split at h
      · rename_i x xs h1 h2
        cases h
        obtain ⟨_, _, a3, _⟩ := ih.s (P := P) O h2
        rw [len0 a3 rfl]
        exact sf_one (ih.t O h1)
      · cases h
  · simp at hl
theorem setOf_it {sc : Scope} {iter : Expr} {z : It} (h : trIt g.t N n d sc iter = some z) : isSet iter = false := by
  cases iter <;> first | rfl | skip
  cases n with
  | zero => unfold trIt at h; cases h
  | succ n => unfold trIt at h; simp [isSet] at h
theorem snd_c (ih : PSnd g n) {scope : Scope} {d2 : Nat} {kk : CK} {elt : Expr} {gens : List Comprehension} {y : E} (h : trC g.t N (n + 1) d d2 sc kk elt gens scope = some y) : ∃ tg iter ifs x t z ws, gens = [⟨tg, iter, ifs, 0⟩] ∧ y = .comp kk ((ownOf N gens).map (·.2)) x [.mk t z ws] ∧
    (∀ i ∈ tNames t, i ∈ (ownOf N gens).map (·.2)) ∧ isSet iter = false ∧ (∀ {k : Nat} {c P : Addr} {X : Cx}, XOk g N sc d k c X → PI X tg iter (tMI (mdOf X g k c P) z)) ∧
    ∀ {k : Nat} {c P : Addr} {X : Cx}, XOk g N scope d2 k c X → PG X tg (tMG (mdOf X g k c P) t) ∧ PTs X ifs (tMF (mdOf X g k c P) ws) ∧ PE X elt (tM (mdOf X g k c P) x) := by
  obtain ⟨tg, iter, ifs, x, t, z, ws, h1, h2, h3, h4, h5, h6, h7, h8, h9⟩ := c_parts h
  exact ⟨tg, iter, ifs, x, t, z, ws, h1, h2, h8, setOf_it h5, fun O => (ih.i O h5 h7).1, fun O => ⟨ih.tg O h4, ih.f O h6 h9, ih.e O h3⟩⟩
theorem biOf_at {f : Str} {b : Bi} (h : biOf f = some b) : ∃ v, BiAt b v ∧ bootBuiltins f = some v ∧ f ∈ bNames := by
  unfold biOf at h
  split at h
  · rename_i e; subst e; cases h; exact ⟨_, .abs, PyProof.Rows.boot_abs, by simp [bNames]⟩
  split at h
  · rename_i e; subst e; cases h; exact ⟨_, .len, PySem.boot_len, by simp [bNames]⟩
  split at h
  · rename_i e; subst e; cases h; exact ⟨_, .int, PyProof.Rows.boot_int, by simp [bNames]⟩
  split at h
  · rename_i e; subst e; cases h; exact ⟨_, .max, PyProof.Rows.boot_max, by simp [bNames]⟩
  split at h
  · rename_i e; subst e; cases h; exact ⟨_, .min, PyProof.Rows.boot_min, by simp [bNames]⟩
  split at h
  · rename_i e; subst e; cases h; exact ⟨_, .sum, PyProof.Rows.boot_sum, by simp [bNames]⟩
  split at h
  · rename_i e; subst e; cases h; exact ⟨_, .tuple, PyProof.Rows.boot_tuple, by simp [bNames]⟩
  split at h
  · rename_i e; subst e; cases h; exact ⟨_, .list, PyProof.Rows.boot_list, by simp [bNames]⟩
  split at h
  · rename_i e; subst e; cases h; exact ⟨_, .sorted, PyProof.Rows.boot_sorted, by simp [bNames]⟩
  split at h
  · rename_i e; subst e; cases h; exact ⟨_, .any, PyProof.Rows.boot_any, by simp [bNames]⟩
  split at h
  · rename_i e; subst e; cases h; exact ⟨_, .all, PyProof.Rows.boot_all, by simp [bNames]⟩
  cases h
theorem tyOf_at {ty : Str} {t : Ty} (h : tyOf ty = some t) : bootBuiltins ty = some (.type (tyStr t)) ∧ ty ∈ bNames := by
  unfold tyOf at h
  split at h
  · rename_i e; subst e; cases h; exact ⟨PyProof.Rows.boot_int, by simp [bNames]⟩
  split at h
  · rename_i e; subst e; cases h; exact ⟨by decide +kernel, by simp [bNames]⟩
  split at h
  · rename_i e; subst e; cases h; exact ⟨by decide +kernel, by simp [bNames]⟩
  split at h
  · rename_i e; subst e; cases h; exact ⟨PyProof.Rows.boot_tuple, by simp [bNames]⟩
  split at h
  · rename_i e; subst e; cases h; exact ⟨PyProof.Rows.boot_list, by simp [bNames]⟩
  cases h
theorem snd_bi0 (hso : SortedOk) (ih : PSnd g n) {f : Str} {b : Bi} {args : List Expr} {as : List E} {p pos : Pos} (O : XOk g N sc d k c X) (hb : biOf f = some b) (h : trEs g.t N n d sc args = some as) (hn : nameOk f = true) (hg : gloB sc f = true) (hf : g.t.free f = true) : PE X (.Call (.Name f p) args [] pos) (tM (mdOf X g k c P) (.bi b as)) := by
  obtain ⟨v, h1, h2, h3⟩ := biOf_at hb
  obtain ⟨a1, a2, a3, _⟩ := ih.s (P := P) O h
  exact se_bi O h1 h2 h3 hf (hso X O.calm O.room.units) hn hg a2 (len0 a3) a1
theorem snd_bi (hso : SortedOk) (ih : PSnd g n) {f : Str} {args : List Expr} {y : E} {p pos : Pos} (O : XOk g N sc d k c X) (h : trBi g.t N (n + 1) d sc f args = some y) (hn : nameOk f = true) (hg : gloB sc f = true) (hf : g.t.free f = true) : PE X (.Call (.Name f p) args [] pos) (tM (mdOf X g k c P) y) := by
  unfold trBi at h
  split at h
  · rename_i elt gens scope gp
    split at h
    · rename_i kk d' hk
      split at h
      · rename_i hc
        simp only [Bool.and_eq_true, Bool.not_eq_true'] at hc
        obtain ⟨⟨hc1, hc2⟩, hc3⟩ := hc
        obtain ⟨tg, iter, ifs, x, t, z, ws, e1, e2, hv, hs, hi, hrest⟩ := ih.c h
        rw [e2]
        subst e1
        have hl : isList iter = false := by simpa using hc3
        exact se_gen O hk hf hg hc1 (of_decide_eq_true hc2) hv hs hl (hi O) (fun Y c2 P2 OY => (hrest OY).1) (fun Y c2 P2 OY => (hrest OY).2.1) (fun Y c2 P2 OY => (hrest OY).2.2)
      · cases h
    · cases h
  · rename_i r q1 as q2
    split at h
    · rename_i hc
      simp only [Bool.and_eq_true, Bool.or_eq_true, decide_eq_true_eq] at hc
      obtain ⟨⟨⟨hr1, hr2⟩, hr3⟩, hft⟩ := hc
      subst hr3
      obtain ⟨ys, h1, h2⟩ := Option.map_eq_some_iff.mp h
      rw [← h2]
      obtain ⟨a1, a2, a3, a4⟩ := ih.s (P := P) O h1
      have ef : ∃ tup : Bool, f = (if tup then ("tuple" : Str) else ("list" : Str)) ∧ decide (f = ("tuple" : Str)) = tup := by
        rcases hft with e | e
        · exact ⟨true, by rw [e]; rfl, by rw [e]; rfl⟩
        · exact ⟨false, by rw [e]; rfl, by rw [e]; decide⟩
      obtain ⟨tup, e1, e2⟩ := ef
      rw [e2]
      have nev : (ys.length ≠ 1 ∧ ys.length ≠ 2) → PE X (.Call (.Name f p) [.Call (.Name "range" q1) as [] q2] [] pos) (tM (mdOf X g k c P) (.rngv tup ys)) := fun hl => by
        refine tM_never fun env st => ?_
        unfold evE
        cases ev : evEs (g.C k) g.G ys env st with
        | none => rfl
        | some r =>
          obtain ⟨vs, s1⟩ := r
          have hlen := evEs_len ev
          show (match wkR2 vs with | some xs => if tup then mkT xs s1 else newL xs s1 | none => none) = none
          have : wkR2 vs = none := by
            cases hw : wkR2 vs with
            | none => rfl
            | some xs =>
              rcases wkR2_rg hw with ⟨j, e, _⟩ | ⟨i, j, e, _⟩
              · rw [e] at hlen; exact (hl.1 hlen.symm).elim
              · rw [e] at hlen; exact (hl.2 hlen.symm).elim
          rw [this]
      rcases as with _ | ⟨x1, _ | ⟨x2, _ | ⟨x3, r3⟩⟩⟩
      · exact nev ⟨by rw [← a3]; decide, by rw [← a3]; decide⟩
      · rcases ys with _ | ⟨y1, _ | ⟨y2, r⟩⟩
        · cases a3
        · subst e1
          exact se_rngv1 O hr2 hr1 hf hg (a2 x1 (by simp)) (a4 0 _ _ rfl rfl)
        · simp at a3
      · rcases ys with _ | ⟨y1, _ | ⟨y2, _ | ⟨y3, r⟩⟩⟩
        · cases a3
        · simp at a3
        · subst e1
          exact se_rngv2 O hr2 hr1 hf hg (a2 x1 (by simp)) (a2 x2 (by simp)) (a4 0 _ _ rfl rfl) (a4 1 _ _ rfl rfl)
        · simp at a3
      · exact nev ⟨by rw [← a3]; simp, by rw [← a3]; simp⟩
    · split at h
      · rename_i b as' hb ha
        cases h
        exact snd_bi0 hso ih O hb ha hn hg hf
      · cases h
  · rename_i e ty q1
    split at h
    · rename_i hc
      subst hc
      split at h
      · rename_i yy x ht hx
        split at h
        · rename_i hq
          simp only [Bool.and_eq_true] at hq
          cases h
          obtain ⟨t1, t2⟩ := tyOf_at ht
          have hs : isStar e = false := by
            cases e <;> first | rfl | skip
            cases n with
            | zero => unfold trE at hx; cases hx
            | succ n => unfold trE at hx; cases hx
          exact se_isa O hf hg t1 t2 hq.2 hq.1.1 hq.1.2 hs (ih.e O hx)
        · cases h
      · cases h
    · split at h
      · rename_i b as' hb ha
        cases h
        exact snd_bi0 hso ih O hb ha hn hg hf
      · cases h
  · split at h
    · rename_i b as' hb ha
      cases h
      exact snd_bi0 hso ih O hb ha hn hg hf
    · cases h
end
end Mp
set_option Elab.async false
set_option linter.all false
set_option maxRecDepth 100000
set_option maxHeartbeats 4000000
/-! MpAll3: the step for expressions, for tests. -/
namespace Mp
open PySem PySem.Spec PyProof.Rows L2
section
variable {g : Gc} {n : Nat} {N : List Str} {sc : Scope} {d k : Nat} {c P : Addr} {X : Cx}
theorem se_glo {x : Str} {pos : Pos} (O : XOk g N sc d k c X) (hn : nameOk x = true) (hg : gloB sc x = true) (hc : (g.t.con x).isSome = true) : PE X (.Name x pos) (tM (mdOf X g k c P) (.glo x)) := by
  obtain ⟨pv, hpv⟩ := Option.isSome_iff_exists.mp hc
  obtain ⟨v, u, h1, h2, h3⟩ := O.fns.cons x pv hpv
  refine PE.weak (pe_glob (O.gl hg) h1 h2 (nameOk_iff hn).1) fun σ H Q ⟨L, env, st, pv', st', he, w, hv, f⟩ => ?_
  unfold evE at hv
  obtain ⟨e1, rfl⟩ := of_inv hv
  have e1 : g.t.con x = some pv' := e1
  rw [hpv] at e1
  cases e1
  exact f.here w.wd (h3 H L)
theorem notStar {t : Tops} {e : Expr} {y : E} (h : trE t N n d sc e = some y) : isStar e = false := by
  cases e <;> first | rfl | skip
  cases n with
  | zero => unfold trE at h; cases h
  | succ n => unfold trE at h; cases h
theorem ks_names {ks : List (Str × E)} {ps : List Str} {ns : List Nat} (h : (ks.mapM fun k => ps.findIdx? (· == k.1)) = some ns) : ((ks.map (·.1)).mapM fun k => ps.findIdx? (· == k)) = some ns := by
  rw [← h]
  clear h
  induction ks with
  | nil => rfl
  | cons a r ih => rw [List.map_cons, List.mapM_cons, List.mapM_cons, ih]
theorem snd_e (hso : SortedOk) (hsk : SortKOk g) (hpr : PrgOk g) (ih : PSnd g n) {e : Expr} {y : E} (O : XOk g N sc d k c X) (h : trE g.t N (n + 1) d sc e = some y) : PE X e (tM (mdOf X g k c P) y) := by
  unfold trE at h
  split at h
  · cases h
    exact se_const pe_non (fun _ _ => by unfold evE; rfl) fun _ _ => by unfold Rep; rfl
  · cases h
    exact se_const pe_bl (fun _ _ => by unfold evE; rfl) fun _ _ => by unfold Rep; rfl
  · cases h
    exact se_const pe_int (fun _ _ => by unfold evE; rfl) fun _ _ => by unfold Rep; rfl
  · cases h
    exact se_const pe_str (fun _ _ => by unfold evE; rfl) fun _ _ => by unfold Rep; rfl
  · split at h
    · rename_i hn
      split at h
      · rename_i hv
        obtain ⟨i, h1, h2⟩ := Option.map_eq_some_iff.mp h
        rw [← h2]
        obtain ⟨n1, n2, n3⟩ := nameOk_iff hn
        exact se_var (x := ("" : Str)) (pe_var (by rw [O.hN]; exact slot_get h1) (O.vis hv) n1 n2)
      · split at h
        · rename_i hc
          rw [Bool.and_eq_true] at hc
          cases h
          exact se_glo O hn hc.1 hc.2
        · cases h
    · cases h
  · obtain ⟨ys, h1, h2⟩ := Option.map_eq_some_iff.mp h
    rw [← h2]
    exact se_tup (ih.s O h1).1
  · obtain ⟨ys, h1, h2⟩ := Option.map_eq_some_iff.mp h
    rw [← h2]
    exact se_lst (ih.s O h1).1
  · split at h
    · rename_i o x z h1 h2 h3
      cases h
      exact se_bin h1 (ih.e O h2) (ih.e O h3)
    · cases h
  · obtain ⟨ys, h1, h2⟩ := Option.map_eq_some_iff.mp h
    rw [← h2]
    exact se_neg (ih.e O h1)
  · obtain ⟨ys, h1, h2⟩ := Option.map_eq_some_iff.mp h
    rw [← h2]
    exact se_not (ih.e O h1)
  · exact (ih.b O h).1
  · split at h
    · rename_i z x u h1 h2 h3
      cases h
      exact se_ifx (ih.t O h1) (ih.e O h2) (ih.e O h3)
    · cases h
  · split at h
    · cases h
    · rename_i hm
      split at h
      · rename_i o x z h1 h2 h3
        cases h
        exact se_cmp O.room.units h1 (by simpa using hm) (ih.e O h2) (ih.e O h3)
      · cases h
  · split at h
    · cases h
    · rename_i hm
      rw [Bool.or_eq_true, not_or] at hm
      split at h
      · rename_i o o2 x z u h1 h2 h3 h4 h5
        cases h
        exact se_chn O.room.units h1 h2 (by simpa using hm.1) (ih.e O h3) (ih.e O h4) (ih.e O h5)
      · cases h
  · obtain ⟨ys, h1, h2⟩ := Option.map_eq_some_iff.mp h
    rw [← h2]
    exact se_rev (ih.e O h1)
  · split at h
    · rename_i x l u h1 h2 h3
      cases h
      exact se_sl (ih.e O h1) (ih.o O h2) (ih.o O h3)
    · cases h
  · split at h
    · cases h
    · rename_i hs
      rw [Bool.or_eq_true, not_or] at hs
      split at h
      · rename_i x z h1 h2
        cases h
        exact se_ix (by simpa using hs.1) (ih.e O h1) (ih.e O h2)
      · cases h
  · -- calls
    rename_i f p args kws pos
    split at h
    · rename_i hc
      rw [Bool.and_eq_true] at hc
      obtain ⟨hn, hg⟩ := hc
      split at h
      · rename_i ps hps
        split at h
        · obtain ⟨ys, h1, h2⟩ := Option.map_eq_some_iff.mp h
          rw [← h2]
          obtain ⟨a1, a2, a3, _⟩ := ih.s (P := P) O h1
          exact se_call O hps (hpr f ps hps) hn hg a2 (len0 a3) a1
        · split at h
          · rename_i as ks h1 h2
            obtain ⟨ns, h3, h4⟩ := Option.bind_eq_some_iff.mp h
            split at h4
            case isFalse => cases h4
            rename_i hok
            cases h4
            obtain ⟨a1, a2, a3, _⟩ := ih.s (P := P) O h1
            obtain ⟨b1, b2⟩ := ih.ks (P := P) O h2
            exact se_callk O hps (hpr f ps hps) hn hg a2 (len0 a3) a1 b1 b2 (ks_names h3) (by rw [List.length_map, List.length_map]) hok
          · cases h
      · split at h
        · rename_i hfr
          split at h
          · exact ih.bi O h hn hg hfr
          · split at h
            · rename_i hk
              obtain ⟨rfl, hkw⟩ := hk
              split at h
              · split at h
                · rename_i v i b h1 h2 h3
                  split at h
                  · rename_i hc2
                    rw [Bool.and_eq_true, Bool.and_eq_true] at hc2
                    cases h
                    refine hsk _ _ _ _ _ _ _ _ _ _ _ _ _ _ _ _ _ _ _ _ none O hfr hg hkw (slot_get h2) hc2.1.1 (by simpa using hc2.1.2) (of_decide_eq_true hc2.2) (notStar h1) (fun Y c2 P2 OY => ih.e OY h3) (ih.e O h1)
                  · cases h
                · cases h
              · cases h
            · cases h
          · cases h
        · cases h
    · cases h
  · split at h
    · rename_i hc
      simp only [Bool.and_eq_true, decide_eq_true_eq] at hc
      split at h
      · rename_i m x as h1 h2 h3
        cases h
        obtain ⟨a1, a2, a3, _⟩ := ih.s (P := P) O h3
        exact se_mt h1 hc.1.1 (by simpa using hc.1.2) hc.2 a2 (len0 a3) (ih.e O h2) a1
      · cases h
    · cases h
  · split at h
    · rename_i hc
      obtain ⟨tg, iter, ifs, x, t, z, ws, e1, e2, hv, hs, hi, hrest⟩ := ih.c h
      rw [e2]
      subst e1
      exact se_lc O hc hv hs (hi O) (fun Y OY => (hrest OY).1) (fun Y OY => (hrest OY).2.1) (fun Y OY => (hrest OY).2.2)
    · cases h
  · cases h
theorem snd_t (hso : SortedOk) (hsk : SortKOk g) (hpr : PrgOk g) (ih : PSnd g n) {e : Expr} {y : E} (O : XOk g N sc d k c X) (h : trE g.t N (n + 1) d sc e = some y) : PT X e (tMT (mdOf X g k c P) y) := by
  have hE := snd_e (P := P) hso hsk hpr ih O h
  cases e with
  | UnaryOp op a pos =>
    cases op with
    | Not =>
      unfold trE at h
      obtain ⟨ys, h1, h2⟩ := Option.map_eq_some_iff.mp h
      rw [← h2]
      exact st_not (ih.t O h1)
    | _ => exact st_val hE fun _ => rfl
  | BoolOp op vs pos =>
    unfold trE at h
    exact (ih.b O h).2.pt
  | IfExp t a b pos =>
    unfold trE at h
    simp only at h
    split at h
    · rename_i z x u h1 h2 h3
      cases h
      exact st_ifx (ih.t O h1) (ih.t O h2) (ih.t O h3)
    · cases h
  | Compare a ops bs pos =>
    rcases ops with _ | ⟨op, _ | ⟨op2, _ | ⟨op3, ops⟩⟩⟩
    · unfold trE at h; cases h
    · rcases bs with _ | ⟨b, _ | ⟨b2, bs⟩⟩
      · unfold trE at h; cases h
      · unfold trE at h
        simp only at h
        split at h
        · cases h
        · rename_i hm
          split at h
          · rename_i o x z h1 h2 h3
            cases h
            exact st_cmp O.room.units h1 (by simpa using hm) (ih.e O h2) (ih.e O h3)
          · cases h
      · unfold trE at h; cases h
    · rcases bs with _ | ⟨b, _ | ⟨b2, _ | ⟨b3, bs⟩⟩⟩
      · unfold trE at h; cases h
      · unfold trE at h; cases h
      · unfold trE at h
        simp only at h
        split at h
        · cases h
        · rename_i hm
          rw [Bool.or_eq_true, not_or] at hm
          split at h
          · rename_i o o2 x z u h1 h2 h3 h4 h5
            cases h
            exact st_chn O.room.units h1 h2 (by simpa using hm.1) (ih.e O h3) (ih.e O h4) (ih.e O h5)
          · cases h
      · unfold trE at h; cases h
    · unfold trE at h; cases h
  | _ => exact st_val hE fun _ => rfl
/-- what the translator takes is run as the evaluator says -/
theorem snd (hso : SortedOk) (hsk : SortKOk g) (hpr : PrgOk g) : ∀ n, PSnd g n
  | 0 => snd_zero
  | n + 1 =>
    have ih := snd hso hsk hpr n
    ⟨fun O h => snd_e hso hsk hpr ih O h, fun O h => snd_t hso hsk hpr ih O h, fun O h => snd_b ih O h, fun O h => snd_o ih O h, fun O h => snd_s ih O h, fun O h => snd_ks ih O h, fun O h ho => snd_i ih O h ho, fun O h => snd_tg ih O h, fun O h => snd_tgs ih O h,
      fun O h hl => snd_f ih O h hl, fun h => snd_c ih h, fun O h hn hg hf => snd_bi hso ih O h hn hg hf⟩
end
end Mp
set_option Elab.async false
set_option linter.all false
set_option maxRecDepth 100000
set_option maxHeartbeats 4000000
/-! MpAll4: statements. -/
namespace Mp
open PySem PySem.Spec PyProof.Rows L2
section
variable {g : Gc} {n : Nat} {N : List Str} {sc : Scope} {d k : Nat} {c P : Addr} {X : Cx}
theorem sw_ok {env : PySem.Env} {tg e : Expr} {r : Option (List Str)} (hs : env.scope.kind = .function) (h : swN env.scope tg e = some r) : swappedStores [tg] e env = pure r := by
  have hbk : (env.blockKind != ScopeKind.function) = false := by
    unfold Env.blockKind
    rw [hs]
    rfl
  cases tg with
  | Tuple ts kt pt =>
    cases e with
    | Tuple vs kv pv =>
      unfold swN at h
      simp only at h
      unfold swappedStores
      simp only [hbk, Bool.or_false]
      show (if (!(ts.length == 2 || ts.length == 3) || vs.length != ts.length) = true then pure none else _) = _
      by_cases c1 : (!(ts.length == 2 || ts.length == 3) || vs.length != ts.length) = true
      · rw [if_pos c1] at h
        cases h
        exact if_pos c1
      rw [if_neg c1] at h
      refine (if_neg c1).trans ?_
      have estar : (vs.any fun | .Starred .. => true | _ => false) = vs.any isStar := by
        congr 1
      split at h
      · rename_i c2
        cases h
        exact if_pos (estar.trans c2)
      rename_i c2
      refine (if_neg fun z => c2 (estar.symm.trans z)).trans ?_
      split at h
      · rename_i c3
        cases h
        exact if_pos c3
      rename_i c3
      refine (if_neg c3).trans ?_
      split at h
      · rename_i c4
        cases h
        exact if_pos c4
      rename_i c4
      refine (if_neg c4).trans ?_
      split at h
      · cases h
      rename_i c5
      cases h
      exact if_neg c5
    | _ => cases h; rfl
  | List ts pt => cases e <;> cases h
  | _ => cases e <;> (cases h; rfl)
theorem swapsP {env : PySem.Env} {tg e : Expr} {line : Nat} (h : isComp e = false ∨ ∀ x p, tg ≠ .Name x p) : swapsWithSole [tg] e line env = pure false := by
  show swapsWith e (some tg) line env = pure false
  rcases h with h | h
  · cases e <;> first | rfl | cases h
  · cases e <;> first | rfl | (cases tg <;> first | rfl | exact (h _ _ rfl).elim)
/-- is a comprehension's value put into the name right away? -/
def swB (sc : Scope) (scope : Scope) (t : Str) (l1 l2 : Nat) : Bool := sc.names.lookup t == some .local && l1 == l2 && !(scope.names.any fun (n, k) => n == t && (k == .local || k == .cell))
theorem swapsL {env : PySem.Env} {elt : Expr} {gens : List Comprehension} {scope : Scope} {p py : Pos} {x : Str} {line : Nat} (hs : env.scope.kind = .function) :
    swapsWith (.ListComp elt gens scope p) (some (.Name x py)) line env = pure (swB env.scope scope x py.line p.line) := by
  have hbk : (env.blockKind == ScopeKind.function) = true := by
    unfold Env.blockKind
    rw [hs]
    rfl
  show (pure (env.blockKind == .function && env.kindOf x == some .local && py.line == p.line && !(scope.names.any fun (n, k) => n == x && (k == .local || k == .cell))) : Sem Bool) = _
  rw [hbk, Bool.true_and]
  rfl
theorem asg1 {tg : Expr} (h : isStar tg = false) (env : PySem.Env) : (assignEach [tg] env).map (·.2) = [assign tg env] := by
  rw [asg_cons h]
  rfl
theorem notStarT {t : Tops} {e : Expr} {y : T} (h : trT t N n d sc e = some y) : isStar e = false := by
  cases e <;> first | rfl | skip
  cases n with
  | zero => unfold trT at h; cases h
  | succ n => unfold trT at h; cases h
theorem trT_name {t : Tops} {x : Str} {p : Pos} {y : T} (h : trT t N n d sc (.Name x p) = some y) : ∃ i, y = .nm i ∧ slot N x = some i ∧ locB sc x = true := by
  cases n with
  | zero => unfold trT at h; cases h
  | succ n =>
    unfold trT at h
    simp only at h
    split at h
    · rename_i hq
      rw [Bool.and_eq_true] at hq
      obtain ⟨i, h1, h2⟩ := Option.map_eq_some_iff.mp h
      exact ⟨i, h2.symm, h1, hq.2⟩
    · cases h
theorem len2 {α : Type} {l : List α} (h : l.length = 2) : ∃ a b, l = [a, b] := by
  rcases l with _ | ⟨a, _ | ⟨b, _ | ⟨q, r⟩⟩⟩
  · cases h
  · cases h
  · exact ⟨a, b, rfl⟩
  · simp at h
theorem len3 {α : Type} {l : List α} (h : l.length = 3) : ∃ a b c, l = [a, b, c] := by
  rcases l with _ | ⟨a, _ | ⟨b, _ | ⟨q, _ | ⟨r, r2⟩⟩⟩⟩
  · cases h
  · cases h
  · cases h
  · exact ⟨a, b, q, rfl⟩
  · simp at h
theorem fm_full {α β : Type} {f : α → Option β} : ∀ {l : List α}, (l.filterMap f).length = l.length → l.map f = (l.filterMap f).map some
  | [], _ => rfl
  | a :: l, h => by
    cases e : f a with
    | none =>
      rw [List.filterMap_cons_none e] at h
      have := List.length_filterMap_le f l
      rw [List.length_cons] at h
      omega
    | some b =>
      rw [List.filterMap_cons_some e] at h ⊢
      rw [List.map_cons, List.map_cons, e, fm_full (by simpa using h)]
def swF (sc : Scope) (line : Nat) : Expr → Option Str
  | .Name id pos => if sc.names.lookup id == some .local && pos.line == line then some id else none
  | _ => none
theorem swF_name {line : Nat} {e : Expr} {x : Str} (h : swF sc line e = some x) : (∃ p, e = .Name x p) ∧ sc.names.lookup x = some .local := by
  cases e <;> first | cases h | skip
  rename_i id pos
  unfold swF at h
  obtain ⟨h1, h2⟩ := ite_some h
  cases h2
  simp only [Bool.and_eq_true, beq_iff_eq] at h1
  exact ⟨⟨pos, rfl⟩, h1.1⟩
theorem swN_some {tg e : Expr} {names : List Str} (h : swN sc tg e = some (some names)) : ∃ ts kt pt vs kv pv line, tg = .Tuple ts kt pt ∧ e = .Tuple vs kv pv ∧ (ts.length = 2 ∨ ts.length = 3) ∧ vs.length = ts.length ∧ ts.map (swF sc line) = names.map some ∧ names.eraseDups.length = names.length := by
  cases tg with
  | Tuple ts kt pt =>
    cases e with
    | Tuple vs kv pv =>
      unfold swN at h
      simp only at h
      by_cases c1 : (!(ts.length == 2 || ts.length == 3) || vs.length != ts.length) = true
      · rw [if_pos c1] at h
        cases h
      rw [if_neg c1] at h
      split at h
      · cases h
      split at h
      · cases h
      rename_i c3
      split at h
      · cases h
      split at h
      · cases h
      have e1 : ts.filterMap (swF sc ((ts.head?.map (·.pos.line)).getD 0)) = names := by
        have h2 := Option.some.inj (Option.some.inj h)
        rw [← h2]
        congr 1
      simp only [Bool.or_eq_true, not_or, bne_iff_ne, ne_eq, Decidable.not_not, Bool.not_eq_true', Bool.not_eq_true, Bool.not_eq_false', beq_iff_eq] at c1
      have c3' : ¬ (((ts.filterMap (swF sc ((ts.head?.map (·.pos.line)).getD 0))).length != ts.length || (ts.filterMap (swF sc ((ts.head?.map (·.pos.line)).getD 0))).eraseDups.length != (ts.filterMap (swF sc ((ts.head?.map (·.pos.line)).getD 0))).length) = true) := by
        intro z
        apply c3
        rw [e1] at z
        have h2 := Option.some.inj (Option.some.inj h)
        rw [h2]
        exact z
      rw [e1] at c3'
      simp only [Bool.or_eq_true, not_or, bne_iff_ne, ne_eq, Decidable.not_not] at c3'
      refine ⟨ts, kt, pt, vs, kv, pv, (ts.head?.map (·.pos.line)).getD 0, rfl, rfl, ?_, ?_, ?_, c3'.2⟩
      · have := c1.1
        by_cases z : ts.length = 2
        · exact .inl z
        · exact .inr (by simpa [z] using this)
      · exact c1.2
      · have := fm_full (f := swF sc ((ts.head?.map (·.pos.line)).getD 0)) (l := ts) (by rw [e1]; exact c3'.1)
        rw [this, e1]
    | _ => cases h
  | List ts pt => cases e <;> cases h
  | _ => cases e <;> cases h
theorem snd_asg (hso : SortedOk) (hsk : SortKOk g) (hpr : PrgOk g) {tg e : Expr} {x : T} {y : E} {pos : Pos} (O : XOk g N sc d k c X) (hsc : X.env.scope = sc) (hsw : (swN sc tg e).isNone = false) (h1 : trT g.t N n d sc tg = some x) (h2 : trE g.t N n d sc e = some y) :
    PS X (.Assign [tg] e pos) (tM1 (mdOf X g k c P) (.asg x y)) := by
  have S := snd (g := g) hso hsk hpr
  have hE := (S n).e (P := P) O h2
  have hG := (S n).tg (P := P) O h1
  obtain ⟨r, hr⟩ := Option.isSome_iff_exists.mp (show (swN sc tg e).isSome = true by cases h : swN sc tg e <;> rw [h] at hsw <;> first | rfl | cases hsw)
  have hw := sw_ok (env := X.env) O.kind (by rw [hsc]; exact hr)
  have hst := asg1 (notStarT h1) X.env
  cases r with
  | none =>
    by_cases hc : isComp e = false ∨ ∀ x p, tg ≠ .Name x p
    · exact s1_asg (swapsP hc) hw hst hE hG
    · -- name = [..]
      have hc1 : isComp e = true := by
        cases q : isComp e with
        | true => rfl
        | false => exact (hc (.inl q)).elim
      have hc2 : ∃ nm p, tg = .Name nm p := by
        apply Classical.byContradiction
        intro z
        exact hc (.inr fun a b e => z ⟨a, b, e⟩)
      obtain ⟨nm, p, rfl⟩ := hc2
      cases e <;> first | (have hc1 : false = true := hc1; cases hc1) | skip
      · rename_i elt gens scope pe
        cases hb : swB sc scope nm p.line pe.line with
        | false => exact s1_asg ((swapsL (line := pos.line) O.kind).trans (by rw [hsc, hb])) hw hst hE hG
        | true =>
          obtain ⟨i, rfl, hi, hl⟩ := trT_name h1
          cases n with
          | zero => unfold trE at h2; cases h2
          | succ n =>
            unfold trE at h2
            simp only at h2
            split at h2
            · rename_i hblk
              obtain ⟨tg2, iter, ifs, x2, t2, z2, ws, e1, e2, hv, hs, hi2, hrest⟩ := (S n).c h2
              subst e1
              rw [e2]
              have hloc : X.env.scope.names.lookup nm = some .local := by
                unfold swB at hb
                simp only [Bool.and_eq_true, beq_iff_eq] at hb
                rw [hsc]
                exact hb.1.1
              exact s1_lc (ss_setLc O hblk hv hs (hi2 O) (fun Y OY => (hrest OY).1) (fun Y OY => (hrest OY).2.1) (fun Y OY => (hrest OY).2.2) (slot_get hi) hloc ((swapsL (line := pos.line) O.kind).trans (by rw [hsc, hb])))
            · cases h2
      · cases n with
        | zero => unfold trE at h2; cases h2
        | succ n => unfold trE at h2; cases h2
      · cases n with
        | zero => unfold trE at h2; cases h2
        | succ n => unfold trE at h2; cases h2
  | some names =>
    obtain ⟨ts, kt, pt, vs, kv, pv, line, rfl, rfl, hl, hvl, hnm, hdup⟩ := swN_some hr
    have loc : ∀ {x : Str}, sc.names.lookup x = some .local → X.env.scope.names.lookup x = some .local := fun h => by rw [hsc]; exact h
    -- the parts
    cases n with
    | zero => unfold trE at h2; cases h2
    | succ n =>
      unfold trE at h2
      unfold trT at h1
      obtain ⟨es, g1, rfl⟩ := Option.map_eq_some_iff.mp h2
      obtain ⟨tt, g2, rfl⟩ := Option.map_eq_some_iff.mp h1
      obtain ⟨a1, a2, a3, _⟩ := (S n).s (P := P) O g1
      have neI : ∀ {x x' : Str} {i j : Nat}, x ≠ x' → slot N x = some i → slot N x' = some j → i ≠ j := fun hx h3 h4 e => hx (by
        have e1 := slot_get h3
        have e2 := slot_get h4
        rw [e, e2] at e1
        exact (Option.some.inj e1).symm)
      have step : ∀ {m : Nat} {a : Expr} {ts : List Expr} {tt : List T}, trTs g.t N m d sc (a :: ts) = some tt → ∃ m2 t t2, tt = t :: t2 ∧ trT g.t N m2 d sc a = some t ∧ trTs g.t N m2 d sc ts = some t2 := by
        intro m a ts tt h
        cases m with
        | zero => unfold trTs at h; cases h
        | succ m =>
          unfold trTs at h
          split at h
          · cases h
          · split at h
            · rename_i t t2 h3 h4
              cases h
              exact ⟨m, t, t2, rfl, h3, h4⟩
            · cases h
      have fin : ∀ {m : Nat} {tt : List T}, trTs g.t N m d sc [] = some tt → tt = [] := by
        intro m tt h
        cases m with
        | zero => unfold trTs at h; cases h
        | succ m => unfold trTs at h; cases h; rfl
      rcases hl with hl | hl
      · obtain ⟨t1, t2, rfl⟩ := len2 hl
        obtain ⟨v1, v2, rfl⟩ := len2 (hvl.trans hl)
        obtain ⟨n1, n2, rfl⟩ := len2 (show names.length = 2 by have := congrArg List.length hnm; simpa using this.symm)
        simp only [List.map_cons, List.map_nil, List.cons.injEq, and_true] at hnm
        obtain ⟨⟨p1, rfl⟩, l1⟩ := swF_name hnm.1
        obtain ⟨⟨p2, rfl⟩, l2⟩ := swF_name hnm.2
        obtain ⟨m1, u1, r1, rfl, k1, k2⟩ := step g2
        obtain ⟨m2, u2, r2, rfl, k3, k4⟩ := step k2
        rw [fin k4]
        obtain ⟨i, rfl, hi, _⟩ := trT_name k1
        obtain ⟨j, rfl, hj, _⟩ := trT_name k3
        have hne : n1 ≠ n2 := fun e => by subst e; simp [List.eraseDups_cons] at hdup
        exact s1_par O (slot_get hi) (slot_get hj) (neI hne hi hj) (loc l1) (loc l2) a1 hw
      · obtain ⟨t1, t2, t3, rfl⟩ := len3 hl
        obtain ⟨v1, v2, v3, rfl⟩ := len3 (hvl.trans hl)
        obtain ⟨n1, n2, n3, rfl⟩ := len3 (show names.length = 3 by have := congrArg List.length hnm; simpa using this.symm)
        simp only [List.map_cons, List.map_nil, List.cons.injEq, and_true] at hnm
        obtain ⟨⟨p1, rfl⟩, l1⟩ := swF_name hnm.1
        obtain ⟨⟨p2, rfl⟩, l2⟩ := swF_name hnm.2.1
        obtain ⟨⟨p3, rfl⟩, l3⟩ := swF_name hnm.2.2
        obtain ⟨m1, u1, r1, rfl, k1, k2⟩ := step g2
        obtain ⟨m2, u2, r2, rfl, k3, k4⟩ := step k2
        obtain ⟨m3, u3, r3, rfl, k5, k6⟩ := step k4
        rw [fin k6]
        obtain ⟨i, rfl, hi, _⟩ := trT_name k1
        obtain ⟨j, rfl, hj, _⟩ := trT_name k3
        obtain ⟨l, rfl, hl', _⟩ := trT_name k5
        have hne : n1 ≠ n2 ∧ n1 ≠ n3 ∧ n2 ≠ n3 := by
          refine ⟨fun e => ?_, fun e => ?_, fun e => ?_⟩
          · subst e
            by_cases q : n3 = n1 <;> simp [List.eraseDups_cons, q] at hdup
          · subst e
            by_cases q : n2 = n1 <;> simp [List.eraseDups_cons, q] at hdup
          · subst e
            by_cases q : n2 = n1 <;> simp [List.eraseDups_cons, q] at hdup
        exact s1_par3 O (slot_get hi) (slot_get hj) (slot_get hl') (neI hne.1 hi hj) (neI hne.2.1 hi hl') (neI hne.2.2 hj hl') (loc l1) (loc l2) (loc l3) a1 hw
end
end Mp
set_option Elab.async false
set_option linter.all false
set_option maxRecDepth 100000
set_option maxHeartbeats 4000000
/-! MpProg: statements, defs, the program. -/
namespace Mp
open PySem PySem.Spec PyProof.Rows L2
section
variable {g : Gc} {N : List Str} {sc : Scope} {d k : Nat} {c P : Addr} {X : Cx}
theorem snd_ss (hso : SortedOk) (hsk : SortKOk g) (hpr : PrgOk g) (O : XOk g N sc d k c X) (hsc : X.env.scope = sc) : ∀ n : Nat,
    (∀ {q : Stmt} {y : S}, trS g.t N n d sc q = some y → PS X q (tM1 (mdOf X g k c P) y)) ∧ ∀ {qs : List Stmt} {ys : List S}, trSs g.t N n d sc qs = some ys → PSs X qs (tMS (mdOf X g k c P) ys)
  | 0 => ⟨(fun h => by unfold trS at h; cases h), (fun h => by unfold trSs at h; cases h)⟩
  | n + 1 => by
    obtain ⟨ih1, ih2⟩ := snd_ss hso hsk hpr O hsc n
    have S := snd (g := g) hso hsk hpr n
    refine ⟨fun {q y} h => ?_, fun {qs ys} h => ?_⟩
    · unfold trS at h
      split at h
      · split at h
        · cases h
        · rename_i hsw
          split at h
          · rename_i x z h1 h2
            cases h
            exact snd_asg hso hsk hpr O hsc (Bool.eq_false_iff.mpr hsw) h1 h2
          · cases h
      · split at h
        · rename_i o i z h1 h2 h3
          split at h
          · rename_i hq
            rw [Bool.and_eq_true] at hq
            cases h
            exact s1_aug O h1 (slot_get h2) hq.2 (S.e O h3)
          · cases h
        · cases h
      · split at h
        · cases h
        · rename_i hc
          obtain ⟨x, h1, h2⟩ := Option.map_eq_some_iff.mp h
          rw [← h2]
          refine s1_expr ?_ (S.e O h1)
          rename_i e _
          cases e <;> first | rfl | exact (hc rfl).elim
      · obtain ⟨x, h1, h2⟩ := Option.map_eq_some_iff.mp h
        rw [← h2]
        exact s1_ret (S.e O h1)
      · cases h
        exact s1_retn
      · split at h
        · rename_i x u v h1 h2 h3
          cases h
          exact s1_ite (S.t O h1) (ih2 h2) (ih2 h3)
        · cases h
      · split at h
        · rename_i x u v h1 h2 h3
          split at h
          · cases h
          · rename_i hok
            cases h
            obtain ⟨i1, i2⟩ := S.i (P := P) O h2 (by simpa using hok)
            exact s1_for O.calm O.xe i2 i1 (S.tg O h1) (ih2 h3)
        · cases h
      · split at h
        · rename_i x u h1 h2
          cases h
          exact s1_while O.xe (S.t O h1) (ih2 h2)
        · cases h
      · cases h; exact s1_brk
      · cases h; exact s1_cnt
      · cases h; exact s1_pass
      · cases h; exact s1_never
      · cases h
    · unfold trSs at h
      cases qs with
      | nil => cases h; exact ss_nil
      | cons q qs =>
        simp only at h
        split at h
        · rename_i x xs h1 h2
          cases h
          exact ss_cons (ih1 h1) (ih2 h2)
        · cases h
end
end Mp
set_option Elab.async false
set_option linter.all false
set_option maxHeartbeats 4000000
/-! MpBind: keyword arguments go where their names stand. -/
namespace Mp
open PySem PySem.Spec PyProof.Rows L2
theorem forIn_kw {α β : Type} {f : α → List α × List β → Sem (ForInStep (List α × List β))} : ∀ (l done : List α), (∀ i q, l[i]? = some q → f q (done ++ l.take i, []) = pure (.yield (done ++ l.take i ++ [q], []))) → (forIn l (done, []) f : Sem (List α × List β)) = pure (done ++ l, [])
  | [], done, _ => by rw [List.forIn_nil, List.append_nil]
  | a :: l, done, h => by
    rw [List.forIn_cons]
    have h0 := h 0 a rfl
    rw [List.take_zero, List.append_nil] at h0
    rw [h0, pure_bind]
    refine (forIn_kw l (done ++ [a]) fun i q e => ?_).trans (by rw [List.append_assoc]; rfl)
    have := h (i + 1) q e
    rw [List.take_succ_cons] at this
    rw [List.append_assoc, List.singleton_append]
    exact this
theorem bind_kw {fd : FuncData} {as : List Arg} {us : List Value} {kw : List (Str × Value)} {ps : List Str}
  (hp : fd.params = ⟨[], as, none, [], [], none, []⟩) (hps : as.map (·.arg) = ps) (hd : fd.defaults = .none)
  (hk : ∀ q ∈ kw, q.1 ∈ ps) (hsl : ∀ i q, kw[i]? = some q → (ps.zip us ++ kw.take i).lookup q.1 = none) (hle : us.length ≤ ps.length)
  (hall : ∀ p ∈ ps, ((ps.zip us ++ kw).lookup p).isSome = true) :
   bindArgs fd ⟨us, kw⟩ = pure (ps.filterMap fun n => ((ps.zip us ++ kw).lookup n).map (n, ·)) := by
  unfold bindArgs
  rw [hp, hd]
  simp only [List.map_nil, List.nil_append, List.append_nil, List.contains_nil, Bool.or_false, hps]
  rw [forIn_kw kw (ps.zip us) ?_]
  · have h2 : (decide (us.length > ps.length) && (none : Option Arg).isNone) = false := by
      have : ¬ us.length > ps.length := by omega
      simp [this]
    have h3 : (ps.filter fun n => ((ps.zip us ++ kw).lookup n).isNone) = [] := by
      rw [List.filter_eq_nil_iff]
      intro p hp
      have := hall p hp
      cases e : (ps.zip us ++ kw).lookup p with
      | none => rw [e] at this; cases this
      | some _ => simp
    have h4 : ¬ ps.length < us.length := by omega
    have h5 : seqItems? (.none : Value) = pure none := rfl
    rw [pure_bind, h5, pure_bind]
    simp [h4, h3]
  · intro i q e
    have h1 : ps.contains q.1 = true := by
      have := hk q (List.mem_of_getElem? e)
      simpa using this
    simp only [h1, if_true, hsl i q e, Option.isSome_none, Bool.false_eq_true, if_false]
/-! ### the places -/
theorem lookup_zip {ps : List Str} {us : List Value} (nd : ps.Nodup) {i : Nat} {p : Str} {u : Value} (h1 : ps[i]? = some p) (h2 : us[i]? = some u) : (ps.zip us).lookup p = some u := by
  induction ps generalizing us i with
  | nil => simp at h1
  | cons a ps ih =>
    cases us with
    | nil => simp at h2
    | cons b us =>
      rw [List.nodup_cons] at nd
      cases i with
      | zero =>
        simp at h1 h2
        subst h1; subst h2
        simp [List.zip_cons_cons, List.lookup_cons]
      | succ i =>
        rw [List.getElem?_cons_succ] at h1 h2
        have hne : p ≠ a := fun e => nd.1 (e ▸ List.mem_of_getElem? h1)
        rw [List.zip_cons_cons, List.lookup_cons]
        have : (p == a) = false := by simpa using hne
        rw [this]
        exact ih nd.2 h1 h2
theorem lookup_none {l : List (Str × Value)} {p : Str} (h : p ∉ l.map (·.1)) : l.lookup p = none := by
  induction l with
  | nil => rfl
  | cons a l ih =>
    obtain ⟨x, y⟩ := a
    simp only [List.map_cons, List.mem_cons, not_or] at h
    rw [List.lookup_cons]
    have : (p == x) = false := by simpa using h.1
    rw [this]
    exact ih h.2
theorem lookup_app {l m : List (Str × Value)} {p : Str} (h : l.lookup p = none) : (l ++ m).lookup p = m.lookup p := by
  induction l with
  | nil => rfl
  | cons a l ih =>
    obtain ⟨x, y⟩ := a
    rw [List.lookup_cons] at h
    rw [List.cons_append, List.lookup_cons]
    cases e : p == x with
    | true => rw [e] at h; cases h
    | false => rw [e] at h; exact ih h
theorem lookup_app_some {l m : List (Str × Value)} {p : Str} {u : Value} (h : l.lookup p = some u) : (l ++ m).lookup p = some u := by
  induction l with
  | nil => cases h
  | cons a l ih =>
    obtain ⟨x, y⟩ := a
    rw [List.lookup_cons] at h
    rw [List.cons_append, List.lookup_cons]
    cases e : p == x with
    | true => rw [e] at h; exact h
    | false => rw [e] at h; exact ih h
theorem filterMap_zip {f : Str → Option Value} : ∀ {ps : List Str} {zs : List Value}, ps.length = zs.length → (∀ (i : Nat) (p : Str), ps[i]? = some p → f p = zs[i]?) → (ps.filterMap fun n => (f n).map (n, ·)) = ps.zip zs
  | [], [], _, _ => rfl
  | p :: ps, z :: zs, hl, h => by
    have h0 := h 0 p rfl
    rw [List.getElem?_cons_zero] at h0
    rw [List.filterMap_cons, h0, List.zip_cons_cons]
    exact congrArg _ (filterMap_zip (by simpa using hl) fun i q e => h (i + 1) q e)
theorem mapM_get {α β : Type} {f : α → Option β} : ∀ {l : List α} {r : List β}, l.mapM f = some r → r.length = l.length ∧ ∀ (i : Nat) (a : α), l[i]? = some a → ∃ b, f a = some b ∧ r[i]? = some b
  | [], r, h => by cases h; exact ⟨rfl, fun i a e => by simp at e⟩
  | x :: l, r, h => by
    rw [List.mapM_cons] at h
    cases e : f x with
    | none => rw [e] at h; cases h
    | some b =>
      rw [e] at h
      cases e2 : l.mapM f with
      | none => rw [e2] at h; cases h
      | some bs =>
        rw [e2] at h
        cases h
        obtain ⟨g1, g2⟩ := mapM_get e2
        refine ⟨congrArg Nat.succ g1, fun i a ha => ?_⟩
        cases i with
        | zero => cases ha; exact ⟨b, e, rfl⟩
        | succ i => exact g2 i a ha
/-- the keywords' places: distinct, behind the positional values -/
theorem kw_binds {fd : FuncData} {as : List Arg} {us ws zs : List Value} {ps ks : List Str} {ns : List Nat}
  (hp : fd.params = ⟨[], as, none, [], [], none, []⟩) (hps : as.map (·.arg) = ps) (hd : fd.defaults = .none) (nd : ps.Nodup)
  (hns : (ks.mapM fun k => ps.findIdx? (· == k)) = some ns) (hz : zs.length = ps.length) (hkw : ks.length = ws.length) (hnd : ns.Nodup) (hge : ∀ i ∈ ns, us.length ≤ i)
  (hzs : ((List.range ws.length).mapM (fun j => (ns.findIdx? (· == us.length + j)).bind fun i => ws[i]?)).map (us ++ ·) = some zs) :
  bindArgs fd ⟨us, ks.zip ws⟩ = pure (ps.zip zs) := by
  obtain ⟨rs, h1, h2⟩ := Option.map_eq_some_iff.mp hzs
  obtain ⟨r1, r2⟩ := mapM_get h1
  obtain ⟨n1, n2⟩ := mapM_get hns
  rw [List.length_range] at r1
  have hul : us.length + ws.length = ps.length := by rw [← hz, ← h2, List.length_append, r1]
  -- where a keyword stands
  have place : ∀ (i : Nat) (k : Str), ks[i]? = some k → ∃ j, ns[i]? = some j ∧ ps[j]? = some k ∧ us.length ≤ j := fun i k e => by
    obtain ⟨j, e1, e2⟩ := n2 i k e
    obtain ⟨g1, g2, _⟩ := List.findIdx?_eq_some_iff_getElem.mp e1
    refine ⟨j, e2, ?_, hge j (List.mem_of_getElem? e2)⟩
    rw [List.getElem?_eq_getElem g1]
    simpa using g2
  have inj : ∀ {i j : Nat} {p : Str}, ps[i]? = some p → ps[j]? = some p → i = j := fun {i j p} e1 e2 => by
    obtain ⟨l1, g1⟩ := List.getElem?_eq_some_iff.mp e1
    obtain ⟨l2, g2⟩ := List.getElem?_eq_some_iff.mp e2
    exact (List.getElem_inj (h₀ := l1) (h₁ := l2) nd).mp (g1.trans g2.symm)
  have injn : ∀ {i j : Nat} {p : Nat}, ns[i]? = some p → ns[j]? = some p → i = j := fun {i j p} e1 e2 => by
    obtain ⟨l1, g1⟩ := List.getElem?_eq_some_iff.mp e1
    obtain ⟨l2, g2⟩ := List.getElem?_eq_some_iff.mp e2
    exact (List.getElem_inj (h₀ := l1) (h₁ := l2) hnd).mp (g1.trans g2.symm)
  have notin : ∀ (j : Nat) (p : Str), ps[j]? = some p → us.length ≤ j → (ps.zip us).lookup p = none := fun j p e hj => by
    refine lookup_none fun hm => ?_
    obtain ⟨q, hq, e2⟩ := List.mem_map.mp hm
    obtain ⟨i, hi⟩ := List.getElem?_of_mem hq
    rw [List.getElem?_zip_eq_some] at hi
    have hii : i < us.length := (List.getElem?_eq_some_iff.mp hi.2).1
    have := inj e (e2 ▸ hi.1)
    omega
  -- what a keyword finds
  have hkey : ∀ (i : Nat) (k : Str) (w : Value), ks[i]? = some k → ws[i]? = some w → (ks.zip ws).lookup k = some w := fun i k w e1 e2 => by
    have hnk : ks.Nodup := by
      refine List.pairwise_iff_getElem.mpr fun a b ha hb hab hkk => ?_
      obtain ⟨ja, c1, c2, _⟩ := place a ks[a] (List.getElem?_eq_getElem ha)
      obtain ⟨jb, d1, d2, _⟩ := place b ks[b] (List.getElem?_eq_getElem hb)
      rw [hkk] at c2
      have := inj c2 d2
      subst this
      have := injn c1 d1
      omega
    exact lookup_zip hnk e1 e2
  have look : ∀ (i : Nat) (p : Str), ps[i]? = some p → (ps.zip us ++ ks.zip ws).lookup p = zs[i]? := fun i p e => by
    by_cases hi : i < us.length
    · rw [lookup_app_some (lookup_zip nd e (List.getElem?_eq_getElem hi)), ← h2, List.getElem?_append_left hi, List.getElem?_eq_getElem hi]
    · have hi : us.length ≤ i := by omega
      have hil : i < ps.length := (List.getElem?_eq_some_iff.mp e).1
      rw [lookup_app (notin i p e hi), ← h2, List.getElem?_append_right hi]
      obtain ⟨z, f1, f2⟩ := r2 (i - us.length) (i - us.length) (by rw [List.getElem?_range (by omega)])
      rw [f2]
      cases f3 : ns.findIdx? (· == us.length + (i - us.length)) with
      | none => rw [f3] at f1; cases f1
      | some q =>
        rw [f3] at f1
        have f1 : ws[q]? = some z := f1
        obtain ⟨g1, g2, _⟩ := List.findIdx?_eq_some_iff_getElem.mp f3
        have hq : q < ks.length := by omega
        obtain ⟨j, c1, c2, _⟩ := place q ks[q] (List.getElem?_eq_getElem hq)
        have hj : j = i := by
          rw [List.getElem?_eq_getElem g1] at c1
          have g2 : ns[q] = us.length + (i - us.length) := by simpa using g2
          have := Option.some.inj c1
          omega
        subst hj
        have : p = ks[q] := Option.some.inj (e.symm.trans c2)
        subst this
        exact hkey q ks[q] z (List.getElem?_eq_getElem hq) f1
  rw [bind_kw hp hps hd ?_ ?_ (by omega) ?_, filterMap_zip hz.symm look]
  · intro q hq
    obtain ⟨i, hi⟩ := List.getElem?_of_mem hq
    rw [List.getElem?_zip_eq_some] at hi
    obtain ⟨j, _, c2, _⟩ := place i q.1 hi.1
    exact List.mem_of_getElem? c2
  · intro i q hi
    rw [List.getElem?_zip_eq_some] at hi
    obtain ⟨j, c1, c2, c3⟩ := place i q.1 hi.1
    rw [lookup_app (notin j q.1 c2 c3)]
    refine lookup_none fun hm => ?_
    obtain ⟨q2, hq2, e2⟩ := List.mem_map.mp hm
    obtain ⟨i2, hi2⟩ := List.getElem?_of_mem hq2
    rw [List.getElem?_take] at hi2
    split at hi2
    · rename_i hlt
      rw [List.getElem?_zip_eq_some] at hi2
      obtain ⟨j2, d1, d2, _⟩ := place i2 q2.1 hi2.1
      rw [e2] at d2
      have := inj c2 d2
      subst this
      have := injn c1 d1
      omega
    · cases hi2
  · intro p hp
    obtain ⟨i, hi⟩ := List.getElem?_of_mem hp
    rw [look i p hi, List.getElem?_eq_getElem (by rw [hz]; exact (List.getElem?_eq_some_iff.mp hi).1)]
    rfl
end Mp
set_option Elab.async false
set_option linter.all false
set_option maxRecDepth 100000
set_option maxHeartbeats 4000000
/-! MpDef: the defs of the program. -/
namespace Mp
open PySem PySem.Spec PyProof.Rows L2
theorem fnOf_code (a b : Str) (c : Arguments) (d : List Stmt) (e : Scope) (f g h i : Value) (j : Option Addr) (k l : Value) : (PySem.W.fnOf a b c d e f g h i j k l).code = k := rfl
theorem fnOf_params (a b : Str) (c : Arguments) (d : List Stmt) (e : Scope) (f g h i : Value) (j : Option Addr) (k l : Value) : (PySem.W.fnOf a b c d e f g h i j k l).params = c := rfl
theorem fnOf_defaults (a b : Str) (c : Arguments) (d : List Stmt) (e : Scope) (f g h i : Value) (j : Option Addr) (k l : Value) : (PySem.W.fnOf a b c d e f g h i j k l).defaults = f := rfl
/-- a def as it stands behind the top -/
structure DfOk (K : PySem.W.Frag) (mg : Str → Option Value) (base : Heap) (g : Gc) (f : Str) (ps : List Str) (fa : Addr) (fd : FuncData) (nm qual : Str) (params : Arguments) (body : List Stmt) (scope : Scope) (N : List Str) (as : List Arg) (c P : Addr) (fn : Fn) (n d : Nat) : Prop where
  code : fd.code = .ref c
  at_ : mg f = some (.ref fa)
  fun_ : FunD K nm qual params body scope [] [] fa fd
  hd : PySem.W.CodeHd base c P
  tab : P ∈ g.T
  par : params = ⟨[], as, none, [], [], none, []⟩
  args : as.map (·.arg) = ps
  sc : FnScope N ps scope
  np : fn.np = ps.length
  nv : fn.nv = N.length
  bd : trSs g.t N n d scope body = some fn.body
  def_ : g.P f = some fn
  lev : 6 * d + 1 ≤ g.m
abbrev DfsOk (K : PySem.W.Frag) (mg : Str → Option Value) (base : Heap) (g : Gc) : Prop := ∀ (f : Str) (ps : List Str), g.t.fn f = some ps → ∃ fa fd nm qual params body scope N as c P fn n d, DfOk K mg base g f ps fa fd nm qual params body scope N as c P fn n d
section
variable {prog : Program} {w : World} {K : PySem.W.Frag} {mg : Str → Option Value} {base : Heap} {g : Gc}
theorem DfsOk.prg (h : DfsOk K mg base g) : PrgOk g := fun f ps e => by
  obtain ⟨_, _, _, _, _, _, _, _, _, _, _, fn, _, _, D⟩ := h f ps e
  exact ⟨fn, D.def_, D.np⟩
theorem spM_len {k : Nat} {f : Str} {np : Nat} {vs : List V} {H : Hp} {Q : VK} {E : XK} (h : spM K g k f np vs H Q E) : vs.length = np := by
  obtain ⟨L, st, pvs, pv, st', _, _, r, l, _⟩ := h
  rw [r.length, l]
theorem start_env {N ps : List Str} {vs : List V} {pvs : List PV} {H : Hp} {L : List Addr} (r : Reps K H L pvs vs) (hn : pvs.length ≤ N.length) : EnvOk K H L (L2.start N vs) (pvs.map some ++ List.replicate (N.length - pvs.length) none) := by
  unfold L2.start
  have hl := r.length
  refine ⟨by simp [hl], fun i x e => ?_⟩
  by_cases hi : i < pvs.length
  · rw [List.getElem?_append_left (by simpa using hi), List.getElem?_map] at e
    obtain ⟨y, e1, e2⟩ := Option.map_eq_some_iff.mp e
    cases e2
    obtain ⟨v, e3, e4⟩ := r.get e1
    refine ⟨v, ?_, e4⟩
    rw [List.getElem?_append_left (by simpa [hl] using hi), List.getElem?_map, e3]
    rfl
  · rw [List.getElem?_append_right (by simpa using hi), List.getElem?_replicate] at e
    split at e <;> cases e
theorem fn_zero {f : Str} {ps : List Str} {fa : Addr} {fd : FuncData} : FnOk prog w K mg base CX0 (g.m * 0) fa fd ps (spM K g 0 f ps.length) where
  len := fun vs H Q E h => spM_len h
  run := fun A outer s H args us vs Q E _ _ _ _ h => by
    obtain ⟨L, st, pvs, pv, st', _, _, _, _, h, _⟩ := h
    unfold Gc.C callF at h
    cases h
theorem fn_succ (hso : SortedOk) (hsk : SortKOk g) (hpr : PrgOk g) {k : Nat} (F : FnsOk prog w K mg base g k) {f : Str} {ps : List Str} {fa : Addr} {fd : FuncData} {nm qual : Str} {params : Arguments} {body : List Stmt} {scope : Scope} {N : List Str} {as : List Arg} {c P : Addr} {fn : Fn} {n d : Nat}
    (D : DfOk K mg base g f ps fa fd nm qual params body scope N as c P fn n d) : FnOk prog w K mg base CX0 (g.m * (k + 1)) fa fd ps (spM K g (k + 1) f ps.length) := by
  obtain ⟨oc, od, dV, kV, doc, pm, an, cdv, ct, osl, rfl, lk, hcd, _, _⟩ := D.fun_.ex
  have hc : cdv = .ref c := D.code
  subst hc
  have hlev := D.lev
  obtain ⟨m, hm⟩ : ∃ m, g.m = m + 1 := ⟨g.m - 1, by omega⟩
  have e1 : g.m * (k + 1) = (g.m * k + m) + 1 := by rw [Nat.mul_succ, hm]; rfl
  rw [e1]
  refine fn_of lk hcd D.sc (fun vs H Q E h => spM_len h) fun A outer s H vs Q E hr hsp => ?_
  obtain ⟨L, st, pvs, pv, st', wd, wt, r, hl, he, fi⟩ := hsp
  have O : XOk g N scope d k c (cxOf CX0 prog w K mg base N qual scope fa (.ref c) A outer s H E).nox := {
    hN := rfl
    nd := D.sc.nd
    calm := rfl
    room := hr.mono (by omega)
    loc := fun x h => h
    cell := fun x h => ⟨h, rfl⟩
    free := fun x h => .inr h
    glo := fun x h => h
    code := rfl
    kind := D.sc.kind
    fns := F
    xe := rfl }
  have S := (snd_ss (P := P) hso hsk hpr O rfl n).2 D.bd
  refine ⟨_, S.nox, ?_⟩
  have hnp : ps.length ≤ N.length := by
    have h1 := congrArg List.length D.sc.pre
    rw [List.length_take] at h1
    omega
  unfold Gc.C callF at he
  rw [D.def_] at he
  simp only at he
  rw [if_pos (hl.trans D.np.symm)] at he
  obtain ⟨o, s1, h1, h2⟩ := bind_inv he
  refine ⟨L, _, st, o, s1, start_env (ps := ps) r (by omega), ⟨wd, wt, wt P D.tab, .inl D.hd⟩, by rw [hl, ← D.nv, ← D.np]; exact h1, ?_⟩
  cases o with
  | nx env =>
    cases h2
    exact fun L' H' σ' x w' _ => fi L' H' _ x w' (by unfold Rep; rfl)
  | rt v =>
    cases h2
    exact fun L' H' v x w' r' => fi L' H' v x w' r'
  | bk env => cases h2
  | ct env => cases h2
theorem fns_ok (hso : SortedOk) (hsk : SortKOk g) (hdf : DfsOk K mg base g)
    (hcon : ∀ (x : Str) (pv : PV), g.t.con x = some pv → ∃ (v : V) (u : Value), mg x = some u ∧ RelV v u ∧ ∀ (H : Hp) (L : List Addr), Rep K H L pv v)
    (hfree : ∀ x ∈ bNames, g.t.free x = true → mg x = none)
    (hblt : ∃ (bm : Addr) (o : Obj), mg "__builtins__" = some (.ref bm) ∧ bm ≠ builtinsNs ∧ base.get? bm = some o ∧ o.cls = .type "module" ∧ o.dict = some builtinsNs ∧ o.data = .plain) :
    ∀ k, FnsOk prog w K mg base g k := by
  have mk : ∀ k, (∀ {f : Str} {ps : List Str} {fa : Addr} {fd : FuncData} {nm qual : Str} {params : Arguments} {body : List Stmt} {scope : Scope} {N : List Str} {as : List Arg} {c P : Addr} {fn : Fn} {n d : Nat},
      DfOk K mg base g f ps fa fd nm qual params body scope N as c P fn n d → FnOk prog w K mg base CX0 (g.m * k) fa fd ps (spM K g k f ps.length)) → FnsOk prog w K mg base g k := fun k hk => {
    fn := fun f ps hf => by
      obtain ⟨fa, fd, nm, qual, params, body, scope, N, as, c, P, fn, n, d, D⟩ := hdf f ps hf
      have ndp : ps.Nodup := by
        rw [← D.sc.pre]
        exact D.sc.nd.sublist (List.take_sublist ..)
      refine ⟨fa, fd, D.at_, D.fun_.kp, ?_, ?_, hk D⟩
      · have F := D.fun_
        rw [D.par] at F
        have e := D.args
        refine F.bindsN fun kV doc pm an cdv ct us hl => ?_
        have := kw_binds (fd := PySem.W.fnOf nm qual ⟨[], as, none, [], [], none, []⟩ body scope .none kV doc pm an cdv ct) (us := us) (ws := []) (zs := us) (ks := []) (ns := []) rfl e rfl ndp rfl hl rfl List.nodup_nil (fun i h => by cases h) (by simp)
        exact this
      · intro us ws zs ks ns s hK hns hz hkw hnd hge hzs
        obtain ⟨oc, od, dV, kV, doc, pm, an, cdv, ct, osl, rfl, lk, hcd, hD, _⟩ := D.fun_.ex
        rcases hD with ⟨_, rfl⟩ | ⟨e, _⟩
        · exact .of_eq (kw_binds D.par D.args rfl ndp hns hz hkw hnd hge hzs)
        · exact (e rfl).elim
    cons := hcon
    free := hfree
    blt := hblt }
  intro k
  induction k with
  | zero => exact mk 0 fun _ => fn_zero
  | succ k ih => exact mk (k + 1) fun D => fn_succ hso hsk hdf.prg ih D
end
end Mp
set_option Elab.async false
set_option linter.all false
set_option maxRecDepth 100000
set_option maxHeartbeats 4000000
/-! MpEnd: from the evaluator to the law. -/
namespace Mp
open PySem PySem.Spec PyProof.Rows L2
/-- a def: its place on the top, its parameters, its names, its body -/
structure DfD where
  name : Str
  i : Nat
  ps : List Str
  N : List Str
  fn : Fn
def DfD.st (p : Program) (x : DfD) : Stmt := p.main.body.getD x.i (.Pass ⟨0, 0, 0, 0⟩)
def DfD.dd (p : Program) (x : DfD) : He.DefD := ⟨(x.name, none), x.name, x.name, defArgs (x.st p), defBody (x.st p), defScope (x.st p), [], []⟩
def topsOf (dfs : List DfD) (cons : List (Str × PV)) : Tops := ⟨dfs.map fun x => (x.name, x.ps), cons⟩
def scB (N ps : List Str) (sc : Scope) : Bool := decide (sc.kind = .function) && (!sc.isCoroutine && (!sc.isGenerator && (decide N.Nodup && (decide (N.take ps.length = ps) &&
  ((ps.all fun x => decide (sc.names.lookup x = some .local ∨ sc.names.lookup x = some .cell)) && sc.names.all fun y => decide (y.2 ≠ .free))))))
theorem scB_ok {N ps : List Str} {sc : Scope} (h : scB N ps sc = true) : FnScope N ps sc := by
  unfold scB at h
  simp only [Bool.and_eq_true, Bool.not_eq_true', decide_eq_true_eq, List.all_eq_true] at h
  obtain ⟨h1, h2, h3, h4, h5, h6, h7⟩ := h
  exact ⟨h1, h2, h3, h4, h5, h6, h7⟩
def argsB (a : Arguments) (ps : List Str) : Bool := match a with
  | ⟨[], as, none, [], [], none, []⟩ => decide (as.map (·.arg) = ps)
  | _ => false
theorem argsB_ok {a : Arguments} {ps : List Str} (h : argsB a ps = true) : ∃ as : List Arg, a = ⟨[], as, none, [], [], none, []⟩ ∧ as.map (·.arg) = ps := by
  unfold argsB at h
  split at h
  · rename_i as
    exact ⟨as, rfl, of_decide_eq_true h⟩
  · cases h
def DfD.ok (p : Program) (x : DfD) : Bool := argsB (defArgs (x.st p)) x.ps && (scB x.N x.ps (defScope (x.st p)) && (decide (x.fn.np = x.ps.length) && decide (x.fn.nv = x.N.length)))
def fas (dfs : List DfD) (t : Tops) : List He.Fa := (dfs.map fun x => .glo x.name) ++ (bNames.filter fun x => t.free x).map .free
/-- what the kernel is asked of the defs -/
structure Chk (p : Program) (dfs : List DfD) (cons : List (Str × PV)) (n d m : Nat) : Prop where
  ok : (dfs.all fun x => x.ok p) = true
  tr : (dfs.map fun x => trSs (topsOf dfs cons) x.N n d (defScope (x.st p)) (defBody (x.st p))) = dfs.map fun x => some x.fn.body
  lev : 6 * d + 1 ≤ m
def Pof (dfs : List DfD) (f : Str) : Option Fn := (dfs.map fun x => (x.name, x.fn)).lookup f
theorem lookup_both {dfs : List DfD} {f : Str} {ps : List Str} (h : (dfs.map fun x => (x.name, x.ps)).lookup f = some ps) : ∃ x ∈ dfs, x.name = f ∧ x.ps = ps ∧ Pof dfs f = some x.fn := by
  unfold Pof
  induction dfs with
  | nil => cases h
  | cons y r ih =>
    rw [List.map_cons, List.lookup_cons] at h
    rw [List.map_cons, List.lookup_cons]
    cases e : f == y.name with
    | true =>
      rw [e] at h
      cases h
      exact ⟨y, List.mem_cons_self, (by simpa using e : f = y.name).symm, rfl, rfl⟩
    | false =>
      rw [e] at h
      obtain ⟨x, h1, h2⟩ := ih h
      exact ⟨x, List.mem_cons_of_mem _ h1, h2⟩
def gOf (dfs : List DfD) (cons : List (Str × PV)) (wn m : Nat) (K : PySem.W.Frag) : Gc := ⟨topsOf dfs cons, Pof dfs, wn, dfs.map fun x => (He.cT K (x.name, none)).2, m⟩
section
variable {p : Program} {dfs : List DfD} {cons : List (Str × PV)} {n d m wn nn : Nat} {w : World} {h base : Heap} {K : PySem.W.Frag} {mg : Str → Option Value}
abbrev hookM (nn : Nat) (p : Program) (dfs : List DfD) (cons : List (Str × PV)) : PySem.W.Hook := He.hookX nn (fas dfs (topsOf dfs cons)) (dfs.map (DfD.dd p)) [] (dfs.map fun x => (x.name, none)) fun _ => true
abbrev SaysM (p : Program) (dfs : List DfD) (cons : List (Str × PV)) (w : World) (h : Heap) (K : PySem.W.Frag) : Prop := He.SaysX (fas dfs (topsOf dfs cons)) (dfs.map (DfD.dd p)) [] (dfs.map fun x => (x.name, none)) (fun _ => true) w h K
theorem df_ok (C : Chk p dfs cons n d m) (c : SaysM p dfs cons w h K) (KX : K.In h) (G : h.Ns mainGlobals mg) {x : DfD} (hx : x ∈ dfs) {f : Str} {ps : List Str} (h1 : x.name = f) (h2 : x.ps = ps) (h3 : Pof dfs f = some x.fn) :
    ∃ fa fd nm qual params body scope N as cc P fn n d, fa = He.ga K f ∧ ∀ base : Heap, K.In base → DfOk K mg base (gOf dfs cons wn m K) f ps fa fd nm qual params body scope N as cc P fn n d := by
  obtain ⟨fd, F⟩ := c.t.d.defs (List.mem_map.mpr ⟨x, hx, rfl⟩ : x.dd p ∈ dfs.map (DfD.dd p))
  have g1 := He.glo_ok KX G (c.t.d.facts (f := .glo x.name) (List.mem_append_left _ (List.mem_map.mpr ⟨x, hx, rfl⟩)))
  have hk := List.all_eq_true.mp C.ok x hx
  unfold DfD.ok at hk
  simp only [Bool.and_eq_true, decide_eq_true_eq] at hk
  obtain ⟨k1, k2, k3, k4⟩ := hk
  obtain ⟨as, e1, e2⟩ := argsB_ok k1
  have hm : ((x.name, none) : He.Defn) ∈ dfs.map fun x => ((x.name, none) : He.Defn) := List.mem_map.mpr ⟨x, hx, rfl⟩
  have F' : FunD K x.name x.name (defArgs (x.st p)) (defBody (x.st p)) (defScope (x.st p)) [] [] (He.ga K x.name) fd := F
  obtain ⟨oc, od, dV, kV, doc, pm, an, cdv, ct, osl, efd, lk, hcd, hD, hKw⟩ := F'.ex
  obtain ⟨cc, rfl⟩ := He.codeIn_ref hcd
  have hcode : fd.code = .ref cc := by rw [efd] <;> rfl
  have ecc : He.codeOf K (x.name, none) = cc := He.codeOf_eq lk hcode
  have hhd : ∀ base : Heap, K.In base → PySem.W.CodeHd base (He.cT K (x.name, none)).1 (He.cT K (x.name, none)).2 := fun base KB => PySem.W.codeHd_of_K KB (c.hd _ hm)
  have ecc' : (He.cT K (x.name, none)).1 = cc := ecc
  rw [ecc'] at hhd
  have htr : trSs (topsOf dfs cons) x.N n d (defScope (x.st p)) (defBody (x.st p)) = some x.fn.body := by
    obtain ⟨i, hi⟩ := List.getElem?_of_mem hx
    have e := congrArg (fun l => l[i]?) C.tr
    simp only [List.getElem?_map, hi, Option.map_some] at e
    exact Option.some.inj e
  subst h1
  refine ⟨He.ga K x.name, fd, x.name, x.name, defArgs (x.st p), defBody (x.st p), defScope (x.st p), x.N, as, cc, (He.cT K (x.name, none)).2, x.fn, n, d, rfl, ?_⟩
  exact fun base KB => { code := hcode, at_ := g1, fun_ := F', hd := hhd base KB, tab := List.mem_map.mpr ⟨x, hx, rfl⟩, par := e1, args := e2.trans h2, sc := h2 ▸ scB_ok k2, np := by rw [k3, h2], nv := k4, bd := htr, def_ := h3, lev := C.lev }
theorem law_at {l : PySem.W.OpenLaw} {k nl : Nat} {fa : Addr} {script : Str} (hso : SortedOk) (hsk : ∀ g, SortKOk g) (C : Chk p dfs cons n d m) (Y : (hookM nn p dfs cons).says w h) (G : h.Ns mainGlobals mg) (hfa : mg ("law" : Str) = some (.ref fa))
    (hcon : ∀ (K : PySem.W.Frag), K.In h → SaysM p dfs cons w h K → ∀ (x : Str) (pv : PV), (topsOf dfs cons).con x = some pv → ∃ (v : V) (u : Value), mg x = some u ∧ RelV v u ∧ ∀ (H : Hp) (L : List Addr), Rep K H L pv v)
    (hlaw : (topsOf dfs cons).fn "law" = some [script])
    (run : ∀ ns : List Int, ns.length ≤ nl → (∀ z ∈ ns, Builtin.Int.intBits z ≤ 1048576) → ∃ st', callF (Pof dfs) (topsOf dfs cons).con wn (k + 1) "law" [.loc 0] [.fl (ns.map .int)] = some (.bl true, st')) :
    ∃ K : PySem.W.Frag, K.In h ∧ LamX.LawAtS l w K CX0 (m * (k + 1)) nl script mg fa h := by
  obtain ⟨K, KX, c⟩ := Y
  obtain ⟨x, hx, h1, h2, h3⟩ := lookup_both hlaw
  obtain ⟨fa', fd, nm, qual, params, body, scope, N, as, cc, P, fn, n', d', efa, DD⟩ := df_ok (wn := wn) C c KX G hx h1 h2 h3
  have D := DD h KX
  have e1 : fa' = fa := by
    have := D.at_
    rw [hfa] at this
    cases this
    rfl
  subst e1
  refine ⟨K, KX, fd, dfs.map fun x => He.cT K (x.name, none), spM K (gOf dfs cons wn m K) (k + 1) "law" 1, ?_, ?_, ?_, ?_, ?_, ?_⟩
  · intro q hq
    obtain ⟨y, hy, e⟩ := List.mem_map.mp hq
    rw [← e]
    exact c.empty _ (List.mem_map.mpr ⟨y, hy, rfl⟩)
  · intro q hq
    obtain ⟨y, hy, e⟩ := List.mem_map.mp hq
    rw [← e]
    exact c.out _ (List.mem_map.mpr ⟨y, hy, rfl⟩)
  · intro q hq
    obtain ⟨y, hy, e⟩ := List.mem_map.mp hq
    rw [← e]
    exact PySem.W.codeHd_of_K KX (c.hd _ (List.mem_map.mpr ⟨y, hy, rfl⟩))
  · intro s u
    have F := D.fun_
    rw [D.par] at F
    have ndp : [script].Nodup := by simp
    refine FunD.bindsA (ps := [script]) F (fun kV doc pm an cdv ct us hl => ?_) s [u] rfl
    have := kw_binds (fd := PySem.W.fnOf nm qual ⟨[], as, none, [], [], none, []⟩ body scope .none kV doc pm an cdv ct) (us := us) (ws := []) (zs := us) (ks := []) (ns := []) rfl D.args rfl ndp rfl hl rfl List.nodup_nil (fun i h => by cases h) (by simp)
    exact this
  · intro H a ns hl hbits hT hS
    obtain ⟨st', hr⟩ := run ns hl hbits
    refine ⟨[a], [.fl (ns.map .int)], [.loc 0], .bl true, st', ?_, ?_, ?_, rfl, hr, ?_⟩
    · have nowr : ¬ wr [a] [MO.fl (ns.map PV.int)] a := fun ⟨i, xs, q1, q2⟩ => by
        cases i with
        | zero => cases q2
        | succ i => simp at q2
      refine ⟨rfl, ?_, ?_, ?_⟩
      · intro i j b xs ys q1 q2 q3 q4
        cases i with
        | zero => cases q3
        | succ i => simp at q3
      · intro i b xs q1 q2
        cases i with
        | zero => cases q2
        | succ i => simp at q2
      · intro i b xs q1 q2
        cases i with
        | succ i => simp at q2
        | zero =>
          cases q1
          cases q2
          refine ⟨ns.map V.int, ?_, ?_⟩
          · rcases hS with r | r
            · exact .inr ⟨r, nowr⟩
            · exact .inl r
          · clear hbits hl hS hr run nowr
            induction ns with
            | nil => exact .nil
            | cons z zs ih => exact .cons (by unfold Rep; rfl) ih
    · intro b hb
      obtain ⟨y, hy, e⟩ := List.mem_map.mp hb
      rw [← e]
      exact .empty (hT _ (List.mem_map.mpr ⟨y, hy, rfl⟩))
    · exact .cons (by unfold Rep; exact ⟨a, rfl, rfl⟩) .nil
    · intro L' H' v _ _ r
      unfold Rep at r
      exact r
  · intro base KB GB TB
    have hd : DfsOk K mg base (gOf dfs cons wn m K) := fun f ps e => by
      obtain ⟨x, hx, h1, h2, h3⟩ := lookup_both e
      obtain ⟨a1, a2, a3, a4, a5, a6, a7, a8, a9, b1, b2, b3, b4, b5, _, D⟩ := df_ok (wn := wn) C c KX G hx h1 h2 h3
      exact ⟨a1, a2, a3, a4, a5, a6, a7, a8, a9, b1, b2, b3, b4, b5, D base KB⟩
    have hblt : ∃ (bm : Addr) (o : Obj), mg "__builtins__" = some (.ref bm) ∧ bm ≠ builtinsNs ∧ base.get? bm = some o ∧ o.cls = .type "module" ∧ o.dict = some builtinsNs ∧ o.data = .plain := by
      obtain ⟨bm, o, q1, q2, _, _, q5, q6, q7, q8⟩ := (TB _ (List.mem_map.mpr ⟨x, hx, rfl⟩)).bm
      exact ⟨bm, o, q1, q2, q5, q6, q7, q8⟩
    have hfree : ∀ x ∈ bNames, (gOf dfs cons wn m K).t.free x = true → mg x = none := fun x hx hf =>
      He.free_ok KX G (c.t.d.facts (f := .free x) (List.mem_append_right _ (List.mem_map.mpr ⟨x, List.mem_filter.mpr ⟨hx, hf⟩, rfl⟩)))
    have FF := fns_ok (prog := l.prog) (w := w) hso (hsk _) hd (hcon K KX c) hfree hblt k
    exact fn_succ hso (hsk _) hd.prg FF (DD base KB)
end
end Mp
set_option Elab.async false
set_option linter.all false
set_option maxRecDepth 100000
set_option maxHeartbeats 4000000
/-! MpSort: sorted of ints, of tuples, of texts; the first tuple may be empty. -/
namespace Mp
open PySem PySem.Spec PySem.W PySem.Calls PySem.SeqAt PyProof.Rows
/-! ### keys that are tuples, the first of them empty -/
section
variable {prog : Program} {w : World} {A : Around} {E : Value → Shared → Prop} {s : Shared}
theorem oneLt_tups {xs ys : List PyData} {a b : Value} {as bs : List Addr} {Q : Bool → Shared → Prop} (ra : Reads s.heap a (.tuple xs) as) (rb : Reads s.heap b (.tuple ys) bs) (h : alike (.tuple xs) (.tuple ys) = true)
    (hu : A.units + min (PyData.tuple xs).depth (PyData.tuple ys).depth < cLine) (hq : Q (dataLt (.tuple xs) (.tuple ys)) s) : wpAny (model prog w) A (oneLt' true a b) Q E s := by
  have hal : alikeAll xs ys = true := by simpa [alike] using h
  cases ra with
  | @tuple l o vs n _ as₁ h1 h2 h3 h4 =>
    cases rb with
    | @tuple l' o' vs' n' _ bs₁ k1 k2 k3 k4 =>
      obtain ⟨oc, od, dt, sl⟩ := o
      obtain ⟨oc', od', dt', sl'⟩ := o'
      simp only at h2 h3 k2 k3
      subst h2 h3 k2 k3
      have n1 : vs.size = xs.length := by simpa using ReadsAll.length _ _ _ h4
      have n2 : vs'.size = ys.length := by simpa using ReadsAll.length _ _ _ k4
      rw [dataLt_tuple, ← firstLt_toks xs ys hal, ← n1, ← n2] at hq
      rw [oneLt'_eq]
      simp only [if_true]
      refine wpAny_bind (wpAny_cRoomFor (room_here hu) ?_)
      refine wpAny_bind (wpAny_callSpecialIfBound?_slot ⟨_, h1, rfl⟩ F.slot_tuple_lt (call_meets F.slot_tuple_lt ⟨_, h1, rfl⟩ F.entry_tuple_lt (F.args_tuple_lt_2 _ _) (tuple_ltAt l l' vs vs' n n' _ _ _ _ _ _)
        ⟨h1, k1, fun j j1 j2 => ?_, fun j j1 j2 hj => ?_, wpAny_truthy_bool hq⟩))
      · have := eqAt_alikeAll xs ys A.in1 s vs.toList vs'.toList _ _ h4 k4 hal (PySem.SeqAt.room_in hu) j (by simpa using j1) (by simpa using j2)
        simpa using this
      · have := rcLt_alikeAll xs ys A.in1 s vs.toList vs'.toList _ _ h4 k4 hal (PySem.SeqAt.room_in hu) j (by simpa using j1) (by simpa using j2) hj
        simpa using this

theorem collect_tup {l : Addr} {vs : List Value} {Q : List Value → Shared → Prop} (hl : s.heap.IsTuple l vs.toArray)
    (h : Q vs { s with heap := (s.heap.push (seqObj "list" #[] 0)).update s.heap.objs.size (Obj.mapSeq (· ++ vs.toArray)) }) (hsz : vs.length ≤ sizeLine) :
    wpAny (model prog w) A (collect (.ref l)) Q E s := by
  obtain ⟨o, ho, hc, n, hd⟩ := id hl
  unfold collect
  refine wpAny_bind (wpAny_runValue (codeAny_builtin entry_proto_collect' ?_))
  show wpAny _ _ (do again (.builtin "list.__iadd__" ⟨[← newList [], .ref l], []⟩)) _ _ s
  refine wpAny_bind (wpAny_newList (wpAny_pure ⟨Code.quiet_builtin _ (by decide +kernel), codeAny_builtin entry_list_iadd' ?_⟩))
  show wpAny _ _ (Builtin.List.listExtendWith (.ref s.heap.objs.size) (.ref l) (.ref s.heap.objs.size)) _ _ { s with heap := s.heap.push (seqObj "list" #[] 0) }
  unfold Builtin.List.listExtendWith
  have ho' : (s.heap.push (seqObj "list" #[] 0)).get? l = some o := Heap.get?_push_of_some _ ho
  refine wpAny_bind (wpAny_typeOf (T := "tuple") ⟨o, ho', hc⟩ ?_)
  have ht : (Value.type "tuple" == Value.type "tuple") = true := by rfl
  rw [if_pos (by rw [ht]; simp)]
  refine wpAny_bind (listItems_at ho' hd ?_)
  refine wpAny_bind (listItems_at (xs := #[]) (n := 0) (Heap.get?_push_size _ rfl) rfl ?_)
  rw [if_neg (by simp)]
  refine wpAny_bind (listUpdate_at (xs := #[]) (n := 0) (Heap.get?_push_size _ rfl) rfl ?_ (Nat.zero_le _) (by show (#[] ++ vs.toArray).size ≤ sizeLine + 1; simp only [Array.size_append, List.size_toArray, List.length_nil]; omega))
  refine wpAny_pure ?_
  show wpAny (model prog w) A (do
      let o ← load s.heap.objs.size
      match o.data with
      | .seq xs _ => pure xs.toList
      | _ => unsupported "internal:collect") Q E { s with heap := (s.heap.push (seqObj "list" #[] 0)).update s.heap.objs.size (Obj.mapSeq (· ++ vs.toArray)) }
  refine wpAny_bind (wpAny_load (get?_update_seq (Heap.get?_push_size _ rfl) _) ?_)
  show wpAny _ _ (pure ((#[] : Array Value) ++ vs.toArray).toList) Q E _
  rw [show ((#[] : Array Value) ++ vs.toArray).toList = vs by simp]
  exact wpAny_pure h
/-- a list or a tuple -/
def LT (h : Heap) (l : Addr) (xs : Array Value) : Prop := h.IsList l xs ∨ h.IsTuple l xs
theorem collect_lt {l : Addr} {vs : List Value} {Q : List Value → Shared → Prop} (hl : LT s.heap l vs.toArray)
    (h : Q vs { s with heap := (s.heap.push (seqObj "list" #[] 0)).update s.heap.objs.size (Obj.mapSeq (· ++ vs.toArray)) }) (hsz : vs.length ≤ sizeLine) :
    wpAny (model prog w) A (collect (.ref l)) Q E s := hl.elim (fun z => collect_list z h hsz) fun z => collect_tup z h hsz
theorem sorted_of_sortT {l : Addr} {vs : List Value} {kw : List (Str × Value)} {Q : Value → Shared → Prop} (hl : LT s.heap l vs.toArray) (hL : vs.length ≤ sizeLine) (ha1 : argsOk "sorted" ⟨[.ref l], kw⟩) (ha2 : ∀ x, argsOk "list.sort" ⟨[.ref x], kw⟩)
    (body : ∀ E' : Value → Shared → Prop, wpAny (model prog w) A.in1.in1 (Builtin.«list.sort» ⟨[.ref (s.heap.objs.size + 1)], kw⟩) (fun f s' => f = .done (.ret .none) ∧ Q (.ref (s.heap.objs.size + 1)) s') E' { s with heap := copyHeap s.heap vs }) :
    wpAny (model prog w) A (call (.builtin "sorted") [.ref l] kw) Q E s := by
  refine call_function_entry_kw kind_sorted plain_sorted entry_sorted ha1 ?_
  unfold Builtin.«sorted»
  refine wpAny_bind (m := checkCount "sorted" 1 1 _) (wpAny_pure ?_)
  refine wpAny_bind (collect_lt hl ?_ hL)
  refine wpAny_bind (wpAny_newList ?_ hL)
  have hsz : ((s.heap.push (seqObj "list" #[] 0)).update s.heap.objs.size (Obj.mapSeq (· ++ vs.toArray))).objs.size = s.heap.objs.size + 1 := by
    rw [Heap.size_update, size_push']
  show wpAny _ _ _ _ _ { s with heap := copyHeap s.heap vs }
  rw [hsz]
  refine wpAny_bind (wpAny_holding (wpAny_call_entry_kw slot_list_sort ⟨_, copyHeap_at s.heap vs, rfl⟩ entry_list_sort ?body (ha2 _)))
  case body =>
    show wpAny (model prog w) A.in1.in1 (Builtin.«list.sort» ⟨[.ref (s.heap.objs.size + 1)], kw⟩) _ _ _
    refine wpAny_mono (body _) (fun f s' hf => ?_) fun _ _ e => e
    obtain ⟨rfl, hq⟩ := hf
    exact ⟨_, rfl, wpAny_pure ⟨_, rfl, hq⟩⟩
/-! ### the kind of such keys -/
theorem kat_firstsT : ∀ (vs : List Value) (ds : List PyData) {Q : List (Option Value) → Shared → Prop}, EachIs (fun v d => ∃ as, Reads s.heap v d as) vs ds → (∀ d ∈ ds, anTup d = true) →
    (∀ fs : List (Option Value), fs.length = vs.length → (mtFirst ds = true → fs[0]? = some none) → Q fs s) → wpAny (model prog w) A (vs.mapM firstOfTuple') Q E s
  | [], [], _, _, _, h => by
    rw [List.mapM_nil]
    exact wpAny_pure (h [] rfl fun z => by cases z)
  | v :: vs, d :: ds, Q, .cons ⟨as, r⟩ t, ha, h => by
    rw [List.mapM_cons]
    refine wpAny_bind ?_
    rw [kas_first_eq]
    have hd := ha d List.mem_cons_self
    cases d with
    | tuple xs =>
      cases r with
      | @tuple l o us n _ as₁ h1 h2 h3 h4 =>
        refine wpAny_bind (Looks.here (show Looks _ s.heap (typeOf (.ref l)) o.cls from (Looks.ld h1).andThen .now) ?_)
        rw [h2, if_neg (by first | decide | simp)]
        refine wpAny_bind (listItems_at h1 h3 (wpAny_pure ?_))
        refine wpAny_bind (kat_firstsT vs ds t (fun d hd => ha d (List.mem_cons_of_mem _ hd)) fun fs hl _ => wpAny_pure (h _ (by rw [List.length_cons, List.length_cons, hl]) fun hm => ?_))
        cases xs with
        | nil =>
          have n1 : us.toList.length = 0 := ReadsAll.length _ _ _ h4
          have : us[0]? = none := by
            rw [← Array.getElem?_toList]
            exact List.getElem?_eq_none (by omega)
          rw [this]
          rfl
        | cons x r => cases hm
    | _ => cases hd
theorem kind_tupsT {vs : List Value} {ds : List PyData} {Q : SortKind → Shared → Prop} (e : EachIs (fun v d => ∃ as, Reads s.heap v d as) vs ds) (ha : ∀ d ∈ ds, anTup d = true) (hm : mtFirst ds = true) (h : Q oneType' s) : wpAny (model prog w) A (keyKind' vs.toArray) Q E s := by
  have h1 : 1 ≤ vs.length := by
    rw [e.length]
    cases ds with
    | nil => cases hm
    | cons d r => simp
  rw [keyKind'_eq, List.mapM_toArray, map_eq_pure_bind]
  refine wpAny_bind (wpAny_bind (kat_firstsT vs ds e ha fun fs hl hf => wpAny_pure ?_))
  have hf := hf hm
  obtain ⟨fr, rfl⟩ : ∃ fr, fs = none :: fr := by
    cases fs with
    | nil => cases hf
    | cons a r =>
      rw [List.getElem?_cons_zero] at hf
      exact ⟨r, by rw [Option.some.inj hf]⟩
  rw [if_neg (by simp), if_neg (by simp)]
  rw [oneTypeOnly'_eq, List.mapM_toArray, map_eq_pure_bind]
  refine wpAny_bind (wpAny_bind (wpAny_bind (kas_mapM (r := Value.type "tuple") _ (fun v hv Q' hq => ?_) (wpAny_pure ?_))))
  · obtain ⟨d, hd, as, r⟩ := e.left v hv
    have ht := ha d hd
    cases d with
    | tuple xs => exact (looks_reads r).here hq
    | _ => cases ht
  · obtain ⟨v₁, rest, rfl⟩ : ∃ v₁ rest, vs = v₁ :: rest := by
      cases vs with
      | nil => simp at h1
      | cons a r => exact ⟨a, r, rfl⟩
    have hall : ((List.map (fun _ => Value.type "tuple") (v₁ :: rest)).toArray.all fun x => x == Value.type "tuple") = true := by
      simp only [List.all_toArray, List.all_map, List.all_eq_true]
      intro _ _
      rfl
    have h0 : (List.map (fun _ => Value.type "tuple") (v₁ :: rest)).toArray[0]? = some (Value.type "tuple") := by simp
    rw [h0]
    simp only [hall, if_true]
    exact wpAny_pure (wpAny_pure h)
theorem sortsT {vs : List Value} {ds : List PyData} (e : EachIs (fun v d => ∃ as, Reads s.heap v d as) vs ds) (hal : AllAlike ds) (ha : ∀ d ∈ ds, anTup d = true) (hm : mtFirst ds = true) (hu : ∀ d, d ∈ ds → A.units + d.depth < cLine) : SortsAt prog w A s (dataKind s.heap ds) vs := by
  refine ⟨fun v hv => ?_, oneType', ?_, fun h2 E Q hq => kind_tupsT e ha hm hq⟩
  · obtain ⟨d, hd, as, r⟩ := e.left v hv
    exact ⟨_, dataKind_some hal hd r⟩
  · intro E x y a b Q ka kb hq
    obtain ⟨d, as, hd, ra, rfl⟩ := dataKind_inv ka
    obtain ⟨d', as', hd', rb, rfl⟩ := dataKind_inv kb
    rw [keyLt'_oneType]
    have t1 := ha d hd
    have t2 := ha d' hd'
    cases d with
    | tuple xs =>
      cases d' with
      | tuple ys => exact oneLt_tups ra rb (hal _ hd _ hd') (Nat.lt_of_le_of_lt (Nat.add_le_add_left (Nat.min_le_left _ _) _) (hu _ hd)) hq
      | _ => cases t2
    | _ => cases t1
/-- what srtOk says -/
theorem sorts_ok {vs : List Value} {ds : List PyData} (e : EachIs (fun v d => ∃ as, Reads s.heap v d as) vs ds) (ok : srtOk ds = true) (hu : A.units + 60 < cLine) : SortsAt prog w A s (dataKind s.heap ds) vs := by
  unfold srtOk at ok
  rw [Bool.and_eq_true, Bool.and_eq_true, Bool.or_eq_true, Bool.or_eq_true, Bool.and_eq_true] at ok
  obtain ⟨h1, h2, h3⟩ := ok
  have hal : AllAlike ds := fun d hd d' hd' => List.all_eq_true.mp (List.all_eq_true.mp h1 d hd) d' hd'
  have hu' : ∀ d, d ∈ ds → A.units + d.depth < cLine := fun d hd => by
    have := of_decide_eq_true (List.all_eq_true.mp h2 d hd)
    omega
  rcases h3 with h3 | h3 | ⟨h3, h4⟩
  · refine SortsAt.data e hal (.inl fun d hd => ?_) hu'
    have := List.all_eq_true.mp h3 d hd
    unfold neTup at this
    split at this
    · exact ⟨_, _, rfl⟩
    · cases this
  · refine SortsAt.data e hal (.inr fun d hd => ?_) hu'
    have := List.all_eq_true.mp h3 d hd
    constructor
    · rintro rfl
      cases this
    · rintro xs rfl
      cases this
  · exact sortsT e hal (fun d hd => List.all_eq_true.mp h4 d hd) h3 hu'
end
/-! ### as a rule -/
open L2
theorem each_vals {K : PySem.W.Frag} {H : Hp} {L : List Addr} : ∀ {us : List Value} {bs : List (PV × PyData)}, EachIs (fun u b => ∃ v, RelV v u ∧ Rep K H L b.1 v) us bs → ∃ vs, Vals vs us ∧ Reps K H L (bs.map (·.1)) vs
  | _, _, .nil => ⟨[], .nil, .nil⟩
  | _, _, .cons ⟨v, r1, r2⟩ t => by
    obtain ⟨vs, h1, h2⟩ := each_vals t
    exact ⟨v :: vs, .cons r1 h1, .cons r2 h2⟩
theorem vals_each {K : PySem.W.Frag} {H : Hp} {L : List Addr} : ∀ {xs : List PV} {ds : List PyData} {vs : List V} {us : List Value}, Reps K H L xs vs → Vals vs us → xs.length = ds.length → EachIs (fun u b => ∃ v, RelV v u ∧ Rep K H L b.1 v) us (xs.zip ds)
  | [], ds, vs, us, r, v, _ => by
    rw [r.nil_iff] at v
    cases v
    rw [List.zip_nil_left]
    exact .nil
  | x :: xs, [], vs, us, r, v, h => by cases h
  | x :: xs, d :: ds, vs, us, r, v, h => by
    obtain ⟨w, ws, rfl, r1, r2⟩ := r.uncons
    cases v with
    | cons v1 v2 => exact .cons ⟨w, v1, r1⟩ (vals_each r2 v2 (by simpa using h))
theorem datAll_len : ∀ {xs : List PV} {ds : List PyData}, datAll xs = some ds → xs.length = ds.length
  | [], ds, h => by unfold datAll at h; cases h; rfl
  | x :: xs, ds, h => by
    unfold datAll at h
    split at h
    · rename_i d ds' e1 e2
      cases h
      rw [List.length_cons, List.length_cons, datAll_len e2]
    · cases h
theorem each_zip {h : Heap} : ∀ {us : List Value} {xs : List PV} {ds : List PyData}, xs.length = ds.length → EachIs (fun v d => ∃ as, Reads h v d as) us ds → EachIs (fun v (b : PV × PyData) => ∃ as, Reads h v b.2 as) us (xs.zip ds)
  | _, [], [], _, .nil => .nil
  | _, x :: xs, d :: ds, hl, .cons h1 t => .cons h1 (each_zip (by simpa using hl) t)
theorem reads_each {h : Heap} : ∀ {us : List Value} {ds : List PyData} {as : List Addr}, ReadsAll h us ds as → EachIs (fun v d => ∃ as, Reads h v d as) us ds
  | _, _, _, .nil => .nil
  | _, _, _, .cons r t => .cons ⟨_, r⟩ (reads_each t)
theorem map_zip_snd {xs : List PV} {ds : List PyData} (h : xs.length = ds.length) : (xs.zip ds).map (·.2) = ds := List.map_snd_zip (by omega)
section
variable {X : Cx}
theorem sortedM (hc : X.A.units + 64 < cLine) : CallR X (.builtin "sorted") (rBi X.K .sorted) := by
  intro pins s σ H vs us Q I r ⟨L, st, pvs, pv, st', w, rs, e, f⟩
  match pvs, e with
  | [x], e =>
    have e : (match items st x with
      | some xs => match datAll xs with
        | some ds => if srtOk ds then newL (srt ds xs) st else none
        | none => none
      | none => none) = some (pv, st') := e
    split at e
    · rename_i xs hxs
      split at e
      · rename_i ds hds
        split at e
        · rename_i hok
          obtain ⟨hz, rfl, rfl⟩ := newL_eq e
          obtain ⟨v, rfl, rv⟩ := reps1 rs
          obtain ⟨p, ws, rfl, sq, rw'⟩ := items_rep w rv hxs
          obtain ⟨u, rfl, ru⟩ := vals1 r
          obtain rfl : u = Value.ref p := ru
          have hl := datAll_len hds
          obtain ⟨its, rvs, hlt, hsz⟩ : ∃ its : List Value, Vals ws its ∧ LT s.heap p its.toArray ∧ its.length ≤ sizeLine := by
            rcases sq with q | q
            · obtain ⟨its, rv, hl, hz⟩ := I.list q
              exact ⟨its, rv, .inl hl.isList, by rw [← rv.length]; exact hz⟩
            · obtain ⟨its, rv, ⟨o, ho, hc, n, hd⟩, hz⟩ := I.tuple q
              exact ⟨its, rv, .inr ⟨o, ho, hc, n, hd⟩, by rw [← rv.length]; exact hz⟩
          obtain ⟨as, hr⟩ := Dp.readsAll I ds ws its (datAll_dp rw' hds) rvs
          have er := reads_each hr
          have er' : EachIs (fun v d => ∃ as, Reads (sortingHeap (copyHeap s.heap its) (s.heap.objs.size + 1) its) v d as) its ds := er.mono fun _ _ ⟨as, r⟩ => ⟨as, PyProof.Rows.Reads.keeps (fun _ _ => sorting_copy_old) r⟩
          have S := sorts_ok (prog := X.prog) (w := X.w) (A := X.A.in1.in1) (s := { s with heap := sortingHeap (copyHeap s.heap its) (s.heap.objs.size + 1) its }) er' hok (by show X.A.units + 1 + 1 + 60 < cLine; omega)
          have hal : AllAlike ((xs.zip ds).map (·.2)) := by
            rw [map_zip_snd hl]
            unfold srtOk at hok
            rw [Bool.and_eq_true] at hok
            exact fun d hd d' hd' => List.all_eq_true.mp (List.all_eq_true.mp hok.1 d hd) d' hd'
          refine sorted_of_sortT hlt hsz (args_sorted1 _) (fun _ => args_list_sort _) fun _ => list_sort_vals (s := { s with heap := copyHeap s.heap its }) (copyHeap_at s.heap its) S hsz ⟨rfl, ?_⟩
          have eo := sortVals_data (h' := sortingHeap (copyHeap s.heap its) (s.heap.objs.size + 1) its) (enc := fun b : PV × PyData => b.2) false (vals_each rw' rvs hl) (each_zip hl er') hal
          rw [map_zip_snd hl] at eo
          obtain ⟨vo, h1, h2⟩ := each_vals eo
          have h3 : Reps X.K H L (srt ds xs) vo := h2
          generalize sortVals (dataKind (sortingHeap (copyHeap s.heap its) (s.heap.objs.size + 1) its) ds) false its its = out at h1 ⊢
          obtain ⟨n, hn⟩ := sortedAll_at s.heap its out.toArray
          refine ⟨.ref (s.heap.objs.size + 1), upd H (s.heap.objs.size + 1) (.lst vo), I.laid (t' := s.toks) (fun b o e => sortedAll_old e) (Nat.le_succ _) ⟨?_, out, n, h1, hn⟩, rfl, f.lst w (I.hok.fresh (Nat.le_succ _)) h3⟩
          rw [h3.length]
          exact hz
        · cases e
      · cases e
    · cases e
theorem sorted_ok : SortedOk := fun X _ hu => sortedM hu
end
end Mp
set_option Elab.async false
set_option linter.all false
set_option maxRecDepth 100000
set_option maxHeartbeats 2000000
/-! MpLam: a lambda of one parameter: its code object, its making, its call. -/
namespace Mp
open PySem PySem.Spec PyProof.Rows L2 GenW
theorem newEnv_lam {M : Model} {A : Around} {E : Value → Shared → Prop} {s : Shared} {scope : Scope} {globals : Addr} {closure : List (Str × Addr)} {it : Value} {x : Str} {fo : Option Addr} {qual : Str} {code : Value} {builtins : Addr} {Q : PySem.Env → Shared → Prop}
    (hk : scope.kind = .function) (h0 : scope.names.lookup x = some NameKind.local)
    (h : ∀ h' tk, h'.Ns s.heap.objs.size (fun y => if y = x then some it else none) → Heap.SameBut s.heap.objs.size (pushCells (s.heap.push { cls := .type "frame", data := .dict #[] }) scope.names) h' →
      Q (newEnv scope s.heap.objs.size globals (cellsFrom (s.heap.objs.size + 1) scope.names closure) qual fo code none builtins) { s with heap := h', toks := tk }) :
    wpAny M A (newFunctionEnv scope globals closure [(x, it)] qual fo code none builtins) Q E s := by
  simp only [newFunctionEnv, Option.isSome_none, Bool.false_eq_true, if_false]
  refine wpAny_bind (wpAny_alloc ?_)
  refine wpAny_bind (wpAny_layCells _ (fun n k c => rfl) scope.names closure _ _ ?_)
  rw [show ({ s with heap := s.heap.push { cls := .type "frame", data := .dict #[] } } : Shared).heap.objs.size = s.heap.objs.size + 1 from Heap.size_push ..]
  rw [List.forIn_cons]
  have hn : (pushCells (s.heap.push { cls := .type "frame", data := .dict #[] }) scope.names).Ns s.heap.objs.size (fun _ => none) := (Heap.Ns.new s.heap (.type "frame")).keeps (pushCells_keeps _ _)
  refine wpAny_bind (wpAny_bind (wpAny_bind ?_))
  refine wpAny_storeName_local (env := newEnv scope s.heap.objs.size globals (cellsFrom (s.heap.objs.size + 1) scope.names closure) qual fo code none builtins) h0 hn (fun h' hn' hs' => ?_)
    (by show (scope.kind == .class || (scope.kind == .module && _)) = false; rw [hk]; rfl)
  refine wpAny_pure ?_
  show wpAny M A (forIn ([] : List (Str × Value)) _ _) _ _ _
  rw [List.forIn_nil]
  exact wpAny_pure (wpAny_pure (h h' _ hn' hs'))


section
variable {X : Cx} {g : Gc} {N : List Str} {sc : Scope} {d k : Nat} {c P : Addr} {pins : List (Addr × Obj)} {σ : L2.St} {H : Hp} {s : Shared} {L : List Addr} {st : Sto}
/-- the code object of a lambda: found, or made and put into the table -/
theorem lam_code {pos : Pos} {fl : Nat} {nm q : Str} {pr : Arguments} {bd : FuncBody} {scope : Scope} {E : Value → Shared → Prop} {A : Around} (O : XOk g N sc d k c X) (I : Inv X pins σ H s) (wo : Wo X.K X.base g c P L H st) :
    wpAny (model X.prog X.w) A (functionCode X.env pos fl nm q pr scope bd) (fun code s2 => ∃ c2 P2 H2, code = .ref c2 ∧ Inv X pins σ H2 s2 ∧ Ext L H st L H2 st ∧ Wo X.K X.base g c2 P2 L H2 st ∧
      (∀ b o, b ≠ P → s.heap.get? b = some o → s2.heap.get? b = some o) ∧ ∀ b o, s.heap.get? b = some o → H b = none → H2 b = none) E s := by
  obtain ⟨ps, hP⟩ := wo.tab.tbl
  have hPs : s.heap.get? P = some { cls := .none, data := .fields ps } := I.hok P _ hP
  have cd : PySem.W.CodeHd s.heap c P := wo.hd I.bk I.hok
  cases htab : wo.tab with
  | @mk _ ps' cf h1 h2 h3 h4 =>
    rw [hP] at h1
    cases h1
    cases hf : codeAmong pos ps.toList with
    | some cv =>
      obtain ⟨e1, e2⟩ := h3 pos cv hf
      exact wpAny_functionCode_hit O.code (cd.code hPs h2) hf ⟨(cf pos).1, (cf pos).2, H, e1, I, Ext.refl, ⟨wo.wd, wo.tabs, h4 pos cv hf, .inr e2⟩, fun _ _ _ e => e, fun _ _ _ n => n⟩
    | none =>
      refine wpAny_functionCodeX O.code (cd.code hPs h2) (cd.tab hPs) hf fun c' h' tk hx hge hlt hco' hrec htab' ⟨P', hP'ge, hcn, htn⟩ => ?_
      have hPlt : P < s.heap.objs.size := Heap.lt_size hPs
      have J := GxR.inv_tab (more := #[rawInt pos.line, rawInt pos.col, .ref c']) (h' := h') (g' := s.gens) (d' := s.drawn) (t' := tk) I hP (fun b o hb e => hx b o hb e) htab'.2 I.bare
      have cdn := codeHd_of hcn htn
      have hcP' : c' ≠ P' := by
        obtain ⟨o, vs, file, tf, flags, tg, inF, text, tt, _, _, _, _, _, _, _, _, _, hne⟩ := id cdn
        exact hne
      have fresh : ∀ a, s.heap.objs.size ≤ a → upd H P (.tbl (ps ++ #[rawInt pos.line, rawInt pos.col, .ref c'])) a = none ∧ X.s_0.heap.objs.size ≤ a ∧ a ≠ X.env.locals ∧ (∀ x cc, X.env.cells.lookup x = some cc → cc ≠ a) ∧ ∀ p ∈ X.pn ++ pins, p.1 ≠ a := fun a ha => by
        obtain ⟨f0, f1, f2, f3, f4, f5⟩ := I.fpOk ha (I.hok.fresh ha)
        refine ⟨by rw [upd_ne (Nat.ne_of_gt (Nat.lt_of_lt_of_le hPlt ha))]; exact f0, Nat.le_trans I.sz ha, f1, f4, f5⟩
      obtain ⟨n1, n2, n3, n4, n5⟩ := fresh c' hge
      have J1 := track J n1 n2 n3 n4 n5 (o := CodeT c' P') (codeT_ok cdn)
      obtain ⟨m1, m2, m3, m4, m5⟩ := fresh P' hP'ge
      have J2 := track J1 (a := P') (o := .tbl #[]) (by rw [upd_ne (Ne.symm hcP')]; exact m1) m2 m3 m4 m5 (show ObjOk X.prog X.w _ h' P' (.tbl #[]) from htn.2)
      -- the abstract heaps
      have up1 : ∀ b o, H b = some o → b ≠ P → upd (upd (upd H P (.tbl (ps ++ #[rawInt pos.line, rawInt pos.col, .ref c']))) c' (CodeT c' P')) P' (.tbl #[]) b = some o := fun b o e hb => by
        have hbl : b < s.heap.objs.size := by
          rcases Nat.lt_or_ge b s.heap.objs.size with z | z
          · exact z
          · rw [I.hok.fresh z] at e; cases e
        rw [upd_ne (Nat.ne_of_lt (Nat.lt_of_lt_of_le hbl hP'ge)), upd_ne (Nat.ne_of_lt (Nat.lt_of_lt_of_le hbl hge)), upd_ne hb]
        exact e
      have upP : upd (upd (upd H P (.tbl (ps ++ #[rawInt pos.line, rawInt pos.col, .ref c']))) c' (CodeT c' P')) P' (.tbl #[]) P = some (.tbl (ps ++ #[rawInt pos.line, rawInt pos.col, .ref c'])) := by
        rw [upd_ne (Nat.ne_of_lt (Nat.lt_of_lt_of_le hPlt hP'ge)), upd_ne (Nat.ne_of_lt (Nat.lt_of_lt_of_le hPlt hge)), upd_same]
      have upc : upd (upd (upd H P (.tbl (ps ++ #[rawInt pos.line, rawInt pos.col, .ref c']))) c' (CodeT c' P')) P' (.tbl #[]) c' = some (CodeT c' P') := by
        rw [upd_ne hcP', upd_same]
      have tn : TabOk (upd (upd (upd H P (.tbl (ps ++ #[rawInt pos.line, rawInt pos.col, .ref c']))) c' (CodeT c' P')) P' (.tbl #[])) P' := .empty upd_same
      have grown : ∀ P0, TabOk H P0 → TabOk (upd (upd (upd H P (.tbl (ps ++ #[rawInt pos.line, rawInt pos.col, .ref c']))) c' (CodeT c' P')) P' (.tbl #[])) P0 := fun P0 t => TabOk.grown hP h2 up1 upP upc tn t
      have ex : Ext L H st L (upd (upd (upd H P (.tbl (ps ++ #[rawInt pos.line, rawInt pos.col, .ref c']))) c' (CodeT c' P')) P' (.tbl #[])) st := by
        refine ⟨List.prefix_rfl, fun a o e _ t => up1 a o e fun z => ?_, fun a ps' e => ?_, grown, fun a h => .inl h, fun _ _ h => h⟩
        · rw [z, hP] at e
          cases e
          exact t ps rfl
        · by_cases hb : a = P
          · subst hb
            rw [hP] at e
            cases e
            exact ⟨_, upP⟩
          · exact ⟨#[], by rw [up1 a _ e hb]; simp⟩
      have lstP : ∀ a vs, H a = some (.lst vs) → a ≠ P := fun a vs e z => by rw [z, hP] at e; cases e
      have wd : Wd X.K L (upd (upd (upd H P (.tbl (ps ++ #[rawInt pos.line, rawInt pos.col, .ref c']))) c' (CodeT c' P')) P' (.tbl #[])) st :=
        wo.wd.next ex wo.wd.len wo.wd.nd (fun n a xs g1 g2 => by
          obtain ⟨vs, e, r⟩ := wo.wd.lst n a xs g1 g2
          exact ⟨vs, up1 a _ e (lstP a vs e), r.ext wo.wd ex⟩) fun _ _ h => h
      refine ⟨c', P', _, rfl, J2, ex, ⟨wd, fun a ha => grown a (wo.tabs a ha), tn, .inr upc⟩, fun b o hb e => hx b o hb e, fun b o e n => ?_⟩
      have hbl := Heap.lt_size e
      have hbP : b ≠ P := fun z => by rw [z, hP] at n; cases n
      rw [upd_ne (Nat.ne_of_lt (Nat.lt_of_lt_of_le hbl hP'ge)), upd_ne (Nat.ne_of_lt (Nat.lt_of_lt_of_le hbl hge)), upd_ne hbP]
      exact n

end
/-- the call: whatever name the code object bears -/
theorem lam_callFun {prog : Program} {w : World} {A : Around} {s : Shared} {R : Result → Shared → Prop} {a c P : Addr} {args : Args} {o : Obj} {fd : FuncData} {body : Expr} (hroom : A.depth < recursionLimit)
    (ho : s.heap.get? a = some o) (hd' : o.data = .func fd) (hco : fd.scope.isCoroutine = false) (hgen : fd.scope.isGenerator = false) (hbody : fd.body = .expr body) (hc : fd.code = .ref c) (hcd : PySem.W.CodeHd s.heap c P)
    (h : ∀ q : Str, wpAny (model prog w) A.in1 (bindArgs fd args) (fun binds s₁ =>
      wpAny (model prog w) A.in1 (newFunctionEnv fd.scope fd.globals fd.closure binds (q ++ ".<locals>.") (some a) fd.code none fd.builtins)
        (fun env s₂ => s₂.heap.NoLimit ∧ codeAny (model prog w) A (.expr body env) R s₂) (fun e s' => R (.error e) s') s₁) (fun e s' => R (.error e) s') s) :
    codeAny (model prog w) A (.call (.ref a) args) R s := by
  refine codeAny_of_tree ?_
  show wpAny _ A.in1 (callAny (.ref a) args) _ _ s
  simp only [callAny]
  refine wpAny_bind (wpAny_load ho ?_)
  obtain ⟨oc, vs, file, tf, flags, tg, inF, text, tt, hoc, _, hdc, h11, _⟩ := hcd
  obtain ⟨v1, hv1⟩ : ∃ v1, vs[1]? = some v1 := by
    have h12 : 11 < vs.size := (Array.getElem?_eq_some_iff.mp h11).1
    exact ⟨vs[1], by rw [Array.getElem?_eq_getElem (by omega)]⟩
  simp only [hd', callFunction, hco, hgen, hbody, hc]
  rw [hc] at h
  refine wpAny_bind (m := field (.ref c) 1) (wpAny_field hoc hdc hv1 ?_)
  cases v1 <;> exact wpAny_bind (wpAny_pure (wpAny_bind (wpAny_mono (h _) (fun binds s₁ h₁ => wpAny_bind (wpAny_mono h₁ (fun env s₂ h₂ => wpAny_bind (wpAny_enterFrame h₂.1 hroom
    (wpAny_pure (And.intro rfl h₂.2)))) fun _ _ h' => h')) fun _ _ h' => h')))
end Mp
set_option Elab.async false
set_option linter.all false
set_option maxRecDepth 100000
set_option maxHeartbeats 2000000
/-! MpLam2: the making of a lambda. -/
namespace Mp
open PySem PySem.Spec PyProof.Rows L2 GenW
section
variable {X : Cx} {g : Gc} {N : List Str} {sc : Scope} {d k : Nat} {c P : Addr} {pins : List (Addr × Obj)} {σ : L2.St} {H : Hp} {s : Shared} {L : List Addr} {st : Sto}
/-- what stands when a lambda has been made: its object at f, its code object at c2 -/
def Lam (X : Cx) (g : Gc) (pins : List (Addr × Obj)) (σ : L2.St) (L : List Addr) (H : Hp) (st : Sto) (params : Arguments) (body : Expr) (scope : Scope) (fv : Value) (s2 : Shared) : Prop :=
  ∃ f c2 P2 H2 ctv pm, fv = .ref f ∧ Inv X pins σ H2 s2 ∧ Ext L H st L H2 st ∧ Wo X.K X.base g c2 P2 L H2 st ∧
    s2.heap.get? f = some (PySem.W.kla_obj "<lambda>" (X.env.qual ++ "<lambda>") params body scope (cloFrom X.env.cells scope.names []) pm c2 ctv) ∧ H2 f = none ∧ FpOk X pins H2 f
theorem lam_tail {params : Arguments} {body : Expr} {scope : Scope} {pos : Pos} {fl : Nat} {ctv : Value} {clos : List (Str × Addr)} {E : Value → Shared → Prop} (O : XOk g N sc d k c X) (I : Inv X pins σ H s) (wo : Wo X.K X.base g c P L H st) (hcl : clos = cloFrom X.env.cells scope.names []) :
    wpAny (model X.prog X.w) X.A (do
      let code ← functionCode X.env pos fl "<lambda>" (X.env.qual ++ "<lambda>") params scope (.expr body)
      let builtins ← builtinsFor X.env.globals X.env.builtins
      let o ← nsGet X.env.globals "__name__"
      let doc ← pure Value.none
      newObj (.type "function") (.func { name := "<lambda>", qualname := X.env.qual ++ "<lambda>", params := params, body := .expr body, scope := scope, globals := X.env.globals, closure := clos, closureTuple := ctv, code := code, builtins := builtins, defaults := .none, kwdefaults := .none, annotations := none, pyModule := o.getD .none, doc := doc }))
      (Lam X g pins σ L H st params body scope) E s := by
  obtain ⟨bm, ob, b1, b2, b3, b4, b5, b6⟩ := O.fns.blt
  rw [I.ok.glob]
  refine wpAny_bind (wpAny_mono (lam_code O I wo) (fun code s3 hx => ?_) fun _ _ e => e)
  obtain ⟨c2, P2, H3, ecode, I3, x3, wo3, k3, n3⟩ := hx
  subst ecode
  refine wpAny_bind (wpAny_builtinsFor (m := X.mg) (I3.mod.glob.keeps I3.bk) b1 b2 (I3.bk _ _ b3) b4 b5 b6 ?_)
  refine wpAny_bind (wpAny_nsGet (I3.mod.glob.keeps I3.bk) ?_)
  refine wpAny_bind (wpAny_pure ?_)
  refine wpAny_newObj_type ?_ True.intro
  subst hcl
  have fr := I3.hok.fresh (Nat.le_refl s3.heap.objs.size)
  exact ⟨s3.heap.objs.size, c2, P2, H3, ctv, (X.mg "__name__").getD .none, rfl, I3.kept fun b o e => Heap.get?_push_of_some _ e, x3, wo3, Heap.get?_push_size _ rfl, fr, I3.fpOk (Nat.le_refl _) fr⟩
/-- the lambda is made -/
theorem lam_make {params : Arguments} {body : Expr} {scope : Scope} {pos : Pos} {E : Value → Shared → Prop} (O : XOk g N sc d k c X) (I : Inv X pins σ H s) (wo : Wo X.K X.base g c P L H st) (hdef : defaultsOf params X.env = ([], []))
    (hfree : ∀ y ∈ scope.names, y.2 = .free → ∃ c, X.env.cells.lookup y.1 = some c) : wpAny (model X.prog X.w) X.A (eval (.Lambda params body scope pos) X.env) (Lam X g pins σ L H st params body scope) E s := by
  refine PySem.W.kla_eval hdef ?_
  rw [makeFunction_eq]
  simp only [List.zip_nil_right, List.filterMap_nil, List.isEmpty_nil, if_true, pure_bind]
  unfold makeTail
  rw [closure_ok hfree]
  refine wpAny_bind (wpAny_pure ?_)
  by_cases hc : (cloFrom X.env.cells scope.names []).isEmpty = true
  · rw [if_pos hc]
    refine wpAny_bind (wpAny_pure ?_)
    exact lam_tail O I wo rfl
  · rw [if_neg hc]
    refine wpAny_bind (wpAny_newTextTuple ?_)
    exact lam_tail O (I.kept fun b o e => Heap.get?_push_of_some _ e) wo rfl
end
end Mp
set_option Elab.async false
set_option linter.all false
set_option maxRecDepth 100000
set_option maxHeartbeats 2000000
/-! MpLam4: the lambda's call. -/
namespace Mp
open PySem PySem.Spec PyProof.Rows L2 GenW
section
variable {X : Cx} {g : Gc} {N : List Str} {sc : Scope} {d k : Nat} {c P : Addr} {pins : List (Addr × Obj)} {σ : L2.St} {H : Hp} {s : Shared} {L : List Addr}
theorem lam_call {A : Around} {f c2 P2 : Addr} {pm ctv : Value} {p1 : Pos} {x : Str} {i : Nat} {scope : Scope} {body : Expr} {eb : E} {pv pv' : PV} {env : Mp.Env} {st st' : Sto} {u : Value} {v : V} {Q : VK} {E : Value → Shared → Prop}
    (O : XOk g N sc (d + 1) k c X) (hb : genC N sc scope [(x, i)] = true) (hx : scope.names.lookup x = some .local) (hgen : scope.isGenerator = false)
    (hr : Room (g.m * k + 6 * d + 1) A) (hA : A.frames = some X.stack)
    (hbody : ∀ Y, XOk g N scope d k c2 Y → PE Y body (tM (mdOf Y g k c2 P2) eb))
    (I : Inv X pins σ H s) (hf : s.heap.get? f = some (PySem.W.kla_obj "<lambda>" (X.env.qual ++ "<lambda>") ⟨[], [⟨x, none, p1⟩], none, [], [], none, []⟩ body scope (cloFrom X.env.cells scope.names []) pm c2 ctv))
    (he : EnvOk X.K H L σ env) (hi : i < env.length) (wo : Wo X.K X.base g c2 P2 L H st) (rv : RelV v u) (rp : Rep X.K H L pv v) (ev : evE (g.C k) g.G eb (env.set i (some pv)) st = some (pv', st')) (fi : Fin X.K L H st pv' st' Q) :
    wpAny (model X.prog X.w) A (call (.ref f) [u]) (EP X pins σ Q) E s := by
  obtain ⟨B0, hco⟩ := genC_ok hb
  have B := O.genBlk hb
  have hNd : X.N.Nodup := by rw [O.hN]; exact O.nd
  have hNi : X.N[i]? = some x := B.ix (x, i) (List.mem_singleton.mpr rfl)
  have rc : codeAny (model X.prog X.w) A (.call (.ref f) ⟨[u], []⟩) (fun r s' => ∃ w, r = .ok (.ret w) ∧ EP X pins σ Q w s') s := by
    refine lam_callFun hr.depth hf rfl hco hgen rfl rfl (wo.hd I.bk I.hok) fun q => ?_
    have hbind : bindArgs (PySem.W.kla_fn "<lambda>" (X.env.qual ++ "<lambda>") ⟨[], [⟨x, none, p1⟩], none, [], [], none, []⟩ body scope (cloFrom X.env.cells scope.names []) pm (.ref c2) ctv) ⟨[u], []⟩ = pure [(x, u)] :=
      kw_binds (us := [u]) (ws := []) (zs := [u]) (ks := []) (ns := []) (ps := [x]) rfl rfl rfl (by simp) rfl rfl rfl List.nodup_nil (fun i h => by cases h) (by simp)
    rw [hbind]
    refine wpAny_pure (newEnv_lam B.kind hx fun h' tk hns hsb => ?_)
    have kp : ∀ b o, s.heap.get? b = some o → h'.get? b = some o := fun b o e => (hsb.2 b (Nat.ne_of_lt (Heap.lt_size e))).trans (pushCells_keeps _ _ _ _ (Heap.get?_push_of_some _ e))
    refine ⟨I.nolimit.keeps kp, ?_⟩
    have J := gen_invG (σ' := (σ.set i (some v))) (fo := some f) (qual := q ++ ".<locals>.") (code := .ref c2) (fp := []) (tk := tk) (A := A.deeper (newEnv scope s.heap.objs.size X.env.globals (cellsFrom (s.heap.objs.size + 1) scope.names (cloFrom X.env.cells scope.names [])) (q ++ ".<locals>.") (some f) (.ref c2) none builtinsNs)) I B hNd (fun b hb => by cases hb) (List.length_set ..) (fun j y av e1 e2 => by
      by_cases hj : j = i
      · subst hj
        rw [hNi] at e1
        cases e1
        rw [List.getElem?_set_self (by rw [he.1]; exact hi)] at e2
        cases e2
        exact .inr ⟨hx, u, rv, if_pos rfl⟩
      · left
        rw [List.getElem?_set_ne (Ne.symm hj)] at e2
        show (σ.set i none)[j]? = _
        rw [List.getElem?_set_ne (Ne.symm hj)]
        exact e2) hns hsb hr.hd (Around.frames_deeper hA)
    have OY := O.gen (c2 := c2) (s := s) (H := H) (cells := cellsFrom (s.heap.objs.size + 1) scope.names (cloFrom X.env.cells scope.names [])) (qual := q ++ ".<locals>.") (fo := some f) (fp := []) (pn := []) (A := A.deeper (newEnv scope s.heap.objs.size X.env.globals (cellsFrom (s.heap.objs.size + 1) scope.names (cloFrom X.env.cells scope.names [])) (q ++ ".<locals>.") (some f) (.ref c2) none builtinsNs)) hb (hr.deeper _)
    have eg : X.env.globals = mainGlobals := I.ok.glob
    rw [eg] at J OY
    refine PySem.W.kla_codeExpr (wpAny_mono ((hbody _ OY).run [] _ _ H Q J ⟨L, _, st, pv', st', he.set i rp, wo, ev, fi⟩) (fun w s' hq => ?_) fun e s' hq => hq.elim)
    obtain ⟨w', H', I', r', q'⟩ := hq
    exact ⟨w, rfl, w', H', I.call' (ch := []) I'.os I'.base I'.hok I'.bare fun b hb => by simp at hb, r', q'⟩
  refine wpAny_call (codeAny_mono rc fun r s' hq => ?_)
  obtain ⟨w, rfl, h⟩ := hq
  exact h
end
end Mp
set_option Elab.async false
set_option linter.all false
set_option maxRecDepth 100000
set_option maxHeartbeats 2000000
/-! MpKey: sorted(.., key = lambda): objects of our own that change. -/
namespace Mp
open PySem PySem.Spec PyProof.Rows L2
section
variable {X : Cx} {pins : List (Addr × Obj)} {σ : L2.St} {H : Hp} {s : Shared}
/-- objects of ours, not tracked, may change -/
theorem inv_own {ch : List Addr} {h' : Heap} {t' : Nat} (I : Inv X pins σ H s) (k : ∀ b o, b ∉ ch → s.heap.get? b = some o → h'.get? b = some o) (f : ∀ b ∈ ch, FpOk X pins H b) : Inv X pins σ H { s with heap := h', toks := t' } := by
  have nc : ∀ b u, H b = some u → b ∉ ch := fun b u e z => by rw [(f b z).1] at e; cases e
  refine I.step (g' := s.gens) (d' := s.drawn) (ch := ch) (fun b hb => ⟨(f b hb).2.2.2.1, (f b hb).2.1, (f b hb).2.2.2.2.1, (f b hb).2.2.2.2.2⟩) (fun b ob _ _ hc e _ => k b ob hc e) (fun b ob _ _ hc e _ => ⟨ob.slots, k b ob hc e⟩)
    (fun b ob hc _ n => n) (fun b ob hc e => ⟨ob, k b ob hc e⟩) (fun b _ e => e) (fun b _ _ e => e) (fun b ps e => ⟨#[], by rw [e]; simp⟩) (fun m hm => ?_) (fun b u e => ?_) I.bare
  · obtain ⟨ob, es, ep, ho, r⟩ := hm
    exact ⟨ob, es, ep, k _ ob (fun z => (f _ z).2.1 rfl) ho, r⟩
  · refine (I.hok b u e).stay (fun c v hc q => k c v ?_ q) (fun c q => q) fun c _ q => q
    rcases hc with z | z
    · rw [z]; exact nc b u e
    · exact nc c _ z
end
end Mp
set_option Elab.async false
set_option linter.all false
set_option maxRecDepth 100000
set_option maxHeartbeats 2000000
/-! MpSortK: sorted(.., key = lambda x: ..). -/
namespace Mp
open PySem PySem.Spec PySem.W PyProof.Rows L2 GenW PySem.Calls
/-- the heap without the object at a -/
def freeAt (h : Heap) (a : Addr) : Heap := ⟨h.objs.modify a fun o => { o with data := .freed }, h.life⟩
theorem freeAt_ne {h : Heap} {a b : Addr} (hb : b ≠ a) : (freeAt h a).get? b = h.get? b := by
  unfold freeAt Heap.get?
  show (match (h.objs.modify a _)[b]? with | some ⟨_, _, .freed, _⟩ => none | o => o) = _
  rw [Array.getElem?_modify, if_neg (Ne.symm hb)]
  rfl
theorem freeAt_self {h : Heap} {a : Addr} : (freeAt h a).get? a = none := by
  unfold freeAt Heap.get?
  show (match (h.objs.modify a _)[a]? with | some ⟨_, _, .freed, _⟩ => none | o => o) = _
  rw [Array.getElem?_modify, if_pos rfl]
  cases h.objs[a]? with
  | none => rfl
  | some o => rfl
section
variable {X : Cx} {pins ps : List (Addr × Obj)} {σ : L2.St} {H H' : Hp} {s : Shared}
theorem fpTo {b : Addr} (f : FpOk X pins H b) (h : H' b = none) : FpOk X pins H' b := ⟨h, f.2⟩
theorem repin (I : Inv X pins σ H s) (h : ∀ p ∈ ps, s.heap.get? p.1 = some p.2 ∧ FpOk X pins H p.1 ∧ ∀ v, p.2.data ≠ .cell v) : Inv X (pins ++ ps) σ H s :=
  I.pins_of fun p hp => (List.mem_append.mp hp).elim (fun z => I.pin p (List.mem_append_right _ z)) fun z => ⟨(h p z).1, (h p z).2.1.1, (h p z).2.1.2.1, (h p z).2.1.2.2.1, (h p z).2.2⟩
theorem unpin (I : Inv X (pins ++ ps) σ H s) : Inv X pins σ H s :=
  I.pins_of fun p hp => I.pin p (List.mem_append_right _ (List.mem_append_left _ hp))
theorem pin_at (I : Inv X (pins ++ ps) σ H s) {b : Addr} {o : Obj} (h : (b, o) ∈ ps) : s.heap.get? b = some o ∧ H b = none :=
  have q := I.pin (b, o) (List.mem_append_right _ (List.mem_append_right _ h))
  ⟨q.1, q.2.1⟩
end
theorem evKeys_len {key : PV → Sto → Res PV} : ∀ {xs : List PV} {st : Sto} {ks : List PV} {st' : Sto}, evKeys key xs st = some (ks, st') → ks.length = xs.length
  | [], st, ks, st', h => by
    unfold evKeys at h
    cases h
    rfl
  | x :: xs, st, ks, st', h => by
    unfold evKeys at h
    obtain ⟨k, s1, e1, h1⟩ := bind_inv h
    obtain ⟨r, s2, e2, h2⟩ := bind_inv h1
    cases h2
    rw [List.length_cons, List.length_cons, evKeys_len e2]
abbrev klam (X : Cx) (x : Str) (p1 : Pos) (body : Expr) (scope : Scope) (pm : Value) (c2 : Addr) (ctv : Value) : Obj :=
  PySem.W.kla_obj "<lambda>" (X.env.qual ++ "<lambda>") ⟨[], [⟨x, none, p1⟩], none, [], [], none, []⟩ body scope (cloFrom X.env.cells scope.names []) pm c2 ctv
section
variable {X : Cx} {g : Gc} {N : List Str} {sc : Scope} {d k : Nat} {c P : Addr} {pins : List (Addr × Obj)} {σ : L2.St} {H : Hp} {s : Shared} {L : List Addr}
theorem sortk_run {f p c2 P2 : Addr} {pm ctv : Value} {p1 : Pos} {x : Str} {i : Nat} {scope : Scope} {body : Expr} {eb : E} {x0 pv : PV} {env : Mp.Env} {st st1 st' : Sto} {xs ks : List PV} {ds : List PyData} {Q : VK} {E : Value → Shared → Prop}
    (O : XOk g N sc (d + 1) k c X) (hb : genC N sc scope [(x, i)] = true) (hx : scope.names.lookup x = some .local) (hgen : scope.isGenerator = false)
    (hbody : ∀ Y, XOk g N scope d k c2 Y → PE Y body (tM (mdOf Y g k c2 P2) eb))
    (I : Inv X pins σ H s) (hf : s.heap.get? f = some (klam X x p1 body scope pm c2 ctv)) (hfo : FpOk X pins H f)
    (he : EnvOk X.K H L σ env) (hi : i < env.length) (wo : Wo X.K X.base g c2 P2 L H st) (rx : Rep X.K H L x0 (.ref p)) (hxs : items st x0 = some xs)
    (ev : evKeys (fun x st => evE (g.C k) g.G eb (env.set i (some x)) st) xs st = some (ks, st1)) (hds : datAll ks = some ds) (hok : srtOk ds = true) (hnew : newL (srt ds xs) st1 = some (pv, st')) (fi : Fin X.K L H st pv st' Q) :
    wpAny (model X.prog X.w) X.A (call (.builtin "sorted") [.ref p] [(Str.ofString "key", .ref f)]) (EP X pins σ Q) E s := by
  obtain ⟨hz, rfl, rfl⟩ := newL_eq hnew
  have w := wo.wd
  obtain ⟨p', ws, ep, sq, rw'⟩ := items_rep w rx hxs
  cases ep
  obtain ⟨its, rvs, hlt, hsz⟩ : ∃ its : List Value, Vals ws its ∧ LT s.heap p its.toArray ∧ its.length ≤ sizeLine := by
    rcases sq with q | q
    · obtain ⟨its, rv, hl, hz⟩ := I.list q
      exact ⟨its, rv, .inl hl.isList, by rw [← rv.length]; exact hz⟩
    · obtain ⟨its, rv, ⟨o, ho, hc, n, hd⟩, hz⟩ := I.tuple q
      exact ⟨its, rv, .inr ⟨o, ho, hc, n, hd⟩, by rw [← rv.length]; exact hz⟩
  have hl := datAll_len hds
  have hkl := evKeys_len ev
  have lxi : xs.length = its.length := by rw [← rw'.length, rvs.length]
  have hfr : X.A.frames = some X.stack := I.ok.frames
  have room : Room (g.m * k + 6 * d + 1) X.A.in1.in1 := Room.in1 (Room.in1 (O.room.mono (by omega)))
  refine sorted_of_sortT hlt hsz (ksk_s1 _ _) (fun _ => by unfold argsOk; kernel_rfl) fun E' => ?_
  rw [ksk_t1]
  generalize hD : s.heap.objs.size + 1 = D
  have ho : (copyHeap s.heap its).get? D = some (seqObj "list" its.toArray 0) := by rw [← hD]; exact copyHeap_at s.heap its
  have hDf : FpOk X pins H D := I.fpOk (by omega) (I.hok.fresh (by omega))
  obtain ⟨e1, ho1⟩ : ∃ e1, ((copyHeap s.heap its).update D (Obj.mapSeq fun _ => (#[] : Array Value))).get? D = some (seqObj "list" #[] e1) := ⟨_, get?_update_seq ho fun _ => #[]⟩
  have hkS : (((copyHeap s.heap its).update D (Obj.mapSeq fun _ => (#[] : Array Value))).push (seqObj "tuple" its.toArray 0)).objs.size = (copyHeap s.heap its).objs.size + 1 := by rw [size_push', Heap.size_update]
  have hsz2 : D < (copyHeap s.heap its).objs.size := Heap.lt_size ho
  unfold ksk_tree
  refine wpAny_bind (listItems_at ho rfl ?_)
  refine wpAny_bind (listUpdate_at ho rfl ?_ (by rw [List.size_toArray]; exact hsz) (Nat.zero_le _))
  refine wpAny_bind (seqEpoch_at ho1 rfl ?_)
  refine wpAny_bind (wpAny_newTuple ?_ (by show its.length ≤ _; exact hsz))
  refine wpAny_bind (wpAny_newList ?_ (Nat.zero_le _))
  refine wpAny_holding ?_
  generalize hkSd : (((copyHeap s.heap its).update D (Obj.mapSeq fun _ => (#[] : Array Value))).push (seqObj "tuple" its.toArray 0)).objs.size = kS at hkS
  have hka : kS ≠ D := by omega
  have hkf : FpOk X pins H kS := I.fpOk (by omega) (I.hok.fresh (by omega))
  have old : ∀ b o, s.heap.get? b = some o → ((((copyHeap s.heap its).update D (Obj.mapSeq fun _ => (#[] : Array Value))).push (seqObj "tuple" its.toArray 0)).push (seqObj "list" #[] 0)).get? b = some o := fun b o q => by
    have := sortingHeap_old (vs := its) (Nat.ne_of_lt (Nat.lt_of_lt_of_le (Heap.lt_size q) (by omega)) : b ≠ D) (copyHeap_old (vs := its) q)
    exact this
  have hlf := Heap.lt_size hf
  have hfk : f ≠ kS := Nat.ne_of_lt (Nat.lt_of_lt_of_le hlf (by omega))
  have hfD : f ≠ D := Nat.ne_of_lt (Nat.lt_of_lt_of_le hlf (by omega))
  have I0 : Inv X (pins ++ [(kS, seqObj "list" #[] 0), (D, seqObj "list" #[] e1), (f, klam X x p1 body scope pm c2 ctv)]) σ H { s with heap := (((copyHeap s.heap its).update D (Obj.mapSeq fun _ => (#[] : Array Value))).push (seqObj "tuple" its.toArray 0)).push (seqObj "list" #[] 0) } := by
    refine repin (I.kept old) fun q hq => ?_
    simp only [List.mem_cons, List.not_mem_nil, or_false] at hq
    rcases hq with rfl | rfl | rfl
    · exact ⟨by rw [← hkSd]; exact Heap.get?_push_size _ rfl, hkf, fun v z => by cases z⟩
    · exact ⟨Heap.get?_push_of_some _ (Heap.get?_push_of_some _ ho1), hDf, fun v z => by cases z⟩
    · exact ⟨old _ _ hf, hfo, fun v z => by cases z⟩
  show wpAny _ _ (ksk_rest D (.ref f) false its.toArray e1 (.ref kS)) _ _ _
  unfold ksk_rest
  refine wpAny_bind (wpAny_rule ?_)
  first
    | rw [List.forIn_toArray]
    | (rw [← Array.forIn_toList]; simp only [List.toList_toArray])
    | rw [← Array.forIn_toList]
  refine wpAny_bind (ksk_fold (fun j s' => ∃ Hj Lj stj kps kvs kA e ks', Inv X (pins ++ [(kS, seqObj "list" kA e), (D, seqObj "list" #[] e1), (f, klam X x p1 body scope pm c2 ctv)]) σ Hj s' ∧ Ext L H st Lj Hj stj ∧ Wo X.K X.base g c2 P2 Lj Hj stj ∧
      Reps X.K Hj Lj kps kvs ∧ Vals kvs kA.toList ∧ kA.size = j ∧ evKeys (fun x st => evE (g.C k) g.G eb (env.set i (some x)) st) (xs.drop j) stj = some (ks', st1) ∧ ks = kps ++ ks') its 0 _
    ⟨H, L, st, [], [], #[], 0, ks, I0, Ext.refl, wo, .nil, .nil, rfl, by rw [List.drop_zero]; exact ev, rfl⟩ ?step ?done)
  case step =>
    rintro j v s' hv ⟨Hj, Lj, stj, kps, kvs, kA, e, ks', Ij, xj, wj, rk, vk, hj, hev, hks⟩
    simp only [Nat.zero_add] at hj hev ⊢
    have hjl : j < its.length := (List.getElem?_eq_some_iff.mp hv).1
    have hdrop : xs.drop j = xs[j]'(by omega) :: xs.drop (j + 1) := List.drop_eq_getElem_cons (by omega)
    rw [hdrop] at hev
    unfold evKeys at hev
    obtain ⟨kp, s1, h1, hev⟩ := bind_inv hev
    obtain ⟨kr, s2, h2, hev⟩ := bind_inv hev
    cases hev
    obtain ⟨nk, hkj⟩ := pin_at Ij (b := kS) (o := seqObj "list" kA e) (by simp)
    obtain ⟨na, hDj⟩ := pin_at Ij (b := D) (o := seqObj "list" #[] e1) (by simp)
    obtain ⟨nf, hfj⟩ := pin_at Ij (b := f) (o := klam X x p1 body scope pm c2 ctv) (by simp)
    obtain ⟨vj, hvj, rvj⟩ : ∃ vj, RelV vj v ∧ Rep X.K Hj Lj (xs[j]'(by omega)) vj := by
      have rwj : Reps X.K Hj Lj xs ws := rw'.ext w xj
      obtain ⟨vj, q1, q2⟩ := rwj.get (List.getElem?_eq_getElem (l := xs) (i := j) (by omega))
      obtain ⟨u, q3, q4⟩ := rvs.get q1
      rw [hv] at q3
      cases q3
      exact ⟨vj, q4, q2⟩
    refine wpAny_bind (wpAny_attempt (wpAny_mono (lam_call (E := fun _ _ => False) (Q := fun v2 H2 => ∃ L2, Ext Lj Hj stj L2 H2 s1 ∧ Wd X.K L2 H2 s1 ∧ Rep X.K H2 L2 kp v2) O hb hx hgen room hfr hbody Ij nf (he.ext w xj) hi wj hvj rvj h1
      (fun L2 H2 v2 e2 w2 r2 => ⟨L2, e2, w2, r2⟩)) (fun u s'' hq => ?_) fun _ _ hF => hF.elim))
    obtain ⟨v2, H2, I2, ru, L2, x2, w2, r2⟩ := hq
    try dsimp only
    obtain ⟨nk2, hkj2⟩ := pin_at I2 (b := kS) (o := seqObj "list" kA e) (by simp)
    obtain ⟨na2, hDj2⟩ := pin_at I2 (b := D) (o := seqObj "list" #[] e1) (by simp)
    obtain ⟨nf2, hfj2⟩ := pin_at I2 (b := f) (o := klam X x p1 body scope pm c2 ctv) (by simp)
    have sb := Heap.SameBut.update s''.heap kS (Obj.mapSeq (·.push u))
    obtain ⟨c3, hc3⟩ : ∃ c3, (s''.heap.update kS (Obj.mapSeq (·.push u))).get? kS = some (seqObj "list" (kA.push u) c3) := ⟨_, get?_update_seq nk2 (·.push u)⟩
    refine wpAny_bind (listUpdate_at nk2 rfl ?_ (by omega) (by rw [Array.size_push]; omega))
    have I3 : Inv X pins σ H2 { s'' with heap := s''.heap.update kS (Obj.mapSeq (·.push u)) } := inv_own (ch := [kS]) (t' := s''.toks) (unpin I2) (fun b o hb q => (sb.2 b (fun z => hb (by simp [z]))).trans q) (fun b hb => by
      have : b = kS := by simpa using hb
      subst this
      exact fpTo hkf hkj2)
    have I4 : Inv X (pins ++ [(kS, seqObj "list" (kA.push u) c3), (D, seqObj "list" #[] e1), (f, klam X x p1 body scope pm c2 ctv)]) σ H2 { s'' with heap := s''.heap.update kS (Obj.mapSeq (·.push u)) } := by
      refine repin I3 fun q hq => ?_
      simp only [List.mem_cons, List.not_mem_nil, or_false] at hq
      rcases hq with rfl | rfl | rfl
      · exact ⟨hc3, fpTo hkf hkj2, fun v z => by cases z⟩
      · exact ⟨(sb.2 D hka.symm).trans na2, fpTo hDf hDj2, fun v z => by cases z⟩
      · exact ⟨(sb.2 f hfk).trans nf2, fpTo hfo hfj2, fun v z => by cases z⟩
    have ea : (kA.push u).toList = kA.toList ++ [u] := by simp
    refine wpAny_pure ⟨rfl, H2, L2, s1, kps ++ [kp], kvs ++ [v2], kA.push u, c3, kr, I4, xj.trans x2, wj.ext x2 w2, (rk.ext wj.wd x2).append (.cons r2 .nil), ?_, by rw [Array.size_push, hj], h2, by rw [hks]; simp⟩
    rw [ea]
    exact vk.append (.cons ru .nil)
  case done =>
    rintro s' ⟨Hj, Lj, stj, kps, kvs, kA, e, ks', Ij, xj, wj, rk, vk, hj, hev, hks⟩
    simp only [Nat.zero_add] at hj hev
    rw [← lxi, List.drop_length] at hev
    unfold evKeys at hev
    cases hev
    rw [List.append_nil] at hks
    subst hks
    obtain ⟨nk, hkj⟩ := pin_at Ij (b := kS) (o := seqObj "list" kA e) (by simp)
    obtain ⟨na, hDj⟩ := pin_at Ij (b := D) (o := seqObj "list" #[] e1) (by simp)
    try dsimp only
    refine wpAny_bind (listItems_at nk rfl ?_)
    obtain ⟨as, hr⟩ := Dp.readsAll Ij ds kvs kA.toList (datAll_dp rk hds) vk
    have er := reads_each hr
    have S := sorts_ok (prog := X.prog) (w := X.w) (A := X.A.in1.in1) (s := s') er hok (by have := room.un; omega)
    have hal : AllAlike ((xs.zip ds).map (·.2)) := by
      rw [map_zip_snd (by omega)]
      unfold srtOk at hok
      rw [Bool.and_eq_true] at hok
      exact fun d hd d' hd' => List.all_eq_true.mp (List.all_eq_true.mp hok.1 d hd) d' hd'
    refine keyH_end (κ := dataKind s'.heap ds) (h₁ := freeAt s'.heap kS) (fun b o hb q => ?_) freeAt_self nk na hka S (by omega) hsz fun h' tk c4 k4 n4 => ⟨rfl, ?_⟩
    · by_cases z : b = kS
      · rw [z, freeAt_self] at q
        cases q
      · rw [freeAt_ne z] at q
        exact q
    have I5 : Inv X pins σ Hj { s' with heap := h', toks := tk } := inv_own (ch := [kS, D]) (unpin Ij) (fun b o hb q => by
        simp only [List.mem_cons, List.not_mem_nil, or_false, not_or] at hb
        exact k4 b o hb.2 (by rw [freeAt_ne hb.1]; exact q)) (fun b hb => by
        simp only [List.mem_cons, List.not_mem_nil, or_false] at hb
        rcases hb with rfl | rfl
        · exact fpTo hkf hkj
        · exact fpTo hDf hDj)
    have eo := keyedOut_each (rev := false) (R := fun u (b : PV × PyData) => ∃ v, RelV v u ∧ Rep X.K Hj Lj b.1 v) (fun b : PV × PyData => b.2) (bs := xs.zip ds) (vs := its) ⟨s'.heap, kA.toList, hal, rfl, by rw [map_zip_snd (by omega)]; exact er⟩
      (vals_each (rw'.ext w xj) rvs (by omega))
    rw [map_zip_snd (by omega)] at eo
    obtain ⟨vo, g1, g2⟩ := each_vals eo
    have g3 : Reps X.K Hj Lj (srt ds xs) vo := g2
    have I6 := Inv.take (it := D) (o := .lst vo) (h' := h') (t' := tk) I5 (fun b ob _ q => q) (fpTo hDf hDj) ⟨by rw [g3.length]; exact hz, _, c4, g1, n4⟩
    exact ⟨.ref D, upd Hj D (.lst vo), I6, rfl, (fi.after xj).lst wj.wd hDj g3⟩
end
theorem sortk_ok (g : Gc) : SortKOk g := by
  intro N sc scope d k c P X a body x kw ea eb i p p1 p2 pos kpos an O hfr hgl hkw hNi hb hgen hx hs hbody ha
  subst hkw
  refine ⟨fun pins s σ H Q I h => ?_⟩
  obtain ⟨L, env, st, pv, st', he, wo, hev, fi⟩ := h
  unfold evE at hev
  obtain ⟨x0, s1, e1, h1⟩ := bind_inv hev
  have hm := O.fns.free ("sorted" : Str) (by simp [bNames]) hfr
  have hil : i < env.length := by
    rw [← he.1, I.len, O.hN]
    exact (List.getElem?_eq_some_iff.mp hNi).1
  refine wpAny_Call_Name_kw (ld_blt I (O.gl hgl) hm PyProof.Rows.boot_sorted ?_ (by decide) (by decide))
  have hst : starEach [a] X.env = (false, eval a X.env) :: starEach [] X.env := by
    cases a <;> first | rfl | cases hs
  refine PyProof.Rows.callWith_kw (e := a) (rest := []) (kws := [⟨some ("key" : Str), .Lambda ⟨[], [⟨x, none, p1⟩], none, [], [], none, []⟩ body scope p2, kpos⟩]) ?_ (by rw [hst]; rfl) (by rw [hst]; rfl)
  rw [hst]
  show wpAny _ _ (spliced ((false, eval a X.env) :: backTo pos (starEach [] X.env))) _ _ s
  refine Calls.spliced_cons (thn (ha.run pins s σ H (fun v H1 => ∃ L1, Ext L H st L1 H1 s1 ∧ Wd X.K L1 H1 s1 ∧ Rep X.K H1 L1 x0 v) I ⟨L, env, st, x0, s1, he, wo, e1, fun L1 H1 v x1 w1 r1 => ⟨L1, x1, w1, r1⟩⟩) fun u s2 hq => ?_)
  obtain ⟨v, H1, I1, ru, L1, x1, w1, r1⟩ := hq
  refine Calls.spliced_nil ?_
  show wpAny _ _ (evalAll ((do let v ← eval (.Lambda ⟨[], [⟨x, none, p1⟩], none, [], [], none, []⟩ body scope p2) X.env; standAt pos; pure v) :: [])) _ _ s2
  have B := O.genBlk hb
  have hfree : ∀ y ∈ scope.names, y.2 = .free → ∃ c, X.env.cells.lookup y.1 = some c := fun y hy e => by
    rcases B.free y hy e with k | k
    · exact I.ok.has _ (.inl k)
    · exact I.ok.has _ (.inr k)
  have wo1 : Wo X.K X.base g c P L1 H1 s1 := wo.ext x1 w1
  refine wpAny_evalAll_cons (wpAny_bind (wpAny_mono (lam_make (E := X.xe) O I1 wo1 rfl hfree) (fun fv s3 hq => wpAny_bind (wpAny_standAt (wpAny_pure (wpAny_evalAll_nil ?_)))) fun _ _ e => e))
  obtain ⟨f, c2, P2, H2, ctv, pm, rfl, I2, x2, wo2, hf, hf0, hfo⟩ := hq
  show wpAny _ _ (call (.builtin "sorted") [u] [(Str.ofString "key", .ref f)]) _ _ _
  split at h1
  · rename_i xs hxs
    obtain ⟨ks, st1, e2, h1⟩ := bind_inv h1
    split at h1
    · rename_i ds hds
      split at h1
      · rename_i hok
        have r2 : Rep X.K H2 L1 x0 v := r1.ext w1 x2
        obtain ⟨q, vs, rfl, _, _⟩ := items_rep wo2.wd r2 hxs
        obtain rfl : u = Value.ref q := ru
        exact sortk_run O hb hx hgen (fun Y OY => hbody Y c2 P2 OY) I2 hf hfo ((he.ext wo.wd x1).ext w1 x2) hil wo2 r2 hxs e2 hds hok h1 ((fi.after x1).after x2)
      · cases h1
    · cases h1
  · cases h1
end Mp
set_option maxRecDepth 100000
namespace G85
open Mp PySem
def N_common : List Str := ["one", "other"]
def B_common : List S := [
  .asg (.tup [(.nm 0), (.nm 1)]) (.tup [(.bi .abs [(.var 0)]), (.bi .abs [(.var 1)])]),
  .while_ (.var 1) [
   .asg (.tup [(.nm 0), (.nm 1)]) (.tup [(.var 1), (.bin .mod (.var 0) (.var 1))])],
  .ret (.var 0)]
def N_ratio : List Str := ["top", "bottom", "shared"]
def B_ratio : List S := [
  .asg (.nm 2) (.call "common" [(.var 0), (.var 1)]),
  .ite (.cmp .lt (.var 1) (.int 0)) [
   .asg (.nm 2) (.neg (.var 2))] [],
  .ret (.tup [(.bin .fdiv (.var 0) (.var 2)), (.bin .fdiv (.var 1) (.var 2))])]
def N_less : List Str := ["one", "other"]
def B_less : List S := [
  .ret (.cmp .lt (.bin .mul (.ix (.var 0) (.int 0)) (.ix (.var 1) (.int 1))) (.bin .mul (.ix (.var 1) (.int 0)) (.ix (.var 0) (.int 1))))]
def N_bottom_of : List Str := ["row", "bottom", "part"]
def B_bottom_of : List S := [
  .asg (.nm 1) (.int 1),
  .for_ (.nm 2) (.val (.var 0)) [
   .ite (.bin .mod (.var 1) (.ix (.var 2) (.int 1))) [
    .asg (.nm 1) (.bin .mul (.bin .fdiv (.var 1) (.call "common" [(.var 1), (.ix (.var 2) (.int 1))])) (.ix (.var 2) (.int 1)))] []],
  .ret (.var 1)]
def N_tops_over : List Str := ["row", "bottom", "part"]
def B_tops_over : List S := [
  .ret (.comp .tup [2] (.bin .mul (.ix (.var 2) (.int 0)) (.bin .fdiv (.var 1) (.ix (.var 2) (.int 1)))) [.mk (.nm 2) (.val (.var 0)) []])]
def N_wholes : List Str := ["row", "bottom"]
def B_wholes : List S := [
  .asg (.nm 1) (.call "bottom_of" [(.var 0)]),
  .ret (.tup [(.call "tops_over" [(.var 0), (.var 1)]), (.var 1)])]
def N_raw_dot : List Str := ["row", "other", "tops", "bottom", "others", "low", "one", "two"]
def B_raw_dot : List S := [
  .asg (.tup [(.nm 2), (.nm 3)]) (.call "wholes" [(.var 0)]),
  .asg (.tup [(.nm 4), (.nm 5)]) (.call "wholes" [(.var 1)]),
  .ret (.tup [(.comp .sum [6, 7] (.bin .mul (.var 6) (.var 7)) [.mk (.tup [(.nm 6), (.nm 7)]) (.zip [(.var 2), (.var 4)]) []]), (.bin .mul (.var 3) (.var 5))])]
def N_dot : List Str := ["row", "other", "top", "bottom"]
def B_dot : List S := [
  .asg (.tup [(.nm 2), (.nm 3)]) (.call "raw_dot" [(.var 0), (.var 1)]),
  .ret (.call "ratio" [(.var 2), (.var 3)])]
def N_act_done : List Str := ["liked", "gained", "lot", "best", "act"]
def B_act_done : List S := [
  .asg (.nm 3) (.ix (.var 2) (.int 0)),
  .for_ (.nm 4) (.val (.var 2)) [
   .ite (.call "less" [(.ix (.var 0) (.var 3)), (.ix (.var 0) (.var 4))]) [
    .asg (.nm 3) (.var 4)] [
    .ite (.and (.cmp .eq (.ix (.var 0) (.var 4)) (.ix (.var 0) (.var 3))) (.call "less" [(.ix (.var 1) (.var 3)), (.ix (.var 1) (.var 4))])) [
     .asg (.nm 3) (.var 4)] []]],
  .ret (.var 3)]
def N_done_by : List Str := ["likings", "gains", "lot", "liked", "gained"]
def B_done_by : List S := [
  .ret (.comp .tup [3, 4] (.call "act_done" [(.var 3), (.var 4), (.var 2)]) [.mk (.tup [(.nm 3), (.nm 4)]) (.zip [(.var 0), (.var 1)]) []])]
def N_let_gain : List Str := ["shares", "likings", "gains", "lot", "done", "gained", "act"]
def B_let_gain : List S := [
  .asg (.nm 4) (.call "done_by" [(.var 1), (.var 2), (.var 3)]),
  .ret (.call "dot" [(.var 0), (.comp .tup [5, 6] (.ix (.var 5) (.var 6)) [.mk (.tup [(.nm 5), (.nm 6)]) (.zip [(.var 2), (.var 4)]) []])])]
def N_all_lots : List Str := ["acts", "lots", "act", "lot"]
def B_all_lots : List S := [
  .asg (.nm 1) (.lst [(.tup [])]),
  .for_ (.nm 2) (.rng [(.var 0)]) [
   .asg (.nm 1) (.bin .add (.var 1) (.comp .lst [3] (.bin .add (.var 3) (.tup [(.var 2)])) [.mk (.nm 3) (.val (.var 1)) []]))],
  .ret (.sl (.bi .sorted [(.var 1)]) (some (.int 1)) none)]
def N_best_lot : List Str := ["shares", "likings", "gains", "best", "lot", "acts", "number"]
def B_best_lot : List S := [
  .asg (.nm 3) (.tup []),
  .for_ (.nm 4) (.val (.sortk (.call "all_lots" [(.bi .len [(.ix (.var 2) (.int 0))])]) 5 (.tup [(.bi .len [(.var 5)]), (.var 5)]))) [
   .asg (.nm 6) (.call "let_gain" [(.var 0), (.var 1), (.var 2), (.var 4)]),
   .ite (.or (.cmp .eq (.var 3) (.tup [])) (.call "less" [(.ix (.var 3) (.int 0)), (.var 6)])) [
    .asg (.nm 3) (.tup [(.var 6), (.var 4)])] []],
  .ret (.var 3)]
def N_needless_acts : List Str := ["likings", "gains", "lot", "done", "act"]
def B_needless_acts : List S := [
  .asg (.nm 3) (.call "done_by" [(.var 0), (.var 1), (.var 2)]),
  .ret (.comp .tup [4] (.var 4) [.mk (.nm 4) (.val (.var 2)) [(.cmp .notin (.var 4) (.var 3))]])]
def N_no_better : List Str := ["shares", "likings", "gains", "lot", "number", "other"]
def B_no_better : List S := [
  .asg (.nm 4) (.call "let_gain" [(.var 0), (.var 1), (.var 2), (.var 3)]),
  .for_ (.nm 5) (.val (.call "all_lots" [(.bi .len [(.ix (.var 2) (.int 0))])])) [
   .ite (.call "less" [(.var 4), (.call "let_gain" [(.var 0), (.var 1), (.var 2), (.var 5)])]) [
    .ret (.var 5)] []],
  .ret (.tup [])]
def N__law_mixed : List Str := ["a", "b", "one", "two"]
def B__law_mixed : List S := [
  .asg (.nm 2) (.bin .mod (.bin .add (.bin .add (.bin .mul (.bin .mod (.bi .int [(.var 0)]) (.int 1000003)) (.int 48271)) (.bin .mul (.bin .mod (.bi .int [(.var 1)]) (.int 999983)) (.int 69621))) (.int 12345)) (.int 2147483647)),
  .asg (.nm 3) (.bin .mod (.bin .add (.bin .add (.bin .add (.bin .mul (.var 2) (.var 2)) (.bin .mul (.var 2) (.int 40692))) (.bin .mul (.bin .mod (.bi .int [(.var 1)]) (.int 65537)) (.int 16807))) (.int 7)) (.int 2147483629)),
  .ret (.bin .mod (.bin .add (.bin .mul (.var 3) (.int 48271)) (.bin .fdiv (.var 2) (.int 127))) (.int 2147483647))]
def N__law_pool : List Str := ["script"]
def B__law_pool : List S := [
  .ret (.lst [(.bi .list [(.var 0)]), (.int 0), (.int 0), (.int 0), (.int 0)])]
def N__law_draw : List Str := ["pool", "many", "rest", "cell"]
def B__law_draw : List S := [
  .asg (.nm 2) (.ix (.var 0) (.int 2)),
  .ite (.and (.cmp .lt (.var 2) (.int 2)) (.cmp .lt (.ix (.var 0) (.int 1)) (.bi .len [(.ix (.var 0) (.int 0))]))) [
   .asg (.nm 3) (.ix (.ix (.var 0) (.int 0)) (.ix (.var 0) (.int 1))),
   .asg (.sub (.var 0) (.int 1)) (.bin .add (.ix (.var 0) (.int 1)) (.int 1)),
   .ite (.cmp .ge (.var 3) (.bin .pow (.int 10) (.int 18))) [
    .asg (.nm 2) (.bin .sub (.var 3) (.bin .pow (.int 10) (.int 18))),
    .asg (.sub (.var 0) (.int 2)) (.bin .fdiv (.var 2) (.var 1)),
    .asg (.sub (.var 0) (.int 4)) (.int 60),
    .ret (.bin .mod (.bi .int [(.var 2)]) (.var 1))] [],
   .asg (.sub (.var 0) (.int 3)) (.call "_law_mixed" [(.bin .add (.ix (.var 0) (.int 3)) (.var 3)), (.ix (.var 0) (.int 1))])] [
   .ite (.cmp .lt (.var 2) (.int 2)) [
    .asg (.sub (.var 0) (.int 1)) (.bin .add (.ix (.var 0) (.int 1)) (.int 1)),
    .asg (.sub (.var 0) (.int 3)) (.call "_law_mixed" [(.ix (.var 0) (.int 3)), (.bin .add (.int 77) (.ix (.var 0) (.int 1)))])] [
    .asg (.sub (.var 0) (.int 4)) (.bin .sub (.ix (.var 0) (.int 4)) (.int 1)),
    .asg (.sub (.var 0) (.int 2)) (.bin .mul (.bin .fdiv (.var 2) (.var 1)) (.bi .int [(.cmp .gt (.ix (.var 0) (.int 4)) (.int 0))])),
    .ret (.bin .mod (.bi .int [(.var 2)]) (.var 1))]],
  .asg (.sub (.var 0) (.int 2)) (.int 0),
  .ret (.bin .mod (.bi .int [(.ix (.var 0) (.int 3))]) (.var 1))]
def N__law_pick : List Str := ["pool", "some"]
def B__law_pick : List S := [
  .ret (.ix (.var 1) (.call "_law_draw" [(.var 0), (.bi .len [(.var 1)])]))]
def N__law_shuffled : List Str := ["pool", "some", "left", "k"]
def B__law_shuffled : List S := [
  .asg (.nm 2) (.bi .list [(.var 1)]),
  .ret (.comp .lst [3] (.mt .pop (.var 2) [(.call "_law_draw" [(.var 0), (.bi .len [(.var 2)])])]) [.mk (.nm 3) (.rng [(.bi .len [(.var 1)])]) []])]
def N__law_same : List Str := ["actual", "due", "k"]
def B__law_same : List S := [
  .ite (.cmp .is (.var 1) .non) [
   .ret (.cmp .is (.var 0) .non)] [],
  .ite (.isa (.var 1) .tuple) [
   .ite (.or (.not (.isa (.var 0) .tuple)) (.cmp .ne (.bi .len [(.var 0)]) (.bi .len [(.var 1)]))) [
    .ret (.bl false)] [],
   .for_ (.nm 2) (.rng [(.bi .len [(.var 1)])]) [
    .ite (.not (.call "_law_same" [(.ix (.var 0) (.var 2)), (.ix (.var 1) (.var 2))])) [
     .ret (.bl false)] []],
   .ret (.bl true)] [],
  .ite (.isa (.var 1) .bool) [
   .ret (.and (.isa (.var 0) .bool) (.cmp .eq (.var 0) (.var 1)))] [],
  .ite (.isa (.var 1) .int) [
   .ret (.and (.isa (.var 0) .int) (.and (.not (.isa (.var 0) .bool)) (.cmp .eq (.var 0) (.var 1))))] [],
  .ret (.and (.isa (.var 0) .str) (.cmp .eq (.var 0) (.var 1)))]
def N__law_frac : List Str := ["p", "q", "a", "b", "turn"]
def B__law_frac : List S := [
  .ite (.cmp .lt (.var 1) (.int 0)) [
   .asg (.tup [(.nm 0), (.nm 1)]) (.tup [(.bin .sub (.int 0) (.var 0)), (.bin .sub (.int 0) (.var 1))])] [],
  .asg (.tup [(.nm 2), (.nm 3)]) (.tup [(.bi .abs [(.var 0)]), (.var 1)]),
  .for_ (.nm 4) (.rng [(.int 100000)]) [
   .ite (.cmp .eq (.var 3) (.int 0)) [
    .brk] [],
   .asg (.tup [(.nm 2), (.nm 3)]) (.tup [(.var 3), (.bin .sub (.var 2) (.bin .mul (.bin .fdiv (.var 2) (.var 3)) (.var 3)))])],
  .ret (.tup [(.bin .fdiv (.var 0) (.var 2)), (.bin .fdiv (.var 1) (.var 2))])]
def N__law_add : List Str := ["one", "other"]
def B__law_add : List S := [
  .ret (.call "_law_frac" [(.bin .add (.bin .mul (.ix (.var 0) (.int 0)) (.ix (.var 1) (.int 1))) (.bin .mul (.ix (.var 1) (.int 0)) (.ix (.var 0) (.int 1)))), (.bin .mul (.ix (.var 0) (.int 1)) (.ix (.var 1) (.int 1)))])]
def N__law_less_by : List Str := ["one", "other"]
def B__law_less_by : List S := [
  .ret (.call "_law_frac" [(.bin .sub (.bin .mul (.ix (.var 0) (.int 0)) (.ix (.var 1) (.int 1))) (.bin .mul (.ix (.var 1) (.int 0)) (.ix (.var 0) (.int 1)))), (.bin .mul (.ix (.var 0) (.int 1)) (.ix (.var 1) (.int 1)))])]
def N__law_times : List Str := ["one", "other"]
def B__law_times : List S := [
  .ret (.call "_law_frac" [(.bin .mul (.ix (.var 0) (.int 0)) (.ix (.var 1) (.int 0))), (.bin .mul (.ix (.var 0) (.int 1)) (.ix (.var 1) (.int 1)))])]
def N__law_is_less : List Str := ["one", "other"]
def B__law_is_less : List S := [
  .ret (.cmp .lt (.bin .mul (.ix (.var 0) (.int 0)) (.ix (.var 1) (.int 1))) (.bin .mul (.ix (.var 1) (.int 0)) (.ix (.var 0) (.int 1))))]
def N__law_sum : List Str := ["rows", "total", "one"]
def B__law_sum : List S := [
  .asg (.nm 1) (.tup [(.int 0), (.int 1)]),
  .for_ (.nm 2) (.val (.var 0)) [
   .asg (.nm 1) (.call "_law_add" [(.var 1), (.var 2)])],
  .ret (.var 1)]
def N__law_number : List Str := ["pool", "top"]
def B__law_number : List S := [
  .ret (.call "_law_frac" [(.bin .sub (.call "_law_draw" [(.var 0), (.bin .add (.bin .mul (.int 2) (.var 1)) (.int 1))]) (.var 1)), (.call "_law_pick" [(.var 0), (.lst [(.int 1), (.int 1), (.int 1), (.int 2), (.int 3)])])])]
def N__law_letting : List Str := ["pool", "kinds", "acts", "whole", "marks", "turn", "k", "top", "likings", "a", "gains", "one"]
def B__law_letting : List S := [
  .asg (.tup [(.nm 1), (.nm 2)]) (.tup [(.bin .add (.int 1) (.call "_law_draw" [(.var 0), (.int 3)])), (.bin .add (.int 1) (.call "_law_draw" [(.var 0), (.int 6)]))]),
  .asg (.nm 3) (.call "_law_pick" [(.var 0), (.lst [(.var 1), (.int 6), (.int 12)])]),
  .asg (.nm 4) (.bin .mul (.lst [(.int 1)]) (.var 1)),
  .for_ (.nm 5) (.rng [(.bin .sub (.var 3) (.var 1))]) [
   .asg (.nm 6) (.call "_law_draw" [(.var 0), (.var 1)]),
   .asg (.sub (.var 4) (.var 6)) (.bin .add (.ix (.var 4) (.var 6)) (.int 1))],
  .asg (.nm 7) (.call "_law_pick" [(.var 0), (.lst [(.int 1), (.int 2), (.int 4)])]),
  .asg (.nm 8) (.bi .tuple [(.comp .lst [6] (.bi .tuple [(.comp .lst [9] (.call "_law_number" [(.var 0), (.var 7)]) [.mk (.nm 9) (.rng [(.var 2)]) []])]) [.mk (.nm 6) (.rng [(.var 1)]) []])]),
  .asg (.nm 10) (.bi .tuple [(.comp .lst [6] (.bi .tuple [(.comp .lst [9] (.call "_law_number" [(.var 0), (.var 7)]) [.mk (.nm 9) (.rng [(.var 2)]) []])]) [.mk (.nm 6) (.rng [(.var 1)]) []])]),
  .ret (.tup [(.bi .tuple [(.comp .lst [11] (.call "_law_frac" [(.var 11), (.var 3)]) [.mk (.nm 11) (.val (.var 4)) []])]), (.var 8), (.var 10)])]
def N__law_done : List Str := ["likings", "gains", "lot", "made", "k", "best", "a", "better", "alike"]
def B__law_done : List S := [
  .asg (.nm 3) (.lst []),
  .for_ (.nm 4) (.rng [(.bi .len [(.var 0)])]) [
   .asg (.nm 5) (.ix (.var 2) (.int 0)),
   .for_ (.nm 6) (.val (.var 2)) [
    .asg (.nm 7) (.call "_law_is_less" [(.ix (.ix (.var 0) (.var 4)) (.var 5)), (.ix (.ix (.var 0) (.var 4)) (.var 6))]),
    .asg (.nm 8) (.and (.cmp .eq (.ix (.ix (.var 0) (.var 4)) (.var 5)) (.ix (.ix (.var 0) (.var 4)) (.var 6))) (.call "_law_is_less" [(.ix (.ix (.var 1) (.var 4)) (.var 5)), (.ix (.ix (.var 1) (.var 4)) (.var 6))])),
    .asg (.nm 5) (.ifx (.or (.var 7) (.var 8)) (.var 6) (.var 5))],
   .expr (.mt .append (.var 3) [(.var 5)])],
  .ret (.bi .tuple [(.var 3)])]
def N__law_gain : List Str := ["shares", "likings", "gains", "lot", "done", "k"]
def B__law_gain : List S := [
  .asg (.nm 4) (.call "_law_done" [(.var 1), (.var 2), (.var 3)]),
  .ret (.call "_law_sum" [(.comp .lst [5] (.call "_law_times" [(.ix (.var 0) (.var 5)), (.ix (.ix (.var 2) (.var 5)) (.ix (.var 4) (.var 5)))]) [.mk (.nm 5) (.rng [(.bi .len [(.var 0)])]) []])])]
def N__law_lots : List Str := ["acts", "made", "a", "lot"]
def B__law_lots : List S := [
  .asg (.nm 1) (.lst [(.tup [])]),
  .for_ (.nm 2) (.rng [(.var 0)]) [
   .asg (.nm 1) (.bin .add (.var 1) (.comp .lst [3] (.bin .add (.var 3) (.tup [(.var 2)])) [.mk (.nm 3) (.val (.var 1)) []]))],
  .ret (.bi .sorted [(.comp .lst [3] (.var 3) [.mk (.nm 3) (.val (.var 1)) [(.cmp .ne (.var 3) (.tup []))]])])]
def N__law_needless : List Str := ["likings", "gains", "lot", "made", "a", "rest", "one"]
def B__law_needless : List S := [
  .asg (.nm 3) (.lst []),
  .for_ (.nm 4) (.val (.var 2)) [
   .asg (.nm 5) (.bi .tuple [(.comp .lst [6] (.var 6) [.mk (.nm 6) (.val (.var 2)) [(.cmp .ne (.var 6) (.var 4))]])]),
   .ite (.and (.cmp .gt (.bi .len [(.var 5)]) (.int 0)) (.cmp .eq (.call "_law_done" [(.var 0), (.var 1), (.var 5)]) (.call "_law_done" [(.var 0), (.var 1), (.var 2)]))) [
    .expr (.mt .append (.var 3) [(.var 4)])] []],
  .ret (.bi .tuple [(.var 3)])]
def N__law_is_done : List Str := ["shares", "likings", "gains", "lot", "due", "much", "told", "again", "a", "more", "rest"]
def B__law_is_done : List S := [
  .asg (.tup [(.nm 4), (.nm 5)]) (.tup [(.call "_law_done" [(.var 1), (.var 2), (.var 3)]), (.call "_law_gain" [(.var 0), (.var 1), (.var 2), (.var 3)])]),
  .asg (.nm 6) (.tup [(.call "done_by" [(.var 1), (.var 2), (.var 3)]), (.callk "done_by" [] [0, 1, 2] [(.var 1), (.var 2), (.var 3)])]),
  .ite (.not (.call "_law_same" [(.var 6), (.tup [(.var 4), (.var 4)])])) [
   .ret (.bl false)] [],
  .asg (.nm 7) (.callk "let_gain" [] [0, 1, 2, 3] [(.var 0), (.var 1), (.var 2), (.var 3)]),
  .ite (.not (.call "_law_same" [(.tup [(.call "let_gain" [(.var 0), (.var 1), (.var 2), (.var 3)]), (.var 7)]), (.tup [(.var 5), (.var 5)])])) [
   .ret (.bl false)] [],
  .for_ (.nm 8) (.rng [(.bi .len [(.ix (.var 1) (.int 0))])]) [
   .asg (.nm 9) (.ifx (.cmp .notin (.var 8) (.var 3)) (.bi .tuple [(.bi .sorted [(.bin .add (.var 3) (.tup [(.var 8)]))])]) (.var 3)),
   .ite (.cmp .notin (.var 8) (.call "_law_done" [(.var 1), (.var 2), (.var 9)])) [
    .asg (.nm 6) (.tup [(.call "done_by" [(.var 1), (.var 2), (.var 9)]), (.call "let_gain" [(.var 0), (.var 1), (.var 2), (.var 9)])]),
    .ite (.not (.call "_law_same" [(.var 6), (.tup [(.var 4), (.var 5)])])) [
     .ret (.bl false)] []] []],
  .asg (.nm 10) (.call "_law_needless" [(.var 1), (.var 2), (.var 3)]),
  .asg (.nm 6) (.tup [(.call "needless_acts" [(.var 1), (.var 2), (.var 3)]), (.callk "needless_acts" [] [0, 1, 2] [(.var 1), (.var 2), (.var 3)])]),
  .ret (.call "_law_same" [(.var 6), (.tup [(.var 10), (.var 10)])])]
def N__law_is_best : List Str := ["pool", "shares", "likings", "gains", "lots", "best", "lot", "much", "fewer", "told", "better", "one", "due", "again"]
def B__law_is_best : List S := [
  .asg (.nm 5) .non,
  .for_ (.nm 6) (.val (.var 4)) [
   .asg (.nm 7) (.call "_law_gain" [(.var 1), (.var 2), (.var 3), (.var 6)]),
   .asg (.nm 8) (.and (.cmp .isnot (.var 5) .non) (.and (.cmp .eq (.ix (.var 5) (.int 0)) (.var 7)) (.cmp .lt (.bi .len [(.var 6)]) (.bi .len [(.ix (.var 5) (.int 1))])))),
   .asg (.nm 5) (.ifx (.or (.cmp .is (.var 5) .non) (.or (.var 8) (.call "_law_is_less" [(.ix (.var 5) (.int 0)), (.var 7)]))) (.tup [(.var 7), (.var 6)]) (.var 5))],
  .asg (.nm 9) (.tup [(.call "best_lot" [(.var 1), (.var 2), (.var 3)]), (.callk "best_lot" [] [0, 1, 2] [(.var 1), (.var 2), (.var 3)])]),
  .ite (.not (.call "_law_same" [(.var 9), (.tup [(.var 5), (.var 5)])])) [
   .ret (.bl false)] [],
  .for_ (.nm 6) (.val (.bin .add (.lst [(.ix (.var 5) (.int 1))]) (.sl (.call "_law_shuffled" [(.var 0), (.var 4)]) none (some (.int 3))))) [
   .asg (.nm 7) (.call "_law_gain" [(.var 1), (.var 2), (.var 3), (.var 6)]),
   .asg (.nm 10) (.comp .lst [11] (.var 11) [.mk (.nm 11) (.val (.var 4)) [(.call "_law_is_less" [(.var 7), (.call "_law_gain" [(.var 1), (.var 2), (.var 3), (.var 11)])])]]),
   .asg (.nm 12) (.ifx (.cmp .gt (.bi .len [(.var 10)]) (.int 0)) (.ix (.var 10) (.int 0)) (.tup [])),
   .asg (.nm 13) (.callk "no_better" [] [0, 1, 2, 3] [(.var 1), (.var 2), (.var 3), (.var 6)]),
   .ite (.not (.call "_law_same" [(.tup [(.call "no_better" [(.var 1), (.var 2), (.var 3), (.var 6)]), (.var 13)]), (.tup [(.var 12), (.var 12)])])) [
    .ret (.bl false)] []],
  .ret (.bl true)]
def N_law : List Str := ["script", "pool", "turn", "shares", "likings", "gains", "lots", "lot"]
def B_law : List S := [
  .asg (.nm 1) (.call "_law_pool" [(.var 0)]),
  .for_ (.nm 2) (.rng [(.int 3)]) [
   .asg (.tup [(.nm 3), (.nm 4), (.nm 5)]) (.call "_law_letting" [(.var 1)]),
   .asg (.nm 6) (.call "_law_lots" [(.bi .len [(.ix (.var 4) (.int 0))])]),
   .for_ (.nm 7) (.val (.bin .add (.lst [(.ix (.var 6) (.int 0)), (.rngv true [(.bi .len [(.ix (.var 4) (.int 0))])])]) (.sl (.call "_law_shuffled" [(.var 1), (.var 6)]) none (some (.int 3))))) [
    .ite (.not (.call "_law_is_done" [(.var 3), (.var 4), (.var 5), (.var 7)])) [
     .ret (.bl false)] []],
   .ite (.not (.call "_law_is_best" [(.var 1), (.var 3), (.var 4), (.var 5), (.var 6)])) [
    .ret (.bl false)] []],
  .ret (.bl true)]
def fns : List (Str × List Str) := [(("common" : Str), (["one", "other"] : List Str)), (("ratio" : Str), (["top", "bottom"] : List Str)), (("less" : Str), (["one", "other"] : List Str)), (("bottom_of" : Str), (["row"] : List Str)), (("tops_over" : Str), (["row", "bottom"] : List Str)), (("wholes" : Str), (["row"] : List Str)), (("raw_dot" : Str), (["row", "other"] : List Str)), (("dot" : Str), (["row", "other"] : List Str)), (("act_done" : Str), (["liked", "gained", "lot"] : List Str)), (("done_by" : Str), (["likings", "gains", "lot"] : List Str)), (("let_gain" : Str), (["shares", "likings", "gains", "lot"] : List Str)), (("all_lots" : Str), (["acts"] : List Str)), (("best_lot" : Str), (["shares", "likings", "gains"] : List Str)), (("needless_acts" : Str), (["likings", "gains", "lot"] : List Str)), (("no_better" : Str), (["shares", "likings", "gains", "lot"] : List Str)), (("_law_mixed" : Str), (["a", "b"] : List Str)), (("_law_pool" : Str), (["script"] : List Str)), (("_law_draw" : Str), (["pool", "many"] : List Str)), (("_law_pick" : Str), (["pool", "some"] : List Str)), (("_law_shuffled" : Str), (["pool", "some"] : List Str)), (("_law_same" : Str), (["actual", "due"] : List Str)), (("_law_frac" : Str), (["p", "q"] : List Str)), (("_law_add" : Str), (["one", "other"] : List Str)), (("_law_less_by" : Str), (["one", "other"] : List Str)), (("_law_times" : Str), (["one", "other"] : List Str)), (("_law_is_less" : Str), (["one", "other"] : List Str)), (("_law_sum" : Str), (["rows"] : List Str)), (("_law_number" : Str), (["pool", "top"] : List Str)), (("_law_letting" : Str), (["pool"] : List Str)), (("_law_done" : Str), (["likings", "gains", "lot"] : List Str)), (("_law_gain" : Str), (["shares", "likings", "gains", "lot"] : List Str)), (("_law_lots" : Str), (["acts"] : List Str)), (("_law_needless" : Str), (["likings", "gains", "lot"] : List Str)), (("_law_is_done" : Str), (["shares", "likings", "gains", "lot"] : List Str)), (("_law_is_best" : Str), (["pool", "shares", "likings", "gains", "lots"] : List Str)), (("law" : Str), (["script"] : List Str))]
def cons : List (Str × PV) := []
def prog : List (Str × Fn) := [(("common" : Str), (⟨2, 2, B_common⟩ : Fn)),
  (("ratio" : Str), (⟨2, 3, B_ratio⟩ : Fn)),
  (("less" : Str), (⟨2, 2, B_less⟩ : Fn)),
  (("bottom_of" : Str), (⟨1, 3, B_bottom_of⟩ : Fn)),
  (("tops_over" : Str), (⟨2, 3, B_tops_over⟩ : Fn)),
  (("wholes" : Str), (⟨1, 2, B_wholes⟩ : Fn)),
  (("raw_dot" : Str), (⟨2, 8, B_raw_dot⟩ : Fn)),
  (("dot" : Str), (⟨2, 4, B_dot⟩ : Fn)),
  (("act_done" : Str), (⟨3, 5, B_act_done⟩ : Fn)),
  (("done_by" : Str), (⟨3, 5, B_done_by⟩ : Fn)),
  (("let_gain" : Str), (⟨4, 7, B_let_gain⟩ : Fn)),
  (("all_lots" : Str), (⟨1, 4, B_all_lots⟩ : Fn)),
  (("best_lot" : Str), (⟨3, 7, B_best_lot⟩ : Fn)),
  (("needless_acts" : Str), (⟨3, 5, B_needless_acts⟩ : Fn)),
  (("no_better" : Str), (⟨4, 6, B_no_better⟩ : Fn)),
  (("_law_mixed" : Str), (⟨2, 4, B__law_mixed⟩ : Fn)),
  (("_law_pool" : Str), (⟨1, 1, B__law_pool⟩ : Fn)),
  (("_law_draw" : Str), (⟨2, 4, B__law_draw⟩ : Fn)),
  (("_law_pick" : Str), (⟨2, 2, B__law_pick⟩ : Fn)),
  (("_law_shuffled" : Str), (⟨2, 4, B__law_shuffled⟩ : Fn)),
  (("_law_same" : Str), (⟨2, 3, B__law_same⟩ : Fn)),
  (("_law_frac" : Str), (⟨2, 5, B__law_frac⟩ : Fn)),
  (("_law_add" : Str), (⟨2, 2, B__law_add⟩ : Fn)),
  (("_law_less_by" : Str), (⟨2, 2, B__law_less_by⟩ : Fn)),
  (("_law_times" : Str), (⟨2, 2, B__law_times⟩ : Fn)),
  (("_law_is_less" : Str), (⟨2, 2, B__law_is_less⟩ : Fn)),
  (("_law_sum" : Str), (⟨1, 3, B__law_sum⟩ : Fn)),
  (("_law_number" : Str), (⟨2, 2, B__law_number⟩ : Fn)),
  (("_law_letting" : Str), (⟨1, 12, B__law_letting⟩ : Fn)),
  (("_law_done" : Str), (⟨3, 9, B__law_done⟩ : Fn)),
  (("_law_gain" : Str), (⟨4, 6, B__law_gain⟩ : Fn)),
  (("_law_lots" : Str), (⟨1, 4, B__law_lots⟩ : Fn)),
  (("_law_needless" : Str), (⟨3, 7, B__law_needless⟩ : Fn)),
  (("_law_is_done" : Str), (⟨4, 11, B__law_is_done⟩ : Fn)),
  (("_law_is_best" : Str), (⟨5, 14, B__law_is_best⟩ : Fn)),
  (("law" : Str), (⟨1, 8, B_law⟩ : Fn))]
def tops : Tops := ⟨fns, cons⟩
def where_ : List (Str × Nat × List Str) := [(("common" : Str), (1 : Nat), N_common), (("ratio" : Str), (2 : Nat), N_ratio), (("less" : Str), (3 : Nat), N_less), (("bottom_of" : Str), (4 : Nat), N_bottom_of), (("tops_over" : Str), (5 : Nat), N_tops_over), (("wholes" : Str), (6 : Nat), N_wholes), (("raw_dot" : Str), (7 : Nat), N_raw_dot), (("dot" : Str), (8 : Nat), N_dot), (("act_done" : Str), (10 : Nat), N_act_done), (("done_by" : Str), (11 : Nat), N_done_by), (("let_gain" : Str), (12 : Nat), N_let_gain), (("all_lots" : Str), (13 : Nat), N_all_lots), (("best_lot" : Str), (14 : Nat), N_best_lot), (("needless_acts" : Str), (15 : Nat), N_needless_acts), (("no_better" : Str), (16 : Nat), N_no_better), (("_law_mixed" : Str), (18 : Nat), N__law_mixed), (("_law_pool" : Str), (19 : Nat), N__law_pool), (("_law_draw" : Str), (20 : Nat), N__law_draw), (("_law_pick" : Str), (21 : Nat), N__law_pick), (("_law_shuffled" : Str), (22 : Nat), N__law_shuffled), (("_law_same" : Str), (23 : Nat), N__law_same), (("_law_frac" : Str), (24 : Nat), N__law_frac), (("_law_add" : Str), (25 : Nat), N__law_add), (("_law_less_by" : Str), (26 : Nat), N__law_less_by), (("_law_times" : Str), (27 : Nat), N__law_times), (("_law_is_less" : Str), (28 : Nat), N__law_is_less), (("_law_sum" : Str), (29 : Nat), N__law_sum), (("_law_number" : Str), (30 : Nat), N__law_number), (("_law_letting" : Str), (31 : Nat), N__law_letting), (("_law_done" : Str), (32 : Nat), N__law_done), (("_law_gain" : Str), (33 : Nat), N__law_gain), (("_law_lots" : Str), (34 : Nat), N__law_lots), (("_law_needless" : Str), (35 : Nat), N__law_needless), (("_law_is_done" : Str), (36 : Nat), N__law_is_done), (("_law_is_best" : Str), (37 : Nat), N__law_is_best), (("law" : Str), (38 : Nat), N_law)]
def dfs : List DfD := [⟨("common" : Str), 1, ["one", "other"], N_common, ⟨2, 2, B_common⟩⟩,
  ⟨("ratio" : Str), 2, ["top", "bottom"], N_ratio, ⟨2, 3, B_ratio⟩⟩,
  ⟨("less" : Str), 3, ["one", "other"], N_less, ⟨2, 2, B_less⟩⟩,
  ⟨("bottom_of" : Str), 4, ["row"], N_bottom_of, ⟨1, 3, B_bottom_of⟩⟩,
  ⟨("tops_over" : Str), 5, ["row", "bottom"], N_tops_over, ⟨2, 3, B_tops_over⟩⟩,
  ⟨("wholes" : Str), 6, ["row"], N_wholes, ⟨1, 2, B_wholes⟩⟩,
  ⟨("raw_dot" : Str), 7, ["row", "other"], N_raw_dot, ⟨2, 8, B_raw_dot⟩⟩,
  ⟨("dot" : Str), 8, ["row", "other"], N_dot, ⟨2, 4, B_dot⟩⟩,
  ⟨("act_done" : Str), 10, ["liked", "gained", "lot"], N_act_done, ⟨3, 5, B_act_done⟩⟩,
  ⟨("done_by" : Str), 11, ["likings", "gains", "lot"], N_done_by, ⟨3, 5, B_done_by⟩⟩,
  ⟨("let_gain" : Str), 12, ["shares", "likings", "gains", "lot"], N_let_gain, ⟨4, 7, B_let_gain⟩⟩,
  ⟨("all_lots" : Str), 13, ["acts"], N_all_lots, ⟨1, 4, B_all_lots⟩⟩,
  ⟨("best_lot" : Str), 14, ["shares", "likings", "gains"], N_best_lot, ⟨3, 7, B_best_lot⟩⟩,
  ⟨("needless_acts" : Str), 15, ["likings", "gains", "lot"], N_needless_acts, ⟨3, 5, B_needless_acts⟩⟩,
  ⟨("no_better" : Str), 16, ["shares", "likings", "gains", "lot"], N_no_better, ⟨4, 6, B_no_better⟩⟩,
  ⟨("_law_mixed" : Str), 18, ["a", "b"], N__law_mixed, ⟨2, 4, B__law_mixed⟩⟩,
  ⟨("_law_pool" : Str), 19, ["script"], N__law_pool, ⟨1, 1, B__law_pool⟩⟩,
  ⟨("_law_draw" : Str), 20, ["pool", "many"], N__law_draw, ⟨2, 4, B__law_draw⟩⟩,
  ⟨("_law_pick" : Str), 21, ["pool", "some"], N__law_pick, ⟨2, 2, B__law_pick⟩⟩,
  ⟨("_law_shuffled" : Str), 22, ["pool", "some"], N__law_shuffled, ⟨2, 4, B__law_shuffled⟩⟩,
  ⟨("_law_same" : Str), 23, ["actual", "due"], N__law_same, ⟨2, 3, B__law_same⟩⟩,
  ⟨("_law_frac" : Str), 24, ["p", "q"], N__law_frac, ⟨2, 5, B__law_frac⟩⟩,
  ⟨("_law_add" : Str), 25, ["one", "other"], N__law_add, ⟨2, 2, B__law_add⟩⟩,
  ⟨("_law_less_by" : Str), 26, ["one", "other"], N__law_less_by, ⟨2, 2, B__law_less_by⟩⟩,
  ⟨("_law_times" : Str), 27, ["one", "other"], N__law_times, ⟨2, 2, B__law_times⟩⟩,
  ⟨("_law_is_less" : Str), 28, ["one", "other"], N__law_is_less, ⟨2, 2, B__law_is_less⟩⟩,
  ⟨("_law_sum" : Str), 29, ["rows"], N__law_sum, ⟨1, 3, B__law_sum⟩⟩,
  ⟨("_law_number" : Str), 30, ["pool", "top"], N__law_number, ⟨2, 2, B__law_number⟩⟩,
  ⟨("_law_letting" : Str), 31, ["pool"], N__law_letting, ⟨1, 12, B__law_letting⟩⟩,
  ⟨("_law_done" : Str), 32, ["likings", "gains", "lot"], N__law_done, ⟨3, 9, B__law_done⟩⟩,
  ⟨("_law_gain" : Str), 33, ["shares", "likings", "gains", "lot"], N__law_gain, ⟨4, 6, B__law_gain⟩⟩,
  ⟨("_law_lots" : Str), 34, ["acts"], N__law_lots, ⟨1, 4, B__law_lots⟩⟩,
  ⟨("_law_needless" : Str), 35, ["likings", "gains", "lot"], N__law_needless, ⟨3, 7, B__law_needless⟩⟩,
  ⟨("_law_is_done" : Str), 36, ["shares", "likings", "gains", "lot"], N__law_is_done, ⟨4, 11, B__law_is_done⟩⟩,
  ⟨("_law_is_best" : Str), 37, ["pool", "shares", "likings", "gains", "lots"], N__law_is_best, ⟨5, 14, B__law_is_best⟩⟩,
  ⟨("law" : Str), 38, ["script"], N_law, ⟨1, 8, B_law⟩⟩]
def lawAt : Nat := 38
def names : List Str := (["__name__", "common", "ratio", "less", "bottom_of", "tops_over", "wholes", "raw_dot", "dot", "act_done", "done_by", "let_gain", "all_lots", "best_lot", "needless_acts", "no_better", "_law_mixed", "_law_pool", "_law_draw", "_law_pick", "_law_shuffled", "_law_same", "_law_frac", "_law_add", "_law_less_by", "_law_times", "_law_is_less", "_law_sum", "_law_number", "_law_letting"] : List Str) ++ (["_law_done", "_law_gain", "_law_lots", "_law_needless", "_law_is_done", "_law_is_best"] : List Str)
end G85
set_option Elab.async false
set_option linter.all false
set_option maxRecDepth 100000
set_option maxHeartbeats 0
namespace H85
open PySem PySem.Spec PyProof.Rows L2 Mp
abbrev p : Program := PySem.Challenge.pw_gladlydone_k85_letting
theorem chk : Chk p G85.dfs G85.cons 60 1 7 := ⟨by kernel_rfl, by kernel_rfl, by decide⟩
abbrev R : PySem.W.OpenRow := PySem.W.OpenLaw.row PySem.Challenge.rw_gladlydone_k85_letting
abbrev hk : PySem.W.Hook := hookM 4 p G85.dfs G85.cons
def ob (s : PySem.W.SharedT) : He.AlX := He.obsX 4 (fas G85.dfs (topsOf G85.dfs G85.cons)) (G85.dfs.map (DfD.dd p)) [] (G85.dfs.map fun x => (x.name, none)) (fun _ => true) (HandSHeadRun.getT s)
theorem ob_eq (s : PySem.W.SharedT) : ob s = hk.obs s.abs := He.obsX_eq (HandSHeadRun.getT_eq s)
theorem run (w : World) : HandSHeadRun.RunEq R (PySem.W.view R.prog [G85.lawAt]) hk ob 2000 G85.names w := by
  intro os
  kernel_rfl
end H85
set_option Elab.async false
set_option linter.all false
set_option maxRecDepth 100000
/-! MpWp: running the evaluator by weakest preconditions. -/
namespace Mp
open PySem

def wp {α : Type} (r : Res α) (Q : α → Sto → Prop) : Prop := ∃ a s, r = some (a, s) ∧ Q a s
section
variable {α β : Type} {Q Q' : α → Sto → Prop} {st : Sto}
theorem wp_some (a : α) (s : Sto) (Q : α → Sto → Prop) : wp (some (a, s)) Q ↔ Q a s :=
  ⟨fun ⟨_, _, e, q⟩ => (by cases e; exact q), fun q => ⟨a, s, rfl, q⟩⟩
theorem wp_none (Q : α → Sto → Prop) : wp (none : Res α) Q ↔ False := ⟨fun ⟨_, _, e, _⟩ => (by cases e), False.elim⟩
theorem wp_bind (r : Res α) (f : α → Sto → Res β) (Q : β → Sto → Prop) : wp (r.bind f) Q ↔ wp r fun a s => wp (f a s) Q := by
  cases r with
  | none => exact ⟨fun ⟨_, _, e, _⟩ => (by cases e), fun ⟨_, _, e, _⟩ => (by cases e)⟩
  | some p => exact ⟨fun h => ⟨p.1, p.2, rfl, h⟩, fun ⟨_, _, e, q⟩ => by cases e; exact q⟩
theorem wp_congr {r : Res α} (h : ∀ a s, Q a s ↔ Q' a s) : wp r Q ↔ wp r Q' := by
  have e : Q = Q' := funext fun a => funext fun s => propext (h a s)
  rw [e]
theorem wp_mono {r : Res α} (h : wp r Q) (i : ∀ a s, Q a s → Q' a s) : wp r Q' := by
  obtain ⟨a, s, e, q⟩ := h
  exact ⟨a, s, e, i a s q⟩
theorem wp_ite (c : Prop) [Decidable c] (a b : Res α) (Q : α → Sto → Prop) : wp (if c then a else b) Q ↔ if c then wp a Q else wp b Q := by
  by_cases h : c
  · rw [if_pos h, if_pos h]
  · rw [if_neg h, if_neg h]
end

/-! ### lists of names -/
def getV (env : Env) (i : Nat) : Option PV := match env[i]? with
  | some (some v) => some v
  | _ => none
theorem getV_zero (v : PV) (l : Env) : getV (some v :: l) 0 = some v := rfl
theorem getV_succ (o : Option PV) (l : Env) (n : Nat) : getV (o :: l) (n + 1) = getV l n := rfl
def setV (env : Env) (i : Nat) (v : PV) : Env := env.set i (some v)
theorem setV_zero (o : Option PV) (l : Env) (v : PV) : setV (o :: l) 0 v = some v :: l := rfl
theorem setV_succ (o : Option PV) (l : Env) (n : Nat) (v : PV) : setV (o :: l) (n + 1) v = o :: setV l n v := rfl
theorem wipe_nil (env : Env) : wipe env [] = env := rfl
theorem wipe_cons (env : Env) (v : Nat) (vs : List Nat) : wipe env (v :: vs) = (wipe env vs).set v none := rfl
theorem set_zero (o p : Option PV) (l : Env) : List.set (o :: l) 0 p = p :: l := rfl
theorem set_succ (o p : Option PV) (l : Env) (n : Nat) : List.set (o :: l) (n + 1) p = o :: List.set l n p := rfl

/-! ### expressions -/
section
variable (C : Str → List PV → Sto → Res PV) (G : Str → Option PV) (env : Env) (st : Sto) (Q : PV → Sto → Prop)
theorem wp_non : wp (evE C G .non env st) Q ↔ Q .non st := by unfold evE; exact wp_some ..
theorem wp_bl (b : Bool) : wp (evE C G (.bl b) env st) Q ↔ Q (.bl b) st := by unfold evE; exact wp_some ..
theorem wp_int (i : Int) : wp (evE C G (.int i) env st) Q ↔ Q (.int i) st := by unfold evE; exact wp_some ..
theorem wp_str (s : Str) : wp (evE C G (.str s) env st) Q ↔ Q (.str s) st := by unfold evE; exact wp_some ..
theorem wp_var (i : Nat) : wp (evE C G (.var i) env st) Q ↔ ∃ v, getV env i = some v ∧ Q v st := by
  unfold evE getV
  cases env[i]? with
  | none => simp [wp_none]
  | some o => cases o with
    | none => simp [wp_none]
    | some v => simp [wp_some]
theorem wp_glo (x : Str) : wp (evE C G (.glo x) env st) Q ↔ ∃ v, G x = some v ∧ Q v st := by
  unfold evE
  cases G x with
  | none => simp [wp_none, Res.of]
  | some o => simp [wp_some, Res.of]
theorem wp_tup (es : List E) : wp (evE C G (.tup es) env st) Q ↔ wp (evEs C G es env st) fun vs s => vs.length ≤ LIM ∧ Q (.tup vs) s := by
  unfold evE
  rw [wp_bind]
  have : ∀ (vs : List PV) (s : Sto), wp (mkT vs s) Q ↔ vs.length ≤ LIM ∧ Q (.tup vs) s := fun vs s => by
    unfold mkT
    by_cases h : vs.length ≤ LIM
    · rw [if_pos h, wp_some]
      exact ⟨fun q => ⟨h, q⟩, fun q => q.2⟩
    · rw [if_neg h, wp_none]
      exact ⟨False.elim, fun q => (h q.1).elim⟩
  simp only [this]
theorem wp_mkT (xs : List PV) : wp (mkT xs st) Q ↔ xs.length ≤ LIM ∧ Q (.tup xs) st := by
  unfold mkT
  by_cases h : xs.length ≤ LIM
  · rw [if_pos h, wp_some]
    exact ⟨fun q => ⟨h, q⟩, fun q => q.2⟩
  · rw [if_neg h, wp_none]
    exact ⟨False.elim, fun q => (h q.1).elim⟩
theorem wp_newL (xs : List PV) : wp (newL xs st) Q ↔ xs.length ≤ LIM ∧ Q (.loc st.length) (st ++ [.lst xs]) := by
  unfold newL
  by_cases h : xs.length ≤ LIM
  · rw [if_pos h]
    exact (wp_some ..).trans ⟨fun q => ⟨h, q⟩, fun q => q.2⟩
  · rw [if_neg h, wp_none]
    exact ⟨False.elim, fun q => (h q.1).elim⟩
theorem wp_lst (es : List E) : wp (evE C G (.lst es) env st) Q ↔ wp (evEs C G es env st) fun vs s => vs.length ≤ LIM ∧ Q (.loc s.length) (s ++ [.lst vs]) := by
  unfold evE
  rw [wp_bind]
  simp only [wp_newL]
theorem wp_bin (o : Bop) (a b : E) : wp (evE C G (.bin o a b) env st) Q ↔ wp (evE C G a env st) fun x s => wp (evE C G b env s) fun y s => wp (bin o x y s) Q := by
  conv => lhs; unfold evE
  rw [wp_bind]
  simp only [wp_bind]
theorem wp_neg (a : E) : wp (evE C G (.neg a) env st) Q ↔ wp (evE C G a env st) fun x s => ∃ i, x = .int i ∧ Q (.int (-i)) s := by
  conv => lhs; unfold evE
  rw [wp_bind]
  have : ∀ (x : PV) (s : Sto), wp (match x with | .int i => some (PV.int (-i), s) | _ => none) Q ↔ ∃ i, x = .int i ∧ Q (.int (-i)) s := fun x s => by
    cases x <;> simp [wp_none, wp_some]
  exact wp_congr fun x s => this x s
theorem wp_tr (o : Option Bool) (f : Bool → Res α) (Q : α → Sto → Prop) : wp (match o with | some b => f b | none => none) Q ↔ ∃ b, o = some b ∧ wp (f b) Q := by
  cases o <;> simp [wp_none]
theorem wp_opt {β : Type} (o : Option β) (f : β → Res α) (Q : α → Sto → Prop) : wp (match o with | some b => f b | none => none) Q ↔ ∃ b, o = some b ∧ wp (f b) Q := by
  cases o <;> simp [wp_none]
theorem wp_not (a : E) : wp (evE C G (.not a) env st) Q ↔ wp (evE C G a env st) fun x s => ∃ b, truth s x = some b ∧ Q (.bl (!b)) s := by
  conv => lhs; unfold evE
  rw [wp_bind]
  have : ∀ (x : PV) (s : Sto), wp (match truth s x with | some b => some (PV.bl (!b), s) | none => none) Q ↔ ∃ b, truth s x = some b ∧ Q (.bl (!b)) s := fun x s => by
    cases truth s x <;> simp [wp_none, wp_some]
  exact wp_congr fun x s => this x s
theorem wp_and (a b : E) : wp (evE C G (.and a b) env st) Q ↔ wp (evE C G a env st) fun x s => ∃ t, truth s x = some t ∧ (if t then wp (evE C G b env s) Q else Q x s) := by
  conv => lhs; unfold evE
  rw [wp_bind]
  have : ∀ (x : PV) (s : Sto), wp (match truth s x with | some true => evE C G b env s | some false => some (x, s) | none => none) Q ↔ ∃ t, truth s x = some t ∧ (if t then wp (evE C G b env s) Q else Q x s) := fun x s => by
    cases truth s x with
    | none => simp [wp_none]
    | some t => cases t <;> simp [wp_some]
  exact wp_congr fun x s => this x s
theorem wp_or (a b : E) : wp (evE C G (.or a b) env st) Q ↔ wp (evE C G a env st) fun x s => ∃ t, truth s x = some t ∧ (if t then Q x s else wp (evE C G b env s) Q) := by
  conv => lhs; unfold evE
  rw [wp_bind]
  have : ∀ (x : PV) (s : Sto), wp (match truth s x with | some true => some (x, s) | some false => evE C G b env s | none => none) Q ↔ ∃ t, truth s x = some t ∧ (if t then Q x s else wp (evE C G b env s) Q) := fun x s => by
    cases truth s x with
    | none => simp [wp_none]
    | some t => cases t <;> simp [wp_some]
  exact wp_congr fun x s => this x s
theorem wp_truthR (r : Res PV) (Q : Bool → Sto → Prop) : wp (truthR r) Q ↔ wp r fun x s => ∃ b, truth s x = some b ∧ Q b s := by
  unfold truthR
  rw [wp_bind]
  have : ∀ (x : PV) (s : Sto), wp (Res.of (truth s x) s) Q ↔ ∃ b, truth s x = some b ∧ Q b s := fun x s => by
    cases truth s x <;> simp [wp_none, wp_some, Res.of]
  exact wp_congr fun x s => this x s
theorem wp_of {α : Type} (o : Option α) (Q : α → Sto → Prop) : wp (Res.of o st) Q ↔ ∃ v, o = some v ∧ Q v st := by
  cases o <;> simp [wp_none, wp_some, Res.of]
theorem wp_ifx (c a b : E) : wp (evE C G (.ifx c a b) env st) Q ↔ wp (evE C G c env st) fun x s => ∃ t, truth s x = some t ∧ (if t then wp (evE C G a env s) Q else wp (evE C G b env s) Q) := by
  conv => lhs; unfold evE
  rw [wp_bind, wp_truthR]
  simp only [wp_ite]
theorem wp_cmp (o : Cop) (a b : E) : wp (evE C G (.cmp o a b) env st) Q ↔ wp (evE C G a env st) fun x s => wp (evE C G b env s) fun y s => ∃ r, cmp o x y s = some r ∧ Q (.bl r) s := by
  conv => lhs; unfold evE
  rw [wp_bind]
  have : ∀ (x y : PV) (s : Sto), wp (match cmp o x y s with | some r => some (PV.bl r, s) | none => none) Q ↔ ∃ r, cmp o x y s = some r ∧ Q (.bl r) s := fun x y s => by
    cases cmp o x y s <;> simp [wp_none, wp_some]
  simp only [wp_bind]
  exact wp_congr fun x s => wp_congr fun y s => this x y s
theorem wp_chn (o o2 : Cop) (a b c : E) : wp (evE C G (.chn o o2 a b c) env st) Q ↔ wp (evE C G a env st) fun x s => wp (evE C G b env s) fun y s => ∃ r, cmp o x y s = some r ∧
    (if r then wp (evE C G c env s) fun z s => ∃ r, cmp o2 y z s = some r ∧ Q (.bl r) s else Q (.bl false) s) := by
  conv => lhs; unfold evE
  rw [wp_bind]
  have h2 : ∀ (y z : PV) (s : Sto), wp (match cmp o2 y z s with | some r => some (PV.bl r, s) | none => none) Q ↔ ∃ r, cmp o2 y z s = some r ∧ Q (.bl r) s := fun x y s => by
    cases cmp o2 x y s <;> simp [wp_none, wp_some]
  have : ∀ (x y : PV) (s : Sto), wp (match cmp o x y s with | some true => (evE C G c env s).bind fun z st => (match cmp o2 y z st with | some r => some (PV.bl r, st) | none => none) | some false => some (PV.bl false, s) | none => none) Q ↔
      ∃ r, cmp o x y s = some r ∧ (if r then wp (evE C G c env s) fun z s => ∃ r, cmp o2 y z s = some r ∧ Q (.bl r) s else Q (.bl false) s) := fun x y s => by
    cases cmp o x y s with
    | none => simp [wp_none]
    | some r =>
      cases r with
      | true => simp only [Option.some.injEq, exists_eq_left', if_true, wp_bind, h2]
      | false => simp [wp_some]
  simp only [wp_bind]
  exact wp_congr fun x s => wp_congr fun y s => this x y s
theorem wp_ix (a i : E) : wp (evE C G (.ix a i) env st) Q ↔ wp (evE C G a env st) fun x s => wp (evE C G i env s) fun y s => ∃ v, ixV s x y = some v ∧ Q v s := by
  conv => lhs; unfold evE
  rw [wp_bind]
  simp only [wp_bind, wp_of]
theorem wp_sl (a : E) (lo hi : Option E) : wp (evE C G (.sl a lo hi) env st) Q ↔ wp (evE C G a env st) fun x s => wp (evO C G lo env s) fun l s => wp (evO C G hi env s) fun h s => wp (slV x l h s) Q := by
  conv => lhs; unfold evE
  rw [wp_bind]
  simp only [wp_bind]
theorem wp_oN (Q : Option Int → Sto → Prop) : wp (evO C G none env st) Q ↔ Q none st := by unfold evO; exact wp_some ..
theorem wp_oS (e : E) (Q : Option Int → Sto → Prop) : wp (evO C G (some e) env st) Q ↔ wp (evE C G e env st) fun v s => ∃ i, v = .int i ∧ Q (some i) s := by
  unfold evO
  rw [wp_bind]
  have : ∀ (x : PV) (s : Sto), wp (match x with | .int i => some (some i, s) | _ => none) Q ↔ ∃ i, x = .int i ∧ Q (some i) s := fun x s => by
    cases x <;> simp [wp_none, wp_some]
  exact wp_congr fun x s => this x s
theorem wp_rev (a : E) : wp (evE C G (.rev a) env st) Q ↔ wp (evE C G a env st) fun x s => wp (revV x s) Q := by
  conv => lhs; unfold evE
  rw [wp_bind]
theorem wp_call (f : Str) (as : List E) : wp (evE C G (.call f as) env st) Q ↔ wp (evEs C G as env st) fun vs s => wp (C f vs s) Q := by
  unfold evE
  rw [wp_bind]
theorem wp_callk (f : Str) (as : List E) (ns : List Nat) (ks : List E) : wp (evE C G (.callk f as ns ks) env st) Q ↔ wp (evEs C G as env st) fun vs s => wp (evEs C G ks env s) fun us s => ∃ ws, permK vs us ns = some ws ∧ wp (C f ws s) Q := by
  unfold evE
  rw [wp_bind]
  have : ∀ (vs us : List PV) (s : Sto), wp (match permK vs us ns with | some ws => C f ws s | none => none) Q ↔ ∃ ws, permK vs us ns = some ws ∧ wp (C f ws s) Q := fun x y s => by
    cases permK x y ns <;> simp [wp_none]
  simp only [wp_bind]
  exact wp_congr fun x s => wp_congr fun y s => this x y s
theorem wp_bi (f : Bi) (as : List E) : wp (evE C G (.bi f as) env st) Q ↔ wp (evEs C G as env st) fun vs s => wp (biV f vs s) Q := by
  unfold evE
  rw [wp_bind]
theorem wp_rngv (b : Bool) (as : List E) : wp (evE C G (.rngv b as) env st) Q ↔ wp (evEs C G as env st) fun vs s => ∃ xs, wkR2 vs = some xs ∧ wp (if b then mkT xs s else newL xs s) Q := by
  unfold evE
  rw [wp_bind]
  have : ∀ (vs : List PV) (s : Sto), wp (match wkR2 vs with | some xs => if b then mkT xs s else newL xs s | none => none) Q ↔ ∃ xs, wkR2 vs = some xs ∧ wp (if b then mkT xs s else newL xs s) Q := fun x s => by
    cases wkR2 x <;> simp [wp_none]
  exact wp_congr fun x s => this x s
theorem wp_isa (e : E) (t : Ty) : wp (evE C G (.isa e t) env st) Q ↔ wp (evE C G e env st) fun v s => ∃ b, isaV s v t = some b ∧ Q (.bl b) s := by
  conv => lhs; unfold evE
  rw [wp_bind]
  have : ∀ (x : PV) (s : Sto), wp (match isaV s x t with | some b => some (PV.bl b, s) | none => none) Q ↔ ∃ b, isaV s x t = some b ∧ Q (.bl b) s := fun x s => by
    cases isaV s x t <;> simp [wp_none, wp_some]
  exact wp_congr fun x s => this x s
theorem wp_mt (m : Mt) (o : E) (as : List E) : wp (evE C G (.mt m o as) env st) Q ↔ wp (evE C G o env st) fun x s => wp (evEs C G as env s) fun vs s => wp (mtV m x vs s) Q := by
  conv => lhs; unfold evE
  rw [wp_bind]
  simp only [wp_bind]
theorem wp_nil (Q : List PV → Sto → Prop) : wp (evEs C G [] env st) Q ↔ Q [] st := by unfold evEs; exact wp_some ..
theorem wp_cons (e : E) (es : List E) (Q : List PV → Sto → Prop) : wp (evEs C G (e :: es) env st) Q ↔ wp (evE C G e env st) fun v s => wp (evEs C G es env s) fun vs s => Q (v :: vs) s := by
  conv => lhs; unfold evEs
  rw [wp_bind]
  simp only [wp_bind, wp_some]
/-- the turn of a comprehension of one clause -/
def cTurn (k : CK) (elt : E) (t : T) (ifs : List E) (env : Env) (x : PV) (acc : List PV) (st : Sto) : Res (List PV × Bool) :=
  (evT C G t x env st).bind fun env' st => (evIfs C G ifs env' st).bind fun b st => if b then (evE C G elt env' st).bind fun v st => (match stops k st v with
      | some b => some ((acc ++ [v], b), st)
      | none => none) else some ((acc, false), st)
theorem wp_comp (k : CK) (vs : List Nat) (elt : E) (t : T) (it : It) (ifs : List E) : wp (evE C G (.comp k vs elt [.mk t it ifs]) env st) Q ↔
    wp (evIt C G it (wipe env vs) st) fun w s => wp (compLoop (cTurn C G k elt t ifs (wipe env vs)) w.gs w.xs [] s) fun r s => wp (compEnd k r.1 r.2 s) Q := by
  have e : evE C G (.comp k vs elt [.mk t it ifs]) env st = ((evIt C G it (wipe env vs) st).bind fun w st => compLoop (cTurn C G k elt t ifs (wipe env vs)) w.gs w.xs [] st).bind fun r st => compEnd k r.1 r.2 st := by
    conv => lhs; unfold evE evCls evCl evCls
    rfl
  rw [e, wp_bind, wp_bind]
theorem wp_turn (k : CK) (elt : E) (t : T) (ifs : List E) (x : PV) (acc : List PV) (Q : List PV × Bool → Sto → Prop) : wp (cTurn C G k elt t ifs env x acc st) Q ↔
    wp (evT C G t x env st) fun env' s => wp (evIfs C G ifs env' s) fun b s => if b then wp (evE C G elt env' s) fun v s => ∃ b, stops k s v = some b ∧ Q (acc ++ [v], b) s else Q (acc, false) s := by
  have : ∀ (v : PV) (s : Sto), wp (match stops k s v with | some b => some ((acc ++ [v], b), s) | none => none) Q ↔ ∃ b, stops k s v = some b ∧ Q (acc ++ [v], b) s := fun x s => by
    cases stops k s x <;> simp [wp_none, wp_some]
  unfold cTurn
  rw [wp_bind]
  refine wp_congr fun e s => ?_
  rw [wp_bind]
  refine wp_congr fun b s => ?_
  cases b with
  | false => simp only [Bool.false_eq_true, if_false, wp_some]
  | true =>
    simp only [if_true, wp_bind]
    exact wp_congr fun x s => this x s
theorem wp_ifs0 (Q : Bool → Sto → Prop) : wp (evIfs C G [] env st) Q ↔ Q true st := by unfold evIfs; exact wp_some ..
theorem wp_ifs (e : E) (es : List E) (Q : Bool → Sto → Prop) : wp (evIfs C G (e :: es) env st) Q ↔ wp (evE C G e env st) fun x s => ∃ t, truth s x = some t ∧ (if t then wp (evIfs C G es env s) Q else Q false s) := by
  conv => lhs; unfold evIfs
  rw [wp_bind, wp_truthR]
  simp only [wp_ite, wp_some]
theorem wp_iv (e : E) (Q : Wk → Sto → Prop) : wp (evIt C G (.val e) env st) Q ↔ wp (evE C G e env st) fun v s => ∃ w, wkV s v = some w ∧ Q w s := by
  unfold evIt
  rw [wp_bind]
  simp only [wp_of]
theorem wp_irng (as : List E) (Q : Wk → Sto → Prop) : wp (evIt C G (.rng as) env st) Q ↔ wp (evEs C G as env st) fun v s => ∃ w, wkR v = some w ∧ Q w s := by
  unfold evIt
  rw [wp_bind]
  simp only [wp_of]
theorem wp_ienum (e : E) (Q : Wk → Sto → Prop) : wp (evIt C G (.enum e) env st) Q ↔ wp (evE C G e env st) fun v s => ∃ w, wkE s v = some w ∧ Q w s := by
  unfold evIt
  rw [wp_bind]
  simp only [wp_of]
theorem wp_izip (as : List E) (Q : Wk → Sto → Prop) : wp (evIt C G (.zip as) env st) Q ↔ wp (evEs C G as env st) fun v s => ∃ w, wkZ s v = some w ∧ Q w s := by
  unfold evIt
  rw [wp_bind]
  simp only [wp_of]
theorem wp_tnm (i : Nat) (v : PV) (Q : Env → Sto → Prop) : wp (evT C G (.nm i) v env st) Q ↔ i < env.length ∧ Q (setV env i v) st := by
  unfold evT setV
  by_cases h : i < env.length
  · rw [if_pos h, wp_some]
    exact ⟨fun q => ⟨h, q⟩, fun q => q.2⟩
  · rw [if_neg h, wp_none]
    exact ⟨False.elim, fun q => (h q.1).elim⟩
theorem wp_ttup (ts : List T) (v : PV) (Q : Env → Sto → Prop) : wp (evT C G (.tup ts) v env st) Q ↔ ∃ xs, items st v = some xs ∧ xs.length = ts.length ∧ wp (evTs C G ts xs env st) Q := by
  unfold evT
  cases items st v with
  | none => simp [wp_none]
  | some xs =>
    simp only [wp_ite, wp_none]
    by_cases h : xs.length = ts.length
    · simp [h]
    · simp [h]
theorem wp_ts0 (Q : Env → Sto → Prop) : wp (evTs C G [] [] env st) Q ↔ Q env st := by unfold evTs; exact wp_some ..
theorem wp_ts (t : T) (ts : List T) (v : PV) (vs : List PV) (Q : Env → Sto → Prop) : wp (evTs C G (t :: ts) (v :: vs) env st) Q ↔ wp (evT C G t v env st) fun env s => wp (evTs C G ts vs env s) Q := by
  conv => lhs; unfold evTs
  rw [wp_bind]
theorem wp_tsub (o i : E) (v : PV) (Q : Env → Sto → Prop) : wp (evT C G (.sub o i) v env st) Q ↔ wp (evE C G o env st) fun ov s => wp (evE C G i env s) fun iv s =>
    ∃ n k xs j, ov = .loc n ∧ iv = .int k ∧ getM s n = some xs ∧ ixN xs.length k = some j ∧ Q env (setL s n (xs.set j v)) := by
  unfold evT
  rw [wp_bind]
  have : ∀ (ov iv : PV) (s : Sto), wp (match ov, iv with
    | .loc n, .int k => (match getM s n with
      | some xs => (match ixN xs.length k with
        | some j => some (env, setL s n (xs.set j v))
        | none => none)
      | none => none)
    | _, _ => none) Q ↔ ∃ n k xs j, ov = .loc n ∧ iv = .int k ∧ getM s n = some xs ∧ ixN xs.length k = some j ∧ Q env (setL s n (xs.set j v)) := fun ov iv s => by
    cases ov <;> try (simp [wp_none]; done)
    cases iv <;> try (simp [wp_none]; done)
    rename_i n k
    simp only [PV.loc.injEq, PV.int.injEq, exists_and_left, exists_eq_left']
    cases getM s n with
    | none => simp [wp_none]
    | some xs =>
      simp only [Option.some.injEq, exists_eq_left']
      cases ixN xs.length k with
      | none => simp [wp_none]
      | some j => simp [wp_some]
  simp only [wp_bind]
  exact wp_congr fun x s => wp_congr fun y s => this x y s
end

/-! ### statements -/
section
variable (C : Str → List PV → Sto → Res PV) (G : Str → Option PV) (w : Nat) (env : Env) (st : Sto) (Q : Out → Sto → Prop)
theorem wp_ss0 : wp (exSs C G w [] env st) Q ↔ Q (.nx env) st := by unfold exSs; exact wp_some ..
/-- what follows a statement -/
def seqQ (rest : Env → Sto → Prop) (Q : Out → Sto → Prop) : Out → Sto → Prop := fun o s => match o with
  | .nx env => rest env s
  | o => Q o s
theorem seqQ_nx (rest : Env → Sto → Prop) (env : Env) : seqQ rest Q (.nx env) st ↔ rest env st := Iff.rfl
theorem seqQ_rt (rest : Env → Sto → Prop) (v : PV) : seqQ rest Q (.rt v) st ↔ Q (.rt v) st := Iff.rfl
theorem seqQ_bk (rest : Env → Sto → Prop) (env : Env) : seqQ rest Q (.bk env) st ↔ Q (.bk env) st := Iff.rfl
theorem seqQ_ct (rest : Env → Sto → Prop) (env : Env) : seqQ rest Q (.ct env) st ↔ Q (.ct env) st := Iff.rfl
theorem wp_ss (s : S) (ss : List S) : wp (exSs C G w (s :: ss) env st) Q ↔ wp (exS C G w s env st) (seqQ (fun env s => wp (exSs C G w ss env s) Q) Q) := by
  conv => lhs; unfold exSs
  rw [wp_bind]
  have : (fun (o : Out) (s : Sto) => wp (match o with | .nx env => exSs C G w ss env s | o => some (o, s)) Q) = seqQ (fun env s => wp (exSs C G w ss env s) Q) Q := by
    funext o s
    cases o <;> first | rfl | exact propext (wp_some ..)
  exact iff_of_eq (congrArg (wp (exS C G w s env st)) this)
theorem wp_asg (t : T) (e : E) : wp (exS C G w (.asg t e) env st) Q ↔ wp (evE C G e env st) fun v s => wp (evT C G t v env s) fun env s => Q (.nx env) s := by
  unfold exS
  rw [wp_bind]
  simp only [wp_bind, wp_some]
theorem wp_aug (i : Nat) (o : Bop) (e : E) : wp (exS C G w (.aug i o e) env st) Q ↔ ∃ x, getV env i = some x ∧ wp (evE C G e env st) fun y s => wp (augV o x y s) fun z s => Q (.nx (setV env i z)) s := by
  unfold exS getV setV
  cases env[i]? with
  | none => simp [wp_none]
  | some o => cases o with
    | none => simp [wp_none]
    | some v => simp [wp_some, wp_bind]
theorem wp_expr (e : E) : wp (exS C G w (.expr e) env st) Q ↔ wp (evE C G e env st) fun _ s => Q (.nx env) s := by
  unfold exS
  rw [wp_bind]
  simp only [wp_some]
theorem wp_ret (e : E) : wp (exS C G w (.ret e) env st) Q ↔ wp (evE C G e env st) fun v s => Q (.rt v) s := by
  unfold exS
  rw [wp_bind]
  simp only [wp_some]
theorem wp_retn : wp (exS C G w .retn env st) Q ↔ Q (.rt .non) st := by unfold exS; exact wp_some ..
theorem wp_ite_s (c : E) (a b : List S) : wp (exS C G w (.ite c a b) env st) Q ↔ wp (evE C G c env st) fun x s => ∃ t, truth s x = some t ∧ (if t then wp (exSs C G w a env s) Q else wp (exSs C G w b env s) Q) := by
  conv => lhs; unfold exS
  rw [wp_bind, wp_truthR]
  simp only [wp_ite]
/-- a turn of a for -/
def fBody (t : T) (b : List S) (x : PV) (env : Env) (st : Sto) : Res Out := (evT C G t x env st).bind fun env st => exSs C G w b env st
theorem wp_for_s (t : T) (it : It) (b : List S) : wp (exS C G w (.for_ t it b) env st) Q ↔ wp (evIt C G it env st) fun wk s => wp (forLoop (fBody C G w t b) wk.gs wk.xs env s) Q := by
  conv => lhs; unfold exS
  rw [wp_bind]
  rfl
theorem wp_fBody (t : T) (b : List S) (x : PV) : wp (fBody C G w t b x env st) Q ↔ wp (evT C G t x env st) fun env s => wp (exSs C G w b env s) Q := by
  unfold fBody
  rw [wp_bind]
theorem wp_while_s (c : E) (b : List S) : wp (exS C G w (.while_ c b) env st) Q ↔ wp (whileLoop (fun env st => truthR (evE C G c env st)) (fun env st => exSs C G w b env st) w env st) Q := by
  conv => lhs; unfold exS
theorem wp_brk : wp (exS C G w .brk env st) Q ↔ Q (.bk env) st := by unfold exS; exact wp_some ..
theorem wp_cnt : wp (exS C G w .cnt env st) Q ↔ Q (.ct env) st := by unfold exS; exact wp_some ..
theorem wp_pass : wp (exS C G w .pass env st) Q ↔ Q (.nx env) st := by unfold exS; exact wp_some ..
end

/-! ### loops -/
/-- what a turn of a loop leaves -/
def turnQ (I : Env → Sto → Prop) (Q : Out → Sto → Prop) : Out → Sto → Prop := fun o s => match o with
  | .nx env => I env s
  | .ct env => I env s
  | .bk env => Q (.nx env) s
  | .rt v => Q (.rt v) s
section
variable {Q : Out → Sto → Prop}
theorem turnQ_nx (I : Env → Sto → Prop) (env : Env) (st : Sto) : turnQ I Q (.nx env) st ↔ I env st := Iff.rfl
theorem turnQ_ct (I : Env → Sto → Prop) (env : Env) (st : Sto) : turnQ I Q (.ct env) st ↔ I env st := Iff.rfl
theorem turnQ_bk (I : Env → Sto → Prop) (env : Env) (st : Sto) : turnQ I Q (.bk env) st ↔ Q (.nx env) st := Iff.rfl
theorem turnQ_rt (I : Env → Sto → Prop) (v : PV) (st : Sto) : turnQ I Q (.rt v) st ↔ Q (.rt v) st := Iff.rfl
theorem wp_forLoop (I : Nat → Env → Sto → Prop) {body : PV → Env → Sto → Res Out} {gs : List (Nat × List PV)} {xs : List PV} {env : Env} {st : Sto} (h0 : I 0 env st)
    (step : ∀ i x env st, xs[i]? = some x → I i env st → gsOk st gs = true ∧ wp (body x env st) (turnQ (I (i + 1)) Q)) (done : ∀ env st, I xs.length env st → gsOk st gs = true ∧ Q (.nx env) st) : wp (forLoop body gs xs env st) Q := by
  have go : ∀ (ys : List PV) (i : Nat) (env : Env) (st : Sto), i + ys.length = xs.length → (∀ j, ys[j]? = xs[i + j]?) → I i env st → wp (forLoop body gs ys env st) Q := by
    intro ys
    induction ys with
    | nil =>
      intro i env st hl hy hi
      unfold forLoop
      have e : i = xs.length := by simpa using hl
      subst e
      obtain ⟨g, q⟩ := done env st hi
      rw [if_pos g, wp_some]
      exact q
    | cons y ys ih =>
      intro i env st hl hy hi
      unfold forLoop
      obtain ⟨g, q⟩ := step i y env st (by have := hy 0; rw [Nat.add_zero] at this; rw [← this]; rfl) hi
      rw [if_pos g, wp_bind]
      refine wp_mono q fun o s hq => ?_
      cases o with
      | nx env => exact ih (i + 1) env s (by rw [← hl, List.length_cons]; omega) (fun j => by have := hy (j + 1); rw [List.getElem?_cons_succ] at this; rw [this]; congr 1; omega) hq
      | ct env => exact ih (i + 1) env s (by rw [← hl, List.length_cons]; omega) (fun j => by have := hy (j + 1); rw [List.getElem?_cons_succ] at this; rw [this]; congr 1; omega) hq
      | bk env => exact (wp_some ..).mpr hq
      | rt v => exact (wp_some ..).mpr hq
  exact go xs 0 env st (by omega) (fun j => by rw [Nat.zero_add]) h0
theorem wp_whileLoop (I : Nat → Env → Sto → Prop) {c : Env → Sto → Res Bool} {body : Env → Sto → Res Out} (step : ∀ n env st, I n env st → wp (c env st) fun b s => if b then ∃ m, n = m + 1 ∧ wp (body env s) (turnQ (I m) Q) else Q (.nx env) s) :
    ∀ (n w : Nat) (env : Env) (st : Sto), n < w → I n env st → wp (whileLoop c body w env st) Q := by
  intro n w
  induction w generalizing n with
  | zero => intro env st h; omega
  | succ w ih =>
    intro env st h hi
    unfold whileLoop
    rw [wp_bind]
    refine wp_mono (step n env st hi) fun b s hb => ?_
    cases b with
    | false =>
      simp only [Bool.false_eq_true, if_false] at hb ⊢
      exact (wp_some ..).mpr hb
    | true =>
      simp only [if_true] at hb ⊢
      obtain ⟨m, rfl, hb⟩ := hb
      rw [wp_bind]
      refine wp_mono hb fun o s hq => ?_
      cases o with
      | nx env => exact ih m env s (by omega) hq
      | ct env => exact ih m env s (by omega) hq
      | bk env => exact (wp_some ..).mpr hq
      | rt v => exact (wp_some ..).mpr hq
end
theorem wp_compLoop {Q : List PV × Bool → Sto → Prop} (I : Nat → List PV → Sto → Prop) {turn : PV → List PV → Sto → Res (List PV × Bool)} {gs : List (Nat × List PV)} {xs : List PV} {acc : List PV} {st : Sto} (h0 : I 0 acc st)
    (step : ∀ i x acc st, xs[i]? = some x → I i acc st → gsOk st gs = true ∧ wp (turn x acc st) fun r s => if r.2 then Q r s else I (i + 1) r.1 s) (done : ∀ acc st, I xs.length acc st → gsOk st gs = true ∧ Q (acc, false) st) : wp (compLoop turn gs xs acc st) Q := by
  have go : ∀ (ys : List PV) (i : Nat) (acc : List PV) (st : Sto), i + ys.length = xs.length → (∀ j, ys[j]? = xs[i + j]?) → I i acc st → wp (compLoop turn gs ys acc st) Q := by
    intro ys
    induction ys with
    | nil =>
      intro i acc st hl hy hi
      unfold compLoop
      have e : i = xs.length := by simpa using hl
      subst e
      obtain ⟨g, q⟩ := done acc st hi
      rw [if_pos g, wp_some]
      exact q
    | cons y ys ih =>
      intro i acc st hl hy hi
      unfold compLoop
      obtain ⟨g, q⟩ := step i y acc st (by have := hy 0; rw [Nat.add_zero] at this; rw [← this]; rfl) hi
      rw [if_pos g, wp_bind]
      refine wp_mono q fun r s hq => ?_
      obtain ⟨r1, r2⟩ := r
      cases r2 with
      | true => exact (wp_some ..).mpr hq
      | false => exact ih (i + 1) r1 s (by rw [← hl, List.length_cons]; omega) (fun j => by have := hy (j + 1); rw [List.getElem?_cons_succ] at this; rw [this]; congr 1; omega) hq
  exact go xs 0 acc st (by omega) (fun j => by rw [Nat.zero_add]) h0
/-- what a def's body must leave -/
def retQ (Q : PV → Sto → Prop) : Out → Sto → Prop := fun o s => match o with
  | .nx _ => Q .non s
  | .rt v => Q v s
  | _ => False
theorem retQ_nx (Q : PV → Sto → Prop) (env : Env) (st : Sto) : retQ Q (.nx env) st ↔ Q .non st := Iff.rfl
theorem retQ_rt (Q : PV → Sto → Prop) (v : PV) (st : Sto) : retQ Q (.rt v) st ↔ Q v st := Iff.rfl
section
variable {P : Str → Option Fn} {G : Str → Option PV} {w k : Nat} {f : Str} {as : List PV} {st : Sto} {Q : PV → Sto → Prop}
/-- a call of a def -/
theorem wp_callF {fn : Fn} (hP : P f = some fn) (hl : as.length = fn.np) (h : wp (exSs (callF P G w k) G w fn.body (as.map some ++ List.replicate (fn.nv - fn.np) none) st) (retQ Q)) :
    wp (callF P G w (k + 1) f as st) Q := by
  unfold callF
  rw [hP]
  simp only
  rw [if_pos hl, wp_bind]
  refine wp_mono h fun o s hq => ?_
  cases o with
  | nx env => exact (wp_some ..).mpr hq
  | rt v => exact (wp_some ..).mpr hq
  | bk env => exact hq.elim
  | ct env => exact hq.elim
end

/-! ### operators -/
section
variable (st : Sto) (Q : PV → Sto → Prop) (i j : Int)
theorem wp_add : wp (bin .add (.int i) (.int j) st) Q ↔ Q (.int (i + j)) st := wp_some ..
theorem wp_sub : wp (bin .sub (.int i) (.int j) st) Q ↔ Q (.int (i - j)) st := wp_some ..
theorem wp_mul : wp (bin .mul (.int i) (.int j) st) Q ↔ mulOk i j = true ∧ Q (.int (i * j)) st := by
  show wp (if mulOk i j then some (PV.int (i * j), st) else none) Q ↔ _
  rw [wp_ite]
  by_cases h : mulOk i j = true
  · rw [if_pos h, wp_some]; exact ⟨fun q => ⟨h, q⟩, fun q => q.2⟩
  · rw [if_neg h, wp_none]; exact ⟨False.elim, fun q => h q.1⟩
theorem wp_fdiv : wp (bin .fdiv (.int i) (.int j) st) Q ↔ (j ≠ 0 ∧ j.natAbs.log2 < 9000) ∧ Q (.int (i.fdiv j)) st := by
  show wp (if j ≠ 0 ∧ j.natAbs.log2 < 9000 then some (PV.int (i.fdiv j), st) else none) Q ↔ _
  rw [wp_ite]
  by_cases h : j ≠ 0 ∧ j.natAbs.log2 < 9000
  · rw [if_pos h, wp_some]; exact ⟨fun q => ⟨h, q⟩, fun q => q.2⟩
  · rw [if_neg h, wp_none]; exact ⟨False.elim, fun q => h q.1⟩
theorem wp_mod : wp (bin .mod (.int i) (.int j) st) Q ↔ j ≠ 0 ∧ Q (.int (i.fmod j)) st := by
  show wp (if j ≠ 0 then some (PV.int (i.fmod j), st) else none) Q ↔ _
  rw [wp_ite]
  by_cases h : j ≠ 0
  · rw [if_pos h, wp_some]; exact ⟨fun q => ⟨h, q⟩, fun q => q.2⟩
  · rw [if_neg h, wp_none]; exact ⟨False.elim, fun q => h q.1⟩
theorem wp_pow : wp (bin .pow (.int i) (.int j) st) Q ↔ (0 ≤ j ∧ j ≤ 1000000 ∧ i.natAbs < 2 ^ 64) ∧ Q (.int (i ^ j.toNat)) st := by
  show wp (if 0 ≤ j ∧ j ≤ 1000000 ∧ i.natAbs < 2 ^ 64 then some (PV.int (i ^ j.toNat), st) else none) Q ↔ _
  rw [wp_ite]
  by_cases h : 0 ≤ j ∧ j ≤ 1000000 ∧ i.natAbs < 2 ^ 64
  · rw [if_pos h, wp_some]; exact ⟨fun q => ⟨h, q⟩, fun q => q.2⟩
  · rw [if_neg h, wp_none]; exact ⟨False.elim, fun q => h q.1⟩
theorem wp_addT (xs ys : List PV) : wp (bin .add (.tup xs) (.tup ys) st) Q ↔ (xs ++ ys).length ≤ LIM ∧ Q (.tup (xs ++ ys)) st := wp_mkT ..
theorem wp_addL (n m : Nat) : wp (bin .add (.loc n) (.loc m) st) Q ↔ ∃ xs, getM st n = some xs ∧ ∃ ys, getM st m = some ys ∧ (xs ++ ys).length ≤ LIM ∧ Q (.loc st.length) (st ++ [.lst (xs ++ ys)]) := by
  show wp (match getM st n, getM st m with | some xs, some ys => newL (xs ++ ys) st | _, _ => none) Q ↔ _
  cases getM st n with
  | none => simp [wp_none]
  | some xs =>
    cases getM st m with
    | none => simp [wp_none]
    | some ys => simp [wp_newL]
theorem wp_mulL (n : Nat) : wp (bin .mul (.loc n) (.int i) st) Q ↔ ∃ xs, getM st n = some xs ∧ (0 ≤ i ∧ i ≤ 1000000 ∧ xs.length * i.toNat ≤ LIM) ∧ (rep i.toNat xs).length ≤ LIM ∧ Q (.loc st.length) (st ++ [.lst (rep i.toNat xs)]) := by
  show wp (match getM st n with | some xs => if 0 ≤ i ∧ i ≤ 1000000 ∧ xs.length * i.toNat ≤ LIM then newL (rep i.toNat xs) st else none | none => none) Q ↔ _
  cases getM st n with
  | none => simp [wp_none]
  | some xs =>
    simp only [Option.some.injEq, exists_eq_left', wp_ite, wp_newL, wp_none]
    by_cases h : 0 ≤ i ∧ i ≤ 1000000 ∧ xs.length * i.toNat ≤ LIM
    · simp only [if_pos h]; exact ⟨fun q => ⟨h, q⟩, fun q => q.2⟩
    · simp only [if_neg h]; exact ⟨False.elim, fun q => h q.1⟩
theorem wp_mulT (xs : List PV) : wp (bin .mul (.tup xs) (.int i) st) Q ↔ (xs ≠ [] ∧ 2 ≤ i ∧ i ≤ 1000 ∧ xs.length ≤ 1000) ∧ Q (.tup (rep i.toNat xs)) st := by
  show wp (if xs ≠ [] ∧ 2 ≤ i ∧ i ≤ 1000 ∧ xs.length ≤ 1000 then some (PV.tup (rep i.toNat xs), st) else none) Q ↔ _
  rw [wp_ite]
  by_cases h : xs ≠ [] ∧ 2 ≤ i ∧ i ≤ 1000 ∧ xs.length ≤ 1000
  · rw [if_pos h, wp_some]; exact ⟨fun q => ⟨h, q⟩, fun q => q.2⟩
  · rw [if_neg h, wp_none]; exact ⟨False.elim, fun q => h q.1⟩
theorem cmp_lt : cmp .lt (.int i) (.int j) st = some (decide (i < j)) := rfl
theorem cmp_le : cmp .le (.int i) (.int j) st = some (decide (i ≤ j)) := rfl
theorem cmp_gt : cmp .gt (.int i) (.int j) st = some (decide (j < i)) := rfl
theorem cmp_ge : cmp .ge (.int i) (.int j) st = some (decide (j ≤ i)) := rfl
theorem cmp_eqi : cmp .eq (.int i) (.int j) st = some (decide (i = j)) := rfl
theorem cmp_nei : cmp .ne (.int i) (.int j) st = some (!decide (i = j)) := rfl
theorem cmp_eq (a b : PV) : cmp .eq a b st = eqv st a b := rfl
theorem cmp_ne (a b : PV) : cmp .ne a b st = (eqv st a b).map (!·) := rfl
theorem tr_bl (b : Bool) : truth st (.bl b) = some b := rfl
theorem tr_int : truth st (.int i) = some (i != 0) := rfl
theorem tr_tup (xs : List PV) : truth st (.tup xs) = some (!xs.isEmpty) := rfl
theorem tr_non : truth st .non = some false := rfl
theorem it_tup (xs : List PV) : items st (.tup xs) = some xs := rfl
theorem it_loc (n : Nat) : items st (.loc n) = getL st n := rfl
theorem wk_tup (xs : List PV) : wkV st (.tup xs) = some ⟨xs, []⟩ := rfl
theorem gs_nil : gsOk st [] = true := rfl
theorem ex_some {α : Type} (a : α) (p : α → Prop) : (∃ v, some a = some v ∧ p v) ↔ p a := ⟨fun ⟨_, e, h⟩ => by cases e; exact h, fun h => ⟨a, rfl, h⟩⟩
theorem ex_int (a : Int) (p : Int → Prop) : (∃ v, PV.int a = PV.int v ∧ p v) ↔ p a := ⟨fun ⟨_, e, h⟩ => by cases e; exact h, fun h => ⟨a, rfl, h⟩⟩
end
theorem getL_mono {st st' : Sto} (p : st <+: st') {n : Nat} {xs : List PV} (h : getL st n = some xs) : getL st' n = some xs := by
  obtain ⟨t, rfl⟩ := p
  unfold getL at h ⊢
  cases e : st[n]? with
  | none => rw [e] at h; cases h
  | some o => rw [List.getElem?_append_left (List.getElem?_eq_some_iff.mp e).1, e]; rw [e] at h; exact h
theorem getM_mono {st st' : Sto} (p : st <+: st') {n : Nat} {xs : List PV} (h : getM st n = some xs) : getM st' n = some xs := by
  obtain ⟨t, rfl⟩ := p
  unfold getM at h ⊢
  cases e : st[n]? with
  | none => rw [e] at h; cases h
  | some o => rw [List.getElem?_append_left (List.getElem?_eq_some_iff.mp e).1, e]; rw [e] at h; exact h
theorem getL_of_M {st : Sto} {n : Nat} {xs : List PV} (h : getM st n = some xs) : getL st n = some xs := by
  unfold getM at h
  unfold getL
  split at h
  · rename_i ys e; rw [e]; exact h
  · cases h
mutual
theorem beq_refl : ∀ a : PV, PV.beq a a = true
  | .non => by unfold PV.beq; rfl
  | .bl b => by unfold PV.beq; simp
  | .int i => by unfold PV.beq; simp
  | .str s => by unfold PV.beq; simp
  | .tup xs => by unfold PV.beq; exact beqs_refl xs
  | .loc n => by unfold PV.beq; simp
theorem beqs_refl : ∀ a : List PV, PV.beqs a a = true
  | [] => by unfold PV.beqs; rfl
  | x :: xs => by unfold PV.beqs; rw [beq_refl x, beqs_refl xs]; rfl
end
theorem gs_one {st : Sto} {n : Nat} {xs : List PV} (h : getL st n = some xs) : gsOk st [(n, xs)] = true := by
  unfold gsOk
  simp only [List.all_cons, List.all_nil, h, beqs_refl, Bool.and_true]
theorem wk_loc {st : Sto} {n : Nat} {xs : List PV} (h : getL st n = some xs) : wkV st (.loc n) = some ⟨xs, [(n, xs)]⟩ := by
  show (match getL st n with | some xs => some (⟨xs, [(n, xs)]⟩ : Wk) | none => none) = _
  rw [h]
/-- all the rules for expressions -/
def ev := And.intro @wp_some <| And.intro @wp_none <| And.intro @wp_bind <| And.intro @wp_ite <| And.intro @wp_non <| And.intro @wp_bl <| And.intro @wp_int <| And.intro @wp_str <| And.intro @wp_var <| And.intro @wp_glo <| And.intro @wp_tup <|
  And.intro @wp_mkT <| And.intro @wp_newL <| And.intro @wp_lst <| And.intro @wp_bin <| And.intro @wp_neg <| And.intro @wp_not <| And.intro @wp_and <| And.intro @wp_or <| And.intro @wp_truthR <| And.intro @wp_of <| And.intro @wp_ifx <|
  And.intro @wp_cmp <| And.intro @wp_chn <| And.intro @wp_ix <| And.intro @wp_sl <| And.intro @wp_oN <| And.intro @wp_oS <| And.intro @wp_rev <| And.intro @wp_call <| And.intro @wp_callk <| And.intro @wp_bi <| And.intro @wp_rngv <| And.intro @wp_isa <|
  And.intro @wp_mt <| And.intro @wp_nil <| And.intro @wp_cons <| And.intro @wp_comp <| And.intro @wp_turn <| And.intro @wp_ifs0 <| And.intro @wp_ifs <| And.intro @wp_iv <| And.intro @wp_irng <| And.intro @wp_ienum <| And.intro @wp_izip <|
  And.intro @wp_tnm <| And.intro @wp_ttup <| And.intro @wp_ts0 <| And.intro @wp_ts <| And.intro @wp_tsub <| And.intro @wp_ss0 <| And.intro @wp_ss <| And.intro @seqQ_nx <| And.intro @seqQ_rt <| And.intro @seqQ_bk <| And.intro @seqQ_ct <|
  And.intro @wp_asg <| And.intro @wp_aug <| And.intro @wp_expr <| And.intro @wp_ret <| And.intro @wp_retn <| And.intro @wp_ite_s <| And.intro @wp_for_s <| And.intro @wp_fBody <| And.intro @wp_while_s <| And.intro @wp_brk <| And.intro @wp_cnt <| And.intro @wp_pass <|
  And.intro @retQ_nx <| And.intro @retQ_rt <| And.intro @turnQ_nx <| And.intro @turnQ_ct <| And.intro @turnQ_bk <| And.intro @turnQ_rt <|
  And.intro @wp_add <| And.intro @wp_sub <| And.intro @wp_mul <| And.intro @wp_fdiv <| And.intro @wp_mod <| And.intro @wp_pow <| And.intro @wp_addT <| And.intro @wp_addL <| And.intro @wp_mulL <| And.intro @wp_mulT <|
  And.intro @cmp_lt <| And.intro @cmp_le <| And.intro @cmp_gt <| And.intro @cmp_ge <| And.intro @cmp_eqi <| And.intro @cmp_nei <| And.intro @tr_bl <| And.intro @tr_int <| And.intro @tr_tup <| And.intro @tr_non <|
  And.intro @it_tup <| And.intro @it_loc <| And.intro @wk_tup <| And.intro @gs_nil <| And.intro @ex_some <| And.intro @ex_int <|
  And.intro @getV_zero <| And.intro @getV_succ <| And.intro @setV_zero <| And.intro @setV_succ <| And.intro @wipe_nil <| And.intro @wipe_cons <| And.intro @set_zero @set_succ
end Mp
set_option Elab.async false
set_option linter.all false
set_option maxRecDepth 100000
/-! MpFr: fractions. -/
namespace Mp
open PySem

/-! ### sizes of numbers -/
def bd (p : Nat) (a : Int) : Prop := a.natAbs < 2 ^ p
theorem bd_mono {p q : Nat} {a : Int} (h : bd p a) (e : p ≤ q) : bd q a := Nat.lt_of_lt_of_le h (Nat.pow_le_pow_right (by decide) e)
theorem bd_add {p q : Nat} {a b : Int} (h : bd p a) (k : bd q b) : bd (p + q + 1) (a + b) := by
  have h1 : bd (p + q) a := bd_mono h (by omega)
  have h2 : bd (p + q) b := bd_mono k (by omega)
  unfold bd at *
  rw [Nat.pow_succ]
  omega
theorem bd_add' {p : Nat} {a b : Int} (h : bd p a) (k : bd p b) : bd (p + 1) (a + b) := by
  unfold bd at *
  rw [Nat.pow_succ]
  omega
theorem bd_neg {p : Nat} {a : Int} (h : bd p a) : bd p (-a) := by
  unfold bd at *
  rw [Int.natAbs_neg]
  exact h
theorem bd_sub' {p : Nat} {a b : Int} (h : bd p a) (k : bd p b) : bd (p + 1) (a - b) := by
  rw [Int.sub_eq_add_neg]
  exact bd_add' h (bd_neg k)
theorem bd_mul {p q : Nat} {a b : Int} (h : bd p a) (k : bd q b) : bd (p + q) (a * b) := by
  unfold bd at *
  rw [Int.natAbs_mul, Nat.pow_add]
  exact Nat.mul_lt_mul_of_lt_of_lt h k
theorem bd_nat {p n : Nat} (h : n < 2 ^ p) : bd p (n : Int) := by
  unfold bd
  rw [Int.natAbs_natCast]
  exact h
theorem log_bd {p : Nat} {a : Int} (h : bd p a) : a.natAbs.log2 ≤ p := by
  by_cases z : a.natAbs = 0
  · rw [z]; exact Nat.zero_le _
  · exact Nat.le_of_lt ((Nat.log2_lt z).mpr h)
theorem mulOk_bd {p q : Nat} {a b : Int} (h : bd p a) (k : bd q b) (e : p + q < 100000000) : mulOk a b = true := by
  have h1 := log_bd h
  have h2 := log_bd k
  unfold mulOk
  rw [decide_eq_true_eq]
  omega
theorem bd_of_le {p : Nat} {a b : Int} (h : bd p b) (e : a.natAbs ≤ b.natAbs) : bd p a := Nat.lt_of_le_of_lt e h

/-! ### fractions -/
def fr (r : Rat) : PV := .tup [.int r.num, .int r.den]
def Bq (p : Nat) (r : Rat) : Prop := bd p r.num ∧ r.den < 2 ^ p
theorem Bq.mono {p q : Nat} {r : Rat} (h : Bq p r) (e : p ≤ q) : Bq q r := ⟨bd_mono h.1 e, Nat.lt_of_lt_of_le h.2 (Nat.pow_le_pow_right (by decide) e)⟩
theorem Bq.den {p : Nat} {r : Rat} (h : Bq p r) : bd p (r.den : Int) := bd_nat h.2
theorem num_le (n d : Int) : (Rat.divInt n d).num.natAbs ≤ n.natAbs := by
  rw [Rat.num_divInt]
  refine Nat.le_trans (Int.natAbs_ediv_le_natAbs _ _) ?_
  rw [Int.natAbs_mul, Int.natAbs_sign]
  split <;> omega
theorem den_le (n d : Int) (h : d ≠ 0) : (Rat.divInt n d).den ≤ d.natAbs := by
  rw [Rat.den_divInt, if_neg h]
  exact Nat.div_le_self ..
theorem Bq_div {p : Nat} {n d : Int} (h : bd p n) (k : bd p d) (z : d ≠ 0) : Bq p (Rat.divInt n d) :=
  ⟨bd_of_le h (num_le n d), Nat.lt_of_le_of_lt (den_le n d z) k⟩
theorem add_eq (a b : Rat) : a + b = Rat.divInt (a.num * b.den + b.num * a.den) (a.den * b.den) := by
  rw [Rat.add_def', ← Rat.divInt_ofNat, Int.natCast_mul]
theorem sub_eq (a b : Rat) : a - b = Rat.divInt (a.num * b.den - b.num * a.den) (a.den * b.den) := by
  rw [Rat.sub_def', ← Rat.divInt_ofNat, Int.natCast_mul]
theorem mul_eq (a b : Rat) : a * b = Rat.divInt (a.num * b.num) (a.den * b.den) := by
  rw [Rat.mul_def', ← Rat.divInt_ofNat, Int.natCast_mul]
theorem dd_ne (a b : Rat) : (a.den : Int) * b.den ≠ 0 := Int.mul_ne_zero (by have := a.den_pos; omega) (by have := b.den_pos; omega)
theorem Bq_add {p q : Nat} {a b : Rat} (h : Bq p a) (k : Bq q b) : Bq (p + q + 1) (a + b) := by
  rw [add_eq]
  refine Bq_div (bd_add' (bd_mul h.1 k.den) ?_) (bd_mono (bd_mul h.den k.den) (by omega)) (dd_ne a b)
  have := bd_mul k.1 h.den
  rw [Nat.add_comm] at this
  exact this
theorem Bq_sub {p q : Nat} {a b : Rat} (h : Bq p a) (k : Bq q b) : Bq (p + q + 1) (a - b) := by
  rw [sub_eq]
  refine Bq_div (bd_sub' (bd_mul h.1 k.den) ?_) (bd_mono (bd_mul h.den k.den) (by omega)) (dd_ne a b)
  have := bd_mul k.1 h.den
  rw [Nat.add_comm] at this
  exact this
theorem Bq_mul {p q : Nat} {a b : Rat} (h : Bq p a) (k : Bq q b) : Bq (p + q) (a * b) := by
  rw [mul_eq]
  exact Bq_div (bd_mul h.1 k.1) (bd_mul h.den k.den) (dd_ne a b)
/-- the two parts by floor division through a common divisor with the sign of the bottom -/
theorem fdiv_nat (a : Int) (g : Nat) : a.fdiv (g : Int) = a / (g : Int) := Int.fdiv_eq_ediv_of_nonneg _ (Int.natCast_nonneg _)
theorem parts_pos (n d : Int) (h : 0 < d) : (n.fdiv (Int.gcd n d) = (Rat.divInt n d).num) ∧ (d.fdiv (Int.gcd n d) = ((Rat.divInt n d).den : Int)) := by
  rw [fdiv_nat, fdiv_nat, Rat.num_divInt, Rat.den_divInt, if_neg (by omega), Int.sign_eq_one_of_pos h, Int.one_mul, Int.gcd_comm d n]
  refine ⟨rfl, ?_⟩
  obtain ⟨m, rfl⟩ := Int.eq_ofNat_of_zero_le (Int.le_of_lt h)
  rw [Int.natCast_ediv]
  rfl
theorem parts_neg (n d : Int) (h : d < 0) : (n.fdiv (-(Int.gcd n d : Int)) = (Rat.divInt n d).num) ∧ (d.fdiv (-(Int.gcd n d : Int)) = ((Rat.divInt n d).den : Int)) := by
  have h0 : (Int.gcd n d : Int) = (Int.gcd (-n) (-d) : Int) := by rw [Int.gcd_neg, Int.neg_gcd]
  have e : Rat.divInt n d = Rat.divInt (-n) (-d) := (Rat.neg_divInt_neg n d).symm
  obtain ⟨a, b⟩ := parts_pos (-n) (-d) (by omega)
  rw [e, ← a, ← b, h0]
  refine ⟨?_, ?_⟩
  · generalize (Int.gcd (-n) (-d) : Int) = g
    rw [← Int.neg_fdiv_neg n (-g), Int.neg_neg]
  · generalize (Int.gcd (-n) (-d) : Int) = g
    rw [← Int.neg_fdiv_neg d (-g), Int.neg_neg]
theorem gcd_pos (n d : Int) (h : d ≠ 0) : 0 < Int.gcd n d := Int.gcd_pos_of_ne_zero_right _ h
theorem bd_gcd {p : Nat} {n d : Int} (h : bd p d) (z : d ≠ 0) : bd p (Int.gcd n d : Int) := by
  refine bd_nat (Nat.lt_of_le_of_lt ?_ h)
  exact Nat.le_of_dvd (by omega) (Int.gcd_dvd_natAbs_right n d)
theorem lt_iff (a b : Rat) : a < b ↔ a.num * b.den < b.num * a.den := Rat.lt_iff ..
theorem le_iff (a b : Rat) : a ≤ b ↔ a.num * b.den ≤ b.num * a.den := Rat.le_iff ..

/-! ### what is equal -/
mutual
/-- whole numbers, None and tuples of these, n deep -/
def cl : Nat → PV → Bool
  | _, .int _ => true
  | _, .non => true
  | n + 1, .tup xs => clA n xs
  | _, _ => false
def clA : Nat → List PV → Bool
  | _, [] => true
  | n, x :: xs => cl n x && clA n xs
end
theorem clA_all {n : Nat} {xs : List PV} : clA n xs = true ↔ ∀ x ∈ xs, cl n x = true := by
  induction xs with
  | nil => unfold clA; simp
  | cons x xs ih => unfold clA; rw [Bool.and_eq_true, ih]; simp
mutual
theorem cl_dat : ∀ (n : Nat) (a : PV), cl n a = true → ∃ d, dat a = some d ∧ d.canLay0 = true ∧ d.depth ≤ n
  | _, .int i, _ => ⟨.int i, by unfold dat; rfl, rfl, by unfold PyData.depth; exact Nat.zero_le _⟩
  | _, .non, _ => ⟨.none, by unfold dat; rfl, rfl, by unfold PyData.depth; exact Nat.zero_le _⟩
  | n + 1, .tup xs, h => by
    unfold cl at h
    obtain ⟨ds, e, l, m⟩ := clA_dat n xs h
    exact ⟨.tuple ds, by unfold dat; rw [e]; rfl, by unfold PyData.canLay0; exact l, by unfold PyData.depth; omega⟩
  | 0, .tup xs, h => by unfold cl at h; cases h
  | _, .bl b, h => by unfold cl at h; cases h
  | _, .str b, h => by unfold cl at h; cases h
  | _, .loc b, h => by unfold cl at h; cases h
theorem clA_dat : ∀ (n : Nat) (a : List PV), clA n a = true → ∃ d, datAll a = some d ∧ PyData.canLayAll0 d = true ∧ PyData.depthAll d ≤ n
  | _, [], _ => ⟨[], by unfold datAll; rfl, rfl, by unfold PyData.depthAll; exact Nat.zero_le _⟩
  | n, x :: xs, h => by
    unfold clA at h
    rw [Bool.and_eq_true] at h
    obtain ⟨d, e, l, m⟩ := cl_dat n x h.1
    obtain ⟨ds, e', l', m'⟩ := clA_dat n xs h.2
    exact ⟨d :: ds, by unfold datAll; rw [e, e'], by unfold PyData.canLayAll0; rw [l, l']; rfl, by unfold PyData.depthAll; omega⟩
end
mutual
theorem eqv_cl : ∀ (n m : Nat) (a b : PV) (d e : PyData), cl n a = true → cl m b = true → dat a = some d → dat b = some e → PyData.eqv d e = PV.beq a b
  | n, m, .int i, b, d, e, h1, h2, h3, h4 => by
    unfold dat at h3; cases h3
    cases b with
    | int j => unfold dat at h4; cases h4; unfold PyData.eqv PV.beq; rfl
    | non => unfold dat at h4; cases h4; unfold PyData.eqv PV.beq; rfl
    | tup ys =>
      unfold dat at h4
      obtain ⟨ds, _, rfl⟩ := Option.map_eq_some_iff.mp h4
      unfold PyData.eqv PV.beq; rfl
    | bl b => unfold cl at h2; cases h2
    | str b => unfold cl at h2; cases h2
    | loc b => unfold cl at h2; cases h2
  | n, m, .non, b, d, e, h1, h2, h3, h4 => by
    unfold dat at h3; cases h3
    cases b with
    | int j => unfold dat at h4; cases h4; unfold PyData.eqv PV.beq; rfl
    | non => unfold dat at h4; cases h4; unfold PyData.eqv PV.beq; rfl
    | tup ys =>
      unfold dat at h4
      obtain ⟨ds, _, rfl⟩ := Option.map_eq_some_iff.mp h4
      unfold PyData.eqv PV.beq; rfl
    | bl b => unfold cl at h2; cases h2
    | str b => unfold cl at h2; cases h2
    | loc b => unfold cl at h2; cases h2
  | n, m, .tup xs, b, d, e, h1, h2, h3, h4 => by
    unfold dat at h3
    obtain ⟨ds, h5, rfl⟩ := Option.map_eq_some_iff.mp h3
    cases b with
    | int j => unfold dat at h4; cases h4; unfold PyData.eqv PV.beq; rfl
    | non => unfold dat at h4; cases h4; unfold PyData.eqv PV.beq; rfl
    | tup ys =>
      unfold dat at h4
      obtain ⟨es, h6, rfl⟩ := Option.map_eq_some_iff.mp h4
      cases n with
      | zero => unfold cl at h1; cases h1
      | succ n =>
        cases m with
        | zero => unfold cl at h2; cases h2
        | succ m =>
          unfold cl at h1 h2
          unfold PyData.eqv PV.beq
          exact eqv_clA n m xs ys ds es h1 h2 h5 h6
    | bl b => unfold cl at h2; cases h2
    | str b => unfold cl at h2; cases h2
    | loc b => unfold cl at h2; cases h2
  | n, m, .bl b, _, _, _, h, _, _, _ => by unfold cl at h; cases h
  | n, m, .str b, _, _, _, h, _, _, _ => by unfold cl at h; cases h
  | n, m, .loc b, _, _, _, h, _, _, _ => by unfold cl at h; cases h
theorem eqv_clA : ∀ (n m : Nat) (a b : List PV) (d e : List PyData), clA n a = true → clA m b = true → datAll a = some d → datAll b = some e → PyData.eqvAll d e = PV.beqs a b
  | n, m, [], b, d, e, h1, h2, h3, h4 => by
    unfold datAll at h3; cases h3
    cases b with
    | nil => unfold datAll at h4; cases h4; unfold PyData.eqvAll PV.beqs; rfl
    | cons y ys =>
      unfold datAll at h4
      split at h4
      · cases h4; unfold PyData.eqvAll PV.beqs; rfl
      · cases h4
  | n, m, x :: xs, b, d, e, h1, h2, h3, h4 => by
    unfold datAll at h3
    split at h3
    · rename_i d1 ds e1 e2
      cases h3
      cases b with
      | nil => unfold datAll at h4; cases h4; unfold PyData.eqvAll PV.beqs; rfl
      | cons y ys =>
        unfold datAll at h4
        split at h4
        · rename_i f1 fs e3 e4
          cases h4
          unfold clA at h1 h2
          rw [Bool.and_eq_true] at h1 h2
          unfold PyData.eqvAll PV.beqs
          rw [eqv_cl n m x y d1 f1 h1.1 h2.1 e1 e3, eqv_clA n m xs ys ds fs h1.2 h2.2 e2 e4]
        · cases h4
    · cases h3
end
mutual
theorem beq_iff : ∀ a b : PV, PV.beq a b = true ↔ a = b
  | .non, b => by cases b <;> simp [PV.beq]
  | .bl x, b => by cases b <;> simp [PV.beq]
  | .int x, b => by cases b <;> simp [PV.beq]
  | .str x, b => by cases b <;> simp [PV.beq]
  | .tup x, b => by
    cases b <;> simp [PV.beq]
    exact beqs_iff x _
  | .loc x, b => by cases b <;> simp [PV.beq]
theorem beqs_iff : ∀ a b : List PV, PV.beqs a b = true ↔ a = b
  | [], b => by cases b <;> simp [PV.beqs]
  | x :: xs, b => by
    cases b <;> simp [PV.beqs]
    rw [beq_iff x, beqs_iff xs]
end
instance : DecidableEq PV := fun a b => decidable_of_iff _ (beq_iff a b)
theorem datS_cl {st : Sto} {n : Nat} {a : PV} (h : cl n a = true) : datS st a = dat a := by
  cases a <;> first | rfl | skip
  unfold cl at h; cases h
theorem eqv_eq {st : Sto} {a b : PV} (h1 : cl 60 a = true) (h2 : cl 60 b = true) : eqv st a b = some (decide (a = b)) := by
  obtain ⟨d, e1, l1, m1⟩ := cl_dat 60 a h1
  obtain ⟨e, e2, l2, m2⟩ := cl_dat 60 b h2
  unfold eqv
  rw [datS_cl h1, datS_cl h2, e1, e2]
  simp only
  have s1 : SeqAt.shaped d = true := by unfold SeqAt.shaped; rw [l1, Bool.true_and, decide_eq_true_eq]; omega
  have s2 : SeqAt.shaped e = true := by unfold SeqAt.shaped; rw [l2, Bool.true_and, decide_eq_true_eq]; omega
  rw [s1, s2, eqv_cl 60 60 a b d e h1 h2 e1 e2]
  simp only [Bool.and_self, if_true, Option.some.injEq]
  rw [Bool.eq_iff_iff, beq_iff, decide_eq_true_eq]
mutual
theorem cl_mono : ∀ {n m : Nat} {a : PV}, cl n a = true → n ≤ m → cl m a = true
  | _, _, .int i, _, _ => by unfold cl; rfl
  | _, _, .non, _, _ => by unfold cl; rfl
  | n + 1, m + 1, .tup xs, h, e => by unfold cl at h ⊢; exact clA_mono h (by omega)
  | n + 1, 0, .tup xs, h, e => by omega
  | 0, _, .tup xs, h, _ => by unfold cl at h; cases h
  | _, _, .bl b, h, _ => by unfold cl at h; cases h
  | _, _, .str b, h, _ => by unfold cl at h; cases h
  | _, _, .loc b, h, _ => by unfold cl at h; cases h
theorem clA_mono : ∀ {n m : Nat} {a : List PV}, clA n a = true → n ≤ m → clA m a = true
  | _, _, [], _, _ => by unfold clA; rfl
  | _, _, x :: xs, h, e => by
    unfold clA at h ⊢
    rw [Bool.and_eq_true] at h ⊢
    exact ⟨cl_mono h.1 e, clA_mono h.2 e⟩
end
theorem cl_fr (r : Rat) : cl 1 (fr r) = true := by unfold fr cl clA clA clA cl; rfl
theorem fr_inj {a b : Rat} (h : fr a = fr b) : a = b := by
  unfold fr at h
  injection h with h
  injection h with h1 h2
  injection h2 with h2 _
  injection h1 with h1
  injection h2 with h2
  exact Rat.ext h1 (by omega)
theorem eqv_fr {st : Sto} (a b : Rat) : eqv st (fr a) (fr b) = some (decide (a = b)) := by
  rw [eqv_eq (cl_mono (cl_fr a) (by omega)) (cl_mono (cl_fr b) (by omega))]
  congr 1
  rw [Bool.eq_iff_iff, decide_eq_true_eq, decide_eq_true_eq]
  exact ⟨fr_inj, fun h => by rw [h]⟩
end Mp
set_option Elab.async false
set_option linter.all false
set_option maxRecDepth 100000
/-! MpLoop: comprehensions and loops over lists of data. -/
namespace Mp
open PySem
theorem fm_single {α β : Type} (f : α → β) : ∀ l : List α, l.flatMap (fun a => [f a]) = l.map f
  | [] => rfl
  | a :: l => by rw [List.flatMap_cons, fm_single f l]; rfl
theorem fm_filter {α β : Type} (p : α → Bool) (f : α → β) : ∀ l : List α, l.flatMap (fun a => if p a then [f a] else []) = (l.filter p).map f
  | [] => rfl
  | a :: l => by
    rw [List.flatMap_cons, List.filter_cons, fm_filter p f l]
    cases p a <;> simp
theorem pre_refl (st : Sto) : st <+: st := List.prefix_rfl
section
variable {α : Type} {turn : PV → List PV → Sto → Res (List PV × Bool)} {gs : List (Nat × List PV)} {xs : List PV} {st : Sto} {Q : List PV × Bool → Sto → Prop}
/-- each item adds f a to what is made -/
theorem wp_compM (l : List α) (e : α → PV) (f : α → List PV) (hx : xs = l.map e) (hg : ∀ s, st <+: s → gsOk s gs = true)
    (step : ∀ a ∈ l, ∀ acc s, st <+: s → wp (turn (e a) acc s) fun r s' => s <+: s' ∧ r = (acc ++ f a, false)) (done : ∀ s, st <+: s → Q (l.flatMap f, false) s) : wp (compLoop turn gs xs [] st) Q := by
  subst hx
  refine wp_compLoop (fun i acc s => st <+: s ∧ acc = (l.take i).flatMap f) ⟨pre_refl _, rfl⟩ ?_ ?_
  · rintro i x acc s hx ⟨p, rfl⟩
    rw [List.getElem?_map] at hx
    obtain ⟨a, ha, rfl⟩ := Option.map_eq_some_iff.mp hx
    refine ⟨hg s p, wp_mono (step a (List.mem_of_getElem? ha) _ s p) ?_⟩
    rintro r s' ⟨p', rfl⟩
    simp only [Bool.false_eq_true, if_false]
    refine ⟨p.trans p', ?_⟩
    rw [List.take_add_one, ha]
    simp
  · rintro acc s ⟨p, rfl⟩
    refine ⟨hg s p, ?_⟩
    rw [List.length_map, List.take_length]
    exact done s p
/-- each item adds one -/
theorem wp_compMap (l : List α) (e : α → PV) (f : α → PV) (hx : xs = l.map e) (hg : ∀ s, st <+: s → gsOk s gs = true)
    (step : ∀ a ∈ l, ∀ acc s, st <+: s → wp (turn (e a) acc s) fun r s' => s <+: s' ∧ r = (acc ++ [f a], false)) (done : ∀ s, st <+: s → Q (l.map f, false) s) : wp (compLoop turn gs xs [] st) Q := by
  refine wp_compM l e (fun a => [f a]) hx hg step fun s p => ?_
  rw [fm_single]
  exact done s p
/-- each item that passes adds one -/
theorem wp_compFilter (l : List α) (e : α → PV) (p : α → Bool) (f : α → PV) (hx : xs = l.map e) (hg : ∀ s, st <+: s → gsOk s gs = true)
    (step : ∀ a ∈ l, ∀ acc s, st <+: s → wp (turn (e a) acc s) fun r s' => s <+: s' ∧ r = (if p a then acc ++ [f a] else acc, false)) (done : ∀ s, st <+: s → Q ((l.filter p).map f, false) s) : wp (compLoop turn gs xs [] st) Q := by
  refine wp_compM l e (fun a => if p a then [f a] else []) hx hg (fun a ha acc s hs => wp_mono (step a ha acc s hs) ?_) fun s q => ?_
  · rintro r s' ⟨h1, rfl⟩
    refine ⟨h1, ?_⟩
    cases p a <;> simp
  rw [fm_filter]
  exact done s q
/-- all(..), any(..): the first that ends it -/
theorem wp_compStop (l : List α) (e : α → PV) (p : α → Bool) (hx : xs = l.map e) (hg : ∀ s, st <+: s → gsOk s gs = true)
    (step : ∀ a ∈ l, ∀ acc s, st <+: s → wp (turn (e a) acc s) fun r s' => s <+: s' ∧ r.2 = p a) (done : ∀ acc s, st <+: s → Q (acc, l.any p) s) : wp (compLoop turn gs xs [] st) Q := by
  subst hx
  refine wp_compLoop (fun i acc s => st <+: s ∧ (l.take i).any p = false) ⟨pre_refl _, rfl⟩ ?_ ?_
  · rintro i x acc s hx ⟨q, hn⟩
    rw [List.getElem?_map] at hx
    obtain ⟨a, ha, rfl⟩ := Option.map_eq_some_iff.mp hx
    refine ⟨hg s q, wp_mono (step a (List.mem_of_getElem? ha) _ s q) ?_⟩
    rintro ⟨r1, r2⟩ s' ⟨p', hr⟩
    simp only at hr
    subst hr
    cases hp : p a with
    | true =>
      simp only [if_true]
      have : l.any p = true := List.any_eq_true.mpr ⟨a, List.mem_of_getElem? ha, hp⟩
      rw [← this]
      exact done _ _ (q.trans p')
    | false =>
      simp only [Bool.false_eq_true, if_false]
      refine ⟨q.trans p', ?_⟩
      rw [List.take_add_one, ha, List.any_append, hn]
      simp [hp]
  · rintro acc s ⟨q, hn⟩
    refine ⟨hg s q, ?_⟩
    rw [List.length_map, List.take_length] at hn
    rw [← hn]
    exact done acc s q
end
section
variable {α : Type} {body : PV → Env → Sto → Res Out} {gs : List (Nat × List PV)} {xs : List PV} {st : Sto} {env : Env} {Q : Out → Sto → Prop}
theorem wp_forM (l : List α) (e : α → PV) (I : Nat → Env → Sto → Prop) (hx : xs = l.map e) (h0 : I 0 env st)
    (step : ∀ i a env s, l[i]? = some a → I i env s → gsOk s gs = true ∧ wp (body (e a) env s) (turnQ (I (i + 1)) Q)) (done : ∀ env s, I l.length env s → gsOk s gs = true ∧ Q (.nx env) s) : wp (forLoop body gs xs env st) Q := by
  subst hx
  refine wp_forLoop I h0 (fun i x env s hx hi => ?_) fun env s hi => done env s (by rw [List.length_map] at hi; exact hi)
  rw [List.getElem?_map] at hx
  obtain ⟨a, ha, rfl⟩ := Option.map_eq_some_iff.mp hx
  exact step i a env s ha hi
end

/-! ### what is walked -/
theorem rangeL_eq : ∀ (n : Nat) (lo : Int), rangeL lo 1 n = (List.range n).map fun i => PV.int (lo + (i : Nat))
  | 0, _ => rfl
  | n + 1, lo => by
    unfold rangeL
    rw [rangeL_eq n, List.range_succ_eq_map, List.map_cons, List.map_map]
    simp only [Int.natCast_zero, Int.add_zero, List.cons.injEq, true_and]
    refine List.map_congr_left fun i _ => ?_
    simp only [Function.comp_apply, Nat.succ_eq_add_one, Int.natCast_add, PV.int.injEq]
    omega
theorem range0 (n : Nat) : rangeL 0 1 n = (List.range n).map fun i => PV.int (i : Nat) := by
  rw [rangeL_eq]
  refine List.map_congr_left fun i _ => ?_
  rw [Int.zero_add]
theorem wkR_nat {n : Nat} (h : n < 4611686018427387904) : wkR [.int (n : Int)] = some ⟨(List.range n).map fun i => PV.int (i : Nat), []⟩ := by
  show (if sm (n : Int) then some (⟨rangeL 0 1 (n : Int).toNat, []⟩ : Wk) else none) = _
  have : sm (n : Int) = true := by unfold sm; rw [decide_eq_true_eq]; omega
  rw [if_pos this, Int.toNat_natCast, range0]
theorem zip2_map {α β : Type} (e : α → PV) (f : β → PV) : ∀ (l : List α) (m : List β), zip2 (l.map e) (m.map f) = (l.zip m).map fun p => PV.tup [e p.1, f p.2]
  | [], _ => rfl
  | _ :: _, [] => rfl
  | a :: l, b :: m => by
    show PV.tup [e a, f b] :: zip2 (l.map e) (m.map f) = _
    rw [zip2_map e f l m]
    rfl
theorem wkZ_tup (xs ys : List PV) (st : Sto) : wkZ st [.tup xs, .tup ys] = some ⟨zip2 xs ys, []⟩ := rfl
theorem intsOf_map {α : Type} (f : α → Int) : ∀ l : List α, intsOf (l.map fun a => PV.int (f a)) = some (l.map f)
  | [] => rfl
  | a :: l => by
    show (intsOf (l.map fun a => PV.int (f a))).map (f a :: ·) = _
    rw [intsOf_map f l]
    rfl
theorem boolsOf_map {α : Type} (f : α → Bool) : ∀ l : List α, boolsOf (l.map fun a => PV.bl (f a)) = some (l.map f)
  | [] => rfl
  | a :: l => by
    show (boolsOf (l.map fun a => PV.bl (f a))).map (f a :: ·) = _
    rw [boolsOf_map f l]
    rfl
theorem ixN_nat {n i : Nat} (h : i < n) : ixN n (i : Int) = some i := by
  unfold ixN
  rw [if_pos (by omega), if_pos (by omega), Int.toNat_natCast]
theorem atI_nat {α : Type} {xs : List α} {i : Nat} {x : α} (h : xs[i]? = some x) : atI xs (i : Int) = some x := by
  unfold atI
  rw [ixN_nat (List.getElem?_eq_some_iff.mp h).1]
  exact h
theorem ix_tup {st : Sto} {xs : List PV} {i : Nat} {x : PV} (h : xs[i]? = some x) : ixV st (.tup xs) (.int (i : Int)) = some x := atI_nat h
theorem ix_loc {st : Sto} {n : Nat} {xs : List PV} {i : Nat} {x : PV} (hl : getL st n = some xs) (h : xs[i]? = some x) : ixV st (.loc n) (.int (i : Int)) = some x := by
  show (match items st (.loc n), PV.int (i : Int) with | some xs, .int k => atI xs k | _, _ => none) = _
  have : items st (.loc n) = some xs := hl
  rw [this]
  exact atI_nat h
theorem ix_fr0 (st : Sto) (r : Rat) : ixV st (fr r) (.int 0) = some (.int r.num) := rfl
theorem ix_fr1 (st : Sto) (r : Rat) : ixV st (fr r) (.int 1) = some (.int r.den) := rfl
theorem len_tup (xs : List PV) (st : Sto) (Q : PV → Sto → Prop) : wp (biV .len [.tup xs] st) Q ↔ Q (.int xs.length) st := wp_some ..
theorem len_loc {n : Nat} {xs : List PV} {st : Sto} (h : getL st n = some xs) (Q : PV → Sto → Prop) : wp (biV .len [.loc n] st) Q ↔ Q (.int xs.length) st := by
  show wp (match items st (.loc n) with | some xs => some (PV.int xs.length, st) | none => none) Q ↔ _
  have : items st (.loc n) = some xs := h
  rw [this]
  exact wp_some ..
theorem tuple_loc {n : Nat} {xs : List PV} {st : Sto} (h : getL st n = some xs) (Q : PV → Sto → Prop) : wp (biV .tuple [.loc n] st) Q ↔ Q (.tup xs) st := by
  show wp (match items st (.loc n) with | some xs => some (PV.tup xs, st) | none => none) Q ↔ _
  have : items st (.loc n) = some xs := h
  rw [this]
  exact wp_some ..
theorem list_loc {n : Nat} {xs : List PV} {st : Sto} (h : getL st n = some xs) (Q : PV → Sto → Prop) : wp (biV .list [.loc n] st) Q ↔ xs.length ≤ LIM ∧ Q (.loc st.length) (st ++ [.lst xs]) := by
  show wp (match items st (.loc n) with | some xs => newL xs st | none => none) Q ↔ _
  have : items st (.loc n) = some xs := h
  rw [this]
  exact wp_newL ..
theorem abs_int (i : Int) (st : Sto) (Q : PV → Sto → Prop) : wp (biV .abs [.int i] st) Q ↔ Q (.int (i.natAbs : Int)) st := by
  show wp (some (PV.int (if i < 0 then -i else i), st)) Q ↔ _
  have : (if i < 0 then -i else i) = (i.natAbs : Int) := by split <;> omega
  rw [this]
  exact wp_some ..
theorem int_int (i : Int) (st : Sto) (Q : PV → Sto → Prop) : wp (biV .int [.int i] st) Q ↔ Q (.int i) st := wp_some ..
theorem int_bl (b : Bool) (st : Sto) (Q : PV → Sto → Prop) : wp (biV .int [.bl b] st) Q ↔ Q (.int (if b then 1 else 0)) st := wp_some ..
theorem getM_last (st : Sto) (xs : List PV) : getM (st ++ [.lst xs]) st.length = some xs := by
  unfold getM
  rw [List.getElem?_append_right (Nat.le_refl _), Nat.sub_self]
  rfl
theorem getL_last (st : Sto) (xs : List PV) : getL (st ++ [.lst xs]) st.length = some xs := getL_of_M (getM_last st xs)
theorem pre_snoc (st : Sto) (o : MO) : st <+: st ++ [o] := List.prefix_append ..
theorem end_tup (xs : List PV) (b : Bool) (st : Sto) (Q : PV → Sto → Prop) : wp (compEnd .tup xs b st) Q ↔ xs.length ≤ LIM ∧ Q (.tup xs) st := wp_mkT ..
theorem end_lst (xs : List PV) (b : Bool) (st : Sto) (Q : PV → Sto → Prop) : wp (compEnd .lst xs b st) Q ↔ xs.length ≤ LIM ∧ Q (.loc st.length) (st ++ [.lst xs]) := wp_newL ..
theorem end_sum (xs : List PV) (b : Bool) (st : Sto) (Q : PV → Sto → Prop) : wp (compEnd .sum xs b st) Q ↔ ∃ is, intsOf xs = some is ∧ Q (.int is.sum) st := by
  show wp (match intsOf xs with | some is => some (PV.int is.sum, st) | none => none) Q ↔ _
  cases intsOf xs <;> simp [wp_none, wp_some]
theorem end_all (xs : List PV) (b : Bool) (st : Sto) (Q : PV → Sto → Prop) : wp (compEnd .all xs b st) Q ↔ Q (.bl (!b)) st := wp_some ..
theorem end_any (xs : List PV) (b : Bool) (st : Sto) (Q : PV → Sto → Prop) : wp (compEnd .any xs b st) Q ↔ Q (.bl b) st := wp_some ..
theorem st_tup (st : Sto) (v : PV) : stops .tup st v = some false := rfl
theorem st_lst (st : Sto) (v : PV) : stops .lst st v = some false := rfl
theorem st_sum (st : Sto) (v : PV) : stops .sum st v = some false := rfl
theorem st_all (st : Sto) (b : Bool) : stops .all st (.bl b) = some (!b) := rfl
theorem st_any (st : Sto) (b : Bool) : stops .any st (.bl b) = some b := rfl
def evs := And.intro @ix_fr0 <| And.intro @ix_fr1 <| And.intro @len_tup <| And.intro @abs_int <| And.intro @int_int <| And.intro @int_bl <| And.intro @end_tup <| And.intro @end_lst <| And.intro @end_sum <| And.intro @end_all <| And.intro @end_any <|
  And.intro @st_tup <| And.intro @st_lst <| And.intro @st_sum <| And.intro @st_all <| And.intro @st_any <| @wkZ_tup
end Mp
set_option Elab.async false
set_option linter.all false
set_option maxRecDepth 100000
/-! MpLib: the functions of fractions. -/
namespace Mp
namespace Lib
open PySem
def B_common : List S := [
  .asg (.tup [(.nm 0), (.nm 1)]) (.tup [(.bi .abs [(.var 0)]), (.bi .abs [(.var 1)])]),
  .while_ (.var 1) [
   .asg (.tup [(.nm 0), (.nm 1)]) (.tup [(.var 1), (.bin .mod (.var 0) (.var 1))])],
  .ret (.var 0)]
def B_ratio : List S := [
  .asg (.nm 2) (.call "common" [(.var 0), (.var 1)]),
  .ite (.cmp .lt (.var 1) (.int 0)) [
   .asg (.nm 2) (.neg (.var 2))] [],
  .ret (.tup [(.bin .fdiv (.var 0) (.var 2)), (.bin .fdiv (.var 1) (.var 2))])]
def B_less : List S := [
  .ret (.cmp .lt (.bin .mul (.ix (.var 0) (.int 0)) (.ix (.var 1) (.int 1))) (.bin .mul (.ix (.var 1) (.int 0)) (.ix (.var 0) (.int 1))))]
def B_bottom_of : List S := [
  .asg (.nm 1) (.int 1),
  .for_ (.nm 2) (.val (.var 0)) [
   .ite (.bin .mod (.var 1) (.ix (.var 2) (.int 1))) [
    .asg (.nm 1) (.bin .mul (.bin .fdiv (.var 1) (.call "common" [(.var 1), (.ix (.var 2) (.int 1))])) (.ix (.var 2) (.int 1)))] []],
  .ret (.var 1)]
def B_tops_over : List S := [
  .ret (.comp .tup [2] (.bin .mul (.ix (.var 2) (.int 0)) (.bin .fdiv (.var 1) (.ix (.var 2) (.int 1)))) [.mk (.nm 2) (.val (.var 0)) []])]
def B_wholes : List S := [
  .asg (.nm 1) (.call "bottom_of" [(.var 0)]),
  .ret (.tup [(.call "tops_over" [(.var 0), (.var 1)]), (.var 1)])]
def B_raw_dot : List S := [
  .asg (.tup [(.nm 2), (.nm 3)]) (.call "wholes" [(.var 0)]),
  .asg (.tup [(.nm 4), (.nm 5)]) (.call "wholes" [(.var 1)]),
  .ret (.tup [(.comp .sum [6, 7] (.bin .mul (.var 6) (.var 7)) [.mk (.tup [(.nm 6), (.nm 7)]) (.zip [(.var 2), (.var 4)]) []]), (.bin .mul (.var 3) (.var 5))])]
def B_dot : List S := [
  .asg (.tup [(.nm 2), (.nm 3)]) (.call "raw_dot" [(.var 0), (.var 1)]),
  .ret (.call "ratio" [(.var 2), (.var 3)])]
def B__law_frac : List S := [
  .ite (.cmp .lt (.var 1) (.int 0)) [
   .asg (.tup [(.nm 0), (.nm 1)]) (.tup [(.bin .sub (.int 0) (.var 0)), (.bin .sub (.int 0) (.var 1))])] [],
  .asg (.tup [(.nm 2), (.nm 3)]) (.tup [(.bi .abs [(.var 0)]), (.var 1)]),
  .for_ (.nm 4) (.rng [(.int 100000)]) [
   .ite (.cmp .eq (.var 3) (.int 0)) [
    .brk] [],
   .asg (.tup [(.nm 2), (.nm 3)]) (.tup [(.var 3), (.bin .sub (.var 2) (.bin .mul (.bin .fdiv (.var 2) (.var 3)) (.var 3)))])],
  .ret (.tup [(.bin .fdiv (.var 0) (.var 2)), (.bin .fdiv (.var 1) (.var 2))])]
def B__law_add : List S := [
  .ret (.call "_law_frac" [(.bin .add (.bin .mul (.ix (.var 0) (.int 0)) (.ix (.var 1) (.int 1))) (.bin .mul (.ix (.var 1) (.int 0)) (.ix (.var 0) (.int 1)))), (.bin .mul (.ix (.var 0) (.int 1)) (.ix (.var 1) (.int 1)))])]
def B__law_less_by : List S := [
  .ret (.call "_law_frac" [(.bin .sub (.bin .mul (.ix (.var 0) (.int 0)) (.ix (.var 1) (.int 1))) (.bin .mul (.ix (.var 1) (.int 0)) (.ix (.var 0) (.int 1)))), (.bin .mul (.ix (.var 0) (.int 1)) (.ix (.var 1) (.int 1)))])]
def B__law_times : List S := [
  .ret (.call "_law_frac" [(.bin .mul (.ix (.var 0) (.int 0)) (.ix (.var 1) (.int 0))), (.bin .mul (.ix (.var 0) (.int 1)) (.ix (.var 1) (.int 1)))])]
def B__law_is_less : List S := [
  .ret (.cmp .lt (.bin .mul (.ix (.var 0) (.int 0)) (.ix (.var 1) (.int 1))) (.bin .mul (.ix (.var 1) (.int 0)) (.ix (.var 0) (.int 1))))]
def B__law_sum : List S := [
  .asg (.nm 1) (.tup [(.int 0), (.int 1)]),
  .for_ (.nm 2) (.val (.var 0)) [
   .asg (.nm 1) (.call "_law_add" [(.var 1), (.var 2)])],
  .ret (.var 1)]

section
variable {P : Str → Option Fn} {G : Str → Option PV} {w k : Nat} {st : Sto} {Q : PV → Sto → Prop}
theorem sp_common (h1 : P "common" = some ⟨2, 2, B_common⟩) {a b : Int} (hw : b.natAbs < w) (h : Q (.int (Int.gcd a b)) st) : wp (callF P G w (k + 1) "common" [.int a, .int b] st) Q := by
  refine wp_callF h1 rfl ?_
  unfold B_common
  simp only [ev, evs, List.map, List.replicate, List.append_nil, List.cons_append, List.nil_append, List.length_cons, List.length_nil, Nat.reduceAdd, Nat.reduceLT, LIM, Nat.reduceLeDiff, true_and, Nat.sub_self]
  refine wp_whileLoop (fun n env s => ∃ x y : Nat, env = [some (.int x), some (.int y)] ∧ s = st ∧ Nat.gcd x y = Int.gcd a b ∧ y ≤ n) ?_ b.natAbs w _ _ hw ⟨a.natAbs, b.natAbs, rfl, rfl, rfl, Nat.le_refl _⟩
  rintro n env s ⟨x, y, rfl, rfl, hg, hy⟩
  simp only [ev, evs]
  by_cases hz : y = 0
  · subst hz
    have : (((0 : Nat) : Int) != 0) = false := rfl
    simp only [this, Bool.false_eq_true, if_false, ev, evs]
    rw [← hg, Nat.gcd_zero_right] at h
    exact h
  · have : ((y : Int) != 0) = true := by simp [hz]
    simp only [this, if_true, ev, evs, List.length_cons, List.length_nil, Nat.reduceAdd, Nat.reduceLT, LIM, Nat.reduceLeDiff, true_and]
    refine ⟨n - 1, by omega, by omega, y, x % y, ?_, ?_, ?_⟩
    · rw [Int.fmod_eq_emod_of_nonneg _ (Int.natCast_nonneg y)]
      rfl
    · rw [← hg, Nat.gcd_comm, ← Nat.gcd_rec, Nat.gcd_comm]
    · have := Nat.mod_lt x (Nat.pos_of_ne_zero hz)
      omega
theorem sp_ratio (h1 : P "common" = some ⟨2, 2, B_common⟩) (h2 : P "ratio" = some ⟨2, 3, B_ratio⟩) {a b : Int} (hb : b ≠ 0) (hw : b.natAbs < w) (hl : bd 8999 b) (h : Q (fr (Rat.divInt a b)) st) : wp (callF P G w (k + 2) "ratio" [.int a, .int b] st) Q := by
  refine wp_callF h2 rfl ?_
  unfold B_ratio
  simp only [ev, evs, List.map, List.replicate, List.append_nil, List.cons_append, List.nil_append, List.length_cons, List.length_nil, Nat.reduceAdd, Nat.reduceLT, LIM, Nat.reduceLeDiff, true_and, Nat.reduceSub]
  refine sp_common h1 hw ?_
  simp only [ev, evs, List.length_cons, List.length_nil, Nat.reduceAdd, Nat.reduceLT, LIM, Nat.reduceLeDiff, true_and]
  have hg := gcd_pos a b hb
  have hgb := log_bd (bd_gcd (n := a) hl hb)
  by_cases hs : b < 0
  · simp only [hs, decide_true, if_true]
    obtain ⟨p1, p2⟩ := parts_neg a b hs
    rw [p1, p2]
    refine ⟨⟨by omega, by rw [Int.natAbs_neg]; omega⟩, ⟨by omega, by rw [Int.natAbs_neg]; omega⟩, h⟩
  · simp only [hs, decide_false, Bool.false_eq_true, if_false]
    obtain ⟨p1, p2⟩ := parts_pos a b (by omega)
    rw [p1, p2]
    exact ⟨⟨by omega, by omega⟩, ⟨by omega, by omega⟩, h⟩
theorem sp_less (h1 : P "less" = some ⟨2, 2, B_less⟩) {p : Nat} {a b : Rat} (ha : Bq p a) (hb : Bq p b) (hp : p ≤ 10000000) (h : Q (.bl (decide (a < b))) st) : wp (callF P G w (k + 1) "less" [fr a, fr b] st) Q := by
  refine wp_callF h1 rfl ?_
  unfold B_less
  simp only [ev, evs, List.map, List.replicate, List.append_nil, List.cons_append, List.nil_append, Nat.sub_self]
  refine ⟨mulOk_bd ha.1 hb.den (by omega), mulOk_bd hb.1 ha.den (by omega), ?_⟩
  have e : decide (a.num * ↑b.den < b.num * ↑a.den) = decide (a < b) := by
    rw [Bool.eq_iff_iff, decide_eq_true_eq, decide_eq_true_eq]
    exact (lt_iff a b).symm
  rw [e]
  exact h
/-- a common bottom of fractions: at least 1, each own bottom divides it -/
structure Bot (l : List Rat) (p : Nat) (B : Nat) : Prop where
  pos : 0 < B
  dvd : ∀ r ∈ l, r.den ∣ B
  bd : B < 2 ^ (p * l.length + 1)
theorem sp_bottom (h1 : P "common" = some ⟨2, 2, B_common⟩) (h2 : P "bottom_of" = some ⟨1, 3, B_bottom_of⟩) {p : Nat} {l : List Rat} (hl : ∀ r ∈ l, Bq p r) (hp : p ≤ 8000) (hw : 2 ^ p ≤ w) (hq : p * l.length + 1 ≤ 10000000) (h : ∀ B, Bot l p B → Q (.int B) st) : wp (callF P G w (k + 2) "bottom_of" [.tup (l.map fr)] st) Q := by
  refine wp_callF h2 rfl ?_
  unfold B_bottom_of
  simp only [ev, evs, List.map, List.replicate, List.append_nil, List.cons_append, List.nil_append, List.length_cons, List.length_nil, Nat.reduceAdd, Nat.reduceLT, LIM, Nat.reduceLeDiff, true_and, Nat.reduceSub]
  refine wp_forM l fr (fun i env s => ∃ (B : Nat) (o : Option PV), env = [some (.tup (l.map fr)), some (.int B), o] ∧ s = st ∧ 0 < B ∧ (∀ r ∈ l.take i, r.den ∣ B) ∧ B < 2 ^ (p * i + 1)) rfl ⟨1, none, rfl, rfl, by decide, fun r hr => by simp at hr, by simp⟩ ?_ ?_
  · rintro i r env s hr ⟨B, o, rfl, rfl, hB, hd, hbd⟩
    have hr' := hl r (List.mem_of_getElem? hr)
    have rp := r.den_pos
    have hdb : r.den < 2 ^ p := hr'.2
    simp only [ev, evs, List.length_cons, List.length_nil, Nat.reduceAdd, Nat.reduceLT, LIM, Nat.reduceLeDiff, true_and]
    refine ⟨by omega, ?_⟩
    have em : Int.fmod (B : Int) (r.den : Int) = ((B % r.den : Nat) : Int) := by rw [Int.fmod_eq_emod_of_nonneg _ (Int.natCast_nonneg _)]; rfl
    rw [em]
    by_cases hz : B % r.den = 0
    · have : (((B % r.den : Nat) : Int) != 0) = false := by simp [hz]
      simp only [this, Bool.false_eq_true, if_false]
      refine ⟨B, some (fr r), rfl, hB, ?_, Nat.lt_of_lt_of_le hbd (Nat.pow_le_pow_right (by decide) (by rw [Nat.mul_add]; omega))⟩
      rw [List.take_add_one, hr]
      intro q hq
      simp only [Option.toList_some, List.mem_append, List.mem_singleton] at hq
      rcases hq with hq | rfl
      · exact hd q hq
      · exact Nat.dvd_of_mod_eq_zero hz
    · have : (((B % r.den : Nat) : Int) != 0) = true := by simp only [bne_iff_ne, ne_eq]; omega
      simp only [this, if_true, ev, evs]
      refine sp_common h1 (by rw [Int.natAbs_natCast]; exact Nat.lt_of_lt_of_le hdb hw) ?_
      have e : Int.gcd (B : Int) (r.den : Int) = Nat.gcd B r.den := rfl
      rw [e]
      have gp : 0 < Nat.gcd B r.den := Nat.gcd_pos_of_pos_left _ hB
      have gl : Nat.gcd B r.den ≤ r.den := Nat.le_of_dvd rp (Nat.gcd_dvd_right ..)
      simp only [ev, evs, List.length_cons, List.length_nil, Nat.reduceAdd, Nat.reduceLT, LIM, Nat.reduceLeDiff, true_and]
      rw [fdiv_nat, ← Int.natCast_ediv, ← Int.natCast_mul]
      have hil : i < l.length := (List.getElem?_eq_some_iff.mp hr).1
      have hpi : p * i ≤ p * l.length := Nat.mul_le_mul_left p (by omega)
      have hbB : bd (p * i + 1) ((B / Nat.gcd B r.den : Nat) : Int) := bd_nat (Nat.lt_of_le_of_lt (Nat.div_le_self ..) hbd)
      refine ⟨⟨by omega, ?_⟩, mulOk_bd hbB hr'.den (by omega), B / Nat.gcd B r.den * r.den, some (fr r), rfl, ?_, ?_, ?_⟩
      · have := log_bd (bd_nat (p := p) (n := Nat.gcd B r.den) (by omega))
        omega
      · exact Nat.mul_pos (Nat.div_pos (Nat.le_of_dvd hB (Nat.gcd_dvd_left ..)) gp) rp
      · have hB2 : B ∣ B / Nat.gcd B r.den * r.den := by
          obtain ⟨c, hc⟩ := Nat.gcd_dvd_right B r.den
          obtain ⟨d, hd'⟩ := Nat.gcd_dvd_left B r.den
          refine ⟨c, ?_⟩
          have h3 : B / Nat.gcd B r.den = d := by
            rw [Nat.div_eq_of_eq_mul_right gp hd']
          rw [h3]
          calc d * r.den = d * (Nat.gcd B r.den * c) := by rw [← hc]
            _ = (Nat.gcd B r.den * d) * c := by rw [← Nat.mul_assoc, Nat.mul_comm d]
            _ = B * c := by rw [← hd']
        rw [List.take_add_one, hr]
        intro q hq
        simp only [Option.toList_some, List.mem_append, List.mem_singleton] at hq
        rcases hq with hq | rfl
        · exact Nat.dvd_trans (hd q hq) hB2
        · exact Nat.dvd_mul_left ..
      · have : B / Nat.gcd B r.den * r.den < 2 ^ (p * i + 1) * 2 ^ p := Nat.mul_lt_mul_of_lt_of_lt (Nat.lt_of_le_of_lt (Nat.div_le_self ..) hbd) hdb
        rw [← Nat.pow_add] at this
        refine Nat.lt_of_lt_of_le this (Nat.pow_le_pow_right (by decide) ?_)
        rw [Nat.mul_add]
        omega
  · rintro env s ⟨B, o, rfl, rfl, hB, hd, hbd⟩
    refine ⟨rfl, ?_⟩
    simp only [ev, evs]
    exact h B ⟨hB, by rw [List.take_length] at hd; exact hd, hbd⟩
/-- so many parts of B -/
def top (B : Nat) (r : Rat) : Int := r.num * (B / r.den : Nat)
theorem top_eq {B : Nat} {r : Rat} (h : r.den ∣ B) : ((top B r : Int) : Rat) = r * B := by
  obtain ⟨c, rfl⟩ := h
  unfold top
  rw [Nat.mul_div_cancel_left _ r.den_pos]
  have h1 : r * (r.den : Rat) = (r.num : Rat) := by
    have e : r = (r.num : Rat) / ((r.den : Int) : Rat) := by rw [← Rat.divInt_eq_div, Rat.num_divInt_den]
    have h0 : (r.den : Rat) ≠ 0 := fun z => r.den_nz (Rat.natCast_eq_zero_iff.mp z)
    have h2 : ((r.den : Int) : Rat) = (r.den : Rat) := Rat.intCast_natCast _
    rw [h2] at e
    grind
  have h3 : ((c : Int) : Rat) = (c : Rat) := Rat.intCast_natCast _
  rw [Rat.intCast_mul, Rat.natCast_mul, h3]
  grind
theorem bd_top {B p q : Nat} {r : Rat} (h : Bq p r) (hB : B < 2 ^ q) : bd (p + q) (top B r) := bd_mul h.1 (bd_nat (Nat.lt_of_le_of_lt (Nat.div_le_self ..) hB))
theorem sp_tops (h1 : P "tops_over" = some ⟨2, 3, B_tops_over⟩) {p q B : Nat} {l : List Rat} (hl : ∀ r ∈ l, Bq p r) (hp : p ≤ 8000) (hB : B < 2 ^ q) (hq : q ≤ 10000000) (hlen : l.length ≤ LIM) (h : Q (.tup (l.map fun r => .int (top B r))) st) : wp (callF P G w (k + 1) "tops_over" [.tup (l.map fr), .int B] st) Q := by
  refine wp_callF h1 rfl ?_
  unfold B_tops_over
  simp only [ev, evs, List.map, List.replicate, List.append_nil, List.cons_append, List.nil_append, List.length_cons, List.length_nil, Nat.reduceAdd, Nat.reduceLT, LIM, Nat.reduceLeDiff, true_and, Nat.reduceSub]
  refine wp_compLoop (fun i acc s => s = st ∧ acc = (l.take i).map fun r => .int (top B r)) ⟨rfl, rfl⟩ ?_ ?_
  · rintro i x acc s hx ⟨rfl, rfl⟩
    rw [List.getElem?_map] at hx
    obtain ⟨r, hr, rfl⟩ := Option.map_eq_some_iff.mp hx
    have hr' := hl r (List.mem_of_getElem? hr)
    have rp := r.den_pos
    simp only [ev, evs, List.length_cons, List.length_nil, Nat.reduceAdd, Nat.reduceLT, LIM, Nat.reduceLeDiff, true_and, if_true, Bool.false_eq_true, if_false]
    rw [fdiv_nat, ← Int.natCast_ediv]
    refine ⟨⟨by omega, ?_⟩, mulOk_bd hr'.1 (bd_nat (Nat.lt_of_le_of_lt (Nat.div_le_self ..) hB)) (by omega), ?_⟩
    · have := log_bd hr'.den
      omega
    · rw [List.take_add_one, hr]
      simp [top]
  · rintro acc s ⟨rfl, rfl⟩
    refine ⟨rfl, ?_⟩
    simp only [ev, evs, List.length_map, List.take_length]
    exact ⟨hlen, h⟩
theorem sp_wholes (h1 : P "common" = some ⟨2, 2, B_common⟩) (h2 : P "bottom_of" = some ⟨1, 3, B_bottom_of⟩) (h3 : P "tops_over" = some ⟨2, 3, B_tops_over⟩) (h4 : P "wholes" = some ⟨1, 2, B_wholes⟩) {p : Nat} {l : List Rat} (hl : ∀ r ∈ l, Bq p r) (hp : p ≤ 8000) (hw : 2 ^ p ≤ w) (hq : p * l.length + 1 ≤ 10000000) (hlen : l.length ≤ LIM)
    (h : ∀ B, Bot l p B → Q (.tup [.tup (l.map fun r => .int (top B r)), .int B]) st) : wp (callF P G w (k + 3) "wholes" [.tup (l.map fr)] st) Q := by
  refine wp_callF h4 rfl ?_
  unfold B_wholes
  simp only [ev, evs, List.map, List.replicate, List.append_nil, List.cons_append, List.nil_append, List.length_cons, List.length_nil, Nat.reduceAdd, Nat.reduceLT, LIM, Nat.reduceLeDiff, true_and, Nat.reduceSub]
  refine sp_bottom h1 h2 hl hp hw hq fun B hB => ?_
  refine sp_tops h3 hl hp hB.bd hq hlen ?_
  exact h B hB
/-- the sum of products -/
def dotR : List Rat → List Rat → Rat
  | a :: as, b :: bs => a * b + dotR as bs
  | _, _ => 0
def dotI (B C : Nat) : List Rat → List Rat → Int
  | a :: as, b :: bs => top B a * top C b + dotI B C as bs
  | _, _ => 0
theorem dotI_eq {B C : Nat} : ∀ {l m : List Rat}, (∀ r ∈ l, r.den ∣ B) → (∀ r ∈ m, r.den ∣ C) → ((dotI B C l m : Int) : Rat) = dotR l m * (B * C)
  | [], m, _, _ => by unfold dotI dotR; grind
  | a :: l, [], _, _ => by unfold dotI dotR; grind
  | a :: l, b :: m, h1, h2 => by
    unfold dotI dotR
    have ih := dotI_eq (l := l) (m := m) (fun r hr => h1 r (List.mem_cons_of_mem _ hr)) (fun r hr => h2 r (List.mem_cons_of_mem _ hr))
    have e1 := top_eq (h1 a (List.mem_cons_self ..))
    have e2 := top_eq (h2 b (List.mem_cons_self ..))
    rw [Rat.intCast_add, Rat.intCast_mul, ih, e1, e2]
    grind
theorem dotI_sum (B C : Nat) : ∀ l m : List Rat, ((l.zip m).map fun p => top B p.1 * top C p.2).sum = dotI B C l m
  | [], _ => rfl
  | _ :: _, [] => rfl
  | a :: l, b :: m => by
    rw [List.zip_cons_cons, List.map_cons, List.sum_cons, dotI_sum B C l m]
    rfl
theorem sp_raw_dot (h1 : P "common" = some ⟨2, 2, B_common⟩) (h2 : P "bottom_of" = some ⟨1, 3, B_bottom_of⟩) (h3 : P "tops_over" = some ⟨2, 3, B_tops_over⟩) (h4 : P "wholes" = some ⟨1, 2, B_wholes⟩) (h5 : P "raw_dot" = some ⟨2, 8, B_raw_dot⟩) {p : Nat} {l m : List Rat}
    (hl : ∀ r ∈ l, Bq p r) (hm : ∀ r ∈ m, Bq p r) (hp : p ≤ 8000) (hw : 2 ^ p ≤ w) (hq : p * l.length + 1 ≤ 1000000) (hq' : p * m.length + 1 ≤ 1000000) (hlen : l.length ≤ LIM) (hlen' : m.length ≤ LIM)
    (h : ∀ B C, Bot l p B → Bot m p C → Q (.tup [.int (dotI B C l m), .int ((B * C : Nat) : Int)]) st) : wp (callF P G w (k + 4) "raw_dot" [.tup (l.map fr), .tup (m.map fr)] st) Q := by
  refine wp_callF h5 rfl ?_
  unfold B_raw_dot
  simp only [ev, evs, List.map, List.replicate, List.append_nil, List.cons_append, List.nil_append, List.length_cons, List.length_nil, Nat.reduceAdd, Nat.reduceLT, LIM, Nat.reduceLeDiff, true_and, Nat.reduceSub]
  refine sp_wholes h1 h2 h3 h4 hl hp hw (by omega) hlen fun B hB => ?_
  simp only [ev, evs, List.length_cons, List.length_nil, Nat.reduceAdd, Nat.reduceLT, LIM, Nat.reduceLeDiff, true_and]
  refine sp_wholes h1 h2 h3 h4 hm hp hw (by omega) hlen' fun C hC => ?_
  simp only [ev, evs, List.length_cons, List.length_nil, Nat.reduceAdd, Nat.reduceLT, LIM, Nat.reduceLeDiff, true_and]
  rw [zip2_map]
  refine wp_compLoop (fun i acc s => s = st ∧ acc = ((l.zip m).take i).map fun p => .int (top B p.1 * top C p.2)) ⟨rfl, rfl⟩ ?_ ?_
  · rintro i x acc s hx ⟨rfl, rfl⟩
    rw [List.getElem?_map] at hx
    obtain ⟨⟨r, q⟩, hr, rfl⟩ := Option.map_eq_some_iff.mp hx
    have hz := List.of_mem_zip (List.mem_of_getElem? hr)
    simp only [ev, evs, List.length_cons, List.length_nil, Nat.reduceAdd, Nat.reduceLT, LIM, Nat.reduceLeDiff, true_and, if_true, Bool.false_eq_true, if_false]
    refine ⟨mulOk_bd (bd_top (hl r hz.1) hB.bd) (bd_top (hm q hz.2) hC.bd) (by omega), ?_⟩
    rw [List.take_add_one, hr]
    simp
  · rintro acc s ⟨rfl, rfl⟩
    refine ⟨rfl, ?_⟩
    simp only [ev, evs, intsOf_map, List.length_map, List.take_length]
    refine ⟨mulOk_bd (bd_nat hB.bd) (bd_nat hC.bd) (by omega), ?_⟩
    rw [dotI_sum, ← Int.natCast_mul]
    exact h B C hB hC
theorem sp_dot (h1 : P "common" = some ⟨2, 2, B_common⟩) (h2 : P "bottom_of" = some ⟨1, 3, B_bottom_of⟩) (h3 : P "tops_over" = some ⟨2, 3, B_tops_over⟩) (h4 : P "wholes" = some ⟨1, 2, B_wholes⟩) (h5 : P "raw_dot" = some ⟨2, 8, B_raw_dot⟩) (h6 : P "ratio" = some ⟨2, 3, B_ratio⟩) (h7 : P "dot" = some ⟨2, 4, B_dot⟩) {p : Nat} {l m : List Rat}
    (hl : ∀ r ∈ l, Bq p r) (hm : ∀ r ∈ m, Bq p r) (hp : p ≤ 8000) (hq : p * l.length + 1 + (p * m.length + 1) ≤ 8000) (hw : 2 ^ (p * l.length + 1 + (p * m.length + 1)) ≤ w) (hw' : 2 ^ p ≤ w) (hlen : l.length ≤ LIM) (hlen' : m.length ≤ LIM)
    (h : Q (fr (dotR l m)) st) : wp (callF P G w (k + 5) "dot" [.tup (l.map fr), .tup (m.map fr)] st) Q := by
  refine wp_callF h7 rfl ?_
  unfold B_dot
  simp only [ev, evs, List.map, List.replicate, List.append_nil, List.cons_append, List.nil_append, List.length_cons, List.length_nil, Nat.reduceAdd, Nat.reduceLT, LIM, Nat.reduceLeDiff, true_and, Nat.reduceSub]
  refine sp_raw_dot h1 h2 h3 h4 h5 hl hm hp hw' (by omega) (by omega) hlen hlen' fun B C hB hC => ?_
  simp only [ev, evs, List.length_cons, List.length_nil, Nat.reduceAdd, Nat.reduceLT, LIM, Nat.reduceLeDiff, true_and]
  have hBC : 0 < B * C := Nat.mul_pos hB.pos hC.pos
  have hlt : B * C < 2 ^ (p * l.length + 1 + (p * m.length + 1)) := by
    rw [Nat.pow_add]
    exact Nat.mul_lt_mul_of_lt_of_lt hB.bd hC.bd
  refine sp_ratio h1 h6 (by omega) (by rw [Int.natAbs_natCast]; omega) (bd_mono (bd_nat hlt) (by omega)) ?_
  have e : Rat.divInt (dotI B C l m) ((B * C : Nat) : Int) = dotR l m := by
    rw [Rat.divInt_eq_div, dotI_eq hB.dvd hC.dvd]
    have : ((((B * C : Nat) : Int) : Rat)) = (B : Rat) * C := by rw [Rat.intCast_natCast, Rat.natCast_mul]
    rw [this]
    have h1 : (B : Rat) ≠ 0 := fun z => by have := hB.pos; have := Rat.natCast_eq_zero_iff.mp z; omega
    have h2 : (C : Rat) ≠ 0 := fun z => by have := hC.pos; have := Rat.natCast_eq_zero_iff.mp z; omega
    grind
  rw [e]
  exact h
end
end Lib
end Mp
set_option Elab.async false
set_option linter.all false
set_option maxRecDepth 100000
/-! L85a: the law's fractions, its pool of numbers. -/
namespace Mp
/-! ### the store -/
theorem setL_len (st : Sto) (n : Nat) (xs : List PV) : (setL st n xs).length = st.length := List.length_set ..
theorem getM_lt {st : Sto} {n : Nat} {xs : List PV} (h : getM st n = some xs) : n < st.length := by
  unfold getM at h
  cases e : st[n]? with
  | none => rw [e] at h; cases h
  | some o => exact (List.getElem?_eq_some_iff.mp e).1
theorem getM_set {st : Sto} {n : Nat} (xs : List PV) (h : n < st.length) : getM (setL st n xs) n = some xs := by
  unfold getM setL
  rw [List.getElem?_set_self h]
theorem getL_set {st : Sto} {n : Nat} (xs : List PV) (h : n < st.length) : getL (setL st n xs) n = some xs := getL_of_M (getM_set xs h)
theorem setL_setL (st : Sto) (n : Nat) (xs ys : List PV) : setL (setL st n xs) n ys = setL st n ys := by
  unfold setL
  rw [List.set_set]
theorem set_ne {st : Sto} {n m : Nat} (xs : List PV) (h : m ≠ n) : (setL st n xs)[m]? = st[m]? := by
  unfold setL
  rw [List.getElem?_set_ne (Ne.symm h)]
theorem pre_set {st s : Sto} {n : Nat} (xs : List PV) (p : st <+: s) (h : st.length ≤ n) : st <+: setL s n xs := by
  obtain ⟨t, rfl⟩ := p
  unfold setL
  rw [List.set_append_right _ _ h]
  exact List.prefix_append ..
/-- all objects but n stay -/
def Kp (n : Nat) (s s' : Sto) : Prop := s.length ≤ s'.length ∧ ∀ k o, k ≠ n → s[k]? = some o → s'[k]? = some o
theorem Kp.refl (n : Nat) (s : Sto) : Kp n s s := ⟨Nat.le_refl _, fun _ _ _ h => h⟩
theorem Kp.trans {n : Nat} {s s' s'' : Sto} (a : Kp n s s') (b : Kp n s' s'') : Kp n s s'' := ⟨Nat.le_trans a.1 b.1, fun k o h e => b.2 k o h (a.2 k o h e)⟩
theorem Kp.pre {n : Nat} {s s' : Sto} (p : s <+: s') : Kp n s s' := by
  obtain ⟨t, rfl⟩ := p
  refine ⟨by simp, fun k o _ e => ?_⟩
  rw [List.getElem?_append_left (List.getElem?_eq_some_iff.mp e).1]
  exact e
theorem Kp.set (n : Nat) (s : Sto) (xs : List PV) : Kp n s (setL s n xs) := ⟨Nat.le_of_eq (setL_len ..).symm, fun k o h e => by rw [set_ne xs h]; exact e⟩
theorem Kp.getL {n k : Nat} {s s' : Sto} {xs : List PV} (a : Kp n s s') (h : k ≠ n) (e : getL s k = some xs) : Mp.getL s' k = some xs := by
  unfold Mp.getL at e ⊢
  cases q : s[k]? with
  | none => rw [q] at e; cases e
  | some o => rw [a.2 k o h q]; rw [q] at e; exact e
theorem Kp.getM {n k : Nat} {s s' : Sto} {xs : List PV} (a : Kp n s s') (h : k ≠ n) (e : getM s k = some xs) : Mp.getM s' k = some xs := by
  unfold Mp.getM at e ⊢
  cases q : s[k]? with
  | none => rw [q] at e; cases e
  | some o => rw [a.2 k o h q]; rw [q] at e; exact e
theorem wp_append {n : Nat} {s : Sto} {xs : List PV} {v : PV} {Q : PV → Sto → Prop} (h : getM s n = some xs) (hl : xs.length < LIM) (q : Q .non (setL s n (xs ++ [v]))) : wp (mtV .append (.loc n) [v] s) Q := by
  show wp (match getM s n with | some xs => if xs.length < LIM then some (PV.non, setL s n (xs ++ [v])) else none | none => none) Q
  rw [h]
  simp only [if_pos hl]
  exact (wp_some ..).mpr q
theorem wp_pop {n i : Nat} {s : Sto} {xs : List PV} {v : PV} {Q : PV → Sto → Prop} (h : getM s n = some xs) (hi : xs[i]? = some v) (q : Q v (setL s n (xs.eraseIdx i))) : wp (mtV .pop (.loc n) [.int (i : Int)] s) Q := by
  show wp (match getM s n with
    | some xs => (match ixN xs.length (i : Int) with
      | some k => (match xs[k]? with
        | some v => some (v, setL s n (xs.eraseIdx k))
        | none => none)
      | none => none)
    | none => none) Q
  rw [h]
  simp only
  rw [ixN_nat (List.getElem?_eq_some_iff.mp hi).1]
  simp only [hi]
  exact (wp_some ..).mpr q
theorem ix5_0 (a b c d e : PV) : atI [a, b, c, d, e] 0 = some a := rfl
theorem ix5_1 (a b c d e : PV) : atI [a, b, c, d, e] 1 = some b := rfl
theorem ix5_2 (a b c d e : PV) : atI [a, b, c, d, e] 2 = some c := rfl
theorem ix5_3 (a b c d e : PV) : atI [a, b, c, d, e] 3 = some d := rfl
theorem ix5_4 (a b c d e : PV) : atI [a, b, c, d, e] 4 = some e := rfl
theorem ixV_loc (st : Sto) (n : Nat) (i : Int) (p : PV → Prop) : (∃ v, ixV st (.loc n) (.int i) = some v ∧ p v) ↔ ∃ xs, getL st n = some xs ∧ ∃ v, atI xs i = some v ∧ p v := by
  have e : ixV st (.loc n) (.int i) = (match getL st n with | some xs => atI xs i | none => none) := by
    show (match items st (.loc n), PV.int i with | some xs, .int k => atI xs k | _, _ => none) = _
    have : items st (.loc n) = getL st n := rfl
    rw [this]
    cases getL st n <;> rfl
  rw [e]
  cases getL st n with
  | none => simp
  | some xs => simp
theorem ix5N_1 : ixN 5 1 = some 1 := rfl
theorem ix5N_2 : ixN 5 2 = some 2 := rfl
theorem ix5N_3 : ixN 5 3 = some 3 := rfl
theorem ix5N_4 : ixN 5 4 = some 4 := rfl
/-- v's places: a list that may be written, an index -/
theorem ex_sub (s : Sto) (n : Nat) (i : Int) (p : Nat → List PV → Nat → Prop) : (∃ n' k xs j, PV.loc n = .loc n' ∧ PV.int i = .int k ∧ getM s n' = some xs ∧ ixN xs.length k = some j ∧ p n' xs j) ↔ ∃ xs, getM s n = some xs ∧ ∃ j, ixN xs.length i = some j ∧ p n xs j := by
  constructor
  · rintro ⟨n', k, xs, j, e1, e2, h⟩
    cases e1
    cases e2
    exact ⟨xs, h.1, j, h.2.1, h.2.2⟩
  · rintro ⟨xs, h1, j, h2, h3⟩
    exact ⟨n, i, xs, j, rfl, rfl, h1, h2, h3⟩
def evt := And.intro @ix5_0 <| And.intro @ix5_1 <| And.intro @ix5_2 <| And.intro @ix5_3 <| And.intro @ix5_4 <| And.intro @ixV_loc <| And.intro @ix5N_1 <| And.intro @ix5N_2 <| And.intro @ix5N_3 <| And.intro @ix5N_4 <| And.intro @ex_sub <| And.intro @setL_setL @setL_len
namespace Lib
open PySem
def B__law_mixed : List S := [
  .asg (.nm 2) (.bin .mod (.bin .add (.bin .add (.bin .mul (.bin .mod (.bi .int [(.var 0)]) (.int 1000003)) (.int 48271)) (.bin .mul (.bin .mod (.bi .int [(.var 1)]) (.int 999983)) (.int 69621))) (.int 12345)) (.int 2147483647)),
  .asg (.nm 3) (.bin .mod (.bin .add (.bin .add (.bin .add (.bin .mul (.var 2) (.var 2)) (.bin .mul (.var 2) (.int 40692))) (.bin .mul (.bin .mod (.bi .int [(.var 1)]) (.int 65537)) (.int 16807))) (.int 7)) (.int 2147483629)),
  .ret (.bin .mod (.bin .add (.bin .mul (.var 3) (.int 48271)) (.bin .fdiv (.var 2) (.int 127))) (.int 2147483647))]
def B__law_pool : List S := [
  .ret (.lst [(.bi .list [(.var 0)]), (.int 0), (.int 0), (.int 0), (.int 0)])]
def B__law_draw : List S := [
  .asg (.nm 2) (.ix (.var 0) (.int 2)),
  .ite (.and (.cmp .lt (.var 2) (.int 2)) (.cmp .lt (.ix (.var 0) (.int 1)) (.bi .len [(.ix (.var 0) (.int 0))]))) [
   .asg (.nm 3) (.ix (.ix (.var 0) (.int 0)) (.ix (.var 0) (.int 1))),
   .asg (.sub (.var 0) (.int 1)) (.bin .add (.ix (.var 0) (.int 1)) (.int 1)),
   .ite (.cmp .ge (.var 3) (.bin .pow (.int 10) (.int 18))) [
    .asg (.nm 2) (.bin .sub (.var 3) (.bin .pow (.int 10) (.int 18))),
    .asg (.sub (.var 0) (.int 2)) (.bin .fdiv (.var 2) (.var 1)),
    .asg (.sub (.var 0) (.int 4)) (.int 60),
    .ret (.bin .mod (.bi .int [(.var 2)]) (.var 1))] [],
   .asg (.sub (.var 0) (.int 3)) (.call "_law_mixed" [(.bin .add (.ix (.var 0) (.int 3)) (.var 3)), (.ix (.var 0) (.int 1))])] [
   .ite (.cmp .lt (.var 2) (.int 2)) [
    .asg (.sub (.var 0) (.int 1)) (.bin .add (.ix (.var 0) (.int 1)) (.int 1)),
    .asg (.sub (.var 0) (.int 3)) (.call "_law_mixed" [(.ix (.var 0) (.int 3)), (.bin .add (.int 77) (.ix (.var 0) (.int 1)))])] [
    .asg (.sub (.var 0) (.int 4)) (.bin .sub (.ix (.var 0) (.int 4)) (.int 1)),
    .asg (.sub (.var 0) (.int 2)) (.bin .mul (.bin .fdiv (.var 2) (.var 1)) (.bi .int [(.cmp .gt (.ix (.var 0) (.int 4)) (.int 0))])),
    .ret (.bin .mod (.bi .int [(.var 2)]) (.var 1))]],
  .asg (.sub (.var 0) (.int 2)) (.int 0),
  .ret (.bin .mod (.bi .int [(.ix (.var 0) (.int 3))]) (.var 1))]
def B__law_pick : List S := [
  .ret (.ix (.var 1) (.call "_law_draw" [(.var 0), (.bi .len [(.var 1)])]))]
def B__law_shuffled : List S := [
  .asg (.nm 2) (.bi .list [(.var 1)]),
  .ret (.comp .lst [3] (.mt .pop (.var 2) [(.call "_law_draw" [(.var 0), (.bi .len [(.var 2)])])]) [.mk (.nm 3) (.rng [(.bi .len [(.var 1)])]) []])]

section
variable {P : Str → Option Fn} {G : Str → Option PV} {w k : Nat} {st : Sto} {Q : PV → Sto → Prop}
/-! ### Euclid in a for of N turns -/
/-- the pair at turn i -/
def Eu (g q i x y : Nat) : Prop := Nat.gcd x y = g ∧ (y = 0 ∨ (if i = 0 then x * y < 2 ^ q else y < x ∧ x * y * 2 ^ (i - 1) < 2 ^ q))
theorem Eu.next {g q i x y : Nat} (h : Eu g q i x y) (hy : y ≠ 0) : Eu g q (i + 1) y (x % y) := by
  obtain ⟨hg, h⟩ := h
  have hm := Nat.mod_lt x (Nat.pos_of_ne_zero hy)
  refine ⟨by rw [← hg, Nat.gcd_comm, ← Nat.gcd_rec, Nat.gcd_comm], .inr ?_⟩
  rw [if_neg (by omega), Nat.add_sub_cancel]
  refine ⟨hm, ?_⟩
  rcases h with h | h
  · exact absurd h hy
  · by_cases hi : i = 0
    · rw [if_pos hi] at h
      subst hi
      rw [Nat.pow_zero, Nat.mul_one, Nat.mul_comm]
      exact Nat.lt_of_le_of_lt (Nat.mul_le_mul_right y (Nat.mod_le x y)) h
    · rw [if_neg hi] at h
      obtain ⟨h1, h2⟩ := h
      have h3 : 2 * (x % y) ≤ x := by
        have h5 := Nat.div_add_mod x y
        have h6 : 1 ≤ x / y := Nat.div_pos (Nat.le_of_lt h1) (Nat.pos_of_ne_zero hy)
        have h7 : y * 1 ≤ y * (x / y) := Nat.mul_le_mul_left y h6
        omega
      have e : i = (i - 1) + 1 := by omega
      rw [e, Nat.pow_succ]
      refine Nat.lt_of_le_of_lt ?_ h2
      have h4 : y * (x % y) * (2 ^ (i - 1) * 2) = (2 * (x % y)) * y * 2 ^ (i - 1) := by
        generalize 2 ^ (i - 1) = z
        generalize x % y = m
        grind
      rw [h4]
      exact Nat.mul_le_mul_right _ (Nat.mul_le_mul_right _ h3)
theorem Eu.last {g q i x y : Nat} (h : Eu g q i x y) (hi : q < i) : y = 0 := by
  obtain ⟨hg, h | h⟩ := h
  · exact h
  · rw [if_neg (by omega)] at h
    obtain ⟨h1, h2⟩ := h
    by_cases hy : y = 0
    · exact hy
    · exfalso
      have h3 : 1 ≤ x * y := Nat.mul_pos (by omega) (Nat.pos_of_ne_zero hy)
      have h4 : 2 ^ q ≤ 2 ^ (i - 1) := Nat.pow_le_pow_right (by decide) (by omega)
      have h5 : 1 * 2 ^ (i - 1) ≤ x * y * 2 ^ (i - 1) := Nat.mul_le_mul_right _ h3
      omega
theorem Eu.start {x y p r : Nat} (h1 : x < 2 ^ p) (h2 : y < 2 ^ r) : Eu (Nat.gcd x y) (p + r) 0 x y := by
  refine ⟨rfl, .inr ?_⟩
  rw [if_pos rfl, Nat.pow_add]
  exact Nat.mul_lt_mul_of_lt_of_lt h1 h2
theorem mod_by (x y : Nat) : (x : Int) - Int.fdiv x y * y = ((x % y : Nat) : Int) := by
  rw [fdiv_nat, Int.natCast_emod]
  have := Int.emod_def x y
  rw [this, Int.mul_comm]
theorem wkR_100000 : wkR [.int 100000] = some ⟨(List.range 100000).map fun i => PV.int (i : Nat), []⟩ := wkR_nat (n := 100000) (by decide)
theorem sp_frac (h1 : P "_law_frac" = some ⟨2, 5, B__law_frac⟩) {a b : Int} {p : Nat} (hb : b ≠ 0) (ha : bd p a) (hb' : bd p b) (hp : p ≤ 8000) (h : Q (fr (Rat.divInt a b)) st) : wp (callF P G w (k + 1) "_law_frac" [.int a, .int b] st) Q := by
  -- from here on with a bottom above 0
  have main : ∀ (n d : Int), 0 < d → bd p n → bd p d → Rat.divInt n d = Rat.divInt a b → wp (exSs (callF P G w k) G w (B__law_frac.drop 1) [some (.int n), some (.int d), none, none, none] st) (retQ Q) := by
    intro n d hd hn hdd he
    unfold B__law_frac
    simp only [List.drop, ev, evs, List.map, List.replicate, List.append_nil, List.cons_append, List.nil_append, List.length_cons, List.length_nil, Nat.reduceAdd, Nat.reduceLT, LIM, Nat.reduceLeDiff, true_and, Nat.reduceSub, wkR_100000]
    obtain ⟨m, rfl⟩ := Int.eq_ofNat_of_zero_le (Int.le_of_lt hd)
    have fin : ∀ (x : Nat), x = Int.gcd n m → ((x : Int) ≠ 0 ∧ (x : Int).natAbs.log2 < 9000) ∧ ((x : Int) ≠ 0 ∧ (x : Int).natAbs.log2 < 9000) ∧ Q (.tup [.int (n.fdiv x), .int ((m : Int).fdiv x)]) st := by
      rintro x rfl
      obtain ⟨p1, p2⟩ := parts_pos n m hd
      have hg := gcd_pos n m (by omega)
      have hgb := log_bd (bd_gcd (n := n) hdd (by omega))
      rw [p1, p2, he]
      exact ⟨⟨by omega, by omega⟩, ⟨by omega, by omega⟩, h⟩
    refine wp_forM (List.range 100000) (fun i => PV.int (i : Nat)) (fun i env s => ∃ (x y : Nat) (o : Option PV), env = [some (.int n), some (.int m), some (.int x), some (.int y), o] ∧ s = st ∧ Eu (Int.gcd n m) (p + p) i x y ∧ x < 2 ^ p ∧ y < 2 ^ p) rfl ⟨n.natAbs, m, none, rfl, rfl, Eu.start hn hdd, hn, hdd⟩ ?_ ?_
    · rintro i a' env s hi ⟨x, y, o, rfl, rfl, hE, hx, hy⟩
      refine ⟨rfl, ?_⟩
      simp only [ev, evs, List.length_cons, List.length_nil, Nat.reduceAdd, Nat.reduceLT, LIM, Nat.reduceLeDiff, true_and, Nat.reduceSub]
      by_cases hz : y = 0
      · subst hz
        have e : decide (((0 : Nat) : Int) = 0) = true := rfl
        simp only [e, if_true, ev]
        refine fin x ?_
        have := hE.1
        rw [Nat.gcd_zero_right] at this
        exact this
      · have e : decide ((y : Int) = 0) = false := by rw [decide_eq_false_iff_not]; omega
        simp only [e, Bool.false_eq_true, if_false, ev, List.length_cons, List.length_nil, Nat.reduceAdd, Nat.reduceLT, LIM, Nat.reduceLeDiff, true_and]
        have hm := Nat.mod_lt x (Nat.pos_of_ne_zero hz)
        refine ⟨⟨by omega, ?_⟩, ?_, y, x % y, some (.int a'), ?_, hE.next hz, hy, by omega⟩
        · have := log_bd (bd_nat hy)
          omega
        · rw [fdiv_nat, ← Int.natCast_ediv]
          exact mulOk_bd (bd_nat (Nat.lt_of_le_of_lt (Nat.div_le_self ..) hx)) (bd_nat hy) (by omega)
        · rw [mod_by]
    · rintro env s ⟨x, y, o, rfl, rfl, hE, hx, hy⟩
      refine ⟨rfl, ?_⟩
      rw [List.length_range] at hE
      have hz := hE.last (by omega)
      subst hz
      simp only [ev]
      refine fin x ?_
      have := hE.1
      rw [Nat.gcd_zero_right] at this
      exact this
  refine wp_callF h1 rfl ?_
  have e : B__law_frac = (B__law_frac.head (by simp [B__law_frac])) :: B__law_frac.drop 1 := rfl
  rw [e, wp_ss]
  generalize hB : B__law_frac.drop 1 = B at *
  simp only [ev, B__law_frac, List.head, List.map, List.replicate, List.append_nil, List.cons_append, List.nil_append, List.length_cons, List.length_nil, Nat.reduceAdd, Nat.reduceLT, LIM, Nat.reduceLeDiff, true_and, Nat.reduceSub]
  by_cases hs : b < 0
  · simp only [hs, decide_true, if_true, ev]
    exact main (0 - a) (0 - b) (by omega) (by rw [Int.zero_sub]; exact bd_neg ha) (by rw [Int.zero_sub]; exact bd_neg hb') (by rw [Int.zero_sub, Int.zero_sub]; exact Rat.neg_divInt_neg a b)
  · simp only [hs, decide_false, Bool.false_eq_true, if_false, ev]
    exact main a b (by omega) ha hb' rfl
theorem sp_ladd (h1 : P "_law_frac" = some ⟨2, 5, B__law_frac⟩) (h2 : P "_law_add" = some ⟨2, 2, B__law_add⟩) {a b : Rat} {p q : Nat} (ha : Bq p a) (hb : Bq q b) (hp : p + q + 1 ≤ 8000) (h : Q (fr (a + b)) st) : wp (callF P G w (k + 2) "_law_add" [fr a, fr b] st) Q := by
  refine wp_callF h2 rfl ?_
  unfold B__law_add
  simp only [ev, evs, List.map, List.replicate, List.append_nil, List.cons_append, List.nil_append, List.length_cons, List.length_nil, Nat.reduceAdd, Nat.reduceLT, LIM, Nat.reduceLeDiff, true_and, Nat.reduceSub]
  refine ⟨mulOk_bd ha.1 hb.den (by omega), mulOk_bd hb.1 ha.den (by omega), mulOk_bd ha.den hb.den (by omega), ?_⟩
  refine sp_frac (p := p + q + 1) h1 (dd_ne a b) (bd_add' (bd_mul ha.1 hb.den) ?_) (bd_mono (bd_mul ha.den hb.den) (by omega)) hp ?_
  · have := bd_mul hb.1 ha.den
    rw [Nat.add_comm] at this
    exact this
  · rw [← add_eq]
    exact h
theorem sp_ltimes (h1 : P "_law_frac" = some ⟨2, 5, B__law_frac⟩) (h2 : P "_law_times" = some ⟨2, 2, B__law_times⟩) {a b : Rat} {p q : Nat} (ha : Bq p a) (hb : Bq q b) (hp : p + q ≤ 8000) (h : Q (fr (a * b)) st) : wp (callF P G w (k + 2) "_law_times" [fr a, fr b] st) Q := by
  refine wp_callF h2 rfl ?_
  unfold B__law_times
  simp only [ev, evs, List.map, List.replicate, List.append_nil, List.cons_append, List.nil_append, List.length_cons, List.length_nil, Nat.reduceAdd, Nat.reduceLT, LIM, Nat.reduceLeDiff, true_and, Nat.reduceSub]
  refine ⟨mulOk_bd ha.1 hb.1 (by omega), mulOk_bd ha.den hb.den (by omega), ?_⟩
  refine sp_frac (p := p + q) h1 (dd_ne a b) (bd_mul ha.1 hb.1) (bd_mul ha.den hb.den) hp ?_
  rw [← mul_eq]
  exact h
theorem sp_lless (h1 : P "_law_is_less" = some ⟨2, 2, B__law_is_less⟩) {p : Nat} {a b : Rat} (ha : Bq p a) (hb : Bq p b) (hp : p ≤ 10000000) (h : Q (.bl (decide (a < b))) st) : wp (callF P G w (k + 1) "_law_is_less" [fr a, fr b] st) Q := by
  refine wp_callF h1 rfl ?_
  unfold B__law_is_less
  simp only [ev, evs, List.map, List.replicate, List.append_nil, List.cons_append, List.nil_append, Nat.sub_self]
  refine ⟨mulOk_bd ha.1 hb.den (by omega), mulOk_bd hb.1 ha.den (by omega), ?_⟩
  have e : decide (a.num * ↑b.den < b.num * ↑a.den) = decide (a < b) := by
    rw [Bool.eq_iff_iff, decide_eq_true_eq, decide_eq_true_eq]
    exact (lt_iff a b).symm
  rw [e]
  exact h
theorem fr_zero : PV.tup [PV.int 0, PV.int 1] = fr 0 := rfl
theorem Bq_zero (p : Nat) : Bq (p + 1) 0 := by
  refine ⟨?_, ?_⟩
  · show (0 : Nat) < 2 ^ (p + 1)
    exact Nat.pow_pos (by decide)
  · show (1 : Nat) < 2 ^ (p + 1)
    rw [Nat.pow_succ]
    have : 0 < 2 ^ p := Nat.pow_pos (by decide)
    omega
/-- the sum of a list of fractions -/
def sumR : List Rat → Rat
  | [] => 0
  | a :: as => a + sumR as
theorem sumR_snoc (a : Rat) : ∀ l : List Rat, sumR (l ++ [a]) = sumR l + a
  | [] => by unfold sumR sumR; grind
  | b :: l => by
    show b + sumR (l ++ [a]) = b + sumR l + a
    rw [sumR_snoc a l]
    grind
theorem sp_lsum (h1 : P "_law_frac" = some ⟨2, 5, B__law_frac⟩) (h2 : P "_law_add" = some ⟨2, 2, B__law_add⟩) (h3 : P "_law_sum" = some ⟨1, 3, B__law_sum⟩) {l : List Rat} {p n : Nat} (hn : getL st n = some (l.map fr)) (hl : ∀ r ∈ l, Bq p r) (hp : (p + 1) * l.length + 2 + p ≤ 8000) (h : Q (fr (sumR l)) st) : wp (callF P G w (k + 3) "_law_sum" [.loc n] st) Q := by
  refine wp_callF h3 rfl ?_
  unfold B__law_sum
  simp only [ev, evs, List.map, List.replicate, List.append_nil, List.cons_append, List.nil_append, List.length_cons, List.length_nil, Nat.reduceAdd, Nat.reduceLT, LIM, Nat.reduceLeDiff, true_and, Nat.reduceSub, wk_loc hn]
  refine wp_forM l fr (fun i env s => ∃ (r : Rat) (o : Option PV), env = [some (.loc n), some (fr r), o] ∧ s = st ∧ r = sumR (l.take i) ∧ Bq ((p + 1) * i + 1) r) rfl ⟨0, none, rfl, rfl, rfl, Bq_zero _⟩ ?_ ?_
  · rintro i a env s ha ⟨r, o, rfl, rfl, hr, hb⟩
    refine ⟨gs_one hn, ?_⟩
    simp only [ev, evs, List.length_cons, List.length_nil, Nat.reduceAdd, Nat.reduceLT, LIM, Nat.reduceLeDiff, true_and]
    have hi : i < l.length := (List.getElem?_eq_some_iff.mp ha).1
    have hpi : (p + 1) * i ≤ (p + 1) * l.length := Nat.mul_le_mul_left _ (by omega)
    refine sp_ladd h1 h2 hb (hl a (List.mem_of_getElem? ha)) (by omega) ?_
    simp only [ev, evs, List.length_cons, List.length_nil, Nat.reduceAdd, Nat.reduceLT, LIM, Nat.reduceLeDiff, true_and]
    refine ⟨r + a, _, rfl, ?_, (Bq_add hb (hl a (List.mem_of_getElem? ha))).mono (by rw [Nat.mul_add]; omega)⟩
    rw [List.take_add_one, ha, hr]
    exact (sumR_snoc a _).symm
  · rintro env s ⟨r, o, rfl, rfl, hr, hb⟩
    refine ⟨gs_one hn, ?_⟩
    rw [List.take_length] at hr
    subst hr
    simp only [ev]
    exact h
/-! ### the pool -/
theorem sp_mixed (h1 : P "_law_mixed" = some ⟨2, 4, B__law_mixed⟩) {a b : Int} (h : ∀ c : Int, 0 ≤ c → c < 2147483647 → Q (.int c) st) : wp (callF P G w (k + 1) "_law_mixed" [.int a, .int b] st) Q := by
  refine wp_callF h1 rfl ?_
  unfold B__law_mixed
  have fm : ∀ (x : Int) (m : Nat), 0 < m → 0 ≤ Int.fmod x m ∧ Int.fmod x m < m := fun x m hm => ⟨Int.fmod_nonneg_of_pos _ (by omega), Int.fmod_lt_of_pos _ (by omega)⟩
  simp only [ev, evs, List.map, List.replicate, List.append_nil, List.cons_append, List.nil_append, List.length_cons, List.length_nil, Nat.reduceAdd, Nat.reduceLT, LIM, Nat.reduceLeDiff, true_and, Nat.reduceSub]
  obtain ⟨a1, a2⟩ := fm a 1000003 (by decide)
  obtain ⟨b1, b2⟩ := fm b 999983 (by decide)
  obtain ⟨d1, d2⟩ := fm b 65537 (by decide)
  obtain ⟨c1, c2⟩ := fm (a.fmod 1000003 * 48271 + b.fmod 999983 * 69621 + 12345) 2147483647 (by decide)
  have ok : ∀ x y : Int, 0 ≤ x → x < 2 ^ 40 → 0 ≤ y → y < 2 ^ 40 → mulOk x y = true := fun x y x1 x2 y1 y2 => mulOk_bd (p := 40) (q := 40) (by unfold bd; omega) (by unfold bd; omega) (by decide)
  generalize hone : (a.fmod 1000003 * 48271 + b.fmod 999983 * 69621 + 12345).fmod 2147483647 = one at *
  obtain ⟨e1, e2⟩ := fm (one * one + one * 40692 + b.fmod 65537 * 16807 + 7) 2147483629 (by decide)
  generalize htwo : (one * one + one * 40692 + b.fmod 65537 * 16807 + 7).fmod 2147483629 = two at *
  obtain ⟨f1, f2⟩ := fm (two * 48271 + one.fdiv 127) 2147483647 (by decide)
  simp only [Int.cast_ofNat_Int] at *
  refine ⟨by decide, ok _ _ (by omega) (by omega) (by decide) (by decide), by decide, ok _ _ (by omega) (by omega) (by decide) (by decide), by decide, ok _ _ (by omega) (by omega) (by omega) (by omega), ok _ _ (by omega) (by omega) (by decide) (by decide), by decide, ok _ _ (by omega) (by omega) (by decide) (by decide), by decide, ok _ _ (by omega) (by omega) (by decide) (by decide), ⟨by decide, by decide⟩, by decide, h _ f1 f2⟩
end
end Lib
end Mp
set_option Elab.async false
set_option linter.all false
set_option maxRecDepth 100000
/-! L85b: draws. -/
namespace Mp
namespace Lib
open PySem
def B__law_number : List S := [
  .ret (.call "_law_frac" [(.bin .sub (.call "_law_draw" [(.var 0), (.bin .add (.bin .mul (.int 2) (.var 1)) (.int 1))]) (.var 1)), (.call "_law_pick" [(.var 0), (.lst [(.int 1), (.int 1), (.int 1), (.int 2), (.int 3)])])])]
def B__law_letting : List S := [
  .asg (.tup [(.nm 1), (.nm 2)]) (.tup [(.bin .add (.int 1) (.call "_law_draw" [(.var 0), (.int 3)])), (.bin .add (.int 1) (.call "_law_draw" [(.var 0), (.int 6)]))]),
  .asg (.nm 3) (.call "_law_pick" [(.var 0), (.lst [(.var 1), (.int 6), (.int 12)])]),
  .asg (.nm 4) (.bin .mul (.lst [(.int 1)]) (.var 1)),
  .for_ (.nm 5) (.rng [(.bin .sub (.var 3) (.var 1))]) [
   .asg (.nm 6) (.call "_law_draw" [(.var 0), (.var 1)]),
   .asg (.sub (.var 4) (.var 6)) (.bin .add (.ix (.var 4) (.var 6)) (.int 1))],
  .asg (.nm 7) (.call "_law_pick" [(.var 0), (.lst [(.int 1), (.int 2), (.int 4)])]),
  .asg (.nm 8) (.bi .tuple [(.comp .lst [6] (.bi .tuple [(.comp .lst [9] (.call "_law_number" [(.var 0), (.var 7)]) [.mk (.nm 9) (.rng [(.var 2)]) []])]) [.mk (.nm 6) (.rng [(.var 1)]) []])]),
  .asg (.nm 10) (.bi .tuple [(.comp .lst [6] (.bi .tuple [(.comp .lst [9] (.call "_law_number" [(.var 0), (.var 7)]) [.mk (.nm 9) (.rng [(.var 2)]) []])]) [.mk (.nm 6) (.rng [(.var 1)]) []])]),
  .ret (.tup [(.bi .tuple [(.comp .lst [11] (.call "_law_frac" [(.var 11), (.var 3)]) [.mk (.nm 11) (.val (.var 4)) []])]), (.var 8), (.var 10)])]

theorem bd_zero (p : Nat) : bd p 0 := Nat.pow_pos (by decide)
theorem bd_one (p : Nat) : bd (p + 1) 1 := by
  unfold bd
  have : 0 < 2 ^ p := Nat.pow_pos (by decide)
  rw [Nat.pow_succ]
  show 1 < _
  omega
/-- the pool stands at n -/
def Pool (s : Sto) (n : Nat) : Prop := ∃ (m : Nat) (cells : List Int) (a b c d : Int), getM s n = some [.loc m, .int a, .int b, .int c, .int d] ∧ getL s m = some (cells.map .int) ∧ n ≠ m ∧ 0 ≤ a ∧ cells.length ≤ 63 ∧ (∀ z ∈ cells, bd 1048577 z) ∧ 0 ≤ b ∧ bd 1048577 b
theorem Pool.lt {s : Sto} {n : Nat} (h : Pool s n) : n < s.length := by
  obtain ⟨m, cells, a, b, c, d, h1, _⟩ := h
  exact getM_lt h1
theorem Pool.kp {s s' : Sto} {n k : Nat} (h : Pool s n) (p : Kp k s s') (hk : n ≠ k) (hm : ∀ xs, getM s n = some xs → ∀ m, xs[0]? = some (.loc m) → m ≠ k) : Pool s' n := by
  obtain ⟨m, cells, a, b, c, d, h1, h2, h3⟩ := h
  exact ⟨m, cells, a, b, c, d, p.getM hk h1, p.getL (hm _ h1 m rfl) h2, h3⟩
theorem Pool.pre {s s' : Sto} {n : Nat} (h : Pool s n) (p : s <+: s') : Pool s' n := by
  obtain ⟨m, cells, a, b, c, d, h1, h2, h3⟩ := h
  exact ⟨m, cells, a, b, c, d, getM_mono p h1, getL_mono p h2, h3⟩
/-- an object behind all of an earlier store is written -/
theorem Pool.own {s0 s : Sto} {n k : Nat} (h0 : Pool s0 n) (p : Kp n s0 s) (h : Pool s n) (hk : s0.length ≤ k) (hm : ∃ m, (getM s0 n).bind (·[0]?) = some (.loc m) ∧ (getM s n).bind (·[0]?) = some (.loc m) ∧ m < s0.length) (xs : List PV) : Pool (setL s k xs) n := by
  obtain ⟨m, cells, a, b, c, d, h1, h2, h3⟩ := h
  obtain ⟨m', e1, e2, e3⟩ := hm
  rw [h1] at e2
  cases e2
  have hn : n ≠ k := by have := h0.lt; omega
  exact ⟨m, cells, a, b, c, d, (Kp.set k s xs).getM hn h1, (Kp.set k s xs).getL (by omega) h2, h3⟩
/-- the place of the script's numbers -/
def cellsAt (s : Sto) (n : Nat) : Option Nat := match getM s n with
  | some (.loc m :: _) => some m
  | _ => none
/-- a draw: the pool may change, all others stay -/
structure Dr (n : Nat) (s s' : Sto) : Prop where
  pool : Pool s' n
  kp : Kp n s s'
  at_ : cellsAt s' n = cellsAt s n
theorem Dr.refl {n : Nat} {s : Sto} (h : Pool s n) : Dr n s s := ⟨h, Kp.refl _ _, rfl⟩
theorem Dr.trans {n : Nat} {s s' s'' : Sto} (a : Dr n s s') (b : Dr n s' s'') : Dr n s s'' := ⟨b.pool, a.kp.trans b.kp, b.at_.trans a.at_⟩
theorem Dr.pre {n : Nat} {s s' : Sto} (h : Pool s n) (p : s <+: s') : Dr n s s' := ⟨h.pre p, Kp.pre p, by
  obtain ⟨m, cells, a, b, c, d, h1, h2, h3⟩ := h
  unfold cellsAt
  rw [h1, getM_mono p h1]⟩
/-- an object of a later time is written -/
theorem Dr.own {n k : Nat} {s0 s : Sto} (h0 : Pool s0 n) (h : Dr n s0 s) (hk : s0.length ≤ k) (xs : List PV) : Dr n s0 (setL s k xs) := by
  have hn : n ≠ k := by have := h0.lt; omega
  have hm : ∀ m, cellsAt s0 n = some m → m < s0.length := by
    obtain ⟨m, cells, a, b, c, d, h1, h2, h3⟩ := h0
    unfold cellsAt
    rw [h1]
    intro m' e
    cases e
    unfold getL at h2
    cases q : s0[m]? with
    | none => rw [q] at h2; cases h2
    | some o => exact (List.getElem?_eq_some_iff.mp q).1
  obtain ⟨m, cells, a, b, c, d, h1, h2, h3⟩ := h.pool
  have e : cellsAt s n = some m := by unfold cellsAt; rw [h1]
  have lt := hm m (by rw [← h.at_]; exact e)
  have g1 := (Kp.set k s xs).getM hn h1
  refine ⟨⟨m, cells, a, b, c, d, g1, (Kp.set k s xs).getL (by omega) h2, h3⟩, ⟨Nat.le_trans h.kp.1 (Nat.le_of_eq (setL_len ..).symm), fun j o hj e => ?_⟩, ?_⟩
  · rw [set_ne xs (by have := (List.getElem?_eq_some_iff.mp e).1; omega)]
    exact h.kp.2 j o hj e
  · rw [← h.at_, e]
    unfold cellsAt
    rw [g1]
section
variable {P : Str → Option Fn} {G : Str → Option PV} {w k : Nat} {st : Sto} {Q : PV → Sto → Prop}
theorem sp_draw (h1 : P "_law_mixed" = some ⟨2, 4, B__law_mixed⟩) (h2 : P "_law_draw" = some ⟨2, 4, B__law_draw⟩) {n many : Nat} (hp : Pool st n) (hm : 0 < many) (hm' : many < 2 ^ 20) (h : ∀ (r : Nat) (s : Sto), r < many → Dr n st s → Q (.int r) s) : wp (callF P G w (k + 2) "_law_draw" [.loc n, .int (many : Int)] st) Q := by
  have hp0 := hp
  obtain ⟨m, cells, a, b, c, d, p1, p2, p3, p4, p5, p6, p7, p8⟩ := hp
  have hn := getM_lt p1
  have cat : cellsAt st n = some m := by unfold cellsAt; rw [p1]
  have nz : (many : Int) ≠ 0 := by omega
  have lg : (many : Int).natAbs.log2 < 9000 := by
    have := log_bd (bd_nat hm')
    omega
  -- the number that is told
  have tell : ∀ (z : Int) (s : Sto), Dr n st s → Q (.int (z.fmod many)) s := fun z s hs => by
    have h1 : 0 ≤ z.fmod many := Int.fmod_nonneg_of_pos _ (by omega)
    have h2 : z.fmod many < many := Int.fmod_lt_of_pos _ (by omega)
    obtain ⟨r, hr⟩ := Int.eq_ofNat_of_zero_le h1
    rw [hr]
    exact h r s (by omega) hs
  have dr : ∀ (a' b' c' d' : Int), 0 ≤ a' → 0 ≤ b' → bd 1048577 b' → Dr n st (setL st n [.loc m, .int a', .int b', .int c', .int d']) := fun a' b' c' d' x1 x2 x3 =>
    ⟨⟨m, cells, a', b', c', d', getM_set _ hn, (Kp.set n st _).getL (Ne.symm p3) p2, p3, x1, p5, p6, x2, x3⟩, Kp.set n st _, by
      rw [cat]
      unfold cellsAt
      rw [getM_set _ hn]⟩
  have fd : ∀ z : Int, 0 ≤ z → bd 1048577 z → 0 ≤ z.fdiv many ∧ bd 1048577 (z.fdiv many) := fun z x1 x2 => by
    obtain ⟨y, rfl⟩ := Int.eq_ofNat_of_zero_le x1
    rw [fdiv_nat, ← Int.natCast_ediv]
    exact ⟨Int.natCast_nonneg _, Nat.lt_of_le_of_lt (Nat.div_le_self ..) x2⟩
  have gL := getL_of_M p1
  refine wp_callF h2 rfl ?_
  unfold B__law_draw
  simp only [ev, evs, evt, List.map, List.replicate, List.append_nil, List.cons_append, List.nil_append, List.length_cons, List.length_nil, Nat.reduceAdd, Nat.reduceLT, LIM, Nat.reduceLeDiff, true_and, Nat.reduceSub, gL, Option.some.injEq, exists_eq_left', len_loc p2]
  have two : ((if (b < 2) then true else false : Bool)) = decide (b < 2) := by by_cases h : b < 2 <;> simp [h]
  by_cases hb : b < 2
  · simp only [hb, decide_true, if_true, ev, evs, evt, gL, Option.some.injEq, exists_eq_left', len_loc p2]
    by_cases ha : a < (cells.map PV.int).length
    · obtain ⟨i, rfl⟩ := Int.eq_ofNat_of_zero_le p4
      have hi : i < cells.length := by rw [List.length_map] at ha; omega
      have hz := List.getElem?_eq_getElem hi
      have hzm : (cells.map PV.int)[i]? = some (.int cells[i]) := by rw [List.getElem?_map, hz]; rfl
      have hzb := p6 _ (List.mem_of_getElem? hz)
      generalize cells[i] = z at hzm hzb
      simp only [ha, decide_true, if_true, ev, evs, evt, gL, p2, p1, Option.some.injEq, exists_eq_left', len_loc p2, atI_nat hzm, List.length_cons, List.length_nil, Nat.reduceAdd, Nat.reduceLT, true_and, List.set, getL_set _ hn, getM_set _ hn]
      refine ⟨⟨by decide, by decide, by decide⟩, ?_⟩
      have e18 : (10 : Int) ^ Int.toNat 18 = 1000000000000000000 := by decide
      rw [e18]
      by_cases hc : (1000000000000000000 : Int) ≤ z
      · simp only [hc, decide_true, if_true, ev, evs, evt, Option.some.injEq, exists_eq_left', List.length_cons, List.length_nil, Nat.reduceAdd, Nat.reduceLT, true_and, List.set, getL_set _ hn, getM_set _ hn, e18]
        obtain ⟨f1, f2⟩ := fd (z - 1000000000000000000) (by omega) (bd_of_le hzb (by omega))
        exact ⟨⟨by decide, by decide, by decide⟩, ⟨nz, lg⟩, nz, tell _ _ (dr _ _ _ _ (by omega) f1 f2)⟩
      · simp only [hc, decide_false, Bool.false_eq_true, if_false, ev, evs, evt, Option.some.injEq, exists_eq_left', List.length_cons, List.length_nil, Nat.reduceAdd, Nat.reduceLT, true_and, List.set, getL_set _ hn, getM_set _ hn]
        refine sp_mixed h1 fun x x1 x2 => ?_
        simp only [ev, evs, evt, Option.some.injEq, exists_eq_left', List.length_cons, List.length_nil, Nat.reduceAdd, Nat.reduceLT, true_and, List.set, getL_set _ hn, getM_set _ hn, getM_set _ (Nat.lt_of_lt_of_eq hn (setL_len ..).symm), setL_len, hn]
        exact ⟨nz, tell _ _ (dr _ _ _ _ (by omega) (by omega) (bd_zero _))⟩
    · simp only [ha, decide_false, Bool.false_eq_true, if_false, if_true, hb, decide_true, ev, evs, evt, gL, p2, p1, Option.some.injEq, exists_eq_left', len_loc p2, List.length_cons, List.length_nil, Nat.reduceAdd, Nat.reduceLT, true_and, List.set, getL_set _ hn, getM_set _ hn]
      refine sp_mixed h1 fun x x1 x2 => ?_
      simp only [ev, evs, evt, Option.some.injEq, exists_eq_left', List.length_cons, List.length_nil, Nat.reduceAdd, Nat.reduceLT, true_and, List.set, getL_set _ hn, getM_set _ hn, setL_len, hn]
      exact ⟨nz, tell _ _ (dr _ _ _ _ (by omega) (by omega) (bd_zero _))⟩
  · simp only [hb, decide_false, Bool.false_eq_true, if_false, ev, evs, evt, gL, p1, Option.some.injEq, exists_eq_left', List.length_cons, List.length_nil, Nat.reduceAdd, Nat.reduceLT, true_and, List.set, getL_set _ hn, getM_set _ hn]
    obtain ⟨f1, f2⟩ := fd b p7 p8
    refine ⟨⟨nz, lg⟩, mulOk_bd (q := 1) f2 (by split <;> first | exact bd_one _ | exact bd_zero _) (by decide), nz, tell _ _ (dr _ _ _ _ p4 ?_ ?_)⟩
    · split
      · omega
      · omega
    · split
      · rw [Int.mul_one]; exact f2
      · rw [Int.mul_zero]; exact bd_zero _
end
end Lib
end Mp
set_option Elab.async false
set_option linter.all false
set_option maxRecDepth 100000
/-! L85c: what is drawn. -/
namespace Mp
namespace Lib
open PySem
theorem all_map {α : Type} {e : α → PV} {p : α → Prop} : ∀ {vs : List PV}, (∀ v ∈ vs, ∃ a, v = e a ∧ p a) → ∃ l : List α, vs = l.map e ∧ ∀ a ∈ l, p a
  | [], _ => ⟨[], rfl, fun _ h => by cases h⟩
  | v :: vs, h => by
    obtain ⟨a, rfl, ha⟩ := h v (List.mem_cons_self ..)
    obtain ⟨l, rfl, hl⟩ := all_map fun v hv => h v (List.mem_cons_of_mem _ hv)
    exact ⟨a :: l, rfl, fun b hb => by
      rcases List.mem_cons.mp hb with rfl | hb
      · exact ha
      · exact hl b hb⟩
theorem Dr.getL' {n k : Nat} {s s' : Sto} {xs : List PV} (h : Dr n s s') (hk : k ≠ n) (e : getL s k = some xs) : getL s' k = some xs := h.kp.getL hk e
theorem Dr.getM' {n k : Nat} {s s' : Sto} {xs : List PV} (h : Dr n s s') (hk : k ≠ n) (e : getM s k = some xs) : getM s' k = some xs := h.kp.getM hk e
theorem Dr.len {n : Nat} {s s' : Sto} (h : Dr n s s') : s.length ≤ s'.length := h.kp.1
theorem Dr.snoc {n : Nat} {s s' : Sto} (h : Dr n s s') (o : MO) : Dr n s (s' ++ [o]) := h.trans (Dr.pre h.pool (pre_snoc ..))
section
variable {n : Nat} {st : Sto} {turn : PV → List PV → Sto → Res (List PV × Bool)} {xs : List PV} {Q : List PV × Bool → Sto → Prop}
theorem wp_compD (φ : PV → Prop) (h0 : Pool st n) (step : ∀ x ∈ xs, ∀ acc s, Dr n st s → wp (turn x acc s) fun r s' => Dr n s s' ∧ ∃ v, φ v ∧ r = (acc ++ [v], false))
    (done : ∀ vs s, Dr n st s → vs.length = xs.length → (∀ v ∈ vs, φ v) → Q (vs, false) s) : wp (compLoop turn [] xs [] st) Q := by
  refine wp_compLoop (fun i acc s => Dr n st s ∧ acc.length = i ∧ ∀ v ∈ acc, φ v) ⟨Dr.refl h0, rfl, fun _ h => by cases h⟩ ?_ ?_
  · rintro i x acc s hx ⟨h1, h2, h3⟩
    refine ⟨rfl, wp_mono (step x (List.mem_of_getElem? hx) acc s h1) ?_⟩
    rintro r s' ⟨d, v, hv, rfl⟩
    simp only [Bool.false_eq_true, if_false]
    refine ⟨h1.trans d, by rw [List.length_append, h2]; rfl, fun u hu => ?_⟩
    rcases List.mem_append.mp hu with hu | hu
    · exact h3 u hu
    · rw [List.mem_singleton.mp hu]; exact hv
  · rintro acc s ⟨h1, h2, h3⟩
    exact ⟨rfl, done acc s h1 h2 h3⟩
end
theorem rep_one (K c : Nat) : rep K [PV.int (c : Int)] = (List.replicate K c).map fun m : Nat => PV.int m := by
  unfold rep
  rw [List.map_replicate]
  induction K with
  | zero => rfl
  | succ K ih => rw [List.replicate_succ, List.flatten_cons, ih, List.replicate_succ]; rfl
def row (r : List Rat) : PV := .tup (r.map fr)
structure RowOk (A p : Nat) (r : List Rat) : Prop where
  len : r.length = A
  bq : ∀ x ∈ r, Bq p x
structure LetOk (K A : Nat) (sh : List Rat) (lk gn : List (List Rat)) : Prop where
  k1 : 1 ≤ K
  k3 : K ≤ 3
  a1 : 1 ≤ A
  a6 : A ≤ 6
  sh : RowOk K 4 sh
  lkl : lk.length = K
  gnl : gn.length = K
  lk : ∀ r ∈ lk, RowOk A 3 r
  gn : ∀ r ∈ gn, RowOk A 3 r
section
variable {P : Str → Option Fn} {G : Str → Option PV} {w k : Nat} {st : Sto} {Q : PV → Sto → Prop}
structure HasD (P : Str → Option Fn) : Prop where
  mixed : P "_law_mixed" = some ⟨2, 4, B__law_mixed⟩
  draw : P "_law_draw" = some ⟨2, 4, B__law_draw⟩
  pick : P "_law_pick" = some ⟨2, 2, B__law_pick⟩
  shuffled : P "_law_shuffled" = some ⟨2, 4, B__law_shuffled⟩
  frac : P "_law_frac" = some ⟨2, 5, B__law_frac⟩
  number : P "_law_number" = some ⟨2, 2, B__law_number⟩
  letting : P "_law_letting" = some ⟨1, 12, B__law_letting⟩
theorem sp_pick (hP : HasD P) {n m : Nat} {xs : List PV} (hp : Pool st n) (hm : getL st m = some xs) (h0 : 0 < xs.length) (hl : xs.length < 2 ^ 20) (h : ∀ (r : Nat) (x : PV) (s : Sto), xs[r]? = some x → Dr n st s → Q x s) (hne : m ≠ n) : wp (callF P G w (k + 3) "_law_pick" [.loc n, .loc m] st) Q := by
  refine wp_callF hP.pick rfl ?_
  unfold B__law_pick
  simp only [ev, evs, evt, List.map, List.replicate, List.append_nil, List.cons_append, List.nil_append, List.length_cons, List.length_nil, Nat.reduceAdd, Nat.reduceLT, LIM, Nat.reduceLeDiff, true_and, Nat.reduceSub, len_loc hm]
  refine sp_draw hP.mixed hP.draw hp h0 hl fun r s hr hs => ?_
  simp only [ev, evs, evt, hs.getL' hne hm, Option.some.injEq, exists_eq_left']
  have hx := List.getElem?_eq_getElem hr
  rw [atI_nat hx]
  exact ⟨_, rfl, h r _ s hx hs⟩
theorem sp_number (hP : HasD P) {n t : Nat} (hp : Pool st n) (ht : t ≤ 4) (h : ∀ (x : Rat) (s : Sto), Bq 3 x → Dr n st s → Q (fr x) s) : wp (callF P G w (k + 4) "_law_number" [.loc n, .int (t : Int)] st) Q := by
  refine wp_callF hP.number rfl ?_
  unfold B__law_number
  simp only [ev, evs, evt, List.map, List.replicate, List.append_nil, List.cons_append, List.nil_append, List.length_cons, List.length_nil, Nat.reduceAdd, Nat.reduceLT, LIM, Nat.reduceLeDiff, true_and, Nat.reduceSub]
  refine ⟨mulOk_bd (p := 2) (q := 3) (by unfold bd; omega) (by unfold bd; omega) (by decide), ?_⟩
  have e : (2 : Int) * t + 1 = ((2 * t + 1 : Nat) : Int) := by omega
  rw [e]
  refine sp_draw hP.mixed hP.draw hp (by omega) (by omega) fun r s hr hs => ?_
  simp only [ev, evs, evt, List.length_cons, List.length_nil, Nat.reduceAdd, Nat.reduceLT, LIM, Nat.reduceLeDiff, true_and]
  have hs1 := hs.snoc (.lst [.int 1, .int 1, .int 1, .int 2, .int 3])
  refine sp_pick hP hs1.pool (getL_last ..) (by decide) (by decide) (fun r2 x s2 hx hs2 => ?_) (by have := hs.pool.lt; omega)
  have hq : ∃ q : Nat, x = .int q ∧ 1 ≤ q ∧ q ≤ 3 := by
    rcases r2 with _ | _ | _ | _ | _ | r2
    · exact ⟨1, by simpa using hx.symm, by decide, by decide⟩
    · exact ⟨1, by simpa using hx.symm, by decide, by decide⟩
    · exact ⟨1, by simpa using hx.symm, by decide, by decide⟩
    · exact ⟨2, by simpa using hx.symm, by decide, by decide⟩
    · exact ⟨3, by simpa using hx.symm, by decide, by decide⟩
    · simp at hx
  obtain ⟨q, rfl, q1, q3⟩ := hq
  have b1 : bd 3 ((r : Int) - t) := by unfold bd; omega
  have b2 : bd 3 (q : Int) := by unfold bd; omega
  exact sp_frac hP.frac (by omega) b1 b2 (by decide) (h _ _ (Bq_div b1 b2 (by omega)) (hs1.trans hs2))
theorem sp_letting (hP : HasD P) {n : Nat} (hp : Pool st n) (h : ∀ (K A : Nat) (sh : List Rat) (lk gn : List (List Rat)) (s : Sto), LetOk K A sh lk gn → Dr n st s → Q (.tup [row sh, .tup (lk.map row), .tup (gn.map row)]) s) : wp (callF P G w (k + 5) "_law_letting" [.loc n] st) Q := by
  refine wp_callF hP.letting rfl ?_
  unfold B__law_letting
  simp only [ev, evs, evt, List.map, List.replicate, List.append_nil, List.cons_append, List.nil_append, List.length_cons, List.length_nil, Nat.reduceAdd, Nat.reduceLT, LIM, Nat.reduceLeDiff, true_and, Nat.reduceSub]
  refine sp_draw (many := 3) hP.mixed hP.draw hp (by decide) (by decide) fun k0 s1 hk0 d1 => ?_
  simp only [ev, evs, evt, List.length_cons, List.length_nil, Nat.reduceAdd, Nat.reduceLT, LIM, Nat.reduceLeDiff, true_and, Nat.reduceSub]
  refine sp_draw (many := 6) hP.mixed hP.draw d1.pool (by decide) (by decide) fun a0 s2 ha0 d2 => ?_
  have eK : (1 : Int) + k0 = ((k0 + 1 : Nat) : Int) := by omega
  have eA : (1 : Int) + a0 = ((a0 + 1 : Nat) : Int) := by omega
  simp only [ev, evs, evt, List.length_cons, List.length_nil, Nat.reduceAdd, Nat.reduceLT, LIM, Nat.reduceLeDiff, true_and, Nat.reduceSub, eK, eA]
  generalize hKd : k0 + 1 = K
  generalize hAd : a0 + 1 = A
  have d12 := d1.trans d2
  have d3 := d12.snoc (.lst [.int K, .int 6, .int 12])
  refine sp_pick hP d3.pool (getL_last ..) (Nat.zero_lt_succ _) (by simp) (fun r2 x s3 hx d4 => ?_) (by have := d12.pool.lt; omega)
  have hq : ∃ q : Nat, x = .int q ∧ K ≤ q ∧ q ≤ 12 := by
    rcases r2 with _ | _ | _ | r2
    · exact ⟨K, by simpa using hx.symm, by omega, by omega⟩
    · exact ⟨6, by simpa using hx.symm, by omega, by decide⟩
    · exact ⟨12, by simpa using hx.symm, by omega, by decide⟩
    · simp at hx
  obtain ⟨W, rfl, hW1, hW2⟩ := hq
  have d5 := d3.trans d4
  simp only [ev, evs, evt, List.length_cons, List.length_nil, Nat.reduceAdd, Nat.reduceLT, LIM, Nat.reduceLeDiff, true_and, Nat.reduceSub, getM_last, Option.some.injEq, exists_eq_left', Int.toNat_natCast]
  have hrep := rep_one K 1
  have hrep' : rep K [PV.int 1] = (List.replicate K 1).map fun m : Nat => PV.int m := hrep
  rw [hrep']
  have hlen0 : ((List.replicate K 1).map fun m : Nat => PV.int m).length = K := by simp
  refine ⟨⟨by omega, by omega, by omega⟩, by rw [hlen0]; omega, ?_⟩
  generalize hs4 : s3 ++ [MO.lst [PV.int 1]] = s4
  have d6 : Dr n st s4 := by rw [← hs4]; exact d5.snoc _
  have d7 := d6.snoc (.lst ((List.replicate K 1).map fun m : Nat => PV.int m))
  have eW : (W : Int) - K = ((W - K : Nat) : Int) := by omega
  rw [eW, wkR_nat (by omega)]
  have stl : st.length ≤ s4.length := d6.len
  have nlt : n < st.length := hp.lt
  refine ⟨_, rfl, ?_⟩
  refine wp_forM (List.range (W - K)) (fun i => PV.int (i : Nat)) (fun i env s => ∃ (o5 o6 : Option PV) (ms : List Nat), env = [some (.loc n), some (.int K), some (.int A), some (.int W), some (.loc s4.length), o5, o6, none, none, none, none, none] ∧ Dr n st s ∧ getM s s4.length = some (ms.map fun m : Nat => PV.int m) ∧ ms.length = K ∧ ∀ m ∈ ms, m ≤ 1 + i) rfl
    ⟨none, none, List.replicate K 1, rfl, d7, getM_last .., by simp, fun m hm => by rw [(List.mem_replicate.mp hm).2]; omega⟩ ?_ ?_
  · rintro i a env s hi ⟨o5, o6, ms, rfl, ds, hms, hml, hmb⟩
    refine ⟨rfl, ?_⟩
    simp only [ev, evs, evt, List.length_cons, List.length_nil, Nat.reduceAdd, Nat.reduceLT, LIM, Nat.reduceLeDiff, true_and, Nat.reduceSub]
    refine sp_draw hP.mixed hP.draw ds.pool (by omega) (by omega) fun j s' hj d' => ?_
    have hjm : j < ms.length := by omega
    have g1 := d'.getM' (k := s4.length) (by omega) hms
    have hx := List.getElem?_eq_getElem hjm
    have hxm : (ms.map fun m : Nat => PV.int m)[j]? = some (.int ms[j]) := by rw [List.getElem?_map, hx]; rfl
    simp only [ev, evs, evt, List.length_cons, List.length_nil, Nat.reduceAdd, Nat.reduceLT, LIM, Nat.reduceLeDiff, true_and, Nat.reduceSub, g1, getL_of_M g1, Option.some.injEq, exists_eq_left', atI_nat hxm, ixN_nat (show j < (ms.map fun m : Nat => PV.int m).length by rw [List.length_map]; exact hjm)]
    refine ⟨_, _, ms.set j (ms[j] + 1), rfl, Dr.own hp (ds.trans d') (by omega) _, ?_, by rw [List.length_set]; exact hml, fun m hm => ?_⟩
    · rw [getM_set _ (getM_lt g1)]
      congr 1
      rw [List.map_set]
      rfl
    · rcases List.mem_or_eq_of_mem_set hm with hm | rfl
      · have := hmb m hm; omega
      · have := hmb _ (List.getElem_mem hjm); omega
  · rintro env s ⟨o5, o6, ms, rfl, ds, hms, hml, hmb⟩
    refine ⟨rfl, ?_⟩
    rw [List.length_range] at hmb
    simp only [ev, evs, evt, List.length_cons, List.length_nil, Nat.reduceAdd, Nat.reduceLT, LIM, Nat.reduceLeDiff, true_and, Nat.reduceSub]
    have d8 := ds.snoc (.lst [.int 1, .int 2, .int 4])
    refine sp_pick hP d8.pool (getL_last ..) (by decide) (by decide) (fun r2 x s5 hx d9 => ?_) (by have := ds.pool.lt; omega)
    have hq : ∃ q : Nat, x = .int q ∧ q ≤ 4 := by
      rcases r2 with _ | _ | _ | r2
      · exact ⟨1, by simpa using hx.symm, by decide⟩
      · exact ⟨2, by simpa using hx.symm, by decide⟩
      · exact ⟨4, by simpa using hx.symm, by decide⟩
      · simp at hx
    obtain ⟨T, rfl, hT⟩ := hq
    have d10 := d8.trans d9
    have hms5 : getM s5 s4.length = some (ms.map fun m : Nat => PV.int m) := d9.getM' (by omega) (getM_mono (pre_snoc ..) hms)
    simp only [ev, evs, evt, List.length_cons, List.length_nil, Nat.reduceAdd, Nat.reduceLT, LIM, Nat.reduceLeDiff, true_and, Nat.reduceSub, wkR_nat (show K < 4611686018427387904 by omega), wkR_nat (show A < 4611686018427387904 by omega), List.set]
    -- a row of numbers
    have hrow : ∀ (env : Env) (s : Sto) (Q : List PV × Bool → Sto → Prop), getV env 0 = some (.loc n) → getV env 7 = some (.int T) → env.length = 12 → Pool s n → (∀ (r : List Rat) (s' : Sto), Dr n s s' → RowOk A 3 r → Q (r.map fr, false) s') →
        wp (compLoop (cTurn (callF P G w (k + 4)) G .lst (.call "_law_number" [(.var 0), (.var 7)]) (.nm 9) [] env) [] ((List.range A).map fun i => PV.int (i : Nat)) [] s) Q := by
      intro env s Q e0 e7 el hp' hQ
      refine wp_compD (fun v => ∃ x, v = fr x ∧ Bq 3 x) hp' (fun x hx acc s' ds' => ?_) fun vs s' ds' hl hv => ?_
      · simp only [ev, evs, evt, el, Nat.reduceLT, true_and, if_true]
        have s0 : getV (setV env 9 x) 0 = some (.loc n) := by
          rw [← e0]; unfold getV setV; rw [List.getElem?_set_ne (by decide)]
        have s7 : getV (setV env 9 x) 7 = some (.int T) := by
          rw [← e7]; unfold getV setV; rw [List.getElem?_set_ne (by decide)]
        simp only [s0, s7, Option.some.injEq, exists_eq_left']
        exact sp_number hP ds'.pool hT fun y s2 hy ds2 => ⟨ds2, fr y, ⟨y, rfl, hy⟩, rfl⟩
      · obtain ⟨l, rfl, hlb⟩ := all_map hv
        refine hQ l s' ds' ⟨?_, hlb⟩
        simpa using hl
    -- the rows
    have hrows : ∀ (env : Env) (s : Sto) (Q : List PV × Bool → Sto → Prop), getV env 0 = some (.loc n) → getV env 2 = some (.int A) → getV env 7 = some (.int T) → env.length = 12 → Pool s n → (∀ (r : List (List Rat)) (s' : Sto), Dr n s s' → r.length = K → (∀ x ∈ r, RowOk A 3 x) → Q (r.map row, false) s') →
        wp (compLoop (cTurn (callF P G w (k + 4)) G .lst (.bi .tuple [(.comp .lst [9] (.call "_law_number" [(.var 0), (.var 7)]) [.mk (.nm 9) (.rng [(.var 2)]) []])]) (.nm 6) [] env) [] ((List.range K).map fun i => PV.int (i : Nat)) [] s) Q := by
      intro env s Q e0 e2 e7 el hp' hQ
      refine wp_compD (fun v => ∃ x, v = row x ∧ RowOk A 3 x) hp' (fun x hx acc s' ds' => ?_) fun vs s' ds' hl hv => ?_
      · simp only [ev, evs, evt, el, Nat.reduceLT, true_and, if_true]
        have g : ∀ j, j ≠ 6 → j ≠ 9 → getV ((setV env 6 x).set 9 none) j = getV env j := fun j h6 h9 => by
          unfold getV setV; rw [List.getElem?_set_ne (by omega), List.getElem?_set_ne (by omega)]
        have s2 : getV ((setV env 6 x).set 9 none) 2 = some (.int A) := by rw [g 2 (by decide) (by decide), e2]
        simp only [s2, Option.some.injEq, exists_eq_left', wkR_nat (show A < 4611686018427387904 by omega)]
        refine hrow _ _ _ (by rw [g 0 (by decide) (by decide), e0]) (by rw [g 7 (by decide) (by decide), e7]) (by rw [List.length_set]; unfold setV; rw [List.length_set, el]) ds'.pool fun r s3 d3 hr => ?_
        simp only [ev, evs, evt, tuple_loc (getL_last ..)]
        have hrl : (r.map fr).length ≤ LIM := by rw [List.length_map, hr.len]; show A ≤ 16777216; omega
        exact ⟨hrl, d3.snoc _, row r, ⟨r, rfl, hr⟩, rfl⟩
      · obtain ⟨l, rfl, hlb⟩ := all_map hv
        exact hQ l s' ds' (by simpa using hl) hlb
    refine hrows _ _ _ rfl rfl rfl rfl d10.pool fun lk s6 d11 lkl hlk => ?_
    have lkLim : (lk.map row).length ≤ 16777216 := by rw [List.length_map]; omega
    simp only [ev, evs, evt, List.length_cons, List.length_nil, Nat.reduceAdd, Nat.reduceLT, Nat.reduceLeDiff, true_and, Nat.reduceSub, tuple_loc (getL_last ..), lkLim, List.set, wkR_nat (show K < 4611686018427387904 by omega), Option.some.injEq, exists_eq_left']
    have d12 := (d10.trans d11).snoc (.lst (lk.map row))
    refine hrows _ _ _ rfl rfl rfl rfl d12.pool fun gn s7 d13 gnl hgn => ?_
    have gnLim : (gn.map row).length ≤ 16777216 := by rw [List.length_map]; omega
    have d14 := (d12.trans d13).snoc (.lst (gn.map row))
    have hms7 : getM (s7 ++ [MO.lst (gn.map row)]) s4.length = some (ms.map fun m : Nat => PV.int m) := getM_mono (pre_snoc ..) (d13.getM' (by omega) (getM_mono (pre_snoc ..) (d11.getM' (by omega) hms5)))
    simp only [ev, evs, evt, List.length_cons, List.length_nil, Nat.reduceAdd, Nat.reduceLT, Nat.reduceLeDiff, true_and, Nat.reduceSub, tuple_loc (getL_last ..), gnLim, List.set, Option.some.injEq, exists_eq_left', wk_loc (getL_of_M hms7)]
    have hml12 : ∀ m ∈ ms, m ≤ 12 := fun m hm => by have := hmb m hm; omega
    refine wp_compMap ms (fun m : Nat => PV.int m) (fun m : Nat => fr (Rat.divInt m W)) rfl (fun s p => gs_one (getL_mono p (getL_of_M hms7))) (fun m hm acc s p => ?_) fun s p => ?_
    · simp only [ev, evs, evt, List.length_cons, List.length_nil, Nat.reduceAdd, Nat.reduceLT, Nat.reduceLeDiff, true_and, Nat.reduceSub, if_true]
      have := hml12 m hm
      exact sp_frac (p := 4) hP.frac (by omega) (by unfold bd; omega) (by unfold bd; omega) (by decide) (by first | exact ⟨pre_refl _, rfl⟩ | exact pre_refl _)
    · have shLim : (ms.map fun m : Nat => fr (Rat.divInt m W)).length ≤ 16777216 := by rw [List.length_map]; omega
      simp only [ev, evs, evt, List.length_cons, List.length_nil, Nat.reduceAdd, Nat.reduceLT, Nat.reduceLeDiff, true_and, Nat.reduceSub, shLim, tuple_loc (getL_last ..)]
      have e : (ms.map fun m : Nat => fr (Rat.divInt m W)) = (ms.map fun m : Nat => Rat.divInt m W).map fr := by rw [List.map_map]; rfl
      rw [e]
      refine h K A _ lk gn _ ⟨by omega, by omega, by omega, by omega, ⟨by rw [List.length_map]; exact hml, fun x hx => ?_⟩, lkl, gnl, hlk, hgn⟩ ((d14.trans (Dr.pre d14.pool p)).snoc _)
      obtain ⟨m, hm, rfl⟩ := List.mem_map.mp hx
      have := hml12 m hm
      exact Bq_div (by unfold bd; omega) (by unfold bd; omega) (by omega)
end
end Lib
end Mp
set_option Elab.async false
set_option linter.all false
set_option maxRecDepth 100000
/-! L85d: lots of acts, sorted. -/
namespace Mp
namespace Lib
open PySem
def lotV (l : List Nat) : PV := .tup (l.map fun a : Nat => .int a)
def lotD (l : List Nat) : PyData := .tuple (l.map fun a : Nat => .int a)
def ltL : List Nat → List Nat → Bool
  | [], [] => false
  | [], _ :: _ => true
  | _ :: _, [] => false
  | a :: as, b :: bs => decide (a < b) || (decide (a = b) && ltL as bs)
theorem toks_nil : PySem.W.keyToksAll [] = [.inl 0] := by unfold PySem.W.keyToksAll; rfl
theorem toks_int (n : Int) : PySem.W.keyToks (.int n) = [.inl n] := by unfold PySem.W.keyToks; rfl
theorem lex_cons' (p q : Int ⊕ List Nat) (l m : List (Int ⊕ List Nat)) : PyProof.Rows.lexLt PyProof.Rows.itemOrd (p :: l) (q :: m) = (PyProof.Rows.itemLt p q || (!PyProof.Rows.itemLt q p && PyProof.Rows.lexLt PyProof.Rows.itemOrd l m)) := PyProof.Rows.lex_cons ..
theorem item_int (a b : Int) : PyProof.Rows.itemLt (.inl a) (.inl b) = decide (a < b) := rfl
theorem ltL_data : ∀ a b : List Nat, PyProof.Rows.lexLt PyProof.Rows.itemOrd (PySem.W.keyToksAll (a.map fun n : Nat => PyData.int n)) (PySem.W.keyToksAll (b.map fun n : Nat => PyData.int n)) = ltL a b
  | [], [] => by rw [List.map_nil, toks_nil, lex_cons', item_int]; unfold ltL; rfl
  | [], b :: bs => by rw [List.map_nil, List.map_cons, toks_nil, PySem.W.toks_all_cons, lex_cons', item_int]; unfold ltL; rfl
  | a :: as, [] => by rw [List.map_nil, List.map_cons, toks_nil, PySem.W.toks_all_cons, lex_cons', item_int, item_int]; unfold ltL; rfl
  | a :: as, b :: bs => by
    rw [List.map_cons, List.map_cons, PySem.W.toks_all_cons, PySem.W.toks_all_cons, lex_cons', item_int, toks_int, toks_int]
    show (decide ((1 : Int) < 1) || (!decide ((1 : Int) < 1) && PyProof.Rows.lexLt PyProof.Rows.itemOrd (.inl (a : Int) :: _) (.inl (b : Int) :: _))) = _
    rw [lex_cons', item_int, item_int]
    have ih := ltL_data as bs
    show (decide ((1 : Int) < 1) || (!decide ((1 : Int) < 1) && (decide ((a : Int) < b) || (!decide ((b : Int) < a) && PyProof.Rows.lexLt PyProof.Rows.itemOrd (PySem.W.keyToksAll (as.map fun n : Nat => PyData.int n)) (PySem.W.keyToksAll (bs.map fun n : Nat => PyData.int n)))))) = _
    rw [ih]
    show _ = (decide (a < b) || (decide (a = b) && ltL as bs))
    by_cases h : a < b
    · have : (a : Int) < b := by omega
      simp [h, this]
    · by_cases h2 : a = b
      · subst h2; simp
      · have h3 : ¬ (a : Int) < b := by omega
        have h4 : (b : Int) < a := by omega
        simp [h, h2, h3, h4]
theorem lot_lt (a b : List Nat) : PySem.W.dataLt (lotD a) (lotD b) = ltL a b := by
  unfold lotD
  rw [PySem.W.dataLt_tuple]
  exact ltL_data a b
theorem ltL_irrefl : ∀ a, ltL a a = false
  | [] => rfl
  | a :: as => by unfold ltL; simp [ltL_irrefl as]
theorem ltL_trans : ∀ {a b c : List Nat}, ltL a b = true → ltL b c = true → ltL a c = true
  | [], [], _, h, _ => by unfold ltL at h; cases h
  | [], b :: bs, [], _, h => by unfold ltL at h; cases h
  | [], b :: bs, c :: cs, _, _ => by unfold ltL; rfl
  | a :: as, [], _, h, _ => by unfold ltL at h; cases h
  | a :: as, b :: bs, [], _, h => by unfold ltL at h; cases h
  | a :: as, b :: bs, c :: cs, h1, h2 => by
    unfold ltL at h1 h2 ⊢
    simp only [Bool.or_eq_true, Bool.and_eq_true, decide_eq_true_eq] at h1 h2 ⊢
    rcases h1 with h1 | ⟨h1, h3⟩
    · rcases h2 with h2 | ⟨h2, h4⟩ <;> exact .inl (by omega)
    · rcases h2 with h2 | ⟨h2, h4⟩
      · exact .inl (by omega)
      · exact .inr ⟨by omega, ltL_trans h3 h4⟩
theorem ltL_conn : ∀ {a b : List Nat}, ltL a b = false → ltL b a = false → a = b
  | [], [], _, _ => rfl
  | [], b :: bs, h, _ => by unfold ltL at h; cases h
  | a :: as, [], _, h => by unfold ltL at h; cases h
  | a :: as, b :: bs, h1, h2 => by
    unfold ltL at h1 h2
    simp only [Bool.or_eq_false_iff, Bool.and_eq_false_iff, decide_eq_false_iff_not] at h1 h2
    have e : a = b := by omega
    subst e
    have h3 := h1.2.resolve_left (fun h => h rfl)
    have h4 := h2.2.resolve_left (fun h => h rfl)
    rw [ltL_conn h3 h4]
/-- an order that sorts -/
structure Srt {α : Type} (lt : α → α → Bool) : Prop where
  irr : ∀ a, lt a a = false
  trans : ∀ {a b c}, lt a b = true → lt b c = true → lt a c = true
  conn : ∀ {a b}, lt a b = false → lt b a = false → a = b
theorem Srt.asymm {α : Type} {lt : α → α → Bool} (o : Srt lt) {a b : α} (h : lt a b = true) : lt b a = false := by
  cases e : lt b a with
  | false => rfl
  | true => have := o.trans h e; rw [o.irr] at this; cases this
theorem srt_lots : Srt ltL := ⟨ltL_irrefl, ltL_trans, ltL_conn⟩
/-- a sorted list is what sorting gives -/
theorem sort_eq {α : Type} {lt : α → α → Bool} (o : Srt lt) {l t : List α} (hp : t.Perm l) (ht : t.Pairwise fun a b => lt a b = true) : l.mergeSort (fun a b => !lt b a) = t := by
  have htr : ∀ a b c : α, (!lt b a) = true → (!lt c b) = true → (!lt c a) = true := fun a b c h1 h2 => by
    simp only [Bool.not_eq_true'] at h1 h2 ⊢
    cases e : lt c a with
    | false => rfl
    | true =>
      exfalso
      -- c < a, not b < a: a < b or a = b
      cases e2 : lt a b with
      | true => have := o.trans e e2; rw [h2] at this; cases this
      | false => have := o.conn e2 h1; subst this; rw [h2] at e; cases e
  have hto : ∀ a b : α, ((!lt b a) || (!lt a b)) = true := fun a b => by
    cases e : lt b a with
    | false => rfl
    | true => rw [o.asymm e]; rfl
  refine List.Perm.eq_of_pairwise (le := fun a b => (!lt b a) = true) (fun a b _ _ h1 h2 => ?_) (List.pairwise_mergeSort htr hto l) (ht.imp fun h => by rw [o.asymm h]; rfl) ((List.mergeSort_perm l _).trans hp.symm)
  simp only [Bool.not_eq_true'] at h1 h2
  exact o.conn h2 h1
/-- sorted by keys -/
theorem srt_eq {α : Type} {lt : α → α → Bool} (o : Srt lt) {l t : List α} {v : α → PV} {d : α → PyData} (hd : ∀ a b, PySem.W.dataLt (d a) (d b) = lt a b) (hp : t.Perm l) (ht : t.Pairwise fun a b => lt a b = true) : srt (l.map d) (l.map v) = t.map v := by
  unfold srt
  have e : (l.map v).zip (l.map d) = l.map fun a => (v a, d a) := by
    rw [List.zip_map']
  rw [e, ← List.map_mergeSort (r := fun a b => !lt b a) (f := fun a => (v a, d a)) (fun a _ b _ => by rw [hd]), List.map_map, sort_eq o hp ht]
  rfl
theorem datAll_map {α : Type} {v : α → PV} {d : α → PyData} (h : ∀ a, dat (v a) = some (d a)) : ∀ l : List α, datAll (l.map v) = some (l.map d)
  | [] => by unfold datAll; rfl
  | a :: l => by
    rw [List.map_cons]
    unfold datAll
    rw [h a, datAll_map h l]
    rfl
theorem dat_int (n : Int) : dat (.int n) = some (.int n) := by unfold dat; rfl
theorem dat_lot (l : List Nat) : dat (lotV l) = some (lotD l) := by
  unfold lotV dat
  rw [datAll_map (d := fun a : Nat => PyData.int a) fun a => dat_int a]
  rfl
theorem alikeAll_int : ∀ a b : List Nat, PySem.W.alikeAll (a.map fun n : Nat => PyData.int n) (b.map fun n : Nat => PyData.int n) = true
  | [], _ => by rw [List.map_nil]; unfold PySem.W.alikeAll; rfl
  | a :: as, [] => by rw [List.map_nil, List.map_cons]; unfold PySem.W.alikeAll; rfl
  | a :: as, b :: bs => by
    rw [List.map_cons, List.map_cons]
    unfold PySem.W.alikeAll
    rw [alikeAll_int as bs]
    unfold PySem.W.alike
    rfl
theorem alike_lot (a b : List Nat) : PySem.W.alike (lotD a) (lotD b) = true := by
  unfold lotD PySem.W.alike
  exact alikeAll_int a b
theorem depthAll_int : ∀ a : List Nat, PyData.depthAll (a.map fun n : Nat => PyData.int n) = 0
  | [] => by rw [List.map_nil]; unfold PyData.depthAll; rfl
  | a :: as => by
    rw [List.map_cons]
    unfold PyData.depthAll
    rw [depthAll_int as]
    unfold PyData.depth
    rfl
theorem depth_lot (a : List Nat) : (lotD a).depth ≤ 1 := by
  unfold lotD PyData.depth
  rw [depthAll_int a]
  exact Nat.le_refl _
theorem all_all {α : Type} (f : α → PyData) (p : PyData → Bool) (l : List α) (h : ∀ a ∈ l, p (f a) = true) : (l.map f).all p = true := by
  rw [List.all_map, List.all_eq_true]
  exact h
/-- lots that begin with the empty one, or none of which is empty -/
theorem srtOk_lots {l : List (List Nat)} (h : (∃ r, l = [] :: r) ∨ ∀ a ∈ l, a ≠ []) : srtOk (l.map lotD) = true := by
  unfold srtOk
  rw [Bool.and_eq_true, Bool.and_eq_true]
  refine ⟨all_all _ _ _ fun a _ => all_all _ _ _ fun b _ => alike_lot a b, all_all _ _ _ fun a _ => by rw [decide_eq_true_eq]; have := depth_lot a; omega, ?_⟩
  rcases h with ⟨r, rfl⟩ | h
  · rw [Bool.or_eq_true, Bool.or_eq_true, Bool.and_eq_true]
    exact .inr (.inr ⟨rfl, all_all _ _ _ fun a _ => rfl⟩)
  · rw [Bool.or_eq_true]
    refine .inl (all_all _ _ _ fun a ha => ?_)
    cases a with
    | nil => exact absurd rfl (h _ ha)
    | cons x xs => rfl
/-! ### all lots -/
def rawL : Nat → List (List Nat)
  | 0 => [[]]
  | n + 1 => rawL n ++ (rawL n).map (· ++ [n])
def insL (lt : List Nat → List Nat → Bool) (a : List Nat) : List (List Nat) → List (List Nat)
  | [] => [a]
  | b :: l => if lt a b then a :: b :: l else b :: insL lt a l
def isort (lt : List Nat → List Nat → Bool) : List (List Nat) → List (List Nat)
  | [] => []
  | a :: l => insL lt a (isort lt l)
/-- ascending -/
def ascL (n : Nat) : List (List Nat) := isort ltL ((rawL n).filter (· ≠ []))
/-- by length, then ascending -/
def ltK (a b : List Nat) : Bool := decide (a.length < b.length) || (decide (a.length = b.length) && ltL a b)
def keyL (n : Nat) : List (List Nat) := isort ltK (ascL n)
theorem srt_key : Srt ltK where
  irr := fun a => by unfold ltK; simp [ltL_irrefl]
  trans := fun {a b c} h1 h2 => by
    unfold ltK at h1 h2 ⊢
    simp only [Bool.or_eq_true, Bool.and_eq_true, decide_eq_true_eq] at h1 h2 ⊢
    rcases h1 with h1 | ⟨h1, h3⟩
    · rcases h2 with h2 | ⟨h2, h4⟩ <;> exact .inl (by omega)
    · rcases h2 with h2 | ⟨h2, h4⟩
      · exact .inl (by omega)
      · exact .inr ⟨by omega, ltL_trans h3 h4⟩
  conn := fun {a b} h1 h2 => by
    unfold ltK at h1 h2
    simp only [Bool.or_eq_false_iff, Bool.and_eq_false_iff, decide_eq_false_iff_not] at h1 h2
    have e : a.length = b.length := by omega
    exact ltL_conn (h1.2.resolve_left fun h => h e) (h2.2.resolve_left fun h => h e.symm)
/-- what is seen of the lots of up to six acts -/
structure LotsOk (n : Nat) : Prop where
  perm0 : ([] :: ascL n).Perm (rawL n)
  sort0 : ([] :: ascL n).Pairwise fun a b => ltL a b = true
  perm1 : (ascL n).Perm ((rawL n).filter (· ≠ []))
  permK : (keyL n).Perm (ascL n)
  sortK : (keyL n).Pairwise fun a b => ltK a b = true
  len : (ascL n).length ≤ 63
  ok : ∀ l ∈ ascL n, l ≠ [] ∧ l.Pairwise (· < ·) ∧ ∀ a ∈ l, a < n
  first : ∃ r, rawL n = [] :: r
  all : List.range n ∈ ascL n
theorem lots_ok : ∀ n, 1 ≤ n → n ≤ 6 → LotsOk n := by
  intro n h1 h6
  have h : n = 1 ∨ n = 2 ∨ n = 3 ∨ n = 4 ∨ n = 5 ∨ n = 6 := by omega
  rcases h with rfl | rfl | rfl | rfl | rfl | rfl <;>
  exact ⟨by decide +kernel, by decide +kernel, by decide +kernel, by decide +kernel, by decide +kernel, by decide +kernel, by decide +kernel, ⟨_, rfl⟩, by decide +kernel⟩
end Lib
end Mp
set_option Elab.async false
set_option linter.all false
set_option maxRecDepth 100000
/-! L85e: what is done, plainly. -/
namespace Mp
namespace Lib
open PySem
abbrev gt (u : List Rat) (a : Nat) : Rat := u.getD a 0
def better (u v : List Rat) (b a : Nat) : Bool := decide (gt u b < gt u a) || (decide (gt u a = gt u b) && decide (gt v b < gt v a))
def actD (u v : List Rat) (lot : List Nat) : Nat := lot.foldl (fun b a => if better u v b a then a else b) (lot.headD 0)
/-- m is rather done than x -/
def Pref (u v : List Rat) (x m : Nat) : Prop := gt u x < gt u m ∨ (gt u x = gt u m ∧ (gt v x < gt v m ∨ (gt v x = gt v m ∧ m < x)))
theorem Pref.trans {u v : List Rat} {x y z : Nat} (h : Pref u v x y) (k : Pref u v y z) : Pref u v x z := by
  unfold Pref at *
  grind
theorem Pref.asymm {u v : List Rat} {x y : Nat} (h : Pref u v x y) (k : Pref u v y x) : False := by
  unfold Pref at *
  grind
/-- m is done of the lot -/
def Best (u v : List Rat) (lot : List Nat) (m : Nat) : Prop := m ∈ lot ∧ ∀ x ∈ lot, x ≠ m → Pref u v x m
theorem Best.uniq {u v : List Rat} {lot : List Nat} {m n : Nat} (h : Best u v lot m) (k : Best u v lot n) : m = n := by
  by_cases e : m = n
  · exact e
  · exact ((h.2 n k.1 (Ne.symm e)).asymm (k.2 m h.1 e)).elim
theorem best_step {u v : List Rat} {l : List Nat} {m a : Nat} (h : Best u v l m) (ha : ∀ x ∈ l, x < a) : Best u v (l ++ [a]) (if better u v m a then a else m) := by
  have hm := ha m h.1
  by_cases hb : better u v m a = true
  · rw [if_pos hb]
    have p : Pref u v m a := by
      unfold better at hb
      simp only [Bool.or_eq_true, Bool.and_eq_true, decide_eq_true_eq] at hb
      unfold Pref
      rcases hb with hb | ⟨hb, hc⟩
      · exact .inl hb
      · exact .inr ⟨hb.symm, .inl hc⟩
    refine ⟨by simp, fun x hx hne => ?_⟩
    rcases List.mem_append.mp hx with hx | hx
    · by_cases e : x = m
      · rw [e]; exact p
      · exact (h.2 x hx e).trans p
    · exact (hne (List.mem_singleton.mp hx)).elim
  · rw [if_neg hb]
    refine ⟨by simp [h.1], fun x hx hne => ?_⟩
    rcases List.mem_append.mp hx with hx | hx
    · exact h.2 x hx hne
    · rw [List.mem_singleton.mp hx]
      unfold better at hb
      simp only [Bool.or_eq_true, Bool.and_eq_true, decide_eq_true_eq, not_or, not_and] at hb
      unfold Pref
      have h1 := hb.1
      have h2 := hb.2
      by_cases e : gt u a = gt u m
      · have := h2 e
        refine .inr ⟨e, ?_⟩
        grind
      · left
        grind
theorem fold_best {u v : List Rat} : ∀ (r l : List Nat) (m : Nat), Best u v l m → (l ++ r).Pairwise (· < ·) → Best u v (l ++ r) (r.foldl (fun b a => if better u v b a then a else b) m)
  | [], l, m, h, _ => by rw [List.append_nil]; exact h
  | a :: r, l, m, h, hs => by
    rw [List.foldl_cons]
    have e : l ++ a :: r = (l ++ [a]) ++ r := by simp
    rw [e] at hs ⊢
    refine fold_best r (l ++ [a]) _ (best_step h fun x hx => ?_) hs
    exact (List.pairwise_append.mp (List.pairwise_append.mp hs).1).2.2 x hx a (by simp)
theorem better_self (u v : List Rat) (a : Nat) : better u v a a = false := by
  unfold better
  have : ¬ gt u a < gt u a := by grind
  have : ¬ gt v a < gt v a := by grind
  simp [*]
theorem actD_best {u v : List Rat} {lot : List Nat} (h : lot ≠ []) (hs : lot.Pairwise (· < ·)) : Best u v lot (actD u v lot) := by
  unfold actD
  cases lot with
  | nil => exact absurd rfl h
  | cons a r =>
    rw [List.headD_cons, List.foldl_cons, better_self]
    exact fold_best r [a] a ⟨by simp, fun x hx hne => (hne (List.mem_singleton.mp hx)).elim⟩ hs
theorem actD_mem {u v : List Rat} {lot : List Nat} (h : lot ≠ []) (hs : lot.Pairwise (· < ·)) : actD u v lot ∈ lot := (actD_best h hs).1
/-- lots of the same done act, with others less -/
theorem actD_sub {u v : List Rat} {lot more : List Nat} (h : lot ≠ []) (hs : lot.Pairwise (· < ·)) (h' : more ≠ []) (hs' : more.Pairwise (· < ·)) (hsub : ∀ x ∈ lot, x ∈ more) (hm : actD u v more ∈ lot) : actD u v lot = actD u v more :=
  (actD_best h hs).uniq ⟨hm, fun x hx hne => (actD_best h' hs').2 x (hsub x hx) hne⟩
def doneL (lk gn : List (List Rat)) (lot : List Nat) : List Nat := (lk.zip gn).map fun p => actD p.1 p.2 lot
def gainsL (gn : List (List Rat)) (done : List Nat) : List Rat := (gn.zip done).map fun p => gt p.1 p.2
def gainL (sh : List Rat) (lk gn : List (List Rat)) (lot : List Nat) : Rat := dotR sh (gainsL gn (doneL lk gn lot))
structure LotOk (A : Nat) (lot : List Nat) : Prop where
  ne : lot ≠ []
  asc : lot.Pairwise (· < ·)
  lt : ∀ a ∈ lot, a < A
theorem doneL_sub {lk gn : List (List Rat)} {lot more : List Nat} {A : Nat} (h : LotOk A lot) (h' : LotOk A more) (hsub : ∀ x ∈ lot, x ∈ more) (hm : ∀ d ∈ doneL lk gn more, d ∈ lot) : doneL lk gn lot = doneL lk gn more := by
  unfold doneL at *
  refine List.map_congr_left fun p hp => ?_
  exact actD_sub h.ne h.asc h'.ne h'.asc hsub (hm _ (List.mem_map.mpr ⟨p, hp, rfl⟩))
theorem doneL_mem {lk gn : List (List Rat)} {lot : List Nat} {A : Nat} (h : LotOk A lot) : ∀ d ∈ doneL lk gn lot, d ∈ lot := fun d hd => by
  obtain ⟨p, _, rfl⟩ := List.mem_map.mp hd
  exact actD_mem h.ne h.asc
theorem getD_lt {r : List Rat} {a : Nat} (h : a < r.length) : r[a]? = some (gt r a) := by
  unfold gt
  rw [List.getD_eq_getElem?_getD, List.getElem?_eq_getElem h]
  rfl
theorem ix_row {st : Sto} {r : List Rat} {a : Nat} (h : a < r.length) : ixV st (row r) (.int (a : Int)) = some (fr (gt r a)) := by
  unfold row
  refine ix_tup ?_
  rw [List.getElem?_map, getD_lt h]
  rfl
theorem RowOk.get {A p : Nat} {r : List Rat} (h : RowOk A p r) {a : Nat} (ha : a < A) : Bq p (gt r a) := h.bq _ (List.mem_of_getElem? (getD_lt (by rw [h.len]; exact ha)))
theorem lot_head {lot : List Nat} (h : lot ≠ []) (st : Sto) : ixV st (lotV lot) (.int 0) = some (.int ((lot.headD 0 : Nat) : Int)) := by
  cases lot with
  | nil => exact absurd rfl h
  | cons a r => exact ix_tup (i := 0) rfl
theorem headD_mem {lot : List Nat} (h : lot ≠ []) : lot.headD 0 ∈ lot := by
  cases lot with
  | nil => exact absurd rfl h
  | cons a r => simp
/-- the act so far -/
def actI (u v : List Rat) (lot : List Nat) (i : Nat) : Nat := (lot.take i).foldl (fun b a => if better u v b a then a else b) (lot.headD 0)
theorem actI_mem {u v : List Rat} {lot : List Nat} (h : lot ≠ []) (i : Nat) : actI u v lot i ∈ lot := by
  unfold actI
  have : ∀ (l : List Nat) (m : Nat), m ∈ lot → (∀ x ∈ l, x ∈ lot) → l.foldl (fun b a => if better u v b a then a else b) m ∈ lot := by
    intro l
    induction l with
    | nil => intro m hm _; exact hm
    | cons a l ih =>
      intro m hm hl
      rw [List.foldl_cons]
      refine ih _ ?_ fun x hx => hl x (List.mem_cons_of_mem _ hx)
      split
      · exact hl a (List.mem_cons_self ..)
      · exact hm
  exact this _ _ (headD_mem h) fun x hx => List.mem_of_mem_take hx
theorem actI_succ {u v : List Rat} {lot : List Nat} {i a : Nat} (h : lot[i]? = some a) : actI u v lot (i + 1) = if better u v (actI u v lot i) a then a else actI u v lot i := by
  unfold actI
  rw [List.take_add_one, h, List.foldl_append]
  rfl
theorem actI_all (u v : List Rat) (lot : List Nat) : actI u v lot lot.length = actD u v lot := by
  unfold actI actD
  rw [List.take_length]
end Lib
end Mp
set_option Elab.async false
set_option linter.all false
set_option maxRecDepth 100000
/-! L85f: the acts that are done, and their gain, by both. -/
namespace Mp
namespace Lib
open PySem
def B_act_done : List S := [
  .asg (.nm 3) (.ix (.var 2) (.int 0)),
  .for_ (.nm 4) (.val (.var 2)) [
   .ite (.call "less" [(.ix (.var 0) (.var 3)), (.ix (.var 0) (.var 4))]) [
    .asg (.nm 3) (.var 4)] [
    .ite (.and (.cmp .eq (.ix (.var 0) (.var 4)) (.ix (.var 0) (.var 3))) (.call "less" [(.ix (.var 1) (.var 3)), (.ix (.var 1) (.var 4))])) [
     .asg (.nm 3) (.var 4)] []]],
  .ret (.var 3)]
def B_done_by : List S := [
  .ret (.comp .tup [3, 4] (.call "act_done" [(.var 3), (.var 4), (.var 2)]) [.mk (.tup [(.nm 3), (.nm 4)]) (.zip [(.var 0), (.var 1)]) []])]
def B_let_gain : List S := [
  .asg (.nm 4) (.call "done_by" [(.var 1), (.var 2), (.var 3)]),
  .ret (.call "dot" [(.var 0), (.comp .tup [5, 6] (.ix (.var 5) (.var 6)) [.mk (.tup [(.nm 5), (.nm 6)]) (.zip [(.var 2), (.var 4)]) []])])]
def B__law_done : List S := [
  .asg (.nm 3) (.lst []),
  .for_ (.nm 4) (.rng [(.bi .len [(.var 0)])]) [
   .asg (.nm 5) (.ix (.var 2) (.int 0)),
   .for_ (.nm 6) (.val (.var 2)) [
    .asg (.nm 7) (.call "_law_is_less" [(.ix (.ix (.var 0) (.var 4)) (.var 5)), (.ix (.ix (.var 0) (.var 4)) (.var 6))]),
    .asg (.nm 8) (.and (.cmp .eq (.ix (.ix (.var 0) (.var 4)) (.var 5)) (.ix (.ix (.var 0) (.var 4)) (.var 6))) (.call "_law_is_less" [(.ix (.ix (.var 1) (.var 4)) (.var 5)), (.ix (.ix (.var 1) (.var 4)) (.var 6))])),
    .asg (.nm 5) (.ifx (.or (.var 7) (.var 8)) (.var 6) (.var 5))],
   .expr (.mt .append (.var 3) [(.var 5)])],
  .ret (.bi .tuple [(.var 3)])]
def B__law_gain : List S := [
  .asg (.nm 4) (.call "_law_done" [(.var 1), (.var 2), (.var 3)]),
  .ret (.call "_law_sum" [(.comp .lst [5] (.call "_law_times" [(.ix (.var 0) (.var 5)), (.ix (.ix (.var 2) (.var 5)) (.ix (.var 4) (.var 5)))]) [.mk (.nm 5) (.rng [(.bi .len [(.var 0)])]) []])])]
def B__law_same : List S := [
  .ite (.cmp .is (.var 1) .non) [
   .ret (.cmp .is (.var 0) .non)] [],
  .ite (.isa (.var 1) .tuple) [
   .ite (.or (.not (.isa (.var 0) .tuple)) (.cmp .ne (.bi .len [(.var 0)]) (.bi .len [(.var 1)]))) [
    .ret (.bl false)] [],
   .for_ (.nm 2) (.rng [(.bi .len [(.var 1)])]) [
    .ite (.not (.call "_law_same" [(.ix (.var 0) (.var 2)), (.ix (.var 1) (.var 2))])) [
     .ret (.bl false)] []],
   .ret (.bl true)] [],
  .ite (.isa (.var 1) .bool) [
   .ret (.and (.isa (.var 0) .bool) (.cmp .eq (.var 0) (.var 1)))] [],
  .ite (.isa (.var 1) .int) [
   .ret (.and (.isa (.var 0) .int) (.and (.not (.isa (.var 0) .bool)) (.cmp .eq (.var 0) (.var 1))))] [],
  .ret (.and (.isa (.var 0) .str) (.cmp .eq (.var 0) (.var 1)))]
def B__law_needless : List S := [
  .asg (.nm 3) (.lst []),
  .for_ (.nm 4) (.val (.var 2)) [
   .asg (.nm 5) (.bi .tuple [(.comp .lst [6] (.var 6) [.mk (.nm 6) (.val (.var 2)) [(.cmp .ne (.var 6) (.var 4))]])]),
   .ite (.and (.cmp .gt (.bi .len [(.var 5)]) (.int 0)) (.cmp .eq (.call "_law_done" [(.var 0), (.var 1), (.var 5)]) (.call "_law_done" [(.var 0), (.var 1), (.var 2)]))) [
    .expr (.mt .append (.var 3) [(.var 4)])] []],
  .ret (.bi .tuple [(.var 3)])]
def B_needless_acts : List S := [
  .asg (.nm 3) (.call "done_by" [(.var 0), (.var 1), (.var 2)]),
  .ret (.comp .tup [4] (.var 4) [.mk (.nm 4) (.val (.var 2)) [(.cmp .notin (.var 4) (.var 3))]])]

section
variable {P : Str → Option Fn} {G : Str → Option PV} {w k : Nat} {st : Sto} {Q : PV → Sto → Prop}
structure HasF (P : Str → Option Fn) : Prop where
  common : P "common" = some ⟨2, 2, B_common⟩
  ratio : P "ratio" = some ⟨2, 3, B_ratio⟩
  less : P "less" = some ⟨2, 2, B_less⟩
  bottom : P "bottom_of" = some ⟨1, 3, B_bottom_of⟩
  tops : P "tops_over" = some ⟨2, 3, B_tops_over⟩
  wholes : P "wholes" = some ⟨1, 2, B_wholes⟩
  raw : P "raw_dot" = some ⟨2, 8, B_raw_dot⟩
  dot : P "dot" = some ⟨2, 4, B_dot⟩
  act : P "act_done" = some ⟨3, 5, B_act_done⟩
  done : P "done_by" = some ⟨3, 5, B_done_by⟩
  gain : P "let_gain" = some ⟨4, 7, B_let_gain⟩
  frac : P "_law_frac" = some ⟨2, 5, B__law_frac⟩
  add : P "_law_add" = some ⟨2, 2, B__law_add⟩
  times : P "_law_times" = some ⟨2, 2, B__law_times⟩
  isless : P "_law_is_less" = some ⟨2, 2, B__law_is_less⟩
  sum : P "_law_sum" = some ⟨1, 3, B__law_sum⟩
  ldone : P "_law_done" = some ⟨3, 9, B__law_done⟩
  lgain : P "_law_gain" = some ⟨4, 6, B__law_gain⟩
  same : P "_law_same" = some ⟨2, 3, B__law_same⟩
  lneed : P "_law_needless" = some ⟨3, 7, B__law_needless⟩
  need : P "needless_acts" = some ⟨3, 5, B_needless_acts⟩
theorem sp_act_done (hP : HasF P) {A p : Nat} {u v : List Rat} {lot : List Nat} (hu : RowOk A p u) (hv : RowOk A p v) (hl : LotOk A lot) (hp : p ≤ 8000) (h : Q (.int (actD u v lot : Nat)) st) : wp (callF P G w (k + 2) "act_done" [row u, row v, lotV lot] st) Q := by
  refine wp_callF hP.act rfl ?_
  unfold B_act_done
  simp only [ev, evs, List.map, List.replicate, List.append_nil, List.cons_append, List.nil_append, List.length_cons, List.length_nil, Nat.reduceAdd, Nat.reduceLT, LIM, Nat.reduceLeDiff, true_and, Nat.reduceSub, lot_head hl.ne]
  have e : wkV st (lotV lot) = some ⟨lot.map fun a : Nat => PV.int a, []⟩ := rfl
  simp only [e, Option.some.injEq, exists_eq_left']
  refine wp_forM lot (fun a : Nat => PV.int a) (fun i env s => ∃ o, env = [some (row u), some (row v), some (lotV lot), some (.int (actI u v lot i : Nat)), o] ∧ s = st) rfl ⟨none, rfl, rfl⟩ ?_ ?_
  · rintro i a env s ha ⟨o, rfl, rfl⟩
    refine ⟨rfl, ?_⟩
    have hm := hl.lt _ (actI_mem (u := u) (v := v) hl.ne i)
    have ha' := hl.lt a (List.mem_of_getElem? ha)
    rw [actI_succ ha]
    generalize actI u v lot i = m at hm
    simp only [ev, evs, List.length_cons, List.length_nil, Nat.reduceAdd, Nat.reduceLT, LIM, Nat.reduceLeDiff, true_and, Nat.reduceSub, ix_row (r := u) (a := m) (by rw [hu.len]; exact hm), ix_row (r := u) (a := a) (by rw [hu.len]; exact ha'), Option.some.injEq, exists_eq_left']
    refine sp_less hP.less (hu.get hm) (hu.get ha') (by omega) ?_
    simp only [ev, evs, Option.some.injEq, exists_eq_left']
    by_cases h1 : gt u m < gt u a
    · have hb : better u v m a = true := by simp only [better, h1, decide_true, Bool.true_or]
      simp only [h1, decide_true, if_true, ev, List.length_cons, List.length_nil, Nat.reduceAdd, Nat.reduceLT, true_and, hb]
      first | exact ⟨_, rfl, trivial⟩ | exact ⟨_, rfl, rfl⟩ | exact ⟨_, rfl⟩
    · simp only [h1, decide_false, Bool.false_eq_true, if_false, ev, evs, List.length_cons, List.length_nil, Nat.reduceAdd, Nat.reduceLT, true_and, ix_row (r := u) (a := m) (by rw [hu.len]; exact hm), ix_row (r := u) (a := a) (by rw [hu.len]; exact ha'), ix_row (r := v) (a := m) (by rw [hv.len]; exact hm), ix_row (r := v) (a := a) (by rw [hv.len]; exact ha'), Option.some.injEq, exists_eq_left', cmp_eq, eqv_fr]
      by_cases h2 : gt u a = gt u m
      · simp only [h2, decide_true, if_true]
        refine sp_less hP.less (hv.get hm) (hv.get ha') (by omega) ?_
        simp only [ev, evs, Option.some.injEq, exists_eq_left']
        by_cases h3 : gt v m < gt v a
        · have hb : better u v m a = true := by simp only [better, h2, h3, decide_true, Bool.and_true, Bool.or_true]
          simp only [h3, decide_true, if_true, ev, List.length_cons, List.length_nil, Nat.reduceAdd, Nat.reduceLT, true_and, hb]
          first | exact ⟨_, rfl, trivial⟩ | exact ⟨_, rfl, rfl⟩ | exact ⟨_, rfl⟩
        · have hb : better u v m a = false := by simp only [better, h1, h3, decide_false, Bool.and_false, Bool.or_false]
          simp only [h3, decide_false, Bool.false_eq_true, if_false, ev, hb]
          first | exact ⟨_, rfl, trivial⟩ | exact ⟨_, rfl, rfl⟩ | exact ⟨_, rfl⟩
      · have hb : better u v m a = false := by simp only [better, h1, h2, decide_false, Bool.false_and, Bool.or_false]
        simp only [h2, decide_false, Bool.false_eq_true, if_false, ev, hb]
        first | exact ⟨_, rfl, trivial⟩ | exact ⟨_, rfl, rfl⟩ | exact ⟨_, rfl⟩
  · rintro env s ⟨o, rfl, rfl⟩
    refine ⟨rfl, ?_⟩
    simp only [ev, actI_all]
    exact h
structure HasL (lk gn : List (List Rat)) (K A : Nat) : Prop where
  lkl : lk.length = K
  gnl : gn.length = K
  lk : ∀ r ∈ lk, RowOk A 3 r
  gn : ∀ r ∈ gn, RowOk A 3 r
theorem done_len {lk gn : List (List Rat)} {K A : Nat} (h : HasL lk gn K A) (lot : List Nat) : (doneL lk gn lot).length = K := by
  unfold doneL
  rw [List.length_map, List.length_zip, h.lkl, h.gnl, Nat.min_self]
theorem sp_done_by (hP : HasF P) {A K : Nat} {lk gn : List (List Rat)} {lot : List Nat} (hL : HasL lk gn K A) (hK : K ≤ 3) (hl : LotOk A lot) (h : Q (.tup ((doneL lk gn lot).map fun a : Nat => .int a)) st) : wp (callF P G w (k + 3) "done_by" [.tup (lk.map row), .tup (gn.map row), lotV lot] st) Q := by
  refine wp_callF hP.done rfl ?_
  unfold B_done_by
  simp only [ev, evs, List.map, List.replicate, List.append_nil, List.cons_append, List.nil_append, List.length_cons, List.length_nil, Nat.reduceAdd, Nat.reduceLT, LIM, Nat.reduceLeDiff, true_and, Nat.reduceSub, zip2_map]
  refine wp_compLoop (fun i acc s => s = st ∧ acc = ((lk.zip gn).take i).map fun p => .int (actD p.1 p.2 lot : Nat)) ⟨rfl, rfl⟩ ?_ ?_
  · rintro i x acc s hx ⟨rfl, rfl⟩
    rw [List.getElem?_map] at hx
    obtain ⟨⟨u, v⟩, hp, rfl⟩ := Option.map_eq_some_iff.mp hx
    have hm := List.of_mem_zip (List.mem_of_getElem? hp)
    refine ⟨rfl, ?_⟩
    simp only [ev, evs, List.length_cons, List.length_nil, Nat.reduceAdd, Nat.reduceLT, Nat.reduceLeDiff, true_and, Nat.reduceSub, if_true]
    refine sp_act_done hP (hL.lk u hm.1) (hL.gn v hm.2) hl (by decide) ?_
    simp only [Bool.false_eq_true, if_false, true_and]
    rw [List.take_add_one, hp]
    simp
  · rintro acc s ⟨rfl, rfl⟩
    refine ⟨rfl, ?_⟩
    have e : ((lk.zip gn).map fun p => PV.int (actD p.1 p.2 lot : Nat)) = (doneL lk gn lot).map fun a : Nat => .int a := by unfold doneL; rw [List.map_map]; rfl
    simp only [ev, evs, List.length_map, List.take_length, e, done_len hL lot]
    exact ⟨by omega, h⟩
theorem gains_bq {gn : List (List Rat)} {done : List Nat} {A : Nat} (h : ∀ r ∈ gn, RowOk A 3 r) (hd : ∀ d ∈ done, d < A) : ∀ r ∈ gainsL gn done, Bq 4 r := fun r hr => by
  obtain ⟨⟨u, d⟩, hp, rfl⟩ := List.mem_map.mp hr
  have hm := List.of_mem_zip hp
  exact ((h u hm.1).get (hd d hm.2)).mono (by decide)
theorem done_lt {lk gn : List (List Rat)} {lot : List Nat} {A : Nat} (hl : LotOk A lot) : ∀ d ∈ doneL lk gn lot, d < A := fun d hd => hl.lt d (doneL_mem hl d hd)
theorem sp_let_gain (hP : HasF P) {A K : Nat} {sh : List Rat} {lk gn : List (List Rat)} {lot : List Nat} (hs : RowOk K 4 sh) (hL : HasL lk gn K A) (hK : K ≤ 3) (hl : LotOk A lot) (hw : 2 ^ 100 ≤ w) (h : Q (fr (gainL sh lk gn lot)) st) : wp (callF P G w (k + 6) "let_gain" [row sh, .tup (lk.map row), .tup (gn.map row), lotV lot] st) Q := by
  refine wp_callF hP.gain rfl ?_
  unfold B_let_gain
  simp only [ev, evs, List.map, List.replicate, List.append_nil, List.cons_append, List.nil_append, List.length_cons, List.length_nil, Nat.reduceAdd, Nat.reduceLT, LIM, Nat.reduceLeDiff, true_and, Nat.reduceSub]
  refine sp_done_by hP hL hK hl ?_
  simp only [ev, evs, List.length_cons, List.length_nil, Nat.reduceAdd, Nat.reduceLT, LIM, Nat.reduceLeDiff, true_and, Nat.reduceSub, zip2_map, List.set]
  have dl := done_len hL lot
  refine wp_compLoop (fun i acc s => s = st ∧ acc = (((gn.zip (doneL lk gn lot)).take i).map fun p => gt p.1 p.2).map fr) ⟨rfl, rfl⟩ ?_ ?_
  · rintro i x acc s hx ⟨rfl, rfl⟩
    rw [List.getElem?_map] at hx
    obtain ⟨⟨u, d⟩, hp, rfl⟩ := Option.map_eq_some_iff.mp hx
    have hm := List.of_mem_zip (List.mem_of_getElem? hp)
    have hd := done_lt hl d hm.2
    refine ⟨rfl, ?_⟩
    simp only [ev, evs, List.length_cons, List.length_nil, Nat.reduceAdd, Nat.reduceLT, Nat.reduceLeDiff, true_and, Nat.reduceSub, if_true, ix_row (r := u) (a := d) (by rw [(hL.gn u hm.1).len]; exact hd), Option.some.injEq, exists_eq_left', Bool.false_eq_true, if_false]
    rw [List.take_add_one, hp]
    simp
  · rintro acc s ⟨rfl, rfl⟩
    refine ⟨rfl, ?_⟩
    have e : (((gn.zip (doneL lk gn lot)).map fun p => gt p.1 p.2).map fr) = (gainsL gn (doneL lk gn lot)).map fr := rfl
    have gl : (gainsL gn (doneL lk gn lot)).length = K := by unfold gainsL; rw [List.length_map, List.length_zip, dl, hL.gnl, Nat.min_self]
    simp only [ev, evs, List.length_map, List.take_length, e, gl]
    refine ⟨by omega, ?_⟩
    have hsl := hs.len
    refine sp_dot (p := 4) hP.common hP.bottom hP.tops hP.wholes hP.raw hP.ratio hP.dot hs.bq (gains_bq hL.gn (done_lt hl)) (by decide) (by omega) (Nat.le_trans (Nat.pow_le_pow_right (by decide) (by omega)) hw) (Nat.le_trans (Nat.pow_le_pow_right (by decide) (by decide)) hw) (by show sh.length ≤ 16777216; omega) (by show _ ≤ 16777216; omega) h
end
end Lib
end Mp
set_option Elab.async false
set_option linter.all false
set_option maxRecDepth 100000
/-! L85g: the law's own. -/
namespace Mp
namespace Lib
open PySem
mutual
/-- whole numbers, None, tuples of these, not too long -/
def cls : Nat → PV → Bool
  | _, .int _ => true
  | _, .non => true
  | n + 1, .tup xs => decide (xs.length ≤ 1000) && clsA n xs
  | _, _ => false
def clsA : Nat → List PV → Bool
  | _, [] => true
  | n, x :: xs => cls n x && clsA n xs
end
theorem clsA_all {n : Nat} {xs : List PV} : clsA n xs = true ↔ ∀ x ∈ xs, cls n x = true := by
  induction xs with
  | nil => unfold clsA; simp
  | cons x xs ih => unfold clsA; rw [Bool.and_eq_true, ih]; simp
section
variable {P : Str → Option Fn} {G : Str → Option PV} {w k : Nat} {st : Sto} {Q : PV → Sto → Prop}
theorem ix_rows {s : Sto} {lk : List (List Rat)} {i : Nat} {u : List Rat} (h : lk[i]? = some u) : ixV s (.tup (lk.map row)) (.int (i : Int)) = some (row u) := ix_tup (by rw [List.getElem?_map, h]; rfl)
theorem wk_lot (st : Sto) (lot : List Nat) : wkV st (lotV lot) = some ⟨lot.map fun a : Nat => PV.int a, []⟩ := rfl
/-- an own list: behind all that stood -/
structure Own (st s : Sto) (n : Nat) (xs : List PV) : Prop where
  pre : st <+: s
  le : st.length ≤ n
  at_ : getM s n = some xs
theorem Own.new (st : Sto) (xs : List PV) : Own st (st ++ [.lst xs]) st.length xs := ⟨pre_snoc .., Nat.le_refl _, getM_last ..⟩
theorem Own.put {st s : Sto} {n : Nat} {xs : List PV} (h : Own st s n xs) (ys : List PV) : Own st (setL s n ys) n ys := ⟨pre_set ys h.pre h.le, h.le, getM_set ys (getM_lt h.at_)⟩
theorem Own.grow {st s s' : Sto} {n : Nat} {xs : List PV} (h : Own st s n xs) (p : s <+: s') : Own st s' n xs := ⟨h.pre.trans p, h.le, getM_mono p h.at_⟩
theorem wkR_len {n : Nat} (h : n ≤ 16777216) : wkR [.int (n : Int)] = some ⟨(List.range n).map fun i => PV.int (i : Nat), []⟩ := wkR_nat (by omega)
theorem range_get {n i a : Nat} (h : (List.range n)[i]? = some a) : a = i ∧ i < n := by
  have h1 := (List.getElem?_eq_some_iff.mp h).1
  rw [List.length_range] at h1
  rw [List.getElem?_range h1] at h
  exact ⟨(Option.some.inj h).symm, h1⟩
theorem zip_get {lk gn : List (List Rat)} {i : Nat} {u v : List Rat} (h1 : lk[i]? = some u) (h2 : gn[i]? = some v) : (lk.zip gn)[i]? = some (u, v) := List.getElem?_zip_eq_some.mpr ⟨h1, h2⟩
theorem lim_lit (n : Nat) : (n < LIM) = (n < 16777216) := rfl
theorem sp_ldone (hP : HasF P) {A K : Nat} {lk gn : List (List Rat)} {lot : List Nat} (hL : HasL lk gn K A) (hK : K ≤ 3) (hl : LotOk A lot) (h : ∀ s, st <+: s → Q (.tup ((doneL lk gn lot).map fun a : Nat => .int a)) s) : wp (callF P G w (k + 2) "_law_done" [.tup (lk.map row), .tup (gn.map row), lotV lot] st) Q := by
  refine wp_callF hP.ldone rfl ?_
  unfold B__law_done
  simp only [ev, evs, List.map, List.replicate, List.append_nil, List.cons_append, List.nil_append, List.length_cons, List.length_nil, Nat.reduceAdd, Nat.reduceLT, LIM, Nat.reduceLeDiff, true_and, Nat.reduceSub, List.length_map, hL.lkl, Nat.zero_le, wkR_len (show K ≤ 16777216 by omega), Option.some.injEq, exists_eq_left']
  refine wp_forM (List.range K) (fun i => PV.int (i : Nat)) (fun i env s => ∃ o4 o5 o6 o7 o8, env = [some (.tup (lk.map row)), some (.tup (gn.map row)), some (lotV lot), some (.loc st.length), o4, o5, o6, o7, o8] ∧ Own st s st.length (((doneL lk gn lot).take i).map fun a : Nat => .int a)) rfl ⟨none, none, none, none, none, rfl, Own.new st []⟩ ?_ ?_
  · rintro i a env s ha ⟨o4, o5, o6, o7, o8, rfl, ho⟩
    obtain ⟨rfl, hi⟩ := range_get ha
    refine ⟨rfl, ?_⟩
    have hu := List.getElem?_eq_getElem (show a < lk.length by rw [hL.lkl]; exact hi)
    have hv := List.getElem?_eq_getElem (show a < gn.length by rw [hL.gnl]; exact hi)
    have hU := hL.lk _ (List.mem_of_getElem? hu)
    have hV := hL.gn _ (List.mem_of_getElem? hv)
    generalize lk[a]'(by rw [hL.lkl]; exact hi) = u at hu hU
    generalize gn[a]'(by rw [hL.gnl]; exact hi) = v at hv hV
    have hd : (doneL lk gn lot)[a]? = some (actD u v lot) := by unfold doneL; rw [List.getElem?_map, zip_get hu hv]; rfl
    simp only [ev, evs, List.length_cons, List.length_nil, Nat.reduceAdd, Nat.reduceLT, LIM, Nat.reduceLeDiff, true_and, Nat.reduceSub, lot_head hl.ne, wk_lot, Option.some.injEq, exists_eq_left']
    refine wp_forM lot (fun a : Nat => PV.int a) (fun i env s' => ∃ o6 o7 o8, env = [some (.tup (lk.map row)), some (.tup (gn.map row)), some (lotV lot), some (.loc st.length), some (.int (a : Int)), some (.int (actI u v lot i : Nat)), o6, o7, o8] ∧ s' = s) rfl ⟨o6, o7, o8, rfl, rfl⟩ ?_ ?_
    · rintro j b env s' hb ⟨o6, o7, o8, rfl, rfl⟩
      refine ⟨rfl, ?_⟩
      have hm := hl.lt _ (actI_mem (u := u) (v := v) hl.ne j)
      have hb' := hl.lt b (List.mem_of_getElem? hb)
      rw [actI_succ hb]
      generalize actI u v lot j = m at hm
      simp only [ev, evs, List.length_cons, List.length_nil, Nat.reduceAdd, Nat.reduceLT, LIM, Nat.reduceLeDiff, true_and, Nat.reduceSub, ix_rows hu, ix_rows hv, ix_row (r := u) (a := m) (by rw [hU.len]; exact hm), ix_row (r := u) (a := b) (by rw [hU.len]; exact hb'), ix_row (r := v) (a := m) (by rw [hV.len]; exact hm), ix_row (r := v) (a := b) (by rw [hV.len]; exact hb'), Option.some.injEq, exists_eq_left', cmp_eq, eqv_fr]
      refine sp_lless hP.isless (hU.get hm) (hU.get hb') (by decide) ?_
      simp only [ev, evs, List.length_cons, List.length_nil, Nat.reduceAdd, Nat.reduceLT, LIM, Nat.reduceLeDiff, true_and, Nat.reduceSub, Option.some.injEq, exists_eq_left']
      have fin : ∀ (al : Bool), al = (decide (gt u m = gt u b) && decide (gt v m < gt v b)) → ∀ v7 v8, v7 = decide (gt u m < gt u b) → v8 = al → (if v7 = true then (∃ o6 o7 o8, [some (.tup (lk.map row)), some (.tup (gn.map row)), some (lotV lot), some (.loc st.length), some (.int (a : Int)), some (.int (b : Int)), some (.int (b : Int)), some (.bl v7), some (.bl v8)] = [some (.tup (lk.map row)), some (.tup (gn.map row)), some (lotV lot), some (.loc st.length), some (.int (a : Int)), some (.int ((if better u v m b = true then b else m : Nat) : Int)), o6, o7, o8]) else True) := by
        intro al hal v7 v8 h7 h8
        split
        · rename_i h
          rw [h7, decide_eq_true_eq] at h
          have hb : better u v m b = true := by simp only [better, h, decide_true, Bool.true_or]
          rw [hb]
          exact ⟨_, _, _, rfl⟩
        · trivial
      by_cases h2 : gt u m = gt u b
      · simp only [h2, decide_true, if_true]
        refine sp_lless hP.isless (hV.get hm) (hV.get hb') (by decide) ?_
        simp only [ev, evs, List.length_cons, List.length_nil, Nat.reduceAdd, Nat.reduceLT, LIM, Nat.reduceLeDiff, true_and, Nat.reduceSub, Option.some.injEq, exists_eq_left']
        have h1 : ¬ gt u b < gt u b := by grind
        by_cases h3 : gt v m < gt v b
        · have hbt : better u v m b = true := by simp only [better, h2, h3, decide_true, Bool.and_true, Bool.or_true]
          simp only [h1, h3, decide_false, decide_true, Bool.false_eq_true, if_false, if_true, hbt]
          first | exact ⟨_, _, _, rfl, trivial⟩ | exact ⟨_, _, _, rfl, rfl⟩ | exact ⟨_, _, _, rfl⟩
        · have hbt : better u v m b = false := by simp only [better, h2, h1, h3, decide_false, Bool.and_false, Bool.or_false]
          simp only [h1, h3, decide_false, decide_true, Bool.false_eq_true, if_false, if_true, hbt]
          first | exact ⟨_, _, _, rfl, trivial⟩ | exact ⟨_, _, _, rfl, rfl⟩ | exact ⟨_, _, _, rfl⟩
      · have h2' : ¬ gt u b = gt u m := fun e => h2 e.symm
        simp only [h2, decide_false, Bool.false_eq_true, if_false, ev, List.length_cons, List.length_nil, Nat.reduceAdd, Nat.reduceLT, LIM, Nat.reduceLeDiff, true_and, Option.some.injEq, exists_eq_left']
        by_cases h1 : gt u m < gt u b
        · have hbt : better u v m b = true := by simp only [better, h1, decide_true, Bool.true_or]
          simp only [h1, decide_false, decide_true, Bool.false_eq_true, if_false, if_true, hbt]
          first | exact ⟨_, _, _, rfl, trivial⟩ | exact ⟨_, _, _, rfl, rfl⟩ | exact ⟨_, _, _, rfl⟩
        · have hbt : better u v m b = false := by simp only [better, h1, h2', decide_false, Bool.false_and, Bool.or_false]
          simp only [h1, decide_false, decide_true, Bool.false_eq_true, if_false, if_true, hbt]
          first | exact ⟨_, _, _, rfl, trivial⟩ | exact ⟨_, _, _, rfl, rfl⟩ | exact ⟨_, _, _, rfl⟩
    · rintro env s' ⟨o6, o7, o8, rfl, rfl⟩
      refine ⟨rfl, ?_⟩
      rw [actI_all]
      simp only [ev, Option.some.injEq, exists_eq_left']
      have dl := done_len hL lot
      refine wp_append ho.at_ (by rw [List.length_map, List.length_take]; show _ < 16777216; omega) ?_
      refine ⟨_, _, _, _, _, rfl, ?_⟩
      have := ho.put (((doneL lk gn lot).take (a + 1)).map fun a : Nat => .int a)
      rw [List.take_add_one, hd, List.map_append] at this ⊢
      exact this
  · rintro env s ⟨o4, o5, o6, o7, o8, rfl, ho⟩
    refine ⟨rfl, ?_⟩
    rw [List.length_range] at ho
    have dl := done_len hL lot
    have e : (doneL lk gn lot).take K = doneL lk gn lot := List.take_of_length_le (by omega)
    rw [e] at ho
    simp only [ev, evs, tuple_loc (getL_of_M ho.at_), Option.some.injEq, exists_eq_left']
    exact h s ho.pre
/-- the gain as the law sums it -/
theorem dot_range : ∀ (sh m : List Rat), sh.length = m.length → sumR ((List.range sh.length).map fun k => sh.getD k 0 * m.getD k 0) = dotR sh m
  | [], [], _ => rfl
  | a :: sh, b :: m, h => by
    have ih := dot_range sh m (by simpa using h)
    rw [List.length_cons, List.range_succ_eq_map, List.map_cons, List.map_map]
    show a * b + sumR _ = a * b + dotR sh m
    rw [← ih]
    rfl
theorem sp_lgain (hP : HasF P) {A K : Nat} {sh : List Rat} {lk gn : List (List Rat)} {lot : List Nat} (hs : RowOk K 4 sh) (hL : HasL lk gn K A) (hK : K ≤ 3) (hl : LotOk A lot) (h : ∀ s, st <+: s → Q (fr (gainL sh lk gn lot)) s) : wp (callF P G w (k + 4) "_law_gain" [row sh, .tup (lk.map row), .tup (gn.map row), lotV lot] st) Q := by
  refine wp_callF hP.lgain rfl ?_
  unfold B__law_gain
  simp only [ev, evs, List.map, List.replicate, List.append_nil, List.cons_append, List.nil_append, List.length_cons, List.length_nil, Nat.reduceAdd, Nat.reduceLT, LIM, Nat.reduceLeDiff, true_and, Nat.reduceSub]
  refine sp_ldone hP hL hK hl fun s p => ?_
  have el : ∀ (s : Sto) (Q : PV → Sto → Prop), wp (biV .len [row sh] s) Q ↔ Q (.int (K : Int)) s := fun s Q => by
    have := len_tup (sh.map fr) s Q
    rw [List.length_map, hs.len] at this
    exact this
  simp only [ev, evs, List.length_cons, List.length_nil, Nat.reduceAdd, Nat.reduceLT, LIM, Nat.reduceLeDiff, true_and, Nat.reduceSub, el, wkR_len (show K ≤ 16777216 by omega), Option.some.injEq, exists_eq_left', List.set]
  have dl := done_len hL lot
  have gl : (gainsL gn (doneL lk gn lot)).length = K := by unfold gainsL; rw [List.length_map, List.length_zip, dl, hL.gnl, Nat.min_self]
  have gb := gains_bq hL.gn (done_lt (lk := lk) (gn := gn) hl)
  refine wp_compMap (List.range K) (fun i => PV.int (i : Nat)) (fun i => fr (sh.getD i 0 * (gainsL gn (doneL lk gn lot)).getD i 0)) rfl (fun _ _ => rfl) (fun i hi acc s' p' => ?_) fun s' p' => ?_
  · have hi : i < K := List.mem_range.mp hi
    have hv := List.getElem?_eq_getElem (show i < gn.length by rw [hL.gnl]; exact hi)
    have hV := hL.gn _ (List.mem_of_getElem? hv)
    generalize gn[i]'(by rw [hL.gnl]; exact hi) = v at hv hV
    have hd := List.getElem?_eq_getElem (show i < (doneL lk gn lot).length by rw [dl]; exact hi)
    have hD := done_lt hl _ (List.mem_of_getElem? hd)
    generalize (doneL lk gn lot)[i]'(by rw [dl]; exact hi) = d at hd hD
    have hdm : ((doneL lk gn lot).map fun a : Nat => PV.int a)[i]? = some (.int d) := by rw [List.getElem?_map, hd]; rfl
    have hg : (gainsL gn (doneL lk gn lot)).getD i 0 = gt v d := by
      unfold gainsL
      have hz : (gn.zip (doneL lk gn lot))[i]? = some (v, d) := List.getElem?_zip_eq_some.mpr ⟨hv, hd⟩
      rw [List.getD_eq_getElem?_getD, List.getElem?_map, hz]
      rfl
    simp only [ev, evs, List.length_cons, List.length_nil, Nat.reduceAdd, Nat.reduceLT, LIM, Nat.reduceLeDiff, true_and, Nat.reduceSub, ix_row (r := sh) (a := i) (by rw [hs.len]; exact hi), ix_rows hv, ix_tup hdm, ix_row (r := v) (a := d) (by rw [hV.len]; exact hD), Option.some.injEq, exists_eq_left', if_true]
    refine sp_ltimes hP.frac hP.times (hs.get hi) (hV.get hD) (by decide) ?_
    rw [hg]
    first | exact ⟨_, rfl, pre_refl _, rfl⟩ | exact ⟨pre_refl _, rfl⟩ | exact pre_refl _
  · have e : ((List.range K).map fun i => fr (sh.getD i 0 * (gainsL gn (doneL lk gn lot)).getD i 0)) = ((List.range K).map fun i => sh.getD i 0 * (gainsL gn (doneL lk gn lot)).getD i 0).map fr := by rw [List.map_map]; rfl
    simp only [ev, evs, List.length_map, List.length_range]
    refine ⟨by omega, ?_⟩
    rw [e]
    refine sp_lsum (p := 8) hP.frac hP.add hP.sum (getL_last ..) (fun r hr => ?_) (by rw [List.length_map, List.length_range]; omega) ?_
    · obtain ⟨i, hi, rfl⟩ := List.mem_map.mp hr
      have hi : i < K := List.mem_range.mp hi
      have h1 := hs.get hi
      have h2 := gb _ (List.mem_of_getElem? (getD_lt (r := gainsL gn (doneL lk gn lot)) (a := i) (by rw [gl]; exact hi)))
      exact Bq_mul h1 h2
    · have := dot_range sh (gainsL gn (doneL lk gn lot)) (by rw [hs.len, gl])
      rw [hs.len] at this
      rw [this]
      exact h _ (p.trans (p'.trans (pre_snoc ..)))
theorem isa_it (st : Sto) (i : Int) : isaV st (.int i) .tuple = some false := rfl
theorem isa_ib (st : Sto) (i : Int) : isaV st (.int i) .bool = some false := rfl
theorem isa_ii (st : Sto) (i : Int) : isaV st (.int i) .int = some true := rfl
theorem isa_tt (st : Sto) (xs : List PV) : isaV st (.tup xs) .tuple = some true := rfl
theorem is_tn (st : Sto) (xs : List PV) : cmp .is (.tup xs) .non st = some false := rfl
theorem is_in (st : Sto) (i : Int) : cmp .is (.int i) .non st = some false := rfl
theorem is_nn (st : Sto) : cmp .is .non .non st = some true := rfl
theorem sp_same (hP : HasF P) : ∀ (n : Nat) (v : PV) (st : Sto) (Q : PV → Sto → Prop), cls n v = true → Q (.bl true) st → wp (callF P G w (k + n + 1) "_law_same" [v, v] st) Q := by
  intro n
  induction n with
  | zero =>
    intro v st Q hv h
    refine wp_callF hP.same rfl ?_
    unfold B__law_same
    cases v with
    | int i =>
      simp only [ev, evs, List.map, List.replicate, List.append_nil, List.cons_append, List.nil_append, List.length_cons, List.length_nil, Nat.reduceAdd, Nat.reduceLT, LIM, Nat.reduceLeDiff, true_and, Nat.reduceSub, is_in, isa_it, isa_ib, isa_ii, Option.some.injEq, exists_eq_left', Bool.false_eq_true, if_false, if_true, Bool.not_false, decide_true]
      exact h
    | non =>
      simp only [ev, evs, List.map, List.replicate, List.append_nil, List.cons_append, List.nil_append, List.length_cons, List.length_nil, Nat.reduceAdd, Nat.reduceLT, LIM, Nat.reduceLeDiff, true_and, Nat.reduceSub, is_nn, Option.some.injEq, exists_eq_left', Bool.false_eq_true, if_false, if_true]
      exact h
    | tup xs => unfold cls at hv; cases hv
    | bl b => unfold cls at hv; cases hv
    | str b => unfold cls at hv; cases hv
    | loc b => unfold cls at hv; cases hv
  | succ n ih =>
    intro v st Q hv h
    refine wp_callF hP.same rfl ?_
    unfold B__law_same
    cases v with
    | int i =>
      simp only [ev, evs, List.map, List.replicate, List.append_nil, List.cons_append, List.nil_append, List.length_cons, List.length_nil, Nat.reduceAdd, Nat.reduceLT, LIM, Nat.reduceLeDiff, true_and, Nat.reduceSub, is_in, isa_it, isa_ib, isa_ii, Option.some.injEq, exists_eq_left', Bool.false_eq_true, if_false, if_true, Bool.not_false, decide_true]
      exact h
    | non =>
      simp only [ev, evs, List.map, List.replicate, List.append_nil, List.cons_append, List.nil_append, List.length_cons, List.length_nil, Nat.reduceAdd, Nat.reduceLT, LIM, Nat.reduceLeDiff, true_and, Nat.reduceSub, is_nn, Option.some.injEq, exists_eq_left', Bool.false_eq_true, if_false, if_true]
      exact h
    | tup xs =>
      unfold cls at hv
      rw [Bool.and_eq_true, decide_eq_true_eq] at hv
      obtain ⟨hl, hx⟩ := hv
      simp only [ev, evs, List.map, List.replicate, List.append_nil, List.cons_append, List.nil_append, List.length_cons, List.length_nil, Nat.reduceAdd, Nat.reduceLT, LIM, Nat.reduceLeDiff, true_and, Nat.reduceSub, is_tn, isa_tt, Option.some.injEq, exists_eq_left', Bool.false_eq_true, if_false, if_true, Bool.not_true, decide_true, wkR_len (show xs.length ≤ 16777216 by omega)]
      refine wp_forM (List.range xs.length) (fun i => PV.int (i : Nat)) (fun i env s => ∃ o, env = [some (.tup xs), some (.tup xs), o] ∧ s = st) rfl ⟨none, rfl, rfl⟩ ?_ ?_
      · rintro i a env s ha ⟨o, rfl, rfl⟩
        obtain ⟨rfl, hi⟩ := range_get ha
        refine ⟨rfl, ?_⟩
        have hu := List.getElem?_eq_getElem hi
        have hU := clsA_all.mp hx _ (List.mem_of_getElem? hu)
        simp only [ev, evs, List.length_cons, List.length_nil, Nat.reduceAdd, Nat.reduceLT, LIM, Nat.reduceLeDiff, true_and, Nat.reduceSub, ix_tup hu, Option.some.injEq, exists_eq_left']
        refine ih _ _ _ hU ?_
        simp only [ev, evs, Option.some.injEq, exists_eq_left', Bool.not_true, Bool.false_eq_true, if_false]
        first | exact ⟨_, rfl, trivial⟩ | exact ⟨_, rfl, rfl⟩ | exact ⟨_, rfl⟩
      · rintro env s ⟨o, rfl, rfl⟩
        refine ⟨rfl, ?_⟩
        simp only [ev]
        exact h
    | bl b => unfold cls at hv; cases hv
    | str b => unfold cls at hv; cases hv
    | loc b => unfold cls at hv; cases hv
end
end Lib
end Mp
set_option Elab.async false
set_option linter.all false
set_option maxRecDepth 100000
/-! L85h: needless acts, lots, the best lot. -/
namespace Mp
namespace Lib
open PySem
def B_all_lots : List S := [
  .asg (.nm 1) (.lst [(.tup [])]),
  .for_ (.nm 2) (.rng [(.var 0)]) [
   .asg (.nm 1) (.bin .add (.var 1) (.comp .lst [3] (.bin .add (.var 3) (.tup [(.var 2)])) [.mk (.nm 3) (.val (.var 1)) []]))],
  .ret (.sl (.bi .sorted [(.var 1)]) (some (.int 1)) none)]
def B__law_lots : List S := [
  .asg (.nm 1) (.lst [(.tup [])]),
  .for_ (.nm 2) (.rng [(.var 0)]) [
   .asg (.nm 1) (.bin .add (.var 1) (.comp .lst [3] (.bin .add (.var 3) (.tup [(.var 2)])) [.mk (.nm 3) (.val (.var 1)) []]))],
  .ret (.bi .sorted [(.comp .lst [3] (.var 3) [.mk (.nm 3) (.val (.var 1)) [(.cmp .ne (.var 3) (.tup []))]])])]
def B_best_lot : List S := [
  .asg (.nm 3) (.tup []),
  .for_ (.nm 4) (.val (.sortk (.call "all_lots" [(.bi .len [(.ix (.var 2) (.int 0))])]) 5 (.tup [(.bi .len [(.var 5)]), (.var 5)]))) [
   .asg (.nm 6) (.call "let_gain" [(.var 0), (.var 1), (.var 2), (.var 4)]),
   .ite (.or (.cmp .eq (.var 3) (.tup [])) (.call "less" [(.ix (.var 3) (.int 0)), (.var 6)])) [
    .asg (.nm 3) (.tup [(.var 6), (.var 4)])] []],
  .ret (.var 3)]
def B_no_better : List S := [
  .asg (.nm 4) (.call "let_gain" [(.var 0), (.var 1), (.var 2), (.var 3)]),
  .for_ (.nm 5) (.val (.call "all_lots" [(.bi .len [(.ix (.var 2) (.int 0))])])) [
   .ite (.call "less" [(.var 4), (.call "let_gain" [(.var 0), (.var 1), (.var 2), (.var 5)])]) [
    .ret (.var 5)] []],
  .ret (.tup [])]

structure HasG (P : Str → Option Fn) : Prop where
  f : HasF P
  lots : P "all_lots" = some ⟨1, 4, B_all_lots⟩
  llots : P "_law_lots" = some ⟨1, 4, B__law_lots⟩
  best : P "best_lot" = some ⟨3, 7, B_best_lot⟩
  nob : P "no_better" = some ⟨4, 6, B_no_better⟩
theorem cl_ints (l : List Nat) : cl 1 (.tup (l.map fun a : Nat => .int a)) = true := by
  unfold cl
  rw [Mp.clA_all]
  intro x hx
  obtain ⟨a, _, rfl⟩ := List.mem_map.mp hx
  unfold cl; rfl
theorem ints_inj {l m : List Nat} (h : (l.map fun a : Nat => PV.int a) = m.map fun a : Nat => PV.int a) : l = m := by
  refine List.map_inj_right ?_ |>.mp h
  intro a b e
  injection e with e
  omega
theorem eqv_ints (st : Sto) (l m : List Nat) : eqv st (.tup (l.map fun a : Nat => .int a)) (.tup (m.map fun a : Nat => .int a)) = some (decide (l = m)) := by
  rw [eqv_eq (cl_mono (cl_ints l) (by decide)) (cl_mono (cl_ints m) (by decide))]
  congr 1
  rw [Bool.eq_iff_iff, decide_eq_true_eq, decide_eq_true_eq]
  exact ⟨fun h => ints_inj (by injection h), fun h => by rw [h]⟩
theorem notin_ints (st : Sto) (a : Nat) (l : List Nat) : cmp .notin (.int a) (.tup (l.map fun a : Nat => .int a)) st = some (decide (a ∉ l)) := by
  show (match items st (.tup (l.map fun a : Nat => .int a)) with | some xs => (inSeq (.int a) xs).map (!·) | none => none) = _
  show (inSeq (.int a) (l.map fun a : Nat => PV.int a)).map (!·) = _
  unfold inSeq
  have h1 : (l.map fun a : Nat => PV.int a).all flat = true := by
    rw [List.all_eq_true]
    intro x hx
    obtain ⟨b, _, rfl⟩ := List.mem_map.mp hx
    rfl
  rw [h1]
  show Option.map (!·) (if (true && true) = true then _ else _) = _
  simp only [Bool.and_self, if_true, Option.map_some, Option.some.injEq]
  rw [Bool.eq_iff_iff, decide_eq_true_eq, Bool.not_eq_true', List.any_eq_false]
  constructor
  · intro h hm
    exact h (.int a) (List.mem_map.mpr ⟨a, hm, rfl⟩) (by show (((a : Nat) : Int) == a) = true; simp)
  · intro h x hx e
    obtain ⟨b, hb, rfl⟩ := List.mem_map.mp hx
    have e : (((b : Nat) : Int) == a) = true := e
    have : b = a := by have : (b : Int) = a := by simpa using e
                       omega
    exact h (this ▸ hb)
section
variable {P : Str → Option Fn} {G : Str → Option PV} {w k : Nat} {st : Sto} {Q : PV → Sto → Prop}
def needL (lk gn : List (List Rat)) (lot : List Nat) : List Nat := lot.filter fun a => decide (a ∉ doneL lk gn lot)
theorem sp_need (hP : HasF P) {A K : Nat} {lk gn : List (List Rat)} {lot : List Nat} (hL : HasL lk gn K A) (hK : K ≤ 3) (hA : A ≤ 6) (hl : LotOk A lot) (hll : lot.length ≤ 1000) (h : Q (.tup ((needL lk gn lot).map fun a : Nat => .int a)) st) : wp (callF P G w (k + 4) "needless_acts" [.tup (lk.map row), .tup (gn.map row), lotV lot] st) Q := by
  refine wp_callF hP.need rfl ?_
  unfold B_needless_acts
  simp only [ev, evs, List.map, List.replicate, List.append_nil, List.cons_append, List.nil_append, List.length_cons, List.length_nil, Nat.reduceAdd, Nat.reduceLT, LIM, Nat.reduceLeDiff, true_and, Nat.reduceSub]
  refine sp_done_by hP hL hK hl ?_
  simp only [ev, evs, List.length_cons, List.length_nil, Nat.reduceAdd, Nat.reduceLT, LIM, Nat.reduceLeDiff, true_and, Nat.reduceSub, wk_lot, Option.some.injEq, exists_eq_left', List.set]
  refine wp_compLoop (fun i acc s => s = st ∧ acc = ((lot.take i).filter fun a => decide (a ∉ doneL lk gn lot)).map fun a : Nat => .int a) ⟨rfl, rfl⟩ ?_ ?_
  · rintro i x acc s hx ⟨rfl, rfl⟩
    rw [List.getElem?_map] at hx
    obtain ⟨a, ha, rfl⟩ := Option.map_eq_some_iff.mp hx
    refine ⟨rfl, ?_⟩
    simp only [ev, evs, List.length_cons, List.length_nil, Nat.reduceAdd, Nat.reduceLT, Nat.reduceLeDiff, true_and, Nat.reduceSub, notin_ints, Option.some.injEq, exists_eq_left']
    rw [List.take_add_one, ha]
    by_cases hm : a ∈ doneL lk gn lot
    · simp [hm]
    · simp [hm]
  · rintro acc s ⟨rfl, rfl⟩
    refine ⟨rfl, ?_⟩
    have hn : (needL lk gn lot).length ≤ 1000 := Nat.le_trans (List.length_filter_le ..) hll
    simp only [ev, evs, List.length_map, List.take_length]
    exact ⟨by show (needL lk gn lot).length ≤ 16777216; omega, h⟩
theorem rest_ok {A a : Nat} {lot : List Nat} (hl : LotOk A lot) (h : lot.filter (fun b => decide (b ≠ a)) ≠ []) : LotOk A (lot.filter fun b => decide (b ≠ a)) :=
  ⟨h, hl.asc.filter _, fun b hb => hl.lt b (List.mem_filter.mp hb).1⟩
theorem done_pos {lk gn : List (List Rat)} {K A : Nat} (h : HasL lk gn K A) (hK : 1 ≤ K) (lot : List Nat) : ∃ d, d ∈ doneL lk gn lot := by
  have := done_len h lot
  cases e : doneL lk gn lot with
  | nil => rw [e] at this; simp at this; omega
  | cons d r => exact ⟨d, by simp⟩
/-- left out, the same is done: exactly if it is not done -/
theorem need_iff {lk gn : List (List Rat)} {K A a : Nat} {lot : List Nat} (h : HasL lk gn K A) (hK : 1 ≤ K) (hl : LotOk A lot) : (lot.filter (fun b => decide (b ≠ a)) ≠ [] ∧ doneL lk gn (lot.filter fun b => decide (b ≠ a)) = doneL lk gn lot) ↔ a ∉ doneL lk gn lot := by
  constructor
  · rintro ⟨h1, h2⟩ hm
    rw [← h2] at hm
    have := doneL_mem (rest_ok hl h1) a hm
    simp at this
  · intro hm
    have hne : lot.filter (fun b => decide (b ≠ a)) ≠ [] := by
      obtain ⟨d, hd⟩ := done_pos h hK lot
      have hdl := doneL_mem hl d hd
      intro e
      have : d ∈ lot.filter (fun b => decide (b ≠ a)) := by
        rw [List.mem_filter, decide_eq_true_eq]
        exact ⟨hdl, fun e => hm (e ▸ hd)⟩
      rw [e] at this
      cases this
    refine ⟨hne, doneL_sub (rest_ok hl hne) hl (fun x hx => (List.mem_filter.mp hx).1) fun d hd => ?_⟩
    rw [List.mem_filter, decide_eq_true_eq]
    exact ⟨doneL_mem hl d hd, fun e => hm (e ▸ hd)⟩
theorem nat_ne (a b : Nat) : (!decide ((b : Int) = (a : Int))) = decide (b ≠ a) := by
  by_cases h : b = a
  · subst h; simp
  · have : ¬ (b : Int) = a := by omega
    simp [h, this]
theorem sp_lneed (hP : HasF P) {A K : Nat} {lk gn : List (List Rat)} {lot : List Nat} (hL : HasL lk gn K A) (hK1 : 1 ≤ K) (hK : K ≤ 3) (hl : LotOk A lot) (hll : lot.length ≤ 1000) (h : ∀ s, st <+: s → Q (.tup ((needL lk gn lot).map fun a : Nat => .int a)) s) : wp (callF P G w (k + 3) "_law_needless" [.tup (lk.map row), .tup (gn.map row), lotV lot] st) Q := by
  refine wp_callF hP.lneed rfl ?_
  unfold B__law_needless
  simp only [ev, evs, List.map, List.replicate, List.append_nil, List.cons_append, List.nil_append, List.length_cons, List.length_nil, Nat.reduceAdd, Nat.reduceLT, LIM, Nat.reduceLeDiff, true_and, Nat.reduceSub, wk_lot, Option.some.injEq, exists_eq_left', Nat.zero_le]
  refine wp_forM lot (fun i : Nat => PV.int i) (fun i env s => ∃ o4 o5 o6, env = [some (.tup (lk.map row)), some (.tup (gn.map row)), some (lotV lot), some (.loc st.length), o4, o5, o6] ∧ Own st s st.length (((lot.take i).filter fun a => decide (a ∉ doneL lk gn lot)).map fun a : Nat => .int a)) rfl ⟨none, none, none, rfl, Own.new st []⟩ ?_ ?_
  · rintro i a env s ha ⟨o4, o5, o6, rfl, ho⟩
    refine ⟨rfl, ?_⟩
    simp only [ev, evs, List.length_cons, List.length_nil, Nat.reduceAdd, Nat.reduceLT, LIM, Nat.reduceLeDiff, true_and, Nat.reduceSub, wk_lot, Option.some.injEq, exists_eq_left', List.set]
    have hi : i < lot.length := (List.getElem?_eq_some_iff.mp ha).1
    refine wp_compFilter lot (fun i : Nat => PV.int i) (fun b => decide (b ≠ a)) (fun i : Nat => PV.int i) rfl (fun _ _ => rfl) (fun b hb acc s' p => ?_) fun s' p => ?_
    · simp only [ev, evs, List.length_cons, List.length_nil, Nat.reduceAdd, Nat.reduceLT, LIM, Nat.reduceLeDiff, true_and, Nat.reduceSub, Option.some.injEq, exists_eq_left', nat_ne]
      by_cases hba : b = a
      · simp [hba, pre_refl]
      · simp [hba, pre_refl]
    · have hr : (lot.filter fun b => decide (b ≠ a)).length ≤ 1000 := Nat.le_trans (List.length_filter_le ..) hll
      simp only [ev, evs, List.length_map]
      refine ⟨by omega, ?_⟩
      simp only [tuple_loc (getL_last ..), ev, evs, List.length_cons, List.length_nil, Nat.reduceAdd, Nat.reduceLT, LIM, Nat.reduceLeDiff, true_and, Nat.reduceSub, Option.some.injEq, exists_eq_left', List.length_map]
      have ho2 := (ho.grow p).grow (pre_snoc s' (MO.lst ((lot.filter fun b => decide (b ≠ a)).map fun i : Nat => PV.int i)))
      have hI := need_iff (a := a) hL hK1 hl
      generalize hrd : lot.filter (fun b => decide (b ≠ a)) = rest at *
      generalize s' ++ [MO.lst (rest.map fun i : Nat => PV.int i)] = s2 at *
      have skip : a ∈ doneL lk gn lot → ∀ s3, s2 <+: s3 → Own st s3 st.length (((lot.take (i + 1)).filter fun a => decide (a ∉ doneL lk gn lot)).map fun a : Nat => .int a) := fun hm s3 p3 => by
        rw [List.take_add_one, ha, List.filter_append]
        have : List.filter (fun a => decide (a ∉ doneL lk gn lot)) (some a).toList = [] := by simp [hm]
        rw [this, List.append_nil]
        exact ho2.grow p3
      by_cases hz : rest = []
      · have hm : a ∈ doneL lk gn lot := by
          by_cases hm : a ∈ doneL lk gn lot
          · exact hm
          · exact absurd hz (hI.mpr hm).1
        subst hz
        simp only [List.length_nil, Int.natCast_zero, Int.lt_irrefl, decide_false, Bool.false_eq_true, if_false, ev]
        exact ⟨_, _, _, rfl, skip hm _ (pre_refl _)⟩
      · have hpos : (0 : Int) < (rest.length : Nat) := by
          have := List.length_pos_iff.mpr hz
          omega
        simp only [hpos, decide_true, if_true]
        have hrl : LotOk A rest := by rw [← hrd]; exact rest_ok hl (by rw [hrd]; exact hz)
        refine sp_ldone hP hL hK hrl fun s3 p3 => ?_
        refine sp_ldone hP hL hK hl fun s4 p4 => ?_
        simp only [ev, evs, Option.some.injEq, exists_eq_left', cmp_eq, eqv_ints]
        have p24 := p3.trans p4
        by_cases hd : doneL lk gn rest = doneL lk gn lot
        · have hm := hI.mp ⟨hz, hd⟩
          simp only [hd, decide_true, if_true, ev, Option.some.injEq, exists_eq_left']
          have ho4 := ho2.grow p24
          refine wp_append ho4.at_ (by rw [List.length_map]; exact Nat.lt_of_le_of_lt (List.length_filter_le ..) (by rw [List.length_take]; show _ < 16777216; omega)) ?_
          refine ⟨_, _, _, rfl, ?_⟩
          have := ho4.put (((lot.take (i + 1)).filter fun a => decide (a ∉ doneL lk gn lot)).map fun a : Nat => .int a)
          have e : List.filter (fun a => decide (a ∉ doneL lk gn lot)) (some a).toList = [a] := by simp [hm]
          rw [List.take_add_one, ha, List.filter_append, e, List.map_append] at this ⊢
          exact this
        · have hm : a ∈ doneL lk gn lot := by
            by_cases hm : a ∈ doneL lk gn lot
            · exact hm
            · exact absurd (hI.mpr hm).2 hd
          simp only [hd, decide_false, Bool.false_eq_true, if_false, ev]
          exact ⟨_, _, _, rfl, skip hm _ p24⟩
  · rintro env s ⟨o4, o5, o6, rfl, ho⟩
    refine ⟨rfl, ?_⟩
    rw [List.take_length] at ho
    simp only [ev, evs, tuple_loc (getL_of_M ho.at_), Option.some.injEq, exists_eq_left']
    exact h s ho.pre
theorem wp_sorted {n : Nat} {xs ys : List PV} {ds : List PyData} (h : getL st n = some xs) (hd : datAll xs = some ds) (hk : srtOk ds = true) (he : srt ds xs = ys) (hl : ys.length ≤ LIM) (q : Q (.loc st.length) (st ++ [.lst ys])) : wp (biV .sorted [.loc n] st) Q := by
  show wp (match items st (.loc n) with
    | some xs => (match datAll xs with
      | some ds => if srtOk ds then newL (srt ds xs) st else none
      | none => none)
    | none => none) Q
  have : items st (.loc n) = some xs := h
  rw [this]
  simp only [hd]
  rw [if_pos hk, he, wp_newL]
  exact ⟨hl, q⟩
theorem raw_len : ∀ n, (rawL n).length = 2 ^ n
  | 0 => rfl
  | n + 1 => by
    show (rawL n ++ (rawL n).map (· ++ [n])).length = _
    rw [List.length_append, List.length_map, raw_len n, Nat.pow_succ]
    omega
theorem raw_lot (n : Nat) : (rawL (n + 1)).map lotV = (rawL n).map lotV ++ (rawL n).map fun l => lotV (l ++ [n]) := by
  show (rawL n ++ (rawL n).map (· ++ [n])).map lotV = _
  rw [List.map_append, List.map_map]
  rfl
theorem lot_snoc (l : List Nat) (n : Nat) : lotV (l ++ [n]) = .tup ((l.map fun a : Nat => PV.int a) ++ [.int n]) := by
  unfold lotV
  rw [List.map_append]
  rfl
theorem raw_lot_len : ∀ (n : Nat) (l : List Nat), l ∈ rawL n → l.length ≤ n
  | 0, l, h => by
    have : l = [] := by simpa [rawL] using h
    subst this
    exact Nat.le_refl _
  | n + 1, l, h => by
    have h : l ∈ rawL n ++ (rawL n).map (· ++ [n]) := h
    rcases List.mem_append.mp h with h | h
    · have := raw_lot_len n l h; omega
    · obtain ⟨m, hm, rfl⟩ := List.mem_map.mp h
      have := raw_lot_len n m hm
      rw [List.length_append]
      simp only [List.length_singleton]
      omega
/-- the lots made one act after the other -/
theorem sp_raw {C : Str → List PV → Sto → Res PV} {n : Nat} (hn : n ≤ 6) {Q : Out → Sto → Prop} (h : ∀ (m : Nat) (o : Option PV) (s : Sto), st <+: s → getL s m = some ((rawL n).map lotV) → Q (.nx [some (.int (n : Int)), some (.loc m), o, none]) s) :
    wp (forLoop (fBody C G w (.nm 2) [.asg (.nm 1) (.bin .add (.var 1) (.comp .lst [3] (.bin .add (.var 3) (.tup [(.var 2)])) [.mk (.nm 3) (.val (.var 1)) []]))]) [] ((List.range n).map fun i => PV.int (i : Nat)) [some (.int (n : Int)), some (.loc st.length), none, none] (st ++ [.lst [.tup []]])) Q := by
  refine wp_forM (List.range n) (fun i => PV.int (i : Nat)) (fun i env s => ∃ m o, env = [some (.int (n : Int)), some (.loc m), o, none] ∧ st <+: s ∧ getM s m = some ((rawL i).map lotV)) rfl ⟨st.length, none, rfl, pre_snoc .., getM_last ..⟩ ?_ ?_
  · rintro i a env s ha ⟨m, o, rfl, p, hm⟩
    obtain ⟨rfl, hi⟩ := range_get ha
    refine ⟨rfl, ?_⟩
    simp only [ev, evs, List.length_cons, List.length_nil, Nat.reduceAdd, Nat.reduceLT, LIM, Nat.reduceLeDiff, true_and, Nat.reduceSub, wk_loc (getL_of_M hm), Option.some.injEq, exists_eq_left', List.set]
    refine wp_compMap (rawL a) lotV (fun l => lotV (l ++ [a])) rfl (fun s' p' => gs_one (getL_mono p' (getL_of_M hm))) (fun l hl acc s' p' => ?_) fun s' p' => ?_
    · have hll := raw_lot_len a l hl
      simp only [lotV, ev, evs, List.length_cons, List.length_nil, Nat.reduceAdd, Nat.reduceLT, LIM, Nat.reduceLeDiff, true_and, Nat.reduceSub, Option.some.injEq, exists_eq_left', List.length_append, List.length_map, if_true]
      refine ⟨by omega, ?_⟩
      have e := lot_snoc l a
      unfold lotV at e
      rw [e]
      first | exact ⟨pre_refl _, rfl⟩ | exact pre_refl _
    · have hrl : (rawL a).length ≤ 64 := by rw [raw_len]; exact Nat.pow_le_pow_right (n := 2) (by decide) (by omega : a ≤ 6)
      simp only [ev, evs, List.length_map]
      refine ⟨by omega, ?_⟩
      simp only [ev, evs, getM_mono (p'.trans (pre_snoc ..)) hm, getM_last, Option.some.injEq, exists_eq_left', List.length_append, List.length_map, List.length_cons, List.length_nil, Nat.reduceAdd, Nat.reduceLT, LIM, Nat.reduceLeDiff, true_and]
      refine ⟨by omega, _, _, rfl, p.trans (p'.trans ((pre_snoc ..).trans (pre_snoc ..))), ?_⟩
      rw [raw_lot]
      have := getM_last (s' ++ [MO.lst ((rawL a).map fun l => lotV (l ++ [a]))]) ((rawL a).map lotV ++ (rawL a).map fun l => lotV (l ++ [a]))
      simpa using this
  · rintro env s ⟨m, o, rfl, p, hm⟩
    refine ⟨rfl, ?_⟩
    rw [List.length_range] at hm
    exact h m o s p (getL_of_M hm)
theorem lots_eq {n : Nat} (o : LotsOk n) : srt ((rawL n).map lotD) ((rawL n).map lotV) = ([] :: ascL n).map lotV := srt_eq srt_lots lot_lt o.perm0 o.sort0
theorem sp_lots (hP : HasG P) {n : Nat} (hn1 : 1 ≤ n) (hn : n ≤ 6) (h : ∀ (m : Nat) (s : Sto), st <+: s → getL s m = some ((ascL n).map lotV) → Q (.loc m) s) : wp (callF P G w (k + 1) "all_lots" [.int (n : Int)] st) Q := by
  have ok := lots_ok n hn1 hn
  refine wp_callF hP.lots rfl ?_
  unfold B_all_lots
  simp only [ev, evs, List.map, List.replicate, List.append_nil, List.cons_append, List.nil_append, List.length_cons, List.length_nil, Nat.reduceAdd, Nat.reduceLT, LIM, Nat.reduceLeDiff, true_and, Nat.reduceSub, Nat.zero_le, wkR_len (show n ≤ 16777216 by omega), Option.some.injEq, exists_eq_left']
  refine sp_raw hn fun m o s p hm => ?_
  simp only [ev, evs, Option.some.injEq, exists_eq_left']
  have hl := ok.len
  refine wp_sorted hm (datAll_map dat_lot _) (srtOk_lots (.inl ok.first)) (lots_eq ok) (by rw [List.length_map, List.length_cons]; show _ ≤ 16777216; omega) ?_
  show wp (match getL (s ++ [MO.lst (([] :: ascL n).map lotV)]) s.length with | some xs => newL (cut xs (some 1) none) _ | none => none) _
  rw [getL_last]
  have e : cut (([] :: ascL n).map lotV) (some 1) none = (ascL n).map lotV := by
    show ((([] :: ascL n).map lotV).drop (min 1 (([] :: ascL n).map lotV).length)).take (_ - min 1 (([] :: ascL n).map lotV).length) = _
    rw [List.length_map, List.length_cons, Nat.min_eq_left (by omega)]
    show ((ascL n).map lotV).take ((ascL n).length + 1 - 1) = _
    exact List.take_of_length_le (by rw [List.length_map]; omega)
  simp only [e, ev, List.length_map]
  exact ⟨by show _ ≤ 16777216; omega, h _ _ (p.trans ((pre_snoc ..).trans (pre_snoc ..))) (by have := getL_last (s ++ [MO.lst (([] :: ascL n).map lotV)]) ((ascL n).map lotV); simpa using this)⟩
theorem eqv_lot_nil (st : Sto) (l : List Nat) : eqv st (lotV l) (.tup []) = some (decide (l = [])) := eqv_ints st l []
theorem sp_llots (hP : HasG P) {n : Nat} (hn1 : 1 ≤ n) (hn : n ≤ 6) (h : ∀ (m : Nat) (s : Sto), st <+: s → st.length ≤ m → getL s m = some ((ascL n).map lotV) → Q (.loc m) s) : wp (callF P G w (k + 1) "_law_lots" [.int (n : Int)] st) Q := by
  have ok := lots_ok n hn1 hn
  refine wp_callF hP.llots rfl ?_
  unfold B__law_lots
  simp only [ev, evs, List.map, List.replicate, List.append_nil, List.cons_append, List.nil_append, List.length_cons, List.length_nil, Nat.reduceAdd, Nat.reduceLT, LIM, Nat.reduceLeDiff, true_and, Nat.reduceSub, Nat.zero_le, wkR_len (show n ≤ 16777216 by omega), Option.some.injEq, exists_eq_left']
  refine sp_raw hn fun m o s p hm => ?_
  simp only [ev, evs, Option.some.injEq, exists_eq_left', wk_loc hm, List.set]
  refine wp_compFilter (rawL n) lotV (fun l => decide (l ≠ [])) lotV rfl (fun s' p' => gs_one (getL_mono p' hm)) (fun l hl acc s' p' => ?_) fun s' p' => ?_
  · simp only [ev, evs, List.length_cons, List.length_nil, Nat.reduceAdd, Nat.reduceLT, LIM, Nat.reduceLeDiff, true_and, Nat.reduceSub, Option.some.injEq, exists_eq_left', cmp_ne, eqv_lot_nil, Option.map_some]
    by_cases hl : l = []
    · simp [hl, pre_refl]
    · simp [hl, pre_refl]
  · have hl := ok.len
    have hpl := ok.perm1.length_eq
    simp only [ev, evs, List.length_map]
    have e : (rawL n).filter (fun l => decide (l ≠ [])) = (rawL n).filter (· ≠ []) := rfl
    rw [e]
    refine ⟨by omega, ?_⟩
    refine wp_sorted (getL_last ..) (datAll_map dat_lot _) (srtOk_lots (.inr fun l hl => ?_)) (srt_eq srt_lots lot_lt ok.perm1 (List.pairwise_cons.mp ok.sort0).2) (by rw [List.length_map]; show _ ≤ 16777216; omega) ?_
    · have := (List.mem_filter.mp hl).2
      simpa using this
    · refine h _ _ (p.trans (p'.trans ((pre_snoc ..).trans (pre_snoc ..)))) ?_ (by have := getL_last (s' ++ [MO.lst (((rawL n).filter (· ≠ [])).map lotV)]) ((ascL n).map lotV); simpa using this)
      have h1 := (p.trans p').length_le
      simp only [List.length_append, List.length_cons, List.length_nil]
      omega
end
end Lib
end Mp
set_option Elab.async false
set_option linter.all false
set_option maxRecDepth 100000
/-! L85i: the best lot. -/
namespace Mp
namespace Lib
open PySem
/-- m is the better one -/
def Bet (g : List Nat → Rat) (x m : List Nat) : Prop := g x < g m ∨ (g x = g m ∧ ltK m x = true)
theorem Bet.trans {g : List Nat → Rat} {x y z : List Nat} (h : Bet g x y) (k : Bet g y z) : Bet g x z := by
  unfold Bet at *
  rcases h with h | ⟨h, h'⟩ <;> rcases k with k | ⟨k, k'⟩
  · left; grind
  · left; grind
  · left; grind
  · right; exact ⟨by grind, srt_key.trans k' h'⟩
theorem Bet.asymm {g : List Nat → Rat} {x y : List Nat} (h : Bet g x y) (k : Bet g y x) : False := by
  unfold Bet at *
  rcases h with h | ⟨h, h'⟩ <;> rcases k with k | ⟨k, k'⟩
  · grind
  · grind
  · grind
  · rw [srt_key.asymm h'] at k'; cases k'
def Top (g : List Nat → Rat) (l : List (List Nat)) (m : List Nat) : Prop := m ∈ l ∧ ∀ x ∈ l, x ≠ m → Bet g x m
theorem Top.uniq {g : List Nat → Rat} {l : List (List Nat)} {m n : List Nat} (h : Top g l m) (k : Top g l n) : m = n := by
  by_cases e : m = n
  · exact e
  · exact ((h.2 n k.1 (Ne.symm e)).asymm (k.2 m h.1 e)).elim
def stepP (g : List Nat → Rat) (b : Option (List Nat)) (a : List Nat) : Option (List Nat) := match b with
  | none => some a
  | some m => if g m < g a then some a else some m
def stepW (g : List Nat → Rat) (b : Option (List Nat)) (a : List Nat) : Option (List Nat) := match b with
  | none => some a
  | some m => if (g m = g a ∧ a.length < m.length) ∨ g m < g a then some a else some m
/-- the best of the first i -/
def upTo (step : Option (List Nat) → List Nat → Option (List Nat)) (l : List (List Nat)) (i : Nat) : Option (List Nat) := (l.take i).foldl step none
theorem upTo_succ {step : Option (List Nat) → List Nat → Option (List Nat)} {l : List (List Nat)} {i : Nat} {a : List Nat} (h : l[i]? = some a) : upTo step l (i + 1) = step (upTo step l i) a := by
  unfold upTo
  rw [List.take_add_one, h, List.foldl_append]
  rfl
theorem Top.step {g : List Nat → Rat} {l : List (List Nat)} {m a : List Nat} (h : Top g l m) {c : Prop} [Decidable c] (h1 : c → Bet g m a) (h2 : ¬ c → Bet g a m) : Top g (l ++ [a]) (if c then a else m) := by
  by_cases hc : c
  · rw [if_pos hc]
    refine ⟨by simp, fun x hx hne => ?_⟩
    rcases List.mem_append.mp hx with hx | hx
    · by_cases e : x = m
      · rw [e]; exact h1 hc
      · exact (h.2 x hx e).trans (h1 hc)
    · exact (hne (List.mem_singleton.mp hx)).elim
  · rw [if_neg hc]
    refine ⟨by simp [h.1], fun x hx hne => ?_⟩
    rcases List.mem_append.mp hx with hx | hx
    · exact h.2 x hx hne
    · rw [List.mem_singleton.mp hx]; exact h2 hc
theorem upTo_top {g : List Nat → Rat} {step : Option (List Nat) → List Nat → Option (List Nat)} {R : List Nat → List Nat → Prop} (h0 : ∀ a, step none a = some a) (hs : ∀ l m a, Top g l m → (∀ x ∈ l, R x a) → ∃ m', step (some m) a = some m' ∧ Top g (l ++ [a]) m') {l : List (List Nat)} (hR : l.Pairwise R) : ∀ i, 0 < i → i ≤ l.length → ∃ m, upTo step l i = some m ∧ Top g (l.take i) m := by
  intro i
  induction i with
  | zero => intro h; omega
  | succ i ih =>
    intro _ hi
    have ha := List.getElem?_eq_getElem (show i < l.length by omega)
    rw [upTo_succ ha, List.take_add_one, ha]
    simp only [Option.toList_some]
    have hR' : ∀ x ∈ l.take i, R x (l[i]'(by omega)) := fun x hx => by
      have h1 : (l.take i ++ l.drop i).Pairwise R := by rw [List.take_append_drop]; exact hR
      refine (List.pairwise_append.mp h1).2.2 x hx _ ?_
      have e := List.drop_eq_getElem_cons (l := l) (i := i) (by omega)
      rw [e]
      exact List.mem_cons_self ..
    by_cases hz : i = 0
    · subst hz
      refine ⟨l[0]'(by omega), h0 _, by simp, fun x hx hne => ?_⟩
      simp at hx
      exact (hne hx).elim
    · obtain ⟨m, e, hm⟩ := ih (by omega) (by omega)
      rw [e]
      exact hs _ _ _ hm hR'
theorem top_P {g : List Nat → Rat} {l : List (List Nat)} (h : l.Pairwise fun a b => ltK a b = true) (hl : l ≠ []) : ∃ m, upTo (stepP g) l l.length = some m ∧ Top g l m := by
  have := upTo_top (g := g) (step := stepP g) (R := fun a b => ltK a b = true) (fun _ => rfl) (fun l m a ht hx => ⟨if g m < g a then a else m, by show (if g m < g a then some a else some m) = _; split <;> rfl, ht.step (fun c => .inl c) fun c => by
    unfold Bet
    by_cases e : g a = g m
    · exact .inr ⟨e, hx m ht.1⟩
    · left; grind⟩) h l.length (List.length_pos_iff.mpr hl) (Nat.le_refl _)
  rw [List.take_length] at this
  exact this
theorem top_W {g : List Nat → Rat} {l : List (List Nat)} (h : l.Pairwise fun a b => ltL a b = true) (hl : l ≠ []) : ∃ m, upTo (stepW g) l l.length = some m ∧ Top g l m := by
  have := upTo_top (g := g) (step := stepW g) (R := fun a b => ltL a b = true) (fun _ => rfl) (fun l m a ht hx => ⟨if (g m = g a ∧ a.length < m.length) ∨ g m < g a then a else m, by show (if (g m = g a ∧ a.length < m.length) ∨ g m < g a then some a else some m) = _; split <;> rfl, ht.step (fun c => by
    unfold Bet
    rcases c with ⟨c1, c2⟩ | c
    · exact .inr ⟨c1, by unfold ltK; simp [c2]⟩
    · exact .inl c) fun c => by
    unfold Bet
    rw [not_or, not_and] at c
    by_cases e : g a = g m
    · refine .inr ⟨e, ?_⟩
      have h1 := c.1 e.symm
      unfold ltK
      by_cases h2 : m.length < a.length
      · simp [h2]
      · have h3 : m.length = a.length := by omega
        have := hx m ht.1
        simp [h3, this]
    · left; grind⟩) h l.length (List.length_pos_iff.mpr hl) (Nat.le_refl _)
  rw [List.take_length] at this
  exact this
/-- both find the same -/
theorem best_same {g : List Nat → Rat} {n : Nat} (o : LotsOk n) : ∃ m, upTo (stepP g) (keyL n) (keyL n).length = some m ∧ upTo (stepW g) (ascL n) (ascL n).length = some m ∧ m ∈ ascL n := by
  have hne : ascL n ≠ [] := fun e => by have := o.all; rw [e] at this; cases this
  have hne' : keyL n ≠ [] := fun e => by have := o.permK; rw [e] at this; exact hne this.symm.eq_nil
  obtain ⟨m, e1, t1⟩ := top_P (g := g) o.sortK hne'
  obtain ⟨m', e2, t2⟩ := top_W (g := g) (List.pairwise_cons.mp o.sort0).2 hne
  have t1' : Top g (ascL n) m := ⟨o.permK.mem_iff.mp t1.1, fun x hx => t1.2 x (o.permK.mem_iff.mpr hx)⟩
  have := t1'.uniq t2
  subst this
  exact ⟨m, e1, e2, t2.1⟩
/-- the pair of the gain and the lot; none: e -/
def bestV (g : List Nat → Rat) (e : PV) : Option (List Nat) → PV
  | none => e
  | some m => .tup [fr (g m), lotV m]
/-! ### keys -/
theorem wp_sortk {C : Str → List PV → Sto → Res PV} {G : Str → Option PV} (e : E) (i : Nat) (key : E) (env : Env) (st : Sto) (Q : PV → Sto → Prop) : wp (evE C G (.sortk e i key) env st) Q ↔ wp (evE C G e env st) fun v s => ∃ xs, items s v = some xs ∧ wp (evKeys (fun x st => evE C G key (env.set i (some x)) st) xs s) fun ks s => ∃ ds, datAll ks = some ds ∧ srtOk ds = true ∧ wp (newL (srt ds xs) s) Q := by
  conv => lhs; unfold evE
  rw [wp_bind]
  refine wp_congr fun v s => ?_
  cases items s v with
  | none => simp [wp_none]
  | some xs =>
    simp only [Option.some.injEq, exists_eq_left', wp_bind]
    refine wp_congr fun ks s => ?_
    cases datAll ks with
    | none => simp [wp_none]
    | some ds =>
      simp only [Option.some.injEq, exists_eq_left', wp_ite, wp_none]
      by_cases h : srtOk ds = true
      · simp [h]
      · simp [h]
theorem wp_evKeys {key : PV → Sto → Res PV} {st : Sto} {f : PV → PV} : ∀ {xs : List PV} {Q : List PV → Sto → Prop}, (∀ x ∈ xs, ∀ Q : PV → Sto → Prop, Q (f x) st → wp (key x st) Q) → Q (xs.map f) st → wp (evKeys key xs st) Q
  | [], Q, _, h => by unfold evKeys; exact (wp_some ..).mpr h
  | x :: xs, Q, hk, h => by
    unfold evKeys
    rw [wp_bind]
    refine hk x (List.mem_cons_self ..) _ ?_
    rw [wp_bind]
    refine wp_evKeys (fun y hy => hk y (List.mem_cons_of_mem _ hy)) ?_
    rw [wp_some]
    exact h
def keyD (l : List Nat) : PyData := .tuple [.int l.length, lotD l]
def keyV (l : List Nat) : PV := .tup [.int l.length, lotV l]
theorem dat_key (l : List Nat) : dat (keyV l) = some (keyD l) := by
  unfold keyV dat datAll datAll datAll
  rw [dat_int, dat_lot]
  rfl
theorem key_lt (a b : List Nat) : PySem.W.dataLt (keyD a) (keyD b) = ltK a b := by
  unfold keyD
  rw [PySem.W.dataLt_tuple, PySem.W.toks_all_cons (.int a.length) [lotD a], PySem.W.toks_all_cons (.int b.length) [lotD b], lex_cons', item_int, toks_int, toks_int]
  show (decide ((1 : Int) < 1) || (!decide ((1 : Int) < 1) && PyProof.Rows.lexLt PyProof.Rows.itemOrd (.inl (a.length : Int) :: PySem.W.keyToksAll [lotD a]) (.inl (b.length : Int) :: PySem.W.keyToksAll [lotD b]))) = _
  rw [lex_cons', item_int, item_int]
  have h2 : PyProof.Rows.lexLt PyProof.Rows.itemOrd (PySem.W.keyToksAll [lotD a]) (PySem.W.keyToksAll [lotD b]) = ltL a b := by
    cases hab : ltL a b with
    | true =>
      have e : PyData.eqv (lotD a) (lotD b) = false := by
        cases q : PyData.eqv (lotD a) (lotD b) with
        | false => rfl
        | true =>
          have := (PySem.W.toks_eqv _ _ (alike_lot a b)).1 q
          have h3 := lot_lt a b
          unfold PySem.W.dataLt at h3
          rw [this, PyProof.Rows.lex_irrefl, hab] at h3
          cases h3
      rw [PySem.W.dataLt_all_no (alike_lot a b) e, lot_lt, hab]
    | false =>
      cases q : PyData.eqv (lotD a) (lotD b) with
      | false => rw [PySem.W.dataLt_all_no (alike_lot a b) q, lot_lt, hab]
      | true => rw [PySem.W.dataLt_all_yes (alike_lot a b) q, PyProof.Rows.lex_irrefl]
  rw [h2]
  unfold ltK
  by_cases h : a.length < b.length
  · have : (a.length : Int) < b.length := by omega
    simp [h, this]
  · by_cases h2 : a.length = b.length
    · simp [h2]
    · have h3 : ¬ (a.length : Int) < b.length := by omega
      have h4 : (b.length : Int) < a.length := by omega
      simp [h, h2, h3, h4]
theorem srtOk_keys (l : List (List Nat)) : srtOk (l.map keyD) = true := by
  unfold srtOk
  rw [Bool.and_eq_true, Bool.and_eq_true]
  refine ⟨all_all _ _ _ fun a _ => all_all _ _ _ fun b _ => ?_, all_all _ _ _ fun a _ => ?_, ?_⟩
  · unfold keyD PySem.W.alike PySem.W.alikeAll PySem.W.alikeAll PySem.W.alikeAll
    rw [alike_lot]
    unfold PySem.W.alike
    rfl
  · rw [decide_eq_true_eq]
    have := depth_lot a
    have e : (keyD a).depth = max 0 (max (lotD a).depth 0) + 1 := by
      unfold keyD
      rw [PyData.depth, PyData.depthAll, PyData.depthAll, PyData.depthAll, PyData.depth]
    rw [e]
    omega
  · rw [Bool.or_eq_true]
    exact .inl (all_all _ _ _ fun a _ => rfl)
theorem keys_eq {n : Nat} (o : LotsOk n) : srt ((ascL n).map keyD) ((ascL n).map lotV) = (keyL n).map lotV := srt_eq srt_key key_lt o.permK o.sortK
end Lib
end Mp
set_option Elab.async false
set_option linter.all false
set_option maxRecDepth 100000
/-! L85j: best_lot, no_better, and the law's looks. -/
namespace Mp
namespace Lib
open PySem
def B__law_is_done : List S := [
  .asg (.tup [(.nm 4), (.nm 5)]) (.tup [(.call "_law_done" [(.var 1), (.var 2), (.var 3)]), (.call "_law_gain" [(.var 0), (.var 1), (.var 2), (.var 3)])]),
  .asg (.nm 6) (.tup [(.call "done_by" [(.var 1), (.var 2), (.var 3)]), (.callk "done_by" [] [0, 1, 2] [(.var 1), (.var 2), (.var 3)])]),
  .ite (.not (.call "_law_same" [(.var 6), (.tup [(.var 4), (.var 4)])])) [
   .ret (.bl false)] [],
  .asg (.nm 7) (.callk "let_gain" [] [0, 1, 2, 3] [(.var 0), (.var 1), (.var 2), (.var 3)]),
  .ite (.not (.call "_law_same" [(.tup [(.call "let_gain" [(.var 0), (.var 1), (.var 2), (.var 3)]), (.var 7)]), (.tup [(.var 5), (.var 5)])])) [
   .ret (.bl false)] [],
  .for_ (.nm 8) (.rng [(.bi .len [(.ix (.var 1) (.int 0))])]) [
   .asg (.nm 9) (.ifx (.cmp .notin (.var 8) (.var 3)) (.bi .tuple [(.bi .sorted [(.bin .add (.var 3) (.tup [(.var 8)]))])]) (.var 3)),
   .ite (.cmp .notin (.var 8) (.call "_law_done" [(.var 1), (.var 2), (.var 9)])) [
    .asg (.nm 6) (.tup [(.call "done_by" [(.var 1), (.var 2), (.var 9)]), (.call "let_gain" [(.var 0), (.var 1), (.var 2), (.var 9)])]),
    .ite (.not (.call "_law_same" [(.var 6), (.tup [(.var 4), (.var 5)])])) [
     .ret (.bl false)] []] []],
  .asg (.nm 10) (.call "_law_needless" [(.var 1), (.var 2), (.var 3)]),
  .asg (.nm 6) (.tup [(.call "needless_acts" [(.var 1), (.var 2), (.var 3)]), (.callk "needless_acts" [] [0, 1, 2] [(.var 1), (.var 2), (.var 3)])]),
  .ret (.call "_law_same" [(.var 6), (.tup [(.var 10), (.var 10)])])]
def B__law_is_best : List S := [
  .asg (.nm 5) .non,
  .for_ (.nm 6) (.val (.var 4)) [
   .asg (.nm 7) (.call "_law_gain" [(.var 1), (.var 2), (.var 3), (.var 6)]),
   .asg (.nm 8) (.and (.cmp .isnot (.var 5) .non) (.and (.cmp .eq (.ix (.var 5) (.int 0)) (.var 7)) (.cmp .lt (.bi .len [(.var 6)]) (.bi .len [(.ix (.var 5) (.int 1))])))),
   .asg (.nm 5) (.ifx (.or (.cmp .is (.var 5) .non) (.or (.var 8) (.call "_law_is_less" [(.ix (.var 5) (.int 0)), (.var 7)]))) (.tup [(.var 7), (.var 6)]) (.var 5))],
  .asg (.nm 9) (.tup [(.call "best_lot" [(.var 1), (.var 2), (.var 3)]), (.callk "best_lot" [] [0, 1, 2] [(.var 1), (.var 2), (.var 3)])]),
  .ite (.not (.call "_law_same" [(.var 9), (.tup [(.var 5), (.var 5)])])) [
   .ret (.bl false)] [],
  .for_ (.nm 6) (.val (.bin .add (.lst [(.ix (.var 5) (.int 1))]) (.sl (.call "_law_shuffled" [(.var 0), (.var 4)]) none (some (.int 3))))) [
   .asg (.nm 7) (.call "_law_gain" [(.var 1), (.var 2), (.var 3), (.var 6)]),
   .asg (.nm 10) (.comp .lst [11] (.var 11) [.mk (.nm 11) (.val (.var 4)) [(.call "_law_is_less" [(.var 7), (.call "_law_gain" [(.var 1), (.var 2), (.var 3), (.var 11)])])]]),
   .asg (.nm 12) (.ifx (.cmp .gt (.bi .len [(.var 10)]) (.int 0)) (.ix (.var 10) (.int 0)) (.tup [])),
   .asg (.nm 13) (.callk "no_better" [] [0, 1, 2, 3] [(.var 1), (.var 2), (.var 3), (.var 6)]),
   .ite (.not (.call "_law_same" [(.tup [(.call "no_better" [(.var 1), (.var 2), (.var 3), (.var 6)]), (.var 13)]), (.tup [(.var 12), (.var 12)])])) [
    .ret (.bl false)] []],
  .ret (.bl true)]
def B_law : List S := [
  .asg (.nm 1) (.call "_law_pool" [(.var 0)]),
  .for_ (.nm 2) (.rng [(.int 3)]) [
   .asg (.tup [(.nm 3), (.nm 4), (.nm 5)]) (.call "_law_letting" [(.var 1)]),
   .asg (.nm 6) (.call "_law_lots" [(.bi .len [(.ix (.var 4) (.int 0))])]),
   .for_ (.nm 7) (.val (.bin .add (.lst [(.ix (.var 6) (.int 0)), (.rngv true [(.bi .len [(.ix (.var 4) (.int 0))])])]) (.sl (.call "_law_shuffled" [(.var 1), (.var 6)]) none (some (.int 3))))) [
    .ite (.not (.call "_law_is_done" [(.var 3), (.var 4), (.var 5), (.var 7)])) [
     .ret (.bl false)] []],
   .ite (.not (.call "_law_is_best" [(.var 1), (.var 3), (.var 4), (.var 5), (.var 6)])) [
    .ret (.bl false)] []],
  .ret (.bl true)]

structure HasH (P : Str → Option Fn) : Prop where
  g : HasG P
  d : HasD P
  pool : P "_law_pool" = some ⟨1, 1, B__law_pool⟩
  isdone : P "_law_is_done" = some ⟨4, 11, B__law_is_done⟩
  isbest : P "_law_is_best" = some ⟨5, 14, B__law_is_best⟩
  law : P "law" = some ⟨1, 8, B_law⟩
theorem LetOk.hasL {K A : Nat} {sh : List Rat} {lk gn : List (List Rat)} (h : LetOk K A sh lk gn) : HasL lk gn K A := ⟨h.lkl, h.gnl, h.lk, h.gn⟩
theorem asc_lot {n : Nat} (o : LotsOk n) {l : List Nat} (h : l ∈ ascL n) : LotOk n l := ⟨(o.ok l h).1, (o.ok l h).2.1, (o.ok l h).2.2⟩
/-- ascending: no more than the acts -/
theorem asc_len : ∀ {l : List Nat} {n m : Nat}, l.Pairwise (· < ·) → (∀ a ∈ l, n ≤ a ∧ a < m) → n ≤ m → l.length ≤ m - n
  | [], _, _, _, _, _ => Nat.zero_le _
  | a :: l, n, m, h, k, hnm => by
    rw [List.pairwise_cons] at h
    have ha := k a (List.mem_cons_self ..)
    have := asc_len (n := a + 1) (m := m) h.2 (fun b hb => ⟨h.1 b hb, (k b (List.mem_cons_of_mem _ hb)).2⟩) (by omega)
    rw [List.length_cons]
    omega
theorem LotOk.len {A : Nat} {l : List Nat} (h : LotOk A l) : l.length ≤ A := by
  have := asc_len h.asc (n := 0) (m := A) (fun a ha => ⟨Nat.zero_le _, h.lt a ha⟩) (Nat.zero_le _)
  omega
theorem cl_lot (l : List Nat) : cl 1 (lotV l) = true := cl_ints l
theorem cl_pair {a b : PV} {n : Nat} (ha : cl n a = true) (hb : cl n b = true) : cl (n + 1) (.tup [a, b]) = true := by
  unfold cl
  rw [Mp.clA_all]
  intro x hx
  simp only [List.mem_cons, List.not_mem_nil, or_false] at hx
  rcases hx with rfl | rfl
  · exact ha
  · exact hb
theorem cls_fr (r : Rat) : cls 1 (fr r) = true := by unfold fr cls clsA clsA clsA cls; rfl
theorem cls_mono1 {v : PV} (h : cls 1 v = true) : cls 2 v = true := by
  cases v with
  | int i => unfold cls; rfl
  | non => unfold cls; rfl
  | tup xs =>
    unfold cls at h ⊢
    rw [Bool.and_eq_true] at h ⊢
    refine ⟨h.1, clsA_all.mpr fun x hx => ?_⟩
    have := clsA_all.mp h.2 x hx
    cases x with
    | int i => unfold cls; rfl
    | non => unfold cls; rfl
    | tup ys => unfold cls at this; cases this
    | bl b => unfold cls at this; cases this
    | str b => unfold cls at this; cases this
    | loc b => unfold cls at this; cases this
  | bl b => unfold cls at h; cases h
  | str b => unfold cls at h; cases h
  | loc b => unfold cls at h; cases h
theorem cls_ints (l : List Nat) (h : l.length ≤ 1000) : cls 1 (.tup (l.map fun a : Nat => .int a)) = true := by
  unfold cls
  rw [Bool.and_eq_true, decide_eq_true_eq, List.length_map]
  refine ⟨h, clsA_all.mpr fun x hx => ?_⟩
  obtain ⟨a, _, rfl⟩ := List.mem_map.mp hx
  unfold cls; rfl
theorem cls_pair {a b : PV} {n : Nat} (ha : cls n a = true) (hb : cls n b = true) : cls (n + 1) (.tup [a, b]) = true := by
  unfold cls
  rw [Bool.and_eq_true]
  refine ⟨by simp, clsA_all.mpr fun x hx => ?_⟩
  simp only [List.mem_cons, List.not_mem_nil, or_false] at hx
  rcases hx with rfl | rfl
  · exact ha
  · exact hb
section
variable {P : Str → Option Fn} {G : Str → Option PV} {w k : Nat} {st : Sto} {Q : PV → Sto → Prop}
theorem eqv_best {g : List Nat → Rat} (st : Sto) (b : Option (List Nat)) : eqv st (bestV g (.tup []) b) (.tup []) = some b.isNone := by
  cases b with
  | none =>
    have := eqv_ints st [] []
    simpa [bestV] using this
  | some m =>
    have h1 : cl 60 (.tup [fr (g m), lotV m]) = true := cl_mono (cl_pair (cl_fr _) (cl_lot m)) (by decide)
    have h2 : cl 60 (.tup []) = true := by unfold cl clA; rfl
    show eqv st (.tup [fr (g m), lotV m]) (.tup []) = _
    rw [eqv_eq h1 h2]
    rfl
theorem Gain.bq {A K : Nat} {sh : List Rat} {lk gn : List (List Rat)} {lot : List Nat} (hs : RowOk K 4 sh) (hL : HasL lk gn K A) (hK : K ≤ 3) (hl : LotOk A lot) : Bq 60 (gainL sh lk gn lot) := by
  have h : ∀ (l m : List Rat), (∀ r ∈ l, Bq 4 r) → (∀ r ∈ m, Bq 4 r) → Bq (10 * l.length + 1) (dotR l m) := by
    intro l
    induction l with
    | nil => intro m _ _; exact Bq_zero _
    | cons a l ih =>
      intro m h1 h2
      cases m with
      | nil => exact Bq_zero _
      | cons b m =>
        have := ih m (fun r hr => h1 r (List.mem_cons_of_mem _ hr)) (fun r hr => h2 r (List.mem_cons_of_mem _ hr))
        exact (Bq_add (Bq_mul (h1 a (List.mem_cons_self ..)) (h2 b (List.mem_cons_self ..))) this).mono (by rw [List.length_cons]; omega)
  have h1 := h sh (gainsL gn (doneL lk gn lot)) hs.bq (gains_bq hL.gn (done_lt hl))
  exact h1.mono (by rw [hs.len]; omega)
theorem len_row (st : Sto) (r : List Rat) (Q : PV → Sto → Prop) : wp (biV .len [row r] st) Q ↔ Q (.int (r.length : Nat)) st := by
  have := len_tup (r.map fr) st Q
  rw [List.length_map] at this
  exact this
theorem len_lot (st : Sto) (l : List Nat) (Q : PV → Sto → Prop) : wp (biV .len [lotV l] st) Q ↔ Q (.int (l.length : Nat)) st := by
  have := len_tup (l.map fun a : Nat => PV.int a) st Q
  rw [List.length_map] at this
  exact this
theorem ix_rows0 {s : Sto} {lk : List (List Rat)} {u : List Rat} (h : lk[0]? = some u) : ixV s (.tup (lk.map row)) (.int 0) = some (row u) := ix_rows (i := 0) h
theorem sp_best_lot (hP : HasH P) {A K : Nat} {sh : List Rat} {lk gn : List (List Rat)} (hO : LetOk K A sh lk gn) (hw : 2 ^ 100 ≤ w) {m : List Nat} (hm : upTo (stepP (gainL sh lk gn)) (keyL A) (keyL A).length = some m) (h : ∀ s, st <+: s → Q (.tup [fr (gainL sh lk gn m), lotV m]) s) : wp (callF P G w (k + 7) "best_lot" [row sh, .tup (lk.map row), .tup (gn.map row)] st) Q := by
  have ok := lots_ok A hO.a1 hO.a6
  have hL := hO.hasL
  have k1 := hO.k1
  have hg0 := List.getElem?_eq_getElem (show 0 < gn.length by rw [hO.gnl]; omega)
  have hG0 := hO.gn _ (List.mem_of_getElem? hg0)
  generalize gn[0]'(by rw [hO.gnl]; omega) = g0 at hg0 hG0
  refine wp_callF hP.g.best rfl ?_
  unfold B_best_lot
  simp only [ev, evs, wp_sortk, List.map, List.replicate, List.append_nil, List.cons_append, List.nil_append, List.length_cons, List.length_nil, Nat.reduceAdd, Nat.reduceLT, LIM, Nat.reduceLeDiff, true_and, Nat.reduceSub, Nat.zero_le, ix_rows0 hg0, Option.some.injEq, exists_eq_left', len_row, hG0.len]
  refine sp_lots hP.g hO.a1 hO.a6 fun n s p hn => ?_
  simp only [it_loc, hn, Option.some.injEq, exists_eq_left']
  have e2 : ((ascL A).map lotV).map (fun x => match x with | .tup xs => PV.tup [.int xs.length, .tup xs] | v => v) = (ascL A).map keyV := by
    rw [List.map_map]
    refine List.map_congr_left fun l _ => ?_
    show PV.tup [.int (l.map _).length, lotV l] = keyV l
    rw [List.length_map]
    rfl
  refine wp_evKeys (f := fun x => match x with | .tup xs => PV.tup [.int xs.length, .tup xs] | v => v) (fun x hx Q hQ => ?_) ?_
  · obtain ⟨l, _, rfl⟩ := List.mem_map.mp hx
    simp only [ev, evs, List.length_cons, List.length_nil, Nat.reduceAdd, Nat.reduceLT, LIM, Nat.reduceLeDiff, true_and, Nat.reduceSub, Option.some.injEq, exists_eq_left', List.set, len_lot]
    have e : (match lotV l with | .tup xs => PV.tup [.int xs.length, .tup xs] | v => v) = PV.tup [.int l.length, lotV l] := by
      show PV.tup [.int (l.map _).length, lotV l] = _
      rw [List.length_map]
    rw [e] at hQ
    exact hQ
  · rw [e2]
    have hk := ok.permK.length_eq
    have hl := ok.len
    refine ⟨_, datAll_map dat_key _, srtOk_keys _, ?_⟩
    rw [keys_eq ok]
    simp only [ev, List.length_map]
    refine ⟨by omega, ?_⟩
    have hn2 := getL_last s ((keyL A).map lotV)
    generalize hs2 : s ++ [MO.lst ((keyL A).map lotV)] = s2 at hn2
    have p2 : st <+: s2 := by rw [← hs2]; exact p.trans (pre_snoc ..)
    simp only [wk_loc hn2, Option.some.injEq, exists_eq_left', ev]
    refine wp_forM (keyL A) lotV (fun i env s' => ∃ o4 o5 o6, env = [some (row sh), some (.tup (lk.map row)), some (.tup (gn.map row)), some (bestV (gainL sh lk gn) (.tup []) (upTo (stepP (gainL sh lk gn)) (keyL A) i)), o4, o5, o6] ∧ s' = s2) rfl ⟨none, none, none, rfl, rfl⟩ ?_ ?_
    · rintro i l env s' hi ⟨o4, o5, o6, rfl, rfl⟩
      refine ⟨gs_one hn2, ?_⟩
      have hla := ok.permK.mem_iff.mp (List.mem_of_getElem? hi)
      have hlo := asc_lot ok hla
      rw [upTo_succ hi]
      simp only [ev, evs, List.length_cons, List.length_nil, Nat.reduceAdd, Nat.reduceLT, LIM, Nat.reduceLeDiff, true_and, Nat.reduceSub, Option.some.injEq, exists_eq_left']
      refine sp_let_gain hP.g.f hO.sh hL hO.k3 hlo hw ?_
      simp only [ev, evs, List.length_cons, List.length_nil, Nat.reduceAdd, Nat.reduceLT, LIM, Nat.reduceLeDiff, true_and, Nat.reduceSub, Option.some.injEq, exists_eq_left', cmp_eq, eqv_best]
      have hb : ∀ b, upTo (stepP (gainL sh lk gn)) (keyL A) i = some b → b ∈ keyL A := fun b hb => by
        have hi' := (List.getElem?_eq_some_iff.mp hi).1
        by_cases hz : i = 0
        · subst hz; cases hb
        · obtain ⟨m', e, t⟩ := upTo_top (g := gainL sh lk gn) (step := stepP (gainL sh lk gn)) (R := fun a b => ltK a b = true) (fun _ => rfl) (fun l m a ht hx => ⟨if gainL sh lk gn m < gainL sh lk gn a then a else m, by show (if _ then some a else some m) = _; split <;> rfl, ht.step (fun c => .inl c) fun c => by
            unfold Bet
            by_cases e : gainL sh lk gn a = gainL sh lk gn m
            · exact .inr ⟨e, hx m ht.1⟩
            · left; grind⟩) ok.sortK i (by omega) (by omega)
          rw [hb] at e
          cases e
          exact List.mem_of_mem_take t.1
      cases hu : upTo (stepP (gainL sh lk gn)) (keyL A) i with
      | none =>
        simp only [Option.isNone_none, if_true, ev, List.length_cons, List.length_nil, Nat.reduceAdd, Nat.reduceLT, LIM, Nat.reduceLeDiff, true_and, Nat.reduceSub, Option.some.injEq, exists_eq_left']
        first | exact ⟨_, _, _, rfl, trivial⟩ | exact ⟨_, _, _, rfl, rfl⟩ | exact ⟨_, _, _, rfl⟩
      | some b =>
        have hbo := asc_lot ok (ok.permK.mem_iff.mp (hb b hu))
        have e0 : ∀ s : Sto, ixV s (bestV (gainL sh lk gn) (.tup []) (some b)) (.int 0) = some (fr (gainL sh lk gn b)) := fun s => rfl
        simp only [Option.isNone_some, Bool.false_eq_true, if_false, ev, List.length_cons, List.length_nil, Nat.reduceAdd, Nat.reduceLT, LIM, Nat.reduceLeDiff, true_and, Nat.reduceSub, Option.some.injEq, exists_eq_left', e0]
        refine sp_less hP.g.f.less (Gain.bq hO.sh hL hO.k3 hbo) (Gain.bq hO.sh hL hO.k3 hlo) (by decide) ?_
        simp only [ev, Option.some.injEq, exists_eq_left']
        by_cases hc : gainL sh lk gn b < gainL sh lk gn l
        · have e : stepP (gainL sh lk gn) (some b) l = some l := by show (if _ then some l else some b) = _; rw [if_pos hc]
          simp only [hc, decide_true, if_true, ev, List.length_cons, List.length_nil, Nat.reduceAdd, Nat.reduceLT, LIM, Nat.reduceLeDiff, true_and, Nat.reduceSub, Option.some.injEq, exists_eq_left', e]
          first | exact ⟨_, _, _, rfl, trivial⟩ | exact ⟨_, _, _, rfl, rfl⟩ | exact ⟨_, _, _, rfl⟩
        · have e : stepP (gainL sh lk gn) (some b) l = some b := by show (if _ then some l else some b) = _; rw [if_neg hc]
          simp only [hc, decide_false, Bool.false_eq_true, if_false, ev, e]
          first | exact ⟨_, _, _, rfl, trivial⟩ | exact ⟨_, _, _, rfl, rfl⟩ | exact ⟨_, _, _, rfl⟩
    · rintro env s' ⟨o4, o5, o6, rfl, rfl⟩
      refine ⟨gs_one hn2, ?_⟩
      rw [hm]
      simp only [ev, Option.some.injEq, exists_eq_left']
      exact h _ p2
/-- the first that is better, or () -/
def nobV (g : List Nat → Rat) (A : Nat) (lot : List Nat) : PV := match (ascL A).find? fun o => decide (g lot < g o) with
  | some o => lotV o
  | none => .tup []
theorem sp_no_better (hP : HasH P) {A K : Nat} {sh : List Rat} {lk gn : List (List Rat)} {lot : List Nat} (hO : LetOk K A sh lk gn) (hl : LotOk A lot) (hw : 2 ^ 100 ≤ w) (h : ∀ s, st <+: s → Q (nobV (gainL sh lk gn) A lot) s) : wp (callF P G w (k + 7) "no_better" [row sh, .tup (lk.map row), .tup (gn.map row), lotV lot] st) Q := by
  have ok := lots_ok A hO.a1 hO.a6
  have hL := hO.hasL
  have k1 := hO.k1
  have hg0 := List.getElem?_eq_getElem (show 0 < gn.length by rw [hO.gnl]; omega)
  have hG0 := hO.gn _ (List.mem_of_getElem? hg0)
  generalize gn[0]'(by rw [hO.gnl]; omega) = g0 at hg0 hG0
  refine wp_callF hP.g.nob rfl ?_
  unfold B_no_better
  simp only [ev, evs, List.map, List.replicate, List.append_nil, List.cons_append, List.nil_append, List.length_cons, List.length_nil, Nat.reduceAdd, Nat.reduceLT, LIM, Nat.reduceLeDiff, true_and, Nat.reduceSub, Nat.zero_le, ix_rows0 hg0, Option.some.injEq, exists_eq_left', len_row, hG0.len]
  refine sp_let_gain hP.g.f hO.sh hL hO.k3 hl hw ?_
  refine sp_lots hP.g hO.a1 hO.a6 fun n s p hn => ?_
  simp only [ev, evs, List.length_cons, List.length_nil, Nat.reduceAdd, Nat.reduceLT, LIM, Nat.reduceLeDiff, true_and, Nat.reduceSub, Option.some.injEq, exists_eq_left', wk_loc hn]
  refine wp_forM (ascL A) lotV (fun i env s' => ∃ o5, env = [some (row sh), some (.tup (lk.map row)), some (.tup (gn.map row)), some (lotV lot), some (fr (gainL sh lk gn lot)), o5] ∧ s' = s ∧ (ascL A).find? (fun o => decide (gainL sh lk gn lot < gainL sh lk gn o)) = ((ascL A).drop i).find? fun o => decide (gainL sh lk gn lot < gainL sh lk gn o)) rfl ⟨none, rfl, rfl, by rw [List.drop_zero]⟩ ?_ ?_
  · rintro i l env s' hi ⟨o5, rfl, rfl, hf⟩
    refine ⟨gs_one hn, ?_⟩
    have hi' := (List.getElem?_eq_some_iff.mp hi).1
    have hla := List.mem_of_getElem? hi
    have hlo := asc_lot ok hla
    have hd : (ascL A).drop i = l :: (ascL A).drop (i + 1) := by
      rw [List.drop_eq_getElem_cons hi']
      have := (List.getElem?_eq_some_iff.mp hi).2
      rw [this]
    simp only [ev, evs, List.length_cons, List.length_nil, Nat.reduceAdd, Nat.reduceLT, LIM, Nat.reduceLeDiff, true_and, Nat.reduceSub, Option.some.injEq, exists_eq_left']
    refine sp_let_gain hP.g.f hO.sh hL hO.k3 hlo hw ?_
    refine sp_less hP.g.f.less (Gain.bq hO.sh hL hO.k3 hl) (Gain.bq hO.sh hL hO.k3 hlo) (by decide) ?_
    simp only [ev, Option.some.injEq, exists_eq_left']
    rw [hd, List.find?_cons] at hf
    by_cases hc : gainL sh lk gn lot < gainL sh lk gn l
    · simp only [hc, decide_true] at hf
      simp only [hc, decide_true, if_true, ev, Option.some.injEq, exists_eq_left']
      have := h s' p
      unfold nobV at this
      rw [hf] at this
      exact this
    · simp only [hc, decide_false] at hf
      simp only [hc, decide_false, Bool.false_eq_true, if_false, ev]
      first | exact ⟨_, rfl, trivial, hf⟩ | exact ⟨_, rfl, hf⟩ | exact ⟨_, rfl, rfl, hf⟩
  · rintro env s' ⟨o5, rfl, rfl, hf⟩
    refine ⟨gs_one hn, ?_⟩
    rw [List.drop_length, List.find?_nil] at hf
    simp only [ev, Nat.zero_le, List.length_nil, true_and]
    have := h s' p
    unfold nobV at this
    rw [hf] at this
    first | exact this | exact ⟨by decide, this⟩
theorem perm3 (a b c : PV) : permK [] [a, b, c] [0, 1, 2] = some [a, b, c] := rfl
theorem perm4 (a b c d : PV) : permK [] [a, b, c, d] [0, 1, 2, 3] = some [a, b, c, d] := rfl
end
end Lib
end Mp
set_option Elab.async false
set_option linter.all false
set_option maxRecDepth 100000
/-! L85k: the law's looks. -/
namespace Mp
namespace Lib
open PySem
theorem needL_len {lk gn : List (List Rat)} {lot : List Nat} {A : Nat} (hl : LotOk A lot) : (needL lk gn lot).length ≤ A := Nat.le_trans (List.length_filter_le ..) hl.len
section
variable {P : Str → Option Fn} {G : Str → Option PV} {w k : Nat} {st : Sto} {Q : PV → Sto → Prop}
/-- a, put where it belongs -/
def insN (a : Nat) : List Nat → List Nat
  | [] => [a]
  | b :: l => if a < b then a :: b :: l else b :: insN a l
theorem insN_mem (a : Nat) : ∀ (l : List Nat) (x : Nat), x ∈ insN a l ↔ x = a ∨ x ∈ l
  | [], x => by unfold insN; simp
  | b :: l, x => by
    unfold insN
    split
    · simp
    · simp only [List.mem_cons, insN_mem a l x]
      constructor
      · rintro (h | h | h)
        · exact .inr (.inl h)
        · exact .inl h
        · exact .inr (.inr h)
      · rintro (h | h | h)
        · exact .inr (.inl h)
        · exact .inl h
        · exact .inr (.inr h)
theorem insN_perm (a : Nat) : ∀ l : List Nat, (insN a l).Perm (l ++ [a])
  | [] => by unfold insN; exact List.Perm.refl _
  | b :: l => by
    unfold insN
    split
    · exact (List.perm_append_comm (l₁ := [a]) (l₂ := b :: l))
    · exact (insN_perm a l).cons b
theorem insN_asc {a : Nat} : ∀ {l : List Nat}, l.Pairwise (· < ·) → a ∉ l → (insN a l).Pairwise (· < ·)
  | [], _, _ => by unfold insN; simp
  | b :: l, h, hn => by
    unfold insN
    rw [List.pairwise_cons] at h
    split
    · rename_i hab
      rw [List.pairwise_cons]
      refine ⟨fun x hx => ?_, List.pairwise_cons.mpr h⟩
      rcases List.mem_cons.mp hx with rfl | hx
      · exact hab
      · exact Nat.lt_trans hab (h.1 x hx)
    · rename_i hab
      rw [List.pairwise_cons]
      refine ⟨fun x hx => ?_, insN_asc h.2 fun hm => hn (List.mem_cons_of_mem _ hm)⟩
      rcases (insN_mem a l x).mp hx with rfl | hx
      · have : x ≠ b := fun e => hn (e ▸ List.mem_cons_self ..)
        omega
      · exact h.1 x hx
theorem srt_nat : Srt fun a b : Nat => decide (a < b) := ⟨fun a => by simp, fun {a b c} h1 h2 => by simp only [decide_eq_true_eq] at *; omega, fun {a b} h1 h2 => by simp only [decide_eq_false_iff_not] at *; omega⟩
theorem srtOk_nat (l : List Nat) : srtOk (l.map fun a : Nat => PyData.int a) = true := by
  unfold srtOk
  rw [Bool.and_eq_true, Bool.and_eq_true]
  refine ⟨all_all _ _ _ fun a _ => all_all _ _ _ fun b _ => by unfold PySem.W.alike; rfl, all_all _ _ _ fun a _ => by rw [decide_eq_true_eq]; unfold PyData.depth; omega, ?_⟩
  rw [Bool.or_eq_true, Bool.or_eq_true]
  exact .inr (.inl (all_all _ _ _ fun a _ => rfl))
theorem nat_lt (a b : Nat) : PySem.W.dataLt (PyData.int a) (PyData.int b) = decide (a < b) := by
  rw [PySem.W.dataLt_int, Bool.eq_iff_iff, decide_eq_true_eq, decide_eq_true_eq]
  omega
theorem wp_sortedT {xs ys : List PV} {ds : List PyData} (hd : datAll xs = some ds) (hk : srtOk ds = true) (he : srt ds xs = ys) (hl : ys.length ≤ LIM) (q : Q (.loc st.length) (st ++ [.lst ys])) : wp (biV .sorted [.tup xs] st) Q := by
  show wp (match datAll xs with
      | some ds => if srtOk ds then newL (srt ds xs) st else none
      | none => none) Q
  simp only [hd]
  rw [if_pos hk, he, wp_newL]
  exact ⟨hl, q⟩
theorem more_ok {A a : Nat} {lot : List Nat} (hl : LotOk A lot) (ha : a < A) (hn : a ∉ lot) : LotOk A (insN a lot) :=
  ⟨fun e => (by have := (insN_mem a lot a).mpr (.inl rfl); rw [e] at this; cases this), insN_asc hl.asc hn, fun x hx => by
    rcases (insN_mem a lot x).mp hx with rfl | hx
    · exact ha
    · exact hl.lt x hx⟩
theorem sp_is_done (hP : HasH P) {A K : Nat} {sh : List Rat} {lk gn : List (List Rat)} {lot : List Nat} (hO : LetOk K A sh lk gn) (hl : LotOk A lot) (hw : 2 ^ 100 ≤ w) (h : ∀ s, st <+: s → Q (.bl true) s) : wp (callF P G w (k + 7) "_law_is_done" [row sh, .tup (lk.map row), .tup (gn.map row), lotV lot] st) Q := by
  have hL := hO.hasL
  have k1 := hO.k1
  have k3 := hO.k3
  have a6 := hO.a6
  have ll := hl.len
  have dl := done_len hL lot
  have hg0 := List.getElem?_eq_getElem (show 0 < lk.length by rw [hO.lkl]; omega)
  have hG0 := hO.lk _ (List.mem_of_getElem? hg0)
  generalize lk[0]'(by rw [hO.lkl]; omega) = u0 at hg0 hG0
  have cd : cls 1 (.tup ((doneL lk gn lot).map fun a : Nat => .int a)) = true := cls_ints _ (by omega)
  refine wp_callF hP.isdone rfl ?_
  unfold B__law_is_done
  try simp only [ev, evs, List.map, List.replicate, List.append_nil, List.cons_append, List.nil_append, List.length_cons, List.length_nil, Nat.reduceAdd, Nat.reduceLT, LIM, Nat.reduceLeDiff, true_and, Nat.reduceSub, Nat.zero_le, Option.some.injEq, exists_eq_left', perm3, perm4]
  refine sp_ldone hP.g.f hL k3 hl fun s1 p1 => ?_
  refine sp_lgain hP.g.f hO.sh hL k3 hl fun s2 p2 => ?_
  try simp only [ev, evs, List.length_cons, List.length_nil, Nat.reduceAdd, Nat.reduceLT, LIM, Nat.reduceLeDiff, true_and, Nat.reduceSub, Option.some.injEq, exists_eq_left']
  refine sp_done_by hP.g.f hL k3 hl ?_
  try simp only [ev, evs, List.length_cons, List.length_nil, Nat.reduceAdd, Nat.reduceLT, LIM, Nat.reduceLeDiff, true_and, Nat.reduceSub, Option.some.injEq, exists_eq_left']
  refine sp_done_by hP.g.f hL k3 hl ?_
  try simp only [ev, evs, List.length_cons, List.length_nil, Nat.reduceAdd, Nat.reduceLT, LIM, Nat.reduceLeDiff, true_and, Nat.reduceSub, Option.some.injEq, exists_eq_left']
  refine sp_same hP.g.f 2 _ _ _ (cls_pair cd cd) ?_
  try simp only [ev, evs, List.length_cons, List.length_nil, Nat.reduceAdd, Nat.reduceLT, LIM, Nat.reduceLeDiff, true_and, Nat.reduceSub, Option.some.injEq, exists_eq_left', Bool.not_true, Bool.false_eq_true, if_false]
  refine sp_let_gain hP.g.f hO.sh hL k3 hl hw ?_
  try simp only [ev, evs, List.length_cons, List.length_nil, Nat.reduceAdd, Nat.reduceLT, LIM, Nat.reduceLeDiff, true_and, Nat.reduceSub, Option.some.injEq, exists_eq_left']
  refine sp_let_gain hP.g.f hO.sh hL k3 hl hw ?_
  try simp only [ev, evs, List.length_cons, List.length_nil, Nat.reduceAdd, Nat.reduceLT, LIM, Nat.reduceLeDiff, true_and, Nat.reduceSub, Option.some.injEq, exists_eq_left']
  refine sp_same hP.g.f 2 _ _ _ (cls_pair (cls_fr _) (cls_fr _)) ?_
  try simp only [ev, evs, List.length_cons, List.length_nil, Nat.reduceAdd, Nat.reduceLT, LIM, Nat.reduceLeDiff, true_and, Nat.reduceSub, Option.some.injEq, exists_eq_left', Bool.not_true, Bool.false_eq_true, if_false, ix_rows0 hg0, len_row, hG0.len, wkR_len (show A ≤ 16777216 by omega)]
  refine wp_forM (List.range A) (fun i => PV.int (i : Nat)) (fun i env s => ∃ o6 o8 o9, env = [some (row sh), some (.tup (lk.map row)), some (.tup (gn.map row)), some (lotV lot), some (.tup ((doneL lk gn lot).map fun a : Nat => .int a)), some (fr (gainL sh lk gn lot)), some o6, some (fr (gainL sh lk gn lot)), o8, o9, none] ∧ st <+: s) rfl ⟨_, none, none, rfl, p1.trans p2⟩ ?_ ?_
  · rintro i a env s ha ⟨o6, o8, o9, rfl, p⟩
    obtain ⟨rfl, hi⟩ := range_get ha
    refine ⟨rfl, ?_⟩
    -- what follows when the lot with it is known
    have next : ∀ (more : List Nat) (s : Sto) (R : Out → Sto → Prop) (o6 : PV) (o8 : Option PV), st <+: s → LotOk A more → (∀ x ∈ lot, x ∈ more) → (∀ x ∈ more, x = a ∨ x ∈ lot) → (∀ s o6, st <+: s → R (.nx [some (row sh), some (.tup (lk.map row)), some (.tup (gn.map row)), some (lotV lot), some (.tup ((doneL lk gn lot).map fun a : Nat => .int a)), some (fr (gainL sh lk gn lot)), some o6, some (fr (gainL sh lk gn lot)), some (.int (a : Int)), some (lotV more), none]) s) →
        wp (exSs (callF P G w (k + 6)) G w [.ite (.cmp .notin (.var 8) (.call "_law_done" [(.var 1), (.var 2), (.var 9)])) [
    .asg (.nm 6) (.tup [(.call "done_by" [(.var 1), (.var 2), (.var 9)]), (.call "let_gain" [(.var 0), (.var 1), (.var 2), (.var 9)])]),
    .ite (.not (.call "_law_same" [(.var 6), (.tup [(.var 4), (.var 5)])])) [
     .ret (.bl false)] []] []] [some (row sh), some (.tup (lk.map row)), some (.tup (gn.map row)), some (lotV lot), some (.tup ((doneL lk gn lot).map fun a : Nat => .int a)), some (fr (gainL sh lk gn lot)), some o6, some (fr (gainL sh lk gn lot)), some (.int (a : Int)), some (lotV more), none] s) R := by
      intro more s R o6 o8 p hm hsub hsup hR
      try simp only [ev, evs, List.length_cons, List.length_nil, Nat.reduceAdd, Nat.reduceLT, LIM, Nat.reduceLeDiff, true_and, Nat.reduceSub, Option.some.injEq, exists_eq_left']
      refine sp_ldone hP.g.f hL k3 hm fun s3 p3 => ?_
      simp only [notin_ints, ev, Option.some.injEq, exists_eq_left']
      by_cases hd : a ∈ doneL lk gn more
      · simp only [hd, not_true_eq_false, decide_false, Bool.false_eq_true, if_false, ev]
        exact hR _ _ (p.trans p3)
      · have e : doneL lk gn lot = doneL lk gn more := doneL_sub hl hm hsub fun d hdm => (hsup d (doneL_mem hm d hdm)).resolve_left fun e => hd (e ▸ hdm)
        have eg : gainL sh lk gn lot = gainL sh lk gn more := by unfold gainL; rw [e]
        simp only [hd, not_false_eq_true, decide_true, if_true, ev, Option.some.injEq, exists_eq_left']
        refine sp_done_by hP.g.f hL k3 hm ?_
        try simp only [ev, evs, List.length_cons, List.length_nil, Nat.reduceAdd, Nat.reduceLT, LIM, Nat.reduceLeDiff, true_and, Nat.reduceSub, Option.some.injEq, exists_eq_left']
        refine sp_let_gain hP.g.f hO.sh hL k3 hm hw ?_
        try simp only [ev, evs, List.length_cons, List.length_nil, Nat.reduceAdd, Nat.reduceLT, LIM, Nat.reduceLeDiff, true_and, Nat.reduceSub, Option.some.injEq, exists_eq_left']
        rw [← e, ← eg]
        refine sp_same hP.g.f 2 _ _ _ (cls_pair cd (cls_fr _)) ?_
        try simp only [ev, evs, Option.some.injEq, exists_eq_left', Bool.not_true, Bool.false_eq_true, if_false]
        exact hR _ _ (p.trans p3)
    rw [wp_fBody]
    simp only [wp_tnm, List.length_cons, List.length_nil, Nat.reduceAdd, Nat.reduceLT, true_and]
    rw [wp_ss]
    have ne : ∃ rest : List S, rest = ([.ite (.cmp .notin (.var 8) (.call "_law_done" [(.var 1), (.var 2), (.var 9)])) [
    .asg (.nm 6) (.tup [(.call "done_by" [(.var 1), (.var 2), (.var 9)]), (.call "let_gain" [(.var 0), (.var 1), (.var 2), (.var 9)])]),
    .ite (.not (.call "_law_same" [(.var 6), (.tup [(.var 4), (.var 5)])])) [
     .ret (.bl false)] []] []] : List S) := ⟨_, rfl⟩
    obtain ⟨rest, hrest⟩ := ne
    rw [← hrest] at next
    rw [show ([.ite (.cmp .notin (.var 8) (.call "_law_done" [(.var 1), (.var 2), (.var 9)])) [
    .asg (.nm 6) (.tup [(.call "done_by" [(.var 1), (.var 2), (.var 9)]), (.call "let_gain" [(.var 0), (.var 1), (.var 2), (.var 9)])]),
    .ite (.not (.call "_law_same" [(.var 6), (.tup [(.var 4), (.var 5)])])) [
     .ret (.bl false)] []] []] : List S) = rest from hrest.symm]
    clear hrest
    simp only [wp_asg, wp_ifx, wp_cmp, wp_var, wp_bi, wp_cons, wp_nil, wp_bin, wp_tup, wp_tnm, setV_zero, setV_succ, getV_zero, getV_succ, tr_bl, seqQ_nx, evs, List.length_cons, List.length_nil, Nat.reduceAdd, Nat.reduceLT, LIM, Nat.reduceLeDiff, true_and, Nat.reduceSub, Option.some.injEq, exists_eq_left']
    have en : cmp .notin (.int (a : Int)) (lotV lot) s = some (decide (a ∉ lot)) := notin_ints s a lot
    simp only [en, Option.some.injEq, exists_eq_left', tr_bl]
    by_cases hm : a ∈ lot
    · simp only [hm, not_true_eq_false, decide_false, Bool.false_eq_true, if_false]
      refine next lot s _ _ none p hl (fun _ h => h) (fun x hx => .inr hx) fun s o6 p' => ?_
      simp only [turnQ_nx]
      exact ⟨_, _, _, rfl, p'⟩
    · simp only [hm, not_false_eq_true, decide_true, if_true]
      have e : bin .add (lotV lot) (.tup [.int (a : Int)]) s = mkT ((lot.map fun a : Nat => PV.int a) ++ [.int (a : Int)]) s := rfl
      rw [e, wp_mkT]
      refine ⟨by rw [List.length_append, List.length_map]; show lot.length + 1 ≤ 16777216; omega, ?_⟩
      have e2 : (lot.map fun a : Nat => PV.int a) ++ [.int (a : Int)] = (lot ++ [a]).map fun a : Nat => PV.int a := by rw [List.map_append]; rfl
      rw [e2]
      have mo := more_ok hl hi hm
      have mle := mo.len
      refine wp_sortedT (datAll_map (d := fun a : Nat => PyData.int a) (fun a => dat_int a) _) (srtOk_nat _) (srt_eq srt_nat nat_lt (insN_perm a lot) ((insN_asc hl.asc hm).imp fun h => by simpa using h)) (by rw [List.length_map]; show _ ≤ 16777216; omega) ?_
      simp only [tuple_loc (getL_last ..)]
      refine next (insN a lot) _ _ _ none (p.trans (pre_snoc ..)) mo (fun x hx => (insN_mem a lot x).mpr (.inr hx)) (fun x hx => (insN_mem a lot x).mp hx) fun s o6 p' => ?_
      simp only [turnQ_nx]
      exact ⟨_, _, _, rfl, p'⟩
  · rintro env s ⟨o6, o8, o9, rfl, p⟩
    refine ⟨rfl, ?_⟩
    try simp only [ev, evs, List.length_cons, List.length_nil, Nat.reduceAdd, Nat.reduceLT, LIM, Nat.reduceLeDiff, true_and, Nat.reduceSub, Option.some.injEq, exists_eq_left', perm3, perm4]
    have nl := needL_len (lk := lk) (gn := gn) hl
    have cn : cls 1 (.tup ((needL lk gn lot).map fun a : Nat => .int a)) = true := cls_ints _ (by omega)
    refine sp_lneed hP.g.f hL k1 k3 hl (by omega) fun s3 p3 => ?_
    try simp only [ev, evs, List.length_cons, List.length_nil, Nat.reduceAdd, Nat.reduceLT, LIM, Nat.reduceLeDiff, true_and, Nat.reduceSub, Option.some.injEq, exists_eq_left']
    refine sp_need hP.g.f hL k3 a6 hl (by omega) ?_
    try simp only [ev, evs, List.length_cons, List.length_nil, Nat.reduceAdd, Nat.reduceLT, LIM, Nat.reduceLeDiff, true_and, Nat.reduceSub, Option.some.injEq, exists_eq_left']
    refine sp_need hP.g.f hL k3 a6 hl (by omega) ?_
    try simp only [ev, evs, List.length_cons, List.length_nil, Nat.reduceAdd, Nat.reduceLT, LIM, Nat.reduceLeDiff, true_and, Nat.reduceSub, Option.some.injEq, exists_eq_left']
    refine sp_same hP.g.f 2 _ _ _ (cls_pair cn cn) ?_
    exact h _ (p.trans p3)
end
end Lib
end Mp
set_option Elab.async false
set_option linter.all false
set_option maxRecDepth 100000
/-! L85l: the law. -/
namespace Mp
namespace Lib
open PySem
section
variable {P : Str → Option Fn} {G : Str → Option PV} {w k : Nat} {st : Sto} {Q : PV → Sto → Prop}
theorem eraseIdx_map' {α : Type} (e : α → PV) : ∀ (l : List α) (i : Nat), (l.map e).eraseIdx i = (l.eraseIdx i).map e
  | [], _ => rfl
  | a :: l, 0 => rfl
  | a :: l, i + 1 => by
    show e a :: (l.map e).eraseIdx i = e a :: (l.eraseIdx i).map e
    rw [eraseIdx_map' e l i]
theorem sp_shuffled (hP : HasD P) {α : Type} {e : α → PV} {n m : Nat} {l : List α} (hp : Pool st n) (hm : getL st m = some (l.map e)) (hl : l.length < 2 ^ 20) (h : ∀ (q : Nat) (r : List α) (s : Sto), Dr n st s → st.length ≤ q → getM s q = some (r.map e) → r.length = l.length → (∀ x ∈ r, x ∈ l) → Q (.loc q) s) : wp (callF P G w (k + 3) "_law_shuffled" [.loc n, .loc m] st) Q := by
  refine wp_callF hP.shuffled rfl ?_
  unfold B__law_shuffled
  simp only [ev, evs, List.map, List.replicate, List.append_nil, List.cons_append, List.nil_append, List.length_cons, List.length_nil, Nat.reduceAdd, Nat.reduceLT, LIM, Nat.reduceLeDiff, true_and, Nat.reduceSub, list_loc hm, List.length_map]
  refine ⟨by omega, ?_⟩
  have hm2 := getL_mono (pre_snoc st (MO.lst (l.map e))) hm
  have d0 : Dr n st (st ++ [MO.lst (l.map e)]) := Dr.pre hp (pre_snoc ..)
  have nlt := hp.lt
  have hq := getM_last st (l.map e)
  simp only [ev, evs, len_loc hm2, List.length_map, wkR_len (show l.length ≤ 16777216 by omega), Option.some.injEq, exists_eq_left', List.set]
  refine wp_compLoop (fun i acc s => Dr n st s ∧ ∃ rem made : List α, getM s st.length = some (rem.map e) ∧ (∀ x ∈ rem, x ∈ l) ∧ rem.length = l.length - i ∧ acc = made.map e ∧ made.length = i ∧ (∀ x ∈ made, x ∈ l)) ⟨d0, l, [], hq, fun _ h => h, by simp, rfl, rfl, fun _ h => by cases h⟩ ?_ ?_
  · rintro i x acc s hx ⟨ds, rem, made, hr, hrl, hrn, rfl, hml, hmm⟩
    refine ⟨rfl, ?_⟩
    have hi : i < l.length := by have := (List.getElem?_eq_some_iff.mp hx).1; simpa using this
    simp only [ev, evs, List.length_cons, List.length_nil, Nat.reduceAdd, Nat.reduceLT, LIM, Nat.reduceLeDiff, true_and, Nat.reduceSub, Option.some.injEq, exists_eq_left', len_loc (getL_of_M hr), List.length_map, if_true]
    refine sp_draw hP.mixed hP.draw ds.pool (by omega) (by omega) fun r s2 hr2 d2 => ?_
    have hx2 := List.getElem?_eq_getElem hr2
    have hg : getM s2 st.length = some (rem.map e) := d2.getM' (by omega) hr
    have hxm : (rem.map e)[r]? = some (e rem[r]) := by rw [List.getElem?_map, hx2]; rfl
    try simp only [ev, Option.some.injEq, exists_eq_left']
    refine wp_pop hg hxm ?_
    simp only [evs, Option.some.injEq, exists_eq_left', Bool.false_eq_true, if_false]
    refine ⟨Dr.own hp (ds.trans d2) (Nat.le_refl _) _, rem.eraseIdx r, made ++ [rem[r]], ?_, fun x hx => hrl x (List.mem_of_mem_eraseIdx hx), ?_, by rw [List.map_append]; rfl, by rw [List.length_append, hml]; rfl, fun x hx => ?_⟩
    · rw [getM_set _ (getM_lt hg), eraseIdx_map']
    · rw [List.length_eraseIdx, if_pos hr2, hrn]
      omega
    · rcases List.mem_append.mp hx with hx | hx
      · exact hmm x hx
      · rw [List.mem_singleton.mp hx]
        exact hrl _ (List.getElem_mem hr2)
  · rintro acc s ⟨ds, rem, made, hr, hrl, hrn, rfl, hml, hmm⟩
    rw [List.length_map, List.length_range] at hml
    refine ⟨rfl, ?_⟩
    simp only [ev, evs, List.length_map]
    refine ⟨by omega, ?_⟩
    exact h s.length made _ (ds.snoc _) ds.len (getM_last ..) hml hmm
theorem is_non : cmp .is .non .non st = some true := rfl
theorem isnot_non : cmp .isnot .non .non st = some false := rfl
theorem is_tup (xs : List PV) : cmp .is (.tup xs) .non st = some false := rfl
theorem isnot_tup (xs : List PV) : cmp .isnot (.tup xs) .non st = some true := rfl
theorem ix2_0 (a b : PV) : ixV st (.tup [a, b]) (.int 0) = some a := rfl
theorem ix2_1 (a b : PV) : ixV st (.tup [a, b]) (.int 1) = some b := rfl
theorem wk_W {g : List Nat → Rat} {A : Nat} (ok : LotsOk A) {i : Nat} {b : List Nat} (hb : upTo (stepW g) (ascL A) i = some b) (hi : i ≤ (ascL A).length) : b ∈ ascL A := by
  by_cases hz : i = 0
  · subst hz; cases hb
  · obtain ⟨m', e, t⟩ := upTo_top (g := g) (step := stepW g) (R := fun a b => ltL a b = true) (fun _ => rfl) (fun l m a ht hx => ⟨if (g m = g a ∧ a.length < m.length) ∨ g m < g a then a else m, by show (if _ then some a else some m) = _; split <;> rfl, ht.step (fun c => by
      unfold Bet
      rcases c with ⟨c1, c2⟩ | c
      · exact .inr ⟨c1, by unfold ltK; simp [c2]⟩
      · exact .inl c) fun c => by
      unfold Bet
      rw [not_or, not_and] at c
      by_cases e : g a = g m
      · refine .inr ⟨e, ?_⟩
        have h1 := c.1 e.symm
        unfold ltK
        by_cases h2 : m.length < a.length
        · simp [h2]
        · have h3 : m.length = a.length := by omega
          have := hx m ht.1
          simp [h3, this]
      · left; grind⟩) (List.pairwise_cons.mp ok.sort0).2 i (by omega) hi
    rw [hb] at e
    cases e
    exact List.mem_of_mem_take t.1
theorem head_filter {α : Type} (p : α → Bool) (l : List α) : (l.filter p)[0]? = l.find? p := by
  rw [← List.head?_eq_getElem?, List.head?_filter]
theorem cut3 (l : List PV) : cut l none (some 3) = l.take 3 := by
  show (l.drop 0).take (min 3 l.length - 0) = _
  rw [List.drop_zero, Nat.sub_zero]
  by_cases h : 3 ≤ l.length
  · rw [Nat.min_eq_left h]
  · rw [Nat.min_eq_right (by omega), List.take_of_length_le (Nat.le_refl _), List.take_of_length_le (by omega)]
theorem sp_is_best (hP : HasH P) {A K n m : Nat} {sh : List Rat} {lk gn : List (List Rat)} (hO : LetOk K A sh lk gn) (hp : Pool st n) (hm : getL st m = some ((ascL A).map lotV)) (hnm : m ≠ n) (hw : 2 ^ 100 ≤ w) (h : ∀ s, Dr n st s → Q (.bl true) s) : wp (callF P G w (k + 8) "_law_is_best" [.loc n, row sh, .tup (lk.map row), .tup (gn.map row), .loc m] st) Q := by
  have hL := hO.hasL
  have k1 := hO.k1
  have k3 := hO.k3
  have a6 := hO.a6
  have ok := lots_ok A hO.a1 hO.a6
  have al := ok.len
  obtain ⟨m0, eP, eW, hm0⟩ := best_same (g := gainL sh lk gn) ok
  have hm0o := asc_lot ok hm0
  have hm0l := hm0o.len
  refine wp_callF hP.isbest rfl ?_
  unfold B__law_is_best
  simp only [ev, evs, List.map, List.replicate, List.append_nil, List.cons_append, List.nil_append, List.length_cons, List.length_nil, Nat.reduceAdd, Nat.reduceLT, LIM, Nat.reduceLeDiff, true_and, Nat.reduceSub, Nat.zero_le, Option.some.injEq, exists_eq_left', perm3, perm4, wk_loc hm]
  refine wp_forM (ascL A) lotV (fun i env s => ∃ o6 o7 o8, env = [some (.loc n), some (row sh), some (.tup (lk.map row)), some (.tup (gn.map row)), some (.loc m), some (bestV (gainL sh lk gn) .non (upTo (stepW (gainL sh lk gn)) (ascL A) i)), o6, o7, o8, none, none, none, none, none] ∧ st <+: s) rfl ⟨none, none, none, rfl, pre_refl _⟩ ?_ ?_
  · rintro i l env s hi ⟨o6, o7, o8, rfl, p⟩
    refine ⟨gs_one (getL_mono p hm), ?_⟩
    have hil := (List.getElem?_eq_some_iff.mp hi).1
    have hlo := asc_lot ok (List.mem_of_getElem? hi)
    rw [upTo_succ hi]
    simp only [ev, evs, List.length_cons, List.length_nil, Nat.reduceAdd, Nat.reduceLT, LIM, Nat.reduceLeDiff, true_and, Nat.reduceSub, Option.some.injEq, exists_eq_left']
    refine sp_lgain hP.g.f hO.sh hL k3 hlo fun s2 p2 => ?_
    have p' := p.trans p2
    try simp only [ev, evs, List.length_cons, List.length_nil, Nat.reduceAdd, Nat.reduceLT, LIM, Nat.reduceLeDiff, true_and, Nat.reduceSub, Option.some.injEq, exists_eq_left']
    cases hu : upTo (stepW (gainL sh lk gn)) (ascL A) i with
    | none =>
      simp only [bestV, isnot_non, is_non, Option.some.injEq, exists_eq_left', tr_bl, Bool.false_eq_true, if_false, if_true, ev, evs, List.length_cons, List.length_nil, Nat.reduceAdd, Nat.reduceLT, LIM, Nat.reduceLeDiff, true_and]
      exact ⟨_, _, _, rfl, p'⟩
    | some b =>
      have hbo := asc_lot ok (wk_W ok hu (by omega))
      have e2 : stepW (gainL sh lk gn) (some b) l = if (gainL sh lk gn b = gainL sh lk gn l ∧ l.length < b.length) ∨ gainL sh lk gn b < gainL sh lk gn l then some l else some b := rfl
      simp only [bestV, isnot_tup, is_tup, ix2_0, ix2_1, len_lot, cmp_eq, eqv_fr, Option.some.injEq, exists_eq_left', tr_bl, Bool.false_eq_true, if_false, if_true, ev, evs, List.length_cons, List.length_nil, Nat.reduceAdd, Nat.reduceLT, LIM, Nat.reduceLeDiff, true_and]
      have hlen : decide ((l.length : Int) < (b.length : Int)) = decide (l.length < b.length) := by
        rw [Bool.eq_iff_iff, decide_eq_true_eq, decide_eq_true_eq]; omega
      have hle := sp_lless (P := P) (G := G) (w := w) (k := k + 6) (st := s2) (Q := fun x s => ∃ t, truth s x = some t ∧ (if t = true then ∃ o6 o7 o8, [some (PV.loc n), some (row sh), some (.tup (lk.map row)), some (.tup (gn.map row)), some (.loc m), some (PV.tup [fr (gainL sh lk gn l), lotV l]), some (lotV l), some (fr (gainL sh lk gn l)), some (.bl false), none, none, none, none, none] = [some (PV.loc n), some (row sh), some (.tup (lk.map row)), some (.tup (gn.map row)), some (.loc m), some (PV.tup [fr (gainL sh lk gn l), lotV l]), o6, o7, o8, none, none, none, none, none] ∧ st <+: s else True)) hP.g.f.isless (Gain.bq hO.sh hL k3 hbo) (Gain.bq hO.sh hL k3 hlo) (by decide)
      clear hle
      by_cases h1 : gainL sh lk gn b = gainL sh lk gn l
      · by_cases h2 : l.length < b.length
        · have e : stepW (gainL sh lk gn) (some b) l = some l := by rw [e2, if_pos (.inl ⟨h1, h2⟩)]
          simp only [h1, hlen, h2, decide_true, if_true, e]
          exact ⟨_, _, _, rfl, p'⟩
        · have h3 : ¬ gainL sh lk gn b < gainL sh lk gn l := by grind
          have e : stepW (gainL sh lk gn) (some b) l = some b := by rw [e2, if_neg (by rintro (h | h); exact h2 h.2; exact h3 h)]
          have h3' : ¬ gainL sh lk gn l < gainL sh lk gn l := by grind
          simp only [h1, hlen, h2, decide_true, decide_false, if_true, Bool.false_eq_true, if_false, e]
          refine sp_lless hP.g.f.isless (Gain.bq hO.sh hL k3 hlo) (Gain.bq hO.sh hL k3 hlo) (by decide) ?_
          simp only [h3', decide_false, tr_bl, Option.some.injEq, exists_eq_left', Bool.false_eq_true, if_false]
          rw [← h1]
          exact ⟨_, _, _, rfl, p'⟩
      · simp only [h1, decide_false, Bool.false_eq_true, if_false, ev, List.length_cons, List.length_nil, Nat.reduceAdd, Nat.reduceLT, LIM, Nat.reduceLeDiff, true_and, Option.some.injEq, exists_eq_left']
        refine sp_lless hP.g.f.isless (Gain.bq hO.sh hL k3 hbo) (Gain.bq hO.sh hL k3 hlo) (by decide) ?_
        by_cases h3 : gainL sh lk gn b < gainL sh lk gn l
        · have e : stepW (gainL sh lk gn) (some b) l = some l := by rw [e2, if_pos (.inr h3)]
          simp only [h3, decide_true, if_true, e, tr_bl, Option.some.injEq, exists_eq_left', true_and]
          exact ⟨_, _, _, rfl, p'⟩
        · have e : stepW (gainL sh lk gn) (some b) l = some b := by rw [e2, if_neg (by rintro (h | h); exact h1 h.1; exact h3 h)]
          simp only [h3, decide_false, if_false, Bool.false_eq_true, e, tr_bl, Option.some.injEq, exists_eq_left', true_and]
          exact ⟨_, _, _, rfl, p'⟩
  · rintro env s ⟨o6, o7, o8, rfl, p⟩
    refine ⟨gs_one (getL_mono p hm), ?_⟩
    rw [eW]
    simp only [bestV, ev, evs, List.length_cons, List.length_nil, Nat.reduceAdd, Nat.reduceLT, LIM, Nat.reduceLeDiff, true_and, Nat.reduceSub, Option.some.injEq, exists_eq_left', perm3, perm4]
    refine sp_best_lot hP hO hw eP fun s1 p1 => ?_
    try simp only [ev, evs, List.length_cons, List.length_nil, Nat.reduceAdd, Nat.reduceLT, LIM, Nat.reduceLeDiff, true_and, Nat.reduceSub, Option.some.injEq, exists_eq_left', perm3, perm4]
    refine sp_best_lot hP hO hw eP fun s2 p2 => ?_
    try simp only [ev, evs, List.length_cons, List.length_nil, Nat.reduceAdd, Nat.reduceLT, LIM, Nat.reduceLeDiff, true_and, Nat.reduceSub, Option.some.injEq, exists_eq_left', perm3, perm4]
    have cb : cls 2 (.tup [fr (gainL sh lk gn m0), lotV m0]) = true := cls_pair (cls_fr _) (cls_ints m0 (by omega))
    refine sp_same hP.g.f 3 _ _ _ (cls_pair cb cb) ?_
    simp only [ev, evs, List.length_cons, List.length_nil, Nat.reduceAdd, Nat.reduceLT, LIM, Nat.reduceLeDiff, true_and, Nat.reduceSub, Option.some.injEq, exists_eq_left', Bool.not_true, Bool.false_eq_true, if_false, ix2_1]
    have p02 := p.trans (p1.trans p2)
    have d2 : Dr n st s2 := Dr.pre hp p02
    have d3 := d2.snoc (.lst [lotV m0])
    have hm3 : getL (s2 ++ [MO.lst [lotV m0]]) m = some ((ascL A).map lotV) := d3.getL' hnm hm
    refine sp_shuffled hP.d d3.pool hm3 (by omega) fun q r s3 d4 hq hr hrl hrm => ?_
    have d5 := d3.trans d4
    have nlt := hp.lt
    have stl := d2.len
    have hqlen : s2.length < q := by have := hq; rw [List.length_append] at this; simp only [List.length_cons, List.length_nil] at this; omega
    have hm5 : getL s3 m = some ((ascL A).map lotV) := d5.getL' hnm hm
    have h2 : getM s3 s2.length = some [lotV m0] := d4.getM' (by omega) (getM_last ..)
    try simp only [ev, evs, List.length_cons, List.length_nil, Nat.reduceAdd, Nat.reduceLT, LIM, Nat.reduceLeDiff, true_and, Nat.reduceSub, Option.some.injEq, exists_eq_left']
    have esl : ∀ Q : PV → Sto → Prop, Q (.loc s3.length) (s3 ++ [MO.lst ((r.take 3).map lotV)]) → wp (slV (.loc q) none (some 3) s3) Q := fun Q hQ => by
      show wp (match getL s3 q with | some xs => newL (cut xs none (some 3)) s3 | none => none) Q
      rw [getL_of_M hr]
      have e := cut3 (r.map lotV)
      rw [← List.map_take] at e
      simp only [e, wp_newL]
      refine ⟨?_, hQ⟩
      rw [List.length_map, List.length_take]
      show _ ≤ 16777216
      omega
    refine esl _ ?_
    have h2' := getM_mono (pre_snoc s3 (MO.lst ((r.take 3).map lotV))) h2
    simp only [ev, evs, h2', getM_last, List.length_append, List.length_map, List.length_take, List.length_cons, List.length_nil, Nat.reduceAdd, Nat.reduceLT, LIM, Nat.reduceLeDiff, true_and, Nat.reduceSub, Option.some.injEq, exists_eq_left']
    refine ⟨by omega, ?_⟩
    have eL : [lotV m0] ++ (r.take 3).map lotV = (m0 :: r.take 3).map lotV := rfl
    rw [eL]
    generalize hs4 : s3 ++ [MO.lst ((r.take 3).map lotV)] = s4
    have d6 : Dr n st s4 := by rw [← hs4]; exact d5.snoc _
    have d7 := d6.snoc (.lst ((m0 :: r.take 3).map lotV))
    have e4 : s3.length + 1 = s4.length := by rw [← hs4, List.length_append]; rfl
    rw [e4]
    have hl7 := getL_last s4 ((m0 :: r.take 3).map lotV)
    have hs4n : s4.length ≠ n := by have := d6.len; omega
    generalize s4 ++ [MO.lst ((m0 :: r.take 3).map lotV)] = s5 at d7 hl7
    simp only [wk_loc hl7, Option.some.injEq, exists_eq_left']
    have hm7 : getL s5 m = some ((ascL A).map lotV) := d7.getL' hnm hm
    refine wp_forM (m0 :: r.take 3) lotV (fun i env s => ∃ o6 o7 o8 o9 o10 o11 o12 o13, env = [some (.loc n), some (row sh), some (.tup (lk.map row)), some (.tup (gn.map row)), some (.loc m), o6, o7, o8, o9, o10, o11, none, o12, o13] ∧ s5 <+: s) rfl ⟨_, _, _, _, _, _, _, _, rfl, pre_refl _⟩ ?_ ?_
    · rintro i l env s hi ⟨o6, o7, o8, o9, o10, o11, o12, o13, rfl, p5⟩
      refine ⟨gs_one (getL_mono p5 hl7), ?_⟩
      have hla : l ∈ ascL A := by
        rcases List.mem_cons.mp (List.mem_of_getElem? hi) with rfl | hx
        · exact hm0
        · exact hrm _ (List.mem_of_mem_take hx)
      have hlo := asc_lot ok hla
      simp only [ev, evs, List.length_cons, List.length_nil, Nat.reduceAdd, Nat.reduceLT, LIM, Nat.reduceLeDiff, true_and, Nat.reduceSub, Option.some.injEq, exists_eq_left', perm4]
      refine sp_lgain hP.g.f hO.sh hL k3 hlo fun s6 p6 => ?_
      have hm6 := getL_mono (p5.trans p6) hm7
      simp only [ev, evs, List.length_cons, List.length_nil, Nat.reduceAdd, Nat.reduceLT, LIM, Nat.reduceLeDiff, true_and, Nat.reduceSub, Option.some.injEq, exists_eq_left', perm4, wk_loc hm6, List.set]
      refine wp_compFilter (ascL A) lotV (fun x => decide (gainL sh lk gn l < gainL sh lk gn x)) lotV rfl (fun s' p' => gs_one (getL_mono p' hm6)) (fun x hx acc s' p' => ?_) fun s7 p7 => ?_
      · have hxo := asc_lot ok hx
        simp only [ev, evs, List.length_cons, List.length_nil, Nat.reduceAdd, Nat.reduceLT, LIM, Nat.reduceLeDiff, true_and, Nat.reduceSub, Option.some.injEq, exists_eq_left']
        refine sp_lgain hP.g.f hO.sh hL k3 hxo fun s8 p8 => ?_
        refine sp_lless hP.g.f.isless (Gain.bq hO.sh hL k3 hlo) (Gain.bq hO.sh hL k3 hxo) (by decide) ?_
        by_cases hc : gainL sh lk gn l < gainL sh lk gn x
        · simp [hc, ev, evs, p8, getV_zero, getV_succ]
        · simp [hc, ev, evs, p8]
      · have hfl : ((ascL A).filter fun x => decide (gainL sh lk gn l < gainL sh lk gn x)).length ≤ 63 := Nat.le_trans (List.length_filter_le ..) al
        simp only [ev, evs, List.length_map]
        refine ⟨by omega, ?_⟩
        have hb := getL_last s7 (((ascL A).filter fun x => decide (gainL sh lk gn l < gainL sh lk gn x)).map lotV)
        have p9 : s5 <+: s7 ++ [MO.lst (((ascL A).filter fun x => decide (gainL sh lk gn l < gainL sh lk gn x)).map lotV)] := p5.trans (p6.trans (p7.trans (pre_snoc ..)))
        have hd : nobV (gainL sh lk gn) A l = (match ((ascL A).filter fun x => decide (gainL sh lk gn l < gainL sh lk gn x))[0]? with | some o => lotV o | none => .tup []) := by rw [head_filter]; rfl
        generalize hfd : (ascL A).filter (fun x => decide (gainL sh lk gn l < gainL sh lk gn x)) = fl at *
        generalize s7 ++ [MO.lst (fl.map lotV)] = s8 at hb p9
        simp only [ev, evs, List.length_cons, List.length_nil, Nat.reduceAdd, Nat.reduceLT, LIM, Nat.reduceLeDiff, true_and, Nat.reduceSub, Option.some.injEq, exists_eq_left', perm4, len_loc hb, List.length_map]
        have hcn : cls 1 (nobV (gainL sh lk gn) A l) = true := by
          rw [hd]
          cases e : fl[0]? with
          | none => exact cls_ints [] (by decide)
          | some o =>
            have : o ∈ ascL A := by rw [← hfd] at e; exact (List.mem_filter.mp (List.mem_of_getElem? e)).1
            exact cls_ints o (by have := (asc_lot ok this).len; omega)
        cases fl with
        | nil =>
          have hd' : nobV (gainL sh lk gn) A l = .tup [] := hd
          simp only [List.length_nil, Int.natCast_zero, Int.lt_irrefl, decide_false, Bool.false_eq_true, if_false, ev, evs, List.length_cons, Nat.reduceAdd, Nat.reduceLT, LIM, Nat.reduceLeDiff, true_and, Nat.zero_le, Option.some.injEq, exists_eq_left', perm4]
          refine sp_no_better hP hO hlo hw fun s9 p10 => ?_
          try simp only [ev, evs, List.length_cons, List.length_nil, Nat.reduceAdd, Nat.reduceLT, LIM, Nat.reduceLeDiff, true_and, Nat.reduceSub, Option.some.injEq, exists_eq_left']
          refine sp_no_better hP hO hlo hw fun s11 p11 => ?_
          try simp only [ev, evs, List.length_cons, List.length_nil, Nat.reduceAdd, Nat.reduceLT, LIM, Nat.reduceLeDiff, true_and, Nat.reduceSub, Option.some.injEq, exists_eq_left']
          rw [hd'] at hcn ⊢
          refine sp_same hP.g.f 2 _ _ _ (cls_pair hcn hcn) ?_
          simp only [tr_bl, Option.some.injEq, exists_eq_left', Bool.not_true, Bool.false_eq_true, if_false, ev]
          exact ⟨_, _, _, _, _, _, _, _, rfl, p9.trans (p10.trans p11)⟩
        | cons o r' =>
          have hd' : nobV (gainL sh lk gn) A l = lotV o := hd
          have hpos : (0 : Int) < ((r'.length + 1 : Nat) : Int) := by omega
          have h0 : ((o :: r').map lotV)[0]? = some (lotV o) := rfl
          have hix : ixV s8 (.loc s7.length) (.int 0) = some (lotV o) := ix_loc (i := 0) hb h0
          simp only [hpos, decide_true, if_true, ev, evs, hix, List.length_cons, List.length_nil, Nat.reduceAdd, Nat.reduceLT, LIM, Nat.reduceLeDiff, true_and, Nat.zero_le, Option.some.injEq, exists_eq_left', perm4]
          refine sp_no_better hP hO hlo hw fun s9 p10 => ?_
          try simp only [ev, evs, List.length_cons, List.length_nil, Nat.reduceAdd, Nat.reduceLT, LIM, Nat.reduceLeDiff, true_and, Nat.reduceSub, Option.some.injEq, exists_eq_left']
          refine sp_no_better hP hO hlo hw fun s11 p11 => ?_
          try simp only [ev, evs, List.length_cons, List.length_nil, Nat.reduceAdd, Nat.reduceLT, LIM, Nat.reduceLeDiff, true_and, Nat.reduceSub, Option.some.injEq, exists_eq_left']
          rw [hd'] at hcn ⊢
          refine sp_same hP.g.f 2 _ _ _ (cls_pair hcn hcn) ?_
          simp only [tr_bl, Option.some.injEq, exists_eq_left', Bool.not_true, Bool.false_eq_true, if_false, ev]
          exact ⟨_, _, _, _, _, _, _, _, rfl, p9.trans (p10.trans p11)⟩
    · rintro env s ⟨o6, o7, o8, o9, o10, o11, o12, o13, rfl, p5⟩
      refine ⟨gs_one (getL_mono p5 hl7), ?_⟩
      simp only [ev]
      exact h _ (d7.trans (Dr.pre d7.pool p5))
theorem bits_bd {z : Int} (h : Builtin.Int.intBits z ≤ 1048576) : bd 1048577 z := by
  unfold Builtin.Int.intBits at h
  unfold bd
  by_cases e : z = 0
  · subst e
    exact Nat.pow_pos (by decide)
  · have : (z == 0) = false := by simpa using e
    rw [this] at h
    simp only [Bool.false_eq_true, if_false] at h
    have h1 : z.natAbs ≠ 0 := by omega
    have h2 := (Nat.log2_lt (n := z.natAbs) (k := 1048577) h1).mp (by omega)
    exact h2
theorem sp_law (hP : HasH P) {ns : List Int} (hn : ns.length ≤ 63) (hb : ∀ z ∈ ns, bd 1048577 z) (hw : 2 ^ 100 ≤ w) : wp (callF P G w (k + 9) "law" [.loc 0] [.fl (ns.map .int)]) fun v _ => v = .bl true := by
  refine wp_callF hP.law rfl ?_
  unfold B_law
  simp only [ev, evs, List.map, List.replicate, List.append_nil, List.cons_append, List.nil_append, List.length_cons, List.length_nil, Nat.reduceAdd, Nat.reduceLT, LIM, Nat.reduceLeDiff, true_and, Nat.reduceSub, Nat.zero_le, Option.some.injEq, exists_eq_left']
  refine wp_callF hP.pool rfl ?_
  unfold B__law_pool
  have h0 : getL [MO.fl (ns.map PV.int)] 0 = some (ns.map PV.int) := rfl
  simp only [ev, evs, list_loc h0, List.map, List.replicate, List.append_nil, List.cons_append, List.nil_append, List.length_cons, List.length_nil, Nat.reduceAdd, Nat.reduceLT, LIM, Nat.reduceLeDiff, true_and, Nat.reduceSub, Nat.zero_le, Option.some.injEq, exists_eq_left', List.length_map]
  refine ⟨by omega, ?_⟩
  have e3 : wkR [.int 3] = some ⟨(List.range 3).map fun i => PV.int (i : Nat), []⟩ := wkR_nat (n := 3) (by decide)
  simp only [e3, Option.some.injEq, exists_eq_left']
  generalize hs0 : [MO.fl (ns.map PV.int), MO.lst (ns.map PV.int), MO.lst [PV.loc 1, PV.int 0, PV.int 0, PV.int 0, PV.int 0]] = s0
  have hp0 : Pool s0 2 := by
    rw [← hs0]
    exact ⟨1, ns, 0, 0, 0, 0, rfl, rfl, by decide, by decide, hn, hb, by decide, bd_zero _⟩
  have hs0l : s0.length = 3 := by rw [← hs0]; rfl
  refine wp_forM (List.range 3) (fun i => PV.int (i : Nat)) (fun i env s => ∃ o2 o3 o4 o5 o6 o7, env = [some (.loc 0), some (.loc 2), o2, o3, o4, o5, o6, o7] ∧ Dr 2 s0 s) rfl ⟨none, none, none, none, none, none, rfl, Dr.refl hp0⟩ ?_ ?_
  · rintro i a env s hi ⟨o2, o3, o4, o5, o6, o7, rfl, ds⟩
    refine ⟨rfl, ?_⟩
    simp only [ev, evs, List.length_cons, List.length_nil, Nat.reduceAdd, Nat.reduceLT, LIM, Nat.reduceLeDiff, true_and, Nat.reduceSub, Option.some.injEq, exists_eq_left']
    refine sp_letting hP.d ds.pool fun K A sh lk gn s1 hO d1 => ?_
    have ok := lots_ok A hO.a1 hO.a6
    have al := ok.len
    have k1 := hO.k1
    have k3 := hO.k3
    have a6 := hO.a6
    have hg0 := List.getElem?_eq_getElem (show 0 < lk.length by rw [hO.lkl]; omega)
    have hG0 := hO.lk _ (List.mem_of_getElem? hg0)
    generalize lk[0]'(by rw [hO.lkl]; omega) = u0 at hg0 hG0
    have ds1 := ds.trans d1
    simp only [ev, evs, List.length_cons, List.length_nil, Nat.reduceAdd, Nat.reduceLT, LIM, Nat.reduceLeDiff, true_and, Nat.reduceSub, Option.some.injEq, exists_eq_left', ix_rows0 hg0, len_row, hG0.len]
    refine sp_llots hP.g hO.a1 hO.a6 fun m s2 p2 hlm hm => ?_
    have d2 := Dr.pre ds1.pool p2
    have ds2 := ds1.trans d2
    have l1 := ds1.len
    have hm2 : m ≠ 2 := by omega
    have hne : 0 < (ascL A).length := by
      have := ok.all
      cases e : ascL A with
      | nil => rw [e] at this; cases this
      | cons _ _ => simp
    have hl0 := List.getElem?_eq_getElem hne
    have hl0m := List.mem_of_getElem? hl0
    generalize (ascL A)[0]'hne = l0 at hl0 hl0m
    have hix : ixV s2 (.loc m) (.int 0) = some (lotV l0) := ix_loc (i := 0) hm (by rw [List.getElem?_map, hl0]; rfl)
    have hr2 : wkR2 [.int (A : Int)] = some ((List.range A).map fun i : Nat => PV.int i) := by
      show (if sm (A : Int) && decide ((A : Int) ≤ 16777216) then some (rangeL 0 1 (A : Int).toNat) else none) = _
      have h1 : sm (A : Int) = true := by unfold sm; rw [decide_eq_true_eq]; omega
      rw [h1, if_pos (by simp; omega), Int.toNat_natCast, range0]
    simp only [ev, evs, List.length_cons, List.length_nil, Nat.reduceAdd, Nat.reduceLT, LIM, Nat.reduceLeDiff, true_and, Nat.reduceSub, Option.some.injEq, exists_eq_left', ix_rows0 hg0, len_row, hG0.len, hix, hr2, if_true, List.length_map, List.length_range]
    refine ⟨by omega, ?_⟩
    have d3 := d2.snoc (.lst [lotV l0, .tup ((List.range A).map fun i : Nat => PV.int i)])
    have hm3 := getL_mono (pre_snoc s2 (MO.lst [lotV l0, .tup ((List.range A).map fun i : Nat => PV.int i)])) hm
    refine sp_shuffled hP.d d3.pool hm3 (by omega) fun q r s3 d4 hq hr hrl hrm => ?_
    have l2 := ds2.len
    have l2' := p2.length_le
    have hqlen : s2.length < q := by have := hq; rw [List.length_append] at this; simp only [List.length_cons, List.length_nil] at this; omega
    have hm4 : getL s3 m = some ((ascL A).map lotV) := d4.getL' hm2 hm3
    have h2 : getM s3 s2.length = some [lotV l0, .tup ((List.range A).map fun i : Nat => PV.int i)] := d4.getM' (by omega) (getM_last ..)
    have d5 : Dr 2 s0 s3 := (ds1.trans d3).trans d4
    try simp only [ev, evs, List.length_cons, List.length_nil, Nat.reduceAdd, Nat.reduceLT, LIM, Nat.reduceLeDiff, true_and, Nat.reduceSub, Option.some.injEq, exists_eq_left']
    have esl : ∀ Q : PV → Sto → Prop, Q (.loc s3.length) (s3 ++ [MO.lst ((r.take 3).map lotV)]) → wp (slV (.loc q) none (some 3) s3) Q := fun Q hQ => by
      show wp (match getL s3 q with | some xs => newL (cut xs none (some 3)) s3 | none => none) Q
      rw [getL_of_M hr]
      have e := cut3 (r.map lotV)
      rw [← List.map_take] at e
      simp only [e, wp_newL]
      refine ⟨?_, hQ⟩
      rw [List.length_map, List.length_take]
      show _ ≤ 16777216
      omega
    refine esl _ ?_
    have h2' := getM_mono (pre_snoc s3 (MO.lst ((r.take 3).map lotV))) h2
    simp only [ev, evs, h2', getM_last, List.length_append, List.length_map, List.length_take, List.length_cons, List.length_nil, Nat.reduceAdd, Nat.reduceLT, LIM, Nat.reduceLeDiff, true_and, Nat.reduceSub, Option.some.injEq, exists_eq_left']
    refine ⟨by omega, ?_⟩
    have eL : [lotV l0, .tup ((List.range A).map fun i : Nat => PV.int i)] ++ (r.take 3).map lotV = (l0 :: List.range A :: r.take 3).map lotV := rfl
    rw [eL]
    generalize hs4 : s3 ++ [MO.lst ((r.take 3).map lotV)] = s4
    have d6 : Dr 2 s0 s4 := by rw [← hs4]; exact d5.snoc _
    have hm6 : getL s4 m = some ((ascL A).map lotV) := by rw [← hs4]; exact getL_mono (pre_snoc ..) hm4
    have d7 := d6.snoc (.lst ((l0 :: List.range A :: r.take 3).map lotV))
    have hm7 := getL_mono (pre_snoc s4 (MO.lst ((l0 :: List.range A :: r.take 3).map lotV))) hm6
    have e4 : s3.length + 1 = s4.length := by rw [← hs4, List.length_append]; rfl
    rw [e4]
    have hl7 := getL_last s4 ((l0 :: List.range A :: r.take 3).map lotV)
    generalize s4 ++ [MO.lst ((l0 :: List.range A :: r.take 3).map lotV)] = s5 at d7 hl7 hm7
    simp only [wk_loc hl7, Option.some.injEq, exists_eq_left']
    refine wp_forM (l0 :: List.range A :: r.take 3) lotV (fun i env s => ∃ o2 o7, env = [some (.loc 0), some (.loc 2), o2, some (row sh), some (.tup (lk.map row)), some (.tup (gn.map row)), some (.loc m), o7] ∧ s5 <+: s) rfl ⟨_, _, rfl, pre_refl _⟩ ?_ ?_
    · rintro i l env s hi ⟨o2, o7, rfl, p5⟩
      refine ⟨gs_one (getL_mono p5 hl7), ?_⟩
      have hla : l ∈ ascL A := by
        rcases List.mem_cons.mp (List.mem_of_getElem? hi) with rfl | hx
        · exact hl0m
        · rcases List.mem_cons.mp hx with rfl | hx
          · exact ok.all
          · exact hrm _ (List.mem_of_mem_take hx)
      simp only [ev, evs, List.length_cons, List.length_nil, Nat.reduceAdd, Nat.reduceLT, LIM, Nat.reduceLeDiff, true_and, Nat.reduceSub, Option.some.injEq, exists_eq_left']
      refine sp_is_done hP hO (asc_lot ok hla) hw fun s6 p6 => ?_
      simp only [ev, Option.some.injEq, exists_eq_left', Bool.not_true, Bool.false_eq_true, if_false]
      exact ⟨_, _, rfl, p5.trans p6⟩
    · rintro env s ⟨o2, o7, rfl, p5⟩
      refine ⟨gs_one (getL_mono p5 hl7), ?_⟩
      have d8 := d7.trans (Dr.pre d7.pool p5)
      simp only [ev, evs, List.length_cons, List.length_nil, Nat.reduceAdd, Nat.reduceLT, LIM, Nat.reduceLeDiff, true_and, Nat.reduceSub, Option.some.injEq, exists_eq_left']
      refine sp_is_best hP hO d8.pool (getL_mono p5 hm7) hm2 hw fun s6 d9 => ?_
      simp only [ev, Option.some.injEq, exists_eq_left', Bool.not_true, Bool.false_eq_true, if_false]
      exact ⟨_, _, _, _, _, _, rfl, d8.trans d9⟩
  · rintro env s ⟨o2, o3, o4, o5, o6, o7, rfl, ds⟩
    refine ⟨rfl, ?_⟩
    simp only [ev]
end
end Lib
end Mp
set_option Elab.async false
set_option linter.all false
set_option maxRecDepth 100000
set_option maxHeartbeats 0
namespace Mp
namespace Lib
open PySem
theorem has85 : HasH (Mp.Pof G85.dfs) where
  g := { f := by constructor <;> rfl, lots := rfl, llots := rfl, best := rfl, nob := rfl }
  d := by constructor <;> rfl
  pool := rfl
  isdone := rfl
  isbest := rfl
  law := rfl
theorem law85 (ns : List Int) (hn : ns.length ≤ 63) (hb : ∀ z ∈ ns, Builtin.Int.intBits z ≤ 1048576) : ∃ st', Mp.callF (Mp.Pof G85.dfs) (Mp.topsOf G85.dfs G85.cons).con (2 ^ 100) 20 "law" [.loc 0] [.fl (ns.map .int)] = some (.bl true, st') := by
  obtain ⟨v, s, e, q⟩ := sp_law (G := (Mp.topsOf G85.dfs G85.cons).con) (w := 2 ^ 100) (k := 11) has85 hn (fun z hz => bits_bd (hb z hz)) (Nat.le_refl _)
  subst q
  exact ⟨s, e⟩
end Lib
end Mp
open PySem PySem.W PySem.Calls PyProof.Rows
theorem PySem.Challenge.cw_gladlydone_k85_letting_holds : PySem.Challenge.rw_gladlydone_k85_letting.Holds := by
  w_on; o_law
  refine HandSHeadRun.head_any (r := OpenLaw.row PySem.Challenge.rw_gladlydone_k85_letting) (q := view (OpenLaw.row PySem.Challenge.rw_gladlydone_k85_letting).prog [G85.lawAt]) (H := H85.hk) (ob := H85.ob) (M := 2000) (loose := G85.names) (d := HandSHeadRun.topDef (OpenLaw.row PySem.Challenge.rw_gladlydone_k85_letting).prog G85.lawAt) (kwd := []) H85.ob_eq
    (by kernel_rfl) (fun s => by kernel_rfl) H85.run (by kernel_rfl) (by kernel_rfl) (by kernel_rfl) (by rfl) (by first | assumption | decide +kernel) (by decide +kernel) ⟨rfl, rfl, rfl, rfl, rfl, by decide +kernel⟩ ?hw ?hc
  case hw => w_witness2
  case hc =>
    refine LamX.walk_ofTsE (l := PySem.Challenge.rw_gladlydone_k85_letting) (n := 63) (k := 7 * 20) (x := "script") (CX := fun _ => L2.CX0) rfl (by decide) (by kernel_rfl) ⟨rfl, by decide, by decide⟩ ?F (fun _ _ _ _ _ z => z)
    intro w mg fa h Y G hmg0
    have hmg : mg ("law" : PySem.Str) = some (.ref fa) := by
      have e : (HandSHeadRun.topDef (OpenLaw.row PySem.Challenge.rw_gladlydone_k85_letting).prog G85.lawAt).name = ("law" : PySem.Str) := by kernel_rfl
      rw [← e]
      exact hmg0
    exact Mp.law_at (k := 19) (wn := 2 ^ 100) Mp.sorted_ok Mp.sortk_ok H85.chk Y G hmg (fun _ _ _ x pv e => by cases e) (by kernel_rfl) Mp.Lib.law85
