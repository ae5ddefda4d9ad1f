import PyProof.Rows.All
import Wide.All
import OpenK.AllK
import Wide.FinOn
import HandS.ForMost
import HandS.ForExc
import HandS.Flow
import HandS.CallSlots
import HandS.IsInst
import HandS.Wide
import HandS.WideBits
import HandS.Defaults
import HandS.Conv
import HandS.Style
import HandS.StrMore
import HandS.StrSplit
import HandS.Strs
import HandS.Iter
import HandS.More
import HandS.ExcInit
import HandS.ExcField
import HandS.TryElse
import HandS.HeadHook3
import HandS.HeadEnd
import HandS.Head2
import HandS.HeadWalk
import KE.GoesEnumKw
import HandS.Codes
import HandS.EndTab
import HandS.Words
import PySem.Challenge.RW_elderline_k14_listed
import PyProof.P3Eq
import PyProof.StrLawsLines
import PyProof.Rows.StrSplitAre
set_option Elab.async false
set_option linter.all false
set_option maxRecDepth 100000
/-! Mi: a small interpreter over a store, to stand for the walks. -/
namespace Mi
open PySem PySem.Spec PyProof.Rows L2

/-- what stands in the store -/
inductive IO where
  | lst (xs : List V)
  | tup (xs : List V)
  | fro (xs : List V)
  | dK (kvs : List (Key × V))
  | dT (kvs : List (List Key × V))
  | ins (c : Str) (fs : List (Str × V))

abbrev Store := List IO
abbrev Ev := List (Option V)

/-- how a piece of syntax ends: values (an expression: one); a statement's next, its return; an exception (class, fields, slots); not told -/
inductive R where
  | val (vs : List V) (st : Store)
  | nxt (env : Ev) (st : Store)
  | ret (v : V) (st : Store)
  | exc (c : Str) (fs : List (Str × V)) (env : Ev) (st : Store)
  | stk

def R.b1 (r : R) (k : V → Store → R) : R := match r with
  | .val [v] st => k v st
  | .exc c fs env st => .exc c fs env st
  | _ => .stk
def R.bs (r : R) (k : List V → Store → R) : R := match r with
  | .val vs st => k vs st
  | .exc c fs env st => .exc c fs env st
  | _ => .stk
def R.bn (r : R) (k : Ev → Store → R) : R := match r with
  | .nxt env st => k env st
  | .ret v st => .ret v st
  | .exc c fs env st => .exc c fs env st
  | _ => .stk

/-- what a for walks -/
inductive Ik where
  | seq | rng1 | rng2 | rngd | enum1 | lstk | tupk | strk | nok
  deriving DecidableEq
/-- a target -/
inductive Tg where
  | n (i : Nat)
  | t (is : List Nat)
  deriving DecidableEq
/-- built-in functions and types that are called -/
inductive Bi where
  | len | list | any | all | str | int | abs | sum | tuple | reversed
  deriving DecidableEq

/-- types that isinstance asks for; what a value is of -/
inductive Ty where
  | int | str | bool | list | tuple | dict | none
  deriving DecidableEq

/-- methods of built-in types -/
inductive Mt where
  | lAppend | lClear | lPop | lExtend | lIndex | dGet | dPop | sJoin | sLines | sZfill
  deriving DecidableEq

inductive T where
  | nev
  | var (i : Nat)
  | cst (v : V)
  | glo (x : Str)
  | bin (op : Operator) (a b : T)
  | neg (a : T)
  | not (a : T)
  | and (a b : T)
  | or (a b : T)
  | cmp (op : CmpOp) (a b : T)
  | cmp2 (op op' : CmpOp) (a b c : T)
  | ife (c a b : T)
  | nil
  | cons (a as : T)
  | som (a : T)
  | tup (as : T)
  | lst (as : T)
  | dic0
  | call (f : Str) (as : T)
  | bif (f : Bi) (as : T)
  | isi (a : T) (t : Ty)
  | meth (m : Str) (o as : T)
  | bm (m : Mt) (o as : T)
  | mk (c : Str) (as : T)
  | cm (c m : Str) (as : T)
  | lset (a : T)
  | rsl (a : T)
  | fld (o : T) (f : Str)
  | idx (a i : T)
  | slc (a lo hi : T)
  | lc (own : List Nat) (tg : Tg) (k : Ik) (a ifs e : T)
  -- statements
  | don
  | seq (a b : T)
  | asgN (i : Nat) (e : T)
  | asgT (is : List Nat) (e : T)
  | asgF (o : T) (f : Str) (e : T)
  | asgI (o i e : T)
  | aug (i : Nat) (op : Operator) (e : T)
  | augF (o : T) (f : Str) (e : T)
  | drop (e : T)
  | ret (e : T)
  | retN
  | ifs (c a b : T)
  | for (tg : Tg) (k : Ik) (a b : T)
  | whl (c b : T)
  | rai (c : Str) (as : T)

/-! ### operations on values -/
def sz : Nat := 16777216
def one (v : V) (st : Store) : R := .val [v] st
def new (o : IO) (st : Store) : R := .val [.ref st.length] (st ++ [o])

def mulOk (i j : Int) : Bool := decide (i.natAbs < 2 ^ 64) || decide (j.natAbs < 2 ^ 64) || decide ((Builtin.Int.intBits i : Int) + (Builtin.Int.intBits j : Int) ≤ 134217728)
def smallI (i : Int) : Bool := decide (i.natAbs < 2 ^ 64)

def binD (op : Operator) (x y : V) (st : Store) : R := match op, x, y with
  | .Add, .int i, .int j => one (.int (i + j)) st
  | .Add, .str a, .str b => if a.length + b.length ≤ sz then one (.str (a ++ b)) st else .stk
  | .Add, .ref p, .ref q => match st[p]?, st[q]? with
    | some (.lst xs), some (.lst ys) => if xs.length + ys.length ≤ sz then new (.lst (xs ++ ys)) st else .stk
    | _, _ => .stk
  | .Sub, .int i, .int j => one (.int (i - j)) st
  | .Mult, .int i, .int j => if mulOk i j then one (.int (i * j)) st else .stk
  | .FloorDiv, .int i, .int j => if j ≠ 0 ∧ j.natAbs < 1073741824 then one (.int (i.fdiv j)) st else if 0 < j ∧ j.natAbs.log2 < 9000 then one (.int (i / j)) st else if j ≠ 0 ∧ j.natAbs.log2 < 9000 then one (.int (i.fdiv j)) st else .stk
  | .Mod, .int i, .int j => if j ≠ 0 then one (.int (i.fmod j)) st else .stk
  | .Pow, .int i, .int j => if 0 ≤ j ∧ j ≤ 1000000 ∧ i.natAbs < 2 ^ 64 then one (.int (i ^ j.toNat)) st else .stk
  | .BitAnd, .int i, .int j => one (.int (Builtin.bitAnd i j)) st
  | .BitOr, .int i, .int j => one (.int (Builtin.bitOr i j)) st
  | .BitXor, .int i, .int j => one (.int (Builtin.bitXor i j)) st
  | .LShift, .int i, .int j => if 0 ≤ j ∧ (Builtin.Int.intBits i : Int) + j ≤ 2 ^ 27 then one (.int (i * 2 ^ j.toNat)) st else .stk
  | .Mult, .str x, .int n => if -(2 ^ 63) ≤ n ∧ n ≤ 1048576 ∧ x.length ≤ 16 then one (.str (Txt.mul x n)) st else .stk
  | .RShift, .int i, .int j => if 0 ≤ j then one (.int (i / 2 ^ j.toNat)) st else .stk
  | .Mult, .ref p, .int k => match st[p]? with
    | some (.lst xs) => if -(2 ^ 63) ≤ k ∧ k < 2 ^ 63 ∧ xs.length * k.toNat ≤ sz then new (.lst (List.replicate k.toNat xs).flatten) st else .stk
    | _ => .stk
  | _, _, _ => .stk

def truth (v : V) (st : Store) : Option Bool := match v with
  | .non => some false
  | .bl b => some b
  | .int i => some (i != 0)
  | .str y => if y.length ≤ sz then some ((y.length : Int) != 0) else none
  | .ref p => match st[p]? with
    | some (.lst xs) => some (!xs.isEmpty)
    | some (.fro xs) => some (!xs.isEmpty)
    | some (.tup xs) => some (!xs.isEmpty)
    | some (.dK kvs) => some (!kvs.isEmpty)
    | _ => none
  | _ => none

/-- a value as data, lists and tuples to the depth n -/
def toD : Nat → Store → V → Option PyData
  | _, _, .non => some .none
  | _, _, .bl b => some (.bool b)
  | _, _, .int i => some (.int i)
  | _, _, .str s => some (.str s)
  | n + 1, st, .ref p => match st[p]? with
    | some (.lst xs) => (xs.mapM (toD n st)).map .list
    | some (.fro xs) => (xs.mapM (toD n st)).map .list
    | some (.tup xs) => (xs.mapM (toD n st)).map .tuple
    | _ => none
  | _, _, _ => none

def items (st : Store) (v : V) : Option (List V) := match v with
  | .ref p => match st[p]? with
    | some (.lst xs) => some xs
    | some (.fro xs) => some xs
    | some (.tup xs) => some xs
    | _ => none
  | _ => none

def eqD (x y : V) (st : Store) : Option Bool :=
  if scal x y then some (decide (x = y)) else match toD 60 st x, toD 60 st y with
    | some d, some e => if SeqAt.shaped d && SeqAt.shaped e then some (PyData.eqv d e) else none
    | _, _ => none

def inD (x y : V) (st : Store) : Option Bool := match y with
  | .str b => match x with
    | .str a => some (!(Builtin.Str.occurrences b a 0 b.length 1).isEmpty)
    | _ => none
  | _ => match items st y with
    | some xs => if flatV x && xs.all flatV then some (inV x xs) else none
    | none => match y with
      | .ref p => match st[p]? with
        | some (.dK kvs) => match x with
          | .str a => some (valV kvs (Sum.inr a : Key)).isSome
          | .int a => some (valV kvs (Sum.inl a : Key)).isSome
          | _ => none
        | _ => none
      | _ => none

def ofB (o : Option Bool) (st : Store) : R := match o with
  | some b => one (.bl b) st
  | none => .stk

def cmpD (op : CmpOp) (x y : V) (st : Store) : R := match op with
  | .Eq => ofB (eqD x y st) st
  | .NotEq => ofB ((eqD x y st).map (!·)) st
  | .In => ofB (inD x y st) st
  | .NotIn => ofB ((inD x y st).map (!·)) st
  | .Lt => match x, y with
    | .int i, .int j => one (.bl (decide (i < j))) st
    | _, _ => .stk
  | .LtE => match x, y with
    | .int i, .int j => one (.bl (decide (i ≤ j))) st
    | _, _ => .stk
  | .Gt => match x, y with
    | .int i, .int j => one (.bl (decide (j < i))) st
    | _, _ => .stk
  | .GtE => match x, y with
    | .int i, .int j => one (.bl (decide (j ≤ i))) st
    | _, _ => .stk
  | .Is => match y with
    | .non => one (.bl (decide (x = .non))) st
    | _ => .stk
  | .IsNot => match y with
    | .non => one (.bl (!decide (x = .non))) st
    | _ => .stk

def idxD (x y : V) (st : Store) : R := match y with
  | .int i => match x with
    | .str s => if s.length ≤ sz then match atI s.cps.toList i with
      | some c => one (.str ⟨#[c]⟩) st
      | none => .stk
      else .stk
    | _ => match items st x with
      | some xs => match atI xs i with
        | some v => one v st
        | none => .stk
      | none => .stk
  | .str a => match x with
    | .ref p => match st[p]? with
      | some (.dK kvs) => match valV kvs (Sum.inr a : Key) with
        | some v => one v st
        | none => .stk
      | _ => .stk
    | _ => .stk
  | _ => .stk

def part : List V → Option (Option Int)
  | [] => some none
  | [.int i] => some (some i)
  | _ => none

def slcD (x : V) (lo hi : Option Int) (st : Store) : R := match x with
  | .str s => if s.length ≤ sz then one (.str (cutS s lo hi)) st else .stk
  | .ref p => match st[p]? with
    | some (.lst xs) => new (.lst (cutV xs lo hi)) st
    | some (.fro xs) => new (.lst (cutV xs lo hi)) st
    | _ => .stk
  | _ => .stk

/-- isinstance of values that are no instances -/
def isTy (v : V) (st : Store) : Option Ty := match v with
  | .non => some .none
  | .bl _ => some .bool
  | .int _ => some .int
  | .str _ => some .str
  | .ref p => match st[p]? with
    | some (.lst _) => some .list
    | some (.tup _) => some .tuple
    | some (.dK _) => some .dict
    | _ => none
  | _ => none
def subTy : Ty → Ty → Bool
  | .bool, .int => true
  | t, c => decide (t = c)

def allB : List V → Option (List Bool)
  | [] => some []
  | .bl b :: r => (allB r).map (b :: ·)
  | _ => none
def allI : List V → Option (List Int)
  | [] => some []
  | .int b :: r => (allI r).map (b :: ·)
  | _ => none
def allS : List V → Option (List Str)
  | [] => some []
  | .str b :: r => (allS r).map (b :: ·)
  | _ => none

def bifD (f : Bi) (vs : List V) (st : Store) : R := match f, vs with
  | .len, [.str s] => if s.length ≤ sz then one (.int s.length) st else .stk
  | .len, [.ref p] => match st[p]? with
    | some (.lst xs) => one (.int xs.length) st
    | some (.fro xs) => one (.int xs.length) st
    | some (.tup xs) => one (.int xs.length) st
    | _ => .stk
  | .list, [.ref p] => match st[p]? with
    | some (.lst xs) => new (.lst xs) st
    | some (.fro xs) => new (.lst xs) st
    | some (.tup xs) => new (.lst xs) st
    | some (.dK kvs) => new (.lst (kvs.map fun kv => kV kv.1)) st
    | _ => .stk
  | .any, [.ref p] => match st[p]? with
    | some (.lst xs) => match allB xs with
      | some bs => one (.bl (bs.any id)) st
      | none => .stk
    | _ => .stk
  | .all, [.ref p] => match st[p]? with
    | some (.lst xs) => match allB xs with
      | some bs => one (.bl (bs.all id)) st
      | none => .stk
    | _ => .stk
  | .str, [.int i] => if i.natAbs.log2 < 1920 then one (.str (toString i)) st else .stk
  | .abs, [.int i] => one (.int (if i < 0 then -i else i)) st
  | _, _ => .stk

/-- the first place of a value -/
def idxOf (y : V) : List V → Nat → Option Nat
  | [], _ => none
  | z :: zs, j => if eqV z y then some j else idxOf y zs (j + 1)
def bmTy (m : Mt) (x : V) (st : Store) : Bool := match x with
  | .ref p => match m with
    | .lAppend | .lClear | .lPop | .lExtend => match st[p]? with
      | some (.lst _) => true
      | _ => false
    | .lIndex => match st[p]? with
      | some (.lst _) => true
      | some (.fro _) => true
      | _ => false
    | .dGet | .dPop => match st[p]? with
      | some (.dK _) => true
      | _ => false
    | _ => false
  | .str _ => match m with
    | .sJoin | .sLines | .sZfill => true
    | _ => false
  | _ => false
def keyOf? : V → Option Key
  | .str a => some (Sum.inr a)
  | .int a => some (Sum.inl a)
  | _ => none
def lstOf (st : Store) (v : V) : Option (List V) := match v with
  | .ref p => match st[p]? with
    | some (.lst xs) => some xs
    | _ => none
  | _ => none
def bmD (m : Mt) (x : V) (vs : List V) (st : Store) : R := match m, x, vs with
  | .lAppend, .ref p, [y] => match st[p]? with
    | some (.lst xs) => if xs.length < sz then one .non (st.set p (.lst (xs ++ [y]))) else .stk
    | _ => .stk
  | .lClear, .ref p, [] => match st[p]? with
    | some (.lst _) => one .non (st.set p (.lst []))
    | _ => .stk
  | .lPop, .ref p, [] => match st[p]? with
    | some (.lst xs) => match xs[xs.length - 1]? with
      | some y => one y (st.set p (.lst xs.dropLast))
      | none => .stk
    | _ => .stk
  | .lExtend, .ref p, [.ref q] => match st[p]?, st[q]? with
    | some (.lst xs), some (.lst ys) => if xs.length + ys.length ≤ sz then one .non (st.set p (.lst (xs ++ ys))) else .stk
    | _, _ => .stk
  | .lIndex, v, [y] => match lstOf st v with
    | some xs => if flatV y && xs.all flatV then (match idxOf y xs 0 with
      | some j => one (.int (j : Nat)) st
      | none => .stk) else .stk
    | none => .stk
  | .dGet, .ref p, [k] => match st[p]?, keyOf? k with
    | some (.dK kvs), some k => one ((valV kvs k).getD .non) st
    | _, _ => .stk
  | .dPop, .ref p, [k] => match st[p]?, keyOf? k with
    | some (.dK kvs), some k => match valV kvs k with
      | some v => one v (st.set p (.dK (dropK kvs k)))
      | none => .stk
    | _, _ => .stk
  | .sJoin, .str a, [v] => match lstOf st v with
    | some xs => match allS xs with
      | some ys => if (ys.map (·.length)).sum + ys.length * a.length ≤ sz then one (.str (Txt.join a ys)) st else .stk
      | none => .stk
    | none => .stk
  | .sLines, .str a, [] => if a.length + 2 ≤ sz ∧ (lineCuts a).length ≤ sz then new (.lst ((Txt.lines a).map V.str)) st else .stk
  | .sZfill, .str a, [.int i] => if PadOk i then one (.str (Txt.zfill a i)) st else .stk
  | _, _, _ => .stk

def setI (o i v : V) (st : Store) : Option Store := match o with
  | .ref p => match st[p]?, i with
    | some (.lst xs), .int k => match ixN xs.length k with
      | some j => some (st.set p (.lst (xs.set j v)))
      | none => none
    | some (.dK kvs), .str a => if kvs.length < sz then some (st.set p (.dK (putK kvs (Sum.inr a : Key) v))) else none
    | _, _ => none
  | _ => none

def setMany : List Nat → List V → Ev → Option Ev
  | [], [], env => some env
  | i :: is, v :: vs, env => if i < env.length then setMany is vs (env.set i (some v)) else none
  | _, _, _ => none
def setTg (tg : Tg) (v : V) (env : Ev) (st : Store) : Option Ev := match tg with
  | .n i => if i < env.length then some (env.set i (some v)) else none
  | .t is => match v with
    | .ref p => match st[p]? with
      | some (.tup xs) => setMany is xs env
      | _ => none
    | _ => none

/-! ### walks -/
/-- what is walked, by what it is when the walk begins -/
def rk (k : Ik) (vs : List V) (st : Store) : Ik := match k, vs with
  | .seq, [.ref p] => match st[p]? with
    | some (.lst _) => .lstk
    | some (.fro _) => .lstk
    | some (.tup _) => .tupk
    | _ => .nok
  | .seq, [.str _] => .strk
  | .seq, _ => .nok
  | .lstk, _ => .nok
  | .tupk, _ => .nok
  | .strk, _ => .nok
  | .nok, _ => .nok
  | .rng1, _ => .rng1
  | .rng2, _ => .rng2
  | .rngd, _ => .rngd
  | .enum1, _ => .enum1
def nth {α : Type} (xs : List α) (i : Nat) (f : α → V × Store) : Option (Option (V × Store)) := match xs[i]? with
  | some x => some (some (f x))
  | none => some none
def cur (k : Ik) (vs : List V) (i : Nat) (st : Store) : Option (Option (V × Store)) := match k, vs with
  | .lstk, [.ref p] => match st[p]? with
    | some (.lst xs) => nth xs i fun x => (x, st)
    | some (.fro xs) => nth xs i fun x => (x, st)
    | _ => none
  | .tupk, [.ref p] => match st[p]? with
    | some (.tup xs) => nth xs i fun x => (x, st)
    | _ => none
  | .strk, [.str s] => nth s.cps.toList i fun c => (.str ⟨#[c]⟩, st)
  | .rng1, [.int n] => if -(2 ^ 62) ≤ n ∧ n < 2 ^ 62 then (if i < n.toNat then some (some (.int i, st)) else some none) else none
  | .rng2, [.int a, .int b] => if -(2 ^ 62) ≤ a ∧ a < 2 ^ 62 ∧ -(2 ^ 62) ≤ b ∧ b < 2 ^ 62 then (if i < (b - a).toNat then some (some (.int (a + i), st)) else some none) else none
  | .rngd, [.int a, .int b, .int c] => if c = -1 ∧ -(2 ^ 62) ≤ a ∧ a < 2 ^ 62 ∧ -(2 ^ 62) ≤ b ∧ b < 2 ^ 62 then (if i < (a - b).toNat then some (some (.int (a + (i : Nat) * (-1)), st)) else some none) else none
  | .enum1, [.ref p] => match st[p]? with
    | some (.lst xs) => nth xs i fun x => (.ref st.length, st ++ [.tup [.int (1 + (i : Int)), x]])
    | _ => none
  | _, _ => none
def turns (k : Ik) (vs : List V) (st : Store) : Nat := match k, vs with
  | .rng1, [.int n] => n.toNat
  | .rng2, [.int a, .int b] => (b - a).toNat
  | .rngd, [.int a, .int b, _] => (a - b).toNat
  | _, [.str s] => s.length
  | _, [v] => match items st v with
    | some xs => xs.length
    | none => 0
  | _, _ => 0

def loopN (cu : Nat → Store → Option (Option (V × Store))) (bd : V → Ev → Store → R) : Nat → Nat → Ev → Store → R
  | 0, _, _, _ => .stk
  | m + 1, i, env, st => match cu i st with
    | none => .stk
    | some none => .nxt env st
    | some (some (x, st1)) => (bd x env st1).bn fun env2 st2 => loopN cu bd m (i + 1) env2 st2
def lcN (cu : Nat → Store → Option (Option (V × Store))) (bd : V → Store → R) (D : Nat) : Nat → Nat → Store → R
  | 0, _, _ => .stk
  | m + 1, i, st => match cu i st with
    | none => .stk
    | some none => one (.ref D) st
    | some (some (x, st1)) => match bd x st1 with
      | .val [] st2 => lcN cu bd D m (i + 1) st2
      | .val [y] st2 => match st2[D]? with
        | some (.lst acc) => if acc.length < sz then lcN cu bd D m (i + 1) (st2.set D (.lst (acc ++ [y]))) else .stk
        | _ => .stk
      | _ => .stk
def whlN (c : Ev → Store → R) (b : Ev → Store → R) : Nat → Ev → Store → R
  | 0, _, _ => .stk
  | m + 1, env, st => (c env st).b1 fun v st1 => match truth v st1 with
    | none => .stk
    | some false => .nxt env st1
    | some true => (b env st1).bn fun env2 st2 => whlN c b m env2 st2
def wBound : Nat := 1000000

/-! ### the program's table -/
structure Fn where
  ps : List Str
  N : List Str
  dfl : List V
  body : T
  top : Bool
structure Prog where
  fn : Str → Option Fn
  /-- a class's function, read off the class -/
  cm : Str → Str → Option Str
  /-- a class's method: the name of its def -/
  meth : Str → Str → Option Str
  glo : Str → Option V
  /-- classes that are called; their attributes that are read and stored -/
  made : Str → Bool
  fld : Str → Str → Bool
  /-- built-in classes that isinstance asks for -/
  ty : Str → Bool

def exE (r : R) (env : Ev) : R := match r with
  | .exc c fs _ st => .exc c fs env st
  | r => r

section
variable (Pg : Prog) (cf : Str → List V → Store → R)
def run : T → Ev → Store → R
  | .nev, _, _ => .stk
  | .var i, env, st => match env[i]? with
    | some (some v) => one v st
    | _ => .stk
  | .cst v, _, st => one v st
  | .glo x, _, st => match Pg.glo x with
    | some v => one v st
    | none => .stk
  | .bin op a b, env, st => (run a env st).b1 fun x st1 => (run b env st1).b1 fun y st2 => binD op x y st2
  | .neg a, env, st => (run a env st).b1 fun x st1 => match x with
    | .int i => one (.int (-i)) st1
    | _ => .stk
  | .not a, env, st => (run a env st).b1 fun x st1 => ofB ((truth x st1).map (!·)) st1
  | .and a b, env, st => (run a env st).b1 fun x st1 => match truth x st1 with
    | none => .stk
    | some true => run b env st1
    | some false => one x st1
  | .or a b, env, st => (run a env st).b1 fun x st1 => match truth x st1 with
    | none => .stk
    | some true => one x st1
    | some false => run b env st1
  | .cmp op a b, env, st => (run a env st).b1 fun x st1 => (run b env st1).b1 fun y st2 => cmpD op x y st2
  | .cmp2 op op' a b c, env, st => (run a env st).b1 fun x st1 => (run b env st1).b1 fun y st2 => (cmpD op x y st2).b1 fun z st3 => match z with
    | .bl true => (run c env st3).b1 fun w st4 => cmpD op' y w st4
    | .bl false => one (.bl false) st3
    | _ => .stk
  | .ife c a b, env, st => (run c env st).b1 fun x st1 => match truth x st1 with
    | none => .stk
    | some true => run a env st1
    | some false => run b env st1
  | .nil, _, st => .val [] st
  | .cons a as, env, st => (run a env st).b1 fun x st1 => (run as env st1).bs fun xs st2 => .val (x :: xs) st2
  | .som a, env, st => (run a env st).b1 fun x st1 => .val [x] st1
  | .tup as, env, st => (run as env st).bs fun xs st1 => if xs.length ≤ sz then new (.tup xs) st1 else .stk
  | .lst as, env, st => (run as env st).bs fun xs st1 => if xs.length ≤ sz then new (.lst xs) st1 else .stk
  | .dic0, _, st => new (.dK []) st
  | .call f as, env, st => (run as env st).bs fun xs st1 => exE (cf f xs st1) env
  | .bif f as, env, st => (run as env st).bs fun xs st1 => bifD f xs st1
  | .isi a t, env, st => (run a env st).b1 fun x st1 => match isTy x st1 with
    | some t' => one (.bl (subTy t' t)) st1
    | none => .stk
  | .meth m o as, env, st => (run o env st).b1 fun x st1 => match x with
    | .ref p => match st1[p]? with
      | some (.ins c fs) => if (fs.lookup m).isNone then (match Pg.meth c m with
          | some f => (run as env st1).bs fun xs st2 => exE (cf f (.ref p :: xs) st2) env
          | none => .stk) else .stk
      | _ => .stk
    | _ => .stk
  | .bm m o as, env, st => (run o env st).b1 fun x st1 => if bmTy m x st1 then (run as env st1).bs fun xs st2 => bmD m x xs st2 else .stk
  | .mk c as, env, st => match (if Pg.made c then Pg.meth c "__init__" else none) with
    | some f => (run as env st).bs fun xs st1 => (exE (cf f (.ref st1.length :: xs) (st1 ++ [.ins c []])) env).b1 fun v st2 => match v with
      | .non => one (.ref st1.length) st2
      | _ => .stk
    | none => .stk
  | .cm c m as, env, st => match Pg.cm c m with
    | some f => (run as env st).bs fun xs st1 => exE (cf f xs st1) env
    | none => .stk
  | .lset a, env, st => (run a env st).b1 fun x st1 => match lstOf st1 x with
    | some xs => match allS xs with
      | some ys => if ys.length ≤ 1 then one (.int (ys.length : Nat)) st1 else .stk
      | none => .stk
    | none => .stk
  | .rsl a, env, st => (run a env st).b1 fun x st1 => match lstOf st1 x with
    | some xs => new (.lst xs.reverse) st1
    | none => .stk
  | .fld o f, env, st => (run o env st).b1 fun x st1 => match x with
    | .ref p => match st1[p]? with
      | some (.ins c fs) => if Pg.fld c f then (match fs.lookup f with
        | some v => one v st1
        | none => .stk) else .stk
      | _ => .stk
    | _ => .stk
  | .idx a i, env, st => (run a env st).b1 fun x st1 => (run i env st1).b1 fun y st2 => idxD x y st2
  | .slc a lo hi, env, st => (run a env st).b1 fun x st1 => (run lo env st1).bs fun l st2 => match part l with
    | none => .stk
    | some l => (run hi env st2).bs fun h st3 => match part h with
      | none => .stk
      | some h => slcD x l h st3
  | .lc own tg k a ifs e, env, st => (run a env st).bs fun vs st1 => match cur (rk k vs st1) vs 0 st1 with
    | none => .stk
    | some _ => lcN (cur (rk k vs st1) vs) (fun x st2 => match setTg tg x (wipe env own) st2 with
        | none => .stk
        | some env2 => (run ifs env2 st2).bs fun bs st3 => match bs with
          | [] => (run e env2 st3).b1 fun v st4 => .val [v] st4
          | [b] => match truth b st3 with
            | some true => (run e env2 st3).b1 fun v st4 => .val [v] st4
            | some false => .val [] st3
            | none => .stk
          | _ => .stk) st1.length (turns k vs st1 + 1) 0 (st1 ++ [.lst []])
  | .don, env, st => .nxt env st
  | .seq a b, env, st => (run a env st).bn fun env1 st1 => run b env1 st1
  | .asgN i e, env, st => (exE (run e env st) env).b1 fun v st1 => if i < env.length then .nxt (env.set i (some v)) st1 else .stk
  | .asgT is e, env, st => (exE (run e env st) env).b1 fun v st1 => match setTg (.t is) v env st1 with
    | some env1 => .nxt env1 st1
    | none => .stk
  | .asgF o f e, env, st => (exE (run e env st) env).b1 fun v st1 => (exE (run o env st1) env).b1 fun x st2 => match x with
    | .ref p => match st2[p]? with
      | some (.ins c fs) => if fs.length < 1000 ∧ Pg.fld c f = true then .nxt env (st2.set p (.ins c (putF f v fs))) else .stk
      | _ => .stk
    | _ => .stk
  | .asgI o i e, env, st => (exE (run e env st) env).b1 fun v st1 => (exE (run o env st1) env).b1 fun x st2 => (exE (run i env st2) env).b1 fun y st3 => match setI x y v st3 with
    | some st4 => .nxt env st4
    | none => .stk
  | .aug i op e, env, st => match env[i]? with
    | some (some x) => (exE (run e env st) env).b1 fun y st1 => match op, x, y with
      | .Add, .int a, .int b => .nxt (env.set i (some (.int (a + b)))) st1
      | .Sub, .int a, .int b => .nxt (env.set i (some (.int (a - b)))) st1
      | _, _, _ => .stk
    | _ => .stk
  | .augF o f e, env, st => (exE (run o env st) env).b1 fun x st1 => match x with
    | .ref p => match st1[p]? with
      | some (.ins c fs) => if Pg.fld c f then (match fs.lookup f with
        | some v => (exE (run e env st1) env).b1 fun y st2 => match v, y with
          | .int i, .int j => match st2[p]? with
            | some (.ins c2 fs2) => if c2 = c ∧ fs2.length < 1000 then .nxt env (st2.set p (.ins c2 (putF f (.int (i - j)) fs2))) else .stk
            | _ => .stk
          | _, _ => .stk
        | none => .stk) else .stk
      | _ => .stk
    | _ => .stk
  | .drop e, env, st => (exE (run e env st) env).b1 fun _ st1 => .nxt env st1
  | .ret e, env, st => (exE (run e env st) env).b1 fun v st1 => .ret v st1
  | .retN, _, st => .ret .non st
  | .ifs c a b, env, st => (exE (run c env st) env).b1 fun v st1 => match truth v st1 with
    | none => .stk
    | some true => run a env st1
    | some false => run b env st1
  | .for tg k a b, env, st => (exE (run a env st) env).bs fun vs st1 => loopN (cur (rk k vs st1) vs) (fun x env2 st2 => match setTg tg x env2 st2 with
      | none => .stk
      | some env3 => run b env3 st2) (turns k vs st1 + 1) 0 env st1
  | .whl c b, env, st => whlN (fun env st => exE (run c env st) env) (run b) wBound env st
  | .rai c as, env, st => .stk
end

def callN (Pg : Prog) : Nat → Str → List V → Store → R
  | 0, _, _, _ => .stk
  | d + 1, f, vs, st => match Pg.fn f with
    | none => .stk
    | some F => if vs.length ≤ F.ps.length ∧ F.ps.length ≤ vs.length + F.dfl.length then
        (match run Pg (callN Pg d) F.body (start F.N (vs ++ F.dfl.drop (vs.length + F.dfl.length - F.ps.length))) st with
        | .ret v st' => .val [v] st'
        | .nxt _ st' => .val [.non] st'
        | .exc c fs _ st' => .exc c fs [] st'
        | _ => .stk)
      else .stk
end Mi
set_option maxHeartbeats 1000000
/-! Mi over the layer: how a store stands in a heap; what a reading must give. -/
namespace Mi
open PySem PySem.Spec PyProof.Rows L2

theorem sz_eq : sz = sizeLine := by rw [sizeLine_eq]; rfl

/-! ### values, objects, stores -/
def VR (as : List Addr) : V → V → Prop
  | .ref i, w => ∃ a, as[i]? = some a ∧ w = .ref a
  | v, w => w = v
def isRef : V → Bool
  | .ref _ => true
  | _ => false
theorem VR.scalar {as : List Addr} {v w : V} (h : VR as v w) (s : isRef v = false) : w = v := by
  cases v <;> first | exact h | cases s
theorem VR.of {as : List Addr} {v : V} (s : isRef v = false) : VR as v v := by
  cases v <;> first | rfl | cases s
theorem pre_get {as as' : List Addr} (h : as <+: as') {i : Nat} {a : Addr} (e : as[i]? = some a) : as'[i]? = some a := by
  obtain ⟨l, rfl⟩ := h
  have hi : i < as.length := (List.getElem?_eq_some_iff.mp e).1
  rw [List.getElem?_append_left hi]
  exact e
theorem VR.mono {as as' : List Addr} (h : as <+: as') : ∀ {v w : V}, VR as v w → VR as' v w
  | .ref i, w, ⟨a, e, q⟩ => ⟨a, pre_get h e, q⟩
  | .non, _, e => e
  | .bl _, _, e => e
  | .int _, _, e => e
  | .str _, _, e => e
  | .byt _, _, e => e
  | .flt _, _, e => e
  | .ty _, _, e => e
abbrev VRs (as : List Addr) : List V → List V → Prop := Paired (VR as)
theorem VRs.mono {as as' : List Addr} (h : as <+: as') {vs ws : List V} (r : VRs as vs ws) : VRs as' vs ws := Paired.mono (fun _ _ => VR.mono h) r
/-- pairs with equal keys -/
abbrev KRs {κ : Type} (as : List Addr) : List (κ × V) → List (κ × V) → Prop := Paired fun p q => p.1 = q.1 ∧ VR as p.2 q.2
theorem KRs.mono {κ : Type} {as as' : List Addr} (h : as <+: as') {vs ws : List (κ × V)} (r : KRs as vs ws) : KRs as' vs ws := Paired.mono (fun _ _ q => ⟨q.1, VR.mono h q.2⟩) r
theorem P.length {α β : Type} {F : α → β → Prop} : ∀ {l₁ : List α} {l₂ : List β}, Paired F l₁ l₂ → l₁.length = l₂.length
  | _, _, .nil => rfl
  | _, _, .cons _ r => by rw [List.length_cons, List.length_cons, P.length r]
theorem P.get {α β : Type} {F : α → β → Prop} : ∀ {l₁ : List α} {l₂ : List β}, Paired F l₁ l₂ → ∀ {i : Nat} {x : α}, l₁[i]? = some x → ∃ y, l₂[i]? = some y ∧ F x y
  | _, _, .nil, i, x, h => by simp at h
  | _, _, .cons (a := a) (b := b) f r, 0, x, h => by
    have e : a = x := Option.some.inj h
    subst e
    exact ⟨b, rfl, f⟩
  | _, _, .cons f r, i + 1, x, h => P.get r h
theorem P.getNone {α β : Type} {F : α → β → Prop} {l₁ : List α} {l₂ : List β} (h : Paired F l₁ l₂) {i : Nat} (e : l₁[i]? = none) : l₂[i]? = none := by
  rw [List.getElem?_eq_none_iff] at e ⊢
  rw [← P.length h]
  exact e
theorem P.append {α β : Type} {F : α → β → Prop} : ∀ {l₁ k₁ : List α} {l₂ k₂ : List β}, Paired F l₁ l₂ → Paired F k₁ k₂ → Paired F (l₁ ++ k₁) (l₂ ++ k₂)
  | _, _, _, _, .nil, q => q
  | _, _, _, _, .cons f r, q => .cons f (P.append r q)
theorem P.take {α β : Type} {F : α → β → Prop} : ∀ {l₁ : List α} {l₂ : List β} (n : Nat), Paired F l₁ l₂ → Paired F (l₁.take n) (l₂.take n)
  | _, _, 0, _ => by rw [List.take_zero, List.take_zero]; exact .nil
  | _, _, n + 1, .nil => .nil
  | _, _, n + 1, .cons f r => .cons f (P.take n r)
theorem P.drop {α β : Type} {F : α → β → Prop} : ∀ {l₁ : List α} {l₂ : List β} (n : Nat), Paired F l₁ l₂ → Paired F (l₁.drop n) (l₂.drop n)
  | _, _, 0, r => r
  | _, _, n + 1, .nil => .nil
  | _, _, n + 1, .cons f r => P.drop n r
theorem P.set {α β : Type} {F : α → β → Prop} {x : α} {y : β} (f : F x y) : ∀ {l₁ : List α} {l₂ : List β} (i : Nat), Paired F l₁ l₂ → Paired F (l₁.set i x) (l₂.set i y)
  | _, _, _, .nil => .nil
  | _, _, 0, .cons _ r => .cons f r
  | _, _, i + 1, .cons g r => .cons g (P.set f i r)
theorem P.flatten {α β : Type} {F : α → β → Prop} {l₁ : List α} {l₂ : List β} (h : Paired F l₁ l₂) : ∀ k : Nat, Paired F (List.replicate k l₁).flatten (List.replicate k l₂).flatten
  | 0 => .nil
  | k + 1 => by
    rw [List.replicate_succ, List.replicate_succ, List.flatten_cons, List.flatten_cons]
    exact P.append h (P.flatten h k)
theorem P.dropLast {α β : Type} {F : α → β → Prop} {l₁ : List α} {l₂ : List β} (h : Paired F l₁ l₂) : Paired F l₁.dropLast l₂.dropLast := by
  rw [List.dropLast_eq_take, List.dropLast_eq_take, ← P.length h]
  exact P.take _ h
theorem P.reverse {α β : Type} {F : α → β → Prop} {l₁ : List α} {l₂ : List β} (h : Paired F l₁ l₂) : Paired F l₁.reverse l₂.reverse := by
  induction h with
  | nil => exact .nil
  | cons f _ ih =>
    rw [List.reverse_cons, List.reverse_cons]
    exact P.append ih (.cons f .nil)
theorem P.isEmpty {α β : Type} {F : α → β → Prop} : ∀ {l₁ : List α} {l₂ : List β}, Paired F l₁ l₂ → l₂.isEmpty = l₁.isEmpty
  | _, _, .nil => rfl
  | _, _, .cons _ _ => rfl
theorem VRs.same {as : List Addr} : ∀ {vs ws : List V}, VRs as vs ws → vs.all (fun v => !isRef v) = true → ws = vs
  | _, _, .nil, _ => rfl
  | _, _, .cons (a := a) f r, h => by
    have h2 := Bool.and_eq_true_iff.mp (show (!isRef a && _) = true from h)
    rw [VR.scalar f (by simpa using h2.1), VRs.same r h2.2]

section
variable (cls : Str → Addr)
/-- an object of the store as it stands in the heap -/
def OR (as : List Addr) (H : Hp) (a : Addr) : IO → Prop
  | .lst xs => ∃ ys, VRs as xs ys ∧ H a = some (.lst ys)
  | .tup xs => ∃ ys, VRs as xs ys ∧ H a = some (.tup ys)
  | .fro xs => ∃ ys, VRs as xs ys ∧ Rd H a (.lst ys)
  | .dK kvs => ∃ kws, KRs as kvs kws ∧ H a = some (.dK kws)
  | .dT kvs => ∃ kws, KRs as kvs kws ∧ H a = some (.dT kws)
  | .ins c fs => ∃ dx gs, KRs as fs gs ∧ H a = some (.ins (cls c) dx gs)
structure Rel (as : List Addr) (st : Store) (H : Hp) : Prop where
  len : as.length = st.length
  nd : as.Nodup
  at_ : ∀ (i : Nat) (o : IO) (a : Addr), st[i]? = some o → as[i]? = some a → OR cls as H a o
end
section
variable {cls : Str → Addr} {as as' : List Addr} {st : Store} {H H' : Hp} {a p : Addr} {o : IO} {ho : HO} {i : Nat} {v w : V}
theorem OR.live (h : OR cls as H a o) : ∃ u, H a = some u := by
  cases o with
  | fro xs =>
    obtain ⟨ys, _, r⟩ := h
    rcases r with r | ⟨o, r⟩
    · exact ⟨_, r⟩
    · exact ⟨_, r⟩
  | ins c fs =>
    obtain ⟨dx, gs, _, r⟩ := h
    exact ⟨_, r⟩
  | _ =>
    obtain ⟨ys, _, r⟩ := h
    exact ⟨_, r⟩
theorem OR.keep (hp : as <+: as') (e : H' a = H a) (h : OR cls as H a o) : OR cls as' H' a o := by
  cases o with
  | lst xs =>
    obtain ⟨ys, q, r⟩ := h
    exact ⟨ys, q.mono hp, e.trans r⟩
  | tup xs =>
    obtain ⟨ys, q, r⟩ := h
    exact ⟨ys, q.mono hp, e.trans r⟩
  | fro xs =>
    obtain ⟨ys, q, r⟩ := h
    refine ⟨ys, q.mono hp, ?_⟩
    rcases r with r | ⟨o, r⟩
    · exact .inl (e.trans r)
    · exact .inr ⟨o, e.trans r⟩
  | dK kvs =>
    obtain ⟨ys, q, r⟩ := h
    exact ⟨ys, q.mono hp, e.trans r⟩
  | dT kvs =>
    obtain ⟨ys, q, r⟩ := h
    exact ⟨ys, q.mono hp, e.trans r⟩
  | ins c fs =>
    obtain ⟨dx, gs, q, r⟩ := h
    exact ⟨dx, gs, q.mono hp, e.trans r⟩
theorem pre_snoc : as <+: as ++ [p] := ⟨[p], rfl⟩
theorem Rel.addr (R : Rel cls as st H) (h : st[i]? = some o) : ∃ a, as[i]? = some a := by
  have hi : i < st.length := (List.getElem?_eq_some_iff.mp h).1
  rw [← R.len] at hi
  exact ⟨as[i], List.getElem?_eq_getElem hi⟩
theorem Rel.live (R : Rel cls as st H) (h : as[i]? = some a) : ∃ u, H a = some u := by
  have hi : i < as.length := (List.getElem?_eq_some_iff.mp h).1
  rw [R.len] at hi
  exact (R.at_ i _ a (List.getElem?_eq_getElem hi) h).live
/-- what a reference stands for -/
theorem Rel.ref (R : Rel cls as st H) (h : VR as (.ref i) w) (e : st[i]? = some o) : ∃ a, w = .ref a ∧ as[i]? = some a ∧ OR cls as H a o := by
  obtain ⟨a, q, rfl⟩ := h
  exact ⟨a, rfl, q, R.at_ i o a e q⟩
theorem Rel.push (R : Rel cls as st H) (hp : H p = none) (hn : OR cls (as ++ [p]) (upd H p ho) p o) : Rel cls (as ++ [p]) (st ++ [o]) (upd H p ho) where
  len := by rw [List.length_append, List.length_append, R.len]; rfl
  nd := by
    rw [List.nodup_append]
    refine ⟨R.nd, by simp, fun x hx y hy => ?_⟩
    have : y = p := by simpa using hy
    subst this
    obtain ⟨j, hj⟩ := List.mem_iff_getElem?.mp hx
    obtain ⟨u, hu⟩ := R.live hj
    exact ne_of_none hu hp
  at_ := fun j o' b ho' hb => by
    by_cases hj : j < st.length
    · rw [List.getElem?_append_left hj] at ho'
      rw [List.getElem?_append_left (by rw [R.len]; exact hj)] at hb
      obtain ⟨u, hu⟩ := R.live hb
      exact (R.at_ j o' b ho' hb).keep pre_snoc (upd_ne (ne_of_none hu hp))
    · have hj2 : j = st.length := by
        have := (List.getElem?_eq_some_iff.mp ho').1
        rw [List.length_append] at this
        simp at this
        omega
      subst hj2
      rw [List.getElem?_append_right (Nat.le_refl _), Nat.sub_self] at ho'
      rw [List.getElem?_append_right (by rw [R.len]; exact Nat.le_refl _), R.len, Nat.sub_self] at hb
      have e1 : o = o' := Option.some.inj ho'
      have e2 : p = b := Option.some.inj hb
      subst e1 e2
      exact hn
theorem Rel.set (R : Rel cls as st H) (hi : as[i]? = some a) (hn : OR cls as (upd H a ho) a o) : Rel cls as (st.set i o) (upd H a ho) where
  len := by rw [List.length_set]; exact R.len
  nd := R.nd
  at_ := fun j o' b ho' hb => by
    by_cases hj : j = i
    · subst hj
      have hl : j < st.length := by
        have := (List.getElem?_eq_some_iff.mp hi).1
        rw [R.len] at this
        exact this
      rw [List.getElem?_set_self hl] at ho'
      have e1 : o = o' := Option.some.inj ho'
      have e2 : a = b := Option.some.inj (hi.symm.trans hb)
      subst e1 e2
      exact hn
    · rw [List.getElem?_set_ne (Ne.symm hj)] at ho'
      have hne : b ≠ a := fun e => by
        subst e
        exact hj (nd_ix R.nd hb hi)
      exact (R.at_ j o' b ho' hb).keep (List.prefix_refl _) (upd_ne hne)
theorem VR.new (R : Rel cls as st H) : VR (as ++ [p]) (.ref st.length) (.ref p) := by
  refine ⟨p, ?_, rfl⟩
  rw [← R.len, List.getElem?_append_right (Nat.le_refl _), Nat.sub_self]
  rfl
end

/-! ### slots -/
structure SR (as : List Addr) (env : Ev) (σ : L2.St) : Prop where
  len : env.length = σ.length
  at_ : ∀ (i : Nat) (v : V), env[i]? = some (some v) → ∃ w, σ[i]? = some (some w) ∧ VR as v w
section
variable {as as' : List Addr} {env : Ev} {σ : L2.St} {v w : V}
theorem SR.mono (h : as <+: as') (s : SR as env σ) : SR as' env σ := ⟨s.len, fun i v e => by
  obtain ⟨w, q, r⟩ := s.at_ i v e
  exact ⟨w, q, r.mono h⟩⟩
theorem SR.set (s : SR as env σ) (r : VR as v w) (i : Nat) : SR as (env.set i (some v)) (σ.set i (some w)) := ⟨by rw [List.length_set, List.length_set]; exact s.len, fun j u e => by
  by_cases hj : j = i
  · subst hj
    by_cases hl : j < env.length
    · rw [List.getElem?_set_self hl] at e
      have e1 : v = u := Option.some.inj (Option.some.inj e)
      subst e1
      exact ⟨w, List.getElem?_set_self (by rw [← s.len]; exact hl), r⟩
    · rw [List.getElem?_eq_none_iff.mpr (by rw [List.length_set]; omega)] at e
      cases e
  · rw [List.getElem?_set_ne (Ne.symm hj)] at e
    obtain ⟨w', q, r'⟩ := s.at_ j u e
    exact ⟨w', by rw [List.getElem?_set_ne (Ne.symm hj)]; exact q, r'⟩⟩
theorem SR.unset (s : SR as env σ) (i : Nat) : SR as (env.set i none) (σ.set i none) := ⟨by rw [List.length_set, List.length_set]; exact s.len, fun j u e => by
  by_cases hj : j = i
  · subst hj
    by_cases hl : j < env.length
    · rw [List.getElem?_set_self hl] at e
      cases e
    · rw [List.getElem?_eq_none_iff.mpr (by rw [List.length_set]; omega)] at e
      cases e
  · rw [List.getElem?_set_ne (Ne.symm hj)] at e
    obtain ⟨w', q, r'⟩ := s.at_ j u e
    exact ⟨w', by rw [List.getElem?_set_ne (Ne.symm hj)]; exact q, r'⟩⟩
theorem SR.wipe (s : SR as env σ) : ∀ vs : List Nat, SR as (wipe env vs) (L2.wipe σ vs)
  | [] => s
  | v :: vs => (SR.wipe s vs).unset v
theorem SR.start {N : List Str} {vs ws : List V} (r : VRs as vs ws) : SR as (start N vs) (L2.start N ws) := by
  refine ⟨?_, fun i v e => ?_⟩
  · unfold L2.start
    rw [List.length_append, List.length_append, List.length_map, List.length_map, List.length_replicate, List.length_replicate, P.length r]
  · unfold L2.start at e ⊢
    by_cases hi : i < vs.length
    · rw [List.getElem?_append_left (by rw [List.length_map]; exact hi), List.getElem?_map] at e
      have hi2 : i < ws.length := by rw [← P.length r]; exact hi
      rw [List.getElem?_append_left (by rw [List.length_map]; exact hi2), List.getElem?_map]
      rw [List.getElem?_eq_getElem hi] at e
      have e1 : vs[i] = v := Option.some.inj (Option.some.inj e)
      obtain ⟨y, q, f⟩ := P.get r (List.getElem?_eq_getElem hi)
      rw [e1] at f
      exact ⟨y, by rw [q]; rfl, f⟩
    · rw [List.getElem?_append_right (by rw [List.length_map]; omega)] at e
      have := List.getElem?_replicate (a := (none : Option V)) (n := N.length - vs.length) (i := i - (vs.map some).length)
      rw [this] at e
      split at e <;> cases e
end

/-! ### what must follow -/
section
variable (cls : Str → Addr)
/-- an exception as the layer tells it -/
def XR (as : List Addr) (c : Str) (fs : List (Str × V)) (cv : Value) (d : Option Addr) (H : Hp) : Prop :=
  cv = .ref (cls c) ∧ ((fs = [] ∧ d = none) ∨ (fs ≠ [] ∧ ∃ dd gs, d = some dd ∧ H dd = some (.xd gs) ∧ dd ∉ as ∧ KRs as fs gs))
def PV (as : List Addr) (r : R) (Q : VK) (X : XK) : Prop := match r with
  | .val [v] st => ∀ as' w H, as <+: as' → Rel cls as' st H → VR as' v w → Q w H
  | .exc c fs _ st => ∀ as' H cv d, as <+: as' → Rel cls as' st H → XR cls as' c fs cv d H → X cv d H
  | _ => False
def PL (as : List Addr) (r : R) (Q : List V → Hp → Prop) (X : XK) : Prop := match r with
  | .val vs st => ∀ as' ws H, as <+: as' → Rel cls as' st H → VRs as' vs ws → Q ws H
  | .exc c fs _ st => ∀ as' H cv d, as <+: as' → Rel cls as' st H → XR cls as' c fs cv d H → X cv d H
  | _ => False
/-- a statement -/
def PF (as : List Addr) (r : R) (D : Ends) (W : WX) : Prop := match r with
  | .nxt env st => ∀ as' σ H, as <+: as' → Rel cls as' st H → SR as' env σ → D.nx σ H
  | .ret v st => ∀ as' w H, as <+: as' → Rel cls as' st H → VR as' v w → D.rt w H
  | .exc c fs env st => ∀ as' σ H cv d, as <+: as' → Rel cls as' st H → SR as' env σ → XR cls as' c fs cv d H → W cv d σ H
  | _ => False
end
section
variable {cls : Str → Addr} {as as' : List Addr} {r : R} {Q : VK} {X : XK} {D : Ends} {W : WX}
theorem PV.mono (h : as <+: as') (p : PV cls as r Q X) : PV cls as' r Q X := by
  unfold PV at p ⊢
  split
  · exact fun a w H q => p a w H (h.trans q)
  · exact fun a H cv d q => p a H cv d (h.trans q)
  · rename_i h1 h2
    split at p
    · exact absurd rfl (h1 _ _)
    · exact absurd rfl (h2 _ _ _ _)
    · exact p
theorem PL.mono {Q : List V → Hp → Prop} (h : as <+: as') (p : PL cls as r Q X) : PL cls as' r Q X := by
  unfold PL at p ⊢
  split
  · exact fun a w H q => p a w H (h.trans q)
  · exact fun a H cv d q => p a H cv d (h.trans q)
  · rename_i h1 h2
    split at p
    · exact absurd rfl (h1 _ _)
    · exact absurd rfl (h2 _ _ _ _)
    · exact p
theorem PF.mono (h : as <+: as') (p : PF cls as r D W) : PF cls as' r D W := by
  unfold PF at p ⊢
  split
  · exact fun a w H q => p a w H (h.trans q)
  · exact fun a w H q => p a w H (h.trans q)
  · exact fun a σ H cv d q => p a σ H cv d (h.trans q)
  · rename_i h1 h2 h3
    split at p
    · exact absurd rfl (h1 _ _)
    · exact absurd rfl (h2 _ _)
    · exact absurd rfl (h3 _ _ _ _)
    · exact p
/-- a value is there -/
theorem PV.got {v : V} {st : Store} {w : V} {H : Hp} (p : PV cls as (one v st) Q X) (R : Rel cls as st H) (r : VR as v w) : Q w H := p as w H (List.prefix_refl _) R r
/-- a new object is there -/
theorem PV.laid {o : IO} {st : Store} {H : Hp} {a : Addr} {ho : HO} (p : PV cls as (new o st) Q X) (R : Rel cls as st H) (ha : H a = none) (hn : OR cls (as ++ [a]) (upd H a ho) a o) : Q (.ref a) (upd H a ho) :=
  p (as ++ [a]) (.ref a) (upd H a ho) pre_snoc (R.push ha hn) (VR.new R)
end

/-! ### readings for a family of contexts -/
section
variable (G : Cx → Prop)
def UE (e : Expr) : TE := fun σ H Q => ∃ t, (∀ X, G X → PE X e t) ∧ t σ H Q
def UT (e : Expr) : TT := fun σ H Q => ∃ t, (∀ X, G X → PT X e t) ∧ t σ H Q
def UA (es : List Expr) : TA := fun σ H Q => ∃ t, (∀ X, G X → PA X es t) ∧ t σ H Q
def UI (tg it : Expr) : TI := fun σ H Q => ∃ t, (∀ X, G X → PI X tg it t) ∧ t σ H Q
def UG (tg : Expr) : TG := fun v σ H Q => ∃ t, (∀ X, G X → PG X tg t) ∧ t v σ H Q
def UTs (ifs : List Expr) : TT := fun σ H Q => ∃ t, (∀ X, G X → PTs X ifs t) ∧ t σ H Q
def UO (e : Option Expr) : TO := fun σ H Q => ∃ t, (∀ X, G X → PO X e t) ∧ t σ H Q
def US (st : Stmt) : TS := fun D σ H => ∃ t, (∀ X, G X → PS X st t) ∧ t D σ H
def USs (st : List Stmt) : TS := fun D σ H => ∃ t, (∀ X, G X → PSs X st t) ∧ t D σ H
def UOp (f : Value → Value → Sem Value) : R2 := fun x y H Q => ∃ r, (∀ X, G X → OpR X f r) ∧ r x y H Q
def UIx : R2 := fun x y H Q => ∃ r, (∀ X, G X → IxR X r) ∧ r x y H Q
def USl : V → Option Int → Option Int → Hp → VK → Prop := fun x lo hi H Q => ∃ r, (∀ X, G X → SlR X r) ∧ r x lo hi H Q
def UC (f : Value) : List V → Hp → VK → Prop := fun vs H Q => ∃ r, (∀ X, G X → CallR X f r) ∧ r vs H Q
def UM (id : String) : V → List V → Hp → VK → Prop := fun x vs H Q => ∃ r, (∀ X, G X → MtR X id r) ∧ r x vs H Q
def USet : TSet := fun o i v H Q => ∃ t, (∀ X, G X → PSet X t) ∧ t o i v H Q
end
section
variable {G : Cx → Prop} {X : Cx}
theorem pe_U {e : Expr} (h : G X) : PE X e (UE G e) := ⟨fun pins s σ H Q I ⟨t, ht, q⟩ => (ht X h).run pins s σ H Q I q⟩
theorem pt_U {e : Expr} (h : G X) : PT X e (UT G e) := ⟨fun pins s σ H Q I ⟨t, ht, q⟩ => (ht X h).run pins s σ H Q I q⟩
theorem pa_U {es : List Expr} (h : G X) : PA X es (UA G es) := ⟨fun pos pins s σ H Q I ⟨t, ht, q⟩ => (ht X h).run pos pins s σ H Q I q⟩
theorem pi_U {tg it : Expr} (h : G X) : PI X tg it (UI G tg it) := ⟨fun pins s σ H Q I ⟨t, ht, q⟩ => (ht X h).run pins s σ H Q I q⟩
theorem pg_U {tg : Expr} (h : G X) : PG X tg (UG G tg) := ⟨fun pins s σ H v u Q I r ⟨t, ht, q⟩ => (ht X h).run pins s σ H v u Q I r q⟩
theorem pts_U {ifs : List Expr} (h : G X) : PTs X ifs (UTs G ifs) := ⟨fun pins s σ H Q I ⟨t, ht, q⟩ => (ht X h).run pins s σ H Q I q⟩
theorem po_U {e : Option Expr} (h : G X) : PO X e (UO G e) := ⟨fun pins s σ H Q I ⟨t, ht, q⟩ => (ht X h).run pins s σ H Q I q⟩
theorem ps_U {st : Stmt} (h : G X) : PS X st (US G st) := ⟨fun pins s σ H D I ⟨t, ht, q⟩ => (ht X h).run pins s σ H D I q⟩
theorem pss_U {st : List Stmt} (h : G X) : PSs X st (USs G st) := ⟨fun pins s σ H D I ⟨t, ht, q⟩ => (ht X h).run pins s σ H D I q⟩
theorem op_U {f : Value → Value → Sem Value} (h : G X) : OpR X f (UOp G f) := fun pins s σ H x y v u Q I r1 r2 ⟨t, ht, q⟩ => ht X h pins s σ H x y v u Q I r1 r2 q
theorem ix_U (h : G X) : IxR X (UIx G) := fun va sl pins s σ H x y v u Q I r1 r2 ⟨t, ht, q⟩ => ht X h va sl pins s σ H x y v u Q I r1 r2 q
theorem sl_U (h : G X) : SlR X (USl G) := fun pins s σ H x v vl vu lo hi sl Q I r hs p1 p2 ⟨t, ht, q⟩ => ht X h pins s σ H x v vl vu lo hi sl Q I r hs p1 p2 q
theorem call_U {f : Value} (h : G X) : CallR X f (UC G f) := fun pins s σ H xs us Q I r ⟨t, ht, q⟩ => ht X h pins s σ H xs us Q I r q
theorem mt_U {id : String} (h : G X) : MtR X id (UM G id) := fun pins s σ H x xs v us Q I r1 r2 ⟨t, ht, q⟩ => ht X h pins s σ H x xs v us Q I r1 r2 q
theorem set_U (h : G X) : PSet X (USet G) := fun pins s σ H o i v ov iv u Q I r1 r2 r3 ⟨t, ht, q⟩ => ht X h pins s σ H o i v ov iv u Q I r1 r2 r3 q
end

/-! ### soundness of a piece of syntax against a run -/
section
variable (cls : Str → Addr) (G : Cx → Prop) (W : WX)
def SE (e : Expr) (f : Ev → Store → R) : Prop := ∀ env st as σ H Q, Rel cls as st H → SR as env σ → PV cls as (f env st) Q (fun c d H' => W c d σ H') → UE G e σ H Q
/-- a test: by its value's truth -/
def ST (e : Expr) (f : Ev → Store → R) : Prop := ∀ env st as σ H (Q : Bool → Hp → Prop), Rel cls as st H → SR as env σ →
  (match f env st with
    | .val [v] st' => ∃ b, truth v st' = some b ∧ ∀ as' H', as <+: as' → Rel cls as' st' H' → Q b H'
    | .exc c fs _ st' => ∀ as' H' cv d, as <+: as' → Rel cls as' st' H' → XR cls as' c fs cv d H' → W cv d σ H'
    | _ => False) → UT G e σ H Q
def SA (es : List Expr) (f : Ev → Store → R) : Prop := ∀ env st as σ H Q, Rel cls as st H → SR as env σ → PL cls as (f env st) Q (fun c d H' => W c d σ H') → UA G es σ H Q
def SO (e : Option Expr) (f : Ev → Store → R) : Prop := ∀ env st as σ H (Q : Option Int → Hp → Prop), Rel cls as st H → SR as env σ →
  (match f env st with
    | .val vs st' => ∃ l, part vs = some l ∧ ∀ as' H', as <+: as' → Rel cls as' st' H' → Q l H'
    | .exc c fs _ st' => ∀ as' H' cv d, as <+: as' → Rel cls as' st' H' → XR cls as' c fs cv d H' → W cv d σ H'
    | _ => False) → UO G e σ H Q
def SS (s : Stmt) (f : Ev → Store → R) : Prop := ∀ env st as σ H D, Rel cls as st H → SR as env σ → PF cls as (f env st) D W → US G s D σ H
def SSs (s : List Stmt) (f : Ev → Store → R) : Prop := ∀ env st as σ H D, Rel cls as st H → SR as env σ → PF cls as (f env st) D W → USs G s D σ H
end
section
variable {cls : Str → Addr} {G : Cx → Prop} {W : WX} {e : Expr} {es : List Expr} {f : Ev → Store → R} {env : Ev} {st : Store} {as : List Addr} {σ : L2.St} {H : Hp} {Q : VK} {X : XK}
/-- one value, then the rest -/
theorem SE.go (h : SE cls G W e f) (h0 : Rel cls as st H) (S : SR as env σ) {k : V → Store → R} (hP : PV cls as ((f env st).b1 k) Q (fun c d H' => W c d σ H')) {Q' : VK}
    (g : ∀ v st1 as1 w H1, as <+: as1 → Rel cls as1 st1 H1 → SR as1 env σ → VR as1 v w → PV cls as1 (k v st1) Q (fun c d H' => W c d σ H') → Q' w H1) : UE G e σ H Q' := by
  refine h env st as σ H Q' h0 S ?_
  cases q : f env st with
  | val vs st1 =>
    rw [q] at hP
    match vs, hP with
    | [v], hP => exact fun as1 w H1 p R1 r => g v st1 as1 w H1 p R1 (S.mono p) r (hP.mono p)
    | [], hP => exact hP.elim
    | _ :: _ :: _, hP => exact hP.elim
  | exc c fs en st1 =>
    rw [q] at hP
    exact hP
  | nxt a b => rw [q] at hP; exact hP.elim
  | ret a b => rw [q] at hP; exact hP.elim
  | stk => rw [q] at hP; exact hP.elim
/-- the same, to a list's end -/
theorem SE.goL {QL : List V → Hp → Prop} (h : SE cls G W e f) (h0 : Rel cls as st H) (S : SR as env σ) {k : V → Store → R} (hP : PL cls as ((f env st).b1 k) QL (fun c d H' => W c d σ H')) {Q' : VK}
    (g : ∀ v st1 as1 w H1, as <+: as1 → Rel cls as1 st1 H1 → SR as1 env σ → VR as1 v w → PL cls as1 (k v st1) QL (fun c d H' => W c d σ H') → Q' w H1) : UE G e σ H Q' := by
  refine h env st as σ H Q' h0 S ?_
  cases q : f env st with
  | val vs st1 =>
    rw [q] at hP
    match vs, hP with
    | [v], hP => exact fun as1 w H1 p R1 r => g v st1 as1 w H1 p R1 (S.mono p) r (hP.mono p)
    | [], hP => exact hP.elim
    | _ :: _ :: _, hP => exact hP.elim
  | exc c fs en st1 =>
    rw [q] at hP
    exact hP
  | nxt a b => rw [q] at hP; exact hP.elim
  | ret a b => rw [q] at hP; exact hP.elim
  | stk => rw [q] at hP; exact hP.elim
/-- the same, to a statement's end -/
theorem SE.goF {D : Ends} (h : SE cls G W e f) (h0 : Rel cls as st H) (S : SR as env σ) {k : V → Store → R} (hx : ∀ c fs en st1, f env st = .exc c fs en st1 → en = env) (hP : PF cls as ((f env st).b1 k) D W) {Q' : VK}
    (g : ∀ v st1 as1 w H1, as <+: as1 → Rel cls as1 st1 H1 → SR as1 env σ → VR as1 v w → PF cls as1 (k v st1) D W → Q' w H1) : UE G e σ H Q' := by
  refine h env st as σ H Q' h0 S ?_
  cases q : f env st with
  | val vs st1 =>
    rw [q] at hP
    match vs, hP with
    | [v], hP => exact fun as1 w H1 p R1 r => g v st1 as1 w H1 p R1 (S.mono p) r (hP.mono p)
    | [], hP => exact hP.elim
    | _ :: _ :: _, hP => exact hP.elim
  | exc c fs en st1 =>
    have := hx c fs en st1 q
    subst this
    rw [q] at hP
    exact fun as1 H1 cv d p R1 x => hP as1 σ H1 cv d p R1 (S.mono p) x
  | nxt a b => rw [q] at hP; exact hP.elim
  | ret a b => rw [q] at hP; exact hP.elim
  | stk => rw [q] at hP; exact hP.elim
/-- an argument list, then the rest -/
theorem SA.go (h : SA cls G W es f) (h0 : Rel cls as st H) (S : SR as env σ) {k : List V → Store → R} (hP : PV cls as ((f env st).bs k) Q (fun c d H' => W c d σ H')) {Q' : List V → Hp → Prop}
    (g : ∀ vs st1 as1 ws H1, as <+: as1 → Rel cls as1 st1 H1 → SR as1 env σ → VRs as1 vs ws → PV cls as1 (k vs st1) Q (fun c d H' => W c d σ H') → Q' ws H1) : UA G es σ H Q' := by
  refine h env st as σ H Q' h0 S ?_
  cases q : f env st with
  | val vs st1 =>
    rw [q] at hP
    exact fun as1 w H1 p R1 r => g vs st1 as1 w H1 p R1 (S.mono p) r (hP.mono p)
  | exc c fs en st1 =>
    rw [q] at hP
    exact hP
  | nxt a b => rw [q] at hP; exact hP.elim
  | ret a b => rw [q] at hP; exact hP.elim
  | stk => rw [q] at hP; exact hP.elim
theorem SA.goL {QL : List V → Hp → Prop} (h : SA cls G W es f) (h0 : Rel cls as st H) (S : SR as env σ) {k : List V → Store → R} (hP : PL cls as ((f env st).bs k) QL (fun c d H' => W c d σ H')) {Q' : List V → Hp → Prop}
    (g : ∀ vs st1 as1 ws H1, as <+: as1 → Rel cls as1 st1 H1 → SR as1 env σ → VRs as1 vs ws → PL cls as1 (k vs st1) QL (fun c d H' => W c d σ H') → Q' ws H1) : UA G es σ H Q' := by
  refine h env st as σ H Q' h0 S ?_
  cases q : f env st with
  | val vs st1 =>
    rw [q] at hP
    exact fun as1 w H1 p R1 r => g vs st1 as1 w H1 p R1 (S.mono p) r (hP.mono p)
  | exc c fs en st1 =>
    rw [q] at hP
    exact hP
  | nxt a b => rw [q] at hP; exact hP.elim
  | ret a b => rw [q] at hP; exact hP.elim
  | stk => rw [q] at hP; exact hP.elim
end
end Mi
set_option maxHeartbeats 1000000
/-! Mi: the operations. -/
namespace Mi
open PySem PySem.Spec PyProof.Rows L2

/-- what the operations ask of a context -/
structure GB (K : PySem.W.Frag) (X : Cx) : Prop where
  k : X.K = K
  calm : X.calm = true
  room : Room 1 X.A

section
variable {cls : Str → Addr} {G : Cx → Prop} {K : PySem.W.Frag} {as : List Addr} {st : Store} {H : Hp} {Q : VK} {X : XK} {x y u v w : V} {o : IO}

theorem int_of {i : Int} (h : VR as (.int i) w) : w = .int i := h
theorem str_of {i : Str} (h : VR as (.str i) w) : w = .str i := h
theorem Rel.lst (R : Rel cls as st H) {p : Nat} {xs : List V} (h : VR as (.ref p) w) (e : st[p]? = some (.lst xs)) : ∃ a ys, w = .ref a ∧ as[p]? = some a ∧ VRs as xs ys ∧ H a = some (.lst ys) := by
  obtain ⟨a, rfl, q, ys, r, z⟩ := R.ref h e
  exact ⟨a, ys, rfl, q, r, z⟩
theorem Rel.tup (R : Rel cls as st H) {p : Nat} {xs : List V} (h : VR as (.ref p) w) (e : st[p]? = some (.tup xs)) : ∃ a ys, w = .ref a ∧ as[p]? = some a ∧ VRs as xs ys ∧ H a = some (.tup ys) := by
  obtain ⟨a, rfl, q, ys, r, z⟩ := R.ref h e
  exact ⟨a, ys, rfl, q, r, z⟩
theorem Rel.fro (R : Rel cls as st H) {p : Nat} {xs : List V} (h : VR as (.ref p) w) (e : st[p]? = some (.fro xs)) : ∃ a ys, w = .ref a ∧ as[p]? = some a ∧ VRs as xs ys ∧ Rd H a (.lst ys) := by
  obtain ⟨a, rfl, q, ys, r, z⟩ := R.ref h e
  exact ⟨a, ys, rfl, q, r, z⟩
theorem Rel.dK (R : Rel cls as st H) {p : Nat} {xs : List (Key × V)} (h : VR as (.ref p) w) (e : st[p]? = some (.dK xs)) : ∃ a ys, w = .ref a ∧ as[p]? = some a ∧ KRs as xs ys ∧ H a = some (.dK ys) := by
  obtain ⟨a, rfl, q, ys, r, z⟩ := R.ref h e
  exact ⟨a, ys, rfl, q, r, z⟩
theorem Rel.ins (R : Rel cls as st H) {p : Nat} {c : Str} {fs : List (Str × V)} (h : VR as (.ref p) w) (e : st[p]? = some (.ins c fs)) : ∃ a dx gs, w = .ref a ∧ as[p]? = some a ∧ KRs as fs gs ∧ H a = some (.ins (cls c) dx gs) := by
  obtain ⟨a, rfl, q, dx, ys, r, z⟩ := R.ref h e
  exact ⟨a, dx, ys, rfl, q, r, z⟩
/-- a list or a tuple that is read -/
theorem Rel.items (R : Rel cls as st H) {xs : List V} (h : VR as v w) (e : items st v = some xs) : ∃ a ys, w = .ref a ∧ VRs as xs ys ∧ (SqL K H a ys ∨ SqT K H a ys) := by
  cases v with
  | ref p =>
    have e2 : (match st[p]? with
      | some (.lst xs) => some xs
      | some (.fro xs) => some xs
      | some (.tup xs) => some xs
      | _ => none) = some xs := e
    split at e2
    · rename_i ys q
      cases e2
      obtain ⟨a, zs, rfl, _, r, z⟩ := R.lst h q
      exact ⟨a, zs, rfl, r, .inl (SqL.of z)⟩
    · rename_i ys q
      cases e2
      obtain ⟨a, zs, rfl, _, r, z⟩ := R.fro h q
      exact ⟨a, zs, rfl, r, .inl (.inl z)⟩
    · rename_i ys q
      cases e2
      obtain ⟨a, zs, rfl, _, r, z⟩ := R.tup h q
      exact ⟨a, zs, rfl, r, .inr (SqT.of z)⟩
    · cases e2
  | _ => cases e
/-- a new list -/
theorem PV.newL {xs ys : List V} {a : Addr} (p : PV cls as (new (.lst xs) st) Q X) (R : Rel cls as st H) (r : VRs as xs ys) (ha : H a = none) : Q (.ref a) (upd H a (.lst ys)) :=
  p.laid R ha ⟨ys, r.mono pre_snoc, upd_same⟩
theorem PV.newT {xs ys : List V} {a : Addr} (p : PV cls as (new (.tup xs) st) Q X) (R : Rel cls as st H) (r : VRs as xs ys) (ha : H a = none) : Q (.ref a) (upd H a (.tup ys)) :=
  p.laid R ha ⟨ys, r.mono pre_snoc, upd_same⟩
/-- an object is changed -/
theorem PV.put {i : Nat} {a : Addr} {ho : HO} (p : PV cls as (one v (st.set i o)) Q X) (R : Rel cls as st H) (hi : as[i]? = some a) (hn : OR cls as (upd H a ho) a o) (r : VR as v w) : Q w (upd H a ho) :=
  p.got (R.set hi hn) r

/-! ### two-place operators -/
theorem mulOk_of {i j : Int} (h : mulOk i j = true) : CMul i j ∨ CMulX i j := by
  unfold mulOk at h
  rcases Bool.or_eq_true_iff.mp h with h | h
  · rcases Bool.or_eq_true_iff.mp h with h | h
    · have := of_decide_eq_true h
      exact .inl (.inl (by omega))
    · have := of_decide_eq_true h
      exact .inl (.inr (by omega))
  · exact .inr (of_decide_eq_true h : (Builtin.Int.intBits i : Int) + (Builtin.Int.intBits j : Int) ≤ 134217728)
theorem fmod_ok {i j : Int} (h : j ≠ 0) : True := trivial

/-- // of any divisor of fewer than nine thousand bits -/
def CDivL (_ j : Int) : Prop := j ≠ 0 ∧ j.natAbs.log2 < 9000
theorem op_fdivL {X : Cx} : OpR X (binaryOp .FloorDiv) (rI CDivL fun i j => .int (i.fdiv j)) := opI fun _ _ _ _ _ _ _ hc q => floordiv_int hc.1 q (.inl (PyProof.noPylong_of_log2 hc.2))
/-- a text some times -/
theorem op_mulT {X : Cx} : OpR X (binaryOp .Mult) (fun x y H Q => ∃ (a : Str) (n : Int), x = .str a ∧ y = .int n ∧ (-(2 ^ 63) ≤ n ∧ n ≤ 1048576 ∧ a.length ≤ 16) ∧ Q (.str (Txt.mul a n)) H) := by
  intro pins s σ H x y v u Q I rx ry h
  obtain ⟨a, n, rfl, rfl, ⟨h1, h2, h3⟩, q⟩ := h
  obtain ⟨t, rfl⟩ := rx
  obtain ⟨t', rfl⟩ := ry
  exact PySem.SB.mul (PyProof.Rows.mulOk_of 16 1048576 h3 h2 h1 (by decide) (by decide)) fun t2 k => ⟨.str (Txt.mul a n), H, I.tok k, ⟨t2, rfl⟩, q⟩

theorem bin_ok (hG : ∀ X, G X → GB K X) {op : Operator} (R : Rel cls as st H) (hx : VR as v x) (hy : VR as u y) (hP : PV cls as (binD op v u st) Q X) : UOp G (binaryOp op) x y H Q := by
  unfold binD at hP
  split at hP
  · cases hx; cases hy
    exact ⟨_, fun _ _ => op_add, _, _, rfl, rfl, hP.got R rfl⟩
  · cases hx; cases hy
    split at hP
    · rename_i hl
      exact ⟨_, fun _ _ => op_add_str, _, _, rfl, rfl, by rw [← sz_eq]; exact hl, hP.got R rfl⟩
    · exact hP.elim
  · split at hP
    · rename_i p q xs ys e1 e2
      obtain ⟨a, zs, rfl, i1, r1, z1⟩ := R.lst hx e1
      obtain ⟨b, ws, rfl, i2, r2, z2⟩ := R.lst hy e2
      split at hP
      · rename_i hl
        exact ⟨_, fun _ _ => op_cat, a, b, zs, ws, rfl, rfl, z1, z2, by rw [← sz_eq, ← P.length r1, ← P.length r2]; exact hl, fun p hp => hP.newL R (P.append r1 r2) hp⟩
      · exact hP.elim
    · exact hP.elim
  · cases hx; cases hy
    exact ⟨_, fun _ _ => op_sub, _, _, rfl, rfl, hP.got R rfl⟩
  · cases hx; cases hy
    split at hP
    · rename_i hl
      rcases mulOk_of hl with hl | hl
      · exact ⟨_, fun _ _ => op_mul, _, _, rfl, rfl, hl, hP.got R rfl⟩
      · exact ⟨_, fun _ _ => op_mulX, _, _, rfl, rfl, hl, hP.got R rfl⟩
    · exact hP.elim
  · cases hx; cases hy
    split at hP
    · rename_i hl
      exact ⟨_, fun _ _ => op_fdivN, _, _, rfl, rfl, hl, hP.got R rfl⟩
    · split at hP
      · rename_i hl
        exact ⟨_, fun _ _ => op_fdivW, _, _, rfl, rfl, hl, hP.got R rfl⟩
      · split at hP
        · rename_i hl
          exact ⟨_, fun _ _ => op_fdivL, _, _, rfl, rfl, hl, hP.got R rfl⟩
        · exact hP.elim
  · cases hx; cases hy
    split at hP
    · rename_i hl
      exact ⟨_, fun _ _ => op_modN, _, _, rfl, rfl, hl, hP.got R rfl⟩
    · exact hP.elim
  · cases hx; cases hy
    split at hP
    · rename_i hl
      exact ⟨_, fun _ _ => op_pow, _, _, rfl, rfl, hl, hP.got R rfl⟩
    · exact hP.elim
  · cases hx; cases hy
    exact ⟨_, fun _ _ => op_and, _, _, rfl, rfl, hP.got R rfl⟩
  · cases hx; cases hy
    exact ⟨_, fun _ _ => op_or, _, _, rfl, rfl, hP.got R rfl⟩
  · cases hx; cases hy
    exact ⟨_, fun _ _ => op_xor, _, _, rfl, rfl, hP.got R rfl⟩
  · cases hx; cases hy
    split at hP
    · rename_i hl
      exact ⟨_, fun _ _ => op_shlW, _, _, rfl, rfl, hl, hP.got R rfl⟩
    · exact hP.elim
  · cases hx; cases hy
    split at hP
    · rename_i hl
      exact ⟨_, fun _ _ => op_mulT, _, _, rfl, rfl, hl, hP.got R rfl⟩
    · exact hP.elim
  · cases hx; cases hy
    split at hP
    · rename_i hl
      exact ⟨_, fun _ _ => op_shr, _, _, rfl, rfl, hl, hP.got R rfl⟩
    · exact hP.elim
  · cases hy
    split at hP
    · rename_i p k xs e1
      obtain ⟨a, zs, rfl, i1, r1, z1⟩ := R.lst hx e1
      split at hP
      · rename_i hl
        exact ⟨_, fun _ _ => op_rep, a, _, zs, rfl, rfl, z1, hl.1, hl.2.1, by rw [← sz_eq, ← P.length r1]; exact hl.2.2, fun p hp => hP.newL R (P.flatten r1 _) hp⟩
      · exact hP.elim
    · exact hP.elim
  · exact hP.elim

/-! ### truth -/
theorem truth_ok (R : Rel cls as st H) (hx : VR as v x) {b : Bool} (h : truth v st = some b) : TruV K x H b := by
  unfold truth at h
  split at h
  · cases hx; exact (Option.some.inj h).symm
  · cases hx; exact (Option.some.inj h).symm
  · cases hx; exact (Option.some.inj h).symm
  · cases hx
    split at h
    · rename_i hl
      exact ⟨by rw [← sz_eq]; exact hl, (Option.some.inj h).symm⟩
    · cases h
  · split at h
    · rename_i p xs e
      obtain ⟨a, ys, rfl, _, r, z⟩ := R.lst hx e
      exact .inl ⟨ys, SqL.of z, by rw [P.isEmpty r]; exact (Option.some.inj h).symm⟩
    · rename_i p xs e
      obtain ⟨a, ys, rfl, _, r, z⟩ := R.fro hx e
      exact .inl ⟨ys, .inl z, by rw [P.isEmpty r]; exact (Option.some.inj h).symm⟩
    · rename_i p xs e
      obtain ⟨a, ys, rfl, _, r, z⟩ := R.tup hx e
      exact .inr (.inl ⟨ys, SqT.of z, by rw [P.isEmpty r]; exact (Option.some.inj h).symm⟩)
    · rename_i p xs e
      obtain ⟨a, ys, rfl, _, r, z⟩ := R.dK hx e
      exact .inr (.inr ⟨ys, z, by rw [P.isEmpty r]; exact (Option.some.inj h).symm⟩)
    · cases h
  · cases h

/-! ### data -/
theorem mapM_all {f : V → Option PyData} {K : PySem.W.Frag} {H : Hp} {as : List Addr} (hf : ∀ v d w, f v = some d → VR as v w → Dp K H w d) : ∀ {xs ys : List V} {ds : List PyData}, xs.mapM f = some ds → VRs as xs ys → DpAll K H ys ds
  | [], _, ds, h, .nil => by
    have : ds = [] := by simpa using h.symm
    subst this
    exact .nil
  | x :: xs, _, ds, h, .cons r rs => by
    rw [List.mapM_cons] at h
    cases e : f x with
    | none => rw [e] at h; cases h
    | some d =>
      rw [e] at h
      cases e2 : xs.mapM f with
      | none => rw [e2] at h; cases h
      | some ds' =>
        rw [e2] at h
        have : d :: ds' = ds := by simpa using h
        subst this
        exact .cons (hf x d _ e r) (mapM_all hf e2 rs)
theorem toD_ok (R : Rel cls as st H) : ∀ (n : Nat) (v : V) (d : PyData) (w : V), toD n st v = some d → VR as v w → Dp K H w d
  | n, .non, d, w, h, r => by
    cases r
    have : PyData.none = d := by cases n <;> exact Option.some.inj h
    subst this
    exact .non
  | n, .bl b, d, w, h, r => by
    cases r
    have : PyData.bool b = d := by cases n <;> exact Option.some.inj h
    subst this
    exact .bl b
  | n, .int b, d, w, h, r => by
    cases r
    have : PyData.int b = d := by cases n <;> exact Option.some.inj h
    subst this
    exact .int b
  | n, .str b, d, w, h, r => by
    cases r
    have : PyData.str b = d := by cases n <;> exact Option.some.inj h
    subst this
    exact .str b
  | 0, .ref p, d, w, h, r => by cases h
  | n + 1, .ref p, d, w, h, r => by
    have h2 : (match st[p]? with
      | some (.lst xs) => (xs.mapM (toD n st)).map .list
      | some (.fro xs) => (xs.mapM (toD n st)).map .list
      | some (.tup xs) => (xs.mapM (toD n st)).map .tuple
      | _ => none) = some d := h
    split at h2
    · rename_i xs e
      obtain ⟨a, ys, rfl, _, r1, z⟩ := R.lst r e
      cases e2 : xs.mapM (toD n st) with
      | none => rw [e2] at h2; cases h2
      | some ds =>
        rw [e2] at h2
        have : PyData.list ds = d := Option.some.inj h2
        subst this
        exact .lst (SqL.of z) (mapM_all (fun v d w => toD_ok R n v d w) e2 r1)
    · rename_i xs e
      obtain ⟨a, ys, rfl, _, r1, z⟩ := R.fro r e
      cases e2 : xs.mapM (toD n st) with
      | none => rw [e2] at h2; cases h2
      | some ds =>
        rw [e2] at h2
        have : PyData.list ds = d := Option.some.inj h2
        subst this
        exact .lst (.inl z) (mapM_all (fun v d w => toD_ok R n v d w) e2 r1)
    · rename_i xs e
      obtain ⟨a, ys, rfl, _, r1, z⟩ := R.tup r e
      cases e2 : xs.mapM (toD n st) with
      | none => rw [e2] at h2; cases h2
      | some ds =>
        rw [e2] at h2
        have : PyData.tuple ds = d := Option.some.inj h2
        subst this
        exact .tup (SqT.of z) (mapM_all (fun v d w => toD_ok R n v d w) e2 r1)
    · cases h2
  | n, .byt b, d, w, h, r => by cases n <;> cases h
  | n, .flt b, d, w, h, r => by cases n <;> cases h
  | n, .ty b, d, w, h, r => by cases n <;> cases h

theorem scal_rel (hx : VR as v x) (hy : VR as u y) (h : scal v u = true) : x = v ∧ y = u := by
  cases v <;> cases u <;> first | (cases h; done) | exact ⟨hx, hy⟩

/-- a comparison for equality -/
theorem eq_ok (hG : ∀ X, G X → GB K X) (R : Rel cls as st H) (hx : VR as v x) (hy : VR as u y) {b : Bool} (h : eqD v u st = some b) (q : Q (.bl b) H) : UOp G (compareOp .Eq) x y H Q := by
  unfold eqD at h
  split at h
  · rename_i hs
    obtain ⟨rfl, rfl⟩ := scal_rel hx hy hs
    refine ⟨_, fun _ _ => op_eq, hs, ?_⟩
    rw [Option.some.inj h]
    exact q
  · split at h
    · rename_i d e h1 h2
      split at h
      · rename_i hs
        obtain ⟨s1, s2⟩ := Bool.and_eq_true_iff.mp hs
        refine ⟨rEqD K, fun X hX => ?_, d, e, toD_ok R _ _ _ _ h1 hx, toD_ok R _ _ _ _ h2 hy, s1, s2, ?_⟩
        · rw [← (hG X hX).k]
          exact op_eqD (hG X hX).room.units
        · rw [Option.some.inj h]
          exact q
      · cases h
    · cases h
theorem ne_ok (hG : ∀ X, G X → GB K X) (R : Rel cls as st H) (hx : VR as v x) (hy : VR as u y) {b : Bool} (h : eqD v u st = some b) (q : Q (.bl (!b)) H) : UOp G (compareOp .NotEq) x y H Q := by
  unfold eqD at h
  split at h
  · rename_i hs
    obtain ⟨rfl, rfl⟩ := scal_rel hx hy hs
    refine ⟨_, fun _ _ => op_ne, hs, ?_⟩
    rw [Option.some.inj h]
    exact q
  · split at h
    · rename_i d e h1 h2
      split at h
      · rename_i hs
        obtain ⟨s1, s2⟩ := Bool.and_eq_true_iff.mp hs
        refine ⟨rNeD K, fun X hX => ?_, d, e, toD_ok R _ _ _ _ h1 hx, toD_ok R _ _ _ _ h2 hy, s1, s2, ?_⟩
        · rw [← (hG X hX).k]
          exact op_neD (hG X hX).room.units
        · rw [Option.some.inj h]
          exact q
      · cases h
    · cases h
theorem inV_rel (hx : VR as v x) (f : flatV v = true) : ∀ {xs ys : List V}, VRs as xs ys → xs.all flatV = true → x = v ∧ ys = xs := by
  intro xs ys r h
  constructor
  · cases v <;> first | exact hx | cases f
  · refine VRs.same r ?_
    rw [List.all_eq_true] at h ⊢
    intro z hz
    have := h z hz
    cases z <;> first | rfl | cases this
theorem valV_rel {κ : Type} [DecidableEq κ] {k : κ} : ∀ {kvs kws : List (κ × V)}, KRs as kvs kws → (∀ v, valV kvs k = some v → ∃ w, valV kws k = some w ∧ VR as v w) ∧ (valV kvs k = none → valV kws k = none)
  | _, _, .nil => ⟨fun v h => (nomatch h), fun _ => rfl⟩
  | _, _, .cons (a := a) (b := b) f r => by
    obtain ⟨f1, f2⟩ := f
    by_cases e : a.1 = k
    · have e' : b.1 = k := f1.symm.trans e
      rw [valV_pos e, valV_pos e']
      exact ⟨fun v h => ⟨b.2, rfl, by rw [← Option.some.inj h]; exact f2⟩, fun h => nomatch h⟩
    · have e' : ¬ b.1 = k := fun z => e (f1.trans z)
      rw [valV_neg e, valV_neg e']
      exact valV_rel r

theorem op_inK {X : Cx} (hu : X.A.units + 1 < cLine) : OpR X (compareOp .In) (fun x y H Q => ∃ a ov, y = .ref a ∧ DGet H a x ov ∧ Q (.bl ov.isSome) H) := fun pins s σ H x y v u Q I rx ry ⟨a, ov, ey, g, q⟩ => by
  subst ey
  obtain rfl : u = Value.ref a := ry
  exact d_in hu I g rx fun s3 I3 => ⟨.bl ov.isSome, H, I3, rfl, q⟩
theorem op_notInK {X : Cx} (hu : X.A.units + 1 < cLine) : OpR X (compareOp .NotIn) (fun x y H Q => ∃ a ov, y = .ref a ∧ DGet H a x ov ∧ Q (.bl (!ov.isSome)) H) := fun pins s σ H x y v u Q I rx ry ⟨a, ov, ey, g, q⟩ => by
  subst ey
  obtain rfl : u = Value.ref a := ry
  exact d_notIn hu I g rx fun s3 I3 => ⟨.bl (!ov.isSome), H, I3, rfl, q⟩
/-- in -/
theorem in_ok (hG : ∀ X, G X → GB K X) (R : Rel cls as st H) (hx : VR as v x) (hy : VR as u y) {b : Bool} (h : inD v u st = some b) (q : Q (.bl b) H) : UOp G (compareOp .In) x y H Q := by
  unfold inD at h
  split at h
  · cases hy
    split at h
    · cases hx
      refine ⟨_, fun _ _ => op_in_str, _, _, rfl, rfl, ?_⟩
      rw [Option.some.inj h]
      exact q
    · cases h
  · split at h
    · rename_i xs e
      split at h
      · rename_i hf
        obtain ⟨f1, f2⟩ := Bool.and_eq_true_iff.mp hf
        obtain ⟨a, ys, rfl, r, z⟩ := R.items (K := K) hy e
        obtain ⟨rfl, rfl⟩ := inV_rel hx f1 r f2
        refine ⟨rIn K false, fun X hX => ?_, a, _, rfl, z, f1, f2, ?_⟩
        · rw [← (hG X hX).k]
          exact op_in_seq
        · have e2 : inV x ys = b := Option.some.inj h
          rw [e2]
          exact q
      · cases h
    · split at h
      · split at h
        · rename_i p kvs e
          obtain ⟨a, kws, rfl, _, r, z⟩ := R.dK hy e
          split at h
          · rename_i k
            cases hx
            refine ⟨_, fun X hX => op_inK (by have := (hG X hX).room.units; omega), a, _, rfl, DGet.k (k := Sum.inr k) z, ?_⟩
            have e2 : (valV kws (Sum.inr k : Key)).isSome = b := by
              rw [← Option.some.inj h]
              cases e3 : valV kvs (Sum.inr k : Key) with
              | none => rw [(valV_rel r).2 e3]
              | some v =>
                obtain ⟨w, q1, _⟩ := (valV_rel r).1 v e3
                rw [q1]
                rfl
            rw [e2]
            exact q
          · rename_i k
            cases hx
            refine ⟨_, fun X hX => op_inK (by have := (hG X hX).room.units; omega), a, _, rfl, DGet.k (k := Sum.inl k) z, ?_⟩
            have e2 : (valV kws (Sum.inl k : Key)).isSome = b := by
              rw [← Option.some.inj h]
              cases e3 : valV kvs (Sum.inl k : Key) with
              | none => rw [(valV_rel r).2 e3]
              | some v =>
                obtain ⟨w, q1, _⟩ := (valV_rel r).1 v e3
                rw [q1]
                rfl
            rw [e2]
            exact q
          · cases h
        · cases h
      · cases h
/-- not in -/
theorem notin_ok (hG : ∀ X, G X → GB K X) (R : Rel cls as st H) (hx : VR as v x) (hy : VR as u y) {b : Bool} (h : inD v u st = some b) (q : Q (.bl (!b)) H) : UOp G (compareOp .NotIn) x y H Q := by
  unfold inD at h
  split at h
  · cases hy
    split at h
    · cases hx
      refine ⟨_, fun _ _ => op_notin_str, _, _, rfl, rfl, ?_⟩
      rw [Option.some.inj h]
      exact q
    · cases h
  · split at h
    · rename_i xs e
      split at h
      · rename_i hf
        obtain ⟨f1, f2⟩ := Bool.and_eq_true_iff.mp hf
        obtain ⟨a, ys, rfl, r, z⟩ := R.items (K := K) hy e
        obtain ⟨rfl, rfl⟩ := inV_rel hx f1 r f2
        refine ⟨rIn K true, fun X hX => ?_, a, _, rfl, z, f1, f2, ?_⟩
        · rw [← (hG X hX).k]
          exact op_notIn_seq
        · have e2 : inV x ys = b := Option.some.inj h
          rw [e2]
          exact q
      · cases h
    · split at h
      · split at h
        · rename_i p kvs e
          obtain ⟨a, kws, rfl, _, r, z⟩ := R.dK hy e
          split at h
          · rename_i k
            cases hx
            refine ⟨_, fun X hX => op_notInK (by have := (hG X hX).room.units; omega), a, _, rfl, DGet.k (k := Sum.inr k) z, ?_⟩
            have e2 : (valV kws (Sum.inr k : Key)).isSome = b := by
              rw [← Option.some.inj h]
              cases e3 : valV kvs (Sum.inr k : Key) with
              | none => rw [(valV_rel r).2 e3]
              | some v =>
                obtain ⟨w, q1, _⟩ := (valV_rel r).1 v e3
                rw [q1]
                rfl
            rw [e2]
            exact q
          · rename_i k
            cases hx
            refine ⟨_, fun X hX => op_notInK (by have := (hG X hX).room.units; omega), a, _, rfl, DGet.k (k := Sum.inl k) z, ?_⟩
            have e2 : (valV kws (Sum.inl k : Key)).isSome = b := by
              rw [← Option.some.inj h]
              cases e3 : valV kvs (Sum.inl k : Key) with
              | none => rw [(valV_rel r).2 e3]
              | some v =>
                obtain ⟨w, q1, _⟩ := (valV_rel r).1 v e3
                rw [q1]
                rfl
            rw [e2]
            exact q
          · cases h
        · cases h
      · cases h

theorem cmp_ok (hG : ∀ X, G X → GB K X) {op : CmpOp} (R : Rel cls as st H) (hx : VR as v x) (hy : VR as u y) (hP : PV cls as (cmpD op v u st) Q X) : UOp G (compareOp op) x y H Q := by
  unfold cmpD at hP
  split at hP
  · cases e : eqD v u st with
    | none => rw [e] at hP; exact hP.elim
    | some b =>
      rw [e] at hP
      exact eq_ok hG R hx hy e (hP.got R rfl)
  · cases e : eqD v u st with
    | none => rw [e] at hP; exact hP.elim
    | some b =>
      rw [e] at hP
      exact ne_ok hG R hx hy e (PV.got (v := .bl (!b)) hP R rfl)
  · cases e : inD v u st with
    | none => rw [e] at hP; exact hP.elim
    | some b =>
      rw [e] at hP
      exact in_ok hG R hx hy e (hP.got R rfl)
  · cases e : inD v u st with
    | none => rw [e] at hP; exact hP.elim
    | some b =>
      rw [e] at hP
      exact notin_ok hG R hx hy e (PV.got (v := .bl (!b)) hP R rfl)
  · split at hP
    · cases hx; cases hy
      exact ⟨_, fun _ _ => op_lt, _, _, rfl, rfl, hP.got R rfl⟩
    · exact hP.elim
  · split at hP
    · cases hx; cases hy
      exact ⟨_, fun _ _ => op_le, _, _, rfl, rfl, hP.got R rfl⟩
    · exact hP.elim
  · split at hP
    · cases hx; cases hy
      exact ⟨_, fun _ _ => op_gt, _, _, rfl, rfl, hP.got R rfl⟩
    · exact hP.elim
  · split at hP
    · cases hx; cases hy
      exact ⟨_, fun _ _ => op_ge, _, _, rfl, rfl, hP.got R rfl⟩
    · exact hP.elim
  · split at hP
    · cases hy
      have e : decide (x = V.non) = decide (v = V.non) := by
        cases v with
        | ref i =>
          obtain ⟨a, _, rfl⟩ := hx
          rfl
        | _ => rw [show x = _ from hx]
      refine ⟨_, fun _ _ => op_isN, rfl, ?_⟩
      rw [e]
      exact hP.got R rfl
    · exact hP.elim
  · split at hP
    · cases hy
      have e : decide (x = V.non) = decide (v = V.non) := by
        cases v with
        | ref i =>
          obtain ⟨a, _, rfl⟩ := hx
          rfl
        | _ => rw [show x = _ from hx]
      refine ⟨_, fun _ _ => op_notN, rfl, ?_⟩
      rw [e]
      exact PV.got (v := .bl (!decide (v = V.non))) hP R rfl
    · exact hP.elim

/-! ### subscripts, slices -/
theorem ix_dict {X : Cx} (hu : X.A.units + 1 < cLine) : IxR X (fun x y H Q => ∃ a v, x = .ref a ∧ DGet H a y (some v) ∧ Q v H) := fun va sl pins s σ H x y v u Q I rx ry ⟨a, z, ex, g, q⟩ hs => by
  subst ex
  obtain rfl : v = Value.ref a := rx
  exact tail_any (dict_typeIs I g) PySem.F.slot_dict_getitem.lookup (d_getItem hu I g ry fun w' s3 I3 rw' => ⟨z, H, I3, rw', q⟩) hs
theorem atI_rel {α β : Type} {F : α → β → Prop} {xs : List α} {ys : List β} (r : Paired F xs ys) {i : Int} {v : α} (h : atI xs i = some v) : ∃ w, atI ys i = some w ∧ F v w := by
  unfold atI at h ⊢
  rw [← P.length r]
  cases e : ixN xs.length i with
  | none => rw [e] at h; cases h
  | some j =>
    rw [e] at h
    exact P.get r h
theorem idx_ok (hG : ∀ X, G X → GB K X) (R : Rel cls as st H) (hx : VR as v x) (hy : VR as u y) (hP : PV cls as (idxD v u st) Q X) : UIx G x y H Q := by
  unfold idxD at hP
  split at hP
  · cases hy
    split at hP
    · cases hx
      split at hP
      · rename_i hl
        split at hP
        · rename_i c e
          exact ⟨_, fun _ _ => ix_str, _, _, c, rfl, rfl, by rw [← sz_eq]; exact hl, e, hP.got R rfl⟩
        · exact hP.elim
      · exact hP.elim
    · split at hP
      · rename_i xs e
        obtain ⟨a, ys, rfl, r, z⟩ := R.items (K := K) hx e
        split at hP
        · rename_i v e2
          obtain ⟨w, q1, q2⟩ := atI_rel r e2
          rcases z with z | z
          · refine ⟨rIxL K, fun X hX => ?_, a, ys, _, w, rfl, rfl, z, q1, hP.got R q2⟩
            rw [← (hG X hX).k]
            exact ix_list
          · refine ⟨rIxT K, fun X hX => ?_, a, ys, _, w, rfl, rfl, z, q1, hP.got R q2⟩
            rw [← (hG X hX).k]
            exact ix_tup
        · exact hP.elim
      · exact hP.elim
  · cases hy
    split at hP
    · split at hP
      · rename_i p kvs e
        obtain ⟨a, kws, rfl, _, r, z⟩ := R.dK hx e
        split at hP
        · rename_i v e2
          obtain ⟨w, q1, q2⟩ := (valV_rel r).1 v e2
          refine ⟨_, fun X hX => ix_dict (by have := (hG X hX).room.units; omega), a, w, rfl, ?_, hP.got R q2⟩
          rw [← q1]
          exact DGet.k (k := Sum.inr _) z
        · exact hP.elim
      · exact hP.elim
    · exact hP.elim
  · exact hP.elim
theorem cutV_rel {xs ys : List V} (r : VRs as xs ys) (lo hi : Option Int) : VRs as (cutV xs lo hi) (cutV ys lo hi) := by
  unfold cutV
  rw [P.length r]
  exact P.take _ (P.drop _ r)
theorem slc_ok (hG : ∀ X, G X → GB K X) {lo hi : Option Int} (R : Rel cls as st H) (hx : VR as v x) (hP : PV cls as (slcD v lo hi st) Q X) : USl G x lo hi H Q := by
  unfold slcD at hP
  split at hP
  · cases hx
    split at hP
    · rename_i hl
      exact ⟨_, fun _ _ => sl_str, _, rfl, by rw [← sz_eq]; exact hl, hP.got R rfl⟩
    · exact hP.elim
  · split at hP
    · rename_i p xs e
      obtain ⟨a, ys, rfl, _, r, z⟩ := R.lst hx e
      refine ⟨rSlL K, fun X hX => ?_, a, ys, rfl, SqL.of z, fun p hp => hP.newL R (cutV_rel r lo hi) hp⟩
      rw [← (hG X hX).k]
      exact sl_list
    · rename_i p xs e
      obtain ⟨a, ys, rfl, _, r, z⟩ := R.fro hx e
      refine ⟨rSlL K, fun X hX => ?_, a, ys, rfl, .inl z, fun p hp => hP.newL R (cutV_rel r lo hi) hp⟩
      rw [← (hG X hX).k]
      exact sl_list
    · exact hP.elim
  · exact hP.elim

/-! ### built-ins -/
def biV : Bi → Value
  | .len => .builtin "len"
  | .list => .type "list"
  | .any => .builtin "any"
  | .all => .builtin "all"
  | .str => .type "str"
  | .int => .type "int"
  | .abs => .builtin "abs"
  | .sum => .builtin "sum"
  | .tuple => .type "tuple"
  | .reversed => .type "reversed"
def biN : Bi → Str
  | .len => "len"
  | .list => "list"
  | .any => "any"
  | .all => "all"
  | .str => "str"
  | .int => "int"
  | .abs => "abs"
  | .sum => "sum"
  | .tuple => "tuple"
  | .reversed => "reversed"
theorem allB_of : ∀ {xs : List V} {bs : List Bool}, allB xs = some bs → xs = bs.map V.bl
  | [], bs, h => by
    have : bs = [] := (Option.some.inj h).symm
    rw [this]
    rfl
  | .bl b :: r, bs, h => by
    have h2 : (allB r).map (b :: ·) = some bs := h
    cases e : allB r with
    | none => rw [e] at h2; cases h2
    | some cs =>
      rw [e] at h2
      have : b :: cs = bs := Option.some.inj h2
      rw [← this, allB_of e]
      rfl
  | .non :: r, bs, h => by cases h
  | .int _ :: r, bs, h => by cases h
  | .str _ :: r, bs, h => by cases h
  | .byt _ :: r, bs, h => by cases h
  | .flt _ :: r, bs, h => by cases h
  | .ref _ :: r, bs, h => by cases h
  | .ty _ :: r, bs, h => by cases h
theorem bls_same {bs : List Bool} {ys : List V} (r : VRs as (bs.map V.bl) ys) : ys = bs.map V.bl := VRs.same r (by
  rw [List.all_eq_true]
  intro z hz
  obtain ⟨b, _, rfl⟩ := List.mem_map.mp hz
  rfl)
theorem vrs1 {ws : List V} (r : VRs as [v] ws) : ∃ w, ws = [w] ∧ VR as v w := by
  cases r with
  | cons f r =>
    cases r
    exact ⟨_, rfl, f⟩
theorem KRs.keys {as : List Addr} : ∀ {kvs kws : List (Key × V)}, KRs as kvs kws → (kvs.map fun kv => kV kv.1) = kws.map fun kv => kV kv.1
  | _, _, .nil => rfl
  | _, _, .cons f r => by rw [List.map_cons, List.map_cons, f.1, KRs.keys r]
theorem VRs.kV {as : List Addr} : ∀ kvs : List (Key × V), VRs as (kvs.map fun kv => L2.kV kv.1) (kvs.map fun kv => L2.kV kv.1)
  | [] => .nil
  | (.inl _, _) :: r => .cons rfl (VRs.kV r)
  | (.inr _, _) :: r => .cons rfl (VRs.kV r)
theorem allS_of : ∀ {xs : List V} {bs : List Str}, allS xs = some bs → xs = bs.map V.str
  | [], bs, h => by
    have : bs = [] := (Option.some.inj h).symm
    rw [this]
    rfl
  | .str b :: r, bs, h => by
    have h2 : (allS r).map (b :: ·) = some bs := h
    cases e : allS r with
    | none => rw [e] at h2; cases h2
    | some cs =>
      rw [e] at h2
      have : b :: cs = bs := Option.some.inj h2
      rw [← this, allS_of e]
      rfl
  | .non :: r, bs, h => by cases h
  | .int _ :: r, bs, h => by cases h
  | .bl _ :: r, bs, h => by cases h
  | .byt _ :: r, bs, h => by cases h
  | .flt _ :: r, bs, h => by cases h
  | .ref _ :: r, bs, h => by cases h
  | .ty _ :: r, bs, h => by cases h
theorem strs_same {bs : List Str} {ys : List V} (r : VRs as (bs.map V.str) ys) : ys = bs.map V.str := VRs.same r (by
  rw [List.all_eq_true]
  intro z hz
  obtain ⟨b, _, rfl⟩ := List.mem_map.mp hz
  rfl)
theorem strs_rel {as : List Addr} : ∀ bs : List Str, VRs as (bs.map V.str) (bs.map V.str)
  | [] => .nil
  | _ :: r => .cons rfl (strs_rel r)
theorem lstOf_some {xs : List V} (h : lstOf st v = some xs) : ∃ p, v = .ref p ∧ st[p]? = some (.lst xs) := by
  unfold lstOf at h
  split at h
  · split at h
    · rename_i e
      cases h
      exact ⟨_, rfl, e⟩
    · cases h
  · cases h
theorem Rel.lstOf (R : Rel cls as st H) (h : VR as v w) {xs : List V} (e : lstOf st v = some xs) : ∃ a ys, w = .ref a ∧ VRs as xs ys ∧ H a = some (.lst ys) := by
  obtain ⟨p, rfl, e2⟩ := lstOf_some e
  obtain ⟨a, ys, r1, _, r2, r3⟩ := R.lst h e2
  exact ⟨a, ys, r1, r2, r3⟩
/-- a list of texts -/
theorem Rel.strs (R : Rel cls as st H) (h : VR as v w) {xs : List V} {bs : List Str} (e : Mi.lstOf st v = some xs) (e2 : allS xs = some bs) : ∃ a, w = .ref a ∧ H a = some (.lst (bs.map V.str)) := by
  obtain ⟨a, ys, rfl, r, z⟩ := R.lstOf h e
  rw [allS_of e2] at r
  rw [strs_same r] at z
  exact ⟨a, rfl, z⟩
theorem bif_ok (hG : ∀ X, G X → GB K X) {f : Bi} {vs ws : List V} (R : Rel cls as st H) (hx : VRs as vs ws) (hP : PV cls as (bifD f vs st) Q X) : UC G (biV f) ws H Q := by
  unfold bifD at hP
  split at hP
  · obtain ⟨w, rfl, r⟩ := vrs1 hx
    cases r
    split at hP
    · rename_i hl
      exact ⟨_, fun _ _ => call_len_str, _, rfl, by rw [← sz_eq]; exact hl, hP.got R rfl⟩
    · exact hP.elim
  · obtain ⟨w, rfl, r⟩ := vrs1 hx
    have key : ∀ {xs : List V}, items st (.ref _) = some xs → PV cls as (one (.int xs.length) st) Q X → UC G (biV .len) [w] H Q := fun {xs} e hP => by
      obtain ⟨a, ys, rfl, r, z⟩ := R.items (K := K) r e
      refine ⟨fun xs H Q => ∃ p ys, xs = [.ref p] ∧ (SqL K H p ys ∨ SqT K H p ys) ∧ Q (.int ys.length) H, fun X hX => ?_, a, ys, rfl, z, ?_⟩
      · rw [← (hG X hX).k]
        exact call_len_seq
      · rw [← P.length r]
        exact hP.got R rfl
    split at hP
    · rename_i e
      exact key (by simp only [items, e]) hP
    · rename_i e
      exact key (by simp only [items, e]) hP
    · rename_i e
      exact key (by simp only [items, e]) hP
    · exact hP.elim
  · obtain ⟨w, rfl, r⟩ := vrs1 hx
    have key : ∀ {xs : List V}, items st (.ref _) = some xs → PV cls as (new (.lst xs) st) Q X → UC G (biV .list) [w] H Q := fun {xs} e hP => by
      obtain ⟨a, ys, rfl, r, z⟩ := R.items (K := K) r e
      refine ⟨fun xs H Q => ∃ p ys, xs = [.ref p] ∧ (SqL K H p ys ∨ SqT K H p ys) ∧ ∀ l, H l = none → Q (.ref l) (upd H l (.lst ys)), fun X hX => ?_, a, ys, rfl, z, fun l hl => hP.newL R r hl⟩
      rw [← (hG X hX).k]
      exact call_list_of
    split at hP
    · rename_i e
      exact key (by simp only [items, e]) hP
    · rename_i e
      exact key (by simp only [items, e]) hP
    · rename_i e
      exact key (by simp only [items, e]) hP
    · rename_i kvs e
      obtain ⟨a, kws, rfl, _, r2, z⟩ := R.dK r e
      refine ⟨_, fun X hX => call_listD (hG X hX).calm, a, kws, rfl, .inl z, fun p hp => ?_⟩
      have hk : (kws.map fun kv => kV kv.1) = kvs.map fun kv => kV kv.1 := (KRs.keys r2).symm
      rw [hk]
      exact hP.newL R (VRs.kV kvs) hp
    · exact hP.elim
  · obtain ⟨w, rfl, r⟩ := vrs1 hx
    split at hP
    · rename_i xs e
      split at hP
      · rename_i bs eb
        obtain ⟨a, ys, rfl, _, r, z⟩ := R.lst r e
        rw [allB_of eb] at r
        rw [bls_same r] at z
        refine ⟨rAny K, fun X hX => ?_, a, bs, rfl, SqL.of z, hP.got R rfl⟩
        rw [← (hG X hX).k]
        exact cr_any (hG X hX).calm
      · exact hP.elim
    · exact hP.elim
  · obtain ⟨w, rfl, r⟩ := vrs1 hx
    split at hP
    · rename_i xs e
      split at hP
      · rename_i bs eb
        obtain ⟨a, ys, rfl, _, r, z⟩ := R.lst r e
        rw [allB_of eb] at r
        rw [bls_same r] at z
        refine ⟨rAll K, fun X hX => ?_, a, bs, rfl, SqL.of z, hP.got R rfl⟩
        rw [← (hG X hX).k]
        exact cr_all (hG X hX).calm
      · exact hP.elim
    · exact hP.elim
  · obtain ⟨w, rfl, r⟩ := vrs1 hx
    cases r
    split at hP
    · rename_i hl
      exact ⟨_, fun _ _ => call_str_int, _, rfl, hl, hP.got R rfl⟩
    · exact hP.elim
  · obtain ⟨w, rfl, r⟩ := vrs1 hx
    cases r
    exact ⟨_, fun _ _ => call_abs, _, rfl, hP.got R rfl⟩
  · exact hP.elim
end
end Mi
set_option maxHeartbeats 2000000
/-! Mi: contexts, the written text, what the text's trees look like. -/
namespace Mi
open PySem PySem.Spec PyProof.Rows L2

/-! ### the model's trees, for any text of the plain kind -/
def isStar : Expr → Bool
  | .Starred _ _ => true
  | _ => false
theorem star_cons {e : Expr} {es : List Expr} {env : Env} (h : isStar e = false) : starEach (e :: es) env = (false, eval e env) :: starEach es env := by
  cases e <;> first | rfl | cases h
def noStar (es : List Expr) : Bool := es.all fun e => !isStar e
theorem noStar_cons {e : Expr} {es : List Expr} (h : noStar (e :: es) = true) : isStar e = false ∧ noStar es = true := by
  have h2 := Bool.and_eq_true_iff.mp (show (!isStar e && noStar es) = true from h)
  exact ⟨by simpa using h2.1, h2.2⟩
theorem backTo_any {pos : Pos} {env : Env} : ∀ {es : List Expr}, noStar es = true → (backTo pos (starEach es env)).any (·.1) = false
  | [], _ => rfl
  | e :: es, h => by
    obtain ⟨h1, h2⟩ := noStar_cons h
    rw [star_cons h1]
    show (false || (backTo pos (starEach es env)).any (·.1)) = false
    rw [backTo_any h2]
    rfl
theorem backTo_all {pos : Pos} {env : Env} : ∀ {es : List Expr}, noStar es = true → (backTo pos (starEach es env)).all (fun x => !x.1) = true
  | [], _ => rfl
  | e :: es, h => by
    obtain ⟨h1, h2⟩ := noStar_cons h
    rw [star_cons h1]
    show (true && (backTo pos (starEach es env)).all (fun x => !x.1)) = true
    rw [backTo_all h2]
    rfl
/-- what an attribute stands on: anything but a call without arguments -/
def plainBase : Expr → Bool
  | .Call (.Name _ _) [] [] _ => false
  | _ => true
theorem base_ok {o : Expr} {m : Str} {env : Env} {w : Sem Value} (h : plainBase o = true) : attributeBase o m env w = w := by
  unfold attributeBase
  split
  · cases h
  · rfl
theorem meth_tree {o : Expr} {m : Str} {apos pos : Pos} {es : List Expr} {env : Env} (hb : plainBase o = true) (hs : noStar es = true) (hl : (apos.endLine == pos.line) = true) (hn : es.length < 30) :
    eval (.Call (.Attribute o m apos) es [] pos) env = (do
      let ov ← eval o env
      standAt apos.atName
      let (f, first) ← holding [ov] (getMethod ov m (plainOf o env))
      callWith pos f first (backTo pos (starEach es env)) (backToKw pos (keywordEach [] env))) := by
  have e : eval (.Call (.Attribute o m apos) es [] pos) env = (do
      let ov ← attributeBase o m env (eval o env)
      standAt apos.atName
      methodCall o m apos pos env ov (es.length + ([] : List Keyword).length) (backTo pos (starEach es env)) (backToKw pos (keywordEach [] env))) := rfl
  rw [e, base_ok hb]
  have hf : methodCallForm (es.length + ([] : List Keyword).length) (backTo pos (starEach es env)) (backToKw pos (keywordEach [] env)) = true := by
    have h1 := backTo_all (pos := pos) (env := env) hs
    show ((backTo pos (starEach es env)).all (fun x => !x.1) && true && decide (es.length + 0 + 0 < 30)) = true
    rw [h1]
    simpa using hn
  simp only [mcall_line hf hl]

/-- f(..): the tree of a call -/
theorem callWith_es {X : Cx} {f : Value} {es : List Expr} {ta : TA} {first : List Value} {pos : Pos} {pins : List (Addr × Obj)} {s : Shared} {σ : L2.St} {H : Hp} {R : List V → Hp → Prop} {Q : Value → Shared → Prop} (hs : noStar es = true) (hk : PySem.W.keepIn X.K f = true) (ha : PA X es ta) (I : Inv X pins σ H s)
    (h : ta σ H R) (k : ∀ vs H1 us s1, R vs H1 → Inv X pins σ H1 s1 → Vals vs us → wpAny (model X.prog X.w) X.A (call f (first ++ us)) Q X.xe s1) :
    wpAny (model X.prog X.w) X.A (callWith pos f first (backTo pos (starEach es X.env)) (backToKw pos (keywordEach [] X.env))) Q X.xe s := by
  cases es with
  | nil =>
    have h0 := ha.run pos pins s σ H _ I h
    intro Γ p hΓ
    have h1 : AP X pins σ R [] s := h0 Γ p hΓ
    obtain ⟨vs, H1, I1, r, q⟩ := h1
    exact PySem.W.callWith_K0 I.kIn hk (k vs H1 [] s q I1 r) Γ p hΓ
  | cons e es =>
    obtain ⟨h1, h2⟩ := noStar_cons hs
    exact PySem.W.callWith_K (h₀ := X.base) I.ok.mod.kin hk (thn (ha.run pos pins s σ H _ I h) fun us s1 ⟨vs, H1, I1, r, q⟩ => ⟨I1.kIn, k vs H1 us s1 q I1 r⟩) (star_cons h1) (backTo_any h2)

/-! ### the table stands behind the text -/
section
variable (P : Program) (w : World) (K : PySem.W.Frag) (mg : Str → Option Value) (base : Heap) (cls : Str → Addr)
/-- a def's promise: what the table's run of it gives -/
def spI (cf : Str → List V → Store → R) (f : Str) (n : Nat) : Sp := fun vs H Q E => ∃ as st xs, xs.length = n ∧ Rel cls as st H ∧ VRs as xs vs ∧ PV cls as (cf f xs st) Q E
/-- a def of the table, at a -/
structure FnT (cf : Str → List V → Store → R) (lv : Nat) (f : Str) (F : Fn) (a : Addr) : Prop where
  ex : ∃ fd, FnOk P w K mg base (L2.CX P w) lv a fd F.ps (spI cls cf f F.ps.length) ∧ ∀ n, n ≤ F.ps.length → F.ps.length ≤ n + F.dfl.length → ∃ ds, Vals (F.dfl.drop (n + F.dfl.length - F.ps.length)) ds ∧ Binds K fd F.ps ds
  dfl : F.dfl.all (fun v => !isRef v) = true
  kp : PySem.W.keepIn K (.ref a) = true
/-- a class's function, read off the class -/
structure CmF (C : Addr) (m : Str) (a : Addr) : Prop where
  rd : PySem.W.readsIn K C (.type "type") = true
  ga : PySem.W.specialIn K (.ref C) "__getattribute__" = some (some (.builtin "type.__getattribute__"))
  at_ : PySem.W.findCls K (.ref C) (.type "type") m = some (.val (.ref a))
structure Tab (Pg : Prog) (cf : Str → List V → Store → R) (lv : Nat) : Prop where
  glo : ∀ x v, Pg.glo x = some v → isRef v = false ∧ ∃ u, mg x = some u ∧ RelV v u
  fn : ∀ f F, Pg.fn f = some F → F.top = true → ∃ a, mg f = some (.ref a) ∧ FnT P w K mg base cls cf lv f F a
  meth : ∀ c m f, Pg.meth c m = some f → ∃ F a, Pg.fn f = some F ∧ Cls K (cls c) ∧ Meth K (cls c) m a ∧ FnT P w K mg base cls cf lv f F a
  made : ∀ c f, Pg.meth c "__init__" = some f → Pg.made c = true → ∃ F a, Pg.fn f = some F ∧ mg c = some (.ref (cls c)) ∧ Mk K (cls c) a ∧ FnT P w K mg base cls cf lv f F a
  fld : ∀ c f, Pg.fld c f = true → Cls K (cls c) ∧ NoAttr K (cls c) f
  cm : ∀ c m f, Pg.cm c m = some f → ∃ F a, Pg.fn f = some F ∧ mg c = some (.ref (cls c)) ∧ CmF K (cls c) m a ∧ FnT P w K mg base cls cf lv f F a
  set_ : mg "set" = none
  bi : ∀ b, mg (biN b) = none
  isi : mg "isinstance" = none
  rng : mg "range" = none
  enu : mg "enumerate" = none
  ty : ∀ t, Pg.ty t = true → mg t = none
  /-- lacking arguments are the defaults -/
  full : ∀ f F xs st, Pg.fn f = some F → (xs.length ≤ F.ps.length ∧ F.ps.length ≤ xs.length + F.dfl.length → cf f xs st = cf f (xs ++ F.dfl.drop (xs.length + F.dfl.length - F.ps.length)) st) ∧ (¬ (xs.length ≤ F.ps.length ∧ F.ps.length ≤ xs.length + F.dfl.length) → cf f xs st = .stk)
  none_ : ∀ f xs st, Pg.fn f = none → cf f xs st = .stk
end

/-- where a text stands: its names by slots, its scope, what it may store -/
structure Sc where
  N : List Str
  sc : Scope
  own : List Str
structure GX (P : Program) (w : World) (K : PySem.W.Frag) (mg : Str → Option Value) (base : Heap) (lv : Nat) (S : Sc) (X : Cx) : Prop where
  prog : X.prog = P
  w : X.w = w
  k : X.K = K
  mg : X.mg = mg
  base : X.base = base
  n : X.N = S.N
  nd : S.N.Nodup
  scope : X.env.scope = S.sc
  kind : S.sc.kind = .function
  calm : X.calm = true
  room : Room lv X.A
  own : ∀ x ∈ S.own, Loc X.env.scope x ∧ (X.fn x = true ∨ X.env.scope.names.lookup x = some .local)
section
variable {P : Program} {w : World} {K : PySem.W.Frag} {mg : Str → Option Value} {base : Heap} {S : Sc} {X : Cx}
theorem GX.gb {j : Nat} (h : GX P w K mg base (j + 1) S X) : GB K X := ⟨h.k, h.calm, h.room.mono (Nat.le_add_left 1 j)⟩
end
end Mi
set_option maxHeartbeats 2000000
/-! Mi: expressions keep to their runs. -/
namespace Mi
open PySem PySem.Spec PyProof.Rows L2

section
variable {P : Program} {w : World} {K : PySem.W.Frag} {mg : Str → Option Value} {base : Heap} {cls : Str → Addr} {Pg : Prog} {cf : Str → List V → Store → R} {lv : Nat} {S : Sc} {G : Cx → Prop} {W : WX}
variable {e ea eb ec : Expr} {es : List Expr} {a b c o : Ev → Store → R} {x m : Str} {pos p apos : Pos}

/-- a test out of a value's truth -/
theorem st_truth (hG : ∀ X, G X → GB K X) (h : SE cls G W e a) (he : ∀ env whole, isTrue e env whole = (do let v ← whole; standAt e.pos; holding [v] (truthy v))) : ST cls G W e a := by
  intro env st as σ H Q h0 S hP
  refine ⟨fun σ H Q => UE G e σ H fun x H' => ∃ k, TruV K x H' k ∧ Q k H', fun X hX => ?_, ?_⟩
  · rw [← (hG X hX).k]
    exact pt_truth (pe_U hX) (fun wh => he _ wh)
  · refine h env st as σ H _ h0 S ?_
    cases q : a env st with
    | val vs st1 =>
      rw [q] at hP
      match vs, hP with
      | [v], ⟨b, hb, k⟩ => exact fun as1 w H1 p R1 r => ⟨b, truth_ok R1 r hb, k as1 H1 p R1⟩
      | [], hP => exact hP.elim
      | _ :: _ :: _, hP => exact hP.elim
    | exc c fs en st1 =>
      rw [q] at hP
      exact hP
    | nxt a b => rw [q] at hP; exact hP.elim
    | ret a b => rw [q] at hP; exact hP.elim
    | stk => rw [q] at hP; exact hP.elim
/-- what a test asks of a run -/
def PT' (cls : Str → Addr) (as : List Addr) (r : R) (Q : Bool → Hp → Prop) (X : XK) : Prop := match r with
  | .val [v] st' => ∃ b, truth v st' = some b ∧ ∀ as' H', as <+: as' → Rel cls as' st' H' → Q b H'
  | .exc c fs _ st' => ∀ as' H' cv d, as <+: as' → Rel cls as' st' H' → XR cls as' c fs cv d H' → X cv d H'
  | _ => False
theorem ST.run (h : ST cls G W e a) {env : Ev} {st : Store} {as : List Addr} {σ : L2.St} {H : Hp} {Q : Bool → Hp → Prop} (h0 : Rel cls as st H) (h1 : SR as env σ) (hP : PT' cls as (a env st) Q (fun c d H' => W c d σ H')) : UT G e σ H Q := h env st as σ H Q h0 h1 (by
  unfold PT' at hP
  exact hP)
/-- a test, then two ways of an expression -/
theorem ST.go (h : ST cls G W e a) {env : Ev} {st : Store} {as : List Addr} {σ : L2.St} {H : Hp} {Q : VK} (h0 : Rel cls as st H) (h1 : SR as env σ) {k : V → Store → R} (hP : PV cls as ((a env st).b1 k) Q (fun c d H' => W c d σ H')) {Q' : Bool → Hp → Prop}
    (g : ∀ v b st1 as1 H1, as <+: as1 → Rel cls as1 st1 H1 → SR as1 env σ → truth v st1 = some b → PV cls as1 (k v st1) Q (fun c d H' => W c d σ H') → Q' b H1) (hk : ∀ v st1, truth v st1 = none → k v st1 = .stk) : UT G e σ H Q' := by
  refine h.run h0 h1 ?_
  unfold PT'
  cases q : a env st with
  | val vs st1 =>
    rw [q] at hP
    match vs, hP with
    | [v], hP =>
      cases ht : truth v st1 with
      | none =>
        have hP2 : PV cls as (k v st1) Q (fun c d H' => W c d σ H') := hP
        rw [hk v st1 ht] at hP2
        exact hP2.elim
      | some b => exact ⟨b, ht, fun as1 H1 p R1 => g v b st1 as1 H1 p R1 (h1.mono p) ht (PV.mono p hP)⟩
    | [], hP => exact hP.elim
    | _ :: _ :: _, hP => exact hP.elim
  | exc c fs en st1 =>
    rw [q] at hP
    exact hP
  | nxt a b => rw [q] at hP; exact hP.elim
  | ret a b => rw [q] at hP; exact hP.elim
  | stk => rw [q] at hP; exact hP.elim

section
variable (hG : ∀ X, G X → GX P w K mg base (lv + 1) S X ∧ Takes X W)
include hG
theorem hGB : ∀ X, G X → GB K X := fun X hX => (hG X hX).1.gb
theorem se_var {i : Nat} (hN : S.N[i]? = some x) (hv : Vis S.sc x) (hd : (x == ("__debug__" : Str)) = false) (hcd : (x == ("__classdict__" : Str)) = false) :
    SE cls G W (.Name x pos) (fun env st => match env[i]? with
      | some (some v) => one v st
      | _ => .stk) := by
  intro env st as σ H Q h0 h1 hP; dsimp only at hP
  split at hP
  · rename_i v e
    obtain ⟨w, q, r⟩ := h1.at_ i v e
    exact ⟨tVar i, fun X hX => pe_var (by rw [(hG X hX).1.n]; exact hN) (by rw [(hG X hX).1.scope]; exact hv) hd hcd, w, q, hP.got h0 r⟩
  · exact hP.elim
omit hG in
theorem se_cst {k : Const} {j : Nat} {v : V} (h : match k, v with
    | .none, .non => True
    | .bool b, .bl c => b = c
    | .int i, .int l => i = l
    | .str s, .str t => s = t
    | _, _ => False) : SE cls G W (.Constant k j pos) (fun _ st => one v st) := by
  intro env st as σ H Q h0 h1 hP; dsimp only at hP
  split at h
  · exact ⟨tC .non, fun X hX => pe_non, hP.got h0 rfl⟩
  · subst h; exact ⟨tC (.bl _), fun X hX => pe_bl, hP.got h0 rfl⟩
  · subst h; exact ⟨tC (.int _), fun X hX => pe_int, hP.got h0 rfl⟩
  · subst h; exact ⟨tC (.str _), fun X hX => pe_str, hP.got h0 rfl⟩
  · exact h.elim
theorem gl_of {X : Cx} (hX : G X) (hg : S.sc.names.lookup x = some .globalImplicit) : Gl X x := by
  show X.env.scope.names.lookup x = some .globalImplicit
  rw [(hG X hX).1.scope]
  exact hg
theorem se_glo (T : Tab P w K mg base cls Pg cf lv) (hg : S.sc.names.lookup x = some .globalImplicit) (hd : (x == ("__debug__" : Str)) = false) :
    SE cls G W (.Name x pos) (fun _ st => match Pg.glo x with
      | some v => one v st
      | none => .stk) := by
  intro env st as σ H Q h0 h1 hP; dsimp only at hP
  split at hP
  · rename_i v e
    obtain ⟨hs, u, hu, r⟩ := T.glo x v e
    exact ⟨tC v, fun X hX => pe_glob (gl_of hG hX hg) (by rw [(hG X hX).1.mg]; exact hu) r hd, hP.got h0 (VR.of hs)⟩
  · exact hP.elim
theorem se_bin {op : Operator} (ha : SE cls G W ea a) (hb : SE cls G W eb b) : SE cls G W (.BinOp ea op eb pos) (fun env st => (a env st).b1 fun x st1 => (b env st1).b1 fun y st2 => binD op x y st2) := by
  intro env st as σ H Q h0 h1 hP; dsimp only at hP
  exact ⟨tOp (UOp G (binaryOp op)) (UE G ea) (UE G eb), fun X hX => pe_op (op_U hX) (pe_U hX) (pe_U hX),
    ha.go h0 h1 hP fun v st1 as1 w H1 p1 R1 S1 V1 hP1 => hb.go R1 S1 hP1 fun u st2 as2 y H2 p2 R2 S2 V2 hP2 => bin_ok (hGB hG) R2 (V1.mono p2) V2 hP2⟩
omit hG in
theorem se_neg (ha : SE cls G W ea a) : SE cls G W (.UnaryOp .USub ea pos) (fun env st => (a env st).b1 fun x st1 => match x with
    | .int i => one (.int (-i)) st1
    | _ => .stk) := by
  intro env st as σ H Q h0 h1 hP; dsimp only at hP
  refine ⟨tUn (rU fun i => .int (-i)) (UE G ea), fun X hX => pe_un un_neg (pe_U hX), ha.go h0 h1 hP fun v st1 as1 w H1 p1 R1 S1 V1 hP1 => ?_⟩
  split at hP1
  · cases V1
    exact ⟨_, rfl, hP1.got R1 rfl⟩
  · exact hP1.elim
omit hG in
theorem ofB_none {v : V} {st : Store} (h : truth v st = none) : ofB ((truth v st).map (!·)) st = .stk := by rw [h]; rfl
theorem se_not (ha : ST cls G W ea a) (hE : SE cls G W ea a) : SE cls G W (.UnaryOp .Not ea pos) (fun env st => (a env st).b1 fun x st1 => ofB ((truth x st1).map (!·)) st1) := by
  intro env st as σ H Q h0 h1 hP; dsimp only at hP
  refine ⟨tNotT K (UE G ea), fun X hX => ?_, hE.go h0 h1 hP fun v st1 as1 w H1 p1 R1 S1 V1 hP1 => ?_⟩
  · rw [← (hG X hX).1.k]
    exact pe_notT (pe_U hX)
  · cases ht : truth v st1 with
    | none =>
      rw [ht] at hP1
      exact hP1.elim
    | some b =>
      rw [ht] at hP1
      exact ⟨b, truth_ok R1 V1 ht, PV.got (v := .bl (!b)) hP1 R1 rfl⟩
omit hG in
theorem st_not (ha : ST cls G W ea a) : ST cls G W (.UnaryOp .Not ea pos) (fun env st => (a env st).b1 fun x st1 => ofB ((truth x st1).map (!·)) st1) := by
  intro env st as σ H Q h0 h1 hP; dsimp only at hP
  refine ⟨tNot (UT G ea), fun X hX => pt_not (pt_U hX), ?_⟩
  refine ha.run h0 h1 ?_
  unfold PT'
  cases q : a env st with
  | val vs st1 =>
    rw [q] at hP
    match vs, hP with
    | [v], hP =>
      cases ht : truth v st1 with
      | none =>
        have hP2 : (match ofB ((truth v st1).map (!·)) st1 with
          | .val [v] st' => ∃ b, truth v st' = some b ∧ ∀ as' H', as <+: as' → Rel cls as' st' H' → Q b H'
          | .exc c fs _ st' => ∀ as' H' cv d, as <+: as' → Rel cls as' st' H' → XR cls as' c fs cv d H' → W cv d σ H'
          | _ => False) := hP
        rw [ht] at hP2
        exact hP2.elim
      | some b =>
        have hP2 : (match ofB ((truth v st1).map (!·)) st1 with
          | .val [v] st' => ∃ b, truth v st' = some b ∧ ∀ as' H', as <+: as' → Rel cls as' st' H' → Q b H'
          | .exc c fs _ st' => ∀ as' H' cv d, as <+: as' → Rel cls as' st' H' → XR cls as' c fs cv d H' → W cv d σ H'
          | _ => False) := hP
        rw [ht] at hP2
        obtain ⟨b', hb', k⟩ := hP2
        have e2 : (!b) = b' := Option.some.inj hb'
        subst e2
        exact ⟨b, ht, k⟩
    | [], hP => exact hP.elim
    | _ :: _ :: _, hP => exact hP.elim
  | exc c fs en st1 =>
    rw [q] at hP
    exact hP
  | nxt a b => rw [q] at hP; exact hP.elim
  | ret a b => rw [q] at hP; exact hP.elim
  | stk => rw [q] at hP; exact hP.elim
theorem se_cmp {op : CmpOp} (hm : behindInMarks op eb = false) (ha : SE cls G W ea a) (hb : SE cls G W eb b) : SE cls G W (.Compare ea [op] [eb] pos) (fun env st => (a env st).b1 fun x st1 => (b env st1).b1 fun y st2 => cmpD op x y st2) := by
  intro env st as σ H Q h0 h1 hP; dsimp only at hP
  exact ⟨tOp (UOp G (compareOp op)) (UE G ea) (UE G eb), fun X hX => pe_cmpR (op_U hX) (pe_U hX) (pe_U hX) hm,
    ha.go h0 h1 hP fun v st1 as1 w H1 p1 R1 S1 V1 hP1 => hb.go R1 S1 hP1 fun u st2 as2 y H2 p2 R2 S2 V2 hP2 => cmp_ok (hGB hG) R2 (V1.mono p2) V2 hP2⟩

/-! ### and, or, if -/
def SW (cls : Str → Addr) (G : Cx → Prop) (W : WX) (e : Expr) (f : Ev → Store → R) : Prop := ∀ env st as σ H (Q : Bool → Hp → Prop), Rel cls as st H → SR as env σ → PT' cls as (f env st) Q (fun c d H' => W c d σ H') →
  ∃ t, (∀ X, G X → PW X e t) ∧ t σ H Q
omit hG in
theorem SW.st (h : SW cls G W e a) : ST cls G W e a := fun env st as σ H Q h0 h1 hP => by
  obtain ⟨t, ht, q⟩ := h env st as σ H Q h0 h1 hP
  exact ⟨t, fun X hX => (ht X hX).pt, q⟩
def fAnd (a b : Ev → Store → R) : Ev → Store → R := fun env st => (a env st).b1 fun x st1 => match truth x st1 with
  | none => .stk
  | some true => b env st1
  | some false => one x st1
def fOr (a b : Ev → Store → R) : Ev → Store → R := fun env st => (a env st).b1 fun x st1 => match truth x st1 with
  | none => .stk
  | some true => one x st1
  | some false => b env st1
omit hG in
/-- a test, then what its truth leads to -/
theorem ST.goT (h : ST cls G W e a) {env : Ev} {st : Store} {as : List Addr} {σ : L2.St} {H : Hp} {QT : Bool → Hp → Prop} (h0 : Rel cls as st H) (h1 : SR as env σ) {k : V → Store → R} (hP : PT' cls as ((a env st).b1 k) QT (fun c d H' => W c d σ H')) {Q' : Bool → Hp → Prop}
    (g : ∀ v b st1 as1 H1, as <+: as1 → Rel cls as1 st1 H1 → SR as1 env σ → truth v st1 = some b → PT' cls as1 (k v st1) QT (fun c d H' => W c d σ H') → Q' b H1) (hk : ∀ v st1, truth v st1 = none → k v st1 = .stk) : UT G e σ H Q' := by
  refine h.run h0 h1 ?_
  unfold PT'
  cases q : a env st with
  | val vs st1 =>
    rw [q] at hP
    match vs, hP with
    | [v], hP =>
      cases ht : truth v st1 with
      | none =>
        have hP2 : PT' cls as (k v st1) QT (fun c d H' => W c d σ H') := hP
        rw [hk v st1 ht] at hP2
        exact hP2.elim
      | some b =>
        have hP2 : PT' cls as (k v st1) QT (fun c d H' => W c d σ H') := hP
        refine ⟨b, ht, fun as1 H1 p R1 => g v b st1 as1 H1 p R1 (h1.mono p) ht ?_⟩
        unfold PT' at hP2 ⊢
        split
        · rename_i v2 st2 e2
          rw [e2] at hP2
          obtain ⟨b2, hb2, k2⟩ := hP2
          exact ⟨b2, hb2, fun a' H' z => k2 a' H' (p.trans z)⟩
        · rename_i c fs en st2 e2
          rw [e2] at hP2
          exact fun a' H' cv d z => hP2 a' H' cv d (p.trans z)
        · rename_i n1 n2
          split at hP2
          · rename_i e2
            exact absurd e2 (n1 _ _)
          · rename_i e2
            exact absurd e2 (n2 _ _ _ _)
          · exact hP2
    | [], hP => exact hP.elim
    | _ :: _ :: _, hP => exact hP.elim
  | exc c fs en st1 =>
    rw [q] at hP
    exact hP
  | nxt a b => rw [q] at hP; exact hP.elim
  | ret a b => rw [q] at hP; exact hP.elim
  | stk => rw [q] at hP; exact hP.elim
omit hG in
theorem sw_and {rest : List Expr} (ha : ST cls G W ea a) (hb : SW cls G W (.BoolOp .And (eb :: rest) pos) b) : SW cls G W (.BoolOp .And (ea :: eb :: rest) pos) (fAnd a b) := by
  intro env st as σ H Q h0 h1 hP
  refine ⟨tAnd (UT G ea) (fun σ H Q => ∃ t, (∀ X, G X → PW X (.BoolOp .And (eb :: rest) pos) t) ∧ t σ H Q), fun X hX => pw_and (pt_U hX) ⟨fun wh pins s σ H Q I ⟨t, ht, q⟩ => (ht X hX).run wh pins s σ H Q I q⟩, ?_⟩
  refine ha.goT h0 h1 hP (fun v k st1 as1 H1 p1 R1 S1 ht hP1 => ?_) (fun v st1 ht => by simp only [ht])
  rw [ht] at hP1
  cases k with
  | true =>
    show ∃ t, _
    exact hb env st1 as1 σ H1 Q R1 S1 hP1
  | false =>
    obtain ⟨b2, hb2, k2⟩ := hP1
    have e2 : false = b2 := Option.some.inj (ht.symm.trans hb2)
    subst e2
    exact k2 as1 H1 (List.prefix_refl _) R1
omit hG in
theorem sw_or {rest : List Expr} (ha : ST cls G W ea a) (hb : SW cls G W (.BoolOp .Or (eb :: rest) pos) b) : SW cls G W (.BoolOp .Or (ea :: eb :: rest) pos) (fOr a b) := by
  intro env st as σ H Q h0 h1 hP
  refine ⟨tOr (UT G ea) (fun σ H Q => ∃ t, (∀ X, G X → PW X (.BoolOp .Or (eb :: rest) pos) t) ∧ t σ H Q), fun X hX => pw_or (pt_U hX) ⟨fun wh pins s σ H Q I ⟨t, ht, q⟩ => (ht X hX).run wh pins s σ H Q I q⟩, ?_⟩
  refine ha.goT h0 h1 hP (fun v k st1 as1 H1 p1 R1 S1 ht hP1 => ?_) (fun v st1 ht => by simp only [ht])
  rw [ht] at hP1
  cases k with
  | false =>
    show ∃ t, _
    exact hb env st1 as1 σ H1 Q R1 S1 hP1
  | true =>
    obtain ⟨b2, hb2, k2⟩ := hP1
    have e2 : true = b2 := Option.some.inj (ht.symm.trans hb2)
    subst e2
    exact k2 as1 H1 (List.prefix_refl _) R1
omit hG in
theorem sw_one {op : BoolOp} (ha : ST cls G W ea a) : SW cls G W (.BoolOp op [ea] pos) a := by
  intro env st as σ H Q h0 h1 hP
  cases op with
  | And => exact ⟨UT G ea, fun X hX => pw_and1 (pt_U hX), ha.run h0 h1 hP⟩
  | Or => exact ⟨UT G ea, fun X hX => pw_or1 (pt_U hX), ha.run h0 h1 hP⟩
omit hG in
theorem se_one {op : BoolOp} (ha : SE cls G W ea a) : SE cls G W (.BoolOp op [ea] pos) a := fun env st as σ H Q h0 h1 hP => ⟨UE G ea, fun X hX => pe_one (pe_U hX), ha env st as σ H Q h0 h1 hP⟩
theorem se_and {rest : List Expr} (ha : SE cls G W ea a) (hb : SE cls G W (.BoolOp .And (eb :: rest) pos) b) : SE cls G W (.BoolOp .And (ea :: eb :: rest) pos) (fAnd a b) := by
  intro env st as σ H Q h0 h1 hP
  refine ⟨tAndT K (UE G ea) (UE G (.BoolOp .And (eb :: rest) pos)), fun X hX => ?_, ha.go h0 h1 hP fun v st1 as1 w H1 p1 R1 S1 V1 hP1 => ?_⟩
  · rw [← (hG X hX).1.k]
    exact pe_andT (pe_U hX) (pe_U hX)
  · split at hP1
    · exact hP1.elim
    · rename_i ht
      exact ⟨true, truth_ok R1 V1 ht, by rw [if_pos rfl]; exact hb env st1 as1 σ H1 Q R1 S1 hP1⟩
    · rename_i ht
      exact ⟨false, truth_ok R1 V1 ht, by rw [if_neg (by decide)]; exact hP1.got R1 V1⟩
theorem se_or {rest : List Expr} (ha : SE cls G W ea a) (hb : SE cls G W (.BoolOp .Or (eb :: rest) pos) b) : SE cls G W (.BoolOp .Or (ea :: eb :: rest) pos) (fOr a b) := by
  intro env st as σ H Q h0 h1 hP
  refine ⟨tOrT K (UE G ea) (UE G (.BoolOp .Or (eb :: rest) pos)), fun X hX => ?_, ha.go h0 h1 hP fun v st1 as1 w H1 p1 R1 S1 V1 hP1 => ?_⟩
  · rw [← (hG X hX).1.k]
    exact pe_orT (pe_U hX) (pe_U hX)
  · split at hP1
    · exact hP1.elim
    · rename_i ht
      exact ⟨true, truth_ok R1 V1 ht, by rw [if_pos rfl]; exact hP1.got R1 V1⟩
    · rename_i ht
      exact ⟨false, truth_ok R1 V1 ht, by rw [if_neg (by decide)]; exact hb env st1 as1 σ H1 Q R1 S1 hP1⟩
def fIte (c a b : Ev → Store → R) : Ev → Store → R := fun env st => (c env st).b1 fun x st1 => match truth x st1 with
  | none => .stk
  | some true => a env st1
  | some false => b env st1
omit hG in
theorem se_ife (hc : ST cls G W ec c) (ha : SE cls G W ea a) (hb : SE cls G W eb b) : SE cls G W (.IfExp ec ea eb pos) (fIte c a b) := by
  intro env st as σ H Q h0 h1 hP
  refine ⟨tIf (UT G ec) (UE G ea) (UE G eb), fun X hX => pe_ifExp (pt_U hX) (pe_U hX) (pe_U hX), hc.go h0 h1 hP (fun v k st1 as1 H1 p1 R1 S1 ht hP1 => ?_) (fun v st1 ht => by simp only [ht])⟩
  rw [ht] at hP1
  cases k with
  | true =>
    rw [if_pos rfl]
    exact ha env st1 as1 σ H1 Q R1 S1 hP1
  | false =>
    rw [if_neg (by decide)]
    exact hb env st1 as1 σ H1 Q R1 S1 hP1
/-- a < b < c -/
theorem se_cmp2 {op op' : CmpOp} (hm : lastMarks [op, op'] [eb, ec] = false) (ha : SE cls G W ea a) (hb : SE cls G W eb b) (hc : SE cls G W ec c) : SE cls G W (.Compare ea [op, op'] [eb, ec] pos) (fun env st => (a env st).b1 fun x st1 => (b env st1).b1 fun y st2 => (cmpD op x y st2).b1 fun z st3 => match z with
    | .bl true => (c env st3).b1 fun w st4 => cmpD op' y w st4
    | .bl false => one (.bl false) st3
    | _ => .stk) := by
  intro env st as σ H Q h0 h1 hP; dsimp only at hP
  refine ⟨tChain (UOp G (compareOp op)) (UOp G (compareOp op')) (UE G ea) (UE G eb) (UE G ec), fun X hX => pe_chain (op_U hX) (op_U hX) (pe_U hX) (pe_U hX) (pe_U hX) hm,
    ha.go h0 h1 hP fun v st1 as1 w H1 p1 R1 S1 V1 hP1 => hb.go R1 S1 hP1 fun u st2 as2 y H2 p2 R2 S2 V2 hP2 => ?_⟩
  refine cmp_ok (hGB hG) R2 (V1.mono p2) V2 (X := fun c d H' => W c d σ H') ?_
  cases q : cmpD op v u st2 with
  | val vs st3 =>
    rw [q] at hP2
    match vs, hP2 with
    | [z0], hP2 =>
      intro as3 z H3 p3 R3 V3
      have hP3 := PV.mono p3 hP2
      cases z0 with
      | bl k =>
        cases V3
        cases k with
        | true =>
          refine ⟨true, rfl, ?_⟩
          rw [if_pos rfl]
          exact hc.go R3 (S2.mono p3) hP3 fun w4 st4 as4 w' H4 p4 R4 S4 V4 hP4 => cmp_ok (hGB hG) R4 ((V2.mono p3).mono p4) V4 hP4
        | false =>
          refine ⟨false, rfl, ?_⟩
          rw [if_neg (by decide)]
          exact PV.got (v := .bl false) hP3 R3 rfl
      | _ => exact hP3.elim
    | [], hP2 => exact hP2.elim
    | _ :: _ :: _, hP2 => exact hP2.elim
  | exc c fs en st1 =>
    rw [q] at hP2
    exact hP2
  | nxt a b => rw [q] at hP2; exact hP2.elim
  | ret a b => rw [q] at hP2; exact hP2.elim
  | stk => rw [q] at hP2; exact hP2.elim
/-! ### arguments, displays -/
omit hG in
theorem sa_nil : SA cls G W [] (fun _ st => .val [] st) := fun env st as σ H Q h0 h1 hP => ⟨tNil, fun X hX => pa_nil, hP as [] H (List.prefix_refl _) h0 .nil⟩
omit hG in
theorem sa_cons (hs : isStar ea = false) (ha : SE cls G W ea a) (hb : SA cls G W es b) : SA cls G W (ea :: es) (fun env st => (a env st).b1 fun x st1 => (b env st1).bs fun xs st2 => .val (x :: xs) st2) := fun env st as σ H Q h0 h1 hP => by
  refine ⟨tCons (UE G ea) (UA G es), fun X hX => pa_cons (pe_U hX) (pa_U hX) (star_cons hs), ha.goL h0 h1 hP fun v st1 as1 w H1 p1 R1 S1 V1 hP1 => hb.goL R1 S1 hP1 fun us st2 as2 ws H2 p2 R2 S2 V2 hP2 => ?_⟩
  exact hP2 as2 (w :: ws) H2 (List.prefix_refl _) R2 (.cons (V1.mono p2) V2)
omit hG in
theorem se_tup {k : Nat} (ha : SA cls G W es a) : SE cls G W (.Tuple es k pos) (fun env st => (a env st).bs fun xs st1 => if xs.length ≤ sz then new (.tup xs) st1 else .stk) := fun env st as σ H Q h0 h1 hP => by
  refine ⟨tTup (UA G es), fun X hX => pe_tup (pa_U hX), ha.go h0 h1 hP fun vs st1 as1 ws H1 p1 R1 S1 V1 hP1 => ?_⟩
  split at hP1
  · rename_i hl
    exact ⟨by rw [← sz_eq, ← P.length V1]; exact hl, fun p hp => hP1.newT R1 V1 hp⟩
  · exact hP1.elim
omit hG in
theorem se_lst (ha : SA cls G W es a) : SE cls G W (.List es pos) (fun env st => (a env st).bs fun xs st1 => if xs.length ≤ sz then new (.lst xs) st1 else .stk) := fun env st as σ H Q h0 h1 hP => by
  refine ⟨tLst (UA G es), fun X hX => pe_lst (pa_U hX), ha.go h0 h1 hP fun vs st1 as1 ws H1 p1 R1 S1 V1 hP1 => ?_⟩
  split at hP1
  · rename_i hl
    exact ⟨by rw [← sz_eq, ← P.length V1]; exact hl, fun p hp => hP1.newL R1 V1 hp⟩
  · exact hP1.elim
omit hG in
theorem se_dic0 : SE cls G W (.Dict [] [] pos) (fun _ st => new (.dK []) st) := fun env st as σ H Q h0 h1 hP =>
  ⟨tDNewK, fun X hX => pe_dnewK, fun p hp => hP.laid h0 hp ⟨[], .nil, upd_same⟩⟩
/-! ### subscripts, slices, fields -/
def noSlice : Expr → Bool
  | .Slice _ _ _ _ => false
  | _ => true
omit hG in
theorem plainIx {e : Expr} (h : noSlice e = true) : PlainIx e := fun o i => by
  cases e <;> first | rfl | cases h
theorem se_idx (hs : noSlice eb = true) (ha : SE cls G W ea a) (hb : SE cls G W eb b) : SE cls G W (.Subscript ea eb pos) (fun env st => (a env st).b1 fun x st1 => (b env st1).b1 fun y st2 => idxD x y st2) := by
  intro env st as σ H Q h0 h1 hP
  exact ⟨tOp (UIx G) (UE G ea) (UE G eb), fun X hX => pe_ix (ix_U hX) (pe_U hX) (pe_U hX) (plainIx hs),
    ha.go h0 h1 hP fun v st1 as1 w H1 p1 R1 S1 V1 hP1 => hb.go R1 S1 hP1 fun u st2 as2 y H2 p2 R2 S2 V2 hP2 => idx_ok (hGB hG) R2 (V1.mono p2) V2 hP2⟩
omit hG in
theorem so_none : SO cls G W none (fun _ st => .val [] st) := fun env st as σ H Q h0 h1 hP => by
  obtain ⟨l, hl, k⟩ := hP
  have : none = l := Option.some.inj hl
  subst this
  exact ⟨tNoPart, fun X hX => po_none, k as H (List.prefix_refl _) h0⟩
omit hG in
theorem so_some (ha : SE cls G W ea a) : SO cls G W (some ea) (fun env st => (a env st).b1 fun x st1 => .val [x] st1) := fun env st as σ H Q h0 h1 hP => by
  refine ⟨tPart (UE G ea), fun X hX => po_some (pe_U hX), ha env st as σ H _ h0 h1 ?_⟩
  dsimp only at hP
  cases q : a env st with
  | val vs st1 =>
    rw [q] at hP
    match vs, hP with
    | [v], hP =>
      obtain ⟨l, hl, k⟩ := hP
      cases v with
      | int i =>
        have : some i = l := Option.some.inj hl
        subst this
        exact fun as1 w H1 p R1 r => ⟨i, r, k as1 H1 p R1⟩
      | _ => cases hl
    | [], hP => exact hP.elim
    | _ :: _ :: _, hP => exact hP.elim
  | exc c fs en st1 =>
    rw [q] at hP
    exact hP
  | nxt a b => rw [q] at hP; exact hP.elim
  | ret a b => rw [q] at hP; exact hP.elim
  | stk => rw [q] at hP; exact hP.elim
omit hG in
theorem SO.go {e : Option Expr} (h : SO cls G W e a) {env : Ev} {st : Store} {as : List Addr} {σ : L2.St} {H : Hp} {Q : VK} (h0 : Rel cls as st H) (h1 : SR as env σ) {k : List V → Store → R} (hP : PV cls as ((a env st).bs k) Q (fun c d H' => W c d σ H')) {Q' : Option Int → Hp → Prop}
    (g : ∀ vs l st1 as1 H1, as <+: as1 → Rel cls as1 st1 H1 → SR as1 env σ → part vs = some l → PV cls as1 (k vs st1) Q (fun c d H' => W c d σ H') → Q' l H1) (hk : ∀ vs st1, part vs = none → ¬ PV cls as (k vs st1) Q (fun c d H' => W c d σ H')) : UO G e σ H Q' := by
  refine h env st as σ H Q' h0 h1 ?_
  cases q : a env st with
  | val vs st1 =>
    rw [q] at hP
    have hP2 : PV cls as (k vs st1) Q (fun c d H' => W c d σ H') := hP
    cases hl : part vs with
    | none => exact absurd hP2 (hk vs st1 hl)
    | some l => exact ⟨l, hl, fun as1 H1 p R1 => g vs l st1 as1 H1 p R1 (h1.mono p) hl (hP2.mono p)⟩
  | exc c fs en st1 =>
    rw [q] at hP
    exact hP
  | nxt a b => rw [q] at hP; exact hP.elim
  | ret a b => rw [q] at hP; exact hP.elim
  | stk => rw [q] at hP; exact hP.elim
omit hG in
theorem bs_stk {r : R} {Q : VK} {X : XK} {as : List Addr} {k : List V → Store → R} (hk : ∀ vs st, k vs st = .stk) (hx : ∀ c fs en st1, r = .exc c fs en st1 → False) : ¬ PV cls as (r.bs k) Q X := fun h => by
  cases r with
  | val vs st => 
    have h2 : PV cls as (k vs st) Q X := h
    rw [hk] at h2
    exact h2
  | exc c fs en st => exact hx _ _ _ _ rfl
  | _ => exact h
theorem se_slc {lo hi : Option Expr} {p2 : Pos} (ha : SE cls G W ea a) (hb : SO cls G W lo b) (hc : SO cls G W hi c) : SE cls G W (.Subscript ea (.Slice lo hi none p2) pos) (fun env st => (a env st).b1 fun x st1 => (b env st1).bs fun l st2 => match part l with
    | none => .stk
    | some l => (c env st2).bs fun h st3 => match part h with
      | none => .stk
      | some h => slcD x l h st3) := by
  intro env st as σ H Q h0 h1 hP; dsimp only at hP
  refine ⟨tSl (USl G) (UE G ea) (UO G lo) (UO G hi), fun X hX => pe_slice (sl_U hX) (pe_U hX) (po_U hX) (po_U hX),
    ha.go h0 h1 hP fun v st1 as1 w H1 p1 R1 S1 V1 hP1 => hb.go R1 S1 hP1 (fun vs l st2 as2 H2 p2 R2 S2 hl hP2 => ?_) (fun vs st hl => by rw [hl]; exact id)⟩
  rw [hl] at hP2
  refine hc.go R2 S2 hP2 (fun vs h st3 as3 H3 p3 R3 S3 hl3 hP3 => ?_) (fun vs st hl => by rw [hl]; exact id)
  rw [hl3] at hP3
  exact slc_ok (hGB hG) R3 ((V1.mono p2).mono p3) hP3
/-! ### fields -/
omit hG in
theorem KRs.lookup {as : List Addr} {f : Str} {v : V} : ∀ {fs gs : List (Str × V)}, KRs as fs gs → fs.lookup f = some v → ∃ w, gs.lookup f = some w ∧ VR as v w
  | _, _, .nil, h => by cases h
  | _, _, .cons (a := p) (b := q) g r, h => by
    obtain ⟨g1, g2⟩ := g
    rw [List.lookup_cons] at h ⊢
    rw [← g1]
    cases e : (f == p.1) with
    | true =>
      rw [e] at h
      exact ⟨q.2, rfl, by rw [← Option.some.inj h]; exact g2⟩
    | false =>
      rw [e] at h
      exact KRs.lookup r h
omit hG in
theorem KRs.lookup_none {as : List Addr} {f : Str} : ∀ {fs gs : List (Str × V)}, KRs as fs gs → fs.lookup f = none → gs.lookup f = none
  | _, _, .nil, h => rfl
  | _, _, .cons (a := p) (b := q) g r, h => by
    obtain ⟨g1, g2⟩ := g
    rw [List.lookup_cons] at h ⊢
    rw [← g1]
    cases e : (f == p.1) with
    | true =>
      rw [e] at h
      cases h
    | false =>
      rw [e] at h
      exact KRs.lookup_none r h
theorem se_fld (T : Tab P w K mg base cls Pg cf lv) {f : Str} (hb : plainBase ea = true) (ha : SE cls G W ea a) : SE cls G W (.Attribute ea f pos) (fun env st => (a env st).b1 fun x st1 => match x with
    | .ref p => match st1[p]? with
      | some (.ins c fs) => if Pg.fld c f then (match fs.lookup f with
        | some v => one v st1
        | none => .stk) else .stk
      | _ => .stk
    | _ => .stk) := by
  intro env st as σ H Q h0 h1 hP
  refine ⟨tFld K (UE G ea) f, fun X hX => ?_, ha.go h0 h1 hP fun v st1 as1 w H1 p1 R1 S1 V1 hP1 => ?_⟩
  · rw [← (hG X hX).1.k]
    exact pe_fld (pe_U hX) (base_ok hb)
  · split at hP1
    · split at hP1
      · rename_i p c fs e
        obtain ⟨a, dx, gs, rfl, _, r, z⟩ := R1.ins V1 e
        split at hP1
        · rename_i hf
          split at hP1
          · rename_i v e2
            obtain ⟨w, q1, q2⟩ := KRs.lookup r e2
            exact ⟨a, cls c, dx, gs, w, rfl, z, (T.fld c f hf).1, (T.fld c f hf).2, q1, hP1.got R1 q2⟩
          · exact hP1.elim
        · exact hP1.elim
      · exact hP1.elim
    · exact hP1.elim
end
end
end Mi
set_option maxHeartbeats 2000000
/-! Mi: calls. -/
namespace Mi
open PySem PySem.Spec PyProof.Rows L2

section
variable {P : Program} {w : World} {K : PySem.W.Frag} {mg : Str → Option Value} {base : Heap} {cls : Str → Addr} {Pg : Prog} {cf : Str → List V → Store → R} {lv : Nat} {S : Sc} {G : Cx → Prop} {W : WX}
variable {e ea eb ec eo : Expr} {es : List Expr} {a b c o : Ev → Store → R} {x m : Str} {pos p apos : Pos}
variable {as : List Addr} {st : Store} {H : Hp} {Q : VK}

theorem exE_pv {r : R} {env : Ev} {X : XK} (h : PV cls as (exE r env) Q X) : PV cls as r Q X := by
  cases r with
  | exc c fs en st => exact h
  | _ => exact h
theorem dfl_rel {dv : List V} (h : dv.all (fun v => !isRef v) = true) : VRs as dv dv := by
  induction dv with
  | nil => exact .nil
  | cons v r ih =>
    obtain ⟨h1, h2⟩ := Bool.and_eq_true_iff.mp (show (!isRef v && r.all (fun v => !isRef v)) = true from h)
    exact .cons (VR.of (by simpa using h1)) (ih h2)
theorem all_drop {f : V → Bool} : ∀ {dv : List V} (n : Nat), dv.all f = true → (dv.drop n).all f = true
  | _, 0, h => h
  | [], n + 1, h => rfl
  | v :: r, n + 1, h => all_drop n (Bool.and_eq_true_iff.mp h).2
/-- what a callee is handed: the arguments, the defaults -/
theorem sp_of (T : Tab P w K mg base cls Pg cf lv) {f : Str} {F : Fn} {ad : Addr} (hf : Pg.fn f = some F) (A : FnT P w K mg base cls cf lv f F ad) {vs ws : List V} {X : XK} (R : Rel cls as st H) (r : VRs as vs ws) (hP : PV cls as (cf f vs st) Q X) :
    vs.length ≤ F.ps.length ∧ F.ps.length ≤ vs.length + F.dfl.length ∧ spI cls cf f F.ps.length (ws ++ F.dfl.drop (vs.length + F.dfl.length - F.ps.length)) H Q X := by
  by_cases hl : vs.length ≤ F.ps.length ∧ F.ps.length ≤ vs.length + F.dfl.length
  · refine ⟨hl.1, hl.2, as, st, vs ++ F.dfl.drop (vs.length + F.dfl.length - F.ps.length), ?_, R, Mi.P.append r (dfl_rel (all_drop _ A.dfl)), ?_⟩
    · rw [List.length_append, List.length_drop]
      omega
    · rw [← (T.full f F vs st hf).1 hl]
      exact hP
  · rw [(T.full f F vs st hf).2 hl] at hP
    exact hP.elim

section
variable (hG : ∀ X, G X → GX P w K mg base (lv + 1) S X ∧ Takes X W)
include hG
/-- f(..) -/
theorem se_call (T : Tab P w K mg base cls Pg cf lv) {f : Str} {F : Fn} (hs : noStar es = true) (hg : S.sc.names.lookup f = some .globalImplicit) (hd : (f == ("__debug__" : Str)) = false) (hF : Pg.fn f = some F) (ht : F.top = true) (ha : SA cls G W es a) :
    SE cls G W (.Call (.Name f p) es [] pos) (fun env st => (a env st).bs fun xs st1 => exE (cf f xs st1) env) := by
  obtain ⟨ad, hm, A⟩ := T.fn f F hF ht
  obtain ⟨fd, Fok, Fb⟩ := A.ex
  intro env st as σ H Q h0 h1 hP; dsimp only at hP
  refine ⟨fun σ H Q => UA G es σ H fun ws H1 => ws.length ≤ F.ps.length ∧ F.ps.length ≤ ws.length + F.dfl.length ∧ spI cls cf f F.ps.length (ws ++ F.dfl.drop (ws.length + F.dfl.length - F.ps.length)) H1 Q (WE W σ), fun X hX => ?_, ?_⟩
  · have hgl := gl_of hG hX hg
    obtain ⟨⟨rfl, rfl, rfl, rfl, rfl, en, nd, esc, kd, cm, rm, ow⟩, tk⟩ := hG X hX
    refine ⟨fun pins s σ H Q I h => ?_⟩
    refine wpAny_Call_Name_kw (ld_glob I hgl hm ?_ hd)
    refine callWith_es hs A.kp (pa_U hX) I h fun ws H1 us s1 ⟨l1, l2, q⟩ I1 r => ?_
    obtain ⟨ds, d1, d2⟩ := Fb ws.length l1 l2
    exact run_fnSD Fok (rm.mono (Nat.le_succ lv)) d2 d1 (passAt tk σ) I1 r q
  · refine ha.go h0 h1 hP fun vs st1 as1 ws H1 p1 R1 S1 V1 hP1 => ?_
    have := sp_of T hF A R1 V1 (exE_pv hP1)
    rw [Mi.P.length V1] at this
    exact this

/-- a method of an own class: the tree -/
theorem pe_methU (T : Tab P w K mg base cls Pg cf lv) {c f : Str} (hb : plainBase eo = true) (hs : noStar es = true) (hl : (apos.endLine == pos.line) = true) (hn : es.length < 30) (hm : Pg.meth c m = some f) {X : Cx} (hX : G X) :
    PE X (.Call (.Attribute eo m apos) es [] pos) (fun σ H Q => UE G eo σ H fun x H1 => ∃ ad dx gs, x = .ref ad ∧ H1 ad = some (.ins (cls c) dx gs) ∧ gs.lookup m = none ∧
      UA G es σ H1 fun ws H2 => ∃ F, Pg.fn f = some F ∧ ws.length + 1 ≤ F.ps.length ∧ F.ps.length ≤ ws.length + 1 + F.dfl.length ∧ spI cls cf f F.ps.length (x :: ws ++ F.dfl.drop (ws.length + 1 + F.dfl.length - F.ps.length)) H2 Q (WE W σ)) := by
  obtain ⟨F, ad, hF, hc, hme, A⟩ := T.meth c m f hm
  obtain ⟨fd, Fok, Fb⟩ := A.ex
  obtain ⟨⟨rfl, rfl, rfl, rfl, rfl, en, nd, esc, kd, cm, rm, ow⟩, tk⟩ := hG X hX
  refine ⟨fun pins s σ H Q I h => ?_⟩
  refine PySem.W.methodCall_KW (pl := plainOf eo X.env) (thn ((pe_U hX).run pins s σ H _ I h) fun u s1 ⟨x, H1, I1, rx, a, dx, gs, ex, ea, l, q⟩ => ?_) (meth_tree hb hs hl hn)
  subst ex
  obtain rfl : u = Value.ref a := rx
  refine getmeth_ok I1 ea hc hme l ?_
  refine callWith_es hs A.kp (pa_U hX) I1 q fun ws H2 us s2 ⟨F', hF', l1, l2, q⟩ I2 r => ?_
  rw [hF] at hF'
  obtain rfl : F = F' := Option.some.inj hF'
  obtain ⟨ds, d1, d2⟩ := Fb (ws.length + 1) l1 l2
  exact run_fnSD (us := .ref a :: us) (vs := .ref a :: ws) Fok (rm.mono (Nat.le_succ lv)) d2 d1 (passAt tk σ) I2 (.cons rfl r) q
theorem se_meth (T : Tab P w K mg base cls Pg cf lv) (hb : plainBase eo = true) (hs : noStar es = true) (hl : (apos.endLine == pos.line) = true) (hn : es.length < 30) (ho : SE cls G W eo o) (ha : SA cls G W es a) :
    SE cls G W (.Call (.Attribute eo m apos) es [] pos) (fun env st => (o env st).b1 fun x st1 => match x with
    | .ref p => match st1[p]? with
      | some (.ins c fs) => if (fs.lookup m).isNone then (match Pg.meth c m with
          | some f => (a env st1).bs fun xs st2 => exE (cf f (.ref p :: xs) st2) env
          | none => .stk) else .stk
      | _ => .stk
    | _ => .stk) := by
  intro env st as σ H Q h0 h1 hP; dsimp only at hP
  cases q : o env st with
  | val vs st1 =>
    rw [q] at hP
    match vs, hP with
    | [v], hP =>
      unfold R.b1 at hP
      dsimp only at hP
      split at hP
      · rename_i p _
        split at hP
        · rename_i c fs e
          split at hP
          · rename_i hlk
            split at hP
            · rename_i f hm
              refine ⟨_, fun X hX => pe_methU hG T (c := c) (f := f) hb hs hl hn hm hX, ?_⟩
              refine ho env st as σ H _ h0 h1 ?_
              rw [q]
              intro as1 w1 H1 p1 R1 V1
              obtain ⟨ad, dx, gs, rfl, i1, r1, z1⟩ := R1.ins V1 e
              refine ⟨ad, dx, gs, rfl, z1, KRs.lookup_none r1 (by simpa using hlk), ?_⟩
              refine ha.go R1 (h1.mono p1) (PV.mono p1 hP) fun xs st2 as2 ws H2 p2 R2 S2 V2 hP2 => ?_
              obtain ⟨F, adF, hF, hc, hme, A⟩ := T.meth c m f hm
              have h3 := sp_of T hF A R2 (Paired.cons (V1.mono p2) V2) (exE_pv hP2)
              rw [List.length_cons, Mi.P.length V2] at h3
              exact ⟨F, hF, h3⟩
            · exact hP.elim
          · exact hP.elim
        · exact hP.elim
      · exact hP.elim
    | [], hP => exact hP.elim
    | _ :: _ :: _, hP => exact hP.elim
  | exc c fs en st1 =>
    rw [q] at hP
    refine ⟨fun σ H Q => UE G eo σ H fun x H1 => False, fun X hX => ⟨fun pins s σ H Q I h => ?_⟩, ho env st as σ H _ h0 h1 (by rw [q]; exact hP)⟩
    exact PySem.W.methodCall_KW (pl := plainOf eo X.env) (thn ((pe_U hX).run pins s σ H _ I h) fun u s1 ⟨x, H1, I1, rx, z⟩ => z.elim) (meth_tree hb hs hl hn)
  | nxt a b => rw [q] at hP; exact hP.elim
  | ret a b => rw [q] at hP; exact hP.elim
  | stk => rw [q] at hP; exact hP.elim

/-! ### methods of built-in types -/
omit hG in
/-- what a method's tag stands for -/
structure MtI (m : Str) (T id : String) : Prop where
  pa : PlainAttrs T
  slot : Slot T m id
  ty : typeOf (.builtin id) = pure (.type "method_descriptor")
def mtT : Mt → String
  | .lAppend | .lClear | .lPop | .lExtend | .lIndex => "list"
  | .dGet | .dPop => "dict"
  | .sJoin | .sLines | .sZfill => "str"
def mtId : Mt → String
  | .lAppend => "list.append"
  | .lClear => "list.clear"
  | .lPop => "list.pop"
  | .lExtend => "list.extend"
  | .lIndex => "list.index"
  | .dGet => "dict.get"
  | .dPop => "dict.pop"
  | .sJoin => "str.join"
  | .sLines => "str.splitlines"
  | .sZfill => "str.zfill"
def mtN : Mt → Str
  | .lAppend => "append"
  | .lClear => "clear"
  | .lPop => "pop"
  | .lExtend => "extend"
  | .lIndex => "index"
  | .dGet => "get"
  | .dPop => "pop"
  | .sJoin => "join"
  | .sLines => "splitlines"
  | .sZfill => "zfill"
omit hG in
theorem mt_info (m : Mt) : MtI (mtN m) (mtT m) (mtId m) := by
  cases m
  · exact ⟨PySem.F.plainAttrs_list, PySem.F.slot_list_append, PySem.F.type_list_append⟩
  · exact ⟨PySem.F.plainAttrs_list, PySem.F.slot_list_clear, PySem.F.type_list_clear⟩
  · exact ⟨PySem.F.plainAttrs_list, PySem.F.slot_list_pop, PySem.F.type_list_pop⟩
  · exact ⟨PySem.F.plainAttrs_list, PySem.F.slot_list_extend, PySem.F.type_list_extend⟩
  · exact ⟨PySem.F.plainAttrs_list, PySem.F.slot_list_index, PySem.F.type_list_index⟩
  · exact ⟨PySem.F.plainAttrs_dict, PySem.F.slot_dict_get, PySem.F.type_dict_get⟩
  · exact ⟨PySem.F.plainAttrs_dict, PySem.F.slot_dict_pop, PySem.F.type_dict_pop⟩
  · exact ⟨PySem.F.plainAttrs_str, PySem.F.slot_str_join, PySem.F.type_str_join⟩
  · exact ⟨PySem.F.plainAttrs_str, PySem.F.slot_str_splitlines, PySem.F.type_str_splitlines⟩
  · exact ⟨PySem.F.plainAttrs_str, PySem.F.slot_str_zfill, PySem.F.type_str_zfill⟩
omit hG in
theorem bmTy_ok {m : Mt} {v x : V} (R : Rel cls as st H) (hx : VR as v x) (h : bmTy m v st = true) : tyV K (mtT m) x H := by
  unfold bmTy at h
  split at h
  · split at h
    iterate 4
      split at h
      · rename_i e
        obtain ⟨a, ys, rfl, _, _, z⟩ := R.lst hx e
        exact .inl ⟨rfl, ys, SqL.of z⟩
      · cases h
    · split at h
      · rename_i e
        obtain ⟨a, ys, rfl, _, _, z⟩ := R.lst hx e
        exact .inl ⟨rfl, ys, SqL.of z⟩
      · rename_i e
        obtain ⟨a, ys, rfl, _, _, z⟩ := R.fro hx e
        exact .inl ⟨rfl, ys, .inl z⟩
      · cases h
    iterate 2
      split at h
      · rename_i e
        obtain ⟨a, ys, rfl, _, _, z⟩ := R.dK hx e
        exact .inr (.inr (.inl ⟨rfl, .inl ⟨_, z⟩⟩))
      · cases h
    · cases h
  · cases hx
    split at h
    · rfl
    · rfl
    · rfl
    · cases h
  · cases h
omit hG in
theorem KRs.dropK {κ : Type} [DecidableEq κ] {as : List Addr} {k : κ} {kvs kws : List (κ × V)} (h : KRs as kvs kws) : KRs as (L2.dropK kvs k) (L2.dropK kws k) := by
  unfold L2.dropK
  induction h with
  | nil => exact .nil
  | cons f _ ih =>
    rw [List.filter_cons, List.filter_cons, f.1]
    split
    · exact .cons f ih
    · exact ih
omit hG in
theorem keyOf_rel {as : List Addr} {v w : V} {k : Key} (h : VR as v w) (e : keyOf? v = some k) : w = kV k := by
  cases v with
  | str a =>
    cases h
    cases e
    rfl
  | int a =>
    cases h
    cases e
    rfl
  | _ => cases e
omit hG in
theorem mt_dget {X : Cx} (hu : X.A.units + 1 < cLine) : MtR X "dict.get" (fun x xs H Q => ∃ a y ov, x = .ref a ∧ xs = [y] ∧ DGet H a y ov ∧ Q (ov.getD .non) H) := by
  intro pins s σ H x xs v us Q I rx rs h
  obtain ⟨a, y, ov, rfl, rfl, g, q⟩ := h
  cases rx
  cases rs with
  | cons r1 rs =>
    cases rs
    exact d_get1 hu I g r1 fun w' s3 I3 rw' => ⟨_, H, I3, rw', q⟩
omit hG in
theorem mt_dpop {X : Cx} : MtR X "dict.pop" (fun x xs H Q => ∃ a kvs k v, x = .ref a ∧ xs = [kV k] ∧ H a = some (.dK kvs) ∧ valV kvs k = some v ∧ Q v (upd H a (.dK (dropK kvs k)))) := by
  intro pins s σ H x xs v us Q I rx rs h
  obtain ⟨a, kvs, k, u, rfl, rfl, e, l, q⟩ := h
  cases rx
  cases rs with
  | cons r1 rs =>
    cases rs
    exact d_pop I e r1 l (.inl rfl) fun w' s3 I3 rw' => ⟨u, _, I3, rw', q⟩
omit hG in
theorem idxOf_at {y : V} : ∀ {zs : List V} {n j : Nat}, idxOf y zs n = some j → ∃ i z, j = n + i ∧ zs[i]? = some z ∧ eqV z y = true ∧ ∀ (m : Nat) (z' : V), m < i → zs[m]? = some z' → eqV z' y = false
  | [], n, j, h => by cases h
  | z :: zs, n, j, h => by
    unfold idxOf at h
    split at h
    · rename_i e
      cases h
      exact ⟨0, z, rfl, rfl, e, fun m z' hm _ => absurd hm (Nat.not_lt_zero m)⟩
    · rename_i e
      obtain ⟨i, z0, e1, e2, e3, e4⟩ := idxOf_at h
      refine ⟨i + 1, z0, by omega, e2, e3, fun m z' hm hz => ?_⟩
      cases m with
      | zero =>
        cases (Option.some.inj hz : z = z')
        simpa using e
      | succ m => exact e4 m z' (by omega) hz
theorem bmD_ok {m : Mt} {v x : V} {vs ws : List V} {X : XK} (R : Rel cls as st H) (hx : VR as v x) (hv : VRs as vs ws) (hP : PV cls as (bmD m v vs st) Q X) : UM G (mtId m) x ws H Q := by
  unfold bmD at hP
  split at hP
  · obtain ⟨w, rfl, r⟩ := vrs1 hv
    split at hP
    · rename_i xs e
      obtain ⟨a, ys, rfl, i1, r1, z⟩ := R.lst hx e
      split at hP
      · rename_i hl
        refine ⟨_, fun X hX => mt_append, a, ys, w, rfl, rfl, z, by rw [← sz_eq, ← Mi.P.length r1]; exact hl, ?_⟩
        exact hP.put R i1 ⟨_, Mi.P.append r1 (.cons r .nil), upd_same⟩ rfl
      · exact hP.elim
    · exact hP.elim
  · cases hv
    split at hP
    · rename_i xs e
      obtain ⟨a, ys, rfl, i1, r1, z⟩ := R.lst hx e
      refine ⟨_, fun X hX => mt_clear, a, ys, rfl, rfl, z, ?_⟩
      exact hP.put R i1 ⟨_, .nil, upd_same⟩ rfl
    · exact hP.elim
  · cases hv
    split at hP
    · rename_i xs e
      obtain ⟨a, ys, rfl, i1, r1, z⟩ := R.lst hx e
      split at hP
      · rename_i y e2
        obtain ⟨w, q1, q2⟩ := Mi.P.get r1 e2
        refine ⟨_, fun X hX => mt_pop, a, ys, w, rfl, rfl, z, by rw [← Mi.P.length r1]; exact q1, ?_⟩
        exact hP.put R i1 ⟨_, Mi.P.dropLast r1, upd_same⟩ q2
      · exact hP.elim
    · exact hP.elim
  · obtain ⟨w, rfl, r⟩ := vrs1 hv
    split at hP
    · rename_i xs ys e e2
      obtain ⟨a, xs', rfl, i1, r1, z⟩ := R.lst hx e
      obtain ⟨b, ys', rfl, i2, r2, z2⟩ := R.lst r e2
      split at hP
      · rename_i hl
        refine ⟨_, fun X hX => mt_extend, a, b, xs', ys', rfl, rfl, z, z2, by rw [← sz_eq, ← Mi.P.length r1, ← Mi.P.length r2]; exact hl, ?_⟩
        exact hP.put R i1 ⟨_, Mi.P.append r1 r2, upd_same⟩ rfl
      · exact hP.elim
    · exact hP.elim
  · obtain ⟨w, rfl, r⟩ := vrs1 hv
    split at hP
    · rename_i xs e
      obtain ⟨a, ys, rfl, r1, z⟩ := R.lstOf hx e
      split at hP
      · rename_i hf
        obtain ⟨f1, f2⟩ := Bool.and_eq_true_iff.mp hf
        obtain ⟨rfl, rfl⟩ := inV_rel r f1 r1 f2
        split at hP
        · rename_i j ej
          obtain ⟨i, z0, e1, e2, e3, e4⟩ := idxOf_at ej
          rw [Nat.zero_add] at e1
          subst e1
          refine ⟨rIndex K, fun X hX => ?_, a, _, _, j, z0, rfl, rfl, SqL.of z, f1, f2, e2, e3, e4, hP.got R rfl⟩
          rw [← (hG X hX).1.k]
          exact mt_index
        · exact hP.elim
      · exact hP.elim
    · exact hP.elim
  · obtain ⟨w, rfl, r⟩ := vrs1 hv
    split at hP
    · rename_i kvs k e e2
      obtain ⟨a, kws, rfl, i1, r1, z⟩ := R.dK hx e
      have ew := keyOf_rel r e2
      subst ew
      refine ⟨_, fun X hX => mt_dget (by have := (hG X hX).1.room.units; omega), a, _, valV kws k, rfl, rfl, .inl ⟨kws, k, .inl z, rfl, rfl⟩, ?_⟩
      cases ev : valV kvs k with
      | none =>
        rw [ev] at hP
        rw [(valV_rel r1).2 ev]
        exact hP.got R rfl
      | some u =>
        rw [ev] at hP
        obtain ⟨u', q1, q2⟩ := (valV_rel r1).1 u ev
        rw [q1]
        exact hP.got R q2
    · exact hP.elim
  · obtain ⟨w, rfl, r⟩ := vrs1 hv
    split at hP
    · rename_i kvs k e e2
      obtain ⟨a, kws, rfl, i1, r1, z⟩ := R.dK hx e
      have ew := keyOf_rel r e2
      subst ew
      split at hP
      · rename_i u ev
        obtain ⟨u', q1, q2⟩ := (valV_rel r1).1 u ev
        refine ⟨_, fun X hX => mt_dpop, a, kws, k, u', rfl, rfl, z, q1, ?_⟩
        exact hP.put R i1 ⟨_, KRs.dropK r1, upd_same⟩ q2
      · exact hP.elim
    · exact hP.elim
  · obtain ⟨w, rfl, r⟩ := vrs1 hv
    cases hx
    split at hP
    · rename_i xs e
      split at hP
      · rename_i ys e2
        obtain ⟨p, rfl, z⟩ := R.strs r e e2
        split at hP
        · rename_i hl
          refine ⟨fun x xs H Q => ∃ a p, ∃ ys : List Str, x = .str a ∧ xs = [.ref p] ∧ (SqL K H p (ys.map V.str) ∨ SqT K H p (ys.map V.str)) ∧
            (ys.map (·.length)).sum + ys.length * a.length ≤ 16777216 ∧ Q (.str (Txt.join a ys)) H, fun X hX => ?_, _, p, ys, rfl, rfl, .inl (SqL.of z), hl, hP.got R rfl⟩
          rw [← (hG X hX).1.k]
          exact mt_join
        · exact hP.elim
      · exact hP.elim
    · exact hP.elim
  · cases hx
    cases hv
    split at hP
    · rename_i hl
      refine ⟨_, fun X hX => mt_lines, _, rfl, rfl, by rw [← sz_eq]; exact hl.1, by rw [← sz_eq]; exact hl.2, fun p hp => hP.newL R (strs_rel _) hp⟩
    · exact hP.elim
  · obtain ⟨w, rfl, r⟩ := vrs1 hv
    cases r
    cases hx
    split at hP
    · rename_i hl
      exact ⟨_, fun X hX => mt_zfill, _, _, rfl, rfl, hl, hP.got R rfl⟩
    · exact hP.elim
  · exact hP.elim
/-- len(set(xs)) -/
theorem se_lset (T : Tab P w K mg base cls Pg cf lv) {p2 q : Pos} (hs : isStar ea = false) (hg : S.sc.names.lookup ("len" : Str) = some .globalImplicit) (hg2 : S.sc.names.lookup ("set" : Str) = some .globalImplicit) (ha : SE cls G W ea a) :
    SE cls G W (.Call (.Name "len" p) [.Call (.Name "set" p2) [ea] [] q] [] pos) (fun env st => (a env st).b1 fun x st1 => match lstOf st1 x with
    | some xs => match allS xs with
      | some ys => if ys.length ≤ 1 then one (.int (ys.length : Nat)) st1 else .stk
      | none => .stk
    | none => .stk) := by
  intro env st as σ H Q h0 h1 hP; dsimp only at hP
  refine ⟨tLenSet K (UE G ea), fun X hX => ?_, ha.go h0 h1 hP fun v st1 as1 w H1 p1 R1 S1 V1 hP1 => ?_⟩
  · have hm : X.mg "len" = none := by rw [(hG X hX).1.mg]; exact T.bi .len
    have hm2 : X.mg "set" = none := by rw [(hG X hX).1.mg]; exact T.set_
    rw [← (hG X hX).1.k]
    exact pe_lenSet (hG X hX).1.calm (gl_of hG hX hg) hm (gl_of hG hX hg2) hm2 (pe_U hX) (star_cons hs)
  · split at hP1
    · rename_i xs e
      split at hP1
      · rename_i ys e2
        obtain ⟨l, rfl, z⟩ := R1.strs V1 e e2
        split at hP1
        · rename_i hl
          exact ⟨l, ys, rfl, .inl (SqL.of z), hl, hP1.got R1 rfl⟩
        · exact hP1.elim
      · exact hP1.elim
    · exact hP1.elim
omit hG in
/-- xs[::-1] -/
theorem se_rsl (hk : ∀ X, G X → X.K = K) {k : Nat} {p1 p2 p3 : Pos} (ha : SE cls G W ea a) :
    SE cls G W (.Subscript ea (.Slice none none (some (.UnaryOp .USub (.Constant (.int 1) k p1) p2)) p3) pos) (fun env st => (a env st).b1 fun x st1 => match lstOf st1 x with
    | some xs => new (.lst xs.reverse) st1
    | none => .stk) := by
  intro env st as σ H Q h0 h1 hP; dsimp only at hP
  refine ⟨tRevL K (UE G ea), fun X hX => ?_, ha.go h0 h1 hP fun v st1 as1 w H1 p1 R1 S1 V1 hP1 => ?_⟩
  · rw [← hk X hX]
    exact pe_revL (pe_U hX)
  · split at hP1
    · rename_i xs e
      obtain ⟨l, ys, rfl, r, z⟩ := R1.lstOf V1 e
      exact ⟨l, ys, rfl, SqL.of z, fun p hp => hP1.newL R1 (Mi.P.reverse r) hp⟩
    · exact hP1.elim
/-- C.m(..): a class's function -/
theorem se_cm (T : Tab P w K mg base cls Pg cf lv) {c f : Str} (hs : noStar es = true) (hl : (apos.endLine == pos.line) = true) (hn : es.length < 30) (hg : S.sc.names.lookup c = some .globalImplicit) (hd : (c == ("__debug__" : Str)) = false) (hm : Pg.cm c m = some f) (ha : SA cls G W es a) :
    SE cls G W (.Call (.Attribute (.Name c p) m apos) es [] pos) (fun env st => (a env st).bs fun xs st1 => exE (cf f xs st1) env) := by
  obtain ⟨F, ad, hF, hmc, hc, A⟩ := T.cm c m f hm
  obtain ⟨fd, Fok, Fb⟩ := A.ex
  intro env st as σ H Q h0 h1 hP; dsimp only at hP
  refine ⟨fun σ H Q => UA G es σ H fun ws H1 => ws.length ≤ F.ps.length ∧ F.ps.length ≤ ws.length + F.dfl.length ∧ spI cls cf f F.ps.length (ws ++ F.dfl.drop (ws.length + F.dfl.length - F.ps.length)) H1 Q (WE W σ), fun X hX => ?_, ?_⟩
  · have hgl := gl_of hG hX hg
    obtain ⟨⟨rfl, rfl, rfl, rfl, rfl, en, nd, esc, kd, cm, rm, ow⟩, tk⟩ := hG X hX
    refine ⟨fun pins s σ H Q I h => ?_⟩
    have hN : PE X (.Name c p) (tC (.ref (cls c))) := pe_glob hgl hmc rfl hd
    refine PySem.W.methodCall_KW (pl := plainOf (.Name c p) X.env) (thn (hN.run pins s σ H (fun x H1 => x = .ref (cls c) ∧ H1 = H) I ⟨rfl, rfl⟩) fun u s1 ⟨x, H1, I1, rx, ex, eH⟩ => ?_) (meth_tree rfl hs hl hn)
    subst ex
    subst eH
    obtain rfl : u = Value.ref (cls c) := rx
    refine PySem.W.method_cls I1.kIn hc.ga (PySem.W.cls_value I1.kIn hc.rd hc.at_ rfl ?_)
    refine callWith_es hs A.kp (pa_U hX) (I1.tok _) h fun ws H2 us s2 ⟨l1, l2, q⟩ I2 r => ?_
    obtain ⟨ds, d1, d2⟩ := Fb ws.length l1 l2
    exact run_fnSD Fok (rm.mono (Nat.le_succ lv)) d2 d1 (passAt tk σ) I2 r q
  · refine ha.go h0 h1 hP fun vs st1 as1 ws H1 p1 R1 S1 V1 hP1 => ?_
    have := sp_of T hF A R1 V1 (exE_pv hP1)
    rw [Mi.P.length V1] at this
    exact this
theorem se_bm {t : Mt} (hb : plainBase eo = true) (hs : noStar (ea :: es) = true) (hl : (apos.endLine == pos.line) = true) (hn : (ea :: es).length < 29) (ho : SE cls G W eo o) (ha : SA cls G W (ea :: es) a) :
    SE cls G W (.Call (.Attribute eo (mtN t) apos) (ea :: es) [] pos) (fun env st => (o env st).b1 fun x st1 => if bmTy t x st1 then (a env st1).bs fun xs st2 => bmD t x xs st2 else .stk) := by
  intro env st as σ H Q h0 h1 hP; dsimp only at hP
  have J := mt_info t
  refine ⟨tBM K (mtT t) (UM G (mtId t)) (UE G eo) (UA G (ea :: es)), fun X hX => ?_, ho.go h0 h1 hP fun v st1 as1 w H1 p1 R1 S1 V1 hP1 => ?_⟩
  · obtain ⟨n1, n2⟩ := noStar_cons hs
    rw [← (hG X hX).1.k]
    refine pe_bm J.pa J.slot J.ty (mt_U hX) (pe_U hX) (pa_U hX) (base_ok hb) ?_ hl (star_cons n1) (backTo_any n2)
    rw [backTo_all hs]
    show (true && true && decide ((ea :: es).length + 0 + 0 < 30)) = true
    simp only [Bool.true_and]
    exact decide_eq_true (by omega)
  · split at hP1
    · rename_i ht
      refine ⟨bmTy_ok R1 V1 ht, ha.go R1 S1 hP1 fun vs st2 as2 ws H2 p2 R2 S2 V2 hP2 => bmD_ok hG R2 (V1.mono p2) V2 hP2⟩
    · exact hP1.elim
theorem se_bm0 {t : Mt} (hb : plainBase eo = true) (hl : (apos.endLine == pos.line) = true) (ho : SE cls G W eo o) :
    SE cls G W (.Call (.Attribute eo (mtN t) apos) [] [] pos) (fun env st => (o env st).b1 fun x st1 => if bmTy t x st1 then bmD t x [] st1 else .stk) := by
  intro env st as σ H Q h0 h1 hP; dsimp only at hP
  have J := mt_info t
  refine ⟨tBM0 K (mtT t) (UM G (mtId t)) (UE G eo), fun X hX => ?_, ho.go h0 h1 hP fun v st1 as1 w H1 p1 R1 S1 V1 hP1 => ?_⟩
  · rw [← (hG X hX).1.k]
    exact pe_bm0 J.pa J.slot J.ty (mt_U hX) (pe_U hX) (base_ok hb) hl
  · split at hP1
    · rename_i ht
      exact ⟨bmTy_ok R1 V1 ht, bmD_ok hG R1 V1 .nil hP1⟩
    · exact hP1.elim
end
end
end Mi
set_option maxHeartbeats 400000
/-! Mi: built-ins by name, classes made, targets, walks, comprehensions. -/
namespace Mi
open PySem PySem.Spec PyProof.Rows L2

/-! ### wipe -/
theorem wipe_in {σ : L2.St} {i : Nat} : ∀ {vs : List Nat}, i ∈ vs → i < σ.length → (wipe σ vs)[i]? = some none
  | v :: vs, h, hl => by
    show ((wipe σ vs).set v none)[i]? = some none
    by_cases e : i = v
    · subst e
      exact List.getElem?_set_self (by rw [wipe_length]; exact hl)
    · rw [List.getElem?_set_ne (Ne.symm e)]
      exact wipe_in (by
        rcases List.mem_cons.mp h with z | z
        · exact absurd z e
        · exact z) hl
theorem wipe_set {σ : L2.St} {i : Nat} {o : Option V} {vs : List Nat} (h : i ∈ vs) : wipe (σ.set i o) vs = wipe σ vs := by
  apply List.ext_getElem?
  intro j
  by_cases hj : j ∈ vs
  · by_cases hl : j < σ.length
    · rw [wipe_in hj hl, wipe_in hj (by rw [List.length_set]; exact hl)]
    · rw [List.getElem?_eq_none_iff.mpr (by rw [wipe_length, List.length_set]; omega), List.getElem?_eq_none_iff.mpr (by rw [wipe_length]; omega)]
  · rw [wipe_out hj, wipe_out hj, List.getElem?_set_ne (show i ≠ j from by intro e; subst e; exact hj h)]
theorem wipe_wipe {σ : L2.St} {vs : List Nat} : wipe (wipe σ vs) vs = wipe σ vs := by
  apply List.ext_getElem?
  intro j
  by_cases hj : j ∈ vs
  · by_cases hl : j < σ.length
    · rw [wipe_in hj hl, wipe_in hj (by rw [wipe_length]; exact hl)]
    · rw [List.getElem?_eq_none_iff.mpr (by rw [wipe_length, wipe_length]; omega), List.getElem?_eq_none_iff.mpr (by rw [wipe_length]; omega)]
  · rw [wipe_out hj]

section
variable {P : Program} {w : World} {K : PySem.W.Frag} {mg : Str → Option Value} {base : Heap} {cls : Str → Addr} {Pg : Prog} {cf : Str → List V → Store → R} {lv : Nat} {S : Sc} {G : Cx → Prop} {W : WX}
variable {e ea eb ec eo tgE iter : Expr} {es : List Expr} {a b c o : Ev → Store → R} {x m : Str} {pos p apos : Pos}
variable {as : List Addr} {st : Store} {H : Hp} {Q : VK} {env : Ev} {σ : L2.St}
section
variable (hG : ∀ X, G X → GX P w K mg base (lv + 1) S X ∧ Takes X W)
include hG
/-! ### built-ins by name -/
theorem se_bif (T : Tab P w K mg base cls Pg cf lv) {f : Bi} (hs : noStar (ea :: es) = true) (hg : S.sc.names.lookup (biN f) = some .globalImplicit) (ha : SA cls G W (ea :: es) a) :
    SE cls G W (.Call (.Name (biN f) p) (ea :: es) [] pos) (fun env st => (a env st).bs fun xs st1 => bifD f xs st1) := by
  intro env st as σ H Q h0 h1 hP; dsimp only at hP
  obtain ⟨n1, n2⟩ := noStar_cons hs
  refine ⟨tCB (UC G (biV f)) (UA G (ea :: es)), fun X hX => ?_, ha.go h0 h1 hP fun vs st1 as1 ws H1 p1 R1 S1 V1 hP1 => bif_ok (hGB hG) R1 V1 hP1⟩
  have hgl := gl_of hG hX hg
  have hm : X.mg (biN f) = none := by rw [(hG X hX).1.mg]; exact T.bi f
  cases f
  · exact pe_callB (call_U hX) hgl hm (by kernel_rfl) (pa_U hX) (by decide +kernel) (by decide +kernel) (star_cons n1) (backTo_any n2)
  · exact pe_callTy (call_U hX) hgl hm (by kernel_rfl) (pa_U hX) (by decide +kernel) (by decide +kernel) (star_cons n1) (backTo_any n2)
  · exact pe_callB (call_U hX) hgl hm (by kernel_rfl) (pa_U hX) (by decide +kernel) (by decide +kernel) (star_cons n1) (backTo_any n2)
  · exact pe_callB (call_U hX) hgl hm (by kernel_rfl) (pa_U hX) (by decide +kernel) (by decide +kernel) (star_cons n1) (backTo_any n2)
  · exact pe_callTy (call_U hX) hgl hm (by kernel_rfl) (pa_U hX) (by decide +kernel) (by decide +kernel) (star_cons n1) (backTo_any n2)
  · exact pe_callTy (call_U hX) hgl hm (by kernel_rfl) (pa_U hX) (by decide +kernel) (by decide +kernel) (star_cons n1) (backTo_any n2)
  · exact pe_callB (call_U hX) hgl hm (by kernel_rfl) (pa_U hX) (by decide +kernel) (by decide +kernel) (star_cons n1) (backTo_any n2)
  · exact pe_callB (call_U hX) hgl hm (by kernel_rfl) (pa_U hX) (by decide +kernel) (by decide +kernel) (star_cons n1) (backTo_any n2)
  · exact pe_callTy (call_U hX) hgl hm (by kernel_rfl) (pa_U hX) (by decide +kernel) (by decide +kernel) (star_cons n1) (backTo_any n2)
  · exact pe_callTy (call_U hX) hgl hm (by kernel_rfl) (pa_U hX) (by decide +kernel) (by decide +kernel) (star_cons n1) (backTo_any n2)
omit hG in
def tyS : Ty → String
  | .int => "int"
  | .str => "str"
  | .bool => "bool"
  | .list => "list"
  | .tuple => "tuple"
  | .dict => "dict"
  | .none => "NoneType"
omit hG in
def tyN : Ty → Str
  | .int => "int"
  | .str => "str"
  | .bool => "bool"
  | .list => "list"
  | .tuple => "tuple"
  | .dict => "dict"
  | .none => "NoneType"
omit hG in
theorem ty_rel {v x : V} {t : Ty} (R : Rel cls as st H) (hx : VR as v x) (h : isTy v st = some t) : TyX K H x (.type (tyS t)) := by
  unfold isTy at h
  split at h
  · cases hx; cases h; exact .base .non
  · cases hx; cases h; exact .base (.bl _)
  · cases hx; cases h; exact .base (.int _)
  · cases hx; cases h; exact .base (.str _)
  · split at h
    · rename_i e
      cases h
      obtain ⟨a, ys, rfl, _, _, z⟩ := R.lst hx e
      exact .base (.lst z)
    · rename_i e
      cases h
      obtain ⟨a, ys, rfl, _, _, z⟩ := R.tup hx e
      exact .base (.tup z)
    · rename_i e
      cases h
      obtain ⟨a, ys, rfl, _, _, z⟩ := R.dK hx e
      exact .base (.dK z)
    · cases h
  · cases h
omit hG in
theorem kit_all (t c : Ty) (hc : c ≠ .none) : PySem.W.kitOne K (.type (tyS t)) (.type (tyS c)) = some (subTy t c) := by
  cases t <;> cases c <;> first | exact kit_ty (by decide +kernel) | exact absurd rfl hc
theorem se_isi (T : Tab P w K mg base cls Pg cf lv) {t : Ty} {p2 : Pos} (hs : isStar ea = false) (hg : S.sc.names.lookup ("isinstance" : Str) = some .globalImplicit) (hg2 : S.sc.names.lookup (tyN t) = some .globalImplicit) (ht : t ≠ .none) (hty : mg (tyN t) = none) (ha : SE cls G W ea a) :
    SE cls G W (.Call (.Name "isinstance" p) [ea, .Name (tyN t) p2] [] pos) (fun env st => (a env st).b1 fun x st1 => match isTy x st1 with
    | some t' => one (.bl (subTy t' t)) st1
    | none => .stk) := by
  intro env st as σ H Q h0 h1 hP; dsimp only at hP
  refine ⟨tCB (rIsi K) (tCons (UE G ea) (tCons (tC (.ty (tyS t))) tNil)), fun X hX => ?_, ha.go h0 h1 hP fun v st1 as1 w H1 p1 R1 S1 V1 hP1 => ?_⟩
  · have hgl := gl_of hG hX hg
    have hgl2 := gl_of hG hX hg2
    have hm : X.mg "isinstance" = none := by rw [(hG X hX).1.mg]; exact T.isi
    have hm2 : X.mg (tyN t) = none := by rw [(hG X hX).1.mg]; exact hty
    rw [← (hG X hX).1.k]
    refine pe_callB call_isi hgl hm (by kernel_rfl) (pa_cons (pe_U hX) (pa_cons ?_ pa_nil) (star_cons hs)) (by decide +kernel) (by decide +kernel) (star_cons hs) rfl
    cases t
    · exact pe_bltn hgl2 hm2 (u := .type "int") (by kernel_rfl) rfl (by decide +kernel) (by decide +kernel)
    · exact pe_bltn hgl2 hm2 (u := .type "str") (by kernel_rfl) rfl (by decide +kernel) (by decide +kernel)
    · exact pe_bltn hgl2 hm2 (u := .type "bool") (by kernel_rfl) rfl (by decide +kernel) (by decide +kernel)
    · exact pe_bltn hgl2 hm2 (u := .type "list") (by kernel_rfl) rfl (by decide +kernel) (by decide +kernel)
    · exact pe_bltn hgl2 hm2 (u := .type "tuple") (by kernel_rfl) rfl (by decide +kernel) (by decide +kernel)
    · exact pe_bltn hgl2 hm2 (u := .type "dict") (by kernel_rfl) rfl (by decide +kernel) (by decide +kernel)
    · exact absurd rfl ht
  · split at hP1
    · rename_i t' e
      exact ⟨w, .ty (tyS t), .type (tyS t'), .type (tyS t), _, rfl, .ty _, ty_rel R1 V1 e, kit_all t' t ht, hP1.got R1 rfl⟩
    · exact hP1.elim
/-! ### a class is called -/
omit hG in
theorem run_makeS {X : Cx} {CX : CXT} {k : Nat} {f C : Addr} {fd : FuncData} {ps : List Str} {sp : Sp} {dvs : List V} {ds : List Value} {E : XK} {pins : List (Addr × Obj)} {s : Shared} {us : List Value} {vs : List V} (M : Mk X.K C f) (F : FnOk X.prog X.w X.K X.mg X.base CX k f fd ps sp) (hr : Room (k + 1) X.A) (hb : Binds X.K fd ps ds) (hd : Vals dvs ds)
    (hx : PassesAt CX X σ E) (I : Inv X pins σ H s) (r : Vals vs us)
    (h : ∀ x dx, H x = none → H dx = none → dx ≠ x → sp (.ref x :: (vs ++ dvs)) (upd (upd H dx (.own x)) x (.ins C dx [])) (fun v H2 => v = .non ∧ Q (.ref x) H2) E) :
    wpAny (model X.prog X.w) X.A (call (.ref C) us) (EP X pins σ Q) X.xe s := by
  have hq := h (s.heap.objs.size + 1) s.heap.objs.size (I.hok.fresh (Nat.le_succ _)) (I.hok.fresh (Nat.le_refl _)) (Nat.ne_of_lt (Nat.lt_succ_self _))
  have I2 := Inv.made (C := C) I
  have r2 : Vals (V.ref (s.heap.objs.size + 1) :: (vs ++ dvs)) (Value.ref (s.heap.objs.size + 1) :: (us ++ ds)) := .cons rfl (r.append hd)
  have hl : (Value.ref (s.heap.objs.size + 1) :: us ++ ds).length = ps.length := by
    have e := r2.length
    rw [F.len _ _ _ _ hq] at e
    exact e.symm
  refine wpAny_call (make_map (f := f) I.kIn M.makes M.init (beq_iff_eq.mp M.fn) (codeAny_mono (F.run _ X.stack _ _ ⟨Value.ref (s.heap.objs.size + 1) :: us, []⟩ (Value.ref (s.heap.objs.size + 1) :: (us ++ ds)) _ _ E (hr.make C us [])
    (I2.env0.make C us []) (hb _ (Value.ref (s.heap.objs.size + 1) :: us) I2.kIn hl) r2 hq) fun r s' hq' => ?_))
  cases r with
  | error e => exact hx pins _ _ e s' I2 hq'
  | ok fl =>
    cases fl with
    | ret u =>
      obtain ⟨v, H', I3, rv, ev, q3⟩ := I2.after hq'
      subst ev
      exact ⟨rv, ⟨V.ref (s.heap.objs.size + 1), H', I3, rfl, q3⟩⟩
    | next => exact False.elim hq'
    | brk => exact False.elim hq'
    | cont => exact False.elim hq'
omit hG in
/-- a new instance stands in the store -/
theorem Rel.pushIns (R : Rel cls as st H) {x dx : Addr} {c : Str} (hx : H x = none) (hd : H dx = none) (hne : dx ≠ x) : Rel cls (as ++ [x]) (st ++ [.ins c []]) (upd (upd H dx (.own x)) x (.ins (cls c) dx [])) := by
  have R2 : Rel cls as st (upd H dx (.own x)) := ⟨R.len, R.nd, fun i o a h1 h2 => by
    obtain ⟨u, hu⟩ := R.live h2
    exact (R.at_ i o a h1 h2).keep (List.prefix_refl _) (upd_ne (ne_of_none hu hd))⟩
  exact R2.push (by rw [upd_ne hne.symm]; exact hx) ⟨dx, [], .nil, upd_same⟩
theorem se_mk (T : Tab P w K mg base cls Pg cf lv) {c f : Str} (hs : noStar es = true) (hg : S.sc.names.lookup c = some .globalImplicit) (hd : (c == ("__debug__" : Str)) = false) (hmd : Pg.made c = true) (hm : Pg.meth c "__init__" = some f) (ha : SA cls G W es a) :
    SE cls G W (.Call (.Name c p) es [] pos) (fun env st => (a env st).bs fun xs st1 => (exE (cf f (.ref st1.length :: xs) (st1 ++ [.ins c []])) env).b1 fun v st2 => match v with
      | .non => one (.ref st1.length) st2
      | _ => .stk) := by
  obtain ⟨F, ad, hF, hmg, M, A⟩ := T.made c f hm hmd
  obtain ⟨fd, Fok, Fb⟩ := A.ex
  intro env st as σ H Q h0 h1 hP; dsimp only at hP
  refine ⟨fun σ H Q => UA G es σ H fun ws H1 => ws.length + 1 ≤ F.ps.length ∧ F.ps.length ≤ ws.length + 1 + F.dfl.length ∧ ∀ x dx, H1 x = none → H1 dx = none → dx ≠ x → spI cls cf f F.ps.length (.ref x :: (ws ++ F.dfl.drop (ws.length + 1 + F.dfl.length - F.ps.length))) (upd (upd H1 dx (.own x)) x (.ins (cls c) dx [])) (fun v H2 => v = .non ∧ Q (.ref x) H2) (WE W σ), fun X hX => ?_, ?_⟩
  · have hgl := gl_of hG hX hg
    obtain ⟨⟨rfl, rfl, rfl, rfl, rfl, en, nd, esc, kd, cm, rm, ow⟩, tk⟩ := hG X hX
    refine ⟨fun pins s σ H Q I h => ?_⟩
    refine wpAny_Call_Name_kw (ld_glob I hgl hmg ?_ hd)
    refine callWith_es hs M.kp (pa_U hX) I h fun ws H1 us s1 ⟨l1, l2, q⟩ I1 r => ?_
    obtain ⟨ds, d1, d2⟩ := Fb (ws.length + 1) l1 l2
    exact run_makeS M Fok rm d2 d1 (passAt tk σ) I1 r q
  · refine ha.go h0 h1 hP fun vs st1 as1 ws H1 p1 R1 S1 V1 hP1 => ?_
    have key : PV cls as1 (cf f (.ref st1.length :: vs) (st1 ++ [.ins c []])) (fun v H2 => v = .non ∧ True) (fun _ _ _ => True) ∨ True := .inr trivial
    have hlen : vs.length + 1 ≤ F.ps.length ∧ F.ps.length ≤ vs.length + 1 + F.dfl.length := by
      by_cases hl : (V.ref st1.length :: vs).length ≤ F.ps.length ∧ F.ps.length ≤ (V.ref st1.length :: vs).length + F.dfl.length
      · exact hl
      · rw [(T.full f F (V.ref st1.length :: vs) (st1 ++ [IO.ins c []]) hF).2 hl] at hP1
        exact hP1.elim
    rw [Mi.P.length V1] at hlen
    refine ⟨hlen.1, hlen.2, fun x dx hx hdx hne => ?_⟩
    have R2 : Rel cls (as1 ++ [x]) (st1 ++ [.ins c []]) (upd (upd H1 dx (.own x)) x (.ins (cls c) dx [])) := R1.pushIns hx hdx hne
    have V2 : VRs (as1 ++ [x]) (.ref st1.length :: vs) (.ref x :: ws) := .cons (VR.new R1) (VRs.mono pre_snoc V1)
    have hP2 : PV cls (as1 ++ [x]) (cf f (.ref st1.length :: vs) (st1 ++ [.ins c []])) (fun v H2 => v = .non ∧ Q (.ref x) H2) (WE W σ) := by
      cases q : cf f (.ref st1.length :: vs) (st1 ++ [.ins c []]) with
      | val us st2 =>
        rw [q] at hP1
        match us, hP1 with
        | [u], hP1 =>
          cases u with
          | non => exact fun as' w' H' p' R' V' => ⟨V', hP1 as' (.ref x) H' (pre_snoc.trans p') R' ((VR.new R1).mono p')⟩
          | _ => exact hP1.elim
        | [], hP1 => exact hP1.elim
        | _ :: _ :: _, hP1 => exact hP1.elim
      | exc c fs en st2 =>
        rw [q] at hP1
        exact fun as' H' cv d p' => hP1 as' H' cv d (pre_snoc.trans p')
      | nxt a b => rw [q] at hP1; exact hP1.elim
      | ret a b => rw [q] at hP1; exact hP1.elim
      | stk => rw [q] at hP1; exact hP1.elim
    have h3 := sp_of T hF A R2 V2 hP2
    rw [List.length_cons, Mi.P.length V1] at h3
    exact h3.2.2
end

/-! ### targets -/
def tgSlots : Tg → List Nat
  | .n i => [i]
  | .t is => is
/-- a target as the text has it -/
def tgB (N own : List Str) : Tg → Expr → Bool
  | .n i, .Name x _ => decide (N[i]? = some x) && decide (x ∈ own)
  | .t is, .Tuple es _ _ => tgBs is es
  | _, _ => false
where tgBs : List Nat → List Expr → Bool
  | [], [] => true
  | i :: is, .Name x _ :: es => decide (N[i]? = some x) && (decide (x ∈ own) && tgBs is es)
  | _, _ => false
def gsOf : List Nat → TGs
  | [] => gNil
  | i :: is => gCons (gName i) (gsOf is)
section
variable (hG : ∀ X, G X → GX P w K mg base (lv + 1) S X ∧ Takes X W)
include hG
omit hG in
theorem tgBs_cons {i : Nat} {is : List Nat} {e : Expr} {es : List Expr} {N own : List Str} (h : tgB.tgBs N own (i :: is) (e :: es) = true) : ∃ x p, e = .Name x p ∧ N[i]? = some x ∧ x ∈ own ∧ tgB.tgBs N own is es = true := by
  unfold tgB.tgBs at h
  split at h
  · rename_i h1 h2
    cases h1
  · rename_i i' is' x p es' h1 h2
    cases h1
    cases h2
    obtain ⟨h1, h2⟩ := Bool.and_eq_true_iff.mp h
    obtain ⟨h3, h4⟩ := Bool.and_eq_true_iff.mp h2
    exact ⟨x, p, rfl, of_decide_eq_true h1, of_decide_eq_true h3, h4⟩
  · cases h
theorem pgs_of {X : Cx} (hX : G X) : ∀ (is : List Nat) (es : List Expr), tgB.tgBs S.N S.own is es = true → PGs X es (gsOf is) := by
  intro is
  induction is with
  | nil =>
    intro es h
    cases es with
    | nil => exact pgs_nil
    | cons e es => cases h
  | cons i is ih =>
    intro es h
    cases es with
    | nil => cases h
    | cons e es =>
      obtain ⟨x, p, rfl, h1, h3, h4⟩ := tgBs_cons h
      obtain ⟨o1, o2⟩ := (hG X hX).1.own x h3
      exact pgs_cons (pg_name (by rw [(hG X hX).1.n]; exact (hG X hX).1.nd) (by rw [(hG X hX).1.n]; exact h1) o1 o2) (ih es h4) rfl
omit hG in
theorem each_len {env : Env} {N own : List Str} : ∀ (is : List Nat) (es : List Expr), tgB.tgBs N own is es = true → (assignEach es env).length = is.length ∧ (assignEach es env).findIdx? (·.1) = none := by
  intro is
  induction is with
  | nil =>
    intro es h
    cases es with
    | nil => exact ⟨rfl, rfl⟩
    | cons e es => cases h
  | cons i is ih =>
    intro es h
    cases es with
    | nil => cases h
    | cons e es =>
      obtain ⟨x, p, rfl, h1, h3, h4⟩ := tgBs_cons h
      obtain ⟨r1, r2⟩ := ih es h4
      refine ⟨by show (assignEach es env).length + 1 = is.length + 1; rw [r1], ?_⟩
      show ((false, assign (.Name x p) env) :: assignEach es env).findIdx? (·.1) = none
      rw [List.findIdx?_cons, r2]
      rfl
omit hG in
theorem gs_run {Q : L2.St → Hp → Prop} {env' : Ev} : ∀ (is : List Nat) (vs ys : List V) (env : Ev) (σ : L2.St), setMany is vs env = some env' → VRs as vs ys → SR as env σ →
    (∀ σ', SR as env' σ' → (∀ ws, (∀ j ∈ is, j ∈ ws) → wipe σ' ws = wipe σ ws) → Q σ' H) → gsOf is ys σ H Q := by
  intro is
  induction is with
  | nil =>
    intro vs ys env σ h r s k
    cases r with
    | nil => exact ⟨rfl, k σ (by rw [← Option.some.inj h]; exact s) fun _ _ => rfl⟩
    | cons _ _ => cases h
  | cons i is ih =>
    intro vs ys env σ h r s k
    cases r with
    | nil => cases h
    | cons r rs =>
      rename_i v y vs ys
      have h2 : (if i < env.length then setMany is vs (env.set i (some v)) else none) = some env' := h
      split at h2
      · refine ⟨y, _, rfl, ?_⟩
        exact ih vs ys _ _ h2 rs (s.set r i) fun σ' s' hw => k σ' s' fun ws hws => by
          rw [hw ws fun j hj => hws j (List.mem_cons_of_mem _ hj)]
          exact wipe_set (hws i List.mem_cons_self)
      · cases h2
/-- a target is stored -/
theorem ug_of {tg : Tg} (hb : tgB S.N S.own tg tgE = true) {v y : V} {env' : Ev} (h0 : Rel cls as st H) (h1 : SR as env σ) (hv : VR as v y) (hs : setTg tg v env st = some env') {Q : L2.St → Hp → Prop}
    (k : ∀ σ', SR as env' σ' → (∀ ws, (∀ j ∈ tgSlots tg, j ∈ ws) → wipe σ' ws = wipe σ ws) → Q σ' H) : UG G tgE y σ H Q := by
  cases tg with
  | n i =>
    cases tgE <;> try (cases hb; done)
    rename_i x p
    obtain ⟨b1, b2⟩ := Bool.and_eq_true_iff.mp (show (decide (S.N[i]? = some x) && decide (x ∈ S.own)) = true from hb)
    refine ⟨gName i, fun X hX => ?_, ?_⟩
    · obtain ⟨o1, o2⟩ := (hG X hX).1.own x (of_decide_eq_true b2)
      exact pg_name (by rw [(hG X hX).1.n]; exact (hG X hX).1.nd) (by rw [(hG X hX).1.n]; exact of_decide_eq_true b1) o1 o2
    · unfold setTg at hs
      dsimp only at hs
      split at hs
      · rw [← Option.some.inj hs] at k
        exact k _ (h1.set hv i) fun ws hws => wipe_set (hws i List.mem_cons_self)
      · cases hs
  | t is =>
    cases tgE <;> try (cases hb; done)
    rename_i es kk p
    have b1 : tgB.tgBs S.N S.own is es = true := hb
    refine ⟨gTup K is.length (gsOf is), fun X hX => ?_, ?_⟩
    · obtain ⟨r1, r2⟩ := each_len (env := X.env) is es b1
      rw [← (hG X hX).1.k]
      exact pg_tup (hG X hX).1.calm (pgs_of hG hX is es b1) r1 r2
    · unfold setTg at hs
      dsimp only at hs
      split at hs
      · split at hs
        · rename_i p _ xs e
          have h2 := hs
          obtain ⟨a, ys, rfl, _, r, z⟩ := h0.tup hv e
          refine ⟨a, ys, rfl, SqT.of z, ?_, gs_run is xs ys env σ h2 r h1 k⟩
          have : ∀ {is : List Nat} {xs : List V} {env : Ev}, setMany is xs env = some env' → xs.length = is.length := by
            intro is
            induction is with
            | nil =>
              intro xs env h
              cases xs with
              | nil => rfl
              | cons _ _ => cases h
            | cons i is ih =>
              intro xs env h
              cases xs with
              | nil => cases h
              | cons x xs =>
                have h3 : (if i < env.length then setMany is xs (env.set i (some x)) else none) = some env' := h
                split at h3
                · rw [List.length_cons, List.length_cons, ih h3]
                · cases h3
          rw [← Mi.P.length r]
          exact this h2
        · cases hs
      · cases hs
end
end
end Mi
set_option maxHeartbeats 400000
/-! MiE: enumerate(x, start=1) over a list. -/
namespace Mi
open PySem PySem.Spec PyProof.Rows L2
/-- the list at a as it stands at each turn, each item behind its number from k -/
def Ite1 (K : PySem.W.Frag) (k : Int) (a : Addr) : It :=
  ⟨fun i H => ∃ (xs : List L2.V) (x : L2.V), SqL K H a xs ∧ xs[i]? = some x, fun i H v H' => ∃ T x, v = .ref T ∧ H T = none ∧ H' = upd H T (.tup [.int (k + (i : Int)), x]) ∧ ∀ xs, SqL K H a xs → xs[i]? = some x, fun i H => ∃ xs : List L2.V, SqL K H a xs ∧ xs.length ≤ i⟩
theorem draws_lst {P : Program} {w : World} {A : Around} {it l : Addr} {items : Array Value} (hne : l ≠ it) (hh : A.handled = none) :
    Draws P w A it [it, l] items.size (fun i x => items[i]? = some x) (fun i h => h.IsListIter it l i ∧ h.IsList l items) where
  live := fun i h st => let ⟨⟨o, ho, _⟩, _⟩ := st; ⟨o, ho⟩
  frame := fun i h h' st k => ⟨st.1.at fun o q => k it (by simp) o q, st.2.at fun o q => k l (by simp) o q⟩
  item := fun i s Q E hi st hQ => by
    have hx : items[i]? = some items[i] := Array.getElem?_eq_getElem hi
    exact wpAny_nextOf_list_item st.1 st.2 hx fun h' hit hs => hQ _ h' s.toks hx ⟨hit, st.2.at fun o q => (hs.2 l hne).trans q⟩ hs
  done := fun s Q E st hE => wpAny_nextOf_list_end hh st.1 st.2 (by simp) hE
theorem draws_end {P : Program} {w : World} {A : Around} {it l : Addr} {items : Array Value} {i : Nat} (hh : A.handled = none) (hx : items[i]? = none) :
    Draws P w A it [it, l] i (fun _ _ => True) (fun j h => j = i ∧ h.IsListIter it l i ∧ h.IsList l items) where
  live := fun i h st => let ⟨_, ⟨o, ho, _⟩, _⟩ := st; ⟨o, ho⟩
  frame := fun i h h' st k => ⟨st.1, st.2.1.at fun o q => k it (by simp) o q, st.2.2.at fun o q => k l (by simp) o q⟩
  item := fun j s Q E hi st hQ => absurd hi (by rw [st.1]; exact Nat.lt_irrefl _)
  done := fun s Q E st hE => wpAny_nextOf_list_end hh st.2.1 st.2.2 hx hE
theorem turn_enum1 {P : Program} {w : World} {K : PySem.W.Frag} {elts : List Expr} {kk : Nat} {tpos : Pos} (k : Int) (a e it : Addr) :
    Turn P w K (.Tuple elts kk tpos) (Ite1 K k a) [e, it] e (fun i h => (∃ old, IsEnum h e it (k + (i : Int)) old) ∧ h.IsListIter it a i ∧ e ≠ it) where
  mem := by simp
  obj := fun i h st b hb => by
    obtain ⟨⟨old, he⟩, ⟨o, ho, hc, hd⟩, _⟩ := st
    have e' : b = e ∨ b = it := by simpa using hb
    rcases e' with z | z
    · rw [z]; exact ⟨_, he, fun v q => nomatch q⟩
    · rw [z]; exact ⟨o, ho, fun v q => by rw [hd] at q; cases q⟩
  keep := fun i h h' st k => let ⟨⟨old, he⟩, hi, hne⟩ := st; ⟨⟨old, k e (by simp) _ he⟩, hi.at fun o q => k it (by simp) o q, hne⟩
  item := by
    intro X hP hw hK hc i pins s σ H E I hf st hg
    subst hP hw hK
    obtain ⟨⟨old, he⟩, hit, hne⟩ := st
    obtain ⟨xs, x, hq, hx⟩ := hg
    obtain ⟨its, rv, p, hz⟩ := I.list hq
    obtain ⟨u, hu, ru⟩ := rv.get hx
    have hu' : its.toArray[i]? = some u := by simpa using hu
    have hi : i < its.toArray.size := (Array.getElem?_eq_some_iff.mp hu').1
    have hel : e < s.heap.objs.size := Heap.lt_size he
    have hil : it < s.heap.objs.size := by obtain ⟨_, q, _⟩ := hit; exact Heap.lt_size q
    have hl := p.isList
    have hea : e ≠ a := fun q => by
      obtain ⟨o, ho, hc, _⟩ := hl
      rw [← q] at ho
      have : o = _ := Option.some.inj (ho.symm.trans he)
      rw [this] at hc
      injection hc with hc
      exact absurd hc (by decide)
    have hia : a ≠ it := fun q => by
      obtain ⟨o, ho, hc, _⟩ := hl
      obtain ⟨o2, ho2, hc2, _⟩ := hit
      rw [q] at ho
      have : o = o2 := Option.some.inj (ho.symm.trans ho2)
      rw [this, hc2] at hc
      injection hc with hc
      exact absurd hc (by decide)
    refine wpAny_pyNext_enum_itemC (draws_lst (A := X.A.in1) hia (I.ok.hd hc)) he ⟨hit, hl⟩ hi hne (by simp [hne, hea]) fun x' h' tk hx' ho st' hT hsz hk => ?_
    have exu : x' = u := Option.some.inj (hx'.symm.trans hu')
    subst exu
    obtain ⟨hit', hl'⟩ := st'
    refine ⟨_, rfl, wpAny_letOwnedTupleGo_enum (s := { s with heap := h', toks := tk + 1 }) ho fun h'' he' sb => ?_⟩
    have hT2 : h''.get? s.heap.objs.size = some { cls := .type "tuple", data := .seq #[.int (k + (i : Int)) tk, x'] } := (sb.2 _ (Nat.ne_of_gt hel)).trans hT
    have new : ObjOk X.prog X.w (upd H s.heap.objs.size (.tup [.int (k + (i : Int)), x])) h'' s.heap.objs.size (.tup [.int (k + (i : Int)), x]) :=
      ⟨by show 2 ≤ sizeLine; decide, [.int (k + (i : Int)) tk, x'], .cons ⟨_, rfl⟩ (.cons ru .nil), ⟨_, hT2, rfl, _, rfl⟩⟩
    have I1 : Inv X pins σ (upd H s.heap.objs.size (.tup [.int (k + (i : Int)), x])) { s with heap := h'', toks := tk + 1 } :=
      I.turnedNew (ch := [e, it]) (fun b ob hb q => (sb.2 b (fun z => hb (by simp [z]))).trans (hk b ob (fun z => hb (by simp [z])) (fun z => hb (by simp [z])) q)) hf (Nat.le_refl _) new
    refine ⟨.ref s.heap.objs.size, _, I1, rfl, ⟨_, x, rfl, I.hok.fresh (Nat.le_refl _), rfl, fun ys hy => by rw [I.list_inj hy hq]; exact hx⟩, ⟨⟨x', ?_⟩, hit'.at fun o q => (sb.2 it (Ne.symm hne)).trans q, hne⟩, fun b hb => ?_⟩
    · have e1 : k + ((i + 1 : Nat) : Int) = k + (i : Int) + 1 := by omega
      rw [e1]; exact he'
    · have hb' : b < s.heap.objs.size := by
        have e' : b = e ∨ b = it := by simpa using hb
        rcases e' with z | z
        · rw [z]; exact hel
        · rw [z]; exact hil
      rw [upd_ne (Nat.ne_of_lt hb')]
      exact (hf b hb).1
  done := by
    intro X hP hw hK hc i pins s σ H E I hf st hg
    subst hP hw hK
    obtain ⟨⟨old, he⟩, hit, hne⟩ := st
    obtain ⟨xs, hq, hx⟩ := hg
    obtain ⟨its, rv, p, hz⟩ := I.list hq
    obtain ⟨f0, f1, f2, f3, f4, f5⟩ := hf it (by simp)
    have hl := rv.length
    have hn : its.toArray[i]? = none := by simp; omega
    exact wpAny_pyNext_enum_endD (draws_end (A := X.A.in1) (l := a) (items := its.toArray) (I.ok.hd hc) hn) he ⟨rfl, hit, p.isList⟩ fun h' eb => ⟨rfl, I.turned (t' := s.toks) (fun b o hb q => eb b o hb q) f0 f1 f3 f4 f5⟩
  self := fun A i s Q E st h => let ⟨⟨_, he⟩, _⟩ := st; wpAny_pyIter_enum he h
def iEnum1 (K : PySem.W.Frag) (k : Int) (ta : TA) : TI := fun σ H R => ta σ H fun vs H1 => ∃ a xs, vs = [.ref a] ∧ SqL K H1 a xs ∧ R (Ite1 K k a) H1
/-- a built-in class called with keywords -/
theorem callWith_type_kw {M : Model} {A : Around} {E : Value → Shared → Prop} {s : Shared} {pos : Pos} {T : String} {args : List (Bool × Sem Value)} {kws : List (Option Str × Sem Value)} {Q : Value → Shared → Prop}
    (hplain : args.any (·.1) = false) (hkw : kws.any (·.1.isNone) = false)
    (h : wpAny M A (evalArgs (.type T) true args kws) (fun a s₁ => wpAny M A (call (.type T) a.pos a.kw) Q E s₁) E s) :
    wpAny M A (callWith pos (.type T) [] args kws) Q E s := by
  unfold callWith
  refine wpAny_bind (wpAny_holding (wpAny_mono h (fun a s₁ h₁ => wpAny_bind (wpAny_standAt ?_)) fun _ _ x => x))
  simp only [hplain, hkw, Bool.or_false]
  refine wpAny_bind (wpAny_pure ?_)
  exact wpAny_bind (wpAny_mono h₁ (fun r s₂ hr => wpAny_bind (wpAny_holding (wpAny_point (wpAny_pure hr)))) fun _ _ x => x)
theorem pi_enum1 {X : Cx} {e : Expr} {ta : TA} {p pos tpos kp cp : Pos} {elts : List Expr} {kk : Nat} {k : Int} {cs : Nat} (h0 : -(2 ^ 63) ≤ k) (h1 : k < 2 ^ 63) (hg : Gl X "enumerate") (hm : X.mg "enumerate" = none) (ha : PA X [e] ta) (hs : starEach [e] X.env = [(false, eval e X.env)] := by rfl) :
    PI X (.Tuple elts kk tpos) (.Call (.Name "enumerate" p) [e] [⟨some "start", .Constant (.int k) cs cp, kp⟩] pos) (iEnum1 X.K k ta) := by
  refine ⟨fun pins s σ H R I h => ?_⟩
  refine wpAny_Call_Name_kw (ld_blt I hg hm boot_enumerate ?_)
  refine callWith_type_kw (by rw [hs]; rfl) rfl ?_
  have he : backTo pos (starEach [e] X.env) = (false, eval e X.env) :: [] := by rw [hs]; rfl
  have ha' := fun Q h => ha.run pos pins s σ H Q I h
  rw [he] at ha' ⊢
  refine PyProof.Rows.evalArgs_kwB rfl (thn (ha' _ h) fun us s1 ⟨vs, H1, I1, r1, q1⟩ => ?_)
  refine thn ((pk_cons (nm := some "start") (kpos := kp) pe_int pk_nil).run pos pins s1 σ H1 (fun zs H2 => zs = [.int k] ∧ H2 = H1) I1 ⟨rfl, rfl⟩) fun ws s2 ⟨zs, H2, I2, rz, ez, eH⟩ => ?_
  subst ez eH
  obtain ⟨a, xs, ex, hq, q⟩ := q1
  subst ex
  cases r1 with
  | cons r rr =>
    cases rr
    cases r
    cases rz with
    | cons r2 rr2 =>
      cases rr2
      obtain ⟨tk, rfl⟩ := r2
      obtain ⟨its, rv, p', hz⟩ := I2.list hq
      have hl := p'.isList
      refine enum_begins_start (begins_list a its.toArray) hl h0 h1 fun h' he2 hit hsz hk => wpAny_pyIter_enum he2 ?_
      have I3 : Inv X pins σ H2 { s2 with heap := h' } := I2.kept (t' := s2.toks) hk
      refine ⟨s2.heap.objs.size + 1, [s2.heap.objs.size + 1, s2.heap.objs.size], _, _, H2, rfl, I3, turn_enum1 k a (s2.heap.objs.size + 1) s2.heap.objs.size, ⟨⟨.none, ?_⟩, ⟨_, hit, rfl, rfl⟩, Nat.succ_ne_self _⟩, fun b hb => ?_, q⟩
      · rw [show k + ((0 : Nat) : Int) = k by omega]
        exact he2
      · have e' : b = s2.heap.objs.size + 1 ∨ b = s2.heap.objs.size := by simpa using hb
        have hle : s2.heap.objs.size ≤ b := by
          rcases e' with z | z
          · rw [z]; exact Nat.le_add_right _ _
          · rw [z]; exact Nat.le_refl _
        exact I2.fpOk hle (I2.hok.fresh hle)
end Mi
set_option maxHeartbeats 400000
/-! Mi: walks, loops, comprehensions, statements. -/
namespace Mi
open PySem PySem.Spec PyProof.Rows L2

section
variable {P : Program} {w : World} {K : PySem.W.Frag} {mg : Str → Option Value} {base : Heap} {cls : Str → Addr} {Pg : Prog} {cf : Str → List V → Store → R} {lv : Nat} {S : Sc} {G : Cx → Prop} {W : WX}
variable {e ea eb ec eo tgE iter : Expr} {es : List Expr} {a b c o : Ev → Store → R} {x m : Str} {pos p apos : Pos}
variable {as : List Addr} {st : Store} {H : Hp} {Q : VK} {env : Ev} {σ : L2.St}

/-! ### walks -/
/-- J gives what cur gives -/
def ItOk (cls : Str → Addr) (as0 : List Addr) (k : Ik) (vs : List V) (J : It) : Prop := ∀ i st as H, as0 <+: as → Rel cls as st H →
  (cur k vs i st = some none → J.stop i H) ∧
  ∀ x st', cur k vs i st = some (some (x, st')) → J.go i H ∧ ∀ y H', J.yld i H y H' → ∃ as', as <+: as' ∧ Rel cls as' st' H' ∧ VR as' x y
def PI' (cls : Str → Addr) (as : List Addr) (k : Ik) (r : R) (Q : It → Hp → Prop) (X : XK) : Prop := match r with
  | .val vs st' => cur k vs 0 st' ≠ none ∧ ∀ as' H' J, as <+: as' → Rel cls as' st' H' → ItOk cls as' k vs J → Q J H'
  | .exc c fs _ st' => ∀ as' H' cv d, as <+: as' → Rel cls as' st' H' → XR cls as' c fs cv d H' → X cv d H'
  | _ => False
def SI (cls : Str → Addr) (G : Cx → Prop) (W : WX) (k : Ik) (tg iter : Expr) (f : Ev → Store → R) : Prop := ∀ env st as σ H (Q : It → Hp → Prop), Rel cls as st H → SR as env σ → PI' cls as k (f env st) Q (fun c d H' => W c d σ H') → UI G tg iter σ H Q

theorem nth_none {α : Type} {xs : List α} {i : Nat} {f : α → V × Store} (h : nth xs i f = some none) : xs[i]? = none := by
  unfold nth at h
  split at h
  · cases h
  · assumption
theorem nth_some {α : Type} {xs : List α} {i : Nat} {f : α → V × Store} {r : V × Store} (h : nth xs i f = some (some r)) : ∃ x, xs[i]? = some x ∧ r = f x := by
  unfold nth at h
  split at h
  · exact ⟨_, by assumption, (Option.some.inj (Option.some.inj h)).symm⟩
  · cases h
/-- the items of a list that is walked -/
theorem lstk_items {p : Nat} {i : Nat} {r : Option (V × Store)} (h : cur .lstk [.ref p] i st = some r) : ∃ xs, (st[p]? = some (.lst xs) ∨ st[p]? = some (.fro xs)) ∧ nth xs i (fun x => (x, st)) = some r := by
  unfold cur at h
  dsimp only at h
  split at h
  · exact ⟨_, .inl (by assumption), h⟩
  · exact ⟨_, .inr (by assumption), h⟩
  · cases h
theorem lstk_at {p : Nat} {ad : Addr} {as' : List Addr} {xs : List V} (R : Rel cls as' st H) (hv : VR as' (.ref p) (.ref ad)) (h : st[p]? = some (.lst xs) ∨ st[p]? = some (.fro xs)) : ∃ ys, VRs as' xs ys ∧ SqL K H ad ys := by
  rcases h with h | h
  · obtain ⟨a, zs, ea, _, r, z⟩ := R.lst hv h
    cases ea
    exact ⟨zs, r, SqL.of z⟩
  · obtain ⟨a, zs, ea, _, r, z⟩ := R.fro hv h
    cases ea
    exact ⟨zs, r, .inl z⟩
theorem itok_list {p : Nat} {ad : Addr} (hp : as[p]? = some ad) : ItOk cls as .lstk [.ref p] (Itl K ad) := fun i st as' H hpre R => by
  have hv : VR as' (.ref p) (.ref ad) := ⟨ad, pre_get hpre hp, rfl⟩
  refine ⟨fun h => ?_, fun x st' h => ?_⟩
  · obtain ⟨xs, q, n⟩ := lstk_items h
    obtain ⟨ys, r, z⟩ := lstk_at (K := K) R hv q
    refine ⟨ys, z, ?_⟩
    rw [← Mi.P.length r]
    exact List.getElem?_eq_none_iff.mp (nth_none n)
  · obtain ⟨xs, q, n⟩ := lstk_items h
    obtain ⟨ys, r, z⟩ := lstk_at (K := K) R hv q
    obtain ⟨x', q1, q2⟩ := nth_some n
    cases q2
    obtain ⟨y', q3, q4⟩ := Mi.P.get r q1
    refine ⟨⟨ys, y', z, q3⟩, fun y H' hy => ?_⟩
    obtain ⟨rfl, hy⟩ := hy
    have e := (hy ys z).symm.trans q3
    cases e
    exact ⟨as', List.prefix_refl _, R, q4⟩
theorem itok_tup {p : Nat} {ad : Addr} (hp : as[p]? = some ad) : ItOk cls as .tupk [.ref p] (Itt K ad) := fun i st as' H hpre R => by
  have hv : VR as' (.ref p) (.ref ad) := ⟨ad, pre_get hpre hp, rfl⟩
  have key : ∀ {r : Option (V × Store)}, cur .tupk [.ref p] i st = some r → ∃ xs, st[p]? = some (.tup xs) ∧ nth xs i (fun x => (x, st)) = some r := fun {r} h => by
    unfold cur at h
    dsimp only at h
    split at h
    · exact ⟨_, by assumption, h⟩
    · cases h
  refine ⟨fun h => ?_, fun x st' h => ?_⟩
  · obtain ⟨xs, q, n⟩ := key h
    obtain ⟨a, ys, ea, _, r, z⟩ := R.tup hv q
    cases ea
    refine ⟨ys, SqT.of z, ?_⟩
    rw [← Mi.P.length r]
    exact List.getElem?_eq_none_iff.mp (nth_none n)
  · obtain ⟨xs, q, n⟩ := key h
    obtain ⟨a, ys, ea, _, r, z⟩ := R.tup hv q
    cases ea
    obtain ⟨x', q1, q2⟩ := nth_some n
    cases q2
    obtain ⟨y', q3, q4⟩ := Mi.P.get r q1
    refine ⟨⟨ys, y', SqT.of z, q3⟩, fun y H' hy => ?_⟩
    obtain ⟨rfl, hy⟩ := hy
    have e := (hy ys (SqT.of z)).symm.trans q3
    cases e
    exact ⟨as', List.prefix_refl _, R, q4⟩
theorem itok_str {s : Str} : ItOk cls as .strk [.str s] (Its s) := fun i st as' H hpre R => by
  refine ⟨fun h => ?_, fun x st' h => ?_⟩
  · have n := nth_none (show nth s.cps.toList i (fun c => (V.str ⟨#[c]⟩, st)) = some none from h)
    have := List.getElem?_eq_none_iff.mp n
    show s.cps.size ≤ i
    simpa using this
  · obtain ⟨c, q1, q2⟩ := nth_some (show nth s.cps.toList i (fun c => (V.str ⟨#[c]⟩, st)) = some (some (x, st')) from h)
    cases q2
    have hl := (List.getElem?_eq_some_iff.mp q1).1
    refine ⟨by show i < s.cps.size; simpa using hl, fun y H' hy => ?_⟩
    obtain ⟨rfl, c', e1, rfl⟩ := hy
    have e2 : some c = some c' := by
      rw [← e1, ← q1]
      simp
    cases e2
    exact ⟨as', List.prefix_refl _, R, rfl⟩
theorem itok_rng1 {n : Int} : ItOk cls as .rng1 [.int n] (Itr 0 n.toNat) := fun i st as' H hpre R => by
  refine ⟨fun h => ?_, fun x st' h => ?_⟩
  · unfold cur at h
    dsimp only at h
    split at h
    · split at h
      · cases h
      · show n.toNat ≤ i
        omega
    · cases h
  · unfold cur at h
    dsimp only at h
    split at h
    · split at h
      · rename_i hi
        cases h
        refine ⟨hi, fun y H' hy => ?_⟩
        obtain ⟨rfl, rfl⟩ := hy
        exact ⟨as', List.prefix_refl _, R, by show V.int (0 + (i : Int)) = V.int i; rw [Int.zero_add]⟩
      · cases h
    · cases h
theorem itok_rng2 {n k : Int} : ItOk cls as .rng2 [.int n, .int k] (Itr n (k - n).toNat) := fun i st as' H hpre R => by
  refine ⟨fun h => ?_, fun x st' h => ?_⟩
  · unfold cur at h
    dsimp only at h
    split at h
    · split at h
      · cases h
      · show (k - n).toNat ≤ i
        omega
    · cases h
  · unfold cur at h
    dsimp only at h
    split at h
    · split at h
      · rename_i hi
        cases h
        refine ⟨hi, fun y H' hy => ?_⟩
        obtain ⟨rfl, rfl⟩ := hy
        exact ⟨as', List.prefix_refl _, R, rfl⟩
      · cases h
    · cases h

theorem itok_rngd {n k c : Int} : ItOk cls as .rngd [.int n, .int k, .int c] (Itc n (-1) (n - k).toNat) := fun i st as' H hpre R => by
  refine ⟨fun h => ?_, fun x st' h => ?_⟩
  · unfold cur at h
    dsimp only at h
    split at h
    · split at h
      · cases h
      · show (n - k).toNat ≤ i
        omega
    · cases h
  · unfold cur at h
    dsimp only at h
    split at h
    · split at h
      · rename_i hi
        cases h
        refine ⟨hi, fun y H' hy => ?_⟩
        obtain ⟨rfl, rfl⟩ := hy
        exact ⟨as', List.prefix_refl _, R, rfl⟩
      · cases h
    · cases h
theorem itok_enum1 {p : Nat} {ad : Addr} {xs0 : List V} (hp : as[p]? = some ad) : ItOk cls as .enum1 [.ref p] (Ite1 K 1 ad) := fun i st as' H hpre R => by
  have hv : VR as' (.ref p) (.ref ad) := ⟨ad, pre_get hpre hp, rfl⟩
  have key : ∀ {r : Option (V × Store)}, cur .enum1 [.ref p] i st = some r → ∃ xs, st[p]? = some (.lst xs) ∧ nth xs i (fun x => (.ref st.length, st ++ [.tup [.int (1 + (i : Int)), x]])) = some r := fun {r} h => by
    unfold cur at h
    dsimp only at h
    split at h
    · exact ⟨_, by assumption, h⟩
    · cases h
  refine ⟨fun h => ?_, fun x st' h => ?_⟩
  · obtain ⟨xs, q, n⟩ := key h
    obtain ⟨a, ys, ea, _, r, z⟩ := R.lst hv q
    cases ea
    refine ⟨ys, SqL.of z, ?_⟩
    rw [← Mi.P.length r]
    exact List.getElem?_eq_none_iff.mp (nth_none n)
  · obtain ⟨xs, q, n⟩ := key h
    obtain ⟨a, ys, ea, _, r, z⟩ := R.lst hv q
    cases ea
    obtain ⟨x', q1, q2⟩ := nth_some n
    cases q2
    obtain ⟨y', q3, q4⟩ := Mi.P.get r q1
    refine ⟨⟨ys, y', SqL.of z, q3⟩, fun y H' hy => ?_⟩
    obtain ⟨T, z', rfl, hT, rfl, hy⟩ := hy
    have e := (hy ys (SqL.of z)).symm.trans q3
    cases e
    have hpf : as' <+: as' ++ [T] := List.prefix_append _ _
    exact ⟨as' ++ [T], hpf, R.push hT ⟨[.int (1 + (i : Int)), y'], .cons rfl (.cons (q4.mono hpf) .nil), upd_same⟩, ⟨T, by rw [← R.len]; simp, rfl⟩⟩
section
variable (hG : ∀ X, G X → GX P w K mg base (lv + 1) S X ∧ Takes X W)
include hG
/-- a list, a tuple, a text -/
theorem si_seq (ha : SE cls G W iter a) : ∀ env st as σ H (Q : It → Hp → Prop), Rel cls as st H → SR as env σ → PI' cls as (rk .seq (match a env st with | .val vs _ => vs | _ => []) (match a env st with | .val _ st' => st' | _ => [])) (a env st) Q (fun c d H' => W c d σ H') → UI G tgE iter σ H Q := by
  intro env st as σ H Q h0 h1 hP
  cases q : a env st with
  | val vs st1 =>
    rw [q] at hP
    dsimp only at hP
    obtain ⟨hc, hk⟩ := hP
    match vs, hc, hk, q with
    | [], hc, hk, q => exact absurd rfl hc
    | v :: u :: t, hc, hk, q => exact absurd (by cases v <;> rfl) hc
    | [v], hc, hk, q =>
      cases v with
      | str s =>
        refine ⟨iStr (UE G iter), fun X hX => pi_str (pe_U hX), ha env st as σ H _ h0 h1 ?_⟩
        rw [q]
        intro as1 w1 H1 p1 R1 V1
        cases V1
        exact ⟨s, rfl, hk as1 H1 _ p1 R1 itok_str⟩
      | ref p =>
        have e3 : ∀ o, st1[p]? = o → rk .seq [.ref p] st1 = (match o with
          | some (.lst _) => .lstk
          | some (.fro _) => .lstk
          | some (.tup _) => .tupk
          | _ => .nok) := fun o e => by rw [← e] <;> rfl
        cases eo : st1[p]? with
        | none => rw [e3 _ eo] at hc; exact absurd rfl hc
        | some ob =>
          rw [e3 _ eo] at hc hk
          cases ob with
          | lst xs =>
            refine ⟨iList K (UE G iter), fun X hX => by rw [← (hG X hX).1.k]; exact pi_list (pe_U hX), ha env st as σ H _ h0 h1 ?_⟩
            rw [q]
            intro as1 w1 H1 p1 R1 V1
            obtain ⟨ad, ys, rfl, i1, r, z⟩ := R1.lst V1 eo
            exact ⟨ad, rfl, ⟨ys, SqL.of z⟩, hk as1 H1 _ p1 R1 (itok_list i1)⟩
          | fro xs =>
            refine ⟨iList K (UE G iter), fun X hX => by rw [← (hG X hX).1.k]; exact pi_list (pe_U hX), ha env st as σ H _ h0 h1 ?_⟩
            rw [q]
            intro as1 w1 H1 p1 R1 V1
            obtain ⟨ad, ys, rfl, i1, r, z⟩ := R1.fro V1 eo
            exact ⟨ad, rfl, ⟨ys, .inl z⟩, hk as1 H1 _ p1 R1 (itok_list i1)⟩
          | tup xs =>
            refine ⟨iTup K (UE G iter), fun X hX => by rw [← (hG X hX).1.k]; exact pi_tup (pe_U hX), ha env st as σ H _ h0 h1 ?_⟩
            rw [q]
            intro as1 w1 H1 p1 R1 V1
            obtain ⟨ad, ys, rfl, i1, r, z⟩ := R1.tup V1 eo
            exact ⟨ad, rfl, ⟨ys, SqT.of z⟩, hk as1 H1 _ p1 R1 (itok_tup i1)⟩
          | _ => exact absurd rfl hc
      | _ => exact absurd rfl hc
  | exc c fs en st1 =>
    rw [q] at hP
    refine ⟨iStr (UE G iter), fun X hX => pi_str (pe_U hX), ha env st as σ H _ h0 h1 ?_⟩
    rw [q]
    exact hP
  | nxt a b => rw [q] at hP; exact hP.elim
  | ret a b => rw [q] at hP; exact hP.elim
  | stk => rw [q] at hP; exact hP.elim
/-- range(n), range(n, k) -/
theorem si_rng1 (T : Tab P w K mg base cls Pg cf lv) (hs : isStar ea = false) (hg : S.sc.names.lookup ("range" : Str) = some .globalImplicit) (ha : SA cls G W [ea] a) :
    ∀ env st as σ H (Q : It → Hp → Prop), Rel cls as st H → SR as env σ → PI' cls as .rng1 (a env st) Q (fun c d H' => W c d σ H') → UI G tgE (.Call (.Name "range" p) [ea] [] pos) σ H Q := by
  intro env st as σ H Q h0 h1 hP
  refine ⟨iRng1 (UA G [ea]), fun X hX => pi_range1 (gl_of hG hX hg) (by rw [(hG X hX).1.mg]; exact T.rng) (pa_U hX) (star_cons hs), ha env st as σ H _ h0 h1 ?_⟩
  cases q : a env st with
  | val vs st1 =>
    rw [q] at hP
    obtain ⟨hc, hk⟩ := hP
    intro as1 ws H1 p1 R1 V1
    match vs, hc, hk, V1 with
    | [], hc, hk, V1 => exact absurd rfl hc
    | v :: u :: t, hc, hk, V1 => exact absurd (by cases v <;> rfl) hc
    | [v], hc, hk, V1 =>
      obtain ⟨w1, rfl, r⟩ := vrs1 V1
      cases v with
      | int n =>
        cases r
        by_cases hb : -(2 ^ 62) ≤ n ∧ n < 2 ^ 62
        · exact ⟨n, rfl, hb.1, hb.2, hk as1 H1 _ p1 R1 itok_rng1⟩
        · exact absurd (by unfold cur; dsimp only; rw [if_neg hb]) hc
      | _ => exact absurd rfl hc
  | exc c fs en st1 =>
    rw [q] at hP
    exact hP
  | nxt a b => rw [q] at hP; exact hP.elim
  | ret a b => rw [q] at hP; exact hP.elim
  | stk => rw [q] at hP; exact hP.elim
theorem si_rng2 (T : Tab P w K mg base cls Pg cf lv) (hs : isStar ea = false) (hs2 : isStar eb = false) (hg : S.sc.names.lookup ("range" : Str) = some .globalImplicit) (ha : SA cls G W [ea, eb] a) :
    ∀ env st as σ H (Q : It → Hp → Prop), Rel cls as st H → SR as env σ → PI' cls as .rng2 (a env st) Q (fun c d H' => W c d σ H') → UI G tgE (.Call (.Name "range" p) [ea, eb] [] pos) σ H Q := by
  intro env st as σ H Q h0 h1 hP
  refine ⟨iRng2 (UA G [ea, eb]), fun X hX => pi_range2 (gl_of hG hX hg) (by rw [(hG X hX).1.mg]; exact T.rng) (pa_U hX) (by rw [star_cons hs, star_cons hs2]; rfl) (star_cons hs2), ha env st as σ H _ h0 h1 ?_⟩
  cases q : a env st with
  | val vs st1 =>
    rw [q] at hP
    obtain ⟨hc, hk⟩ := hP
    intro as1 ws H1 p1 R1 V1
    match vs, hc, hk, V1 with
    | [], hc, hk, V1 => exact absurd rfl hc
    | [v], hc, hk, V1 => exact absurd (by cases v <;> rfl) hc
    | v :: u :: z :: t, hc, hk, V1 => exact absurd (by cases v <;> cases u <;> rfl) hc
    | [v, u], hc, hk, V1 =>
      cases V1 with
      | cons r r2 =>
        obtain ⟨w1, e1, r3⟩ := vrs1 r2
        subst e1
        cases v with
        | int n =>
          cases u with
          | int k =>
            cases r
            obtain rfl : w1 = V.int k := r3
            by_cases hb : -(2 ^ 62) ≤ n ∧ n < 2 ^ 62 ∧ -(2 ^ 62) ≤ k ∧ k < 2 ^ 62
            · exact ⟨n, k, rfl, hb, hk as1 H1 _ p1 R1 itok_rng2⟩
            · exact absurd (by unfold cur; dsimp only; rw [if_neg hb]) hc
          | _ => exact absurd rfl hc
        | _ => exact absurd (by cases u <;> rfl) hc
  | exc c fs en st1 =>
    rw [q] at hP
    exact hP
  | nxt a b => rw [q] at hP; exact hP.elim
  | ret a b => rw [q] at hP; exact hP.elim
  | stk => rw [q] at hP; exact hP.elim

theorem si_rngd (T : Tab P w K mg base cls Pg cf lv) (hs : isStar ea = false) (hs2 : isStar eb = false) (hs3 : isStar ec = false) (hg : S.sc.names.lookup ("range" : Str) = some .globalImplicit) (ha : SA cls G W [ea, eb, ec] a) :
    ∀ env st as σ H (Q : It → Hp → Prop), Rel cls as st H → SR as env σ → PI' cls as .rngd (a env st) Q (fun c d H' => W c d σ H') → UI G tgE (.Call (.Name "range" p) [ea, eb, ec] [] pos) σ H Q := by
  intro env st as σ H Q h0 h1 hP
  refine ⟨iRng3 (UA G [ea, eb, ec]), fun X hX => pi_range3 (gl_of hG hX hg) (by rw [(hG X hX).1.mg]; exact T.rng) (pa_U hX) (by rw [star_cons hs]) (by rw [star_cons hs2, star_cons hs3]; rfl), ha env st as σ H _ h0 h1 ?_⟩
  cases q : a env st with
  | val vs st1 =>
    rw [q] at hP
    obtain ⟨hc, hk⟩ := hP
    intro as1 ws H1 p1 R1 V1
    match vs, hc, hk, V1 with
    | [], hc, hk, V1 => exact absurd rfl hc
    | [v], hc, hk, V1 => exact absurd (by cases v <;> rfl) hc
    | [v, u], hc, hk, V1 => exact absurd (by cases v <;> cases u <;> rfl) hc
    | v :: u :: z :: y :: t, hc, hk, V1 => exact absurd (by cases v <;> cases u <;> cases z <;> rfl) hc
    | [v, u, z], hc, hk, V1 =>
      cases V1 with
      | cons r r2 =>
        cases r2 with
        | cons r2 r3 =>
          obtain ⟨w1, e1, r4⟩ := vrs1 r3
          subst e1
          cases v with
          | int n =>
            cases u with
            | int k =>
              cases z with
              | int c =>
                cases r
                cases r2
                obtain rfl : w1 = V.int c := r4
                by_cases hb : c = -1 ∧ -(2 ^ 62) ≤ n ∧ n < 2 ^ 62 ∧ -(2 ^ 62) ≤ k ∧ k < 2 ^ 62
                · obtain ⟨rfl, b1, b2, b3, b4⟩ := hb
                  exact ⟨n, k, -1, _, rfl, RgC.neg b1 b2 b3 b4, hk as1 H1 _ p1 R1 itok_rngd⟩
                · exact absurd (by unfold cur; dsimp only; rw [if_neg hb]) hc
              | _ => exact absurd rfl hc
            | _ => exact absurd (by cases z <;> rfl) hc
          | _ => exact absurd (by cases u <;> cases z <;> rfl) hc
  | exc c fs en st1 =>
    rw [q] at hP
    exact hP
  | nxt a b => rw [q] at hP; exact hP.elim
  | ret a b => rw [q] at hP; exact hP.elim
  | stk => rw [q] at hP; exact hP.elim

def tupB : Expr → Bool
  | .Tuple _ _ _ => true
  | _ => false
/-- enumerate(xs, start=1) -/
theorem si_enum1 (T : Tab P w K mg base cls Pg cf lv) {cs : Nat} {kp cp : Pos} (ht : tupB tgE = true) (hs : isStar ea = false) (hg : S.sc.names.lookup ("enumerate" : Str) = some .globalImplicit) (ha : SA cls G W [ea] a) :
    ∀ env st as σ H (Q : It → Hp → Prop), Rel cls as st H → SR as env σ → PI' cls as .enum1 (a env st) Q (fun c d H' => W c d σ H') → UI G tgE (.Call (.Name "enumerate" p) [ea] [⟨some "start", .Constant (.int 1) cs cp, kp⟩] pos) σ H Q := by
  intro env st as σ H Q h0 h1 hP
  obtain ⟨elts, kk, tpos, rfl⟩ : ∃ elts kk tpos, tgE = .Tuple elts kk tpos := by
    cases tgE <;> first | exact ⟨_, _, _, rfl⟩ | cases ht
  refine ⟨iEnum1 K 1 (UA G [ea]), fun X hX => by rw [← (hG X hX).1.k]; exact pi_enum1 (by decide) (by decide) (gl_of hG hX hg) (by rw [(hG X hX).1.mg]; exact T.enu) (pa_U hX) (star_cons hs), ha env st as σ H _ h0 h1 ?_⟩
  cases q : a env st with
  | val vs st1 =>
    rw [q] at hP
    obtain ⟨hc, hk⟩ := hP
    intro as1 ws H1 p1 R1 V1
    match vs, hc, hk, V1 with
    | [], hc, hk, V1 => exact absurd rfl hc
    | v :: u :: t, hc, hk, V1 => exact absurd (by cases v <;> rfl) hc
    | [v], hc, hk, V1 =>
      obtain ⟨w1, rfl, r⟩ := vrs1 V1
      cases v with
      | ref p =>
        cases eo : st1[p]? with
        | none => exact absurd (by unfold cur; dsimp only; rw [eo]) hc
        | some ob =>
          cases ob with
          | lst xs =>
            obtain ⟨ad, ys, rfl, i1, r', z⟩ := R1.lst r eo
            exact ⟨ad, ys, rfl, SqL.of z, hk as1 H1 _ p1 R1 (itok_enum1 (xs0 := []) i1)⟩
          | _ => exact absurd (by unfold cur; dsimp only; rw [eo]) hc
      | _ => exact absurd rfl hc
  | exc c fs en st1 =>
    rw [q] at hP
    exact hP
  | nxt a b => rw [q] at hP; exact hP.elim
  | ret a b => rw [q] at hP; exact hP.elim
  | stk => rw [q] at hP; exact hP.elim

/-! ### loops -/
omit hG in
theorem PF.bn {r : R} {k : Ev → Store → R} {D : Ends} (h : PF cls as (r.bn k) D W) : PF cls as r { D with nx := fun σ H => ∃ env st as', as <+: as' ∧ Rel cls as' st H ∧ SR as' env σ ∧ PF cls as' (k env st) D W } W := by
  cases r with
  | nxt env st => exact fun as' σ H p R S => ⟨env, st, as', p, R, S, PF.mono p h⟩
  | ret v st => exact h
  | exc c fs en st => exact h
  | val vs st => exact h.elim
  | stk => exact h.elim
omit hG in
theorem PF.imp {r : R} {D D' : Ends} (h : PF cls as r D W) (h1 : ∀ σ H, D.nx σ H → D'.nx σ H) (h2 : ∀ v H, D.rt v H → D'.rt v H) : PF cls as r D' W := by
  cases r with
  | nxt env st => exact fun as' σ H p R S => h1 _ _ (h as' σ H p R S)
  | ret v st => exact fun as' σ H p R S => h2 _ _ (h as' σ H p R S)
  | exc c fs en st => exact h
  | val vs st => exact h.elim
  | stk => exact h.elim
/-- how a for's iterable is walked: by its kind -/
abbrev SIk (cls : Str → Addr) (G : Cx → Prop) (W : WX) (k : Ik) (tg iter : Expr) (f : Ev → Store → R) : Prop := ∀ env st as σ H (Q : It → Hp → Prop), Rel cls as st H → SR as env σ →
  (match f env st with
    | .val vs st' => cur (rk k vs st') vs 0 st' ≠ none ∧ ∀ as' H' J, as <+: as' → Rel cls as' st' H' → ItOk cls as' (rk k vs st') vs J → Q J H'
    | .exc c fs _ st' => ∀ as' H' cv d, as <+: as' → Rel cls as' st' H' → XR cls as' c fs cv d H' → W cv d σ H'
    | _ => False) → UI G tg iter σ H Q
def fFor (tg : Tg) (k : Ik) (a b : Ev → Store → R) : Ev → Store → R := fun env st => (a env st).bs fun vs st1 => loopN (cur (rk k vs st1) vs) (fun x env2 st2 => match setTg tg x env2 st2 with
      | none => .stk
      | some env3 => b env3 st2) (turns k vs st1 + 1) 0 env st1
def notSet : Expr → Bool
  | .Set _ _ _ => false
  | _ => true
omit hG in
theorem fold_ok {e : Expr} (h : notSet e = true) (env : Env) (x : Value) : foldedSetIterable e env x = pure x := by
  cases e <;> first | rfl | cases h
theorem loop_ok {tg : Tg} {body : List Stmt} {bd : Ev → Store → R} {k : Ik} {vs : List V} {J : It} {D : Ends} {as0 : List Addr} (htg : tgB S.N S.own tg tgE = true) (hb : SSs cls G W body bd) (hJ : ItOk cls as0 k vs J) {m : Nat} {env : Ev} {st : Store} {as : List Addr} (hp : as0 <+: as) (h0 : Rel cls as st H) (h1 : SR as env σ)
    (hP : PF cls as (loopN (cur k vs) (fun x env2 st2 => match setTg tg x env2 st2 with
      | none => .stk
      | some env3 => bd env3 st2) m 0 env st) D W) :
    ∃ Wd : Nat → Nat → L2.St → Hp → Prop, (∃ m, Wd 0 m σ H) ∧ ∀ i m σ H, Wd i m σ H →
      (J.stop i H ∧ D.nx σ H) ∨ (J.go i H ∧ ∃ N : L2.St → Hp → Prop, (∀ σ' H', N σ' H' → ∃ m', m' < m ∧ Wd (i + 1) m' σ' H') ∧ ∀ x H', J.yld i H x H' → UG G tgE x σ H' fun σ2 H2 => USs G body { D with nx := N, ct := N, bk := D.nx } σ2 H2) := by
  refine ⟨fun i m σ H => ∃ env st as, as0 <+: as ∧ Rel cls as st H ∧ SR as env σ ∧ PF cls as (loopN (cur k vs) (fun x env2 st2 => match setTg tg x env2 st2 with
      | none => .stk
      | some env3 => bd env3 st2) m i env st) D W, ⟨m, env, st, as, hp, h0, h1, hP⟩, ?_⟩
  intro i m σ H ⟨env, st, as, hp, h0, h1, hP⟩
  cases m with
  | zero => exact hP.elim
  | succ m =>
    unfold loopN at hP
    cases ec : cur k vs i st with
    | none => rw [ec] at hP; exact hP.elim
    | some oc =>
      rw [ec] at hP
      cases oc with
      | none => exact .inl ⟨(hJ i st as H hp h0).1 ec, hP as σ H (List.prefix_refl _) h0 h1⟩
      | some xs =>
        obtain ⟨x, st1⟩ := xs
        obtain ⟨g1, g2⟩ := (hJ i st as H hp h0).2 x st1 ec
        refine .inr ⟨g1, fun σ' H' => ∃ env st as, as0 <+: as ∧ Rel cls as st H' ∧ SR as env σ' ∧ PF cls as (loopN (cur k vs) (fun x env2 st2 => match setTg tg x env2 st2 with
          | none => .stk
          | some env3 => bd env3 st2) m (i + 1) env st) D W, fun σ' H' hN => ⟨m, Nat.lt_succ_self m, hN⟩, fun y H' hy => ?_⟩
        obtain ⟨as1, p1, R1, V1⟩ := g2 y H' hy
        dsimp only at hP
        cases es : setTg tg x env st1 with
        | none => rw [es] at hP; exact hP.elim
        | some env3 =>
          rw [es] at hP
          refine ug_of hG htg R1 (h1.mono p1) V1 es fun σ3 S3 _ => ?_
          refine hb env3 st1 as1 σ3 H' _ R1 S3 (PF.imp (PF.bn (PF.mono p1 hP)) (fun σ4 H4 ⟨env4, st4, as4, p4, R4, S4, P4⟩ => ?_) (fun v H4 q => q))
          exact ⟨env4, st4, as4, (hp.trans p1).trans p4, R4, S4, P4⟩
omit hG in
theorem exE_env {r : R} {env : Ev} {c : Str} {fs : List (Str × V)} {en : Ev} {st1 : Store} (h : exE r env = .exc c fs en st1) : en = env := by
  cases r <;> first | (cases h; done) | (cases h; rfl)
omit hG in
theorem SE.ex (h : SE cls G W e a) : SE cls G W e (fun env st => exE (a env st) env) := fun env st as σ H Q h0 h1 hP => h env st as σ H Q h0 h1 (exE_pv hP)
omit hG in
theorem ST.ex (h : ST cls G W e a) : ST cls G W e (fun env st => exE (a env st) env) := fun env st as σ H Q h0 h1 hP => h env st as σ H Q h0 h1 (by
  dsimp only at hP
  cases q : a env st with
  | exc c fs en st1 => rw [q] at hP; exact hP
  | _ => rw [q] at hP; exact hP)
omit hG in
theorem SA.ex (h : SA cls G W es a) : SA cls G W es (fun env st => exE (a env st) env) := fun env st as σ H Q h0 h1 hP => h env st as σ H Q h0 h1 (by
  dsimp only at hP
  cases q : a env st with
  | exc c fs en st1 => rw [q] at hP; exact hP
  | _ => rw [q] at hP; exact hP)
omit hG in
theorem SIk.ex {k : Ik} (h : SIk cls G W k tgE iter a) : SIk cls G W k tgE iter (fun env st => exE (a env st) env) := fun env st as σ H Q h0 h1 hP => h env st as σ H Q h0 h1 (by
  dsimp only at hP
  cases q : a env st with
  | exc c fs en st1 => rw [q] at hP; exact hP
  | _ => rw [q] at hP; exact hP)
/-- one value, then a statement's end -/
theorem SE.gf {D : Ends} (h : SE cls G W e a) {env : Ev} {st : Store} {as : List Addr} (h0 : Rel cls as st H) (h1 : SR as env σ) {k : V → Store → R} (hP : PF cls as ((exE (a env st) env).b1 k) D W) {Q' : VK}
    (g : ∀ v st1 as1 w H1, as <+: as1 → Rel cls as1 st1 H1 → SR as1 env σ → VR as1 v w → PF cls as1 (k v st1) D W → Q' w H1) : UE G e σ H Q' :=
  (SE.ex h).goF h0 h1 (fun c fs en st1 q => exE_env q) hP g
/-- a test, then two ways -/
theorem ST.gf {D : Ends} (h : ST cls G W e a) {env : Ev} {st : Store} {as : List Addr} (h0 : Rel cls as st H) (h1 : SR as env σ) {k : V → Store → R} (hP : PF cls as ((exE (a env st) env).b1 k) D W) {Q' : Bool → Hp → Prop}
    (g : ∀ v b st1 as1 H1, as <+: as1 → Rel cls as1 st1 H1 → SR as1 env σ → truth v st1 = some b → PF cls as1 (k v st1) D W → Q' b H1) (hk : ∀ v st1, truth v st1 = none → k v st1 = .stk) : UT G e σ H Q' := by
  refine (ST.ex h).run h0 h1 ?_
  unfold PT'
  dsimp only
  cases q : exE (a env st) env with
  | val vs st1 =>
    rw [q] at hP
    match vs, hP with
    | [v], hP =>
      cases ht : truth v st1 with
      | none =>
        have hP2 : PF cls as (k v st1) D W := hP
        rw [hk v st1 ht] at hP2
        exact hP2.elim
      | some b => exact ⟨b, ht, fun as1 H1 p R1 => g v b st1 as1 H1 p R1 (h1.mono p) ht (PF.mono p hP)⟩
    | [], hP => exact hP.elim
    | _ :: _ :: _, hP => exact hP.elim
  | exc c fs en st1 =>
    have := exE_env q
    subst this
    rw [q] at hP
    exact fun as1 H1 cv d p R1 x => hP as1 σ H1 cv d p R1 (h1.mono p) x
  | nxt a b => rw [q] at hP; exact hP.elim
  | ret a b => rw [q] at hP; exact hP.elim
  | stk => rw [q] at hP; exact hP.elim
/-! ### statements -/
theorem ss_for {tg : Tg} {k : Ik} {body : List Stmt} (hD : ∀ X, G X → PassesOwn (model X.prog X.w) X.A X.env X.xe) (hn : notSet iter = true) (htg : tgB S.N S.own tg tgE = true) (hi : SIk cls G W k tgE iter a) (hb : SSs cls G W body b) :
    SS cls G W (.For tgE iter body [] pos) (fun env st => (exE (a env st) env).bs fun vs st1 => loopN (cur (rk k vs st1) vs) (fun x env2 st2 => match setTg tg x env2 st2 with
      | none => .stk
      | some env3 => b env3 st2) (turns k vs st1 + 1) 0 env st1) := by
  intro env st as σ H D h0 h1 hP; dsimp only at hP
  refine ⟨tFor (UI G tgE iter) (UG G tgE) (USs G body), fun X hX => ps_for (hD X hX) (hG X hX).1.calm (pi_U hX) (pg_U hX) (pss_U hX) (fold_ok hn _), ?_⟩
  refine SIk.ex hi env st as σ H _ h0 h1 ?_
  dsimp only
  cases q : exE (a env st) env with
  | val vs st1 =>
    rw [q] at hP
    have hP2 : PF cls as (loopN (cur (rk k vs st1) vs) (fun x env2 st2 => match setTg tg x env2 st2 with
      | none => .stk
      | some env3 => b env3 st2) (turns k vs st1 + 1) 0 env st1) D W := hP
    refine ⟨fun hc => ?_, fun as1 H1 J p1 R1 hJ => loop_ok hG htg hb hJ (List.prefix_refl _) R1 (h1.mono p1) (PF.mono p1 hP2)⟩
    unfold loopN at hP2
    rw [hc] at hP2
    exact hP2.elim
  | exc c fs en st1 =>
    have := exE_env q
    subst this
    rw [q] at hP
    exact fun as1 H1 cv d p R1 x => hP as1 σ H1 cv d p R1 (h1.mono p) x
  | nxt a b => rw [q] at hP; exact hP.elim
  | ret a b => rw [q] at hP; exact hP.elim
  | stk => rw [q] at hP; exact hP.elim
theorem ss_whl {body : List Stmt} (hD : ∀ X, G X → PassesOwn (model X.prog X.w) X.A X.env X.xe) (hc : ST cls G W ec c) (hb : SSs cls G W body b) :
    SS cls G W (.While ec body [] pos) (fun env st => whlN (fun env st => exE (c env st) env) b wBound env st) := by
  intro env st as σ H D h0 h1 hP; dsimp only at hP
  refine ⟨tWhile (UT G ec) (USs G body), fun X hX => ps_while (hD X hX) (pt_U hX) (pss_U hX), ?_⟩
  refine ⟨fun m σ H => ∃ env st as, Rel cls as st H ∧ SR as env σ ∧ PF cls as (whlN (fun env st => exE (c env st) env) b m env st) D W, ⟨wBound, env, st, as, h0, h1, hP⟩, ?_⟩
  intro m σ H ⟨env, st, as, h0, h1, hP⟩
  cases m with
  | zero => exact hP.elim
  | succ m =>
    unfold whlN at hP
    refine hc.gf hG h0 h1 hP (fun v k st1 as1 H1 p1 R1 S1 ht hP1 => ?_) (fun v st1 ht => by simp only [ht])
    rw [ht] at hP1
    cases k with
    | true =>
      rw [if_pos rfl]
      refine ⟨fun σ' H' => ∃ env st as, Rel cls as st H' ∧ SR as env σ' ∧ PF cls as (whlN (fun env st => exE (c env st) env) b m env st) D W, fun σ' H' hN => ⟨m, Nat.lt_succ_self m, hN⟩, ?_⟩
      refine hb env st1 as1 σ H1 _ R1 S1 (PF.imp (PF.bn hP1) (fun σ4 H4 ⟨env4, st4, as4, p4, R4, S4, P4⟩ => ?_) (fun v H4 q => q))
      exact ⟨env4, st4, as4, R4, S4, P4⟩
    | false =>
      rw [if_neg (by decide)]
      exact hP1 as1 σ H1 (List.prefix_refl _) R1 S1
omit hG in
theorem sss_nil : SSs cls G W [] (fun env st => .nxt env st) := fun env st as σ H D h0 h1 hP => ⟨tNext, fun X hX => pss_nil, hP as σ H (List.prefix_refl _) h0 h1⟩
omit hG in
theorem sss_cons {s : Stmt} {ss : List Stmt} (ha : SS cls G W s a) (hb : SSs cls G W ss b) : SSs cls G W (s :: ss) (fun env st => (a env st).bn fun env1 st1 => b env1 st1) := fun env st as σ H D h0 h1 hP => by
  refine ⟨tSeq (US G s) (USs G ss), fun X hX => pss_cons (ps_U hX) (pss_U hX), ?_⟩
  refine ha env st as σ H _ h0 h1 (PF.imp (PF.bn hP) (fun σ1 H1 ⟨env1, st1, as1, p1, R1, S1, P1⟩ => ?_) (fun v H1 q => q))
  exact hb env1 st1 as1 σ1 H1 D R1 S1 P1
omit hG in
theorem ss_pass : SS cls G W (.Pass pos) (fun env st => .nxt env st) := fun env st as σ H D h0 h1 hP => ⟨tNext, fun X hX => ps_pass, hP as σ H (List.prefix_refl _) h0 h1⟩
theorem ss_ifs {p q : List Stmt} (hc : ST cls G W ec c) (ha : SSs cls G W p a) (hb : SSs cls G W q b) : SS cls G W (.If ec p q pos) (fun env st => (exE (c env st) env).b1 fun v st1 => match truth v st1 with
    | none => .stk
    | some true => a env st1
    | some false => b env st1) := fun env st as σ H D h0 h1 hP => by
  dsimp only at hP
  refine ⟨tIfS (UT G ec) (USs G p) (USs G q), fun X hX => ps_if (pt_U hX) (pss_U hX) (pss_U hX), ?_⟩
  refine hc.gf hG h0 h1 hP (fun v k st1 as1 H1 p1 R1 S1 ht hP1 => ?_) (fun v st1 ht => by simp only [ht])
  rw [ht] at hP1
  cases k with
  | true => rw [if_pos rfl]; exact ha env st1 as1 σ H1 D R1 S1 hP1
  | false => rw [if_neg (by decide)]; exact hb env st1 as1 σ H1 D R1 S1 hP1
theorem ss_ret (ha : SE cls G W ea a) : SS cls G W (.Return (some ea) pos) (fun env st => (exE (a env st) env).b1 fun v st1 => .ret v st1) := fun env st as σ H D h0 h1 hP =>
  ⟨tRet (UE G ea), fun X hX => ps_ret (pe_U hX), ha.gf hG h0 h1 hP fun v st1 as1 w H1 p1 R1 S1 V1 hP1 => hP1 as1 w H1 (List.prefix_refl _) R1 V1⟩
omit hG in
theorem ss_retN : SS cls G W (.Return none pos) (fun _ st => .ret .non st) := fun env st as σ H D h0 h1 hP =>
  ⟨tRetN, fun X hX => ps_retN, hP as .non H (List.prefix_refl _) h0 rfl⟩
def plainVal : Expr → Bool
  | .ListComp _ _ _ _ => false
  | .SetComp _ _ _ _ => false
  | .DictComp _ _ _ _ _ => false
  | _ => true
omit hG in
theorem swap_ok {e : Expr} (h : plainVal e = true) (t : Option Expr) (l : Nat) (env : Env) : swapsWith e t l env = pure false := by
  cases e <;> first | rfl | cases h
theorem ss_drop (hp : plainVal ea = true) (ha : SE cls G W ea a) : SS cls G W (.Expr ea pos) (fun env st => (exE (a env st) env).b1 fun _ st1 => .nxt env st1) := fun env st as σ H D h0 h1 hP =>
  ⟨tDrop (UE G ea), fun X hX => ps_expr (pe_U hX) (swap_ok hp _ _ _), ha.gf hG h0 h1 hP fun v st1 as1 w H1 p1 R1 S1 V1 hP1 => hP1 as1 σ H1 (List.prefix_refl _) R1 S1⟩
theorem ss_asgN {i : Nat} {p' : Pos} (hp : plainVal ea = true) (hN : S.N[i]? = some x) (ho : x ∈ S.own) (ha : SE cls G W ea a) : SS cls G W (.Assign [.Name x p'] ea pos) (fun env st => (exE (a env st) env).b1 fun v st1 => if i < env.length then .nxt (env.set i (some v)) st1 else .stk) := fun env st as σ H D h0 h1 hP => by
  dsimp only at hP
  refine ⟨tAsg (UE G ea) (gName i), fun X hX => ?_, ha.gf hG h0 h1 hP fun v st1 as1 w H1 p1 R1 S1 V1 hP1 => ?_⟩
  · obtain ⟨o1, o2⟩ := (hG X hX).1.own x ho
    exact ps_set (by rw [(hG X hX).1.n]; exact (hG X hX).1.nd) (by rw [(hG X hX).1.n]; exact hN) o1 (pe_U hX) (swap_ok hp _ _ _) o2
  · split at hP1
    · exact hP1 as1 _ H1 (List.prefix_refl _) R1 (S1.set V1 i)
    · exact hP1.elim
def notTup : Expr → Bool
  | .Tuple _ _ _ => false
  | _ => true
omit hG in
theorem swapped_ok {ts : List Expr} {e : Expr} {k : Nat} {p' : Pos} {env : Env} (h : notTup e = true) : swappedStores [.Tuple ts k p'] e env = pure none := by
  cases e <;> first | rfl | cases h
theorem ss_asgT {is : List Nat} {ts : List Expr} {k : Nat} {p' : Pos} (hp : plainVal ea = true) (hnt : notTup ea = true) (htg : tgB S.N S.own (.t is) (.Tuple ts k p') = true) (ha : SE cls G W ea a) : SS cls G W (.Assign [.Tuple ts k p'] ea pos) (fun env st => (exE (a env st) env).b1 fun v st1 => match setTg (.t is) v env st1 with
    | some env1 => .nxt env1 st1
    | none => .stk) := fun env st as σ H D h0 h1 hP => by
  dsimp only at hP
  refine ⟨tAsg (UE G ea) (UG G (.Tuple ts k p')), fun X hX => ps_asg (pe_U hX) (pg_U hX) (by unfold swapsWithSole; exact swap_ok hp _ _ _) (swapped_ok hnt) rfl, ha.gf hG h0 h1 hP fun v st1 as1 w H1 p1 R1 S1 V1 hP1 => ?_⟩
  split at hP1
  · rename_i env1 es
    exact ug_of hG htg R1 S1 V1 es fun σ' S' _ => hP1 as1 σ' H1 (List.prefix_refl _) R1 S'
  · exact hP1.elim
omit hG in
theorem KRs.putF {as : List Addr} {f : Str} {v w : V} (r : VR as v w) : ∀ {fs gs : List (Str × V)}, KRs as fs gs → KRs as (putF f v fs) (L2.putF f w gs)
  | _, _, .nil => .cons ⟨rfl, r⟩ .nil
  | _, _, .cons (a := p) (b := q) g rs => by
    obtain ⟨p1, p2⟩ := p
    obtain ⟨q1, q2⟩ := q
    obtain ⟨g1, g2⟩ := g
    dsimp only at g1 g2
    subst g1
    show KRs as (if p1 = f then (p1, v) :: _ else (p1, p2) :: _) (if p1 = f then (p1, w) :: _ else (p1, q2) :: _)
    by_cases h : p1 = f
    · rw [if_pos h, if_pos h]
      exact .cons ⟨rfl, r⟩ rs
    · rw [if_neg h, if_neg h]
      exact .cons ⟨rfl, g2⟩ (KRs.putF r rs)
theorem ss_asgF (T : Tab P w K mg base cls Pg cf lv) {f : Str} {p' : Pos} (hp : plainVal ea = true) (hb : plainBase eo = true) (ho : SE cls G W eo o) (ha : SE cls G W ea a) : SS cls G W (.Assign [.Attribute eo f p'] ea pos) (fun env st => (exE (a env st) env).b1 fun v st1 => (exE (o env st1) env).b1 fun x st2 => match x with
    | .ref p => match st2[p]? with
      | some (.ins c fs) => if fs.length < 1000 ∧ Pg.fld c f = true then .nxt env (st2.set p (.ins c (putF f v fs))) else .stk
      | _ => .stk
    | _ => .stk) := fun env st as σ H D h0 h1 hP => by
  dsimp only at hP
  refine ⟨sFld K (UE G eo) (UE G ea) f, fun X hX => by rw [← (hG X hX).1.k]; exact ps_fld (pe_U hX) (pe_U hX) (swap_ok hp _ _ _), ?_⟩
  refine ha.gf hG h0 h1 hP fun v st1 as1 w H1 p1 R1 S1 V1 hP1 => ho.gf hG R1 S1 hP1 fun u st2 as2 y H2 p2 R2 S2 V2 hP2 => ?_
  split at hP2
  · split at hP2
    · rename_i p c fs e
      obtain ⟨ad, dx, gs, rfl, i1, r, z⟩ := R2.ins V2 e
      split at hP2
      · rename_i hl
        refine ⟨ad, cls c, dx, gs, rfl, z, (T.fld c f hl.2).1, (T.fld c f hl.2).2, by rw [← Mi.P.length r]; exact hl.1, ?_⟩
        exact hP2 as2 σ _ (List.prefix_refl _) (R2.set i1 ⟨dx, _, KRs.putF (V1.mono p2) r, upd_same⟩) S2
      · exact hP2.elim
    · exact hP2.elim
  · exact hP2.elim

/-! ### o[i] = v -/
omit hG in
theorem set_dict {X : Cx} (hu : X.A.units + 1 < cLine) : PSet X (fun o i v H Q => ∃ a H', o = .ref a ∧ DPut H a i v H' ∧ Q H') := fun pins s σ H o i v ov iv u Q I ro ri rv ⟨a, H', eo, g, q⟩ => by
  subst eo
  obtain rfl : ov = Value.ref a := ro
  exact d_setItem hu I g ri rv fun s' I' => ⟨H', I', q⟩
omit hG in
theorem KRs.putK {κ : Type} [DecidableEq κ] {as : List Addr} {k : κ} {v w : V} (r : VR as v w) {kvs kws : List (κ × V)} (h : KRs as kvs kws) : KRs as (putK kvs k v) (L2.putK kws k w) := by
  have ha : (kvs.any fun kv => decide (kv.1 = k)) = (kws.any fun kv => decide (kv.1 = k)) := by
    induction h with
    | nil => rfl
    | cons f _ ih =>
      rw [List.any_cons, List.any_cons, ih, f.1]
  unfold L2.putK
  rw [ha]
  split
  · rename_i hh
    clear ha hh
    induction h with
    | nil => exact .nil
    | cons f rs ih =>
      rename_i p q l1 l2
      rw [List.map_cons, List.map_cons]
      refine .cons ?_ ih
      rw [f.1]
      split
      · exact ⟨rfl, r⟩
      · exact ⟨f.1, f.2⟩
  · exact Mi.P.append h (.cons ⟨rfl, r⟩ .nil)
theorem setI_ok {v u z x y q : V} {st' : Store} {QH : Hp → Prop} (R : Rel cls as st H) (hx : VR as v x) (hy : VR as u y) (hz : VR as z q) (h : setI v u z st = some st') (k : ∀ H', Rel cls as st' H' → QH H') : USet G x y q H QH := by
  unfold setI at h
  split at h
  · split at h
    · rename_i p i xs kk e
      obtain ⟨a, ys, rfl, i1, r1, z1⟩ := R.lst hx e
      cases hy
      split at h
      · rename_i j ej
        cases h
        refine ⟨_, fun X hX => set_list, a, ys, kk, j, rfl, rfl, z1, by rw [← Mi.P.length r1]; exact ej, ?_⟩
        exact k _ (R.set i1 ⟨_, Mi.P.set hz j r1, upd_same⟩)
      · cases h
    · rename_i p i kvs kk e
      obtain ⟨a, kws, rfl, i1, r1, z1⟩ := R.dK hx e
      cases hy
      split at h
      · rename_i hl
        cases h
        refine ⟨_, fun X hX => set_dict (by have := (hG X hX).1.room.units; omega), a, _, rfl, DPut.k (k := Sum.inr kk) z1 (by rw [← sz_eq, ← Mi.P.length r1]; exact hl), ?_⟩
        exact k _ (R.set i1 ⟨_, KRs.putK hz r1, upd_same⟩)
      · cases h
    · cases h
  · cases h
omit hG in
theorem swapS_ok {e a b : Expr} {p' : Pos} (l : Nat) (env : Env) : swapsWith e (some (.Subscript a b p')) l env = pure false := by
  cases e <;> rfl
theorem ss_asgI {p' : Pos} (hns : noSlice eb = true) (ho : SE cls G W eo o) (hi : SE cls G W eb b) (ha : SE cls G W ea a) : SS cls G W (.Assign [.Subscript eo eb p'] ea pos) (fun env st => (exE (a env st) env).b1 fun v st1 => (exE (o env st1) env).b1 fun x st2 => (exE (b env st2) env).b1 fun y st3 => match setI x y v st3 with
    | some st4 => .nxt env st4
    | none => .stk) := fun env st as σ H D h0 h1 hP => by
  dsimp only at hP
  refine ⟨tAsg (UE G ea) (gSub (UE G eo) (UE G eb) (USet G)), fun X hX => ps_asg (pe_U hX) (pg_sub (pe_U hX) (pe_U hX) (set_U hX) ?_) (by unfold swapsWithSole; exact swapS_ok _ _) rfl rfl, ?_⟩
  · intro v
    cases eb <;> first | rfl | cases hns
  · refine ha.gf hG h0 h1 hP fun v st1 as1 w H1 p1 R1 S1 V1 hP1 => ho.gf hG R1 S1 hP1 fun u st2 as2 y H2 p2 R2 S2 V2 hP2 => hi.gf hG R2 S2 hP2 fun z st3 as3 q H3 p3 R3 S3 V3 hP3 => ?_
    split at hP3
    · rename_i st4 es
      exact setI_ok hG R3 (V2.mono p3) V3 ((V1.mono p2).mono p3) es fun H' R' => hP3 as3 σ H' (List.prefix_refl _) R' S3
    · exact hP3.elim
/-! ### x op= e -/
omit hG in
def UIp (G : Cx → Prop) (op : Operator) : TIp := fun x y H Q => ∃ r, (∀ X, G X → PIp X op r) ∧ r x y H Q
theorem ss_aug {i : Nat} {op : Operator} {p' : Pos} (hN : S.N[i]? = some x) (ho : x ∈ S.own) (ha : SE cls G W ea a) : SS cls G W (.AugAssign (.Name x p') op ea pos) (fun env st => match env[i]? with
    | some (some x) => (exE (a env st) env).b1 fun y st1 => match op, x, y with
      | .Add, .int a, .int b => .nxt (env.set i (some (.int (a + b)))) st1
      | .Sub, .int a, .int b => .nxt (env.set i (some (.int (a - b)))) st1
      | _, _, _ => .stk
    | _ => .stk) := fun env st as σ H D h0 h1 hP => by
  dsimp only at hP
  split at hP
  · rename_i v ev
    obtain ⟨w, ew, rw'⟩ := h1.at_ i v ev
    refine ⟨tAug i (UE G ea) (UIp G op), fun X hX => ?_, w, ew, ha.gf hG h0 h1 hP fun u st1 as1 y H1 p1 R1 S1 V1 hP1 => ?_⟩
    · obtain ⟨o1, o2⟩ := (hG X hX).1.own x ho
      exact ps_aug (by rw [(hG X hX).1.n]; exact (hG X hX).1.nd) (by rw [(hG X hX).1.n]; exact hN) o1 (pe_U hX) (fun pins s σ H x y v u Q I r1 r2 ⟨t, ht, q⟩ => ht X hX pins s σ H x y v u Q I r1 r2 q) o2
    · split at hP1
      · cases rw'
        cases V1
        exact ⟨_, fun _ _ => ip_add, _, _, rfl, rfl, hP1 as1 _ H1 (List.prefix_refl _) R1 (S1.set (v := .int _) (w := .int _) rfl i)⟩
      · cases rw'
        cases V1
        exact ⟨_, fun _ _ => ip_sub, _, _, rfl, rfl, hP1 as1 _ H1 (List.prefix_refl _) R1 (S1.set (v := .int _) (w := .int _) rfl i)⟩
      · exact hP1.elim
  · exact hP.elim
/-- o.f -= e -/
theorem ss_augF (T : Tab P w K mg base cls Pg cf lv) {f : Str} {p' : Pos} (ho : SE cls G W eo o) (ha : SE cls G W ea a) : SS cls G W (.AugAssign (.Attribute eo f p') .Sub ea pos) (fun env st => (exE (o env st) env).b1 fun x st1 => match x with
    | .ref p => match st1[p]? with
      | some (.ins c fs) => if Pg.fld c f then (match fs.lookup f with
        | some v => (exE (a env st1) env).b1 fun y st2 => match v, y with
          | .int i, .int j => match st2[p]? with
            | some (.ins c2 fs2) => if c2 = c ∧ fs2.length < 1000 then .nxt env (st2.set p (.ins c2 (putF f (.int (i - j)) fs2))) else .stk
            | _ => .stk
          | _, _ => .stk
        | none => .stk) else .stk
      | _ => .stk
    | _ => .stk) := fun env st as σ H D h0 h1 hP => by
  dsimp only at hP
  refine ⟨sFldAug K (UE G eo) (UE G ea) rSub f, fun X hX => by rw [← (hG X hX).1.k]; exact ps_fldaug (pe_U hX) (pe_U hX) in_sub, ?_⟩
  refine ho.gf hG h0 h1 hP fun u st1 as1 y H1 p1 R1 S1 V1 hP1 => ?_
  split at hP1
  · split at hP1
    · rename_i p _ c fs e
      obtain ⟨ad, dx, gs, rfl, i1, r, z⟩ := R1.ins V1 e
      split at hP1
      · rename_i hf
        split at hP1
        · rename_i v ev
          obtain ⟨w, q1, q2⟩ := KRs.lookup r ev
          refine ⟨ad, cls c, dx, gs, w, rfl, z, (T.fld c f hf).1, (T.fld c f hf).2, q1, ha.gf hG R1 S1 hP1 fun y' st2 as2 w2 H2 p2 R2 S2 V2 hP2 => ?_⟩
          split at hP2
          · cases q2
            cases V2
            split at hP2
            · rename_i c2 fs2 e2
              have V3 : VR as2 (.ref p) (.ref ad) := ⟨ad, pre_get p2 i1, rfl⟩
              obtain ⟨ad2, dx2, gs2, ea2, i2, r2, z2⟩ := R2.ins V3 e2
              cases ea2
              by_cases hl : c2 = c ∧ fs2.length < 1000
              · rw [if_pos hl] at hP2
                obtain ⟨rfl, hl⟩ := hl
                refine ⟨_, _, rfl, rfl, dx2, gs2, z2, by rw [← Mi.P.length r2]; exact hl, ?_⟩
                exact hP2 as2 σ _ (List.prefix_refl _) (R2.set i2 ⟨dx2, _, KRs.putF (show VR as2 (.int _) (.int _) from rfl) r2, upd_same⟩) S2
              · rw [if_neg hl] at hP2
                exact hP2.elim
            · exact hP2.elim
          · exact hP2.elim
        · exact hP1.elim
      · exact hP1.elim
    · exact hP1.elim
  · exact hP1.elim
end
end
end Mi
set_option maxHeartbeats 400000
/-! Mi: list comprehensions. -/
namespace Mi
open PySem PySem.Spec PyProof.Rows L2

/-- no exception leaves a comprehension's block -/
abbrev W0 : WX := fun _ _ _ _ => False
abbrev GC (P : Program) (w : World) (K : PySem.W.Frag) (mg : Str → Option Value) (base : Heap) (lv : Nat) (S : Sc) : Cx → Prop := fun X => GX P w K mg base lv S X ∧ Takes X W0

section
variable {P : Program} {w : World} {K : PySem.W.Frag} {mg : Str → Option Value} {base : Heap} {cls : Str → Addr} {Pg : Prog} {cf : Str → List V → Store → R} {lv : Nat} {S : Sc} {G : Cx → Prop} {W : WX}
variable {e ea eb ec eo tgE iter elt : Expr} {es ifs : List Expr} {a b c o : Ev → Store → R} {x m : Str} {pos p apos : Pos}
variable {as : List Addr} {st : Store} {H : Hp} {Q : VK} {env : Ev} {σ : L2.St}

/-- a turn: the tests, the element -/
def turnR (t : Ev → Store → R) (f : Ev → Store → R) (env2 : Ev) (st2 : Store) : R := (t env2 st2).bs fun bs st3 => match bs with
  | [] => (f env2 st3).b1 fun v st4 => .val [v] st4
  | [b] => match truth b st3 with
    | some true => (f env2 st3).b1 fun v st4 => .val [v] st4
    | some false => .val [] st3
    | none => .stk
  | _ => .stk
def PTn (cls : Str → Addr) (as : List Addr) (r : R) (Qy : V → Hp → Prop) (Qn : Hp → Prop) : Prop := match r with
  | .val [] st' => ∀ as' H', as <+: as' → Rel cls as' st' H' → Qn H'
  | .val [v] st' => ∀ as' w H', as <+: as' → Rel cls as' st' H' → VR as' v w → Qy w H'
  | _ => False
/-- what a turn's reading must give -/
def TurnOk (cls : Str → Addr) (G : Cx → Prop) (ifs : List Expr) (elt : Expr) (r : Ev → Store → R) : Prop := ∀ env st as σ H (Qy : V → Hp → Prop) (Qn : Hp → Prop), Rel cls as st H → SR as env σ →
  PTn cls as (r env st) Qy Qn → UTs G ifs σ H fun b H3 => if b = true then UE G elt σ H3 Qy else Qn H3
theorem elt_go (he : SE cls G W0 elt a) {Qy : V → Hp → Prop} {Qn : Hp → Prop} (h0 : Rel cls as st H) (h1 : SR as env σ) (hP : PTn cls as ((a env st).b1 fun v st4 => .val [v] st4) Qy Qn) : UE G elt σ H Qy := by
  refine he env st as σ H Qy h0 h1 ?_
  cases q : a env st with
  | val vs st1 =>
    rw [q] at hP
    match vs, hP with
    | [v], hP => exact hP
    | [], hP => exact hP.elim
    | _ :: _ :: _, hP => exact hP.elim
  | exc c fs en st1 => rw [q] at hP; exact hP.elim
  | nxt a b => rw [q] at hP; exact hP.elim
  | ret a b => rw [q] at hP; exact hP.elim
  | stk => rw [q] at hP; exact hP.elim
theorem PTn.mono {as' : List Addr} {r : R} {Qy : V → Hp → Prop} {Qn : Hp → Prop} (p : as <+: as') (h : PTn cls as r Qy Qn) : PTn cls as' r Qy Qn := by
  cases r with
  | val vs st =>
    match vs, h with
    | [], h => exact fun a H q => h a H (p.trans q)
    | [v], h => exact fun a w H q => h a w H (p.trans q)
    | _ :: _ :: _, h => exact h.elim
  | exc c fs en st1 => exact h.elim
  | nxt a b => exact h.elim
  | ret a b => exact h.elim
  | stk => exact h.elim
theorem turn_nil (he : SE cls G W0 elt a) : TurnOk cls G [] elt (turnR (fun _ st => .val [] st) a) := by
  intro env st as σ H Qy Qn h0 h1 hP
  refine ⟨tYes, fun X hX => pts_nil, ?_⟩
  show (if true = true then UE G elt σ H Qy else Qn H)
  rw [if_pos rfl]
  exact elt_go he h0 h1 hP
theorem turn_one (hc : ST cls G W0 ec c) (he : SE cls G W0 elt a) : TurnOk cls G [ec] elt (turnR (fun env st => (c env st).b1 fun v st1 => .val [v] st1) a) := by
  intro env st as σ H Qy Qn h0 h1 hP
  refine ⟨UT G ec, fun X hX => pts_one (pt_U hX), hc.run h0 h1 ?_⟩
  unfold turnR at hP
  dsimp only at hP
  unfold PT'
  cases q : c env st with
  | val vs st1 =>
    rw [q] at hP
    match vs, hP with
    | [v], hP =>
      unfold R.b1 R.bs at hP
      dsimp only at hP
      cases ht : truth v st1 with
      | none => rw [ht] at hP; exact hP.elim
      | some k =>
        rw [ht] at hP
        refine ⟨k, ht, fun as1 H1 p1 R1 => ?_⟩
        cases k with
        | true =>
          rw [if_pos rfl]
          exact elt_go he R1 (h1.mono p1) (PTn.mono p1 hP)
        | false =>
          rw [if_neg (by decide)]
          exact hP as1 H1 p1 R1
    | [], hP => exact hP.elim
    | _ :: _ :: _, hP => exact hP.elim
  | exc c fs en st1 => rw [q] at hP; exact hP.elim
  | nxt a b => rw [q] at hP; exact hP.elim
  | ret a b => rw [q] at hP; exact hP.elim
  | stk => rw [q] at hP; exact hP.elim

/-! ### the block's contexts -/
/-- the block of a comprehension: its names, its scope -/
def blkS (S : Sc) (scope : Scope) (own : List Str) : Sc := ⟨S.N, relS scope S.sc, own⟩
theorem gc_blk {X : Cx} {scope : Scope} {own : List Str} (h : GX P w K mg base lv S X) (hk : scope.kind = .function) (ho : ∀ x ∈ own, scope.names.lookup x = some .local ∨ scope.names.lookup x = some .cell) (s : Shared) (H : Hp) (C : Addr) (cl : List (Str × Addr)) (fp : List Addr) :
    GC P w K mg base lv (blkS S scope own) (X.blk s H scope (compEnvC scope cl C X.env) fp) := by
  have esc : (compEnvC scope cl C X.env).scope = relS scope S.sc := by
    rw [← h.scope]
    rfl
  refine ⟨⟨h.prog, h.w, h.k, h.mg, h.base, h.n, h.nd, esc, hk, h.calm, h.room, fun x hx => ?_⟩, takes0⟩
  show Loc (compEnvC scope cl C X.env).scope x ∧ ((scope.names.lookup x == some .cell) = true ∨ (compEnvC scope cl C X.env).scope.names.lookup x = some .local)
  rw [esc]
  have e : (relS scope S.sc).names = scope.names.map fun (n, k) => if (k == NameKind.free && S.sc.kind == .function && S.sc.names.lookup n == some .cell) then (n, NameKind.cell) else (n, k) := rfl
  rcases ho x hx with q | q
  · have := lookup_relS_keep (sc := S.sc) (by decide) q
    rw [← e] at this
    exact ⟨.inl this, .inr this⟩
  · have := lookup_relS_keep (sc := S.sc) (by decide) q
    rw [← e] at this
    exact ⟨.inr this, .inl (by rw [q]; rfl)⟩

theorem sw_false {gs : List Comprehension} {scope : Scope} {py : Pos} {y : Str} {l : Nat} {env : Env} (h : ¬ (env.scope.names.lookup y = some .local ∧ (py.line == pos.line) = true ∧ (scope.names.any fun (n, k) => n == y && (k == .local || k == .cell)) = false)) :
    swapsWith (.ListComp elt gs scope pos) (some (.Name y py)) l env = pure false := by
  have e : (env.blockKind == .function && env.kindOf y == some .local && py.line == pos.line && !(scope.names.any fun (n, k) => n == y && (k == .local || k == .cell))) = false := by
    cases h1 : (env.kindOf y == some .local) with
    | false => simp
    | true =>
      cases h2 : (py.line == pos.line) with
      | false => simp
      | true =>
        cases h3 : (scope.names.any fun (n, k) => n == y && (k == .local || k == .cell)) with
        | true => simp
        | false => exact absurd ⟨eq_of_beq h1, h2, h3⟩ h
  unfold swapsWith
  show (pure (env.blockKind == .function && env.kindOf y == some .local && py.line == pos.line && !(scope.names.any fun (n, k) => n == y && (k == .local || k == .cell))) : Sem Bool) = pure false
  rw [e]
def fLc (own : List Nat) (tg : Tg) (k : Ik) (a t f : Ev → Store → R) : Ev → Store → R := fun env st => (a env st).bs fun vs st1 => match cur (rk k vs st1) vs 0 st1 with
    | none => .stk
    | some _ => lcN (cur (rk k vs st1) vs) (fun x st2 => match setTg tg x (wipe env own) st2 with
        | none => .stk
        | some env2 => turnR t f env2 st2) st1.length (turns k vs st1 + 1) 0 (st1 ++ [.lst []])
section
variable (hG : ∀ X, G X → GX P w K mg base (lv + 1) S X ∧ Takes X W)
include hG
/-- a comprehension's reading -/
theorem lc_read {S' : Sc} {own : List Nat} {tg : Tg} {k : Ik} {t f : Ev → Store → R} (htg : tgB S'.N S'.own tg tgE = true) (hsl : ∀ j ∈ tgSlots tg, j ∈ own) (hi : SIk cls G W k tgE iter a) (ht : TurnOk cls (GC P w K mg base (lv + 1) S') ifs elt (turnR t f))
    {env : Ev} {st : Store} {as : List Addr} {Q : VK} (h0 : Rel cls as st H) (h1 : SR as env σ) (hP : PV cls as (fLc own tg k a t f env st) Q (fun c d H' => W c d σ H')) :
    tLc (UI G tgE iter) (UG (GC P w K mg base (lv + 1) S') tgE) (UTs (GC P w K mg base (lv + 1) S') ifs) (UE (GC P w K mg base (lv + 1) S') elt) own σ H Q := by
  refine hi env st as σ H _ h0 h1 ?_
  unfold fLc at hP
  cases q : a env st with
  | exc c fs en st1 => rw [q] at hP; exact hP
  | nxt a b => rw [q] at hP; exact hP.elim
  | ret a b => rw [q] at hP; exact hP.elim
  | stk => rw [q] at hP; exact hP.elim
  | val vs st1 =>
    rw [q] at hP
    unfold R.bs at hP
    dsimp only at hP
    split at hP
    · exact hP.elim
    · rename_i hc
      dsimp only
      refine ⟨(by rw [hc]; intro z; cases z), fun as1 H1 J p1 R1 hJ D hD => ?_⟩
      generalize rk k vs st1 = kk at hP hJ
      have R2 : Rel cls (as1 ++ [D]) (st1 ++ [.lst []]) (upd H1 D (.lst [])) := R1.push hD ⟨[], .nil, upd_same⟩
      have hDi : (as1 ++ [D])[st1.length]? = some D := by
        obtain ⟨d, e1, e2⟩ := VR.new (p := D) R1
        cases e2
        exact e1
      refine ⟨fun i m H => ∃ st as, as1 ++ [D] <+: as ∧ Rel cls as st H ∧ PV cls as (lcN (cur kk vs) (fun x st2 => match setTg tg x (wipe env own) st2 with
        | none => .stk
        | some env2 => turnR t f env2 st2) st1.length m i st) Q (fun c d H' => W c d σ H'), ⟨_, _, _, List.prefix_refl _, R2, PV.mono (p1.trans pre_snoc) hP⟩, ?_⟩
      intro i m H ⟨st, as2, p2, R3, hP3⟩
      have hpre : as1 <+: as2 := pre_snoc.trans p2
      cases m with
      | zero => exact hP3.elim
      | succ m =>
        unfold lcN at hP3
        cases ec : cur kk vs i st with
        | none => rw [ec] at hP3; exact hP3.elim
        | some oc =>
          rw [ec] at hP3
          cases oc with
          | none => exact .inl ⟨(hJ i st as2 H hpre R3).1 ec, hP3 as2 (.ref D) H (List.prefix_refl _) R3 ⟨D, pre_get p2 hDi, rfl⟩⟩
          | some xs =>
            obtain ⟨x, st3⟩ := xs
            obtain ⟨g1, g2⟩ := (hJ i st as2 H hpre R3).2 x st3 ec
            refine .inr ⟨g1, fun H' => ∃ st as, as1 ++ [D] <+: as ∧ Rel cls as st H' ∧ PV cls as (lcN (cur kk vs) (fun x st2 => match setTg tg x (wipe env own) st2 with
              | none => .stk
              | some env2 => turnR t f env2 st2) st1.length m (i + 1) st) Q (fun c d H' => W c d σ H'), fun H' hN => ⟨m, Nat.lt_succ_self m, hN⟩, fun y H' hy => ?_⟩
            obtain ⟨as3, p3, R4, V4⟩ := g2 y H' hy
            dsimp only at hP3
            cases es : setTg tg x (wipe env own) st3 with
            | none => rw [es] at hP3; exact hP3.elim
            | some env2 =>
              rw [es] at hP3
              have S0 : SR as3 env σ := h1.mono ((p1.trans hpre).trans p3)
              refine ug_of (P := P) (w := w) (K := K) (mg := mg) (base := base) (lv := lv) (S := S') (W := W0) (fun X hX => hX) htg R4 (S0.wipe own) V4 es fun σ2 S2 hw => ⟨?_, ?_⟩
              · rw [hw own hsl]
                exact wipe_wipe
              · refine ht env2 st3 as3 σ2 H' _ _ R4 S2 ?_
                dsimp only at hP3
                cases qt : turnR t f env2 st3 with
                | val us st4 =>
                  rw [qt] at hP3
                  match us, hP3 with
                  | [], hP3 => exact fun as4 H4 p4 R5 => ⟨st4, as4, (p2.trans p3).trans p4, R5, PV.mono (p3.trans p4) hP3⟩
                  | [u], hP3 =>
                    intro as4 z H4 p4 R5 V5
                    have hD4 : as4[st1.length]? = some D := pre_get ((p2.trans p3).trans p4) hDi
                    dsimp only at hP3
                    split at hP3
                    · rename_i acc ea
                      obtain ⟨ad, ys, e5, i5, r5, z5⟩ := R5.lst ⟨D, hD4, rfl⟩ ea
                      cases e5
                      split at hP3
                      · rename_i hl
                        refine ⟨ys, z5, by rw [← sz_eq, ← Mi.P.length r5]; exact hl, ?_⟩
                        exact ⟨_, as4, (p2.trans p3).trans p4, R5.set (o := .lst (acc ++ [u])) hD4 ⟨_, Mi.P.append r5 (.cons V5 .nil), upd_same⟩, PV.mono (p3.trans p4) hP3⟩
                      · exact hP3.elim
                    · exact hP3.elim
                  | _ :: _ :: _, hP3 => exact hP3.elim
                | exc c fs en st1 => rw [qt] at hP3; exact hP3.elim
                | nxt a b => rw [qt] at hP3; exact hP3.elim
                | ret a b => rw [qt] at hP3; exact hP3.elim
                | stk => rw [qt] at hP3; exact hP3.elim
/-- a comprehension as a value -/
theorem se_lc {scope : Scope} {ownP : List (Str × Nat)} {ownN : List Str} {tg : Tg} {k : Ik} {t f : Ev → Store → R} (hn : notSet iter = true) (hbk : blkC S.N S.sc scope ownP = true) (hk : scope.kind = .function) (hown : ∀ x ∈ ownN, scope.names.lookup x = some .local ∨ scope.names.lookup x = some .cell)
    (htg : tgB S.N ownN tg tgE = true) (hsl : ∀ j ∈ tgSlots tg, j ∈ ownP.map (·.2)) (hi : SIk cls G W k tgE iter a) (ht : TurnOk cls (GC P w K mg base (lv + 1) (blkS S scope ownN)) ifs elt (turnR t f)) :
    SE cls G W (.ListComp elt [⟨tgE, iter, ifs, 0⟩] scope pos) (fLc (ownP.map (·.2)) tg k a t f) := by
  intro env st as σ H Q h0 h1 hP
  refine ⟨tLc (UI G tgE iter) (UG (GC P w K mg base (lv + 1) (blkS S scope ownN)) tgE) (UTs (GC P w K mg base (lv + 1) (blkS S scope ownN)) ifs) (UE (GC P w K mg base (lv + 1) (blkS S scope ownN)) elt) (ownP.map (·.2)), fun X hX => ?_, lc_read hG htg hsl hi ht h0 h1 hP⟩
  have hx := (hG X hX).1
  refine pe_lc hx.calm (by rw [hx.n]; exact hx.nd) (pi_U hX) ?_ (fun s H C cl fp => pg_U (gc_blk hx hk hown s H C cl fp)) (fun s H C cl fp => pts_U (gc_blk hx hk hown s H C cl fp)) (fun s H C cl fp => pe_U (gc_blk hx hk hown s H C cl fp)) (fold_ok hn _)
  rw [hx.n, hx.scope]
  exact blkOk_by hbk
/-- name = [..] -/
theorem ss_asgLc {i : Nat} {y : Str} {py spos : Pos} {scope : Scope} {ownP : List (Str × Nat)} {ownN : List Str} {tg : Tg} {k : Ik} {t f : Ev → Store → R} (hn : notSet iter = true) (hbk : blkC S.N S.sc scope ownP = true) (hk : scope.kind = .function) (hown : ∀ x ∈ ownN, scope.names.lookup x = some .local ∨ scope.names.lookup x = some .cell)
    (htg : tgB S.N ownN tg tgE = true) (hsl : ∀ j ∈ tgSlots tg, j ∈ ownP.map (·.2)) (hi : SIk cls G W k tgE iter a) (ht : TurnOk cls (GC P w K mg base (lv + 1) (blkS S scope ownN)) ifs elt (turnR t f)) (hN : S.N[i]? = some y) (ho : y ∈ S.own) :
    SS cls G W (.Assign [.Name y py] (.ListComp elt [⟨tgE, iter, ifs, 0⟩] scope pos) spos) (fun env st => (exE (fLc (ownP.map (·.2)) tg k a t f env st) env).b1 fun v st1 => if i < env.length then .nxt (env.set i (some v)) st1 else .stk) := by
  have hE := se_lc (pos := pos) hG hn hbk hk hown htg hsl hi ht
  intro env st as σ H D h0 h1 hP; dsimp only at hP
  by_cases hsw : S.sc.names.lookup y = some .local ∧ (py.line == pos.line) = true ∧ (scope.names.any fun (n, k) => n == y && (k == .local || k == .cell)) = false
  · obtain ⟨w1, w2, w3⟩ := hsw
    refine ⟨tAsg (tLc (UI G tgE iter) (UG (GC P w K mg base (lv + 1) (blkS S scope ownN)) tgE) (UTs (GC P w K mg base (lv + 1) (blkS S scope ownN)) ifs) (UE (GC P w K mg base (lv + 1) (blkS S scope ownN)) elt) (ownP.map (·.2))) (gName i), fun X hX => ?_, ?_⟩
    · have hx := (hG X hX).1
      refine ps_setLc hx.calm (by rw [hx.n]; exact hx.nd) (by rw [hx.n]; exact hN) (by rw [hx.scope]; exact w1) (sw_true (by rw [hx.scope]; exact hx.kind) (by rw [hx.scope]; exact w1) w2 w3) (pi_U hX) ?_ (fun s H C cl fp => pg_U (gc_blk hx hk hown s H C cl fp)) (fun s H C cl fp => pts_U (gc_blk hx hk hown s H C cl fp)) (fun s H C cl fp => pe_U (gc_blk hx hk hown s H C cl fp)) (fold_ok hn _)
      rw [hx.n, hx.scope]
      exact blkOk_by hbk
    · refine lc_read hG htg hsl hi ht h0 h1 (Q := fun v H1 => gName i v σ H1 D.nx) ?_
      cases q : fLc (ownP.map (·.2)) tg k a t f env st with
      | val vs st1 =>
        rw [q] at hP
        match vs, hP with
        | [v], hP =>
          have hP2 : PF cls as (if i < env.length then .nxt (env.set i (some v)) st1 else .stk) D W := hP
          split at hP2
          · exact fun as1 w1 H1 p1 R1 V1 => hP2 as1 _ H1 p1 R1 ((h1.mono p1).set V1 i)
          · exact hP2.elim
        | [], hP => exact hP.elim
        | _ :: _ :: _, hP => exact hP.elim
      | exc c fs en st1 =>
        rw [q] at hP
        exact fun as1 H1 cv d p1 R1 x => hP as1 σ H1 cv d p1 R1 (h1.mono p1) x
      | nxt a b => rw [q] at hP; exact hP.elim
      | ret a b => rw [q] at hP; exact hP.elim
      | stk => rw [q] at hP; exact hP.elim
  · refine ⟨tAsg (UE G (.ListComp elt [⟨tgE, iter, ifs, 0⟩] scope pos)) (gName i), fun X hX => ?_, hE.gf hG h0 h1 hP fun v st1 as1 w H1 p1 R1 S1 V1 hP1 => ?_⟩
    · have hx := (hG X hX).1
      obtain ⟨o1, o2⟩ := hx.own y ho
      refine ps_set (by rw [hx.n]; exact hx.nd) (by rw [hx.n]; exact hN) o1 (pe_U hX) ?_ o2
      refine sw_false fun z => hsw ?_
      rw [← hx.scope]
      exact z
    · split at hP1
      · exact hP1 as1 _ H1 (List.prefix_refl _) R1 (S1.set V1 i)
      · exact hP1.elim
end
end
end Mi
set_option maxHeartbeats 400000
/-! Mi: the text against the terms; every piece keeps to its run. -/
namespace Mi
open PySem PySem.Spec PyProof.Rows L2

/-- a piece of the text -/
inductive Syn where
  | e (x : Expr)
  | es (xs : List Expr)
  | o (x : Option Expr)
  | fs (xs : List Expr)
  | s (x : Stmt)
  | ss (xs : List Stmt)

def visB (sc : Scope) (x : Str) : Bool := match sc.names.lookup x with
  | some .local => true
  | some .cell => true
  | some .free => true
  | _ => false
theorem visB_ok {sc : Scope} {x : Str} (h : visB sc x = true) : Vis sc x := by
  unfold visB at h
  split at h
  · exact .inl (by assumption)
  · exact .inr (.inl (by assumption))
  · exact .inr (.inr (by assumption))
  · cases h
def glB (sc : Scope) (x : Str) : Bool := (match sc.names.lookup x with
  | some .globalImplicit => true
  | _ => false) && !(x == ("__debug__" : Str))
theorem glB_ok {sc : Scope} {x : Str} (h : glB sc x = true) : sc.names.lookup x = some .globalImplicit ∧ (x == ("__debug__" : Str)) = false := by
  obtain ⟨h1, h2⟩ := Bool.and_eq_true_iff.mp h
  refine ⟨?_, by simpa using h2⟩
  split at h1
  · assumption
  · cases h1
def cstB : Const → V → Bool
  | .none, .non => true
  | .bool b, .bl c => b == c
  | .int i, .int l => decide (i = l)
  | .str s, .str t => decide (s = t)
  | _, _ => false
def topB (Pg : Prog) (f : Str) : Bool := match Pg.fn f with
  | some F => F.top
  | none => false
def ownB (scope : Scope) (own : List Str) : Bool := own.all fun x => match scope.names.lookup x with
  | some .local => true
  | some .cell => true
  | _ => false
theorem ownB_ok {scope : Scope} {own : List Str} (h : ownB scope own = true) : ∀ x ∈ own, scope.names.lookup x = some .local ∨ scope.names.lookup x = some .cell := fun x hx => by
  have := List.all_eq_true.mp h x hx
  split at this
  · exact .inl (by assumption)
  · exact .inr (by assumption)
  · cases this
def funB (scope : Scope) : Bool := match scope.kind with
  | .function => true
  | _ => false
theorem funB_ok {scope : Scope} (h : funB scope = true) : scope.kind = .function := by
  unfold funB at h
  split at h
  · assumption
  · cases h
def notIf : Expr → Bool
  | .IfExp _ _ _ _ => false
  | _ => true
def notNev : T → Bool
  | .nev => false
  | _ => true
def pairs (N : List Str) (own : List Nat) : List (Str × Nat) := own.map fun i => (N.getD i Str.empty, i)
theorem pairs_snd (N : List Str) (own : List Nat) : (pairs N own).map (·.2) = own := by
  unfold pairs
  rw [List.map_map]
  exact List.map_id _

section
variable (Pg : Prog)
def chk : T → Sc → Syn → Bool
  | .nev, _, _ => true
  | .var i, S, .e (.Name x _) => decide (S.N[i]? = some x) && (visB S.sc x && (!(x == ("__debug__" : Str)) && !(x == ("__classdict__" : Str))))
  | .cst v, _, .e (.Constant k _ _) => cstB k v
  | .glo x, S, .e (.Name y _) => decide (x = y) && glB S.sc y
  | .bin op a b, S, .e (.BinOp ea op' eb _) => decide (op = op') && (chk a S (.e ea) && chk b S (.e eb))
  | .neg a, S, .e (.UnaryOp .USub ea _) => chk a S (.e ea)
  | .not a, S, .e (.UnaryOp .Not ea _) => notIf ea && chk a S (.e ea)
  | .and a b, S, .e (.BoolOp .And (ea :: eb :: rest) pos) => notIf ea && (chk a S (.e ea) && (match rest with
    | [] => notIf eb && chk b S (.e eb)
    | r :: rs => chk b S (.e (.BoolOp .And (eb :: r :: rs) pos))))
  | .or a b, S, .e (.BoolOp .Or (ea :: eb :: rest) pos) => notIf ea && (chk a S (.e ea) && (match rest with
    | [] => notIf eb && chk b S (.e eb)
    | r :: rs => chk b S (.e (.BoolOp .Or (eb :: r :: rs) pos))))
  | .cmp op a b, S, .e (.Compare ea [op'] [eb] _) => decide (op = op') && (!(behindInMarks op eb) && (chk a S (.e ea) && chk b S (.e eb)))
  | .cmp2 op op2 a b c, S, .e (.Compare ea [o1, o2] [eb, ec] _) => decide (op = o1) && (decide (op2 = o2) && (!(lastMarks [op, op2] [eb, ec]) && (chk a S (.e ea) && (chk b S (.e eb) && chk c S (.e ec)))))
  | .ife c a b, S, .e (.IfExp ec ea eb _) => notIf ec && (chk c S (.e ec) && (chk a S (.e ea) && chk b S (.e eb)))
  | .nil, _, .es [] => true
  | .nil, _, .o none => true
  | .nil, _, .fs [] => true
  | .cons a as, S, .es (ea :: es) => !(isStar ea) && (chk a S (.e ea) && chk as S (.es es))
  | .som a, S, .o (some ea) => chk a S (.e ea)
  | .som a, S, .fs [ea] => notIf ea && chk a S (.e ea)
  | .tup as, S, .e (.Tuple es _ _) => chk as S (.es es)
  | .lst as, S, .e (.List es _) => chk as S (.es es)
  | .dic0, _, .e (.Dict [] [] _) => true
  | .call f as, S, .e (.Call (.Name g _) es [] _) => decide (f = g) && (noStar es && (glB S.sc g && (topB Pg g && chk as S (.es es))))
  | .bif f as, S, .e (.Call (.Name g _) (ea :: es) [] _) => decide (g = biN f) && (noStar (ea :: es) && (glB S.sc g && chk as S (.es (ea :: es))))
  | .isi a t, S, .e (.Call (.Name g _) [ea, .Name u _] [] _) => decide (g = ("isinstance" : Str)) && (decide (u = tyN t) && (Pg.ty u && decide (t ≠ .none) && (!(isStar ea) && (glB S.sc g && (glB S.sc u && chk a S (.e ea))))))
  | .meth m o as, S, .e (.Call (.Attribute eo m' apos) es [] pos) => decide (m = m') && (plainBase eo && (noStar es && ((apos.endLine == pos.line) && (decide (es.length < 30) && (chk o S (.e eo) && chk as S (.es es))))))
  | .bm t o as, S, .e (.Call (.Attribute eo m' apos) es [] pos) => decide (m' = mtN t) && (plainBase eo && (noStar es && ((apos.endLine == pos.line) && ((decide (es.length < 29) && notNev as) && (chk o S (.e eo) && chk as S (.es es))))))
  | .mk c as, S, .e (.Call (.Name g _) es [] _) => decide (c = g) && (noStar es && (glB S.sc g && (Pg.made g && ((Pg.meth g "__init__").isSome && chk as S (.es es)))))
  | .cm c m as, S, .e (.Call (.Attribute (.Name g _) m' apos) es [] pos) => decide (c = g) && (decide (m = m') && (noStar es && ((apos.endLine == pos.line) && (decide (es.length < 30) && (glB S.sc g && ((Pg.cm c m).isSome && chk as S (.es es)))))))
  | .lset a, S, .e (.Call (.Name g _) [.Call (.Name g2 _) [ea] [] _] [] _) => decide (g = ("len" : Str)) && (decide (g2 = ("set" : Str)) && (glB S.sc g && (glB S.sc g2 && (!(isStar ea) && chk a S (.e ea)))))
  | .rsl a, S, .e (.Subscript ea (.Slice none none (some (.UnaryOp .USub (.Constant (.int i) _ _) _)) _) _) => decide (i = 1) && chk a S (.e ea)
  | .fld o f, S, .e (.Attribute eo f' _) => decide (f = f') && (plainBase eo && chk o S (.e eo))
  | .idx a i, S, .e (.Subscript ea ei _) => noSlice ei && (chk a S (.e ea) && chk i S (.e ei))
  | .slc a lo hi, S, .e (.Subscript ea (.Slice l h none _) _) => chk a S (.e ea) && (chk lo S (.o l) && chk hi S (.o h))
  | .lc own tg k a ifs e, S, .e (.ListComp elt [⟨tgE, iter, ifsE, asy⟩] scope _) => decide (asy = 0) && (notSet iter && (blkC S.N S.sc scope (pairs S.N own) && (funB scope && (ownB scope ((pairs S.N own).map (·.1)) && (tgB S.N ((pairs S.N own).map (·.1)) tg tgE && (decide (∀ j ∈ tgSlots tg, j ∈ own) && ((match k, iter with
      | .seq, x => chk a S (.e x)
      | .rng1, .Call (.Name g _) [x] [] _ => decide (g = ("range" : Str)) && (glB S.sc g && (!(isStar x) && chk a S (.es [x])))
      | .rng2, .Call (.Name g _) [x, y] [] _ => decide (g = ("range" : Str)) && (glB S.sc g && (!(isStar x) && (!(isStar y) && chk a S (.es [x, y]))))
      | .rngd, .Call (.Name g _) [x, y, z] [] _ => decide (g = ("range" : Str)) && (glB S.sc g && (!(isStar x) && (!(isStar y) && (!(isStar z) && chk a S (.es [x, y, z])))))
      | .enum1, .Call (.Name g _) [x] [⟨some kn, .Constant (.int i) _ _, _⟩] _ => decide (g = ("enumerate" : Str)) && (decide (kn = ("start" : Str)) && (decide (i = 1) && (tupB tgE && (glB S.sc g && (!(isStar x) && chk a S (.es [x]))))))
      | _, _ => false) && (chk ifs (blkS S scope ((pairs S.N own).map (·.1))) (.fs ifsE) && chk e (blkS S scope ((pairs S.N own).map (·.1))) (.e elt)))))))))
  | .don, _, .ss [] => true
  | .don, _, .s (.Pass _) => true
  | .seq a b, S, .ss (s :: ss) => chk a S (.s s) && chk b S (.ss ss)
  | .asgN i e, S, .s (.Assign [.Name x _] ea _) => decide (S.N[i]? = some x) && (decide (x ∈ S.own) && chk e S (.e ea))
  | .asgT is e, S, .s (.Assign [.Tuple ts k p] ea _) => plainVal ea && (notTup ea && (tgB S.N S.own (.t is) (.Tuple ts k p) && chk e S (.e ea)))
  | .asgF o f e, S, .s (.Assign [.Attribute eo f' _] ea _) => decide (f = f') && (plainVal ea && (plainBase eo && (chk o S (.e eo) && chk e S (.e ea))))
  | .asgI o i e, S, .s (.Assign [.Subscript eo ei _] ea _) => noSlice ei && (chk o S (.e eo) && (chk i S (.e ei) && chk e S (.e ea)))
  | .aug i op e, S, .s (.AugAssign (.Name x _) op' ea _) => decide (op = op') && (decide (S.N[i]? = some x) && (decide (x ∈ S.own) && chk e S (.e ea)))
  | .augF o f e, S, .s (.AugAssign (.Attribute eo f' _) .Sub ea _) => decide (f = f') && (chk o S (.e eo) && chk e S (.e ea))
  | .drop e, S, .s (.Expr ea _) => plainVal ea && chk e S (.e ea)
  | .ret e, S, .s (.Return (some ea) _) => chk e S (.e ea)
  | .retN, _, .s (.Return none _) => true
  | .ifs c a b, S, .s (.If ec p q _) => notIf ec && (chk c S (.e ec) && (chk a S (.ss p) && chk b S (.ss q)))
  | .for tg k a b, S, .s (.For tgE iter body [] _) => notSet iter && (tgB S.N S.own tg tgE && ((match k, iter with
      | .seq, x => chk a S (.e x)
      | .rng1, .Call (.Name g _) [x] [] _ => decide (g = ("range" : Str)) && (glB S.sc g && (!(isStar x) && chk a S (.es [x])))
      | .rng2, .Call (.Name g _) [x, y] [] _ => decide (g = ("range" : Str)) && (glB S.sc g && (!(isStar x) && (!(isStar y) && chk a S (.es [x, y]))))
      | .rngd, .Call (.Name g _) [x, y, z] [] _ => decide (g = ("range" : Str)) && (glB S.sc g && (!(isStar x) && (!(isStar y) && (!(isStar z) && chk a S (.es [x, y, z])))))
      | .enum1, .Call (.Name g _) [x] [⟨some kn, .Constant (.int i) _ _, _⟩] _ => decide (g = ("enumerate" : Str)) && (decide (kn = ("start" : Str)) && (decide (i = 1) && (tupB tgE && (glB S.sc g && (!(isStar x) && chk a S (.es [x]))))))
      | _, _ => false) && chk b S (.ss body)))
  | .whl c b, S, .s (.While ec body [] _) => notIf ec && (chk c S (.e ec) && chk b S (.ss body))
  | _, _, _ => false
end
end Mi
set_option maxHeartbeats 400000
/-! Mi: the text against the terms, sound. -/
namespace Mi
open PySem PySem.Spec PyProof.Rows L2
theorem and2 {a b : Bool} (h : (a && b) = true) : a = true ∧ b = true := Bool.and_eq_true_iff.mp h
theorem notT {a : Bool} (h : (!a) = true) : a = false := by simpa using h
theorem dcd {p : Prop} [Decidable p] (h : decide p = true) : p := of_decide_eq_true h

section
variable {P : Program} {w : World} {K : PySem.W.Frag} {mg : Str → Option Value} {base : Heap} {cls : Str → Addr} {Pg : Prog} {cf : Str → List V → Store → R} {lv : Nat} {S : Sc} {G : Cx → Prop} {W : WX}
variable {e ea eb ec eo tgE iter elt : Expr} {es ifs : List Expr} {a b c o : Ev → Store → R} {x m : Str} {pos p apos : Pos}
section
variable (hG : ∀ X, G X → GX P w K mg base (lv + 1) S X ∧ Takes X W)
include hG
/-- a test of a comparison: its value is a truth value -/
theorem cmpD_bl {op : CmpOp} {x y : V} {st : Store} {Qx : VK} {X : XK} {as : List Addr} {Qb : Bool → Hp → Prop} (h : PT' cls as (cmpD op x y st) Qb X) : PV cls as (cmpD op x y st) (fun z H => ∃ k, z = .bl k ∧ Qb k H) X := by
  have ob : ∀ (r : Option Bool), PT' cls as (ofB r st) Qb X → PV cls as (ofB r st) (fun z H => ∃ k, z = .bl k ∧ Qb k H) X := fun r h => by
    cases r with
    | none => exact h.elim
    | some k =>
      obtain ⟨b, hb, k2⟩ := h
      have : k = b := Option.some.inj hb
      subst this
      exact fun as' w H' p R1 r => ⟨k, r, k2 as' H' p R1⟩
  have on : ∀ (k : Bool), PT' cls as (one (.bl k) st) Qb X → PV cls as (one (.bl k) st) (fun z H => ∃ k, z = .bl k ∧ Qb k H) X := fun k h => ob (some k) h
  cases op
  case Eq => exact ob _ h
  case NotEq => exact ob _ h
  case In => exact ob _ h
  case NotIn => exact ob _ h
  case Is =>
    cases y
    case non => exact on _ h
    all_goals exact h.elim
  case IsNot =>
    cases y
    case non => exact on _ h
    all_goals exact h.elim
  all_goals
    cases x
    case int i =>
      cases y
      case int j => exact on _ h
      all_goals exact h.elim
    all_goals exact h.elim
omit hG in
theorem b1_bl {r : R} {k : V → Store → R} {X : XK} {as : List Addr} {Qb : Bool → Hp → Prop} (g : ∀ v st, PT' cls as (k v st) Qb X → PV cls as (k v st) (fun z H => ∃ k, z = .bl k ∧ Qb k H) X) (h : PT' cls as (r.b1 k) Qb X) : PV cls as (r.b1 k) (fun z H => ∃ k, z = .bl k ∧ Qb k H) X := by
  cases r with
  | val vs st1 =>
    match vs with
    | [v] => exact g v st1 h
    | [] => exact h.elim
    | _ :: _ :: _ => exact h.elim
  | exc c fs en st1 => exact h
  | nxt _ _ => exact h.elim
  | ret _ _ => exact h.elim
  | stk => exact h.elim
theorem st_cmp {op : CmpOp} (hm : behindInMarks op eb = false) (ha : SE cls G W ea a) (hb : SE cls G W eb b) : ST cls G W (.Compare ea [op] [eb] pos) (fun env st => (a env st).b1 fun x st1 => (b env st1).b1 fun y st2 => cmpD op x y st2) := by
  intro env st as σ H Q h0 h1 hP
  have h2 : PV cls as ((a env st).b1 fun x st1 => (b env st1).b1 fun y st2 => cmpD op x y st2) (fun z H => ∃ k, z = .bl k ∧ Q k H) (fun c d H' => W c d σ H') :=
    b1_bl (fun v st1 h => b1_bl (fun u st2 h => cmpD_bl hG (Qx := fun _ _ => True) h) h) (show PT' cls as _ Q (fun c d H' => W c d σ H') from hP)
  refine ⟨tTest (tOp (UOp G (compareOp op)) (UE G ea) (UE G eb)), fun X hX => pt_cmpR (op_U hX) (pe_U hX) (pe_U hX) hm, ?_⟩
  exact ha.go h0 h1 h2 fun v st1 as1 w H1 p1 R1 S1 V1 hP1 => hb.go R1 S1 hP1 fun u st2 as2 y H2 p2 R2 S2 V2 hP2 => cmp_ok (hGB hG) R2 (V1.mono p2) V2 hP2
def fCmp2 (op op' : CmpOp) (a b c : Ev → Store → R) : Ev → Store → R := fun env st => (a env st).b1 fun x st1 => (b env st1).b1 fun y st2 => (cmpD op x y st2).b1 fun z st3 => match z with
    | .bl true => (c env st3).b1 fun w st4 => cmpD op' y w st4
    | .bl false => one (.bl false) st3
    | _ => .stk
theorem cmp2_read {op op' : CmpOp} (ha : SE cls G W ea a) (hb : SE cls G W eb b) (hc : SE cls G W ec c) {env : Ev} {st : Store} {as : List Addr} {σ : L2.St} {H : Hp} {Q : VK} (h0 : Rel cls as st H) (h1 : SR as env σ) (hP : PV cls as (fCmp2 op op' a b c env st) Q (fun c d H' => W c d σ H')) :
    tChain (UOp G (compareOp op)) (UOp G (compareOp op')) (UE G ea) (UE G eb) (UE G ec) σ H Q := by
  unfold fCmp2 at hP
  refine ha.go h0 h1 hP fun v st1 as1 w H1 p1 R1 S1 V1 hP1 => hb.go R1 S1 hP1 fun u st2 as2 y H2 p2 R2 S2 V2 hP2 => ?_
  refine cmp_ok (hGB hG) R2 (V1.mono p2) V2 (X := fun c d H' => W c d σ H') ?_
  cases q : cmpD op v u st2 with
  | val vs st3 =>
    rw [q] at hP2
    match vs, hP2 with
    | [z0], hP2 =>
      intro as3 z H3 p3 R3 V3
      have hP3 := PV.mono p3 hP2
      cases z0 with
      | bl k =>
        cases V3
        cases k with
        | true =>
          refine ⟨true, rfl, ?_⟩
          rw [if_pos rfl]
          exact hc.go R3 (S2.mono p3) hP3 fun w4 st4 as4 w' H4 p4 R4 S4 V4 hP4 => cmp_ok (hGB hG) R4 ((V2.mono p3).mono p4) V4 hP4
        | false =>
          refine ⟨false, rfl, ?_⟩
          rw [if_neg (by decide)]
          exact PV.got (v := .bl false) hP3 R3 rfl
      | _ => exact hP3.elim
    | [], hP2 => exact hP2.elim
    | _ :: _ :: _, hP2 => exact hP2.elim
  | exc c fs en st1 =>
    rw [q] at hP2
    exact hP2
  | nxt a b => rw [q] at hP2; exact hP2.elim
  | ret a b => rw [q] at hP2; exact hP2.elim
  | stk => rw [q] at hP2; exact hP2.elim
theorem se_cmp2' {op op' : CmpOp} (hm : lastMarks [op, op'] [eb, ec] = false) (ha : SE cls G W ea a) (hb : SE cls G W eb b) (hc : SE cls G W ec c) : SE cls G W (.Compare ea [op, op'] [eb, ec] pos) (fCmp2 op op' a b c) := by
  intro env st as σ H Q h0 h1 hP
  exact ⟨_, fun X hX => pe_chain (op_U hX) (op_U hX) (pe_U hX) (pe_U hX) (pe_U hX) hm, cmp2_read hG ha hb hc h0 h1 hP⟩
theorem st_cmp2 {op op' : CmpOp} (hm : lastMarks [op, op'] [eb, ec] = false) (ha : SE cls G W ea a) (hb : SE cls G W eb b) (hc : SE cls G W ec c) : ST cls G W (.Compare ea [op, op'] [eb, ec] pos) (fCmp2 op op' a b c) := by
  intro env st as σ H Q h0 h1 hP
  have h2 : PV cls as (fCmp2 op op' a b c env st) (fun z H => ∃ k, z = .bl k ∧ Q k H) (fun c d H' => W c d σ H') :=
    b1_bl (fun v st1 h => b1_bl (fun u st2 h => b1_bl (fun z st3 h => by
      cases z with
      | bl k =>
        cases k with
        | true => exact b1_bl (fun y st4 h => cmpD_bl hG (Qx := fun _ _ => True) h) h
        | false =>
          obtain ⟨b, hb, k2⟩ := h
          have : false = b := Option.some.inj hb
          subst this
          exact fun as' w H' p R1 r => ⟨false, r, k2 as' H' p R1⟩
      | _ => exact h.elim) h) h) (show PT' cls as _ Q (fun c d H' => W c d σ H') from hP)
  exact ⟨_, fun X hX => pt_chain (op_U hX) (op_U hX) (pe_U hX) (pe_U hX) (pe_U hX) hm, cmp2_read hG ha hb hc h0 h1 h2⟩
end
end
end Mi
set_option maxHeartbeats 400000
/-! Mi: the text against the terms: what a checked piece looks like. -/
namespace Mi
open PySem PySem.Spec PyProof.Rows L2
variable {Pg : Prog} {S : Sc} {s : Syn}

theorem inv_var {i : Nat} (h : chk Pg (.var i) S s = true) : ∃ x p, s = .e (.Name x p) ∧ S.N[i]? = some x ∧ visB S.sc x = true ∧ (x == ("__debug__" : Str)) = false ∧ (x == ("__classdict__" : Str)) = false := by
  cases s
  case e x =>
    cases x
    case Name x p =>
      obtain ⟨h1, k0⟩ := and2 h; obtain ⟨h2, k1⟩ := and2 k0; obtain ⟨h3, h4⟩ := and2 k1; exact ⟨x, p, rfl, dcd h1, h2, notT h3, notT h4⟩
    all_goals exact absurd h Bool.false_ne_true
  all_goals exact absurd h Bool.false_ne_true

theorem inv_cst {v : V} (h : chk Pg (.cst v) S s = true) : ∃ k j p, s = .e (.Constant k j p) ∧ cstB k v = true := by
  cases s
  case e x =>
    cases x
    case Constant k j p =>
      exact ⟨k, j, p, rfl, h⟩
    all_goals exact absurd h Bool.false_ne_true
  all_goals exact absurd h Bool.false_ne_true

theorem inv_glo {x : Str} (h : chk Pg (.glo x) S s = true) : ∃ p, s = .e (.Name x p) ∧ glB S.sc x = true := by
  cases s
  case e x =>
    cases x
    case Name y p =>
      obtain ⟨h1, h2⟩ := and2 h; cases dcd h1; exact ⟨p, rfl, h2⟩
    all_goals exact absurd h Bool.false_ne_true
  all_goals exact absurd h Bool.false_ne_true

theorem inv_bin {op : Operator} {a b : T} (h : chk Pg (.bin op a b) S s = true) : ∃ ea eb p, s = .e (.BinOp ea op eb p) ∧ chk Pg a S (.e ea) = true ∧ chk Pg b S (.e eb) = true := by
  cases s
  case e x =>
    cases x
    case BinOp ea op2 eb p =>
      obtain ⟨h1, k0⟩ := and2 h; obtain ⟨h2, h3⟩ := and2 k0; cases dcd h1; exact ⟨ea, eb, p, rfl, h2, h3⟩
    all_goals exact absurd h Bool.false_ne_true
  all_goals exact absurd h Bool.false_ne_true

theorem inv_neg {a : T} (h : chk Pg (.neg a) S s = true) : ∃ ea p, s = .e (.UnaryOp .USub ea p) ∧ chk Pg a S (.e ea) = true := by
  cases s
  case e x =>
    cases x
    case UnaryOp u ea p =>
      cases u
      case USub =>
        exact ⟨ea, p, rfl, h⟩
      all_goals exact absurd h Bool.false_ne_true
    all_goals exact absurd h Bool.false_ne_true
  all_goals exact absurd h Bool.false_ne_true

theorem inv_not {a : T} (h : chk Pg (.not a) S s = true) : ∃ ea p, s = .e (.UnaryOp .Not ea p) ∧ notIf ea = true ∧ chk Pg a S (.e ea) = true := by
  cases s
  case e x =>
    cases x
    case UnaryOp u ea p =>
      cases u
      case Not =>
        obtain ⟨h1, h2⟩ := and2 h; exact ⟨ea, p, rfl, h1, h2⟩
      all_goals exact absurd h Bool.false_ne_true
    all_goals exact absurd h Bool.false_ne_true
  all_goals exact absurd h Bool.false_ne_true

theorem inv_and {a b : T} (h : chk Pg (.and a b) S s = true) : ∃ ea eb rest p, s = .e (.BoolOp .And (ea :: eb :: rest) p) ∧ notIf ea = true ∧ chk Pg a S (.e ea) = true ∧ ((rest = [] ∧ notIf eb = true ∧ chk Pg b S (.e eb) = true) ∨ chk Pg b S (.e (.BoolOp .And (eb :: rest) p)) = true) := by
  cases s
  case e x =>
    cases x
    case BoolOp o vs p =>
      cases o
      case And =>
        cases vs
        case cons ea vs =>
          cases vs
          case cons eb rest =>
            obtain ⟨h1, k0⟩ := and2 h; obtain ⟨h2, h3⟩ := and2 k0; refine ⟨ea, eb, rest, p, rfl, h1, h2, ?_⟩; cases rest with
            | nil => exact .inl ⟨rfl, and2 h3⟩
            | cons r rs => exact .inr h3
          all_goals exact absurd h Bool.false_ne_true
        all_goals exact absurd h Bool.false_ne_true
      all_goals exact absurd h Bool.false_ne_true
    all_goals exact absurd h Bool.false_ne_true
  all_goals exact absurd h Bool.false_ne_true

theorem inv_or {a b : T} (h : chk Pg (.or a b) S s = true) : ∃ ea eb rest p, s = .e (.BoolOp .Or (ea :: eb :: rest) p) ∧ notIf ea = true ∧ chk Pg a S (.e ea) = true ∧ ((rest = [] ∧ notIf eb = true ∧ chk Pg b S (.e eb) = true) ∨ chk Pg b S (.e (.BoolOp .Or (eb :: rest) p)) = true) := by
  cases s
  case e x =>
    cases x
    case BoolOp o vs p =>
      cases o
      case Or =>
        cases vs
        case cons ea vs =>
          cases vs
          case cons eb rest =>
            obtain ⟨h1, k0⟩ := and2 h; obtain ⟨h2, h3⟩ := and2 k0; refine ⟨ea, eb, rest, p, rfl, h1, h2, ?_⟩; cases rest with
            | nil => exact .inl ⟨rfl, and2 h3⟩
            | cons r rs => exact .inr h3
          all_goals exact absurd h Bool.false_ne_true
        all_goals exact absurd h Bool.false_ne_true
      all_goals exact absurd h Bool.false_ne_true
    all_goals exact absurd h Bool.false_ne_true
  all_goals exact absurd h Bool.false_ne_true

theorem inv_cmp {op : CmpOp} {a b : T} (h : chk Pg (.cmp op a b) S s = true) : ∃ ea eb p, s = .e (.Compare ea [op] [eb] p) ∧ behindInMarks op eb = false ∧ chk Pg a S (.e ea) = true ∧ chk Pg b S (.e eb) = true := by
  cases s
  case e x =>
    cases x
    case Compare ea ops cs p =>
      cases ops
      case cons op2 ops =>
        cases ops
        case nil =>
          cases cs
          case cons eb cs =>
            cases cs
            case nil =>
              obtain ⟨h1, k0⟩ := and2 h; obtain ⟨h2, k1⟩ := and2 k0; obtain ⟨h3, h4⟩ := and2 k1; cases dcd h1; exact ⟨ea, eb, p, rfl, notT h2, h3, h4⟩
            all_goals exact absurd h Bool.false_ne_true
          all_goals exact absurd h Bool.false_ne_true
        all_goals exact absurd h Bool.false_ne_true
      all_goals exact absurd h Bool.false_ne_true
    all_goals exact absurd h Bool.false_ne_true
  all_goals exact absurd h Bool.false_ne_true

theorem inv_cmp2 {op op2 : CmpOp} {a b c : T} (h : chk Pg (.cmp2 op op2 a b c) S s = true) : ∃ ea eb ec p, s = .e (.Compare ea [op, op2] [eb, ec] p) ∧ lastMarks [op, op2] [eb, ec] = false ∧ chk Pg a S (.e ea) = true ∧ chk Pg b S (.e eb) = true ∧ chk Pg c S (.e ec) = true := by
  cases s
  case e x =>
    cases x
    case Compare ea ops cs p =>
      cases ops
      case cons o1 ops =>
        cases ops
        case cons o2 ops =>
          cases ops
          case nil =>
            cases cs
            case cons eb cs =>
              cases cs
              case cons ec cs =>
                cases cs
                case nil =>
                  obtain ⟨h1, k0⟩ := and2 h; obtain ⟨h2, k1⟩ := and2 k0; obtain ⟨h3, k2⟩ := and2 k1; obtain ⟨h4, k3⟩ := and2 k2; obtain ⟨h5, h6⟩ := and2 k3; cases dcd h1; cases dcd h2; exact ⟨ea, eb, ec, p, rfl, notT h3, h4, h5, h6⟩
                all_goals exact absurd h Bool.false_ne_true
              all_goals exact absurd h Bool.false_ne_true
            all_goals exact absurd h Bool.false_ne_true
          all_goals exact absurd h Bool.false_ne_true
        all_goals exact absurd h Bool.false_ne_true
      all_goals exact absurd h Bool.false_ne_true
    all_goals exact absurd h Bool.false_ne_true
  all_goals exact absurd h Bool.false_ne_true

theorem inv_ife {c a b : T} (h : chk Pg (.ife c a b) S s = true) : ∃ ec ea eb p, s = .e (.IfExp ec ea eb p) ∧ notIf ec = true ∧ chk Pg c S (.e ec) = true ∧ chk Pg a S (.e ea) = true ∧ chk Pg b S (.e eb) = true := by
  cases s
  case e x =>
    cases x
    case IfExp ec ea eb p =>
      obtain ⟨h1, k0⟩ := and2 h; obtain ⟨h2, k1⟩ := and2 k0; obtain ⟨h3, h4⟩ := and2 k1; exact ⟨ec, ea, eb, p, rfl, h1, h2, h3, h4⟩
    all_goals exact absurd h Bool.false_ne_true
  all_goals exact absurd h Bool.false_ne_true

theorem inv_nil (h : chk Pg .nil S s = true) : s = .es [] ∨ s = .o none ∨ s = .fs [] := by
  cases s
  case es xs =>
    cases xs
    case nil => exact .inl rfl
    all_goals exact absurd h Bool.false_ne_true
  case o x =>
    cases x
    case none => exact .inr (.inl rfl)
    all_goals exact absurd h Bool.false_ne_true
  case fs xs =>
    cases xs
    case nil => exact .inr (.inr rfl)
    all_goals exact absurd h Bool.false_ne_true
  all_goals exact absurd h Bool.false_ne_true
theorem inv_som {a : T} (h : chk Pg (.som a) S s = true) : ∃ ea, chk Pg a S (.e ea) = true ∧ (s = .o (some ea) ∨ (s = .fs [ea] ∧ notIf ea = true)) := by
  cases s
  case o x =>
    cases x
    case some ea => exact ⟨ea, h, .inl rfl⟩
    all_goals exact absurd h Bool.false_ne_true
  case fs xs =>
    cases xs
    case cons ea xs =>
      cases xs
      case nil => exact ⟨ea, (and2 h).2, .inr ⟨rfl, (and2 h).1⟩⟩
      all_goals exact absurd h Bool.false_ne_true
    all_goals exact absurd h Bool.false_ne_true
  all_goals exact absurd h Bool.false_ne_true
theorem inv_don (h : chk Pg .don S s = true) : s = .ss [] ∨ ∃ p, s = .s (.Pass p) := by
  cases s
  case ss xs =>
    cases xs
    case nil => exact .inl rfl
    all_goals exact absurd h Bool.false_ne_true
  case s x =>
    cases x
    case Pass p => exact .inr ⟨p, rfl⟩
    all_goals exact absurd h Bool.false_ne_true
  all_goals exact absurd h Bool.false_ne_true

theorem inv_cons {a b : T} (h : chk Pg (.cons a b) S s = true) : ∃ ea es, s = .es (ea :: es) ∧ isStar ea = false ∧ chk Pg a S (.e ea) = true ∧ chk Pg b S (.es es) = true := by
  cases s
  case es xs =>
    cases xs
    case cons ea es =>
      obtain ⟨h1, k0⟩ := and2 h; obtain ⟨h2, h3⟩ := and2 k0; exact ⟨ea, es, rfl, notT h1, h2, h3⟩
    all_goals exact absurd h Bool.false_ne_true
  all_goals exact absurd h Bool.false_ne_true

theorem inv_tup {a : T} (h : chk Pg (.tup a) S s = true) : ∃ es k p, s = .e (.Tuple es k p) ∧ chk Pg a S (.es es) = true := by
  cases s
  case e x =>
    cases x
    case Tuple es k p =>
      exact ⟨es, k, p, rfl, h⟩
    all_goals exact absurd h Bool.false_ne_true
  all_goals exact absurd h Bool.false_ne_true

theorem inv_lst {a : T} (h : chk Pg (.lst a) S s = true) : ∃ es p, s = .e (.List es p) ∧ chk Pg a S (.es es) = true := by
  cases s
  case e x =>
    cases x
    case List es p =>
      exact ⟨es, p, rfl, h⟩
    all_goals exact absurd h Bool.false_ne_true
  all_goals exact absurd h Bool.false_ne_true

theorem inv_dic0  (h : chk Pg (.dic0) S s = true) : ∃ p, s = .e (.Dict [] [] p) := by
  cases s
  case e x =>
    cases x
    case Dict ks vs p =>
      cases ks
      case nil =>
        cases vs
        case nil =>
          exact ⟨p, rfl⟩
        all_goals exact absurd h Bool.false_ne_true
      all_goals exact absurd h Bool.false_ne_true
    all_goals exact absurd h Bool.false_ne_true
  all_goals exact absurd h Bool.false_ne_true

theorem inv_call {f : Str} {a : T} (h : chk Pg (.call f a) S s = true) : ∃ p2 es p, s = .e (.Call (.Name f p2) es [] p) ∧ noStar es = true ∧ glB S.sc f = true ∧ topB Pg f = true ∧ chk Pg a S (.es es) = true := by
  cases s
  case e x =>
    cases x
    case Call g es kw p =>
      cases g
      case Name g p2 =>
        cases kw
        case nil =>
          obtain ⟨h1, k0⟩ := and2 h; obtain ⟨h2, k1⟩ := and2 k0; obtain ⟨h3, k2⟩ := and2 k1; obtain ⟨h4, h5⟩ := and2 k2; cases dcd h1; exact ⟨p2, es, p, rfl, h2, h3, h4, h5⟩
        all_goals exact absurd h Bool.false_ne_true
      all_goals exact absurd h Bool.false_ne_true
    all_goals exact absurd h Bool.false_ne_true
  all_goals exact absurd h Bool.false_ne_true

theorem inv_bif {f : Bi} {a : T} (h : chk Pg (.bif f a) S s = true) : ∃ p2 ea es p, s = .e (.Call (.Name (biN f) p2) (ea :: es) [] p) ∧ noStar (ea :: es) = true ∧ glB S.sc (biN f) = true ∧ chk Pg a S (.es (ea :: es)) = true := by
  cases s
  case e x =>
    cases x
    case Call g es kw p =>
      cases g
      case Name g p2 =>
        cases es
        case cons ea es =>
          cases kw
          case nil =>
            obtain ⟨h1, k0⟩ := and2 h; obtain ⟨h2, k1⟩ := and2 k0; obtain ⟨h3, h4⟩ := and2 k1; cases dcd h1; exact ⟨p2, ea, es, p, rfl, h2, h3, h4⟩
          all_goals exact absurd h Bool.false_ne_true
        all_goals exact absurd h Bool.false_ne_true
      all_goals exact absurd h Bool.false_ne_true
    all_goals exact absurd h Bool.false_ne_true
  all_goals exact absurd h Bool.false_ne_true

theorem inv_isi {a : T} {t : Ty} (h : chk Pg (.isi a t) S s = true) : ∃ p2 ea p3 p, s = .e (.Call (.Name "isinstance" p2) [ea, .Name (tyN t) p3] [] p) ∧ Pg.ty (tyN t) = true ∧ t ≠ .none ∧ isStar ea = false ∧ glB S.sc "isinstance" = true ∧ glB S.sc (tyN t) = true ∧ chk Pg a S (.e ea) = true := by
  cases s
  case e x =>
    cases x
    case Call g es kw p =>
      cases g
      case Name g p2 =>
        cases es
        case cons ea es =>
          cases es
          case cons u es =>
            cases u
            case Name u p3 =>
              cases es
              case nil =>
                cases kw
                case nil =>
                  obtain ⟨h1, k0⟩ := and2 h; obtain ⟨h2, k1⟩ := and2 k0; obtain ⟨h3, k2⟩ := and2 k1; obtain ⟨h3, h3b⟩ := and2 h3; obtain ⟨h4, k3⟩ := and2 k2; obtain ⟨h5, k4⟩ := and2 k3; obtain ⟨h6, h7⟩ := and2 k4; cases dcd h1; cases dcd h2; exact ⟨p2, ea, p3, p, rfl, h3, dcd h3b, notT h4, h5, h6, h7⟩
                all_goals exact absurd h Bool.false_ne_true
              all_goals exact absurd h Bool.false_ne_true
            all_goals exact absurd h Bool.false_ne_true
          all_goals exact absurd h Bool.false_ne_true
        all_goals exact absurd h Bool.false_ne_true
      all_goals exact absurd h Bool.false_ne_true
    all_goals exact absurd h Bool.false_ne_true
  all_goals exact absurd h Bool.false_ne_true

theorem inv_meth {m : Str} {o a : T} (h : chk Pg (.meth m o a) S s = true) : ∃ eo ap es p, s = .e (.Call (.Attribute eo m ap) es [] p) ∧ plainBase eo = true ∧ noStar es = true ∧ (ap.endLine == p.line) = true ∧ es.length < 30 ∧ chk Pg o S (.e eo) = true ∧ chk Pg a S (.es es) = true := by
  cases s
  case e x =>
    cases x
    case Call g es kw p =>
      cases g
      case Attribute eo m2 ap =>
        cases kw
        case nil =>
          obtain ⟨h1, k0⟩ := and2 h; obtain ⟨h2, k1⟩ := and2 k0; obtain ⟨h3, k2⟩ := and2 k1; obtain ⟨h4, k3⟩ := and2 k2; obtain ⟨h5, k4⟩ := and2 k3; obtain ⟨h6, h7⟩ := and2 k4; cases dcd h1; exact ⟨eo, ap, es, p, rfl, h2, h3, h4, dcd h5, h6, h7⟩
        all_goals exact absurd h Bool.false_ne_true
      all_goals exact absurd h Bool.false_ne_true
    all_goals exact absurd h Bool.false_ne_true
  all_goals exact absurd h Bool.false_ne_true

theorem inv_bm {t : Mt} {o a : T} (h : chk Pg (.bm t o a) S s = true) : ∃ eo ap es p, s = .e (.Call (.Attribute eo (mtN t) ap) es [] p) ∧ plainBase eo = true ∧ noStar es = true ∧ (ap.endLine == p.line) = true ∧ es.length < 29 ∧ notNev a = true ∧ chk Pg o S (.e eo) = true ∧ chk Pg a S (.es es) = true := by
  cases s
  case e x =>
    cases x
    case Call g es kw p =>
      cases g
      case Attribute eo m2 ap =>
        cases kw
        case nil =>
          obtain ⟨h1, k0⟩ := and2 h; obtain ⟨h2, k1⟩ := and2 k0; obtain ⟨h3, k2⟩ := and2 k1; obtain ⟨h4, k3⟩ := and2 k2; obtain ⟨h5, k4⟩ := and2 k3; obtain ⟨h6, h7⟩ := and2 k4; cases dcd h1; obtain ⟨h5, h5b⟩ := and2 h5; exact ⟨eo, ap, es, p, rfl, h2, h3, h4, dcd h5, h5b, h6, h7⟩
        all_goals exact absurd h Bool.false_ne_true
      all_goals exact absurd h Bool.false_ne_true
    all_goals exact absurd h Bool.false_ne_true
  all_goals exact absurd h Bool.false_ne_true

theorem inv_mk {c : Str} {a : T} (h : chk Pg (.mk c a) S s = true) : ∃ p2 es p, s = .e (.Call (.Name c p2) es [] p) ∧ noStar es = true ∧ glB S.sc c = true ∧ Pg.made c = true ∧ (Pg.meth c "__init__").isSome = true ∧ chk Pg a S (.es es) = true := by
  cases s
  case e x =>
    cases x
    case Call g es kw p =>
      cases g
      case Name g p2 =>
        cases kw
        case nil =>
          obtain ⟨h1, k0⟩ := and2 h; obtain ⟨h2, k1⟩ := and2 k0; obtain ⟨h3, k2⟩ := and2 k1; obtain ⟨h4, k3⟩ := and2 k2; obtain ⟨h5, h6⟩ := and2 k3; cases dcd h1; exact ⟨p2, es, p, rfl, h2, h3, h4, h5, h6⟩
        all_goals exact absurd h Bool.false_ne_true
      all_goals exact absurd h Bool.false_ne_true
    all_goals exact absurd h Bool.false_ne_true
  all_goals exact absurd h Bool.false_ne_true

theorem inv_cm {c m : Str} {a : T} (h : chk Pg (.cm c m a) S s = true) : ∃ p2 ap es p, s = .e (.Call (.Attribute (.Name c p2) m ap) es [] p) ∧ noStar es = true ∧ (ap.endLine == p.line) = true ∧ es.length < 30 ∧ glB S.sc c = true ∧ (Pg.cm c m).isSome = true ∧ chk Pg a S (.es es) = true := by
  cases s
  case e x =>
    cases x
    case Call g es kw p =>
      cases g
      case Attribute eo m2 ap =>
        cases eo
        case Name g p2 =>
          cases kw
          case nil =>
            obtain ⟨h1, k0⟩ := and2 h; obtain ⟨h2, k1⟩ := and2 k0; obtain ⟨h3, k2⟩ := and2 k1; obtain ⟨h4, k3⟩ := and2 k2; obtain ⟨h5, k4⟩ := and2 k3; obtain ⟨h6, k5⟩ := and2 k4; obtain ⟨h7, h8⟩ := and2 k5; cases dcd h1; cases dcd h2; exact ⟨p2, ap, es, p, rfl, h3, h4, dcd h5, h6, h7, h8⟩
          all_goals exact absurd h Bool.false_ne_true
        all_goals exact absurd h Bool.false_ne_true
      all_goals exact absurd h Bool.false_ne_true
    all_goals exact absurd h Bool.false_ne_true
  all_goals exact absurd h Bool.false_ne_true

theorem inv_lset {a : T} (h : chk Pg (.lset a) S s = true) : ∃ p1 p2 q ea p, s = .e (.Call (.Name "len" p1) [.Call (.Name "set" p2) [ea] [] q] [] p) ∧ glB S.sc "len" = true ∧ glB S.sc "set" = true ∧ isStar ea = false ∧ chk Pg a S (.e ea) = true := by
  cases s
  case e x =>
    cases x
    case Call g es kw p =>
      cases g
      case Name g p1 =>
        cases es
        case cons e1 es =>
          cases e1
          case Call g2 es2 kw2 q =>
            cases g2
            case Name g2 p2 =>
              cases es2
              case cons ea es2 =>
                cases es2
                case nil =>
                  cases kw2
                  case nil =>
                    cases es
                    case nil =>
                      cases kw
                      case nil =>
                        obtain ⟨h1, k0⟩ := and2 h; obtain ⟨h2, k1⟩ := and2 k0; obtain ⟨h3, k2⟩ := and2 k1; obtain ⟨h4, k3⟩ := and2 k2; obtain ⟨h5, h6⟩ := and2 k3; cases dcd h1; cases dcd h2; exact ⟨p1, p2, q, ea, p, rfl, h3, h4, notT h5, h6⟩
                      all_goals exact absurd h Bool.false_ne_true
                    all_goals exact absurd h Bool.false_ne_true
                  all_goals exact absurd h Bool.false_ne_true
                all_goals exact absurd h Bool.false_ne_true
              all_goals exact absurd h Bool.false_ne_true
            all_goals exact absurd h Bool.false_ne_true
          all_goals exact absurd h Bool.false_ne_true
        all_goals exact absurd h Bool.false_ne_true
      all_goals exact absurd h Bool.false_ne_true
    all_goals exact absurd h Bool.false_ne_true
  all_goals exact absurd h Bool.false_ne_true

theorem inv_rsl {a : T} (h : chk Pg (.rsl a) S s = true) : ∃ ea k p1 p2 p3 p, s = .e (.Subscript ea (.Slice none none (some (.UnaryOp .USub (.Constant (.int 1) k p1) p2)) p3) p) ∧ chk Pg a S (.e ea) = true := by
  cases s
  case e x =>
    cases x
    case Subscript ea ei p =>
      cases ei
      case Slice l hh stp p3 =>
        cases l
        case none =>
          cases hh
          case none =>
            cases stp
            case some u =>
              cases u
              case UnaryOp uo ec p2 =>
                cases uo
                case USub =>
                  cases ec
                  case Constant cc k p1 =>
                    cases cc
                    case int i =>
                      obtain ⟨h1, h2⟩ := and2 h; cases dcd h1; exact ⟨ea, k, p1, p2, p3, p, rfl, h2⟩
                    all_goals exact absurd h Bool.false_ne_true
                  all_goals exact absurd h Bool.false_ne_true
                all_goals exact absurd h Bool.false_ne_true
              all_goals exact absurd h Bool.false_ne_true
            all_goals exact absurd h Bool.false_ne_true
          all_goals exact absurd h Bool.false_ne_true
        all_goals exact absurd h Bool.false_ne_true
      all_goals exact absurd h Bool.false_ne_true
    all_goals exact absurd h Bool.false_ne_true
  all_goals exact absurd h Bool.false_ne_true

theorem inv_fld {o : T} {f : Str} (h : chk Pg (.fld o f) S s = true) : ∃ eo p, s = .e (.Attribute eo f p) ∧ plainBase eo = true ∧ chk Pg o S (.e eo) = true := by
  cases s
  case e x =>
    cases x
    case Attribute eo f2 p =>
      obtain ⟨h1, k0⟩ := and2 h; obtain ⟨h2, h3⟩ := and2 k0; cases dcd h1; exact ⟨eo, p, rfl, h2, h3⟩
    all_goals exact absurd h Bool.false_ne_true
  all_goals exact absurd h Bool.false_ne_true

theorem inv_idx {a i : T} (h : chk Pg (.idx a i) S s = true) : ∃ ea ei p, s = .e (.Subscript ea ei p) ∧ noSlice ei = true ∧ chk Pg a S (.e ea) = true ∧ chk Pg i S (.e ei) = true := by
  cases s
  case e x =>
    cases x
    case Subscript ea ei p =>
      obtain ⟨h1, k0⟩ := and2 h; obtain ⟨h2, h3⟩ := and2 k0; exact ⟨ea, ei, p, rfl, h1, h2, h3⟩
    all_goals exact absurd h Bool.false_ne_true
  all_goals exact absurd h Bool.false_ne_true

theorem inv_slc {a lo hi : T} (h : chk Pg (.slc a lo hi) S s = true) : ∃ ea l hh p2 p, s = .e (.Subscript ea (.Slice l hh none p2) p) ∧ chk Pg a S (.e ea) = true ∧ chk Pg lo S (.o l) = true ∧ chk Pg hi S (.o hh) = true := by
  cases s
  case e x =>
    cases x
    case Subscript ea ei p =>
      cases ei
      case Slice l hh stp p2 =>
        cases stp
        case none =>
          obtain ⟨h1, k0⟩ := and2 h; obtain ⟨h2, h3⟩ := and2 k0; exact ⟨ea, l, hh, p2, p, rfl, h1, h2, h3⟩
        all_goals exact absurd h Bool.false_ne_true
      all_goals exact absurd h Bool.false_ne_true
    all_goals exact absurd h Bool.false_ne_true
  all_goals exact absurd h Bool.false_ne_true

theorem inv_seq {a b : T} (h : chk Pg (.seq a b) S s = true) : ∃ x xs, s = .ss (x :: xs) ∧ chk Pg a S (.s x) = true ∧ chk Pg b S (.ss xs) = true := by
  cases s
  case ss xs =>
    cases xs
    case cons x xs =>
      obtain ⟨h1, h2⟩ := and2 h; exact ⟨x, xs, rfl, h1, h2⟩
    all_goals exact absurd h Bool.false_ne_true
  all_goals exact absurd h Bool.false_ne_true

theorem inv_asgN {i : Nat} {e : T} (h : chk Pg (.asgN i e) S s = true) : ∃ x p2 ea p, s = .s (.Assign [.Name x p2] ea p) ∧ S.N[i]? = some x ∧ x ∈ S.own ∧ chk Pg e S (.e ea) = true := by
  cases s
  case s x =>
    cases x
    case Assign ts ea p =>
      cases ts
      case cons tt ts =>
        cases tt
        case Name x p2 =>
          cases ts
          case nil =>
            obtain ⟨h1, k0⟩ := and2 h; obtain ⟨h2, h3⟩ := and2 k0; exact ⟨x, p2, ea, p, rfl, dcd h1, dcd h2, h3⟩
          all_goals exact absurd h Bool.false_ne_true
        all_goals exact absurd h Bool.false_ne_true
      all_goals exact absurd h Bool.false_ne_true
    all_goals exact absurd h Bool.false_ne_true
  all_goals exact absurd h Bool.false_ne_true

theorem inv_asgT {i : List Nat} {e : T} (h : chk Pg (.asgT i e) S s = true) : ∃ ts k p2 ea p, s = .s (.Assign [.Tuple ts k p2] ea p) ∧ plainVal ea = true ∧ notTup ea = true ∧ tgB S.N S.own (.t i) (.Tuple ts k p2) = true ∧ chk Pg e S (.e ea) = true := by
  cases s
  case s x =>
    cases x
    case Assign ts ea p =>
      cases ts
      case cons tt ts =>
        cases tt
        case Tuple tsx k p2 =>
          cases ts
          case nil =>
            obtain ⟨h1, k0⟩ := and2 h; obtain ⟨h2, k1⟩ := and2 k0; obtain ⟨h3, h4⟩ := and2 k1; exact ⟨tsx, k, p2, ea, p, rfl, h1, h2, h3, h4⟩
          all_goals exact absurd h Bool.false_ne_true
        all_goals exact absurd h Bool.false_ne_true
      all_goals exact absurd h Bool.false_ne_true
    all_goals exact absurd h Bool.false_ne_true
  all_goals exact absurd h Bool.false_ne_true

theorem inv_asgF {o : T} {f : Str} {e : T} (h : chk Pg (.asgF o f e) S s = true) : ∃ eo p2 ea p, s = .s (.Assign [.Attribute eo f p2] ea p) ∧ plainVal ea = true ∧ plainBase eo = true ∧ chk Pg o S (.e eo) = true ∧ chk Pg e S (.e ea) = true := by
  cases s
  case s x =>
    cases x
    case Assign ts ea p =>
      cases ts
      case cons tt ts =>
        cases tt
        case Attribute eo f2 p2 =>
          cases ts
          case nil =>
            obtain ⟨h1, k0⟩ := and2 h; obtain ⟨h2, k1⟩ := and2 k0; obtain ⟨h3, k2⟩ := and2 k1; obtain ⟨h4, h5⟩ := and2 k2; cases dcd h1; exact ⟨eo, p2, ea, p, rfl, h2, h3, h4, h5⟩
          all_goals exact absurd h Bool.false_ne_true
        all_goals exact absurd h Bool.false_ne_true
      all_goals exact absurd h Bool.false_ne_true
    all_goals exact absurd h Bool.false_ne_true
  all_goals exact absurd h Bool.false_ne_true

theorem inv_asgI {o i e : T} (h : chk Pg (.asgI o i e) S s = true) : ∃ eo ei p2 ea p, s = .s (.Assign [.Subscript eo ei p2] ea p) ∧ noSlice ei = true ∧ chk Pg o S (.e eo) = true ∧ chk Pg i S (.e ei) = true ∧ chk Pg e S (.e ea) = true := by
  cases s
  case s x =>
    cases x
    case Assign ts ea p =>
      cases ts
      case cons tt ts =>
        cases tt
        case Subscript eo ei p2 =>
          cases ts
          case nil =>
            obtain ⟨h1, k0⟩ := and2 h; obtain ⟨h2, k1⟩ := and2 k0; obtain ⟨h3, h4⟩ := and2 k1; exact ⟨eo, ei, p2, ea, p, rfl, h1, h2, h3, h4⟩
          all_goals exact absurd h Bool.false_ne_true
        all_goals exact absurd h Bool.false_ne_true
      all_goals exact absurd h Bool.false_ne_true
    all_goals exact absurd h Bool.false_ne_true
  all_goals exact absurd h Bool.false_ne_true

theorem inv_aug {i : Nat} {op : Operator} {e : T} (h : chk Pg (.aug i op e) S s = true) : ∃ x p2 ea p, s = .s (.AugAssign (.Name x p2) op ea p) ∧ S.N[i]? = some x ∧ x ∈ S.own ∧ chk Pg e S (.e ea) = true := by
  cases s
  case s x =>
    cases x
    case AugAssign tt op2 ea p =>
      cases tt
      case Name x p2 =>
        obtain ⟨h1, k0⟩ := and2 h; obtain ⟨h2, k1⟩ := and2 k0; obtain ⟨h3, h4⟩ := and2 k1; cases dcd h1; exact ⟨x, p2, ea, p, rfl, dcd h2, dcd h3, h4⟩
      all_goals exact absurd h Bool.false_ne_true
    all_goals exact absurd h Bool.false_ne_true
  all_goals exact absurd h Bool.false_ne_true

theorem inv_augF {o : T} {f : Str} {e : T} (h : chk Pg (.augF o f e) S s = true) : ∃ eo p2 ea p, s = .s (.AugAssign (.Attribute eo f p2) .Sub ea p) ∧ chk Pg o S (.e eo) = true ∧ chk Pg e S (.e ea) = true := by
  cases s
  case s x =>
    cases x
    case AugAssign tt op2 ea p =>
      cases tt
      case Attribute eo f2 p2 =>
        cases op2
        case Sub =>
          obtain ⟨h1, k0⟩ := and2 h; obtain ⟨h2, h3⟩ := and2 k0; cases dcd h1; exact ⟨eo, p2, ea, p, rfl, h2, h3⟩
        all_goals exact absurd h Bool.false_ne_true
      all_goals exact absurd h Bool.false_ne_true
    all_goals exact absurd h Bool.false_ne_true
  all_goals exact absurd h Bool.false_ne_true

theorem inv_drop {e : T} (h : chk Pg (.drop e) S s = true) : ∃ ea p, s = .s (.Expr ea p) ∧ plainVal ea = true ∧ chk Pg e S (.e ea) = true := by
  cases s
  case s x =>
    cases x
    case Expr ea p =>
      obtain ⟨h1, h2⟩ := and2 h; exact ⟨ea, p, rfl, h1, h2⟩
    all_goals exact absurd h Bool.false_ne_true
  all_goals exact absurd h Bool.false_ne_true

theorem inv_ret {e : T} (h : chk Pg (.ret e) S s = true) : ∃ ea p, s = .s (.Return (some ea) p) ∧ chk Pg e S (.e ea) = true := by
  cases s
  case s x =>
    cases x
    case Return o p =>
      cases o
      case some ea =>
        exact ⟨ea, p, rfl, h⟩
      all_goals exact absurd h Bool.false_ne_true
    all_goals exact absurd h Bool.false_ne_true
  all_goals exact absurd h Bool.false_ne_true

theorem inv_retN  (h : chk Pg (.retN) S s = true) : ∃ p, s = .s (.Return none p) := by
  cases s
  case s x =>
    cases x
    case Return o p =>
      cases o
      case none =>
        exact ⟨p, rfl⟩
      all_goals exact absurd h Bool.false_ne_true
    all_goals exact absurd h Bool.false_ne_true
  all_goals exact absurd h Bool.false_ne_true

theorem inv_ifs {c a b : T} (h : chk Pg (.ifs c a b) S s = true) : ∃ ec q r p, s = .s (.If ec q r p) ∧ notIf ec = true ∧ chk Pg c S (.e ec) = true ∧ chk Pg a S (.ss q) = true ∧ chk Pg b S (.ss r) = true := by
  cases s
  case s x =>
    cases x
    case If ec q r p =>
      obtain ⟨h1, k0⟩ := and2 h; obtain ⟨h2, k1⟩ := and2 k0; obtain ⟨h3, h4⟩ := and2 k1; exact ⟨ec, q, r, p, rfl, h1, h2, h3, h4⟩
    all_goals exact absurd h Bool.false_ne_true
  all_goals exact absurd h Bool.false_ne_true

theorem inv_whl {c b : T} (h : chk Pg (.whl c b) S s = true) : ∃ ec q p, s = .s (.While ec q [] p) ∧ notIf ec = true ∧ chk Pg c S (.e ec) = true ∧ chk Pg b S (.ss q) = true := by
  cases s
  case s x =>
    cases x
    case While ec q r p =>
      cases r
      case nil =>
        obtain ⟨h1, k0⟩ := and2 h; obtain ⟨h2, h3⟩ := and2 k0; exact ⟨ec, q, p, rfl, h1, h2, h3⟩
      all_goals exact absurd h Bool.false_ne_true
    all_goals exact absurd h Bool.false_ne_true
  all_goals exact absurd h Bool.false_ne_true

/-- how an iterable is written -/
def itB (Pg : Prog) (a : T) (S : Sc) (tgE : Expr) : Ik → Expr → Bool
  | .seq, x => chk Pg a S (.e x)
  | .rng1, .Call (.Name g _) [x] [] _ => decide (g = ("range" : Str)) && (glB S.sc g && (!(isStar x) && chk Pg a S (.es [x])))
  | .rng2, .Call (.Name g _) [x, y] [] _ => decide (g = ("range" : Str)) && (glB S.sc g && (!(isStar x) && (!(isStar y) && chk Pg a S (.es [x, y]))))
  | .rngd, .Call (.Name g _) [x, y, z] [] _ => decide (g = ("range" : Str)) && (glB S.sc g && (!(isStar x) && (!(isStar y) && (!(isStar z) && chk Pg a S (.es [x, y, z])))))
  | .enum1, .Call (.Name g _) [x] [⟨some kn, .Constant (.int i) _ _, _⟩] _ => decide (g = ("enumerate" : Str)) && (decide (kn = ("start" : Str)) && (decide (i = 1) && (tupB tgE && (glB S.sc g && (!(isStar x) && chk Pg a S (.es [x]))))))
  | _, _ => false

theorem inv_for {tg : Tg} {k : Ik} {a b : T} (h : chk Pg (.for tg k a b) S s = true) : ∃ tgE iter body p, s = .s (.For tgE iter body [] p) ∧ notSet iter = true ∧ tgB S.N S.own tg tgE = true ∧ itB Pg a S tgE k iter = true ∧ chk Pg b S (.ss body) = true := by
  cases s
  case s x =>
    cases x
    case For tgE iter body r p =>
      cases r
      case nil =>
        obtain ⟨h1, k0⟩ := and2 h; obtain ⟨h2, k1⟩ := and2 k0; obtain ⟨h3, h4⟩ := and2 k1; exact ⟨tgE, iter, body, p, rfl, h1, h2, h3, h4⟩
      all_goals exact absurd h Bool.false_ne_true
    all_goals exact absurd h Bool.false_ne_true
  all_goals exact absurd h Bool.false_ne_true

theorem inv_lc {own : List Nat} {tg : Tg} {k : Ik} {a ifs e : T} (h : chk Pg (.lc own tg k a ifs e) S s = true) : ∃ elt tgE iter ifsE scope p, s = .e (.ListComp elt [⟨tgE, iter, ifsE, 0⟩] scope p) ∧ notSet iter = true ∧ blkC S.N S.sc scope (pairs S.N own) = true ∧ funB scope = true ∧ ownB scope ((pairs S.N own).map (·.1)) = true ∧ tgB S.N ((pairs S.N own).map (·.1)) tg tgE = true ∧ (∀ j ∈ tgSlots tg, j ∈ own) ∧ itB Pg a S tgE k iter = true ∧ chk Pg ifs (blkS S scope ((pairs S.N own).map (·.1))) (.fs ifsE) = true ∧ chk Pg e (blkS S scope ((pairs S.N own).map (·.1))) (.e elt) = true := by
  cases s
  case e x =>
    cases x
    case ListComp elt gs scope p =>
      cases gs
      case cons g gs =>
        cases g
        case mk tgE iter ifsE asy =>
          cases gs
          case nil =>
            obtain ⟨h1, k0⟩ := and2 h; obtain ⟨h2, k1⟩ := and2 k0; obtain ⟨h3, k2⟩ := and2 k1; obtain ⟨h4, k3⟩ := and2 k2; obtain ⟨h5, k4⟩ := and2 k3; obtain ⟨h6, k5⟩ := and2 k4; obtain ⟨h7, k6⟩ := and2 k5; obtain ⟨h8, k7⟩ := and2 k6; obtain ⟨h9, h10⟩ := and2 k7; cases dcd h1; exact ⟨elt, tgE, iter, ifsE, scope, p, rfl, h2, h3, h4, h5, h6, dcd h7, h8, h9, h10⟩
          all_goals exact absurd h Bool.false_ne_true
        all_goals exact absurd h Bool.false_ne_true
      all_goals exact absurd h Bool.false_ne_true
    all_goals exact absurd h Bool.false_ne_true
  all_goals exact absurd h Bool.false_ne_true

end Mi
set_option maxHeartbeats 400000
/-! Mi: every checked piece keeps to its run. -/
namespace Mi
open PySem PySem.Spec PyProof.Rows L2
section
variable (P : Program) (w : World) (K : PySem.W.Frag) (mg : Str → Option Value) (base : Heap) (cls : Str → Addr) (Pg : Prog) (cf : Str → List V → Store → R) (lv : Nat)
structure SndE (S : Sc) (G : Cx → Prop) (W : WX) (x : Expr) (f : Ev → Store → R) : Prop where
  se : SE cls G W x f
  st : notIf x = true → ST cls G W x f
  sw : ∀ op vs p, x = .BoolOp op vs p → SW cls G W x f
  lc : plainVal x = false → ∀ i y py spos, S.N[i]? = some y → y ∈ S.own → SS cls G W (.Assign [.Name y py] x spos) (fun env st => (exE (f env st) env).b1 fun v st1 => if i < env.length then .nxt (env.set i (some v)) st1 else .stk)
abbrev HD (G : Cx → Prop) : Prop := ∀ X, G X → PassesOwn (model X.prog X.w) X.A X.env X.xe
def Snd (S : Sc) (G : Cx → Prop) (W : WX) (s : Syn) (f : Ev → Store → R) : Prop := match s with
  | .e x => SndE cls S G W x f
  | .es xs => SA cls G W xs f
  | .o x => SO cls G W x f
  | .fs xs => W = W0 → ∀ elt g, SE cls G W elt g → TurnOk cls G xs elt (turnR f g)
  | .s x => HD G → SS cls G W x f
  | .ss xs => HD G → SSs cls G W xs f
abbrev HG (S : Sc) (G : Cx → Prop) (W : WX) : Prop := ∀ X, G X → GX P w K mg base (lv + 1) S X ∧ Takes X W
def Good (t : T) : Prop := ∀ (S : Sc) (G : Cx → Prop) (W : WX), HG P w K mg base lv S G W → ∀ s, chk Pg t S s = true → Snd cls S G W s (run Pg cf t)
end
section
variable {P : Program} {w : World} {K : PySem.W.Frag} {mg : Str → Option Value} {base : Heap} {cls : Str → Addr} {Pg : Prog} {cf : Str → List V → Store → R} {lv : Nat} {S : Sc} {G : Cx → Prop} {W : WX}
variable {e ea eb ec eo tgE iter elt : Expr} {es ifs : List Expr} {a b c o : T} {x m : Str} {pos p apos : Pos} {f : Ev → Store → R}
/-- a plain expression: its test is its value's truth -/
theorem plain (hG : HG P w K mg base lv S G W) (h : SE cls G W e f) (he : ∀ env whole, isTrue e env whole = (do let v ← whole; standAt e.pos; holding [v] (truthy v))) (hb : ∀ op vs p, e ≠ .BoolOp op vs p) (hp : plainVal e = true) : SndE cls S G W e f where
  se := h
  st := fun _ => st_truth (hGB hG) h he
  sw := fun op vs p q => absurd q (hb op vs p)
  lc := fun q => absurd (hp.symm.trans q) (by decide)
theorem never (S : Sc) (G : Cx → Prop) (W : WX) (s : Syn) : Snd cls S G W s (fun _ _ => .stk) := by
  cases s with
  | e x => exact ⟨fun _ _ _ _ _ _ _ _ h => h.elim, fun _ _ _ _ _ _ _ _ _ h => h.elim, fun _ _ _ _ _ _ _ _ _ _ _ _ h => h.elim, fun _ _ _ _ _ _ _ _ _ _ _ _ _ _ _ h => h.elim⟩
  | es xs => exact fun _ _ _ _ _ _ _ _ h => h.elim
  | o x => exact fun _ _ _ _ _ _ _ _ h => h.elim
  | fs xs => exact fun _ _ _ _ _ _ _ _ _ _ _ _ _ h => h.elim
  | s x => exact fun _ _ _ _ _ _ _ _ _ h => h.elim
  | ss xs => exact fun _ _ _ _ _ _ _ _ _ h => h.elim
theorem hcst {k : Const} {v : V} : cstB k v = true → match k, v with
    | .none, .non => True
    | .bool b, .bl c => b = c
    | .int i, .int l => i = l
    | .str s, .str t => s = t
    | _, _ => False := by
  intro h
  unfold cstB at h
  split at h
  · trivial
  · exact eq_of_beq h
  · exact dcd h
  · exact dcd h
  · cases h
/-- the walks of an iterable -/
theorem sik (T : Tab P w K mg base cls Pg cf lv) (hG : HG P w K mg base lv S G W) (ih : Good P w K mg base cls Pg cf lv a) {k : Ik} (h : itB Pg a S tgE k iter = true) : SIk cls G W k tgE iter (run Pg cf a) := by
  cases k
  case seq =>
    intro env st as σ H Q h0 h1 hP
    refine si_seq hG (ih S G W hG _ h).se env st as σ H Q h0 h1 ?_
    revert hP
    cases run Pg cf a env st <;> exact fun h => h
  case rng1 =>
    cases iter
    case Call g es kw p =>
      cases g
      case Name g p2 =>
        cases es
        case cons x es =>
          cases es
          case nil =>
            cases kw
            case nil =>
              obtain ⟨h1, k0⟩ := and2 h; obtain ⟨h2, k1⟩ := and2 k0; obtain ⟨h3, h4⟩ := and2 k1
              cases dcd h1
              intro env st as σ H Q q0 q1 hP
              refine si_rng1 hG T (notT h3) (glB_ok h2).1 (ih S G W hG _ h4) env st as σ H Q q0 q1 ?_
              revert hP
              cases run Pg cf a env st <;> exact fun h => h
            all_goals exact absurd h Bool.false_ne_true
          all_goals exact absurd h Bool.false_ne_true
        all_goals exact absurd h Bool.false_ne_true
      all_goals exact absurd h Bool.false_ne_true
    all_goals exact absurd h Bool.false_ne_true
  case rng2 =>
    cases iter
    case Call g es kw p =>
      cases g
      case Name g p2 =>
        cases es
        case cons x es =>
          cases es
          case cons y es =>
            cases es
            case nil =>
              cases kw
              case nil =>
                obtain ⟨h1, k0⟩ := and2 h; obtain ⟨h2, k1⟩ := and2 k0; obtain ⟨h3, k2⟩ := and2 k1; obtain ⟨h4, h5⟩ := and2 k2
                cases dcd h1
                intro env st as σ H Q q0 q1 hP
                refine si_rng2 hG T (notT h3) (notT h4) (glB_ok h2).1 (ih S G W hG _ h5) env st as σ H Q q0 q1 ?_
                revert hP
                cases run Pg cf a env st <;> exact fun h => h
              all_goals exact absurd h Bool.false_ne_true
            all_goals exact absurd h Bool.false_ne_true
          all_goals exact absurd h Bool.false_ne_true
        all_goals exact absurd h Bool.false_ne_true
      all_goals exact absurd h Bool.false_ne_true
    all_goals exact absurd h Bool.false_ne_true
  case rngd =>
    cases iter
    case Call g es kw p =>
      cases g
      case Name g p2 =>
        cases es
        case cons x es =>
          cases es
          case cons y es =>
            cases es
            case cons z es =>
              cases es
              case nil =>
                cases kw
                case nil =>
                  obtain ⟨h1, k0⟩ := and2 h; obtain ⟨h2, k1⟩ := and2 k0; obtain ⟨h3, k2⟩ := and2 k1; obtain ⟨h4, k3⟩ := and2 k2; obtain ⟨h5, h6⟩ := and2 k3
                  cases dcd h1
                  intro env st as σ H Q q0 q1 hP
                  refine si_rngd hG T (notT h3) (notT h4) (notT h5) (glB_ok h2).1 (ih S G W hG _ h6) env st as σ H Q q0 q1 ?_
                  revert hP
                  cases run Pg cf a env st <;> exact fun h => h
                all_goals exact absurd h Bool.false_ne_true
              all_goals exact absurd h Bool.false_ne_true
            all_goals exact absurd h Bool.false_ne_true
          all_goals exact absurd h Bool.false_ne_true
        all_goals exact absurd h Bool.false_ne_true
      all_goals exact absurd h Bool.false_ne_true
    all_goals exact absurd h Bool.false_ne_true
  case enum1 =>
    cases iter
    case Call g es kw p =>
      cases g
      case Name g p2 =>
        cases es
        case cons x es =>
          cases es
          case nil =>
            cases kw
            case cons kw1 kws =>
              obtain ⟨kn, kv, kp⟩ := kw1
              cases kn
              case some kn =>
                cases kv
                case Constant c cs cp =>
                  cases c
                  case int i =>
                    cases kws
                    case nil =>
                      obtain ⟨h1, k0⟩ := and2 h; obtain ⟨h2, k1⟩ := and2 k0; obtain ⟨h3, k2⟩ := and2 k1; obtain ⟨h4, k3⟩ := and2 k2; obtain ⟨h5, k4⟩ := and2 k3; obtain ⟨h6, h7⟩ := and2 k4
                      cases dcd h1
                      cases dcd h2
                      cases dcd h3
                      intro env st as σ H Q q0 q1 hP
                      refine si_enum1 hG T h4 (notT h6) (glB_ok h5).1 (ih S G W hG _ h7) env st as σ H Q q0 q1 ?_
                      revert hP
                      cases run Pg cf a env st <;> exact fun h => h
                    all_goals exact absurd h Bool.false_ne_true
                  all_goals exact absurd h Bool.false_ne_true
                all_goals exact absurd h Bool.false_ne_true
              all_goals exact absurd h Bool.false_ne_true
            all_goals exact absurd h Bool.false_ne_true
          all_goals exact absurd h Bool.false_ne_true
        all_goals exact absurd h Bool.false_ne_true
      all_goals exact absurd h Bool.false_ne_true
    all_goals exact absurd h Bool.false_ne_true
  all_goals exact absurd h Bool.false_ne_true

/-- every checked piece keeps to its run -/
theorem good (T : Tab P w K mg base cls Pg cf lv) (t : Mi.T) : Good P w K mg base cls Pg cf lv t := by
  induction t with
  | nev => exact fun S G W hG s h => never S G W s
  | var i =>
    intro S G W hG s h
    obtain ⟨x, p, rfl, h1, h2, h3, h4⟩ := inv_var h
    exact plain hG (se_var hG h1 (visB_ok h2) h3 h4) (fun _ _ => rfl) (by intro _ _ _ q; cases q) rfl
  | cst v =>
    intro S G W hG s h
    obtain ⟨k, j, p, rfl, h1⟩ := inv_cst h
    exact plain hG (se_cst (hcst h1)) (fun _ _ => rfl) (by intro _ _ _ q; cases q) rfl
  | glo x =>
    intro S G W hG s h
    obtain ⟨p, rfl, h1⟩ := inv_glo h
    exact plain hG (se_glo hG T (glB_ok h1).1 (glB_ok h1).2) (fun _ _ => rfl) (by intro _ _ _ q; cases q) rfl
  | bin op a b iha ihb =>
    intro S G W hG s h
    obtain ⟨ea, eb, p, rfl, h1, h2⟩ := inv_bin h
    exact plain hG (se_bin hG (iha S G W hG _ h1).se (ihb S G W hG _ h2).se) (fun _ _ => rfl) (by intro _ _ _ q; cases q) rfl
  | neg a iha =>
    intro S G W hG s h
    obtain ⟨ea, p, rfl, h1⟩ := inv_neg h
    exact plain hG (se_neg (iha S G W hG _ h1).se) (fun _ _ => rfl) (by intro _ _ _ q; cases q) rfl
  | not a iha =>
    intro S G W hG s h
    obtain ⟨ea, p, rfl, h0, h1⟩ := inv_not h
    have A := iha S G W hG _ h1
    exact ⟨se_not hG (A.st h0) A.se, fun _ => st_not (A.st h0), (by intro _ _ _ q; cases q), fun q => absurd (show true = false from q) (by decide)⟩
  | and a b iha ihb =>
    intro S G W hG s h
    obtain ⟨ea, eb, rest, p, rfl, h0, h1, h2⟩ := inv_and h
    have A := iha S G W hG _ h1
    have hse : SE cls G W (.BoolOp .And (eb :: rest) p) (run Pg cf b) ∧ SW cls G W (.BoolOp .And (eb :: rest) p) (run Pg cf b) := by
      rcases h2 with ⟨rfl, h2, h3⟩ | h2
      · have B := ihb S G W hG _ h3
        exact ⟨se_one B.se, sw_one (B.st h2)⟩
      · have B := ihb S G W hG _ h2
        exact ⟨B.se, B.sw _ _ _ rfl⟩
    have w1 : SW cls G W (.BoolOp .And (ea :: eb :: rest) p) (fAnd (run Pg cf a) (run Pg cf b)) := sw_and (A.st h0) hse.2
    exact ⟨se_and hG A.se hse.1, fun _ => w1.st, fun _ _ _ _ => w1, fun q => absurd (show true = false from q) (by decide)⟩
  | or a b iha ihb =>
    intro S G W hG s h
    obtain ⟨ea, eb, rest, p, rfl, h0, h1, h2⟩ := inv_or h
    have A := iha S G W hG _ h1
    have hse : SE cls G W (.BoolOp .Or (eb :: rest) p) (run Pg cf b) ∧ SW cls G W (.BoolOp .Or (eb :: rest) p) (run Pg cf b) := by
      rcases h2 with ⟨rfl, h2, h3⟩ | h2
      · have B := ihb S G W hG _ h3
        exact ⟨se_one B.se, sw_one (B.st h2)⟩
      · have B := ihb S G W hG _ h2
        exact ⟨B.se, B.sw _ _ _ rfl⟩
    have w1 : SW cls G W (.BoolOp .Or (ea :: eb :: rest) p) (fOr (run Pg cf a) (run Pg cf b)) := sw_or (A.st h0) hse.2
    exact ⟨se_or hG A.se hse.1, fun _ => w1.st, fun _ _ _ _ => w1, fun q => absurd (show true = false from q) (by decide)⟩
  | cmp op a b iha ihb =>
    intro S G W hG s h
    obtain ⟨ea, eb, p, rfl, h0, h1, h2⟩ := inv_cmp h
    exact ⟨se_cmp hG h0 (iha S G W hG _ h1).se (ihb S G W hG _ h2).se, fun _ => st_cmp hG h0 (iha S G W hG _ h1).se (ihb S G W hG _ h2).se, (by intro _ _ _ q; cases q), fun q => absurd (show true = false from q) (by decide)⟩
  | cmp2 op op2 a b c iha ihb ihc =>
    intro S G W hG s h
    obtain ⟨ea, eb, ec, p, rfl, h0, h1, h2, h3⟩ := inv_cmp2 h
    exact ⟨se_cmp2' hG h0 (iha S G W hG _ h1).se (ihb S G W hG _ h2).se (ihc S G W hG _ h3).se, fun _ => st_cmp2 hG h0 (iha S G W hG _ h1).se (ihb S G W hG _ h2).se (ihc S G W hG _ h3).se, (by intro _ _ _ q; cases q), fun q => absurd (show true = false from q) (by decide)⟩
  | ife c a b ihc iha ihb =>
    intro S G W hG s h
    obtain ⟨ec, ea, eb, p, rfl, h0, h1, h2, h3⟩ := inv_ife h
    exact ⟨se_ife ((ihc S G W hG _ h1).st h0) (iha S G W hG _ h2).se (ihb S G W hG _ h3).se, fun q => absurd (show false = true from q) (by decide), (by intro _ _ _ q; cases q), fun q => absurd (show true = false from q) (by decide)⟩
  | nil =>
    intro S G W hG s h
    rcases inv_nil h with rfl | rfl | rfl
    · exact sa_nil
    · exact so_none (W := W)
    · intro hw elt g hg
      subst hw
      exact turn_nil hg
  | cons a b iha ihb =>
    intro S G W hG s h
    obtain ⟨ea, es, rfl, h0, h1, h2⟩ := inv_cons h
    exact sa_cons h0 (iha S G W hG _ h1).se (ihb S G W hG _ h2)
  | som a iha =>
    intro S G W hG s h
    obtain ⟨ea, h1, rfl | ⟨rfl, h2⟩⟩ := inv_som h
    · exact so_some (iha S G W hG _ h1).se
    · intro hw elt g hg
      subst hw
      exact turn_one ((iha S G _ hG _ h1).st h2) hg
  | tup a iha =>
    intro S G W hG s h
    obtain ⟨es, k, p, rfl, h1⟩ := inv_tup h
    exact plain hG (se_tup (iha S G W hG _ h1)) (fun _ _ => rfl) (by intro _ _ _ q; cases q) rfl
  | lst a iha =>
    intro S G W hG s h
    obtain ⟨es, p, rfl, h1⟩ := inv_lst h
    exact plain hG (se_lst (iha S G W hG _ h1)) (fun _ _ => rfl) (by intro _ _ _ q; cases q) rfl
  | dic0 =>
    intro S G W hG s h
    obtain ⟨p, rfl⟩ := inv_dic0 h
    exact plain hG (se_dic0) (fun _ _ => rfl) (by intro _ _ _ q; cases q) rfl
  | call f a iha =>
    intro S G W hG s h
    obtain ⟨p2, es, p, rfl, h0, h1, h2, h3⟩ := inv_call h
    unfold topB at h2
    split at h2
    · rename_i F hF
      exact plain hG (se_call hG T h0 (glB_ok h1).1 (glB_ok h1).2 hF h2 (iha S G W hG _ h3)) (fun _ _ => rfl) (by intro _ _ _ q; cases q) rfl
    · cases h2
  | «bif» f a iha =>
    intro S G W hG s h
    obtain ⟨p2, ea, es, p, rfl, h0, h1, h2⟩ := inv_bif h
    exact plain hG (se_bif hG T h0 (glB_ok h1).1 (iha S G W hG _ h2)) (fun _ _ => rfl) (by intro _ _ _ q; cases q) rfl
  | isi a t iha =>
    intro S G W hG s h
    obtain ⟨p2, ea, p3, p, rfl, h0, h1, h2, h3, h4, h5⟩ := inv_isi h
    exact plain hG (se_isi hG T h2 (glB_ok h3).1 (glB_ok h4).1 h1 (T.ty _ h0) (iha S G W hG _ h5).se) (fun _ _ => rfl) (by intro _ _ _ q; cases q) rfl
  | meth m o a iho iha =>
    intro S G W hG s h
    obtain ⟨eo, ap, es, p, rfl, h0, h1, h2, h3, h4, h5⟩ := inv_meth h
    exact plain hG (se_meth hG T h0 h1 h2 h3 (iho S G W hG _ h4).se (iha S G W hG _ h5)) (fun _ _ => rfl) (by intro _ _ _ q; cases q) rfl
  | bm t o a iho iha =>
    intro S G W hG s h
    obtain ⟨eo, ap, es, p, rfl, h0, h1, h2, h3, h3b, h4, h5⟩ := inv_bm h
    cases es with
    | nil =>
      have A : a = .nil := by
        cases a
        case nil => rfl
        case nev => exact absurd h3b Bool.false_ne_true
        all_goals exact absurd h5 Bool.false_ne_true
      subst A
      exact plain hG (se_bm0 hG h0 h2 (iho S G W hG _ h4).se) (fun _ _ => rfl) (by intro _ _ _ q; cases q) rfl
    | cons ea es => exact plain hG (se_bm hG h0 h1 h2 h3 (iho S G W hG _ h4).se (iha S G W hG _ h5)) (fun _ _ => rfl) (by intro _ _ _ q; cases q) rfl
  | mk c a iha =>
    intro S G W hG s h
    obtain ⟨p2, es, p, rfl, h0, h1, h2, h3, h4⟩ := inv_mk h
    obtain ⟨f, hf⟩ := Option.isSome_iff_exists.mp h3
    refine plain hG ?_ (fun _ _ => rfl) (by intro _ _ _ q; cases q) rfl
    have := se_mk (p := p2) (pos := p) hG T h0 (glB_ok h1).1 (glB_ok h1).2 h2 hf (iha S G W hG _ h4)
    have e1 : run Pg cf (.mk c a) = (fun env st => (run Pg cf a env st).bs fun xs st1 => (exE (cf f (.ref st1.length :: xs) (st1 ++ [.ins c []])) env).b1 fun v st2 => match v with
      | .non => one (.ref st1.length) st2
      | _ => .stk) := by
      funext env st
      simp only [run, h2, hf, if_true]
      all_goals rfl
    rw [e1]
    exact this
  | cm c m a iha =>
    intro S G W hG s h
    obtain ⟨p2, ap, es, p, rfl, h0, h1, h2, h3, h4, h5⟩ := inv_cm h
    obtain ⟨f, hf⟩ := Option.isSome_iff_exists.mp h4
    refine plain hG ?_ (fun _ _ => rfl) (by intro _ _ _ q; cases q) rfl
    have := se_cm (p := p2) (pos := p) hG T h0 h1 h2 (glB_ok h3).1 (glB_ok h3).2 hf (iha S G W hG _ h5)
    have e1 : run Pg cf (.cm c m a) = (fun env st => (run Pg cf a env st).bs fun xs st1 => exE (cf f xs st1) env) := by
      funext env st
      simp only [run, hf]
      all_goals rfl
    rw [e1]
    exact this
  | lset a iha =>
    intro S G W hG s h
    obtain ⟨p1, p2, q, ea, p, rfl, h0, h1, h2, h3⟩ := inv_lset h
    exact plain hG (se_lset hG T h2 (glB_ok h0).1 (glB_ok h1).1 (iha S G W hG _ h3).se) (fun _ _ => rfl) (by intro _ _ _ q; cases q) rfl
  | rsl a iha =>
    intro S G W hG s h
    obtain ⟨ea, k, p1, p2, p3, p, rfl, h1⟩ := inv_rsl h
    exact plain hG (se_rsl (fun X hX => (hG X hX).1.k) (iha S G W hG _ h1).se) (fun _ _ => rfl) (by intro _ _ _ q; cases q) rfl
  | fld o f iho =>
    intro S G W hG s h
    obtain ⟨eo, p, rfl, h0, h1⟩ := inv_fld h
    exact plain hG (se_fld hG T h0 (iho S G W hG _ h1).se) (fun _ _ => rfl) (by intro _ _ _ q; cases q) rfl
  | idx a i iha ihi =>
    intro S G W hG s h
    obtain ⟨ea, ei, p, rfl, h0, h1, h2⟩ := inv_idx h
    exact plain hG (se_idx hG h0 (iha S G W hG _ h1).se (ihi S G W hG _ h2).se) (fun _ _ => rfl) (by intro _ _ _ q; cases q) rfl
  | slc a lo hi iha ihl ihh =>
    intro S G W hG s h
    obtain ⟨ea, l, hh, p2, p, rfl, h0, h1, h2⟩ := inv_slc h
    exact plain hG (se_slc hG (iha S G W hG _ h0).se (ihl S G W hG _ h1) (ihh S G W hG _ h2)) (fun _ _ => rfl) (by intro _ _ _ q; cases q) rfl
  | lc own tg k a ifs e iha ihf ihe =>
    intro S G W hG s h
    obtain ⟨elt, tgE, iter, ifsE, scope, p, rfl, h0, h1, h2, h3, h4, h5, h6, h7, h8⟩ := inv_lc h
    have hB : HG P w K mg base lv (blkS S scope ((pairs S.N own).map (·.1))) (GC P w K mg base (lv + 1) (blkS S scope ((pairs S.N own).map (·.1)))) W0 := fun X hX => hX
    have hT := ihf _ _ _ hB _ h7 rfl elt _ (ihe _ _ _ hB _ h8).se
    have hI : SIk cls G W k tgE iter (run Pg cf a) := sik T hG iha h6
    have key := se_lc (pos := p) hG h0 h1 (funB_ok h2) (ownB_ok h3) h4 (by rw [pairs_snd]; exact h5) hI hT
    rw [pairs_snd] at key
    refine ⟨key, fun _ => st_truth (hGB hG) key (fun _ _ => rfl), (by intro _ _ _ q; cases q), fun _ i y py spos hN ho => ?_⟩
    have key2 := ss_asgLc (pos := p) (py := py) (spos := spos) hG h0 h1 (funB_ok h2) (ownB_ok h3) h4 (by rw [pairs_snd]; exact h5) hI hT hN ho
    rw [pairs_snd] at key2
    exact key2
  | don =>
    intro S G W hG s h
    rcases inv_don h with rfl | ⟨p, rfl⟩
    · exact fun _ => sss_nil
    · exact fun _ => ss_pass
  | seq a b iha ihb =>
    intro S G W hG s h
    obtain ⟨x, xs, rfl, h1, h2⟩ := inv_seq h
    exact fun hD => sss_cons (iha S G W hG _ h1 hD) (ihb S G W hG _ h2 hD)
  | asgN i e ihe =>
    intro S G W hG s h
    obtain ⟨x, p2, ea, p, rfl, h1, h2, h3⟩ := inv_asgN h
    intro _
    have A := ihe S G W hG _ h3
    cases hp : plainVal ea with
    | true => exact ss_asgN hG hp h1 h2 A.se
    | false => exact A.lc hp i x p2 p h1 h2
  | asgT i e ihe =>
    intro S G W hG s h
    obtain ⟨ts, k, p2, ea, p, rfl, h1, h2, h3, h4⟩ := inv_asgT h
    exact fun _ => ss_asgT hG h1 h2 h3 (ihe S G W hG _ h4).se
  | asgF o f e iho ihe =>
    intro S G W hG s h
    obtain ⟨eo, p2, ea, p, rfl, h1, h2, h3, h4⟩ := inv_asgF h
    exact fun _ => ss_asgF hG T h1 h2 (iho S G W hG _ h3).se (ihe S G W hG _ h4).se
  | asgI o i e iho ihi ihe =>
    intro S G W hG s h
    obtain ⟨eo, ei, p2, ea, p, rfl, h2, h3, h4, h5⟩ := inv_asgI h
    exact fun _ => ss_asgI hG h2 (iho S G W hG _ h3).se (ihi S G W hG _ h4).se (ihe S G W hG _ h5).se
  | aug i op e ihe =>
    intro S G W hG s h
    obtain ⟨x, p2, ea, p, rfl, h1, h2, h3⟩ := inv_aug h
    exact fun _ => ss_aug hG h1 h2 (ihe S G W hG _ h3).se
  | augF o f e iho ihe =>
    intro S G W hG s h
    obtain ⟨eo, p2, ea, p, rfl, h1, h2⟩ := inv_augF h
    exact fun _ => ss_augF hG T (iho S G W hG _ h1).se (ihe S G W hG _ h2).se
  | drop e ihe =>
    intro S G W hG s h
    obtain ⟨ea, p, rfl, h1, h2⟩ := inv_drop h
    exact fun _ => ss_drop hG h1 (ihe S G W hG _ h2).se
  | ret e ihe =>
    intro S G W hG s h
    obtain ⟨ea, p, rfl, h1⟩ := inv_ret h
    exact fun _ => ss_ret hG (ihe S G W hG _ h1).se
  | retN =>
    intro S G W hG s h
    obtain ⟨p, rfl⟩ := inv_retN h
    exact fun _ => ss_retN
  | ifs c a b ihc iha ihb =>
    intro S G W hG s h
    obtain ⟨ec, q, r, p, rfl, h0, h1, h2, h3⟩ := inv_ifs h
    exact fun hD => ss_ifs hG ((ihc S G W hG _ h1).st h0) (iha S G W hG _ h2 hD) (ihb S G W hG _ h3 hD)
  | «for» tg k a b iha ihb =>
    intro S G W hG s h
    obtain ⟨tgE, iter, body, p, rfl, h0, h1, h2, h3⟩ := inv_for h
    exact fun hD => ss_for hG hD h0 h1 (sik T hG iha h2) (ihb S G W hG _ h3 hD)
  | whl c b ihc ihb =>
    intro S G W hG s h
    obtain ⟨ec, q, p, rfl, h0, h1, h2⟩ := inv_whl h
    exact fun hD => ss_whl hG hD ((ihc S G W hG _ h1).st h0) (ihb S G W hG _ h2 hD)
  | rai c a iha =>
    intro S G W hG s h
    exact never S G W s
end
end Mi
set_option maxHeartbeats 400000
/-! Mi: the defs' promises, by depth. -/
namespace Mi
open PySem PySem.Spec PyProof.Rows L2
/-- what a def's body may store -/
def ownOf (N : List Str) (sc : Scope) : List Str := N.filter fun x => match sc.names.lookup x with
  | some .local => true
  | some .cell => true
  | _ => false
theorem ownOf_ok {N : List Str} {sc : Scope} {x : Str} (h : x ∈ ownOf N sc) : sc.names.lookup x = some .local ∨ sc.names.lookup x = some .cell := by
  have := (List.mem_filter.mp h).2
  split at this
  · exact .inl (by assumption)
  · exact .inr (by assumption)
  · cases this
section
variable (P : Program) (w : World) (K : PySem.W.Frag) (mg : Str → Option Value) (base : Heap) (cls : Str → Addr) (Pg : Prog) (ad : Str → Addr)
/-- one def, whatever its callees do -/
structure DefOk (F : Fn) (a : Addr) : Prop where
  ex : ∃ (x qual : Str) (params : Arguments) (body : List Stmt) (scope : Scope) (dvs : List V) (kws : List (Str × V)) (fd : FuncData), FunD K x qual params body scope dvs kws a fd ∧ FnScope F.N F.ps scope ∧
    chk Pg F.body ⟨F.N, scope, ownOf F.N scope⟩ (.ss body) = true ∧
    ∀ n, n ≤ F.ps.length → F.ps.length ≤ n + F.dfl.length → ∃ ds, Vals (F.dfl.drop (n + F.dfl.length - F.ps.length)) ds ∧ Binds K fd F.ps ds
  dfl : F.dfl.all (fun v => !isRef v) = true
  kp : PySem.W.keepIn K (.ref a) = true
structure StTab : Prop where
  glo : ∀ x v, Pg.glo x = some v → isRef v = false ∧ ∃ u, mg x = some u ∧ RelV v u
  fn : ∀ f F, Pg.fn f = some F → DefOk K Pg F (ad f) ∧ (F.top = true → mg f = some (.ref (ad f)))
  meth : ∀ c m f, Pg.meth c m = some f → ∃ F, Pg.fn f = some F ∧ Cls K (cls c) ∧ Meth K (cls c) m (ad f)
  made : ∀ c f, Pg.meth c "__init__" = some f → Pg.made c = true → mg c = some (.ref (cls c)) ∧ Mk K (cls c) (ad f)
  fld : ∀ c f, Pg.fld c f = true → Cls K (cls c) ∧ NoAttr K (cls c) f
  cm : ∀ c m f, Pg.cm c m = some f → ∃ F, Pg.fn f = some F ∧ mg c = some (.ref (cls c)) ∧ CmF K (cls c) m (ad f)
  set_ : mg "set" = none
  bi : ∀ b, mg (biN b) = none
  isi : mg "isinstance" = none
  rng : mg "range" = none
  enu : mg "enumerate" = none
  ty : ∀ t, Pg.ty t = true → mg t = none
end
section
variable {P : Program} {w : World} {K : PySem.W.Frag} {mg : Str → Option Value} {base : Heap} {cls : Str → Addr} {Pg : Prog} {ad : Str → Addr}
theorem takes_body {N : List Str} {qual : Str} {scope : Scope} {f : Addr} {cd : Value} {A : Around} {outer : List Env} {s : Shared} {H : Hp} {E : XK} : Takes (cxOf (L2.CX P w) P w K mg base N qual scope f cd A outer s H E) (fun c d _ H' => E c d H') :=
  takes_of rfl rfl rfl rfl
theorem passes_body {N : List Str} {qual : Str} {scope : Scope} {f : Addr} {cd : Value} {A : Around} {outer : List Env} {s : Shared} {H : Hp} {E : XK} : PassesOwn (model (cxOf (L2.CX P w) P w K mg base N qual scope f cd A outer s H E).prog (cxOf (L2.CX P w) P w K mg base N qual scope f cd A outer s H E).w)
    (cxOf (L2.CX P w) P w K mg base N qual scope f cd A outer s H E).A (cxOf (L2.CX P w) P w K mg base N qual scope f cd A outer s H E).env (cxOf (L2.CX P w) P w K mg base N qual scope f cd A outer s H E).xe :=
  passes_of rfl
theorem gx_body {N ps : List Str} {qual : Str} {scope : Scope} {f : Addr} {cd : Value} {A : Around} {outer : List Env} {s : Shared} {H : Hp} {E : XK} {k : Nat} (S : FnScope N ps scope) (hr : Room k (A.deeper (envOfC qual scope s.heap.objs.size f cd))) :
    GX P w K mg base k ⟨N, scope, ownOf N scope⟩ (cxOf (L2.CX P w) P w K mg base N qual scope f cd A outer s H E) where
  prog := rfl
  w := rfl
  k := rfl
  mg := rfl
  base := rfl
  n := rfl
  nd := S.nd
  scope := rfl
  kind := S.kind
  calm := rfl
  room := hr
  own := fun x hx => ⟨ownOf_ok hx, .inl rfl⟩
/-- the promise of a def whose callees keep theirs -/
theorem fnOk_succ {d lv : Nat} (T : Tab P w K mg base cls Pg (callN Pg d) lv) {f : Str} {F : Fn} (hf : Pg.fn f = some F) {x qual : Str} {params : Arguments} {body : List Stmt} {scope : Scope} {dvs : List V} {kws : List (Str × V)} {fd : FuncData} {a : Addr} (FD : FunD K x qual params body scope dvs kws a fd)
    (FS : FnScope F.N F.ps scope) (hc : chk Pg F.body ⟨F.N, scope, ownOf F.N scope⟩ (.ss body) = true) : FnOk P w K mg base (L2.CX P w) (lv + 2) a fd F.ps (spI cls (callN Pg (d + 1)) f F.ps.length) := by
  refine FD.ok (k := lv + 1) FS ?_ ?_
  · intro vs H Q E ⟨as, st, xs, hl, _, r, _⟩
    rw [← hl]
    exact (Mi.P.length r).symm
  · intro cdv A outer s H vs Q E hr ⟨as, st, xs, hl, R0, r, hP⟩
    have hG : HG P w K mg base lv ⟨F.N, scope, ownOf F.N scope⟩ (fun X => X = cxOf (L2.CX P w) P w K mg base F.N qual scope a cdv A outer s H E) (fun c d _ H' => E c d H') := by
      intro X hX
      subst hX
      exact ⟨gx_body FS hr, takes_body⟩
    have hD : HD (fun X => X = cxOf (L2.CX P w) P w K mg base F.N qual scope a cdv A outer s H E) := by
      intro X hX
      subst hX
      exact passes_body
    have key := good T F.body _ _ _ hG _ hc hD
    obtain ⟨t, ht, q⟩ := key (start F.N xs) st as (start F.N vs) H { nx := fun _ H' => Q .non H', rt := Q } R0 (SR.start r) (by
      have e : callN Pg (d + 1) f xs st = (match run Pg (callN Pg d) F.body (start F.N xs) st with
        | .ret v st' => .val [v] st'
        | .nxt _ st' => .val [.non] st'
        | .exc c fs _ st' => .exc c fs [] st'
        | _ => .stk) := by
        show (match Pg.fn f with
          | none => Mi.R.stk
          | some F => _) = _
        rw [hf]
        dsimp only
        rw [if_pos ⟨by omega, by omega⟩, hl, show F.ps.length + F.dfl.length - F.ps.length = F.dfl.length from by omega, List.drop_length, List.append_nil]
        all_goals rfl
      rw [e] at hP
      revert hP
      cases run Pg (callN Pg d) F.body (start F.N xs) st with
      | ret v st' => exact fun hP => hP
      | nxt env st' => exact fun hP as' σ H' p R' S' => hP as' .non H' p R' rfl
      | exc c fs env st' => exact fun hP as' σ H' cv dd p R' S' x => hP as' H' cv dd p R' x
      | val vs st' => exact fun hP => hP.elim
      | stk => exact fun hP => hP.elim)
    exact ⟨t, ht _ rfl, q⟩
theorem fnT_succ (St : StTab K mg cls Pg ad) {d lv : Nat} (T : Tab P w K mg base cls Pg (callN Pg d) lv) {f : Str} {F : Fn} (hf : Pg.fn f = some F) : FnT P w K mg base cls (callN Pg (d + 1)) (lv + 2) f F (ad f) := by
  obtain ⟨⟨⟨x, qual, params, body, scope, dvs, kws, fd, FD, FS, hc, hb⟩, hd, hk⟩, _⟩ := St.fn f F hf
  exact ⟨⟨fd, fnOk_succ T hf FD FS hc, hb⟩, hd, hk⟩
theorem fnT_zero (St : StTab K mg cls Pg ad) {f : Str} {F : Fn} (hf : Pg.fn f = some F) : FnT P w K mg base cls (callN Pg 0) 0 f F (ad f) := by
  obtain ⟨⟨⟨x, qual, params, body, scope, dvs, kws, fd, FD, FS, hc, hb⟩, hd, hk⟩, _⟩ := St.fn f F hf
  refine ⟨⟨fd, ⟨?_, ?_⟩, hb⟩, hd, hk⟩
  · intro vs H Q E ⟨as, st, xs, hl, _, r, _⟩
    rw [← hl]
    exact (Mi.P.length r).symm
  · intro A outer s H args us vs Q E _ _ _ _ ⟨as, st, xs, hl, _, r, hP⟩
    exact hP.elim
theorem tab_of (St : StTab K mg cls Pg ad) {d lv : Nat} (h : ∀ f F, Pg.fn f = some F → FnT P w K mg base cls (callN Pg d) lv f F (ad f)) : Tab P w K mg base cls Pg (callN Pg d) lv where
  glo := St.glo
  fn := fun f F hf ht => ⟨ad f, (St.fn f F hf).2 ht, h f F hf⟩
  meth := fun c m f hm => by
    obtain ⟨F, hf, h1, h2⟩ := St.meth c m f hm
    exact ⟨F, ad f, hf, h1, h2, h f F hf⟩
  made := fun c f hm hmd => by
    obtain ⟨F, hf, h1, h2⟩ := St.meth c _ f hm
    obtain ⟨g1, g2⟩ := St.made c f hm hmd
    exact ⟨F, ad f, hf, g1, g2, h f F hf⟩
  fld := St.fld
  cm := fun c m f hm => by
    obtain ⟨F, hf, h1, h2⟩ := St.cm c m f hm
    exact ⟨F, ad f, hf, h1, h2, h f F hf⟩
  set_ := St.set_
  bi := St.bi
  isi := St.isi
  rng := St.rng
  enu := St.enu
  ty := St.ty
  full := fun f F xs st hf => by
    cases d with
    | zero => exact ⟨fun _ => rfl, fun _ => rfl⟩
    | succ d =>
      have e : ∀ xs, callN Pg (d + 1) f xs st = (if xs.length ≤ F.ps.length ∧ F.ps.length ≤ xs.length + F.dfl.length then
        (match run Pg (callN Pg d) F.body (start F.N (xs ++ F.dfl.drop (xs.length + F.dfl.length - F.ps.length))) st with
        | .ret v st' => .val [v] st'
        | .nxt _ st' => .val [.non] st'
        | .exc c fs _ st' => .exc c fs [] st'
        | _ => .stk) else .stk) := by
        intro xs
        show (match Pg.fn f with
          | none => Mi.R.stk
          | some F => _) = _
        rw [hf]
        all_goals rfl
      constructor
      · intro ⟨h1, h2⟩
        have hl : (xs ++ F.dfl.drop (xs.length + F.dfl.length - F.ps.length)).length = F.ps.length := by
          rw [List.length_append, List.length_drop]
          omega
        rw [e, e, if_pos ⟨h1, h2⟩, hl, if_pos ⟨by omega, by omega⟩, show F.ps.length + F.dfl.length - F.ps.length = F.dfl.length from by omega, List.drop_length, List.append_nil]
      · intro hn
        rw [e, if_neg hn]
  none_ := fun f xs st hf => by
    cases d with
    | zero => rfl
    | succ d =>
      show (match Pg.fn f with
        | none => Mi.R.stk
        | some F => _) = _
      rw [hf]
theorem tabs (St : StTab K mg cls Pg ad) : ∀ d, Tab P w K mg base cls Pg (callN Pg d) (2 * d)
  | 0 => tab_of St fun f F hf => fnT_zero St hf
  | d + 1 => tab_of St fun f F hf => fnT_succ St (tabs St d) hf
end
end Mi
set_option maxHeartbeats 400000
/-! Mi: a program's table as data; what the head must tell of it; the law's end. -/
namespace Mi
open PySem PySem.Spec PyProof.Rows L2
structure Dx where
  key : Str
  at_ : Str × Option Str
  name : Str
  qual : Str
  params : Arguments
  body : List Stmt
  scope : Scope
  F : Fn
structure PgD where
  defs : List Dx
  meths : List (Str × Str × Str) := []
  mades : List Str := []
  flds : List (Str × Str) := []
  tys : List Str := []
  cms : List (Str × Str × Str) := []
  gInts : List (Str × Int) := []
  gStrs : List (Str × Str) := []
def PgD.find (D : PgD) (f : Str) : Option Dx := D.defs.find? fun x => decide (x.key = f)
def PgD.gloOf (D : PgD) (x : Str) : Option V := match D.gInts.find? fun p => decide (p.1 = x) with
  | some p => some (.int p.2)
  | none => match D.gStrs.find? fun p => decide (p.1 = x) with
    | some p => some (.str p.2)
    | none => none
def PgD.pg (D : PgD) : Prog where
  fn := fun f => (D.find f).map (·.F)
  cm := fun c m => (D.cms.find? fun p => decide (p.1 = c ∧ p.2.1 = m)).map (·.2.2)
  meth := fun c m => (D.meths.find? fun p => decide (p.1 = c ∧ p.2.1 = m)).map (·.2.2)
  glo := D.gloOf
  made := fun c => decide (c ∈ D.mades)
  fld := fun c f => decide ((c, f) ∈ D.flds)
  ty := fun t => decide (t ∈ D.tys)
def dvOf : V → He.Dv
  | .bl b => .bl b
  | .int i => .int i
  | .str x => .str x
  | .byt b => .byt b
  | .flt b => .flt b
  | .ty n => .ty n
  | _ => .non
theorem dvOf_v {K : PySem.W.Frag} : ∀ {v : V}, isRef v = false → (dvOf v).v K = v
  | .non, _ => rfl
  | .bl _, _ => rfl
  | .int _, _ => rfl
  | .str _, _ => rfl
  | .byt _, _ => rfl
  | .flt _, _ => rfl
  | .ty _, _ => rfl
def Dx.d (x : Dx) : He.DefD := ⟨x.at_, x.name, x.qual, x.params, x.body, x.scope, x.F.dfl.map dvOf, []⟩
def allBi : List Bi := [.len, .list, .any, .all, .str, .int, .abs, .sum, .tuple, .reversed]
/-- what is asked of the head -/
def PgD.fas (D : PgD) : List He.Fa :=
  (allBi.map fun b => .free (biN b)) ++ ([.free "isinstance", .free "range", .free "enumerate"] ++ (D.tys.map .free ++ (((D.defs.filter (·.F.top)).map fun x => .glo x.key) ++
  ((D.meths.flatMap fun p => [.cls p.1, .meth p.1 p.2.1]) ++ ((D.mades.flatMap fun c => [.glo c, .mkr c]) ++ ((D.flds.flatMap fun p => [.cls p.1, .noat p.1 p.2]) ++ ((D.gInts.map fun p => .int p.1 p.2) ++ ((D.gStrs.map fun p => .str p.1 p.2) ++ (.free "set" :: (D.cms.flatMap fun p => [.glo p.1, .meth p.1 p.2.1]))))))))))
/-- facts of our own: a method that a class inherits; a function read off a class -/
inductive Xf where
  | inh (c m c' : Str)
  | cmf (c m : Str)
def Xf.ok (K : PySem.W.Frag) : Xf → Bool
  | .inh c m c' => decide (He.ma K (He.ga K c) m = He.ma K (He.ga K c') m)
  | .cmf c m => PySem.W.readsIn K (He.ga K c) (.type "type") && (He.eqO (PySem.W.specialIn K (.ref (He.ga K c)) "__getattribute__") (some (some (.builtin "type.__getattribute__"))) &&
    (match PySem.W.findCls K (.ref (He.ga K c)) (.type "type") m with
    | some (.val (.ref a)) => decide (a = He.ma K (He.ga K c) m)
    | _ => false))
def PgD.inhs (D : PgD) (p : Str × Str × Str) : List Xf := match D.find p.2.2 with
  | some x => if x.at_.1 = p.1 then [] else [.inh p.1 p.2.1 x.at_.1]
  | none => []
def PgD.xfs (D : PgD) : List Xf := D.meths.flatMap D.inhs ++ (D.cms.flatMap D.inhs ++ D.cms.map fun p => .cmf p.1 p.2.1)
def PgD.fns (D : PgD) : List He.DefD := D.defs.map Dx.d
/-- the text against the table -/
def Dx.okB (D : PgD) (x : Dx) : Bool := C8.scC x.F.N x.F.ps x.scope && (chk D.pg x.F.body ⟨x.F.N, x.scope, ownOf x.F.N x.scope⟩ (.ss x.body) && (x.F.dfl.all (fun v => !isRef v) && (!x.F.top || decide (x.at_ = (x.key, none)))))
def PgD.okM (D : PgD) (p : Str × Str × Str) : Bool := match D.find p.2.2 with
  | some x => decide (x.at_.2 = some p.2.1)
  | none => false
def PgD.okB (D : PgD) : Bool := D.defs.all (Dx.okB D) && (D.meths.all D.okM && D.cms.all D.okM)
/-- a def binds what it is given -/
def BindsOk (x : Dx) : Prop := ∀ (K : PySem.W.Frag) (a : Addr) (fd : FuncData), FunD K x.name x.qual x.params x.body x.scope x.F.dfl [] a fd →
  ∀ n, n ≤ x.F.ps.length → x.F.ps.length ≤ n + x.F.dfl.length → ∃ ds, Vals (x.F.dfl.drop (n + x.F.dfl.length - x.F.ps.length)) ds ∧ Binds K fd x.F.ps ds
theorem bindsOk0 {x : Dx} (hd : x.F.dfl = []) (h : ∀ (kV doc pm : Value) (an : Option Addr) (cdv ct : Value) (us : List Value), us.length = x.F.ps.length → bindArgs (PySem.W.fnOf x.name x.qual x.params x.body x.scope .none kV doc pm an cdv ct) ⟨us, []⟩ = pure (x.F.ps.zip us)) : BindsOk x := by
  intro K a fd F n h1 h2
  rw [hd] at F h2 ⊢
  refine ⟨[], ?_, F.bindsN h⟩
  rw [List.drop_nil]
  exact .nil
/-! ### the head's Hook -/
/-- no list stands in the written part -/
def noList (K : PySem.W.Frag) : Bool := K.all fun p => match p.2.cls with
  | .type c => !decide (c = "list")
  | _ => true
theorem noList_ok : ∀ {K : PySem.W.Frag} {a : Addr} {o : Obj}, noList K = true → K.lookup a = some o → o.cls = .type "list" → False
  | [], _, _, _, e, _ => nomatch e
  | (b, ob) :: r, a, o, h, e, hc => by
    obtain ⟨h1, h2⟩ := and2 (show ((match ob.cls with
      | .type c => !decide (c = "list")
      | _ => true) && noList r) = true from h)
    have e2 : (match a == b with | true => some ob | false => List.lookup a r) = some o := e
    cases q : (a == b) with
    | true =>
      rw [q] at e2
      have eo : ob = o := Option.some.inj e2
      rw [eo, hc] at h1
      exact absurd h1 (by decide)
    | false =>
      rw [q] at e2
      exact noList_ok h2 e2 hc
abbrev AlM : Type := Bool × He.AlD
def obsM (xs : List Xf) (fa : List He.Fa) (fn : List He.DefD) (K : PySem.W.Frag) : AlM := (noList K && xs.all fun x => x.ok K, He.obsD fa fn K)
def valM (fn : List He.DefD) : AlM := (true, He.valD fn)
def SaysM (xs : List Xf) (fa : List He.Fa) (fn : List He.DefD) (K : PySem.W.Frag) : Prop := obsM xs fa fn K = valM fn
/-- what a def, a class names of what we look at -/
def heldO (g : Addr → Option Obj) (a : Addr) : List Addr := match g a with
  | some o => (match o.data with
    | .func fd => He.refV fd.code ++ He.refV fd.defaults
    | .cls cd => [cd.ns]
    | _ => [])
  | none => []
def valsO (g : Addr → Option Obj) (a : Addr) : List Addr := match g a with
  | some o => (match o.data with
    | .dict es _ => es.toList.flatMap fun e => He.refV e.val
    | _ => [])
  | none => []
/-- the globals, what they stand for, the classes' names, the methods -/
def asM2 (g : Addr → Option Obj) (L1 L2 : List Addr) : List Addr := L1 ++ (L2 ++ (L2.flatMap (valsO g) ++ (L2.flatMap (valsO g)).flatMap (heldO g)))
def asM1 (g : Addr → Option Obj) (L1 : List Addr) : List Addr := asM2 g L1 (L1.flatMap (heldO g))
def asM (g : Addr → Option Obj) : List Addr := mainGlobals :: cStatics :: asM1 g (valsO g mainGlobals)
def obsMG (n : Nat) (xs : List Xf) (fa : List He.Fa) (fn : List He.DefD) (g : Addr → Option Obj) : AlM := obsM xs fa fn (He.frG g (asM g))
def hookM (n : Nat) (xs : List Xf) (fa : List He.Fa) (fn : List He.DefD) : PySem.W.Hook where
  α := AlM
  obs := fun s => obsMG n xs fa fn s.heap.get?
  val := fun _ => valM fn
  says := fun _ h => ∃ K : PySem.W.Frag, K.In h ∧ SaysM xs fa fn K
  of := fun _ _ e => ⟨_, He.frG_in, e⟩
  keeps := fun _ _ _ ⟨K, hK, c⟩ k => ⟨K, PySem.W.Frag.In.keeps hK k, c⟩
theorem obsMG_eq {n : Nat} {xs : List Xf} {fa : List He.Fa} {fn : List He.DefD} {g : Addr → Option Obj} {s : Shared} (h : ∀ a, g a = s.heap.get? a) : obsMG n xs fa fn g = (hookM n xs fa fn).obs s := by
  have e : g = s.heap.get? := funext h
  rw [e]
  rfl
section
variable {D : PgD} {K : PySem.W.Frag} {h : Heap} {mg : Str → Option Value}
theorem SaysM.d {xs : List Xf} {fa : List He.Fa} {fn : List He.DefD} (c : SaysM xs fa fn K) : He.SaysD fa fn K := congrArg (fun z : AlM => z.2) c
theorem SaysM.nl {xs : List Xf} {fa : List He.Fa} {fn : List He.DefD} (c : SaysM xs fa fn K) : noList K = true := (and2 (show (noList K && xs.all fun x => x.ok K) = true from congrArg (fun z : AlM => z.1) c)).1
theorem SaysM.x {xs : List Xf} {fa : List He.Fa} {fn : List He.DefD} (c : SaysM xs fa fn K) {x : Xf} (hx : x ∈ xs) : x.ok K = true := List.all_eq_true.mp (and2 (show (noList K && xs.all fun x => x.ok K) = true from congrArg (fun z : AlM => z.1) c)).2 x hx
theorem fact_of {fa : List He.Fa} {fn : List He.DefD} (c : He.SaysD fa fn K) {f : He.Fa} (hf : f ∈ fa) : f.ok K = true := by
  have c1 := (and2 (show ((fa.all fun f => f.ok K) && fn.all fun d => d.ok K) = true from congrArg (fun z : He.AlD => z.1) c)).1
  exact List.all_eq_true.mp c1 f hf
theorem def_of {fa : List He.Fa} {fn : List He.DefD} (c : He.SaysD fa fn K) {d : He.DefD} (hd : d ∈ fn) : (∃ fd, FunD K d.name d.qual d.params d.body d.scope (d.dvs K) (d.kws K) (He.fAd K d.at_) fd) ∧ PySem.W.keepIn K (.ref (He.fAd K d.at_)) = true := by
  obtain ⟨i, hi⟩ := List.mem_iff_getElem?.mp hd
  refine ⟨c.def_ i hi, ?_⟩
  have c1 := (and2 (show ((fa.all fun f => f.ok K) && fn.all fun d => d.ok K) = true from congrArg (fun z : He.AlD => z.1) c)).2
  exact (and2 (show (PySem.W.keepIn K (.ref (He.fAd K d.at_)) && _) = true from List.all_eq_true.mp c1 d hd)).1
theorem mem_app {α : Type} {x : α} {l r : List α} (h : x ∈ l ∨ x ∈ r) : x ∈ l ++ r := List.mem_append.mpr h
theorem al {α : Type} {x : α} {l r : List α} (h : x ∈ l) : x ∈ l ++ r := mem_app (.inl h)
theorem ar {α : Type} {x : α} {l r : List α} (h : x ∈ r) : x ∈ l ++ r := mem_app (.inr h)
def adOf (D : PgD) (K : PySem.W.Frag) (f : Str) : Addr := match D.find f with
  | some x => He.fAd K x.at_
  | none => 0
theorem find_mem {f : Str} {x : Dx} (h : D.find f = some x) : x ∈ D.defs ∧ x.key = f := ⟨List.mem_of_find?_eq_some h, of_decide_eq_true (List.find?_some (p := fun x : Dx => decide (x.key = f)) h)⟩
theorem dvs_of {x : Dx} (h : x.F.dfl.all (fun v => !isRef v) = true) : x.d.dvs K = x.F.dfl := by
  have : ∀ l : List V, l.all (fun v => !isRef v) = true → (l.map dvOf).map (He.Dv.v K) = l := by
    intro l
    induction l with
    | nil => intro _; rfl
    | cons v l ih =>
      intro h
      obtain ⟨h1, h2⟩ := and2 (show (!isRef v && l.all _) = true from h)
      rw [List.map_cons, List.map_cons, dvOf_v (by simpa using h1), ih h2]
  exact this _ h
/-- the head's word gives the table -/
theorem stTab (S : D.okB = true) (B : ∀ x ∈ D.defs, BindsOk x) (X : K.In h) (G : h.Ns mainGlobals mg) (cM : SaysM D.xfs D.fas D.fns K) : StTab K mg (He.ga K) D.pg (adOf D K) := by
  have c := cM.d
  obtain ⟨S1, S0⟩ := and2 (show (D.defs.all (Dx.okB D) && (D.meths.all D.okM && D.cms.all D.okM)) = true from S)
  obtain ⟨S2, S3⟩ := and2 S0
  have inFa : ∀ {f : He.Fa}, f ∈ D.fas → f.ok K = true := fun hf => fact_of c hf
  have fre : ∀ b, mg (biN b) = none := fun b => He.free_ok X G (inFa (al (List.mem_map.mpr ⟨b, by cases b <;> decide, rfl⟩)))
  have okm : ∀ {p : Str × Str × Str}, D.okM p = true → (∀ x ∈ D.inhs p, x ∈ D.xfs) → ∃ x, D.find p.2.2 = some x ∧ adOf D K p.2.2 = He.ma K (He.ga K p.1) p.2.1 := fun {p} ho hin => by
    unfold PgD.okM at ho
    split at ho
    · rename_i x hx
      refine ⟨x, hx, ?_⟩
      have e2 := of_decide_eq_true ho
      have ea : adOf D K p.2.2 = He.fAd K x.at_ := by
        unfold adOf
        rw [hx]
      have eb : He.fAd K x.at_ = He.ma K (He.ga K x.at_.1) p.2.1 := by
        unfold He.fAd
        rw [e2]
      rw [ea, eb]
      by_cases hc : x.at_.1 = p.1
      · rw [hc]
      · have hm : Xf.inh p.1 p.2.1 x.at_.1 ∈ D.inhs p := by
          unfold PgD.inhs
          rw [hx]
          dsimp only
          rw [if_neg hc]
          exact List.mem_cons_self ..
        have := of_decide_eq_true (show decide (He.ma K (He.ga K p.1) p.2.1 = He.ma K (He.ga K x.at_.1) p.2.1) = true from cM.x (hin _ hm))
        exact this.symm
    · cases ho
  have loc : ∀ {c m f : Str}, D.pg.meth c m = some f → (c, m, f) ∈ D.meths ∧ ∃ x, D.find f = some x ∧ adOf D K f = He.ma K (He.ga K c) m := by
    intro c m f hm
    obtain ⟨p, hp, e⟩ := Option.map_eq_some_iff.mp hm
    have e1 := of_decide_eq_true (List.find?_some (p := fun p : Str × Str × Str => decide (p.1 = c ∧ p.2.1 = m)) hp)
    have hmem := List.mem_of_find?_eq_some hp
    obtain ⟨p1, p2, p3⟩ := p
    obtain ⟨rfl, rfl⟩ := e1
    have e : p3 = f := e
    subst e
    exact ⟨hmem, okm (List.all_eq_true.mp S2 _ hmem) fun x hx => al (List.mem_flatMap.mpr ⟨_, hmem, hx⟩)⟩
  have locC : ∀ {c m f : Str}, D.pg.cm c m = some f → (c, m, f) ∈ D.cms ∧ ∃ x, D.find f = some x ∧ adOf D K f = He.ma K (He.ga K c) m := by
    intro c m f hm
    obtain ⟨p, hp, e⟩ := Option.map_eq_some_iff.mp hm
    have e1 := of_decide_eq_true (List.find?_some (p := fun p : Str × Str × Str => decide (p.1 = c ∧ p.2.1 = m)) hp)
    have hmem := List.mem_of_find?_eq_some hp
    obtain ⟨p1, p2, p3⟩ := p
    obtain ⟨rfl, rfl⟩ := e1
    have e : p3 = f := e
    subst e
    exact ⟨hmem, okm (List.all_eq_true.mp S3 _ hmem) fun x hx => ar (al (List.mem_flatMap.mpr ⟨_, hmem, hx⟩))⟩
  have faM : ∀ {p : Str × Str × Str}, p ∈ D.meths → (He.Fa.cls p.1).ok K = true ∧ (He.Fa.meth p.1 p.2.1).ok K = true := fun {p} hp =>
    ⟨inFa (ar (ar (ar (ar (al (List.mem_flatMap.mpr ⟨p, hp, List.mem_cons_self ..⟩)))))),
     inFa (ar (ar (ar (ar (al (List.mem_flatMap.mpr ⟨p, hp, List.mem_cons_of_mem _ (List.mem_cons_self ..)⟩))))))⟩
  refine ⟨?_, ?_, ?_, ?_, ?_, ?_, ?_, fre, ?_, ?_, ?_, ?_⟩
  · intro x v hv
    have hv : D.gloOf x = some v := hv
    unfold PgD.gloOf at hv
    split at hv
    · rename_i p hp
      cases hv
      have e1 := of_decide_eq_true (List.find?_some (p := fun p : Str × Int => decide (p.1 = x)) hp)
      have hmem := List.mem_of_find?_eq_some hp
      obtain ⟨t, q⟩ := He.int_ok X G (inFa (f := .int p.1 p.2) (ar (ar (ar (ar (ar (ar (ar (al (List.mem_map.mpr ⟨p, hmem, rfl⟩))))))))))
      rw [e1] at q
      exact ⟨rfl, _, q, t, rfl⟩
    · split at hv
      · rename_i p hp
        cases hv
        have e1 := of_decide_eq_true (List.find?_some (p := fun p : Str × Str => decide (p.1 = x)) hp)
        have hmem := List.mem_of_find?_eq_some hp
        obtain ⟨t, q⟩ := He.str_ok X G (inFa (f := .str p.1 p.2) (ar (ar (ar (ar (ar (ar (ar (ar (al (List.mem_map.mpr ⟨p, hmem, rfl⟩)))))))))))
        rw [e1] at q
        exact ⟨rfl, _, q, t, rfl⟩
      · cases hv
  · intro f F hf
    obtain ⟨x, hx, rfl⟩ := Option.map_eq_some_iff.mp (show (D.find f).map (·.F) = some F from hf)
    obtain ⟨hm, hkey⟩ := find_mem hx
    obtain ⟨s1, s2⟩ := and2 (show (C8.scC x.F.N x.F.ps x.scope && _) = true from List.all_eq_true.mp S1 x hm)
    obtain ⟨s2, s3⟩ := and2 s2
    obtain ⟨s3, s4⟩ := and2 s3
    obtain ⟨⟨fd, FD⟩, kp⟩ := def_of c (List.mem_map.mpr ⟨x, hm, rfl⟩ : x.d ∈ D.fns)
    have ea : adOf D K f = He.fAd K x.at_ := by
      unfold adOf
      rw [hx]
    rw [ea]
    rw [dvs_of s3] at FD
    refine ⟨⟨⟨_, _, _, _, _, _, _, fd, FD, C8.fnScope_by s1, s2, B x hm K _ fd FD⟩, s3, kp⟩, fun ht => ?_⟩
    have at0 : x.at_ = (x.key, none) := by
      rw [ht] at s4
      exact of_decide_eq_true (by simpa using s4)
    have hg := He.glo_ok X G (inFa (f := .glo x.key) (ar (ar (ar (al (List.mem_map.mpr ⟨x, List.mem_filter.mpr ⟨hm, ht⟩, rfl⟩))))))
    rw [at0, ← hkey]
    exact hg
  · intro c m f hm
    obtain ⟨hmem, x, hx, hat⟩ := loc hm
    obtain ⟨f1, f2⟩ := faM hmem
    refine ⟨x.F, ?_, He.cls_ok f1, ?_⟩
    · show (D.find f).map (·.F) = some x.F
      rw [hx]
      rfl
    · rw [hat]
      exact He.meth_ok f2
  · intro c f hm hmd
    obtain ⟨hmem, x, hx, hat⟩ := loc hm
    have hmd := of_decide_eq_true (show decide (c ∈ D.mades) = true from hmd)
    have g1 : (He.Fa.glo c).ok K = true := inFa (ar (ar (ar (ar (ar (al (List.mem_flatMap.mpr ⟨c, hmd, List.mem_cons_self ..⟩)))))))
    have g2 : (He.Fa.mkr c).ok K = true := inFa (ar (ar (ar (ar (ar (al (List.mem_flatMap.mpr ⟨c, hmd, List.mem_cons_of_mem _ (List.mem_cons_self ..)⟩)))))))
    refine ⟨He.glo_ok X G g1, ?_⟩
    rw [hat]
    exact He.mkr_ok g2
  · intro c f hf
    have hf := of_decide_eq_true (show decide ((c, f) ∈ D.flds) = true from hf)
    have g1 : (He.Fa.cls c).ok K = true := inFa (ar (ar (ar (ar (ar (ar (al (List.mem_flatMap.mpr ⟨(c, f), hf, List.mem_cons_self ..⟩))))))))
    have g2 : (He.Fa.noat c f).ok K = true := inFa (ar (ar (ar (ar (ar (ar (al (List.mem_flatMap.mpr ⟨(c, f), hf, List.mem_cons_of_mem _ (List.mem_cons_self ..)⟩))))))))
    exact ⟨He.cls_ok g1, He.noat_ok g2⟩
  · intro c m f hm
    obtain ⟨hmem, x, hx, hat⟩ := locC hm
    have inC : ∀ {f : He.Fa}, f ∈ (D.cms.flatMap fun p => [He.Fa.glo p.1, He.Fa.meth p.1 p.2.1]) → f.ok K = true := fun hf => inFa (ar (ar (ar (ar (ar (ar (ar (ar (ar (List.mem_cons_of_mem _ hf))))))))))
    refine ⟨x.F, ?_, He.glo_ok X G (inC (List.mem_flatMap.mpr ⟨_, hmem, List.mem_cons_self ..⟩)), ?_⟩
    · show (D.find f).map (·.F) = some x.F
      rw [hx]
      rfl
    · rw [hat]
      obtain ⟨x1, x2⟩ := and2 (show (PySem.W.readsIn K (He.ga K c) (.type "type") && _) = true from cM.x (ar (ar (List.mem_map.mpr ⟨_, hmem, rfl⟩))))
      obtain ⟨x2, x3⟩ := and2 x2
      refine ⟨x1, He.eqO_ok x2, ?_⟩
      split at x3
      · rename_i a ea
        rw [ea, of_decide_eq_true x3]
      · cases x3
  · exact He.free_ok X G (inFa (ar (ar (ar (ar (ar (ar (ar (ar (ar (List.mem_cons_self ..)))))))))))
  · exact He.free_ok X G (inFa (ar (al (List.mem_cons_self ..))))
  · exact He.free_ok X G (inFa (ar (al (List.mem_cons_of_mem _ (List.mem_cons_self ..)))))
  · exact He.free_ok X G (inFa (ar (al (List.mem_cons_of_mem _ (List.mem_cons_of_mem _ (List.mem_cons_self ..))))))
  · intro t ht
    have ht := of_decide_eq_true (show decide (t ∈ D.tys) = true from ht)
    exact He.free_ok X G (inFa (ar (ar (al (List.mem_map.mpr ⟨t, ht, rfl⟩)))))
/-- what the law's def promises -/
theorem law_at {l : PySem.W.OpenLaw} {w : World} {n d : Nat} {p : Str} {x : Dx} {fa : Addr} (S : D.okB = true) (B : ∀ x ∈ D.defs, BindsOk x) (X : K.In h) (G : h.Ns mainGlobals mg) (c : SaysM D.xfs D.fas D.fns K) (hx : D.find "law" = some x) (ht : x.F.top = true) (hps : x.F.ps = [p]) (hd : x.F.dfl = [])
    (hb : ∀ (kV doc pm : Value) (an : Option Addr) (cdv ct : Value) (us : List Value), us.length = x.F.ps.length → bindArgs (PySem.W.fnOf x.name x.qual x.params x.body x.scope .none kV doc pm an cdv ct) ⟨us, []⟩ = pure (x.F.ps.zip us)) (hm : mg "law" = some (.ref fa))
    (hl : ∀ ns : List Int, ns.length ≤ n → (∀ z ∈ ns, Builtin.Int.intBits z ≤ 1048576) → ∃ st', callN D.pg (d + 1) "law" [.ref 0] [.fro (ns.map V.int)] = .val [.bl true] st') : LamX.LawAtS l w K (L2.CX l.prog w) (2 * (d + 1)) n p mg fa h := by
  have St := stTab S B X G c
  obtain ⟨hmem, hkey⟩ := find_mem hx
  obtain ⟨⟨fd, FD⟩, kp⟩ := def_of c.d (List.mem_map.mpr ⟨x, hmem, rfl⟩ : x.d ∈ D.fns)
  have hf : D.pg.fn "law" = some x.F := by
    show (D.find "law").map (·.F) = some x.F
    rw [hx]
    rfl
  have ea : adOf D K "law" = He.fAd K x.at_ := by
    unfold adOf
    rw [hx]
  have ef : fa = He.fAd K x.at_ := by
    have := (St.fn "law" x.F hf).2 ht
    rw [hm, ea] at this
    cases this
    rfl
  subst ef
  obtain ⟨S1, S2⟩ := and2 (show (D.defs.all (Dx.okB D) && (D.meths.all D.okM && D.cms.all D.okM)) = true from S)
  obtain ⟨s1, s2⟩ := and2 (show (C8.scC x.F.N x.F.ps x.scope && _) = true from List.all_eq_true.mp S1 x hmem)
  obtain ⟨s2, s3⟩ := and2 s2
  have FD0 : FunD K x.name x.qual x.params x.body x.scope [] [] (He.fAd K x.at_) fd := by
    have := dvs_of (K := K) (and2 s3).1
    rw [hd] at this
    rw [← this]
    exact FD
  refine ⟨fd, [], spI (He.ga K) (callN D.pg (d + 1)) "law" 1, (fun _ hp => nomatch hp), (fun _ hp => nomatch hp), (fun _ hp => nomatch hp), ?_, ?_, ?_⟩
  · intro s u
    have := FunD.bindsA FD0 (ps := x.F.ps) hb s [u] (by rw [hps]; rfl)
    rw [hps] at this
    exact this
  · intro H a ns hlen hbits _ hS
    obtain ⟨st', e⟩ := hl ns hlen hbits
    rcases hS with hS | ⟨o, its, m, lk, hc, _⟩
    · refine ⟨[a], [.fro (ns.map V.int)], [.ref 0], rfl, ⟨rfl, by simp, ?_⟩, .cons ⟨a, rfl, rfl⟩ .nil, ?_⟩
      · intro i o b ho hb
        cases i with
        | zero =>
          have e1 : IO.fro (ns.map V.int) = o := Option.some.inj ho
          have e2 : a = b := Option.some.inj hb
          subst e1 e2
          refine ⟨ns.map V.int, ?_, hS⟩
          clear hlen hbits e hS ho
          induction ns with
          | nil => exact .nil
          | cons z zs ih => exact .cons rfl ih
        | succ i => cases ho
      · rw [e]
        exact fun as' w' H' _ _ r => r
    · exact (noList_ok c.nl lk hc).elim
  · intro base Kb Gb _
    have T := tabs (P := l.prog) (w := w) (base := base) St d
    have key := fnOk_succ (P := l.prog) (w := w) (base := base) T hf FD0 (C8.fnScope_by s1) s2
    rw [hps] at key
    exact key
end
end Mi
set_option maxHeartbeats 400000
/-! law_k14_listed: the table (printed by gen.py). -/
namespace Mk14
open PySem PySem.Spec PyProof.Rows L2 Mi
def top (i : Nat) : Stmt := PySem.Challenge.pw_elderline_k14_listed.main.body.getD i (.Pass ⟨0, 0, 0, 0⟩)
def clsAt : Stmt → Nat → Stmt
  | .ClassDef _ _ _ body _ _ _ _ _ _ _, j => body.getD j (.Pass ⟨0, 0, 0, 0⟩)
  | _, _ => .Pass ⟨0, 0, 0, 0⟩

def b_law : T := (.seq (.asgN 1 (.bin .Mod (.call "_law_cell_at" (.cons (.var 0) (.cons (.cst (.int 0)) .nil))) (.cst (.int 12))))
  (.seq (.ifs (.cmp .Eq (.bin .Mod (.bin .FloorDiv (.call "_law_cell_at" (.cons (.var 0) (.cons (.cst (.int 0)) .nil))) (.cst (.int 12))) (.cst (.int 4))) (.cst (.int 1)))
  (.seq (.asgN 1 (.bin .Mod (.bin .FloorDiv (.call "_law_cell_at" (.cons (.var 0) (.cons (.cst (.int 0)) .nil))) (.cst (.int 48))) (.cst (.int 1101))))
  .don)
  .don)
  (.seq (.asgN 2 (.lc [3] (.n 3) .rng1 (.cons (.var 1) .nil) .nil (.call "_law_line_by" (.cons (.bin .Add (.call "_law_cell_at" (.cons (.var 0) (.cons (.bin .Add (.cst (.int 2)) (.bin .Mod (.var 3) (.cst (.int 61)))) .nil))) (.bin .Mult (.cst (.int 101)) (.var 3))) .nil))))
  (.seq (.asgN 4 (.bm .sJoin (.cst (.str "")) (.cons (.lc [5] (.n 5) .seq (.var 2) .nil (.bin .Add (.var 5) (.cst (.str "\n")))) .nil)))
  (.seq (.ifs (.and (.cmp .Eq (.bin .Mod (.call "_law_cell_at" (.cons (.var 0) (.cons (.cst (.int 1)) .nil))) (.cst (.int 2))) (.cst (.int 0))) (.and (.cmp .Gt (.var 1) (.cst (.int 0))) (.cmp .NotEq (.idx (.var 2) (.neg (.cst (.int 1)))) (.cst (.str "")))))
  (.seq (.asgN 4 (.slc (.var 4) .nil (.som (.neg (.cst (.int 1))))))
  .don)
  .don)
  (.seq (.asgN 6 (.cst (.int 1)))
  (.seq (.ifs (.cmp .Gt (.var 1) (.cst (.int 9)))
  (.seq (.asgN 6 (.cst (.int 2)))
  .don)
  .don)
  (.seq (.ifs (.cmp .Gt (.var 1) (.cst (.int 99)))
  (.seq (.asgN 6 (.cst (.int 3)))
  .don)
  .don)
  (.seq (.ifs (.cmp .Gt (.var 1) (.cst (.int 999)))
  (.seq (.asgN 6 (.cst (.int 4)))
  .don)
  .don)
  (.seq (.asgN 7 (.bm .sJoin (.cst (.str "")) (.cons (.lc [3] (.n 3) .rng1 (.cons (.var 1) .nil) .nil (.bin .Add (.bin .Add (.bin .Add (.call "_law_figures" (.cons (.bin .Add (.var 3) (.cst (.int 1))) (.cons (.var 6) .nil))) (.cst (.str " "))) (.idx (.var 2) (.var 3))) (.cst (.str "\n")))) .nil)))
  (.seq (.asgN 8 (.call "listed" (.cons (.var 4) .nil)))
  (.seq (.ret (.and (.isi (.var 8) .str) (.cmp .Eq (.var 8) (.var 7))))
  .don))))))))))))
def f_law : Fn := ⟨["_law_script"], ["_law_script", "_law_many", "_law_lines", "_law_k", "_law_text", "_law_line", "_law_width", "_law_due", "_law_found"], [], b_law, true⟩
def d_law : Dx := ⟨"law", ("law", none), "law", "law", defArgs (top 6), defBody (top 6), defScope (top 6), f_law⟩
def b_listed : T := (.seq (.asgN 1 (.bm .sLines (.var 0) .nil))
  (.seq (.asgN 2 (.bif .len (.cons (.bif .str (.cons (.bif .len (.cons (.var 1) .nil)) .nil)) .nil)))
  (.seq (.asgN 3 (.lst .nil))
  (.seq (.for (.t [4, 5]) .enum1 (.cons (.var 1) .nil)
  (.seq (.drop (.bm .lAppend (.var 3) (.cons (.bin .Add (.bin .Add (.bin .Add (.bm .sZfill (.bif .str (.cons (.var 4) .nil)) (.cons (.var 2) .nil)) (.cst (.str " "))) (.var 5)) (.cst (.str "\n"))) .nil)))
  .don))
  (.seq (.ret (.bm .sJoin (.cst (.str "")) (.cons (.var 3) .nil)))
  .don)))))
def f_listed : Fn := ⟨["text"], ["text", "lines", "width", "told", "at", "line"], [], b_listed, true⟩
def d_listed : Dx := ⟨"listed", ("listed", none), "listed", "listed", defArgs (top 1), defBody (top 1), defScope (top 1), f_listed⟩
def b__law_cell_at : T := (.seq (.ifs (.cmp .Lt (.var 1) (.bif .len (.cons (.var 0) .nil)))
  (.seq (.ret (.idx (.var 0) (.var 1)))
  .don)
  .don)
  (.seq (.ret (.cst (.int 0)))
  .don))
def f__law_cell_at : Fn := ⟨["_law_script", "_law_k"], ["_law_script", "_law_k"], [], b__law_cell_at, true⟩
def d__law_cell_at : Dx := ⟨"_law_cell_at", ("_law_cell_at", none), "_law_cell_at", "_law_cell_at", defArgs (top 3), defBody (top 3), defScope (top 3), f__law_cell_at⟩
def b__law_line_by : T := (.seq (.asgN 1 (.cst (.str " !\"#$&'()*+,-./0123456789:;<=>?@ABCDEFGHIJKLMNOPQRSTUVWXYZ[\\]^_`abcdefghijklmnopqrstuvwxyz{|}~")))
  (.seq (.asgN 2 (.bin .Mod (.bin .FloorDiv (.var 0) (.cst (.int 94))) (.cst (.int 31))))
  (.seq (.asgN 3 (.bin .Mult (.idx (.var 1) (.bin .Mod (.var 0) (.cst (.int 94)))) (.var 2)))
  (.seq (.ifs (.and (.cmp .Eq (.bin .Mod (.var 0) (.cst (.int 3))) (.cst (.int 0))) (.cmp .Gt (.var 2) (.cst (.int 0))))
  (.seq (.asgN 4 (.bin .Mod (.bin .FloorDiv (.var 0) (.cst (.int 2914))) (.var 2)))
  (.seq (.asgN 3 (.bin .Add (.bin .Add (.slc (.var 3) .nil (.som (.var 4))) (.idx (.var 1) (.bin .Mod (.bin .FloorDiv (.var 0) (.cst (.int 7))) (.cst (.int 94))))) (.slc (.var 3) (.som (.bin .Add (.var 4) (.cst (.int 1)))) .nil)))
  .don))
  .don)
  (.seq (.ret (.var 3))
  .don)))))
def f__law_line_by : Fn := ⟨["_law_cell"], ["_law_cell", "_law_some", "_law_size", "_law_line", "_law_at"], [], b__law_line_by, true⟩
def d__law_line_by : Dx := ⟨"_law_line_by", ("_law_line_by", none), "_law_line_by", "_law_line_by", defArgs (top 4), defBody (top 4), defScope (top 4), f__law_line_by⟩
def b__law_figures : T := (.seq (.asgN 2 (.cst (.str "")))
  (.seq (.for (.n 3) .rng1 (.cons (.var 1) .nil)
  (.seq (.asgN 2 (.bin .Add (.idx (.cst (.str "0123456789")) (.bin .Mod (.var 0) (.cst (.int 10)))) (.var 2)))
  (.seq (.asgN 0 (.bin .FloorDiv (.var 0) (.cst (.int 10))))
  .don)))
  (.seq (.ret (.var 2))
  .don)))
def f__law_figures : Fn := ⟨["_law_number", "_law_width"], ["_law_number", "_law_width", "_law_text", "_law_place"], [], b__law_figures, true⟩
def d__law_figures : Dx := ⟨"_law_figures", ("_law_figures", none), "_law_figures", "_law_figures", defArgs (top 5), defBody (top 5), defScope (top 5), f__law_figures⟩
def D : PgD where
  defs := [d_law, d_listed, d__law_cell_at, d__law_line_by, d__law_figures]
  meths := []
  mades := []
  flds := []
  tys := ["str"]
  cms := []
  gInts := []
  gStrs := []
theorem bnd_law : BindsOk d_law := bindsOk0 rfl fun _ _ _ _ _ _ us hl => match us, hl with | [_], _ => rfl
theorem bnd_listed : BindsOk d_listed := bindsOk0 rfl fun _ _ _ _ _ _ us hl => match us, hl with | [_], _ => rfl
theorem bnd__law_cell_at : BindsOk d__law_cell_at := bindsOk0 rfl fun _ _ _ _ _ _ us hl => match us, hl with | [_, _], _ => rfl
theorem bnd__law_line_by : BindsOk d__law_line_by := bindsOk0 rfl fun _ _ _ _ _ _ us hl => match us, hl with | [_], _ => rfl
theorem bnd__law_figures : BindsOk d__law_figures := bindsOk0 rfl fun _ _ _ _ _ _ us hl => match us, hl with | [_, _], _ => rfl
theorem bnds : ∀ x ∈ D.defs, BindsOk x := (List.forall_mem_cons.mpr ⟨bnd_law, (List.forall_mem_cons.mpr ⟨bnd_listed, (List.forall_mem_cons.mpr ⟨bnd__law_cell_at, (List.forall_mem_cons.mpr ⟨bnd__law_line_by, (List.forall_mem_cons.mpr ⟨bnd__law_figures, (fun _ h => nomatch h)⟩)⟩)⟩)⟩)⟩)
theorem ck_law : Dx.okB D d_law = true := by decide +kernel
theorem ck_listed : Dx.okB D d_listed = true := by decide +kernel
theorem ck__law_cell_at : Dx.okB D d__law_cell_at = true := by decide +kernel
theorem ck__law_line_by : Dx.okB D d__law_line_by = true := by decide +kernel
theorem ck__law_figures : Dx.okB D d__law_figures = true := by decide +kernel
-- LAWI 6 LOOSE ["listed", "_law_cell_at", "_law_line_by", "_law_figures"] PARAM _law_script
end Mk14
set_option maxHeartbeats 0
/-! law_k14_listed: the head. -/
namespace Mk14
open PySem PySem.Spec PyProof.Rows L2 Mi
abbrev RW : PySem.W.OpenRow := PySem.W.OpenLaw.row PySem.Challenge.rw_elderline_k14_listed
abbrev hk : PySem.W.Hook := hookM 5 D.xfs D.fas D.fns
def ob (s : PySem.W.SharedT) : AlM := obsMG 5 D.xfs D.fas D.fns (HandSHeadRun.getT s)
theorem ob_eq (s : PySem.W.SharedT) : ob s = hk.obs s.abs := obsMG_eq (HandSHeadRun.getT_eq s)
theorem headrun (w : World) : HandSHeadRun.RunEq RW (PySem.W.view RW.prog [6]) hk ob 3000 ["listed", "_law_cell_at", "_law_line_by", "_law_figures"] w := by
  intro os
  kernel_rfl
theorem okD : D.okB = true := by decide +kernel
end Mk14
section
open PySem PySem.W PySem.Calls PyProof.Rows
theorem Mk14.holds_of (hl : ∀ ns : List Int, ns.length ≤ 63 → (∀ z ∈ ns, Builtin.Int.intBits z ≤ 1048576) → ∃ st', Mi.callN Mk14.D.pg (10 + 1) "law" [.ref 0] [.fro (ns.map L2.V.int)] = .val [.bl true] st') : PySem.Challenge.rw_elderline_k14_listed.Holds := by
  w_on; o_law
  refine HandSHeadRun.head_any (r := OpenLaw.row PySem.Challenge.rw_elderline_k14_listed) (q := view (OpenLaw.row PySem.Challenge.rw_elderline_k14_listed).prog [6]) (H := Mk14.hk) (ob := Mk14.ob) (M := 3000) (loose := ["listed", "_law_cell_at", "_law_line_by", "_law_figures"]) (d := HandSHeadRun.topDef (OpenLaw.row PySem.Challenge.rw_elderline_k14_listed).prog 6) (kwd := []) Mk14.ob_eq
    (by kernel_rfl) (fun s => by kernel_rfl) Mk14.headrun (by kernel_rfl) (by kernel_rfl) (by kernel_rfl) (by rfl) (by first | assumption | decide +kernel) (by decide +kernel) ⟨rfl, rfl, rfl, rfl, rfl, by decide +kernel⟩ ?hw ?hc
  case hw => w_witness2
  case hc =>
    refine LamX.walk_ofTsE (l := PySem.Challenge.rw_elderline_k14_listed) (n := 63) (k := 2 * (10 + 1)) (x := "_law_script") (CX := L2.CX (PySem.Challenge.rw_elderline_k14_listed).prog) rfl (by decide) (by kernel_rfl) ⟨rfl, by decide, by decide⟩ ?F (fun _ _ _ _ _ ⟨_, _, _, _, _, _, _, _, _, _, _, _, z⟩ => z)
    intro w mg fa h Y G hmg0
    obtain ⟨K, KX, c⟩ := Y
    have hmg : mg ("law" : PySem.Str) = some (.ref fa) := by
      have e : (HandSHeadRun.topDef (OpenLaw.row PySem.Challenge.rw_elderline_k14_listed).prog 6).name = ("law" : PySem.Str) := by kernel_rfl
      rw [← e]
      exact hmg0
    exact ⟨K, KX, Mi.law_at (x := Mk14.d_law) Mk14.okD Mk14.bnds KX G c (by kernel_rfl) rfl rfl rfl (fun _ _ _ _ _ _ us hl => match us, hl with | [_], _ => rfl) hmg hl⟩
end
set_option maxHeartbeats 400000
/-! Mw: runs by what must follow; no program in sight. -/
namespace Mi
open PySem PySem.Spec PyProof.Rows L2
def wv (r : R) (Q : V → Store → Prop) : Prop := match r with
  | .val [v] st => Q v st
  | _ => False
def wl (r : R) (Q : List V → Store → Prop) : Prop := match r with
  | .val vs st => Q vs st
  | _ => False
def wz (r : R) (N : Ev → Store → Prop) (Rt : V → Store → Prop) : Prop := match r with
  | .nxt e st => N e st
  | .ret v st => Rt v st
  | _ => False
def tr (o : Option Bool) (A B : Prop) : Prop := match o with
  | none => False
  | some true => A
  | some false => B
section
variable {r : R} {Q Q' Rt Rt' : V → Store → Prop} {QL QL' : List V → Store → Prop} {N N' : Ev → Store → Prop} {st : Store} {env : Ev} {v : V} {A B : Prop}
theorem wv.imp (h : wv r Q) (g : ∀ v st, Q v st → Q' v st) : wv r Q' := by
  unfold wv at h ⊢
  split at h
  · exact g _ _ h
  · exact h.elim
theorem wl.imp (h : wl r QL) (g : ∀ v st, QL v st → QL' v st) : wl r QL' := by
  unfold wl at h ⊢
  split at h
  · exact g _ _ h
  · exact h.elim
theorem wz.imp (h : wz r N Rt) (g1 : ∀ e st, N e st → N' e st) (g2 : ∀ v st, Rt v st → Rt' v st) : wz r N' Rt' := by
  unfold wz at h ⊢
  split at h
  · exact g1 _ _ h
  · exact g2 _ _ h
  · exact h.elim
theorem wv_get (h : wv r Q) : ∃ v st, r = .val [v] st ∧ Q v st := by
  unfold wv at h
  split at h
  · exact ⟨_, _, rfl, h⟩
  · exact h.elim
theorem wv_b1 {k : V → Store → R} : wv (r.b1 k) Q = wv r fun v st => wv (k v st) Q := by
  cases r with
  | val vs st => match vs with
    | [] => rfl
    | [_] => rfl
    | _ :: _ :: _ => rfl
  | _ => rfl
theorem wv_bs {k : List V → Store → R} : wv (r.bs k) Q = wl r fun v st => wv (k v st) Q := by
  cases r <;> rfl
theorem wl_b1 {k : V → Store → R} : wl (r.b1 k) QL = wv r fun v st => wl (k v st) QL := by
  cases r with
  | val vs st => match vs with
    | [] => rfl
    | [_] => rfl
    | _ :: _ :: _ => rfl
  | _ => rfl
theorem wl_bs {k : List V → Store → R} : wl (r.bs k) QL = wl r fun v st => wl (k v st) QL := by
  cases r <;> rfl
theorem wz_b1 {k : V → Store → R} : wz (r.b1 k) N Rt = wv r fun v st => wz (k v st) N Rt := by
  cases r with
  | val vs st => match vs with
    | [] => rfl
    | [_] => rfl
    | _ :: _ :: _ => rfl
  | _ => rfl
theorem wz_bs {k : List V → Store → R} : wz (r.bs k) N Rt = wl r fun v st => wz (k v st) N Rt := by
  cases r <;> rfl
theorem wz_bn {k : Ev → Store → R} : wz (r.bn k) N Rt = wz r (fun e st => wz (k e st) N Rt) Rt := by
  cases r <;> rfl
theorem wv_exE : wv (exE r env) Q = wv r Q := by cases r <;> rfl
theorem wl_exE : wl (exE r env) QL = wl r QL := by cases r <;> rfl
theorem wv_one : wv (one v st) Q = Q v st := rfl
theorem wv_val : wv (.val [v] st) Q = Q v st := rfl
theorem wl_val {vs : List V} : wl (.val vs st) QL = QL vs st := rfl
theorem wv_new {o : IO} : wv (new o st) Q = Q (.ref st.length) (st ++ [o]) := rfl
theorem wv_ofB {b : Bool} : wv (ofB (some b) st) Q = Q (.bl b) st := rfl
theorem tr_bl {b : Bool} : tr (truth (.bl b) st) A B = ((b = true → A) ∧ (b = false → B)) := by
  cases b <;> simp [tr, truth]
theorem tr_some {b : Bool} : tr (some b) A B = ((b = true → A) ∧ (b = false → B)) := by
  cases b <;> simp [tr]
end
section
variable {Pg : Prog} {cf : Str → List V → Store → R} {env : Ev} {st : Store} {Q Rt : V → Store → Prop} {QL : List V → Store → Prop} {N : Ev → Store → Prop} {a b c e i o as ifs lo hi : T} {n : Nat} {v : V} {x : Str} {op op2 : CmpOp} {bop : Operator}
theorem wv_tr {o : Option Bool} {r1 r2 : R} : wv (match o with
    | none => .stk
    | some true => r1
    | some false => r2) Q = tr o (wv r1 Q) (wv r2 Q) := by
  cases o with
  | none => rfl
  | some b => cases b <;> rfl
theorem wz_tr {o : Option Bool} {r1 r2 : R} : wz (match o with
    | none => .stk
    | some true => r1
    | some false => r2) N Rt = tr o (wz r1 N Rt) (wz r2 N Rt) := by
  cases o with
  | none => rfl
  | some b => cases b <;> rfl
theorem w_var : wv (run Pg cf (.var n) env st) Q = ∃ v, env[n]? = some (some v) ∧ Q v st := by
  unfold run
  split
  · rename_i v h
    rw [wv_one, h]
    simp
  · rename_i h
    refine propext ⟨fun h => h.elim, fun ⟨v, e, _⟩ => (h v e).elim⟩
theorem w_cst : wv (run Pg cf (.cst v) env st) Q = Q v st := propext Iff.rfl
theorem w_glo : wv (run Pg cf (.glo x) env st) Q = ∃ v, Pg.glo x = some v ∧ Q v st := by
  unfold run
  cases h : Pg.glo x with
  | none => exact propext ⟨fun h => h.elim, fun ⟨_, e, _⟩ => nomatch e⟩
  | some v => simp [wv_one]
theorem w_bin : wv (run Pg cf (.bin bop a b) env st) Q = wv (run Pg cf a env st) fun x st1 => wv (run Pg cf b env st1) fun y st2 => wv (binD bop x y st2) Q := by
  simp only [run, wv_b1]
theorem w_neg : wv (run Pg cf (.neg a) env st) Q = wv (run Pg cf a env st) fun x st1 => ∃ i, x = .int i ∧ Q (.int (-i)) st1 := by
  simp only [run, wv_b1]
  congr 1
  funext x st1
  cases x <;> simp [wv_one] <;> first | rfl | simp [wv]
theorem w_not : wv (run Pg cf (.not a) env st) Q = wv (run Pg cf a env st) fun x st1 => tr (truth x st1) (Q (.bl false) st1) (Q (.bl true) st1) := by
  simp only [run, wv_b1]
  congr 1
  funext x st1
  cases truth x st1 with
  | none => rfl
  | some b => cases b <;> rfl
theorem w_and : wv (run Pg cf (.and a b) env st) Q = wv (run Pg cf a env st) fun x st1 => tr (truth x st1) (wv (run Pg cf b env st1) Q) (Q x st1) := by
  simp only [run, wv_b1]
  congr 1
  funext x st1
  cases truth x st1 with
  | none => rfl
  | some b => cases b <;> rfl
theorem w_or : wv (run Pg cf (.or a b) env st) Q = wv (run Pg cf a env st) fun x st1 => tr (truth x st1) (Q x st1) (wv (run Pg cf b env st1) Q) := by
  simp only [run, wv_b1]
  congr 1
  funext x st1
  cases truth x st1 with
  | none => rfl
  | some b => cases b <;> rfl
theorem w_cmp : wv (run Pg cf (.cmp op a b) env st) Q = wv (run Pg cf a env st) fun x st1 => wv (run Pg cf b env st1) fun y st2 => wv (cmpD op x y st2) Q := by
  simp only [run, wv_b1]
theorem w_ife : wv (run Pg cf (.ife c a b) env st) Q = wv (run Pg cf c env st) fun x st1 => tr (truth x st1) (wv (run Pg cf a env st1) Q) (wv (run Pg cf b env st1) Q) := by
  simp only [run, wv_b1]
  congr 1
  funext x st1
  cases truth x st1 with
  | none => rfl
  | some b => cases b <;> rfl
theorem w_nil : wl (run Pg cf .nil env st) QL = QL [] st := propext Iff.rfl
theorem w_cons : wl (run Pg cf (.cons a as) env st) QL = wv (run Pg cf a env st) fun x st1 => wl (run Pg cf as env st1) fun xs st2 => QL (x :: xs) st2 := by
  simp only [run, wl_b1, wl_bs]
  rfl
theorem w_som : wl (run Pg cf (.som a) env st) QL = wv (run Pg cf a env st) fun x st1 => QL [x] st1 := by
  simp only [run, wl_b1]
  rfl
theorem w_if {p : Prop} [Decidable p] {r : R} : wv (if p then r else .stk) Q = (p ∧ wv r Q) := by
  by_cases h : p
  · simp [h]
  · simp [h]
    exact id
theorem wz_if {p : Prop} [Decidable p] {r : R} : wz (if p then r else .stk) N Rt = (p ∧ wz r N Rt) := by
  by_cases h : p
  · simp [h]
  · simp [h]
    exact id
theorem w_tup : wv (run Pg cf (.tup as) env st) Q = wl (run Pg cf as env st) fun xs st1 => xs.length ≤ sz ∧ Q (.ref st1.length) (st1 ++ [.tup xs]) := by
  simp only [run, wv_bs, w_if, wv_new]
theorem w_lst : wv (run Pg cf (.lst as) env st) Q = wl (run Pg cf as env st) fun xs st1 => xs.length ≤ sz ∧ Q (.ref st1.length) (st1 ++ [.lst xs]) := by
  simp only [run, wv_bs, w_if, wv_new]
theorem w_dic0 : wv (run Pg cf .dic0 env st) Q = Q (.ref st.length) (st ++ [.dK []]) := propext Iff.rfl
theorem w_call : wv (run Pg cf (.call x as) env st) Q = wl (run Pg cf as env st) fun xs st1 => wv (cf x xs st1) Q := by
  simp only [run, wv_bs, wv_exE]
theorem w_bif {f : Bi} : wv (run Pg cf (.bif f as) env st) Q = wl (run Pg cf as env st) fun xs st1 => wv (bifD f xs st1) Q := by
  simp only [run, wv_bs]
theorem w_isi {t : Ty} : wv (run Pg cf (.isi a t) env st) Q = wv (run Pg cf a env st) fun x st1 => ∃ t', isTy x st1 = some t' ∧ Q (.bl (subTy t' t)) st1 := by
  simp only [run, wv_b1]
  congr 1
  funext x st1
  cases isTy x st1 with
  | none => exact propext ⟨fun h => h.elim, fun ⟨_, e, _⟩ => nomatch e⟩
  | some t' => simp [wv_one]
theorem w_bm {m : Mt} : wv (run Pg cf (.bm m o as) env st) Q = wv (run Pg cf o env st) fun x st1 => bmTy m x st1 = true ∧ wl (run Pg cf as env st1) fun xs st2 => wv (bmD m x xs st2) Q := by
  simp only [run, wv_b1, w_if, wv_bs]
theorem w_idx : wv (run Pg cf (.idx a i) env st) Q = wv (run Pg cf a env st) fun x st1 => wv (run Pg cf i env st1) fun y st2 => wv (idxD x y st2) Q := by
  simp only [run, wv_b1]
theorem w_slc : wv (run Pg cf (.slc a lo hi) env st) Q = wv (run Pg cf a env st) fun x st1 => wl (run Pg cf lo env st1) fun l st2 => ∃ l', part l = some l' ∧ wl (run Pg cf hi env st2) fun h st3 => ∃ h', part h = some h' ∧ wv (slcD x l' h' st3) Q := by
  simp only [run, wv_b1, wv_bs]
  congr 1
  funext x st1
  congr 1
  funext l st2
  cases part l with
  | none => exact propext ⟨fun h => h.elim, fun ⟨_, e, _⟩ => nomatch e⟩
  | some l' =>
    simp only [Option.some.injEq, exists_eq_left', wv_bs]
    congr 1
    funext h st3
    cases part h with
    | none => exact propext ⟨fun h => h.elim, fun ⟨_, e, _⟩ => nomatch e⟩
    | some h' => simp
/-! ### statements -/
theorem z_don : wz (run Pg cf .don env st) N Rt = N env st := propext Iff.rfl
theorem z_seq : wz (run Pg cf (.seq a b) env st) N Rt = wz (run Pg cf a env st) (fun e1 st1 => wz (run Pg cf b e1 st1) N Rt) Rt := by
  simp only [run, wz_bn]
theorem z_asgN : wz (run Pg cf (.asgN n e) env st) N Rt = wv (run Pg cf e env st) fun v st1 => n < env.length ∧ N (env.set n (some v)) st1 := by
  simp only [run, wz_b1, wv_exE, wz_if]
  rfl
theorem z_asgI : wz (run Pg cf (.asgI o i e) env st) N Rt = wv (run Pg cf e env st) fun v st1 => wv (run Pg cf o env st1) fun x st2 => wv (run Pg cf i env st2) fun y st3 => ∃ st4, setI x y v st3 = some st4 ∧ N env st4 := by
  simp only [run, wz_b1, wv_exE]
  congr 1
  funext v st1
  congr 1
  funext x st2
  congr 1
  funext y st3
  cases setI x y v st3 with
  | none => exact propext ⟨fun h => h.elim, fun ⟨_, e, _⟩ => nomatch e⟩
  | some st4 => simp [wz]
theorem z_augA : wz (run Pg cf (.aug n .Add e) env st) N Rt = ∃ x, env[n]? = some (some x) ∧ wv (run Pg cf e env st) fun y st1 => ∃ a b, x = .int a ∧ y = .int b ∧ N (env.set n (some (.int (a + b)))) st1 := by
  simp only [run]
  split
  · rename_i x h
    rw [h]
    simp only [Option.some.injEq, exists_eq_left', wz_b1, wv_exE]
    congr 1
    funext y st1
    cases x <;> cases y <;> simp [wz]
  · rename_i h
    exact propext ⟨fun h => h.elim, fun ⟨x, e, _⟩ => (h x e).elim⟩
theorem z_drop : wz (run Pg cf (.drop e) env st) N Rt = wv (run Pg cf e env st) fun _ st1 => N env st1 := by
  simp only [run, wz_b1, wv_exE]
  rfl
theorem z_ret : wz (run Pg cf (.ret e) env st) N Rt = wv (run Pg cf e env st) Rt := by
  simp only [run, wz_b1, wv_exE]
  rfl
theorem z_retN : wz (run Pg cf .retN env st) N Rt = Rt .non st := propext Iff.rfl
theorem z_ifs : wz (run Pg cf (.ifs c a b) env st) N Rt = wv (run Pg cf c env st) fun v st1 => tr (truth v st1) (wz (run Pg cf a env st1) N Rt) (wz (run Pg cf b env st1) N Rt) := by
  simp only [run, wz_b1, wv_exE]
  congr 1
  funext v st1
  cases truth v st1 with
  | none => rfl
  | some b => cases b <;> rfl
end
/-! ### operations -/
section
variable {st : Store} {Q : V → Store → Prop} {i j : Int} {s t : Str} {p q : Nat} {xs ys : List V} {x y : V}
theorem o_add : wv (binD .Add (.int i) (.int j) st) Q = Q (.int (i + j)) st := propext Iff.rfl
theorem o_sub : wv (binD .Sub (.int i) (.int j) st) Q = Q (.int (i - j)) st := propext Iff.rfl
theorem o_mul : wv (binD .Mult (.int i) (.int j) st) Q = (mulOk i j = true ∧ Q (.int (i * j)) st) := by
  simp only [binD, w_if, wv_one]
theorem o_mulL (h : i.natAbs < 2 ^ 64) : wv (binD .Mult (.int i) (.int j) st) Q = Q (.int (i * j)) st := by
  have : mulOk i j = true := by simp [mulOk, h]
  rw [o_mul, this]
  simp
theorem o_mulR (h : j.natAbs < 2 ^ 64) : wv (binD .Mult (.int i) (.int j) st) Q = Q (.int (i * j)) st := by
  have : mulOk i j = true := by simp [mulOk, h]
  rw [o_mul, this]
  simp
theorem o_div (h : 0 < j) (h2 : j < 1073741824) : wv (binD .FloorDiv (.int i) (.int j) st) Q = Q (.int (i / j)) st := by
  simp only [binD]
  rw [if_pos ⟨by omega, by omega⟩, Int.fdiv_eq_ediv_of_nonneg i (by omega)]
  rfl
theorem o_mod (h : 0 < j) : wv (binD .Mod (.int i) (.int j) st) Q = Q (.int (i % j)) st := by
  simp only [binD]
  rw [if_pos (by omega), Int.fmod_eq_emod_of_nonneg i (by omega)]
  rfl
theorem o_addS (h : s.length + t.length ≤ sz) : wv (binD .Add (.str s) (.str t) st) Q = Q (.str (s ++ t)) st := by
  simp only [binD]
  rw [if_pos h]
  rfl
theorem o_addL (hp : st[p]? = some (.lst xs)) (hq : st[q]? = some (.lst ys)) (h : xs.length + ys.length ≤ sz) : wv (binD .Add (.ref p) (.ref q) st) Q = Q (.ref st.length) (st ++ [.lst (xs ++ ys)]) := by
  simp only [binD, hp, hq]
  rw [if_pos h]
  rfl
theorem c_eqI : wv (cmpD .Eq (.int i) (.int j) st) Q = Q (.bl (decide (i = j))) st := by
  simp [cmpD, eqD, scal, ofB, wv, one]
theorem c_neI : wv (cmpD .NotEq (.int i) (.int j) st) Q = Q (.bl (!decide (i = j))) st := by
  simp [cmpD, eqD, scal, ofB, wv, one]
theorem c_eqS : wv (cmpD .Eq (.str s) (.str t) st) Q = Q (.bl (decide (s = t))) st := by
  simp [cmpD, eqD, scal, ofB, wv, one]
theorem c_neS : wv (cmpD .NotEq (.str s) (.str t) st) Q = Q (.bl (!decide (s = t))) st := by
  simp [cmpD, eqD, scal, ofB, wv, one]
theorem c_lt : wv (cmpD .Lt (.int i) (.int j) st) Q = Q (.bl (decide (i < j))) st := propext Iff.rfl
theorem c_le : wv (cmpD .LtE (.int i) (.int j) st) Q = Q (.bl (decide (i ≤ j))) st := propext Iff.rfl
theorem c_gt : wv (cmpD .Gt (.int i) (.int j) st) Q = Q (.bl (decide (j < i))) st := propext Iff.rfl
theorem c_ge : wv (cmpD .GtE (.int i) (.int j) st) Q = Q (.bl (decide (j ≤ i))) st := propext Iff.rfl
theorem c_is : wv (cmpD .Is x .non st) Q = Q (.bl (decide (x = .non))) st := propext Iff.rfl
theorem c_isnot : wv (cmpD .IsNot x .non st) Q = Q (.bl (!decide (x = .non))) st := propext Iff.rfl
theorem i_at {v : V} (h : items st (.ref p) = some xs) (hi : atI xs i = some v) : wv (idxD (.ref p) (.int i) st) Q = Q v st := by
  simp only [idxD, h, hi]
  rfl
theorem items_lst (h : st[p]? = some (.lst xs)) : items st (.ref p) = some xs := by simp [items, h]
theorem items_fro (h : st[p]? = some (.fro xs)) : items st (.ref p) = some xs := by simp [items, h]
theorem items_tup (h : st[p]? = some (.tup xs)) : items st (.ref p) = some xs := by simp [items, h]
theorem b_len (h : items st (.ref p) = some xs) : wv (bifD .len [.ref p] st) Q = Q (.int xs.length) st := by
  unfold items at h
  simp only at h
  simp only [bifD]
  split at h <;> rename_i e <;> first | (cases h; exact wv_one) | (cases h; done)
theorem b_list (h : items st (.ref p) = some xs) : wv (bifD .list [.ref p] st) Q = Q (.ref st.length) (st ++ [.lst xs]) := by
  unfold items at h
  simp only at h
  simp only [bifD]
  split at h <;> rename_i e <;> first | (cases h; simp only [e]; exact wv_new) | (cases h; done)
theorem m_app (h : st[p]? = some (.lst xs)) (hl : xs.length < sz) : (bmTy .lAppend (.ref p) st = true) ∧ wv (bmD .lAppend (.ref p) [y] st) Q = Q .non (st.set p (.lst (xs ++ [y]))) := by
  refine ⟨by simp [bmTy, h], ?_⟩
  simp only [bmD, h]
  rw [if_pos hl]
  rfl
end
/-! ### calls, loops -/
section
variable {Pg : Prog} {Q Rt : V → Store → Prop} {N : Ev → Store → Prop} {st : Store} {env : Ev}
theorem callN_w {d : Nat} {f : Str} {F : Fn} {vs : List V} (hf : Pg.fn f = some F) (hl : vs.length = F.ps.length) (h : wz (run Pg (callN Pg d) F.body (start F.N vs) st) (fun _ st' => Q .non st') Q) : wv (callN Pg (d + 1) f vs st) Q := by
  show wv (match Pg.fn f with
    | none => Mi.R.stk
    | some F => _) Q
  rw [hf]
  dsimp only
  rw [if_pos ⟨by omega, by omega⟩, hl, show F.ps.length + F.dfl.length - F.ps.length = F.dfl.length from by omega, List.drop_length, List.append_nil]
  revert h
  cases run Pg (callN Pg d) F.body (start F.N vs) st <;> exact fun h => h
theorem loop_w {cu : Nat → Store → Option (Option (V × Store))} {bd : V → Ev → Store → R} {n : Nat} (Inv : Nat → Ev → Store → Prop)
    (hs : ∀ j env st, j < n → Inv j env st → ∃ x st1, cu j st = some (some (x, st1)) ∧ wz (bd x env st1) (Inv (j + 1)) Rt) (he : ∀ env st, Inv n env st → cu n st = some none ∧ N env st) :
    ∀ (k i m : Nat) (env : Ev) (st : Store), i + k = n → k < m → Inv i env st → wz (loopN cu bd m i env st) N Rt
  | 0, i, m + 1, env, st, hi, _, h => by
    have hi : i = n := by omega
    subst hi
    obtain ⟨e, h1⟩ := he env st h
    unfold loopN
    rw [e]
    exact h1
  | k + 1, i, m + 1, env, st, hi, hm, h => by
    obtain ⟨x, st1, e, h1⟩ := hs i env st (by omega) h
    unfold loopN
    rw [e]
    dsimp only
    rw [wz_bn]
    exact h1.imp (fun e2 st2 h2 => loop_w Inv hs he k (i + 1) m e2 st2 (by omega) (by omega) h2) (fun _ _ h => h)
theorem setN {n : Nat} {x : V} (h : n < env.length) : setTg (.n n) x env st = some (env.set n (some x)) := by
  simp [setTg, h]
theorem rngB {n : Nat} (hn : n < 2 ^ 62) : -(2 ^ 62) ≤ (n : Int) ∧ (n : Int) < 2 ^ 62 := by
  have h : (4611686018427387904 : Nat) = 2 ^ 62 := by decide
  rw [← h] at hn
  have h2 : (4611686018427387904 : Int) = 2 ^ 62 := by decide
  rw [← h2]
  omega
theorem cur_rng1 {n j : Nat} {st : Store} (hn : n < 2 ^ 62) : cur .rng1 [.int (n : Int)] j st = if j < n then some (some (.int (j : Int), st)) else some none := by
  unfold cur
  dsimp only
  rw [if_pos (rngB hn), Int.toNat_natCast]
def bdT (tg : Tg) (bd : Ev → Store → R) (x : V) (env : Ev) (st : Store) : R := match setTg tg x env st with
  | none => .stk
  | some env3 => bd env3 st
theorem bdT_n {v : Nat} {bd : Ev → Store → R} {x : V} (h : v < env.length) : bdT (.n v) bd x env st = bd (env.set v (some x)) st := by
  unfold bdT
  rw [setN h]
theorem z_for {cf : Str → List V → Store → R} {tg : Tg} {k : Ik} {a b : T} : wz (run Pg cf (.for tg k a b) env st) N Rt = wl (run Pg cf a env st) fun vs st1 => wz (loopN (cur (rk k vs st1) vs) (bdT tg (run Pg cf b)) (turns k vs st1 + 1) 0 env st1) N Rt := by
  have e : bdT tg (run Pg cf b) = (fun x env2 st2 => match setTg tg x env2 st2 with
      | none => .stk
      | some env3 => run Pg cf b env3 st2) := rfl
  simp only [run, wz_bs, wl_exE, e]
  all_goals rfl
theorem loopRng {cu : Nat → Store → Option (Option (V × Store))} {bd : Ev → Store → R} {v n m : Nat} (hc : ∀ j st, cu j st = if j < n then some (some (.int (j : Int), st)) else some none) (hm : n < m) (Inv : Nat → Ev → Store → Prop)
    (hs : ∀ j env st, j < n → Inv j env st → v < env.length ∧ wz (bd (env.set v (some (.int (j : Int)))) st) (Inv (j + 1)) Rt) (he : ∀ env st, Inv n env st → N env st) (h0 : Inv 0 env st) : wz (loopN cu (bdT (.n v) bd) m 0 env st) N Rt := by
  refine loop_w Inv (n := n) ?_ ?_ n 0 _ env st (Nat.zero_add n) hm h0
  · intro j env st hj hI
    obtain ⟨hv, h1⟩ := hs j env st hj hI
    refine ⟨.int (j : Int), st, ?_, ?_⟩
    · rw [hc, if_pos hj]
    · rw [bdT_n hv]
      exact h1
  · intro env st hI
    refine ⟨?_, he env st hI⟩
    rw [hc, if_neg (Nat.lt_irrefl n)]
theorem one_arg {cf : Str → List V → Store → R} {a : T} {P : V → Store → Prop} (h : wv (run Pg cf a env st) P) : wl (run Pg cf (.cons a .nil) env st) fun vs st1 => ∃ x, vs = [x] ∧ P x st1 := by
  rw [w_cons]
  refine h.imp fun x st1 hx => ?_
  rw [w_nil]
  exact ⟨x, rfl, hx⟩
theorem hm1 {n : Nat} {st : Store} : n < turns .rng1 [.int (n : Int)] st + 1 := by simp [turns]
/-- for x in range(n) -/
theorem for_rng1 {cf : Str → List V → Store → R} {a b : T} {v n : Nat} (Inv : Nat → Ev → Store → Prop) (hn : n < 2 ^ 62) (h : wv (run Pg cf a env st) fun x st1 => x = .int (n : Int) ∧ Inv 0 env st1)
    (hs : ∀ j env st, j < n → Inv j env st → v < env.length ∧ wz (run Pg cf b (env.set v (some (.int (j : Int)))) st) (Inv (j + 1)) Rt) (he : ∀ env st, Inv n env st → N env st) : wz (run Pg cf (.for (.n v) .rng1 (.cons a .nil) b) env st) N Rt := by
  rw [z_for]
  refine (one_arg h).imp ?_
  rintro vs st1 ⟨x, rfl, rfl, h0⟩
  have hk : rk .rng1 [V.int (n : Int)] st1 = .rng1 := by simp only [rk]
  rw [hk]
  have hc : ∀ j st, cur .rng1 [V.int (n : Int)] j st = if j < n then some (some (.int (j : Int), st)) else some none := fun j st => cur_rng1 hn
  have hm : n < turns .rng1 [V.int (n : Int)] st1 + 1 := hm1
  clear hn
  generalize cur .rng1 [V.int (n : Int)] = cu at hc ⊢
  generalize turns .rng1 [V.int (n : Int)] st1 + 1 = m at hm ⊢
  exact loopRng hc hm Inv hs he h0
/-- for x in a list that stays -/
theorem for_lst {cf : Str → List V → Store → R} {a b : T} {v p : Nat} {xs : List V} (Inv : Nat → Ev → Store → Prop) (hp : ∀ j env st, Inv j env st → st[p]? = some (.lst xs)) (h : wv (run Pg cf a env st) fun x st1 => x = .ref p ∧ Inv 0 env st1)
    (hs : ∀ j x env st, xs[j]? = some x → Inv j env st → v < env.length ∧ wz (run Pg cf b (env.set v (some x)) st) (Inv (j + 1)) Rt) (he : ∀ env st, Inv xs.length env st → N env st) : wz (run Pg cf (.for (.n v) .seq a b) env st) N Rt := by
  simp only [run, wz_bs, wl_exE]
  have h' : wl (run Pg cf a env st) fun vs st1 => vs = [.ref p] ∧ Inv 0 env st1 := by
    revert h
    cases run Pg cf a env st with
    | val vs st1 => match vs with
      | [] => exact fun h => h.elim
      | [x] => exact fun ⟨h, h1⟩ => ⟨by rw [h], h1⟩
      | _ :: _ :: _ => exact fun h => h.elim
    | _ => exact fun h => h.elim
  refine h'.imp fun vs st1 ⟨hx, h0⟩ => ?_
  subst hx
  have e1 := hp _ _ _ h0
  have ek : rk .seq [.ref p] st1 = .lstk := by simp [rk, e1]
  rw [ek]
  refine loop_w Inv (n := xs.length) ?_ ?_ xs.length 0 _ env st1 (by omega) (by simp [turns, items, e1]) h0
  · intro j env st hj hI
    obtain ⟨hv, h1⟩ := hs j xs[j] env st (List.getElem?_eq_getElem hj) hI
    refine ⟨xs[j], st, ?_, ?_⟩
    · simp [cur, hp _ _ _ hI, nth, List.getElem?_eq_getElem hj]
    · rw [setN hv]
      exact h1
  · intro env st hI
    refine ⟨?_, he env st hI⟩
    simp [cur, hp _ _ _ hI, nth]
theorem whl_w {c b : Ev → Store → R} (Inv : Nat → Ev → Store → Prop) (hs : ∀ k env st, Inv k env st → wv (c env st) fun v st1 => tr (truth v st1) (wz (b env st1) (fun e2 st2 => ∃ k', k' < k ∧ Inv k' e2 st2) Rt) (N env st1)) :
    ∀ (m k : Nat) (env : Ev) (st : Store), k < m → Inv k env st → wz (whlN c b m env st) N Rt
  | 0, k, _, _, h, _ => absurd h (by omega)
  | m + 1, k, env, st, h, hI => by
    unfold whlN
    rw [wz_b1]
    refine (hs k env st hI).imp fun v st1 h1 => ?_
    revert h1
    cases truth v st1 with
    | none => exact fun h => h
    | some b => cases b with
      | false => exact fun h => h
      | true =>
        intro h1
        show wz (R.bn _ _) N Rt
        rw [wz_bn]
        exact wz.imp h1 (fun e2 st2 ⟨k', hk, hI'⟩ => whl_w Inv hs m k' e2 st2 (by omega) hI') (fun _ _ h => h)
theorem z_whl {cf : Str → List V → Store → R} {c b : T} (Inv : Nat → Ev → Store → Prop) {k : Nat} (hk : k < 1000000) (h0 : Inv k env st)
    (hs : ∀ k env st, Inv k env st → wv (run Pg cf c env st) fun v st1 => tr (truth v st1) (wz (run Pg cf b env st1) (fun e2 st2 => ∃ k', k' < k ∧ Inv k' e2 st2) Rt) (N env st1)) : wz (run Pg cf (.whl c b) env st) N Rt := by
  simp only [run]
  refine whl_w Inv (fun k env st hI => ?_) wBound k env st hk h0
  rw [wv_exE]
  exact hs k env st hI
theorem lc_w {cu : Nat → Store → Option (Option (V × Store))} {bd : V → Store → R} {D n : Nat} (Inv : Nat → List V → Store → Prop)
    (hs : ∀ j acc st, j < n → Inv j acc st → ∃ x st1, cu j st = some (some (x, st1)) ∧ wl (bd x st1) fun ys st2 => (ys = [] ∧ Inv (j + 1) acc st2) ∨ ∃ y, ys = [y] ∧ st2[D]? = some (.lst acc) ∧ acc.length < sz ∧ Inv (j + 1) (acc ++ [y]) (st2.set D (.lst (acc ++ [y]))))
    (he : ∀ acc st, Inv n acc st → cu n st = some none ∧ Q (.ref D) st) : ∀ (k i m : Nat) (acc : List V) (st : Store), i + k = n → k < m → Inv i acc st → wv (lcN cu bd D m i st) Q
  | 0, i, m + 1, acc, st, hi, _, h => by
    have hi : i = n := by omega
    subst hi
    obtain ⟨e, h1⟩ := he acc st h
    unfold lcN
    rw [e]
    exact h1
  | k + 1, i, m + 1, acc, st, hi, hm, h => by
    obtain ⟨x, st1, e, h1⟩ := hs i acc st (by omega) h
    unfold lcN
    rw [e]
    dsimp only
    revert h1
    cases bd x st1 with
    | val ys st2 =>
      intro h1
      rcases h1 with ⟨rfl, h2⟩ | ⟨y, rfl, hD, hl, h2⟩
      · exact lc_w Inv hs he k (i + 1) m acc st2 (by omega) (by omega) h2
      · dsimp only
        rw [hD]
        dsimp only
        rw [if_pos hl]
        exact lc_w Inv hs he k (i + 1) m _ _ (by omega) (by omega) h2
    | _ => exact fun h => h.elim
def bdL (tg : Tg) (env0 : Ev) (ev : Ev → Store → R) (x : V) (st : Store) : R := match setTg tg x env0 st with
  | none => .stk
  | some env2 => (ev env2 st).b1 fun v st4 => .val [v] st4
theorem bdL_n {v : Nat} {ev : Ev → Store → R} {x : V} (h : v < env.length) : bdL (.n v) env ev x st = (ev (env.set v (some x)) st).b1 fun v st4 => .val [v] st4 := by
  unfold bdL
  rw [setN h]
theorem w_lc0 {cf : Str → List V → Store → R} {tg : Tg} {k : Ik} {own : List Nat} {a e : T} : wv (run Pg cf (.lc own tg k a .nil e) env st) Q = wl (run Pg cf a env st) fun vs st1 => (∃ o, cur (rk k vs st1) vs 0 st1 = some o) ∧ wv (lcN (cur (rk k vs st1) vs) (bdL tg (wipe env own) (run Pg cf e)) st1.length (turns k vs st1 + 1) 0 (st1 ++ [.lst []])) Q := by
  have e1 : run Pg cf (.lc own tg k a .nil e) env st = (run Pg cf a env st).bs fun vs st1 => match cur (rk k vs st1) vs 0 st1 with
    | none => .stk
    | some _ => lcN (cur (rk k vs st1) vs) (bdL tg (wipe env own) (run Pg cf e)) st1.length (turns k vs st1 + 1) 0 (st1 ++ [.lst []]) := rfl
  rw [e1, wv_bs]
  congr 1
  funext vs st1
  cases cur (rk k vs st1) vs 0 st1 with
  | none => exact propext ⟨fun h => h.elim, fun ⟨⟨_, h⟩, _⟩ => nomatch h⟩
  | some o => simp
theorem lcRng {cu : Nat → Store → Option (Option (V × Store))} {ev : Ev → Store → R} {v n m D : Nat} (hc : ∀ j st, cu j st = if j < n then some (some (.int (j : Int), st)) else some none) (hm : n < m) (Inv : Nat → List V → Store → Prop) (hv : v < env.length)
    (hs : ∀ j acc st, j < n → Inv j acc st → wv (ev (env.set v (some (.int (j : Int)))) st) fun y st2 => st2[D]? = some (.lst acc) ∧ acc.length < sz ∧ Inv (j + 1) (acc ++ [y]) (st2.set D (.lst (acc ++ [y])))) (he : ∀ acc st, Inv n acc st → Q (.ref D) st) (h0 : Inv 0 [] st) :
    wv (lcN cu (bdL (.n v) env ev) D m 0 st) Q := by
  refine lc_w Inv (n := n) ?_ ?_ n 0 _ [] _ (Nat.zero_add n) hm h0
  · intro j acc st hj hI
    refine ⟨.int (j : Int), st, ?_, ?_⟩
    · rw [hc, if_pos hj]
    · rw [bdL_n hv, wl_b1]
      exact (hs j acc st hj hI).imp fun y st2 h2 => .inr ⟨y, rfl, h2⟩
  · intro acc st hI
    refine ⟨?_, he acc st hI⟩
    rw [hc, if_neg (Nat.lt_irrefl n)]
/-- [e for x in range(n)] -/
theorem lc_rng1 {cf : Str → List V → Store → R} {a e : T} {v n : Nat} {own : List Nat} (Inv : Nat → List V → Store → Prop) (hn : n < 2 ^ 62) (D : Nat) (hv : v < (wipe env own).length) (h : wv (run Pg cf a env st) fun x st1 => x = .int (n : Int) ∧ D = st1.length ∧ Inv 0 [] (st1 ++ [.lst []]))
    (hs : ∀ j acc st, j < n → Inv j acc st → wv (run Pg cf e ((wipe env own).set v (some (.int (j : Int)))) st) fun y st2 => st2[D]? = some (.lst acc) ∧ acc.length < sz ∧ Inv (j + 1) (acc ++ [y]) (st2.set D (.lst (acc ++ [y])))) (he : ∀ acc st, Inv n acc st → Q (.ref D) st) :
    wv (run Pg cf (.lc own (.n v) .rng1 (.cons a .nil) .nil e) env st) Q := by
  rw [w_lc0]
  refine (one_arg h).imp ?_
  rintro vs st1 ⟨x, rfl, rfl, rfl, h0⟩
  have hk : rk .rng1 [V.int (n : Int)] st1 = .rng1 := by simp only [rk]
  rw [hk]
  have hc : ∀ j st, cur .rng1 [V.int (n : Int)] j st = if j < n then some (some (.int (j : Int), st)) else some none := fun j st => cur_rng1 hn
  have hm : n < turns .rng1 [V.int (n : Int)] st1 + 1 := hm1
  clear hn
  generalize cur .rng1 [V.int (n : Int)] = cu at hc ⊢
  generalize turns .rng1 [V.int (n : Int)] st1 + 1 = m at hm ⊢
  refine ⟨?_, lcRng hc hm Inv hv hs he h0⟩
  rw [hc]
  by_cases h0 : 0 < n
  · rw [if_pos h0]
    exact ⟨_, rfl⟩
  · rw [if_neg h0]
    exact ⟨_, rfl⟩
/-- [e for x in xs]: a list that stays -/
theorem lc_lst {cf : Str → List V → Store → R} {a e : T} {v p : Nat} {xs : List V} {own : List Nat} (Inv : Nat → List V → Store → Prop) (D : Nat) (hv : v < (wipe env own).length) (hp : ∀ j acc st, Inv j acc st → st[p]? = some (.lst xs))
    (h : wv (run Pg cf a env st) fun x st1 => x = .ref p ∧ st1[p]? = some (.lst xs) ∧ D = st1.length ∧ Inv 0 [] (st1 ++ [.lst []]))
    (hs : ∀ j x acc st, xs[j]? = some x → Inv j acc st → wv (run Pg cf e ((wipe env own).set v (some x)) st) fun y st2 => st2[D]? = some (.lst acc) ∧ acc.length < sz ∧ Inv (j + 1) (acc ++ [y]) (st2.set D (.lst (acc ++ [y])))) (he : ∀ acc st, Inv xs.length acc st → Q (.ref D) st) :
    wv (run Pg cf (.lc own (.n v) .seq a .nil e) env st) Q := by
  rw [w_lc0]
  have h' : wl (run Pg cf a env st) fun vs st1 => vs = [.ref p] ∧ st1[p]? = some (.lst xs) ∧ D = st1.length ∧ Inv 0 [] (st1 ++ [.lst []]) := by
    revert h
    cases run Pg cf a env st with
    | val vs st1 => match vs with
      | [] => exact fun h => h.elim
      | [x] => exact fun ⟨h, h1⟩ => ⟨by rw [h], h1⟩
      | _ :: _ :: _ => exact fun h => h.elim
    | _ => exact fun h => h.elim
  refine h'.imp ?_
  rintro vs st1 ⟨rfl, e1, rfl, h0⟩
  have ek : rk .seq [.ref p] st1 = .lstk := by simp [rk, e1]
  rw [ek]
  refine ⟨?_, ?_⟩
  · simp only [cur, e1, nth]
    split
    · exact ⟨_, rfl⟩
    · exact ⟨_, rfl⟩
  refine lc_w Inv (n := xs.length) ?_ ?_ xs.length 0 _ [] _ (Nat.zero_add _) (by simp [turns, items, e1]) h0
  · intro j acc st hj hI
    refine ⟨xs[j], st, ?_, ?_⟩
    · simp [cur, hp _ _ _ hI, nth, List.getElem?_eq_getElem hj]
    · rw [bdL_n hv, wl_b1]
      exact (hs j xs[j] acc st (List.getElem?_eq_getElem hj) hI).imp fun y st2 h2 => .inr ⟨y, rfl, h2⟩
  · intro acc st hI
    refine ⟨?_, he acc st hI⟩
    simp [cur, hp _ _ _ hI, nth]
end
/-! ### methods, classes, fields -/
section
variable {Pg : Prog} {cf : Str → List V → Store → R} {env : Ev} {st : Store} {Q Rt : V → Store → Prop} {N : Ev → Store → Prop} {a b c e i o as : T} {f m x : Str} {op op2 : CmpOp}
theorem w_meth : wv (run Pg cf (.meth m o as) env st) Q = wv (run Pg cf o env st) fun x st1 => ∃ p c fs f, x = .ref p ∧ st1[p]? = some (.ins c fs) ∧ fs.lookup m = none ∧ Pg.meth c m = some f ∧ wl (run Pg cf as env st1) fun xs st2 => wv (cf f (.ref p :: xs) st2) Q := by
  simp only [run, wv_b1]
  congr 1
  funext x st1
  cases x with
  | ref p =>
    dsimp only
    cases h : st1[p]? with
    | none => exact propext ⟨fun h => h.elim, fun ⟨_, _, _, _, e, e2, _⟩ => by cases e; rw [h] at e2; cases e2⟩
    | some ob =>
      cases ob with
      | ins c fs =>
        dsimp only
        cases h2 : fs.lookup m with
        | some v => exact propext ⟨fun h => h.elim, fun ⟨_, _, _, _, e, e2, e3, _⟩ => by cases e; rw [h] at e2; cases e2; rw [h2] at e3; cases e3⟩
        | none =>
          simp only [Option.isNone, if_true]
          cases h3 : Pg.meth c m with
          | none => exact propext ⟨fun h => h.elim, fun ⟨_, _, _, _, e, e2, e3, e4, _⟩ => by cases e; rw [h] at e2; cases e2; rw [h3] at e4; cases e4⟩
          | some f =>
            simp only [wv_bs, wv_exE]
            exact propext ⟨fun q => ⟨p, c, fs, f, rfl, h, h2, h3, q⟩, fun ⟨_, _, _, _, e, e2, e3, e4, q⟩ => by cases e; rw [h] at e2; cases e2; rw [h3] at e4; cases e4; exact q⟩
      | _ => exact propext ⟨fun h => h.elim, fun ⟨_, _, _, _, e, e2, _⟩ => by cases e; rw [h] at e2; cases e2⟩
  | _ => exact propext ⟨fun h => h.elim, fun ⟨_, _, _, _, e, _⟩ => by cases e⟩
theorem w_mk : wv (run Pg cf (.mk x as) env st) Q = ∃ f, Pg.made x = true ∧ Pg.meth x "__init__" = some f ∧ wl (run Pg cf as env st) fun xs st1 => wv (cf f (.ref st1.length :: xs) (st1 ++ [.ins x []])) fun v st2 => v = .non ∧ Q (.ref st1.length) st2 := by
  simp only [run]
  cases h1 : Pg.made x with
  | false => exact propext ⟨fun h => h.elim, fun ⟨_, e, _⟩ => nomatch e⟩
  | true =>
    simp only [if_true]
    cases h2 : Pg.meth x "__init__" with
    | none => exact propext ⟨fun h => h.elim, fun ⟨_, _, e, _⟩ => nomatch e⟩
    | some f =>
      simp only [wv_bs, wv_b1, wv_exE]
      have e : (fun (vs : List V) (st1 : Store) => wv (cf f (V.ref st1.length :: vs) (st1 ++ [IO.ins x []])) fun v st2 => wv (match v with
          | .non => one (.ref st1.length) st2
          | _ => .stk) Q) = fun vs st1 => wv (cf f (V.ref st1.length :: vs) (st1 ++ [IO.ins x []])) fun v st2 => v = .non ∧ Q (.ref st1.length) st2 := by
        funext vs st1
        congr 1
        funext v st2
        cases v with
        | non => simp [wv_one]
        | _ => exact propext ⟨fun h => h.elim, fun ⟨h, _⟩ => nomatch h⟩
      refine (congrArg (wl (run Pg cf as env st)) e).trans ?_
      exact propext ⟨fun q => ⟨f, trivial, rfl, q⟩, fun ⟨_, _, e2, q⟩ => by cases e2; exact q⟩
theorem w_fld : wv (run Pg cf (.fld o f) env st) Q = wv (run Pg cf o env st) fun x st1 => ∃ p c fs v, x = .ref p ∧ st1[p]? = some (.ins c fs) ∧ Pg.fld c f = true ∧ fs.lookup f = some v ∧ Q v st1 := by
  simp only [run, wv_b1]
  congr 1
  funext x st1
  cases x with
  | ref p =>
    dsimp only
    cases h : st1[p]? with
    | none => exact propext ⟨fun h => h.elim, fun ⟨_, _, _, _, e, e2, _⟩ => by cases e; rw [h] at e2; cases e2⟩
    | some ob =>
      cases ob with
      | ins c fs =>
        dsimp only
        cases h2 : Pg.fld c f with
        | false => exact propext ⟨fun h => h.elim, fun ⟨_, _, _, _, e, e2, e3, _⟩ => by cases e; rw [h] at e2; cases e2; rw [h2] at e3; cases e3⟩
        | true =>
          simp only [if_true]
          cases h3 : fs.lookup f with
          | none => exact propext ⟨fun h => h.elim, fun ⟨_, _, _, _, e, e2, e3, e4, _⟩ => by cases e; rw [h] at e2; cases e2; rw [h3] at e4; cases e4⟩
          | some v => exact propext ⟨fun q => ⟨p, c, fs, v, rfl, h, h2, h3, q⟩, fun ⟨_, _, _, _, e, e2, e3, e4, q⟩ => by cases e; rw [h] at e2; cases e2; rw [h3] at e4; cases e4; exact q⟩
      | _ => exact propext ⟨fun h => h.elim, fun ⟨_, _, _, _, e, e2, _⟩ => by cases e; rw [h] at e2; cases e2⟩
  | _ => exact propext ⟨fun h => h.elim, fun ⟨_, _, _, _, e, _⟩ => by cases e⟩
theorem z_asgF : wz (run Pg cf (.asgF o f e) env st) N Rt = wv (run Pg cf e env st) fun v st1 => wv (run Pg cf o env st1) fun x st2 => ∃ p c fs, x = .ref p ∧ st2[p]? = some (.ins c fs) ∧ fs.length < 1000 ∧ Pg.fld c f = true ∧ N env (st2.set p (.ins c (putF f v fs))) := by
  simp only [run, wz_b1, wv_exE]
  congr 1
  funext v st1
  congr 1
  funext x st2
  cases x with
  | ref p =>
    dsimp only
    cases h : st2[p]? with
    | none => exact propext ⟨fun h => h.elim, fun ⟨_, _, _, e, e2, _⟩ => by cases e; rw [h] at e2; cases e2⟩
    | some ob =>
      cases ob with
      | ins c fs =>
        dsimp only
        rw [wz_if]
        exact propext ⟨fun ⟨q1, q2⟩ => ⟨p, c, fs, rfl, h, q1.1, q1.2, q2⟩, fun ⟨_, _, _, e, e2, e3, e4, q⟩ => by cases e; rw [h] at e2; cases e2; exact ⟨⟨e3, e4⟩, q⟩⟩
      | _ => exact propext ⟨fun h => h.elim, fun ⟨_, _, _, e, e2, _⟩ => by cases e; rw [h] at e2; cases e2⟩
  | _ => exact propext ⟨fun h => h.elim, fun ⟨_, _, _, e, _⟩ => by cases e⟩
theorem w_cm : wv (run Pg cf (.cm x m as) env st) Q = ∃ f, Pg.cm x m = some f ∧ wl (run Pg cf as env st) fun xs st1 => wv (cf f xs st1) Q := by
  simp only [run]
  cases h : Pg.cm x m with
  | none => exact propext ⟨fun h => h.elim, fun ⟨_, e, _⟩ => nomatch e⟩
  | some f => simp [wv_bs, wv_exE]
theorem w_lset : wv (run Pg cf (.lset a) env st) Q = wv (run Pg cf a env st) fun x st1 => ∃ xs ys, lstOf st1 x = some xs ∧ allS xs = some ys ∧ ys.length ≤ 1 ∧ Q (.int (ys.length : Nat)) st1 := by
  simp only [run, wv_b1]
  congr 1
  funext x st1
  cases h : lstOf st1 x with
  | none => exact propext ⟨fun h => h.elim, fun ⟨_, _, e, _⟩ => nomatch e⟩
  | some xs =>
    dsimp only
    cases h2 : allS xs with
    | none => exact propext ⟨fun h => h.elim, fun ⟨_, _, e, e2, _⟩ => by cases e; rw [h2] at e2; cases e2⟩
    | some ys =>
      dsimp only
      rw [w_if]
      exact propext ⟨fun ⟨q1, q2⟩ => ⟨xs, ys, rfl, h2, q1, q2⟩, fun ⟨_, _, e, e2, e3, q⟩ => by cases e; rw [h2] at e2; cases e2; exact ⟨e3, q⟩⟩
theorem w_rsl : wv (run Pg cf (.rsl a) env st) Q = wv (run Pg cf a env st) fun x st1 => ∃ xs, lstOf st1 x = some xs ∧ Q (.ref st1.length) (st1 ++ [.lst xs.reverse]) := by
  simp only [run, wv_b1]
  congr 1
  funext x st1
  cases h : lstOf st1 x with
  | none => exact propext ⟨fun h => h.elim, fun ⟨_, e, _⟩ => nomatch e⟩
  | some xs => simp [wv_new]
theorem w_cmp2 : wv (run Pg cf (.cmp2 op op2 a b c) env st) Q = wv (run Pg cf a env st) fun x st1 => wv (run Pg cf b env st1) fun y st2 => wv (cmpD op x y st2) fun z st3 => (z = .bl true ∧ wv (run Pg cf c env st3) fun w st4 => wv (cmpD op2 y w st4) Q) ∨ (z = .bl false ∧ Q (.bl false) st3) := by
  simp only [run, wv_b1]
  congr 1
  funext x st1
  congr 1
  funext y st2
  congr 1
  funext z st3
  cases z with
  | bl k => cases k <;> simp [wv_b1, wv_one]
  | _ => exact propext ⟨fun h => h.elim, fun h => by rcases h with ⟨h, _⟩ | ⟨h, _⟩ <;> cases h⟩
theorem z_augF : wz (run Pg cf (.augF o f e) env st) N Rt = wv (run Pg cf o env st) fun x st1 => ∃ p c fs i, x = .ref p ∧ st1[p]? = some (.ins c fs) ∧ Pg.fld c f = true ∧ fs.lookup f = some (.int i) ∧ wv (run Pg cf e env st1) fun y st2 => ∃ j fs2, y = .int j ∧ st2[p]? = some (.ins c fs2) ∧ fs2.length < 1000 ∧ N env (st2.set p (.ins c (putF f (.int (i - j)) fs2))) := by
  simp only [run, wz_b1, wv_exE]
  congr 1
  funext x st1
  cases x with
  | ref p =>
    dsimp only
    cases h : st1[p]? with
    | none => exact propext ⟨fun h => h.elim, fun ⟨_, _, _, _, e, e2, _⟩ => by cases e; rw [h] at e2; cases e2⟩
    | some ob =>
      cases ob with
      | ins c fs =>
        dsimp only
        cases h2 : Pg.fld c f with
        | false => exact propext ⟨fun h => h.elim, fun ⟨_, _, _, _, e, e2, e3, _⟩ => by cases e; rw [h] at e2; cases e2; rw [h2] at e3; cases e3⟩
        | true =>
          simp only [if_true]
          cases h3 : fs.lookup f with
          | none => exact propext ⟨fun h => h.elim, fun ⟨_, _, _, _, e, e2, e3, e4, _⟩ => by cases e; rw [h] at e2; cases e2; rw [h3] at e4; cases e4⟩
          | some v =>
            simp only [wz_b1, wv_exE]
            cases v with
            | int i =>
              have key : (fun (y : V) (st2 : Store) => wz (match V.int i, y with
                  | .int i, .int j => match st2[p]? with
                    | some (.ins c2 fs2) => if c2 = c ∧ fs2.length < 1000 then .nxt env (st2.set p (.ins c2 (putF f (.int (i - j)) fs2))) else .stk
                    | _ => .stk
                  | _, _ => .stk) N Rt) = fun y st2 => ∃ j fs2, y = .int j ∧ st2[p]? = some (.ins c fs2) ∧ fs2.length < 1000 ∧ N env (st2.set p (.ins c (putF f (.int (i - j)) fs2))) := by
                funext y st2
                cases y with
                | int j =>
                  dsimp only
                  cases h4 : st2[p]? with
                  | none => exact propext ⟨fun h => h.elim, fun ⟨_, _, e, e2, _⟩ => nomatch e2⟩
                  | some ob2 =>
                    cases ob2 with
                    | ins c2 fs2 =>
                      dsimp only
                      rw [wz_if]
                      exact propext ⟨fun ⟨⟨q1, q2⟩, q3⟩ => by subst q1; exact ⟨j, fs2, rfl, rfl, q2, q3⟩, fun ⟨_, _, e, e2, e3, q⟩ => by cases e; cases e2; exact ⟨⟨rfl, e3⟩, q⟩⟩
                    | _ => exact propext ⟨fun h => h.elim, fun ⟨_, _, e, e2, _⟩ => nomatch e2⟩
                | _ => exact propext ⟨fun h => h.elim, fun ⟨_, _, e, _⟩ => nomatch e⟩
              refine (congrArg (wv (run Pg cf e env st1)) key).trans ?_
              exact propext ⟨fun q => ⟨p, c, fs, i, rfl, h, h2, h3, q⟩, fun ⟨_, _, _, _, e, e2, e3, e4, q⟩ => by cases e; rw [h] at e2; cases e2; rw [h3] at e4; cases e4; exact q⟩
            | _ =>
              refine propext ⟨fun q => ?_, fun ⟨_, _, _, _, e, e2, e3, e4, q⟩ => by cases e; rw [h] at e2; cases e2; rw [h3] at e4; cases e4⟩
              exfalso
              revert q
              cases run Pg cf e env st1 with
              | val vs st2 => match vs with
                | [] => exact fun h => h
                | [v] => exact fun h => h
                | _ :: _ :: _ => exact fun h => h
              | _ => exact fun h => h
      | _ => exact propext ⟨fun h => h.elim, fun ⟨_, _, _, _, e, e2, _⟩ => by cases e; rw [h] at e2; cases e2⟩
  | _ => exact propext ⟨fun h => h.elim, fun ⟨_, _, _, _, e, _⟩ => by cases e⟩
/-- a call with arguments left out -/
theorem callN_d {d : Nat} {f : Str} {F : Fn} {vs ws : List V} (hf : Pg.fn f = some F) (hl : vs.length ≤ F.ps.length ∧ F.ps.length ≤ vs.length + F.dfl.length) (hw : vs ++ F.dfl.drop (vs.length + F.dfl.length - F.ps.length) = ws)
    (h : wz (run Pg (callN Pg d) F.body (start F.N ws) st) (fun _ st' => Q .non st') Q) : wv (callN Pg (d + 1) f vs st) Q := by
  show wv (match Pg.fn f with
    | none => Mi.R.stk
    | some F => _) Q
  rw [hf]
  dsimp only
  rw [if_pos hl, hw]
  revert h
  cases run Pg (callN Pg d) F.body (start F.N ws) st <;> exact fun h => h
end
/-! ### dicts -/
section
variable {st : Store} {Q : V → Store → Prop} {s : Str} {p : Nat} {kvs : List (Key × V)} {v : V}
theorem c_inD (h : st[p]? = some (.dK kvs)) : wv (cmpD .In (.str s) (.ref p) st) Q = Q (.bl (valV kvs (Sum.inr s : Key)).isSome) st := by
  simp only [cmpD, inD, items, h]
  rfl
theorem c_ninD (h : st[p]? = some (.dK kvs)) : wv (cmpD .NotIn (.str s) (.ref p) st) Q = Q (.bl (!(valV kvs (Sum.inr s : Key)).isSome)) st := by
  simp only [cmpD, inD, items, h]
  rfl
theorem i_dict (h : st[p]? = some (.dK kvs)) (hv : valV kvs (Sum.inr s : Key) = some v) : wv (idxD (.ref p) (.str s) st) Q = Q v st := by
  simp only [idxD, h, hv]
  rfl
theorem b_listD (h : st[p]? = some (.dK kvs)) : wv (bifD .list [.ref p] st) Q = Q (.ref st.length) (st ++ [.lst (kvs.map fun kv => kV kv.1)]) := by
  simp only [bifD, h]
  rfl
theorem set_dict' (h : st[p]? = some (.dK kvs)) (hl : kvs.length < sz) : setI (.ref p) (.str s) v st = some (st.set p (.dK (putK kvs (Sum.inr s : Key) v))) := by
  simp only [setI, h]
  rw [if_pos hl]
theorem bt_dG (h : st[p]? = some (.dK kvs)) : bmTy .dGet (.ref p) st = true := by simp [bmTy, h]
theorem bt_dP (h : st[p]? = some (.dK kvs)) : bmTy .dPop (.ref p) st = true := by simp [bmTy, h]
theorem bd_dG (h : st[p]? = some (.dK kvs)) : wv (bmD .dGet (.ref p) [.str s] st) Q = Q ((valV kvs (Sum.inr s : Key)).getD .non) st := by
  simp only [bmD, h, keyOf?]
  rfl
theorem bd_dP (h : st[p]? = some (.dK kvs)) (hv : valV kvs (Sum.inr s : Key) = some v) : wv (bmD .dPop (.ref p) [.str s] st) Q = Q v (st.set p (.dK (dropK kvs (Sum.inr s : Key)))) := by
  simp only [bmD, h, keyOf?, hv]
  rfl
theorem bt_lc {xs : List V} (h : st[p]? = some (.lst xs)) : bmTy .lClear (.ref p) st = true := by simp [bmTy, h]
theorem bd_lc {xs : List V} (h : st[p]? = some (.lst xs)) : wv (bmD .lClear (.ref p) [] st) Q = Q .non (st.set p (.lst [])) := by
  simp only [bmD, h]
  rfl
end
/-! ### walks of sequences that stay: a list, a frozen list, a tuple, a text -/
section
variable {Pg : Prog} {Q Rt : V → Store → Prop} {N : Ev → Store → Prop} {st : Store} {env : Ev}
inductive Sk where
  | l | f | t
def Sk.at_ (k : Sk) (st : Store) (p : Nat) (xs : List V) : Prop := match k with
  | .l => st[p]? = some (.lst xs)
  | .f => st[p]? = some (.fro xs)
  | .t => st[p]? = some (.tup xs)
def Sk.ik : Sk → Ik
  | .l => .lstk
  | .f => .lstk
  | .t => .tupk
theorem sk_rk {k : Sk} {p : Nat} {xs : List V} (h : k.at_ st p xs) : rk .seq [.ref p] st = k.ik := by
  cases k <;> simp only [Sk.at_] at h <;> simp [rk, h, Sk.ik]
theorem sk_cur {k : Sk} {p j : Nat} {xs : List V} (h : k.at_ st p xs) : cur k.ik [.ref p] j st = nth xs j fun x => (x, st) := by
  cases k <;> simp only [Sk.at_] at h <;> simp [cur, h, Sk.ik]
theorem sk_turns {k : Sk} {p : Nat} {xs : List V} (h : k.at_ st p xs) : turns k.ik [.ref p] st = xs.length := by
  cases k <;> simp only [Sk.at_] at h <;> simp [turns, items, h, Sk.ik]
theorem one_arg' {P : V → Store → Prop} {r : R} (h : wv r P) : wl r fun vs st1 => ∃ x, vs = [x] ∧ P x st1 := by
  revert h
  cases r with
  | val vs st1 => match vs with
    | [] => exact fun h => h.elim
    | [x] => exact fun h => ⟨x, rfl, h⟩
    | _ :: _ :: _ => exact fun h => h.elim
  | _ => exact fun h => h.elim
/-- for x in a sequence that stays -/
theorem for_sk {cf : Str → List V → Store → R} {a b : T} {v p : Nat} {xs : List V} (k : Sk) (Inv : Nat → Ev → Store → Prop) (hp : ∀ j env st, Inv j env st → k.at_ st p xs) (h : wv (run Pg cf a env st) fun x st1 => x = .ref p ∧ Inv 0 env st1)
    (hs : ∀ j x env st, xs[j]? = some x → Inv j env st → v < env.length ∧ wz (run Pg cf b (env.set v (some x)) st) (Inv (j + 1)) Rt) (he : ∀ env st, Inv xs.length env st → N env st) : wz (run Pg cf (.for (.n v) .seq a b) env st) N Rt := by
  rw [z_for]
  refine (one_arg' h).imp ?_
  rintro vs st1 ⟨x, rfl, rfl, h0⟩
  have e1 := hp _ _ _ h0
  rw [sk_rk e1]
  have et : turns .seq [.ref p] st1 = turns k.ik [.ref p] st1 := by cases k <;> rfl
  rw [et]
  refine loop_w Inv (n := xs.length) ?_ ?_ xs.length 0 _ env st1 (by omega) (by rw [sk_turns e1]; omega) h0
  · intro j env st hj hI
    obtain ⟨hv, h1⟩ := hs j xs[j] env st (List.getElem?_eq_getElem hj) hI
    refine ⟨xs[j], st, ?_, ?_⟩
    · rw [sk_cur (hp _ _ _ hI)]
      simp [nth, List.getElem?_eq_getElem hj]
    · rw [bdT_n hv]
      exact h1
  · intro env st hI
    refine ⟨?_, he env st hI⟩
    rw [sk_cur (hp _ _ _ hI)]
    simp [nth]
/-- what a comprehension's turn does: a test, the element -/
def bdL1 (tg : Tg) (env0 : Ev) (t ev : Ev → Store → R) (x : V) (st : Store) : R := match setTg tg x env0 st with
  | none => .stk
  | some env2 => (t env2 st).bs fun bs st3 => match bs with
    | [] => (ev env2 st3).b1 fun v st4 => .val [v] st4
    | [b] => match truth b st3 with
      | some true => (ev env2 st3).b1 fun v st4 => .val [v] st4
      | some false => .val [] st3
      | none => .stk
    | _ => .stk
theorem w_lc {cf : Str → List V → Store → R} {tg : Tg} {k : Ik} {own : List Nat} {a t e : T} : wv (run Pg cf (.lc own tg k a t e) env st) Q = wl (run Pg cf a env st) fun vs st1 => (∃ o, cur (rk k vs st1) vs 0 st1 = some o) ∧ wv (lcN (cur (rk k vs st1) vs) (bdL1 tg (wipe env own) (run Pg cf t) (run Pg cf e)) st1.length (turns k vs st1 + 1) 0 (st1 ++ [.lst []])) Q := by
  have e1 : run Pg cf (.lc own tg k a t e) env st = (run Pg cf a env st).bs fun vs st1 => match cur (rk k vs st1) vs 0 st1 with
    | none => .stk
    | some _ => lcN (cur (rk k vs st1) vs) (bdL1 tg (wipe env own) (run Pg cf t) (run Pg cf e)) st1.length (turns k vs st1 + 1) 0 (st1 ++ [.lst []]) := rfl
  rw [e1, wv_bs]
  congr 1
  funext vs st1
  cases cur (rk k vs st1) vs 0 st1 with
  | none => exact propext ⟨fun h => h.elim, fun ⟨⟨_, h⟩, _⟩ => nomatch h⟩
  | some o => simp
/-- a turn of [e for .. if t] -/
theorem turn_if {cf : Str → List V → Store → R} {v D : Nat} {t e : T} {x : V} {acc : List V} {Inv Inv' : List V → Store → Prop} (hv : v < env.length)
    (h : wv (run Pg cf t (env.set v (some x)) st) fun b st1 => tr (truth b st1) (wv (run Pg cf e (env.set v (some x)) st1) fun y st2 => st2[D]? = some (.lst acc) ∧ acc.length < sz ∧ Inv (acc ++ [y]) (st2.set D (.lst (acc ++ [y])))) (Inv acc st1)) :
    wl (bdL1 (.n v) env (run Pg cf (.som t)) (run Pg cf e) x st) fun ys st2 => (ys = [] ∧ Inv acc st2) ∨ ∃ y, ys = [y] ∧ st2[D]? = some (.lst acc) ∧ acc.length < sz ∧ Inv (acc ++ [y]) (st2.set D (.lst (acc ++ [y]))) := by
  unfold bdL1
  rw [setN hv]
  dsimp only
  rw [wl_bs, w_som]
  refine h.imp fun b st1 h1 => ?_
  dsimp only
  revert h1
  cases truth b st1 with
  | none => exact fun h => h.elim
  | some k =>
    cases k with
    | true =>
      intro h1
      dsimp only
      rw [wl_b1]
      exact wv.imp h1 fun y st2 h2 => .inr ⟨y, rfl, h2⟩
    | false => exact fun h1 => .inl ⟨rfl, h1⟩
theorem turn_0 {cf : Str → List V → Store → R} {v D : Nat} {e : T} {x : V} {acc : List V} {Inv : List V → Store → Prop} (hv : v < env.length)
    (h : wv (run Pg cf e (env.set v (some x)) st) fun y st2 => st2[D]? = some (.lst acc) ∧ acc.length < sz ∧ Inv (acc ++ [y]) (st2.set D (.lst (acc ++ [y])))) :
    wl (bdL1 (.n v) env (run Pg cf .nil) (run Pg cf e) x st) fun ys st2 => (ys = [] ∧ Inv acc st2) ∨ ∃ y, ys = [y] ∧ st2[D]? = some (.lst acc) ∧ acc.length < sz ∧ Inv (acc ++ [y]) (st2.set D (.lst (acc ++ [y]))) := by
  unfold bdL1
  rw [setN hv]
  dsimp only
  rw [wl_bs, w_nil]
  dsimp only
  rw [wl_b1]
  exact h.imp fun y st2 h2 => .inr ⟨y, rfl, h2⟩
/-- [e for x in xs (if t)], a sequence that stays; a turn by turn_if, turn_0 -/
theorem lc_sk {cf : Str → List V → Store → R} {a t e : T} {v p : Nat} {xs : List V} {own : List Nat} (k : Sk) (Inv : Nat → List V → Store → Prop) (D : Nat) (hp : ∀ j acc st, Inv j acc st → k.at_ st p xs)
    (h : wv (run Pg cf a env st) fun x st1 => x = .ref p ∧ k.at_ st1 p xs ∧ D = st1.length ∧ Inv 0 [] (st1 ++ [.lst []]))
    (hs : ∀ j x acc st, xs[j]? = some x → Inv j acc st → wl (bdL1 (.n v) (wipe env own) (run Pg cf t) (run Pg cf e) x st) fun ys st2 => (ys = [] ∧ Inv (j + 1) acc st2) ∨ ∃ y, ys = [y] ∧ st2[D]? = some (.lst acc) ∧ acc.length < sz ∧ Inv (j + 1) (acc ++ [y]) (st2.set D (.lst (acc ++ [y])))) (he : ∀ acc st, Inv xs.length acc st → Q (.ref D) st) :
    wv (run Pg cf (.lc own (.n v) .seq a t e) env st) Q := by
  rw [w_lc]
  refine (one_arg' h).imp ?_
  rintro vs st1 ⟨x, rfl, rfl, e1, rfl, h0⟩
  rw [sk_rk e1]
  refine ⟨?_, ?_⟩
  · rw [sk_cur e1]
    simp only [nth]
    split
    · exact ⟨_, rfl⟩
    · exact ⟨_, rfl⟩
  have et : turns .seq [.ref p] st1 = turns k.ik [.ref p] st1 := by cases k <;> rfl
  rw [et]
  refine lc_w Inv (n := xs.length) ?_ ?_ xs.length 0 _ [] _ (Nat.zero_add _) (by rw [sk_turns e1]; omega) h0
  · intro j acc st hj hI
    refine ⟨xs[j], st, ?_, hs j xs[j] acc st (List.getElem?_eq_getElem hj) hI⟩
    rw [sk_cur (hp _ _ _ hI)]
    simp [nth, List.getElem?_eq_getElem hj]
  · intro acc st hI
    refine ⟨?_, he acc st hI⟩
    rw [sk_cur (hp _ _ _ hI)]
    simp [nth]
/-- [e for c in a text] -/
theorem lc_str {cf : Str → List V → Store → R} {a t e : T} {v : Nat} {s : Str} {own : List Nat} (Inv : Nat → List V → Store → Prop) (D : Nat)
    (h : wv (run Pg cf a env st) fun x st1 => x = .str s ∧ D = st1.length ∧ Inv 0 [] (st1 ++ [.lst []]))
    (hs : ∀ j c acc st, s.cps.toList[j]? = some c → Inv j acc st → wl (bdL1 (.n v) (wipe env own) (run Pg cf t) (run Pg cf e) (.str ⟨#[c]⟩) st) fun ys st2 => (ys = [] ∧ Inv (j + 1) acc st2) ∨ ∃ y, ys = [y] ∧ st2[D]? = some (.lst acc) ∧ acc.length < sz ∧ Inv (j + 1) (acc ++ [y]) (st2.set D (.lst (acc ++ [y])))) (he : ∀ acc st, Inv s.cps.toList.length acc st → Q (.ref D) st) :
    wv (run Pg cf (.lc own (.n v) .seq a t e) env st) Q := by
  rw [w_lc]
  refine (one_arg' h).imp ?_
  rintro vs st1 ⟨x, rfl, rfl, rfl, h0⟩
  have ek : rk .seq [.str s] st1 = .strk := by simp [rk]
  rw [ek]
  have ec : ∀ j st, cur .strk [.str s] j st = nth s.cps.toList j fun c => (.str ⟨#[c]⟩, st) := fun j st => by simp [cur]
  refine ⟨?_, ?_⟩
  · rw [ec]
    simp only [nth]
    split
    · exact ⟨_, rfl⟩
    · exact ⟨_, rfl⟩
  refine lc_w Inv (n := s.cps.toList.length) ?_ ?_ s.cps.toList.length 0 _ [] _ (Nat.zero_add _) (by simp [turns, Str.length]) h0
  · intro j acc st hj hI
    refine ⟨.str ⟨#[s.cps.toList[j]]⟩, st, ?_, hs j _ acc st (List.getElem?_eq_getElem hj) hI⟩
    rw [ec]
    simp only [nth, List.getElem?_eq_getElem hj]
  · intro acc st hI
    refine ⟨?_, he acc st hI⟩
    rw [ec]
    simp [nth]
theorem lc_str0 {cf : Str → List V → Store → R} {a e : T} {v : Nat} {s : Str} {own : List Nat} (Inv : Nat → List V → Store → Prop) (D : Nat) (hv : v < (wipe env own).length)
    (h : wv (run Pg cf a env st) fun x st1 => x = .str s ∧ D = st1.length ∧ Inv 0 [] (st1 ++ [.lst []]))
    (hs : ∀ j c acc st, s.cps.toList[j]? = some c → Inv j acc st → wv (run Pg cf e ((wipe env own).set v (some (.str ⟨#[c]⟩))) st) fun y st2 => st2[D]? = some (.lst acc) ∧ acc.length < sz ∧ Inv (j + 1) (acc ++ [y]) (st2.set D (.lst (acc ++ [y])))) (he : ∀ acc st, Inv s.cps.toList.length acc st → Q (.ref D) st) :
    wv (run Pg cf (.lc own (.n v) .seq a .nil e) env st) Q :=
  lc_str Inv D h (fun j c acc st hc hI => turn_0 (Inv := Inv (j + 1)) hv (hs j c acc st hc hI)) he
theorem lc_sk0 {cf : Str → List V → Store → R} {a e : T} {v p : Nat} {xs : List V} {own : List Nat} (k : Sk) (Inv : Nat → List V → Store → Prop) (D : Nat) (hv : v < (wipe env own).length) (hp : ∀ j acc st, Inv j acc st → k.at_ st p xs)
    (h : wv (run Pg cf a env st) fun x st1 => x = .ref p ∧ k.at_ st1 p xs ∧ D = st1.length ∧ Inv 0 [] (st1 ++ [.lst []]))
    (hs : ∀ j x acc st, xs[j]? = some x → Inv j acc st → wv (run Pg cf e ((wipe env own).set v (some x)) st) fun y st2 => st2[D]? = some (.lst acc) ∧ acc.length < sz ∧ Inv (j + 1) (acc ++ [y]) (st2.set D (.lst (acc ++ [y])))) (he : ∀ acc st, Inv xs.length acc st → Q (.ref D) st) :
    wv (run Pg cf (.lc own (.n v) .seq a .nil e) env st) Q :=
  lc_sk k Inv D hp h (fun j x acc st hc hI => turn_0 (Inv := Inv (j + 1)) hv (hs j x acc st hc hI)) he
theorem lc_sk1 {cf : Str → List V → Store → R} {a t e : T} {v p : Nat} {xs : List V} {own : List Nat} (k : Sk) (Inv : Nat → List V → Store → Prop) (D : Nat) (hv : v < (wipe env own).length) (hp : ∀ j acc st, Inv j acc st → k.at_ st p xs)
    (h : wv (run Pg cf a env st) fun x st1 => x = .ref p ∧ k.at_ st1 p xs ∧ D = st1.length ∧ Inv 0 [] (st1 ++ [.lst []]))
    (hs : ∀ j x acc st, xs[j]? = some x → Inv j acc st → wv (run Pg cf t ((wipe env own).set v (some x)) st) fun b st1 => tr (truth b st1) (wv (run Pg cf e ((wipe env own).set v (some x)) st1) fun y st2 => st2[D]? = some (.lst acc) ∧ acc.length < sz ∧ Inv (j + 1) (acc ++ [y]) (st2.set D (.lst (acc ++ [y])))) (Inv (j + 1) acc st1)) (he : ∀ acc st, Inv xs.length acc st → Q (.ref D) st) :
    wv (run Pg cf (.lc own (.n v) .seq a (.som t) e) env st) Q :=
  lc_sk k Inv D hp h (fun j x acc st hc hI => turn_if (Inv := Inv (j + 1)) (Inv' := Inv (j + 1)) hv (hs j x acc st hc hI)) he
end
end Mi
set_option maxHeartbeats 400000
/-! Mv: stores, lists, data: what the plain laws share. -/
namespace Mi
open PySem PySem.Spec PyProof.Rows L2
variable {Q Rt : V → Store → Prop} {st : Store} {d : Nat}
theorem atI_nn {α : Type} {xs : List α} {k : Int} (h0 : 0 ≤ k) (h : k < xs.length) : ∃ v, atI xs k = some v ∧ xs[k.toNat]? = some v := by
  have hl : k.toNat < xs.length := by omega
  refine ⟨xs[k.toNat], ?_, List.getElem?_eq_getElem hl⟩
  unfold atI ixN
  rw [if_pos h0, if_pos h]
  exact List.getElem?_eq_getElem hl
theorem get_pre {α : Type} {a b : List α} (h : a <+: b) {i : Nat} {x : α} (e : a[i]? = some x) : b[i]? = some x := by
  obtain ⟨l, rfl⟩ := h
  rw [List.getElem?_append_left (List.getElem?_eq_some_iff.mp e).1]
  exact e
theorem get_new {α : Type} {a : List α} {x : α} : (a ++ [x])[a.length]? = some x := by simp
theorem o_addNew {xs ys : List V} (h : xs.length + ys.length ≤ sz) : wv (binD .Add (.ref st.length) (.ref (st ++ [Mi.IO.lst xs]).length) (st ++ [Mi.IO.lst xs] ++ [Mi.IO.lst ys])) Q = Q (.ref (st ++ [Mi.IO.lst xs] ++ [Mi.IO.lst ys]).length) (st ++ [Mi.IO.lst xs] ++ [Mi.IO.lst ys] ++ [Mi.IO.lst (xs ++ ys)]) :=
  o_addL (get_pre (List.prefix_append _ _) get_new) get_new h
theorem szl {n : Nat} (h : n ≤ 16777216) : n ≤ sz := h
theorem at0 {x : V} {xs : List V} : atI (x :: xs) 0 = some x := by
  unfold atI ixN
  rw [if_pos (by decide), if_pos (by simp)]
  rfl
theorem at1 {x y : V} {xs : List V} : atI (x :: y :: xs) 1 = some y := by
  unfold atI ixN
  rw [if_pos (by decide), if_pos (by simp; omega)]
  rfl
theorem at2 {x y z : V} {xs : List V} : atI (x :: y :: z :: xs) 2 = some z := by
  unfold atI ixN
  rw [if_pos (by decide), if_pos (by simp; omega)]
  rfl
theorem ty_tup {p : Nat} {xs : List V} (h : st[p]? = some (.tup xs)) : isTy (.ref p) st = some .tuple := by simp [isTy, h]
theorem ty_lst {p : Nat} {xs : List V} (h : st[p]? = some (.lst xs)) : isTy (.ref p) st = some .list := by simp [isTy, h]
theorem ty_str {s : Str} : isTy (.str s) st = some .str := rfl
theorem ty_int {i : Int} : isTy (.int i) st = some .int := rfl
theorem sub_1 : subTy .tuple .tuple = true := rfl
theorem sub_2 : subTy .str .str = true := rfl
theorem sub_3 : subTy .int .int = true := rfl
theorem sub_4 : subTy .int .bool = false := rfl
theorem sub_5 : subTy .list .list = true := rfl
theorem in_ok' {x : V} {p : Nat} {xs : List V} (h : items st (.ref p) = some xs) (hf : (flatV x && xs.all flatV) = true) : wv (cmpD .In x (.ref p) st) Q = Q (.bl (inV x xs)) st := by
  simp only [cmpD, inD, h, hf, if_true]
  rfl
theorem set_new {α : Type} {a : List α} {x y : α} : (a ++ [x]).set a.length y = a ++ [y] := by simp
theorem bt_lst {p : Nat} {xs : List V} (h : st[p]? = some (.lst xs)) : bmTy .lAppend (.ref p) st = true := by simp [bmTy, h]
theorem bd_app {p : Nat} {xs : List V} {y : V} (h : st[p]? = some (.lst xs)) (hl : xs.length < sz) : wv (bmD .lAppend (.ref p) [y] st) Q = Q .non (st.set p (.lst (xs ++ [y]))) := by
  simp only [bmD, h]
  rw [if_pos hl]
  rfl
theorem pre_set {a b : Store} {i : Nat} {x : Mi.IO} (h : a <+: b) (hi : a.length ≤ i) : a <+: b.set i x := by
  obtain ⟨l, rfl⟩ := h
  rw [List.set_append_right _ _ hi]
  exact List.prefix_append _ _
theorem get_set {a : Store} {i j : Nat} {xs ys : List V} {o : Mi.IO} (hi : a[i]? = some (.lst xs)) (hj : a[j]? = some o) (hne : ∀ zs, o ≠ .lst zs) : (a.set i (.lst ys))[j]? = some o := by
  rw [List.getElem?_set_ne]
  · exact hj
  · intro e
    subst e
    rw [hi] at hj
    exact hne xs (Option.some.inj hj).symm
theorem get_set_self {a : Store} {i : Nat} {xs : List V} {o : Mi.IO} (hi : a[i]? = some (.lst xs)) : (a.set i o)[i]? = some o := List.getElem?_set_self (List.getElem?_eq_some_iff.mp hi).1
theorem take_snoc {α : Type} {l : List α} {j : Nat} {x : α} (h : l[j]? = some x) : l.take (j + 1) = l.take j ++ [x] := by
  rw [List.take_add_one, h]
  rfl
theorem s_fro {p : Nat} {xs : List V} {l h : Option Int} (e : st[p]? = some (.fro xs)) : wv (slcD (.ref p) l h st) Q = Q (.ref st.length) (st ++ [.lst (cutV xs l h)]) := by
  simp only [slcD, e]
  rfl
theorem part1 {i : Int} : Mi.part [V.int i] = some (some i) := rfl
def Dat (k : Nat) (st : Store) (v : V) : Prop := ∃ x, toD k st v = some x ∧ x.canLay0 = true ∧ x.depth ≤ k
theorem mapM_dat {k : Nat} : ∀ {xs : List V}, (∀ x ∈ xs, Dat k st x) → ∃ ds, xs.mapM (toD k st) = some ds ∧ PyData.canLayAll0 ds = true ∧ PyData.depthAll ds ≤ k
  | [], _ => ⟨[], rfl, rfl, Nat.zero_le _⟩
  | x :: xs, h => by
    obtain ⟨d1, e1, c1, p1⟩ := h x (List.mem_cons_self ..)
    obtain ⟨ds, e2, c2, p2⟩ := mapM_dat fun y hy => h y (List.mem_cons_of_mem _ hy)
    refine ⟨d1 :: ds, ?_, ?_, ?_⟩
    · rw [List.mapM_cons, e1, e2]
      rfl
    · simp only [PyData.canLayAll0, c1, c2, Bool.and_self]
    · simp only [PyData.depthAll]
      omega
theorem dat_int {k : Nat} {i : Int} : Dat k st (.int i) := ⟨.int i, by cases k <;> rfl, rfl, Nat.zero_le _⟩
theorem dat_str {k : Nat} {s : Str} (h : PyData.canLay0 (.str s) = true) : Dat k st (.str s) := ⟨.str s, by cases k <;> rfl, h, Nat.zero_le _⟩
theorem dat_lst {k p : Nat} {xs : List V} (hp : st[p]? = some (.lst xs)) (h : ∀ x ∈ xs, Dat k st x) : Dat (k + 1) st (.ref p) := by
  obtain ⟨ds, e, c, q⟩ := mapM_dat h
  refine ⟨.list ds, ?_, ?_, ?_⟩
  · simp only [toD, hp, e]
    rfl
  · simp only [PyData.canLay0, c]
  · simp only [PyData.depth]
    omega
theorem dat_tup {k p : Nat} {xs : List V} (hp : st[p]? = some (.tup xs)) (h : ∀ x ∈ xs, Dat k st x) : Dat (k + 1) st (.ref p) := by
  obtain ⟨ds, e, c, q⟩ := mapM_dat h
  refine ⟨.tuple ds, ?_, ?_, ?_⟩
  · simp only [toD, hp, e]
    rfl
  · simp only [PyData.canLay0, c]
  · simp only [PyData.depth]
    omega
theorem paired_left {α β : Type} {F : α → β → Prop} : ∀ {xs : List α} {ys : List β}, Paired F xs ys → ∀ x ∈ xs, ∃ y ∈ ys, F x y
  | _, _, .nil, x, h => nomatch h
  | _, _, .cons (a := a) (b := b) f r, x, h => by
    rcases List.mem_cons.mp h with rfl | h
    · exact ⟨b, List.mem_cons_self .., f⟩
    · obtain ⟨y, hy, g⟩ := paired_left r x h
      exact ⟨y, List.mem_cons_of_mem _ hy, g⟩
theorem mapM_same {f : V → Option PyData} : ∀ {xs ys : List V}, Paired (fun a b => f a = f b) xs ys → xs.mapM f = ys.mapM f
  | _, _, .nil => rfl
  | _, _, .cons f r => by rw [List.mapM_cons, List.mapM_cons, f, mapM_same r]
theorem c_neD {p q : Nat} {x : PyData} (h1 : toD 60 st (.ref p) = some x) (h2 : toD 60 st (.ref q) = some x) (hc : x.canLay0 = true) (hd : x.depth ≤ 60) : wv (cmpD .NotEq (.ref p) (.ref q) st) Q = Q (.bl false) st := by
  have hs : SeqAt.shaped x = true := by
    unfold SeqAt.shaped
    rw [hc, decide_eq_true (by omega)]
    rfl
  have e : eqD (.ref p) (.ref q) st = some true := by
    unfold eqD
    simp only [scal]
    rw [h1, h2]
    simp only [hs, Bool.and_self, if_true]
    rw [PySem.SeqAt.eqv_refl x hc]
    rfl
  simp only [cmpD, e]
  rfl
theorem allB_rep : ∀ n : Nat, Mi.allB (List.replicate n (V.bl true)) = some (List.replicate n true)
  | 0 => rfl
  | n + 1 => by
    rw [List.replicate_succ, List.replicate_succ, Mi.allB, allB_rep n]
    rfl
theorem b_all {p n : Nat} (h : st[p]? = some (.lst (List.replicate n (V.bl true)))) : wv (bifD .all [.ref p] st) Q = Q (.bl true) st := by
  have e : (List.replicate n true).all id = true := by simp
  simp only [bifD, h, allB_rep, e]
  rfl
theorem paired_comp {α β γ : Type} {F : α → β → Prop} {G : β → γ → Prop} {H : α → γ → Prop} (h : ∀ a b c, F a b → G b c → H a c) : ∀ {xs : List α} {ys : List β} {zs : List γ}, Paired F xs ys → Paired G ys zs → Paired H xs zs
  | _, _, _, .nil, .nil => .nil
  | _, _, _, .cons f r, .cons g q => .cons (h _ _ _ f g) (paired_comp h r q)
theorem sub_b : subTy .bool .bool = true := rfl
theorem ty_bl {b : Bool} : isTy (.bl b) st = some .bool := rfl
theorem s_lst {p : Nat} {xs : List V} {l h : Option Int} (e : st[p]? = some (.lst xs)) : wv (slcD (.ref p) l h st) Q = Q (.ref st.length) (st ++ [Mi.IO.lst (cutV xs l h)]) := by
  simp only [slcD, e]
  rfl
theorem tr_lst {p : Nat} {xs : List V} {A B : Prop} (h : st[p]? = some (.lst xs)) : tr (truth (.ref p) st) A B = ((xs ≠ [] → A) ∧ (xs = [] → B)) := by
  simp only [truth, h]
  cases xs <;> simp [tr]
theorem cut_tail {xs : List V} : cutV xs (some 1) none = xs.drop 1 := by
  have e : HT.sIx xs.length 0 (some 1) = min 1 xs.length := HT.sIx_nat _ _ 1
  unfold cutV
  rw [e]
  show (xs.drop (min 1 xs.length)).take (xs.length - min 1 xs.length) = _
  cases xs with
  | nil => rfl
  | cons x xs =>
    have : min 1 (x :: xs).length = 1 := by simp
    rw [this]
    apply List.take_of_length_le
    simp
theorem inV_str {s : Str} {xs : List Str} : inV (.str s) (xs.map V.str) = decide (s ∈ xs) := by
  unfold inV
  induction xs with
  | nil => rfl
  | cons x xs ih =>
    rw [List.map_cons, List.any_cons, ih]
    show ((x == s) || decide (s ∈ xs)) = _
    by_cases e : x = s
    · subst e
      simp
    · have : ¬ s = x := fun h => e h.symm
      simp [e, this]
theorem flat_str {s : Str} {xs : List Str} : (flatV (.str s) && (xs.map V.str).all flatV) = true := by
  have : (xs.map V.str).all flatV = true := by
    induction xs with
    | nil => rfl
    | cons x xs ih => rw [List.map_cons, List.all_cons, ih]; rfl
  rw [this]
  rfl
end Mi
set_option maxHeartbeats 400000
/-! Mx: stores that change at told places alone. -/
namespace Mi
open PySem PySem.Spec PyProof.Rows L2
variable {Q Rt : V → Store → Prop} {st st' st'' : Store} {d : Nat} {S S' : Nat → Prop}
/-- st' is st but at S, and what is new -/
def Ext (S : Nat → Prop) (st st' : Store) : Prop := st.length ≤ st'.length ∧ ∀ i, i < st.length → ¬ S i → st'[i]? = st[i]?
theorem Ext.refl : Ext S st st := ⟨Nat.le_refl _, fun _ _ _ => rfl⟩
theorem Ext.of (h : st <+: st') : Ext S st st' := by
  obtain ⟨l, rfl⟩ := h
  refine ⟨by simp, fun i hi _ => List.getElem?_append_left hi⟩
theorem Ext.trans (h : Ext S st st') (g : Ext S st' st'') : Ext S st st'' := ⟨Nat.le_trans h.1 g.1, fun i hi hs => (g.2 i (Nat.lt_of_lt_of_le hi h.1) hs).trans (h.2 i hi hs)⟩
theorem Ext.mono (h : Ext S st st') (g : ∀ i, i < st.length → S i → S' i) : Ext S' st st' := ⟨h.1, fun i hi hs => h.2 i hi fun q => hs (g i hi q)⟩
theorem Ext.late (h : Ext S st st') (g : Ext S' st' st'') (hs : ∀ i, i < st.length → S' i → S i) : Ext S st st'' := ⟨Nat.le_trans h.1 g.1, fun i hi hn => (g.2 i (Nat.lt_of_lt_of_le hi h.1) fun q => hn (hs i hi q)).trans (h.2 i hi hn)⟩
theorem Ext.snoc {o : Mi.IO} : Ext S st (st ++ [o]) := .of (List.prefix_append _ _)
theorem Ext.set {i : Nat} {o : Mi.IO} (h : Ext S st st') (hi : S i ∨ st.length ≤ i) : Ext S st (st'.set i o) := ⟨by rw [List.length_set]; exact h.1, fun j hj hs => by
  rw [List.getElem?_set_ne]
  · exact h.2 j hj hs
  · intro e
    subst e
    rcases hi with hi | hi
    · exact hs hi
    · omega⟩
theorem lt_of_get {α : Type} {l : List α} {i : Nat} {x : α} (h : l[i]? = some x) : i < l.length := (List.getElem?_eq_some_iff.mp h).1
theorem Ext.get (h : Ext S st st') {i : Nat} {o : Mi.IO} (e : st[i]? = some o) (hs : ¬ S i) : st'[i]? = some o := by
  rw [h.2 i (lt_of_get e) hs]
  exact e
theorem get_set_self' {i : Nat} {o : Mi.IO} (h : i < st.length) : (st.set i o)[i]? = some o := List.getElem?_set_self h
theorem get_set_ne {i j : Nat} {o o' : Mi.IO} (e : st[j]? = some o) (h : j ≠ i) : (st.set i o')[j]? = some o := by
  rw [List.getElem?_set_ne (Ne.symm h)]
  exact e
/-- a list of texts that stays but at S -/
def LsX (S : Nat → Prop) (st : Store) (v : V) (xs : List Str) : Prop := ∃ p, v = .ref p ∧ ¬ S p ∧ st[p]? = some (.lst (xs.map V.str))
theorem LsX.ext {v : V} {xs : List Str} (g : Ext S st st') : LsX S st v xs → LsX S st' v xs := fun ⟨p, e, n, q⟩ => ⟨p, e, n, g.get q n⟩
theorem LsX.mono {v : V} {xs : List Str} (h : ∀ i, i < st.length → S i → S' i) : LsX S' st v xs → LsX S st v xs := fun ⟨p, e, n, q⟩ => ⟨p, e, fun z => n (h p (lt_of_get q) z), q⟩
theorem paired_ext {α : Type} {F : Store → V → α → Prop} (hF : ∀ v x, F st v x → F st' v x) {vs : List V} {xs : List α} (h : Paired (F st) vs xs) : Paired (F st') vs xs := Paired.mono hF h
/-- a dict by names -/
def kvOf (l : List (Str × V)) : List (Key × V) := l.map fun p => (Sum.inr p.1, p.2)
def lkS : List (Str × V) → Str → Option V
  | [], _ => none
  | p :: r, s => if p.1 = s then some p.2 else lkS r s
theorem val_kvOf {s : Str} : ∀ {l : List (Str × V)}, valV (kvOf l) (Sum.inr s : Key) = lkS l s
  | [] => rfl
  | p :: r => by
    unfold lkS
    by_cases e : p.1 = s
    · rw [if_pos e]
      exact valV_pos (show (Sum.inr p.1 : Key) = Sum.inr s by rw [e])
    · rw [if_neg e, ← val_kvOf (l := r)]
      exact valV_neg fun h => e (Sum.inr.inj h)
theorem kvOf_keys {l : List (Str × V)} : (kvOf l).map (fun kv => kV kv.1) = (l.map (·.1)).map V.str := by
  unfold kvOf
  rw [List.map_map, List.map_map]
  rfl
theorem kvOf_len {l : List (Str × V)} : (kvOf l).length = l.length := by
  unfold kvOf
  rw [List.length_map]
theorem put_new {l : List (Str × V)} {s : Str} {v : V} (h : lkS l s = none) : putK (kvOf l) (Sum.inr s : Key) v = kvOf (l ++ [(s, v)]) := by
  unfold putK
  rw [valV_any, val_kvOf, h]
  simp [kvOf]
theorem lk_none {s : Str} : ∀ {l : List (Str × V)}, s ∉ l.map (·.1) → lkS l s = none
  | [], _ => rfl
  | p :: r, h => by
    unfold lkS
    have h1 : ¬ p.1 = s := fun e => h (by rw [List.map_cons, e]; exact List.mem_cons_self ..)
    rw [if_neg h1]
    exact lk_none fun g => h (by rw [List.map_cons]; exact List.mem_cons_of_mem _ g)
theorem lk_at {s : Str} {v : V} : ∀ {l : List (Str × V)} {i : Nat}, (l.map (·.1)).Nodup → l[i]? = some (s, v) → lkS l s = some v
  | [], i, _, h => by simp at h
  | p :: r, 0, _, h => by
    have : p = (s, v) := Option.some.inj h
    subst this
    simp [lkS]
  | p :: r, i + 1, hn, h => by
    have hn : (p.1 :: r.map (·.1)).Nodup := hn
    obtain ⟨n1, n2⟩ := List.nodup_cons.mp hn
    have hr : r[i]? = some (s, v) := h
    have hne : ¬ p.1 = s := fun e => n1 (by rw [e]; exact List.mem_map.mpr ⟨_, List.mem_of_getElem? hr, rfl⟩)
    unfold lkS
    rw [if_neg hne]
    exact lk_at n2 hr
theorem lstOf_at {p : Nat} {xs : List V} (h : st[p]? = some (.lst xs)) : lstOf st (.ref p) = some xs := by simp [lstOf, h]
theorem allS_map : ∀ bs : List Str, allS (bs.map V.str) = some bs
  | [] => rfl
  | b :: bs => by
    rw [List.map_cons, allS, allS_map bs]
    rfl
theorem str_ne_non {s : Str} : (V.str s = V.non) = False := eq_false fun h => nomatch h
theorem ref_ne_non {i : Nat} : (V.ref i = V.non) = False := eq_false fun h => nomatch h
theorem putF_len {f : Str} {v : V} : ∀ {fs : List (Str × V)}, (putF f v fs).length ≤ fs.length + 1
  | [] => Nat.le_refl _
  | p :: r => by
    unfold putF
    split
    · simp
    · rw [List.length_cons, List.length_cons]
      exact Nat.succ_le_succ putF_len
theorem putF_lt {f : Str} {v : V} {fs : List (Str × V)} {n : Nat} (h : fs.length < n) : (putF f v fs).length < n + 1 := by
  have := putF_len (f := f) (v := v) (fs := fs)
  omega
end Mi
set_option maxHeartbeats 400000
/-! k14: the plain law, texts. -/
namespace Mk14
open PySem PySem.Spec PyProof.Rows L2 Mi
open PySem.Builtin PySem.Builtin.Str PySem.StrLaws
theorem str_ext {a b : Str} (h : a.cps.toList = b.cps.toList) : a = b := by
  cases a; cases b
  congr 1
  exact Array.toList_inj.mp h
theorem app_l {a b : Str} : (a ++ b).cps.toList = a.cps.toList ++ b.cps.toList := by
  show (a.cps ++ b.cps).toList = _
  rw [Array.toList_append]
theorem len_l {a : Str} : a.length = a.cps.toList.length := rfl
/-- one place of the search for line ends -/
def stp (s : Str) (i : Nat) (st : LsSt) : LsSt := if (decide (st.2 ≤ i) && Unicode.isLineBreak (s.cps.getD i 0)) = true then (st.1.push (st.2, i, lsNext s i), lsNext s i) else st
def go (s : Str) : Nat → Nat → LsSt → LsSt
  | 0, _, st => st
  | m + 1, i, st => go s m (i + 1) (stp s i st)
theorem go_s {s : Str} {m i : Nat} {st : LsSt} : go s (m + 1) i st = go s m (i + 1) (stp s i st) := rfl
theorem go_0 {s : Str} {i : Nat} {st : LsSt} : go s 0 i st = st := rfl
theorem go_eq (s : Str) : ∀ (m i : Nat) (st : LsSt), Id.run (forIn (m := Id) (List.range' i m) st (lsBody s)) = go s m i st
  | 0, _, _ => rfl
  | m + 1, i, st => by
    rw [List.range'_succ, List.forIn_cons]
    unfold go
    rw [← go_eq s m (i + 1) (stp s i st)]
    unfold lsBody stp
    by_cases hc : (decide (st.2 ≤ i) && Unicode.isLineBreak (s.cps.getD i 0)) = true
    · simp only [hc, if_true]
      rfl
    · simp only [hc, if_false, Bool.false_eq_true]
      rfl
/-- no line end -/
def Plain (l : List Nat) : Prop := ∀ c ∈ l, Unicode.isLineBreak c = false
theorem getD_l {s : Str} {i c : Nat} (h : s.cps.toList[i]? = some c) : s.cps.getD i 0 = c := by
  rw [Array.getElem?_toList] at h
  rw [Array.getD_eq_getD_getElem?, h]
  rfl
theorem go_plain (s : Str) : ∀ (l : List Nat) (m i : Nat) (st : LsSt), (∀ j c, l[j]? = some c → s.cps.toList[i + j]? = some c) → Plain l → go s (l.length + m) i st = go s m (i + l.length) st
  | [], m, i, st, _, _ => by simp
  | c :: l, m, i, st, h, hp => by
    have e1 : (c :: l).length + m = (l.length + m) + 1 := by simp; omega
    rw [e1, go_s]
    have hc := getD_l (h 0 c rfl)
    have e2 : stp s i st = st := by
      unfold stp
      rw [Nat.add_zero] at hc
      rw [hc, hp c (List.mem_cons_self ..), Bool.and_false, if_neg (by decide)]
    rw [e2, go_plain s l m (i + 1) st (fun j c hj => by
      have := h (j + 1) c hj
      rwa [show i + 1 + j = i + (j + 1) by omega]) fun c hc => hp c (List.mem_cons_of_mem _ hc)]
    have e9 : i + (c :: l).length = i + 1 + l.length := by simp; omega
    rw [e9]
theorem lf_break : Unicode.isLineBreak 10 = true := by decide +kernel
theorem go_lf (s : Str) {m i a : Nat} {arr : Array (Nat × Nat × Nat)} (h : s.cps.toList[i]? = some 10) (ha : a ≤ i) : go s (m + 1) i (arr, a) = go s m (i + 1) (arr.push (a, i, i + 1), i + 1) := by
  rw [go_s]
  have hc := getD_l h
  have e1 : lsNext s i = i + 1 := by
    unfold lsNext
    rw [hc, if_neg (by simp)]
  unfold stp
  rw [hc, lf_break, Bool.and_true, if_pos (by simpa using ha), e1]
def spans (a : Nat) : List (List Nat) → List (Nat × Nat × Nat)
  | [] => []
  | l :: r => (a, a + l.length, a + l.length + 1) :: spans (a + l.length + 1) r
def flat (ls : List (List Nat)) : List Nat := ls.flatMap fun l => l ++ [10]
theorem go_lines (s : Str) : ∀ (ls : List (List Nat)) (m a : Nat) (arr : Array (Nat × Nat × Nat)), (∀ j c, (flat ls)[j]? = some c → s.cps.toList[a + j]? = some c) → (∀ l ∈ ls, Plain l) → go s ((flat ls).length + m) a (arr, a) = go s m (a + (flat ls).length) ((arr.toList ++ spans a ls).toArray, a + (flat ls).length)
  | [], m, a, arr, _, _ => by simp [flat, spans]
  | l :: r, m, a, arr, h, hp => by
    have e0 : flat (l :: r) = l ++ (10 :: flat r) := by simp [flat]
    have e1 : (flat (l :: r)).length + m = l.length + ((flat r).length + m + 1) := by rw [e0]; simp; omega
    rw [e1, go_plain s l _ a _ (fun j c hj => h j c (by rw [e0, List.getElem?_append_left (lt_of_get' hj)]; exact hj)) (hp l (List.mem_cons_self ..))]
    rw [go_lf s (h l.length 10 (by rw [e0]; simp)) (by omega)]
    rw [go_lines s r m (a + l.length + 1) _ (fun j c hj => by
      have := h (l.length + (j + 1)) c (by rw [e0, List.getElem?_append_right (by omega), show l.length + (j + 1) - l.length = j + 1 by omega]; exact hj)
      rwa [show a + l.length + 1 + j = a + (l.length + (j + 1)) by omega]) fun l hl => hp l (List.mem_cons_of_mem _ hl)]
    have e2 : a + l.length + 1 + (flat r).length = a + (flat (l :: r)).length := by rw [e0]; simp; omega
    rw [e2]
    congr 2
    rw [Array.toList_push]
    simp [spans]
where lt_of_get' {α : Type} {l : List α} {i : Nat} {x : α} (h : l[i]? = some x) : i < l.length := (List.getElem?_eq_some_iff.mp h).1
theorem sub_all (x : Str) : strSub x 0 x.length = x := by
  unfold strSub
  apply str_ext
  rw [Array.toList_extract]
  simp [Str.length]
  exact List.take_of_length_le (by simp)
theorem lines_eq (x : Str) : Txt.lines x = (lineSpans x).map fun p => strSub x p.1 p.2.1 := by
  unfold Txt.lines
  split
  · rename_i h
    have e : lineCuts x = [(0, x.length)] := eq_of_beq h
    have e2 : linesOf x = [x] := by
      unfold linesOf
      rw [e, List.map_cons, List.map_nil, sub_all]
    rw [← e2]
    unfold linesOf lineCuts
    rw [List.map_map]
    rfl
  · unfold linesOf lineCuts
    rw [List.map_map]
    rfl
theorem sub_at {x : Str} {pre l post : List Nat} (h : x.cps.toList = pre ++ (l ++ post)) : (strSub x pre.length (pre.length + l.length)).cps.toList = l := by
  unfold strSub
  rw [Array.toList_extract, h]
  simp [List.extract_eq_take_drop]
theorem spans_sub {x : Str} : ∀ (ls : List (List Nat)) (pre post : List Nat), x.cps.toList = pre ++ (flat ls ++ post) → ((spans pre.length ls).map fun p => strSub x p.1 p.2.1).map (·.cps.toList) = ls
  | [], _, _, _ => rfl
  | l :: r, pre, post, h => by
    have e0 : flat (l :: r) = l ++ (10 :: flat r) := by simp [flat]
    have h1 : x.cps.toList = pre ++ (l ++ (10 :: flat r ++ post)) := by rw [h, e0]; simp
    have h2 : x.cps.toList = (pre ++ l ++ [10]) ++ (flat r ++ post) := by rw [h, e0]; simp
    have ih := spans_sub r (pre ++ l ++ [10]) post h2
    have e9 : (pre ++ l ++ [10]).length = pre.length + l.length + 1 := by simp; omega
    rw [e9] at ih
    unfold spans
    rw [List.map_cons, List.map_cons, ih]
    show (strSub x pre.length (pre.length + l.length)).cps.toList :: r = l :: r
    rw [sub_at h1]
theorem map_cps {as bs : List Str} (h : as.map (·.cps.toList) = bs.map (·.cps.toList)) : as = bs := by
  induction as generalizing bs with
  | nil =>
    cases bs with
    | nil => rfl
    | cons b bs => cases h
  | cons a as ih =>
    cases bs with
    | nil => cases h
    | cons b bs =>
      rw [List.map_cons, List.map_cons] at h
      injection h with h1 h2
      rw [str_ext h1, ih h2]
/-- each line has its end -/
theorem lines_full {x : Str} {ls : List Str} (h : x.cps.toList = flat (ls.map (·.cps.toList))) (hp : ∀ l ∈ ls, Plain l.cps.toList) : Txt.lines x = ls := by
  have hp' : ∀ l ∈ ls.map (·.cps.toList), Plain l := fun l hl => by
    obtain ⟨a, ha, rfl⟩ := List.mem_map.mp hl
    exact hp a ha
  have hl : x.length = (flat (ls.map (·.cps.toList))).length := by rw [len_l, h]
  have e := go_lines x (ls.map (·.cps.toList)) 0 0 #[] (fun j c hj => by rw [Nat.zero_add, h]; exact hj) hp'
  rw [Nat.add_zero, ← hl, Nat.zero_add] at e
  have es : lineSpans x = spans 0 (ls.map (·.cps.toList)) := by
    rw [ls_eq, go_eq, e, go_0]
    unfold lsEnd
    simp
  rw [lines_eq, es]
  apply map_cps
  exact spans_sub (ls.map (·.cps.toList)) [] [] (by simpa using h)
/-- the last line, which is not empty, has no end -/
theorem lines_cut {x : Str} {ls : List Str} {z : Str} (h : x.cps.toList = flat (ls.map (·.cps.toList)) ++ z.cps.toList) (hz : 0 < z.length) (hp : ∀ l ∈ ls, Plain l.cps.toList) (hpz : Plain z.cps.toList) : Txt.lines x = ls ++ [z] := by
  have hp' : ∀ l ∈ ls.map (·.cps.toList), Plain l := fun l hl => by
    obtain ⟨a, ha, rfl⟩ := List.mem_map.mp hl
    exact hp a ha
  have hl : x.length = (flat (ls.map (·.cps.toList))).length + z.length := by rw [len_l, h, List.length_append, len_l]
  have e := go_lines x (ls.map (·.cps.toList)) z.length 0 #[] (fun j c hj => by
    rw [Nat.zero_add, h, List.getElem?_append_left (List.getElem?_eq_some_iff.mp hj).1]
    exact hj) hp'
  rw [← hl, Nat.zero_add] at e
  have e2 := go_plain x z.cps.toList 0 (flat (ls.map (·.cps.toList))).length (((#[] : Array (Nat × Nat × Nat)).toList ++ spans 0 (ls.map (·.cps.toList))).toArray, (flat (ls.map (·.cps.toList))).length) (fun j c hj => by
    rw [h, List.getElem?_append_right (by omega), show (flat (ls.map (·.cps.toList))).length + j - (flat (ls.map (·.cps.toList))).length = j by omega]
    exact hj) hpz
  rw [Nat.add_zero] at e2
  have e3 : z.length = z.cps.toList.length := len_l
  rw [e3, e2] at e
  have es : lineSpans x = spans 0 (ls.map (·.cps.toList)) ++ [((flat (ls.map (·.cps.toList))).length, x.length, x.length)] := by
    rw [ls_eq, go_eq, e, go_0]
    unfold lsEnd
    rw [if_pos (by show _ < x.length; omega)]
    simp [hl, len_l]
  rw [lines_eq, es, List.map_append]
  apply map_cps
  have e8 := spans_sub (ls.map (·.cps.toList)) [] z.cps.toList (by simpa using h)
  rw [List.length_nil] at e8
  rw [List.map_append, List.map_append, e8]
  congr 1
  show [(strSub x _ x.length).cps.toList] = [z.cps.toList]
  rw [hl, len_l, sub_at (post := []) (by simpa using h)]
end Mk14
set_option maxHeartbeats 400000
/-! k14: the plain law, figures. -/
namespace Mk14
open PySem PySem.Spec PyProof.Rows L2 Mi
variable {Q Rt : V → Store → Prop} {st st' : Store} {d : Nat}
def tens : Str := "0123456789"
def dig (i : Int) : Str := match atI tens.cps.toList i with
  | some c => ⟨#[c]⟩
  | none => Str.empty
def fgN (n : Int) : Nat → Int
  | 0 => n
  | j + 1 => fgN n j / 10
def fgT (n : Int) : Nat → Str
  | 0 => ""
  | j + 1 => dig (fgN n j % 10) ++ fgT n j
def txtI (i : Int) : Str := toString i
def wd (m : Nat) : Nat := if 999 < m then 4 else if 99 < m then 3 else if 9 < m then 2 else 1
def figB (n : Nat) : Bool := (List.range 5).all fun w => !decide (wd n ≤ w) || (Txt.zfill (txtI (n : Int)) (w : Int) == fgT (n : Int) w)
theorem figs_all : (List.range 1102).all (fun n => n == 0 || figB n) = true := by decide +kernel
theorem wds_all : (List.range 1102).all (fun n => (txtI (n : Int)).length == wd n) = true := by decide +kernel
theorem figs_ok {n w : Nat} (h0 : 0 < n) (h : n < 1102) (hw : wd n ≤ w) (h5 : w < 5) : Txt.zfill (txtI (n : Int)) (w : Int) = fgT (n : Int) w := by
  have h1 := List.all_eq_true.mp figs_all n (List.mem_range.mpr h)
  have h2 : figB n = true := by
    rcases Bool.or_eq_true_iff.mp h1 with h | h
    · exact absurd (eq_of_beq h) (by omega)
    · exact h
  have h3 := List.all_eq_true.mp h2 w (List.mem_range.mpr h5)
  rcases Bool.or_eq_true_iff.mp h3 with h | h
  · simp at h
    omega
  · exact eq_of_beq h
theorem wds_ok {n : Nat} (h : n < 1102) : (txtI (n : Int)).length = wd n := eq_of_beq (List.all_eq_true.mp wds_all n (List.mem_range.mpr h))
theorem wd_mono {a b : Nat} (h : a ≤ b) : wd a ≤ wd b := by
  unfold wd
  split <;> split <;> (try split) <;> (try split) <;> (try split) <;> (try split) <;> omega
theorem wd_le {a : Nat} : wd a ≤ 4 := by
  unfold wd
  split
  · omega
  · split
    · omega
    · split <;> omega
end Mk14
set_option maxHeartbeats 400000
/-! k14: the plain law, the defs. -/
namespace Mk14
open PySem PySem.Spec PyProof.Rows L2 Mi
variable {Q Rt : V → Store → Prop} {st st' : Store} {d : Nat}
theorem fn__law_cell_at : D.pg.fn "_law_cell_at" = some f__law_cell_at := by rfl
theorem fn__law_line_by : D.pg.fn "_law_line_by" = some f__law_line_by := by rfl
theorem fn__law_figures : D.pg.fn "_law_figures" = some f__law_figures := by rfl
theorem fn_listed : D.pg.fn "listed" = some f_listed := by rfl
theorem fn_law : D.pg.fn "law" = some f_law := by rfl
theorem part0 : Mi.part [] = some none := rfl
def cellv (ns : List Int) (k : Int) : Int := if k < ns.length then (ns[k.toNat]?).getD 0 else 0
theorem cell_at_v {ns : List Int} {k : Int} (h : st[0]? = some (.fro (ns.map .int))) (hk : 0 ≤ k) (hQ : Q (.int (cellv ns k)) st) : wv (callN D.pg (d + 1) "_law_cell_at" [.ref 0, .int k] st) Q := by
  refine callN_w fn__law_cell_at rfl ?_
  rw [show f__law_cell_at.body = b__law_cell_at from rfl, show start f__law_cell_at.N [V.ref 0, V.int k] = [some (V.ref 0), some (V.int k)] from rfl, b__law_cell_at]
  simp only [z_seq, z_ifs, z_asgN, z_ret, z_retN, z_don, z_drop, w_var, w_cst, w_bin, w_not, w_and, w_or, w_cmp, w_ife, w_cons, w_nil, w_som, w_tup, w_lst, w_call, w_bif, w_isi, w_idx, List.getElem?_cons_succ, List.getElem?_cons_zero, Option.some.injEq, exists_eq_left', tr_bl, tr_some, c_eqI, c_neI, c_eqS, c_neS, c_lt, c_le, c_gt, c_ge, c_is, c_isnot, o_add, o_sub, List.set_cons_zero, List.set_cons_succ, List.length_cons, List.length_nil, Nat.reduceAdd, Nat.reduceLT, Nat.zero_add, true_and, decide_eq_true_eq, decide_eq_false_iff_not, Bool.not_eq_true', Bool.not_eq_false', Bool.false_eq_true, Bool.true_eq_false, true_implies, false_implies, and_true, Nat.lt_add_one, reduceCtorEq, decide_true, decide_false, not_false_eq_true, not_true_eq_false, b_len (items_fro h), List.length_map]
  refine ⟨fun hl => ?_, fun hl => ?_⟩
  · obtain ⟨v, hv, hm⟩ := atI_nn (xs := ns.map V.int) hk (by rw [List.length_map]; exact hl)
    rw [i_at (items_fro h) hv]
    rw [List.getElem?_map] at hm
    obtain ⟨z, hz, rfl⟩ := Option.map_eq_some_iff.mp hm
    have : cellv ns k = z := by
      unfold cellv
      rw [if_pos hl, hz]
      rfl
    rw [← this]
    exact hQ
  · have : cellv ns k = 0 := by
      unfold cellv
      rw [if_neg hl]
    rw [← this]
    exact hQ
theorem s_str {s : Str} {l h : Option Int} (hs : s.length ≤ sz) : wv (slcD (.str s) l h st) Q = Q (.str (cutS s l h)) st := by
  simp only [slcD]
  rw [if_pos hs]
  rfl
theorem cutS_l {s : Str} {l h : Option Int} : (cutS s l h).cps.toList = (s.cps.toList.drop (HT.sIx s.length 0 l)).take (HT.sIx s.length s.length h - HT.sIx s.length 0 l) := by
  unfold cutS
  simp
theorem cutS_mem {s : Str} {l h : Option Int} : ∀ c ∈ (cutS s l h).cps.toList, c ∈ s.cps.toList := by
  intro c hc
  rw [cutS_l] at hc
  exact List.mem_of_mem_drop (List.mem_of_mem_take hc)
theorem cutS_le {s : Str} {l h : Option Int} : (cutS s l h).length ≤ s.length := by
  rw [len_l, len_l, cutS_l, List.length_take, List.length_drop]
  omega
theorem len_app {a b : Str} : (a ++ b).length = a.length + b.length := by
  show (a.cps ++ b.cps).size = _
  rw [Array.size_append]
  rfl
/-! ### signs -/
def sgns : Str := " !\"#$&'()*+,-./0123456789:;<=>?@ABCDEFGHIJKLMNOPQRSTUVWXYZ[\\]^_`abcdefghijklmnopqrstuvwxyz{|}~"
theorem sgns_len : sgns.length = 94 := by decide +kernel
theorem sgns_plain : ∀ c ∈ sgns.cps.toList, Unicode.isLineBreak c = false := by decide +kernel
theorem i_sgn {i : Int} (h0 : 0 ≤ i) (h : i < 94) (hQ : ∀ c, c ∈ sgns.cps.toList → Q (.str ⟨#[c]⟩) st) : wv (idxD (.str sgns) (.int i) st) Q := by
  obtain ⟨c, hc, hm⟩ := atI_nn (xs := sgns.cps.toList) h0 (by rw [show sgns.cps.toList.length = 94 from sgns_len]; exact h)
  have hl : sgns.length ≤ sz := by rw [sgns_len]; decide
  simp only [idxD]
  rw [if_pos hl, hc]
  exact hQ c (List.mem_of_getElem? hm)
theorem o_mulS {x : Str} {n : Int} (h : -(2 ^ 63) ≤ n ∧ n ≤ 1048576 ∧ x.length ≤ 16) : wv (binD .Mult (.str x) (.int n) st) Q = Q (.str (Txt.mul x n)) st := by
  simp only [binD]
  rw [if_pos h]
  rfl
theorem fold_app {x : Array Nat} : ∀ (n : Nat) (acc : Array Nat), (∀ y ∈ ((List.replicate n x).foldl (· ++ ·) acc).toList, y ∈ acc.toList ∨ y ∈ x.toList) ∧ ((List.replicate n x).foldl (· ++ ·) acc).size = acc.size + n * x.size
  | 0, acc => ⟨fun y h => .inl h, by simp⟩
  | n + 1, acc => by
    rw [List.replicate_succ, List.foldl_cons]
    obtain ⟨h1, h2⟩ := fold_app n (acc ++ x)
    refine ⟨fun y hy => ?_, ?_⟩
    · rcases h1 y hy with h | h
      · rw [Array.toList_append] at h
        rcases List.mem_append.mp h with h | h
        · exact .inl h
        · exact .inr h
      · exact .inr h
    · rw [h2, Array.size_append, Nat.succ_mul]
      omega
theorem mul_mem {x : Str} {n : Int} : ∀ y ∈ (Txt.mul x n).cps.toList, y ∈ x.cps.toList := by
  intro y hy
  unfold Txt.mul at hy
  split at hy
  · cases hy
  · split at hy
    · exact hy
    · rcases (fold_app n.toNat #[]).1 y hy with h | h
      · cases h
      · exact h
theorem mul_len {x : Str} {n : Int} (hx : x.length = 1) : (Txt.mul x n).length ≤ n.toNat := by
  unfold Txt.mul
  split
  · exact Nat.zero_le _
  · split
    · rename_i h1 h2
      rw [hx]
      omega
    · show ((List.replicate n.toNat x.cps).foldl (· ++ ·) #[]).size ≤ n.toNat
      rw [(fold_app n.toNat #[]).2]
      have : x.cps.size = 1 := hx
      rw [this]
      simp
/-- a line of signs -/
structure Ln (s : Str) : Prop where
  mem : ∀ c ∈ s.cps.toList, c ∈ sgns.cps.toList
  le : s.length ≤ 64
theorem Ln.plain {s : Str} (h : Ln s) : Plain s.cps.toList := fun c hc => sgns_plain c (h.mem c hc)
theorem line_by_ok {c : Int} (hQ : ∀ s, Ln s → Q (.str s) st) : wv (callN D.pg (d + 1) "_law_line_by" [.int c] st) Q := by
  have hs1 : 1000 < sz := by decide
  have a1 := Int.emod_nonneg c (show (94 : Int) ≠ 0 by decide)
  have a2 := Int.emod_lt_of_pos c (show (0 : Int) < 94 by decide)
  have b1 := Int.emod_nonneg (c / 94) (show (31 : Int) ≠ 0 by decide)
  have b2 := Int.emod_lt_of_pos (c / 94) (show (0 : Int) < 31 by decide)
  have d1 := Int.emod_nonneg (c / 7) (show (94 : Int) ≠ 0 by decide)
  have d2 := Int.emod_lt_of_pos (c / 7) (show (0 : Int) < 94 by decide)
  refine callN_w fn__law_line_by rfl ?_
  rw [show f__law_line_by.body = b__law_line_by from rfl, show start f__law_line_by.N [V.int c] = [some (V.int c), none, none, none, none] from rfl, b__law_line_by]
  rw [z_seq]
  simp only [z_ifs, z_asgN, z_ret, z_retN, z_don, z_drop, w_var, w_cst, w_bin, w_not, w_and, w_or, w_cmp, w_ife, w_cons, w_nil, w_som, w_tup, w_lst, w_call, w_bif, w_isi, w_idx, List.getElem?_cons_succ, List.getElem?_cons_zero, Option.some.injEq, exists_eq_left', tr_bl, tr_some, c_eqI, c_neI, c_eqS, c_neS, c_lt, c_le, c_gt, c_ge, c_is, c_isnot, o_add, o_sub, List.set_cons_zero, List.set_cons_succ, List.length_cons, List.length_nil, Nat.reduceAdd, Nat.reduceLT, Nat.zero_add, true_and, decide_eq_true_eq, decide_eq_false_iff_not, Bool.not_eq_true', Bool.not_eq_false', Bool.false_eq_true, Bool.true_eq_false, true_implies, false_implies, and_true, Nat.lt_add_one, reduceCtorEq, decide_true, decide_false, not_false_eq_true, not_true_eq_false]
  rw [show (Str.ofString " !\"#$&'()*+,-./0123456789:;<=>?@ABCDEFGHIJKLMNOPQRSTUVWXYZ[\\]^_`abcdefghijklmnopqrstuvwxyz{|}~") = sgns from rfl]
  rw [z_seq]
  simp only [z_ifs, z_asgN, z_ret, z_retN, z_don, z_drop, w_var, w_cst, w_bin, w_not, w_and, w_or, w_cmp, w_ife, w_cons, w_nil, w_som, w_tup, w_lst, w_call, w_bif, w_isi, w_idx, List.getElem?_cons_succ, List.getElem?_cons_zero, Option.some.injEq, exists_eq_left', tr_bl, tr_some, c_eqI, c_neI, c_eqS, c_neS, c_lt, c_le, c_gt, c_ge, c_is, c_isnot, o_add, o_sub, List.set_cons_zero, List.set_cons_succ, List.length_cons, List.length_nil, Nat.reduceAdd, Nat.reduceLT, Nat.zero_add, true_and, decide_eq_true_eq, decide_eq_false_iff_not, Bool.not_eq_true', Bool.not_eq_false', Bool.false_eq_true, Bool.true_eq_false, true_implies, false_implies, and_true, Nat.lt_add_one, reduceCtorEq, decide_true, decide_false, not_false_eq_true, not_true_eq_false, o_div (show (0 : Int) < 94 by decide) (show (94 : Int) < 1073741824 by decide), o_mod (show (0 : Int) < 31 by decide)]
  generalize c / 94 % 31 = n at b1 b2
  rw [z_seq]
  simp only [z_ifs, z_asgN, z_ret, z_retN, z_don, z_drop, w_var, w_cst, w_bin, w_not, w_and, w_or, w_cmp, w_ife, w_cons, w_nil, w_som, w_tup, w_lst, w_call, w_bif, w_isi, w_idx, List.getElem?_cons_succ, List.getElem?_cons_zero, Option.some.injEq, exists_eq_left', tr_bl, tr_some, c_eqI, c_neI, c_eqS, c_neS, c_lt, c_le, c_gt, c_ge, c_is, c_isnot, o_add, o_sub, List.set_cons_zero, List.set_cons_succ, List.length_cons, List.length_nil, Nat.reduceAdd, Nat.reduceLT, Nat.zero_add, true_and, decide_eq_true_eq, decide_eq_false_iff_not, Bool.not_eq_true', Bool.not_eq_false', Bool.false_eq_true, Bool.true_eq_false, true_implies, false_implies, and_true, Nat.lt_add_one, reduceCtorEq, decide_true, decide_false, not_false_eq_true, not_true_eq_false, o_mod (show (0 : Int) < 94 by decide)]
  refine i_sgn a1 a2 fun x hx => ?_
  have hp : (-(2 ^ 63) : Int) ≤ n ∧ n ≤ 1048576 ∧ (⟨#[x]⟩ : Str).length ≤ 16 := ⟨by
    have : (-(2 ^ 63) : Int) ≤ 0 := by decide
    omega, by omega, by show 1 ≤ 16; decide⟩
  rw [o_mulS hp]
  have hm : ∀ y ∈ (Txt.mul ⟨#[x]⟩ n).cps.toList, y ∈ sgns.cps.toList := fun y hy => by
    have h := mul_mem y hy
    have : y = x := by simpa using h
    rw [this]
    exact hx
  have hl := mul_len (x := ⟨#[x]⟩) (n := n) rfl
  generalize Txt.mul ⟨#[x]⟩ n = line at hm hl
  have L0 : Ln line := ⟨hm, by omega⟩
  rw [z_seq]
  simp only [z_ifs, z_asgN, z_ret, z_retN, z_don, z_drop, w_var, w_cst, w_bin, w_not, w_and, w_or, w_cmp, w_ife, w_cons, w_nil, w_som, w_tup, w_lst, w_call, w_bif, w_isi, w_idx, List.getElem?_cons_succ, List.getElem?_cons_zero, Option.some.injEq, exists_eq_left', tr_bl, tr_some, c_eqI, c_neI, c_eqS, c_neS, c_lt, c_le, c_gt, c_ge, c_is, c_isnot, o_add, o_sub, List.set_cons_zero, List.set_cons_succ, List.length_cons, List.length_nil, Nat.reduceAdd, Nat.reduceLT, Nat.zero_add, true_and, decide_eq_true_eq, decide_eq_false_iff_not, Bool.not_eq_true', Bool.not_eq_false', Bool.false_eq_true, Bool.true_eq_false, true_implies, false_implies, and_true, Nat.lt_add_one, reduceCtorEq, decide_true, decide_false, not_false_eq_true, not_true_eq_false, o_mod (show (0 : Int) < 3 by decide)]
  refine ⟨fun h1 => ⟨fun h2 => ?_, fun h2 => ?_⟩, fun h1 => ⟨fun h => absurd h h1, fun _ => ?_⟩⟩
  · rw [z_seq]
    simp only [z_ifs, z_asgN, z_ret, z_retN, z_don, z_drop, w_var, w_cst, w_bin, w_not, w_and, w_or, w_cmp, w_ife, w_cons, w_nil, w_som, w_tup, w_lst, w_call, w_bif, w_isi, w_idx, List.getElem?_cons_succ, List.getElem?_cons_zero, Option.some.injEq, exists_eq_left', tr_bl, tr_some, c_eqI, c_neI, c_eqS, c_neS, c_lt, c_le, c_gt, c_ge, c_is, c_isnot, o_add, o_sub, List.set_cons_zero, List.set_cons_succ, List.length_cons, List.length_nil, Nat.reduceAdd, Nat.reduceLT, Nat.zero_add, true_and, decide_eq_true_eq, decide_eq_false_iff_not, Bool.not_eq_true', Bool.not_eq_false', Bool.false_eq_true, Bool.true_eq_false, true_implies, false_implies, and_true, Nat.lt_add_one, reduceCtorEq, decide_true, decide_false, not_false_eq_true, not_true_eq_false, o_div (show (0 : Int) < 2914 by decide) (show (2914 : Int) < 1073741824 by decide), o_mod (show (0 : Int) < n by omega)]
    simp only [z_seq, z_ifs, z_asgN, z_ret, z_retN, z_don, z_drop, w_var, w_cst, w_bin, w_not, w_and, w_or, w_cmp, w_ife, w_cons, w_nil, w_som, w_tup, w_lst, w_call, w_bif, w_isi, w_idx, List.getElem?_cons_succ, List.getElem?_cons_zero, Option.some.injEq, exists_eq_left', tr_bl, tr_some, c_eqI, c_neI, c_eqS, c_neS, c_lt, c_le, c_gt, c_ge, c_is, c_isnot, o_add, o_sub, List.set_cons_zero, List.set_cons_succ, List.length_cons, List.length_nil, Nat.reduceAdd, Nat.reduceLT, Nat.zero_add, true_and, decide_eq_true_eq, decide_eq_false_iff_not, Bool.not_eq_true', Bool.not_eq_false', Bool.false_eq_true, Bool.true_eq_false, true_implies, false_implies, and_true, Nat.lt_add_one, reduceCtorEq, decide_true, decide_false, not_false_eq_true, not_true_eq_false, w_slc, part0, part1, s_str (show line.length ≤ sz by omega), o_div (show (0 : Int) < 7 by decide) (show (7 : Int) < 1073741824 by decide), o_mod (show (0 : Int) < 94 by decide)]
    refine i_sgn d1 d2 fun y hy => ?_
    generalize hA : cutS line none (some (c / 2914 % n)) = A
    generalize hB : cutS line (some (c / 2914 % n + 1)) none = B
    have lA : A.length ≤ line.length := by rw [← hA]; exact cutS_le
    have lB : B.length ≤ line.length := by rw [← hB]; exact cutS_le
    have l1 : (⟨#[y]⟩ : Str).length = 1 := rfl
    rw [o_addS (by omega), o_addS (by rw [len_app]; omega)]
    refine hQ _ ⟨fun z hz => ?_, by rw [len_app, len_app]; omega⟩
    rw [app_l, app_l] at hz
    rcases List.mem_append.mp hz with hz | hz
    · rcases List.mem_append.mp hz with hz | hz
      · rw [← hA] at hz
        exact hm z (cutS_mem z hz)
      · have : z = y := by simpa using hz
        rw [this]
        exact hy
    · rw [← hB] at hz
      exact hm z (cutS_mem z hz)
  · simp only [z_seq, z_ifs, z_asgN, z_ret, z_retN, z_don, z_drop, w_var, w_cst, w_bin, w_not, w_and, w_or, w_cmp, w_ife, w_cons, w_nil, w_som, w_tup, w_lst, w_call, w_bif, w_isi, w_idx, List.getElem?_cons_succ, List.getElem?_cons_zero, Option.some.injEq, exists_eq_left', tr_bl, tr_some, c_eqI, c_neI, c_eqS, c_neS, c_lt, c_le, c_gt, c_ge, c_is, c_isnot, o_add, o_sub, List.set_cons_zero, List.set_cons_succ, List.length_cons, List.length_nil, Nat.reduceAdd, Nat.reduceLT, Nat.zero_add, true_and, decide_eq_true_eq, decide_eq_false_iff_not, Bool.not_eq_true', Bool.not_eq_false', Bool.false_eq_true, Bool.true_eq_false, true_implies, false_implies, and_true, Nat.lt_add_one, reduceCtorEq, decide_true, decide_false, not_false_eq_true, not_true_eq_false]
    exact hQ _ L0
  · simp only [z_seq, z_ifs, z_asgN, z_ret, z_retN, z_don, z_drop, w_var, w_cst, w_bin, w_not, w_and, w_or, w_cmp, w_ife, w_cons, w_nil, w_som, w_tup, w_lst, w_call, w_bif, w_isi, w_idx, List.getElem?_cons_succ, List.getElem?_cons_zero, Option.some.injEq, exists_eq_left', tr_bl, tr_some, c_eqI, c_neI, c_eqS, c_neS, c_lt, c_le, c_gt, c_ge, c_is, c_isnot, o_add, o_sub, List.set_cons_zero, List.set_cons_succ, List.length_cons, List.length_nil, Nat.reduceAdd, Nat.reduceLT, Nat.zero_add, true_and, decide_eq_true_eq, decide_eq_false_iff_not, Bool.not_eq_true', Bool.not_eq_false', Bool.false_eq_true, Bool.true_eq_false, true_implies, false_implies, and_true, Nat.lt_add_one, reduceCtorEq, decide_true, decide_false, not_false_eq_true, not_true_eq_false]
    exact hQ _ L0
/-! ### figures -/
theorem tens_len : tens.length = 10 := by decide +kernel
theorem i_tens {i : Int} (h0 : 0 ≤ i) (h : i < 10) : wv (idxD (.str tens) (.int i) st) Q = Q (.str (dig i)) st := by
  obtain ⟨c, hc, _⟩ := atI_nn (xs := tens.cps.toList) h0 (by rw [show tens.cps.toList.length = 10 from tens_len]; exact h)
  have hl : tens.length ≤ sz := by rw [tens_len]; decide
  have e : dig i = ⟨#[c]⟩ := by
    unfold dig
    rw [hc]
  simp only [idxD]
  rw [if_pos hl, hc, e]
  rfl
theorem dig_len (i : Int) : (dig i).length ≤ 1 := by
  unfold dig
  split
  · exact Nat.le_refl _
  · exact Nat.zero_le _
theorem fgT_len (n : Int) : ∀ j, (fgT n j).length ≤ j
  | 0 => by
    have : (fgT n 0).length = 0 := by rfl
    omega
  | j + 1 => by
    have h1 := fgT_len n j
    have h2 := dig_len (fgN n j % 10)
    unfold fgT
    rw [len_app]
    omega
theorem figures_ok {n m : Int} {w : Nat} (hm : m = (w : Int)) (hw : w ≤ 4) (hQ : Q (.str (fgT n w)) st) : wv (callN D.pg (d + 1) "_law_figures" [.int n, .int m] st) Q := by
  have hs1 : 1000 < sz := by decide
  refine callN_w fn__law_figures rfl ?_
  rw [show f__law_figures.body = b__law_figures from rfl, show start f__law_figures.N [V.int n, V.int m] = [some (V.int n), some (V.int m), none, none] from rfl, b__law_figures]
  subst hm
  rw [z_seq]
  simp only [z_ifs, z_asgN, z_ret, z_retN, z_don, z_drop, w_var, w_cst, w_bin, w_not, w_and, w_or, w_cmp, w_ife, w_cons, w_nil, w_som, w_tup, w_lst, w_call, w_bif, w_isi, w_idx, List.getElem?_cons_succ, List.getElem?_cons_zero, Option.some.injEq, exists_eq_left', tr_bl, tr_some, c_eqI, c_neI, c_eqS, c_neS, c_lt, c_le, c_gt, c_ge, c_is, c_isnot, o_add, o_sub, List.set_cons_zero, List.set_cons_succ, List.length_cons, List.length_nil, Nat.reduceAdd, Nat.reduceLT, Nat.zero_add, true_and, decide_eq_true_eq, decide_eq_false_iff_not, Bool.not_eq_true', Bool.not_eq_false', Bool.false_eq_true, Bool.true_eq_false, true_implies, false_implies, and_true, Nat.lt_add_one, reduceCtorEq, decide_true, decide_false, not_false_eq_true, not_true_eq_false]
  rw [z_seq]
  have he : (Str.ofString "" : Str) = fgT n 0 := rfl
  rw [he]
  generalize hb : [some (V.int n), some (V.int (w : Int)), some (V.str (fgT n 0)), none] = env0
  refine for_rng1 (n := w) (fun j env s => s = st ∧ ∃ x3, env = [some (V.int (fgN n j)), some (V.int (w : Int)), some (V.str (fgT n j)), x3]) (Nat.lt_of_le_of_lt hw (by decide)) ?_ ?_ ?_
  · subst hb
    simp only [z_seq, z_ifs, z_asgN, z_ret, z_retN, z_don, z_drop, w_var, w_cst, w_bin, w_not, w_and, w_or, w_cmp, w_ife, w_cons, w_nil, w_som, w_tup, w_lst, w_call, w_bif, w_isi, w_idx, List.getElem?_cons_succ, List.getElem?_cons_zero, Option.some.injEq, exists_eq_left', tr_bl, tr_some, c_eqI, c_neI, c_eqS, c_neS, c_lt, c_le, c_gt, c_ge, c_is, c_isnot, o_add, o_sub, List.set_cons_zero, List.set_cons_succ, List.length_cons, List.length_nil, Nat.reduceAdd, Nat.reduceLT, Nat.zero_add, true_and, decide_eq_true_eq, decide_eq_false_iff_not, Bool.not_eq_true', Bool.not_eq_false', Bool.false_eq_true, Bool.true_eq_false, true_implies, false_implies, and_true, Nat.lt_add_one, reduceCtorEq, decide_true, decide_false, not_false_eq_true, not_true_eq_false]
    exact ⟨none, rfl⟩
  · rintro j env s hj ⟨rfl, x3, rfl⟩
    refine ⟨by simp, ?_⟩
    have h1 := fgT_len n j
    have h2 := dig_len (fgN n j % 10)
    rw [show (Str.ofString "0123456789") = tens from rfl]
    simp only [z_seq, z_ifs, z_asgN, z_ret, z_retN, z_don, z_drop, w_var, w_cst, w_bin, w_not, w_and, w_or, w_cmp, w_ife, w_cons, w_nil, w_som, w_tup, w_lst, w_call, w_bif, w_isi, w_idx, List.getElem?_cons_succ, List.getElem?_cons_zero, Option.some.injEq, exists_eq_left', tr_bl, tr_some, c_eqI, c_neI, c_eqS, c_neS, c_lt, c_le, c_gt, c_ge, c_is, c_isnot, o_add, o_sub, List.set_cons_zero, List.set_cons_succ, List.length_cons, List.length_nil, Nat.reduceAdd, Nat.reduceLT, Nat.zero_add, true_and, decide_eq_true_eq, decide_eq_false_iff_not, Bool.not_eq_true', Bool.not_eq_false', Bool.false_eq_true, Bool.true_eq_false, true_implies, false_implies, and_true, Nat.lt_add_one, reduceCtorEq, decide_true, decide_false, not_false_eq_true, not_true_eq_false, o_mod (show (0 : Int) < 10 by decide), o_div (show (0 : Int) < 10 by decide) (show (10 : Int) < 1073741824 by decide), i_tens (Int.emod_nonneg (fgN n j) (show (10 : Int) ≠ 0 by decide)) (Int.emod_lt_of_pos (fgN n j) (show (0 : Int) < 10 by decide)), o_addS (show (dig (fgN n j % 10)).length + (fgT n j).length ≤ sz by omega)]
    exact ⟨_, rfl⟩
  · rintro env s ⟨rfl, x3, rfl⟩
    simp only [z_seq, z_ifs, z_asgN, z_ret, z_retN, z_don, z_drop, w_var, w_cst, w_bin, w_not, w_and, w_or, w_cmp, w_ife, w_cons, w_nil, w_som, w_tup, w_lst, w_call, w_bif, w_isi, w_idx, List.getElem?_cons_succ, List.getElem?_cons_zero, Option.some.injEq, exists_eq_left', tr_bl, tr_some, c_eqI, c_neI, c_eqS, c_neS, c_lt, c_le, c_gt, c_ge, c_is, c_isnot, o_add, o_sub, List.set_cons_zero, List.set_cons_succ, List.length_cons, List.length_nil, Nat.reduceAdd, Nat.reduceLT, Nat.zero_add, true_and, decide_eq_true_eq, decide_eq_false_iff_not, Bool.not_eq_true', Bool.not_eq_false', Bool.false_eq_true, Bool.true_eq_false, true_implies, false_implies, and_true, Nat.lt_add_one, reduceCtorEq, decide_true, decide_false, not_false_eq_true, not_true_eq_false]
    exact hQ
end Mk14
set_option maxHeartbeats 400000
/-! k14: the plain law, listed. -/
namespace Mk14
open PySem PySem.Spec PyProof.Rows L2 Mi
variable {Q Rt : V → Store → Prop} {st st' : Store} {d : Nat} {N : Ev → Store → Prop} {env : Ev}
/-- for i, x in enumerate(xs, start=1): a list that stays -/
theorem for_enum1 {Pg : Prog} {cf : Str → List V → Store → R} {a b : T} {v1 v2 p : Nat} {xs : List V} (Inv : Nat → Ev → Store → Prop) (hp : ∀ j env st, Inv j env st → st[p]? = some (.lst xs)) (h : wv (run Pg cf a env st) fun x st1 => x = .ref p ∧ Inv 0 env st1)
    (hs : ∀ j x env st, xs[j]? = some x → Inv j env st → v1 < env.length ∧ v2 < env.length ∧ wz (run Pg cf b ((env.set v1 (some (.int (1 + (j : Int))))).set v2 (some x)) (st ++ [.tup [.int (1 + (j : Int)), x]])) (Inv (j + 1)) Rt) (he : ∀ env st, Inv xs.length env st → N env st) : wz (run Pg cf (.for (.t [v1, v2]) .enum1 (.cons a .nil) b) env st) N Rt := by
  rw [z_for]
  refine (one_arg h).imp ?_
  rintro vs st1 ⟨x, rfl, rfl, h0⟩
  have e1 := hp _ _ _ h0
  have hk : rk .enum1 [V.ref p] st1 = .enum1 := by simp only [rk]
  rw [hk]
  have hc : ∀ j st, st[p]? = some (.lst xs) → cur .enum1 [V.ref p] j st = nth xs j fun x => (.ref st.length, st ++ [.tup [.int (1 + (j : Int)), x]]) := fun j st h => by
    simp [cur, h]
  have ht : turns .enum1 [V.ref p] st1 = xs.length := by simp [turns, items, e1]
  rw [ht]
  refine loop_w Inv (n := xs.length) ?_ ?_ xs.length 0 _ env st1 (Nat.zero_add _) (by omega) h0
  · intro j env st hj hI
    obtain ⟨hv1, hv2, h1⟩ := hs j xs[j] env st (List.getElem?_eq_getElem hj) hI
    refine ⟨.ref st.length, st ++ [.tup [.int (1 + (j : Int)), xs[j]]], ?_, ?_⟩
    · rw [hc j st (hp _ _ _ hI)]
      simp only [nth, List.getElem?_eq_getElem hj]
    · unfold bdT
      have e2 : setTg (.t [v1, v2]) (.ref st.length) env (st ++ [.tup [.int (1 + (j : Int)), xs[j]]]) = some ((env.set v1 (some (.int (1 + (j : Int))))).set v2 (some xs[j])) := by
        simp [setTg, setMany, hv1, hv2]
      rw [e2]
      exact h1
  · intro env st hI
    refine ⟨?_, he env st hI⟩
    rw [hc _ st (hp _ _ _ hI)]
    simp [nth]
/-! ### joined -/
theorem bt_s {m : Mt} {s : Str} (h : m = .sJoin ∨ m = .sLines ∨ m = .sZfill) : bmTy m (.str s) st = true := by
  rcases h with rfl | rfl | rfl <;> rfl
theorem bd_join {a : Str} {p : Nat} {ys : List Str} (h : st[p]? = some (.lst (ys.map V.str))) (hl : (ys.map (·.length)).sum + ys.length * a.length ≤ sz) : wv (bmD .sJoin (.str a) [.ref p] st) Q = Q (.str (Txt.join a ys)) st := by
  simp only [bmD, lstOf_at h, allS_map]
  rw [if_pos hl]
  rfl
theorem sum_le {B : Nat} : ∀ {ys : List Str}, (∀ y ∈ ys, y.length ≤ B) → (ys.map (·.length)).sum ≤ ys.length * B
  | [], _ => by simp
  | y :: r, h => by
    have h1 := h y (List.mem_cons_self ..)
    have h2 := sum_le (ys := r) (B := B) fun z hz => h z (List.mem_cons_of_mem _ hz)
    rw [List.map_cons, List.sum_cons, List.length_cons, Nat.succ_mul]
    omega
theorem emp_l : (Str.ofString "").cps.toList = [] := by rfl
theorem nl_l : (Str.ofString "\n").cps.toList = [10] := by decide +kernel
theorem join_l : ∀ ys : List Str, (Txt.join (Str.ofString "") ys).cps.toList = ys.flatMap (·.cps.toList) := by
  intro ys
  unfold Txt.join
  rw [StrLaws.glued_eq_join]
  induction ys with
  | nil => rfl
  | cons y r ih =>
    cases r with
    | nil => simp [Str.join]
    | cons z r =>
      show (y ++ Str.ofString "" ++ Str.join (Str.ofString "") (z :: r)).cps.toList = _
      rw [app_l, app_l, ih, emp_l]
      simp
/-- one row of the list -/
def el (ls : List Str) (w : Nat) (k : Nat) : Str := fgT (1 + (k : Int)) w ++ Str.ofString " " ++ ls.getD k (Str.ofString "") ++ Str.ofString "\n"
def told (ls : List Str) (w n : Nat) : List Str := (List.range n).map (el ls w)
theorem told_succ {ls : List Str} {w n : Nat} : told ls w (n + 1) = told ls w n ++ [el ls w n] := by
  unfold told
  rw [List.range_succ, List.map_append]
  rfl
theorem told_len {ls : List Str} {w n : Nat} : (told ls w n).length = n := by
  unfold told
  rw [List.length_map, List.length_range]
theorem sp_len : (Str.ofString " ").length = 1 := by decide +kernel
theorem nl_len : (Str.ofString "\n").length = 1 := by decide +kernel
theorem el_len {ls : List Str} {w k : Nat} (hw : w ≤ 4) (h : ∀ l ∈ ls, l.length ≤ 64) : (el ls w k).length ≤ 70 := by
  have h1 := fgT_len (1 + (k : Int)) w
  have h2 : (ls.getD k (Str.ofString "")).length ≤ 64 := by
    rw [List.getD_eq_getElem?_getD]
    cases e : ls[k]? with
    | none => exact Nat.zero_le _
    | some l => exact h l (List.mem_of_getElem? e)
  unfold el
  rw [len_app, len_app, len_app, sp_len, nl_len]
  omega
theorem told_sum {ls : List Str} {w n : Nat} (hw : w ≤ 4) (h : ∀ l ∈ ls, l.length ≤ 64) : ((told ls w n).map (·.length)).sum ≤ n * 70 := by
  have := sum_le (ys := told ls w n) (B := 70) fun y hy => by
    obtain ⟨k, _, rfl⟩ := List.mem_map.mp hy
    exact el_len hw h
  rw [told_len] at this
  exact this
theorem b_strI {i : Int} (h : i.natAbs < 2 ^ 1000) : wv (bifD .str [.int i] st) Q = Q (.str (txtI i)) st := by
  have h2 : i.natAbs.log2 < 1920 := by
    by_cases e : i.natAbs = 0
    · rw [e]
      decide
    · have := (Nat.log2_lt e).mpr h
      omega
  simp only [bifD]
  rw [if_pos h2]
  rfl
theorem b_lenS {s : Str} (h : s.length ≤ sz) : wv (bifD .len [.str s] st) Q = Q (.int (s.length : Int)) st := by
  simp only [bifD]
  rw [if_pos h]
  rfl
theorem bd_lines {a : Str} (h : a.length + 2 ≤ sz) : wv (bmD .sLines (.str a) [] st) Q = Q (.ref st.length) (st ++ [.lst ((Txt.lines a).map V.str)]) := by
  have h2 := lineCuts_le a
  simp only [bmD]
  rw [if_pos ⟨h, by omega⟩]
  rfl
theorem bd_zf {a : Str} {w : Nat} (h : w ≤ 4) : wv (bmD .sZfill (.str a) [.int (w : Int)] st) Q = Q (.str (Txt.zfill a (w : Int))) st := by
  have e : PadOk (w : Int) = true := by
    have : w = 0 ∨ w = 1 ∨ w = 2 ∨ w = 3 ∨ w = 4 := by omega
    rcases this with rfl | rfl | rfl | rfl | rfl <;> decide +kernel
  simp only [bmD]
  rw [if_pos e]
  rfl
theorem listed_ok {t : Str} {ls : List Str} (ht : t.length ≤ 100000) (h : Txt.lines t = ls) (hn : ls.length ≤ 1101) (hl : ∀ l ∈ ls, l.length ≤ 64) (hQ : ∀ st', Q (.str (Txt.join (Str.ofString "") (told ls (wd ls.length) ls.length))) st') : wv (callN D.pg (d + 1) "listed" [.str t] st) Q := by
  have hs1 : 1000000 < sz := by decide
  have hw4 := wd_le (a := ls.length)
  refine callN_w fn_listed rfl ?_
  rw [show f_listed.body = b_listed from rfl, show start f_listed.N [V.str t] = [some (V.str t), none, none, none, none, none] from rfl, b_listed]
  rw [z_seq]
  simp only [z_ifs, z_asgN, z_ret, z_retN, z_don, z_drop, w_var, w_cst, w_bin, w_not, w_and, w_or, w_cmp, w_ife, w_cons, w_nil, w_som, w_tup, w_lst, w_call, w_bif, w_isi, w_idx, List.getElem?_cons_succ, List.getElem?_cons_zero, Option.some.injEq, exists_eq_left', tr_bl, tr_some, c_eqI, c_neI, c_eqS, c_neS, c_lt, c_le, c_gt, c_ge, c_is, c_isnot, o_add, o_sub, List.set_cons_zero, List.set_cons_succ, List.length_cons, List.length_nil, Nat.reduceAdd, Nat.reduceLT, Nat.zero_add, true_and, decide_eq_true_eq, decide_eq_false_iff_not, Bool.not_eq_true', Bool.not_eq_false', Bool.false_eq_true, Bool.true_eq_false, true_implies, false_implies, and_true, Nat.lt_add_one, reduceCtorEq, decide_true, decide_false, not_false_eq_true, not_true_eq_false, w_bm]
  refine ⟨bt_s (.inr (.inl rfl)), ?_⟩
  rw [bd_lines (by omega), h]
  have h1 : (st ++ [Mi.IO.lst (ls.map V.str)])[st.length]? = some (.lst (ls.map V.str)) := get_new
  generalize st ++ [Mi.IO.lst (ls.map V.str)] = s1 at h1 ⊢
  generalize st.length = p at h1 ⊢
  rw [z_seq]
  simp only [z_ifs, z_asgN, z_ret, z_retN, z_don, z_drop, w_var, w_cst, w_bin, w_not, w_and, w_or, w_cmp, w_ife, w_cons, w_nil, w_som, w_tup, w_lst, w_call, w_bif, w_isi, w_idx, List.getElem?_cons_succ, List.getElem?_cons_zero, Option.some.injEq, exists_eq_left', tr_bl, tr_some, c_eqI, c_neI, c_eqS, c_neS, c_lt, c_le, c_gt, c_ge, c_is, c_isnot, o_add, o_sub, List.set_cons_zero, List.set_cons_succ, List.length_cons, List.length_nil, Nat.reduceAdd, Nat.reduceLT, Nat.zero_add, true_and, decide_eq_true_eq, decide_eq_false_iff_not, Bool.not_eq_true', Bool.not_eq_false', Bool.false_eq_true, Bool.true_eq_false, true_implies, false_implies, and_true, Nat.lt_add_one, reduceCtorEq, decide_true, decide_false, not_false_eq_true, not_true_eq_false, b_len (items_lst h1), List.length_map]
  have hb : ((ls.length : Nat) : Int).natAbs < 2 ^ 1000 := by
    have : 1101 < 2 ^ 1000 := by decide +kernel
    omega
  have hwl : (txtI (ls.length : Int)).length = wd ls.length := wds_ok (by omega)
  rw [b_strI hb]
  simp only [z_seq, z_ifs, z_asgN, z_ret, z_retN, z_don, z_drop, w_var, w_cst, w_bin, w_not, w_and, w_or, w_cmp, w_ife, w_cons, w_nil, w_som, w_tup, w_lst, w_call, w_bif, w_isi, w_idx, List.getElem?_cons_succ, List.getElem?_cons_zero, Option.some.injEq, exists_eq_left', tr_bl, tr_some, c_eqI, c_neI, c_eqS, c_neS, c_lt, c_le, c_gt, c_ge, c_is, c_isnot, o_add, o_sub, List.set_cons_zero, List.set_cons_succ, List.length_cons, List.length_nil, Nat.reduceAdd, Nat.reduceLT, Nat.zero_add, true_and, decide_eq_true_eq, decide_eq_false_iff_not, Bool.not_eq_true', Bool.not_eq_false', Bool.false_eq_true, Bool.true_eq_false, true_implies, false_implies, and_true, Nat.lt_add_one, reduceCtorEq, decide_true, decide_false, not_false_eq_true, not_true_eq_false]
  rw [b_lenS (by omega), hwl]
  refine ⟨szl (by decide), ?_⟩
  have p2 : s1 <+: s1 ++ [Mi.IO.lst []] := List.prefix_append _ _
  have h2 : (s1 ++ [Mi.IO.lst []])[s1.length]? = some (.lst ((told ls (wd ls.length) 0).map V.str)) := get_new
  generalize s1 ++ [Mi.IO.lst []] = s2 at p2 h2 ⊢
  generalize hD : s1.length = D1 at h2 ⊢
  generalize hb0 : [some (V.str t), some (V.ref p), some (V.int (wd ls.length : Int)), some (V.ref D1), none, none] = env0
  have hpD : p ≠ D1 := by
    have := lt_of_get h1
    omega
  refine for_enum1 (p := p) (xs := ls.map V.str) (fun j env s => (∃ x4 x5, env = [some (V.str t), some (V.ref p), some (V.int (wd ls.length : Int)), some (V.ref D1), x4, x5]) ∧ s[p]? = some (.lst (ls.map V.str)) ∧ s[D1]? = some (.lst ((told ls (wd ls.length) j).map V.str))) ?_ ?_ ?_ ?_
  · rintro j env s ⟨_, h, _⟩
    exact h
  · subst hb0
    simp only [z_seq, z_ifs, z_asgN, z_ret, z_retN, z_don, z_drop, w_var, w_cst, w_bin, w_not, w_and, w_or, w_cmp, w_ife, w_cons, w_nil, w_som, w_tup, w_lst, w_call, w_bif, w_isi, w_idx, List.getElem?_cons_succ, List.getElem?_cons_zero, Option.some.injEq, exists_eq_left', tr_bl, tr_some, c_eqI, c_neI, c_eqS, c_neS, c_lt, c_le, c_gt, c_ge, c_is, c_isnot, o_add, o_sub, List.set_cons_zero, List.set_cons_succ, List.length_cons, List.length_nil, Nat.reduceAdd, Nat.reduceLT, Nat.zero_add, true_and, decide_eq_true_eq, decide_eq_false_iff_not, Bool.not_eq_true', Bool.not_eq_false', Bool.false_eq_true, Bool.true_eq_false, true_implies, false_implies, and_true, Nat.lt_add_one, reduceCtorEq, decide_true, decide_false, not_false_eq_true, not_true_eq_false]
    exact ⟨⟨_, _, rfl⟩, get_pre p2 h1, h2⟩
  · rintro j x env s hj ⟨⟨x4, x5, rfl⟩, hp, hd⟩
    refine ⟨by simp, by simp, ?_⟩
    rw [List.getElem?_map] at hj
    obtain ⟨l, hl2, rfl⟩ := Option.map_eq_some_iff.mp hj
    have hjl := lt_of_get hl2
    have hll := hl l (List.mem_of_getElem? hl2)
    have q : s <+: s ++ [Mi.IO.tup [V.int (1 + (j : Int)), V.str l]] := List.prefix_append _ _
    have hp' := get_pre q hp
    have hd' := get_pre q hd
    generalize s ++ [Mi.IO.tup [V.int (1 + (j : Int)), V.str l]] = s3 at hp' hd' ⊢
    have hb2 : (1 + (j : Int)).natAbs < 2 ^ 1000 := by
      have : 1102 < 2 ^ 1000 := by decide +kernel
      omega
    have hz : Txt.zfill (txtI (1 + (j : Int))) (wd ls.length : Int) = fgT (1 + (j : Int)) (wd ls.length) := by
      have e1 : (1 + (j : Int)) = ((j + 1 : Nat) : Int) := by omega
      rw [e1]
      exact figs_ok (by omega) (by omega) (wd_mono (by omega)) (by omega)
    have f1 := fgT_len (1 + (j : Int)) (wd ls.length)
    simp only [z_seq, z_ifs, z_asgN, z_ret, z_retN, z_don, z_drop, w_var, w_cst, w_bin, w_not, w_and, w_or, w_cmp, w_ife, w_cons, w_nil, w_som, w_tup, w_lst, w_call, w_bif, w_isi, w_idx, List.getElem?_cons_succ, List.getElem?_cons_zero, Option.some.injEq, exists_eq_left', tr_bl, tr_some, c_eqI, c_neI, c_eqS, c_neS, c_lt, c_le, c_gt, c_ge, c_is, c_isnot, o_add, o_sub, List.set_cons_zero, List.set_cons_succ, List.length_cons, List.length_nil, Nat.reduceAdd, Nat.reduceLT, Nat.zero_add, true_and, decide_eq_true_eq, decide_eq_false_iff_not, Bool.not_eq_true', Bool.not_eq_false', Bool.false_eq_true, Bool.true_eq_false, true_implies, false_implies, and_true, Nat.lt_add_one, reduceCtorEq, decide_true, decide_false, not_false_eq_true, not_true_eq_false, w_bm]
    refine ⟨bt_lst hd', ?_⟩
    rw [b_strI hb2]
    refine ⟨bt_s (.inr (.inr rfl)), ?_⟩
    rw [bd_zf hw4, hz]
    rw [o_addS (by rw [sp_len]; omega), o_addS (by rw [len_app, sp_len]; omega), o_addS (by rw [len_app, len_app, sp_len, nl_len]; omega)]
    have hel : fgT (1 + (j : Int)) (wd ls.length) ++ Str.ofString " " ++ l ++ Str.ofString "\n" = el ls (wd ls.length) j := by
      unfold el
      rw [List.getD_eq_getElem?_getD, hl2]
      rfl
    rw [hel, bd_app hd' (by rw [List.length_map, told_len]; omega)]
    refine ⟨⟨_, _, rfl⟩, get_set_ne hp' hpD, ?_⟩
    rw [get_set_self hd', told_succ, List.map_append]
    rfl
  · rintro env s ⟨⟨x4, x5, rfl⟩, hp, hd⟩
    rw [List.length_map] at hd
    simp only [z_seq, z_ifs, z_asgN, z_ret, z_retN, z_don, z_drop, w_var, w_cst, w_bin, w_not, w_and, w_or, w_cmp, w_ife, w_cons, w_nil, w_som, w_tup, w_lst, w_call, w_bif, w_isi, w_idx, List.getElem?_cons_succ, List.getElem?_cons_zero, Option.some.injEq, exists_eq_left', tr_bl, tr_some, c_eqI, c_neI, c_eqS, c_neS, c_lt, c_le, c_gt, c_ge, c_is, c_isnot, o_add, o_sub, List.set_cons_zero, List.set_cons_succ, List.length_cons, List.length_nil, Nat.reduceAdd, Nat.reduceLT, Nat.zero_add, true_and, decide_eq_true_eq, decide_eq_false_iff_not, Bool.not_eq_true', Bool.not_eq_false', Bool.false_eq_true, Bool.true_eq_false, true_implies, false_implies, and_true, Nat.lt_add_one, reduceCtorEq, decide_true, decide_false, not_false_eq_true, not_true_eq_false, w_bm]
    refine ⟨bt_s (.inl rfl), ?_⟩
    have hs := told_sum (n := ls.length) hw4 hl
    have e0 : (Str.ofString "").length = 0 := rfl
    rw [bd_join hd (by rw [told_len, e0]; omega)]
    exact hQ s
end Mk14
set_option maxHeartbeats 400000
/-! k14: the plain law, whole. -/
namespace Mk14
open PySem PySem.Spec PyProof.Rows L2 Mi
variable {Q Rt : V → Store → Prop} {st st' : Store} {d : Nat} {N : Ev → Store → Prop} {env : Ev}
theorem flat_join (ls : List Str) : (Txt.join (Str.ofString "") (ls.map fun l => l ++ Str.ofString "\n")).cps.toList = flat (ls.map (·.cps.toList)) := by
  rw [join_l]
  unfold flat
  rw [List.flatMap_map, List.flatMap_map]
  congr 1
  funext l
  show (l ++ Str.ofString "\n").cps.toList = l.cps.toList ++ [10]
  rw [app_l, nl_l]
theorem flat_len {ls : List Str} (h : ∀ l ∈ ls, l.length ≤ 64) : (flat (ls.map (·.cps.toList))).length ≤ ls.length * 65 := by
  induction ls with
  | nil => simp [flat]
  | cons l r ih =>
    have h1 := h l (List.mem_cons_self ..)
    have h2 := ih fun z hz => h z (List.mem_cons_of_mem _ hz)
    have e0 : flat ((l :: r).map (·.cps.toList)) = l.cps.toList ++ (10 :: flat (r.map (·.cps.toList))) := by simp [flat]
    rw [e0, List.length_append, List.length_cons, List.length_cons, Nat.succ_mul]
    rw [len_l] at h1
    omega
theorem sIx_n1 {n d : Nat} : HT.sIx n d (some (-1)) = n - 1 := by
  show (if (-1 : Int) < 0 then ((-1 : Int) + (n : Int)).toNat else min (-1 : Int).toNat n) = _
  rw [if_pos (by decide)]
  omega
theorem cut_last {t : Str} : (cutS t none (some (-1))).cps.toList = t.cps.toList.take (t.cps.toList.length - 1) := by
  rw [cutS_l, HT.sIx_none, sIx_n1, List.drop_zero]
  rfl
theorem at_last {x : V} {xs : List V} : atI (xs ++ [x]) (-1) = some x := by
  unfold atI ixN
  rw [if_neg (by decide), if_pos (by simp; omega)]
  show (xs ++ [x])[((-1 : Int) + ((xs ++ [x]).length : Int)).toNat]? = some x
  rw [show ((-1 : Int) + ((xs ++ [x]).length : Int)).toNat = xs.length from by simp; omega]
  simp
theorem at_map {ls : List Str} {j : Nat} (h : j < ls.length) : atI (ls.map V.str) (j : Int) = some (.str ls[j]) := by
  obtain ⟨v, hv, hv2⟩ := atI_nn (xs := ls.map V.str) (k := (j : Int)) (by omega) (by rw [List.length_map]; omega)
  rw [Int.toNat_natCast, List.getElem?_map, List.getElem?_eq_getElem h] at hv2
  rw [hv]
  exact hv2.symm
theorem snoc_of {α : Type} {l : List α} (h : 0 < l.length) : ∃ i z, l = i ++ [z] := by
  refine ⟨l.dropLast, l.getLast (fun e => by rw [e] at h; cases h), (List.dropLast_concat_getLast _).symm⟩
/-- the text, with or without its last line end, has the lines -/
theorem text_ok {ls : List Str} {t : Str} (hl : ∀ l ∈ ls, Ln l) (ht : t = Txt.join (Str.ofString "") (ls.map fun l => l ++ Str.ofString "\n")) : Txt.lines t = ls ∧ t.length ≤ ls.length * 65 := by
  subst ht
  refine ⟨lines_full (flat_join ls) fun l h => (hl l h).plain, ?_⟩
  rw [len_l, flat_join]
  exact flat_len fun l h => (hl l h).le
theorem text_cut {ls : List Str} {z t : Str} (hl : ∀ l ∈ ls ++ [z], Ln l) (hz : z ≠ Str.ofString "") (ht : t = Txt.join (Str.ofString "") ((ls ++ [z]).map fun l => l ++ Str.ofString "\n")) : Txt.lines (cutS t none (some (-1))) = ls ++ [z] ∧ (cutS t none (some (-1))).length ≤ (ls ++ [z]).length * 65 := by
  have hf : t.cps.toList = flat (ls.map (·.cps.toList)) ++ z.cps.toList ++ [10] := by
    rw [ht, flat_join, List.map_append]
    simp [flat]
  have hc : (cutS t none (some (-1))).cps.toList = flat (ls.map (·.cps.toList)) ++ z.cps.toList := by
    rw [cut_last, hf, List.length_append, List.length_singleton, Nat.add_sub_cancel, List.take_left]
  have hzl : 0 < z.length := by
    rcases Nat.eq_zero_or_pos z.length with h | h
    · exfalso
      refine hz (str_ext ?_)
      rw [emp_l]
      exact List.length_eq_zero_iff.mp h
    · exact h
  refine ⟨lines_cut hc hzl (fun l h => (hl l (List.mem_append_left _ h)).plain) (hl z (List.mem_append_right _ (List.mem_singleton.mpr rfl))).plain, ?_⟩
  refine Nat.le_trans cutS_le ?_
  exact (text_ok hl ht).2
section
variable {ns : List Int}
/-- the drawn lines -/
theorem lines_by {m : Nat} {env0 : Ev} (s0 : st[0]? = some (.fro (ns.map .int))) (hm : m ≤ 1100) (hb : [some (V.ref 0), some (V.int (m : Int)), none, none, none, none, none, none, none] = env0)
    (hQ : ∀ (ls : List Str) (q : Nat) (s : Store), st <+: s → ls.length = m → (∀ l ∈ ls, Ln l) → s[q]? = some (.lst (ls.map V.str)) → Q (.ref q) s) :
    wv (run D.pg (callN D.pg (d + 1)) (.lc [3] (.n 3) .rng1 (.cons (.var 1) .nil) .nil (.call "_law_line_by" (.cons (.bin .Add (.call "_law_cell_at" (.cons (.var 0) (.cons (.bin .Add (.cst (.int 2)) (.bin .Mod (.var 3) (.cst (.int 61)))) .nil))) (.bin .Mult (.cst (.int 101)) (.var 3))) .nil))) env0 st) Q := by
  have hs1 : 100000 < sz := by decide
  refine lc_rng1 (n := m) (fun j acc s => st <+: s ∧ s[st.length]? = some (.lst acc) ∧ ∃ ls : List Str, ls.length = j ∧ (∀ l ∈ ls, Ln l) ∧ acc = ls.map V.str) (Nat.lt_of_le_of_lt hm (by decide)) st.length (by subst hb; simp [L2.wipe]) ?_ ?_ ?_
  · subst hb
    simp only [z_seq, z_ifs, z_asgN, z_ret, z_retN, z_don, z_drop, w_var, w_cst, w_bin, w_not, w_and, w_or, w_cmp, w_ife, w_cons, w_nil, w_som, w_tup, w_lst, w_call, w_bif, w_isi, w_idx, List.getElem?_cons_succ, List.getElem?_cons_zero, Option.some.injEq, exists_eq_left', tr_bl, tr_some, c_eqI, c_neI, c_eqS, c_neS, c_lt, c_le, c_gt, c_ge, c_is, c_isnot, o_add, o_sub, List.set_cons_zero, List.set_cons_succ, List.length_cons, List.length_nil, Nat.reduceAdd, Nat.reduceLT, Nat.zero_add, true_and, decide_eq_true_eq, decide_eq_false_iff_not, Bool.not_eq_true', Bool.not_eq_false', Bool.false_eq_true, Bool.true_eq_false, true_implies, false_implies, and_true, Nat.lt_add_one, reduceCtorEq, decide_true, decide_false, not_false_eq_true, not_true_eq_false]
    exact ⟨List.prefix_append _ _, get_new, [], rfl, (fun _ h => nomatch h), rfl⟩
  · rintro j acc s hj ⟨p, h, ls, e1, e2, rfl⟩
    subst hb
    simp only [z_seq, z_ifs, z_asgN, z_ret, z_retN, z_don, z_drop, w_var, w_cst, w_bin, w_not, w_and, w_or, w_cmp, w_ife, w_cons, w_nil, w_som, w_tup, w_lst, w_call, w_bif, w_isi, w_idx, List.getElem?_cons_succ, List.getElem?_cons_zero, Option.some.injEq, exists_eq_left', tr_bl, tr_some, c_eqI, c_neI, c_eqS, c_neS, c_lt, c_le, c_gt, c_ge, c_is, c_isnot, o_add, o_sub, List.set_cons_zero, List.set_cons_succ, List.length_cons, List.length_nil, Nat.reduceAdd, Nat.reduceLT, Nat.zero_add, true_and, decide_eq_true_eq, decide_eq_false_iff_not, Bool.not_eq_true', Bool.not_eq_false', Bool.false_eq_true, Bool.true_eq_false, true_implies, false_implies, and_true, Nat.lt_add_one, reduceCtorEq, decide_true, decide_false, not_false_eq_true, not_true_eq_false, L2.wipe, o_mod (show (0 : Int) < 61 by decide)]
    refine cell_at_v (get_pre p s0) (by have := Int.emod_nonneg (j : Int) (show (61 : Int) ≠ 0 by decide); omega) ?_
    simp only [z_seq, z_ifs, z_asgN, z_ret, z_retN, z_don, z_drop, w_var, w_cst, w_bin, w_not, w_and, w_or, w_cmp, w_ife, w_cons, w_nil, w_som, w_tup, w_lst, w_call, w_bif, w_isi, w_idx, List.getElem?_cons_succ, List.getElem?_cons_zero, Option.some.injEq, exists_eq_left', tr_bl, tr_some, c_eqI, c_neI, c_eqS, c_neS, c_lt, c_le, c_gt, c_ge, c_is, c_isnot, o_add, o_sub, List.set_cons_zero, List.set_cons_succ, List.length_cons, List.length_nil, Nat.reduceAdd, Nat.reduceLT, Nat.zero_add, true_and, decide_eq_true_eq, decide_eq_false_iff_not, Bool.not_eq_true', Bool.not_eq_false', Bool.false_eq_true, Bool.true_eq_false, true_implies, false_implies, and_true, Nat.lt_add_one, reduceCtorEq, decide_true, decide_false, not_false_eq_true, not_true_eq_false, o_mulL (show (101 : Int).natAbs < 2 ^ 64 by decide)]
    refine line_by_ok fun l hl => ?_
    refine ⟨h, by rw [List.length_map]; omega, pre_set p (Nat.le_refl _), get_set_self h, ls ++ [l], by simp [e1], ?_, by simp⟩
    intro y hy
    rcases List.mem_append.mp hy with hy | hy
    · exact e2 y hy
    · have : y = l := by simpa using hy
      rw [this]
      exact hl
  · rintro acc s ⟨p, h, ls, e1, e2, rfl⟩
    exact hQ ls _ s p e1 e2 h
/-- each line with its end -/
theorem ends_by {ls : List Str} {p : Nat} {env0 : Ev} {e3 : Option V} {m : Int} (h : st[p]? = some (.lst (ls.map V.str))) (hl : ∀ l ∈ ls, Ln l) (hn : ls.length ≤ 1100) (hb : [some (V.ref 0), some (V.int m), some (V.ref p), e3, none, none, none, none, none] = env0)
    (hQ : ∀ q s, st <+: s → s[q]? = some (.lst ((ls.map fun l => l ++ Str.ofString "\n").map V.str)) → Q (.ref q) s) :
    wv (run D.pg (callN D.pg (d + 1)) (.lc [5] (.n 5) .seq (.var 2) .nil (.bin .Add (.var 5) (.cst (.str "\n")))) env0 st) Q := by
  have hs1 : 100000 < sz := by decide
  refine lc_sk0 (p := p) (xs := ls.map V.str) .l (fun j acc s => st <+: s ∧ s[st.length]? = some (.lst acc) ∧ acc = ((ls.take j).map fun l => l ++ Str.ofString "\n").map V.str) st.length (by subst hb; simp [L2.wipe]) ?_ ?_ ?_ ?_
  · rintro j acc s ⟨p2, _⟩
    exact get_pre p2 h
  · subst hb
    simp only [z_seq, z_ifs, z_asgN, z_ret, z_retN, z_don, z_drop, w_var, w_cst, w_bin, w_not, w_and, w_or, w_cmp, w_ife, w_cons, w_nil, w_som, w_tup, w_lst, w_call, w_bif, w_isi, w_idx, List.getElem?_cons_succ, List.getElem?_cons_zero, Option.some.injEq, exists_eq_left', tr_bl, tr_some, c_eqI, c_neI, c_eqS, c_neS, c_lt, c_le, c_gt, c_ge, c_is, c_isnot, o_add, o_sub, List.set_cons_zero, List.set_cons_succ, List.length_cons, List.length_nil, Nat.reduceAdd, Nat.reduceLT, Nat.zero_add, true_and, decide_eq_true_eq, decide_eq_false_iff_not, Bool.not_eq_true', Bool.not_eq_false', Bool.false_eq_true, Bool.true_eq_false, true_implies, false_implies, and_true, Nat.lt_add_one, reduceCtorEq, decide_true, decide_false, not_false_eq_true, not_true_eq_false]
    exact ⟨h, List.prefix_append _ _, get_new, rfl⟩
  · rintro j x acc s hj ⟨p2, h2, rfl⟩
    subst hb
    rw [List.getElem?_map] at hj
    obtain ⟨l, hl2, rfl⟩ := Option.map_eq_some_iff.mp hj
    have hll := (hl l (List.mem_of_getElem? hl2)).le
    have hjl := lt_of_get hl2
    simp only [z_seq, z_ifs, z_asgN, z_ret, z_retN, z_don, z_drop, w_var, w_cst, w_bin, w_not, w_and, w_or, w_cmp, w_ife, w_cons, w_nil, w_som, w_tup, w_lst, w_call, w_bif, w_isi, w_idx, List.getElem?_cons_succ, List.getElem?_cons_zero, Option.some.injEq, exists_eq_left', tr_bl, tr_some, c_eqI, c_neI, c_eqS, c_neS, c_lt, c_le, c_gt, c_ge, c_is, c_isnot, o_add, o_sub, List.set_cons_zero, List.set_cons_succ, List.length_cons, List.length_nil, Nat.reduceAdd, Nat.reduceLT, Nat.zero_add, true_and, decide_eq_true_eq, decide_eq_false_iff_not, Bool.not_eq_true', Bool.not_eq_false', Bool.false_eq_true, Bool.true_eq_false, true_implies, false_implies, and_true, Nat.lt_add_one, reduceCtorEq, decide_true, decide_false, not_false_eq_true, not_true_eq_false, L2.wipe]
    rw [o_addS (by rw [nl_len]; omega)]
    refine ⟨h2, by rw [List.length_map, List.length_map, List.length_take]; omega, pre_set p2 (Nat.le_refl _), get_set_self h2, ?_⟩
    rw [take_snoc hl2, List.map_append, List.map_append]
    rfl
  · rintro acc s ⟨p2, h2, rfl⟩
    rw [List.length_map, List.take_length] at h2
    exact hQ _ s p2 h2
/-- the due rows -/
theorem due_by {ls : List Str} {p w m : Nat} {wI : Int} (hwI : wI = (w : Int)) {env0 : Ev} {e3 e4 e5 : Option V} (h : st[p]? = some (.lst (ls.map V.str))) (hl : ∀ l ∈ ls, Ln l) (hn : ls.length = m) (hm : m ≤ 1100) (hw : w ≤ 4) (hb : [some (V.ref 0), some (V.int (m : Int)), some (V.ref p), e3, e4, e5, some (V.int wI), none, none] = env0)
    (hQ : ∀ q s, st <+: s → s[q]? = some (.lst ((told ls w m).map V.str)) → Q (.ref q) s) :
    wv (run D.pg (callN D.pg (d + 1)) (.lc [3] (.n 3) .rng1 (.cons (.var 1) .nil) .nil (.bin .Add (.bin .Add (.bin .Add (.call "_law_figures" (.cons (.bin .Add (.var 3) (.cst (.int 1))) (.cons (.var 6) .nil))) (.cst (.str " "))) (.idx (.var 2) (.var 3))) (.cst (.str "\n")))) env0 st) Q := by
  have hs1 : 100000 < sz := by decide
  refine lc_rng1 (n := m) (fun j acc s => st <+: s ∧ s[st.length]? = some (.lst acc) ∧ acc = (told ls w j).map V.str) (Nat.lt_of_le_of_lt hm (by decide)) st.length (by subst hb; simp [L2.wipe]) ?_ ?_ ?_
  · subst hb
    simp only [z_seq, z_ifs, z_asgN, z_ret, z_retN, z_don, z_drop, w_var, w_cst, w_bin, w_not, w_and, w_or, w_cmp, w_ife, w_cons, w_nil, w_som, w_tup, w_lst, w_call, w_bif, w_isi, w_idx, List.getElem?_cons_succ, List.getElem?_cons_zero, Option.some.injEq, exists_eq_left', tr_bl, tr_some, c_eqI, c_neI, c_eqS, c_neS, c_lt, c_le, c_gt, c_ge, c_is, c_isnot, o_add, o_sub, List.set_cons_zero, List.set_cons_succ, List.length_cons, List.length_nil, Nat.reduceAdd, Nat.reduceLT, Nat.zero_add, true_and, decide_eq_true_eq, decide_eq_false_iff_not, Bool.not_eq_true', Bool.not_eq_false', Bool.false_eq_true, Bool.true_eq_false, true_implies, false_implies, and_true, Nat.lt_add_one, reduceCtorEq, decide_true, decide_false, not_false_eq_true, not_true_eq_false]
    exact ⟨List.prefix_append _ _, get_new, rfl⟩
  · rintro j acc s hj ⟨p2, h2, rfl⟩
    subst hb
    have f1 := fgT_len (1 + (j : Int)) w
    have ej : ls[j]? = some ls[j] := List.getElem?_eq_getElem (by omega)
    have hll := (hl _ (List.mem_of_getElem? ej)).le
    have hv := at_map (ls := ls) (j := j) (by omega)
    simp only [z_seq, z_ifs, z_asgN, z_ret, z_retN, z_don, z_drop, w_var, w_cst, w_bin, w_not, w_and, w_or, w_cmp, w_ife, w_cons, w_nil, w_som, w_tup, w_lst, w_call, w_bif, w_isi, w_idx, List.getElem?_cons_succ, List.getElem?_cons_zero, Option.some.injEq, exists_eq_left', tr_bl, tr_some, c_eqI, c_neI, c_eqS, c_neS, c_lt, c_le, c_gt, c_ge, c_is, c_isnot, o_add, o_sub, List.set_cons_zero, List.set_cons_succ, List.length_cons, List.length_nil, Nat.reduceAdd, Nat.reduceLT, Nat.zero_add, true_and, decide_eq_true_eq, decide_eq_false_iff_not, Bool.not_eq_true', Bool.not_eq_false', Bool.false_eq_true, Bool.true_eq_false, true_implies, false_implies, and_true, Nat.lt_add_one, reduceCtorEq, decide_true, decide_false, not_false_eq_true, not_true_eq_false, L2.wipe]
    rw [show (j : Int) + 1 = 1 + (j : Int) by omega]
    refine figures_ok hwI hw ?_
    rw [o_addS (by rw [sp_len]; omega)]
    simp only [z_seq, z_ifs, z_asgN, z_ret, z_retN, z_don, z_drop, w_var, w_cst, w_bin, w_not, w_and, w_or, w_cmp, w_ife, w_cons, w_nil, w_som, w_tup, w_lst, w_call, w_bif, w_isi, w_idx, List.getElem?_cons_succ, List.getElem?_cons_zero, Option.some.injEq, exists_eq_left', tr_bl, tr_some, c_eqI, c_neI, c_eqS, c_neS, c_lt, c_le, c_gt, c_ge, c_is, c_isnot, o_add, o_sub, List.set_cons_zero, List.set_cons_succ, List.length_cons, List.length_nil, Nat.reduceAdd, Nat.reduceLT, Nat.zero_add, true_and, decide_eq_true_eq, decide_eq_false_iff_not, Bool.not_eq_true', Bool.not_eq_false', Bool.false_eq_true, Bool.true_eq_false, true_implies, false_implies, and_true, Nat.lt_add_one, reduceCtorEq, decide_true, decide_false, not_false_eq_true, not_true_eq_false, i_at (items_lst (get_pre p2 h)) hv]
    rw [o_addS (by rw [len_app, sp_len]; omega), o_addS (by rw [len_app, len_app, sp_len, nl_len]; omega)]
    have hel : fgT (1 + (j : Int)) w ++ Str.ofString " " ++ ls[j] ++ Str.ofString "\n" = el ls w j := by
      unfold el
      rw [List.getD_eq_getElem?_getD, ej]
      rfl
    rw [hel]
    refine ⟨h2, by rw [List.length_map, told_len]; omega, pre_set p2 (Nat.le_refl _), get_set_self h2, ?_⟩
    rw [told_succ, List.map_append]
    rfl
  · rintro acc s ⟨p2, h2, rfl⟩
    exact hQ _ s p2 h2
end
end Mk14
set_option maxHeartbeats 400000
/-! k14: the plain law, all. -/
namespace Mk14
open PySem PySem.Spec PyProof.Rows L2 Mi
variable {Q Rt : V → Store → Prop} {st st' : Store} {d : Nat} {N : Ev → Store → Prop} {env : Ev}
theorem wide_if {a0 : Option V} {e2 e3 e4 e5 e7 e8 : Option V} {k v w mI : Int} {P : T} (h1 : k < mI → wz (run D.pg (callN D.pg d) P [a0, some (.int mI), e2, e3, e4, e5, some (.int v), e7, e8] st) N Rt) (h2 : ¬ k < mI → wz (run D.pg (callN D.pg d) P [a0, some (.int mI), e2, e3, e4, e5, some (.int w), e7, e8] st) N Rt) :
    wz (run D.pg (callN D.pg d) (.seq (.ifs (.cmp .Gt (.var 1) (.cst (.int k))) (.seq (.asgN 6 (.cst (.int v))) .don) .don) P) [a0, some (.int mI), e2, e3, e4, e5, some (.int w), e7, e8] st) N Rt := by
  rw [z_seq]
  simp only [z_ifs, z_asgN, z_ret, z_retN, z_don, z_drop, w_var, w_cst, w_bin, w_not, w_and, w_or, w_cmp, w_ife, w_cons, w_nil, w_som, w_tup, w_lst, w_call, w_bif, w_isi, w_idx, List.getElem?_cons_succ, List.getElem?_cons_zero, Option.some.injEq, exists_eq_left', tr_bl, tr_some, c_eqI, c_neI, c_eqS, c_neS, c_lt, c_le, c_gt, c_ge, c_is, c_isnot, o_add, o_sub, List.set_cons_zero, List.set_cons_succ, List.length_cons, List.length_nil, Nat.reduceAdd, Nat.reduceLT, Nat.zero_add, true_and, decide_eq_true_eq, decide_eq_false_iff_not, Bool.not_eq_true', Bool.not_eq_false', Bool.false_eq_true, Bool.true_eq_false, true_implies, false_implies, and_true, Nat.lt_add_one, reduceCtorEq, decide_true, decide_false, not_false_eq_true, not_true_eq_false]
  refine ⟨fun h => ?_, fun h => h2 h⟩
  rw [z_seq]
  simp only [z_ifs, z_asgN, z_ret, z_retN, z_don, z_drop, w_var, w_cst, w_bin, w_not, w_and, w_or, w_cmp, w_ife, w_cons, w_nil, w_som, w_tup, w_lst, w_call, w_bif, w_isi, w_idx, List.getElem?_cons_succ, List.getElem?_cons_zero, Option.some.injEq, exists_eq_left', tr_bl, tr_some, c_eqI, c_neI, c_eqS, c_neS, c_lt, c_le, c_gt, c_ge, c_is, c_isnot, o_add, o_sub, List.set_cons_zero, List.set_cons_succ, List.length_cons, List.length_nil, Nat.reduceAdd, Nat.reduceLT, Nat.zero_add, true_and, decide_eq_true_eq, decide_eq_false_iff_not, Bool.not_eq_true', Bool.not_eq_false', Bool.false_eq_true, Bool.true_eq_false, true_implies, false_implies, and_true, Nat.lt_add_one, reduceCtorEq, decide_true, decide_false, not_false_eq_true, not_true_eq_false]
  exact h1 h
def endT : T := (.seq (.asgN 7 (.bm .sJoin (.cst (.str "")) (.cons (.lc [3] (.n 3) .rng1 (.cons (.var 1) .nil) .nil (.bin .Add (.bin .Add (.bin .Add (.call "_law_figures" (.cons (.bin .Add (.var 3) (.cst (.int 1))) (.cons (.var 6) .nil))) (.cst (.str " "))) (.idx (.var 2) (.var 3))) (.cst (.str "\n")))) .nil)))
  (.seq (.asgN 8 (.call "listed" (.cons (.var 4) .nil)))
  (.seq (.ret (.and (.isi (.var 8) .str) (.cmp .Eq (.var 8) (.var 7))))
  .don)))
theorem end_ok {ls : List Str} {p m : Nat} {wI : Int} {t : Str} {e3 e5 : Option V} (h : st[p]? = some (.lst (ls.map V.str))) (hl : ∀ l ∈ ls, Ln l) (hn : ls.length = m) (hm : m ≤ 1100) (hwI : wI = (wd m : Int)) (ht : Txt.lines t = ls) (htl : t.length ≤ 100000) {env0 : Ev} (hb : [some (V.ref 0), some (V.int (m : Int)), some (V.ref p), e3, some (V.str t), e5, some (V.int wI), none, none] = env0)
    (hQ : ∀ s, Rt (.bl true) s) : wz (run D.pg (callN D.pg (d + 2)) endT env0 st) N Rt := by
  have hs1 : 1000000 < sz := by decide
  have hw4 := wd_le (a := m)
  rw [endT, z_seq, z_asgN]
  simp only [z_ifs, z_asgN, z_ret, z_retN, z_don, z_drop, w_var, w_cst, w_bin, w_not, w_and, w_or, w_cmp, w_ife, w_cons, w_nil, w_som, w_tup, w_lst, w_call, w_bif, w_isi, w_idx, List.getElem?_cons_succ, List.getElem?_cons_zero, Option.some.injEq, exists_eq_left', tr_bl, tr_some, c_eqI, c_neI, c_eqS, c_neS, c_lt, c_le, c_gt, c_ge, c_is, c_isnot, o_add, o_sub, List.set_cons_zero, List.set_cons_succ, List.length_cons, List.length_nil, Nat.reduceAdd, Nat.reduceLT, Nat.zero_add, true_and, decide_eq_true_eq, decide_eq_false_iff_not, Bool.not_eq_true', Bool.not_eq_false', Bool.false_eq_true, Bool.true_eq_false, true_implies, false_implies, and_true, Nat.lt_add_one, reduceCtorEq, decide_true, decide_false, not_false_eq_true, not_true_eq_false, w_bm]
  refine ⟨bt_s (.inl rfl), ?_⟩
  refine due_by (d := d + 1) hwI h hl hn hm hw4 hb fun q s p1 hq => ?_
  have hs := told_sum (ls := ls) (n := m) hw4 fun l h => (hl l h).le
  have e0 : (Str.ofString "").length = 0 := rfl
  rw [bd_join hq (by rw [told_len, e0]; omega)]
  subst hb
  refine ⟨by simp, ?_⟩
  rw [z_seq]
  simp only [z_ifs, z_asgN, z_ret, z_retN, z_don, z_drop, w_var, w_cst, w_bin, w_not, w_and, w_or, w_cmp, w_ife, w_cons, w_nil, w_som, w_tup, w_lst, w_call, w_bif, w_isi, w_idx, List.getElem?_cons_succ, List.getElem?_cons_zero, Option.some.injEq, exists_eq_left', tr_bl, tr_some, c_eqI, c_neI, c_eqS, c_neS, c_lt, c_le, c_gt, c_ge, c_is, c_isnot, o_add, o_sub, List.set_cons_zero, List.set_cons_succ, List.length_cons, List.length_nil, Nat.reduceAdd, Nat.reduceLT, Nat.zero_add, true_and, decide_eq_true_eq, decide_eq_false_iff_not, Bool.not_eq_true', Bool.not_eq_false', Bool.false_eq_true, Bool.true_eq_false, true_implies, false_implies, and_true, Nat.lt_add_one, reduceCtorEq, decide_true, decide_false, not_false_eq_true, not_true_eq_false]
  refine listed_ok (d := d + 1) htl ht (by omega) (fun l h => (hl l h).le) fun s2 => ?_
  rw [hn]
  simp only [z_seq, z_ifs, z_asgN, z_ret, z_retN, z_don, z_drop, w_var, w_cst, w_bin, w_not, w_and, w_or, w_cmp, w_ife, w_cons, w_nil, w_som, w_tup, w_lst, w_call, w_bif, w_isi, w_idx, List.getElem?_cons_succ, List.getElem?_cons_zero, Option.some.injEq, exists_eq_left', tr_bl, tr_some, c_eqI, c_neI, c_eqS, c_neS, c_lt, c_le, c_gt, c_ge, c_is, c_isnot, o_add, o_sub, List.set_cons_zero, List.set_cons_succ, List.length_cons, List.length_nil, Nat.reduceAdd, Nat.reduceLT, Nat.zero_add, true_and, decide_eq_true_eq, decide_eq_false_iff_not, Bool.not_eq_true', Bool.not_eq_false', Bool.false_eq_true, Bool.true_eq_false, true_implies, false_implies, and_true, Nat.lt_add_one, reduceCtorEq, decide_true, decide_false, not_false_eq_true, not_true_eq_false, ty_str, sub_2]
  exact hQ s2
def lastT : T := (.seq (.asgN 6 (.cst (.int 1)))
  (.seq (.ifs (.cmp .Gt (.var 1) (.cst (.int 9)))
  (.seq (.asgN 6 (.cst (.int 2)))
  .don)
  .don)
  (.seq (.ifs (.cmp .Gt (.var 1) (.cst (.int 99)))
  (.seq (.asgN 6 (.cst (.int 3)))
  .don)
  .don)
  (.seq (.ifs (.cmp .Gt (.var 1) (.cst (.int 999)))
  (.seq (.asgN 6 (.cst (.int 4)))
  .don)
  .don)
  endT))))
theorem last_ok {ls : List Str} {p m : Nat} {t : Str} {e3 e5 : Option V} (h : st[p]? = some (.lst (ls.map V.str))) (hl : ∀ l ∈ ls, Ln l) (hn : ls.length = m) (hm : m ≤ 1100) (ht : Txt.lines t = ls) (htl : t.length ≤ 100000) {env0 : Ev} (hb : [some (V.ref 0), some (V.int (m : Int)), some (V.ref p), e3, some (V.str t), e5, none, none, none] = env0)
    (hQ : ∀ s, Rt (.bl true) s) : wz (run D.pg (callN D.pg (d + 2)) lastT env0 st) N Rt := by
  have key : ∀ wI : Int, wI = (wd m : Int) → wz (run D.pg (callN D.pg (d + 2)) endT [some (V.ref 0), some (V.int (m : Int)), some (V.ref p), e3, some (V.str t), e5, some (.int wI), none, none] st) N Rt := fun wI hw => by
    generalize hb1 : [some (V.ref 0), some (V.int (m : Int)), some (V.ref p), e3, some (V.str t), e5, some (.int wI), none, none] = env1
    exact end_ok h hl hn hm hw ht htl hb1 hQ
  subst hb
  generalize hmI : (m : Int) = mI at key ⊢
  have hw : (wd m : Int) = if 999 < mI then 4 else if 99 < mI then 3 else if 9 < mI then 2 else 1 := by
    unfold wd
    subst hmI
    split <;> split <;> (try split) <;> (try split) <;> (try split) <;> (try split) <;> first | rfl | omega
  rw [hw] at key
  rw [lastT, z_seq]
  simp only [z_ifs, z_asgN, z_ret, z_retN, z_don, z_drop, w_var, w_cst, w_bin, w_not, w_and, w_or, w_cmp, w_ife, w_cons, w_nil, w_som, w_tup, w_lst, w_call, w_bif, w_isi, w_idx, List.getElem?_cons_succ, List.getElem?_cons_zero, Option.some.injEq, exists_eq_left', tr_bl, tr_some, c_eqI, c_neI, c_eqS, c_neS, c_lt, c_le, c_gt, c_ge, c_is, c_isnot, o_add, o_sub, List.set_cons_zero, List.set_cons_succ, List.length_cons, List.length_nil, Nat.reduceAdd, Nat.reduceLT, Nat.zero_add, true_and, decide_eq_true_eq, decide_eq_false_iff_not, Bool.not_eq_true', Bool.not_eq_false', Bool.false_eq_true, Bool.true_eq_false, true_implies, false_implies, and_true, Nat.lt_add_one, reduceCtorEq, decide_true, decide_false, not_false_eq_true, not_true_eq_false]
  refine wide_if (fun h1 => wide_if (fun h2 => wide_if (fun h3 => key _ ?_) fun h3 => key _ ?_) fun h2 => wide_if (fun h3 => key _ ?_) fun h3 => key _ ?_) fun h1 => wide_if (fun h2 => wide_if (fun h3 => key _ ?_) fun h3 => key _ ?_) fun h2 => wide_if (fun h3 => key _ ?_) fun h3 => key _ ?_
  all_goals
    repeat' split
    all_goals first | rfl | omega
def textT : T := (.seq (.asgN 4 (.bm .sJoin (.cst (.str "")) (.cons (.lc [5] (.n 5) .seq (.var 2) .nil (.bin .Add (.var 5) (.cst (.str "\n")))) .nil)))
  (.seq (.ifs (.and (.cmp .Eq (.bin .Mod (.call "_law_cell_at" (.cons (.var 0) (.cons (.cst (.int 1)) .nil))) (.cst (.int 2))) (.cst (.int 0))) (.and (.cmp .Gt (.var 1) (.cst (.int 0))) (.cmp .NotEq (.idx (.var 2) (.neg (.cst (.int 1)))) (.cst (.str "")))))
  (.seq (.asgN 4 (.slc (.var 4) .nil (.som (.neg (.cst (.int 1))))))
  .don)
  .don)
  lastT))
theorem text_T {ns : List Int} {ls : List Str} {p m : Nat} (s0 : st[0]? = some (.fro (ns.map .int))) (h : st[p]? = some (.lst (ls.map V.str))) (hl : ∀ l ∈ ls, Ln l) (hn : ls.length = m) (hm : m ≤ 1100) {env0 : Ev} (hb : [some (V.ref 0), some (V.int (m : Int)), some (V.ref p), none, none, none, none, none, none] = env0)
    (hQ : ∀ s, Rt (.bl true) s) : wz (run D.pg (callN D.pg (d + 2)) textT env0 st) N Rt := by
  have hs1 : 1000000 < sz := by decide
  rw [textT, z_seq, z_asgN]
  simp only [z_ifs, z_asgN, z_ret, z_retN, z_don, z_drop, w_var, w_cst, w_bin, w_not, w_and, w_or, w_cmp, w_ife, w_cons, w_nil, w_som, w_tup, w_lst, w_call, w_bif, w_isi, w_idx, List.getElem?_cons_succ, List.getElem?_cons_zero, Option.some.injEq, exists_eq_left', tr_bl, tr_some, c_eqI, c_neI, c_eqS, c_neS, c_lt, c_le, c_gt, c_ge, c_is, c_isnot, o_add, o_sub, List.set_cons_zero, List.set_cons_succ, List.length_cons, List.length_nil, Nat.reduceAdd, Nat.reduceLT, Nat.zero_add, true_and, decide_eq_true_eq, decide_eq_false_iff_not, Bool.not_eq_true', Bool.not_eq_false', Bool.false_eq_true, Bool.true_eq_false, true_implies, false_implies, and_true, Nat.lt_add_one, reduceCtorEq, decide_true, decide_false, not_false_eq_true, not_true_eq_false, w_bm]
  refine ⟨bt_s (.inl rfl), ?_⟩
  refine ends_by (d := d + 1) h hl (by omega) hb fun q s p1 hq => ?_
  have hs := sum_le (ys := ls.map fun l => l ++ Str.ofString "\n") (B := 65) fun y hy => by
    obtain ⟨l, hl2, rfl⟩ := List.mem_map.mp hy
    have := (hl l hl2).le
    rw [len_app, nl_len]
    omega
  rw [List.length_map] at hs
  have e0 : (Str.ofString "").length = 0 := rfl
  rw [bd_join hq (by rw [e0, List.length_map]; omega)]
  subst hb
  refine ⟨by simp, ?_⟩
  obtain ⟨t1, t2⟩ := text_ok (t := Txt.join (Str.ofString "") (ls.map fun l => l ++ Str.ofString "\n")) hl rfl
  generalize ht : Txt.join (Str.ofString "") (ls.map fun l => l ++ Str.ofString "\n") = t at t1 t2 ⊢
  have h1 := get_pre p1 h
  have full : wz (run D.pg (callN D.pg (d + 2)) lastT [some (V.ref 0), some (V.int (m : Int)), some (V.ref p), none, some (V.str t), none, none, none, none] s) N Rt := by
    generalize hb1 : [some (V.ref 0), some (V.int (m : Int)), some (V.ref p), none, some (V.str t), none, none, none, none] = env1
    exact last_ok h1 hl hn hm t1 (by omega) hb1 hQ
  rw [z_seq]
  simp only [z_ifs, z_asgN, z_ret, z_retN, z_don, z_drop, w_var, w_cst, w_bin, w_not, w_and, w_or, w_cmp, w_ife, w_cons, w_nil, w_som, w_tup, w_lst, w_call, w_bif, w_isi, w_idx, List.getElem?_cons_succ, List.getElem?_cons_zero, Option.some.injEq, exists_eq_left', tr_bl, tr_some, c_eqI, c_neI, c_eqS, c_neS, c_lt, c_le, c_gt, c_ge, c_is, c_isnot, o_add, o_sub, List.set_cons_zero, List.set_cons_succ, List.length_cons, List.length_nil, Nat.reduceAdd, Nat.reduceLT, Nat.zero_add, true_and, decide_eq_true_eq, decide_eq_false_iff_not, Bool.not_eq_true', Bool.not_eq_false', Bool.false_eq_true, Bool.true_eq_false, true_implies, false_implies, and_true, Nat.lt_add_one, reduceCtorEq, decide_true, decide_false, not_false_eq_true, not_true_eq_false]
  refine cell_at_v (k := 1) (get_pre p1 s0) (by decide) ?_
  simp only [z_ifs, z_asgN, z_ret, z_retN, z_don, z_drop, w_var, w_cst, w_bin, w_not, w_and, w_or, w_cmp, w_ife, w_cons, w_nil, w_som, w_tup, w_lst, w_call, w_bif, w_isi, w_idx, List.getElem?_cons_succ, List.getElem?_cons_zero, Option.some.injEq, exists_eq_left', tr_bl, tr_some, c_eqI, c_neI, c_eqS, c_neS, c_lt, c_le, c_gt, c_ge, c_is, c_isnot, o_add, o_sub, List.set_cons_zero, List.set_cons_succ, List.length_cons, List.length_nil, Nat.reduceAdd, Nat.reduceLT, Nat.zero_add, true_and, decide_eq_true_eq, decide_eq_false_iff_not, Bool.not_eq_true', Bool.not_eq_false', Bool.false_eq_true, Bool.true_eq_false, true_implies, false_implies, and_true, Nat.lt_add_one, reduceCtorEq, decide_true, decide_false, not_false_eq_true, not_true_eq_false, o_mod (show (0 : Int) < 2 by decide)]
  refine ⟨fun _ => ⟨fun hm0 => ?_, fun hm1 => ⟨fun h => absurd h hm1, fun _ => full⟩⟩, fun hc => ⟨fun h => absurd h hc, fun _ => full⟩⟩
  · obtain ⟨i, z, rfl⟩ := snoc_of (l := ls) (by omega)
    have hil : items s (.ref p) = some ((i.map V.str) ++ [V.str z]) := by
      have := items_lst h1
      rw [List.map_append] at this
      exact this
    simp only [z_seq, z_ifs, z_asgN, z_ret, z_retN, z_don, z_drop, w_var, w_cst, w_bin, w_not, w_and, w_or, w_cmp, w_ife, w_cons, w_nil, w_som, w_tup, w_lst, w_call, w_bif, w_isi, w_idx, List.getElem?_cons_succ, List.getElem?_cons_zero, Option.some.injEq, exists_eq_left', tr_bl, tr_some, c_eqI, c_neI, c_eqS, c_neS, c_lt, c_le, c_gt, c_ge, c_is, c_isnot, o_add, o_sub, List.set_cons_zero, List.set_cons_succ, List.length_cons, List.length_nil, Nat.reduceAdd, Nat.reduceLT, Nat.zero_add, true_and, decide_eq_true_eq, decide_eq_false_iff_not, Bool.not_eq_true', Bool.not_eq_false', Bool.false_eq_true, Bool.true_eq_false, true_implies, false_implies, and_true, Nat.lt_add_one, reduceCtorEq, decide_true, decide_false, not_false_eq_true, not_true_eq_false, w_neg, V.int.injEq]
    rw [i_at hil at_last]
    simp only [z_seq, z_ifs, z_asgN, z_ret, z_retN, z_don, z_drop, w_var, w_cst, w_bin, w_not, w_and, w_or, w_cmp, w_ife, w_cons, w_nil, w_som, w_tup, w_lst, w_call, w_bif, w_isi, w_idx, List.getElem?_cons_succ, List.getElem?_cons_zero, Option.some.injEq, exists_eq_left', tr_bl, tr_some, c_eqI, c_neI, c_eqS, c_neS, c_lt, c_le, c_gt, c_ge, c_is, c_isnot, o_add, o_sub, List.set_cons_zero, List.set_cons_succ, List.length_cons, List.length_nil, Nat.reduceAdd, Nat.reduceLT, Nat.zero_add, true_and, decide_eq_true_eq, decide_eq_false_iff_not, Bool.not_eq_true', Bool.not_eq_false', Bool.false_eq_true, Bool.true_eq_false, true_implies, false_implies, and_true, Nat.lt_add_one, reduceCtorEq, decide_true, decide_false, not_false_eq_true, not_true_eq_false]
    refine ⟨fun hz => ?_, fun _ => full⟩
    obtain ⟨c1, c2⟩ := text_cut (t := t) hl hz ht.symm
    simp only [z_seq, z_ifs, z_asgN, z_ret, z_retN, z_don, z_drop, w_var, w_cst, w_bin, w_not, w_and, w_or, w_cmp, w_ife, w_cons, w_nil, w_som, w_tup, w_lst, w_call, w_bif, w_isi, w_idx, List.getElem?_cons_succ, List.getElem?_cons_zero, Option.some.injEq, exists_eq_left', tr_bl, tr_some, c_eqI, c_neI, c_eqS, c_neS, c_lt, c_le, c_gt, c_ge, c_is, c_isnot, o_add, o_sub, List.set_cons_zero, List.set_cons_succ, List.length_cons, List.length_nil, Nat.reduceAdd, Nat.reduceLT, Nat.zero_add, true_and, decide_eq_true_eq, decide_eq_false_iff_not, Bool.not_eq_true', Bool.not_eq_false', Bool.false_eq_true, Bool.true_eq_false, true_implies, false_implies, and_true, Nat.lt_add_one, reduceCtorEq, decide_true, decide_false, not_false_eq_true, not_true_eq_false, w_slc, part0, w_neg, V.int.injEq]
    rw [show Mi.part [V.int (-1)] = some (some (-1)) from rfl]
    simp only [z_seq, z_ifs, z_asgN, z_ret, z_retN, z_don, z_drop, w_var, w_cst, w_bin, w_not, w_and, w_or, w_cmp, w_ife, w_cons, w_nil, w_som, w_tup, w_lst, w_call, w_bif, w_isi, w_idx, List.getElem?_cons_succ, List.getElem?_cons_zero, Option.some.injEq, exists_eq_left', tr_bl, tr_some, c_eqI, c_neI, c_eqS, c_neS, c_lt, c_le, c_gt, c_ge, c_is, c_isnot, o_add, o_sub, List.set_cons_zero, List.set_cons_succ, List.length_cons, List.length_nil, Nat.reduceAdd, Nat.reduceLT, Nat.zero_add, true_and, decide_eq_true_eq, decide_eq_false_iff_not, Bool.not_eq_true', Bool.not_eq_false', Bool.false_eq_true, Bool.true_eq_false, true_implies, false_implies, and_true, Nat.lt_add_one, reduceCtorEq, decide_true, decide_false, not_false_eq_true, not_true_eq_false, s_str (show t.length ≤ sz by omega)]
    generalize hb1 : [some (V.ref 0), some (V.int (m : Int)), some (V.ref p), none, some (V.str (cutS t none (some (-1)))), none, none, none, none] = env1
    exact last_ok h1 hl hn hm c1 (by omega) hb1 hQ
theorem law_ok {ns : List Int} {m : Nat} (s0 : st[0]? = some (.fro (ns.map .int))) (hm : m ≤ 1100) {env0 : Ev} (hb : [some (V.ref 0), some (V.int (m : Int)), none, none, none, none, none, none, none] = env0)
    (hQ : ∀ s, Rt (.bl true) s) : wz (run D.pg (callN D.pg (d + 2)) (.seq (.asgN 2 (.lc [3] (.n 3) .rng1 (.cons (.var 1) .nil) .nil (.call "_law_line_by" (.cons (.bin .Add (.call "_law_cell_at" (.cons (.var 0) (.cons (.bin .Add (.cst (.int 2)) (.bin .Mod (.var 3) (.cst (.int 61)))) .nil))) (.bin .Mult (.cst (.int 101)) (.var 3))) .nil)))) textT) env0 st) N Rt := by
  rw [z_seq, z_asgN]
  refine lines_by (d := d + 1) s0 hm hb fun ls q s p1 hn hl hq => ?_
  subst hb
  refine ⟨by simp, ?_⟩
  rw [List.set_cons_succ, List.set_cons_succ, List.set_cons_zero]
  generalize hb1 : [some (V.ref 0), some (V.int (m : Int)), some (V.ref q), none, none, none, none, none, none] = env1
  exact text_T (get_pre p1 s0) hq hl hn hm hb1 hQ
theorem ed_nat {z n : Int} (h : 0 < n) : ∃ i : Nat, z % n = (i : Int) ∧ (i : Int) < n := by
  have h1 := Int.emod_nonneg z (show n ≠ 0 by omega)
  have h2 := Int.emod_lt_of_pos z h
  exact ⟨(z % n).toNat, by omega, by omega⟩
theorem plain (ns : List Int) (hn : ns.length ≤ 63) : ∃ st', callN D.pg (d + 3) "law" [.ref 0] [.fro (ns.map V.int)] = .val [.bl true] st' := by
  have key : wv (callN D.pg (d + 3) "law" [.ref 0] [.fro (ns.map V.int)]) fun v _ => v = .bl true := by
    have s0 : ([Mi.IO.fro (ns.map V.int)] : Store)[0]? = some (.fro (ns.map V.int)) := rfl
    refine callN_w fn_law rfl ?_
    rw [show f_law.body = b_law from rfl, show start f_law.N [V.ref 0] = [some (V.ref 0), none, none, none, none, none, none, none, none] from rfl, b_law]
    generalize ([Mi.IO.fro (ns.map V.int)] : Store) = st0 at s0
    have rest : ∀ (N : Ev → Store → Prop) (m : Nat), m ≤ 1100 → wz (run D.pg (callN D.pg (d + 2)) (.seq (.asgN 2 (.lc [3] (.n 3) .rng1 (.cons (.var 1) .nil) .nil (.call "_law_line_by" (.cons (.bin .Add (.call "_law_cell_at" (.cons (.var 0) (.cons (.bin .Add (.cst (.int 2)) (.bin .Mod (.var 3) (.cst (.int 61)))) .nil))) (.bin .Mult (.cst (.int 101)) (.var 3))) .nil)))) textT) [some (V.ref 0), some (V.int (m : Int)), none, none, none, none, none, none, none] st0) N (fun v _ => v = .bl true) := fun N m hm => by
      generalize hb1 : [some (V.ref 0), some (V.int (m : Int)), none, none, none, none, none, none, none] = env1
      exact law_ok s0 hm hb1 fun _ => rfl
    generalize hP : (T.seq (.asgN 2 (.lc [3] (.n 3) .rng1 (.cons (.var 1) .nil) .nil (.call "_law_line_by" (.cons (.bin .Add (.call "_law_cell_at" (.cons (.var 0) (.cons (.bin .Add (.cst (.int 2)) (.bin .Mod (.var 3) (.cst (.int 61)))) .nil))) (.bin .Mult (.cst (.int 101)) (.var 3))) .nil)))) textT) = P at rest
    show wz (run D.pg (callN D.pg (d + 2)) (.seq (.asgN 1 (.bin .Mod (.call "_law_cell_at" (.cons (.var 0) (.cons (.cst (.int 0)) .nil))) (.cst (.int 12))))
  (.seq (.ifs (.cmp .Eq (.bin .Mod (.bin .FloorDiv (.call "_law_cell_at" (.cons (.var 0) (.cons (.cst (.int 0)) .nil))) (.cst (.int 12))) (.cst (.int 4))) (.cst (.int 1)))
  (.seq (.asgN 1 (.bin .Mod (.bin .FloorDiv (.call "_law_cell_at" (.cons (.var 0) (.cons (.cst (.int 0)) .nil))) (.cst (.int 48))) (.cst (.int 1101))))
  .don)
  .don) (.seq (.asgN 2 (.lc [3] (.n 3) .rng1 (.cons (.var 1) .nil) .nil (.call "_law_line_by" (.cons (.bin .Add (.call "_law_cell_at" (.cons (.var 0) (.cons (.bin .Add (.cst (.int 2)) (.bin .Mod (.var 3) (.cst (.int 61)))) .nil))) (.bin .Mult (.cst (.int 101)) (.var 3))) .nil)))) textT))) [some (V.ref 0), none, none, none, none, none, none, none, none] st0) _ _
    rw [hP]
    rw [z_seq]
    simp only [z_ifs, z_asgN, z_ret, z_retN, z_don, z_drop, w_var, w_cst, w_bin, w_not, w_and, w_or, w_cmp, w_ife, w_cons, w_nil, w_som, w_tup, w_lst, w_call, w_bif, w_isi, w_idx, List.getElem?_cons_succ, List.getElem?_cons_zero, Option.some.injEq, exists_eq_left', tr_bl, tr_some, c_eqI, c_neI, c_eqS, c_neS, c_lt, c_le, c_gt, c_ge, c_is, c_isnot, o_add, o_sub, List.set_cons_zero, List.set_cons_succ, List.length_cons, List.length_nil, Nat.reduceAdd, Nat.reduceLT, Nat.zero_add, true_and, decide_eq_true_eq, decide_eq_false_iff_not, Bool.not_eq_true', Bool.not_eq_false', Bool.false_eq_true, Bool.true_eq_false, true_implies, false_implies, and_true, Nat.lt_add_one, reduceCtorEq, decide_true, decide_false, not_false_eq_true, not_true_eq_false]
    refine cell_at_v (k := 0) s0 (by decide) ?_
    obtain ⟨m1, hm1, hm2⟩ := ed_nat (z := cellv ns 0) (n := 12) (by decide)
    simp only [z_ifs, z_asgN, z_ret, z_retN, z_don, z_drop, w_var, w_cst, w_bin, w_not, w_and, w_or, w_cmp, w_ife, w_cons, w_nil, w_som, w_tup, w_lst, w_call, w_bif, w_isi, w_idx, List.getElem?_cons_succ, List.getElem?_cons_zero, Option.some.injEq, exists_eq_left', tr_bl, tr_some, c_eqI, c_neI, c_eqS, c_neS, c_lt, c_le, c_gt, c_ge, c_is, c_isnot, o_add, o_sub, List.set_cons_zero, List.set_cons_succ, List.length_cons, List.length_nil, Nat.reduceAdd, Nat.reduceLT, Nat.zero_add, true_and, decide_eq_true_eq, decide_eq_false_iff_not, Bool.not_eq_true', Bool.not_eq_false', Bool.false_eq_true, Bool.true_eq_false, true_implies, false_implies, and_true, Nat.lt_add_one, reduceCtorEq, decide_true, decide_false, not_false_eq_true, not_true_eq_false, o_mod (show (0 : Int) < 12 by decide), hm1]
    rw [z_seq]
    simp only [z_ifs, z_asgN, z_ret, z_retN, z_don, z_drop, w_var, w_cst, w_bin, w_not, w_and, w_or, w_cmp, w_ife, w_cons, w_nil, w_som, w_tup, w_lst, w_call, w_bif, w_isi, w_idx, List.getElem?_cons_succ, List.getElem?_cons_zero, Option.some.injEq, exists_eq_left', tr_bl, tr_some, c_eqI, c_neI, c_eqS, c_neS, c_lt, c_le, c_gt, c_ge, c_is, c_isnot, o_add, o_sub, List.set_cons_zero, List.set_cons_succ, List.length_cons, List.length_nil, Nat.reduceAdd, Nat.reduceLT, Nat.zero_add, true_and, decide_eq_true_eq, decide_eq_false_iff_not, Bool.not_eq_true', Bool.not_eq_false', Bool.false_eq_true, Bool.true_eq_false, true_implies, false_implies, and_true, Nat.lt_add_one, reduceCtorEq, decide_true, decide_false, not_false_eq_true, not_true_eq_false]
    refine cell_at_v (k := 0) s0 (by decide) ?_
    simp only [z_ifs, z_asgN, z_ret, z_retN, z_don, z_drop, w_var, w_cst, w_bin, w_not, w_and, w_or, w_cmp, w_ife, w_cons, w_nil, w_som, w_tup, w_lst, w_call, w_bif, w_isi, w_idx, List.getElem?_cons_succ, List.getElem?_cons_zero, Option.some.injEq, exists_eq_left', tr_bl, tr_some, c_eqI, c_neI, c_eqS, c_neS, c_lt, c_le, c_gt, c_ge, c_is, c_isnot, o_add, o_sub, List.set_cons_zero, List.set_cons_succ, List.length_cons, List.length_nil, Nat.reduceAdd, Nat.reduceLT, Nat.zero_add, true_and, decide_eq_true_eq, decide_eq_false_iff_not, Bool.not_eq_true', Bool.not_eq_false', Bool.false_eq_true, Bool.true_eq_false, true_implies, false_implies, and_true, Nat.lt_add_one, reduceCtorEq, decide_true, decide_false, not_false_eq_true, not_true_eq_false, o_div (show (0 : Int) < 12 by decide) (show (12 : Int) < 1073741824 by decide), o_mod (show (0 : Int) < 4 by decide)]
    refine ⟨fun _ => ?_, fun _ => rest _ m1 (by omega)⟩
    rw [z_seq]
    simp only [z_ifs, z_asgN, z_ret, z_retN, z_don, z_drop, w_var, w_cst, w_bin, w_not, w_and, w_or, w_cmp, w_ife, w_cons, w_nil, w_som, w_tup, w_lst, w_call, w_bif, w_isi, w_idx, List.getElem?_cons_succ, List.getElem?_cons_zero, Option.some.injEq, exists_eq_left', tr_bl, tr_some, c_eqI, c_neI, c_eqS, c_neS, c_lt, c_le, c_gt, c_ge, c_is, c_isnot, o_add, o_sub, List.set_cons_zero, List.set_cons_succ, List.length_cons, List.length_nil, Nat.reduceAdd, Nat.reduceLT, Nat.zero_add, true_and, decide_eq_true_eq, decide_eq_false_iff_not, Bool.not_eq_true', Bool.not_eq_false', Bool.false_eq_true, Bool.true_eq_false, true_implies, false_implies, and_true, Nat.lt_add_one, reduceCtorEq, decide_true, decide_false, not_false_eq_true, not_true_eq_false]
    refine cell_at_v (k := 0) s0 (by decide) ?_
    obtain ⟨m2, hm3, hm4⟩ := ed_nat (z := cellv ns 0 / 48) (n := 1101) (by decide)
    simp only [z_ifs, z_asgN, z_ret, z_retN, z_don, z_drop, w_var, w_cst, w_bin, w_not, w_and, w_or, w_cmp, w_ife, w_cons, w_nil, w_som, w_tup, w_lst, w_call, w_bif, w_isi, w_idx, List.getElem?_cons_succ, List.getElem?_cons_zero, Option.some.injEq, exists_eq_left', tr_bl, tr_some, c_eqI, c_neI, c_eqS, c_neS, c_lt, c_le, c_gt, c_ge, c_is, c_isnot, o_add, o_sub, List.set_cons_zero, List.set_cons_succ, List.length_cons, List.length_nil, Nat.reduceAdd, Nat.reduceLT, Nat.zero_add, true_and, decide_eq_true_eq, decide_eq_false_iff_not, Bool.not_eq_true', Bool.not_eq_false', Bool.false_eq_true, Bool.true_eq_false, true_implies, false_implies, and_true, Nat.lt_add_one, reduceCtorEq, decide_true, decide_false, not_false_eq_true, not_true_eq_false, o_div (show (0 : Int) < 48 by decide) (show (48 : Int) < 1073741824 by decide), o_mod (show (0 : Int) < 1101 by decide), hm3]
    exact rest _ m2 (by omega)
  obtain ⟨v, st', e, rfl⟩ := wv_get key
  exact ⟨st', e⟩
end Mk14
section
open PySem PySem.W PySem.Calls PyProof.Rows
theorem PySem.Challenge.cw_elderline_k14_listed_holds : PySem.Challenge.rw_elderline_k14_listed.Holds := by
  exact Mk14.holds_of fun ns hn hz => Mk14.plain ns hn
