import PyProof.Rows.All
import Wide.All
import OpenK.AllK
import Wide.FinOn
import HandS.ForMost
import HandS.Walk
import HandS.IsInst
import HandS.TupAny
import HandS.TupMul
import HandS.TupLen
import HandS.Style
import HandS.RaiseMore
import HandS.Conv
import HandS.Deep
import HandS.TupLe
import HandS.RevTup
import HandS.Wide
import PyProof.Rows.IntBool
import KE.SortData
import HandS.Set
import HandS.SetKeys
import HandS.SetFor
import HandS.Strs
import HandS.Exc
import HandS.ExcOwn
import HandS.WordsExc
import HandS.More
import HandS.Words
import HandS.Ends
import PyProof.FitsInt
import PyProof.ReprReads
import PyProof.StrLawsRepr
import PySem.Challenge.RW_partkits_k07_sheets_by_kind
set_option Elab.async false
section
set_option maxRecDepth 100000
set_option maxHeartbeats 4000000
/-! The pure side: plain data, the small language of expressions and statements, its evaluation over data alone. -/
namespace Py
open PySem L2

/-- plain data; ptr: a shared object that may change (its number in the store); obj: an instance that changes no more -/
inductive D where
  | non
  | bl (b : Bool)
  | int (i : Int)
  | str (x : Str)
  | tup (xs : List D)
  | lst (xs : List D)
  | obj (c : Nat) (fs : List D)
  | ptr (n : Nat)
  | scr (ns : List Int)

/-- what may change: a list, a dict with keys that are ints or texts, one with keys that are tuples of these, an instance -/
inductive Cell where
  | lst (xs : List D)
  | dK (kvs : List (Key × D))
  | dT (kvs : List (List Key × D))
  | obj (c : Nat) (fs : List (Str × D))

/-- a value that came: plain, or a new object that nobody else holds, or one that is only looked at -/
inductive Res where
  | val (d : D)
  | own (c : Cell)
  | bor (c : Cell)

abbrev Store := List (Option Cell)
abbrev Env := List (Option Res)

inductive Out (α : Type) where
  | ok (a : α) (st : Store)
  | exc (c : Nat) (fs : List D) (st : Store)
  | bad

namespace Out
def bind {α β : Type} (o : Out α) (f : α → Store → Out β) : Out β :=
  match o with
  | ok a st => f a st
  | exc c fs st => exc c fs st
  | bad => bad
theorem bind_ok {α β : Type} (a : α) (st : Store) (f : α → Store → Out β) : (ok a st).bind f = f a st := rfl
theorem bind_exc {α β : Type} (c : Nat) (fs : List D) (st : Store) (f : α → Store → Out β) : (exc c fs st).bind f = exc c fs st := rfl
theorem bind_bad {α β : Type} (f : α → Store → Out β) : (bad : Out α).bind f = bad := rfl
/-- what nothing may be raised in -/
def nox {α : Type} (o : Out α) : Out α :=
  match o with
  | exc _ _ _ => bad
  | o => o
/-- a plain result or none -/
def of {α : Type} (o : Option α) (st : Store) : Out α := match o with | some a => ok a st | none => bad
theorem of_some {α : Type} (a : α) (st : Store) : of (some a) st = ok a st := rfl
theorem of_none {α : Type} (st : Store) : (of none st : Out α) = bad := rfl
end Out

/-- binary operators -/
inductive BOp where
  | add | sub | mul | fdiv | mod | pow
/-- comparisons -/
inductive COp where
  | eq | ne | lt | le | gt | ge | isN | notN | isIn | notIn

/-- one of several forms of what a loop names -/
inductive Tg where
  | name (i : Nat)
  | tup (is : List Nat)

/-- built-in functions and types that are called by name -/
inductive BI where
  | len | all | any | sum | min1 | max1 | min2 | max2 | sorted | list | tuple | str | repr | ord | int | bool | set
/-- methods of built-in types -/
inductive MI where
  | join | upper | get1 | get2 | count

mutual
inductive Ex where
  | var (i : Nat)
  | cst (d : D)
  | glb (x : Str) (d : D)
  | bin (op : BOp) (a b : Ex)
  | neg (a : Ex)
  | cmp (op : COp) (a b : Ex)
  | cmp2 (op op2 : COp) (a b c : Ex)
  | not (a : Ex)
  | and (es : Exs)
  | or (es : Exs)
  | ife (c : Te) (a b : Ex)
  | tup (es : Exs)
  | lst (es : Exs)
  | dct (es : Exs)
  | ix (a b : Ex)
  | sl (a : Ex) (lo hi : Exs)
  | rev (a : Ex)
  | sset (a : Ex)
  | call (f : Nat) (es : Exs)
  | bi (f : BI) (es : Exs)
  | isi (a : Ex) (t : String)
  | mth (m : MI) (o : Ex) (es : Exs)
  | comp (own : List Nat) (tg : Tg) (it : Itr) (ifs : Tes) (elt : Ex)
inductive Exs where
  | nil
  | cons (e : Ex) (es : Exs)
inductive Te where
  | val (e : Ex)
  | cmp (op : COp) (a b : Ex)
  | cmp2 (op op2 : COp) (a b c : Ex)
  | not (t : Te)
  | and (ts : Tes)
  | or (ts : Tes)
inductive Tes where
  | nil
  | cons (t : Te) (ts : Tes)
inductive Itr where
  | it (e : Ex)
  | rng (es : Exs)
  | enum (e : Ex)
  | zip (a b : Ex)
end

end Py
end

section
set_option maxRecDepth 100000
set_option maxHeartbeats 4000000
/-! The evaluator over plain data. -/
namespace Py
open PySem L2

mutual
def D.py : D → Option PyData
  | .non => some .none
  | .bl b => some (.bool b)
  | .int i => some (.int i)
  | .str x => some (.str x)
  | .tup xs => (D.pys xs).map .tuple
  | .lst xs => (D.pys xs).map .list
  | .obj _ _ => none
  | .ptr _ => none
  | .scr _ => none
def D.pys : List D → Option (List PyData)
  | [] => some []
  | x :: xs => match D.py x, D.pys xs with
    | some a, some b => some (a :: b)
    | _, _ => none
end

/-- what is seen of a value -/
inductive Vw where
  | at (d : D)
  | sq (tup : Bool) (xs : List D)
  | dK (kvs : List (Key × D))
  | dT (kvs : List (List Key × D))
  | ob (c : Nat) (fs : List (Str × D))

def Cell.vw : Cell → Vw
  | .lst xs => .sq false xs
  | .dK kvs => .dK kvs
  | .dT kvs => .dT kvs
  | .obj c fs => .ob c fs
def D.vw (st : Store) : D → Vw
  | .tup xs => .sq true xs
  | .lst xs => .sq false xs
  | .ptr n => match st[n]? with
    | some (some c) => c.vw
    | _ => .at (.ptr n)
  | d => .at d
def Res.vw (st : Store) : Res → Vw
  | .val d => d.vw st
  | .own c => c.vw
  | .bor c => c.vw
/-- made plain for good -/
def Res.toD : Res → Option D
  | .val d => some d
  | .own (.lst xs) => some (.lst xs)
  | _ => none
def toDs : List Res → Option (List D)
  | [] => some []
  | r :: rs => match r.toD, toDs rs with
    | some d, some ds => some (d :: ds)
    | _, _ => none

def Vw.py : Vw → Option PyData
  | .at d => d.py
  | .sq true xs => (D.pys xs).map .tuple
  | .sq false xs => (D.pys xs).map .list
  | _ => none

def Vw.isN : Vw → Bool
  | .at .non => true
  | _ => false
def kd : Key → D
  | .inl i => .int i
  | .inr x => .str x
def D.key : D → Option Key
  | .int i => some (.inl i)
  | .str x => some (.inr x)
  | _ => none
def D.keys : List D → Option (List Key)
  | [] => some []
  | d :: ds => match d.key, D.keys ds with
    | some k, some ks => some (k :: ks)
    | _, _ => none

def b2i (b : Bool) : Int := if b then 1 else 0
/-- an int or a truth, as a number -/
def Vw.num : Vw → Option Int
  | .at (.int i) => some i
  | _ => none

def smallMul (i j : Int) : Bool := decide (-(2 ^ 64) < i ∧ i < 2 ^ 64) || decide (-(2 ^ 64) < j ∧ j < 2 ^ 64)

def opBin (op : BOp) (a b : Vw) : Option Res :=
  match op, a, b with
  | .add, .at (.int i), .at (.int j) => some (.val (.int (i + j)))
  | .add, .at (.bl i), .at (.int j) => some (.val (.int (b2i i + j)))
  | .add, .at (.str x), .at (.str y) => if x.length + y.length ≤ sizeLine then some (.val (.str (x ++ y))) else none
  | .add, .sq true xs, .sq true ys => if xs.length + ys.length ≤ sizeLine then some (.val (.tup (xs ++ ys))) else none
  | .add, .sq false xs, .sq false ys => if xs.length + ys.length ≤ sizeLine then some (.own (.lst (xs ++ ys))) else none
  | .sub, .at (.int i), .at (.int j) => some (.val (.int (i - j)))
  | .sub, .at (.bl i), .at (.int j) => some (.val (.int (b2i i - j)))
  | .mul, .at (.int i), .at (.int j) => if smallMul i j then some (.val (.int (i * j))) else none
  | .mul, .sq true xs, .at (.int k) => if xs ≠ [] ∧ 2 ≤ k ∧ k ≤ 1000 ∧ xs.length ≤ 1000 then some (.val (.tup (List.replicate k.toNat xs).flatten)) else none
  | .fdiv, .at (.int i), .at (.int j) => if 0 < j ∧ j < 1073741824 then some (.val (.int (i / j))) else none
  | .mod, .at (.int i), .at (.int j) => if 0 < j then some (.val (.int (i % j))) else none
  | .pow, .at (.int i), .at (.int j) => if 0 ≤ j ∧ j ≤ 1000000 ∧ i.natAbs < 2 ^ 64 then some (.val (.int (i ^ j.toNat))) else none
  | _, _, _ => none

def eqv2 (a b : Vw) : Option Bool :=
  match a.py, b.py with
  | some x, some y => if min x.depth y.depth ≤ 64 then some (PyData.eqv x y) else none
  | _, _ => none
def lookK {κ : Type} [DecidableEq κ] (kvs : List (κ × D)) (k : κ) : Option D := (kvs.find? fun kv => decide (kv.1 = k)).map (·.2)
def look (v : Vw) (d : D) : Option (Option D) :=
  match v with
  | .dK kvs => d.key.map fun k => lookK kvs k
  | .dT kvs => match d with
    | .tup ds => (D.keys ds).map fun ks => lookK kvs ks
    | _ => none
  | _ => none
def isInV (x y : Vw) : Option Bool :=
  match y with
  | .at (.str t) => match x with
    | .at (.str s) => some (!(Builtin.Str.occurrences t s 0 t.length 1).isEmpty)
    | _ => none
  | .sq _ xs => match x.py with
    | some p => match D.pys xs with
      | some ps => if min (PyData.depthAll ps) p.depth ≤ 60 then some (ps.any fun z => PyData.eqv z p) else none
      | none => none
    | none => none
  | v => match x with
    | .at d => (look v d).map (·.isSome)
    | .sq true ds => (look v (.tup ds)).map (·.isSome)
    | _ => none
def opCmp (op : COp) (a b : Vw) : Option Bool :=
  match op with
  | .eq => eqv2 a b
  | .ne => (eqv2 a b).map (!·)
  | .lt => match a, b with
    | .at (.int i), .at (.int j) => some (decide (i < j))
    | .at (.str x), .at (.str y) => some (decide (x.cps.toList < y.cps.toList))
    | _, _ => none
  | .le => match a, b with
    | .at (.int i), .at (.int j) => some (decide (i ≤ j))
    | .at (.str x), .at (.str y) => some (!decide (y.cps.toList < x.cps.toList))
    | _, _ => none
  | .gt => match a, b with
    | .at (.int i), .at (.int j) => some (decide (j < i))
    | .at (.str x), .at (.str y) => some (decide (y.cps.toList < x.cps.toList))
    | _, _ => none
  | .ge => match a, b with
    | .at (.int i), .at (.int j) => some (decide (j ≤ i))
    | _, _ => none
  | .isN => match b with
    | .at .non => some a.isN
    | _ => none
  | .notN => match b with
    | .at .non => some (!a.isN)
    | _ => none
  | .isIn => isInV a b
  | .notIn => (isInV a b).map (!·)

def truth : Vw → Option Bool
  | .at .non => some false
  | .at (.bl b) => some b
  | .at (.int i) => some (i != 0)
  | .at (.str x) => if x.length ≤ sizeLine then some (x.length != 0) else none
  | .sq _ xs => some (!xs.isEmpty)
  | .dK kvs => some (!kvs.isEmpty)
  | _ => none

def cutD (xs : List D) (lo hi : Option Int) : List D := (xs.drop (HT.sIx xs.length 0 lo)).take (HT.sIx xs.length xs.length hi - HT.sIx xs.length 0 lo)
def opIx (a b : Vw) : Option D :=
  match a with
  | .sq _ xs => match b with
    | .at (.int i) => atI xs i
    | _ => none
  | .at (.str z) => match b with
    | .at (.int i) => if z.length ≤ sizeLine then (atI z.cps.toList i).map fun c => .str ⟨#[c]⟩ else none
    | _ => none
  | v => match b with
    | .at d => match look v d with
      | some (some x) => some x
      | _ => none
    | .sq true ds => match look v (.tup ds) with
      | some (some x) => some x
      | _ => none
    | _ => none
def opSl (a : Vw) (lo hi : Option Int) : Option Res :=
  match a with
  | .sq true xs => some (.val (.tup (cutD xs lo hi)))
  | .sq false xs => some (.own (.lst (cutD xs lo hi)))
  | .at (.str z) => if z.length ≤ sizeLine then some (.val (.str (cutS z lo hi))) else none
  | .at (.scr ns) => some (.own (.lst (cutD (ns.map .int) lo hi)))
  | _ => none
def opRev (a : Vw) : Option Res :=
  match a with
  | .sq true xs => some (.val (.tup xs.reverse))
  | .sq false xs => some (.own (.lst xs.reverse))
  | _ => none

def blAll : List D → Option (List Bool)
  | [] => some []
  | .bl b :: ds => (blAll ds).map (b :: ·)
  | _ :: _ => none
def intAll : List D → Option (List Int)
  | [] => some []
  | .int b :: ds => (intAll ds).map (b :: ·)
  | _ :: _ => none
def strAll : List D → Option (List Str)
  | [] => some []
  | .str b :: ds => (strAll ds).map (b :: ·)
  | _ :: _ => none

def showD (p : PyData) : Option Str := if p.depth ≤ 64 ∧ p.showable = true ∧ p.shown.length ≤ sizeLine then some p.shown else none
/-- a datum as the library's; things in order -/
def encD (d : D) : PyData := d.py.getD .none
def sortD (xs : List D) : List D := xs.mergeSort (PySem.W.dataLe false encD)
def alikeL (ps : List PyData) : Bool := ps.all fun x => ps.all fun y => PySem.W.alike x y
def sortableL (ps : List PyData) : Bool := (ps.all fun p => match p with | .tuple (_ :: _) => true | _ => false) || (ps.all fun p => match p with | .tuple _ => false | .none => false | _ => true)
def sortOk (xs : List D) : Bool := match D.pys xs with
  | some ps => alikeL ps && sortableL ps && decide (PyData.depthAll ps ≤ 60)
  | none => false
/-- each once -/
def dedupK : List Key → List Key
  | [] => []
  | k :: ks => k :: (dedupK ks).filter fun j => !decide (j = k)
/-- sorted(set(xs)) -/
def opSS : Vw → Option Res
  | .sq _ xs => match D.keys xs with
    | some ks => if sortOk ((dedupK ks).map kd) = true ∧ ks.length ≤ 4000 then some (.own (.lst (sortD ((dedupK ks).map kd)))) else none
    | none => none
  | _ => none
def opBI (f : BI) (as : List Vw) : Option Res :=
  match f, as with
  | .len, [.sq _ xs] => some (.val (.int xs.length))
  | .len, [.at (.str x)] => if x.length ≤ sizeLine then some (.val (.int x.length)) else none
  | .len, [.dK kvs] => some (.val (.int kvs.length))
  | .len, [.dT kvs] => some (.val (.int kvs.length))
  | .all, [.sq false xs] => (blAll xs).map fun bs => .val (.bl (bs.all id))
  | .any, [.sq false xs] => (blAll xs).map fun bs => .val (.bl (bs.any id))
  | .sum, [.sq false xs] => (intAll xs).map fun ns => .val (.int ns.sum)
  | .list, [.sq _ xs] => some (.own (.lst xs))
  | .tuple, [.sq _ xs] => some (.val (.tup xs))
  | .str, [.at (.int i)] => if i.natAbs.log2 < 1920 then some (.val (.str (toString i))) else none
  | .str, [.at (.bl b)] => some (.val (.str (if b then "True" else "False")))
  | .repr, [v] => match v.py with
    | some p => (showD p).map fun s => .val (.str s)
    | none => none
  | .sorted, [.sq _ xs] => if sortOk xs = true then some (.own (.lst (sortD xs))) else none
  | .ord, [.at (.str x)] => if x.length = 1 then some (.val (.int (x.cps.getD 0 0))) else none
  | .min2, [.at (.int i), .at (.int j)] => some (.val (.int (if j < i then j else i)))
  | .max2, [.at (.int i), .at (.int j)] => some (.val (.int (if j > i then j else i)))
  | _, _ => none

def opIsi (a : Vw) (t : String) : Option Bool :=
  let ty : Option String := match a with
    | .at .non => some "NoneType"
    | .at (.bl _) => some "bool"
    | .at (.int _) => some "int"
    | .at (.str _) => some "str"
    | .sq true _ => some "tuple"
    | .sq false _ => some "list"
    | _ => none
  match ty with
  | some n => kitB n t
  | none => none

/-- small letters raised, within the first 128 signs -/
def ascS (x : Str) : Bool := x.cps.toList.all fun c => decide (c < 128)
def upC (c : Nat) : Nat := if 97 ≤ c ∧ c ≤ 122 then c - 32 else c
def upS (x : Str) : Str := ⟨(x.cps.toList.map upC).toArray⟩
def opM (m : MI) (o : Vw) (as : List Vw) : Option Res :=
  match m, o, as with
  | .join, .at (.str s), [.sq _ xs] => match strAll xs with
    | some ys => if (ys.map (·.length)).sum + ys.length * s.length ≤ 16777216 then some (.val (.str (Txt.join s ys))) else none
    | none => none
  | .upper, .at (.str s), [] => if ascS s = true ∧ s.length ≤ 5592405 then some (.val (.str (upS s))) else none
  | _, _, _ => none

/-- may the method be looked up there -/
def recv (m : MI) (o : Vw) : Bool :=
  match m, o with
  | .join, .at (.str _) => true
  | .upper, .at (.str _) => true
  | .count, .at (.str _) => true
  | .get1, .dK _ => true
  | .get1, .dT _ => true
  | .get2, .dK _ => true
  | .get2, .dT _ => true
  | _, _ => false

/-- a name's target, several names' -/
def Tg.put (tg : Tg) (d : D) (env : Env) : Option Env :=
  match tg with
  | .name i => some (env.set i (some (.val d)))
  | .tup is => match d with
    | .tup ds => if is.length = ds.length then some ((is.zip ds).foldl (fun e p => e.set p.1 (some (.val p.2))) env) else none
    | _ => none
def wipeE (env : Env) : List Nat → Env
  | [] => env
  | v :: vs => (wipeE env vs).set v none

def compL (put : D → Env → Option Env) (cond : Env → Store → Out Bool) (elt : Env → Store → Out Res) (env : Env) : List D → List D → Store → Out (List D)
  | [], acc, st => .ok acc st
  | x :: xs, acc, st => match put x env with
    | none => .bad
    | some e => (cond e st).bind fun b st1 =>
      if b = true then (elt e st1).bind fun r st2 => match r.toD with
        | some d => if acc.length < sizeLine then compL put cond elt env xs (acc ++ [d]) st2 else .bad
        | none => .bad
      else compL put cond elt env xs acc st1

def rngD (lo hi step : Int) : Option (List D) :=
  if -(2 ^ 62) ≤ lo ∧ lo < 2 ^ 62 ∧ -(2 ^ 62) ≤ hi ∧ hi < 2 ^ 62 ∧ step = 1 then some ((List.range (hi - lo).toNat).map fun i => .int (lo + (i : Nat))) else none

def enumD : Nat → List D → List D
  | _, [] => []
  | n, x :: xs => .tup [.int (n : Nat), x] :: enumD (n + 1) xs
def zipD : List D → List D → List D
  | x :: xs, y :: ys => .tup [x, y] :: zipD xs ys
  | _, _ => []

/-- k1, v1, k2, v2, .. with written keys, no key twice -/
def pairsD : List D → Option (List (Key × D))
  | [] => some []
  | k :: v :: ds => match k.key, pairsD ds with
    | some k, some kvs => if kvs.any (fun q => decide (q.1 = k)) = true then none else some ((k, v) :: kvs)
    | _, _ => none
  | _ => none

section
variable (F : Nat → List D → Store → Out Res)
mutual
def evalE : Ex → Env → Store → Out Res
  | .var i, env, st => match env[i]? with
    | some (some (.val d)) => .ok (.val d) st
    | some (some (.own c)) => .ok (.bor c) st
    | _ => .bad
  | .cst d, _, st => .ok (.val d) st
  | .glb _ d, _, st => .ok (.val d) st
  | .bin op a b, env, st => (evalE a env st).bind fun ra st1 => (evalE b env st1).bind fun rb st2 => Out.of (opBin op (ra.vw st2) (rb.vw st2)) st2
  | .neg a, env, st => (evalE a env st).bind fun ra st1 => match ra with
    | .val (.int i) => .ok (.val (.int (-i))) st1
    | _ => .bad
  | .cmp op a b, env, st => (evalE a env st).bind fun ra st1 => (evalE b env st1).bind fun rb st2 => Out.of ((opCmp op (ra.vw st2) (rb.vw st2)).map fun b => .val (.bl b)) st2
  | .cmp2 op op2 a b c, env, st => (evalE a env st).bind fun ra st1 => (evalE b env st1).bind fun rb st2 => match opCmp op (ra.vw st2) (rb.vw st2) with
    | some true => (evalE c env st2).bind fun rc st3 => Out.of ((opCmp op2 (rb.vw st3) (rc.vw st3)).map fun b => .val (.bl b)) st3
    | some false => .ok (.val (.bl false)) st2
    | none => .bad
  | .not a, env, st => (evalE a env st).bind fun r st1 => Out.of ((truth (r.vw st1)).map fun b => .val (.bl (!b))) st1
  | .and es, env, st => evalAnd es env st
  | .or es, env, st => evalOr es env st
  | .ife c a b, env, st => (evalT c env st).bind fun t st1 => if t = true then evalE a env st1 else evalE b env st1
  | .tup es, env, st => (evalRs es env st).bind fun rs st1 => match toDs rs with
    | some ds => if ds.length ≤ sizeLine then .ok (.val (.tup ds)) st1 else .bad
    | none => .bad
  | .lst es, env, st => (evalRs es env st).bind fun rs st1 => match toDs rs with
    | some ds => if ds.length ≤ sizeLine then .ok (.own (.lst ds)) st1 else .bad
    | none => .bad
  | .dct es, env, st => (evalRs es env st).bind fun rs st1 => match toDs rs with
    | some ds => Out.of ((pairsD ds).map fun kvs => .own (.dK kvs)) st1
    | none => .bad
  | .ix a b, env, st => (evalE a env st).bind fun ra st1 => (evalE b env st1).bind fun rb st2 => Out.of ((opIx (ra.vw st2) (rb.vw st2)).map .val) st2
  | .sl a lo hi, env, st => (evalE a env st).bind fun ra st1 => (evalPart lo env st1).bind fun l st2 => (evalPart hi env st2).bind fun h st3 => Out.of (opSl (ra.vw st3) l h) st3
  | .sset a, env, st => (evalE a env st).bind fun ra st1 => Out.of (opSS (ra.vw st1)) st1
  | .rev a, env, st => (evalE a env st).bind fun ra st1 => Out.of (opRev (ra.vw st1)) st1
  | .call f es, env, st => (evalRs es env st).bind fun rs st1 => match toDs rs with
    | some ds => F f ds st1
    | none => .bad
  | .bi f es, env, st => (evalRs es env st).bind fun rs st1 => Out.of (opBI f (rs.map (·.vw st1))) st1
  | .isi a t, env, st => (evalE a env st).bind fun ra st1 => Out.of ((opIsi (ra.vw st1) t).map fun b => .val (.bl b)) st1
  | .mth m o es, env, st => (evalE o env st).bind fun ro st1 => if recv m (ro.vw st1) = true then (evalRs es env st1).bind fun rs st2 => Out.of (opM m (ro.vw st2) (rs.map (·.vw st2))) st2 else .bad
  | .comp own tg it ifs elt, env, st => (evalI it env st).bind fun xs st1 =>
    (compL tg.put (fun e s => evalIfs ifs e s) (fun e s => evalE elt e s) (wipeE env own) xs [] st1).nox.bind fun ds st2 => .ok (.own (.lst ds)) st2
/-- a test -/
def evalT : Te → Env → Store → Out Bool
  | .val e, env, st => (evalE e env st).bind fun r st1 => Out.of (truth (r.vw st1)) st1
  | .cmp op a b, env, st => (evalE a env st).bind fun ra st1 => (evalE b env st1).bind fun rb st2 => Out.of (opCmp op (ra.vw st2) (rb.vw st2)) st2
  | .cmp2 op op2 a b c, env, st => (evalE a env st).bind fun ra st1 => (evalE b env st1).bind fun rb st2 => match opCmp op (ra.vw st2) (rb.vw st2) with
    | some true => (evalE c env st2).bind fun rc st3 => Out.of (opCmp op2 (rb.vw st3) (rc.vw st3)) st3
    | some false => .ok false st2
    | none => .bad
  | .not t, env, st => (evalT t env st).bind fun b st1 => .ok (!b) st1
  | .and ts, env, st => evalAndT ts env st
  | .or ts, env, st => evalOrT ts env st
def evalAnd : Exs → Env → Store → Out Res
  | .nil, _, _ => .bad
  | .cons e .nil, env, st => evalE e env st
  | .cons e es, env, st => (evalE e env st).bind fun r st1 => match r with
    | .val (.bl true) => evalAnd es env st1
    | .val (.bl false) => .ok (.val (.bl false)) st1
    | _ => .bad
def evalOr : Exs → Env → Store → Out Res
  | .nil, _, _ => .bad
  | .cons e .nil, env, st => evalE e env st
  | .cons e es, env, st => (evalE e env st).bind fun r st1 => match r with
    | .val (.bl false) => evalOr es env st1
    | .val (.bl true) => .ok (.val (.bl true)) st1
    | _ => .bad
def evalAndT : Tes → Env → Store → Out Bool
  | .nil, _, _ => .bad
  | .cons e .nil, env, st => evalT e env st
  | .cons e es, env, st => (evalT e env st).bind fun b st1 => if b = true then evalAndT es env st1 else .ok false st1
def evalOrT : Tes → Env → Store → Out Bool
  | .nil, _, _ => .bad
  | .cons e .nil, env, st => evalT e env st
  | .cons e es, env, st => (evalT e env st).bind fun b st1 => if b = true then .ok true st1 else evalOrT es env st1
def evalRs : Exs → Env → Store → Out (List Res)
  | .nil, _, st => .ok [] st
  | .cons e es, env, st => (evalE e env st).bind fun r st1 => (evalRs es env st1).bind fun rs st2 => .ok (r :: rs) st2
def evalPart : Exs → Env → Store → Out (Option Int)
  | .nil, _, st => .ok none st
  | .cons e .nil, env, st => (evalE e env st).bind fun r st1 => match r with
    | .val (.int i) => .ok (some i) st1
    | _ => .bad
  | _, _, _ => .bad
def evalIfs : Tes → Env → Store → Out Bool
  | .nil, _, st => .ok true st
  | .cons e .nil, env, st => evalT e env st
  | _, _, _ => .bad
def evalI : Itr → Env → Store → Out (List D)
  | .it e, env, st => (evalE e env st).bind fun r st1 => match r with
    | .val (.tup xs) => .ok xs st1
    | .val (.lst xs) => .ok xs st1
    | .own (.lst xs) => .ok xs st1
    | .val (.str z) => .ok (z.cps.toList.map fun c => .str ⟨#[c]⟩) st1
    | _ => .bad
  | .rng (.cons a .nil), env, st => (evalE a env st).bind fun r st1 => match r with
    | .val (.int i) => Out.of (rngD 0 i 1) st1
    | _ => .bad
  | .rng (.cons a (.cons b .nil)), env, st => (evalE a env st).bind fun r st1 => (evalE b env st1).bind fun q st2 => match r, q with
    | .val (.int i), .val (.int j) => Out.of (rngD i j 1) st2
    | _, _ => .bad
  | .rng _, _, _ => .bad
  | .enum e, env, st => (evalE e env st).bind fun r st1 => match r with
    | .val (.lst xs) => .ok (enumD 0 xs) st1
    | .own (.lst xs) => .ok (enumD 0 xs) st1
    | .val (.tup xs) => .ok (enumD 0 xs) st1
    | _ => .bad
  | .zip a b, env, st => (evalE a env st).bind fun r st1 => (evalE b env st1).bind fun q st2 => match r, q with
    | .val (.lst xs), .val (.lst ys) => .ok (zipD xs ys) st2
    | .val (.tup xs), .val (.tup ys) => .ok (zipD xs ys) st2
    | _, _ => .bad
end

end
end Py
end

section
set_option maxRecDepth 100000
set_option maxHeartbeats 4000000
/-! How plain data lies in the abstract heap. -/
namespace Py
open PySem L2

/-- ghost: the addresses that nobody else holds; the store's addresses in order -/
structure Gh where
  P : Addr → Prop
  L : List Addr

/-- classes by number: the address, the fields' names in order -/
abbrev Cls := Nat → Option (Addr × List Str)

def KTup (K : PySem.W.Frag) (a : Addr) (xs : List V) : Prop :=
  ∃ (o : Obj) (its : Array Value) (n : Nat), K.lookup a = some o ∧ o.cls = .type "tuple" ∧ o.data = .seq its n ∧ its.size ≤ sizeLine ∧ Vals xs its.toList
def KLst (K : PySem.W.Frag) (a : Addr) (xs : List V) : Prop :=
  ∃ (o : Obj) (its : Array Value) (n : Nat), K.lookup a = some o ∧ o.cls = .type "list" ∧ o.dict = none ∧ o.data = .seq its n ∧ its.size ≤ sizeLine ∧ Vals xs its.toList
def NT (H : Hp) (g : Gh) (a : Addr) (xs : List V) : Prop := H a = some (.tup xs) ∧ ¬ g.P a
def NL (H : Hp) (g : Gh) (a : Addr) (xs : List V) : Prop := H a = some (.lst xs) ∧ ¬ g.P a
def NS (K : PySem.W.Frag) (H : Hp) (g : Gh) (a : Addr) (xs : List V) : Prop := (Rd H a (.lst xs) ∧ ¬ g.P a) ∨ KLst K a xs
theorem NT.sq {K H g a xs} (h : NT H g a xs) : SqT K H a xs := .inl (.inl h.1)
theorem NL.sq {K H g a xs} (h : NL H g a xs) : SqL K H a xs := .inl (.inl h.1)
theorem NS.sq {K H g a xs} (h : NS K H g a xs) : SqL K H a xs := h.elim (fun h => .inl h.1) .inr

mutual
inductive RD (K : PySem.W.Frag) (Cl : Cls) (H : Hp) (g : Gh) : D → V → Prop
  | non : RD K Cl H g .non .non
  | bl (b : Bool) : RD K Cl H g (.bl b) (.bl b)
  | int (i : Int) : RD K Cl H g (.int i) (.int i)
  | str (x : Str) (h : PyData.strOk x = true) : RD K Cl H g (.str x) (.str x)
  | tup {a : Addr} {vs : List V} {ds : List D} : NT H g a vs → RDs K Cl H g ds vs → RD K Cl H g (.tup ds) (.ref a)
  | lst {a : Addr} {vs : List V} {ds : List D} : NL H g a vs → RDs K Cl H g ds vs → RD K Cl H g (.lst ds) (.ref a)
  | obj {a C dx : Addr} {c : Nat} {ns : List Str} {vs : List V} {ds : List D} : Cl c = some (C, ns) → H a = some (.ins C dx (ns.zip vs)) → ¬ g.P a → ns.length = vs.length → RDs K Cl H g ds vs → RD K Cl H g (.obj c ds) (.ref a)
  | ptr {n : Nat} {a : Addr} : g.L[n]? = some a → RD K Cl H g (.ptr n) (.ref a)
  | scr {a : Addr} {ns : List Int} : NS K H g a (ns.map V.int) → RD K Cl H g (.scr ns) (.ref a)
inductive RDs (K : PySem.W.Frag) (Cl : Cls) (H : Hp) (g : Gh) : List D → List V → Prop
  | nil : RDs K Cl H g [] []
  | cons {d : D} {ds : List D} {v : V} {vs : List V} : RD K Cl H g d v → RDs K Cl H g ds vs → RDs K Cl H g (d :: ds) (v :: vs)
end

/-- what every step keeps -/
structure Kp (H : Hp) (g : Gh) (H' : Hp) (g' : Gh) : Prop where
  keep : ∀ a o, H a = some o → ¬ g.P a → H' a = some o
  new : ∀ a, g'.P a → g.P a ∨ H a = none
  pre : g.L <+: g'.L
/-- what an expression keeps -/
structure Ext (H : Hp) (g : Gh) (H' : Hp) (g' : Gh) : Prop where
  kp : Kp H g H' g'
  keep : ∀ a o, H a = some o → a ∉ g.L → H' a = some o
  dom : ∀ a, H' a = none → H a = none
  stay : ∀ a, g.P a → g'.P a
  fresh : ∀ a ∈ g'.L, a ∈ g.L ∨ H a = none

theorem Kp.refl {H g} : Kp H g H g := ⟨fun _ _ h _ => h, fun _ h => .inl h, List.prefix_refl _⟩
theorem Kp.trans {H H1 H2 : Hp} {g g1 g2 : Gh} (a : Kp H g H1 g1) (b : Kp H1 g1 H2 g2) : Kp H g H2 g2 where
  keep x o h n := b.keep x o (a.keep x o h n) fun p => (a.new x p).elim n fun z => by rw [h] at z; cases z
  new x p := by
    rcases b.new x p with q | q
    · exact a.new x q
    · by_cases hp : g.P x
      · exact .inl hp
      · right
        cases e : H x with
        | none => rfl
        | some o => rw [a.keep x o e hp] at q; cases q
  pre := a.pre.trans b.pre
theorem Ext.refl {H g} : Ext H g H g := ⟨.refl, fun _ _ h _ => h, fun _ h => h, fun _ h => h, fun _ h => .inl h⟩
theorem Ext.trans {H H1 H2 : Hp} {g g1 g2 : Gh} (a : Ext H g H1 g1) (b : Ext H1 g1 H2 g2) : Ext H g H2 g2 where
  kp := a.kp.trans b.kp
  keep x o h n := b.keep x o (a.keep x o h n) fun z => (a.fresh x z).elim n fun z => by rw [h] at z; cases z
  dom x h := a.dom x (b.dom x h)
  stay x h := b.stay x (a.stay x h)
  fresh x h := (b.fresh x h).elim (a.fresh x) fun z => .inr (a.dom x z)

theorem Kp.rd {H H' : Hp} {g g' : Gh} (k : Kp H g H' g') {a : Addr} {u : HO} (h : Rd H a u) (n : ¬ g.P a) : Rd H' a u ∧ ¬ g'.P a := by
  rcases h with h | ⟨o, h⟩
  · exact ⟨.inl (k.keep _ _ h n), fun p => (k.new _ p).elim n fun z => by rw [h] at z; cases z⟩
  · exact ⟨.inr ⟨o, k.keep _ _ h n⟩, fun p => (k.new _ p).elim n fun z => by rw [h] at z; cases z⟩
theorem Kp.nt {H H' : Hp} {g g' : Gh} (k : Kp H g H' g') {a : Addr} {xs : List V} (h : NT H g a xs) : NT H' g' a xs :=
  ⟨k.keep _ _ h.1 h.2, fun p => (k.new _ p).elim h.2 fun z => by rw [h.1] at z; cases z⟩
theorem Kp.nl {H H' : Hp} {g g' : Gh} (k : Kp H g H' g') {a : Addr} {xs : List V} (h : NL H g a xs) : NL H' g' a xs :=
  ⟨k.keep _ _ h.1 h.2, fun p => (k.new _ p).elim h.2 fun z => by rw [h.1] at z; cases z⟩
theorem Kp.ns {K} {H H' : Hp} {g g' : Gh} (k : Kp H g H' g') {a : Addr} {xs : List V} (h : NS K H g a xs) : NS K H' g' a xs :=
  h.elim (fun ⟨h, n⟩ => .inl (k.rd h n)) .inr
theorem pre_get {α : Type} {l l' : List α} (h : l <+: l') {n : Nat} {a : α} (e : l[n]? = some a) : l'[n]? = some a := by
  obtain ⟨t, rfl⟩ := h
  rw [List.getElem?_append_left (List.getElem?_eq_some_iff.mp e).1]
  exact e
section
variable {K : PySem.W.Frag} {Cl : Cls} {H H' : Hp} {g g' : Gh}
mutual
theorem RD.kp (k : Kp H g H' g') : ∀ {d : D} {v : V}, RD K Cl H g d v → RD K Cl H' g' d v
  | _, _, .non => .non
  | _, _, .bl b => .bl b
  | _, _, .int i => .int i
  | _, _, .str x h => .str x h
  | _, _, .tup n r => .tup (k.nt n) (RDs.kp k r)
  | _, _, .lst n r => .lst (k.nl n) (RDs.kp k r)
  | _, _, .obj c h n l r => .obj c (k.keep _ _ h n) (fun p => (k.new _ p).elim n fun z => by rw [h] at z; cases z) l (RDs.kp k r)
  | _, _, .ptr h => .ptr (pre_get k.pre h)
  | _, _, .scr h => .scr (k.ns h)
theorem RDs.kp (k : Kp H g H' g') : ∀ {ds : List D} {vs : List V}, RDs K Cl H g ds vs → RDs K Cl H' g' ds vs
  | _, _, .nil => .nil
  | _, _, .cons h t => .cons (RD.kp k h) (RDs.kp k t)
end
theorem RDs.length : ∀ {ds : List D} {vs : List V}, RDs K Cl H g ds vs → ds.length = vs.length
  | _, _, .nil => rfl
  | _, _, .cons _ t => by rw [List.length_cons, List.length_cons, RDs.length t]
theorem RDs.get : ∀ {ds : List D} {vs : List V} {i : Nat} {d : D}, RDs K Cl H g ds vs → ds[i]? = some d → ∃ v, vs[i]? = some v ∧ RD K Cl H g d v
  | _, _, _, _, .nil, e => by simp at e
  | _, _, 0, _, .cons h _, e => by simp at e; subst e; exact ⟨_, rfl, h⟩
  | _, _, i + 1, _, .cons _ t, e => by
    obtain ⟨v, h1, h2⟩ := RDs.get (i := i) t (by simpa using e)
    exact ⟨v, by simpa using h1, h2⟩
theorem RDs.append : ∀ {ds es : List D} {vs ws : List V}, RDs K Cl H g ds vs → RDs K Cl H g es ws → RDs K Cl H g (ds ++ es) (vs ++ ws)
  | _, _, _, _, .nil, s => s
  | _, _, _, _, .cons h t, s => .cons h (RDs.append t s)
theorem RDs.one {d : D} {v : V} (h : RD K Cl H g d v) : RDs K Cl H g [d] [v] := .cons h .nil
theorem RDs.take : ∀ {ds : List D} {vs : List V} (n : Nat), RDs K Cl H g ds vs → RDs K Cl H g (ds.take n) (vs.take n)
  | _, _, 0, _ => .nil
  | _, _, _ + 1, .nil => .nil
  | _, _, n + 1, .cons h t => .cons h (RDs.take n t)
theorem RDs.drop : ∀ {ds : List D} {vs : List V} (n : Nat), RDs K Cl H g ds vs → RDs K Cl H g (ds.drop n) (vs.drop n)
  | _, _, 0, r => r
  | _, _, _ + 1, .nil => .nil
  | _, _, n + 1, .cons _ t => RDs.drop n t
theorem RDs.reverse : ∀ {ds : List D} {vs : List V}, RDs K Cl H g ds vs → RDs K Cl H g ds.reverse vs.reverse
  | _, _, .nil => .nil
  | _, _, .cons h t => by
    rw [List.reverse_cons, List.reverse_cons]
    exact RDs.append (RDs.reverse t) (.one h)
theorem RDs.replicate {ds : List D} {vs : List V} (h : RDs K Cl H g ds vs) : ∀ n : Nat, RDs K Cl H g (List.replicate n ds).flatten (List.replicate n vs).flatten
  | 0 => .nil
  | n + 1 => by
    rw [List.replicate_succ, List.replicate_succ, List.flatten_cons, List.flatten_cons]
    exact RDs.append h (RDs.replicate h n)
theorem RDs.nil_iff {ds : List D} {vs : List V} (h : RDs K Cl H g ds vs) : ds = [] ↔ vs = [] := by
  have e := h.length
  constructor
  · rintro rfl; exact List.eq_nil_of_length_eq_zero e.symm
  · rintro rfl; exact List.eq_nil_of_length_eq_zero e

/-- a dict's entries -/
def kOk : Key → Bool
  | .inl _ => true
  | .inr x => PyData.strOk x
def KVr (K : PySem.W.Frag) (Cl : Cls) (H : Hp) (g : Gh) : List (Key × D) → List (Key × V) → Prop := Paired fun p q => p.1 = q.1 ∧ kOk p.1 = true ∧ RD K Cl H g p.2 q.2
def TVr (K : PySem.W.Frag) (Cl : Cls) (H : Hp) (g : Gh) : List (List Key × D) → List (List Key × V) → Prop := Paired fun p q => p.1 = q.1 ∧ p.1.all kOk = true ∧ RD K Cl H g p.2 q.2
def FVr (K : PySem.W.Frag) (Cl : Cls) (H : Hp) (g : Gh) : List (Str × D) → List (Str × V) → Prop := Paired fun p q => p.1 = q.1 ∧ RD K Cl H g p.2 q.2
def CellAt (K : PySem.W.Frag) (Cl : Cls) (H : Hp) (g : Gh) (a : Addr) : Cell → Prop
  | .lst ds => ∃ vs, H a = some (.lst vs) ∧ RDs K Cl H g ds vs
  | .dK kvs => ∃ kv, H a = some (.dK kv) ∧ KVr K Cl H g kvs kv
  | .dT kvs => ∃ kv, H a = some (.dT kv) ∧ TVr K Cl H g kvs kv
  | .obj c fs => ∃ C ns dx fv, Cl c = some (C, ns) ∧ H a = some (.ins C dx fv) ∧ FVr K Cl H g fs fv
theorem CellAt.some {a : Addr} {c : Cell} (h : CellAt K Cl H g a c) : ∃ o, H a = some o := by
  cases c with
  | lst ds => obtain ⟨vs, e, _⟩ := h; exact ⟨_, e⟩
  | dK kvs => obtain ⟨vs, e, _⟩ := h; exact ⟨_, e⟩
  | dT kvs => obtain ⟨vs, e, _⟩ := h; exact ⟨_, e⟩
  | obj c fs => obtain ⟨C, ns, dx, fv, _, e, _⟩ := h; exact ⟨_, e⟩
theorem CellAt.kp (k : Kp H g H' g') {a : Addr} {c : Cell} (h : CellAt K Cl H g a c) (e : H' a = H a) : CellAt K Cl H' g' a c := by
  cases c with
  | lst ds => obtain ⟨vs, q, r⟩ := h; exact ⟨vs, e.trans q, r.kp k⟩
  | dK kvs => obtain ⟨vs, q, r⟩ := h; exact ⟨vs, e.trans q, Paired.mapP r fun _ _ z => ⟨z.1, z.2.1, z.2.2.kp k⟩⟩
  | dT kvs => obtain ⟨vs, q, r⟩ := h; exact ⟨vs, e.trans q, Paired.mapP r fun _ _ z => ⟨z.1, z.2.1, z.2.2.kp k⟩⟩
  | obj c fs => obtain ⟨C, ns, dx, fv, h1, q, r⟩ := h; exact ⟨C, ns, dx, fv, h1, e.trans q, Paired.mapP r fun _ _ z => ⟨z.1, z.2.kp k⟩⟩

/-- the store lies -/
structure RepSt (K : PySem.W.Frag) (Cl : Cls) (H : Hp) (g : Gh) (st : Store) : Prop where
  len : g.L.length = st.length
  nd : g.L.Nodup
  prot : ∀ a ∈ g.L, g.P a
  dom : ∀ a, g.P a → H a ≠ none
  cell : ∀ (n : Nat) c, st[n]? = some (some c) → ∃ a, g.L[n]? = some a ∧ CellAt K Cl H g a c

/-- a value that came; H0: the heap at the start: what is own was not there -/
def RR (K : PySem.W.Frag) (Cl : Cls) (H0 H : Hp) (g : Gh) : Res → V → Prop
  | .val d, v => RD K Cl H g d v
  | .own c, v => ∃ a, v = .ref a ∧ H0 a = none ∧ g.P a ∧ a ∉ g.L ∧ CellAt K Cl H g a c
  | .bor c, v => ∃ a, v = .ref a ∧ a ∉ g.L ∧ CellAt K Cl H g a c
theorem RR.ext {H0 : Hp} {r : Res} {v : V} (x : Ext H g H' g') (h : RR K Cl H0 H g r v) : RR K Cl H0 H' g' r v := by
  cases r with
  | val d => exact RD.kp x.kp h
  | own c =>
    obtain ⟨a, e, n, p, l, q⟩ := h
    obtain ⟨o, ho⟩ := q.some
    exact ⟨a, e, n, x.stay a p, fun z => (x.fresh a z).elim l fun z => (by rw [ho] at z; cases z), q.kp x.kp ((x.keep a o ho l).trans ho.symm)⟩
  | bor c =>
    obtain ⟨a, e, l, q⟩ := h
    obtain ⟨o, ho⟩ := q.some
    exact ⟨a, e, fun z => (x.fresh a z).elim l fun z => (by rw [ho] at z; cases z), q.kp x.kp ((x.keep a o ho l).trans ho.symm)⟩
theorem RR.back {H0 H1 : Hp} {r : Res} {v : V} (h : RR K Cl H1 H g r v) (x : ∀ a, H1 a = none → H0 a = none) : RR K Cl H0 H g r v := by
  cases r with
  | val d => exact h
  | own c => obtain ⟨a, e, n, q⟩ := h; exact ⟨a, e, x a n, q⟩
  | bor c => exact h

structure RepEnv (K : PySem.W.Frag) (Cl : Cls) (H0 H : Hp) (g : Gh) (σ : St) (env : Env) : Prop where
  len : env.length = σ.length
  at' : ∀ (i : Nat) r, env[i]? = some (some r) → ∃ v, σ[i]? = some (some v) ∧ RR K Cl H0 H g r v
  sep : ∀ (i j : Nat) a ci cj, env[i]? = some (some (.own ci)) → env[j]? = some (some (.own cj)) → σ[i]? = some (some (.ref a)) → σ[j]? = some (some (.ref a)) → i = j
  nob : ∀ (i : Nat) c, env[i]? ≠ some (some (.bor c))
theorem RepEnv.ext {H0 : Hp} {σ : St} {env : Env} (x : Ext H g H' g') (h : RepEnv K Cl H0 H g σ env) : RepEnv K Cl H0 H' g' σ env :=
  ⟨h.len, fun i r e => let ⟨v, h1, h2⟩ := h.at' i r e; ⟨v, h1, h2.ext x⟩, h.sep, h.nob⟩

/-- what is seen lies so -/
def VwR (K : PySem.W.Frag) (Cl : Cls) (H : Hp) (g : Gh) : Vw → V → Prop
  | .at d, v => RD K Cl H g d v
  | .sq true ds, v => ∃ a vs, v = .ref a ∧ NT H g a vs ∧ RDs K Cl H g ds vs
  | .sq false ds, v => ∃ a vs, v = .ref a ∧ H a = some (.lst vs) ∧ RDs K Cl H g ds vs
  | .dK kvs, v => ∃ a kv, v = .ref a ∧ H a = some (.dK kv) ∧ KVr K Cl H g kvs kv
  | .dT kvs, v => ∃ a kv, v = .ref a ∧ H a = some (.dT kv) ∧ TVr K Cl H g kvs kv
  | .ob c fs, v => ∃ a C ns dx fv, v = .ref a ∧ Cl c = some (C, ns) ∧ H a = some (.ins C dx fv) ∧ FVr K Cl H g fs fv
theorem CellAt.vw {a : Addr} {c : Cell} (h : CellAt K Cl H g a c) : VwR K Cl H g c.vw (.ref a) := by
  cases c with
  | lst ds => obtain ⟨vs, e, r⟩ := h; exact ⟨a, vs, rfl, e, r⟩
  | dK kvs => obtain ⟨vs, e, r⟩ := h; exact ⟨a, vs, rfl, e, r⟩
  | dT kvs => obtain ⟨vs, e, r⟩ := h; exact ⟨a, vs, rfl, e, r⟩
  | obj c fs => obtain ⟨C, ns, dx, fv, h1, e, r⟩ := h; exact ⟨a, C, ns, dx, fv, rfl, h1, e, r⟩
theorem RD.vw {st : Store} {d : D} {v : V} (h : RD K Cl H g d v) (s : RepSt K Cl H g st) : VwR K Cl H g (d.vw st) v := by
  cases h with
  | non => exact .non
  | bl b => exact .bl b
  | int i => exact .int i
  | str x h => exact .str x h
  | tup n r => exact ⟨_, _, rfl, n, r⟩
  | lst n r => exact ⟨_, _, rfl, n.1, r⟩
  | obj h1 h2 h3 h4 h5 => exact .obj h1 h2 h3 h4 h5
  | @ptr n a e =>
    show VwR K Cl H g (match st[n]? with | some (some c) => c.vw | _ => .at (.ptr n)) (.ref a)
    split
    · rename_i c ec
      obtain ⟨b, hb, hc⟩ := s.cell n c ec
      rw [e] at hb; cases hb
      exact hc.vw
    · exact .ptr e
  | scr h => exact .scr h
theorem RR.vw {H0 : Hp} {st : Store} {r : Res} {v : V} (h : RR K Cl H0 H g r v) (s : RepSt K Cl H g st) : VwR K Cl H g (r.vw st) v := by
  cases r with
  | val d => exact RD.vw h s
  | own c => obtain ⟨a, rfl, _, _, _, q⟩ := h; exact q.vw
  | bor c => obtain ⟨a, rfl, _, q⟩ := h; exact q.vw

mutual
theorem RD.dp : ∀ {d : D} {v : V} {p : PyData}, RD K Cl H g d v → d.py = some p → Dp K H v p ∧ p.canLay0 = true
  | _, _, _, .non, e => by simp only [D.py, Option.some.injEq] at e; subst e; exact ⟨.non, rfl⟩
  | _, _, _, .bl b, e => by simp only [D.py, Option.some.injEq] at e; subst e; exact ⟨.bl b, rfl⟩
  | _, _, _, .int b, e => by simp only [D.py, Option.some.injEq] at e; subst e; exact ⟨.int b, rfl⟩
  | _, _, _, .str b h, e => by simp only [D.py, Option.some.injEq] at e; subst e; exact ⟨.str b, by simpa [PyData.canLay0] using h⟩
  | _, _, _, .tup (ds := ds) n r, e => by
    simp only [D.py] at e
    cases q : D.pys ds with
    | none => rw [q] at e; cases e
    | some ps =>
      rw [q] at e; simp only [Option.map_some, Option.some.injEq] at e; subst e
      obtain ⟨h1, h2⟩ := RDs.dp r q
      exact ⟨.tup n.sq h1, by simpa [PyData.canLay0] using h2⟩
  | _, _, _, .lst (ds := ds) n r, e => by
    simp only [D.py] at e
    cases q : D.pys ds with
    | none => rw [q] at e; cases e
    | some ps =>
      rw [q] at e; simp only [Option.map_some, Option.some.injEq] at e; subst e
      obtain ⟨h1, h2⟩ := RDs.dp r q
      exact ⟨.lst n.sq h1, by simpa [PyData.canLay0] using h2⟩
  | _, _, _, .obj .., e => by simp [D.py] at e
  | _, _, _, .ptr .., e => by simp [D.py] at e
  | _, _, _, .scr .., e => by simp [D.py] at e
theorem RDs.dp : ∀ {ds : List D} {vs : List V} {ps : List PyData}, RDs K Cl H g ds vs → D.pys ds = some ps → DpAll K H vs ps ∧ PyData.canLayAll0 ps = true
  | _, _, _, .nil, e => by simp only [D.pys, Option.some.injEq] at e; subst e; exact ⟨.nil, rfl⟩
  | _, _, _, .cons (d := d) (ds := ds) h t, e => by
    simp only [D.pys] at e
    cases q : d.py with
    | none => rw [q] at e; cases e
    | some p =>
      cases q2 : D.pys ds with
      | none => rw [q, q2] at e; cases e
      | some ps =>
        rw [q, q2] at e; simp only [Option.some.injEq] at e; subst e
        obtain ⟨a1, a2⟩ := RD.dp h q
        obtain ⟨b1, b2⟩ := RDs.dp t q2
        exact ⟨.cons a1 b1, by simp [PyData.canLayAll0, a2, b2]⟩
end
theorem VwR.dp {w : Vw} {v : V} {p : PyData} (h : VwR K Cl H g w v) (e : w.py = some p) : Dp K H v p ∧ p.canLay0 = true := by
  cases w with
  | «at» d => exact RD.dp h e
  | sq b ds =>
    cases b with
    | true =>
      obtain ⟨a, vs, rfl, s, r⟩ := h
      simp only [Vw.py] at e
      cases q : D.pys ds with
      | none => rw [q] at e; cases e
      | some ps =>
        rw [q] at e; simp only [Option.map_some, Option.some.injEq] at e; subst e
        obtain ⟨h1, h2⟩ := RDs.dp r q
        exact ⟨.tup s.sq h1, by simpa [PyData.canLay0] using h2⟩
    | false =>
      obtain ⟨a, vs, rfl, s, r⟩ := h
      simp only [Vw.py] at e
      cases q : D.pys ds with
      | none => rw [q] at e; cases e
      | some ps =>
        rw [q] at e; simp only [Option.map_some, Option.some.injEq] at e; subst e
        obtain ⟨h1, h2⟩ := RDs.dp r q
        exact ⟨.lst (.of s) h1, by simpa [PyData.canLay0] using h2⟩
  | dK kvs => simp [Vw.py] at e
  | dT kvs => simp [Vw.py] at e
  | ob c fs => simp [Vw.py] at e
end
end Py
end

section
set_option maxRecDepth 100000
set_option maxHeartbeats 4000000
set_option linter.all false
/-! What a reading of plain data promises: the frame of the soundness. -/
namespace Py
open PySem L2 PySem.Spec PyProof.Rows

structure Ctx where
  prog : Program
  w : World
  K : PySem.W.Frag
  mg : Str → Option Value
  base : Heap
  Cl : Cls
  Xc : Cls

/-- an exception lies: its class, its own dict -/
def ExcAt (Γ : Ctx) (H : Hp) (g : Gh) (c : Nat) (fs : List D) (cls : Value) (dd : Option Addr) : Prop :=
  ∃ C ns d vs, Γ.Xc c = some (C, ns) ∧ cls = .ref C ∧ dd = some d ∧ H d = some (.xd (ns.zip vs)) ∧ ns.length = vs.length ∧ ¬ g.P d ∧ RDs Γ.K Γ.Cl H g fs vs

abbrev WC := Value → Option Addr → Hp → Prop

def Post {α : Type} (Γ : Ctx) (H : Hp) (g : Gh) (o : Out α) (R : Hp → Gh → Store → α → Prop) (W : WC) : Prop :=
  match o with
  | .ok a st => ∀ H' g', Ext H g H' g' → RepSt Γ.K Γ.Cl H' g' st → R H' g' st a
  | .exc c fs st => ∀ H' g' cls dd, Ext H g H' g' → RepSt Γ.K Γ.Cl H' g' st → ExcAt Γ H' g' c fs cls dd → W cls dd H'
  | .bad => False

section
variable {Γ : Ctx} {H H1 : Hp} {g g1 : Gh} {α β : Type} {W : WC}
theorem Post.start {o : Out α} {R : Hp → Gh → Store → α → Prop} (x : Ext H g H1 g1) (h : Post Γ H g o R W) : Post Γ H1 g1 o R W := by
  cases o with
  | ok a st => exact fun H' g' y s => h H' g' (x.trans y) s
  | exc c fs st => exact fun H' g' cls dd y s e => h H' g' cls dd (x.trans y) s e
  | bad => exact h
theorem Post.imp {o : Out α} {R R' : Hp → Gh → Store → α → Prop} (h : Post Γ H g o R W) (k : ∀ H' g' st a, Ext H g H' g' → RepSt Γ.K Γ.Cl H' g' st → R H' g' st a → R' H' g' st a) : Post Γ H g o R' W := by
  cases o with
  | ok a st => exact fun H' g' y s => k H' g' st a y s (h H' g' y s)
  | exc c fs st => exact h
  | bad => exact h
theorem Post.bind {o : Out α} {f : α → Store → Out β} {R : Hp → Gh → Store → β → Prop} (h : Post Γ H g (o.bind f) R W) :
    Post Γ H g o (fun H1 g1 st1 a => Post Γ H1 g1 (f a st1) R W) W := by
  cases o with
  | ok a st => exact fun H1 g1 x s => Post.start x h
  | exc c fs st => exact h
  | bad => exact h
theorem Post.of {o : Option α} {st : Store} {R : Hp → Gh → Store → α → Prop} (h : Post Γ H g (Out.of o st) R W) : ∃ a, o = some a ∧ Post Γ H g (.ok a st) R W := by
  cases o with
  | none => exact h.elim
  | some a => exact ⟨a, rfl, h⟩
theorem Post.now {a : α} {st : Store} {R : Hp → Gh → Store → α → Prop} (h : Post Γ H g (.ok a st) R W) (s : RepSt Γ.K Γ.Cl H g st) : R H g st a := h H g .refl s
end

/-- what stands for the whole: the context of a body's code -/
structure XOk (Γ : Ctx) (k : Nat) (N : List Str) (sc : Scope) (X : Cx) : Prop where
  prog : X.prog = Γ.prog
  w : X.w = Γ.w
  K : X.K = Γ.K
  mg : X.mg = Γ.mg
  base : X.base = Γ.base
  names : X.N = N
  nd : N.Nodup
  sc : X.env.scope = sc
  calm : X.calm = true
  room : Room k X.A
  gd : X.A.guards = some []

/-- the state of the plain side over the real one -/
structure Rep (Γ : Ctx) (H0 H : Hp) (g : Gh) (σ : L2.St) (env : Env) (st : Store) : Prop where
  env : RepEnv Γ.K Γ.Cl H0 H g σ env
  st : RepSt Γ.K Γ.Cl H g st
  old : ∀ a, H a = none → H0 a = none
theorem Rep.ext {Γ H0 H H' g g' σ env st st'} (r : Rep Γ H0 H g σ env st) (x : Ext H g H' g') (s : RepSt Γ.K Γ.Cl H' g' st') : Rep Γ H0 H' g' σ env st' :=
  ⟨r.env.ext x, s, fun a h => r.old a (x.dom a h)⟩

section
variable (Γ : Ctx)
/-- an expression's promise -/
def tD {α : Type} (ev : Env → Store → Out α) (rel : Hp → Hp → Gh → α → V → Prop) (W : L2.St → WC) : TE := fun σ H Q =>
  ∃ H0 g env st, Rep Γ H0 H g σ env st ∧ Post Γ H g (ev env st) (fun H' g' _ r => ∀ v, rel H H' g' r v → Q v H') (W σ)
abbrev rRes : Hp → Hp → Gh → Res → V → Prop := fun H H' g' r v => RR Γ.K Γ.Cl H H' g' r v
def tDT (ev : Env → Store → Out Bool) (W : L2.St → WC) : TT := fun σ H Q =>
  ∃ H0 g env st, Rep Γ H0 H g σ env st ∧ Post Γ H g (ev env st) (fun H' _ _ b => Q b H') (W σ)
def tDA (ev : Env → Store → Out (List Res)) (W : L2.St → WC) : TA := fun σ H Q =>
  ∃ H0 g env st, Rep Γ H0 H g σ env st ∧ Post Γ H g (ev env st) (fun H' g' _ rs => ∀ vs, Paired (RR Γ.K Γ.Cl H H' g') rs vs → Q vs H') (W σ)
end

section
variable {Γ : Ctx} {X : Cx} {pins : List (Addr × Obj)} {σ : L2.St} {H H0 : Hp} {g : Gh} {s : Shared} {env : Env} {st : Store} {W : L2.St → WC}
/-- an expression is run -/
theorem runE {A : Expr} {ev : Env → Store → Out Res} (ha : PE X A (tD Γ ev (rRes Γ) W)) (I : Inv X pins σ H s) (r : Rep Γ H0 H g σ env st) {R : Hp → Gh → Store → Res → Prop} (h : Post Γ H g (ev env st) R (W σ)) :
    wpAny (model X.prog X.w) X.A (eval A X.env) (fun u s1 => ∃ x H1 g1 st1 r1, Inv X pins σ H1 s1 ∧ RelV x u ∧ Ext H g H1 g1 ∧ Rep Γ H0 H1 g1 σ env st1 ∧ RR Γ.K Γ.Cl H H1 g1 r1 x ∧ R H1 g1 st1 r1) X.xe s := by
  refine thn (ha.run pins s σ H (fun v H' => ∃ g1 st1 r1, Ext H g H' g1 ∧ Rep Γ H0 H' g1 σ env st1 ∧ RR Γ.K Γ.Cl H H' g1 r1 v ∧ R H' g1 st1 r1) I ⟨H0, g, env, st, r, h.imp fun H' g' st' a x s q v rv => ⟨g', st', a, x, r.ext x s, rv, q⟩⟩) fun u s1 ⟨x, H1, I1, rx, g1, st1, r1, e1, p1, rr, q⟩ => ?_
  exact ⟨x, H1, g1, st1, r1, I1, rx, e1, p1, rr, q⟩
theorem runT {A : Expr} {ev : Env → Store → Out Bool} (ha : PT X A (tDT Γ ev W)) (I : Inv X pins σ H s) (r : Rep Γ H0 H g σ env st) {R : Hp → Gh → Store → Bool → Prop} (h : Post Γ H g (ev env st) R (W σ)) :
    wpAny (model X.prog X.w) X.A (isTrue A X.env (eval A X.env)) (fun b s1 => ∃ H1 g1 st1, Inv X pins σ H1 s1 ∧ Ext H g H1 g1 ∧ Rep Γ H0 H1 g1 σ env st1 ∧ R H1 g1 st1 b) X.xe s := by
  refine thn (ha.run pins s σ H (fun b H' => ∃ g1 st1, Ext H g H' g1 ∧ Rep Γ H0 H' g1 σ env st1 ∧ R H' g1 st1 b) I ⟨H0, g, env, st, r, h.imp fun H' g' st' a x s q => ⟨g', st', x, r.ext x s, q⟩⟩) fun b s1 ⟨H1, I1, g1, st1, e1, p1, q⟩ => ?_
  exact ⟨H1, g1, st1, I1, e1, p1, q⟩
theorem runA {es : List Expr} {ev : Env → Store → Out (List Res)} (ha : PA X es (tDA Γ ev W)) (pos : Pos) (I : Inv X pins σ H s) (r : Rep Γ H0 H g σ env st) {R : Hp → Gh → Store → List Res → Prop} (h : Post Γ H g (ev env st) R (W σ)) :
    wpAny (model X.prog X.w) X.A (spliced (backTo pos (starEach es X.env))) (fun us s1 => ∃ vs H1 g1 st1 rs, Inv X pins σ H1 s1 ∧ Vals vs us ∧ Ext H g H1 g1 ∧ Rep Γ H0 H1 g1 σ env st1 ∧ Paired (RR Γ.K Γ.Cl H H1 g1) rs vs ∧ R H1 g1 st1 rs) X.xe s := by
  refine thn (ha.run pos pins s σ H (fun vs H' => ∃ g1 st1 rs, Ext H g H' g1 ∧ Rep Γ H0 H' g1 σ env st1 ∧ Paired (RR Γ.K Γ.Cl H H' g1) rs vs ∧ R H' g1 st1 rs) I ⟨H0, g, env, st, r, h.imp fun H' g' st' a x s q v rv => ⟨g', st', a, x, r.ext x s, rv, q⟩⟩) fun u s1 ⟨x, H1, I1, rx, g1, st1, r1, e1, p1, rr, q⟩ => ?_
  exact ⟨x, H1, g1, st1, r1, I1, rx, e1, p1, rr, q⟩
end

/-! ### a new object -/
section
variable {K : PySem.W.Frag} {Cl : Cls} {H : Hp} {g : Gh} {p : Addr} {o : HO} {st : Store}
def Gh.add (g : Gh) (p : Addr) : Gh := ⟨fun a => g.P a ∨ a = p, g.L⟩
def Gh.del (g : Gh) (p : Addr) : Gh := ⟨fun a => g.P a ∧ a ≠ p, g.L⟩
theorem RepSt.notP (s : RepSt K Cl H g st) (n : H p = none) : ¬ g.P p := fun z => s.dom p z n
theorem Ext.new (n : H p = none) : Ext H g (upd H p o) g := by
  have kk : ∀ a u, H a = some u → upd H p o a = some u := fun a u h => by rw [upd_ne (ne_of_none h n)]; exact h
  refine ⟨⟨fun a u h _ => kk a u h, fun a h => .inl h, List.prefix_refl _⟩, fun a u h _ => kk a u h, fun a h => ?_, fun a h => h, fun a h => .inl h⟩
  cases e : H a with
  | none => rfl
  | some u => rw [kk a u e] at h; cases h
theorem Ext.newP (n : H p = none) : Ext H g (upd H p o) (g.add p) := by
  have kk : ∀ a u, H a = some u → upd H p o a = some u := fun a u h => by rw [upd_ne (ne_of_none h n)]; exact h
  refine ⟨⟨fun a u h _ => kk a u h, fun a h => h.elim .inl fun e => .inr (e ▸ n), List.prefix_refl _⟩, fun a u h _ => kk a u h, fun a h => ?_, fun a h => .inl h, fun a h => .inl h⟩
  cases e : H a with
  | none => rfl
  | some u => rw [kk a u e] at h; cases h
theorem RepSt.ext {H' : Hp} {g' : Gh} (s : RepSt K Cl H g st) (k : Kp H g H' g') (hL : g'.L = g.L) (hP : ∀ a, g.P a → g'.P a) (hd : ∀ a, g'.P a → H' a ≠ none) (hc : ∀ a ∈ g.L, H' a = H a) : RepSt K Cl H' g' st := by
  refine ⟨by rw [hL]; exact s.len, by rw [hL]; exact s.nd, fun a h => hP a (s.prot a (by rw [← hL]; exact h)), hd, fun n c e => ?_⟩
  obtain ⟨a, h1, h2⟩ := s.cell n c e
  exact ⟨a, by rw [hL]; exact h1, h2.kp k (hc a (List.mem_of_getElem? h1))⟩
theorem RepSt.new (s : RepSt K Cl H g st) (n : H p = none) : RepSt K Cl (upd H p o) g st := by
  have x : Ext H g (upd H p o) g := .new n
  refine s.ext x.kp rfl (fun _ h => h) (fun a h z => s.dom a h (x.dom a z)) fun a h => ?_
  rw [upd_ne]
  intro e; subst e
  exact s.dom a (s.prot a h) n
theorem RepSt.newP (s : RepSt K Cl H g st) (n : H p = none) : RepSt K Cl (upd H p o) (g.add p) st := by
  have x : Ext H g (upd H p o) (g.add p) := .newP n
  refine s.ext x.kp rfl (fun _ h => .inl h) (fun a h z => ?_) fun a h => ?_
  · rcases h with h | rfl
    · exact s.dom a h (x.dom a z)
    · rw [upd_same] at z; cases z
  rw [upd_ne]
  intro e; subst e
  exact s.dom a (s.prot a h) n
theorem RepSt.notL (s : RepSt K Cl H g st) (n : H p = none) : p ∉ g.L := fun z => s.dom p (s.prot p z) n
/-- a new tuple -/
theorem rd_tup {ds : List D} {vs : List V} (s : RepSt K Cl H g st) (n : H p = none) (r : RDs K Cl H g ds vs) : RD K Cl (upd H p (.tup vs)) g (.tup ds) (.ref p) :=
  .tup ⟨upd_same, s.notP n⟩ (RDs.kp (Ext.new n).kp r)
/-- a new list that nobody holds -/
theorem rr_lst {H0 : Hp} {ds : List D} {vs : List V} (s : RepSt K Cl H g st) (n : H p = none) (n0 : H0 p = none) (r : RDs K Cl H g ds vs) : RR K Cl H0 (upd H p (.lst vs)) (g.add p) (.own (.lst ds)) (.ref p) :=
  ⟨p, rfl, n0, .inr rfl, s.notL n, vs, upd_same, RDs.kp (Ext.newP n).kp r⟩
/-- what is own becomes plain for good -/
theorem Ext.del {H1 : Hp} {g1 : Gh} (x : Ext H g H1 g1) (hn : ¬ g.P p) (hl : H1 p ≠ none) : Ext H g H1 (g1.del p) :=
  ⟨⟨x.kp.keep, fun a h => x.kp.new a h.1, x.kp.pre⟩, x.keep, x.dom, fun a h => ⟨x.stay a h, fun e => hn (e ▸ h)⟩, x.fresh⟩
theorem Kp.del (hn : H p = none → False) : Kp H g H (g.del p) := ⟨fun _ _ h _ => h, fun _ h => .inl h.1, List.prefix_refl _⟩
theorem RepSt.del (s : RepSt K Cl H g st) (hl : p ∉ g.L) (hp : H p ≠ none) : RepSt K Cl H (g.del p) st := by
  refine ⟨s.len, s.nd, fun a h => ⟨s.prot a h, fun e => hl (e ▸ h)⟩, fun a h => s.dom a h.1, fun n c e => ?_⟩
  obtain ⟨a, h1, h2⟩ := s.cell n c e
  exact ⟨a, h1, h2.kp (Kp.del hp) rfl⟩
end
end Py
end

section
set_option maxRecDepth 100000
set_option maxHeartbeats 4000000
set_option linter.all false
/-! The operations on values keep their promise. -/
namespace Py
open PySem L2 PySem.Spec PyProof.Rows

/-! texts that stand in Python -/
theorem strOk_iff {x : Str} : PyData.strOk x = true ↔ ∀ c ∈ x.cps.toList, c < 0x110000 := by
  simp [PyData.strOk, Array.all_eq_true, List.mem_iff_getElem]
  constructor
  · intro h c i hi e; subst e; exact h i hi
  · intro h i hi; exact h _ i hi rfl
theorem strOk_append {x y : Str} (a : PyData.strOk x = true) (b : PyData.strOk y = true) : PyData.strOk (x ++ y) = true := by
  rw [strOk_iff] at *
  intro c hc
  have e : (x ++ y).cps.toList = x.cps.toList ++ y.cps.toList := by
    show (x.cps ++ y.cps).toList = _
    simp
  rw [e, List.mem_append] at hc
  exact hc.elim (a c) (b c)
theorem strOk_sub {x y : Str} (a : PyData.strOk x = true) (h : ∀ c ∈ y.cps.toList, c ∈ x.cps.toList) : PyData.strOk y = true := by
  rw [strOk_iff] at *
  exact fun c hc => a c (h c hc)
theorem strOk_one {x : Str} {c : Nat} (a : PyData.strOk x = true) (h : c ∈ x.cps.toList) : PyData.strOk ⟨#[c]⟩ = true :=
  strOk_sub a fun d hd => by simp at hd; subst hd; exact h
theorem strOk_cut {x : Str} (a : PyData.strOk x = true) (lo hi : Option Int) : PyData.strOk (cutS x lo hi) = true :=
  strOk_sub a fun d hd => by
    simp only [cutS] at hd
    exact List.mem_of_mem_drop (List.mem_of_mem_take hd)

theorem atI_mem {α : Type} {xs : List α} {i : Int} {x : α} (h : atI xs i = some x) : x ∈ xs := by
  unfold atI at h
  cases e : ixN xs.length i with
  | none => rw [e] at h; cases h
  | some j => rw [e] at h; exact List.mem_of_getElem? h

section
variable {Γ : Ctx} {k : Nat} {N : List Str} {sc : Scope} {X : Cx} {pins : List (Addr × Obj)} {σ : L2.St} {K : PySem.W.Frag} {Cl : Cls} {H : Hp} {g : Gh} {s : Shared} {st : Store} {x y : V} {v u : Value} {a b : Vw} {Q : VK}

theorem rds_at {ds : List D} {vs : List V} {i : Int} {d : D} (r : RDs K Cl H g ds vs) (e : atI ds i = some d) : ∃ v, atI vs i = some v ∧ RD K Cl H g d v := by
  unfold atI at e ⊢
  rw [← r.length]
  cases q : ixN ds.length i with
  | none => rw [q] at e; cases e
  | some j => rw [q] at e; exact r.get e
theorem rds_cut {ds : List D} {vs : List V} (r : RDs K Cl H g ds vs) (lo hi : Option Int) : RDs K Cl H g (cutD ds lo hi) (cutV vs lo hi) := by
  unfold cutD cutV
  rw [r.length]
  exact RDs.take _ (RDs.drop _ r)

/-- what an operation may tell of its answer -/
def Ans (K : PySem.W.Frag) (Cl : Cls) (H : Hp) (g : Gh) (st : Store) (r : Res) (Q : VK) : Prop :=
  ∀ H' g' z, Ext H g H' g' → RepSt K Cl H' g' st → RR K Cl H H' g' r z → Q z H'
theorem Ans.val {d : D} {z : V} (q : Ans K Cl H g st (.val d) Q) (rs : RepSt K Cl H g st) (r : RD K Cl H g d z) : Q z H := q H g z .refl rs r
theorem Ans.tup {ds : List D} {vs : List V} {p : Addr} (q : Ans K Cl H g st (.val (.tup ds)) Q) (rs : RepSt K Cl H g st) (n : H p = none) (r : RDs K Cl H g ds vs) : Q (.ref p) (upd H p (.tup vs)) :=
  q _ g _ (.new n) (rs.new n) (rd_tup rs n r)
theorem Ans.lst {ds : List D} {vs : List V} {p : Addr} (q : Ans K Cl H g st (.own (.lst ds)) Q) (rs : RepSt K Cl H g st) (n : H p = none) (r : RDs K Cl H g ds vs) : Q (.ref p) (upd H p (.lst vs)) :=
  q _ (g.add p) _ (.newP n) (rs.newP n) (rr_lst rs n n r)

/-- a value's own spread of forms -/
theorem VwR.int {i : Int} (h : VwR K Cl H g (.at (.int i)) x) : x = .int i := by cases h; rfl
theorem VwR.bl {i : Bool} (h : VwR K Cl H g (.at (.bl i)) x) : x = .bl i := by cases h; rfl
theorem VwR.str {i : Str} (h : VwR K Cl H g (.at (.str i)) x) : x = .str i ∧ PyData.strOk i = true := by
  cases h with
  | str _ q => exact ⟨rfl, q⟩
theorem VwR.non (h : VwR K Cl H g (.at .non) x) : x = .non := by cases h; rfl

/-- list + list, whoever holds them -/
theorem op_catR : OpR X (binaryOp .Add) (fun x y H Q => ∃ l b xs zs, x = .ref l ∧ y = .ref b ∧ H l = some (.lst xs) ∧ H b = some (.lst zs) ∧ xs.length + zs.length ≤ sizeLine ∧ ∀ p, H p = none → Q (.ref p) (upd H p (.lst (xs ++ zs)))) := by
  intro pins s σ H x y v u Q I rx ry h
  obtain ⟨l, b, xs, zs, rfl, rfl, hH, hB, hz, q⟩ := h
  cases rx
  cases ry
  obtain ⟨z, its, n, r, e⟩ := (Rd.of hH).ok I.hok
  obtain ⟨z2, its2, n2, r2, e2⟩ := (Rd.of hB).ok I.hok
  have hl := r.length
  have hl2 := r2.length
  refine PySem.P.add_list e e2 ?_ (by rw [List.size_toArray, List.size_toArray]; omega)
  have ea : its.toArray ++ its2.toArray = (its ++ its2).toArray := by simp
  rw [ea]
  exact ⟨.ref _, _, I.lnew (t' := s.toks) (r.append r2) (by rw [List.length_append]; omega), rfl, q _ I.fresh⟩

def bopA : BOp → Operator
  | .add => .Add
  | .sub => .Sub
  | .mul => .Mult
  | .fdiv => .FloorDiv
  | .mod => .Mod
  | .pow => .Pow

theorem bin_sound (hK : X.K = K) (I : Inv X pins σ H s) (rx : RelV x v) (ry : RelV y u) (hx : VwR K Cl H g a x) (hy : VwR K Cl H g b y) (rs : RepSt K Cl H g st) {op : BOp} {r : Res} (e : opBin op a b = some r)
    (q : Ans K Cl H g st r Q) : wpAny (model X.prog X.w) X.A (binaryOp (bopA op) v u) (EP X pins σ Q) X.xe s := by
  subst hK
  unfold opBin at e
  split at e <;> simp only [Option.some.injEq, Option.ite_none_right_eq_some, reduceCtorEq] at e
  · subst e
    obtain rfl := hx.int; obtain rfl := hy.int
    exact op_add pins s σ H _ _ v u Q I rx ry ⟨_, _, rfl, rfl, q.val rs (.int _)⟩
  · subst e
    obtain rfl := hx.bl; obtain rfl := hy.int
    cases rx
    obtain ⟨t, rfl⟩ := ry
    exact PySem.IntBool.add_bool_int ⟨.int _, H, I.tok _, ⟨_, rfl⟩, q.val rs (.int _)⟩
  · obtain ⟨hz, e⟩ := e
    subst e
    obtain ⟨rfl, o1⟩ := hx.str; obtain ⟨rfl, o2⟩ := hy.str
    exact op_add_str pins s σ H _ _ v u Q I rx ry ⟨_, _, rfl, rfl, hz, q.val rs (.str _ (strOk_append o1 o2))⟩
  · obtain ⟨hz, e⟩ := e
    subst e
    obtain ⟨p1, vs, rfl, s1, r1⟩ := hx; obtain ⟨p2, ws, rfl, s2, r2⟩ := hy
    have l1 := r1.length
    have l2 := r2.length
    refine op_catA pins s σ H _ _ v u Q I rx ry ⟨p1, p2, vs, ws, rfl, rfl, s1.sq, s2.sq, by omega, fun z => ?_, fun _ z => ?_, fun _ _ p np => q.tup rs np (r1.append r2)⟩
    · obtain rfl := r1.nil_iff.mpr z
      exact q.val rs (.tup s2 r2)
    · obtain rfl := r2.nil_iff.mpr z
      rw [List.append_nil] at q
      exact q.val rs (.tup s1 r1)
  · obtain ⟨hz, e⟩ := e
    subst e
    obtain ⟨p1, vs, rfl, s1, r1⟩ := hx; obtain ⟨p2, ws, rfl, s2, r2⟩ := hy
    have l1 := r1.length
    have l2 := r2.length
    exact op_catR pins s σ H _ _ v u Q I rx ry ⟨p1, p2, vs, ws, rfl, rfl, s1, s2, by omega, fun p np => q.lst rs np (r1.append r2)⟩
  · subst e
    obtain rfl := hx.int; obtain rfl := hy.int
    exact op_sub pins s σ H _ _ v u Q I rx ry ⟨_, _, rfl, rfl, q.val rs (.int _)⟩
  · subst e
    obtain rfl := hx.bl; obtain rfl := hy.int
    cases rx
    obtain ⟨t, rfl⟩ := ry
    exact PySem.IntBool.sub_bool_int ⟨.int _, H, I.tok _, ⟨_, rfl⟩, q.val rs (.int _)⟩
  · obtain ⟨hz, e⟩ := e
    subst e
    obtain rfl := hx.int; obtain rfl := hy.int
    refine op_mul pins s σ H _ _ v u Q I rx ry ⟨_, _, rfl, rfl, ?_, q.val rs (.int _)⟩
    simpa [smallMul, CMul] using hz
  · obtain ⟨⟨h1, h2, h3, h4⟩, e⟩ := e
    subst e
    obtain ⟨p1, vs, rfl, s1, r1⟩ := hx; obtain rfl := hy.int
    exact op_repT pins s σ H _ _ v u Q I rx ry ⟨p1, _, vs, rfl, rfl, s1.sq, fun z => h1 (r1.nil_iff.mpr z), h2, h3, by rw [← r1.length]; exact h4, fun p np => q.tup rs np (r1.replicate _)⟩
  · obtain ⟨hz, e⟩ := e
    subst e
    obtain rfl := hx.int; obtain rfl := hy.int
    exact op_fdiv pins s σ H _ _ v u Q I rx ry ⟨_, _, rfl, rfl, hz, q.val rs (.int _)⟩
  · obtain ⟨hz, e⟩ := e
    subst e
    obtain rfl := hx.int; obtain rfl := hy.int
    exact op_mod pins s σ H _ _ v u Q I rx ry ⟨_, _, rfl, rfl, hz, q.val rs (.int _)⟩
  · obtain ⟨hz, e⟩ := e
    subst e
    obtain rfl := hx.int; obtain rfl := hy.int
    exact op_pow pins s σ H _ _ v u Q I rx ry ⟨_, _, rfl, rfl, hz, q.val rs (.int _)⟩

/-! comparisons -/
def copA : COp → CmpOp
  | .eq => .Eq
  | .ne => .NotEq
  | .lt => .Lt
  | .le => .LtE
  | .gt => .Gt
  | .ge => .GtE
  | .isN => .Is
  | .notN => .IsNot
  | .isIn => .In
  | .notIn => .NotIn

theorem eq_sound (hK : X.K = K) (hu : X.A.units + 64 < cLine) (I : Inv X pins σ H s) (rx : RelV x v) (ry : RelV y u) (hx : VwR K Cl H g a x) (hy : VwR K Cl H g b y) {r : Bool} (e : eqv2 a b = some r) (q : Q (.bl r) H) :
    wpAny (model X.prog X.w) X.A (compareOp .Eq v u) (EP X pins σ Q) X.xe s ∧ wpAny (model X.prog X.w) X.A (compareOp .NotEq v u) (fun z s' => z = .bool (!r) ∧ Inv X pins σ H s') X.xe s := by
  subst hK
  unfold eqv2 at e
  cases e1 : a.py with
  | none => rw [e1] at e; cases e
  | some p =>
    cases e2 : b.py with
    | none => rw [e1, e2] at e; cases e
    | some q' =>
      rw [e1, e2] at e
      simp only [Option.ite_none_right_eq_some, Option.some.injEq] at e
      obtain ⟨hd, rfl⟩ := e
      obtain ⟨d1, c1⟩ := hx.dp e1
      obtain ⟨d2, c2⟩ := hy.dp e2
      obtain ⟨as, t1⟩ := Dp.reads I p x v d1 rx
      obtain ⟨bs, t2⟩ := Dp.reads I q' y u d2 ry
      exact ⟨SeqAt.compareEq_reads t1 t2 c1 c2 (by omega) ⟨.bl _, H, I, rfl, q⟩, SeqAt.compareNe_reads t1 t2 c1 c2 (by omega) ⟨rfl, I⟩⟩

/-- a yes or no -/
def YN (X : Cx) (pins : List (Addr × Obj)) (σ : L2.St) (H : Hp) (r : Bool) : Value → Shared → Prop := fun z s' => z = .bool r ∧ Inv X pins σ H s'
theorem yn_ep {r : Bool} {M : Model} {A : Around} {E : Value → Shared → Prop} {t : Sem Value} {s : Shared} (q : Q (.bl r) H) (h : wpAny M A t (YN X pins σ H r) E s) : wpAny M A t (EP X pins σ Q) E s :=
  thn h fun z s' ⟨e, I⟩ => ⟨.bl r, H, I, e, q⟩
theorem ep_yn {r : Bool} {M : Model} {A : Around} {E : Value → Shared → Prop} {t : Sem Value} {s : Shared} (h : wpAny M A t (EP X pins σ fun v H' => v = .bl r ∧ H' = H) E s) : wpAny M A t (YN X pins σ H r) E s :=
  thn h fun z s' ⟨v, H', I, rv, e, eH⟩ => by subst e eH; exact ⟨rv, I⟩

theorem look_sound (hx : VwR K Cl H g a x) {d : D} (hd : RD K Cl H g d y) {r : Option D} (e : look a d = some r) :
    ∃ p o, x = .ref p ∧ DGet H p y o ∧ (r = none ↔ o = none) ∧ ∀ d', r = some d' → ∃ z, o = some z ∧ RD K Cl H g d' z := by
  have go : ∀ {κ : Type} [DecidableEq κ] {kvs : List (κ × D)} {kv : List (κ × V)} (F : κ → Prop) (k : κ), Paired (fun p q => p.1 = q.1 ∧ F p.1 ∧ RD K Cl H g p.2 q.2) kvs kv →
      (lookK kvs k = none ↔ valV kv k = none) ∧ ∀ d', lookK kvs k = some d' → ∃ z, valV kv k = some z ∧ RD K Cl H g d' z := by
    intro κ _ kvs kv F k h
    induction h with
    | nil => exact ⟨⟨fun _ => rfl, fun _ => rfl⟩, fun d' z => by cases z⟩
    | @cons p q ps qs hp _ ih =>
      obtain ⟨e1, _, e2⟩ := hp
      unfold lookK valV
      rw [List.find?_cons, List.find?_cons]
      by_cases hk : p.1 = k
      · rw [decide_eq_true hk, decide_eq_true (e1 ▸ hk)]
        exact ⟨⟨fun z => (by simp at z), fun z => (by simp at z)⟩, fun d' z => ⟨q.2, rfl, by simp at z; subst z; exact e2⟩⟩
      · rw [decide_eq_false hk, decide_eq_false (e1 ▸ hk)]
        exact ih
  unfold look at e
  split at e
  · rename_i kvs
    obtain ⟨p, kv, rfl, hp, hr⟩ := hx
    cases q : d.key with
    | none => rw [q] at e; cases e
    | some k =>
      rw [q] at e
      simp only [Option.map_some, Option.some.injEq] at e
      subst e
      have hy : y = kV k := by
        cases hd <;> simp only [D.key, Option.some.injEq, reduceCtorEq] at q <;> subst q <;> rfl
      subst hy
      obtain ⟨g1, g2⟩ := go (kvs := kvs) (kv := kv) (fun k => kOk k = true) k hr
      exact ⟨p, _, rfl, DGet.k hp, g1, g2⟩
  · rename_i kvs
    obtain ⟨p, kv, rfl, hp, hr⟩ := hx
    split at e
    · rename_i ds
      cases q : D.keys ds with
      | none => rw [q] at e; cases e
      | some ks =>
        rw [q] at e
        simp only [Option.map_some, Option.some.injEq] at e
        subst e
        cases hd with
        | tup n r =>
          have hk : ∀ {ds : List D} {vs : List V} {ks : List Key}, RDs K Cl H g ds vs → D.keys ds = some ks → vs = ks.map kV := by
            intro ds
            induction ds with
            | nil => intro vs ks r q; cases r; simp [D.keys] at q; subst q; rfl
            | cons d ds ih =>
              intro vs ks r q
              cases r with
              | cons h t =>
                simp only [D.keys] at q
                cases q1 : d.key with
                | none => rw [q1] at q; cases q
                | some k1 =>
                  cases q2 : D.keys ds with
                  | none => rw [q1, q2] at q; cases q
                  | some k2 =>
                    rw [q1, q2] at q
                    simp only [Option.some.injEq] at q
                    subst q
                    rw [List.map_cons, ih t q2]
                    congr 1
                    cases h <;> simp only [D.key, Option.some.injEq, reduceCtorEq] at q1 <;> subst q1 <;> rfl
          obtain rfl := hk r q
          obtain ⟨g1, g2⟩ := go (kvs := kvs) (kv := kv) (fun k : List Key => k.all kOk = true) ks hr
          exact ⟨p, _, rfl, DGet.t hp n.1, g1, g2⟩
    · cases e
  · cases e

theorem look_none {d : D} {r : Option D} (e : look a d = some r) : (∃ kvs, a = .dK kvs) ∨ ∃ kvs, a = .dT kvs := by
  unfold look at e
  split at e
  · exact .inl ⟨_, rfl⟩
  · exact .inr ⟨_, rfl⟩
  · cases e
/-- in, not in -/
theorem in_sound (hK : X.K = K) (hu : X.A.units + 128 < cLine) (I : Inv X pins σ H s) (rx : RelV x v) (ry : RelV y u) (hx : VwR K Cl H g a x) (hy : VwR K Cl H g b y) {r : Bool} (e : isInV a b = some r) :
    wpAny (model X.prog X.w) X.A (compareOp .In v u) (YN X pins σ H r) X.xe s ∧ wpAny (model X.prog X.w) X.A (compareOp .NotIn v u) (YN X pins σ H (!r)) X.xe s := by
  subst hK
  have dic : ∀ {d : D} {o : Option D}, RD X.K Cl H g d x → look b d = some o → wpAny (model X.prog X.w) X.A (compareOp .In v u) (YN X pins σ H o.isSome) X.xe s ∧ wpAny (model X.prog X.w) X.A (compareOp .NotIn v u) (YN X pins σ H (!o.isSome)) X.xe s := by
    intro d o hd e
    obtain ⟨p, ov, rfl, hg, h1, h2⟩ := look_sound hy hd e
    obtain rfl : u = Value.ref p := ry
    have es : ov.isSome = o.isSome := by
      cases o with
      | none => rw [h1.mp rfl]; rfl
      | some d' => obtain ⟨z, hz, _⟩ := h2 d' rfl; rw [hz]; rfl
    refine ⟨ep_yn (d_in (by omega) I hg rx fun s3 I3 => ⟨.bl ov.isSome, H, I3, rfl, by rw [es], rfl⟩), ep_yn (d_notIn (by omega) I hg rx fun s3 I3 => ⟨.bl (!ov.isSome), H, I3, rfl, by rw [es], rfl⟩)⟩
  unfold isInV at e
  split at e
  · split at e
    · simp only [Option.some.injEq] at e
      subst e
      obtain ⟨rfl, _⟩ := hx.str; obtain ⟨rfl, _⟩ := hy.str
      exact ⟨ep_yn (op_in_str pins s σ H _ _ v u _ I rx ry ⟨_, _, rfl, rfl, rfl, rfl⟩), ep_yn (op_notIn_str pins s σ H _ _ v u _ I rx ry ⟨_, _, rfl, rfl, rfl, rfl⟩)⟩
    · cases e
  · rename_i tp xs
    cases e1 : a.py with
    | none => rw [e1] at e; cases e
    | some p =>
      cases e2 : D.pys xs with
      | none => rw [e1, e2] at e; cases e
      | some ps =>
        rw [e1, e2] at e
        simp only [Option.ite_none_right_eq_some, Option.some.injEq] at e
        obtain ⟨hd, rfl⟩ := e
        obtain ⟨d1, c1⟩ := hx.dp e1
        obtain ⟨as, t1⟩ := Dp.reads I p x v d1 rx
        cases tp with
        | true =>
          obtain ⟨l, vs, rfl, hl, hr⟩ := hy
          obtain rfl : u = Value.ref l := ry
          obtain ⟨d2, c2⟩ := RDs.dp hr e2
          obtain ⟨its, rv, pl, hz⟩ := I.tuple hl.sq
          obtain ⟨bs, t2⟩ := Dp.readsAll I ps _ its d2 rv
          have hm := SeqAt.readsAll_map ps its bs c2 t2
          have eqs := fun (A : Around) (hu : A.units + 1 + min (PyData.depthAll ps) p.depth < cLine) => SeqAt.items_eqAt (A := A) (vs := its.toArray) (show ReadsAll s.heap its.toArray.toList ps bs from t2) t1 c2 c1 hu
          have ev : its.toArray.any (fun u => PyData.eqv (SeqAt.readOf s.heap u) p) = ps.any fun z => PyData.eqv z p := by
            rw [← hm, List.any_map]
            simp [Function.comp_def]
          refine ⟨SeqAt.in_tupleAt (fun u => PyData.eqv (SeqAt.readOf s.heap u) p) pl (fun w hw => eqs X.A (by omega) w hw) ⟨by rw [ev], I⟩, SeqAt.notIn_tupleAt (fun u => PyData.eqv (SeqAt.readOf s.heap u) p) pl (fun w hw => eqs X.A (by omega) w hw) ⟨by rw [ev], I⟩⟩
        | false =>
          obtain ⟨l, vs, rfl, hl, hr⟩ := hy
          obtain rfl : u = Value.ref l := ry
          obtain ⟨d2, c2⟩ := RDs.dp hr e2
          obtain ⟨its, rv, pl, hz⟩ := I.list (SqL.of hl)
          obtain ⟨bs, t2⟩ := Dp.readsAll I ps _ its d2 rv
          have hm := SeqAt.readsAll_map ps its bs c2 t2
          have eqs := fun (A : Around) (hu : A.units + 1 + min (PyData.depthAll ps) p.depth < cLine) => SeqAt.items_eqAt (A := A) (vs := its.toArray) (show ReadsAll s.heap its.toArray.toList ps bs from t2) t1 c2 c1 hu
          have ev : its.toArray.any (fun u => PyData.eqv (SeqAt.readOf s.heap u) p) = ps.any fun z => PyData.eqv z p := by
            rw [← hm, List.any_map]
            simp [Function.comp_def]
          refine ⟨SeqAt.in_listAt (fun u => PyData.eqv (SeqAt.readOf s.heap u) p) pl.isList (fun w hw => eqs X.A (by omega) w hw) ⟨by rw [ev], I⟩, SeqAt.notIn_listAt (fun u => PyData.eqv (SeqAt.readOf s.heap u) p) pl.isList (fun w hw => eqs X.A (by omega) w hw) ⟨by rw [ev], I⟩⟩
  · split at e
    · rename_i d
      cases q : look b d with
      | none => rw [q] at e; cases e
      | some o =>
        rw [q] at e
        simp only [Option.map_some, Option.some.injEq] at e
        subst e
        exact dic hx q
    · rename_i ds
      cases q : look b (.tup ds) with
      | none => rw [q] at e; cases e
      | some o =>
        rw [q] at e
        simp only [Option.map_some, Option.some.injEq] at e
        subst e
        obtain ⟨l, vs, rfl, hl, hr⟩ := hx
        exact dic (.tup hl hr) q
    · cases e
end
end Py
end

section
set_option maxRecDepth 100000
set_option maxHeartbeats 4000000
set_option linter.all false
/-! The operations on values keep their promise, further. -/
namespace Py
open PySem L2 PySem.Spec PyProof.Rows
section
variable {Γ : Ctx} {k : Nat} {N : List Str} {sc : Scope} {X : Cx} {pins : List (Addr × Obj)} {σ : L2.St} {K : PySem.W.Frag} {Cl : Cls} {H : Hp} {g : Gh} {s : Shared} {st : Store} {x y : V} {v u : Value} {a b : Vw} {Q : VK}

theorem VwR.isN (hx : VwR K Cl H g a x) : decide (x = .non) = a.isN := by
  cases a with
  | «at» d => cases hx <;> rfl
  | sq tp ds => cases tp <;> (obtain ⟨_, _, rfl, _⟩ := hx; rfl)
  | dK kvs => obtain ⟨_, _, rfl, _⟩ := hx; rfl
  | dT kvs => obtain ⟨_, _, rfl, _⟩ := hx; rfl
  | ob c fs => obtain ⟨_, _, _, _, _, rfl, _⟩ := hx; rfl

theorem cmp_sound (hK : X.K = K) (hu : X.A.units + 128 < cLine) (I : Inv X pins σ H s) (rx : RelV x v) (ry : RelV y u) (hx : VwR K Cl H g a x) (hy : VwR K Cl H g b y) {op : COp} {r : Bool} (e : opCmp op a b = some r) :
    wpAny (model X.prog X.w) X.A (compareOp (copA op) v u) (YN X pins σ H r) X.xe s := by
  cases op with
  | eq => exact ep_yn (eq_sound (Q := fun v H' => v = .bl r ∧ H' = H) hK (by omega) I rx ry hx hy e ⟨rfl, rfl⟩).1
  | ne =>
    cases q : eqv2 a b with
    | none => simp [opCmp, q] at e
    | some r' =>
      simp only [opCmp, q, Option.map_some, Option.some.injEq] at e
      subst e
      exact (eq_sound (Q := fun v H' => v = .bl r' ∧ H' = H) hK (by omega) I rx ry hx hy q ⟨rfl, rfl⟩).2
  | lt =>
    simp only [opCmp] at e
    split at e <;> simp only [Option.some.injEq, reduceCtorEq] at e <;> subst e
    · obtain rfl := hx.int; obtain rfl := hy.int
      exact ep_yn (op_lt pins s σ H _ _ v u _ I rx ry ⟨_, _, rfl, rfl, rfl, rfl⟩)
    · obtain ⟨rfl, _⟩ := hx.str; obtain ⟨rfl, _⟩ := hy.str
      exact ep_yn (op_lt_str pins s σ H _ _ v u _ I rx ry ⟨_, _, rfl, rfl, rfl, rfl⟩)
  | le =>
    simp only [opCmp] at e
    split at e <;> simp only [Option.some.injEq, reduceCtorEq] at e <;> subst e
    · obtain rfl := hx.int; obtain rfl := hy.int
      exact ep_yn (op_le pins s σ H _ _ v u _ I rx ry ⟨_, _, rfl, rfl, rfl, rfl⟩)
    · obtain ⟨rfl, _⟩ := hx.str; obtain ⟨rfl, _⟩ := hy.str
      exact ep_yn (op_le_str pins s σ H _ _ v u _ I rx ry ⟨_, _, rfl, rfl, rfl, rfl⟩)
  | gt =>
    simp only [opCmp] at e
    split at e <;> simp only [Option.some.injEq, reduceCtorEq] at e <;> subst e
    · obtain rfl := hx.int; obtain rfl := hy.int
      exact ep_yn (op_gt pins s σ H _ _ v u _ I rx ry ⟨_, _, rfl, rfl, rfl, rfl⟩)
    · obtain ⟨rfl, _⟩ := hx.str; obtain ⟨rfl, _⟩ := hy.str
      exact ep_yn (op_gt_str pins s σ H _ _ v u _ I rx ry ⟨_, _, rfl, rfl, rfl, rfl⟩)
  | ge =>
    simp only [opCmp] at e
    split at e <;> simp only [Option.some.injEq, reduceCtorEq] at e <;> subst e
    · obtain rfl := hx.int; obtain rfl := hy.int
      exact ep_yn (op_ge pins s σ H _ _ v u _ I rx ry ⟨_, _, rfl, rfl, rfl, rfl⟩)
  | isN =>
    simp only [opCmp] at e
    split at e
    · obtain rfl := hy.non
      simp only [Option.some.injEq] at e
      subst e
      exact ep_yn (op_isN pins s σ H _ _ v u _ I rx ry ⟨rfl, by rw [hx.isN], rfl⟩)
    · cases e
  | notN =>
    simp only [opCmp] at e
    split at e
    · obtain rfl := hy.non
      simp only [Option.some.injEq] at e
      subst e
      exact ep_yn (op_notN pins s σ H _ _ v u _ I rx ry ⟨rfl, by rw [hx.isN], rfl⟩)
    · cases e
  | isIn => exact (in_sound hK hu I rx ry hx hy e).1
  | notIn =>
    cases q : isInV a b with
    | none => simp [opCmp, q] at e
    | some r' =>
      simp only [opCmp, q, Option.map_some, Option.some.injEq] at e
      subst e
      exact (in_sound hK hu I rx ry hx hy q).2

theorem isEmpty_rds {ds : List D} {vs : List V} (h : RDs K Cl H g ds vs) : vs.isEmpty = ds.isEmpty := by
  cases h <;> rfl
theorem len_ne (n : Nat) : (n != 0) = ((n : Int) != 0) := by
  cases n with
  | zero => rfl
  | succ n => rw [show ((n + 1 : Nat) : Int) = (n : Int) + 1 by omega]; simp [bne]; omega
/-- truth -/
theorem truth_sound (hx : VwR K Cl H g a x) {r : Bool} (e : truth a = some r) : TruV K x H r := by
  unfold truth at e
  split at e <;> simp only [Option.some.injEq, Option.ite_none_right_eq_some, reduceCtorEq] at e
  · obtain rfl := hx.non; subst e; rfl
  · obtain rfl := hx.bl; subst e; rfl
  · obtain rfl := hx.int; subst e; rfl
  · obtain ⟨rfl, _⟩ := hx.str
    obtain ⟨h1, rfl⟩ := e
    exact ⟨h1, len_ne _⟩
  · rename_i tp ds
    subst e
    cases tp with
    | true =>
      obtain ⟨p, vs, rfl, h1, h2⟩ := hx
      exact .inr (.inl ⟨vs, h1.sq, by rw [isEmpty_rds h2]⟩)
    | false =>
      obtain ⟨p, vs, rfl, h1, h2⟩ := hx
      exact .inl ⟨vs, .of h1, by rw [isEmpty_rds h2]⟩
  · rename_i kvs
    subst e
    obtain ⟨p, kv, rfl, h1, h2⟩ := hx
    refine .inr (.inr ⟨kv, h1, ?_⟩)
    cases h2 <;> rfl

/-- a[b] -/
theorem ix_sound (hK : X.K = K) (hu : X.A.units + 128 < cLine) {value slice : Expr} (I : Inv X pins σ H s) (rx : RelV x v) (ry : RelV y u) (hx : VwR K Cl H g a x) (hy : VwR K Cl H g b y) (hs : PlainIx slice) {d : D} (e : opIx a b = some d)
    (q : ∀ z, RD K Cl H g d z → Q z H) : wpAny (model X.prog X.w) X.A (subscriptTail value slice v u) (EP X pins σ Q) X.xe s := by
  subst hK
  have dic : ∀ {d0 : D}, RD X.K Cl H g d0 y → look a d0 = some (some d) → wpAny (model X.prog X.w) X.A (subscriptTail value slice v u) (EP X pins σ Q) X.xe s := by
    intro d0 hd e
    obtain ⟨p, ov, rfl, hg, h1, h2⟩ := look_sound hx hd e
    obtain rfl : v = Value.ref p := rx
    obtain ⟨z, rfl, hz⟩ := h2 d rfl
    have hT := dict_typeIs I hg
    have h3 : wpAny (model X.prog X.w) X.A (getItem (.ref p) u) (EP X pins σ Q) X.xe s := d_getItem (by omega) I hg ry fun w' s3 I3 rw' => ⟨z, H, I3, rw', q z hz⟩
    exact tail_any (ops := [.ref p, u]) hT PySem.F.slot_dict_getitem.lookup h3 (hs _ _)
  unfold opIx at e
  split at e
  · rename_i tp ds
    split at e
    · obtain rfl := hy.int
      cases tp with
      | true =>
        obtain ⟨p, vs, rfl, h1, h2⟩ := hx
        obtain ⟨z, hz, rz⟩ := rds_at h2 e
        exact ix_tup value slice pins s σ H _ _ v u Q I rx ry ⟨p, vs, _, z, rfl, rfl, h1.sq, hz, q z rz⟩ (hs _ _)
      | false =>
        obtain ⟨p, vs, rfl, h1, h2⟩ := hx
        obtain ⟨z, hz, rz⟩ := rds_at h2 e
        exact ix_list value slice pins s σ H _ _ v u Q I rx ry ⟨p, vs, _, z, rfl, rfl, .of h1, hz, q z rz⟩ (hs _ _)
    · cases e
  · split at e
    · obtain ⟨rfl, ok⟩ := hx.str; obtain rfl := hy.int
      simp only [Option.ite_none_right_eq_some, Option.map_eq_some_iff] at e
      obtain ⟨hz, c, hc, rfl⟩ := e
      exact ix_str value slice pins s σ H _ _ v u Q I rx ry ⟨_, _, c, rfl, rfl, hz, hc, q _ (.str _ (strOk_one ok (atI_mem hc)))⟩ (hs _ _)
    · cases e
  · split at e
    · split at e
      · simp only [Option.some.injEq] at e
        subst e
        rename_i q1
        exact dic hy q1
      · cases e
    · split at e
      · simp only [Option.some.injEq] at e
        subst e
        rename_i q1
        obtain ⟨l, vs, rfl, hl, hr⟩ := hy
        exact dic (.tup hl hr) q1
      · cases e
    · cases e

/-- a[lo:hi] -/
theorem sl_sound (hK : X.K = K) (I : Inv X pins σ H s) (rx : RelV x v) (hx : VwR K Cl H g a x) (rs : RepSt K Cl H g st) {vl vu : Value} {lo hi : Option Int} {sl : Addr} (hs : s.heap.IsSliceOf sl vl vu .none) (pl : IsPart vl lo) (pu : IsPart vu hi) {r : Res} (e : opSl a lo hi = some r)
    (q : Ans K Cl H g st r Q) : ∃ T id, typeLookup (.type T) "__getitem__" = pure (some (.builtin id)) ∧ s.TypeIs v T ∧ wpAny (model X.prog X.w) X.A (getItem v (.ref sl)) (EP X pins σ Q) X.xe s := by
  subst hK
  unfold opSl at e
  split at e <;> simp only [Option.some.injEq, Option.ite_none_right_eq_some, reduceCtorEq] at e
  · subst e
    obtain ⟨p, vs, rfl, h1, h2⟩ := hx
    rename_i ds
    refine sl_tupA pins s σ H _ v vl vu lo hi sl Q I rx hs pl pu ⟨p, vs, rfl, h1.sq, fun z => ?_, fun _ p np => q.tup rs np (rds_cut h2 lo hi)⟩
    have ec : cutD ds lo hi = ds := by
      unfold cutD
      rw [h2.length, z.1, z.2, List.drop_zero, Nat.sub_zero, ← h2.length, List.take_length]
    rw [ec] at q
    exact q.val rs (.tup h1 h2)
  · subst e
    obtain ⟨p, vs, rfl, h1, h2⟩ := hx
    exact sl_list pins s σ H _ v vl vu lo hi sl Q I rx hs pl pu ⟨p, vs, rfl, .of h1, fun p np => q.lst rs np (rds_cut h2 lo hi)⟩
  · obtain ⟨hz, rfl⟩ := e
    obtain ⟨rfl, ok⟩ := hx.str
    exact sl_str pins s σ H _ v vl vu lo hi sl Q I rx hs pl pu ⟨_, rfl, hz, q.val rs (.str _ (strOk_cut ok lo hi))⟩
  · subst e
    rename_i ns
    cases hx with
    | scr h =>
      refine sl_list pins s σ H _ v vl vu lo hi sl Q I rx hs pl pu ⟨_, _, rfl, h.sq, fun p np => q.lst rs np ?_⟩
      refine rds_cut ?_ lo hi
      clear h q rx
      induction ns with
      | nil => exact .nil
      | cons n ns ih => exact .cons (.int n) ih
end
end Py
end

section
set_option maxRecDepth 100000
set_option maxHeartbeats 4000000
set_option linter.all false
/-! Sorted things: what is gathered from a walk, put in order. -/
namespace Py
open PySem L2 PySem.Spec PyProof.Rows

def AllB (ps : List PyData) : Prop := PySem.W.AllAlike ps
theorem alikeL_ok {ps : List PyData} (h : alikeL ps = true) : PySem.W.AllAlike ps := by
  unfold alikeL at h
  rw [List.all_eq_true] at h
  intro d hd d2 hd2
  have := h d hd
  rw [List.all_eq_true] at this
  exact this d2 hd2
theorem sortableL_ok {ps : List PyData} (h : sortableL ps = true) : PySem.W.Sortable ps := by
  unfold sortableL at h
  rw [Bool.or_eq_true, List.all_eq_true, List.all_eq_true] at h
  rcases h with h | h
  · refine .inl fun d hd => ?_
    have := h d hd
    match d, this with
    | .tuple (x :: r), _ => exact ⟨x, r, rfl⟩
  · refine .inr fun d hd => ?_
    have := h d hd
    cases d <;> first | (exact Bool.noConfusion (show false = true from this)) | (exact ⟨by simp, by simp⟩)

section
variable {prog : Program} {w : World} {A : Around} {s : Shared}
/-- what has been gathered is sorted in a new list -/
theorem sorted_go {v : Value} {T : List D → Prop} {R : Value → D → Prop} {E : Value → Shared → Prop} {Q : Value → Shared → Prop} {ds : List D} (hal : PySem.W.AllAlike (ds.map encD)) (hk : PySem.W.Sortable (ds.map encD)) (hL : ds.length ≤ sizeLine) (hu : ∀ d ∈ ds, A.units + 2 + (encD d).depth < cLine)
    (col : ∀ E' : Value → Shared → Prop, wpAny (model prog w) A.in1 (collect v) (fun vs s1 => (∀ b o, s.heap.get? b = some o → s1.heap.get? b = some o) ∧ s1.gens = s.gens ∧ s1.os = s.os ∧
      ∃ es : List D, PySem.W.EachIs R vs es ∧ (es.Perm ds ∧ T es) ∧ PySem.W.EachIs (fun u d => ∃ as, Reads s1.heap u (encD d) as) vs es) E' s)
    (fin : ∀ (s1 : Shared) (h' : Heap) (out : List Value) (es : List D) (n : Nat), (∀ b o, s.heap.get? b = some o → s1.heap.get? b = some o) → (∀ b o, s1.heap.get? b = some o → h'.get? b = some o) → s1.gens = s.gens → s1.os = s.os → h'.get? s1.heap.objs.size = some (seqObj "list" out.toArray n) → es.Perm ds → T es →
      PySem.W.EachIs R out (sortD es) → out.length = ds.length → Q (.ref s1.heap.objs.size) { s1 with heap := h' }) :
    wpAny (model prog w) A (call (.builtin "sorted") [v]) Q E s := by
  refine Calls.call_function_entry kind_sorted plain_sorted entry_sorted (args_sorted1 _) ?_
  unfold Builtin.«sorted»
  refine wpAny_bind (m := checkCount "sorted" 1 1 _) (wpAny_pure ?_)
  refine wpAny_bind (wpAny_mono (col _) (fun vs s1 t => ?_) fun _ _ e => e)
  obtain ⟨k1, g1, o1, es, e1, ⟨pm, tt⟩, e2⟩ := t
  have hvl : vs.length = ds.length := by rw [e1.length, pm.length_eq]
  refine wpAny_bind (wpAny_newList ?_ (by rw [hvl]; exact hL))
  have at0 : (s1.heap.push (seqObj "list" vs.toArray 0)).get? s1.heap.objs.size = some (seqObj "list" vs.toArray 0) := Heap.get?_push_size _ rfl
  have old : ∀ b o, s1.heap.get? b = some o → (PySem.W.sortingHeap (s1.heap.push (seqObj "list" vs.toArray 0)) s1.heap.objs.size vs).get? b = some o := fun b o e =>
    PySem.W.sortingHeap_old (Nat.ne_of_lt (Heap.lt_size e)) (Heap.get?_push_of_some _ e)
  have er := e2.mono fun u d (q : ∃ as, Reads s1.heap u (encD d) as) => (let ⟨as, r⟩ := q; ⟨as, PyProof.Rows.Reads.keeps old r⟩ : ∃ as, Reads (PySem.W.sortingHeap (s1.heap.push (seqObj "list" vs.toArray 0)) s1.heap.objs.size vs) u (encD d) as)
  have hme : ∀ d, d ∈ es.map encD → d ∈ ds.map encD := fun d hd => (pm.map encD).mem_iff.mp hd
  have hal2 : PySem.W.AllAlike (es.map encD) := fun d hd d2 hd2 => hal d (hme d hd) d2 (hme d2 hd2)
  have hk2 : PySem.W.Sortable (es.map encD) := hk.imp (fun h d hd => h d (hme d hd)) fun h d hd => h d (hme d hd)
  have SA : PySem.W.SortsAt prog w A.in1.in1 { s1 with heap := PySem.W.sortingHeap (s1.heap.push (seqObj "list" vs.toArray 0)) s1.heap.objs.size vs } (PySem.W.dataKind (PySem.W.sortingHeap (s1.heap.push (seqObj "list" vs.toArray 0)) s1.heap.objs.size vs) (es.map encD)) vs :=
    PySem.W.SortsAt.data (PySem.W.each_map (R := fun u d => ∃ as, Reads (PySem.W.sortingHeap (s1.heap.push (seqObj "list" vs.toArray 0)) s1.heap.objs.size vs) u d as) encD er) hal2 hk2 fun d hd => by
      obtain ⟨d0, h0, rfl⟩ := List.mem_map.mp (hme d hd)
      exact hu d0 h0
  have srt := PySem.W.list_sort_vals (P := fun f s' => f = .done (.ret .none) ∧ s' = { s1 with heap := sortedHeap (s1.heap.push (seqObj "list" vs.toArray 0)) s1.heap.objs.size vs (PySem.W.sortVals (PySem.W.dataKind (PySem.W.sortingHeap (s1.heap.push (seqObj "list" vs.toArray 0)) s1.heap.objs.size vs) (es.map encD)) false vs vs).toArray })
    (E := fun _ _ => False) (s := { s1 with heap := s1.heap.push (seqObj "list" vs.toArray 0) }) at0 SA (by rw [hvl]; exact hL) ⟨rfl, rfl⟩
  refine wpAny_bind (wpAny_holding (wpAny_call_entry slot_list_sort ⟨_, at0, rfl⟩ entry_list_sort (wpAny_mono srt (fun f s' q => ?_) fun _ _ z => z.elim) (args_list_sort _)))
  obtain ⟨rfl, rfl⟩ := q
  refine ⟨_, rfl, wpAny_pure ⟨_, rfl, ?_⟩⟩
  obtain ⟨n, hn⟩ := sortedHeap_at (vs := vs) (out := (PySem.W.sortVals (PySem.W.dataKind (PySem.W.sortingHeap (s1.heap.push (seqObj "list" vs.toArray 0)) s1.heap.objs.size vs) (es.map encD)) false vs vs).toArray) at0
  refine fin s1 _ _ es n k1 (fun b o e => ?_) g1 o1 hn pm tt (PySem.W.sortVals_data false e1 er hal2) (by rw [PySem.W.sortVals_length false rfl]; exact hvl)
  have hlt := Heap.lt_size e
  rw [sortedHeap_old (Nat.ne_of_lt hlt) (by rw [size_push']; exact Nat.lt_succ_of_lt hlt)]
  exact Heap.get?_push_of_some _ e
end

/-! over the layer -/
section
variable {K : PySem.W.Frag} {Cl : Cls} {H : Hp} {g : Gh} {X : Cx} {pins : List (Addr × Obj)} {σ : L2.St} {s : Shared} {st : Store} {Q : VK}
/-- a value stands for a datum -/
def StD (K : PySem.W.Frag) (Cl : Cls) (H : Hp) (g : Gh) (u : Value) (d : D) : Prop := ∃ v, RelV v u ∧ RD K Cl H g d v
theorem std_of : ∀ {xs : List V} {us : List Value} {ds : List D}, Vals xs us → RDs K Cl H g ds xs → PySem.W.EachIs (StD K Cl H g) us ds
  | _, _, _, .nil, .nil => .nil
  | _, _, _, .cons r t, .cons h k => .cons ⟨_, r, h⟩ (std_of t k)
theorem std_back : ∀ {us : List Value} {ds : List D}, PySem.W.EachIs (StD K Cl H g) us ds → ∃ xs, Vals xs us ∧ RDs K Cl H g ds xs
  | _, _, .nil => ⟨[], .nil, .nil⟩
  | _, _, .cons ⟨v, r, h⟩ t => let ⟨xs, a, b⟩ := std_back t; ⟨v :: xs, .cons r a, .cons h b⟩
theorem enc_pys : ∀ {ds : List D} {ps : List PyData}, D.pys ds = some ps → ds.map encD = ps ∧ ∀ d ∈ ds, d.py = some (encD d)
  | [], ps, h => by cases h; exact ⟨rfl, fun d hd => by cases hd⟩
  | d :: ds, ps, h => by
    simp only [D.pys] at h
    cases e : d.py with
    | none => rw [e] at h; cases h
    | some p =>
      cases e2 : D.pys ds with
      | none => rw [e, e2] at h; cases h
      | some qs =>
        rw [e, e2] at h
        cases h
        obtain ⟨a, b⟩ := enc_pys e2
        have ep : encD d = p := by unfold encD; rw [e]; rfl
        refine ⟨by rw [List.map_cons, a, ep], fun x hx => ?_⟩
        rcases List.mem_cons.mp hx with rfl | hx
        · rw [e, ep]
        · exact b x hx
theorem depth_in : ∀ {ps : List PyData} {p : PyData}, p ∈ ps → p.depth ≤ PyData.depthAll ps
  | q :: ps, p, h => by
    show _ ≤ max q.depth (PyData.depthAll ps)
    rcases List.mem_cons.mp h with rfl | h
    · exact Nat.le_max_left _ _
    · exact Nat.le_trans (depth_in h) (Nat.le_max_right _ _)
/-- the new state behind a gathering -/
theorem inv_moved {s1 : Shared} (I : Inv X pins σ H s) (k : ∀ b o, s.heap.get? b = some o → s1.heap.get? b = some o) (g : s1.gens = s.gens) (o : s1.os = s.os) : Inv X pins σ H s1 := by
  have J : Inv X pins σ H { s with heap := s1.heap, gens := s1.gens, drawn := s1.drawn, toks := s1.toks } :=
    I.call (ch := []) (Un.kept k) (I.hok.kept k) (by rw [g]; exact I.bare) (fun _ z => nomatch z)
  have e : s1 = { s with heap := s1.heap, gens := s1.gens, drawn := s1.drawn, toks := s1.toks } := by
    cases s1
    cases s
    cases o
    rfl
  rw [e]
  exact J
/-- sorted, of what is gathered of v -/
theorem sorted_snd {v : Value} {T : List D → Prop} {ds : List D} (hu : X.A.units + 128 < cLine) (I : Inv X pins σ H s) (hs : sortOk ds = true) (hL : ds.length ≤ sizeLine)
    (col : ∀ E' : Value → Shared → Prop, wpAny (model X.prog X.w) X.A.in1 (collect v) (fun vs s1 => (∀ b o, s.heap.get? b = some o → s1.heap.get? b = some o) ∧ s1.gens = s.gens ∧ s1.os = s.os ∧
      ∃ es : List D, PySem.W.EachIs (StD X.K Cl H g) vs es ∧ es.Perm ds ∧ T es) E' s)
    (q : ∀ (es : List D) (ys : List V) (p : Addr), es.Perm ds → T es → H p = none → RDs X.K Cl H g (sortD es) ys → Q (.ref p) (upd H p (.lst ys))) :
    wpAny (model X.prog X.w) X.A (call (.builtin "sorted") [v]) (EP X pins σ Q) X.xe s := by
  unfold sortOk at hs
  cases hp : D.pys ds with
  | none => rw [hp] at hs; cases hs
  | some ps =>
    rw [hp] at hs
    simp only [Bool.and_eq_true, decide_eq_true_eq] at hs
    obtain ⟨⟨h1, h2⟩, h3⟩ := hs
    obtain ⟨e1, e2⟩ := enc_pys hp
    refine sorted_go (R := StD X.K Cl H g) (T := T) (ds := ds) (by rw [e1]; exact alikeL_ok h1) (by rw [e1]; exact sortableL_ok h2) hL (fun d hd => ?_) (fun E' => ?_) fun s1 h' out es n k1 k2 g1 o1 hat pm tt ea hlen => ?_
    · have := depth_in (p := encD d) (ps := ps) (by rw [← e1]; exact List.mem_map_of_mem hd)
      omega
    · refine wpAny_mono (col E') (fun vs s1 t => ?_) fun _ _ z => z
      obtain ⟨k1, g1, o1, es, ea, pm, tt⟩ := t
      have I1 := inv_moved I k1 g1 o1
      refine ⟨k1, g1, o1, es, ea, ⟨pm, tt⟩, (PySem.W.each_mem ea).mono fun u d ⟨⟨x, r, rd⟩, hd⟩ => ?_⟩
      exact Dp.reads I1 _ x u (RD.dp rd (e2 d (pm.mem_iff.mp hd))).1 r
    · obtain ⟨ys, a, b⟩ := std_back ea
      have I1 := inv_moved I k1 g1 o1
      have hn := I1.hok.fresh (Nat.le_refl s1.heap.objs.size)
      have hyl : ys.length ≤ sizeLine := by rw [a.length, hlen]; exact hL
      exact ⟨.ref _, upd H s1.heap.objs.size (.lst ys), I1.laid (t' := s1.toks) k2 (Nat.le_refl _) ⟨hyl, out, n, a, hat⟩, rfl, q es ys _ pm tt hn b⟩
/-- sorted of a list or a tuple -/
theorem sorted_seq {x : V} {u : Value} {tp : Bool} {ds : List D} (hK : X.K = K) (hu : X.A.units + 128 < cLine) (I : Inv X pins σ H s) (rx : RelV x u) (hx : VwR K Cl H g (.sq tp ds) x) (rs : RepSt K Cl H g st) (hs : sortOk ds = true)
    (q : ∀ (ys : List V) (p : Addr), H p = none → RDs K Cl H g (sortD ds) ys → Q (.ref p) (upd H p (.lst ys))) :
    wpAny (model X.prog X.w) X.A (call (.builtin "sorted") [u]) (EP X pins σ Q) X.xe s := by
  subst hK
  have go : ∀ {a : Addr} {vs : List V} {its : List Value} {T : String}, (T = "list" ∨ T = "tuple") → RDs X.K Cl H g ds vs → Vals vs its → its.length ≤ sizeLine → (∃ o n, s.heap.get? a = some o ∧ o.cls = .type T ∧ o.data = .seq its.toArray n) → wpAny (model X.prog X.w) X.A (call (.builtin "sorted") [.ref a]) (EP X pins σ Q) X.xe s := by
    intro a vs its T hT r rv hz ho
    obtain ⟨o, n, h1, h2, h3⟩ := ho
    have hl : ds.length = its.length := by rw [r.length, rv.length]
    refine sorted_snd (Cl := Cl) (g := g) (T := fun es => es = ds) (ds := ds) hu I hs (by rw [hl]; exact hz) (fun E' => ?_) fun es ys p pm tt hn hy => ?_
    · refine wpAny_collect_seq a hT h1 h2 h3 (fun h' k => ⟨k, rfl, rfl, ds, ?_, List.Perm.refl _, rfl⟩) (by simpa using hz)
      exact std_of rv r
    · subst tt
      exact q ys p hn hy
  cases tp with
  | true =>
    obtain ⟨a, vs, rfl, h1, h2⟩ := hx
    obtain ⟨its, rv, ho, hz⟩ := I.tuple h1.sq
    obtain ⟨o, a1, a2, n, a3⟩ := ho
    cases rx
    exact go (.inr rfl) h2 rv (by rw [← rv.length]; exact hz) ⟨o, n, a1, a2, a3⟩
  | false =>
    obtain ⟨a, vs, rfl, h1, h2⟩ := hx
    obtain ⟨its, rv, ho, hz⟩ := I.list (.of h1)
    obtain ⟨o, n, a1, a2, a3, a4⟩ := ho
    cases rx
    exact go (.inl rfl) h2 rv (by rw [← rv.length]; exact hz) ⟨o, n, a1, a2, a4⟩
end
end Py
end

section
set_option maxRecDepth 100000
set_option maxHeartbeats 4000000
set_option linter.all false
/-! Sets of keys (ints, texts) that are made of a list or a tuple, and put in order. -/
namespace Py
open PySem L2 PySem.Spec PyProof.Rows

/-- a set without members -/
abbrev voidSet (w : World) : Obj := { cls := .type "set", dict := none, data := .set #[] 0 (.fresh 0 0 (!w.params.followText "set-order")) }
/-- an entry's key -/
def keyE (e : Int × Value) : Key := match e.2 with
  | .int k _ => .inl k
  | .str x _ => .inr x
  | _ => .inl 0
theorem keyE_is {P : Program} {w : World} {k : Key} {e : Int × Value} (h : (mixKind P w).is k e.2 = true) : keyE e = k := by
  rcases keyIs_shape h with ⟨i, t, rfl, q⟩ | ⟨x, t, rfl, q⟩ <;> (unfold keyE; rw [q])
def GoodK (P : Program) (w : World) (e : Int × Value) : Prop := ∃ k, (mixKind P w).is k e.2 = true ∧ e.1 = (mixKind P w).hash k
theorem scan_of {P : Program} {w : World} {k : Key} {v : Value} (h : (mixKind P w).is k v = true) : v.scannable = true := by
  rcases keyIs_shape h with ⟨i, t, rfl, rfl⟩ | ⟨x, t, rfl, rfl⟩ <;> rfl
/-- the set at a: S its members, n their number, and the table that it is walked by -/
def SetM (P : Program) (w : World) (h : Heap) (a : Addr) (S : Key → Bool) (n : Nat) : Prop :=
  ∃ o es ep t, h.get? a = some o ∧ o.ExactSet ∧ o.data = .set es ep t ∧ (∀ e ∈ es.toList, GoodK P w e) ∧ (es.toList.map keyE).Nodup ∧ (∀ k, S k = true ↔ k ∈ es.toList.map keyE) ∧
    es.size < scanBound ∧ t.fits es.size = true ∧ es.size = n ∧ Ris t.place.toList ∧ (w.params.followText "set-order" = true ∨ t.led = true)
section
variable {P : Program} {w : World} {h h' : Heap} {a : Addr} {S : Key → Bool} {n : Nat}
theorem SetM.at (R : SetM P w h a S n) (k : ∀ o, h.get? a = some o → h'.get? a = some o) : SetM P w h' a S n :=
  let ⟨o, es, ep, t, ho, r⟩ := R
  ⟨o, es, ep, t, k o ho, r⟩
theorem SetM.congr {S' : Key → Bool} (R : SetM P w h a S n) (e : ∀ k, S' k = S k) : SetM P w h a S' n := by
  obtain rfl : S' = S := funext e
  exact R
theorem goodK_elems {l : List (Int × Value)} (g : ∀ e ∈ l, GoodK P w e) : ElemsOf (mixKind P w) l := fun e he =>
  let ⟨k, h1, h2⟩ := g e he
  ⟨⟨k, h1, h2⟩, scan_of h1⟩
theorem goodK_is {e : Int × Value} (g : GoodK P w e) (k : Key) : (mixKind P w).is k e.2 = true ↔ keyE e = k := by
  obtain ⟨j, h1, _⟩ := g
  exact ⟨keyE_is, fun q => by rw [← q, keyE_is h1]; exact h1⟩
theorem goodK_mem {l : List (Int × Value)} (g : ∀ e ∈ l, GoodK P w e) (k : Key) : k ∈ l.map keyE ↔ ∃ e ∈ l, (mixKind P w).is k e.2 = true := by
  rw [List.mem_map]
  exact ⟨fun ⟨e, he, q⟩ => ⟨e, he, (goodK_is (g e he) k).2 q⟩, fun ⟨e, he, q⟩ => ⟨e, he, (goodK_is (g e he) k).1 q⟩⟩
theorem setM_void (ho : h.get? a = some (voidSet w)) : SetM P w h a (fun _ => false) 0 :=
  ⟨_, #[], 0, _, ho, ⟨rfl, rfl, rfl⟩, rfl, (fun e he => by simp at he), (by simp), (fun k => by simp), (by decide), (by rfl), rfl, List.Pairwise.nil, by
    show _ ∨ (!w.params.followText "set-order") = true
    cases w.params.followText "set-order" <;> simp⟩
end

section
variable {P : Program} {w : World} {A : Around} {E : Value → Shared → Prop} {s : Shared} {a : Addr} {S : Key → Bool} {n : Nat}
/-- behind the place that was found: the entry is written, the table perhaps laid anew -/
theorem setM_tail {gv : Bool → Sem Unit} (hg : ∀ (b : Bool) (s₁ : Shared) (Q' : Unit → Shared → Prop), Q' () s₁ → wpAny (model P w) A (gv b) Q' E s₁)
    {o : Obj} {es es1 : Array (Int × Value)} {ep : Nat} {t t2 : SetTable} {S' : Key → Bool} (ho : s.heap.get? a = some o) (hex : o.ExactSet) (hd : o.data = .set es ep t)
    (g1 : ∀ e ∈ es1.toList, GoodK P w e) (nd1 : (es1.toList.map keyE).Nodup) (m1 : ∀ k, S' k = true ↔ k ∈ es1.toList.map keyE)
    (hb1 : es1.size < scanBound) (hf2 : t2.fits es1.size = true) (hr : Ris t2.place.toList) (hl : w.params.followText "set-order" = true ∨ t2.led = true) {dm : Bool} {R : Option Bool → Shared → Prop}
    (hR : ∀ h', Heap.SameBut a s.heap h' → SetM P w h' a S' es1.size → R (some true) { s with heap := h' }) :
    wpAny (model P w) A (do
        storeSet a es1 t2
        if (!dm && t2.tooFull) = true then do
            gv (relayAll t2 es1 (SetTable.grown es1.size)).2.2
            storeSet a (relayAll t2 es1 (SetTable.grown es1.size)).1 (relayAll t2 es1 (SetTable.grown es1.size)).2.1
            pure (some true)
          else pure (some true)) R E s := by
  refine wpAny_bind (wpAny_storeSet_of ho hd ?_ (fits_of_scanBound hb1))
  have at1 := store_at (es' := es1) (t' := t2) ho hd
  have same1 := Heap.SameBut.update s.heap a (Obj.putSet es1 t2)
  by_cases full : (!dm && t2.tooFull) = true
  · rw [if_pos full]
    have pm := relayAll_perm t2 es1 (SetTable.grown es1.size)
    have fit := relayAll_fits t2 es1 (SetTable.grown es1.size)
    have ris := relayAll_ris t2 es1 (SetTable.grown es1.size)
    have led := relayAll_led t2 es1 (SetTable.grown es1.size)
    generalize relayAll t2 es1 (SetTable.grown es1.size) = Z at pm fit ris led ⊢
    obtain ⟨es2, t3, gave⟩ := Z
    dsimp only at pm fit ris led ⊢
    have size2 : es2.size = es1.size := by rw [← Array.length_toList, pm.length_eq, Array.length_toList]
    have bd2 : es2.size < scanBound := by omega
    refine wpAny_bind (hg _ _ _ ?_)
    refine wpAny_bind (wpAny_storeSet_of at1 rfl ?_ (fits_of_scanBound bd2))
    have at2 := store_at (es' := es2) (t' := t3) at1 rfl
    have pk := pm.map keyE
    refine wpAny_pure (hR _ (same1.trans (Heap.SameBut.update _ a _)) ?_)
    exact ⟨_, es2, _, t3, at2, hex, rfl, fun e he => g1 e (pm.mem_iff.mp he), pk.nodup_iff.mpr nd1, fun k => (m1 k).trans pk.mem_iff.symm, bd2, fit, size2, ris, hl.imp id fun z => led.trans z⟩
  · rw [if_neg full]
    exact wpAny_pure (hR _ same1 ⟨_, es1, _, t2, at1, hex, rfl, g1, nd1, m1, hb1, hf2, rfl, hr, hl⟩)
theorem rule_or {m : String} (b : Bool) {s₁ : Shared} {Q' : Unit → Shared → Prop} (q : Q' () s₁) : wpAny (model P w) A (match b with | true => rule m | false => pure ()) Q' E s₁ := by
  cases b
  · exact wpAny_pure q
  · exact wpAny_rule q
/-- one key is put to a set -/
theorem setM_add {k : Key} {v : Value} {Q : Bool → Shared → Prop} (hkey : (mixKind P w).is k v = true) (R : SetM P w s.heap a S n) (room : n + 1 < scanBound)
    (hQ : ∀ h', Heap.SameBut a s.heap h' → SetM P w h' a (fun j => S j || decide (j = k)) (if S k = true then n else n + 1) → Q (!S k) { s with heap := h' }) :
    wpAny (model P w) A (setAddHashed a v ((mixKind P w).hash k)) Q E s := by
  obtain ⟨o, es, ep, t, ho, hex, hd, g, nd, hm, hb, hf, hn, hr, hl⟩ := R
  have hsc := scan_of hkey
  have hel : ElemsOf (mixKind P w) es.toList := goodK_elems g
  unfold setAddHashed setAddHashedIn
  refine wpAny_holding (wpAny_bind (wpAny_setState_of ho hd hf ?_))
  dsimp only
  rw [byScan_of hsc hb hel]
  simp only [↓reduceIte]
  unfold setAddByScan
  refine wpAny_bind ?_
  refine wpAny_bind (wpAny_rule ?_)
  refine wpAny_bind (wpAny_setScan_of hkey ho hd hf hel ?_)
  cases hfi : List.findIdx? (fun e => (mixKind P w).is k e.2) es.toList with
  | some j =>
    dsimp only
    obtain ⟨hj, pj, _⟩ := List.findIdx?_eq_some_iff_getElem.mp hfi
    have inS : S k = true := (hm k).2 ((goodK_mem g k).2 ⟨es.toList[j], List.getElem_mem hj, pj⟩)
    have q := hQ s.heap (Heap.SameBut.refl a s.heap) ⟨o, es, ep, t, ho, hex, hd, g, nd, fun i => by
      rw [Bool.or_eq_true, decide_eq_true_eq, ← hm i]
      exact ⟨fun z => z.elim id fun e => e ▸ inS, .inl⟩, hb, hf, by rw [if_pos inS]; exact hn, hr, hl⟩
    rw [inS] at q
    exact wpAny_pure (wpAny_pure q)
  | none =>
    dsimp only
    have out : k ∉ es.toList.map keyE := fun z => by
      obtain ⟨e, he, q⟩ := (goodK_mem g k).1 z
      have c := List.findIdx?_eq_none_iff.mp hfi e he
      rw [q] at c
      cases c
    have notS : S k = false := by
      cases q : S k with
      | false => rfl
      | true => exact absurd ((hm k).1 q) out
    have pm := layNew_perm t es ((mixKind P w).hash k) v
    have fit := layNew_fits t es ((mixKind P w).hash k) v
    have ris := layNew_ris t es ((mixKind P w).hash k) v hr
    have led := layNew_led t es ((mixKind P w).hash k) v
    generalize layNew t es ((mixKind P w).hash k) v = Z at pm fit ris led ⊢
    obtain ⟨es1, t1, dm, gave⟩ := Z
    dsimp only at pm fit ris led ⊢
    rw [Array.toList_push] at pm
    have pc : es1.toList.Perm (((mixKind P w).hash k, v) :: es.toList) := pm.trans (List.perm_append_singleton _ _)
    have pk : (es1.toList.map keyE).Perm (k :: es.toList.map keyE) := by
      have := pc.map keyE
      rw [List.map_cons, keyE_is (e := ((mixKind P w).hash k, v)) hkey] at this
      exact this
    have g1 : ∀ e ∈ es1.toList, GoodK P w e := fun e he => by
      rcases List.mem_cons.mp (pc.mem_iff.mp he) with rfl | z
      · exact ⟨k, hkey, rfl⟩
      · exact g e z
    have nd1 : (es1.toList.map keyE).Nodup := pk.nodup_iff.mpr (List.nodup_cons.mpr ⟨out, nd⟩)
    have m1 : ∀ i, (S i || decide (i = k)) = true ↔ i ∈ es1.toList.map keyE := fun i => by
      rw [Bool.or_eq_true, decide_eq_true_eq, hm i, pk.mem_iff, List.mem_cons]
      exact Or.comm
    have size1 : es1.size = n + 1 := by rw [← Array.length_toList, pc.length_eq, List.length_cons, Array.length_toList, hn]
    have bd1 : es1.size < scanBound := by omega
    have led1 : w.params.followText "set-order" = true ∨ t1.led = true := hl.imp id fun z => led.trans z
    have fin : ∀ h', Heap.SameBut a s.heap h' → SetM P w h' a (fun j => S j || decide (j = k)) es1.size → Q true { s with heap := h' } := fun h' sb r => by
      have q := hQ h' sb
      rw [notS] at q
      rw [size1] at r
      exact q r
    refine wpAny_bind (rule_or _ ?_)
    split
    · refine wpAny_bind ?_
      rw [hashByValue_scannable 8 hsc]
      refine wpAny_pure ?_
      refine setM_tail (fun b s₁ Q' q => ?_) ho hex hd g1 nd1 m1 bd1 ?_ ?_ ?_ ?_
      · cases b <;> first | exact wpAny_pure q | exact wpAny_rule q
      · first | (split <;> first | exact fit | exact SetTable.fits_plain_off fit) | exact fit
      · first | (split <;> exact ris) | exact ris
      · first | (split <;> exact led1) | exact led1
      · intro h' sb r; dsimp only; exact wpAny_pure (fin h' sb r)
    · refine wpAny_bind (wpAny_pure ?_)
      simp only [↓reduceIte]
      refine setM_tail (fun b s₁ Q' q => ?_) ho hex hd g1 nd1 m1 bd1 fit ris led1 ?_
      · cases b <;> first | exact wpAny_pure q | exact wpAny_rule q
      · intro h' sb r; dsimp only; exact wpAny_pure (fin h' sb r)
end
end Py
end

section
set_option maxRecDepth 100000
set_option maxHeartbeats 4000000
set_option linter.all false
/-! set(xs) of a list or a tuple of keys; sorted of it. -/
namespace Py
open PySem L2 PySem.Spec PyProof.Rows

def inK (ks : List Key) (j : Key) : Bool := ks.any fun k => decide (k = j)
theorem inK_iff {ks : List Key} {j : Key} : inK ks j = true ↔ j ∈ ks := by
  unfold inK
  rw [List.any_eq_true]
  exact ⟨fun ⟨k, h, e⟩ => by rw [← of_decide_eq_true e]; exact h, fun h => ⟨j, h, decide_eq_true rfl⟩⟩

section
variable {P : Program} {w : World} {A : Around} {E : Value → Shared → Prop} {s : Shared}
/-- the walk that fills a set -/
theorem set_fill {I : Addr} {fp wr : List Addr} {G : Array GenState → Array GenState → Prop} {n : Nat} {Pv : Nat → Value → Prop} {St : Nat → Shared → Prop} {R : Result → Shared → Prop}
    (W : WalksS P w A.in1 I fp wr G n Pv St) (S : Addr) (hSf : S ∉ fp) (ks : List Key) (hn : n = ks.length) (hb : ks.length + 1 < scanBound) (hval : ∀ i v, Pv i v → ∃ k, ks[i]? = some k ∧ (mixKind P w).is k v = true) :
    ∀ (left i : Nat) (s : Shared), n - i = left → i ≤ n → St i s → (∃ c, c ≤ i ∧ SetM P w s.heap S (fun j => inK (ks.take i) j) c) →
      (∀ s' c, Moved (S :: wr) G s s' → c ≤ n → SetM P w s'.heap S (fun j => inK ks j) c → R (.ok (.ret .none)) s') →
      codeAny (model P w) A (.builtin "set.update.loop" ⟨[.ref S, .ref I], []⟩) R s := by
  have notW : S ∉ wr := fun h => hSf (W.sub _ h)
  have more : ∀ b ∈ wr, b ∈ S :: wr := fun b hb => List.mem_cons_of_mem _ hb
  intro left
  induction left with
  | zero =>
    intro i s hk hi hst ⟨c, hc, hS⟩ hR
    obtain rfl : i = n := by omega
    refine codeAny_builtin F.entry_set_update_loop ?_
    rw [Around.under_plainId F.plain_set_update_loop _]
    show wpAny _ A.in1 (pyNext (.ref I) >>= _) _ _ s
    refine wpAny_bind (W.done s _ _ hst fun s' hm => ?_)
    show wpAny _ A.in1 (ret Value.none) _ _ s'
    rw [show ks.take i = ks from List.take_of_length_le (by omega)] at hS
    exact wpAny_pure (hR s' c (hm.mono more) hc (hS.at fun o e => hm.heap S o notW e))
  | succ left ih =>
    intro i s hk hi hst ⟨c, hc, hS⟩ hR
    have lt : i < n := by omega
    refine codeAny_builtin F.entry_set_update_loop ?_
    rw [Around.under_plainId F.plain_set_update_loop _]
    show wpAny _ A.in1 (pyNext (.ref I) >>= _) _ _ s
    refine wpAny_bind (W.item i s _ _ lt hst fun v s' hP hst' hm => ?_)
    obtain ⟨z, hz, is⟩ := hval i v hP
    have at' : SetM P w s'.heap S (fun j => inK (ks.take i) j) c := hS.at fun o e => hm.heap S o notW e
    show wpAny _ A.in1 (holding [v] (setAdd S v) >>= _) _ _ s'
    refine wpAny_bind (wpAny_holding ?_)
    unfold setAdd
    refine wpAny_holding ?_
    refine wpAny_bind ((mixKind P w).pyHash (k := z) is ?_)
    refine setM_add (s := { s' with toks := s'.toks + 1 }) is at' (by omega) fun h' same R2 => ?_
    have R3 : SetM P w h' S (fun j => inK (ks.take (i + 1)) j) (if inK (ks.take i) z = true then c else c + 1) := R2.congr fun j => by
      rw [List.take_add_one, hz]
      unfold inK
      rw [List.any_append]
      simp [Bool.or_comm, eq_comm]
    have c3 : (if inK (ks.take i) z = true then c else c + 1) ≤ i + 1 := by split <;> omega
    refine wpAny_pure ⟨plainId_quiet F.plain_set_update_loop _, ih (i + 1) _ (by omega) lt (W.frame _ s' _ _ hst' (Nat.le_succ _) fun b hb o e => ?_) ⟨_, c3, R3⟩ fun s2 c2 hm2 hc2 hS2 => ?_⟩
    · rw [same.2 b (fun h : b = S => hSf (by rw [← h]; exact hb))]; exact e
    · refine hR s2 c2 (Moved.trans W.gtrans ((hm.mono more).then_heap (Nat.le_succ _) fun b o hb e => ?_) hm2) hc2 hS2
      rw [same.2 b (fun h : b = S => hb (by rw [h]; exact List.mem_cons_self))]; exact e

/-- the values stand for the keys -/
def KeysAre (P : Program) (w : World) (us : List Value) (ks : List Key) : Prop := us.length = ks.length ∧ ∀ (i : Nat) (v : Value), us[i]? = some v → ∃ k, ks[i]? = some k ∧ (mixKind P w).is k v = true

set_option maxHeartbeats 3200000 in
theorem set_of_list {l : Addr} {items : Array Value} (ks : List Key) {Q : Value → Shared → Prop} (hh : A.handled = none) (hl : s.heap.IsList l items) (hit : KeysAre P w items.toList ks) (hb : ks.length + 1 < scanBound)
    (h : ∀ (h' : Heap) (tk c : Nat), SetM P w h' s.heap.objs.size (fun j => inK ks j) c → c ≤ ks.length → (∀ b o, s.heap.get? b = some o → h'.get? b = some o) → Q (.ref s.heap.objs.size) { s with heap := h', toks := tk }) :
    wpAny (model P w) A (call (.type "set") [.ref l]) Q E s := by
  have sz : items.size = ks.length := by rw [← Array.length_toList]; exact hit.1
  obtain ⟨c, tl, hmro⟩ := F.called_set.mro
  have hmade := F.called_set.made
  have hsub := F.called_set.sub
  refine wpAny_call (codeAny_of_tree ?_)
  show wpAny _ _ (callAny (.type "set") _) _ _ _
  refine wpAny_pure ⟨Code.quiet_builtin _ (by decide +kernel), codeAny_builtin F.entry_type_call ?_⟩
  rw [Around.under_plain (weight_type_call_type "set" [.ref l] []) rfl]
  have h1 := F.called_set.notType
  have h2 := F.called_set.canCreate
  have hct := F.typeCall_set_1 (.ref l)
  repeat (any_goals (first | assumption | wp_step))
  refine codeAny_mono (code_set_led1 (.ref l) (E := E) (Q₁ := fun obj s₁ => obj = .ref s.heap.objs.size ∧ s₁ = { s with heap := s.heap.push (voidSet w) }) ⟨rfl, rfl⟩) fun r s₁ hr => ?_
  cases r with
  | error e => exact hr
  | ok fl =>
    cases fl with
    | ret obj =>
      obtain ⟨rfl, rfl⟩ := hr
      have atS : (s.heap.push (voidSet w)).get? s.heap.objs.size = some (voidSet w) := Heap.get?_push_size _ rfl
      have hT : Shared.TypeIs { s with heap := s.heap.push (voidSet w) } (.ref s.heap.objs.size) "set" := ⟨_, atS, rfl⟩
      have hli := F.called_set.init.lookup
      have hbi := F.called_set.init.bind (.ref s.heap.objs.size)
      repeat (any_goals (first | assumption | wp_step))
      refine codeAny_mono (codeAny_call_builtin (R := wants (fun r s₂ => r = .none ∧ ∃ h' tk c, s₂ = { s with heap := h', toks := tk } ∧ SetM P w h' s.heap.objs.size (fun j => inK ks j) c ∧ c ≤ ks.length ∧
          (∀ b o, s.heap.get? b = some o → h'.get? b = some o)) E) F.called_set.init.plain F.entry_set_init (check_set_init_1 hT ?_)) fun r₂ s₂ hr₂ => ?_
      · obtain ⟨⟨ocls, odict, odata, oslots⟩, hol, hcl, nl, hdl⟩ := hl
        simp only at hcl hdl
        subst hcl; subst hdl
        have hol' : (s.heap.push (voidSet w)).get? l = some { cls := .type "list", dict := odict, data := .seq items nl, slots := oslots } := Heap.get?_push_of_some _ hol
        have hsls := F.sub_list_set
        have hslf := F.sub_list_frozenset
        have hne : (Value.type "list" == Value.type "dict") = false := by decide
        have hl1 : (s.heap.push (voidSet w)).IsList l items := ⟨_, hol', rfl, nl, rfl⟩
        unfold Builtin.«set.__init__» noKeywords Builtin.Frozenset.updateFrom
        generalize hPI : pyIter = PI
        wp_walk
        subst hPI
        refine wpAny_pyIter_list hl1 ?_
        refine wpAny_bind (wpAny_runValue ?_)
        have hlS : l < s.heap.objs.size := Heap.lt_size hol
        have hh3 : A.in1.in1.in1.handled = none := by simp [hh]
        have z1 : (s.heap.push (voidSet w)).objs.size = s.heap.objs.size + 1 := Heap.size_push ..
        have neI : l ≠ (s.heap.push (voidSet w)).objs.size := by rw [z1]; exact Nat.ne_of_lt (Nat.lt_succ_of_lt hlS)
        have notF : s.heap.objs.size ∉ [(s.heap.push (voidSet w)).objs.size, l] := by
          rw [z1]; simp only [List.mem_cons, List.not_mem_nil, or_false, not_or]
          exact ⟨Nat.ne_of_lt (Nat.lt_succ_self _), Nat.ne_of_gt hlS⟩
        have hval : ∀ (i : Nat) (v : Value), items[i]? = some v → ∃ k, ks[i]? = some k ∧ (mixKind P w).is k v = true := fun i v hv => hit.2 i v (by rw [Array.getElem?_toList]; exact hv)
        refine set_fill ((Walks.list hh3 _ l neI items).toS) s.heap.objs.size notF ks sz hb hval (items.size - 0) 0 _ (by omega) (Nat.zero_le _)
          ⟨⟨_, Heap.get?_push_size _ rfl, rfl, rfl⟩, (hl1.push _)⟩ ?hS0 ?hR
        case hS0 =>
          exact ⟨0, Nat.le_refl 0, SetM.congr (setM_void (Heap.get?_push_of_some _ atS)) fun k => rfl⟩
        case hR =>
          intro s' c' hm hc' hS'
          obtain ⟨h', g2, d', tk', os'⟩ := s'
          obtain rfl : g2 = s.gens := hm.gens
          obtain rfl : d' = s.drawn := hm.drawn
          obtain rfl : os' = s.os := hm.os
          show wpAny _ _ _ _ _ _
          refine wpAny_pure ?_
          show wpAny _ _ (ret Value.none) _ _ _
          rw [sz] at hc'
          refine wpAny_pure ⟨rfl, h', tk', c', rfl, hS', hc', fun b o e => ?_⟩
          have b0 : b < s.heap.objs.size := Heap.lt_size e
          refine hm.heap b o (fun z => ?_) (Heap.get?_push_of_some _ (Heap.get?_push_of_some _ e))
          rcases List.mem_cons.mp z with z | z
          · exact absurd z (Nat.ne_of_lt b0)
          · exact absurd (List.mem_singleton.mp z) (Nat.ne_of_lt (by rw [z1]; exact Nat.lt_succ_of_lt b0))
      · cases r₂ with
        | error e => exact hr₂
        | ok fl₂ =>
          cases fl₂ with
          | ret r =>
            obtain ⟨rfl, h', tk, c', rfl, hS', hc', hk'⟩ := hr₂
            repeat (any_goals (first | assumption | wp_step))
            exact h _ _ _ hS' hc' hk'
          | _ => exact hr₂.elim
    | _ => exact hr.elim

set_option maxHeartbeats 3200000 in
theorem set_of_tuple {l : Addr} {items : Array Value} (ks : List Key) {Q : Value → Shared → Prop} (hh : A.handled = none) (hl : s.heap.IsTuple l items) (hit : KeysAre P w items.toList ks) (hb : ks.length + 1 < scanBound)
    (h : ∀ (h' : Heap) (tk c : Nat), SetM P w h' s.heap.objs.size (fun j => inK ks j) c → c ≤ ks.length → (∀ b o, s.heap.get? b = some o → h'.get? b = some o) → Q (.ref s.heap.objs.size) { s with heap := h', toks := tk }) :
    wpAny (model P w) A (call (.type "set") [.ref l]) Q E s := by
  have sz : items.size = ks.length := by rw [← Array.length_toList]; exact hit.1
  obtain ⟨c, tl, hmro⟩ := F.called_set.mro
  have hmade := F.called_set.made
  have hsub := F.called_set.sub
  refine wpAny_call (codeAny_of_tree ?_)
  show wpAny _ _ (callAny (.type "set") _) _ _ _
  refine wpAny_pure ⟨Code.quiet_builtin _ (by decide +kernel), codeAny_builtin F.entry_type_call ?_⟩
  rw [Around.under_plain (weight_type_call_type "set" [.ref l] []) rfl]
  have h1 := F.called_set.notType
  have h2 := F.called_set.canCreate
  have hct := F.typeCall_set_1 (.ref l)
  repeat (any_goals (first | assumption | wp_step))
  refine codeAny_mono (code_set_led1 (.ref l) (E := E) (Q₁ := fun obj s₁ => obj = .ref s.heap.objs.size ∧ s₁ = { s with heap := s.heap.push (voidSet w) }) ⟨rfl, rfl⟩) fun r s₁ hr => ?_
  cases r with
  | error e => exact hr
  | ok fl =>
    cases fl with
    | ret obj =>
      obtain ⟨rfl, rfl⟩ := hr
      have atS : (s.heap.push (voidSet w)).get? s.heap.objs.size = some (voidSet w) := Heap.get?_push_size _ rfl
      have hT : Shared.TypeIs { s with heap := s.heap.push (voidSet w) } (.ref s.heap.objs.size) "set" := ⟨_, atS, rfl⟩
      have hli := F.called_set.init.lookup
      have hbi := F.called_set.init.bind (.ref s.heap.objs.size)
      repeat (any_goals (first | assumption | wp_step))
      refine codeAny_mono (codeAny_call_builtin (R := wants (fun r s₂ => r = .none ∧ ∃ h' tk c, s₂ = { s with heap := h', toks := tk } ∧ SetM P w h' s.heap.objs.size (fun j => inK ks j) c ∧ c ≤ ks.length ∧
          (∀ b o, s.heap.get? b = some o → h'.get? b = some o)) E) F.called_set.init.plain F.entry_set_init (check_set_init_1 hT ?_)) fun r₂ s₂ hr₂ => ?_
      · obtain ⟨⟨ocls, odict, odata, oslots⟩, hol, hcl, nl, hdl⟩ := hl
        simp only at hcl hdl
        subst hcl; subst hdl
        have hol' : (s.heap.push (voidSet w)).get? l = some { cls := .type "tuple", dict := odict, data := .seq items nl, slots := oslots } := Heap.get?_push_of_some _ hol
        have hsls := F.sub_tuple_set
        have hslf := F.sub_tuple_frozenset
        have hne : (Value.type "tuple" == Value.type "dict") = false := by decide
        have hl1 : (s.heap.push (voidSet w)).IsTuple l items := ⟨_, hol', rfl, nl, rfl⟩
        unfold Builtin.«set.__init__» noKeywords Builtin.Frozenset.updateFrom
        generalize hPI : pyIter = PI
        wp_walk
        subst hPI
        refine wpAny_pyIter_tuple hl1 ?_
        refine wpAny_bind (wpAny_runValue ?_)
        have hlS : l < s.heap.objs.size := Heap.lt_size hol
        have hh3 : A.in1.in1.in1.handled = none := by simp [hh]
        have z1 : (s.heap.push (voidSet w)).objs.size = s.heap.objs.size + 1 := Heap.size_push ..
        have neI : l ≠ (s.heap.push (voidSet w)).objs.size := by rw [z1]; exact Nat.ne_of_lt (Nat.lt_succ_of_lt hlS)
        have notF : s.heap.objs.size ∉ [(s.heap.push (voidSet w)).objs.size, l] := by
          rw [z1]; simp only [List.mem_cons, List.not_mem_nil, or_false, not_or]
          exact ⟨Nat.ne_of_lt (Nat.lt_succ_self _), Nat.ne_of_gt hlS⟩
        have hval : ∀ (i : Nat) (v : Value), items[i]? = some v → ∃ k, ks[i]? = some k ∧ (mixKind P w).is k v = true := fun i v hv => hit.2 i v (by rw [Array.getElem?_toList]; exact hv)
        refine set_fill ((Walks.tuple hh3 _ l neI items).toS) s.heap.objs.size notF ks sz hb hval (items.size - 0) 0 _ (by omega) (Nat.zero_le _)
          ⟨⟨_, Heap.get?_push_size _ rfl, rfl, rfl⟩, (hl1.push _)⟩ ?hS0 ?hR
        case hS0 =>
          exact ⟨0, Nat.le_refl 0, SetM.congr (setM_void (Heap.get?_push_of_some _ atS)) fun k => rfl⟩
        case hR =>
          intro s' c' hm hc' hS'
          obtain ⟨h', g2, d', tk', os'⟩ := s'
          obtain rfl : g2 = s.gens := hm.gens
          obtain rfl : d' = s.drawn := hm.drawn
          obtain rfl : os' = s.os := hm.os
          show wpAny _ _ _ _ _ _
          refine wpAny_pure ?_
          show wpAny _ _ (ret Value.none) _ _ _
          rw [sz] at hc'
          refine wpAny_pure ⟨rfl, h', tk', c', rfl, hS', hc', fun b o e => ?_⟩
          have b0 : b < s.heap.objs.size := Heap.lt_size e
          refine hm.heap b o (fun z => ?_) (Heap.get?_push_of_some _ (Heap.get?_push_of_some _ e))
          rcases List.mem_cons.mp z with z | z
          · exact absurd z (Nat.ne_of_lt b0)
          · exact absurd (List.mem_singleton.mp z) (Nat.ne_of_lt (by rw [z1]; exact Nat.lt_succ_of_lt b0))
      · cases r₂ with
        | error e => exact hr₂
        | ok fl₂ =>
          cases fl₂ with
          | ret r =>
            obtain ⟨rfl, h', tk, c', rfl, hS', hc', hk'⟩ := hr₂
            repeat (any_goals (first | assumption | wp_step))
            exact h _ _ _ hS' hc' hk'
          | _ => exact hr₂.elim
    | _ => exact hr.elim
end
end Py
end

section
set_option maxRecDepth 100000
set_option maxHeartbeats 4000000
set_option linter.all false
/-! Built-in functions and methods keep their promise. -/
namespace Py
open PySem L2 PySem.Spec PyProof.Rows

/-! texts that are made stand in Python -/
theorem strOk_of (s : String) : PyData.strOk (Str.ofString s) = true := by
  rw [strOk_iff]
  intro c hc
  simp only [Str.ofString, List.toList_toArray] at hc
  rw [cpsOfBytes_string] at hc
  obtain ⟨ch, _, rfl⟩ := List.mem_map.mp hc
  have h := ch.valid
  simp only [UInt32.isValidChar, Nat.isValidChar] at h
  show ch.val.toNat < _
  omega
theorem strOk_empty : PyData.strOk Str.empty = true := by decide +kernel
theorem strOk_join {s : Str} (hs : PyData.strOk s = true) : ∀ {ys : List Str}, (∀ y ∈ ys, PyData.strOk y = true) → PyData.strOk (Str.join s ys) = true
  | [], _ => strOk_empty
  | [x], h => h x (by simp)
  | x :: y :: r, h => by
    show PyData.strOk (x ++ s ++ Str.join s (y :: r)) = true
    exact strOk_append (strOk_append (h x (by simp)) hs) (strOk_join hs fun z hz => h z (by simp [hz]))
theorem reprChar_ok {q c : Nat} (hq : q < 128) (hc : c < 0x110000) : ∀ d ∈ Builtin.Str.reprChar q c, d < 0x110000 := by
  have hex : ∀ w : Nat, ∀ d ∈ List.replicate (w - ((Nat.toDigits 16 c).map Char.toNat).length) 48 ++ (Nat.toDigits 16 c).map Char.toNat, d < 0x110000 := by
    intro w d hd
    rcases List.mem_append.mp hd with h | h
    · have := List.eq_of_mem_replicate h; omega
    · obtain ⟨ch, _, rfl⟩ := List.mem_map.mp h
      have h := ch.valid
      simp only [UInt32.isValidChar, Nat.isValidChar] at h
      show ch.val.toNat < _
      omega
  intro d hd
  unfold Builtin.Str.reprChar at hd
  simp only at hd
  split at hd
  · simp at hd; omega
  split at hd
  · simp at hd; omega
  split at hd
  · simp at hd; omega
  split at hd
  · simp at hd; omega
  split at hd
  · simp at hd; omega
  split at hd
  · rcases List.mem_append.mp hd with h | h
    · simp at h; omega
    · exact hex _ d h
  split at hd
  · rcases List.mem_append.mp hd with h | h
    · simp at h; omega
    · exact hex _ d h
  · rcases List.mem_append.mp hd with h | h
    · simp at h; omega
    · exact hex _ d h
theorem fold_repr_ok {q : Nat} (hq : q < 128) : ∀ (l : List Nat) (acc : Array Nat), (∀ c ∈ l, c < 0x110000) → (∀ c ∈ acc.toList, c < 0x110000) → ∀ c ∈ (l.foldl (fun out c => out ++ (Builtin.Str.reprChar q c).toArray) acc).toList, c < 0x110000
  | [], acc, _, ha => ha
  | x :: l, acc, hl, ha => by
    rw [List.foldl_cons]
    refine fold_repr_ok hq l _ (fun c hc => hl c (by simp [hc])) fun c hc => ?_
    simp only [Array.toList_append, List.mem_append] at hc
    rcases hc with h | h
    · exact ha c h
    · exact reprChar_ok hq (hl x (by simp)) c (by simpa using h)
theorem strOk_repr {x : Str} (h : PyData.strOk x = true) : PyData.strOk (reprText x) = true := by
  rw [strOk_iff] at *
  have hq : reprQuote x < 128 := by unfold reprQuote; split <;> omega
  intro c hc
  simp only [reprText, Array.toList_push, List.mem_append, List.mem_singleton] at hc
  rcases hc with hc | rfl
  · rw [← Array.foldl_toList] at hc
    exact fold_repr_ok hq _ _ h (fun c hc => by simp at hc; omega) c hc
  · exact Nat.lt_trans hq (by omega)
theorem strOk_textFrom : ∀ (k : Nat) (acc : Str) (ts : List Str), PyData.strOk acc = true → (∀ t ∈ ts, PyData.strOk t = true) → PyData.strOk (textFrom k acc ts) = true
  | _, _, [], h, _ => h
  | k, acc, t :: ts, h, ht => by
    show PyData.strOk (textFrom (k + 1) (acc ++ (if k > 0 then ", " else "" : String) ++ t) ts) = true
    exact strOk_textFrom (k + 1) _ ts (strOk_append (strOk_append h (strOk_of _)) (ht t (by simp))) fun z hz => ht z (by simp [hz])
mutual
theorem strOk_shown : ∀ (p : PyData), p.canLay0 = true → PyData.strOk p.shown = true
  | .none, _ => strOk_of _
  | .bool b, _ => by cases b <;> exact strOk_of _
  | .int i, _ => strOk_of _
  | .str x, h => strOk_repr (by simpa [PyData.canLay0] using h)
  | .list xs, h => strOk_append (strOk_textFrom 0 _ _ (strOk_of _) (strOk_shownAll xs (by simpa [PyData.canLay0] using h))) (strOk_of _)
  | .tuple xs, h => strOk_append (strOk_append (strOk_of _) (strOk_join (strOk_of _) (strOk_shownAll xs (by simpa [PyData.canLay0] using h)))) (strOk_of _)
  | .dict kvs, h => by simp [PyData.canLay0] at h
theorem strOk_shownAll : ∀ (ps : List PyData), PyData.canLayAll0 ps = true → ∀ t ∈ PyData.shownAll ps, PyData.strOk t = true
  | [], _ => by simp [PyData.shownAll]
  | x :: xs, h => by
    simp only [PyData.canLayAll0, Bool.and_eq_true] at h
    intro t ht
    simp only [PyData.shownAll, List.mem_cons] at ht
    rcases ht with rfl | ht
    · exact strOk_shown x h.1
    · exact strOk_shownAll xs h.2 t ht
end

section
variable {Γ : Ctx} {k : Nat} {N : List Str} {sc : Scope} {X : Cx} {pins : List (Addr × Obj)} {σ : L2.St} {K : PySem.W.Frag} {Cl : Cls} {H : Hp} {g : Gh} {s : Shared} {st : Store} {x y : V} {v u : Value} {a b : Vw} {Q : VK}

theorem rds_bl : ∀ {ds : List D} {vs : List V} {bs : List Bool}, RDs K Cl H g ds vs → blAll ds = some bs → vs = bs.map V.bl
  | [], _, _, h, e => by cases h; simp [blAll] at e; subst e; rfl
  | d :: ds, _, bs, h, e => by
    cases h with
    | cons h t =>
      cases d <;> simp only [blAll, reduceCtorEq, Option.map_eq_some_iff] at e
      obtain ⟨bs', e, rfl⟩ := e
      cases h
      rw [rds_bl t e]; rfl
theorem rds_int : ∀ {ds : List D} {vs : List V} {bs : List Int}, RDs K Cl H g ds vs → intAll ds = some bs → vs = bs.map V.int
  | [], _, _, h, e => by cases h; simp [intAll] at e; subst e; rfl
  | d :: ds, _, bs, h, e => by
    cases h with
    | cons h t =>
      cases d <;> simp only [intAll, reduceCtorEq, Option.map_eq_some_iff] at e
      obtain ⟨bs', e, rfl⟩ := e
      cases h
      rw [rds_int t e]; rfl
theorem rds_str : ∀ {ds : List D} {vs : List V} {bs : List Str}, RDs K Cl H g ds vs → strAll ds = some bs → vs = bs.map V.str ∧ ∀ z ∈ bs, PyData.strOk z = true
  | [], _, _, h, e => by cases h; simp [strAll] at e; subst e; simp
  | d :: ds, _, bs, h, e => by
    cases h with
    | cons h t =>
      cases d <;> simp only [strAll, reduceCtorEq, Option.map_eq_some_iff] at e
      obtain ⟨bs', e, rfl⟩ := e
      cases h with
      | str _ ok =>
        obtain ⟨h1, h2⟩ := rds_str t e
        rw [h1]
        exact ⟨rfl, fun z hz => by rcases List.mem_cons.mp hz with rfl | hz; exact ok; exact h2 z hz⟩

def biV : BI → Value
  | .len => .builtin "len"
  | .all => .builtin "all"
  | .any => .builtin "any"
  | .sum => .builtin "sum"
  | .min1 => .builtin "min"
  | .max1 => .builtin "max"
  | .min2 => .builtin "min"
  | .max2 => .builtin "max"
  | .sorted => .builtin "sorted"
  | .list => .type "list"
  | .tuple => .type "tuple"
  | .str => .type "str"
  | .repr => .builtin "repr"
  | .ord => .builtin "ord"
  | .int => .type "int"
  | .bool => .type "bool"
  | .set => .type "set"
def biN : BI → Str
  | .len => "len"
  | .all => "all"
  | .any => "any"
  | .sum => "sum"
  | .min1 => "min"
  | .max1 => "max"
  | .min2 => "min"
  | .max2 => "max"
  | .sorted => "sorted"
  | .list => "list"
  | .tuple => "tuple"
  | .str => "str"
  | .repr => "repr"
  | .ord => "ord"
  | .int => "int"
  | .bool => "bool"
  | .set => "set"

abbrev VwRs (K : PySem.W.Frag) (Cl : Cls) (H : Hp) (g : Gh) : List Vw → List V → Prop := Paired (VwR K Cl H g)

theorem repr_sound (hK : X.K = K) (hg : X.A.guards = some []) (hu : X.A.units + 128 < cLine) (I : Inv X pins σ H s) (rx : RelV x v) (hx : VwR K Cl H g a x) {p : PyData} (e1 : a.py = some p) {z : Str} (e : showD p = some z)
    (q : PyData.strOk z = true → Q (.str z) H) : wpAny (model X.prog X.w) X.A (call (.builtin "repr") [v]) (EP X pins σ Q) X.xe s := by
  subst hK
  unfold showD at e
  simp only [Option.ite_none_right_eq_some, Option.some.injEq] at e
  obtain ⟨⟨h1, h2, h3⟩, rfl⟩ := e
  obtain ⟨d1, c1⟩ := hx.dp e1
  have q' : Q (.str p.shown) H := q (strOk_shown p c1)
  obtain ⟨as, t1⟩ := Dp.reads I p x v d1 rx
  have ref : ∀ l, v = .ref l → wpAny (model X.prog X.w) X.A (call (.builtin "repr") [v]) (EP X pins σ Q) X.xe s := by
    rintro l rfl
    exact repr_of_reads' t1 h2 (PyData.noDict_hsm (PyData.hasDict_of_canLay p c1)) hg (by omega) (fun _ _ h => h) (fun h' u tk hk => ⟨.str p.shown, H, I.kept (t' := tk) hk, ⟨_, rfl⟩, q'⟩) h3
  cases d1 with
  | non => cases rx; exact PySem.P.repr_of_none ⟨.str _, H, I.tok _, ⟨_, rfl⟩, q'⟩
  | bl b => cases rx; exact PySem.P.repr_of_bool ⟨.str _, H, I.tok _, ⟨_, rfl⟩, q'⟩
  | int i =>
    obtain ⟨t, rfl⟩ := rx
    exact PySem.P.repr_of_int (by simpa [PyData.showable] using h2) ⟨.str _, H, I.tok _, ⟨_, rfl⟩, q'⟩
  | str w =>
    obtain ⟨t, rfl⟩ := rx
    exact PySem.P.repr_of_str ⟨.str _, H, I.tok _, ⟨_, rfl⟩, q'⟩ h3
  | lst _ _ => exact ref _ rx
  | tup _ _ => exact ref _ rx

theorem bi_sound (hK : X.K = K) (hc : X.calm = true) (hg : X.A.guards = some []) (hu : X.A.units + 128 < cLine) (I : Inv X pins σ H s) {us : List Value} {xs : List V} {as : List Vw} (rx : Vals xs us) (hx : VwRs K Cl H g as xs) (rs : RepSt K Cl H g st) {f : BI} {r : Res} (e : opBI f as = some r)
    (q : Ans K Cl H g st r Q) : wpAny (model X.prog X.w) X.A (call (biV f) us) (EP X pins σ Q) X.xe s := by
  subst hK
  unfold opBI at e
  split at e
  · -- len of a list or tuple
    rename_i tp ds
    simp only [Option.some.injEq] at e; subst e
    cases hx with | cons h t => cases t with | nil =>
    cases tp with
    | true =>
      obtain ⟨p, vs, rfl, h1, h2⟩ := h
      rw [h2.length] at q
      exact call_len_seq pins s σ H _ us Q I rx ⟨p, vs, rfl, .inr h1.sq, q.val rs (.int _)⟩
    | false =>
      obtain ⟨p, vs, rfl, h1, h2⟩ := h
      rw [h2.length] at q
      exact call_len_seq pins s σ H _ us Q I rx ⟨p, vs, rfl, .inl (.of h1), q.val rs (.int _)⟩
  · simp only [Option.some.injEq, Option.ite_none_right_eq_some] at e
    obtain ⟨hz, rfl⟩ := e
    cases hx with | cons h t => cases t with | nil =>
    obtain ⟨rfl, _⟩ := h.str
    exact call_len_str pins s σ H _ us Q I rx ⟨_, rfl, hz, q.val rs (.int _)⟩
  · rename_i kvs
    simp only [Option.some.injEq] at e; subst e
    cases hx with | cons h t => cases t with | nil =>
    obtain ⟨p, kv, rfl, h1, h2⟩ := h
    rw [show kvs.length = kv.length from Paired.length h2] at q
    exact call_lenD pins s σ H _ us Q I rx ⟨p, kv, rfl, h1, q.val rs (.int _)⟩
  · rename_i kvs
    simp only [Option.some.injEq] at e; subst e
    cases hx with | cons h t => cases t with | nil =>
    obtain ⟨p, kv, rfl, h1, h2⟩ := h
    rw [show kvs.length = kv.length from Paired.length h2] at q
    exact call_len_dT pins s σ H _ us Q I rx ⟨p, kv, rfl, h1, q.val rs (.int _)⟩
  · -- all
    simp only [Option.map_eq_some_iff] at e
    obtain ⟨bs, e1, rfl⟩ := e
    cases hx with | cons h t => cases t with | nil =>
    obtain ⟨p, vs, rfl, h1, h2⟩ := h
    obtain rfl := rds_bl h2 e1
    exact cr_all hc pins s σ H _ us Q I rx ⟨p, bs, rfl, .of h1, q.val rs (.bl _)⟩
  · simp only [Option.map_eq_some_iff] at e
    obtain ⟨bs, e1, rfl⟩ := e
    cases hx with | cons h t => cases t with | nil =>
    obtain ⟨p, vs, rfl, h1, h2⟩ := h
    obtain rfl := rds_bl h2 e1
    exact cr_any hc pins s σ H _ us Q I rx ⟨p, bs, rfl, .of h1, q.val rs (.bl _)⟩
  · simp only [Option.map_eq_some_iff] at e
    obtain ⟨bs, e1, rfl⟩ := e
    cases hx with | cons h t => cases t with | nil =>
    obtain ⟨p, vs, rfl, h1, h2⟩ := h
    obtain rfl := rds_int h2 e1
    exact cr_sum hc pins s σ H _ us Q I rx ⟨p, bs, rfl, .of h1, q.val rs (.int _)⟩
  · -- list
    rename_i tp ds
    simp only [Option.some.injEq] at e; subst e
    cases hx with | cons h t => cases t with | nil =>
    cases tp with
    | true =>
      obtain ⟨p, vs, rfl, h1, h2⟩ := h
      exact call_list_of pins s σ H _ us Q I rx ⟨p, vs, rfl, .inr h1.sq, fun l nl => q.lst rs nl h2⟩
    | false =>
      obtain ⟨p, vs, rfl, h1, h2⟩ := h
      exact call_list_of pins s σ H _ us Q I rx ⟨p, vs, rfl, .inl (.of h1), fun l nl => q.lst rs nl h2⟩
  · -- tuple
    rename_i tp ds
    simp only [Option.some.injEq] at e; subst e
    cases hx with | cons h t => cases t with | nil =>
    cases tp with
    | true =>
      obtain ⟨p, vs, rfl, h1, h2⟩ := h
      exact call_tuple_of pins s σ H _ us Q I rx ⟨p, vs, rfl, .inr ⟨h1.sq, q.val rs (.tup h1 h2)⟩⟩
    | false =>
      obtain ⟨p, vs, rfl, h1, h2⟩ := h
      exact call_tuple_of pins s σ H _ us Q I rx ⟨p, vs, rfl, .inl ⟨.of h1, fun l nl => q.tup rs nl h2⟩⟩
  · -- str(int)
    simp only [Option.some.injEq, Option.ite_none_right_eq_some] at e
    obtain ⟨hz, rfl⟩ := e
    cases hx with | cons h t => cases t with | nil =>
    obtain rfl := h.int
    exact call_str_int pins s σ H _ us Q I rx ⟨_, rfl, hz, q.val rs (.str _ (strOk_of _))⟩
  · -- str(bool)
    simp only [Option.some.injEq] at e; subst e
    cases hx with | cons h t => cases t with | nil =>
    obtain rfl := h.bl
    obtain ⟨u, rfl, ru⟩ := vals1 rx
    cases ru
    exact PySem.P.str_of_bool ⟨.str _, H, I.tok _, ⟨_, rfl⟩, q.val rs (.str _ (by split <;> exact strOk_of _))⟩
  · -- repr
    rename_i w
    cases e1 : w.py with
    | none => rw [e1] at e; cases e
    | some p =>
      rw [e1] at e
      simp only [Option.map_eq_some_iff] at e
      obtain ⟨z, e2, rfl⟩ := e
      cases hx with | cons h t => cases t with | nil =>
      obtain ⟨u, rfl, ru⟩ := vals1 rx
      exact repr_sound rfl hg hu I ru h e1 e2 fun ok => q.val rs (.str _ ok)
  · -- sorted
    rename_i tp ds
    simp only [Option.ite_none_right_eq_some, Option.some.injEq] at e
    obtain ⟨hs, rfl⟩ := e
    cases hx with | cons h t => cases t with | nil =>
    obtain ⟨u, rfl, ru⟩ := vals1 rx
    exact sorted_seq rfl hu I ru h rs hs fun ys p n hy => q.lst rs n hy
  · -- ord
    simp only [Option.some.injEq, Option.ite_none_right_eq_some] at e
    obtain ⟨hz, rfl⟩ := e
    cases hx with | cons h t => cases t with | nil =>
    obtain ⟨rfl, _⟩ := h.str
    exact call_ord pins s σ H _ us Q I rx ⟨_, rfl, hz, q.val rs (.int _)⟩
  · simp only [Option.some.injEq] at e; subst e
    cases hx with | cons h t => cases t with | cons h2 t => cases t with | nil =>
    obtain rfl := h.int; obtain rfl := h2.int
    exact call_min2 hc pins s σ H _ us Q I rx ⟨_, _, rfl, q.val rs (.int _)⟩
  · simp only [Option.some.injEq] at e; subst e
    cases hx with | cons h t => cases t with | cons h2 t => cases t with | nil =>
    obtain rfl := h.int; obtain rfl := h2.int
    exact call_max2 hc pins s σ H _ us Q I rx ⟨_, _, rfl, q.val rs (.int _)⟩
  · cases e

/-- isinstance -/
theorem isi_sound (hK : X.K = K) (I : Inv X pins σ H s) (rx : RelV x v) (hx : VwR K Cl H g a x) {t : String} {r : Bool} (e : opIsi a t = some r) (q : Q (.bl r) H) :
    wpAny (model X.prog X.w) X.A (call (.builtin "isinstance") [v, .type t]) (EP X pins σ Q) X.xe s := by
  subst hK
  have go : ∀ {n : String}, TyX X.K H x (.type n) → kitB n t = some r → wpAny (model X.prog X.w) X.A (call (.builtin "isinstance") [v, .type t]) (EP X pins σ Q) X.xe s := fun {n} ty hk =>
    call_isi pins s σ H [x, .ty t] _ Q I (.cons rx (.cons rfl .nil)) ⟨x, .ty t, .type n, .type t, r, rfl, .ty t, ty, kit_ty hk, q⟩
  unfold opIsi at e
  cases a with
  | «at» d =>
    cases d <;> simp only [reduceCtorEq] at e
    · obtain rfl := hx.non; exact go (.base .non) e
    · obtain rfl := hx.bl; exact go (.base (.bl _)) e
    · obtain rfl := hx.int; exact go (.base (.int _)) e
    · obtain ⟨rfl, _⟩ := hx.str; exact go (.base (.str _)) e
  | sq tp ds =>
    cases tp with
    | true => obtain ⟨p, vs, rfl, h1, h2⟩ := hx; exact go (.base (.tup h1.1)) e
    | false => obtain ⟨p, vs, rfl, h1, h2⟩ := hx; exact go (.base (.lst h1)) e
  | dK kvs => simp at e
  | dT kvs => simp at e
  | ob c fs => simp at e

/-- methods -/
def miT : MI → String
  | .join => "str"
  | .upper => "str"
  | .get1 => "dict"
  | .get2 => "dict"
  | .count => "str"
def miI : MI → String
  | .join => "str.join"
  | .upper => "str.upper"
  | .get1 => "dict.get"
  | .get2 => "dict.get"
  | .count => "str.count"
def miN : MI → Str
  | .join => "join"
  | .upper => "upper"
  | .get1 => "get"
  | .get2 => "get"
  | .count => "count"
theorem up_eq : ∀ (l : List Nat), (l.all fun c => decide (c < 128)) = true → Txt.upper ⟨l.toArray⟩ = ⟨(l.map upC).toArray⟩
  | [], _ => by decide +kernel
  | c :: l, h => by
    simp only [List.all_cons, Bool.and_eq_true, decide_eq_true_eq] at h
    have e : (⟨(c :: l).toArray⟩ : Str) = ⟨#[c]⟩ ++ ⟨l.toArray⟩ := by
      show _ = Str.mk (#[c] ++ l.toArray)
      congr 1
      simp
    rw [e, PySem.W.KOpn.upper_app, PySem.W.KOpn.upper_one h.1, up_eq l h.2]
    show Str.mk (#[upC c] ++ (l.map upC).toArray) = _
    congr 1
    simp
theorem up_of {x : Str} (h : ascS x = true) : Txt.upper x = upS x := up_eq x.cps.toList h
theorem up_ok {x : Str} (h : ascS x = true) : PyData.strOk (upS x) = true := by
  unfold PyData.strOk upS
  rw [← Array.all_toList]
  simp only [List.all_map, List.all_eq_true, Function.comp]
  intro c hc
  have := List.all_eq_true.mp h c hc
  simp only [decide_eq_true_eq] at this ⊢
  unfold upC
  split <;> omega
theorem m_sound (hK : X.K = K) (hc : X.calm = true) (hu : X.A.units + 128 < cLine) (I : Inv X pins σ H s) {us : List Value} {xs : List V} {as : List Vw} (rx : RelV x v) (hx : VwR K Cl H g a x) (ra : Vals xs us) (ha : VwRs K Cl H g as xs) (rs : RepSt K Cl H g st) {m : MI} {r : Res} (e : opM m a as = some r)
    (q : Ans K Cl H g st r Q) : wpAny (model X.prog X.w) X.A (call (.builtin (miI m)) (v :: us)) (EP X pins σ Q) X.xe s := by
  subst hK
  unfold opM at e
  split at e
  · rename_i tp ds
    split at e
    · rename_i ys e1
      simp only [Option.some.injEq, Option.ite_none_right_eq_some] at e
      obtain ⟨hz, rfl⟩ := e
      obtain ⟨rfl, ok⟩ := hx.str
      cases ha with | cons h t => cases t with | nil =>
      cases tp with
      | true =>
        obtain ⟨p, vs, rfl, h1, h2⟩ := h
        obtain ⟨rfl, oks⟩ := rds_str h2 e1
        exact mt_join pins s σ H _ _ v us Q I rx ra ⟨_, p, ys, rfl, rfl, .inr h1.sq, hz, q.val rs (.str _ (by rw [TL.join_eq]; exact strOk_join ok oks))⟩
      | false =>
        obtain ⟨p, vs, rfl, h1, h2⟩ := h
        obtain ⟨rfl, oks⟩ := rds_str h2 e1
        exact mt_join pins s σ H _ _ v us Q I rx ra ⟨_, p, ys, rfl, rfl, .inl (.of h1), hz, q.val rs (.str _ (by rw [TL.join_eq]; exact strOk_join ok oks))⟩
    · cases e
  · simp only [Option.ite_none_right_eq_some] at e
    obtain ⟨⟨h1, h2⟩, e⟩ := e
    cases e
    obtain ⟨rfl, ok⟩ := hx.str
    cases ha
    exact mt_upper pins s σ H _ _ v us Q I rx ra ⟨_, rfl, rfl, h2, by rw [up_of h1]; exact q.val rs (.str _ (up_ok h1))⟩
  · cases e
end
end Py
end

section
set_option maxRecDepth 100000
set_option maxHeartbeats 4000000
set_option linter.all false
/-! Expressions keep the evaluator's promise. -/
namespace Py
open PySem L2 PySem.Spec PyProof.Rows

/-- a def by its number -/
structure FI where
  nm : Str
  addr : Addr
  fd : FuncData
  ps : List Str

abbrev Fsem := Nat → List D → Store → Out Res
/-- what a def promises -/
def spD (Γ : Ctx) (F : List D → Store → Out Res) (n : Nat) : Sp := fun vs H Q E => ∃ g ds st, RDs Γ.K Γ.Cl H g ds vs ∧ RepSt Γ.K Γ.Cl H g st ∧ ds.length = n ∧
  Post Γ H g (F ds st) (fun H' g' _ r => ∀ v, RR Γ.K Γ.Cl H H' g' r v → Q v H') (fun c d H' => E c d H')
/-- the promise of a def, where no repr is under way -/
structure FnG (Γ : Ctx) (k : Nat) (f : Addr) (fd : FuncData) (ps : List Str) (sp : Sp) : Prop where
  len : ∀ vs H Q E, sp vs H Q E → vs.length = ps.length
  run : ∀ (A : Around) (outer : List PySem.Env) (s : Shared) (H : Hp) (args : Args) (us : List Value) (vs : List V) (Q : VK) (E : XK), Room k A → A.guards = some [] → Env0 Γ.prog Γ.w Γ.K Γ.mg Γ.base A outer s H → BindsTo s fd args (ps.zip us) → Vals vs us → sp vs H Q E →
    codeAny (model Γ.prog Γ.w) A (.call (.ref f) args) (CR (L2.CX Γ.prog Γ.w) outer Γ.prog Γ.w H s Q E) s
structure FOk (Γ : Ctx) (k : Nat) (F : Fsem) (f : Nat) (i : FI) : Prop where
  mg : Γ.mg i.nm = some (.ref i.addr)
  kp : PySem.W.keepIn Γ.K (.ref i.addr) = true
  binds : Binds Γ.K i.fd i.ps []
  fn : FnG Γ k i.addr i.fd i.ps (spD Γ (F f) i.ps.length)
/-- the table of defs -/
structure Ftab where
  fn : Nat → Option FI
  cs : Str → Option D
def tyNames : List Str := ["int", "bool", "str", "tuple", "list"]
structure BiOk (Γ : Ctx) : Prop where
  ty : ∀ x ∈ tyNames, Γ.mg x = none
  bi : ∀ f, Γ.mg (biN f) = none
  isi : Γ.mg "isinstance" = none
  range : Γ.mg "range" = none
  enum : Γ.mg "enumerate" = none
  zip : Γ.mg "zip" = none

structure CsOk (Γ : Ctx) (T : Ftab) : Prop where
  at' : ∀ x d, T.cs x = some d → ∃ u v, Γ.mg x = some u ∧ RelV v u ∧ ∀ H g, RD Γ.K Γ.Cl H g d v

def visB (sc : Scope) (x : Str) : Bool := match sc.names.lookup x with
  | some .local => true
  | some .cell => true
  | some .free => true
  | _ => false
def locB (sc : Scope) (x : Str) : Bool := match sc.names.lookup x with
  | some .local => true
  | some .cell => true
  | _ => false
theorem vis_of {sc : Scope} {x : Str} (h : visB sc x = true) : Vis sc x := by
  unfold visB at h
  split at h
  · exact .inl (by assumption)
  · exact .inr (.inl (by assumption))
  · exact .inr (.inr (by assumption))
  · cases h
theorem loc_of {sc : Scope} {x : Str} (h : locB sc x = true) : Loc sc x := by
  unfold locB at h
  split at h
  · exact .inl (by assumption)
  · exact .inr (by assumption)
  · cases h
/-- a global name -/
def glB (sc : Scope) (x : Str) : Bool := decide (sc.names.lookup x = some .globalImplicit) && !(x == ("__debug__" : Str)) && !decide (x = "__name__")
theorem glB_1 {sc : Scope} {x : Str} (h : glB sc x = true) : sc.names.lookup x = some .globalImplicit := by
  simp only [glB, Bool.and_eq_true, decide_eq_true_eq] at h; exact h.1.1
theorem glB_2 {sc : Scope} {x : Str} (h : glB sc x = true) : (x == ("__debug__" : Str)) = false := by
  simp only [glB, Bool.and_eq_true, Bool.not_eq_true'] at h; exact h.1.2
theorem glB_3 {sc : Scope} {x : Str} (h : glB sc x = true) : x ≠ "__name__" := by
  simp only [glB, Bool.and_eq_true, Bool.not_eq_true', decide_eq_false_iff_not] at h; exact h.2
def notCall : Expr → Bool
  | .Call _ _ _ _ => false
  | _ => true
theorem base_of {O : Expr} (h : notCall O = true) (m : Str) (env : PySem.Env) : attributeBase O m env (eval O env) = eval O env := by
  cases O <;> first | rfl | simp [notCall] at h

/-- its test is by its value -/
def plainT : Expr → Bool
  | .UnaryOp .Not _ _ => false
  | .BoolOp _ _ _ => false
  | .IfExp _ _ _ _ => false
  | .Compare _ _ _ _ => false
  | _ => true
def Exs.length : Exs → Nat
  | .nil => 0
  | .cons _ es => es.length + 1
inductive CGs (N : List Str) : Scope → Scope → List Nat → List Nat → List Expr → Prop
  | nil {sc scope own} : CGs N sc scope own [] []
  | cons {sc scope own i is x xs pos} (h1 : N[i]? = some x) (h2 : sc.names.lookup x = some .local ∨ scope.names.lookup x = some .cell) (h3 : locB sc x = true) (h4 : i ∈ own) (h : CGs N sc scope own is xs) : CGs N sc scope own (i :: is) (.Name x pos :: xs)
inductive CG (N : List Str) : Scope → Scope → List Nat → Tg → Expr → Prop
  | name {sc scope own i x pos} (h1 : N[i]? = some x) (h2 : sc.names.lookup x = some .local ∨ scope.names.lookup x = some .cell) (h3 : locB sc x = true) (h4 : i ∈ own) : CG N sc scope own (.name i) (.Name x pos)
  | tup {sc scope own is xs pos k} (h : CGs N sc scope own is xs) : CG N sc scope own (.tup is) (.Tuple xs k pos)
mutual
inductive CE (T : Ftab) (N : List Str) : Scope → Ex → Expr → Prop
  | var {sc i x pos} (h1 : N[i]? = some x) (h2 : visB sc x = true) (h3 : (x == ("__debug__" : Str)) = false) (h4 : (x == ("__classdict__" : Str)) = false) : CE T N sc (.var i) (.Name x pos)
  | non {sc j pos} : CE T N sc (.cst .non) (.Constant .none j pos)
  | bl {sc b j pos} : CE T N sc (.cst (.bl b)) (.Constant (.bool b) j pos)
  | int {sc i j pos} : CE T N sc (.cst (.int i)) (.Constant (.int i) j pos)
  | str {sc x j pos} (h : PyData.strOk x = true) : CE T N sc (.cst (.str x)) (.Constant (.str x) j pos)
  | glb {sc x d pos} (h1 : T.cs x = some d) (h3 : glB sc x = true) : CE T N sc (.glb x d) (.Name x pos)
  | bin {sc op a b A B pos} (ha : CE T N sc a A) (hb : CE T N sc b B) : CE T N sc (.bin op a b) (.BinOp A (bopA op) B pos)
  | neg {sc a A pos} (ha : CE T N sc a A) : CE T N sc (.neg a) (.UnaryOp .USub A pos)
  | cmp {sc op a b A B pos} (ha : CE T N sc a A) (hb : CE T N sc b B) (h : behindInMarks (copA op) B = false) : CE T N sc (.cmp op a b) (.Compare A [copA op] [B] pos)
  | cmp2 {sc op op2 a b c A B C pos} (ha : CE T N sc a A) (hb : CE T N sc b B) (hc : CE T N sc c C) (h : lastMarks [copA op, copA op2] [B, C] = false) : CE T N sc (.cmp2 op op2 a b c) (.Compare A [copA op, copA op2] [B, C] pos)
  | not {sc a A pos} (h : CE T N sc a A) : CE T N sc (.not a) (.UnaryOp .Not A pos)
  | and {sc es As pos} (h : CEs T N sc es As) : CE T N sc (.and es) (.BoolOp .And As pos)
  | or {sc es As pos} (h : CEs T N sc es As) : CE T N sc (.or es) (.BoolOp .Or As pos)
  | ife {sc t a b C A B pos} (ht : CT T N sc t C) (ha : CE T N sc a A) (hb : CE T N sc b B) : CE T N sc (.ife t a b) (.IfExp C A B pos)
  | tup {sc es As k pos} (h : CEs T N sc es As) : CE T N sc (.tup es) (.Tuple As k pos)
  | lst {sc es As pos} (h : CEs T N sc es As) : CE T N sc (.lst es) (.List As pos)
  | dct {sc es Ks Vs pos} (h : CEd T N sc es Ks Vs) (h0 : Ks ≠ []) (h1 : Ks.length ≤ 15) : CE T N sc (.dct es) (.Dict Ks Vs pos)
  | ix {sc a b A B pos} (ha : CE T N sc a A) (hb : CE T N sc b B) : CE T N sc (.ix a b) (.Subscript A B pos)
  | sl {sc a lo hi A Lo Hi p2 pos} (ha : CE T N sc a A) (hl : CP T N sc lo Lo) (hh : CP T N sc hi Hi) : CE T N sc (.sl a lo hi) (.Subscript A (.Slice Lo Hi none p2) pos)
  | rev {sc a A k p1 p2 p3 pos} (ha : CE T N sc a A) : CE T N sc (.rev a) (.Subscript A (.Slice none none (some (.UnaryOp .USub (.Constant (.int 1) k p1) p2)) p3) pos)
  | sset {sc a A p p2 pos pos2} (h3 : glB sc "sorted" = true) (h4 : glB sc "set" = true) (ha : CE T N sc a A) : CE T N sc (.sset a) (.Call (.Name "sorted" p) [.Call (.Name "set" p2) [A] [] pos2] [] pos)
  | call {sc f i x p e es A As pos} (h1 : T.fn f = some i) (h2 : i.nm = x) (h3 : glB sc x = true) (ha : CE T N sc e A) (h : CEs T N sc es As) (h5 : 1 + es.length = i.ps.length) : CE T N sc (.call f (.cons e es)) (.Call (.Name x p) (A :: As) [] pos)
  | call0 {sc f i x p pos} (h1 : T.fn f = some i) (h2 : i.nm = x) (h3 : glB sc x = true) (h5 : i.ps.length = 0) : CE T N sc (.call f .nil) (.Call (.Name x p) [] [] pos)
  | bi {sc f x p e es A As pos} (h2 : biN f = x) (h3 : glB sc x = true) (ha : CE T N sc e A) (h : CEs T N sc es As) : CE T N sc (.bi f (.cons e es)) (.Call (.Name x p) (A :: As) [] pos)
  | isi {sc a t A x p p2 pos} (ha : CE T N sc a A) (h3 : glB sc "isinstance" = true) (h4 : glB sc x = true) (h5 : bootBuiltins x = some (.type t)) (h6 : x ∈ tyNames) : CE T N sc (.isi a t) (.Call (.Name "isinstance" p) [A, .Name x p2] [] pos)
  | mth {sc m o e es O A As apos cpos} (ho : CE T N sc o O) (ha : CE T N sc e A) (h : CEs T N sc es As) (h1 : notCall O = true) (h2 : (apos.endLine == cpos.line) = true) (h3 : es.length < 28) : CE T N sc (.mth m o (.cons e es)) (.Call (.Attribute O (miN m) apos) (A :: As) [] cpos)
  | mth0 {sc m o O apos cpos} (ho : CE T N sc o O) (h1 : notCall O = true) (h2 : (apos.endLine == cpos.line) = true) : CE T N sc (.mth m o .nil) (.Call (.Attribute O (miN m) apos) [] [] cpos)
  | comp {sc own tg it ifs elt Tg Iter Ifs Elt scope pos} (ns : List Str) (h1 : blkC N sc scope (ns.zip own) = true) (hl : ns.length = own.length) (hi : CI T N sc it Tg Iter) (hg : CG N (relS scope sc) scope own tg Tg) (ht : CTs T N (relS scope sc) ifs Ifs) (hlen : Ifs.length ≤ 1) (he : CE T N (relS scope sc) elt Elt)
      : CE T N sc (.comp own tg it ifs elt) (.ListComp Elt [⟨Tg, Iter, Ifs, 0⟩] scope pos)
inductive CEs (T : Ftab) (N : List Str) : Scope → Exs → List Expr → Prop
  | nil {sc} : CEs T N sc .nil []
  | cons {sc e es A As} (ha : CE T N sc e A) (h : CEs T N sc es As) : CEs T N sc (.cons e es) (A :: As)
inductive CEd (T : Ftab) (N : List Str) : Scope → Exs → List (Option Expr) → List Expr → Prop
  | nil {sc} : CEd T N sc .nil [] []
  | cons {sc k v es K V Ks Vs} (hk : CE T N sc k K) (hv : CE T N sc v V) (h : CEd T N sc es Ks Vs) : CEd T N sc (.cons k (.cons v es)) (some K :: Ks) (V :: Vs)
inductive CP (T : Ftab) (N : List Str) : Scope → Exs → Option Expr → Prop
  | none {sc} : CP T N sc .nil none
  | some {sc e A} (h : CE T N sc e A) : CP T N sc (.cons e .nil) (some A)
inductive CT (T : Ftab) (N : List Str) : Scope → Te → Expr → Prop
  | val {sc e A} (h : CE T N sc e A) (h2 : plainT A = true) : CT T N sc (.val e) A
  | cmp {sc op a b A B pos} (ha : CE T N sc a A) (hb : CE T N sc b B) (h : behindInMarks (copA op) B = false) : CT T N sc (.cmp op a b) (.Compare A [copA op] [B] pos)
  | cmp2 {sc op op2 a b c A B C pos} (ha : CE T N sc a A) (hb : CE T N sc b B) (hc : CE T N sc c C) (h : lastMarks [copA op, copA op2] [B, C] = false) : CT T N sc (.cmp2 op op2 a b c) (.Compare A [copA op, copA op2] [B, C] pos)
  | not {sc t A pos} (h : CT T N sc t A) : CT T N sc (.not t) (.UnaryOp .Not A pos)
  | and {sc ts As pos} (h : CTs T N sc ts As) : CT T N sc (.and ts) (.BoolOp .And As pos)
  | or {sc ts As pos} (h : CTs T N sc ts As) : CT T N sc (.or ts) (.BoolOp .Or As pos)
inductive CTs (T : Ftab) (N : List Str) : Scope → Tes → List Expr → Prop
  | nil {sc} : CTs T N sc .nil []
  | cons {sc t ts A As} (ha : CT T N sc t A) (h : CTs T N sc ts As) : CTs T N sc (.cons t ts) (A :: As)
inductive CI (T : Ftab) (N : List Str) : Scope → Itr → Expr → Expr → Prop
  | it {sc e Tg A} (h : CE T N sc e A) : CI T N sc (.it e) Tg A
  | rng1 {sc a Tg A p pos} (h3 : glB sc "range" = true) (ha : CE T N sc a A) : CI T N sc (.rng (.cons a .nil)) Tg (.Call (.Name "range" p) [A] [] pos)
  | rng2 {sc a b Tg A B p pos} (h3 : glB sc "range" = true) (ha : CE T N sc a A) (hb : CE T N sc b B) : CI T N sc (.rng (.cons a (.cons b .nil))) Tg (.Call (.Name "range" p) [A, B] [] pos)
end
end Py
end

section
set_option maxRecDepth 100000
set_option maxHeartbeats 4000000
set_option linter.all false
/-! Each construct, by its parts. -/
namespace Py
open PySem L2 PySem.Spec PyProof.Rows

theorem CE.star {T : Ftab} {N : List Str} {sc : Scope} {e : Ex} {E : Expr} (h : CE T N sc e E) (es : List Expr) (env : PySem.Env) : starEach (E :: es) env = (false, eval E env) :: starEach es env := by
  cases h <;> rfl
theorem CE.plainIx {T : Ftab} {N : List Str} {sc : Scope} {e : Ex} {E : Expr} (h : CE T N sc e E) : PlainIx E := by
  intro o i
  cases h <;> rfl
theorem CEs.plain {T : Ftab} {N : List Str} {sc : Scope} (env : PySem.Env) (pos : Pos) : ∀ {es : Exs} {Es : List Expr}, CEs T N sc es Es → (backTo pos (starEach Es env)).any (·.1) = false
  | _, _, .nil => rfl
  | _, _, .cons (As := As) ha h => by
    rw [ha.star]
    show (false || (backTo pos (starEach As env)).any (·.1)) = false
    rw [Bool.false_or]
    exact CEs.plain env pos h
theorem CEs.all {T : Ftab} {N : List Str} {sc : Scope} (env : PySem.Env) (pos : Pos) : ∀ {es : Exs} {Es : List Expr}, CEs T N sc es Es → (backTo pos (starEach Es env)).all (fun x => !x.1) = true
  | _, _, .nil => rfl
  | _, _, .cons (As := As) ha h => by
    rw [ha.star]
    show (!false && (backTo pos (starEach As env)).all (fun x => !x.1)) = true
    rw [Bool.not_false, Bool.true_and]
    exact CEs.all env pos h
theorem CEs.len {T : Ftab} {N : List Str} {sc : Scope} : ∀ {es : Exs} {Es : List Expr}, CEs T N sc es Es → Es.length = es.length
  | _, _, .nil => rfl
  | _, _, .cons _ h => by rw [List.length_cons, CEs.len h]; rfl

section
variable {Γ : Ctx} {k : Nat} {N : List Str} {sc : Scope} {X : Cx} {pins : List (Addr × Obj)} {σ : L2.St} {H : Hp} {g : Gh} {s : Shared} {st : Store} {Q : VK} {W : L2.St → WC}

theorem XOk.hu (xo : XOk Γ k N sc X) : X.A.units + 128 < cLine := by have := xo.room.un; omega
theorem XOk.inv (xo : XOk Γ k N sc X) : X.K = Γ.K := xo.K


/-- from what an expression's reading promises to the end of the step -/
theorem Post.ans {Hs : Hp} {r : Res} {w : WC} (q : Post Γ H g (.ok r st) (fun H' g' _ r => ∀ v, RR Γ.K Γ.Cl Hs H' g' r v → Q v H') w) (hd : ∀ a, H a = none → Hs a = none) : Ans Γ.K Γ.Cl H g st r Q :=
  fun H' g' z x s rr => q H' g' x s z (rr.back hd)

theorem pe_bin {a b : Env → Store → Out Res} {A B : Expr} {op : BOp} {pos : Pos} (xo : XOk Γ k N sc X) (ha : PE X A (tD Γ a (rRes Γ) W)) (hb : PE X B (tD Γ b (rRes Γ) W)) :
    PE X (.BinOp A (bopA op) B pos) (tD Γ (fun env st => (a env st).bind fun ra st1 => (b env st1).bind fun rb st2 => Out.of (opBin op (ra.vw st2) (rb.vw st2)) st2) (rRes Γ) W) := by
  refine ⟨fun pins s σ H Q I h => ?_⟩
  obtain ⟨H0, g, env, st, r, hp⟩ := h
  refine wpAny_BinOp (thn (runE ha I r hp.bind) fun u s1 ⟨x, H1, g1, st1, r1, I1, rx, x1, p1, rr1, q1⟩ => thn (runE hb I1 p1 q1.bind) fun v s2 ⟨y, H2, g2, st2, r2, I2, ry, x2, p2, rr2, q2⟩ => ?_)
  obtain ⟨rs, e, q3⟩ := q2.of
  exact bin_sound xo.K I2 rx ry ((rr1.ext x2).vw p2.st) (rr2.vw p2.st) p2.st e (q3.ans fun a h => x1.dom a (x2.dom a h))

/-! tests of values -/
theorem yn_test {M : Model} {A : Around} {E : Value → Shared → Prop} {t : Sem Value} {s : Shared} {r : Bool} {Q : Bool → Shared → Prop} (h : wpAny M A t (YN X pins σ H r) E s) (q : ∀ s', Inv X pins σ H s' → Q r s') :
    wpAny M A t (fun c s3 => wpAny M A (truthy c) Q E s3) E s := thn h fun z s' ⟨e, I⟩ => by subst e; exact wpAny_truthy_bool (q s' I)

variable {a b c : Env → Store → Out Res} {t t2 : Env → Store → Out Bool} {A B C : Expr} {As : List Expr} {pos : Pos}

theorem pe_cmpD {op : COp} (xo : XOk Γ k N sc X) (ha : PE X A (tD Γ a (rRes Γ) W)) (hb : PE X B (tD Γ b (rRes Γ) W)) (hm : behindInMarks (copA op) B = false) :
    PE X (.Compare A [copA op] [B] pos) (tD Γ (fun env st => (a env st).bind fun ra st1 => (b env st1).bind fun rb st2 => Out.of ((opCmp op (ra.vw st2) (rb.vw st2)).map fun b => .val (.bl b)) st2) (rRes Γ) W) := by
  refine ⟨fun pins s σ H Q I h => ?_⟩
  obtain ⟨H0, g, env, st, r, hp⟩ := h
  refine wpAny_Compare1 (thn (runE ha I r hp.bind) fun u s1 ⟨x, H1, g1, st1, r1, I1, rx, x1, p1, rr1, q1⟩ => thn (runE hb I1 p1 q1.bind) fun v s2 ⟨y, H2, g2, st2, r2, I2, ry, x2, p2, rr2, q2⟩ => ?_) hm
  obtain ⟨rs, e, q3⟩ := q2.of
  simp only [Option.map_eq_some_iff] at e
  obtain ⟨bb, e, rfl⟩ := e
  exact thn (cmp_sound xo.K xo.hu I2 rx ry ((rr1.ext x2).vw p2.st) (rr2.vw p2.st) e) fun z s3 ⟨ez, I3⟩ => ⟨.bl bb, H2, I3, ez, q3.now p2.st _ (.bl bb)⟩
theorem pt_cmpD {op : COp} (xo : XOk Γ k N sc X) (ha : PE X A (tD Γ a (rRes Γ) W)) (hb : PE X B (tD Γ b (rRes Γ) W)) (hm : behindInMarks (copA op) B = false) :
    PT X (.Compare A [copA op] [B] pos) (tDT Γ (fun env st => (a env st).bind fun ra st1 => (b env st1).bind fun rb st2 => Out.of (opCmp op (ra.vw st2) (rb.vw st2)) st2) W) := by
  refine ⟨fun pins s σ H Q I h => ?_⟩
  obtain ⟨H0, g, env, st, r, hp⟩ := h
  refine wpAny_isTrue_Compare1 (thn (runE ha I r hp.bind) fun u s1 ⟨x, H1, g1, st1, r1, I1, rx, x1, p1, rr1, q1⟩ => thn (runE hb I1 p1 q1.bind) fun v s2 ⟨y, H2, g2, st2, r2, I2, ry, x2, p2, rr2, q2⟩ => ?_) hm
  obtain ⟨rs, e, q3⟩ := q2.of
  exact yn_test (cmp_sound xo.K xo.hu I2 rx ry ((rr1.ext x2).vw p2.st) (rr2.vw p2.st) e) fun s3 I3 => ⟨H2, I3, q3.now p2.st⟩
theorem pe_cmp2D {op op2 : COp} (xo : XOk Γ k N sc X) (ha : PE X A (tD Γ a (rRes Γ) W)) (hb : PE X B (tD Γ b (rRes Γ) W)) (hc : PE X C (tD Γ c (rRes Γ) W)) (hm : lastMarks [copA op, copA op2] [B, C] = false) :
    PE X (.Compare A [copA op, copA op2] [B, C] pos) (tD Γ (fun env st => (a env st).bind fun ra st1 => (b env st1).bind fun rb st2 => match opCmp op (ra.vw st2) (rb.vw st2) with
      | some true => (c env st2).bind fun rc st3 => Out.of ((opCmp op2 (rb.vw st3) (rc.vw st3)).map fun b => .val (.bl b)) st3
      | some false => .ok (.val (.bl false)) st2
      | none => .bad) (rRes Γ) W) := by
  refine ⟨fun pins s σ H Q I h => ?_⟩
  obtain ⟨H0, g, env, st, r, hp⟩ := h
  refine Compare_chain (thn (runE ha I r hp.bind) fun u s1 ⟨x, H1, g1, st1, r1, I1, rx, x1, p1, rr1, q1⟩ => chain_link (thn (runE hb I1 p1 q1.bind) fun v s2 ⟨y, H2, g2, st2, r2, I2, ry, x2, p2, rr2, q2⟩ => ?_)) hm
  cases e : opCmp op (r1.vw st2) (r2.vw st2) with
  | none => rw [e] at q2; exact q2.elim
  | some t =>
    rw [e] at q2
    refine thn (cmp_sound xo.K xo.hu I2 rx ry ((rr1.ext x2).vw p2.st) (rr2.vw p2.st) e) fun z s3 ⟨ez, I3⟩ => ?_
    subst ez
    refine wpAny_truthy_bool ?_
    cases t with
    | false => exact ite_ff ⟨.bl false, H2, I3, rfl, q2.now p2.st _ (.bl false)⟩
    | true =>
      refine ite_tt (chain_last (thn (runE hc I3 p2 q2.bind) fun w s4 ⟨z, H4, g4, st4, r4, I4, rz, x4, p4, rr4, q4⟩ => ?_))
      obtain ⟨rs, e2, q5⟩ := q4.of
      simp only [Option.map_eq_some_iff] at e2
      obtain ⟨bb, e2, rfl⟩ := e2
      exact thn (cmp_sound xo.K xo.hu I4 ry rz ((rr2.ext x4).vw p4.st) (rr4.vw p4.st) e2) fun z s5 ⟨ez, I5⟩ => ⟨.bl bb, H4, I5, ez, q5.now p4.st _ (.bl bb)⟩
theorem pt_cmp2D {op op2 : COp} (xo : XOk Γ k N sc X) (ha : PE X A (tD Γ a (rRes Γ) W)) (hb : PE X B (tD Γ b (rRes Γ) W)) (hc : PE X C (tD Γ c (rRes Γ) W)) (hm : lastMarks [copA op, copA op2] [B, C] = false) :
    PT X (.Compare A [copA op, copA op2] [B, C] pos) (tDT Γ (fun env st => (a env st).bind fun ra st1 => (b env st1).bind fun rb st2 => match opCmp op (ra.vw st2) (rb.vw st2) with
      | some true => (c env st2).bind fun rc st3 => Out.of (opCmp op2 (rb.vw st3) (rc.vw st3)) st3
      | some false => .ok false st2
      | none => .bad) W) := by
  refine ⟨fun pins s σ H Q I h => ?_⟩
  obtain ⟨H0, g, env, st, r, hp⟩ := h
  refine isTrue_chain (thn (runE ha I r hp.bind) fun u s1 ⟨x, H1, g1, st1, r1, I1, rx, x1, p1, rr1, q1⟩ => test_link (thn (runE hb I1 p1 q1.bind) fun v s2 ⟨y, H2, g2, st2, r2, I2, ry, x2, p2, rr2, q2⟩ => ?_)) hm
  cases e : opCmp op (r1.vw st2) (r2.vw st2) with
  | none => rw [e] at q2; exact q2.elim
  | some t =>
    rw [e] at q2
    refine yn_test (cmp_sound xo.K xo.hu I2 rx ry ((rr1.ext x2).vw p2.st) (rr2.vw p2.st) e) fun s3 I3 => ?_
    cases t with
    | false => exact ite_ff ⟨H2, I3, q2.now p2.st⟩
    | true =>
      refine ite_tt (test_last (thn (runE hc I3 p2 q2.bind) fun w s4 ⟨z, H4, g4, st4, r4, I4, rz, x4, p4, rr4, q4⟩ => ?_))
      obtain ⟨rs, e2, q5⟩ := q4.of
      exact yn_test (cmp_sound xo.K xo.hu I4 ry rz ((rr2.ext x4).vw p4.st) (rr4.vw p4.st) e2) fun s5 I5 => ⟨H4, I5, q5.now p4.st⟩
/-- a value as a test -/
theorem pt_valD (xo : XOk Γ k N sc X) (ha : PE X A (tD Γ a (rRes Γ) W)) (hp : plainT A = true) : PT X A (tDT Γ (fun env st => (a env st).bind fun r st1 => Out.of (truth (r.vw st1)) st1) W) := by
  have he : ∀ whole, isTrue A X.env whole = (do let v ← whole; standAt A.pos; holding [v] (truthy v)) := by
    intro w
    cases A <;> first | rfl | simp [plainT] at hp
    rename_i op _ _
    cases op <;> first | rfl | simp [plainT] at hp
  refine ⟨fun pins s σ H Q I h => ?_⟩
  obtain ⟨H0, g, env, st, r, hp⟩ := h
  refine isTrue_plain (thn (runE ha I r hp.bind) fun u s1 ⟨x, H1, g1, st1, r1, I1, rx, x1, p1, rr1, q1⟩ => ?_) (he _)
  obtain ⟨b, e, q3⟩ := q1.of
  exact tru_ok pins s1 σ H1 x u Q I1 rx ⟨b, by rw [xo.K]; exact truth_sound (rr1.vw p1.st) e, q3.now p1.st⟩

/-! not, and, or -/
theorem pt_notD (ht : PT X A (tDT Γ t W)) : PT X (.UnaryOp .Not A pos) (tDT Γ (fun env st => (t env st).bind fun b st1 => .ok (!b) st1) W) := by
  refine ⟨fun pins s σ H Q I h => ?_⟩
  obtain ⟨H0, g, env, st, r, hp⟩ := h
  exact isTrue_not (thn (runT ht I r hp.bind) fun b s1 ⟨H1, g1, st1, I1, x1, p1, q1⟩ => ⟨H1, I1, q1.now p1.st⟩)
theorem pe_notD (xo : XOk Γ k N sc X) (ha : PE X A (tD Γ a (rRes Γ) W)) : PE X (.UnaryOp .Not A pos) (tD Γ (fun env st => (a env st).bind fun r st1 => Out.of ((truth (r.vw st1)).map fun b => .val (.bl (!b))) st1) (rRes Γ) W) := by
  refine ⟨fun pins s σ H Q I h => ?_⟩
  obtain ⟨H0, g, env, st, r, hp⟩ := h
  refine UnaryOp_ (thn (runE ha I r hp.bind) fun u s1 ⟨x, H1, g1, st1, r1, I1, rx, x1, p1, rr1, q1⟩ => not_of ?_)
  obtain ⟨b, e, q3⟩ := q1.of
  simp only [Option.map_eq_some_iff] at e
  obtain ⟨bb, e, rfl⟩ := e
  refine thn (tru_ok pins s1 σ H1 x u (fun b H' => b = bb ∧ H' = H1) I1 rx ⟨bb, by rw [xo.K]; exact truth_sound (rr1.vw p1.st) e, rfl, rfl⟩) fun c s2 ⟨H2, I2, e1, e2⟩ => ?_
  subst e1 e2
  exact ⟨.bl (!c), H2, I2, rfl, q3.now p1.st _ (.bl _)⟩
theorem pe_negD (xo : XOk Γ k N sc X) (ha : PE X A (tD Γ a (rRes Γ) W)) : PE X (.UnaryOp .USub A pos) (tD Γ (fun env st => (a env st).bind fun ra st1 => match ra with
    | .val (.int i) => .ok (.val (.int (-i))) st1
    | _ => .bad) (rRes Γ) W) := by
  refine ⟨fun pins s σ H Q I h => ?_⟩
  obtain ⟨H0, g, env, st, r, hp⟩ := h
  refine UnaryOp_ (thn (runE ha I r hp.bind) fun u s1 ⟨x, H1, g1, st1, r1, I1, rx, x1, p1, rr1, q1⟩ => ?_)
  split at q1
  · cases rr1
    exact un_neg pins s1 σ H1 _ u Q I1 rx ⟨_, rfl, q1.now p1.st _ (.int _)⟩
  · exact q1.elim
/-- (a and b ..) as a value -/
theorem pe_andD (ha : PE X A (tD Γ a (rRes Γ) W)) (hb : PE X (.BoolOp .And (B :: As) pos) (tD Γ b (rRes Γ) W)) : PE X (.BoolOp .And (A :: B :: As) pos) (tD Γ (fun env st => (a env st).bind fun r st1 => match r with
    | .val (.bl true) => b env st1
    | .val (.bl false) => .ok (.val (.bl false)) st1
    | _ => .bad) (rRes Γ) W) := by
  refine ⟨fun pins s σ H Q I h => ?_⟩
  obtain ⟨H0, g, env, st, r, hp⟩ := h
  refine BoolOp_and (thn (runE ha I r hp.bind) fun u s1 ⟨x, H1, g1, st1, r1, I1, rx, x1, p1, rr1, q1⟩ => ?_)
  split at q1
  · cases rr1
    cases rx
    refine wpAny_truthy_bool ?_
    refine thn (runE hb I1 p1 q1) fun v s2 ⟨y, H2, g2, st2, r2, I2, ry, x2, p2, rr2, q2⟩ => ⟨y, H2, I2, ry, q2 y (rr2.back fun a h => x1.dom a h)⟩
  · cases rr1
    cases rx
    exact wpAny_truthy_bool ⟨.bl false, H1, I1, rfl, q1.now p1.st _ (.bl _)⟩
  · exact q1.elim
theorem pe_orD (ha : PE X A (tD Γ a (rRes Γ) W)) (hb : PE X (.BoolOp .Or (B :: As) pos) (tD Γ b (rRes Γ) W)) : PE X (.BoolOp .Or (A :: B :: As) pos) (tD Γ (fun env st => (a env st).bind fun r st1 => match r with
    | .val (.bl false) => b env st1
    | .val (.bl true) => .ok (.val (.bl true)) st1
    | _ => .bad) (rRes Γ) W) := by
  refine ⟨fun pins s σ H Q I h => ?_⟩
  obtain ⟨H0, g, env, st, r, hp⟩ := h
  refine BoolOp_or (thn (runE ha I r hp.bind) fun u s1 ⟨x, H1, g1, st1, r1, I1, rx, x1, p1, rr1, q1⟩ => ?_)
  split at q1
  · cases rr1
    cases rx
    refine wpAny_truthy_bool ?_
    refine thn (runE hb I1 p1 q1) fun v s2 ⟨y, H2, g2, st2, r2, I2, ry, x2, p2, rr2, q2⟩ => ⟨y, H2, I2, ry, q2 y (rr2.back fun a h => x1.dom a h)⟩
  · cases rr1
    cases rx
    exact wpAny_truthy_bool ⟨.bl true, H1, I1, rfl, q1.now p1.st _ (.bl _)⟩
  · exact q1.elim
/-- .. as a test -/
theorem pw_andD (ht : PT X A (tDT Γ t W)) (hb : PW X (.BoolOp .And (B :: As) pos) (tDT Γ t2 W)) : PW X (.BoolOp .And (A :: B :: As) pos) (tDT Γ (fun env st => (t env st).bind fun b st1 => if b = true then t2 env st1 else .ok false st1) W) := by
  refine ⟨fun wh pins s σ H Q I h => ?_⟩
  obtain ⟨H0, g, env, st, r, hp⟩ := h
  refine isTrue_and (thn (runT ht I r hp.bind) fun b s1 ⟨H1, g1, st1, I1, x1, p1, q1⟩ => ?_)
  cases b with
  | true => exact hb.run wh pins s1 σ H1 Q I1 ⟨H0, g1, env, st1, p1, q1⟩
  | false => exact ⟨H1, I1, q1.now p1.st⟩
theorem pw_orD (ht : PT X A (tDT Γ t W)) (hb : PW X (.BoolOp .Or (B :: As) pos) (tDT Γ t2 W)) : PW X (.BoolOp .Or (A :: B :: As) pos) (tDT Γ (fun env st => (t env st).bind fun b st1 => if b = true then .ok true st1 else t2 env st1) W) := by
  refine ⟨fun wh pins s σ H Q I h => ?_⟩
  obtain ⟨H0, g, env, st, r, hp⟩ := h
  refine isTrue_or (thn (runT ht I r hp.bind) fun b s1 ⟨H1, g1, st1, I1, x1, p1, q1⟩ => ?_)
  cases b with
  | false => exact hb.run wh pins s1 σ H1 Q I1 ⟨H0, g1, env, st1, p1, q1⟩
  | true => exact ⟨H1, I1, q1.now p1.st⟩
/-- a if t else b -/
theorem pe_ifD (ht : PT X C (tDT Γ t W)) (ha : PE X A (tD Γ a (rRes Γ) W)) (hb : PE X B (tD Γ b (rRes Γ) W)) : PE X (.IfExp C A B pos) (tD Γ (fun env st => (t env st).bind fun t st1 => if t = true then a env st1 else b env st1) (rRes Γ) W) := by
  refine ⟨fun pins s σ H Q I h => ?_⟩
  obtain ⟨H0, g, env, st, r, hp⟩ := h
  refine wpAny_IfExp (thn (runT ht I r hp.bind) fun b s1 ⟨H1, g1, st1, I1, x1, p1, q1⟩ => ?_)
  cases b with
  | true => exact thn (runE ha I1 p1 q1) fun v s2 ⟨y, H2, g2, st2, r2, I2, ry, x2, p2, rr2, q2⟩ => ⟨y, H2, I2, ry, q2 y (rr2.back fun a h => x1.dom a h)⟩
  | false => exact thn (runE hb I1 p1 q1) fun v s2 ⟨y, H2, g2, st2, r2, I2, ry, x2, p2, rr2, q2⟩ => ⟨y, H2, I2, ry, q2 y (rr2.back fun a h => x1.dom a h)⟩

/-! names, constants -/
theorem pe_varD {i : Nat} {x : Str} (xo : XOk Γ k N sc X) (h1 : N[i]? = some x) (h2 : visB sc x = true) (h3 : (x == ("__debug__" : Str)) = false) (h4 : (x == ("__classdict__" : Str)) = false) :
    PE X (.Name x pos) (tD Γ (fun env st => match env[i]? with
      | some (some (.val d)) => .ok (.val d) st
      | some (some (.own c)) => .ok (.bor c) st
      | _ => .bad) (rRes Γ) W) := by
  refine ⟨fun pins s σ H Q I h => ?_⟩
  obtain ⟨H0, g, env, st, r, hp⟩ := h
  refine (pe_var (i := i) (by rw [xo.names]; exact h1) (by rw [xo.sc]; exact vis_of h2) h3 h4).run pins s σ H Q I ?_
  dsimp only at hp
  split at hp
  · rename_i d e
    obtain ⟨v, hv, rv⟩ := r.env.at' i _ e
    exact ⟨v, hv, hp.now r.st v rv⟩
  · rename_i c e
    obtain ⟨v, hv, rv⟩ := r.env.at' i _ e
    refine ⟨v, hv, hp.now r.st v ?_⟩
    obtain ⟨a, rfl, _, _, hl, hc⟩ := rv
    exact ⟨a, rfl, hl, hc⟩
  · exact hp.elim
theorem pe_cstD {e : Expr} {d : D} {v : V} (h : PE X e (tC v)) (r : ∀ H g, RD Γ.K Γ.Cl H g d v) : PE X e (tD Γ (fun _ st => .ok (.val d) st) (rRes Γ) W) :=
  ⟨fun pins s σ H Q I ⟨_, g, _, _, rp, hp⟩ => h.run pins s σ H Q I (hp.now rp.st v (r H g))⟩
end
end Py
end

section
set_option maxRecDepth 100000
set_option maxHeartbeats 4000000
set_option linter.all false
/-! Displays, subscripts, calls. -/
namespace Py
open PySem L2 PySem.Spec PyProof.Rows

section
variable {Γ : Ctx} {k : Nat} {N : List Str} {sc : Scope} {X : Cx} {pins : List (Addr × Obj)} {σ : L2.St} {H : Hp} {g : Gh} {s : Shared} {st : Store} {Q : VK} {W : L2.St → WC}
variable {a b c : Env → Store → Out Res} {t t2 : Env → Store → Out Bool} {as : Env → Store → Out (List Res)} {A B C : Expr} {As : List Expr} {pos : Pos}

/-! argument lists -/
theorem pa_nilD : PA X [] (tDA Γ (fun _ st => .ok [] st) W) := by
  refine ⟨fun pos pins s σ H Q I h => ?_⟩
  obtain ⟨H0, g, env, st, r, hp⟩ := h
  exact Calls.spliced_nil ⟨[], H, I, .nil, hp.now r.st [] .nil⟩
theorem pa_consD (ha : PE X A (tD Γ a (rRes Γ) W)) (hs : PA X As (tDA Γ as W)) (he : starEach (A :: As) X.env = (false, eval A X.env) :: starEach As X.env) :
    PA X (A :: As) (tDA Γ (fun env st => (a env st).bind fun r st1 => (as env st1).bind fun rs st2 => .ok (r :: rs) st2) W) := by
  refine ⟨fun pos pins s σ H Q I h => ?_⟩
  obtain ⟨H0, g, env, st, r, hp⟩ := h
  rw [he]
  show wpAny _ _ (spliced ((false, eval A X.env) :: backTo pos (starEach As X.env))) _ _ s
  refine Calls.spliced_cons (thn (runE ha I r hp.bind) fun u s1 ⟨x, H1, g1, st1, r1, I1, rx, x1, p1, rr1, q1⟩ => ?_)
  refine thn (runA hs pos I1 p1 q1.bind) fun us s2 ⟨vs, H2, g2, st2, rs, I2, rvs, x2, p2, rr2, q2⟩ => ?_
  refine ⟨x :: vs, H2, I2, .cons rx rvs, q2.now p2.st (x :: vs) (.cons (rr1.ext x2) (Paired.mapP rr2 fun r v h => h.back fun a h => x1.dom a h))⟩

/-! own lists that become plain -/
def ownAt (rs : List Res) (vs : List V) (a : Addr) : Prop := ∃ (i : Nat) (c : Cell), rs[i]? = some (.own c) ∧ vs[i]? = some (.ref a)
def Gh.frz (g : Gh) (rs : List Res) (vs : List V) : Gh := ⟨fun a => g.P a ∧ ¬ ownAt rs vs a, g.L⟩
theorem Paired.at {α β : Type} {R : α → β → Prop} : ∀ {l : List α} {m : List β} {i : Nat} {x : α} {y : β}, Paired R l m → l[i]? = some x → m[i]? = some y → R x y
  | _, _, _, _, _, .nil, h, _ => by simp at h
  | _, _, 0, _, _, .cons h _, h1, h2 => by simp at h1 h2; subst h1 h2; exact h
  | _, _, i + 1, _, _, .cons _ t, h1, h2 => Paired.at (i := i) t (by simpa using h1) (by simpa using h2)
section
variable {K : PySem.W.Frag} {Cl : Cls} {Hs : Hp} {rs : List Res} {vs : List V} {g0 : Gh} {st0 : Store}
theorem own_of (h : Paired (RR K Cl Hs H g) rs vs) {a : Addr} (o : ownAt rs vs a) : Hs a = none ∧ a ∉ g.L := by
  obtain ⟨i, c, h1, h2⟩ := o
  obtain ⟨b, e, n, _, l, _⟩ := Paired.at h h1 h2
  cases e
  exact ⟨n, l⟩
theorem frz_kp : Kp H g H (g.frz rs vs) := ⟨fun _ _ h _ => h, fun _ h => .inl h.1, List.prefix_refl _⟩
theorem frz_st (h : Paired (RR K Cl Hs H g) rs vs) (s : RepSt K Cl H g st) : RepSt K Cl H (g.frz rs vs) st := by
  refine ⟨s.len, s.nd, fun a m => ⟨s.prot a m, fun o => (own_of h o).2 m⟩, fun a p => s.dom a p.1, fun n c e => ?_⟩
  obtain ⟨a, h1, h2⟩ := s.cell n c e
  exact ⟨a, h1, h2.kp frz_kp rfl⟩
theorem frz_ext (h : Paired (RR K Cl Hs H g) rs vs) (x : Ext Hs g0 H g) (s0 : RepSt K Cl Hs g0 st0) : Ext Hs g0 H (g.frz rs vs) :=
  ⟨x.kp.trans frz_kp, x.keep, x.dom, fun a p => ⟨x.stay a p, fun o => s0.dom a p (own_of h o).1⟩, x.fresh⟩
theorem toD_rd {r : Res} {v : V} {d : D} (h : RR K Cl Hs H g r v) (e : r.toD = some d) {g' : Gh} (k : Kp H g H g') (n : ∀ a c, r = .own c → v = .ref a → ¬ g'.P a) : RD K Cl H g' d v := by
  cases r with
  | val d' =>
    simp only [Res.toD, Option.some.injEq] at e
    subst e
    exact RD.kp k h
  | own c =>
    cases c <;> simp only [Res.toD, Option.some.injEq, reduceCtorEq] at e
    subst e
    obtain ⟨a, rfl, _, _, _, us, hu, hr⟩ := h
    exact .lst ⟨hu, n a _ rfl rfl⟩ (RDs.kp k hr)
  | bor c => simp [Res.toD] at e
theorem frz_rds (h : Paired (RR K Cl Hs H g) rs vs) : ∀ {ds : List D}, toDs rs = some ds → RDs K Cl H (g.frz rs vs) ds vs := by
  have go : ∀ (rs' : List Res) (vs' : List V) (pre : Nat) (ds : List D), rs.drop pre = rs' → vs.drop pre = vs' → Paired (RR K Cl Hs H g) rs' vs' → toDs rs' = some ds → RDs K Cl H (g.frz rs vs) ds vs' := by
    intro rs'
    induction rs' with
    | nil => intro vs' pre ds _ _ h e; cases h; simp only [toDs, Option.some.injEq] at e; subst e; exact .nil
    | cons r rs' ih =>
      intro vs' pre ds e1 e2 h e
      cases h with
      | @cons _ v _ vs' h t =>
        simp only [toDs] at e
        cases q1 : r.toD with
        | none => rw [q1] at e; cases e
        | some d =>
          cases q2 : toDs rs' with
          | none => rw [q1, q2] at e; cases e
          | some ds' =>
            rw [q1, q2] at e
            simp only [Option.some.injEq] at e
            subst e
            refine .cons (toD_rd h q1 frz_kp ?_) (ih vs' (pre + 1) ds' ?_ ?_ t q2)
            · rintro a c rfl rfl p
              refine p.2 ⟨pre, c, ?_, ?_⟩
              · have := congrArg (fun l => l[0]?) e1
                simpa using this
              · have := congrArg (fun l => l[0]?) e2
                simpa using this
            · rw [← List.drop_drop, e1]; rfl
            · rw [← List.drop_drop, e2]; rfl
  exact fun {ds} e => go rs vs 0 ds rfl rfl h e
end

theorem Post.bind' {α β : Type} {o : Out α} {f : α → Store → Out β} {R : Hp → Gh → Store → β → Prop} {w : WC} (h : Post Γ H g (o.bind f) R w) :
    Post Γ H g o (fun _ _ st1 a => Post Γ H g (f a st1) R w) w := by
  cases o with
  | ok a st => exact fun H1 g1 x s => h
  | exc c fs st => exact h
  | bad => exact h

/-! tuples, lists -/
theorem pe_tupD {kk : Nat} (hs : PA X As (tDA Γ as W)) : PE X (.Tuple As kk pos) (tD Γ (fun env st => (as env st).bind fun rs st1 => match toDs rs with
    | some ds => if ds.length ≤ sizeLine then .ok (.val (.tup ds)) st1 else .bad
    | none => .bad) (rRes Γ) W) := by
  refine ⟨fun pins s σ H Q I h => ?_⟩
  obtain ⟨H0, g, env, st, r, hp⟩ := h
  refine (pe_tup (t := fun σ' H' Q' => σ' = σ ∧ H' = H ∧ ∀ vs H1, (∃ g1 st1 rs, Ext H g H1 g1 ∧ RepSt Γ.K Γ.Cl H1 g1 st1 ∧ Paired (RR Γ.K Γ.Cl H H1 g1) rs vs ∧ Post Γ H g (match toDs rs with
    | some ds => if ds.length ≤ sizeLine then .ok (.val (.tup ds)) st1 else .bad
    | none => .bad) (fun H' g' _ r => ∀ v, rRes Γ H H' g' r v → Q v H') (W σ)) → Q' vs H1) ⟨fun pos pins s σ' H' Q' I' ⟨e1, e2, q⟩ => ?_⟩).run pins s σ H Q I ⟨rfl, rfl, ?_⟩
  · subst e1 e2
    exact thn (runA hs pos I' r hp.bind') fun us s1 ⟨vs, H1, g1, st1, rs, I1, rv, x1, p1, rr, q1⟩ => ⟨vs, H1, I1, rv, q vs H1 ⟨g1, st1, rs, x1, p1.st, rr, q1⟩⟩
  · rintro vs H1 ⟨g1, st1, rs, x1, s1, rr, q⟩
    cases e : toDs rs with
    | none => rw [e] at q; exact q.elim
    | some ds =>
      rw [e] at q
      have hr := frz_rds rr e
      dsimp only at q
      split at q
      · rename_i hz
        refine ⟨by rw [← hr.length]; exact hz, fun p np => ?_⟩
        have s2 := frz_st rr s1
        exact q _ _ ((frz_ext rr x1 r.st).trans (.new np)) (s2.new np) _ (rd_tup s2 np hr)
      · exact q.elim
theorem pe_lstD (hs : PA X As (tDA Γ as W)) : PE X (.List As pos) (tD Γ (fun env st => (as env st).bind fun rs st1 => match toDs rs with
    | some ds => if ds.length ≤ sizeLine then .ok (.own (.lst ds)) st1 else .bad
    | none => .bad) (rRes Γ) W) := by
  refine ⟨fun pins s σ H Q I h => ?_⟩
  obtain ⟨H0, g, env, st, r, hp⟩ := h
  refine (pe_lst (t := fun σ' H' Q' => σ' = σ ∧ H' = H ∧ ∀ vs H1, (∃ g1 st1 rs, Ext H g H1 g1 ∧ RepSt Γ.K Γ.Cl H1 g1 st1 ∧ Paired (RR Γ.K Γ.Cl H H1 g1) rs vs ∧ Post Γ H g (match toDs rs with
    | some ds => if ds.length ≤ sizeLine then .ok (.own (.lst ds)) st1 else .bad
    | none => .bad) (fun H' g' _ r => ∀ v, rRes Γ H H' g' r v → Q v H') (W σ)) → Q' vs H1) ⟨fun pos pins s σ' H' Q' I' ⟨e1, e2, q⟩ => ?_⟩).run pins s σ H Q I ⟨rfl, rfl, ?_⟩
  · subst e1 e2
    exact thn (runA hs pos I' r hp.bind') fun us s1 ⟨vs, H1, g1, st1, rs, I1, rv, x1, p1, rr, q1⟩ => ⟨vs, H1, I1, rv, q vs H1 ⟨g1, st1, rs, x1, p1.st, rr, q1⟩⟩
  · rintro vs H1 ⟨g1, st1, rs, x1, s1, rr, q⟩
    cases e : toDs rs with
    | none => rw [e] at q; exact q.elim
    | some ds =>
      rw [e] at q
      have hr := frz_rds rr e
      dsimp only at q
      split at q
      · rename_i hz
        refine ⟨by rw [← hr.length]; exact hz, fun p np => ?_⟩
        have s2 := frz_st rr s1
        have x2 := frz_ext rr x1 r.st
        exact q _ _ (x2.trans (.newP np)) (s2.newP np) _ (rr_lst s2 np (x2.dom p np) hr)
      · exact q.elim

/-! subscripts -/
theorem pe_ixD (xo : XOk Γ k N sc X) (ha : PE X A (tD Γ a (rRes Γ) W)) (hb : PE X B (tD Γ b (rRes Γ) W)) (hs : PlainIx B) :
    PE X (.Subscript A B pos) (tD Γ (fun env st => (a env st).bind fun ra st1 => (b env st1).bind fun rb st2 => Out.of ((opIx (ra.vw st2) (rb.vw st2)).map .val) st2) (rRes Γ) W) := by
  refine ⟨fun pins s σ H Q I h => ?_⟩
  obtain ⟨H0, g, env, st, r, hp⟩ := h
  refine Subscript_ (thn (runE ha I r hp.bind) fun u s1 ⟨x, H1, g1, st1, r1, I1, rx, x1, p1, rr1, q1⟩ => thn (runE hb I1 p1 q1.bind) fun v s2 ⟨y, H2, g2, st2, r2, I2, ry, x2, p2, rr2, q2⟩ => ?_)
  obtain ⟨rs, e, q3⟩ := q2.of
  simp only [Option.map_eq_some_iff] at e
  obtain ⟨d, e, rfl⟩ := e
  exact ix_sound xo.K xo.hu I2 rx ry ((rr1.ext x2).vw p2.st) (rr2.vw p2.st) hs e fun z rz => q3.now p2.st z rz
/-- a slice's part -/
def tDP (Γ : Ctx) (ev : Env → Store → Out (Option Int)) (W : L2.St → WC) : TO := fun σ H Q =>
  ∃ H0 g env st, Rep Γ H0 H g σ env st ∧ Post Γ H g (ev env st) (fun H' _ _ b => Q b H') (W σ)
theorem po_noneD : PO X none (tDP Γ (fun _ st => .ok none st) W) :=
  ⟨fun pins s σ H Q I ⟨_, g, _, _, rp, hp⟩ => po_none.run pins s σ H Q I (hp.now rp.st)⟩
theorem po_someD (ha : PE X A (tD Γ a (rRes Γ) W)) : PO X (some A) (tDP Γ (fun env st => (a env st).bind fun r st1 => match r with
    | .val (.int i) => .ok (some i) st1
    | _ => .bad) W) := by
  refine ⟨fun pins s σ H Q I h => ?_⟩
  obtain ⟨H0, g, env, st, r, hp⟩ := h
  refine (po_some (te := fun σ' H' Q' => σ' = σ ∧ H' = H ∧ ∀ v H1, (∃ g1 st1 r1, RepSt Γ.K Γ.Cl H1 g1 st1 ∧ RR Γ.K Γ.Cl H H1 g1 r1 v ∧ Post Γ H1 g1 (match r1 with
    | .val (.int i) => .ok (some i) st1
    | _ => .bad) (fun H' _ _ b => Q b H') (W σ)) → Q' v H1) ⟨fun pins s σ' H' Q' I' ⟨e1, e2, q⟩ => ?_⟩).run pins s σ H Q I ⟨rfl, rfl, ?_⟩
  · subst e1 e2
    exact thn (runE ha I' r hp.bind) fun u s1 ⟨x, H1, g1, st1, r1, I1, rx, x1, p1, rr1, q1⟩ => ⟨x, H1, I1, rx, q x H1 ⟨g1, st1, r1, p1.st, rr1, q1⟩⟩
  · rintro v H1 ⟨g1, st1, r1, s1, rr, q⟩
    split at q
    · cases rr
      exact ⟨_, rfl, q.now s1⟩
    · exact q.elim
theorem runP {o : Option Expr} {ev : Env → Store → Out (Option Int)} {H0 : Hp} {env : Env} (ha : PO X o (tDP Γ ev W)) (I : Inv X pins σ H s) (r : Rep Γ H0 H g σ env st) {R : Hp → Gh → Store → Option Int → Prop} (h : Post Γ H g (ev env st) R (W σ)) :
    wpAny (model X.prog X.w) X.A (PySem.evalPart o X.env) (fun u s1 => ∃ o H1 g1 st1, Inv X pins σ H1 s1 ∧ IsPart u o ∧ Ext H g H1 g1 ∧ Rep Γ H0 H1 g1 σ env st1 ∧ R H1 g1 st1 o) X.xe s := by
  refine thn (ha.run pins s σ H (fun b H' => ∃ g1 st1, Ext H g H' g1 ∧ Rep Γ H0 H' g1 σ env st1 ∧ R H' g1 st1 b) I ⟨H0, g, env, st, r, h.imp fun H' g' st' a x s q => ⟨g', st', x, r.ext x s, q⟩⟩) fun u s1 ⟨o, H1, I1, hp, g1, st1, e1, p1, q⟩ => ?_
  exact ⟨o, H1, g1, st1, I1, hp, e1, p1, q⟩
theorem pe_slD {lo hi : Env → Store → Out (Option Int)} {Lo Hi : Option Expr} {p2 : Pos} (xo : XOk Γ k N sc X) (ha : PE X A (tD Γ a (rRes Γ) W)) (hl : PO X Lo (tDP Γ lo W)) (hh : PO X Hi (tDP Γ hi W)) :
    PE X (.Subscript A (.Slice Lo Hi none p2) pos) (tD Γ (fun env st => (a env st).bind fun ra st1 => (lo env st1).bind fun l st2 => (hi env st2).bind fun h st3 => Out.of (opSl (ra.vw st3) l h) st3) (rRes Γ) W) := by
  refine ⟨fun pins s σ H Q I h => ?_⟩
  obtain ⟨H0, g, env, st, r, hp⟩ := h
  refine Subscript_ (thn (runE ha I r hp.bind) fun v s1 ⟨x, H1, g1, st1, r1, I1, rx, x1, p1, rr1, q1⟩ => ?_)
  refine wpAny_Slice (thn (runP hl I1 p1 q1.bind) fun vl s2 ⟨l, H2, g2, st2, I2, pl, x2, p2', q2⟩ => thn (runP hh I2 p2' q2.bind) fun vu s3 ⟨u, H3, g3, st3, I3, pu, x3, p3, q3⟩ => ?_)
  rw [evalPart_none]
  refine wpAny_pure ?_
  obtain ⟨rs, e, q4⟩ := q3.of
  have I4 : Inv X pins σ H3 { s3 with heap := s3.heap.push { cls := .type "slice", data := .fields #[vl, vu, .none] } } := I3.kept (t' := s3.toks) fun b ob q => Heap.get?_push_of_some _ q
  obtain ⟨T, id, hT, ht, hg⟩ := sl_sound (sl := s3.heap.objs.size) xo.K I4 rx (((rr1.ext x2).ext x3).vw p3.st) p3.st (Heap.IsSliceOf.new ..) pl pu e (q4.ans (Q := Q) fun a h => x1.dom a (x2.dom a (x3.dom a h)))
  show wpAny (model X.prog X.w) X.A (subscriptTail A (.Slice Lo Hi none p2) v (.ref s3.heap.objs.size)) (EP X pins σ Q) X.xe { s3 with heap := s3.heap.push { cls := .type "slice", data := .fields #[vl, vu, .none] } }
  exact tail_any (ops := [.ref s3.heap.objs.size, v]) ht hT hg (by with_unfolding_all rfl)
end
end Py
end

section
set_option maxRecDepth 100000
set_option maxHeartbeats 4000000
set_option linter.all false
/-! Calls. -/
namespace Py
open PySem L2 PySem.Spec PyProof.Rows

section
variable {Γ : Ctx} {k : Nat} {N : List Str} {sc : Scope} {X : Cx} {pins : List (Addr × Obj)} {σ : L2.St} {H : Hp} {g : Gh} {s : Shared} {st : Store} {Q : VK} {W : L2.St → WC}
variable {a b c : Env → Store → Out Res} {t t2 : Env → Store → Out Bool} {as : Env → Store → Out (List Res)} {A B C : Expr} {As : List Expr} {pos p : Pos} {F : Fsem} {f : Nat} {i : FI} {x : Str}

theorem gl_of (xo : XOk Γ k N sc X) (h : glB sc x = true) : Gl X x := by
  show X.env.scope.names.lookup x = _
  rw [xo.sc]
  exact glB_1 h

/-- the callee runs -/
theorem run_fnG {us : List Value} {vs : List V} {sp : Sp} {ad : Addr} {fd : FuncData} {ps : List Str} {kk : Nat} (xo : XOk Γ k N sc X) (Fn : FnG Γ kk ad fd ps sp) (hk : kk ≤ k) (hb : Binds Γ.K fd ps []) (tk : Takes X (fun c d σ H => W σ c d H)) (I : Inv X pins σ H s) (r : Vals vs us) (h : sp vs H Q (W σ)) :
    wpAny (model X.prog X.w) X.A (call (.ref ad) us) (EP X pins σ Q) X.xe s := by
  have hl : us.length = ps.length := by rw [← r.length]; exact Fn.len _ _ _ _ h
  have e0 := I.env0
  rw [xo.prog, xo.w, xo.K, xo.mg, xo.base] at e0
  have hb' := hb s us (by rw [← xo.K]; exact I.kIn) (by rw [List.append_nil]; exact hl)
  rw [List.append_nil] at hb'
  have run := Fn.run X.A X.stack s H ⟨us, []⟩ us vs Q (W σ) (xo.room.mono hk) xo.gd e0 hb' r h
  rw [← xo.prog, ← xo.w] at run
  refine wpAny_call (codeAny_mono run fun r s' hq => ?_)
  cases r with
  | error e => exact tk e s' (XE.of_call I (fun _ _ _ h => h) hq)
  | ok fl =>
    cases fl with
    | ret u => exact I.after hq
    | next => exact False.elim hq
    | brk => exact False.elim hq
    | cont => exact False.elim hq

/-- a body of code takes exceptions so -/
abbrev wx (W : L2.St → WC) : WX := fun c d σ H => W σ c d H
theorem pe_callD {kk : Nat} (xo : XOk Γ k N sc X) (ok : FOk Γ kk F f i) (hk : kk ≤ k) (hx : i.nm = x) (h3 : glB sc x = true) (tk : Takes X (wx W)) (hn : ∀ env st rs st', as env st = .ok rs st' → rs.length = i.ps.length)
    (hs : PA X (A :: As) (tDA Γ as W)) (he : starEach (A :: As) X.env = (false, eval A X.env) :: starEach As X.env) (hpl : (backTo pos (starEach As X.env)).any (·.1) = false) :
    PE X (.Call (.Name x p) (A :: As) [] pos) (tD Γ (fun env st => (as env st).bind fun rs st1 => match toDs rs with
      | some ds => F f ds st1
      | none => .bad) (rRes Γ) W) := by
  subst hx
  refine ⟨fun pins s σ H Q I h => ?_⟩
  obtain ⟨H0, g, env, st, r, hp⟩ := h
  refine wpAny_Call_Name_kw (ld_glob I (gl_of xo h3) (by rw [xo.mg]; exact ok.mg) ?_ (glB_2 h3))
  refine PySem.W.callWith_K (h₀ := X.base) I.ok.mod.kin (by rw [xo.K]; exact ok.kp) ?_ he hpl
  have hp2 : Post Γ H g (as env st) (fun _ _ st1 rs => rs.length = i.ps.length ∧ Post Γ H g (match toDs rs with
      | some ds => F f ds st1
      | none => .bad) (fun H' g' _ r => ∀ v, rRes Γ H H' g' r v → Q v H') (W σ)) (W σ) := by
    have q := hp.bind'
    cases e : as env st with
    | ok rs st' => rw [e] at q; exact fun H' g' x s => ⟨hn env st rs st' e, q H' g' x s⟩
    | exc c fs st' => rw [e] at q; exact q
    | bad => rw [e] at q; exact q.elim
  refine thn (runA hs pos I r hp2) fun us s1 ⟨vs, H1, g1, st1, rs, I1, rv, x1, p1, rr, hlen, q1⟩ => ⟨I1.kIn, ?_⟩
  cases e : toDs rs with
  | none => rw [e] at q1; exact q1.elim
  | some ds =>
    rw [e] at q1
    have hr := frz_rds rr e
    have hx2 := frz_ext rr x1 r.st
    have hl2 : ds.length = i.ps.length := by rw [hr.length, ← Paired.length rr]; exact hlen
    exact run_fnG xo ok.fn hk ok.binds tk I1 rv ⟨g1.frz rs vs, ds, st1, hr, frz_st rr p1.st, hl2, (q1.start hx2).imp fun H' g' st' a x s q v rv => q v (rv.back fun a h => x1.dom a h)⟩
theorem pe_call0D {kk : Nat} (xo : XOk Γ k N sc X) (ok : FOk Γ kk F f i) (hk : kk ≤ k) (hx : i.nm = x) (h3 : glB sc x = true) (tk : Takes X (wx W)) (hn : i.ps.length = 0) :
    PE X (.Call (.Name x p) [] [] pos) (tD Γ (fun _ st => F f [] st) (rRes Γ) W) := by
  subst hx
  refine ⟨fun pins s σ H Q I h => ?_⟩
  obtain ⟨H0, g, env, st, r, hp⟩ := h
  refine wpAny_Call_Name_kw (ld_glob I (gl_of xo h3) (by rw [xo.mg]; exact ok.mg) ?_ (glB_2 h3))
  exact PySem.W.callWith_K0 I.kIn (by rw [xo.K]; exact ok.kp) (run_fnG (us := []) xo ok.fn hk ok.binds tk I .nil ⟨g, [], st, .nil, r.st, hn.symm, hp⟩)

/-! built-ins -/
theorem rr_vws {Hs : Hp} {st : Store} (s : RepSt Γ.K Γ.Cl H g st) : ∀ {rs : List Res} {vs : List V}, Paired (RR Γ.K Γ.Cl Hs H g) rs vs → VwRs Γ.K Γ.Cl H g (rs.map (·.vw st)) vs
  | _, _, .nil => .nil
  | _, _, .cons h t => .cons (h.vw s) (rr_vws s t)
theorem biV_form (f : BI) : (∃ id, biV f = .builtin id) ∨ ∃ T, biV f = .type T := by
  cases f <;> first | exact .inl ⟨_, rfl⟩ | exact .inr ⟨_, rfl⟩
theorem boot_bi (f : BI) : bootBuiltins (biN f) = some (biV f) := by
  cases f <;> decide +kernel
theorem pe_biD {fb : BI} (xo : XOk Γ k N sc X) (bo : BiOk Γ) (hx : biN fb = x) (h3 : glB sc x = true)
    (hs : PA X (A :: As) (tDA Γ as W)) (he : starEach (A :: As) X.env = (false, eval A X.env) :: starEach As X.env) (hpl : (backTo pos (starEach As X.env)).any (·.1) = false) :
    PE X (.Call (.Name x p) (A :: As) [] pos) (tD Γ (fun env st => (as env st).bind fun rs st1 => Out.of (opBI fb (rs.map (·.vw st1))) st1) (rRes Γ) W) := by
  subst hx
  refine ⟨fun pins s σ H Q I h => ?_⟩
  obtain ⟨H0, g, env, st, r, hp⟩ := h
  refine wpAny_Call_Name_kw (ld_blt I (gl_of xo h3) (by rw [xo.mg]; exact bo.bi fb) (boot_bi fb) ?_ (glB_3 h3) (glB_2 h3))
  have core : wpAny (model X.prog X.w) X.A (spliced (backTo pos (starEach (A :: As) X.env))) (fun vs s₁ => wpAny (model X.prog X.w) X.A (call (biV fb) vs) (EP X pins σ Q) X.xe s₁) X.xe s := by
    refine thn (runA hs pos I r hp.bind) fun us s1 ⟨vs, H1, g1, st1, rs, I1, rv, x1, p1, rr, q1⟩ => ?_
    obtain ⟨r2, e, q2⟩ := q1.of
    exact bi_sound xo.K xo.calm xo.gd xo.hu I1 rv (rr_vws p1.st rr) p1.st e (q2.ans fun a h => x1.dom a h)
  rcases biV_form fb with ⟨id, e⟩ | ⟨T, e⟩
  · rw [e] at core ⊢
    exact PyProof.Rows.callWith_builtin1 core he hpl
  · rw [e] at core ⊢
    exact PyProof.Rows.callWith_type1 core he hpl
theorem pe_isiD {tn : String} {p2 : Pos} (xo : XOk Γ k N sc X) (bo : BiOk Γ) (h3 : glB sc "isinstance" = true) (h4 : glB sc x = true) (h5 : bootBuiltins x = some (.type tn)) (h6 : x ∈ tyNames)
    (ha : PE X A (tD Γ a (rRes Γ) W)) (he : ∀ es, starEach (A :: es) X.env = (false, eval A X.env) :: starEach es X.env) :
    PE X (.Call (.Name "isinstance" p) [A, .Name x p2] [] pos) (tD Γ (fun env st => (a env st).bind fun ra st1 => Out.of ((opIsi (ra.vw st1) tn).map fun b => .val (.bl b)) st1) (rRes Γ) W) := by
  refine ⟨fun pins s σ H Q I h => ?_⟩
  obtain ⟨H0, g, env, st, r, hp⟩ := h
  refine wpAny_Call_Name_kw (ld_blt I (gl_of xo h3) (by rw [xo.mg]; exact bo.isi) (by decide +kernel : bootBuiltins "isinstance" = some (.builtin "isinstance")) ?_ (glB_3 h3) (glB_2 h3))
  refine PyProof.Rows.callWith_builtin1 ?_ (he _) rfl
  rw [he]
  show wpAny _ _ (spliced ((false, eval A X.env) :: backTo pos (starEach [.Name x p2] X.env))) _ _ s
  refine Calls.spliced_cons (thn (runE ha I r hp.bind) fun u s1 ⟨x0, H1, g1, st1, r1, I1, rx, x1, p1, rr1, q1⟩ => ?_)
  have hty : PE X (.Name x p2) (tC (.ty tn)) := pe_bltn (gl_of xo h4) (by rw [xo.mg]; exact bo.ty x h6) h5 rfl (glB_3 h4) (glB_2 h4)
  have hpa : PA X [.Name x p2] (tCons (tC (.ty tn)) tNil) := pa_cons hty pa_nil
  refine thn (hpa.run pos pins s1 σ H1 (fun vs H' => vs = [V.ty tn] ∧ H' = H1) I1 ⟨rfl, rfl⟩) fun us s2 ⟨vs, H2, I2, rv, e1, e2⟩ => ?_
  subst e1 e2
  obtain ⟨u2, rfl, ru2⟩ := vals1 rv
  cases ru2
  obtain ⟨r2, e, q2⟩ := q1.of
  simp only [Option.map_eq_some_iff] at e
  obtain ⟨bb, e, rfl⟩ := e
  exact isi_sound xo.K I2 rx (rr1.vw p1.st) e (q2.now p1.st _ (.bl bb))

/-! methods of built-in types -/
theorem recv_ty {K : PySem.W.Frag} {Cl : Cls} {x : V} {m : MI} {o : Vw} (hx : VwR K Cl H g o x) (e : recv m o = true) : tyV K (miT m) x H := by
  unfold recv at e
  split at e
  · obtain ⟨rfl, _⟩ := hx.str; rfl
  · obtain ⟨rfl, _⟩ := hx.str; rfl
  · obtain ⟨rfl, _⟩ := hx.str; rfl
  · obtain ⟨p, kv, rfl, h, _⟩ := hx; exact .inr (.inr (.inl ⟨rfl, .inl ⟨_, h⟩⟩))
  · obtain ⟨p, kv, rfl, h, _⟩ := hx; exact .inr (.inr (.inl ⟨rfl, .inr ⟨_, h⟩⟩))
  · obtain ⟨p, kv, rfl, h, _⟩ := hx; exact .inr (.inr (.inl ⟨rfl, .inl ⟨_, h⟩⟩))
  · obtain ⟨p, kv, rfl, h, _⟩ := hx; exact .inr (.inr (.inl ⟨rfl, .inr ⟨_, h⟩⟩))
  · cases e
theorem mi_facts (m : MI) : PlainAttrs (miT m) ∧ Slot (miT m) (miN m) (miI m) ∧ typeOf (.builtin (miI m)) = pure (.type "method_descriptor") := by
  cases m
  · exact ⟨PySem.F.plainAttrs_str, PySem.F.slot_str_join, PySem.F.type_str_join⟩
  · exact ⟨PySem.F.plainAttrs_str, PySem.F.slot_str_upper, PySem.F.type_str_upper⟩
  · exact ⟨PySem.F.plainAttrs_dict, PySem.F.slot_dict_get, PySem.F.type_dict_get⟩
  · exact ⟨PySem.F.plainAttrs_dict, PySem.F.slot_dict_get, PySem.F.type_dict_get⟩
  · exact ⟨PySem.F.plainAttrs_str, PySem.F.slot_str_count, PySem.F.type_str_count⟩
theorem pe_mthD {m : MI} {O : Expr} {o : Env → Store → Out Res} {apos cpos : Pos} (xo : XOk Γ k N sc X) (ho : PE X O (tD Γ o (rRes Γ) W)) (h1 : notCall O = true) (hline : (apos.endLine == cpos.line) = true) (hlen : As.length < 28)
    (hs : PA X (A :: As) (tDA Γ as W)) (he : starEach (A :: As) X.env = (false, eval A X.env) :: starEach As X.env) (hpl : (backTo cpos (starEach As X.env)).any (·.1) = false) (hall : (backTo cpos (starEach (A :: As) X.env)).all (fun x => !x.1) = true) :
    PE X (.Call (.Attribute O (miN m) apos) (A :: As) [] cpos) (tD Γ (fun env st => (o env st).bind fun ro st1 => if recv m (ro.vw st1) = true then (as env st1).bind fun rs st2 => Out.of (opM m (ro.vw st2) (rs.map (·.vw st2))) st2 else .bad) (rRes Γ) W) := by
  refine ⟨fun pins s σ H Q I h => ?_⟩
  obtain ⟨H0, g, env, st, r, hp⟩ := h
  have hfew : ((backTo cpos (starEach (A :: As) X.env)).all (fun x => !x.1) && (backToKw cpos (keywordEach [] X.env)).all (fun x => x.1.isSome)
      && decide ((A :: As).length + ([] : List Keyword).length + (if ([] : List Keyword).isEmpty then 0 else 1) < 30)) = true := by
    rw [hall]
    simp [keywordEach, backToKw]
    omega
  refine wpAny_Call_method_late (base_of h1 _ _) hfew hline rfl (thn (runE ho I r hp.bind) fun v s1 ⟨x, H1, g1, st1, r1, I1, rx, x1, p1, rr1, q1⟩ => ?_)
  split at q1
  · rename_i hrc
    have ty := recv_ty (rr1.vw p1.st) hrc
    rw [← xo.K] at ty
    obtain ⟨f1, f2, f3⟩ := mi_facts m
    obtain ⟨h1, h2⟩ := tyV_is I1 rx ty
    refine ⟨miT m, miI m, f1, f2, f3, h1, h2, ?_⟩
    have hA := runA hs cpos I1 p1 q1.bind
    rw [he] at hA ⊢
    refine Calls.callWith_builtin (by show (false || (backTo cpos (starEach As X.env)).any (·.1)) = false; rw [hpl] <;> rfl) (Calls.evalArgs_plain ?_)
    refine thn hA fun us s2 ⟨vs, H2, g2, st2, rs, I2, rv, x2, p2, rr2, q2⟩ => ?_
    obtain ⟨r2, e, q3⟩ := q2.of
    exact m_sound xo.K xo.calm xo.hu I2 rx ((rr1.ext x2).vw p2.st) rv (rr_vws p2.st rr2) p2.st e (q3.ans fun a h => x1.dom a (x2.dom a h))
  · exact q1.elim
theorem pe_mth0D {m : MI} {O : Expr} {o : Env → Store → Out Res} {apos cpos : Pos} (xo : XOk Γ k N sc X) (ho : PE X O (tD Γ o (rRes Γ) W)) (h1 : notCall O = true) (hline : (apos.endLine == cpos.line) = true) :
    PE X (.Call (.Attribute O (miN m) apos) [] [] cpos) (tD Γ (fun env st => (o env st).bind fun ro st1 => if recv m (ro.vw st1) = true then (evalRs F .nil env st1).bind fun rs st2 => Out.of (opM m (ro.vw st2) (rs.map (·.vw st2))) st2 else .bad) (rRes Γ) W) := by
  refine ⟨fun pins s σ H Q I h => ?_⟩
  obtain ⟨H0, g, env, st, r, hp⟩ := h
  have hfew : ((backTo cpos (starEach [] X.env)).all (fun x => !x.1) && (backToKw cpos (keywordEach [] X.env)).all (fun x => x.1.isSome)
      && decide (([] : List Expr).length + ([] : List Keyword).length + (if ([] : List Keyword).isEmpty then 0 else 1) < 30)) = true := by
    simp [keywordEach, backToKw, starEach, backTo]
  refine wpAny_Call_method_late (base_of h1 _ _) hfew hline rfl (thn (runE ho I r hp.bind) fun v s1 ⟨x, H1, g1, st1, r1, I1, rx, x1, p1, rr1, q1⟩ => ?_)
  split at q1
  · rename_i hrc
    have ty := recv_ty (rr1.vw p1.st) hrc
    rw [← xo.K] at ty
    obtain ⟨f1, f2, f3⟩ := mi_facts m
    obtain ⟨h1, h2⟩ := tyV_is I1 rx ty
    refine ⟨miT m, miI m, f1, f2, f3, h1, h2, ?_⟩
    simp only [evalRs, Out.bind_ok] at q1
    refine Calls.callWith_builtin rfl (PySem.evalArgs_none ?_)
    obtain ⟨r2, e, q3⟩ := q1.of
    exact m_sound xo.K xo.calm xo.hu I1 rx (rr1.vw p1.st) .nil .nil p1.st e (q3.ans fun a h => x1.dom a h)
  · exact q1.elim
end
end Py
end

section
set_option maxRecDepth 100000
set_option maxHeartbeats 4000000
set_option linter.all false
/-! sorted(set(xs)). -/
namespace Py
open PySem L2 PySem.Spec PyProof.Rows

theorem kd_enc (k : Key) : encD (kd k) = match k with | .inl i => .int i | .inr x => .str x := by
  cases k <;> rfl
theorem dedup_mem : ∀ {ks : List Key} {j : Key}, j ∈ dedupK ks ↔ j ∈ ks
  | [], j => Iff.rfl
  | k :: ks, j => by
    unfold dedupK
    rw [List.mem_cons, List.mem_cons, List.mem_filter, dedup_mem]
    constructor
    · rintro (h | ⟨h, _⟩)
      · exact .inl h
      · exact .inr h
    · rintro (h | h)
      · exact .inl h
      · by_cases e : j = k
        · exact .inl e
        · exact .inr ⟨h, by simp [e]⟩
theorem dedup_nodup : ∀ ks : List Key, (dedupK ks).Nodup
  | [] => List.nodup_nil
  | k :: ks => by
    unfold dedupK
    refine List.nodup_cons.mpr ⟨fun h => ?_, (dedup_nodup ks).filter _⟩
    have := (List.mem_filter.mp h).2
    simp at this
theorem dedup_len : ∀ ks : List Key, (dedupK ks).length ≤ ks.length
  | [] => Nat.le_refl _
  | k :: ks => by
    unfold dedupK
    have := dedup_len ks
    have := List.length_filter_le (fun j => !decide (j = k)) (dedupK ks)
    simp only [List.length_cons]
    omega
/-- the order of keys that are alike is one of which two are never alike -/
theorem key_anti {a b : Key} (h : PySem.W.alike (encD (kd a)) (encD (kd b)) = true) (h1 : PySem.W.dataLe false encD (kd a) (kd b) = true) (h2 : PySem.W.dataLe false encD (kd b) (kd a) = true) : a = b := by
  cases a with
  | inl i =>
    cases b with
    | inl j =>
      have e := congrFun (congrFun (PySem.W.dataLe_int (fun d : D => match d with | .int i => i | _ => 0)) (.int i)) (.int j)
      have e2 := congrFun (congrFun (PySem.W.dataLe_int (fun d : D => match d with | .int i => i | _ => 0)) (.int j)) (.int i)
      have h1 : decide (i ≤ j) = true := e.symm.trans h1
      have h2 : decide (j ≤ i) = true := e2.symm.trans h2
      rw [decide_eq_true_eq] at h1 h2
      rw [show i = j by omega]
    | inr y => exact absurd h (by simp [kd_enc, PySem.W.alike])
  | inr x =>
    cases b with
    | inl j => exact absurd h (by simp [kd_enc, PySem.W.alike])
    | inr y =>
      have e := congrFun (congrFun (PySem.W.dataLe_str (fun d : D => match d with | .str i => i | _ => Str.empty)) (.str x)) (.str y)
      have e2 := congrFun (congrFun (PySem.W.dataLe_str (fun d : D => match d with | .str i => i | _ => Str.empty)) (.str y)) (.str x)
      have h1 : decide (x.cps.toList ≤ y.cps.toList) = true := e.symm.trans h1
      have h2 : decide (y.cps.toList ≤ x.cps.toList) = true := e2.symm.trans h2
      rw [decide_eq_true_eq] at h1 h2
      have := List.le_antisymm h1 h2
      obtain ⟨x⟩ := x
      obtain ⟨y⟩ := y
      have : x = y := Array.toList_inj.mp this
      rw [this]
theorem sortD_pw (l : List D) : (sortD l).Pairwise fun a b => PySem.W.dataLe false encD a b = true :=
  PySem.W.sort_pairwise (PySem.W.sortLe_total _ false _) l
theorem sortD_perm (l : List D) : (sortD l).Perm l := List.mergeSort_perm _ _
theorem sortD_eq {l m : List D} (p : l.Perm m) (h : ∀ a ∈ l, ∀ b ∈ l, PySem.W.dataLe false encD a b = true → PySem.W.dataLe false encD b a = true → a = b) : sortD l = sortD m := by
  refine List.Perm.eq_of_pairwise (le := fun a b => PySem.W.dataLe false encD a b = true) (fun a b ha hb => ?_) (sortD_pw l) (sortD_pw m) ((sortD_perm l).trans (p.trans (sortD_perm m).symm))
  exact h a ((sortD_perm l).mem_iff.mp ha) b (p.mem_iff.mpr ((sortD_perm m).mem_iff.mp hb))
theorem sortD_keys {ks ls : List Key} (p : ls.Perm ks) (hs : sortOk (ks.map kd) = true) : sortD (ls.map kd) = sortD (ks.map kd) := by
  refine sortD_eq (p.map kd) fun a ha b hb h1 h2 => ?_
  obtain ⟨i, hi, rfl⟩ := List.mem_map.mp ha
  obtain ⟨j, hj, rfl⟩ := List.mem_map.mp hb
  unfold sortOk at hs
  cases hp : D.pys (ks.map kd) with
  | none => rw [hp] at hs; cases hs
  | some ps =>
    rw [hp] at hs
    simp only [Bool.and_eq_true, decide_eq_true_eq] at hs
    obtain ⟨e1, _⟩ := enc_pys hp
    have al := alikeL_ok hs.1.1 (encD (kd i)) (by rw [← e1]; exact List.mem_map_of_mem (List.mem_map_of_mem (p.mem_iff.mp hi))) (encD (kd j)) (by rw [← e1]; exact List.mem_map_of_mem (List.mem_map_of_mem (p.mem_iff.mp hj)))
    rw [key_anti al h1 h2]

section
variable {K : PySem.W.Frag} {Cl : Cls} {Γ : Ctx} {k : Nat} {N : List Str} {sc : Scope} {X : Cx} {pins : List (Addr × Obj)} {σ : L2.St} {H : Hp} {g : Gh} {s : Shared} {st : Store} {Q : VK} {W : L2.St → WC}
/-- keys, by the values -/
theorem rds_keys : ∀ {ds : List D} {ks : List Key} {vs : List V}, RDs K Cl H g ds vs → D.keys ds = some ks → ds = ks.map kd ∧ vs = ks.map kV
  | _, _, _, .nil, h => by cases h; exact ⟨rfl, rfl⟩
  | _, ks, _, .cons (d := d) (ds := ds) r t, h => by
    simp only [D.keys] at h
    cases e : d.key with
    | none => rw [e] at h; cases h
    | some j =>
      cases e2 : D.keys ds with
      | none => rw [e, e2] at h; cases h
      | some js =>
        rw [e, e2] at h
        cases h
        obtain ⟨a, b⟩ := rds_keys t e2
        cases r <;> simp only [D.key, reduceCtorEq, Option.some.injEq] at e
        · subst e; exact ⟨by rw [a]; rfl, by rw [b]; rfl⟩
        · subst e; exact ⟨by rw [a]; rfl, by rw [b]; rfl⟩
theorem keysAre_of {P : Program} {w : World} : ∀ {ks : List Key} {us : List Value}, Vals (ks.map kV) us → KeysAre P w us ks
  | [], _, h => by cases h; exact ⟨rfl, fun i v q => by simp at q⟩
  | k :: ks, _, h => by
    cases h with
    | cons r t =>
      obtain ⟨a, b⟩ := keysAre_of (P := P) (w := w) t
      refine ⟨by rw [List.length_cons, List.length_cons, a], fun i v q => ?_⟩
      cases i with
      | zero =>
        simp at q
        subst q
        exact ⟨k, rfl, kV_is r⟩
      | succ i =>
        obtain ⟨k', h1, h2⟩ := b i v (by simpa using q)
        exact ⟨k', by simpa using h1, h2⟩
/-- a key's value stands for its datum -/
theorem std_key {P : Program} {w : World} {k : Key} {v : Value} (h : (mixKind P w).is k v = true) (ok : kOk k = true) : StD K Cl H g v (kd k) := by
  rcases keyIs_shape h with ⟨i, t, rfl, rfl⟩ | ⟨x, t, rfl, rfl⟩
  · exact ⟨.int i, ⟨t, rfl⟩, .int i⟩
  · exact ⟨.str x, ⟨t, rfl⟩, .str x ok⟩
theorem rds_kok : ∀ {ds : List D} {ks : List Key} {vs : List V}, RDs K Cl H g ds vs → D.keys ds = some ks → ∀ k ∈ ks, kOk k = true
  | _, _, _, .nil, h => by cases h; intro k hk; cases hk
  | _, ks, _, .cons (d := d) (ds := ds) r t, h => by
    simp only [D.keys] at h
    cases e : d.key with
    | none => rw [e] at h; cases h
    | some j =>
      cases e2 : D.keys ds with
      | none => rw [e, e2] at h; cases h
      | some js =>
        rw [e, e2] at h
        cases h
        intro k hk
        rcases List.mem_cons.mp hk with rfl | hk
        · cases r <;> simp only [D.key, reduceCtorEq, Option.some.injEq] at e
          · subst e; rfl
          · subst e; assumption
        · exact rds_kok t e2 k hk
/-- a set that was made of keys, in order -/
theorem sorted_set_snd {a : Addr} {ks : List Key} (hc : X.A.handled = none) (hu : X.A.units + 128 < cLine) (I : Inv X pins σ H s) {n : Nat} (R : SetM X.prog X.w s.heap a (fun j => inK ks j) n) (hs : sortOk ((dedupK ks).map kd) = true) (hl : ks.length ≤ 4000) (ok : ∀ k ∈ ks, kOk k = true)
    (q : ∀ (ys : List V) (p : Addr), H p = none → RDs X.K Cl H g (sortD ((dedupK ks).map kd)) ys → Q (.ref p) (upd H p (.lst ys))) :
    wpAny (model X.prog X.w) X.A (call (.builtin "sorted") [.ref a]) (EP X pins σ Q) X.xe s := by
  obtain ⟨o, es, ep, t, ho, hex, hd, gd, nd, hm, hb, hf, hn, hr, hld⟩ := R
  have pk : (es.toList.map keyE).Perm (dedupK ks) := (List.perm_ext_iff_of_nodup nd (dedup_nodup ks)).mpr fun j => by rw [dedup_mem, ← hm j]; exact inK_iff
  have dl := dedup_len ks
  have sl := sizeLine_eq
  refine sorted_snd (Cl := Cl) (g := g) (T := fun es' => ∃ ls : List Key, ls.Perm (dedupK ks) ∧ es' = ls.map kd) (ds := (dedupK ks).map kd) hu I hs (by rw [List.length_map]; omega) (fun E' => ?_) fun es' ys p pm tt hn hy => ?_
  · refine collect_set (A := X.A.in1) hc ⟨o, ho, hex.1, hd⟩ hf hb hr hld fun s' out k1 z1 g1 o1 pm => ⟨k1, g1, o1, ?_⟩
    have gv : ∀ v ∈ out, ∃ e ∈ es.toList, e.2 = v := fun v hv => by
      obtain ⟨e, he, q⟩ := List.mem_map.mp (pm.mem_iff.mp hv)
      exact ⟨e, he, q⟩
    have pm2 : (out.map fun v => keyE (0, v)).Perm (dedupK ks) := by
      refine ((pm.map fun v => keyE (0, v)).trans ?_).trans pk
      rw [List.map_map]
      exact List.Perm.of_eq (List.map_congr_left fun e _ => rfl)
    refine ⟨(out.map fun v => keyE (0, v)).map kd, ?_, pm2.map kd, _, pm2, rfl⟩
    have : ∀ l : List Value, (∀ v ∈ l, ∃ e ∈ es.toList, e.2 = v) → PySem.W.EachIs (StD X.K Cl H g) l ((l.map fun v => keyE (0, v)).map kd) := by
      intro l
      induction l with
      | nil => intro _; exact .nil
      | cons v l ih =>
        intro h
        obtain ⟨e, he, rfl⟩ := h v List.mem_cons_self
        obtain ⟨k, h1, _⟩ := gd e he
        have ek : keyE (0, e.2) = k := keyE_is (e := (0, e.2)) h1
        have mk : k ∈ ks := by
          have : k ∈ es.toList.map keyE := List.mem_map.mpr ⟨e, he, keyE_is h1⟩
          exact inK_iff.mp ((hm k).mpr this)
        refine .cons ?_ (ih fun v hv => h v (List.mem_cons_of_mem _ hv))
        show StD X.K Cl H g e.2 (kd (keyE (0, e.2)))
        rw [ek]
        exact std_key h1 (ok k mk)
    exact this out gv
  · obtain ⟨ls, p1, rfl⟩ := tt
    rw [sortD_keys p1 hs] at hy
    exact q ys p hn hy
variable {a : Env → Store → Out Res} {A : Expr} {p p2 pos pos2 : Pos}
theorem pe_ssetD (xo : XOk Γ k N sc X) (bo : BiOk Γ) (h3 : glB sc "sorted" = true) (h4 : glB sc "set" = true) (ha : PE X A (tD Γ a (rRes Γ) W)) (he : ∀ es, starEach (A :: es) X.env = (false, eval A X.env) :: starEach es X.env) :
    PE X (.Call (.Name "sorted" p) [.Call (.Name "set" p2) [A] [] pos2] [] pos) (tD Γ (fun env st => (a env st).bind fun ra st1 => Out.of (opSS (ra.vw st1)) st1) (rRes Γ) W) := by
  refine ⟨fun pins s σ H Q I h => ?_⟩
  obtain ⟨H0, g, env, st, r, hp⟩ := h
  refine Call_ (ld_blt I (gl_of xo h3) (by rw [xo.mg]; exact bo.bi .sorted) (boot_bi .sorted) ?_)
  refine PyProof.Rows.callWith_builtin1 (PyProof.Rows.args_cons ?_ rfl) rfl rfl
  refine Call_ (ld_blt I (gl_of xo h4) (by rw [xo.mg]; exact bo.bi .set) (boot_bi .set) ?_)
  refine PyProof.Rows.callWith_type1 (PyProof.Rows.args_cons (thn (runE ha I r hp.bind) fun u s1 ⟨x, H1, g1, st1, r1, I1, rx, x1, p1, rr, q1⟩ => PyProof.Rows.args_nil ?_) (he [])) (he []) rfl
  obtain ⟨r2, e, q2⟩ := q1.of
  have hv := rr.vw p1.st
  unfold opSS at e
  split at e
  · rename_i tp ds hvw
    rw [hvw] at hv
    cases hk : D.keys ds with
    | none => rw [hk] at e; cases e
    | some ks =>
      rw [hk] at e
      simp only [Option.ite_none_right_eq_some, Option.some.injEq] at e
      obtain ⟨⟨hs, hl⟩, rfl⟩ := e
      have hdl : X.A.handled = none := I1.ok.hd xo.calm
      have go : ∀ {ad : Addr} {vs : List V} {its : List Value}, RDs Γ.K Γ.Cl H1 g1 ds vs → Vals vs its → u = .ref ad → (s1.heap.IsList ad its.toArray ∨ s1.heap.IsTuple ad its.toArray) →
          wpAny (model X.prog X.w) X.A (call (.type "set") [u]) (fun v s₂ => wpAny (model X.prog X.w) X.A (spliced (backTo pos (starEach [] X.env))) (fun vs s₃ => wpAny (model X.prog X.w) X.A (call (.builtin "sorted") (v :: vs)) (EP X pins σ Q) X.xe s₃) X.xe s₂) X.xe s1 := by
        intro ad vs its rd rv eu hq
        obtain ⟨_, ev⟩ := rds_keys rd hk
        subst eu ev
        have ka := keysAre_of (P := X.prog) (w := X.w) rv
        have fin : ∀ (h' : Heap) (tk c : Nat), SetM X.prog X.w h' s1.heap.objs.size (fun j => inK ks j) c → c ≤ ks.length → (∀ b o, s1.heap.get? b = some o → h'.get? b = some o) →
            wpAny (model X.prog X.w) X.A (spliced (backTo pos (starEach [] X.env))) (fun vs s₃ => wpAny (model X.prog X.w) X.A (call (.builtin "sorted") (Value.ref s1.heap.objs.size :: vs)) (EP X pins σ Q) X.xe s₃) X.xe { s1 with heap := h', toks := tk } := by
          intro h' tk c R hc kk
          refine PyProof.Rows.args_nil ?_
          refine sorted_set_snd (Cl := Γ.Cl) (g := g1) hdl xo.hu (I1.kept kk) R hs hl (rds_kok rd hk) fun ys p hn hy => ?_
          rw [xo.K] at hy
          exact (q2.ans fun a h => x1.dom a h).lst p1.st hn hy
        rcases hq with hq | hq
        · exact set_of_list ks hdl hq (by simpa using ka) (by unfold scanBound; omega) fun h' tk c R hc kk => fin h' tk c R hc kk
        · exact set_of_tuple ks hdl hq (by simpa using ka) (by unfold scanBound; omega) fun h' tk c R hc kk => fin h' tk c R hc kk
      cases tp with
      | true =>
        obtain ⟨ad, vs, rfl, b1, b2⟩ := hv
        obtain ⟨its, rv, ho, hz⟩ := I1.tuple (by rw [xo.K]; exact b1.sq)
        cases rx
        exact go b2 rv rfl (.inr ho)
      | false =>
        obtain ⟨ad, vs, rfl, b1, b2⟩ := hv
        obtain ⟨its, rv, ho, hz⟩ := I1.list (.of b1)
        cases rx
        exact go b2 rv rfl (.inl ho.isList)
  · cases e
end
end Py
end

section
set_option maxRecDepth 100000
set_option maxHeartbeats 4000000
set_option linter.all false
/-! What is walked; comprehensions. -/
namespace Py
open PySem L2 PySem.Spec PyProof.Rows

/-- an iterator tells these things -/
structure ItOk (K : PySem.W.Frag) (Cl : Cls) (J : It) (xs : List D) (H : Hp) (g : Gh) : Prop where
  go : ∀ i H' g', i < xs.length → Kp H g H' g' → J.go i H'
  stop : ∀ H' g', Kp H g H' g' → J.stop xs.length H'
  yld : ∀ i H' g' st x H'', i < xs.length → Kp H g H' g' → RepSt K Cl H' g' st → J.yld i H' x H'' → ∃ d, xs[i]? = some d ∧ Ext H' g' H'' g' ∧ RepSt K Cl H'' g' st ∧ RD K Cl H'' g' d x
/-- what a walked thing promises -/
def tDI (Γ : Ctx) (ev : Env → Store → Out (List D)) (W : L2.St → WC) : TI := fun σ H R =>
  ∃ H0 g env st, Rep Γ H0 H g σ env st ∧ Post Γ H g (ev env st) (fun H' g' _ xs => ∀ J, ItOk Γ.K Γ.Cl J xs H' g' → R J H') (W σ)

section
variable {K : PySem.W.Frag} {Cl : Cls} {H : Hp} {g : Gh}
theorem it_lst {a : Addr} {vs : List V} {ds : List D} (h : NL H g a vs) (r : RDs K Cl H g ds vs) : ItOk K Cl (Itl K a) ds H g := by
  have sq : ∀ H' g', Kp H g H' g' → SqL K H' a vs := fun H' g' k => (k.nl h).sq
  refine ⟨fun i H' g' hi k => ?_, fun H' g' k => ⟨vs, sq H' g' k, by rw [r.length]; exact Nat.le_refl _⟩, fun i H' g' st x H'' hi k s y => ?_⟩
  · have hv : i < vs.length := by rw [← r.length]; exact hi
    exact ⟨vs, vs[i], sq H' g' k, by simp [hv]⟩
  · obtain ⟨e, y⟩ := y
    subst e
    have q := y vs (sq _ g' k)
    have hd : ds[i]? = some ds[i] := by simp [hi]
    obtain ⟨v, hv, rv⟩ := r.get hd
    rw [hv] at q
    cases q
    exact ⟨_, hd, .refl, s, rv.kp k⟩
theorem it_tup {a : Addr} {vs : List V} {ds : List D} (h : NT H g a vs) (r : RDs K Cl H g ds vs) : ItOk K Cl (Itt K a) ds H g := by
  have sq : ∀ H' g', Kp H g H' g' → SqT K H' a vs := fun H' g' k => (k.nt h).sq
  refine ⟨fun i H' g' hi k => ?_, fun H' g' k => ⟨vs, sq H' g' k, by rw [r.length]; exact Nat.le_refl _⟩, fun i H' g' st x H'' hi k s y => ?_⟩
  · have hv : i < vs.length := by rw [← r.length]; exact hi
    exact ⟨vs, vs[i], sq H' g' k, by simp [hv]⟩
  · obtain ⟨e, y⟩ := y
    subst e
    have q := y vs (sq _ g' k)
    have hd : ds[i]? = some ds[i] := by simp [hi]
    obtain ⟨v, hv, rv⟩ := r.get hd
    rw [hv] at q
    cases q
    exact ⟨_, hd, .refl, s, rv.kp k⟩
theorem it_str {z : Str} (ok : PyData.strOk z = true) : ItOk K Cl (Its z) (z.cps.toList.map fun c => .str ⟨#[c]⟩) H g := by
  refine ⟨fun i H' g' hi k => (by show i < z.cps.size; simpa using hi), fun H' g' k => (by show z.cps.size ≤ _; simp), fun i H' g' st x H'' hi k s y => ?_⟩
  obtain ⟨e, c, hc, rfl⟩ := y
  subst e
  refine ⟨.str ⟨#[c]⟩, ?_, .refl, s, .str _ (strOk_one ok ?_)⟩
  · rw [List.getElem?_map, Array.getElem?_toList, hc]; rfl
  · exact Array.mem_toList_iff.mpr (Array.mem_of_getElem? hc)
theorem it_rng {lo : Int} {n : Nat} : ItOk K Cl (L2.Itr lo n) ((List.range n).map fun i => .int (lo + (i : Nat))) H g := by
  refine ⟨fun i H' g' hi k => (by show i < n; simpa using hi), fun H' g' k => (by show n ≤ _; simp), fun i H' g' st x H'' hi k s y => ?_⟩
  obtain ⟨e, rfl⟩ := y
  subst e
  refine ⟨.int (lo + (i : Nat)), ?_, .refl, s, .int _⟩
  have hi' : i < n := by simpa using hi
  simp [hi']
end

section
variable {Γ : Ctx} {k : Nat} {N : List Str} {sc : Scope} {X : Cx} {pins : List (Addr × Obj)} {σ : L2.St} {H : Hp} {g : Gh} {s : Shared} {st : Store} {Q : VK} {W : L2.St → WC}
variable {a b c : Env → Store → Out Res} {t t2 : Env → Store → Out Bool} {as : Env → Store → Out (List Res)} {A B C Tg : Expr} {As : List Expr} {pos p : Pos}

theorem frz1 {K : PySem.W.Frag} {Cl : Cls} {Hs : Hp} {r : Res} {v : V} {g0 : Gh} {st0 : Store} {d : D} (h : RR K Cl Hs H g r v) (e : r.toD = some d) (x : Ext Hs g0 H g) (s0 : RepSt K Cl Hs g0 st0) (s : RepSt K Cl H g st) :
    ∃ g', Ext Hs g0 H g' ∧ Kp H g H g' ∧ RepSt K Cl H g' st ∧ RD K Cl H g' d v ∧ g'.L = g.L ∧ (∀ a, Hs a ≠ none → g.P a → g'.P a) := by
  have hp : Paired (RR K Cl Hs H g) [r] [v] := .cons h .nil
  have hr := frz_rds hp (ds := [d]) (by simp [toDs, e])
  cases hr with
  | cons hr _ => exact ⟨_, frz_ext hp x s0, frz_kp, frz_st hp s, hr, rfl, fun a n p => ⟨p, fun o => n (own_of hp o).1⟩⟩

theorem pi_itD (xo : XOk Γ k N sc X) (ha : PE X A (tD Γ a (rRes Γ) W)) : PI X Tg A (tDI Γ (fun env st => (a env st).bind fun r st1 => match r with
    | .val (.tup xs) => .ok xs st1
    | .val (.lst xs) => .ok xs st1
    | .own (.lst xs) => .ok xs st1
    | .val (.str z) => .ok (z.cps.toList.map fun c => .str ⟨#[c]⟩) st1
    | _ => .bad) W) := by
  refine ⟨fun pins s σ H R I h => ?_⟩
  obtain ⟨H0, g, env, st, r, hp⟩ := h
  dsimp only at hp
  cases e : a env st with
  | bad => rw [e] at hp; exact hp.elim
  | exc c fs st1 =>
    rw [e] at hp
    refine (pi_list (tg := Tg) ha).run pins s σ H R I ⟨H0, g, env, st, r, ?_⟩
    rw [e]
    exact hp
  | ok r0 st1 =>
    rw [e] at hp
    have hp : Post Γ H g (match r0 with
    | .val (.tup xs) => Out.ok xs st1
    | .val (.lst xs) => .ok xs st1
    | .own (.lst xs) => .ok xs st1
    | .val (.str z) => .ok (z.cps.toList.map fun c => .str ⟨#[c]⟩) st1
    | _ => .bad) (fun H' g' _ xs => ∀ J, ItOk Γ.K Γ.Cl J xs H' g' → R J H') (W σ) := hp
    split at hp
    · refine (pi_tup (tg := Tg) ha).run pins s σ H R I ⟨H0, g, env, st, r, ?_⟩
      rw [e, xo.K]
      refine fun H' g' x s' v rv => ?_
      cases rv with
      | tup n rs => exact ⟨_, rfl, ⟨_, n.sq⟩, hp H' g' x s' _ (it_tup n rs)⟩
    · refine (pi_list (tg := Tg) ha).run pins s σ H R I ⟨H0, g, env, st, r, ?_⟩
      rw [e, xo.K]
      refine fun H' g' x s' v rv => ?_
      cases rv with
      | lst n rs => exact ⟨_, rfl, ⟨_, n.sq⟩, hp H' g' x s' _ (it_lst n rs)⟩
    · refine (pi_list (tg := Tg) ha).run pins s σ H R I ⟨H0, g, env, st, r, ?_⟩
      rw [e, xo.K]
      refine fun H' g' x s' v rv => ?_
      obtain ⟨g2, x2, k2, s2, rd, _, _⟩ := frz1 rv rfl x r.st s'
      cases rd with
      | lst n rs => exact ⟨_, rfl, ⟨_, n.sq⟩, hp H' g2 x2 s2 _ (it_lst n rs)⟩
    · refine (pi_str (tg := Tg) ha).run pins s σ H R I ⟨H0, g, env, st, r, ?_⟩
      rw [e]
      refine fun H' g' x s' v rv => ?_
      cases rv with
      | str _ ok => exact ⟨_, rfl, hp H' g' x s' _ (it_str ok)⟩
    · exact hp.elim
theorem rng_some {lo hi : Int} {xs : List D} (h : rngD lo hi 1 = some xs) : (-(2 ^ 62) ≤ lo ∧ lo < 2 ^ 62 ∧ -(2 ^ 62) ≤ hi ∧ hi < 2 ^ 62) ∧ xs = (List.range (hi - lo).toNat).map fun i => .int (lo + (i : Nat)) := by
  unfold rngD at h
  split at h
  · rename_i q
    exact ⟨⟨q.1, q.2.1, q.2.2.1, q.2.2.2.1⟩, (Option.some.inj h).symm⟩
  · cases h
theorem pi_rng1D (xo : XOk Γ k N sc X) (bo : BiOk Γ) (h3 : glB sc "range" = true) (ha : PE X A (tD Γ a (rRes Γ) W)) (he : ∀ es, starEach (A :: es) X.env = (false, eval A X.env) :: starEach es X.env) :
    PI X Tg (.Call (.Name "range" p) [A] [] pos) (tDI Γ (fun env st => (a env st).bind fun r st1 => match r with
      | .val (.int i) => Out.of (rngD 0 i 1) st1
      | _ => .bad) W) := by
  have hpa : PA X [A] (tDA Γ (fun env st => (a env st).bind fun r st1 => (Out.ok [] st1).bind fun rs st2 => .ok (r :: rs) st2) W) := pa_consD ha pa_nilD (he [])
  refine ⟨fun pins s σ H R I h => (pi_range1 (tg := Tg) (gl_of xo h3) (by rw [xo.mg]; exact bo.range) hpa (he [])).run pins s σ H R I ?_⟩
  obtain ⟨H0, g, env, st, r, hp⟩ := h
  refine ⟨H0, g, env, st, r, ?_⟩
  dsimp only at hp ⊢
  cases e : a env st with
  | bad => rw [e] at hp; exact hp.elim
  | exc c fs st1 => rw [e] at hp; exact hp
  | ok r0 st1 =>
    rw [e] at hp
    refine fun H' g' x s' vs rv => ?_
    cases rv with
    | cons h1 h2 =>
      cases h2
      cases r0 with
      | val d =>
        cases d with
        | int i =>
          obtain ⟨xs, e2, q⟩ := Post.of hp
          obtain ⟨⟨_, _, b1, b2⟩, rfl⟩ := rng_some e2
          cases h1
          rw [Int.sub_zero] at q
          exact ⟨i, rfl, b1, b2, q H' g' x s' _ it_rng⟩
        | _ => exact hp.elim
      | _ => exact hp.elim
theorem pi_rng2D (xo : XOk Γ k N sc X) (bo : BiOk Γ) (h3 : glB sc "range" = true) (ha : PE X A (tD Γ a (rRes Γ) W)) (hb : PE X B (tD Γ b (rRes Γ) W)) (he : ∀ es, starEach (A :: es) X.env = (false, eval A X.env) :: starEach es X.env) (hf : ∀ es, starEach (B :: es) X.env = (false, eval B X.env) :: starEach es X.env) :
    PI X Tg (.Call (.Name "range" p) [A, B] [] pos) (tDI Γ (fun env st => (a env st).bind fun r st1 => (b env st1).bind fun q st2 => match r, q with
      | .val (.int i), .val (.int j) => Out.of (rngD i j 1) st2
      | _, _ => .bad) W) := by
  have hpa : PA X [A, B] (tDA Γ (fun env st => (a env st).bind fun r st1 => ((b env st1).bind fun q st2 => (Out.ok [] st2).bind fun rs st3 => .ok (q :: rs) st3).bind fun rs st2 => .ok (r :: rs) st2) W) := pa_consD ha (pa_consD hb pa_nilD (hf [])) (he _)
  refine ⟨fun pins s σ H R I h => (pi_range2 (tg := Tg) (gl_of xo h3) (by rw [xo.mg]; exact bo.range) hpa (by rw [he, hf]; rfl) (hf [])).run pins s σ H R I ?_⟩
  obtain ⟨H0, g, env, st, r, hp⟩ := h
  refine ⟨H0, g, env, st, r, ?_⟩
  dsimp only at hp ⊢
  cases e : a env st with
  | bad => rw [e] at hp; exact hp.elim
  | exc c fs st1 => rw [e] at hp; exact hp
  | ok r0 st1 =>
    rw [e] at hp
    dsimp only [Out.bind] at hp ⊢
    cases e1 : b env st1 with
    | bad => rw [e1] at hp; exact hp.elim
    | exc c fs st1 => rw [e1] at hp; exact hp
    | ok q0 st2 =>
      rw [e1] at hp
      dsimp only at hp
      refine fun H' g' x s' vs rv => ?_
      cases rv with
      | cons h1 h2 =>
        cases h2 with
        | cons h2 h3 =>
        cases h3
        split at hp
        · obtain ⟨xs, e2, q⟩ := Post.of hp
          obtain ⟨bb, rfl⟩ := rng_some e2
          cases h1
          cases h2
          exact ⟨_, _, rfl, bb, q H' g' x s' _ it_rng⟩
        · exact hp.elim
end
end Py
end

section
set_option maxRecDepth 100000
set_option maxHeartbeats 4000000
set_option linter.all false
/-! Comprehensions. -/
namespace Py
open PySem L2 PySem.Spec PyProof.Rows

theorem wipe_at (σ : L2.St) : ∀ (vs : List Nat) (i : Nat), (wipe σ vs)[i]? = if i ∈ vs then σ[i]?.map (fun _ => none) else σ[i]?
  | [], i => by simp [wipe]
  | v :: vs, i => by
    unfold wipe
    rw [List.getElem?_set, wipe_length, wipe_at σ vs i]
    by_cases h : v = i
    · subst h
      by_cases hl : v < σ.length
      · simp [hl]
      · simp [hl]
    · have : i ≠ v := fun e => h e.symm
      simp [h, this]
theorem wipeE_at (σ : Env) : ∀ (vs : List Nat) (i : Nat), (wipeE σ vs)[i]? = if i ∈ vs then σ[i]?.map (fun _ => none) else σ[i]?
  | [], i => by simp [wipeE]
  | v :: vs, i => by
    unfold wipeE
    have hl : (wipeE σ vs).length = σ.length := by
      clear i
      induction vs with
      | nil => rfl
      | cons v vs ih => unfold wipeE; rw [List.length_set]; exact ih
    rw [List.getElem?_set, hl, wipeE_at σ vs i]
    by_cases h : v = i
    · subst h
      by_cases hl : v < σ.length
      · simp [hl]
      · simp [hl]
    · have : i ≠ v := fun e => h e.symm
      simp [h, this]
theorem wipeE_len (σ : Env) (vs : List Nat) : (wipeE σ vs).length = σ.length := by
  induction vs with
  | nil => rfl
  | cons v vs ih => unfold wipeE; rw [List.length_set]; exact ih
theorem wipe_set {σ : L2.St} {vs : List Nat} {i : Nat} {x : Option V} (h : i ∈ vs) : wipe ((wipe σ vs).set i x) vs = wipe σ vs := by
  apply List.ext_getElem?
  intro j
  rw [wipe_at, wipe_at, List.getElem?_set, wipe_length, wipe_at]
  by_cases hj : j ∈ vs
  · simp only [hj, if_true]
    by_cases hij : i = j
    · subst hij
      by_cases hl : i < σ.length
      · simp [hl]
      · simp [hl]
    · simp [hij, Function.comp_def]
  · have hij : i ≠ j := fun e => hj (e ▸ h)
    simp [hj, hij]
theorem wipe_wipe (σ : L2.St) (vs : List Nat) : wipe (wipe σ vs) vs = wipe σ vs := by
  apply List.ext_getElem?
  intro j
  rw [wipe_at, wipe_at]
  by_cases hj : j ∈ vs <;> simp [hj, Function.comp_def]

section
variable {K : PySem.W.Frag} {Cl : Cls} {H0 H : Hp} {g : Gh} {σ : L2.St} {env : Env}
theorem RepEnv.wipe (h : RepEnv K Cl H0 H g σ env) (vs : List Nat) : RepEnv K Cl H0 H g (L2.wipe σ vs) (wipeE env vs) := by
  have back : ∀ {i : Nat} {r : Res}, (wipeE env vs)[i]? = some (some r) → i ∉ vs ∧ env[i]? = some (some r) := by
    intro i r e
    rw [wipeE_at] at e
    by_cases hi : i ∈ vs
    · simp [hi] at e
    · exact ⟨hi, by simpa [hi] using e⟩
  have backS : ∀ {i : Nat} {v : V}, (L2.wipe σ vs)[i]? = some (some v) → σ[i]? = some (some v) := by
    intro i r e
    rw [wipe_at] at e
    by_cases hi : i ∈ vs
    · simp [hi] at e
    · simpa [hi] using e
  refine ⟨by rw [wipeE_len, wipe_length, h.len], fun i r e => ?_, fun i j a ci cj e1 e2 e3 e4 => h.sep i j a ci cj (back e1).2 (back e2).2 (backS e3) (backS e4), fun i c e => h.nob i c (back e).2⟩
  obtain ⟨hi, e⟩ := back e
  obtain ⟨v, h1, h2⟩ := h.at' i r e
  exact ⟨v, by rw [wipe_at]; simpa [hi] using h1, h2⟩
theorem RepEnv.set (h : RepEnv K Cl H0 H g σ env) {i : Nat} {d : D} {v : V} (r : RD K Cl H g d v) : RepEnv K Cl H0 H g (σ.set i (some v)) (env.set i (some (.val d))) := by
  refine ⟨by simp [h.len], fun j r' e => ?_, fun i' j a ci cj e1 e2 e3 e4 => ?_, fun j c e => ?_⟩
  · by_cases hj : i = j
    · subst hj
      by_cases hl : i < env.length
      · rw [List.getElem?_set_self hl] at e
        cases e
        exact ⟨v, by rw [List.getElem?_set_self (by rw [← h.len]; exact hl)], r⟩
      · rw [List.getElem?_eq_none (by simpa using hl)] at e; cases e
    · rw [List.getElem?_set_ne hj] at e ⊢
      exact h.at' j r' e
  · by_cases h1 : i = i'
    · subst h1
      by_cases hl : i < env.length
      · rw [List.getElem?_set_self hl] at e1; cases e1
      · rw [List.getElem?_eq_none (by simpa using hl)] at e1; cases e1
    · by_cases h2 : i = j
      · subst h2
        by_cases hl : i < env.length
        · rw [List.getElem?_set_self hl] at e2; cases e2
        · rw [List.getElem?_eq_none (by simpa using hl)] at e2; cases e2
      · rw [List.getElem?_set_ne h1] at e1 e3
        rw [List.getElem?_set_ne h2] at e2 e4
        exact h.sep i' j a ci cj e1 e2 e3 e4
  · by_cases hj : i = j
    · subst hj
      by_cases hl : i < env.length
      · rw [List.getElem?_set_self hl] at e; cases e
      · rw [List.getElem?_eq_none (by simpa using hl)] at e; cases e
    · rw [List.getElem?_set_ne hj] at e
      exact h.nob j c e
theorem RepEnv.sets {is : List Nat} : ∀ {σ : L2.St} {env : Env} {ds : List D} {vs : List V}, RepEnv K Cl H0 H g σ env → RDs K Cl H g ds vs → is.length = ds.length →
    RepEnv K Cl H0 H g ((is.zip vs).foldl (fun e p => e.set p.1 (some p.2)) σ) ((is.zip ds).foldl (fun e p => e.set p.1 (some (.val p.2))) env) := by
  induction is with
  | nil => intro σ env ds vs h r hl; cases r <;> exact h
  | cons i is ih =>
    intro σ env ds vs h r hl
    cases r with
    | nil => simp at hl
    | cons r rs => exact ih (h.set r) rs (by simpa using hl)
end

/-! targets -/
def gOf (K : PySem.W.Frag) : List Nat → TGs
  | [] => gNil
  | i :: is => gCons (gName i) (gOf K is)
def Tg.g (K : PySem.W.Frag) : Tg → TG
  | .name i => gName i
  | .tup is => gTup K is.length (gOf K is)
theorem gOf_ok {K : PySem.W.Frag} : ∀ {is : List Nat} {vs : List V} {σ : L2.St} {H : Hp} {Q : L2.St → Hp → Prop}, is.length = vs.length → Q ((is.zip vs).foldl (fun e p => e.set p.1 (some p.2)) σ) H → gOf K is vs σ H Q
  | [], [], _, _, _, _, h => ⟨rfl, h⟩
  | i :: is, v :: vs, σ, H, Q, hl, h => ⟨v, vs, rfl, gOf_ok (is := is) (vs := vs) (by simpa using hl) h⟩
  | [], _ :: _, _, _, _, hl, _ => by simp at hl
  | _ :: _, [], _, _, _, hl, _ => by simp at hl
section
variable {Γ : Ctx} {k : Nat} {N : List Str} {sc : Scope} {X : Cx} {pins : List (Addr × Obj)} {σ : L2.St} {H : Hp} {g : Gh} {s : Shared} {st : Store} {Q : VK} {W : L2.St → WC}

theorem cg_nonstar {N : List Str} {sc scope : Scope} {own is : List Nat} {xs : List Expr} (h : CGs N sc scope own is xs) (env : PySem.Env) : (assignEach xs env).length = is.length ∧ (assignEach xs env).findIdx? (·.1) = none ∧ xs.length = is.length := by
  induction xs generalizing is with
  | nil => cases h; exact ⟨rfl, rfl, rfl⟩
  | cons x xs ih =>
    cases h with
    | cons h1 h2 h3 h4 h =>
      obtain ⟨a1, a2, a3⟩ := ih h
      refine ⟨by show _ + 1 = _; rw [a1]; rfl, ?_, by simp [a3]⟩
      show List.findIdx? _ ((false, _) :: assignEach xs env) = none
      rw [List.findIdx?_cons]
      simp [a2]
theorem pgs_of {N : List Str} {sc scope : Scope} {own : List Nat} {K : PySem.W.Frag} (hN : X.N = N) (hnd : N.Nodup) (hsc : X.env.scope = sc) (hfn : ∀ x, scope.names.lookup x = some .cell → X.fn x = true) : ∀ {is : List Nat} {xs : List Expr}, CGs N sc scope own is xs → PGs X xs (gOf K is)
  | _, _, .nil => pgs_nil
  | _, _, .cons h1 h2 h3 h4 h => by
    refine pgs_cons (pg_name (by rw [hN]; exact hnd) (by rw [hN]; exact h1) (by rw [hsc]; exact loc_of h3) (h2.elim (fun z => .inr (by rw [hsc]; exact z)) fun z => .inl (hfn _ z))) (pgs_of hN hnd hsc hfn h) ?_
    rfl
theorem pg_of {N : List Str} {sc scope : Scope} {own : List Nat} {tg : Tg} {T : Expr} (hN : X.N = N) (hnd : N.Nodup) (hsc : X.env.scope = sc) (hc : X.calm = true) (hfn : ∀ x, scope.names.lookup x = some .cell → X.fn x = true) (h : CG N sc scope own tg T) : PG X T (tg.g X.K) := by
  cases h with
  | name h1 h2 h3 h4 => exact pg_name (by rw [hN]; exact hnd) (by rw [hN]; exact h1) (by rw [hsc]; exact loc_of h3) (h2.elim (fun z => .inr (by rw [hsc]; exact z)) fun z => .inl (hfn _ z))
  | tup h =>
    obtain ⟨a1, a2, a3⟩ := cg_nonstar h X.env
    exact pg_tup hc (pgs_of hN hnd hsc hfn h) a1 a2
/-- a target takes a value -/
theorem tg_ok {K : PySem.W.Frag} {Cl : Cls} {H0 : Hp} {env : Env} {tg : Tg} {d : D} {x : V} {e : Env} {Q : L2.St → Hp → Prop} (re : RepEnv K Cl H0 H g σ env) (rd : RD K Cl H g d x) (hp : tg.put d env = some e) (q : ∀ σ', RepEnv K Cl H0 H g σ' e → (∀ vs, (∀ i, (tg = .name i → i ∈ vs) ∧ ∀ is, tg = .tup is → i ∈ is → i ∈ vs) → wipe σ vs = σ → wipe σ' vs = wipe σ vs) → Q σ' H) : tg.g K x σ H Q := by
  cases tg with
  | name i =>
    simp only [Tg.put, Option.some.injEq] at hp
    subst hp
    exact q _ (re.set rd) fun vs h hw => by rw [← hw]; exact (wipe_set ((h i).1 rfl)).trans (wipe_wipe _ _).symm
  | tup is =>
    simp only [Tg.put] at hp
    split at hp
    · split at hp
      · rename_i ds hl
        simp only [Option.some.injEq] at hp
        subst hp
        cases rd with
        | tup n r =>
          refine ⟨_, _, rfl, n.sq, by rw [← r.length]; exact hl.symm, gOf_ok (by rw [← r.length]; exact hl) (q _ (re.sets r hl) fun vs h hw => ?_)⟩
          have hin : ∀ i ∈ is, i ∈ vs := fun i hi => (h i).2 is rfl hi
          clear hl n r q re h
          have go : ∀ (is : List Nat) (us : List V) (τ : L2.St), (∀ i ∈ is, i ∈ vs) → wipe ((is.zip us).foldl (fun e p => e.set p.1 (some p.2)) τ) vs = wipe τ vs := by
            intro is
            induction is with
            | nil => intro us τ _; rfl
            | cons i is ih =>
              intro us τ hi
              cases us with
              | nil => rfl
              | cons u us =>
                show wipe ((is.zip us).foldl _ (τ.set i (some u))) vs = _
                rw [ih us _ fun j hj => hi j (by simp [hj])]
                apply List.ext_getElem?
                intro j
                rw [wipe_at, wipe_at, List.getElem?_set]
                by_cases hj : j ∈ vs
                · simp only [hj, if_true]
                  by_cases hij : i = j
                  · subst hij
                    by_cases hl : i < τ.length <;> simp [hl]
                  · simp [hij]
                · have hij : i ≠ j := fun e => hj (e ▸ hi i (by simp))
                  simp [hj, hij]
          exact go is _ σ hin
      · cases hp
    · cases hp

theorem Post.nox {α : Type} {o : Out α} {R : Hp → Gh → Store → α → Prop} {w w' : WC} (h : Post Γ H g o.nox R w) : Post Γ H g o R w' := by
  cases o with
  | ok a st => exact h
  | exc c fs st => exact h.elim
  | bad => exact h.elim
/-- the block's context -/
theorem xo_blk (xo : XOk Γ k N sc X) (s : Shared) (H : Hp) (scope : Scope) (C : Addr) (cl : List (Str × Addr)) (fp : List Addr) : XOk Γ k N (relS scope sc) (X.blk s H scope (compEnvC scope cl C X.env) fp) :=
  ⟨xo.prog, xo.w, xo.K, xo.mg, xo.base, xo.names, xo.nd, by rw [← xo.sc]; rfl, xo.calm, xo.room, xo.gd⟩
abbrev noW : L2.St → WC := fun _ _ _ _ => False

theorem cgs_own {N : List Str} {sc scope : Scope} {own : List Nat} : ∀ {is : List Nat} {xs : List Expr}, CGs N sc scope own is xs → ∀ i ∈ is, i ∈ own
  | _, _, .nil, i, hi => by simp at hi
  | _, _, .cons h1 h2 h3 h4 h, i, hi => by
    rcases List.mem_cons.mp hi with rfl | hi
    · exact h4
    · exact cgs_own h i hi
theorem cg_own {N : List Str} {sc scope : Scope} {own : List Nat} {tg : Tg} {T : Expr} (h : CG N sc scope own tg T) : ∀ i, (tg = .name i → i ∈ own) ∧ ∀ is, tg = .tup is → i ∈ is → i ∈ own := by
  intro i
  cases h with
  | name h1 h2 h3 h4 => exact ⟨fun e => by cases e; exact h4, fun is e => by cases e⟩
  | tup h => exact ⟨fun e => (by cases e), fun is e hi => by cases e; exact cgs_own h i hi⟩

theorem lcD {K : PySem.W.Frag} {own : List Nat} {tg : Tg} {it : Env → Store → Out (List D)} {cond : Env → Store → Out Bool} {elt : Env → Store → Out Res} (hK : K = Γ.K) (hown : ∀ i, (tg = .name i → i ∈ own) ∧ ∀ is, tg = .tup is → i ∈ is → i ∈ own)
    (h : tD Γ (fun env st => (it env st).bind fun xs st1 => (compL tg.put cond elt (wipeE env own) xs [] st1).nox.bind fun ds st2 => .ok (.own (.lst ds)) st2) (rRes Γ) W σ H Q) :
    tLc (tDI Γ it W) (tg.g K) (tDT Γ cond noW) (tD Γ elt (rRes Γ) noW) own σ H Q := by
  obtain ⟨H0, g, env, st, r, hp⟩ := h
  refine ⟨H0, g, env, st, r, hp.bind.imp fun H1 g1 st1 xs x1 s1 q J ok D nD => ?_⟩
  -- the comprehension's list stands at D
  have hD1 : Ext H1 g1 (upd H1 D (.lst [])) (g1.add D) := .newP nD
  have renv : RepEnv Γ.K Γ.Cl H0 H1 g1 (L2.wipe σ own) (wipeE env own) := (r.env.ext x1).wipe own
  have q0 : Post Γ H1 g1 (compL tg.put cond elt (wipeE env own) xs [] st1) (fun H' g' st2 ds => Post Γ H' g' (.ok (.own (.lst ds)) st2) (fun H' g' _ r => ∀ v, rRes Γ H H' g' r v → Q v H') (W σ)) (fun _ _ _ => False) := by
    have := q.bind
    exact Post.nox this
  -- the invariant
  let Pv : Nat → Hp → Prop := fun i Hx => ∃ gx stx acc vacc, Ext H1 g1 Hx gx ∧ RepSt Γ.K Γ.Cl Hx gx stx ∧ gx.P D ∧ D ∉ gx.L ∧ Hx D = some (.lst vacc) ∧ RDs Γ.K Γ.Cl Hx gx acc vacc ∧
    Post Γ H1 g1 (compL tg.put cond elt (wipeE env own) (xs.drop i) acc stx) (fun H' g' st2 ds => Post Γ H' g' (.ok (.own (.lst ds)) st2) (fun H' g' _ r => ∀ v, rRes Γ H H' g' r v → Q v H') (W σ)) (fun _ _ _ => False)
  have wk : Walk J xs.length (fun Hx => ∃ gx, Kp H1 g1 Hx gx ∧ ∃ st, RepSt Γ.K Γ.Cl Hx gx st) (fun i Hx x Hy => ∀ gx stx, Kp H1 g1 Hx gx → RepSt Γ.K Γ.Cl Hx gx stx → ∃ d, xs[i]? = some d ∧ Ext Hx gx Hy gx ∧ RepSt Γ.K Γ.Cl Hy gx stx ∧ RD Γ.K Γ.Cl Hy gx d x) :=
    ⟨fun i Hx hi ⟨gx, kx, _⟩ => ok.go i Hx gx hi kx, fun Hx ⟨gx, kx, _⟩ => ok.stop Hx gx kx, fun i Hx x Hy hi _ y gx stx kx sx => ok.yld i Hx gx stx x Hy hi kx sx y⟩
  refine lc_it wk Pv ?_ ?_ ?_ ?_
  · exact ⟨g1.add D, st1, [], [], hD1, s1.newP nD, .inr rfl, s1.notL nD, upd_same, .nil, by rw [List.drop_zero]; exact q0⟩
  · rintro i Hx _ ⟨gx, stx, acc, vacc, xx, sx, _⟩
    exact ⟨gx, xx.kp, stx, sx⟩
  · rintro i x Hx Hy hi ⟨gx, stx, acc, vacc, xx, sx, pD, lD, eD, ra, qx⟩ y
    obtain ⟨d, hd, xy, sy, rd⟩ := y gx stx xx.kp sx
    have xxy := xx.trans xy
    have ryenv := renv.ext xxy
    rw [List.drop_eq_getElem_cons (by exact hi)] at qx
    have hxi : xs[i] = d := by rw [List.getElem?_eq_getElem hi] at hd; exact Option.some.inj hd
    rw [hxi] at qx
    unfold compL at qx
    cases ep : tg.put d (wipeE env own) with
    | none => rw [ep] at qx; exact qx.elim
    | some e2 =>
      rw [ep] at qx
      dsimp only at qx
      refine tg_ok (K := K) (by rw [hK]; exact ryenv) (by rw [hK]; exact rd) ep fun σ2 re2 hw => ?_
      rw [hK] at re2
      refine ⟨(hw own hown (wipe_wipe σ own)).trans (wipe_wipe σ own), ?_⟩
      have rep2 : Rep Γ H0 Hy gx σ2 e2 stx := ⟨re2, sy, fun a h => r.old a (x1.dom a (xxy.dom a h))⟩
      refine ⟨H0, gx, e2, stx, rep2, ?_⟩
      have qb := qx.bind'
      -- the test
      cases ec : cond e2 stx with
      | bad => rw [ec] at qb; exact qb.elim
      | exc c fs st' => rw [ec] at qb; exact fun H' g' cls dd x' s' e' => qb H' g' cls dd (xxy.trans x') s' e'
      | ok b st3 =>
        rw [ec] at qx
        intro H3 g3 x3 s3
        have x13 := xxy.trans x3
        have keepD : H3 D = some (.lst vacc) := x3.keep D _ (xy.keep D _ eD lD) lD
        have pD3 : g3.P D := x3.stay D pD
        have lD3 : D ∉ g3.L := fun z => (x3.fresh D z).elim lD fun z => by rw [xy.keep D _ eD lD] at z; cases z
        have ra3 : RDs Γ.K Γ.Cl H3 g3 acc vacc := RDs.kp x3.kp (RDs.kp xy.kp ra)
        dsimp only [Out.bind] at qx
        cases b with
        | false =>
          try dsimp only
          rw [if_neg Bool.false_ne_true] at qx ⊢
          exact ⟨g3, st3, acc, vacc, x13, s3, pD3, lD3, keepD, ra3, qx⟩
        | true =>
          try dsimp only
          rw [if_pos rfl] at qx ⊢
          refine ⟨H0, g3, e2, st3, rep2.ext x3 s3, ?_⟩
          cases ee : elt e2 st3 with
          | bad => rw [ee] at qx; exact qx.elim
          | exc c fs st' => rw [ee] at qx; exact fun H' g' cls dd x' s' e' => qx H' g' cls dd (x13.trans x') s' e'
          | ok re st4 =>
            rw [ee] at qx
            dsimp only [Out.bind] at qx
            intro H4 g4 x4 s4 v rv
            cases et : re.toD with
            | none => rw [et] at qx; exact qx.elim
            | some d4 =>
              rw [et] at qx
              dsimp only at qx
              split at qx
              · rename_i hlen
                obtain ⟨g5, x5, k5, s5, rd5, hL5, hP5⟩ := frz1 rv et x4 s3 s4
                have keepD4 : H4 D = some (.lst vacc) := x4.keep D _ keepD lD3
                have pD5 : g5.P D := hP5 D (by rw [keepD]; simp) (x4.stay D pD3)
                have lD5 : D ∉ g5.L := by rw [hL5]; exact fun z => (x4.fresh D z).elim lD3 fun z => by rw [keepD] at z; cases z
                refine ⟨vacc, keepD4, by rw [← ra.length]; exact hlen, ?_⟩
                -- the list grows
                have x15 : Ext H1 g1 H4 g5 := x13.trans x5
                have kU : Kp H4 g5 (upd H4 D (.lst (vacc ++ [v]))) g5 := ⟨fun a o h n => by rw [upd_ne (fun e => n (by rw [e]; exact pD5))]; exact h, fun a h => .inl h, List.prefix_refl _⟩
                have xU : Ext H1 g1 (upd H4 D (.lst (vacc ++ [v]))) g5 := by
                  refine ⟨x15.kp.trans kU, fun a o h n => ?_, fun a h => ?_, x15.stay, x15.fresh⟩
                  · rw [upd_ne (ne_of_none h nD)]; exact x15.keep a o h n
                  · by_cases e : a = D
                    · subst e; exact nD
                    · rw [upd_ne e] at h; exact x15.dom a h
                have sU : RepSt Γ.K Γ.Cl (upd H4 D (.lst (vacc ++ [v]))) g5 st4 := by
                  refine s5.ext kU rfl (fun _ h => h) (fun a h z => ?_) fun a h => ?_
                  · by_cases e : a = D
                    · subst e; rw [upd_same] at z; cases z
                    · rw [upd_ne e] at z; exact s5.dom a h z
                  · rw [upd_ne (fun e => lD5 (by rw [← e]; exact h))]
                refine ⟨g5, st4, acc ++ [d4], vacc ++ [v], xU, sU, pD5, lD5, upd_same, ?_, qx⟩
                refine RDs.kp kU (RDs.append (RDs.kp k5 (RDs.kp x4.kp ra3)) (.one ?_))
                exact rd5
              · exact qx.elim
  · rintro Hx ⟨gx, stx, acc, vacc, xx, sx, pD, lD, eD, ra, qx⟩
    rw [List.drop_length] at qx
    have q1 := qx Hx gx xx sx
    exact q1.now sx _ ⟨D, rfl, x1.dom D nD, pD, lD, vacc, eD, ra⟩

theorem pe_compD {Tg' Iter Elt : Expr} {Ifs : List Expr} {scope : Scope} {pos : Pos} {own : List Nat} {ns : List Str} {tg : Tg} {it : Env → Store → Out (List D)} {cond : Env → Store → Out Bool} {elt : Env → Store → Out Res}
    (xo : XOk Γ k N sc X) (hb : blkC N sc scope (ns.zip own) = true) (hl : ns.length = own.length) (hi : PI X Tg' Iter (tDI Γ it W)) (hg : CG N (relS scope sc) scope own tg Tg')
    (ht : ∀ (s : Shared) (H : Hp) (C : Addr) (cl : List (Str × Addr)) (fp : List Addr), PTs (X.blk s H scope (compEnvC scope cl C X.env) fp) Ifs (tDT Γ cond noW))
    (he : ∀ (s : Shared) (H : Hp) (C : Addr) (cl : List (Str × Addr)) (fp : List Addr), PE (X.blk s H scope (compEnvC scope cl C X.env) fp) Elt (tD Γ elt (rRes Γ) noW))
    (hs : ∀ x, foldedSetIterable Iter X.env x = pure x) :
    PE X (.ListComp Elt [⟨Tg', Iter, Ifs, 0⟩] scope pos) (tD Γ (fun env st => (it env st).bind fun xs st1 => (compL tg.put cond elt (wipeE env own) xs [] st1).nox.bind fun ds st2 => .ok (.own (.lst ds)) st2) (rRes Γ) W) := by
  have hz : (ns.zip own).map (·.2) = own := by rw [List.map_snd_zip (by omega)]
  refine ⟨fun pins s σ H Q I h => ?_⟩
  refine (pe_lc (own := ns.zip own) (pos := pos) (g := tg.g X.K) xo.calm (by rw [xo.names]; exact xo.nd) hi (blkOk_by (N := X.N) (sc := X.env.scope) (by rw [xo.names, xo.sc]; exact hb))
    (fun s H C cl fp => pg_of (N := N) (X := X.blk s H scope (compEnvC scope cl C X.env) fp) xo.names xo.nd (xo_blk xo s H scope C cl fp).sc xo.calm (fun x hx => by show (scope.names.lookup x == some .cell) = true; rw [hx]; rfl) hg) ht he hs).run pins s σ H Q I ?_
  rw [hz]
  exact lcD xo.K (cg_own hg) h
/-- name = [..] on one line -/
theorem ps_compD {i : Nat} {y : Str} {py spos : Pos} {Tg' Iter Elt : Expr} {Ifs : List Expr} {scope : Scope} {pos : Pos} {own : List Nat} {ns : List Str} {tg : Tg} {it : Env → Store → Out (List D)} {cond : Env → Store → Out Bool} {elt : Env → Store → Out Res}
    (xo : XOk Γ k N sc X) (hy : N[i]? = some y) (hyl : sc.names.lookup y = some .local) (hkd : X.env.scope.kind = .function) (hli : (py.line == pos.line) = true) (hny : (scope.names.any fun (n, k) => n == y && (k == .local || k == .cell)) = false)
    (hb : blkC N sc scope (ns.zip own) = true) (hl : ns.length = own.length) (hi : PI X Tg' Iter (tDI Γ it W)) (hg : CG N (relS scope sc) scope own tg Tg')
    (ht : ∀ (s : Shared) (H : Hp) (C : Addr) (cl : List (Str × Addr)) (fp : List Addr), PTs (X.blk s H scope (compEnvC scope cl C X.env) fp) Ifs (tDT Γ cond noW))
    (he : ∀ (s : Shared) (H : Hp) (C : Addr) (cl : List (Str × Addr)) (fp : List Addr), PE (X.blk s H scope (compEnvC scope cl C X.env) fp) Elt (tD Γ elt (rRes Γ) noW))
    (hs : ∀ x, foldedSetIterable Iter X.env x = pure x) :
    PS X (.Assign [.Name y py] (.ListComp Elt [⟨Tg', Iter, Ifs, 0⟩] scope pos) spos) (tAsg (tD Γ (fun env st => (it env st).bind fun xs st1 => (compL tg.put cond elt (wipeE env own) xs [] st1).nox.bind fun ds st2 => .ok (.own (.lst ds)) st2) (rRes Γ) W) (gName i)) := by
  have hz : (ns.zip own).map (·.2) = own := by rw [List.map_snd_zip (by omega)]
  refine ⟨fun pins s σ H D I h => ?_⟩
  refine (ps_setLc (i := i) (own := ns.zip own) (pos := pos) (g := tg.g X.K) xo.calm (by rw [xo.names]; exact xo.nd) (by rw [xo.names]; exact hy) (by rw [xo.sc]; exact hyl) (sw_true hkd (by rw [xo.sc]; exact hyl) hli hny) hi (blkOk_by (N := X.N) (sc := X.env.scope) (by rw [xo.names, xo.sc]; exact hb))
    (fun s H C cl fp => pg_of (N := N) (X := X.blk s H scope (compEnvC scope cl C X.env) fp) xo.names xo.nd (xo_blk xo s H scope C cl fp).sc xo.calm (fun x hx => by show (scope.names.lookup x == some .cell) = true; rw [hx]; rfl) hg) ht he hs).run pins s σ H D I ?_
  rw [hz]
  exact lcD xo.K (cg_own hg) h
end
end Py
end

section
set_option maxRecDepth 100000
set_option maxHeartbeats 4000000
set_option linter.all false
/-! Turned sequences, dict displays. -/
namespace Py
open PySem L2 PySem.Spec PyProof.Rows

section
variable {prog : Program} {w : World} {A : Around} {E : Value → Shared → Prop} {s : Shared}
theorem adj_rev (n : Nat) : Builtin.Slice.sliceAdjust none none (-1) (n : Int) = ((n : Int) - 1, -1) := by
  unfold Builtin.Slice.sliceAdjust
  rfl
theorem plc_rev (n : Nat) : Builtin.Slice.slicePlaces ((n : Int) - 1) (-1) (-1) = n := by
  unfold Builtin.Slice.slicePlaces
  rw [if_neg (by decide)]
  by_cases h : (n : Int) - 1 > -1
  · rw [if_pos h]
    rw [show (- -1 : Int) = 1 by decide, Int.ediv_one]
    omega
  · rw [if_neg h]
    have : n = 0 := by omega
    subst this
    rfl
theorem sap_rev {sl : Addr} {vl vu vk : Value} {n : Nat} {Q : Int × Int × Nat → Shared → Prop} (hs : s.heap.IsSliceOf sl vl vu vk) (pl : IsPart vl none) (pu : IsPart vu none) (pk : IsPart vk (some (-1)))
    (h : Q ((n : Int) - 1, -1, n) s) : wpAny (model prog w) A (Builtin.Slice.sliceApplied (.ref sl) (pure (n : Int))) Q E s := by
  obtain ⟨os, hos, hcs, hds⟩ := id hs
  unfold Builtin.Slice.sliceApplied Builtin.Slice.sliceFields
  refine wpAny_bind (wpAny_bind (wpAny_field hos hds (x := vl) rfl (wpAny_bind (wpAny_field hos hds (x := vu) rfl (wpAny_bind (wpAny_field hos hds (x := vk) rfl (wpAny_pure ?_)))))))
  refine wpAny_bind (HT.slicePart_ pk ?_)
  have e1 : ¬ (((some (-1 : Int)).getD 1 == 0) = true) := by decide
  show wpAny _ _ (if ((some (-1 : Int)).getD 1 == 0) = true then _ else _) _ _ s
  rw [if_neg e1]
  refine wpAny_bind (HT.slicePart_ pl (wpAny_bind (HT.slicePart_ pu (wpAny_bind (wpAny_pure ?_)))))
  have e2 : (match Builtin.Slice.sliceAdjust none none (-1) (n : Int) with | (lo, hi) => (pure (lo, (-1 : Int), Builtin.Slice.slicePlaces lo hi (-1)) : Sem (Int × Int × Nat))) = pure ((n : Int) - 1, -1, n) := by
    rw [adj_rev n]
    show pure (_, _, Builtin.Slice.slicePlaces _ _ _) = _
    rw [plc_rev]
  show wpAny _ _ (match Builtin.Slice.sliceAdjust none none (-1) (n : Int) with | (lo, hi) => (pure (lo, (-1 : Int), Builtin.Slice.slicePlaces lo hi (-1)) : Sem (Int × Int × Nat))) _ _ s
  rw [e2]
  exact wpAny_pure h
theorem fm_congr {α β : Type} {f g : α → Option β} : ∀ {l : List α}, (∀ x ∈ l, f x = g x) → l.filterMap f = l.filterMap g
  | [], _ => rfl
  | x :: l, h => by rw [List.filterMap_cons, List.filterMap_cons, h x (by simp), fm_congr fun y hy => h y (by simp [hy])]
theorem pick_rev (xs : Array Value) : ((List.range xs.size).filterMap fun (m : Nat) => xs[(((xs.size : Int) - 1) + (m : Int) * (-1)).toNat]?).toArray = xs.toList.reverse.toArray := by
  have e : ((List.range xs.size).filterMap fun (m : Nat) => xs[(((xs.size : Int) - 1) + (m : Int) * (-1)).toNat]?) = (((List.range xs.size).map fun k => xs.size - 1 - k).filterMap (xs[·]?)) := by
    rw [List.filterMap_map]
    apply fm_congr
    intro m hm
    have := List.mem_range.mp hm
    have q : (((xs.size : Int) - 1) + (m : Int) * (-1)).toNat = xs.size - 1 - m := by omega
    simp only [Function.comp_apply, q]
  rw [e, PySem.W.krv_range, List.filterMap_reverse, PySem.W.krv_all]
theorem gi_tup_rev {t sl : Addr} {items : Array Value} {vl vu vk : Value} {Q : Value → Shared → Prop} (ht : IsTup s.heap t items) (hs : s.heap.IsSliceOf sl vl vu vk) (pl : IsPart vl none) (pu : IsPart vu none) (pk : IsPart vk (some (-1)))
    (h : Q (.ref s.heap.objs.size) { s with heap := s.heap.push { cls := .type "tuple", data := .seq items.toList.reverse.toArray } })
    (hsz : items.size ≤ sizeLine) : wpAny (model prog w) A (getItem (.ref t) (.ref sl)) Q E s := by
  have hok : sizeOk (.seq items.toList.reverse.toArray) := by
    show items.toList.reverse.toArray.size ≤ sizeLine
    rw [List.size_toArray, List.length_reverse, Array.length_toList]
    omega
  obtain ⟨os, hos, hcs, hds⟩ := id hs
  have hTs : s.TypeIs (.ref sl) "slice" := ⟨os, hos, hcs⟩
  unfold getItem
  try with_reducible refine wpAny_holding ?_
  first | refine wpAny_bind (wpAny_pure ?_) | skip
  refine wpAny_bind (wpAny_sequenceKey ht.typeIs (by decide) ?_)
  refine wpAny_bind (wpAny_callSpecial?_slot (name := Str.ofString "__getitem__") ht.typeIs PyProof.Rows.slot_tuple_getitem
    (wpAny_call_entry PyProof.Rows.slot_tuple_getitem ht.typeIs entry_tuple_getitem ?_ (args_tuple_getitem _ _)))
  show wpAny _ _ (Builtin.Tuple.tupleItemsOf (.ref t) >>= _) _ _ s
  refine wpAny_bind (tupleItemsOf_ ht (wpAny_bind (wpAny_typeOf hTs ?_)))
  rw [if_pos (by decide)]
  refine wpAny_bind (sap_rev hs pl pu pk ?_)
  have hno : ¬ ((((items.size : Int) - 1) == 0 && (-1 : Int) == 1 && items.size == items.size) = true) := by
    rw [show ((-1 : Int) == 1) = false by decide, Bool.and_false, Bool.false_and]
    exact Bool.false_ne_true
  show wpAny _ _ (if (((items.size : Int) - 1) == 0 && (-1 : Int) == 1 && items.size == items.size) = true then _ else _) _ _ s
  rw [if_neg hno, pick_rev]
  first
    | exact wpAny_bind (m := Builtin.Tuple.tupleExact _) (wpAny_newObj_type (wpAny_pure ⟨_, rfl, wpAny_pure h⟩) hok)
    | exact wpAny_bind (m := Builtin.Tuple.tupleExact _) (wpAny_newObj_type (wpAny_bind (wpAny_pure (wpAny_pure ⟨_, rfl, wpAny_pure h⟩))) hok)
    | exact wpAny_bind (wpAny_bind (m := Builtin.Tuple.tupleExact _) (wpAny_newObj_type (wpAny_pure (wpAny_pure ⟨_, rfl, wpAny_pure h⟩)) hok))
    | exact wpAny_bind (wpAny_bind (m := Builtin.Tuple.tupleExact _) (wpAny_newObj_type (wpAny_pure ⟨_, rfl, wpAny_pure h⟩) hok))
end

section
variable {Γ : Ctx} {k : Nat} {N : List Str} {sc : Scope} {X : Cx} {pins : List (Addr × Obj)} {σ : L2.St} {H : Hp} {g : Gh} {s : Shared} {st : Store} {Q : VK} {W : L2.St → WC}
variable {a b c : Env → Store → Out Res} {as : Env → Store → Out (List Res)} {A B C : Expr} {As : List Expr} {pos : Pos}

theorem pe_revD {kk : Nat} {p1 p2 p3 : Pos} (xo : XOk Γ k N sc X) (ha : PE X A (tD Γ a (rRes Γ) W)) :
    PE X (.Subscript A (.Slice none none (some (.UnaryOp .USub (.Constant (.int 1) kk p1) p2)) p3) pos) (tD Γ (fun env st => (a env st).bind fun ra st1 => Out.of (opRev (ra.vw st1)) st1) (rRes Γ) W) := by
  refine ⟨fun pins s σ H Q I h => ?_⟩
  obtain ⟨H0, g, env, st, r, hp⟩ := h
  refine Subscript_ (thn (runE ha I r hp.bind) fun v s1 ⟨x, H1, g1, st1, r1, I1, rx, x1, p1', rr1, q1⟩ => ?_)
  have hst : PO X (some (.UnaryOp .USub (.Constant (.int 1) kk p1) p2)) (tPart (tUn (rU fun i => .int (-i)) (tC (.int 1)))) := po_some (pe_un un_neg pe_int)
  refine wpAny_Slice (thn (po_none.run pins s1 σ H1 (fun o H2 => H2 = H1 ∧ o = none) I1 ⟨rfl, rfl⟩) fun vl s2 ⟨l, H2, I2, pl, e2, el⟩ => ?_)
  subst el e2
  refine thn (po_none.run pins s2 σ H2 (fun o H3 => H3 = H2 ∧ o = none) I2 ⟨rfl, rfl⟩) fun vu s3 ⟨u, H3, I3, pu, e3, eu⟩ => ?_
  subst eu e3
  refine thn (hst.run pins s3 σ H3 (fun o H4 => H4 = H3 ∧ o = some (-1)) I3 ⟨1, rfl, -1, rfl, rfl, rfl⟩) fun vk s4 ⟨o, H4, I4, ps, e4, eo⟩ => ?_
  subst eo e4
  obtain ⟨rs, e, q4⟩ := q1.of
  have J5 : Inv X pins σ H4 { s4 with heap := s4.heap.push { cls := .type "slice", data := .fields #[vl, vu, vk] } } := I4.kept (t' := s4.toks) fun b ob q => Heap.get?_push_of_some _ q
  have Q5 : Ans Γ.K Γ.Cl H4 g1 st1 rs Q := q4.ans fun a h => x1.dom a h
  show wpAny (model X.prog X.w) X.A (subscriptTail A (.Slice none none (some (.UnaryOp .USub (.Constant (.int 1) kk p1) p2)) p3) v (.ref s4.heap.objs.size)) (EP X pins σ Q) X.xe { s4 with heap := s4.heap.push { cls := .type "slice", data := .fields #[vl, vu, vk] } }
  have hvw := rr1.vw p1'.st
  unfold opRev at e
  split at e
  · simp only [Option.some.injEq] at e
    subst e
    rename_i ds hv
    rw [hv] at hvw
    obtain ⟨p, vs, rfl, h1, h2⟩ := hvw
    cases rx
    obtain ⟨its, r, ht, hz⟩ := J5.tuple (by rw [xo.K]; exact h1.sq)
    have hlen := r.length
    refine tail_any (ops := [.ref p, .ref s4.heap.objs.size]) ht.typeIs (PyProof.Rows.slot_tuple_getitem.lookup) ?_ (by with_unfolding_all rfl)
    refine gi_tup_rev ht (Heap.IsSliceOf.new _ vl vu vk) pl pu ps ?_ (by rw [List.size_toArray]; omega)
    refine ⟨.ref _, _, J5.laid (t' := s4.toks) (o := .tup vs.reverse) (fun b ob q => Heap.get?_push_of_some _ q) (Nat.le_refl _) ?_, rfl, Q5.tup p1'.st (J5.hok.fresh (Nat.le_refl _)) h2.reverse⟩
    exact ⟨by rw [List.length_reverse]; exact hz, _, r.reverse, IsTup.new _ _⟩
  · simp only [Option.some.injEq] at e
    subst e
    rename_i ds hv
    rw [hv] at hvw
    obtain ⟨p, vs, rfl, h1, h2⟩ := hvw
    cases rx
    obtain ⟨its, r, ht, hz⟩ := J5.list (.of h1)
    have hlen := r.length
    refine tail_any (ops := [.ref p, .ref s4.heap.objs.size]) ht.isList.typeIs (PySem.slot_list_getitem.lookup) ?_ (by with_unfolding_all rfl)
    refine wpAny_getItem_list_slice ht.isList (Heap.IsSliceOf.new _ vl vu vk) pl pu ps (by decide) ?_ (by rw [List.size_toArray]; omega)
    rw [PySem.W.krv_pick]
    refine ⟨.ref _, _, J5.laid (t' := s4.toks) (o := .lst vs.reverse) (fun b ob q => Heap.get?_push_of_some _ q) (Nat.le_refl _) ?_, rfl, Q5.lst p1'.st (J5.hok.fresh (Nat.le_refl _)) h2.reverse⟩
    exact ⟨by rw [List.length_reverse]; exact hz, _, 0, r.reverse, Heap.get?_push_size _ rfl⟩
  · cases e

/-! ### dict displays -/
inductive PV : List V → List (Value × Value) → Prop
  | nil : PV [] []
  | cons {x y : V} {u w : Value} {vs : List V} {ws : List (Value × Value)} : RelV x u → RelV y w → PV vs ws → PV (x :: y :: vs) ((u, w) :: ws)
theorem PV.len : ∀ {vs : List V} {ws : List (Value × Value)}, PV vs ws → 2 * ws.length = vs.length
  | _, _, .nil => rfl
  | _, _, .cons _ _ h => by have := PV.len h; simp only [List.length_cons]; omega
structure PD (Γ : Ctx) (X : Cx) (pos : Pos) (keys : List (Option Expr)) (values : List Expr) (as : Env → Store → Out (List Res)) (W : L2.St → WC) : Prop where
  run : ∀ (pins : List (Addr × Obj)) (s : Shared) (σ : L2.St) (H0 H : Hp) (g : Gh) (env : Env) (st : Store) (R : Hp → Gh → Store → List Res → Prop), Inv X pins σ H s → Rep Γ H0 H g σ env st → Post Γ H g (as env st) R (W σ) →
    wpAny (model X.prog X.w) X.A (evalPairs (pairTrees keys values X.env pos)) (fun ws s1 => ∃ vs H1 g1 st1 rs, Inv X pins σ H1 s1 ∧ PV vs ws ∧ Ext H g H1 g1 ∧ Rep Γ H0 H1 g1 σ env st1 ∧ Paired (RR Γ.K Γ.Cl H H1 g1) rs vs ∧ R H1 g1 st1 rs) X.xe s
theorem pd_nil : PD Γ X pos [] [] (fun _ st => .ok [] st) W :=
  ⟨fun pins s σ H0 H g env st R I r hp => pairTrees_nil_walk ⟨[], H, g, st, [], I, .nil, .refl, r, .nil, hp.now r.st⟩⟩
theorem pd_cons {ks : List (Option Expr)} {vs : List Expr} (ha : PE X A (tD Γ a (rRes Γ) W)) (hb : PE X B (tD Γ b (rRes Γ) W)) (hr : PD Γ X pos ks vs as W) :
    PD Γ X pos (some A :: ks) (B :: vs) (fun env st => (a env st).bind fun r st1 => ((b env st1).bind fun q st2 => (as env st2).bind fun rs st3 => .ok (q :: rs) st3).bind fun rs st2 => .ok (r :: rs) st2) W :=
  ⟨fun pins s σ H0 H g env st R I r hp => pairTrees_cons_walk (thn (runE ha I r hp.bind) fun u s1 ⟨x, H1, g1, st1, r1, I1, rx, x1, p1, rr1, q1⟩ => by
    refine thn (runE hb I1 p1 q1.bind.bind) fun w s2 ⟨y, H2, g2, st2, r2, I2, ry, x2, p2, rr2, q2⟩ => ?_
    refine thn (hr.run pins s2 σ H0 H2 g2 env st2 _ I2 p2 q2.bind) fun ws s3 ⟨vs, H3, g3, st3, rs, I3, pv, x3, p3, rr3, q3⟩ => ?_
    refine ⟨x :: y :: vs, H3, g3, st3, r1 :: r2 :: rs, I3, .cons rx ry pv, x1.trans (x2.trans x3), p3, .cons ((rr1.ext x2).ext x3) (.cons ((rr2.ext x3).back fun a h => x1.dom a h) (Paired.mapP rr3 fun r v h => h.back fun a h => x1.dom a (x2.dom a h))), ?_⟩
    exact (q3.now p3.st).now p3.st)⟩

theorem key_v {K : PySem.W.Frag} {Cl : Cls} {d : D} {x : V} {kk : Key} (h : RD K Cl H g d x) (e : d.key = some kk) : x = kV kk ∧ kOk kk = true := by
  cases d <;> simp only [D.key, Option.some.injEq, reduceCtorEq] at e
  · subst e; cases h; exact ⟨rfl, rfl⟩
  · subst e
    cases h with
    | str _ ok => exact ⟨rfl, ok⟩
theorem merge_new : ∀ (more acc : List (Key × V)), ((acc ++ more).map (·.1)).Nodup → mergeK acc more = acc ++ more
  | [], acc, _ => by simp [mergeK]
  | p :: more, acc, hnd => by
    show mergeK (putK acc p.1 p.2) more = _
    have hp : valV acc p.1 = none := by
      unfold valV
      rw [Option.map_eq_none_iff, List.find?_eq_none]
      intro q hq
      simp only [decide_eq_true_eq]
      intro e
      rw [List.map_append, List.nodup_append] at hnd
      exact hnd.2.2 q.1 (List.mem_map_of_mem hq) p.1 (by simp) e
    rw [putK_new _ hp, merge_new more]
    · simp
    · simpa using hnd
theorem kvr_keys {K : PySem.W.Frag} {Cl : Cls} {kvs : List (Key × D)} {kv : List (Key × V)} (h : KVr K Cl H g kvs kv) : kv.map (·.1) = kvs.map (·.1) := by
  unfold KVr at h
  induction h with
  | nil => rfl
  | cons h t ih => simp [h.1, ih]
theorem pairs_v {K : PySem.W.Frag} {Cl : Cls} : ∀ {ds : List D} {vs : List V} {ws : List (Value × Value)} {kvs : List (Key × D)}, RDs K Cl H g ds vs → PV vs ws → pairsD ds = some kvs → ∃ kv : List (Key × V), KVr K Cl H g kvs kv ∧ VV (kv.map fun p => (kV p.1, p.2)) ws ∧ (kvs.map (·.1)).Nodup ∧ kv.length = ws.length
  | _, _, _, _, .nil, .nil, e => by
    simp only [pairsD, Option.some.injEq] at e
    subst e
    exact ⟨[], .nil, .nil, List.nodup_nil, rfl⟩
  | _, _, _, _, .cons (d := d1) h1 (.cons (d := d2) (ds := ds) h2 hs), .cons r1 r2 ps, e => by
    simp only [pairsD] at e
    split at e
    · rename_i kk kvs' e1 e2
      split at e
      · cases e
      · rename_i hn
        simp only [Option.some.injEq] at e
        subst e
        obtain ⟨kv, a1, a2, a3, a4⟩ := pairs_v hs ps e2
        obtain ⟨rfl, ok⟩ := key_v h1 e1
        refine ⟨(kk, _) :: kv, .cons ⟨rfl, ok, h2⟩ a1, .cons ⟨r1, r2⟩ a2, ?_, by simp [a4]⟩
        rw [List.map_cons, List.nodup_cons]
        refine ⟨fun z => hn ?_, a3⟩
        rw [List.any_eq_true]
        obtain ⟨q, hq, e⟩ := List.mem_map.mp z
        exact ⟨q, hq, by simpa using e⟩
    · cases e
/-- an own object changes -/
theorem Ext.upd {H1 : Hp} {g1 : Gh} {p : Addr} {o : HO} (x : Ext H g H1 g1) (n : H p = none) (hp : g1.P p) : Ext H g (upd H1 p o) g1 := by
  have kU : Kp H1 g1 (L2.upd H1 p o) g1 := ⟨fun a o h n => by rw [upd_ne (fun e => n (by rw [e]; exact hp))]; exact h, fun a h => .inl h, List.prefix_refl _⟩
  refine ⟨x.kp.trans kU, fun a o h m => ?_, fun a h => ?_, x.stay, x.fresh⟩
  · rw [upd_ne (ne_of_none h n)]; exact x.keep a o h m
  · by_cases e : a = p
    · subst e; exact n
    · rw [upd_ne e] at h; exact x.dom a h
theorem Kp.upd {g1 : Gh} {p : Addr} {o : HO} (hp : g1.P p) : Kp H g1 (L2.upd H p o) g1 :=
  ⟨fun a o h n => by rw [upd_ne (fun e => n (by rw [e]; exact hp))]; exact h, fun a h => .inl h, List.prefix_refl _⟩
theorem RepSt.upd {K : PySem.W.Frag} {Cl : Cls} {p : Addr} {o : HO} (s : RepSt K Cl H g st) (hp : g.P p) (hl : p ∉ g.L) : RepSt K Cl (L2.upd H p o) g st := by
  refine s.ext (Kp.upd hp) rfl (fun _ h => h) (fun a h z => ?_) fun a h => ?_
  · by_cases e : a = p
    · subst e; rw [upd_same] at z; cases z
    · rw [upd_ne e] at z; exact s.dom a h z
  · rw [upd_ne (fun e => hl (by rw [← e]; exact h))]
theorem pe_dctD {keys : List (Option Expr)} {values : List Expr} (hs : PD Γ X pos keys values as W) (hall : keys.all (·.isSome) = true) (hl : keys.length = values.length) (h0 : keys ≠ []) (h15 : keys.length ≤ 15) (hn : ∀ env st rs st', as env st = .ok rs st' → rs.length = 2 * keys.length) :
    PE X (.Dict keys values pos) (tD Γ (fun env st => (as env st).bind fun rs st1 => match toDs rs with
    | some ds => Out.of ((pairsD ds).map fun kvs => .own (.dK kvs)) st1
    | none => .bad) (rRes Γ) W) := by
  refine ⟨fun pins s σ H Q I h => ?_⟩
  obtain ⟨H0, g, env, st, r, hp⟩ := h
  have np := I.hok.fresh (Nat.le_refl s.heap.objs.size)
  have J1 := I.laid (a := s.heap.objs.size) (o := .dK []) (h' := s.heap.push { cls := .type "dict", data := .dict #[] }) (t' := s.toks) (fun _ _ q => Heap.get?_push_of_some _ q) (Nat.le_refl _) (dk_empty s.heap I.big)
  have x0 : Ext H g (L2.upd H s.heap.objs.size (.dK [])) (g.add s.heap.objs.size) := .newP np
  have s0 : RepSt Γ.K Γ.Cl (L2.upd H s.heap.objs.size (.dK [])) (g.add s.heap.objs.size) st := r.st.newP np
  have lp : s.heap.objs.size ∉ (g.add s.heap.objs.size).L := r.st.notL np
  have hp2 : Post Γ (L2.upd H s.heap.objs.size (.dK [])) (g.add s.heap.objs.size) (as env st) (fun _ _ st1 rs => rs.length = 2 * keys.length ∧ Post Γ H g (match toDs rs with
      | some ds => Out.of ((pairsD ds).map fun kvs => .own (.dK kvs)) st1
      | none => .bad) (fun H' g' _ r => ∀ v, rRes Γ H H' g' r v → Q v H') (W σ)) (W σ) := by
    have q := hp.bind'
    cases e : as env st with
    | ok rs st' => rw [e] at q; exact fun H' g' x s => ⟨hn env st rs st' e, q H' g' (x0.trans x) s⟩
    | exc c fs st' => rw [e] at q; exact fun H' g' cls dd x s => q H' g' cls dd (x0.trans x) s
    | bad => rw [e] at q; exact q.elim
  refine wpAny_Dict_walk (knd := mixKind X.prog X.w) hall hl h0 h15 (thn (hs.run pins _ σ H0 _ _ env st _ J1 (r.ext x0 s0) hp2) fun ws s2 ⟨vs, H2, g2, st2, rs, I2, pv, x2, p2, rr, hlen, q2⟩ => ?_)
  cases e : toDs rs with
  | none => rw [e] at q2; exact q2.elim
  | some ds =>
    rw [e] at q2
    obtain ⟨rk, e3, q3⟩ := Post.of q2
    simp only [Option.map_eq_some_iff] at e3
    obtain ⟨kvs, e3, rfl⟩ := e3
    have hr := frz_rds rr e
    obtain ⟨kv, a1, a2, a3, a4⟩ := pairs_v hr pv e3
    obtain ⟨us, c, rkv⟩ := carries_of (P := X.prog) (w := X.w) a2
    have keep : H2 s.heap.objs.size = some (.dK []) := x2.keep _ _ upd_same lp
    obtain ⟨z, hd, vs0, r0, dd⟩ := dk_of I2.hok keep
    cases r0
    have hmk : mergeK [] kv = kv := merge_new kv [] (by rw [List.nil_append, kvr_keys a1]; exact a3)
    have hw := pv.len
    have h4 : kv.length ≤ 15 := by
      have := hr.length
      have h5 : ∀ (rs : List Res) (vs : List V), Paired (RR Γ.K Γ.Cl (L2.upd H s.heap.objs.size (.dK [])) H2 g2) rs vs → rs.length = vs.length := by
        intro rs vs h
        induction h with
        | nil => rfl
        | cons _ _ ih => simp [ih]
      have := h5 rs vs rr
      omega
    refine ⟨us, c, dd, fun h' dd' hs' => ⟨.ref s.heap.objs.size, L2.upd H2 s.heap.objs.size (.dK kv), ?_, rfl, ?_⟩⟩
    · have hz : kv.length ≤ sizeLine := by rw [sizeLine_eq]; omega
      have he : ∃ q, h'.get? s.heap.objs.size = some q := let ⟨q, _, _, hq, _⟩ := dd'; ⟨q, hq⟩
      have rk2 := rkv.merge .nil
      rw [hmk] at rk2
      exact d_write I2 (by rw [keep]; exact True.intro) hs' he (dk_new hz hd rk2 dd')
    · have pP : (g2.frz rs vs).P s.heap.objs.size := ⟨x2.stay _ (.inr rfl), fun o => by have := (own_of rr o).1; rw [upd_same] at this; cases this⟩
      have s3 := frz_st rr p2.st
      have x3 := frz_ext rr x2 s0
      have lp2 : s.heap.objs.size ∉ g2.L := fun z => (x2.fresh _ z).elim lp fun z => by rw [upd_same] at z; cases z
      have xx := (x0.trans x3).upd (o := .dK kv) np pP
      refine q3 _ _ xx (s3.upd pP lp2) _ ⟨_, rfl, np, pP, lp2, kv, upd_same, ?_⟩
      exact Paired.mapP a1 fun _ _ z => ⟨z.1, z.2.1, z.2.2.kp (Kp.upd pP)⟩
end
end Py
end

section
set_option maxRecDepth 100000
set_option maxHeartbeats 4000000
set_option linter.all false
/-! All expressions. -/
namespace Py
open PySem L2 PySem.Spec PyProof.Rows

theorem evalRs_len (F : Fsem) : ∀ (es : Exs) (env : Env) (st : Store) (rs : List Res) (st' : Store), evalRs F es env st = .ok rs st' → rs.length = es.length
  | .nil, env, st, rs, st', h => by
    simp only [evalRs, Out.ok.injEq] at h
    rw [← h.1]; rfl
  | .cons e es, env, st, rs, st', h => by
    simp only [evalRs] at h
    cases e1 : evalE F e env st with
    | bad => rw [e1] at h; cases h
    | exc c fs s => rw [e1] at h; cases h
    | ok r st1 =>
      rw [e1, Out.bind_ok] at h
      cases e2 : evalRs F es env st1 with
      | bad => rw [e2] at h; cases h
      | exc c fs s => rw [e2] at h; cases h
      | ok rs2 st2 =>
        rw [e2, Out.bind_ok] at h
        cases h
        have := evalRs_len F es env st1 rs2 _ e2
        simp [this, Exs.length]
theorem CEd.len {T : Ftab} {N : List Str} {sc : Scope} : ∀ {es : Exs} {Ks : List (Option Expr)} {Vs : List Expr}, CEd T N sc es Ks Vs → es.length = 2 * Ks.length ∧ Ks.length = Vs.length ∧ Ks.all (·.isSome) = true
  | _, _, _, .nil => ⟨rfl, rfl, rfl⟩
  | _, _, _, .cons hk hv h => by
    obtain ⟨a, b, c⟩ := CEd.len h
    refine ⟨?_, by simp [b], by simpa using c⟩
    simp only [Exs.length, List.length_cons]
    omega
theorem CI.folded {T : Ftab} {N : List Str} {sc : Scope} {it : Itr} {Tg Iter : Expr} (h : CI T N sc it Tg Iter) (env : PySem.Env) (x : Value) : foldedSetIterable Iter env x = pure x := by
  cases h with
  | it h => cases h <;> rfl
  | rng1 => rfl
  | rng2 => rfl

/-- what all promises rest on -/
structure World' (Γ : Ctx) (k : Nat) (T : Ftab) (F : Fsem) : Prop where
  bi : BiOk Γ
  cs : CsOk Γ T
  fn : ∀ f i, T.fn f = some i → FOk Γ k F f i

section
variable {Γ : Ctx} {k : Nat} {N : List Str} {T : Ftab} {F : Fsem}

def SE (Γ : Ctx) (k : Nat) (N : List Str) (F : Fsem) (sc : Scope) (e : Ex) (E : Expr) : Prop := ∀ X W, XOk Γ k N sc X → Takes X (wx W) → PE X E (tD Γ (evalE F e) (rRes Γ) W)
structure SEs (Γ : Ctx) (k : Nat) (N : List Str) (F : Fsem) (sc : Scope) (es : Exs) (Es : List Expr) : Prop where
  pa : ∀ X W, XOk Γ k N sc X → Takes X (wx W) → PA X Es (tDA Γ (evalRs F es) W)
  an : ∀ X W pos, XOk Γ k N sc X → Takes X (wx W) → PE X (.BoolOp .And Es pos) (tD Γ (evalAnd F es) (rRes Γ) W)
  or : ∀ X W pos, XOk Γ k N sc X → Takes X (wx W) → PE X (.BoolOp .Or Es pos) (tD Γ (evalOr F es) (rRes Γ) W)
def SEd (Γ : Ctx) (k : Nat) (N : List Str) (F : Fsem) (sc : Scope) (es : Exs) (Ks : List (Option Expr)) (Vs : List Expr) : Prop := ∀ X W pos, XOk Γ k N sc X → Takes X (wx W) → PD Γ X pos Ks Vs (evalRs F es) W
def SP' (Γ : Ctx) (k : Nat) (N : List Str) (F : Fsem) (sc : Scope) (es : Exs) (P : Option Expr) : Prop := ∀ X W, XOk Γ k N sc X → Takes X (wx W) → PO X P (tDP Γ (evalPart F es) W)
def ST (Γ : Ctx) (k : Nat) (N : List Str) (F : Fsem) (sc : Scope) (t : Te) (E : Expr) : Prop := ∀ X W, XOk Γ k N sc X → Takes X (wx W) → PT X E (tDT Γ (evalT F t) W)
structure STs (Γ : Ctx) (k : Nat) (N : List Str) (F : Fsem) (sc : Scope) (ts : Tes) (Es : List Expr) : Prop where
  an : ∀ X W pos, XOk Γ k N sc X → Takes X (wx W) → PW X (.BoolOp .And Es pos) (tDT Γ (evalAndT F ts) W)
  or : ∀ X W pos, XOk Γ k N sc X → Takes X (wx W) → PW X (.BoolOp .Or Es pos) (tDT Γ (evalOrT F ts) W)
  ifs : Es.length ≤ 1 → ∀ X W, XOk Γ k N sc X → Takes X (wx W) → PTs X Es (tDT Γ (evalIfs F ts) W)
def SI (Γ : Ctx) (k : Nat) (N : List Str) (F : Fsem) (sc : Scope) (it : Itr) (Tg Iter : Expr) : Prop := ∀ X W, XOk Γ k N sc X → Takes X (wx W) → PI X Tg Iter (tDI Γ (evalI F it) W)

theorem tD_bad {X : Cx} {E : Expr} {W : L2.St → WC} {ev : Env → Store → Out Res} (h : ∀ env st, ev env st = .bad) : PE X E (tD Γ ev (rRes Γ) W) :=
  ⟨fun pins s σ H Q I ⟨_, _, env, st, _, hp⟩ => by rw [h] at hp; exact hp.elim⟩
theorem tDT_badW {X : Cx} {E : Expr} {W : L2.St → WC} {ev : Env → Store → Out Bool} (h : ∀ env st, ev env st = .bad) : PW X E (tDT Γ ev W) :=
  ⟨fun wh pins s σ H Q I ⟨_, _, env, st, _, hp⟩ => by rw [h] at hp; exact hp.elim⟩

variable (hw : World' Γ k T F)
include hw
mutual
theorem CE.snd {sc : Scope} : ∀ {e : Ex} {E : Expr}, CE T N sc e E → SE Γ k N F sc e E
  | _, _, .var h1 h2 h3 h4, X, W, xo, tk => by
    have := pe_varD (W := W) (pos := by assumption) xo h1 h2 h3 h4
    simp only [evalE]
    exact this
  | _, _, .non, X, W, xo, tk => pe_cstD pe_non fun _ _ => .non
  | _, _, .bl, X, W, xo, tk => pe_cstD pe_bl fun _ _ => .bl _
  | _, _, .int, X, W, xo, tk => pe_cstD pe_int fun _ _ => .int _
  | _, _, .str h, X, W, xo, tk => pe_cstD pe_str fun _ _ => .str _ h
  | _, _, .glb h1 h3, X, W, xo, tk => by
    obtain ⟨u, v, a1, a2, a3⟩ := hw.cs.at' _ _ h1
    exact pe_cstD (pe_glob (gl_of xo h3) (by rw [xo.mg]; exact a1) a2 (glB_2 h3)) a3
  | _, _, .bin ha hb, X, W, xo, tk => pe_bin xo (CE.snd ha X W xo tk) (CE.snd hb X W xo tk)
  | _, _, .neg ha, X, W, xo, tk => pe_negD xo (CE.snd ha X W xo tk)
  | _, _, .cmp ha hb h, X, W, xo, tk => pe_cmpD xo (CE.snd ha X W xo tk) (CE.snd hb X W xo tk) h
  | _, _, .cmp2 ha hb hc h, X, W, xo, tk => pe_cmp2D xo (CE.snd ha X W xo tk) (CE.snd hb X W xo tk) (CE.snd hc X W xo tk) h
  | _, _, .not h, X, W, xo, tk => pe_notD xo (CE.snd h X W xo tk)
  | _, _, .and h, X, W, xo, tk => (CEs.snd h).an X W _ xo tk
  | _, _, .or h, X, W, xo, tk => (CEs.snd h).or X W _ xo tk
  | _, _, .ife ht ha hb, X, W, xo, tk => pe_ifD (CT.snd ht X W xo tk) (CE.snd ha X W xo tk) (CE.snd hb X W xo tk)
  | _, _, .tup h, X, W, xo, tk => pe_tupD ((CEs.snd h).pa X W xo tk)
  | _, _, .lst h, X, W, xo, tk => pe_lstD ((CEs.snd h).pa X W xo tk)
  | _, _, .dct (es := es) h h0 h1, X, W, xo, tk => by
    obtain ⟨a1, a2, a3⟩ := h.len
    exact pe_dctD (CEd.snd h X W _ xo tk) a3 a2 h0 h1 fun env st rs st' e => (evalRs_len F es env st rs st' e).trans a1
  | _, _, .ix ha hb, X, W, xo, tk => pe_ixD xo (CE.snd ha X W xo tk) (CE.snd hb X W xo tk) hb.plainIx
  | _, _, .sl ha hl hh, X, W, xo, tk => pe_slD xo (CE.snd ha X W xo tk) (CP.snd hl X W xo tk) (CP.snd hh X W xo tk)
  | _, _, .rev ha, X, W, xo, tk => pe_revD xo (CE.snd ha X W xo tk)
  | _, _, .sset h3 h4 ha, X, W, xo, tk => pe_ssetD xo hw.bi h3 h4 (CE.snd ha X W xo tk) fun es => ha.star _ _
  | _, _, .call (e := e) (es := es) h1 h2 h3 ha h h5, X, W, xo, tk =>
    pe_callD (as := evalRs F (.cons e es)) xo (hw.fn _ _ h1) (Nat.le_refl k) h2 h3 tk (fun env st rs st' e0 => by rw [evalRs_len F _ env st rs st' e0, ← h5]; simp only [Exs.length]; omega) (pa_consD (CE.snd ha X W xo tk) ((CEs.snd h).pa X W xo tk) (ha.star _ _)) (ha.star _ _) (h.plain _ _)
  | _, _, .call0 h1 h2 h3 h5, X, W, xo, tk => pe_call0D xo (hw.fn _ _ h1) (Nat.le_refl k) h2 h3 tk h5
  | _, _, .bi (e := e) (es := es) h2 h3 ha h, X, W, xo, tk =>
    pe_biD (as := evalRs F (.cons e es)) xo hw.bi h2 h3 (pa_consD (CE.snd ha X W xo tk) ((CEs.snd h).pa X W xo tk) (ha.star _ _)) (ha.star _ _) (h.plain _ _)
  | _, _, .isi ha h3 h4 h5 h6, X, W, xo, tk => pe_isiD xo hw.bi h3 h4 h5 h6 (CE.snd ha X W xo tk) fun es => ha.star _ _
  | _, _, .mth (e := e) (es := es) ho ha h h1 h2 h3, X, W, xo, tk =>
    pe_mthD (as := evalRs F (.cons e es)) xo (CE.snd ho X W xo tk) h1 h2 (by rw [h.len]; exact h3) (pa_consD (CE.snd ha X W xo tk) ((CEs.snd h).pa X W xo tk) (ha.star _ _)) (ha.star _ _) (h.plain _ _) (by
      rw [ha.star]
      show (!false && _) = true
      rw [Bool.not_false, Bool.true_and]
      exact h.all _ _)
  | _, _, .mth0 ho h1 h2, X, W, xo, tk => pe_mth0D xo (CE.snd ho X W xo tk) h1 h2
  | _, _, .comp ns h1 hl hi hg ht hlen he, X, W, xo, tk =>
    pe_compD xo h1 hl (CI.snd hi X W xo tk) hg (fun s H C cl fp => (CTs.snd ht).ifs hlen _ _ (xo_blk xo s H _ C cl fp) takes0) (fun s H C cl fp => CE.snd he _ _ (xo_blk xo s H _ C cl fp) takes0) (hi.folded _)
theorem CEs.snd {sc : Scope} : ∀ {es : Exs} {Es : List Expr}, CEs T N sc es Es → SEs Γ k N F sc es Es
  | _, _, .nil => ⟨fun X W xo tk => pa_nilD, fun X W pos xo tk => tD_bad fun env st => by simp only [evalAnd], fun X W pos xo tk => tD_bad fun env st => by simp only [evalOr]⟩
  | _, _, .cons ha .nil => ⟨fun X W xo tk => pa_consD (CE.snd ha X W xo tk) pa_nilD (ha.star _ _), fun X W pos xo tk => pe_one (by simp only [evalAnd]; exact CE.snd ha X W xo tk), fun X W pos xo tk => pe_one (by simp only [evalOr]; exact CE.snd ha X W xo tk)⟩
  | _, _, .cons ha (.cons hb h) => ⟨fun X W xo tk => pa_consD (CE.snd ha X W xo tk) ((CEs.snd (.cons hb h)).pa X W xo tk) (ha.star _ _), fun X W pos xo tk => pe_andD (CE.snd ha X W xo tk) ((CEs.snd (.cons hb h)).an X W pos xo tk), fun X W pos xo tk => pe_orD (CE.snd ha X W xo tk) ((CEs.snd (.cons hb h)).or X W pos xo tk)⟩
theorem CEd.snd {sc : Scope} : ∀ {es : Exs} {Ks : List (Option Expr)} {Vs : List Expr}, CEd T N sc es Ks Vs → SEd Γ k N F sc es Ks Vs
  | _, _, _, .nil, X, W, pos, xo, tk => pd_nil
  | _, _, _, .cons hk hv h, X, W, pos, xo, tk => pd_cons (CE.snd hk X W xo tk) (CE.snd hv X W xo tk) (CEd.snd h X W pos xo tk)
theorem CP.snd {sc : Scope} : ∀ {es : Exs} {P : Option Expr}, CP T N sc es P → SP' Γ k N F sc es P
  | _, _, .none, X, W, xo, tk => po_noneD
  | _, _, .some h, X, W, xo, tk => po_someD (CE.snd h X W xo tk)
theorem CT.snd {sc : Scope} : ∀ {t : Te} {E : Expr}, CT T N sc t E → ST Γ k N F sc t E
  | _, _, .val h h2, X, W, xo, tk => pt_valD xo (CE.snd h X W xo tk) h2
  | _, _, .cmp ha hb h, X, W, xo, tk => pt_cmpD xo (CE.snd ha X W xo tk) (CE.snd hb X W xo tk) h
  | _, _, .cmp2 ha hb hc h, X, W, xo, tk => pt_cmp2D xo (CE.snd ha X W xo tk) (CE.snd hb X W xo tk) (CE.snd hc X W xo tk) h
  | _, _, .not h, X, W, xo, tk => pt_notD (CT.snd h X W xo tk)
  | _, _, .and h, X, W, xo, tk => ((CTs.snd h).an X W _ xo tk).pt
  | _, _, .or h, X, W, xo, tk => ((CTs.snd h).or X W _ xo tk).pt
theorem CTs.snd {sc : Scope} : ∀ {ts : Tes} {Es : List Expr}, CTs T N sc ts Es → STs Γ k N F sc ts Es
  | _, _, .nil => ⟨fun X W pos xo tk => tDT_badW fun env st => by simp only [evalAndT], fun X W pos xo tk => tDT_badW fun env st => by simp only [evalOrT], fun _ X W xo tk => ⟨fun pins s σ H Q I ⟨_, _, _, _, r, hp⟩ => pts_nil.run pins s σ H Q I (by simp only [evalIfs] at hp; exact hp.now r.st)⟩⟩
  | _, _, .cons ha .nil => ⟨fun X W pos xo tk => pw_and1 (by simp only [evalAndT]; exact CT.snd ha X W xo tk), fun X W pos xo tk => pw_or1 (by simp only [evalOrT]; exact CT.snd ha X W xo tk), fun _ X W xo tk => pts_one (by simp only [evalIfs]; exact CT.snd ha X W xo tk)⟩
  | _, _, .cons ha (.cons hb h) => ⟨fun X W pos xo tk => pw_andD (CT.snd ha X W xo tk) ((CTs.snd (.cons hb h)).an X W pos xo tk), fun X W pos xo tk => pw_orD (CT.snd ha X W xo tk) ((CTs.snd (.cons hb h)).or X W pos xo tk), fun hl => by simp at hl⟩
theorem CI.snd {sc : Scope} : ∀ {it : Itr} {Tg Iter : Expr}, CI T N sc it Tg Iter → SI Γ k N F sc it Tg Iter
  | _, _, _, .it h, X, W, xo, tk => pi_itD xo (CE.snd h X W xo tk)
  | _, _, _, .rng1 h3 ha, X, W, xo, tk => pi_rng1D xo hw.bi h3 (CE.snd ha X W xo tk) fun es => ha.star _ _
  | _, _, _, .rng2 h3 ha hb, X, W, xo, tk => pi_rng2D xo hw.bi h3 (CE.snd ha X W xo tk) (CE.snd hb X W xo tk) (fun es => ha.star _ _) fun es => hb.star _ _
end
end
end Py
end

section
set_option maxRecDepth 100000
set_option maxHeartbeats 4000000
set_option linter.all false
/-! Statements: the small language, its evaluator. -/
namespace Py
open PySem L2 PySem.Spec PyProof.Rows

/-- methods that change a list -/
inductive MM where
  | append | extend | insert
mutual
inductive Sm where
  | set (i : Nat) (e : Ex)
  | vl (i : Nat) (e : Ex)
  | unp (is : List Nat) (e : Ex)
  | sset (i : Nat) (k v : Ex)
  | mut (m : MM) (i : Nat) (es : Exs)
  | expr (e : Ex)
  | ret (e : Ex)
  | retO (i : Nat)
  | ife (c : Te) (a b : Sms)
  | for_ (tg : Tg) (it : Itr) (body : Sms)
  | wh (fuel : Nat) (c : Te) (body : Sms)
  | brk
  | cont
  | pass
  | frz (i : Nat)
  | cell (i : Nat)
  | move (i j : Nat)
inductive Sms where
  | nil
  | cons (s : Sm) (ss : Sms)
end

/-- a statement's end -/
inductive SOut where
  | nx (env : Env) (st : Store)
  | rt (r : Res) (st : Store)
  | bk (env : Env) (st : Store)
  | ct (env : Env) (st : Store)
  | exc (c : Nat) (fs : List D) (env : Env) (st : Store)
  | bad
def Out.sbind {α : Type} (o : Out α) (env : Env) (f : α → Store → SOut) : SOut :=
  match o with
  | .ok a st => f a st
  | .exc c fs st => .exc c fs env st
  | .bad => .bad
def SOut.seq (o : SOut) (f : Env → Store → SOut) : SOut :=
  match o with
  | .nx env st => f env st
  | o => o
def Res.slot : Res → Option Res
  | .val d => some (.val d)
  | .own c => some (.own c)
  | .bor _ => none

def forL (put : D → Env → Option Env) (body : Env → Store → SOut) : List D → Env → Store → SOut
  | [], env, st => .nx env st
  | x :: xs, env, st => match put x env with
    | none => .bad
    | some e => match body e st with
      | .nx e1 st1 => forL put body xs e1 st1
      | .ct e1 st1 => forL put body xs e1 st1
      | .bk e1 st1 => .nx e1 st1
      | o => o
def whL (test : Env → Store → Out Bool) (body : Env → Store → SOut) : Nat → Env → Store → SOut
  | 0, _, _ => .bad
  | n + 1, env, st => (test env st).sbind env fun b st1 => if b = true then
      match body env st1 with
      | .nx e1 st2 => whL test body n e1 st2
      | .ct e1 st2 => whL test body n e1 st2
      | .bk e1 st2 => .nx e1 st2
      | o => o
    else .nx env st1

/-- a key's new value: in its old place, or behind -/
def putD {κ : Type} [DecidableEq κ] (kvs : List (κ × D)) (k : κ) (x : D) : List (κ × D) :=
  if (kvs.any fun kv => decide (kv.1 = k)) = true then kvs.map (fun kv => if kv.1 = k then (kv.1, x) else kv) else kvs ++ [(k, x)]
def dictPut (c : Cell) (k x : D) : Option Cell :=
  match c with
  | .dK kvs => match k.key with
    | some k => if kvs.length < sizeLine then some (.dK (putD kvs k x)) else none
    | none => none
  | .dT kvs => match k with
    | .tup ds => match D.keys ds with
      | some k => if kvs.length < sizeLine then some (.dT (putD kvs k x)) else none
      | none => none
    | _ => none
  | _ => none
/-- what a list's method makes of it; the things handed in: frozen, or as seen -/
def opMut (m : MM) (c : Cell) (rs : List Res) (st : Store) : Option Cell :=
  match m, c with
  | .append, .lst xs => match toDs rs with
    | some [d] => if xs.length < sizeLine then some (.lst (xs ++ [d])) else none
    | _ => none
  | .extend, .lst xs => match rs with
    | [r] => match r.vw st with
      | .sq false ys => if xs.length + ys.length ≤ sizeLine then some (.lst (xs ++ ys)) else none
      | _ => none
    | _ => none
  | .insert, .lst xs => match toDs rs with
    | some [.int j, d] => if xs.length < sizeLine ∧ 0 ≤ j ∧ j < 2 ^ 63 then some (.lst (xs.take j.toNat ++ [d] ++ xs.drop j.toNat)) else none
    | _ => none
  | _, _ => none
/-- the object behind a slot -/
def slotC (i : Nat) (env : Env) (st : Store) : Option Cell :=
  match env[i]? with
  | some (some (.own c)) => some c
  | some (some (.val (.ptr n))) => match st[n]? with
    | some (some c) => some c
    | _ => none
  | _ => none
/-- the object behind a slot changes -/
def chg (f : Cell → Option Cell) (i : Nat) (env : Env) (st : Store) : SOut :=
  match env[i]? with
  | some (some (.own c)) => match f c with
    | some c' => .nx (env.set i (some (.own c'))) st
    | none => .bad
  | some (some (.val (.ptr n))) => match st[n]? with
    | some (some c) => match f c with
      | some c' => .nx env (st.set n (some c'))
      | none => .bad
    | _ => .bad
  | _ => .bad

section
variable (F : Fsem)
mutual
def execS : Sm → Env → Store → SOut
  | .set i e, env, st => (evalE F e env st).sbind env fun r st1 => match r.slot with
    | some r => .nx (env.set i (some r)) st1
    | none => .bad
  | .vl i e, env, st => (evalE F e env st).sbind env fun r st1 => match r.toD with
    | some d => .nx (env.set i (some (.val d))) st1
    | none => .bad
  | .unp is e, env, st => (evalE F e env st).sbind env fun r st1 => match r with
    | .val d => match (Tg.tup is).put d env with
      | some e => .nx e st1
      | none => .bad
    | _ => .bad
  | .sset i k v, env, st => (evalE F v env st).sbind env fun rv st1 => match slotC i env st1 with
    | none => .bad
    | some _ => (evalE F k env st1).sbind env fun rk st2 => match toDs [rv, rk] with
    | some [x, kd] => chg (fun c => dictPut c kd x) i env st2
    | _ => .bad
  | .mut m i es, env, st => match slotC i env st with
    | some (.lst _) => (evalRs F es env st).sbind env fun rs st1 => chg (fun c => opMut m c rs st1) i env st1
    | _ => .bad
  | .expr e, env, st => (evalE F e env st).sbind env fun _ st1 => .nx env st1
  | .ret e, env, st => (evalE F e env st).sbind env fun r st1 => .rt r st1
  | .retO i, env, st => match env[i]? with
    | some (some (.own c)) => .rt (.own c) st
    | _ => .bad
  | .ife c a b, env, st => (evalT F c env st).sbind env fun t st1 => if t = true then execSs a env st1 else execSs b env st1
  | .for_ tg it body, env, st => (evalI F it env st).sbind env fun xs st1 => forL tg.put (fun e s => execSs body e s) xs env st1
  | .wh n c body, env, st => whL (fun e s => evalT F c e s) (fun e s => execSs body e s) n env st
  | .brk, env, st => .bk env st
  | .cont, env, st => .ct env st
  | .pass, env, st => .nx env st
  | .frz i, env, st => match env[i]? with
    | some (some (.own (.lst xs))) => .nx (env.set i (some (.val (.lst xs)))) st
    | some (some (.val _)) => .nx env st
    | _ => .bad
  | .cell i, env, st => match env[i]? with
    | some (some (.own c)) => .nx (env.set i (some (.val (.ptr st.length)))) (st ++ [some c])
    | _ => .bad
  | .move i j, env, st => match env[j]? with
    | some (some (.own c)) => .nx ((env.set j none).set i (some (.own c))) st
    | _ => .bad
def execSs : Sms → Env → Store → SOut
  | .nil, env, st => .nx env st
  | .cons s ss, env, st => (execS s env st).seq fun e s => execSs ss e s
end
end

/-- an assignment whose value is made on the spot: none -/
def notLC : Expr → Bool
  | .ListComp _ _ _ _ => false
  | _ => true
def notTup : Expr → Bool
  | .Tuple _ _ _ => false
  | .List _ _ => false
  | _ => true
/-- what the stores' order is -/
def swSt (sc : Scope) (ts vs : List Expr) : Option (Option (List Str)) :=
  if !(ts.length == 2 || ts.length == 3) || vs.length != ts.length || (if sc.kind.isAnnotationScope then ScopeKind.function else sc.kind) != .function then some none
  else if vs.any (fun | .Starred .. => true | _ => false) then some none
  else
    let line := (ts.head?.map (·.pos.line)).getD 0
    let names := ts.filterMap fun
      | .Name id pos => if sc.names.lookup id == some .local && pos.line == line then some id else none
      | _ => none
    if names.length != ts.length || names.eraseDups.length != names.length then some none
    else if vs.all (foldedForSure 8) then some none
    else if vs.all (constantsAlone 8) then none
    else some (some names)
theorem swSt_ok {sc : Scope} {ts vs : List Expr} {r : Option (List Str)} {k1 k2 : Nat} {p1 p2 : Pos} {env : PySem.Env} (h : swSt sc ts vs = some r) (he : env.scope = sc) : swappedStores [.Tuple ts k1 p1] (.Tuple vs k2 p2) env = pure r := by
  subst he
  have e : swappedStores [.Tuple ts k1 p1] (.Tuple vs k2 p2) env = (match swSt env.scope ts vs with | some r => pure r | none => unsupported "assign.tuple-of-constant-expressions:order-of-the-stores") := by
    have go : ∀ (A B C D G : Bool) (n : List Str), (if A = true then (pure none : Sem (Option (List Str))) else if B = true then pure none else if C = true then pure none else if D = true then pure none else if G = true then unsupported "assign.tuple-of-constant-expressions:order-of-the-stores" else pure (some n)) =
        (match (if A = true then some none else if B = true then some none else if C = true then some none else if D = true then some none else if G = true then none else some (some n) : Option (Option (List Str))) with | some r => pure r | none => unsupported "assign.tuple-of-constant-expressions:order-of-the-stores") := by
      intro A B C D G n
      cases A <;> cases B <;> cases C <;> cases D <;> cases G <;> rfl
    exact go _ _ _ _ _ _
  rw [e, h]
end Py
end

section
set_option maxRecDepth 100000
set_option maxHeartbeats 4000000
set_option linter.all false
/-! Statements keep the evaluator's promise. -/
namespace Py
open PySem L2 PySem.Spec PyProof.Rows

/-- what a def's and a loop's start was -/
structure Bs where
  H0 : Hp
  g0 : Gh
  Hk : Hp
  gk : Gh
structure On (b : Bs) (H : Hp) (g : Gh) : Prop where
  x : Ext b.H0 b.g0 H g
  k : Kp b.Hk b.gk H g
  d : ∀ a, b.g0.P a → b.H0 a ≠ none
theorem On.ext {b : Bs} {H H' : Hp} {g g' : Gh} (o : On b H g) (x : Ext H g H' g') : On b H' g' := ⟨o.x.trans x, o.k.trans x.kp, o.d⟩
def SPost (Γ : Ctx) (b : Bs) (o : SOut) (D : Ends) (W : L2.St → WC) : Prop :=
  match o with
  | .nx env st => ∀ σ H g, On b H g → Rep Γ b.H0 H g σ env st → D.nx σ H
  | .bk env st => ∀ σ H g, On b H g → Rep Γ b.H0 H g σ env st → D.bk σ H
  | .ct env st => ∀ σ H g, On b H g → Rep Γ b.H0 H g σ env st → D.ct σ H
  | .rt r st => ∀ H g v, Ext b.H0 b.g0 H g → RepSt Γ.K Γ.Cl H g st → RR Γ.K Γ.Cl b.H0 H g r v → D.rt v H
  | .exc c fs env st => ∀ σ H g cls dd, On b H g → Rep Γ b.H0 H g σ env st → ExcAt Γ H g c fs cls dd → W σ cls dd H
  | .bad => False
def tDS (Γ : Ctx) (ev : Env → Store → SOut) (W : L2.St → WC) : TS := fun D σ H =>
  ∃ b g env st, Rep Γ b.H0 H g σ env st ∧ On b H g ∧ SPost Γ b (ev env st) D W

section
variable {Γ : Ctx} {b : Bs} {H0 H H1 : Hp} {g0 g g1 : Gh} {σ : L2.St} {env : Env} {st st1 : Store} {D : Ends} {W : L2.St → WC} {α : Type}
theorem SPost.sb {o : Out α} {f : α → Store → SOut} (r : Rep Γ b.H0 H g σ env st) (x0 : On b H g) (h : SPost Γ b (o.sbind env f) D W) : Post Γ H g o (fun _ _ st1 a => SPost Γ b (f a st1) D W) (W σ) := by
  cases o with
  | ok a st1 => exact fun _ _ _ _ => h
  | exc c fs st1 => exact fun H' g' cls dd x s e => h σ H' g' cls dd (x0.ext x) (r.ext x s) e
  | bad => exact h
theorem slot_not {r r' : Res} (h : r.slot = some r') : r' = r ∧ ∀ c, r ≠ .bor c := by
  cases r <;> simp only [Res.slot, Option.some.injEq, reduceCtorEq] at h
  · subst h; exact ⟨rfl, fun c e => by cases e⟩
  · subst h; exact ⟨rfl, fun c e => by cases e⟩
theorem RepEnv.setR {K : PySem.W.Frag} {Cl : Cls} {Hs : Hp} {i : Nat} {v : V} {r : Res} (h : RepEnv K Cl H0 H g σ env) (x : Ext H g H1 g1) (old : ∀ a, H a = none → H0 a = none) (rr : RR K Cl Hs H1 g1 r v) (hs : ∀ a, Hs a = none → H a = none) (nb : ∀ c, r ≠ .bor c) :
    RepEnv K Cl H0 H1 g1 (σ.set i (some v)) (env.set i (some r)) := by
  have h1 := h.ext x
  have sep1 : ∀ (j : Nat) (a : Addr) (cj : Cell), env[j]? = some (some (.own cj)) → σ[j]? = some (some (.ref a)) → (∃ c, r = .own c) → v ≠ .ref a := by
    rintro j a cj e1 e2 ⟨c, rfl⟩ rfl
    obtain ⟨w, hw, rj⟩ := h.at' j _ e1
    rw [e2] at hw
    cases hw
    obtain ⟨b, eb, _, _, _, cb⟩ := rj
    cases eb
    obtain ⟨o, ho⟩ := cb.some
    obtain ⟨d, ed, nd, _⟩ := rr
    cases ed
    rw [hs _ nd] at ho
    cases ho
  refine ⟨by simp [h.len], fun j r' e => ?_, fun i' j a ci cj e1 e2 e3 e4 => ?_, fun j c e => ?_⟩
  · by_cases hj : i = j
    · subst hj
      by_cases hl : i < env.length
      · rw [List.getElem?_set_self hl] at e
        cases e
        exact ⟨v, by rw [List.getElem?_set_self (by rw [← h.len]; exact hl)], rr.back fun a n => old a (hs a n)⟩
      · rw [List.getElem?_eq_none (by simpa using hl)] at e; cases e
    · rw [List.getElem?_set_ne hj] at e ⊢
      exact h1.at' j r' e
  · have gt : ∀ {l : List (Option Res)} {x : Option Res} {y}, (l.set i x)[i]? = some y → y = x := by
      intro l x y e
      by_cases hl : i < l.length
      · rw [List.getElem?_set_self hl] at e; exact (Option.some.inj e).symm
      · rw [List.getElem?_eq_none (by simpa using hl)] at e; cases e
    have gt2 : ∀ {l : L2.St} {x : Option V} {y}, (l.set i x)[i]? = some y → y = x := by
      intro l x y e
      by_cases hl : i < l.length
      · rw [List.getElem?_set_self hl] at e; exact (Option.some.inj e).symm
      · rw [List.getElem?_eq_none (by simpa using hl)] at e; cases e
    by_cases h1 : i = i'
    · subst h1
      by_cases h2 : i = j
      · exact h2
      · rw [List.getElem?_set_ne h2] at e2 e4
        have q1 := gt e1
        have q2 := gt2 e3
        cases q2
        cases q1
        exact absurd rfl (sep1 j a cj e2 e4 ⟨ci, rfl⟩)
    · rw [List.getElem?_set_ne h1] at e1 e3
      by_cases h2 : i = j
      · subst h2
        have q1 := gt e2
        have q2 := gt2 e4
        cases q2
        cases q1
        exact absurd rfl (sep1 i' a ci e1 e3 ⟨cj, rfl⟩)
      · rw [List.getElem?_set_ne h2] at e2 e4
        exact h.sep i' j a ci cj e1 e2 e3 e4
  · by_cases hj : i = j
    · subst hj
      by_cases hl : i < env.length
      · rw [List.getElem?_set_self hl] at e; cases e; exact nb c rfl
      · rw [List.getElem?_eq_none (by simpa using hl)] at e; cases e
    · rw [List.getElem?_set_ne hj] at e
      exact h.nob j c e

/-- name = value -/
theorem set_tD {i : Nat} {ev : Env → Store → Out Res} (h : tDS Γ (fun env st => (ev env st).sbind env fun r st1 => match r.slot with
    | some r => .nx (env.set i (some r)) st1
    | none => .bad) W D σ H) : tD Γ ev (rRes Γ) W σ H (fun x H1 => gName i x σ H1 D.nx) := by
  obtain ⟨b, g, env, st, r, x0, hp⟩ := h
  refine ⟨b.H0, g, env, st, r, (SPost.sb r x0 hp).imp fun H1 g1 st1 a x1 s1 q v rr => ?_⟩
  show D.nx (σ.set i (some v)) H1
  cases e : a.slot with
  | none => rw [e] at q; exact q.elim
  | some r' =>
    rw [e] at q
    obtain ⟨rfl, nb⟩ := slot_not e
    exact q _ H1 g1 (x0.ext x1) ⟨r.env.setR x1 (fun a h => x0.x.dom a h) rr (fun a h => h) nb, s1, fun a h => r.old a (x1.dom a h)⟩
/-- name = value, which becomes plain for good -/
theorem vl_tD {i : Nat} {ev : Env → Store → Out Res} (h : tDS Γ (fun env st => (ev env st).sbind env fun r st1 => match r.toD with
    | some d => .nx (env.set i (some (.val d))) st1
    | none => .bad) W D σ H) : tD Γ ev (rRes Γ) W σ H (fun x H1 => gName i x σ H1 D.nx) := by
  obtain ⟨b, g, env, st, r, x0, hp⟩ := h
  refine ⟨b.H0, g, env, st, r, (SPost.sb r x0 hp).imp fun H1 g1 st1 a x1 s1 q v rr => ?_⟩
  show D.nx (σ.set i (some v)) H1
  cases e : a.toD with
  | none => rw [e] at q; exact q.elim
  | some d =>
    rw [e] at q
    obtain ⟨g2, x2, k2, s2, rd, _, _⟩ := frz1 rr e x1 r.st s1
    exact q _ H1 g2 (x0.ext x2) ⟨(r.env.ext x2).set rd, s2, fun a h => r.old a (x2.dom a h)⟩
/-- several names = a tuple -/
theorem unp_tD {K : PySem.W.Frag} {is : List Nat} {ev : Env → Store → Out Res} (hK : K = Γ.K) (h : tDS Γ (fun env st => (ev env st).sbind env fun r st1 => match r with
    | .val d => match (Tg.tup is).put d env with
      | some e => .nx e st1
      | none => .bad
    | _ => .bad) W D σ H) : tD Γ ev (rRes Γ) W σ H (fun x H1 => (Tg.tup is).g K x σ H1 D.nx) := by
  subst hK
  obtain ⟨b, g, env, st, r, x0, hp⟩ := h
  refine ⟨b.H0, g, env, st, r, (SPost.sb r x0 hp).imp fun H1 g1 st1 a x1 s1 q v rr => ?_⟩
  cases a with
  | val d =>
    dsimp only at q
    cases e : (Tg.tup is).put d env with
    | none => rw [e] at q; exact q.elim
    | some e2 =>
      rw [e] at q
      exact tg_ok (r.env.ext x1) rr e fun σ' re _ => q σ' H1 g1 (x0.ext x1) ⟨re, s1, fun a h => r.old a (x1.dom a h)⟩
  | own c => exact q.elim
  | bor c => exact q.elim

/-! a changed object -/
theorem slotC_at {i : Nat} {c : Cell} (r : Rep Γ H0 H g σ env st) (h : slotC i env st = some c) : ∃ a, σ[i]? = some (some (.ref a)) ∧ CellAt Γ.K Γ.Cl H g a c ∧ g.P a := by
  unfold slotC at h
  split at h
  · rename_i c' e
    cases h
    obtain ⟨v, hv, rv⟩ := r.env.at' i _ e
    obtain ⟨a, rfl, _, p, _, q⟩ := rv
    exact ⟨a, hv, q, p⟩
  · rename_i n e
    split at h
    · rename_i c' e2
      cases h
      obtain ⟨v, hv, rv⟩ := r.env.at' i _ e
      cases rv with
      | ptr e3 =>
        obtain ⟨a, h1, h2⟩ := r.st.cell n _ e2
        rw [e3] at h1; cases h1
        exact ⟨_, hv, h2, r.st.prot _ (List.mem_of_getElem? e3)⟩
    · cases h
  · cases h
theorem CellAt.upd {K : PySem.W.Frag} {Cl : Cls} {a b : Addr} {o : HO} {c : Cell} (h : CellAt K Cl H g b c) (p : g.P a) (n : b ≠ a) : CellAt K Cl (L2.upd H a o) g b c := h.kp (Kp.upd p) (upd_ne n)
theorem chg_ok {i : Nat} {f : Cell → Option Cell} (r : Rep Γ b.H0 H g σ env st) (x0 : On b H g) (h : SPost Γ b (chg f i env st) D W) :
    ∃ a c c', σ[i]? = some (some (.ref a)) ∧ slotC i env st = some c ∧ CellAt Γ.K Γ.Cl H g a c ∧ f c = some c' ∧ g.P a ∧ ∀ o, CellAt Γ.K Γ.Cl (L2.upd H a o) g a c' → D.nx σ (L2.upd H a o) := by
  unfold chg at h
  unfold slotC
  split at h
  · rename_i c e
    cases ef : f c with
    | none => rw [ef] at h; exact h.elim
    | some c' =>
      rw [ef] at h
      obtain ⟨v, hv, rv⟩ := r.env.at' i _ e
      obtain ⟨a, rfl, n0, p, l, q⟩ := rv
      refine ⟨a, c, c', hv, rfl, q, ef, p, fun o hc => ?_⟩
      have hl : i < env.length := (List.getElem?_eq_some_iff.mp e).1
      refine h σ _ g ⟨x0.x.upd n0 p, x0.k.trans (Kp.upd p), x0.d⟩ ⟨⟨by simp [r.env.len], fun j rj ej => ?_, fun i' j b' ci cj e1 e2 e3 e4 => ?_, fun j cj ej => ?_⟩, r.st.upd p l, fun z hb => ?_⟩
      · by_cases hj : i = j
        · subst hj
          rw [List.getElem?_set_self hl] at ej
          cases ej
          exact ⟨_, hv, a, rfl, n0, p, l, hc⟩
        · rw [List.getElem?_set_ne hj] at ej
          obtain ⟨w, hw, rw'⟩ := r.env.at' j _ ej
          refine ⟨w, hw, ?_⟩
          cases rj with
          | val d => exact RD.kp (Kp.upd p) rw'
          | own cj =>
            obtain ⟨z, rfl, nb, pb, lb, qb⟩ := rw'
            exact ⟨z, rfl, nb, pb, lb, qb.upd p fun e' => by subst e'; exact hj (r.env.sep i j z c cj e ej hv hw)⟩
          | bor cj => exact absurd ej (r.env.nob j cj)
      · have own' : ∀ (j : Nat) (cj : Cell), (env.set i (some (.own c')))[j]? = some (some (.own cj)) → ∃ cj', env[j]? = some (some (.own cj')) := by
          intro j cj ej
          by_cases hj : i = j
          · subst hj; exact ⟨c, e⟩
          · rw [List.getElem?_set_ne hj] at ej; exact ⟨cj, ej⟩
        obtain ⟨_, e1⟩ := own' _ _ e1
        obtain ⟨_, e2⟩ := own' _ _ e2
        exact r.env.sep i' j b' _ _ e1 e2 e3 e4
      · by_cases hj : i = j
        · subst hj
          rw [List.getElem?_set_self hl] at ej
          cases ej
        · rw [List.getElem?_set_ne hj] at ej
          exact r.env.nob j cj ej
      · by_cases e' : z = a
        · subst e'; exact n0
        · rw [upd_ne e'] at hb; exact r.old z hb
  · rename_i n e
    cases e2 : st[n]? with
    | none => rw [e2] at h; exact h.elim
    | some oc =>
      cases oc with
      | none => rw [e2] at h; exact h.elim
      | some c =>
        rw [e2] at h
        dsimp only at h
        cases ef : f c with
        | none => rw [ef] at h; exact h.elim
        | some c' =>
          rw [ef] at h
          obtain ⟨v, hv, rv⟩ := r.env.at' i _ e
          cases rv with
          | @ptr _ a e3 =>
            obtain ⟨a', h1, q⟩ := r.st.cell n _ e2
            rw [e3] at h1; cases h1
            have hm := List.mem_of_getElem? e3
            have p := r.st.prot _ hm
            refine ⟨a, c, c', hv, by simp [e2], q, ef, p, fun o hc => ?_⟩
            have xx : Ext b.H0 b.g0 (L2.upd H a o) g := by
              refine ⟨x0.x.kp.trans (Kp.upd p), fun z u hb nl => ?_, fun z hb => ?_, x0.x.stay, x0.x.fresh⟩
              · have : z ≠ a := fun e' => by
                  subst e'
                  rcases x0.x.fresh _ hm with z | z
                  · exact nl z
                  · rw [z] at hb; cases hb
                rw [upd_ne this]
                exact x0.x.keep z u hb nl
              · by_cases e' : z = a
                · subst e'; rw [upd_same] at hb; cases hb
                · rw [upd_ne e'] at hb; exact x0.x.dom z hb
            refine h σ _ g ⟨xx, x0.k.trans (Kp.upd p), x0.d⟩ ⟨⟨r.env.len, fun j rj ej => ?_, r.env.sep, r.env.nob⟩, ?_, fun z hb => ?_⟩
            · obtain ⟨w, hw, rw'⟩ := r.env.at' j _ ej
              refine ⟨w, hw, ?_⟩
              cases rj with
              | val d => exact RD.kp (Kp.upd p) rw'
              | own cj =>
                obtain ⟨z, rfl, nb, pb, lb, qb⟩ := rw'
                exact ⟨z, rfl, nb, pb, lb, qb.upd p fun e' => by subst e'; exact lb hm⟩
              | bor cj => exact absurd ej (r.env.nob j cj)
            · refine ⟨by rw [List.length_set]; exact r.st.len, r.st.nd, r.st.prot, fun w pb z => ?_, fun m cm em => ?_⟩
              · by_cases e' : w = a
                · subst e'; rw [upd_same] at z; cases z
                · rw [upd_ne e'] at z; exact r.st.dom w pb z
              · by_cases hm' : n = m
                · subst hm'
                  have hl : n < st.length := (List.getElem?_eq_some_iff.mp e2).1
                  rw [List.getElem?_set_self hl] at em
                  cases em
                  exact ⟨a, e3, hc⟩
                · rw [List.getElem?_set_ne hm'] at em
                  obtain ⟨z, hb, qb⟩ := r.st.cell m _ em
                  refine ⟨z, hb, qb.upd p fun e' => ?_⟩
                  subst e'
                  have l1 : n < g.L.length := (List.getElem?_eq_some_iff.mp e3).1
                  exact hm' ((List.getElem?_inj l1 r.st.nd).mp (e3.trans hb.symm))
            · by_cases e' : z = a
              · subst e'; rw [upd_same] at hb; cases hb
              · rw [upd_ne e'] at hb; exact r.old z hb
  · exact h.elim
end
end Py
end

section
set_option maxRecDepth 100000
set_option maxHeartbeats 4000000
set_option linter.all false
/-! The statements' relation to the text; each one is sound. -/
namespace Py
open PySem L2 PySem.Spec PyProof.Rows

def mmN : MM → Str
  | .append => "append"
  | .extend => "extend"
  | .insert => "insert"
def mmI : MM → String
  | .append => "list.append"
  | .extend => "list.extend"
  | .insert => "list.insert"
theorem mm_facts (m : MM) : Slot "list" (mmN m) (mmI m) ∧ typeOf (.builtin (mmI m)) = pure (.type "method_descriptor") := by
  cases m
  · exact ⟨PySem.F.slot_list_append, PySem.F.type_list_append⟩
  · exact ⟨PySem.F.slot_list_extend, PySem.F.type_list_extend⟩
  · exact ⟨PySem.F.slot_list_insert, PySem.F.type_list_insert⟩

mutual
inductive CS (T : Ftab) (N : List Str) (sc : Scope) : Sm → Stmt → Prop
  | set {i x p e E pos} (h1 : N[i]? = some x) (h2 : locB sc x = true) (he : CE T N sc e E) (hn : notLC E = true ∨ sc.names.lookup x = some .cell) : CS T N sc (.set i e) (.Assign [.Name x p] E pos)
  | vl {i x p e E pos} (h1 : N[i]? = some x) (h2 : locB sc x = true) (he : CE T N sc e E) (hn : notLC E = true ∨ sc.names.lookup x = some .cell) : CS T N sc (.vl i e) (.Assign [.Name x p] E pos)
  | vlc {i y py own tg it ifs elt Tg Iter Ifs Elt scope pos spos} (ns : List Str) (h1 : N[i]? = some y) (h2 : sc.names.lookup y = some .local) (h3 : (py.line == pos.line) = true) (h4 : (scope.names.any fun (n, k) => n == y && (k == .local || k == .cell)) = false)
      (hb : blkC N sc scope (ns.zip own) = true) (hl : ns.length = own.length) (hi : CI T N sc it Tg Iter) (hg : CG N (relS scope sc) scope own tg Tg) (ht : CTs T N (relS scope sc) ifs Ifs) (hlen : Ifs.length ≤ 1) (he : CE T N (relS scope sc) elt Elt)
      : CS T N sc (.vl i (.comp own tg it ifs elt)) (.Assign [.Name y py] (.ListComp Elt [⟨Tg, Iter, Ifs, 0⟩] scope pos) spos)
  | setc {i y py own tg it ifs elt Tg Iter Ifs Elt scope pos spos} (ns : List Str) (h1 : N[i]? = some y) (h2 : sc.names.lookup y = some .local) (h3 : (py.line == pos.line) = true) (h4 : (scope.names.any fun (n, k) => n == y && (k == .local || k == .cell)) = false)
      (hb : blkC N sc scope (ns.zip own) = true) (hl : ns.length = own.length) (hi : CI T N sc it Tg Iter) (hg : CG N (relS scope sc) scope own tg Tg) (ht : CTs T N (relS scope sc) ifs Ifs) (hlen : Ifs.length ≤ 1) (he : CE T N (relS scope sc) elt Elt)
      : CS T N sc (.set i (.comp own tg it ifs elt)) (.Assign [.Name y py] (.ListComp Elt [⟨Tg, Iter, Ifs, 0⟩] scope pos) spos)
  | move {i j x y p p2 pos} (h1 : N[i]? = some x) (h2 : locB sc x = true) (h3 : N[j]? = some y) (h4 : visB sc y = true) (h5 : (y == ("__debug__" : Str)) = false) (h6 : (y == ("__classdict__" : Str)) = false) : CS T N sc (.move i j) (.Assign [.Name x p] (.Name y p2) pos)
  | unp {is own Tg e E pos} (hg : CG N sc sc own (.tup is) Tg) (he : CE T N sc e E) (hn : notTup E = true) : CS T N sc (.unp is e) (.Assign [Tg] E pos)
  | unpT {is own ts k1 p1 e As k2 p2 pos} (hg : CG N sc sc own (.tup is) (.Tuple ts k1 p1)) (he : CE T N sc e (.Tuple As k2 p2)) (hn : swSt sc ts As = some none) : CS T N sc (.unp is e) (.Assign [.Tuple ts k1 p1] (.Tuple As k2 p2) pos)
  | par2 {i j x y px py k1 p1 e1 e2 A B k2 p2 pos} (h1 : N[i]? = some x) (h2 : N[j]? = some y) (hij : i ≠ j) (h3 : sc.names.lookup x = some .local) (h4 : sc.names.lookup y = some .local) (ha : CE T N sc e1 A) (hb : CE T N sc e2 B) (hn : swSt sc [.Name x px, .Name y py] [A, B] = some (some [x, y])) : CS T N sc (.unp [i, j] (.tup (.cons e1 (.cons e2 .nil)))) (.Assign [.Tuple [.Name x px, .Name y py] k1 p1] (.Tuple [A, B] k2 p2) pos)
  | sset {i x np k v K V tpos pos} (h1 : N[i]? = some x) (h2 : visB sc x = true) (h3 : (x == ("__debug__" : Str)) = false) (h4 : (x == ("__classdict__" : Str)) = false) (hk : CE T N sc k K) (hv : CE T N sc v V) : CS T N sc (.sset i k v) (.Assign [.Subscript (.Name x np) K tpos] V pos)
  | mut {m i x np e es A As apos cpos pos} (h1 : N[i]? = some x) (h2 : visB sc x = true) (h3 : (x == ("__debug__" : Str)) = false) (h4 : (x == ("__classdict__" : Str)) = false) (ha : CE T N sc e A) (h : CEs T N sc es As) (h5 : (apos.endLine == cpos.line) = true) (h6 : es.length < 28) : CS T N sc (.mut m i (.cons e es)) (.Expr (.Call (.Attribute (.Name x np) (mmN m) apos) (A :: As) [] cpos) pos)
  | expr {e E pos} (he : CE T N sc e E) (hn : notLC E = true) : CS T N sc (.expr e) (.Expr E pos)
  | ret {e E pos} (he : CE T N sc e E) : CS T N sc (.ret e) (.Return (some E) pos)
  | retN {pos} : CS T N sc (.ret (.cst .non)) (.Return none pos)
  | retO {i x p pos} (h1 : N[i]? = some x) (h2 : visB sc x = true) (h3 : (x == ("__debug__" : Str)) = false) (h4 : (x == ("__classdict__" : Str)) = false) : CS T N sc (.retO i) (.Return (some (.Name x p)) pos)
  | ife {c a b C A B pos} (hc : CT T N sc c C) (ha : CSs T N sc a A) (hb : CSs T N sc b B) : CS T N sc (.ife c a b) (.If C A B pos)
  | for_ {tg it body own Tg Iter Body pos} (hi : CI T N sc it Tg Iter) (hg : CG N sc sc own tg Tg) (hb : CSs T N sc body Body) : CS T N sc (.for_ tg it body) (.For Tg Iter Body [] pos)
  | wh {n c body C Body pos} (hc : CT T N sc c C) (hb : CSs T N sc body Body) : CS T N sc (.wh n c body) (.While C Body [] pos)
  | brk {pos} : CS T N sc .brk (.Break pos)
  | cont {pos} : CS T N sc .cont (.Continue pos)
  | pass {pos} : CS T N sc .pass (.Pass pos)
inductive CSs (T : Ftab) (N : List Str) (sc : Scope) : Sms → List Stmt → Prop
  | nil : CSs T N sc .nil []
  | cons {s ss S Ss} (h : CS T N sc s S) (hs : CSs T N sc ss Ss) : CSs T N sc (.cons s ss) (S :: Ss)
  | frz {i ss Ss} (hs : CSs T N sc ss Ss) : CSs T N sc (.cons (.frz i) ss) Ss
  | cell {i ss Ss} (hs : CSs T N sc ss Ss) : CSs T N sc (.cons (.cell i) ss) Ss
end


section
variable {H : Hp} {g : Gh}
theorem keys_v {K : PySem.W.Frag} {Cl : Cls} : ∀ {ds : List Py.D} {vs : List V} {ks : List Key}, RDs K Cl H g ds vs → Py.D.keys ds = some ks → vs = ks.map kV ∧ ks.all kOk = true
  | _, _, _, .nil, e => by
    simp only [Py.D.keys, Option.some.injEq] at e
    subst e
    exact ⟨rfl, rfl⟩
  | _, _, _, .cons h t, e => by
    simp only [Py.D.keys] at e
    split at e
    · rename_i kk kks e1 e2
      cases e
      obtain ⟨rfl, ok⟩ := key_v h e1
      obtain ⟨rfl, ok2⟩ := keys_v t e2
      exact ⟨rfl, by simp [ok, ok2]⟩
    · cases e
end
theorem put_rel {κ : Type} [DecidableEq κ] {P : κ → Prop} {R : Py.D → V → Prop} {kvs : List (κ × Py.D)} {kv : List (κ × V)} (h : Paired (fun p q => p.1 = q.1 ∧ P p.1 ∧ R p.2 q.2) kvs kv) {key : κ} {x : Py.D} {y : V} (hk : P key) (hr : R x y) :
    Paired (fun p q => p.1 = q.1 ∧ P p.1 ∧ R p.2 q.2) (putD kvs key x) (putK kv key y) := by
  have ha : ∀ {kvs : List (κ × Py.D)} {kv : List (κ × V)}, Paired (fun p q => p.1 = q.1 ∧ P p.1 ∧ R p.2 q.2) kvs kv → (kvs.any fun p => decide (p.1 = key)) = (kv.any fun p => decide (p.1 = key)) := by
    intro kvs kv h
    induction h with
    | nil => rfl
    | cons h t ih => rw [List.any_cons, List.any_cons, ih, h.1]
  have hm : ∀ {kvs : List (κ × Py.D)} {kv : List (κ × V)}, Paired (fun p q => p.1 = q.1 ∧ P p.1 ∧ R p.2 q.2) kvs kv → Paired (fun p q => p.1 = q.1 ∧ P p.1 ∧ R p.2 q.2) (kvs.map fun kv => if kv.1 = key then (kv.1, x) else kv) (kv.map fun kv => if kv.1 = key then (kv.1, y) else kv) := by
    intro kvs kv h
    induction h with
    | nil => exact .nil
    | @cons p q ps qs h t ih =>
      refine .cons ?_ ih
      dsimp only
      by_cases e : p.1 = key
      · rw [if_pos e, if_pos (h.1 ▸ e)]; exact ⟨h.1, h.2.1, hr⟩
      · rw [if_neg e, if_neg (fun z => e (h.1.trans z))]; exact h
  have hn : ∀ {kvs : List (κ × Py.D)} {kv : List (κ × V)}, Paired (fun p q => p.1 = q.1 ∧ P p.1 ∧ R p.2 q.2) kvs kv → Paired (fun p q => p.1 = q.1 ∧ P p.1 ∧ R p.2 q.2) (kvs ++ [(key, x)]) (kv ++ [(key, y)]) := by
    intro kvs kv h
    induction h with
    | nil => exact .cons ⟨rfl, hk, hr⟩ .nil
    | cons h t ih => exact .cons h ih
  unfold putD putK
  rw [ha h]
  split
  · exact hm h
  · exact hn h
theorem mut_append {c c' : Cell} {rs : List Res} {st : Store} (h : opMut .append c rs st = some c') : ∃ xs d, c = .lst xs ∧ toDs rs = some [d] ∧ xs.length < sizeLine ∧ c' = .lst (xs ++ [d]) := by
  cases c with
  | lst xs =>
    unfold opMut at h
    dsimp only at h
    split at h
    · rename_i d e
      split at h
      · rename_i hl
        cases h
        exact ⟨xs, d, rfl, e, hl, rfl⟩
      · cases h
    · cases h
  | _ => cases h
theorem mut_insert {c c' : Cell} {rs : List Res} {st : Store} (h : opMut .insert c rs st = some c') : ∃ xs j d, c = .lst xs ∧ toDs rs = some [.int j, d] ∧ (xs.length < sizeLine ∧ 0 ≤ j ∧ j < 2 ^ 63) ∧ c' = .lst (xs.take j.toNat ++ [d] ++ xs.drop j.toNat) := by
  cases c with
  | lst xs =>
    unfold opMut at h
    dsimp only at h
    split at h
    · rename_i j d e
      split at h
      · rename_i hl
        cases h
        exact ⟨xs, j, d, rfl, e, hl, rfl⟩
      · cases h
    · cases h
  | _ => cases h
theorem mut_extend {c c' : Cell} {rs : List Res} {st : Store} (h : opMut .extend c rs st = some c') : ∃ xs r ys, c = .lst xs ∧ rs = [r] ∧ r.vw st = .sq false ys ∧ xs.length + ys.length ≤ sizeLine ∧ c' = .lst (xs ++ ys) := by
  cases c with
  | lst xs =>
    unfold opMut at h
    dsimp only at h
    split at h
    · rename_i r
      split at h
      · rename_i ys e
        split at h
        · rename_i hl
          cases h
          exact ⟨xs, r, ys, rfl, rfl, e, hl, rfl⟩
        · cases h
      · cases h
    · cases h
  | _ => cases h
structure XSt (Γ : Ctx) (k : Nat) (N : List Str) (sc : Scope) (X : Cx) : Prop where
  xo : XOk Γ k N sc X
  own : PassesOwn (model X.prog X.w) X.A X.env X.xe
  fn : ∀ x, X.fn x = true

section
variable {Γ : Ctx} {k : Nat} {N : List Str} {sc : Scope} {X : Cx} {pins : List (Addr × Obj)} {σ : L2.St} {H : Hp} {g : Gh} {s : Shared} {st : Store} {env : Env} {W : L2.St → WC} {D : Ends} {b : Bs}
variable {F : Fsem} {ev : Env → Store → SOut} {A : Expr} {As : List Expr} {pos : Pos}

theorem ps_imp {S : Stmt} {t u : TS} (h : PS X S t) (q : ∀ D σ H, u D σ H → t D σ H) : PS X S u := ⟨fun pins s σ H D I hw => h.run pins s σ H D I (q D σ H hw)⟩
theorem pss_imp {S : List Stmt} {t u : TS} (h : PSs X S t) (q : ∀ D σ H, u D σ H → t D σ H) : PSs X S u := ⟨fun pins s σ H D I hw => h.run pins s σ H D I (q D σ H hw)⟩
theorem sw_no {T : Ftab} {e : Ex} {E : Expr} (h : CE T N sc e E) {o : Option Expr} {l : Nat} {env : PySem.Env} (hn : notLC E = true) : swapsWith E o l env = pure false := by
  cases h <;> first | rfl | simp [notLC] at hn
theorem sw_cell {T : Ftab} {e : Ex} {E : Expr} (h : CE T N sc e E) {x : Str} {p : Pos} {l : Nat} {env : PySem.Env} (he : env.scope = sc) (hn : sc.names.lookup x = some .cell) : swapsWith E (some (.Name x p)) l env = pure false := by
  subst he
  cases h <;> try rfl
  unfold swapsWith
  have kx : env.kindOf x = some .cell := hn
  simp only [kx]
  have : ((some NameKind.cell : Option NameKind) == some .local) = false := by decide
  rw [this, Bool.and_false, Bool.false_and, Bool.false_and]
theorem sw_other {T : Ftab} {e : Ex} {E t : Expr} (h : CE T N sc e E) {l : Nat} {env : PySem.Env} (hn : ∀ x p, t ≠ .Name x p) : swapsWith E (some t) l env = pure false := by
  cases h <;> try rfl
  unfold swapsWith
  dsimp only
  split
  · rename_i e; cases e
  · rename_i e; cases e; exact absurd rfl (hn _ _)
  · rfl
theorem ws_no {T : Ftab} {e : Ex} {E : Expr} (h : CE T N sc e E) {ts : List Expr} {env : PySem.Env} (hn : notTup E = true) : swappedStores ts E env = pure none := by
  unfold swappedStores
  cases h <;> first | simp [notTup] at hn | skip
  all_goals (dsimp only; split <;> first | rfl | (rename_i e; split at e <;> simp_all))

theorem ps_setD {i : Nat} {x : Str} {p : Pos} {T : Ftab} {e : Ex} {E : Expr} (xs : XSt Γ k N sc X) (he : CE T N sc e E) (hp : PE X E (tD Γ (evalE F e) (rRes Γ) W)) (h1 : N[i]? = some x) (h2 : locB sc x = true) (hn : notLC E = true ∨ sc.names.lookup x = some .cell) :
    PS X (.Assign [.Name x p] E pos) (tDS Γ (execS F (.set i e)) W) :=
  ps_imp (ps_set (by rw [xs.xo.names]; exact xs.xo.nd) (by rw [xs.xo.names]; exact h1) (by rw [xs.xo.sc]; exact loc_of h2) hp (hn.elim (fun z => sw_no he z) fun z => sw_cell he xs.xo.sc z) (.inl (xs.fn x))) fun D σ H h => by
    simp only [execS] at h
    exact set_tD h
theorem ps_vlD {i : Nat} {x : Str} {p : Pos} {T : Ftab} {e : Ex} {E : Expr} (xs : XSt Γ k N sc X) (he : CE T N sc e E) (hp : PE X E (tD Γ (evalE F e) (rRes Γ) W)) (h1 : N[i]? = some x) (h2 : locB sc x = true) (hn : notLC E = true ∨ sc.names.lookup x = some .cell) :
    PS X (.Assign [.Name x p] E pos) (tDS Γ (execS F (.vl i e)) W) :=
  ps_imp (ps_set (by rw [xs.xo.names]; exact xs.xo.nd) (by rw [xs.xo.names]; exact h1) (by rw [xs.xo.sc]; exact loc_of h2) hp (hn.elim (fun z => sw_no he z) fun z => sw_cell he xs.xo.sc z) (.inl (xs.fn x))) fun D σ H h => by
    simp only [execS] at h
    exact vl_tD h
theorem ps_unpD {is : List Nat} {own : List Nat} {T : Ftab} {e : Ex} {E Tg' : Expr} (xs : XSt Γ k N sc X) (he : CE T N sc e E) (hp : PE X E (tD Γ (evalE F e) (rRes Γ) W)) (hg : CG N sc sc own (.tup is) Tg') (hw : swappedStores [Tg'] E X.env = pure none) :
    PS X (.Assign [Tg'] E pos) (tDS Γ (execS F (.unp is e)) W) := by
  have hname : ∀ x p, Tg' ≠ .Name x p := by cases hg; intro x p e; cases e
  refine ps_imp (ps_asg hp (pg_of (scope := sc) xs.xo.names xs.xo.nd xs.xo.sc xs.xo.calm (fun x _ => xs.fn x) hg) (sw_other he hname) hw ?_) fun D σ H h => ?_
  · cases hg; rfl
  · simp only [execS] at h
    exact unp_tD xs.xo.K h
theorem name_run {i : Nat} {x : Str} {p : Pos} {v : V} (xo : XOk Γ k N sc X) (h1 : N[i]? = some x) (h2 : visB sc x = true) (h3 : (x == ("__debug__" : Str)) = false) (h4 : (x == ("__classdict__" : Str)) = false) (I : Inv X pins σ H s) (hv : σ[i]? = some (some v)) {Q : Value → Shared → Prop} (q : ∀ u s', Inv X pins σ H s' → RelV v u → Q u s') :
    wpAny (model X.prog X.w) X.A (eval (.Name x p) X.env) Q X.xe s :=
  thn ((pe_var (i := i) (by rw [xo.names]; exact h1) (by rw [xo.sc]; exact vis_of h2) h3 h4).run pins s σ H (fun v' H' => v' = v ∧ H' = H) I ⟨v, hv, rfl, rfl⟩) fun u s' ⟨v', H', I', r, e1, e2⟩ => by
    subst e1 e2; exact q u s' I' r
/-- what is handed in becomes plain for good -/
theorem frz_rep {rs : List Res} {vs : List V} {H1 : Hp} {g1 : Gh} {st1 : Store} {H0 : Hp} (r : Rep Γ H0 H g σ env st) (x1 : Ext H g H1 g1) (s1 : RepSt Γ.K Γ.Cl H1 g1 st1) (rr : Paired (RR Γ.K Γ.Cl H H1 g1) rs vs) :
    Rep Γ H0 H1 (g1.frz rs vs) σ env st1 ∧ Ext H g H1 (g1.frz rs vs) := by
  have xf := frz_ext rr x1 r.st
  exact ⟨r.ext xf (frz_st rr s1), xf⟩
theorem ps_ssetD {i : Nat} {x : Str} {np tpos : Pos} {T : Ftab} {kk v : Ex} {Ke Ve : Expr} (xs : XSt Γ k N sc X) (hv : CE T N sc v Ve) (hk : PE X Ke (tD Γ (evalE F kk) (rRes Γ) W)) (hp : PE X Ve (tD Γ (evalE F v) (rRes Γ) W))
    (h1 : N[i]? = some x) (h2 : visB sc x = true) (h3 : (x == ("__debug__" : Str)) = false) (h4 : (x == ("__classdict__" : Str)) = false) : PS X (.Assign [.Subscript (.Name x np) Ke tpos] Ve pos) (tDS Γ (execS F (.sset i kk v)) W) := by
  refine ⟨fun pins s σ H D I h => ?_⟩
  obtain ⟨b, g, env, st, r, x0, hq⟩ := h
  simp only [execS] at hq
  refine wpAny_Assign_Subscript (thn (runE hp I r (SPost.sb r x0 hq)) fun u s1 ⟨y, H1, g1, st1, r1, I1, ry, x1, p1, rr1, q1⟩ => ?_) (sw_other hv fun x p e => by cases e)
  cases ec : slotC i env st1 with
  | none => rw [ec] at q1; exact q1.elim
  | some c0 =>
    rw [ec] at q1
    dsimp only at q1
    obtain ⟨a, ha, _, _⟩ := slotC_at p1 ec
    have on1 := x0.ext x1
    refine name_run xs.xo h1 h2 h3 h4 I1 ha fun uo s2 I2 ro => ?_
    cases ro
    refine thn (runE hk I2 p1 (SPost.sb p1 on1 q1)) fun w s3 ⟨z, H3, g3, st3, r3, I3, rz, x3, p3, rr3, q3⟩ => ?_
    have hpair : Paired (RR Γ.K Γ.Cl H H3 g3) [r1, r3] [y, z] := .cons (rr1.ext x3) (.cons (rr3.back fun a h => x1.dom a h) .nil)
    cases ed : toDs [r1, r3] with
    | none => rw [ed] at q3; exact q3.elim
    | some ds =>
      rw [ed] at q3
      have hr := frz_rds hpair ed
      obtain ⟨rf, xf⟩ := frz_rep r (x1.trans x3) p3.st hpair
      cases hr with
      | @cons d1 _ _ _ hd1 hr =>
        cases hr with
        | @cons d2 _ _ _ hd2 hr =>
          cases hr
          dsimp only at q3
          obtain ⟨a', c, c', ha', _, hc, hf, pa, kont⟩ := chg_ok rf (x0.ext xf) q3
          rw [ha] at ha'
          cases ha'
          have hu := xs.xo.hu
          -- the two kinds of dicts
          unfold dictPut at hf
          split at hf
          · rename_i kvs
            split at hf
            · rename_i key ek
              split at hf
              · rename_i hl
                cases hf
                obtain ⟨kv, hH, rel⟩ := hc
                obtain ⟨rfl, ok⟩ := key_v hd2 ek
                have hlen : kv.length < sizeLine := by rw [← Paired.length rel]; exact hl
                refine d_setItem (by omega) I3 (DPut.k hH hlen) rz ry fun s4 I4 => ⟨σ, _, I4, kont _ ⟨_, upd_same, ?_⟩⟩
                exact put_rel (κ := Key) (P := fun q => kOk q = true) (R := RD Γ.K Γ.Cl _ _) (Paired.mapP rel fun _ _ z => ⟨z.1, z.2.1, z.2.2.kp (Kp.upd pa)⟩) ok (RD.kp (Kp.upd pa) hd1)
              · cases hf
            · cases hf
          · split at hf
            · rename_i ds
              split at hf
              · rename_i key ek
                split at hf
                · rename_i hl
                  cases hf
                  obtain ⟨kv, hH, rel⟩ := hc
                  have hlen : kv.length < sizeLine := by rw [← Paired.length rel]; exact hl
                  cases hd2 with
                  | tup nt hrs =>
                    obtain ⟨ekv, ok⟩ := keys_v hrs ek
                    rw [ekv] at nt
                    exact d_setItem (by omega) I3 (DPut.t hH nt.1 hlen) rz ry fun s4 I4 => ⟨σ, _, I4, kont _ ⟨_, upd_same, put_rel (κ := List Key) (P := fun q => q.all kOk = true) (R := RD Γ.K Γ.Cl _ _) (Paired.mapP rel fun _ _ z => ⟨z.1, z.2.1, z.2.2.kp (Kp.upd pa)⟩) ok (RD.kp (Kp.upd pa) hd1)⟩⟩
                · cases hf
              · cases hf
            · cases hf
          · cases hf

theorem ps_mutD {m : MM} {i : Nat} {x : Str} {np apos cpos : Pos} {T : Ftab} {es : Exs} (xs : XSt Γ k N sc X) (h1 : N[i]? = some x) (h2 : visB sc x = true) (h3 : (x == ("__debug__" : Str)) = false) (h4 : (x == ("__classdict__" : Str)) = false)
    (ha : PA X (A :: As) (tDA Γ (evalRs F es) W)) (hl : (apos.endLine == cpos.line) = true) (hlen : As.length < 28)
    (he : starEach (A :: As) X.env = (false, eval A X.env) :: starEach As X.env) (hpl : (backTo cpos (starEach As X.env)).any (·.1) = false) (hall : (backTo cpos (starEach (A :: As) X.env)).all (fun x => !x.1) = true) :
    PS X (.Expr (.Call (.Attribute (.Name x np) (mmN m) apos) (A :: As) [] cpos) pos) (tDS Γ (execS F (.mut m i es)) W) := by
  refine ⟨fun pins s σ H D I h => ?_⟩
  obtain ⟨b, g, env, st, r, x0, hq⟩ := h
  simp only [execS] at hq
  have hfew : ((backTo cpos (starEach (A :: As) X.env)).all (fun x => !x.1) && (backToKw cpos (keywordEach [] X.env)).all (fun x => x.1.isSome)
      && decide ((A :: As).length + ([] : List Keyword).length + (if ([] : List Keyword).isEmpty then 0 else 1) < 30)) = true := by
    rw [hall]
    simp [keywordEach, backToKw]
    omega
  split at hq
  · rename_i xs0 ec
    obtain ⟨a, hσ, hc0, _⟩ := slotC_at r ec
    refine wpAny_Expr_any ?_ I.quiet rfl
    refine wpAny_Call_method_late rfl hfew hl rfl (name_run xs.xo h1 h2 h3 h4 I hσ fun uo s1 I1 ro => ?_)
    cases ro
    have ty : tyV X.K "list" (.ref a) H := by
      obtain ⟨us, hu, _⟩ := hc0
      exact .inl ⟨rfl, us, .of hu⟩
    obtain ⟨t1, t2⟩ := tyV_is I1 (x := .ref a) (v := .ref a) rfl ty
    obtain ⟨f1, f2⟩ := mm_facts m
    refine ⟨"list", mmI m, PySem.F.plainAttrs_list, f1, f2, t1, t2, ?_⟩
    have hA := runA ha cpos I1 r (SPost.sb r x0 hq)
    rw [he] at hA ⊢
    refine Calls.callWith_builtin (by show (false || (backTo cpos (starEach As X.env)).any (·.1)) = false; rw [hpl] <;> rfl) (Calls.evalArgs_plain ?_)
    refine thn hA fun us s2 ⟨vs, H2, g2, st2, rs, I2, rv, x2, p2, rr, q2⟩ => ?_
    -- a call's end
    have fin : ∀ {t : Sem Value}, wpAny (model X.prog X.w) X.A t (EP X pins σ fun _ H' => D.nx σ H') X.xe s2 → wpAny (model X.prog X.w) X.A t (fun _ => SP X pins D .next) X.xe s2 := fun h => thn h fun u s3 ⟨v, H3, I3, _, q3⟩ => ⟨σ, H3, I3, q3⟩
    cases m with
    | append =>
      cases ed : toDs rs with
      | none =>
        obtain ⟨_, _, c', _, _, _, hf, _⟩ := chg_ok p2 (x0.ext x2) q2
        obtain ⟨ys, d, _, e, _⟩ := mut_append hf
        rw [ed] at e; cases e
      | some ds =>
        obtain ⟨rf, xf⟩ := frz_rep r x2 p2.st rr
        have hr := frz_rds rr ed
        obtain ⟨a', c, c', ha', _, hc, hf, pa, kont⟩ := chg_ok rf (x0.ext xf) q2
        rw [hσ] at ha'
        cases ha'
        obtain ⟨ys, d, rfl, e, hlen2, rfl⟩ := mut_append hf
        rw [ed] at e
        cases e
        obtain ⟨us2, hH, rel⟩ := hc
        cases hr with
        | @cons _ _ v _ hd hr =>
          cases hr
          refine fin (mt_append pins s2 σ H2 (.ref a) _ _ _ _ I2 rfl rv ⟨a, us2, v, rfl, rfl, hH, by rw [← rel.length]; exact hlen2, kont _ ⟨_, upd_same, ?_⟩⟩)
          exact RDs.kp (Kp.upd pa) (RDs.append rel (.one hd))
    | extend =>
      obtain ⟨a', c, c', ha', _, hc, hf, pa, kont⟩ := chg_ok p2 (x0.ext x2) q2
      rw [hσ] at ha'
      cases ha'
      obtain ⟨ys, r1, zs, rfl, rfl, ez, hlen2, rfl⟩ := mut_extend hf
      cases rr with
      | @cons _ v _ _ hr1 hr0 =>
        cases hr0
        have hvw := hr1.vw p2.st
        rw [ez] at hvw
        obtain ⟨l2, vs2, rfl, hl2, hr2⟩ := hvw
        obtain ⟨us2, hH, rel⟩ := hc
        refine fin (mt_extend pins s2 σ H2 (.ref a) _ _ _ _ I2 rfl rv ⟨a, l2, us2, vs2, rfl, rfl, hH, hl2, by rw [← rel.length, ← hr2.length]; exact hlen2, kont _ ⟨_, upd_same, ?_⟩⟩)
        exact RDs.kp (Kp.upd pa) (RDs.append rel hr2)
    | insert =>
      cases ed : toDs rs with
      | none =>
        obtain ⟨_, _, c', _, _, _, hf, _⟩ := chg_ok p2 (x0.ext x2) q2
        obtain ⟨ys, j, d, _, e, _⟩ := mut_insert hf
        rw [ed] at e; cases e
      | some ds =>
        obtain ⟨rf, xf⟩ := frz_rep r x2 p2.st rr
        have hr := frz_rds rr ed
        obtain ⟨a', c, c', ha', _, hc, hf, pa, kont⟩ := chg_ok rf (x0.ext xf) q2
        rw [hσ] at ha'
        cases ha'
        obtain ⟨ys, j, d, rfl, e, hlen2, rfl⟩ := mut_insert hf
        rw [ed] at e
        cases e
        obtain ⟨us2, hH, rel⟩ := hc
        cases hr with
        | @cons _ _ v _ hd hr =>
          cases hr with
          | @cons _ _ v2 _ hd2 hr =>
            cases hr
            cases hd
            refine fin (mt_insert pins s2 σ H2 (.ref a) _ _ _ _ I2 rfl rv ⟨a, us2, j, v2, rfl, rfl, hH, by rw [← rel.length]; exact hlen2.1, hlen2.2.1, hlen2.2.2, kont _ ⟨_, upd_same, ?_⟩⟩)
            exact RDs.kp (Kp.upd pa) (RDs.append (RDs.append (rel.take _) (.one hd2)) (rel.drop _))
  · exact hq.elim

theorem ps_exprD {T : Ftab} {e : Ex} {E : Expr} (he : CE T N sc e E) (hp : PE X E (tD Γ (evalE F e) (rRes Γ) W)) (hn : notLC E = true) : PS X (.Expr E pos) (tDS Γ (execS F (.expr e)) W) :=
  ps_imp (ps_expr hp (sw_no he hn)) fun D σ H h => by
    obtain ⟨b, g, env, st, r, x0, hq⟩ := h
    simp only [execS] at hq
    exact ⟨b.H0, g, env, st, r, (SPost.sb r x0 hq).imp fun H1 g1 st1 a x1 s1 q v rr => q σ H1 g1 (x0.ext x1) (r.ext x1 s1)⟩
theorem ps_retD {e : Ex} {E : Expr} (hp : PE X E (tD Γ (evalE F e) (rRes Γ) W)) : PS X (.Return (some E) pos) (tDS Γ (execS F (.ret e)) W) :=
  ps_imp (ps_ret hp) fun D σ H h => by
    obtain ⟨b, g, env, st, r, x0, hq⟩ := h
    simp only [execS] at hq
    exact ⟨b.H0, g, env, st, r, (SPost.sb r x0 hq).imp fun H1 g1 st1 a x1 s1 q v rr => q H1 g1 v (x0.x.trans x1) s1 (rr.back fun a h => x0.x.dom a h)⟩
theorem ps_retND : PS X (.Return none pos) (tDS Γ (execS F (.ret (.cst .non))) W) :=
  ps_imp ps_retN fun D σ H h => by
    obtain ⟨b, g, env, st, r, x0, hq⟩ := h
    simp only [execS, evalE, Out.sbind] at hq
    exact hq H g _ x0.x r.st .non
theorem ps_retOD {i : Nat} {x : Str} {p : Pos} (xs : XSt Γ k N sc X) (h1 : N[i]? = some x) (h2 : visB sc x = true) (h3 : (x == ("__debug__" : Str)) = false) (h4 : (x == ("__classdict__" : Str)) = false) : PS X (.Return (some (.Name x p)) pos) (tDS Γ (execS F (.retO i)) W) := by
  refine ps_imp (ps_ret (pe_var (i := i) (by rw [xs.xo.names]; exact h1) (by rw [xs.xo.sc]; exact vis_of h2) h3 h4)) fun D σ H h => ?_
  obtain ⟨b, g, env, st, r, x0, hq⟩ := h
  simp only [execS] at hq
  split at hq
  · rename_i c e
    obtain ⟨v, hv, rv⟩ := r.env.at' i _ e
    exact ⟨v, hv, hq H g v x0.x r.st rv⟩
  · exact hq.elim
theorem ps_ifeD {c : Te} {a b' : Sms} {C : Expr} {Ss Ts : List Stmt} (hc : PT X C (tDT Γ (evalT F c) W)) (ha : PSs X Ss (tDS Γ (execSs F a) W)) (hb : PSs X Ts (tDS Γ (execSs F b') W)) : PS X (.If C Ss Ts pos) (tDS Γ (execS F (.ife c a b')) W) :=
  ps_imp (ps_if hc ha hb) fun D σ H h => by
    obtain ⟨b, g, env, st, r, x0, hq⟩ := h
    simp only [execS] at hq
    refine ⟨b.H0, g, env, st, r, (SPost.sb r x0 hq).imp fun H1 g1 st1 t x1 s1 q => ?_⟩
    cases t with
    | true => exact ⟨b, g1, env, st1, r.ext x1 s1, x0.ext x1, q⟩
    | false => exact ⟨b, g1, env, st1, r.ext x1 s1, x0.ext x1, q⟩
theorem ps_brkD : PS X (.Break pos) (tDS Γ (execS F .brk) W) := ps_imp ps_break fun D σ H ⟨b, g, env, st, r, x0, hq⟩ => by
  simp only [execS] at hq
  exact hq σ H g x0 r
theorem ps_contD : PS X (.Continue pos) (tDS Γ (execS F .cont) W) := ps_imp ps_continue fun D σ H ⟨b, g, env, st, r, x0, hq⟩ => by
  simp only [execS] at hq
  exact hq σ H g x0 r
theorem ps_passD : PS X (.Pass pos) (tDS Γ (execS F .pass) W) := ps_imp ps_pass fun D σ H ⟨b, g, env, st, r, x0, hq⟩ => by
  simp only [execS] at hq
  exact hq σ H g x0 r
theorem pss_nilD : PSs X [] (tDS Γ (execSs F .nil) W) := pss_imp pss_nil fun D σ H ⟨b, g, env, st, r, x0, hq⟩ => by
  simp only [execSs] at hq
  exact hq σ H g x0 r
theorem pss_consD {m : Sm} {ss : Sms} {S : Stmt} {Ss : List Stmt} (h1 : PS X S (tDS Γ (execS F m) W)) (h2 : PSs X Ss (tDS Γ (execSs F ss) W)) : PSs X (S :: Ss) (tDS Γ (execSs F (.cons m ss)) W) :=
  pss_imp (pss_cons h1 h2) fun D σ H h => by
    obtain ⟨b, g, env, st, r, x0, hq⟩ := h
    simp only [execSs] at hq
    refine ⟨b, g, env, st, r, x0, ?_⟩
    cases e : execS F m env st with
    | nx env1 st1 => rw [e] at hq; exact fun σ' H' g' x' r' => ⟨b, g', env1, st1, r', x', hq⟩
    | rt r1 st1 => rw [e] at hq; exact hq
    | bk env1 st1 => rw [e] at hq; exact hq
    | ct env1 st1 => rw [e] at hq; exact hq
    | exc c fs env1 st1 => rw [e] at hq; exact hq
    | bad => rw [e] at hq; exact hq
end
end Py
end

section
set_option maxRecDepth 100000
set_option maxHeartbeats 4000000
set_option linter.all false
/-! Loops, ghost steps; all statements. -/
namespace Py
open PySem L2 PySem.Spec PyProof.Rows

section
variable {Γ : Ctx} {k : Nat} {N : List Str} {sc : Scope} {X : Cx} {pins : List (Addr × Obj)} {σ : L2.St} {H : Hp} {g : Gh} {s : Shared} {st : Store} {env : Env} {W : L2.St → WC} {D : Ends} {b : Bs}
variable {F : Fsem} {A B : Expr} {As : List Expr} {pos : Pos}

theorem ps_forD {tg : Tg} {it : Itr} {body : Sms} {own : List Nat} {Tg' Iter : Expr} {Body : List Stmt} (xs : XSt Γ k N sc X) (hi : PI X Tg' Iter (tDI Γ (evalI F it) W)) (hg : CG N sc sc own tg Tg') (hb : PSs X Body (tDS Γ (execSs F body) W)) (hs : ∀ x, foldedSetIterable Iter X.env x = pure x) :
    PS X (.For Tg' Iter Body [] pos) (tDS Γ (execS F (.for_ tg it body)) W) := by
  refine ps_imp (ps_for xs.own xs.xo.calm hi (pg_of (scope := sc) xs.xo.names xs.xo.nd xs.xo.sc xs.xo.calm (fun x _ => xs.fn x) hg) hb hs) fun D σ H h => ?_
  obtain ⟨b, g, env, st, r, x0, hq⟩ := h
  simp only [execS] at hq
  refine ⟨b.H0, g, env, st, r, (SPost.sb r x0 hq).imp fun H1 g1 st1 xs1 x1 s1 q J ok => ?_⟩
  have on1 := x0.ext x1
  let b' : Bs := ⟨b.H0, b.g0, H1, g1⟩
  have back : ∀ {H' g'}, On b' H' g' → On b H' g' := fun o => ⟨o.x, on1.k.trans o.k, o.d⟩
  refine ⟨fun i m σ Hx => m = xs1.length - i ∧ i ≤ xs1.length ∧ ∃ gx envx stx, On b' Hx gx ∧ Rep Γ b.H0 Hx gx σ envx stx ∧ SPost Γ b (forL tg.put (fun e s => execSs F body e s) (xs1.drop i) envx stx) D W,
    ⟨_, rfl, Nat.zero_le _, g1, env, st1, ⟨on1.x, .refl, on1.d⟩, r.ext x1 s1, by rw [List.drop_zero]; exact q⟩, ?_⟩
  rintro i m σx Hx ⟨rfl, hle, gx, envx, stx, ox, rx, qx⟩
  by_cases hlt : i < xs1.length
  · refine .inr ⟨ok.go i Hx gx hlt ox.k, _, fun σ' H' w => ⟨xs1.length - (i + 1), by omega, w⟩, fun x H' y => ?_⟩
    obtain ⟨d, hd, xy, sy, rd⟩ := ok.yld i Hx gx stx x H' hlt ox.k rx.st y
    rw [List.drop_eq_getElem_cons hlt] at qx
    have hxi : xs1[i] = d := by rw [List.getElem?_eq_getElem hlt] at hd; exact Option.some.inj hd
    rw [hxi] at qx
    unfold forL at qx
    cases ep : tg.put d envx with
    | none => rw [ep] at qx; exact qx.elim
    | some e2 =>
      rw [ep] at qx
      dsimp only at qx
      refine tg_ok (K := X.K) (by rw [xs.xo.K]; exact rx.env.ext xy) (by rw [xs.xo.K]; exact rd) ep fun σ2 re2 _ => ?_
      rw [xs.xo.K] at re2
      refine ⟨b', gx, e2, stx, ⟨re2, sy, fun a h => rx.old a (xy.dom a h)⟩, ox.ext xy, ?_⟩
      cases eb : execSs F body e2 stx with
      | nx e1 s1 => rw [eb] at qx; exact fun σ' H' g' o' r' => ⟨rfl, hlt, g', e1, s1, o', r', qx⟩
      | ct e1 s1 => rw [eb] at qx; exact fun σ' H' g' o' r' => ⟨rfl, hlt, g', e1, s1, o', r', qx⟩
      | bk e1 s1 => rw [eb] at qx; exact fun σ' H' g' o' r' => qx σ' H' g' (back o') r'
      | rt r1 s1 => rw [eb] at qx; exact qx
      | exc c fs e1 s1 => rw [eb] at qx; exact fun σ' H' g' cls dd o' r' ex => qx σ' H' g' cls dd (back o') r' ex
      | bad => rw [eb] at qx; exact qx
  · have e : i = xs1.length := by omega
    subst e
    rw [List.drop_length] at qx
    exact .inl ⟨ok.stop Hx gx ox.k, qx σx Hx gx (back ox) rx⟩

theorem ps_whD {n : Nat} {c : Te} {body : Sms} {C : Expr} {Body : List Stmt} (xs : XSt Γ k N sc X) (hc : PT X C (tDT Γ (evalT F c) W)) (hb : PSs X Body (tDS Γ (execSs F body) W)) : PS X (.While C Body [] pos) (tDS Γ (execS F (.wh n c body)) W) := by
  refine ps_imp (ps_while xs.own hc hb) fun D σ H h => ?_
  obtain ⟨b, g, env, st, r, x0, hq⟩ := h
  simp only [execS] at hq
  refine ⟨fun m σ Hx => ∃ gx envx stx, On b Hx gx ∧ Rep Γ b.H0 Hx gx σ envx stx ∧ SPost Γ b (whL (fun e s => evalT F c e s) (fun e s => execSs F body e s) m envx stx) D W, ⟨n, g, env, st, x0, r, hq⟩, ?_⟩
  rintro m σx Hx ⟨gx, envx, stx, ox, rx, qx⟩
  cases m with
  | zero => exact qx.elim
  | succ m =>
    unfold whL at qx
    refine ⟨b.H0, gx, envx, stx, rx, (SPost.sb rx ox qx).imp fun H1 g1 st1 t x1 s1 q => ?_⟩
    cases t with
    | false => exact q σx H1 g1 (ox.ext x1) (rx.ext x1 s1)
    | true =>
      rw [if_pos rfl] at q ⊢
      refine ⟨_, fun σ' H' w => ⟨m, Nat.lt_succ_self m, w⟩, b, g1, envx, st1, rx.ext x1 s1, ox.ext x1, ?_⟩
      cases eb : execSs F body envx st1 with
      | nx e1 s1 => rw [eb] at q; exact fun σ' H' g' o' r' => ⟨g', e1, s1, o', r', q⟩
      | ct e1 s1 => rw [eb] at q; exact fun σ' H' g' o' r' => ⟨g', e1, s1, o', r', q⟩
      | bk e1 s1 => rw [eb] at q; exact q
      | rt r1 s1 => rw [eb] at q; exact q
      | exc c fs e1 s1 => rw [eb] at q; exact q
      | bad => rw [eb] at q; exact q

/-- the other slots when slot j is given up -/
theorem move_env {K : PySem.W.Frag} {Cl : Cls} {H0 : Hp} {i j : Nat} {c : Cell} {v : V} (h : RepEnv K Cl H0 H g σ env) (e : env[j]? = some (some (.own c))) (hv : σ[j]? = some (some v)) :
    RepEnv K Cl H0 H g (σ.set i (some v)) ((env.set j none).set i (some (.own c))) := by
  obtain ⟨v', hv', rv⟩ := h.at' j _ e
  rw [hv] at hv'
  cases hv'
  have lj : j < env.length := (List.getElem?_eq_some_iff.mp e).1
  -- what slot m holds
  have look : ∀ (m : Nat) (r : Res), ((env.set j none).set i (some (.own c)))[m]? = some (some r) → (m = i ∧ r = .own c) ∨ (m ≠ i ∧ m ≠ j ∧ env[m]? = some (some r)) := by
    intro m r er
    by_cases hm : i = m
    · subst hm
      by_cases hl : i < env.length
      · rw [List.getElem?_set_self (by simpa using hl)] at er
        cases er
        exact .inl ⟨rfl, rfl⟩
      · rw [List.getElem?_eq_none (by simpa using hl)] at er; cases er
    · rw [List.getElem?_set_ne hm] at er
      by_cases hj : j = m
      · subst hj
        rw [List.getElem?_set_self lj] at er
        cases er
      · rw [List.getElem?_set_ne hj] at er
        exact .inr ⟨fun z => hm z.symm, fun z => hj z.symm, er⟩
  refine ⟨by simp [h.len], fun m r er => ?_, fun m n a cm cn e1 e2 e3 e4 => ?_, fun m cm er => ?_⟩
  · rcases look m r er with ⟨rfl, rfl⟩ | ⟨n1, n2, er⟩
    · refine ⟨v, ?_, rv⟩
      have hl : m < env.length := by
        have := (List.getElem?_eq_some_iff.mp er).1
        simpa using this
      rw [List.getElem?_set_self (by rw [← h.len]; exact hl)]
    · rw [List.getElem?_set_ne (fun z => n1 z.symm)]
      exact h.at' m r er
  · have sel : ∀ (m : Nat) (cm : Cell), ((env.set j none).set i (some (.own c)))[m]? = some (some (.own cm)) → (σ.set i (some v))[m]? = some (some (.ref a)) → ∃ m' cm', env[m']? = some (some (.own cm')) ∧ σ[m']? = some (some (.ref a)) ∧ ((m = i ∧ m' = j) ∨ (m ≠ i ∧ m ≠ j ∧ m' = m)) := by
      intro m cm er es
      rcases look m _ er with ⟨rfl, _⟩ | ⟨n1, n2, er⟩
      · have hl : m < σ.length := by
          have := (List.getElem?_eq_some_iff.mp es).1
          simpa using this
        rw [List.getElem?_set_self hl] at es
        cases es
        exact ⟨j, c, e, hv, .inl ⟨rfl, rfl⟩⟩
      · rw [List.getElem?_set_ne (fun z => n1 z.symm)] at es
        exact ⟨m, cm, er, es, .inr ⟨n1, n2, rfl⟩⟩
    obtain ⟨m', cm', a1, a2, a3⟩ := sel m cm e1 e3
    obtain ⟨n', cn', b1, b2, b3⟩ := sel n cn e2 e4
    have hs := h.sep m' n' a cm' cn' a1 b1 a2 b2
    rcases a3 with ⟨rfl, rfl⟩ | ⟨n1, n2, rfl⟩ <;> rcases b3 with ⟨rfl, rfl⟩ | ⟨n3, n4, rfl⟩
    · rfl
    · exact absurd hs.symm n4
    · exact absurd hs n2
    · exact hs
  · rcases look m _ er with ⟨_, z⟩ | ⟨_, _, er⟩
    · cases z
    · exact h.nob m cm er
theorem ps_moveD {i j : Nat} {x y : Str} {p p2 : Pos} (xs : XSt Γ k N sc X) (h1 : N[i]? = some x) (h2 : locB sc x = true) (h3 : N[j]? = some y) (h4 : visB sc y = true) (h5 : (y == ("__debug__" : Str)) = false) (h6 : (y == ("__classdict__" : Str)) = false) :
    PS X (.Assign [.Name x p] (.Name y p2) pos) (tDS Γ (execS F (.move i j)) W) := by
  refine ps_imp (ps_set (by rw [xs.xo.names]; exact xs.xo.nd) (by rw [xs.xo.names]; exact h1) (by rw [xs.xo.sc]; exact loc_of h2) (pe_var (i := j) (by rw [xs.xo.names]; exact h3) (by rw [xs.xo.sc]; exact vis_of h4) h5 h6) rfl (.inl (xs.fn x))) fun D σ H h => ?_
  obtain ⟨b, g, env, st, r, x0, hq⟩ := h
  simp only [execS] at hq
  split at hq
  · rename_i c e
    obtain ⟨v, hv, rv⟩ := r.env.at' j _ e
    exact ⟨v, hv, hq _ H g x0 ⟨move_env r.env e hv, r.st, r.old⟩⟩
  · exact hq.elim
theorem ps_par2D {i j : Nat} {x y : Str} {px py p1 p2 : Pos} {k1 k2 : Nat} {es : Exs} (xs : XSt Γ k N sc X) (h1 : N[i]? = some x) (h2 : N[j]? = some y) (hij : i ≠ j) (h3 : sc.names.lookup x = some .local) (h4 : sc.names.lookup y = some .local)
    (ha : PA X [A, B] (tDA Γ (evalRs F es) W)) (hn : swSt sc [.Name x px, .Name y py] [A, B] = some (some [x, y])) : PS X (.Assign [.Tuple [.Name x px, .Name y py] k1 p1] (.Tuple [A, B] k2 p2) pos) (tDS Γ (execS F (.unp [i, j] (.tup es))) W) := by
  refine ps_imp (ps_par xs.xo.calm (by rw [xs.xo.names]; exact xs.xo.nd) (by rw [xs.xo.names]; exact h1) (by rw [xs.xo.names]; exact h2) hij (by rw [xs.xo.sc]; exact h3) (by rw [xs.xo.sc]; exact h4) ha (swSt_ok hn xs.xo.sc)) fun D σ H h => ?_
  obtain ⟨b, g, env, st, r, x0, hq⟩ := h
  simp only [execS] at hq
  have hp := SPost.sb r x0 hq
  simp only [evalE] at hp
  refine ⟨b.H0, g, env, st, r, (Post.bind' hp).imp fun H1 g1 st1 rs x1 s1 q vs rr => ?_⟩
  cases e : toDs rs with
  | none => rw [e] at q; exact q.elim
  | some ds =>
    rw [e] at q
    dsimp only at q
    split at q
    · have hr := frz_rds rr e
      obtain ⟨rf, xf⟩ := frz_rep r x1 s1 rr
      have q2 := q _ _ xf rf.st
      dsimp only [Tg.put] at q2
      split at q2
      · rename_i e2 he2
        split at he2
        · rename_i hlen
          cases he2
          cases hr with
          | nil => simp at hlen
          | @cons d1 _ v1 _ hd1 hr =>
            cases hr with
            | nil => simp at hlen
            | @cons d2 _ v2 _ hd2 hr =>
              cases hr with
              | cons _ _ => simp at hlen
              | nil => exact ⟨v1, v2, rfl, q2 _ H1 _ (x0.ext xf) ⟨(rf.env.set hd1).set hd2, rf.st, rf.old⟩⟩
        · cases he2
      · exact q2.elim
    · exact q.elim

/-! ghost steps -/
theorem frz_ok {i : Nat} {ds : List Py.D} (r : Rep Γ b.H0 H g σ env st) (x0 : On b H g) (e : env[i]? = some (some (.own (.lst ds)))) : ∃ g', On b H g' ∧ Rep Γ b.H0 H g' σ (env.set i (some (.val (.lst ds)))) st := by
  obtain ⟨v, hv, a, rfl, n0, p, l, us, hu, rel⟩ := r.env.at' i _ e
  have hne : H a ≠ none := by rw [hu]; simp
  have kd : Kp H g H (g.del a) := .del fun z => hne z
  have li : i < env.length := (List.getElem?_eq_some_iff.mp e).1
  have look : ∀ (m : Nat) (q : Res), (env.set i (some (.val (.lst ds))))[m]? = some (some q) → (m = i ∧ q = .val (.lst ds)) ∨ (m ≠ i ∧ env[m]? = some (some q)) := by
    intro m q eq
    by_cases hm : i = m
    · subst hm
      rw [List.getElem?_set_self li] at eq
      cases eq
      exact .inl ⟨rfl, rfl⟩
    · rw [List.getElem?_set_ne hm] at eq
      exact .inr ⟨fun z => hm z.symm, eq⟩
  refine ⟨g.del a, ⟨x0.x.del (fun z => x0.d a z n0) hne, x0.k.trans kd, x0.d⟩, ⟨by simp [r.env.len], fun m q eq => ?_, fun m n c cm cn e1 e2 e3 e4 => ?_, fun m cm eq => ?_⟩, r.st.del l hne, r.old⟩
  · rcases look m q eq with ⟨rfl, rfl⟩ | ⟨nm, eq⟩
    · exact ⟨_, hv, .lst ⟨hu, fun z => z.2 rfl⟩ (RDs.kp kd rel)⟩
    · obtain ⟨w, hw, rw'⟩ := r.env.at' m q eq
      refine ⟨w, hw, ?_⟩
      cases q with
      | val d => exact RD.kp kd rw'
      | own c =>
        obtain ⟨z, rfl, nz, pz, lz, qz⟩ := rw'
        exact ⟨z, rfl, nz, ⟨pz, fun ez => by subst ez; exact nm (r.env.sep m i z c _ eq e hw hv)⟩, lz, qz.kp kd rfl⟩
      | bor c => exact absurd eq (r.env.nob m c)
  · rcases look m _ e1 with ⟨_, z⟩ | ⟨_, e1⟩
    · cases z
    rcases look n _ e2 with ⟨_, z⟩ | ⟨_, e2⟩
    · cases z
    exact r.env.sep m n c cm cn e1 e2 e3 e4
  · rcases look m _ eq with ⟨_, z⟩ | ⟨_, eq⟩
    · cases z
    · exact r.env.nob m cm eq
theorem cell_ok {i : Nat} {c : Cell} (r : Rep Γ b.H0 H g σ env st) (x0 : On b H g) (e : env[i]? = some (some (.own c))) : ∃ g', On b H g' ∧ Rep Γ b.H0 H g' σ (env.set i (some (.val (.ptr st.length)))) (st ++ [some c]) := by
  obtain ⟨v, hv, a, rfl, n0, p, l, hc⟩ := r.env.at' i _ e
  have hp : g.L <+: g.L ++ [a] := List.prefix_append _ _
  have kd : Kp H g H ⟨g.P, g.L ++ [a]⟩ := ⟨fun _ _ h _ => h, fun _ h => .inl h, hp⟩
  have li : i < env.length := (List.getElem?_eq_some_iff.mp e).1
  have look : ∀ (m : Nat) (q : Res), (env.set i (some (.val (.ptr st.length))))[m]? = some (some q) → (m = i ∧ q = .val (.ptr st.length)) ∨ (m ≠ i ∧ env[m]? = some (some q)) := by
    intro m q eq
    by_cases hm : i = m
    · subst hm
      rw [List.getElem?_set_self li] at eq
      cases eq
      exact .inl ⟨rfl, rfl⟩
    · rw [List.getElem?_set_ne hm] at eq
      exact .inr ⟨fun z => hm z.symm, eq⟩
  refine ⟨⟨g.P, g.L ++ [a]⟩, ⟨⟨x0.x.kp.trans kd, x0.x.keep, x0.x.dom, x0.x.stay, fun z hz => ?_⟩, x0.k.trans kd, x0.d⟩, ⟨by simp [r.env.len], fun m q eq => ?_, fun m n c cm cn e1 e2 e3 e4 => ?_, fun m cm eq => ?_⟩, ?_, r.old⟩
  · rcases List.mem_append.mp hz with hz | hz
    · exact x0.x.fresh z hz
    · rw [List.mem_singleton.mp hz]; exact .inr n0
  · rcases look m q eq with ⟨rfl, rfl⟩ | ⟨nm, eq⟩
    · refine ⟨_, hv, .ptr ?_⟩
      show (g.L ++ [a])[st.length]? = some a
      rw [← r.st.len]
      simp
    · obtain ⟨w, hw, rw'⟩ := r.env.at' m q eq
      refine ⟨w, hw, ?_⟩
      cases q with
      | val d => exact RD.kp kd rw'
      | own c' =>
        obtain ⟨z, rfl, nz, pz, lz, qz⟩ := rw'
        refine ⟨z, rfl, nz, pz, fun hz => ?_, qz.kp kd rfl⟩
        rcases List.mem_append.mp hz with hz | hz
        · exact lz hz
        · have ez := List.mem_singleton.mp hz
          subst ez
          exact nm (r.env.sep m i z c' c eq e hw hv)
      | bor c => exact absurd eq (r.env.nob m c)
  · rcases look m _ e1 with ⟨_, z⟩ | ⟨_, e1⟩
    · cases z
    rcases look n _ e2 with ⟨_, z⟩ | ⟨_, e2⟩
    · cases z
    exact r.env.sep m n c cm cn e1 e2 e3 e4
  · rcases look m _ eq with ⟨_, z⟩ | ⟨_, eq⟩
    · cases z
    · exact r.env.nob m cm eq
  · refine ⟨by simp [r.st.len], ?_, fun z hz => ?_, r.st.dom, fun n cn en => ?_⟩
    · show (g.L ++ [a]).Nodup
      rw [List.nodup_append]
      exact ⟨r.st.nd, by simp, fun z hz w hw e => by rw [List.mem_singleton] at hw; subst hw; subst e; exact l hz⟩
    · rcases List.mem_append.mp hz with hz | hz
      · exact r.st.prot z hz
      · rw [List.mem_singleton.mp hz]; exact p
    · by_cases hn : n < st.length
      · rw [List.getElem?_append_left hn] at en
        obtain ⟨z, hz, qz⟩ := r.st.cell n cn en
        exact ⟨z, pre_get hp hz, qz.kp kd rfl⟩
      · have hn2 : n = st.length := by
          have := (List.getElem?_eq_some_iff.mp en).1
          simp at this
          omega
        subst hn2
        rw [List.getElem?_append_right (Nat.le_refl _)] at en
        simp at en
        subst en
        refine ⟨a, ?_, hc.kp kd rfl⟩
        show (g.L ++ [a])[st.length]? = some a
        rw [← r.st.len]
        simp
theorem pss_frzD {i : Nat} {ss : Sms} {Ss : List Stmt} (h2 : PSs X Ss (tDS Γ (execSs F ss) W)) : PSs X Ss (tDS Γ (execSs F (.cons (.frz i) ss)) W) :=
  pss_imp h2 fun D σ H h => by
    obtain ⟨b, g, env, st, r, x0, hq⟩ := h
    simp only [execSs, execS] at hq
    split at hq
    · rename_i ds e
      obtain ⟨g', o', r'⟩ := frz_ok r x0 e
      exact ⟨b, g', _, st, r', o', hq⟩
    · exact ⟨b, g, env, st, r, x0, hq⟩
    · exact hq.elim
theorem pss_cellD {i : Nat} {ss : Sms} {Ss : List Stmt} (h2 : PSs X Ss (tDS Γ (execSs F ss) W)) : PSs X Ss (tDS Γ (execSs F (.cons (.cell i) ss)) W) :=
  pss_imp h2 fun D σ H h => by
    obtain ⟨b, g, env, st, r, x0, hq⟩ := h
    simp only [execSs, execS] at hq
    split at hq
    · rename_i c e
      obtain ⟨g', o', r'⟩ := cell_ok r x0 e
      exact ⟨b, g', _, _, r', o', hq⟩
    · exact hq.elim
end

section
variable {Γ : Ctx} {k : Nat} {N : List Str} {T : Ftab} {F : Fsem} {sc : Scope}
def SS (Γ : Ctx) (k : Nat) (N : List Str) (F : Fsem) (sc : Scope) (m : Sm) (S : Stmt) : Prop := ∀ X W, XSt Γ k N sc X → Takes X (wx W) → PS X S (tDS Γ (execS F m) W)
def SSs (Γ : Ctx) (k : Nat) (N : List Str) (F : Fsem) (sc : Scope) (ms : Sms) (Ss : List Stmt) : Prop := ∀ X W, XSt Γ k N sc X → Takes X (wx W) → PSs X Ss (tDS Γ (execSs F ms) W)
variable (hw : World' Γ k T F)
include hw
mutual
theorem CS.snd : ∀ {m : Sm} {S : Stmt}, CS T N sc m S → SS Γ k N F sc m S
  | _, _, .set h1 h2 he hn, X, W, xs, tk => ps_setD xs he (CE.snd hw he X W xs.xo tk) h1 h2 hn
  | _, _, .setc (i := i) (own := own) (tg := tg) (it := it) (ifs := ifs) (elt := elt) ns h1 h2 h3 h4 hb hl hi hg ht hlen he, X, W, xs, tk => by
    refine ⟨fun pins s σ H D I h => ?_⟩
    refine (ps_compD (W := W) xs.xo h1 h2 I.ok.kind h3 h4 hb hl (CI.snd hw hi X W xs.xo tk) hg (fun s H C cl fp => (CTs.snd hw ht).ifs hlen _ _ (xo_blk xs.xo s H _ C cl fp) takes0) (fun s H C cl fp => CE.snd hw he _ _ (xo_blk xs.xo s H _ C cl fp) takes0) (hi.folded _)).run pins s σ H D I ?_
    simp only [execS] at h
    exact set_tD h
  | _, _, .vl h1 h2 he hn, X, W, xs, tk => ps_vlD xs he (CE.snd hw he X W xs.xo tk) h1 h2 hn
  | _, _, .vlc (i := i) (own := own) (tg := tg) (it := it) (ifs := ifs) (elt := elt) ns h1 h2 h3 h4 hb hl hi hg ht hlen he, X, W, xs, tk => by
    refine ⟨fun pins s σ H D I h => ?_⟩
    refine (ps_compD (W := W) xs.xo h1 h2 I.ok.kind h3 h4 hb hl (CI.snd hw hi X W xs.xo tk) hg (fun s H C cl fp => (CTs.snd hw ht).ifs hlen _ _ (xo_blk xs.xo s H _ C cl fp) takes0) (fun s H C cl fp => CE.snd hw he _ _ (xo_blk xs.xo s H _ C cl fp) takes0) (hi.folded _)).run pins s σ H D I ?_
    simp only [execS] at h
    exact vl_tD h
  | _, _, .move h1 h2 h3 h4 h5 h6, X, W, xs, tk => ps_moveD xs h1 h2 h3 h4 h5 h6
  | _, _, .unp hg he hn, X, W, xs, tk => ps_unpD xs he (CE.snd hw he X W xs.xo tk) hg (ws_no he hn)
  | _, _, .unpT hg he hn, X, W, xs, tk => ps_unpD xs he (CE.snd hw he X W xs.xo tk) hg (swSt_ok hn xs.xo.sc)
  | _, _, .par2 h1 h2 hij h3 h4 ha hb hn, X, W, xs, tk => ps_par2D xs h1 h2 hij h3 h4 ((CEs.snd hw (.cons ha (.cons hb .nil))).pa X W xs.xo tk) hn
  | _, _, .sset h1 h2 h3 h4 hk hv, X, W, xs, tk => ps_ssetD xs hv (CE.snd hw hk X W xs.xo tk) (CE.snd hw hv X W xs.xo tk) h1 h2 h3 h4
  | _, _, .mut h1 h2 h3 h4 ha h h5 h6, X, W, xs, tk => ps_mutD (T := T) xs h1 h2 h3 h4 ((CEs.snd hw (.cons ha h)).pa X W xs.xo tk) h5 (by rw [h.len]; exact h6) (ha.star _ _) (h.plain _ _) ((CEs.cons ha h).all _ _)
  | _, _, .expr he hn, X, W, xs, tk => ps_exprD he (CE.snd hw he X W xs.xo tk) hn
  | _, _, .ret he, X, W, xs, tk => ps_retD (CE.snd hw he X W xs.xo tk)
  | _, _, .retN, X, W, xs, tk => ps_retND
  | _, _, .retO h1 h2 h3 h4, X, W, xs, tk => ps_retOD xs h1 h2 h3 h4
  | _, _, .ife hc ha hb, X, W, xs, tk => ps_ifeD (CT.snd hw hc X W xs.xo tk) (CSs.snd ha X W xs tk) (CSs.snd hb X W xs tk)
  | _, _, .for_ hi hg hb, X, W, xs, tk => ps_forD xs (CI.snd hw hi X W xs.xo tk) hg (CSs.snd hb X W xs tk) (hi.folded _)
  | _, _, .wh hc hb, X, W, xs, tk => ps_whD xs (CT.snd hw hc X W xs.xo tk) (CSs.snd hb X W xs tk)
  | _, _, .brk, X, W, xs, tk => ps_brkD
  | _, _, .cont, X, W, xs, tk => ps_contD
  | _, _, .pass, X, W, xs, tk => ps_passD
theorem CSs.snd : ∀ {ms : Sms} {Ss : List Stmt}, CSs T N sc ms Ss → SSs Γ k N F sc ms Ss
  | _, _, .nil, X, W, xs, tk => pss_nilD
  | _, _, .cons h hs, X, W, xs, tk => pss_consD (CS.snd h X W xs tk) (CSs.snd hs X W xs tk)
  | _, _, .frz hs, X, W, xs, tk => pss_frzD (CSs.snd hs X W xs tk)
  | _, _, .cell hs, X, W, xs, tk => pss_cellD (CSs.snd hs X W xs tk)
end
end
end Py
end

section
set_option maxRecDepth 100000
set_option maxHeartbeats 4000000
set_option linter.all false
/-! Defs by their bodies; the ends of a law. -/
namespace Py
open PySem L2 PySem.Spec PyProof.Rows

/-- a def's text in the small language -/
structure FDef where
  n : Nat
  np : Nat
  body : Sms
def env0 (n : Nat) (ds : List D) : Env := ds.map (fun d => some (.val d)) ++ List.replicate (n - ds.length) none
def endB : SOut → Out Res
  | .nx _ st => .ok (.val .non) st
  | .rt r st => .ok r st
  | .exc c fs _ st => .exc c fs st
  | _ => .bad
def runB (F : Fsem) (n : Nat) (ms : Sms) (ds : List D) (st : Store) : Out Res := endB (execSs F ms (env0 n ds) st)
/-- the defs of a text, called to a depth -/
def run (P : Nat → Option FDef) : Nat → Fsem
  | 0 => fun _ _ _ => .bad
  | k + 1 => fun f ds st => match P f with
    | some d => runB (run P k) d.n d.body ds st
    | none => .bad

section
variable {Γ : Ctx} {k : Nat}
theorem env0_at {n : Nat} {ds : List D} {i : Nat} {r : Res} (h : (env0 n ds)[i]? = some (some r)) : ∃ d, ds[i]? = some d ∧ r = .val d := by
  unfold env0 at h
  by_cases hi : i < ds.length
  · rw [List.getElem?_append_left (by simpa using hi), List.getElem?_map] at h
    cases e : ds[i]? with
    | none => rw [e] at h; cases h
    | some d => rw [e] at h; cases h; exact ⟨d, rfl, rfl⟩
  · rw [List.getElem?_append_right (by simpa using hi), List.getElem?_replicate] at h
    split at h <;> cases h
theorem rep_start {N : List Str} {H : Hp} {g : Gh} {ds : List D} {vs : List V} {st : Store} (r : RDs Γ.K Γ.Cl H g ds vs) (s : RepSt Γ.K Γ.Cl H g st) : Rep Γ H H g (L2.start N vs) (env0 N.length ds) st := by
  refine ⟨⟨?_, fun i q e => ?_, fun i j a ci cj e1 => ?_, fun i c e => ?_⟩, s, fun a h => h⟩
  · unfold env0 L2.start
    rw [r.length]
    simp [r.length]
  · obtain ⟨d, h1, rfl⟩ := env0_at e
    obtain ⟨v, h2, h3⟩ := r.get h1
    refine ⟨v, ?_, h3⟩
    unfold L2.start
    have hi : i < vs.length := (List.getElem?_eq_some_iff.mp h2).1
    rw [List.getElem?_append_left (by simpa using hi), List.getElem?_map, h2]
    rfl
  · obtain ⟨d, _, z⟩ := env0_at e1
    cases z
  · obtain ⟨d, _, z⟩ := env0_at e
    cases z

/-- a def, by the relation of its text -/
theorem fnG_of {T : Ftab} {F : Fsem} {f : Addr} {name qual : Str} {params : Arguments} {body : List Stmt} {scope : Scope} {dV kV doc pm cdv ct oc : Value} {an od : Option Addr} {osl : Array (Option Value)} {N ps : List Str} {ms : Sms}
    (lk : Γ.K.lookup f = some ⟨oc, od, .func (PySem.W.fnOf name qual params body scope dV kV doc pm an cdv ct), osl⟩) (hcd : PySem.W.codeIn Γ.K cdv qual = true) (S : FnScope N ps scope)
    (hw : World' Γ k T F) (hb : CSs T N scope ms body) :
    FnG Γ (k + 1) f (PySem.W.fnOf name qual params body scope dV kV doc pm an cdv ct) ps (spD Γ (runB F N.length ms) ps.length) := by
  have len : ∀ vs H Q E, spD Γ (runB F N.length ms) ps.length vs H Q E → vs.length = ps.length := by
    rintro vs H Q E ⟨g, ds, st, h1, h2, h3, h4⟩
    rw [← h1.length]; exact h3
  refine ⟨len, fun A outer s H args us vs Q E hr hg e0 hbind r hsp => ?_⟩
  have hl := len _ _ _ _ hsp
  have lim := e0.mod.nolimit.keeps fun b o e => (e0.bs b o e).1
  have KX : Γ.K.In s.heap := e0.mod.kin.keeps fun b o e => (e0.bs b o e).1
  have kinds : ∀ y ∈ ps.zip us, scope.names.lookup y.1 = some .local ∨ (scope.names.lookup y.1 = some .cell ∧ ((cellsFrom (s.heap.objs.size + 1) scope.names []).lookup y.1).isSome = true) := by
    rintro ⟨n, v⟩ hy
    exact (S.par n (List.of_mem_zip hy).1).imp_right fun q => ⟨q, PySem.W.cellsFrom_some _ _ _ (.inl q)⟩
  refine codeAny_call_function hr.depth (KX _ _ lk) rfl S.co S.gen rfl (PySem.W.codeRec_of KX hcd) (hbind _ _ _ _ ?_)
  refine wpAny_newFunctionEnv_cells S.kind kinds fun env he s1 x => ?_
  subst he
  refine ⟨lim.keeps x.toInCall.keep, codeAny_func ?_⟩
  obtain ⟨X, hX⟩ : ∃ X : Cx, X = cxOf (L2.CX Γ.prog Γ.w) Γ.prog Γ.w Γ.K Γ.mg Γ.base N qual scope f cdv A outer s H E := ⟨_, rfl⟩
  have I : Inv (cxOf (L2.CX Γ.prog Γ.w) Γ.prog Γ.w Γ.K Γ.mg Γ.base N qual scope f cdv A outer s H E) [] (L2.start N vs) H s1 := inv_start S hr.hd e0 hl r x
  have xs : XSt Γ k N scope (cxOf (L2.CX Γ.prog Γ.w) Γ.prog Γ.w Γ.K Γ.mg Γ.base N qual scope f cdv A outer s H E) :=
    ⟨⟨rfl, rfl, rfl, rfl, rfl, rfl, S.nd, rfl, rfl, hr.deeper _, hg⟩, passes_of rfl, fun _ => rfl⟩
  have tk : Takes (cxOf (L2.CX Γ.prog Γ.w) Γ.prog Γ.w Γ.K Γ.mg Γ.base N qual scope f cdv A outer s H E) (wx fun _ c d H' => E c d H') := takes_of rfl rfl rfl rfl
  obtain ⟨g, ds, st, hrd, hst, hlen, hpost⟩ := hsp
  have hq : tDS Γ (execSs F ms) (fun _ c d H' => E c d H') { nx := fun _ H' => Q .non H', rt := Q } (L2.start N vs) H := by
    refine ⟨⟨H, g, H, g⟩, g, env0 N.length ds, st, rep_start hrd hst, ⟨.refl, .refl, hst.dom⟩, ?_⟩
    unfold runB at hpost
    cases e : execSs F ms (env0 N.length ds) st with
    | nx env st1 => rw [e] at hpost; exact fun σ H' g' o r' => hpost H' g' o.x r'.st _ .non
    | rt q st1 => rw [e] at hpost; exact fun H' g' v x' s' rr => hpost H' g' x' s' v rr
    | bk env st1 => rw [e] at hpost; exact hpost.elim
    | ct env st1 => rw [e] at hpost; exact hpost.elim
    | exc c fs env st1 => rw [e] at hpost; exact fun σ H' g' cls dd o r' ex => hpost H' g' cls dd o.x r'.st ex
    | bad => rw [e] at hpost; exact hpost.elim
  refine wpAny_mono ((CSs.snd hw hb _ _ xs tk).run [] s1 (L2.start N vs) H _ I hq) (fun fl s' hs => ?_) fun e s' hs => hs
  have fin : ∀ {σ' : L2.St} {H' : Hp} {v : V} {u : Value}, Inv (cxOf (L2.CX Γ.prog Γ.w) Γ.prog Γ.w Γ.K Γ.mg Γ.base N qual scope f cdv A outer s H E) [] σ' H' s' → RelV v u → Q v H' → L2.CE outer Γ.prog Γ.w H s Q u s' :=
    fun {σ' H' v u} J rv q => ⟨v, H', J.os, J.bare, J.base, J.hok, rv, q⟩
  cases fl with
  | next => obtain ⟨σ', H', J, q⟩ := hs; exact fin (v := .non) (u := .none) J rfl q
  | ret u => obtain ⟨v, σ', H', J, rv, q⟩ := hs; exact fin J rv q
  | brk => obtain ⟨_, _, _, q⟩ := hs; exact q.elim
  | cont => obtain ⟨_, _, _, q⟩ := hs; exact q.elim
/-- no promise -/
theorem fnG_zero {f : Addr} {fd : FuncData} {ps : List Str} : FnG Γ 0 f fd ps (spD Γ (fun _ _ => .bad) ps.length) := by
  refine ⟨?_, ?_⟩
  · rintro vs H Q E ⟨g, ds, st, h1, h2, h3, h4⟩
    exact h4.elim
  · rintro A outer s H args us vs Q E hr hg e0 hbind r ⟨g, ds, st, h1, h2, h3, h4⟩
    exact h4.elim

/-- the def f of a text stands behind the top, and its relation holds -/
structure DefAt (Γ : Ctx) (T : Ftab) (P : Nat → Option FDef) (f : Nat) (i : FI) : Prop where
  ex : ∃ (d : FDef) (name qual : Str) (params : Arguments) (body : List Stmt) (scope : Scope) (dV kV doc pm cdv ct oc : Value) (an od : Option Addr) (osl : Array (Option Value)) (N : List Str),
    P f = some d ∧ i.fd = PySem.W.fnOf name qual params body scope dV kV doc pm an cdv ct ∧ Γ.K.lookup i.addr = some ⟨oc, od, .func i.fd, osl⟩ ∧ PySem.W.codeIn Γ.K cdv qual = true ∧ FnScope N i.ps scope ∧ d.n = N.length ∧ CSs T N scope d.body body
  mg : Γ.mg i.nm = some (.ref i.addr)
  kp : PySem.W.keepIn Γ.K (.ref i.addr) = true
  binds : Binds Γ.K i.fd i.ps []
theorem world_of {T : Ftab} {P : Nat → Option FDef} (bi : BiOk Γ) (cs : CsOk Γ T) (fs : ∀ f i, T.fn f = some i → DefAt Γ T P f i) : ∀ k, World' Γ k T (run P k)
  | 0 => ⟨bi, cs, fun f i h => ⟨(fs f i h).mg, (fs f i h).kp, (fs f i h).binds, fnG_zero⟩⟩
  | k + 1 => ⟨bi, cs, fun f i h => by
    obtain ⟨⟨d, name, qual, params, body, scope, dV, kV, doc, pm, cdv, ct, oc, an, od, osl, N, hP, hfd, hlk, hcd, S, hn, hb⟩, mg, kp, binds⟩ := fs f i h
    refine ⟨mg, kp, binds, ?_⟩
    have e : run P (k + 1) f = runB (run P k) N.length d.body := by
      funext ds st
      show (match P f with
        | some d => runB (run P k) d.n d.body ds st
        | none => .bad) = _
      rw [hP, ← hn]
    rw [e]
    obtain ⟨nm, addr, fd, ps⟩ := i
    dsimp only at hfd hlk S ⊢
    subst hfd
    exact fnG_of hlk hcd S (world_of bi cs fs k) hb⟩
end

/-! ### a law's ends -/
theorem law_callG {P : Program} {w : World} {K : PySem.W.Frag} {mg mb : Str → Option Value} {k : Nat} {fa a : Addr} {fd : FuncData} {x : Str} {s₁ : Shared} {us : List Value} {ns : List Int} {Fl : List D → Store → Out Res}
    (KX : K.In s₁.heap) (hns : s₁.heap.Ns mainGlobals mg) (hb : s₁.heap.Ns builtinsNs mb) (hbb : ∀ x : Str, x ≠ "__name__" → mb x = bootBuiltins x) (hlim : s₁.heap.NoLimit) (hg : s₁.gens = #[])
    (ha : s₁.heap.get? a = some { cls := .type "list", data := .seq us.toArray }) (hi : IntsAre us ns) (hl : ns.length ≤ sizeLine) (hr : Room k callerA)
    (F : ∀ base : Heap, K.In base → base.Ns mainGlobals mg → ∃ Γ : Ctx, Γ.prog = P ∧ Γ.w = w ∧ Γ.K = K ∧ Γ.mg = mg ∧ Γ.base = base ∧ FnG Γ k fa fd [x] (spD Γ Fl 1)) (hbind : ∀ (s : Shared) (u : Value), BindsTo s fd ⟨[u], []⟩ [(x, u)])
    (hFl : ∃ st, Fl [.scr ns] [] = .ok (.val (.bl true)) st) :
    codeAny (model P w) callerA (.call (.ref fa) ⟨[.ref a], []⟩) (fun r s' => r = .ok (.ret (.bool true)) ∧ OldK s₁.heap s'.heap ∧ s'.os = s₁.os ∧ AllBare s'.gens) s₁ := by
  have rv := vals_ints hi
  have lenV := hi.length
  have core : ∀ H : Hp, Only H → (NS K H ⟨fun _ => False, []⟩ a (ns.map V.int)) → HOk P w H s₁.heap → (∀ b, H b ≠ none → b = a) → (H a ≠ none → K.lookup a = none) →
      codeAny (model P w) callerA (.call (.ref fa) ⟨[.ref a], []⟩) (fun r s' => r = .ok (.ret (.bool true)) ∧ OldK s₁.heap s'.heap ∧ s'.os = s₁.os ∧ AllBare s'.gens) s₁ := by
    intro H hO hS hok hA hK
    have bof : ∀ {b : Addr} {o : Obj}, s₁.heap.get? b = some o → H b = none → (hidT s₁.heap H).get? b = some o := fun e n => hidT_get e n
    have noA : ∀ {b : Addr} {o : Obj} {es : Array DictEntry} {ep : Nat}, s₁.heap.get? b = some o → o.data = .dict es ep → H b = none := by
      intro b o es ep e d
      cases q : H b with
      | none => rfl
      | some u =>
        obtain rfl : b = a := hA b (by simp [q])
        rw [ha] at e
        cases e
        cases (show Data.seq us.toArray _ = Data.dict es ep from d)
    have nsK : ∀ {b : Addr} {m : Str → Option Value}, s₁.heap.Ns b m → (hidT s₁.heap H).Ns b m := by
      rintro b m ⟨o, es, ep, e, d, r⟩
      exact ⟨o, es, ep, bof e (noA e d), d, r⟩
    have hKb : K.In (hidT s₁.heap H) := by
      intro b o e
      refine bof (KX b o e) ?_
      cases q : H b with
      | none => rfl
      | some u =>
        obtain rfl : b = a := hA b (by simp [q])
        rw [hK (by simp [q])] at e
        cases e
    have hM : Mod K mg (hidT s₁.heap H) := ⟨hKb, nsK hns, ⟨mb, nsK hb, hbb⟩, let ⟨mc, h1, h2⟩ := hlim; ⟨mc, nsK h1, h2⟩⟩
    have e0 : Env0 P w K mg (hidT s₁.heap H) callerA [] s₁ H :=
      ⟨rfl, hM, fun b o e => of_hidT e, Nat.le_of_eq (hidT_size _ _), trivial, fun b hb => absurd hb List.not_mem_nil, hok, .of_eq hg⟩
    obtain ⟨Γ, rfl, rfl, rfl, rfl, e5, G⟩ := F _ hKb (nsK hns)
    rw [← e5] at e0
    obtain ⟨st, hst⟩ := hFl
    have hsp : spD Γ Fl 1 [V.ref a] H (fun v _ => v = .bl true) (fun _ _ _ => False) := by
      refine ⟨⟨fun _ => False, []⟩, [.scr ns], [], .one (.scr hS), ⟨rfl, List.nodup_nil, fun a h => absurd h List.not_mem_nil, fun a h => h.elim, fun n c e => by simp at e⟩, rfl, ?_⟩
      rw [hst]
      intro H' g' x' s' v rr
      cases rr
      rfl
    refine codeAny_mono (G.run callerA [] s₁ H ⟨[.ref a], []⟩ [.ref a] [.ref a] _ _ hr rfl e0 (hbind s₁ (.ref a)) (.cons rfl .nil) hsp) fun r s' h => ?_
    cases r with
    | error e =>
      obtain ⟨_, _, _, _, _, _, _, _, _, _, _, _, z⟩ := h
      exact z.elim
    | ok fl =>
      cases fl with
      | ret u =>
        obtain ⟨v, H', os, bare, un, hok', r', q⟩ := h
        obtain rfl : v = .bl true := q
        obtain rfl : u = Value.bool true := r'
        refine ⟨rfl, OldK.of_keep fun b o e => ?_, os, bare⟩
        cases q : H b with
        | none => exact un.keep b o e q (fun z => absurd z List.not_mem_nil) (by simp)
        | some u =>
          rcases hO b with z | ⟨ob, xs, z⟩
          · rw [q] at z
            cases z
          · obtain ⟨e1, _⟩ := hok b _ z
            obtain ⟨e2, _⟩ := hok' b _ (un.frzs b ob _ z)
            rw [e] at e1
            cases e1
            exact e2
      | next => exact False.elim h
      | brk => exact False.elim h
      | cont => exact False.elim h
  cases hk : K.lookup a with
  | some o =>
    have e := KX a o hk
    rw [ha] at e
    cases e
    refine core (fun _ => none) (fun _ => .inl rfl) (.inr ⟨_, us.toArray, _, hk, rfl, rfl, rfl, by rw [List.size_toArray, lenV]; exact hl, by simpa using rv⟩) ?_ (fun b z => absurd rfl z) (fun z => absurd rfl z)
    intro b u z
    cases (show (none : Option HO) = some u from z)
  | none =>
    refine core (fun b => if b = a then some (.frz { cls := .type "list", data := .seq us.toArray } (.lst (ns.map V.int))) else none) (fun b => ?_) (.inl ⟨.inr ⟨{ cls := .type "list", data := .seq us.toArray }, if_pos rfl⟩, fun z => z⟩) (fun b u z => ?_) (fun b z => ?_) fun _ => hk
    · by_cases hb : b = a
      · exact .inr ⟨_, _, if_pos hb⟩
      · exact .inl (if_neg hb)
    · by_cases hb : b = a
      · cases (if_pos hb).symm.trans z
        subst hb
        exact ⟨ha, by rw [List.length_map]; exact hl, us, _, rv, ha⟩
      · cases (if_neg hb).symm.trans z
    · by_cases hb : b = a
      · exact hb
      · exact absurd (if_neg hb) z
/-- the law's walk -/
theorem walk_G {l : PySem.W.OpenLaw} {k : Nat} {q : Program} {loose : List Str} {XP : (Str → Option Value) → Heap → Prop} {YP : World → Heap → Prop} {d : DefRec} {K : Params → PySem.W.Frag} {x : Str} {Fl : List D → Store → Out Res}
    (hn : l.most = some 63) (hdf : d.params.defaults = []) (hr : Room k callerA)
    (hY : ∀ (w : World) (h : Heap), YP w h → (K w.params).In h)
    (F : ∀ (w : World) (mg : Str → Option Value) (fa : Addr) (h : Heap), (K w.params).In h → h.Ns mainGlobals mg → mg d.name = some (.ref fa) →
      ∃ fd : FuncData, (∀ (s : Shared) (u : Value), BindsTo s fd ⟨[u], []⟩ [(x, u)]) ∧
        ∀ base : Heap, (K w.params).In base → base.Ns mainGlobals mg → ∃ Γ : Ctx, Γ.prog = l.prog ∧ Γ.w = w ∧ Γ.K = K w.params ∧ Γ.mg = mg ∧ Γ.base = base ∧ FnG Γ k fa fd [x] (spD Γ Fl 1))
    (hFl : ∀ ns : List Int, ns.length ≤ 63 → ∃ st, Fl [.scr ns] [] = .ok (.val (.bl true)) st) :
    PySem.W.WalkO q loose XP YP l.row.toRowW d [] (fun f vs => PySem.call f vs) := by
  refine Att.attach_call hn hdf fun w s₀ s₁ mg mb fa o pm cd doc a vs ns G Y ho hd hcd hmg hobj hints hlen hg => ?_
  obtain ⟨fd, hb, hF⟩ := F w mg fa _ (hY w _ Y) G.T.g hmg
  exact law_callG (hY w _ Y) G.T.g G.T.b G.T.builtins G.T.nolimit hg hobj hints (Nat.le_trans hlen (by decide)) hr hF hb (hFl ns hlen)
end Py
end

section
set_option maxRecDepth 100000
set_option maxHeartbeats 4000000
set_option linter.all false
/-! The check that a text in the small language fits the program's text, by computing. -/
namespace Py
open PySem L2

/-- equal constants -/
def D.same : D → D → Bool
  | .non, .non => true
  | .bl a, .bl b => a == b
  | .int a, .int b => decide (a = b)
  | .str a, .str b => decide (a = b)
  | _, _ => false
theorem D.same_ok {a b : D} (h : D.same a b = true) : a = b := by
  cases a <;> cases b <;> simp [D.same] at h <;> first | rfl | (subst h; rfl)

/-- what is known of the whole text: the defs' names and parameters, the constants -/
structure Sg where
  fn : List (Nat × Str × List Str)
  cs : List (Str × D)

def okNm (x : Str) : Bool := !(x == ("__debug__" : Str)) && !(x == ("__classdict__" : Str))
theorem okNm_1 {x : Str} (h : okNm x = true) : (x == ("__debug__" : Str)) = false ∧ (x == ("__classdict__" : Str)) = false := by
  simpa [okNm] using h
def atN (N : List Str) (i : Nat) (x : Str) : Bool := decide (N[i]? = some x)
def lkLoc (sc : Scope) (x : Str) : Bool := decide (sc.names.lookup x = some .local)
def lkCell (sc : Scope) (x : Str) : Bool := decide (sc.names.lookup x = some .cell)

def chkGs (N : List Str) (sc scope : Scope) (own : List Nat) : List Nat → List Expr → Bool
  | [], [] => true
  | i :: is, .Name x _ :: xs => atN N i x && (lkLoc sc x || lkCell scope x) && locB sc x && own.contains i && chkGs N sc scope own is xs
  | _, _ => false
def chkG (N : List Str) (sc scope : Scope) (own : List Nat) : Tg → Expr → Bool
  | .name i, .Name x _ => atN N i x && (lkLoc sc x || lkCell scope x) && locB sc x && own.contains i
  | .tup is, .Tuple xs _ _ => chkGs N sc scope own is xs
  | _, _ => false
def tyOf (x : Str) (t : String) : Bool := decide (x ∈ tyNames) && decide (bootBuiltins x = some (.type t))

section
variable (S : Sg) (N : List Str)
mutual
def chkE : Scope → Ex → Expr → Bool
  | sc, .var i, E => match E with
    | .Name x _ => atN N i x && visB sc x && okNm x
    | _ => false
  | _, .cst d, E => match E with
    | .Constant .none _ _ => (match d with | .non => true | _ => false)
    | .Constant (.bool c) _ _ => (match d with | .bl b => b == c | _ => false)
    | .Constant (.int c) _ _ => (match d with | .int b => decide (b = c) | _ => false)
    | .Constant (.str c) _ _ => (match d with | .str b => decide (b = c) && PyData.strOk b | _ => false)
    | _ => false
  | sc, .glb x d, E => match E with
    | .Name y _ => decide (x = y) && glB sc x && (match S.cs.lookup x with | some d' => D.same d' d | none => false)
    | _ => false
  | sc, .bin op a b, E => match E with
    | .BinOp A o B _ => decide (bopA op = o) && chkE sc a A && chkE sc b B
    | _ => false
  | sc, .neg a, E => match E with
    | .UnaryOp .USub A _ => chkE sc a A
    | _ => false
  | sc, .cmp op a b, E => match E with
    | .Compare A [o] [B] _ => decide (copA op = o) && chkE sc a A && chkE sc b B && !(behindInMarks o B)
    | _ => false
  | sc, .cmp2 op op2 a b c, E => match E with
    | .Compare A [o, o2] [B, C] _ => decide (copA op = o) && decide (copA op2 = o2) && chkE sc a A && chkE sc b B && chkE sc c C && !(lastMarks [o, o2] [B, C])
    | _ => false
  | sc, .not a, E => match E with
    | .UnaryOp .Not A _ => chkE sc a A
    | _ => false
  | sc, .and es, E => match E with
    | .BoolOp .And As _ => chkEs sc es As
    | _ => false
  | sc, .or es, E => match E with
    | .BoolOp .Or As _ => chkEs sc es As
    | _ => false
  | sc, .ife t a b, E => match E with
    | .IfExp C A B _ => chkT sc t C && chkE sc a A && chkE sc b B
    | _ => false
  | sc, .tup es, E => match E with
    | .Tuple As _ _ => chkEs sc es As
    | _ => false
  | sc, .lst es, E => match E with
    | .List As _ => chkEs sc es As
    | _ => false
  | sc, .dct es, E => match E with
    | .Dict Ks Vs _ => chkEd sc es Ks Vs && !Ks.isEmpty && decide (Ks.length ≤ 15)
    | _ => false
  | sc, .ix a b, E => match E with
    | .Subscript A B _ => chkE sc a A && chkE sc b B
    | _ => false
  | sc, .sl a lo hi, E => match E with
    | .Subscript A (.Slice Lo Hi none _) _ => chkE sc a A && chkP sc lo Lo && chkP sc hi Hi
    | _ => false
  | sc, .rev a, E => match E with
    | .Subscript A (.Slice none none (some (.UnaryOp .USub (.Constant (.int i) _ _) _)) _) _ => decide (i = 1) && chkE sc a A
    | _ => false
  | sc, .sset a, E => match E with
    | .Call (.Name x _) [.Call (.Name y _) [A] [] _] [] _ => decide (x = "sorted") && decide (y = "set") && glB sc "sorted" && glB sc "set" && chkE sc a A
    | _ => false
  | sc, .call f es, E => match E with
    | .Call (.Name x _) As [] _ => (match S.fn.lookup f with | some (y, ps) => decide (y = x) && decide (es.length = ps.length) | none => false) && glB sc x && chkEs sc es As
    | _ => false
  | sc, .bi f es, E => match E with
    | .Call (.Name x _) (A :: As) [] _ => decide (biN f = x) && glB sc x && chkEs sc es (A :: As)
    | _ => false
  | sc, .isi a t, E => match E with
    | .Call (.Name y _) [A, .Name x _] [] _ => decide (y = "isinstance") && glB sc y && glB sc x && tyOf x t && chkE sc a A
    | _ => false
  | sc, .mth m o es, E => match E with
    | .Call (.Attribute O mn ap) As [] cp => decide (miN m = mn) && notCall O && (ap.endLine == cp.line) && decide (As.length < 28) && chkE sc o O && chkEs sc es As
    | _ => false
  | sc, .comp own tg it ifs elt, E => match E with
    | .ListComp Elt [⟨Tg', Iter, Ifs, a⟩] scope _ => decide (a = 0) && blkC N sc scope ((own.map fun i => N.getD i Str.empty).zip own) && chkI sc it Iter && chkG N (relS scope sc) scope own tg Tg' && decide (Ifs.length ≤ 1) && chkTs (relS scope sc) ifs Ifs && chkE (relS scope sc) elt Elt
    | _ => false
def chkEs : Scope → Exs → List Expr → Bool
  | _, .nil, [] => true
  | sc, .cons e es, A :: As => chkE sc e A && chkEs sc es As
  | _, _, _ => false
def chkEd : Scope → Exs → List (Option Expr) → List Expr → Bool
  | _, .nil, [], [] => true
  | sc, .cons k (.cons v es), some K :: Ks, V :: Vs => chkE sc k K && chkE sc v V && chkEd sc es Ks Vs
  | _, _, _, _ => false
def chkP : Scope → Exs → Option Expr → Bool
  | _, .nil, none => true
  | sc, .cons e .nil, some A => chkE sc e A
  | _, _, _ => false
def chkT : Scope → Te → Expr → Bool
  | sc, .val e, A => chkE sc e A && plainT A
  | sc, .cmp op a b, E => match E with
    | .Compare A [o] [B] _ => decide (copA op = o) && chkE sc a A && chkE sc b B && !(behindInMarks o B)
    | _ => false
  | sc, .cmp2 op op2 a b c, E => match E with
    | .Compare A [o, o2] [B, C] _ => decide (copA op = o) && decide (copA op2 = o2) && chkE sc a A && chkE sc b B && chkE sc c C && !(lastMarks [o, o2] [B, C])
    | _ => false
  | sc, .not t, E => match E with
    | .UnaryOp .Not A _ => chkT sc t A
    | _ => false
  | sc, .and ts, E => match E with
    | .BoolOp .And As _ => chkTs sc ts As
    | _ => false
  | sc, .or ts, E => match E with
    | .BoolOp .Or As _ => chkTs sc ts As
    | _ => false
def chkTs : Scope → Tes → List Expr → Bool
  | _, .nil, [] => true
  | sc, .cons t ts, A :: As => chkT sc t A && chkTs sc ts As
  | _, _, _ => false
def chkI : Scope → Itr → Expr → Bool
  | sc, .it e, A => chkE sc e A
  | sc, .rng es, E => match E with
    | .Call (.Name x _) As [] _ => decide (x = "range") && glB sc x && decide (0 < As.length) && decide (As.length ≤ 2) && chkEs sc es As
    | _ => false
  | _, _, _ => false
end
mutual
def chkS (sc : Scope) : Sm → Stmt → Bool
  | .set i e, E => match E with
    | .Assign [.Name x p] E _ => atN N i x && (if notLC E || lkCell sc x then locB sc x && chkE S N sc e E else lkLoc sc x && (p.line == E.pos.line) && chkE S N sc e E && (match E with
    | .ListComp _ _ scope _ => !(scope.names.any fun (n, k) => n == x && (k == .local || k == .cell))
    | _ => false))
    | _ => false
  | .vl i e, E => match E with
    | .Assign [.Name x p] E _ => atN N i x && (if notLC E || lkCell sc x then locB sc x && chkE S N sc e E else lkLoc sc x && (p.line == E.pos.line) && chkE S N sc e E && (match E with
    | .ListComp _ _ scope _ => !(scope.names.any fun (n, k) => n == x && (k == .local || k == .cell))
    | _ => false))
    | _ => false
  | .move i j, E => match E with
    | .Assign [.Name x _] (.Name y _) _ => atN N i x && locB sc x && atN N j y && visB sc y && okNm y
    | _ => false
  | .unp is e, E => match E with
    | .Assign [G] E _ => if notTup E then chkG N sc sc is (.tup is) G && chkE S N sc e E else (match G, E with
    | .Tuple ts _ _, .Tuple As _ _ => match swSt sc ts As with
      | some none => chkG N sc sc is (.tup is) G && chkE S N sc e E
      | some (some ns) => (match is, ts, As with
        | [i, j], [.Name x _, .Name y _], [_, _] => decide (ns = [x, y]) && atN N i x && atN N j y && !(i == j) && lkLoc sc x && lkLoc sc y && chkE S N sc e E
        | _, _, _ => false)
      | none => false
    | _, _ => false)
    | _ => false
  | .sset i k v, E => match E with
    | .Assign [.Subscript (.Name x _) K _] V _ => atN N i x && visB sc x && okNm x && chkE S N sc k K && chkE S N sc v V
    | _ => false
  | .mut m i es, E => match E with
    | .Expr (.Call (.Attribute (.Name x _) mn ap) (A :: As) [] cp) _ => decide (mmN m = mn) && atN N i x && visB sc x && okNm x && (ap.endLine == cp.line) && decide (As.length < 28) && chkEs S N sc es (A :: As)
    | _ => false
  | .expr e, E => match E with
    | .Expr E _ => notLC E && chkE S N sc e E
    | _ => false
  | .ret e, E => match E with
    | .Return (some E) _ => chkE S N sc e E
    | .Return none _ => (match e with | .cst .non => true | _ => false)
    | _ => false
  | .retO i, E => match E with
    | .Return (some (.Name x _)) _ => atN N i x && visB sc x && okNm x
    | _ => false
  | .ife c a b, E => match E with
    | .If C A B _ => chkT S N sc c C && chkSs sc a A && chkSs sc b B
    | _ => false
  | .for_ tg it body, E => match E with
    | .For G Iter Body [] _ => chkI S N sc it Iter && chkG N sc sc (match tg with | .name i => [i] | .tup is => is) tg G && chkSs sc body Body
    | _ => false
  | .wh _ c body, E => match E with
    | .While C Body [] _ => chkT S N sc c C && chkSs sc body Body
    | _ => false
  | .brk, E => match E with
    | .Break _ => true
    | _ => false
  | .cont, E => match E with
    | .Continue _ => true
    | _ => false
  | .pass, E => match E with
    | .Pass _ => true
    | _ => false
  | .frz _, _ => false
  | .cell _, _ => false
def chkSs (sc : Scope) : Sms → List Stmt → Bool
  | .nil, [] => true
  | .cons (.frz _) ss, Ss => chkSs sc ss Ss
  | .cons (.cell _) ss, Ss => chkSs sc ss Ss
  | .cons s ss, X :: Ss => chkS sc s X && chkSs sc ss Ss
  | _, _ => false
end
end
end Py
end

section
set_option maxRecDepth 100000
set_option maxHeartbeats 4000000
set_option linter.all false
/-! The check is right. -/
namespace Py
open PySem L2

def Sg.tab (S : Sg) (adr : Nat → Addr) (fd : Nat → FuncData) : Ftab := ⟨fun f => (S.fn.lookup f).map fun p => ⟨p.1, adr f, fd f, p.2⟩, fun x => S.cs.lookup x⟩
theorem Sg.tab_fn {S : Sg} {adr : Nat → Addr} {fd : Nat → FuncData} {f : Nat} {i : FI} (h : (S.tab adr fd).fn f = some i) : ∃ p ∈ S.fn, i = ⟨p.2.1, adr p.1, fd p.1, p.2.2⟩ ∧ f = p.1 := by
  obtain ⟨q, hq, e⟩ := Option.map_eq_some_iff.mp (show (S.fn.lookup f).map (fun p => (⟨p.1, adr f, fd f, p.2⟩ : FI)) = some i from h)
  obtain ⟨l1, l2, hl, _⟩ := List.lookup_eq_some_iff.mp hq
  exact ⟨(f, q), by rw [hl]; simp, e.symm, rfl⟩

section
variable {S : Sg} {N : List Str} {adr : Nat → Addr} {fd : Nat → FuncData}

theorem atN_ok {i : Nat} {x : Str} (h : atN N i x = true) : N[i]? = some x := by simpa [atN] using h
theorem locs_ok {sc scope : Scope} {x : Str} (h : (lkLoc sc x || lkCell scope x) = true) : sc.names.lookup x = some .local ∨ scope.names.lookup x = some .cell := by
  simpa [lkLoc, lkCell] using h
theorem chkGs_ok {sc scope : Scope} {own : List Nat} : ∀ {is : List Nat} {xs : List Expr}, chkGs N sc scope own is xs = true → CGs N sc scope own is xs
  | [], [], _ => .nil
  | i :: is, X :: xs, h => by
    cases X <;> simp only [chkGs, Bool.false_eq_true] at h
    simp only [Bool.and_eq_true] at h
    obtain ⟨⟨⟨⟨h1, h2⟩, h3⟩, h4⟩, h5⟩ := h
    exact .cons (atN_ok h1) (locs_ok h2) h3 (by simpa using h4) (chkGs_ok h5)
  | [], _ :: _, h => by simp [chkGs] at h
  | _ :: _, [], h => by simp [chkGs] at h
theorem chkG_ok {sc scope : Scope} {own : List Nat} {tg : Tg} {X : Expr} (h : chkG N sc scope own tg X = true) : CG N sc scope own tg X := by
  cases tg with
  | name i =>
    cases X <;> simp only [chkG, Bool.false_eq_true] at h
    simp only [Bool.and_eq_true] at h
    obtain ⟨⟨⟨h1, h2⟩, h3⟩, h4⟩ := h
    exact .name (atN_ok h1) (locs_ok h2) h3 (by simpa using h4)
  | tup is =>
    cases X <;> simp only [chkG, Bool.false_eq_true] at h
    exact .tup (chkGs_ok h)
theorem not_tt {b : Bool} (h : (!b) = true) : b = false := by simpa using h

mutual
theorem chkE_ok : ∀ {sc : Scope} (e : Ex) {E : Expr}, chkE S N sc e E = true → CE (S.tab adr fd) N sc e E
  | sc, .var i, E, h => by
    unfold chkE at h
    split at h <;> try cases h
    simp only [Bool.and_eq_true] at h
    obtain ⟨⟨h1, h2⟩, h3⟩ := h
    exact .var (atN_ok h1) h2 (okNm_1 h3).1 (okNm_1 h3).2
  | sc, .cst d, E, h => by
    unfold chkE at h
    split at h
    · split at h
      · exact .non
      · cases h
    · split at h
      · simp only [beq_iff_eq] at h; subst h; exact .bl
      · cases h
    · split at h
      · simp only [decide_eq_true_eq] at h; subst h; exact .int
      · cases h
    · split at h
      · simp only [Bool.and_eq_true, decide_eq_true_eq] at h; obtain ⟨rfl, h⟩ := h; exact .str h
      · cases h
    · cases h
  | sc, .glb x d, E, h => by
    unfold chkE at h
    split at h <;> try cases h
    simp only [Bool.and_eq_true, decide_eq_true_eq] at h
    obtain ⟨⟨rfl, h2⟩, h3⟩ := h
    split at h3
    · rename_i d' e
      have := D.same_ok h3
      subst this
      exact .glb e h2
    · cases h3
  | sc, .bin op a b, E, h => by
    unfold chkE at h
    split at h <;> try cases h
    simp only [Bool.and_eq_true, decide_eq_true_eq] at h
    obtain ⟨⟨rfl, h2⟩, h3⟩ := h
    exact .bin (chkE_ok a h2) (chkE_ok b h3)
  | sc, .neg a, E, h => by
    unfold chkE at h
    split at h <;> try cases h
    exact .neg (chkE_ok a h)
  | sc, .cmp op a b, E, h => by
    unfold chkE at h
    split at h <;> try cases h
    simp only [Bool.and_eq_true, decide_eq_true_eq] at h
    obtain ⟨⟨⟨rfl, h2⟩, h3⟩, h4⟩ := h
    exact .cmp (chkE_ok a h2) (chkE_ok b h3) (not_tt h4)
  | sc, .cmp2 op op2 a b c, E, h => by
    unfold chkE at h
    split at h <;> try cases h
    simp only [Bool.and_eq_true, decide_eq_true_eq] at h
    obtain ⟨⟨⟨⟨⟨rfl, rfl⟩, h2⟩, h3⟩, h4⟩, h5⟩ := h
    exact .cmp2 (chkE_ok a h2) (chkE_ok b h3) (chkE_ok c h4) (not_tt h5)
  | sc, .not a, E, h => by
    unfold chkE at h
    split at h <;> try cases h
    exact .not (chkE_ok a h)
  | sc, .and es, E, h => by
    unfold chkE at h
    split at h <;> try cases h
    exact .and (chkEs_ok es h)
  | sc, .or es, E, h => by
    unfold chkE at h
    split at h <;> try cases h
    exact .or (chkEs_ok es h)
  | sc, .ife t a b, E, h => by
    unfold chkE at h
    split at h <;> try cases h
    simp only [Bool.and_eq_true] at h
    obtain ⟨⟨h1, h2⟩, h3⟩ := h
    exact .ife (chkT_ok t h1) (chkE_ok a h2) (chkE_ok b h3)
  | sc, .tup es, E, h => by
    unfold chkE at h
    split at h <;> try cases h
    exact .tup (chkEs_ok es h)
  | sc, .lst es, E, h => by
    unfold chkE at h
    split at h <;> try cases h
    exact .lst (chkEs_ok es h)
  | sc, .dct es, E, h => by
    unfold chkE at h
    split at h <;> try cases h
    simp only [Bool.and_eq_true, decide_eq_true_eq] at h
    obtain ⟨⟨h1, h2⟩, h3⟩ := h
    refine .dct (chkEd_ok es h1) ?_ h3
    intro e
    subst e
    simp at h2
  | sc, .ix a b, E, h => by
    unfold chkE at h
    split at h <;> try cases h
    simp only [Bool.and_eq_true] at h
    exact .ix (chkE_ok a h.1) (chkE_ok b h.2)
  | sc, .sl a lo hi, E, h => by
    unfold chkE at h
    split at h <;> try cases h
    simp only [Bool.and_eq_true] at h
    obtain ⟨⟨h1, h2⟩, h3⟩ := h
    exact .sl (chkE_ok a h1) (chkP_ok lo h2) (chkP_ok hi h3)
  | sc, .rev a, E, h => by
    unfold chkE at h
    split at h <;> try cases h
    simp only [Bool.and_eq_true, decide_eq_true_eq] at h
    obtain ⟨rfl, h1⟩ := h
    exact .rev (chkE_ok a h1)
  | sc, .sset a, E, h => by
    unfold chkE at h
    split at h <;> try cases h
    simp only [Bool.and_eq_true, decide_eq_true_eq] at h
    obtain ⟨⟨⟨⟨rfl, rfl⟩, h3⟩, h4⟩, h5⟩ := h
    exact .sset h3 h4 (chkE_ok a h5)
  | sc, .call f es, E, h => by
    unfold chkE at h
    split at h <;> try cases h
    simp only [Bool.and_eq_true] at h
    obtain ⟨⟨h1, h2⟩, h3⟩ := h
    split at h1
    · rename_i y ps e
      simp only [Bool.and_eq_true, decide_eq_true_eq] at h1
      obtain ⟨rfl, h4⟩ := h1
      have ht : (S.tab adr fd).fn f = some ⟨y, adr f, fd f, ps⟩ := by simp [Sg.tab, e]
      cases es with
      | nil =>
        rename_i As _ _
        cases chkEs_ok .nil h3
        exact .call0 ht rfl h2 h4.symm
      | cons e es =>
        cases chkEs_ok (.cons e es) h3 with
        | cons a b => exact .call ht rfl h2 a b (by simpa [Exs.length, Nat.add_comm] using h4)
    · cases h1
  | sc, .bi f es, E, h => by
    unfold chkE at h
    split at h <;> try cases h
    simp only [Bool.and_eq_true, decide_eq_true_eq] at h
    obtain ⟨⟨h1, h2⟩, h3⟩ := h
    cases es with
    | nil => simp [chkEs] at h3
    | cons e es =>
      cases chkEs_ok (.cons e es) h3 with
      | cons a b => exact .bi h1 h2 a b
  | sc, .isi a t, E, h => by
    unfold chkE at h
    split at h <;> try cases h
    simp only [Bool.and_eq_true, decide_eq_true_eq] at h
    obtain ⟨⟨⟨⟨rfl, h2⟩, h3⟩, h4⟩, h5⟩ := h
    simp only [tyOf, Bool.and_eq_true, decide_eq_true_eq] at h4
    exact .isi (chkE_ok a h5) h2 h3 h4.2 h4.1
  | sc, .mth m o es, E, h => by
    unfold chkE at h
    split at h <;> try cases h
    simp only [Bool.and_eq_true, decide_eq_true_eq] at h
    obtain ⟨⟨⟨⟨⟨rfl, h2⟩, h3⟩, h4⟩, h5⟩, h6⟩ := h
    cases es with
    | nil =>
      cases chkEs_ok .nil h6
      exact .mth0 (chkE_ok o h5) h2 h3
    | cons e es =>
      cases chkEs_ok (.cons e es) h6 with
      | cons a b => exact .mth (chkE_ok o h5) a b h2 h3 (by rw [← b.len]; simp only [List.length_cons] at h4; omega)
  | sc, .comp own tg it ifs elt, E, h => by
    unfold chkE at h
    split at h <;> try cases h
    simp only [Bool.and_eq_true, decide_eq_true_eq] at h
    obtain ⟨⟨⟨⟨⟨⟨rfl, h1⟩, h2⟩, h3⟩, h4⟩, h5⟩, h6⟩ := h
    exact .comp _ h1 (by simp) (chkI_ok it h2) (chkG_ok h3) (chkTs_ok ifs h5) h4 (chkE_ok elt h6)
theorem chkEs_ok : ∀ {sc : Scope} (es : Exs) {Es : List Expr}, chkEs S N sc es Es = true → CEs (S.tab adr fd) N sc es Es
  | sc, .nil, [], h => .nil
  | sc, .nil, _ :: _, h => by simp [chkEs] at h
  | sc, .cons e es, [], h => by simp [chkEs] at h
  | sc, .cons e es, A :: As, h => by
    simp only [chkEs, Bool.and_eq_true] at h
    exact .cons (chkE_ok e h.1) (chkEs_ok es h.2)
theorem chkEd_ok : ∀ {sc : Scope} (es : Exs) {Ks : List (Option Expr)} {Vs : List Expr}, chkEd S N sc es Ks Vs = true → CEd (S.tab adr fd) N sc es Ks Vs
  | sc, .nil, [], [], h => .nil
  | sc, .cons k (.cons v es), some K :: Ks, V :: Vs, h => by
    simp only [chkEd, Bool.and_eq_true] at h
    exact .cons (chkE_ok k h.1.1) (chkE_ok v h.1.2) (chkEd_ok es h.2)
  | sc, .nil, _ :: _, _, h => by simp [chkEd] at h
  | sc, .nil, [], _ :: _, h => by simp [chkEd] at h
  | sc, .cons _ .nil, _, _, h => by simp [chkEd] at h
  | sc, .cons _ (.cons _ _), [], _, h => by simp [chkEd] at h
  | sc, .cons _ (.cons _ _), none :: _, _, h => by simp [chkEd] at h
  | sc, .cons _ (.cons _ _), some _ :: _, [], h => by simp [chkEd] at h
theorem chkP_ok : ∀ {sc : Scope} (es : Exs) {P : Option Expr}, chkP S N sc es P = true → CP (S.tab adr fd) N sc es P
  | sc, .nil, none, h => .none
  | sc, .cons e .nil, some A, h => by
    simp only [chkP] at h
    exact .some (chkE_ok e h)
  | sc, .nil, some _, h => by simp [chkP] at h
  | sc, .cons _ .nil, none, h => by simp [chkP] at h
  | sc, .cons _ (.cons _ _), _, h => by simp [chkP] at h
theorem chkT_ok : ∀ {sc : Scope} (t : Te) {E : Expr}, chkT S N sc t E = true → CT (S.tab adr fd) N sc t E
  | sc, .val e, E, h => by
    unfold chkT at h
    simp only [Bool.and_eq_true] at h
    exact .val (chkE_ok e h.1) h.2
  | sc, .cmp op a b, E, h => by
    unfold chkT at h
    split at h <;> try cases h
    simp only [Bool.and_eq_true, decide_eq_true_eq] at h
    obtain ⟨⟨⟨rfl, h2⟩, h3⟩, h4⟩ := h
    exact .cmp (chkE_ok a h2) (chkE_ok b h3) (not_tt h4)
  | sc, .cmp2 op op2 a b c, E, h => by
    unfold chkT at h
    split at h <;> try cases h
    simp only [Bool.and_eq_true, decide_eq_true_eq] at h
    obtain ⟨⟨⟨⟨⟨rfl, rfl⟩, h2⟩, h3⟩, h4⟩, h5⟩ := h
    exact .cmp2 (chkE_ok a h2) (chkE_ok b h3) (chkE_ok c h4) (not_tt h5)
  | sc, .not t, E, h => by
    unfold chkT at h
    split at h <;> try cases h
    exact .not (chkT_ok t h)
  | sc, .and ts, E, h => by
    unfold chkT at h
    split at h <;> try cases h
    exact .and (chkTs_ok ts h)
  | sc, .or ts, E, h => by
    unfold chkT at h
    split at h <;> try cases h
    exact .or (chkTs_ok ts h)
theorem chkTs_ok : ∀ {sc : Scope} (ts : Tes) {Es : List Expr}, chkTs S N sc ts Es = true → CTs (S.tab adr fd) N sc ts Es
  | sc, .nil, [], h => .nil
  | sc, .nil, _ :: _, h => by simp [chkTs] at h
  | sc, .cons e es, [], h => by simp [chkTs] at h
  | sc, .cons e es, A :: As, h => by
    simp only [chkTs, Bool.and_eq_true] at h
    exact .cons (chkT_ok e h.1) (chkTs_ok es h.2)
theorem chkI_ok : ∀ {sc : Scope} (it : Itr) {G A : Expr}, chkI S N sc it A = true → CI (S.tab adr fd) N sc it G A
  | sc, .it e, G, A, h => by
    unfold chkI at h
    exact .it (chkE_ok e h)
  | sc, .rng es, G, A, h => by
    unfold chkI at h
    split at h
    · simp only [Bool.and_eq_true, decide_eq_true_eq] at h
      obtain ⟨⟨⟨⟨rfl, h2⟩, h3⟩, h4⟩, h5⟩ := h
      cases chkEs_ok es h5 with
      | nil => simp at h3
      | cons a b =>
        cases b with
        | nil => exact .rng1 h2 a
        | cons b c =>
          cases c with
          | nil => exact .rng2 h2 a b
          | cons c d => simp at h4
    · cases h
  | sc, .enum e, G, A, h => by unfold chkI at h; cases h
  | sc, .zip a b, G, A, h => by unfold chkI at h; cases h
end

mutual
theorem chkS_ok {sc : Scope} : ∀ (m : Sm) {X : Stmt}, chkS S N sc m X = true → CS (S.tab adr fd) N sc m X
  | .set i e, X, h => by
    unfold chkS at h
    split at h
    · rename_i x p E _
      simp only [Bool.and_eq_true] at h
      obtain ⟨h1, h⟩ := h
      split at h
      · rename_i hc
        simp only [Bool.and_eq_true] at h
        refine .set (atN_ok h1) h.1 (chkE_ok e h.2) ?_
        simpa [lkCell] using hc
      · simp only [Bool.and_eq_true] at h
        obtain ⟨⟨⟨h2, h3⟩, h4⟩, h5⟩ := h
        split at h5
        · have := chkE_ok (adr := adr) (fd := fd) e h4
          cases this with
          | comp ns a1 a2 a3 a4 a5 a6 a7 => exact .setc ns (atN_ok h1) (by simpa [lkLoc] using h2) h3 (not_tt h5) a1 a2 a3 a4 a5 a6 a7
        · cases h5
    · cases h
  | .vl i e, X, h => by
    unfold chkS at h
    split at h
    · rename_i x p E _
      simp only [Bool.and_eq_true] at h
      obtain ⟨h1, h⟩ := h
      split at h
      · rename_i hc
        simp only [Bool.and_eq_true] at h
        refine .vl (atN_ok h1) h.1 (chkE_ok e h.2) ?_
        simpa [lkCell] using hc
      · simp only [Bool.and_eq_true] at h
        obtain ⟨⟨⟨h2, h3⟩, h4⟩, h5⟩ := h
        split at h5
        · have := chkE_ok (adr := adr) (fd := fd) e h4
          cases this with
          | comp ns a1 a2 a3 a4 a5 a6 a7 => exact .vlc ns (atN_ok h1) (by simpa [lkLoc] using h2) h3 (not_tt h5) a1 a2 a3 a4 a5 a6 a7
        · cases h5
    · cases h
  | .move i j, X, h => by
    unfold chkS at h
    split at h
    · simp only [Bool.and_eq_true] at h
      obtain ⟨⟨⟨⟨h1, h2⟩, h3⟩, h4⟩, h5⟩ := h
      exact .move (atN_ok h1) h2 (atN_ok h3) h4 (okNm_1 h5).1 (okNm_1 h5).2
    · cases h
  | .unp is e, X, h => by
    unfold chkS at h
    split at h
    · rename_i G E _
      split at h
      · rename_i hn
        simp only [Bool.and_eq_true] at h
        exact .unp (chkG_ok h.1) (chkE_ok e h.2) hn
      · split at h
        · split at h
          · rename_i hs
            simp only [Bool.and_eq_true] at h
            exact .unpT (chkG_ok h.1) (chkE_ok e h.2) hs
          · rename_i ns hs
            split at h
            · simp only [Bool.and_eq_true, decide_eq_true_eq] at h
              obtain ⟨⟨⟨⟨⟨⟨rfl, h1⟩, h2⟩, h3⟩, h4⟩, h5⟩, h6⟩ := h
              have := chkE_ok (adr := adr) (fd := fd) e h6
              cases this with
              | tup he =>
                cases he with
                | cons ha hb =>
                  cases hb with
                  | cons hb hc =>
                    cases hc
                    exact .par2 (atN_ok h1) (atN_ok h2) (by simpa using h3) (by simpa [lkLoc] using h4) (by simpa [lkLoc] using h5) ha hb hs
            · cases h
          · cases h
        · cases h
    · cases h
  | .sset i k v, X, h => by
    unfold chkS at h
    split at h
    · simp only [Bool.and_eq_true] at h
      obtain ⟨⟨⟨⟨h1, h2⟩, h3⟩, h4⟩, h5⟩ := h
      exact .sset (atN_ok h1) h2 (okNm_1 h3).1 (okNm_1 h3).2 (chkE_ok k h4) (chkE_ok v h5)
    · cases h
  | .mut m i es, X, h => by
    unfold chkS at h
    split at h
    · simp only [Bool.and_eq_true, decide_eq_true_eq] at h
      obtain ⟨⟨⟨⟨⟨⟨rfl, h1⟩, h2⟩, h3⟩, h4⟩, h5⟩, h6⟩ := h
      cases chkEs_ok (adr := adr) (fd := fd) es h6 with
      | cons a b => exact .mut (atN_ok h1) h2 (okNm_1 h3).1 (okNm_1 h3).2 a b h4 (by rw [← b.len]; exact h5)
    · cases h
  | .expr e, X, h => by
    unfold chkS at h
    split at h
    · simp only [Bool.and_eq_true] at h
      exact .expr (chkE_ok e h.2) h.1
    · cases h
  | .ret e, X, h => by
    unfold chkS at h
    split at h
    · exact .ret (chkE_ok e h)
    · split at h
      · exact .retN
      · cases h
    · cases h
  | .retO i, X, h => by
    unfold chkS at h
    split at h
    · simp only [Bool.and_eq_true] at h
      obtain ⟨⟨h1, h2⟩, h3⟩ := h
      exact .retO (atN_ok h1) h2 (okNm_1 h3).1 (okNm_1 h3).2
    · cases h
  | .ife c a b, X, h => by
    unfold chkS at h
    split at h
    · simp only [Bool.and_eq_true] at h
      exact .ife (chkT_ok c h.1.1) (chkSs_ok a h.1.2) (chkSs_ok b h.2)
    · cases h
  | .for_ tg it body, X, h => by
    unfold chkS at h
    split at h
    · simp only [Bool.and_eq_true] at h
      exact .for_ (chkI_ok it h.1.1) (chkG_ok h.1.2) (chkSs_ok body h.2)
    · cases h
  | .wh n c body, X, h => by
    unfold chkS at h
    split at h
    · simp only [Bool.and_eq_true] at h
      exact .wh (chkT_ok c h.1) (chkSs_ok body h.2)
    · cases h
  | .brk, X, h => by
    unfold chkS at h
    split at h
    · exact .brk
    · cases h
  | .cont, X, h => by
    unfold chkS at h
    split at h
    · exact .cont
    · cases h
  | .pass, X, h => by
    unfold chkS at h
    split at h
    · exact .pass
    · cases h
  | .frz i, X, h => by simp [chkS] at h
  | .cell i, X, h => by simp [chkS] at h
theorem chkSs_ok {sc : Scope} : ∀ (ms : Sms) {Xs : List Stmt}, chkSs S N sc ms Xs = true → CSs (S.tab adr fd) N sc ms Xs
  | .nil, [], h => .nil
  | .nil, _ :: _, h => by simp [chkSs] at h
  | .cons m ms, Xs, h => by
    unfold chkSs at h
    split at h
    · rename_i e; cases e
    · rename_i e; cases e; exact .frz (chkSs_ok ms h)
    · rename_i e; cases e; exact .cell (chkSs_ok ms h)
    · rename_i e
      cases e
      simp only [Bool.and_eq_true] at h
      exact .cons (chkS_ok m h.1) (chkSs_ok ms h.2)
    · cases h
end
end
end Py
end

section
set_option maxRecDepth 100000
set_option maxHeartbeats 4000000
set_option linter.all false
/-! A text's defs as they stand behind the top. -/
namespace Py
open PySem L2 PySem.Spec PyProof.Rows

/-- a def of the module -/
structure DF (K : PySem.W.Frag) (st : Stmt) (nm : Str) (f : Addr) (fd : FuncData) : Prop where
  a : PySem.W.nsIn K mainGlobals nm = some (some (.ref f))
  F : Fun K nm nm st f fd
theorem df_mk {K : PySem.W.Frag} {st : Stmt} {nm : Str} {f : Addr} {oc : Value} {od an : Option Addr} {osl : Array (Option Value)} {kV doc pm cdv ct : Value} (a : PySem.W.nsIn K mainGlobals nm = some (some (.ref f)))
    (l : K.lookup f = some ⟨oc, od, .func (PySem.W.fnOf nm nm (defArgs st) (defBody st) (defScope st) .none kV doc pm an cdv ct), osl⟩) (c : PySem.W.codeIn K cdv nm = true) (k : PySem.W.keepIn K (.ref f) = true) : ∃ (f : Addr) (fd : FuncData), DF K st nm f fd :=
  ⟨f, _, a, fun_mk l c k⟩
theorem gl_mk {K : PySem.W.Frag} {nm : Str} {v : V} {t : Value} (a : PySem.W.nsIn K mainGlobals nm = some (some t)) (b : RelV v t) : ∃ t : Value, PySem.W.nsIn K mainGlobals nm = some (some t) ∧ RelV v t := ⟨t, a, b⟩
/-- no name of the module hides a built-in one that we use -/
def biNames : List Str := ["int", "bool", "str", "tuple", "list", "len", "all", "any", "sum", "min", "max", "sorted", "repr", "ord", "set", "isinstance", "range", "enumerate", "zip"]
theorem biOk_of {Γ : Ctx} (h : ∀ x ∈ biNames, Γ.mg x = none) : BiOk Γ := by
  refine ⟨fun x hx => h x ?_, fun f => h _ ?_, h _ (by simp [biNames]), h _ (by simp [biNames]), h _ (by simp [biNames]), h _ (by simp [biNames])⟩
  · simp only [tyNames, List.mem_cons, List.not_mem_nil, or_false] at hx
    rcases hx with rfl | rfl | rfl | rfl | rfl <;> simp [biNames]
  · cases f <;> simp [biN, biNames]
theorem defAt_of {Γ : Ctx} {S : Sg} {adr : Nat → Addr} {fdf : Nat → FuncData} {P : Nat → Option FDef} {d : FDef} {st : Stmt} {nm : Str} {ps N : List Str} {i : Nat} {h : Heap} (KX : Γ.K.In h) (G : h.Ns mainGlobals Γ.mg)
    (D : DF Γ.K st nm (adr i) (fdf i)) (hP : P i = some d) (sc : FnScope N ps (defScope st)) (hn : d.n = N.length) (hc : chkSs S N (defScope st) d.body (defBody st) = true)
    (hb : ∀ (kV doc pm : Value) (an : Option Addr) (cdv ct : Value) (us : List Value), us.length = ps.length → bindArgs (PySem.W.fnOf nm nm (defArgs st) (defBody st) (defScope st) .none kV doc pm an cdv ct) ⟨us, []⟩ = pure (ps.zip us)) :
    DefAt Γ (S.tab adr fdf) P i ⟨nm, adr i, fdf i, ps⟩ := by
  refine ⟨?_, PySem.W.mg_of KX G D.a, D.F.kp, D.F.binds hb⟩
  obtain ⟨oc, od, kV, doc, pm, an, cdv, ct, osl, e, lk, hcd⟩ := D.F.ex
  exact ⟨d, nm, nm, _, _, _, _, _, _, _, _, _, _, _, _, _, N, hP, e, lk, hcd, sc, hn, chkSs_ok _ hc⟩
end Py
end

section
set_option maxRecDepth 100000
set_option maxHeartbeats 4000000
set_option linter.all false
/-! Shapes of data: an abstract run of the small language, and what it promises. -/
namespace Py
open PySem L2

mutual
/-- one shape: ints between bounds, texts by length (pr: printable signs alone), sequences of like things, tuples by place, the feed -/
inductive At where
  | non
  | bl (t f : Bool)
  | int (lo hi : Option Int)
  | str (lo hi : Nat) (pr : Bool)
  | seq (tup : Bool) (lo hi : Nat) (e : AV)
  | tupx (es : AVs)
  | any (w dp k l : Nat)
  | feed
inductive AV where
  | nil
  | cons (a : At) (v : AV)
inductive AVs where
  | nil
  | cons (v : AV) (vs : AVs)
end

def prS (x : Str) : Bool := x.cps.toList.all fun c => decide (32 ≤ c) && decide (c < 127)
def seqD (tup : Bool) (xs : List D) : D := if tup = true then .tup xs else .lst xs
def inR (lo hi : Option Int) (i : Int) : Prop := (∀ l, lo = some l → l ≤ i) ∧ ∀ h, hi = some h → i ≤ h
/-! any plain thing: its weight (what its repr takes at most), its depth, its ints' figures -/
mutual
def D.wz : D → Nat
  | .non => 4
  | .bl _ => 5
  | .int i => (Str.ofString (toString i)).length
  | .str x => 2 * x.length + 2
  | .tup xs => D.wzs xs + 3
  | .lst xs => D.wzs xs + 3
  | _ => 0
def D.wzs : List D → Nat
  | [] => 0
  | x :: xs => D.wz x + 2 + D.wzs xs
end
mutual
def D.dep : D → Nat
  | .tup xs => D.deps xs + 1
  | .lst xs => D.deps xs + 1
  | _ => 0
def D.deps : List D → Nat
  | [] => 0
  | x :: xs => max (D.dep x) (D.deps xs)
end
mutual
def D.ml : D → Nat
  | .tup xs => max xs.length (D.mls xs)
  | .lst xs => max xs.length (D.mls xs)
  | _ => 0
def D.mls : List D → Nat
  | [] => 0
  | x :: xs => max (D.ml x) (D.mls xs)
end
mutual
def D.pn (k : Nat) : D → Bool
  | .non => true
  | .bl _ => true
  | .int i => decide (i.natAbs < 10 ^ k)
  | .str x => prS x
  | .tup xs => D.pns k xs
  | .lst xs => D.pns k xs
  | _ => false
def D.pns (k : Nat) : List D → Bool
  | [] => true
  | x :: xs => D.pn k x && D.pns k xs
end
mutual
def At.g : At → D → Prop
  | .non, d => d = .non
  | .bl t f, d => ∃ b : Bool, d = .bl b ∧ (if b = true then t else f) = true
  | .int lo hi, d => ∃ i, d = .int i ∧ inR lo hi i
  | .str lo hi pr, d => ∃ x, d = .str x ∧ lo ≤ x.length ∧ x.length ≤ hi ∧ (pr = true → prS x = true)
  | .seq tup lo hi e, d => ∃ xs, d = seqD tup xs ∧ lo ≤ xs.length ∧ xs.length ≤ hi ∧ ∀ x ∈ xs, AV.g e x
  | .tupx es, d => ∃ xs, d = .tup xs ∧ AVs.g es xs
  | .any w dp k l, d => d.pn k = true ∧ d.wz ≤ w ∧ d.dep ≤ dp ∧ d.ml ≤ l
  | .feed, d => d = .ptr 0
def AV.g : AV → D → Prop
  | .nil, _ => False
  | .cons a v, d => At.g a d ∨ AV.g v d
def AVs.g : AVs → List D → Prop
  | .nil, xs => xs = []
  | .cons v vs, xs => ∃ x r, xs = x :: r ∧ AV.g v x ∧ AVs.g vs r
end

mutual
theorem D.pn_mono {k k' : Nat} (h : k ≤ k') : ∀ {d : D}, d.pn k = true → d.pn k' = true
  | .non, _ => rfl
  | .bl _, _ => rfl
  | .int i, g => by
    simp only [D.pn, decide_eq_true_eq] at g ⊢
    exact Nat.lt_of_lt_of_le g (Nat.pow_le_pow_right (by decide) h)
  | .str _, g => g
  | .tup xs, g => by simp only [D.pn] at g ⊢; exact D.pns_mono h g
  | .lst xs, g => by simp only [D.pn] at g ⊢; exact D.pns_mono h g
  | .obj _ _, g => by simp [D.pn] at g
  | .ptr _, g => by simp [D.pn] at g
  | .scr _, g => by simp [D.pn] at g
theorem D.pns_mono {k k' : Nat} (h : k ≤ k') : ∀ {ds : List D}, D.pns k ds = true → D.pns k' ds = true
  | [], _ => rfl
  | d :: ds, g => by
    simp only [D.pns, Bool.and_eq_true] at g ⊢
    exact ⟨D.pn_mono h g.1, D.pns_mono h g.2⟩
end
/-! likeness, to choose what is joined -/
mutual
def At.eq : At → At → Bool
  | .non, .non => true
  | .bl a b, .bl c d => a == c && b == d
  | .int a b, .int c d => a == c && b == d
  | .str a b p, .str c d q => a == c && b == d && p == q
  | .seq t a b e, .seq u c d f => t == u && a == c && b == d && AV.eq e f
  | .tupx a, .tupx b => AVs.eq a b
  | .any a b c l, .any d e f m => a == d && b == e && c == f && l == m
  | .feed, .feed => true
  | _, _ => false
def AV.eq : AV → AV → Bool
  | .nil, .nil => true
  | .cons a v, .cons b w => At.eq a b && AV.eq v w
  | _, _ => false
def AVs.eq : AVs → AVs → Bool
  | .nil, .nil => true
  | .cons a v, .cons b w => AV.eq a b && AVs.eq v w
  | _, _ => false
end
def AV.size : AV → Nat
  | .nil => 0
  | .cons _ v => v.size + 1
/-! joins -/
def minO (a b : Option Int) : Option Int := match a, b with
  | some x, some y => some (if x ≤ y then x else y)
  | _, _ => none
def maxO (a b : Option Int) : Option Int := match a, b with
  | some x, some y => some (if x ≤ y then y else x)
  | _, _ => none
def joinVs (J : AV → AV → AV) : AVs → AVs → Option AVs
  | .nil, .nil => some .nil
  | .cons a as, .cons b bs => (joinVs J as bs).map (.cons (J a b))
  | _, _ => none
def mergeA (J : AV → AV → AV) (all : Bool) (a b : At) : Option At :=
  match a, b with
  | .non, .non => some .non
  | .bl t f, .bl t' f' => some (.bl (t || t') (f || f'))
  | .int lo hi, .int lo' hi' => some (.int (minO lo lo') (maxO hi hi'))
  | .str lo hi p, .str lo' hi' p' => some (.str (min lo lo') (max hi hi') (p && p'))
  | .seq t lo hi e, .seq t' lo' hi' e' => if t = t' ∧ (all || (lo == lo' && hi == hi') || AV.eq e e') = true then some (.seq t (min lo lo') (max hi hi') (J e e')) else none
  | .tupx es, .tupx fs => (joinVs J es fs).map .tupx
  | .any w d k l, .any w' d' k' l' => some (.any (max w w') (max d d') (max k k') (max l l'))
  | .feed, .feed => some .feed
  | _, _ => none
def insA (J : AV → AV → AV) (all : Bool) (a : At) : AV → AV
  | .nil => .cons a .nil
  | .cons b v => match mergeA J all a b with
    | some c => .cons c v
    | none => .cons b (insA J all a v)
def joinW (J : AV → AV → AV) : AV → AV → AV
  | .nil, w => w
  | .cons a v, w => joinW J v (insA J (decide (24 < w.size)) a w)
def appV : AV → AV → AV
  | .nil, w => w
  | .cons a v, w => .cons a (appV v w)
def joinV : Nat → AV → AV → AV
  | 0 => appV
  | n + 1 => joinW (joinV n)
abbrev jn (a b : AV) : AV := joinV 8 a b

theorem minO_le {a b : Option Int} {i : Int} (h : (∀ l, a = some l → l ≤ i) ∨ ∀ l, b = some l → l ≤ i) : ∀ l, minO a b = some l → l ≤ i := by
  intro l e
  unfold minO at e
  split at e
  · rename_i x y
    cases e
    rcases h with h | h
    · have := h x rfl
      split <;> omega
    · have := h y rfl
      split <;> omega
  · cases e
theorem maxO_le {a b : Option Int} {i : Int} (h : (∀ l, a = some l → i ≤ l) ∨ ∀ l, b = some l → i ≤ l) : ∀ l, maxO a b = some l → i ≤ l := by
  intro l e
  unfold maxO at e
  split at e
  · rename_i x y
    cases e
    rcases h with h | h
    · have := h x rfl
      split <;> omega
    · have := h y rfl
      split <;> omega
  · cases e
section
variable {J : AV → AV → AV} (hJ : ∀ a b d, AV.g a d ∨ AV.g b d → AV.g (J a b) d)
include hJ
theorem joinVs_ok : ∀ {as bs cs : AVs} {xs : List D}, joinVs J as bs = some cs → (AVs.g as xs ∨ AVs.g bs xs) → AVs.g cs xs
  | .nil, .nil, cs, xs, e, h => by
    simp only [joinVs, Option.some.injEq] at e
    subst e
    simpa [AVs.g] using h
  | .cons a as, .cons b bs, cs, xs, e, h => by
    simp only [joinVs, Option.map_eq_some_iff] at e
    obtain ⟨ds, e, rfl⟩ := e
    simp only [AVs.g] at h ⊢
    rcases h with ⟨x, r, rfl, h1, h2⟩ | ⟨x, r, rfl, h1, h2⟩
    · exact ⟨x, r, rfl, hJ _ _ _ (.inl h1), joinVs_ok e (.inl h2)⟩
    · exact ⟨x, r, rfl, hJ _ _ _ (.inr h1), joinVs_ok e (.inr h2)⟩
  | .nil, .cons _ _, _, _, e, _ => by simp [joinVs] at e
  | .cons _ _, .nil, _, _, e, _ => by simp [joinVs] at e
theorem mergeA_ok {all : Bool} {a b c : At} {d : D} (e : mergeA J all a b = some c) (h : At.g a d ∨ At.g b d) : At.g c d := by
  unfold mergeA at e
  split at e
  · cases e; simpa [At.g] using h
  · cases e
    simp only [At.g] at h ⊢
    rcases h with ⟨b, rfl, h⟩ | ⟨b, rfl, h⟩ <;> exact ⟨b, rfl, by cases b <;> simp_all⟩
  · cases e
    simp only [At.g, inR] at h ⊢
    rcases h with ⟨i, rfl, h1, h2⟩ | ⟨i, rfl, h1, h2⟩
    · exact ⟨i, rfl, minO_le (.inl h1), maxO_le (.inl h2)⟩
    · exact ⟨i, rfl, minO_le (.inr h1), maxO_le (.inr h2)⟩
  · cases e
    simp only [At.g] at h ⊢
    rcases h with ⟨x, rfl, h1, h2, h3⟩ | ⟨x, rfl, h1, h2, h3⟩
    · exact ⟨x, rfl, by omega, by omega, fun z => h3 (by simp at z; exact z.1)⟩
    · exact ⟨x, rfl, by omega, by omega, fun z => h3 (by simp at z; exact z.2)⟩
  · split at e
    · rename_i ht
      obtain ⟨rfl, _⟩ := ht
      cases e
      simp only [At.g] at h ⊢
      rcases h with ⟨x, rfl, h1, h2, h3⟩ | ⟨x, rfl, h1, h2, h3⟩
      · exact ⟨x, rfl, by omega, by omega, fun z hz => hJ _ _ _ (.inl (h3 z hz))⟩
      · exact ⟨x, rfl, by omega, by omega, fun z hz => hJ _ _ _ (.inr (h3 z hz))⟩
    · cases e
  · simp only [Option.map_eq_some_iff] at e
    obtain ⟨cs, e, rfl⟩ := e
    simp only [At.g] at h ⊢
    rcases h with ⟨x, rfl, h⟩ | ⟨x, rfl, h⟩
    · exact ⟨x, rfl, joinVs_ok hJ e (.inl h)⟩
    · exact ⟨x, rfl, joinVs_ok hJ e (.inr h)⟩
  · cases e
    simp only [At.g] at h ⊢
    rcases h with ⟨h1, h2, h3, h4⟩ | ⟨h1, h2, h3, h4⟩
    · exact ⟨D.pn_mono (by omega) h1, by omega, by omega, by omega⟩
    · exact ⟨D.pn_mono (by omega) h1, by omega, by omega, by omega⟩
  · cases e; simpa [At.g] using h
  · cases e
theorem insA_ok {all : Bool} {a : At} {d : D} : ∀ {v : AV}, (At.g a d ∨ AV.g v d) → AV.g (insA J all a v) d
  | .nil, h => by simpa [insA, AV.g] using h
  | .cons b v, h => by
    unfold insA
    split
    · rename_i c e
      simp only [AV.g] at h ⊢
      rcases h with h | h | h
      · exact .inl (mergeA_ok hJ e (.inl h))
      · exact .inl (mergeA_ok hJ e (.inr h))
      · exact .inr h
    · simp only [AV.g] at h ⊢
      rcases h with h | h | h
      · exact .inr (insA_ok (.inl h))
      · exact .inl h
      · exact .inr (insA_ok (.inr h))
theorem joinW_ok {d : D} : ∀ {v w : AV}, (AV.g v d ∨ AV.g w d) → AV.g (joinW J v w) d
  | .nil, w, h => by simpa [joinW, AV.g] using h
  | .cons a v, w, h => by
    unfold joinW
    simp only [AV.g] at h
    rcases h with (h | h) | h
    · exact joinW_ok (.inr (insA_ok hJ (.inl h)))
    · exact joinW_ok (.inl h)
    · exact joinW_ok (.inr (insA_ok hJ (.inr h)))
end
theorem appV_ok {d : D} : ∀ {v w : AV}, (AV.g v d ∨ AV.g w d) → AV.g (appV v w) d
  | .nil, w, h => by simpa [appV, AV.g] using h
  | .cons a v, w, h => by
    simp only [appV, AV.g] at h ⊢
    rcases h with (h | h) | h
    · exact .inl h
    · exact .inr (appV_ok (.inl h))
    · exact .inr (appV_ok (.inr h))
theorem joinV_ok : ∀ (n : Nat) (a b : AV) (d : D), AV.g a d ∨ AV.g b d → AV.g (joinV n a b) d
  | 0, a, b, d, h => appV_ok h
  | n + 1, a, b, d, h => joinW_ok (joinV_ok n) h
theorem jn_l {a b : AV} {d : D} (h : AV.g a d) : AV.g (jn a b) d := joinV_ok 8 a b d (.inl h)
theorem jn_r {a b : AV} {d : D} (h : AV.g b d) : AV.g (jn a b) d := joinV_ok 8 a b d (.inr h)

/-- over all shapes -/
def bindV (f : At → Option AV) : AV → Option AV
  | .nil => some .nil
  | .cons a v => match f a, bindV f v with
    | some x, some y => some (jn x y)
    | _, _ => none
theorem bindV_ok {f : At → Option AV} : ∀ {v w : AV} {d : D}, bindV f v = some w → AV.g v d → ∃ a x, At.g a d ∧ f a = some x ∧ ∀ d', AV.g x d' → AV.g w d'
  | .nil, _, _, _, h => by simp [AV.g] at h
  | .cons a v, w, d, e, h => by
    simp only [bindV] at e
    split at e
    · rename_i x y e1 e2
      cases e
      simp only [AV.g] at h
      rcases h with h | h
      · exact ⟨a, x, h, e1, fun d' z => jn_l z⟩
      · obtain ⟨a', x', h1, h2, h3⟩ := bindV_ok e2 h
        exact ⟨a', x', h1, h2, fun d' z => jn_r (h3 d' z)⟩
    · cases e
def one (a : At) : AV := .cons a .nil
theorem one_g {a : At} {d : D} (h : At.g a d) : AV.g (one a) d := .inl h
def allVs : AVs → AV
  | .nil => .nil
  | .cons v vs => jn v (allVs vs)
theorem allVs_ok : ∀ {vs : AVs} {xs : List D}, AVs.g vs xs → ∀ x ∈ xs, AV.g (allVs vs) x
  | .nil, xs, h, x, hx => by simp only [AVs.g] at h; subst h; simp at hx
  | .cons v vs, xs, h, x, hx => by
    simp only [AVs.g] at h
    obtain ⟨y, r, rfl, h1, h2⟩ := h
    rcases List.mem_cons.mp hx with rfl | hx
    · exact jn_l h1
    · exact jn_r (allVs_ok h2 x hx)
def AVs.len : AVs → Nat
  | .nil => 0
  | .cons _ vs => vs.len + 1
theorem AVs.g_len : ∀ {vs : AVs} {xs : List D}, AVs.g vs xs → xs.length = vs.len
  | .nil, xs, h => by simp only [AVs.g] at h; subst h; rfl
  | .cons v vs, xs, h => by
    simp only [AVs.g] at h
    obtain ⟨y, r, rfl, _, h2⟩ := h
    simp [AVs.len, AVs.g_len h2]
/-- a sequence as one of like things -/
def asSeq : At → Option (Bool × Nat × Nat × AV)
  | .seq t lo hi e => some (t, lo, hi, e)
  | .tupx es => some (true, es.len, es.len, allVs es)
  | _ => none
theorem asSeq_ok {a : At} {t : Bool} {lo hi : Nat} {e : AV} {d : D} (h : asSeq a = some (t, lo, hi, e)) (g : At.g a d) : ∃ xs, d = seqD t xs ∧ lo ≤ xs.length ∧ xs.length ≤ hi ∧ ∀ x ∈ xs, AV.g e x := by
  unfold asSeq at h
  split at h
  · cases h; simpa [At.g] using g
  · cases h
    simp only [At.g] at g
    obtain ⟨xs, rfl, h⟩ := g
    exact ⟨xs, rfl, by rw [AVs.g_len h]; exact Nat.le_refl _, by rw [AVs.g_len h]; exact Nat.le_refl _, allVs_ok h⟩
  · cases h
end Py
end

section
set_option maxRecDepth 100000
set_option maxHeartbeats 4000000
set_option linter.all false
/-! Operations on shapes. -/
namespace Py
open PySem L2

/-! ints -/
def addO (a b : Option Int) : Option Int := match a, b with
  | some x, some y => some (x + y)
  | _, _ => none
def subO (a b : Option Int) : Option Int := match a, b with
  | some x, some y => some (x - y)
  | _, _ => none
/-- within (-2^64, 2^64) -/
def fits64 (lo hi : Option Int) : Bool := match lo, hi with
  | some l, some h => decide (-18446744073709551616 < l) && decide (h < 18446744073709551616)
  | _, _ => false
def min4 (a b c d : Int) : Int := min (min a b) (min c d)
def max4 (a b c d : Int) : Int := max (max a b) (max c d)
theorem mul_in {l1 h1 l2 h2 i j : Int} (a1 : l1 ≤ i) (a2 : i ≤ h1) (b1 : l2 ≤ j) (b2 : j ≤ h2) : min4 (l1 * l2) (l1 * h2) (h1 * l2) (h1 * h2) ≤ i * j ∧ i * j ≤ max4 (l1 * l2) (l1 * h2) (h1 * l2) (h1 * h2) := by
  -- i*j lies between l1*j and h1*j, and each of those between its two ends
  have key : ∀ (x y lo hi : Int), lo ≤ x → x ≤ hi → min (lo * y) (hi * y) ≤ x * y ∧ x * y ≤ max (lo * y) (hi * y) := by
    intro x y lo hi p q
    rcases Int.le_total 0 y with hy | hy
    · exact ⟨Int.le_trans (Int.min_le_left _ _) (Int.mul_le_mul_of_nonneg_right p hy), Int.le_trans (Int.mul_le_mul_of_nonneg_right q hy) (Int.le_max_right _ _)⟩
    · exact ⟨Int.le_trans (Int.min_le_right _ _) (Int.mul_le_mul_of_nonpos_right q hy), Int.le_trans (Int.mul_le_mul_of_nonpos_right p hy) (Int.le_max_left _ _)⟩
  have k1 := key i j l1 h1 a1 a2
  have k2 := key j l1 l2 h2 b1 b2
  have k3 := key j h1 l2 h2 b1 b2
  rw [Int.mul_comm l2 l1, Int.mul_comm h2 l1, Int.mul_comm j l1] at k2
  rw [Int.mul_comm l2 h1, Int.mul_comm h2 h1, Int.mul_comm j h1] at k3
  unfold min4 max4
  omega
def mulI (l1 h1 l2 h2 : Option Int) : Option At :=
  if (fits64 l1 h1 || fits64 l2 h2) = true then match l1, h1, l2, h2 with
    | some a, some b, some c, some d => some (.int (some (min4 (a * c) (a * d) (b * c) (b * d))) (some (max4 (a * c) (a * d) (b * c) (b * d))))
    | _, _, _, _ => some (.int none none)
  else none
def fdivI (l1 h1 l2 h2 : Option Int) : Option At := match l2, h2 with
  | some c, some d => if 0 < c ∧ d < 1073741824 then (match l1, h1 with
    | some a, some b => if 0 ≤ a then some (.int (some (a / d)) (some (b / c))) else some (.int none none)
    | some a, none => if 0 ≤ a then some (.int (some 0) none) else some (.int none none)
    | _, _ => some (.int none none)) else none
  | _, _ => none
def modI (l2 h2 : Option Int) : Option At := match l2 with
  | some c => if 0 < c then some (.int (some 0) (subO h2 (some 1))) else none
  | _ => none
def powI (l1 h1 l2 h2 : Option Int) : Option At := match l1, h1, l2, h2 with
  | some a, some b, some c, some d => if a = b ∧ c = d ∧ 0 ≤ c ∧ c ≤ 400 ∧ a.natAbs < 18446744073709551616 then some (.int (some (a ^ c.toNat)) (some (a ^ c.toNat))) else none
  | _, _, _, _ => none
/-- a truth as a number -/
def asInt : At → Option (Option Int × Option Int)
  | .int lo hi => some (lo, hi)
  | .bl _ _ => some (some 0, some 1)
  | _ => none
def binA (op : BOp) (a b : At) : Option (Bool × At) :=
  match op with
  | .add => match a, b with
    | .str l1 h1 p1, .str l2 h2 p2 => if h1 + h2 ≤ sizeLine then some (false, .str (l1 + l2) (h1 + h2) (p1 && p2)) else none
    | _, _ => match asSeq a, asSeq b with
      | some (t, l1, h1, e1), some (t', l2, h2, e2) => if t = t' ∧ h1 + h2 ≤ sizeLine then some (!t, .seq t (l1 + l2) (h1 + h2) (jn e1 e2)) else none
      | _, _ => match asInt a, b with
        | some (l1, h1), .int l2 h2 => some (false, .int (addO l1 l2) (addO h1 h2))
        | _, _ => none
  | .sub => match asInt a, b with
    | some (l1, h1), .int l2 h2 => some (false, .int (subO l1 h2) (subO h1 l2))
    | _, _ => none
  | .mul => match a, b with
    | .int l1 h1, .int l2 h2 => (mulI l1 h1 l2 h2).map fun x => (false, x)
    | _, .int (some n) (some m) => match asSeq a with
      | some (true, l1, h1, e1) => if n = m ∧ 2 ≤ n ∧ n ≤ 1000 ∧ 0 < l1 ∧ h1 ≤ 1000 then some (false, .seq true (n.toNat * l1) (n.toNat * h1) e1) else none
      | _ => none
    | _, _ => none
  | .fdiv => match a, b with
    | .int l1 h1, .int l2 h2 => (fdivI l1 h1 l2 h2).map fun x => (false, x)
    | _, _ => none
  | .mod => match a, b with
    | .int _ _, .int l2 h2 => (modI l2 h2).map fun x => (false, x)
    | _, _ => none
  | .pow => match a, b with
    | .int l1 h1, .int l2 h2 => (powI l1 h1 l2 h2).map fun x => (false, x)
    | _, _ => none
theorem addO_in {l1 h1 l2 h2 : Option Int} {i j : Int} (a : inR l1 h1 i) (b : inR l2 h2 j) : inR (addO l1 l2) (addO h1 h2) (i + j) := by
  refine ⟨fun l e => ?_, fun h e => ?_⟩
  · unfold addO at e
    split at e
    · cases e; have := a.1 _ rfl; have := b.1 _ rfl; omega
    · cases e
  · unfold addO at e
    split at e
    · cases e; have := a.2 _ rfl; have := b.2 _ rfl; omega
    · cases e
theorem subO_in {l1 h1 l2 h2 : Option Int} {i j : Int} (a : inR l1 h1 i) (b : inR l2 h2 j) : inR (subO l1 h2) (subO h1 l2) (i - j) := by
  refine ⟨fun l e => ?_, fun h e => ?_⟩
  · unfold subO at e
    split at e
    · cases e; have := a.1 _ rfl; have := b.2 _ rfl; omega
    · cases e
  · unfold subO at e
    split at e
    · cases e; have := a.2 _ rfl; have := b.1 _ rfl; omega
    · cases e
theorem inR_any {i : Int} : inR none none i := ⟨fun l e => (nomatch e), fun h e => (nomatch e)⟩
theorem mulI_ok {l1 h1 l2 h2 : Option Int} {i j : Int} {x : At} (e : mulI l1 h1 l2 h2 = some x) (a : inR l1 h1 i) (b : inR l2 h2 j) : smallMul i j = true ∧ At.g x (.int (i * j)) := by
  unfold mulI at e
  split at e
  · rename_i hf
    refine ⟨?_, ?_⟩
    · unfold smallMul
      rw [Bool.or_eq_true] at hf ⊢
      have fit : ∀ {l h : Option Int} {z : Int}, fits64 l h = true → inR l h z → decide (-(2 ^ 64) < z ∧ z < 2 ^ 64) = true := by
        intro l h z hz r
        unfold fits64 at hz
        split at hz
        · simp only [Bool.and_eq_true, decide_eq_true_eq] at hz ⊢
          have := r.1 _ rfl
          have := r.2 _ rfl
          omega
        · cases hz
      exact hf.imp (fun z => fit z a) fun z => fit z b
    · split at e
      · cases e
        obtain ⟨m1, m2⟩ := mul_in (a.1 _ rfl) (a.2 _ rfl) (b.1 _ rfl) (b.2 _ rfl)
        exact ⟨_, rfl, fun l e => by cases e; exact m1, fun h e => by cases e; exact m2⟩
      · cases e
        exact ⟨_, rfl, inR_any⟩
  · cases e
theorem fdivI_ok {l1 h1 l2 h2 : Option Int} {i j : Int} {x : At} (e : fdivI l1 h1 l2 h2 = some x) (a : inR l1 h1 i) (b : inR l2 h2 j) : (0 < j ∧ j < 1073741824) ∧ At.g x (.int (i / j)) := by
  unfold fdivI at e
  split at e
  · rename_i c d
    have b1 := b.1 _ rfl
    have b2 := b.2 _ rfl
    split at e
    · rename_i hc
      refine ⟨by omega, ?_⟩
      split at e
      · rename_i a0 b0
        have a1 := a.1 _ rfl
        have a2 := a.2 _ rfl
        split at e
        · rename_i h0
          cases e
          refine ⟨_, rfl, fun l e => ?_, fun h e => ?_⟩
          · cases e
            have hd : 0 < d := by omega
            -- a0 / d ≤ i / j
            refine (Int.le_ediv_iff_mul_le (by omega)).mpr ?_
            have h2 : a0 / d * d ≤ a0 := Int.ediv_mul_le _ (by omega)
            have h3 : 0 ≤ a0 / d := Int.ediv_nonneg h0 (by omega)
            have h4 : a0 / d * j ≤ a0 / d * d := Int.mul_le_mul_of_nonneg_left b2 h3
            omega
          · cases e
            -- i / j ≤ b0 / c
            refine (Int.le_ediv_iff_mul_le hc.1).mpr ?_
            have h2 : i / j * j ≤ i := Int.ediv_mul_le _ (by omega)
            have h3 : 0 ≤ i / j := Int.ediv_nonneg (by omega) (by omega)
            have h4 : i / j * c ≤ i / j * j := Int.mul_le_mul_of_nonneg_left b1 h3
            omega
        · cases e; exact ⟨_, rfl, inR_any⟩
      · rename_i a0
        have a1 := a.1 _ rfl
        split at e
        · cases e
          refine ⟨_, rfl, fun l e => ?_, fun h e => nomatch e⟩
          cases e
          exact Int.ediv_nonneg (by omega) (by omega)
        · cases e; exact ⟨_, rfl, inR_any⟩
      · cases e; exact ⟨_, rfl, inR_any⟩
    · cases e
  · cases e
theorem modI_ok {l2 h2 : Option Int} {i j : Int} {x : At} (e : modI l2 h2 = some x) (b : inR l2 h2 j) : 0 < j ∧ At.g x (.int (i % j)) := by
  unfold modI at e
  split at e
  · split at e
    · rename_i hc
      cases e
      have b1 := b.1 _ rfl
      refine ⟨by omega, _, rfl, fun l e => ?_, fun h e => ?_⟩
      · cases e; exact Int.emod_nonneg _ (by omega)
      · unfold subO at e
        split at e
        · rename_i x y e1 e2
          cases e2
          cases e
          have := b.2 _ rfl
          have := Int.emod_lt_of_pos i (b := j) (by omega)
          omega
        · cases e
    · cases e
  · cases e
theorem powI_ok {l1 h1 l2 h2 : Option Int} {i j : Int} {x : At} (e : powI l1 h1 l2 h2 = some x) (a : inR l1 h1 i) (b : inR l2 h2 j) : (0 ≤ j ∧ j ≤ 1000000 ∧ i.natAbs < 2 ^ 64) ∧ At.g x (.int (i ^ j.toNat)) := by
  unfold powI at e
  split at e
  · rename_i a0 b0 c d
    split at e
    · rename_i hc
      cases e
      have a1 := a.1 _ rfl
      have a2 := a.2 _ rfl
      have b1 := b.1 _ rfl
      have b2 := b.2 _ rfl
      have e1 : i = a0 := by omega
      have e2 : j = c := by omega
      subst e1 e2
      exact ⟨⟨by omega, by omega, by omega⟩, _, rfl, fun l e => by cases e; exact Int.le_refl _, fun l e => by cases e; exact Int.le_refl _⟩
    · cases e
  · cases e
theorem asInt_ok {a : At} {l h : Option Int} {d : D} (e : asInt a = some (l, h)) (g : At.g a d) : ∃ i, inR l h i ∧ ((d = .int i) ∨ ∃ b, d = .bl b ∧ i = b2i b) := by
  unfold asInt at e
  split at e
  · cases e
    obtain ⟨i, rfl, r⟩ := g
    exact ⟨i, r, .inl rfl⟩
  · cases e
    obtain ⟨b, rfl, _⟩ := g
    refine ⟨b2i b, ⟨fun l e => ?_, fun l e => ?_⟩, .inr ⟨b, rfl, rfl⟩⟩ <;> cases e <;> cases b <;> decide
  · cases e
theorem seqD_vw (t : Bool) (xs : List D) (st : Store) : (seqD t xs).vw st = .sq t xs := by cases t <;> rfl
/-- an own list or a plain datum -/
def resOf (own : Bool) (d : D) : Res := match own, d with
  | true, .lst xs => .own (.lst xs)
  | _, d => .val d
theorem prS_app {x y : Str} (h1 : prS x = true) (h2 : prS y = true) : prS (x ++ y) = true := by
  unfold prS at h1 h2 ⊢
  have e : (x ++ y).cps = x.cps ++ y.cps := rfl
  rw [e, Array.toList_append, List.all_append, h1, h2]
  rfl
theorem len_app (x y : Str) : (x ++ y).length = x.length + y.length := by
  show (x.cps ++ y.cps).size = _
  rw [Array.size_append]
  rfl
theorem flat_len {α : Type} (n : Nat) (xs : List α) : (List.replicate n xs).flatten.length = n * xs.length := by
  induction n with
  | zero => simp
  | succ n ih => rw [List.replicate_succ, List.flatten_cons, List.length_append, ih, Nat.succ_mul, Nat.add_comm]
theorem binA_ok {op : BOp} {a b x : At} {o : Bool} {d1 d2 : D} {st : Store} (e : binA op a b = some (o, x)) (g1 : At.g a d1) (g2 : At.g b d2) : ∃ d, opBin op (d1.vw st) (d2.vw st) = some (resOf o d) ∧ At.g x d ∧ (o = true → ∃ xs, d = .lst xs) := by
  unfold binA at e
  cases op with
  | add =>
    dsimp only at e
    split at e
    · obtain ⟨x1, rfl, q1, q2, q3⟩ := g1
      obtain ⟨x2, rfl, q4, q5, q6⟩ := g2
      split at e
      · rename_i hs
        cases e
        refine ⟨.str (x1 ++ x2), ?_, ⟨_, rfl, by rw [len_app]; omega, by rw [len_app]; omega, fun z => ?_⟩, fun z => nomatch z⟩
        · show (if x1.length + x2.length ≤ sizeLine then _ else _) = _
          rw [if_pos (by omega)]
          rfl
        · simp only [Bool.and_eq_true] at z
          exact prS_app (q3 z.1) (q6 z.2)
      · cases e
    · split at e
      · rename_i t l1 h1 e1 t' l2 h2 e2 s1 s2
        obtain ⟨xs, rfl, p1, p2, p3⟩ := asSeq_ok s1 g1
        obtain ⟨ys, rfl, p4, p5, p6⟩ := asSeq_ok s2 g2
        split at e
        · rename_i hs
          obtain ⟨rfl, hs⟩ := hs
          cases e
          refine ⟨seqD t (xs ++ ys), ?_, ⟨_, rfl, by simp; omega, by simp; omega, fun z hz => ?_⟩, fun z => ?_⟩
          · rw [seqD_vw, seqD_vw]
            cases t
            · show (if xs.length + ys.length ≤ sizeLine then _ else _) = _
              rw [if_pos (by omega)]
              rfl
            · show (if xs.length + ys.length ≤ sizeLine then _ else _) = _
              rw [if_pos (by omega)]
              rfl
          · rcases List.mem_append.mp hz with hz | hz
            · exact jn_l (p3 z hz)
            · exact jn_r (p6 z hz)
          · cases t
            · exact ⟨_, rfl⟩
            · cases z
        · cases e
      · split at e
        · have s1 := ‹asInt a = some _›
          cases e
          obtain ⟨j, rfl, r2⟩ := g2
          obtain ⟨i, r1, rfl | ⟨bb, rfl, rfl⟩⟩ := asInt_ok s1 g1
          · exact ⟨.int (i + j), rfl, ⟨_, rfl, addO_in r1 r2⟩, fun z => nomatch z⟩
          · exact ⟨.int (b2i bb + j), rfl, ⟨_, rfl, addO_in r1 r2⟩, fun z => nomatch z⟩
        · cases e
  | sub =>
    dsimp only at e
    split at e
    · rename_i l1 h1 l2 h2 s1
      cases e
      obtain ⟨j, rfl, r2⟩ := g2
      obtain ⟨i, r1, rfl | ⟨bb, rfl, rfl⟩⟩ := asInt_ok s1 g1
      · exact ⟨.int (i - j), rfl, ⟨_, rfl, subO_in r1 r2⟩, fun z => nomatch z⟩
      · exact ⟨.int (b2i bb - j), rfl, ⟨_, rfl, subO_in r1 r2⟩, fun z => nomatch z⟩
    · cases e
  | mul =>
    dsimp only at e
    split at e
    · simp only [Option.map_eq_some_iff] at e
      obtain ⟨y, e, e2⟩ := e
      cases e2
      obtain ⟨i, rfl, r1⟩ := g1
      obtain ⟨j, rfl, r2⟩ := g2
      obtain ⟨m1, m2⟩ := mulI_ok e r1 r2
      refine ⟨.int (i * j), ?_, m2, fun z => nomatch z⟩
      show (if smallMul i j = true then _ else _) = _
      rw [if_pos m1]
      rfl
    · split at e
      · rename_i l1 h1 e1 s1
        obtain ⟨xs, rfl, p1, p2, p3⟩ := asSeq_ok s1 g1
        obtain ⟨j, rfl, r2⟩ := g2
        split at e
        · rename_i hc
          cases e
          obtain ⟨rfl, hc⟩ := hc
          have j1 := r2.1 _ rfl
          have j2 := r2.2 _ rfl
          obtain ej := Int.le_antisymm j1 j2
          rw [ej] at hc ⊢
          have hne : xs ≠ [] := fun z => by subst z; simp at p1; omega
          refine ⟨.tup (List.replicate j.toNat xs).flatten, ?_, ⟨_, rfl, ?_, ?_, fun z hz => ?_⟩, fun z => nomatch z⟩
          · show (if xs ≠ [] ∧ 2 ≤ j ∧ j ≤ 1000 ∧ xs.length ≤ 1000 then _ else _) = _
            rw [if_pos ⟨hne, by omega, by omega, by omega⟩]
            rfl
          · rw [flat_len]; exact Nat.mul_le_mul_left _ p1
          · rw [flat_len]; exact Nat.mul_le_mul_left _ p2
          · obtain ⟨l, hl, hz⟩ := List.mem_flatten.mp hz
            rw [(List.mem_replicate.mp hl).2] at hz
            exact p3 z hz
        · cases e
      · cases e
    · cases e
  | fdiv =>
    dsimp only at e
    split at e
    · simp only [Option.map_eq_some_iff] at e
      obtain ⟨y, e, e2⟩ := e
      cases e2
      obtain ⟨i, rfl, r1⟩ := g1
      obtain ⟨j, rfl, r2⟩ := g2
      obtain ⟨m1, m2⟩ := fdivI_ok e r1 r2
      refine ⟨.int (i / j), ?_, m2, fun z => nomatch z⟩
      show (if 0 < j ∧ j < 1073741824 then _ else _) = _
      rw [if_pos m1]
      rfl
    · cases e
  | mod =>
    dsimp only at e
    split at e
    · simp only [Option.map_eq_some_iff] at e
      obtain ⟨y, e, e2⟩ := e
      cases e2
      obtain ⟨i, rfl, r1⟩ := g1
      obtain ⟨j, rfl, r2⟩ := g2
      obtain ⟨m1, m2⟩ := modI_ok (i := i) e r2
      refine ⟨.int (i % j), ?_, m2, fun z => nomatch z⟩
      show (if 0 < j then _ else _) = _
      rw [if_pos m1]
      rfl
    · cases e
  | pow =>
    dsimp only at e
    split at e
    · simp only [Option.map_eq_some_iff] at e
      obtain ⟨y, e, e2⟩ := e
      cases e2
      obtain ⟨i, rfl, r1⟩ := g1
      obtain ⟨j, rfl, r2⟩ := g2
      obtain ⟨m1, m2⟩ := powI_ok e r1 r2
      refine ⟨.int (i ^ j.toNat), ?_, m2, fun z => nomatch z⟩
      show (if 0 ≤ j ∧ j ≤ 1000000 ∧ i.natAbs < 2 ^ 64 then _ else _) = _
      rw [if_pos m1]
      rfl
    · cases e
end Py
end

section
set_option maxRecDepth 100000
set_option maxHeartbeats 4000000
set_option linter.all false
/-! Comparisons, subscripts, built-ins on shapes. -/
namespace Py
open PySem L2

/-! plain data of bounded depth -/
mutual
def At.pd : At → Option Nat
  | .seq _ _ _ e => e.pd.map (· + 1)
  | .tupx es => es.pd.map (· + 1)
  | .any _ d _ _ => some d
  | .feed => none
  | _ => some 0
def AV.pd : AV → Option Nat
  | .nil => some 0
  | .cons a v => match a.pd, v.pd with
    | some x, some y => some (max x y)
    | _, _ => none
def AVs.pd : AVs → Option Nat
  | .nil => some 0
  | .cons a v => match a.pd, v.pd with
    | some x, some y => some (max x y)
    | _, _ => none
end
theorem pys_of : ∀ {xs : List D} {n : Nat}, (∀ x ∈ xs, ∃ p, x.py = some p ∧ p.depth ≤ n) → ∃ ps, D.pys xs = some ps ∧ PyData.depthAll ps ≤ n ∧ ps.length = xs.length
  | [], n, _ => ⟨[], rfl, Nat.zero_le _, rfl⟩
  | x :: xs, n, h => by
    obtain ⟨p, h1, h2⟩ := h x (by simp)
    obtain ⟨ps, h3, h4, h5⟩ := pys_of (xs := xs) fun y hy => h y (by simp [hy])
    refine ⟨p :: ps, by simp [D.pys, h1, h3], ?_, by simp [h5]⟩
    show max p.depth (PyData.depthAll ps) ≤ n
    omega
mutual
theorem pn_py {k : Nat} : ∀ {d : D}, d.pn k = true → ∃ p, d.py = some p ∧ p.depth = d.dep
  | .non, _ => ⟨.none, rfl, rfl⟩
  | .bl b, _ => ⟨.bool b, rfl, rfl⟩
  | .int i, _ => ⟨.int i, rfl, rfl⟩
  | .str x, _ => ⟨.str x, rfl, rfl⟩
  | .tup xs, g => by
    obtain ⟨ps, h1, h2⟩ := pns_pys (k := k) (ds := xs) (by simpa [D.pn] using g)
    exact ⟨.tuple ps, by simp [D.py, h1], by show PyData.depthAll ps + 1 = D.deps xs + 1; rw [h2]⟩
  | .lst xs, g => by
    obtain ⟨ps, h1, h2⟩ := pns_pys (k := k) (ds := xs) (by simpa [D.pn] using g)
    exact ⟨.list ps, by simp [D.py, h1], by show PyData.depthAll ps + 1 = D.deps xs + 1; rw [h2]⟩
  | .obj _ _, g => by simp [D.pn] at g
  | .ptr _, g => by simp [D.pn] at g
  | .scr _, g => by simp [D.pn] at g
theorem pns_pys {k : Nat} : ∀ {ds : List D}, D.pns k ds = true → ∃ ps, D.pys ds = some ps ∧ PyData.depthAll ps = D.deps ds
  | [], _ => ⟨[], rfl, rfl⟩
  | d :: ds, g => by
    simp only [D.pns, Bool.and_eq_true] at g
    obtain ⟨p, h1, h2⟩ := pn_py g.1
    obtain ⟨ps, h3, h4⟩ := pns_pys g.2
    exact ⟨p :: ps, by simp [D.pys, h1, h3], by show max p.depth (PyData.depthAll ps) = max d.dep (D.deps ds); rw [h2, h4]⟩
end
mutual
theorem At.pd_ok : ∀ {a : At} {d : D} {n : Nat}, a.pd = some n → At.g a d → ∃ p, d.py = some p ∧ p.depth ≤ n
  | .non, d, n, e, g => by simp only [At.g] at g; subst g; exact ⟨.none, rfl, Nat.zero_le _⟩
  | .bl _ _, d, n, e, g => by obtain ⟨b, rfl, _⟩ := g; exact ⟨.bool b, rfl, Nat.zero_le _⟩
  | .int _ _, d, n, e, g => by obtain ⟨b, rfl, _⟩ := g; exact ⟨.int b, rfl, Nat.zero_le _⟩
  | .str _ _ _, d, n, e, g => by obtain ⟨b, rfl, _⟩ := g; exact ⟨.str b, rfl, Nat.zero_le _⟩
  | .seq t lo hi v, d, n, e, g => by
    simp only [At.pd, Option.map_eq_some_iff] at e
    obtain ⟨m, e, rfl⟩ := e
    obtain ⟨xs, rfl, _, _, h⟩ := g
    obtain ⟨ps, h1, h2, _⟩ := pys_of fun x hx => AV.pd_ok e (h x hx)
    cases t
    · exact ⟨.list ps, by simp [seqD, D.py, h1], by show PyData.depthAll ps + 1 ≤ _; omega⟩
    · exact ⟨.tuple ps, by simp [seqD, D.py, h1], by show PyData.depthAll ps + 1 ≤ _; omega⟩
  | .tupx vs, d, n, e, g => by
    simp only [At.pd, Option.map_eq_some_iff] at e
    obtain ⟨m, e, rfl⟩ := e
    obtain ⟨xs, rfl, h⟩ := g
    obtain ⟨ps, h1, h2, _⟩ := pys_of (AVs.pd_ok e h)
    exact ⟨.tuple ps, by simp [D.py, h1], by show PyData.depthAll ps + 1 ≤ _; omega⟩
  | .any _ dp _ _, d, n, e, g => by
    cases e
    obtain ⟨p, h1, h2⟩ := pn_py g.1
    exact ⟨p, h1, by rw [h2]; exact g.2.2.1⟩
  | .feed, d, n, e, g => by simp [At.pd] at e
theorem AV.pd_ok : ∀ {v : AV} {d : D} {n : Nat}, v.pd = some n → AV.g v d → ∃ p, d.py = some p ∧ p.depth ≤ n
  | .nil, d, n, e, g => by simp [AV.g] at g
  | .cons a v, d, n, e, g => by
    simp only [AV.pd] at e
    split at e
    · rename_i x y e1 e2
      cases e
      simp only [AV.g] at g
      rcases g with g | g
      · obtain ⟨p, h1, h2⟩ := At.pd_ok e1 g; exact ⟨p, h1, by omega⟩
      · obtain ⟨p, h1, h2⟩ := AV.pd_ok e2 g; exact ⟨p, h1, by omega⟩
    · cases e
theorem AVs.pd_ok : ∀ {v : AVs} {xs : List D} {n : Nat}, v.pd = some n → AVs.g v xs → ∀ x ∈ xs, ∃ p, x.py = some p ∧ p.depth ≤ n
  | .nil, xs, n, e, g, x, hx => by simp only [AVs.g] at g; subst g; simp at hx
  | .cons a v, xs, n, e, g, x, hx => by
    simp only [AVs.pd] at e
    split at e
    · rename_i m k e1 e2
      cases e
      simp only [AVs.g] at g
      obtain ⟨y, r, rfl, g1, g2⟩ := g
      rcases List.mem_cons.mp hx with rfl | hx
      · obtain ⟨p, h1, h2⟩ := AV.pd_ok e1 g1; exact ⟨p, h1, by omega⟩
      · obtain ⟨p, h1, h2⟩ := AVs.pd_ok e2 g2 x hx; exact ⟨p, h1, by omega⟩
    · cases e
end
theorem D.vw_py {d : D} {p : PyData} (st : Store) (h : d.py = some p) : (d.vw st).py = some p := by
  cases d with
  | lst xs => exact h
  | tup xs => exact h
  | ptr n => simp [D.py] at h
  | _ => exact h

/-! comparisons: what may be true, what false -/
def may (t f : Bool) (b : Bool) : Prop := (if b = true then t else f) = true
def ltO (a b : Option Int) : Bool := match a, b with
  | some x, some y => decide (x < y)
  | _, _ => false
def leO (a b : Option Int) : Bool := match a, b with
  | some x, some y => decide (x ≤ y)
  | _, _ => false
def eqA (a b : At) : Option (Bool × Bool) :=
  match a.pd, b.pd with
  | some m, some n => if min m n ≤ 64 then (match asSeq a, asSeq b with
    | some (t, l1, h1, _), some (t', l2, h2, _) => if t = t' then (if h1 = 0 ∧ h2 = 0 then some (true, false) else if (h1 = 0 ∧ 0 < l2) ∨ (h2 = 0 ∧ 0 < l1) then some (false, true) else some (true, true)) else some (true, true)
    | _, _ => some (true, true)) else none
  | _, _ => none
def cmpA (op : COp) (a b : At) : Option (Bool × Bool) :=
  match op with
  | .eq => eqA a b
  | .ne => (eqA a b).map fun p => (p.2, p.1)
  | .lt => match a, b with
    | .int l1 h1, .int l2 h2 => some (!(leO h2 l1), !(ltO h1 l2))
    | .str _ _ _, .str _ _ _ => some (true, true)
    | _, _ => none
  | .le => match a, b with
    | .int l1 h1, .int l2 h2 => some (!(ltO h2 l1), !(leO h1 l2))
    | .str _ _ _, .str _ _ _ => some (true, true)
    | _, _ => none
  | .gt => match a, b with
    | .int l1 h1, .int l2 h2 => some (!(leO h1 l2), !(ltO h2 l1))
    | .str _ _ _, .str _ _ _ => some (true, true)
    | _, _ => none
  | .ge => match a, b with
    | .int l1 h1, .int l2 h2 => some (!(ltO h1 l2), !(leO h2 l1))
    | _, _ => none
  | .isN => match b with
    | .non => (match a with | .non => some (true, false) | .feed => none | .any _ _ _ _ => none | _ => some (false, true))
    | _ => none
  | .notN => match b with
    | .non => (match a with | .non => some (false, true) | .feed => none | .any _ _ _ _ => none | _ => some (true, false))
    | _ => none
  | .isIn => match a, b with
    | .str _ _ _, .str _ _ _ => some (true, true)
    | a, .seq _ _ _ e => (match a.pd, e.pd with | some m, some n => if min n m ≤ 60 then some (true, true) else none | _, _ => none)
    | _, _ => none
  | .notIn => match a, b with
    | .str _ _ _, .str _ _ _ => some (true, true)
    | a, .seq _ _ _ e => (match a.pd, e.pd with | some m, some n => if min n m ≤ 60 then some (true, true) else none | _, _ => none)
    | _, _ => none
theorem may_tt (b : Bool) : may true true b := by cases b <;> rfl
theorem may_not {t f b : Bool} (h : may t f b) : may f t (!b) := by cases b <;> exact h
theorem seq_py {t : Bool} {xs : List D} {p : PyData} (h : (seqD t xs).py = some p) : ∃ ps, D.pys xs = some ps ∧ p = (if t = true then .tuple ps else .list ps) := by
  cases t
  · simp only [seqD, D.py, Bool.false_eq_true, if_false, Option.map_eq_some_iff] at h
    obtain ⟨ps, h, rfl⟩ := h
    exact ⟨ps, h, by simp⟩
  · simp only [seqD, D.py, if_true, Option.map_eq_some_iff] at h
    obtain ⟨ps, h, rfl⟩ := h
    exact ⟨ps, h, by simp⟩
theorem pys_len : ∀ {xs : List D} {ps : List PyData}, D.pys xs = some ps → ps.length = xs.length
  | [], ps, h => by simp [D.pys] at h; subst h; rfl
  | x :: xs, ps, h => by
    simp only [D.pys] at h
    split at h
    · rename_i a b e1 e2
      cases h
      simp [pys_len e2]
    · cases h
theorem eqA_ok {a b : At} {t f : Bool} {d1 d2 : D} {st : Store} (e : eqA a b = some (t, f)) (g1 : At.g a d1) (g2 : At.g b d2) : ∃ r, eqv2 (d1.vw st) (d2.vw st) = some r ∧ may t f r := by
  unfold eqA at e
  split at e
  · rename_i m n e1 e2
    obtain ⟨p, p1, p2⟩ := At.pd_ok e1 g1
    obtain ⟨q, q1, q2⟩ := At.pd_ok e2 g2
    split at e
    · rename_i hmin
      refine ⟨PyData.eqv p q, ?_, ?_⟩
      · unfold eqv2
        rw [D.vw_py st p1, D.vw_py st q1]
        show (if min p.depth q.depth ≤ 64 then _ else _) = _
        rw [if_pos (by omega)]
      · split at e
        · rename_i t1 l1 h1 v1 t2 l2 h2 v2 s1 s2
          split at e
          · rename_i ht
            subst ht
            obtain ⟨xs, rfl, x1, x2, _⟩ := asSeq_ok s1 g1
            obtain ⟨ys, rfl, y1, y2, _⟩ := asSeq_ok s2 g2
            obtain ⟨ps, hp, rfl⟩ := seq_py p1
            obtain ⟨qs, hq, rfl⟩ := seq_py q1
            have lp := pys_len hp
            have lq := pys_len hq
            have ee : PyData.eqv (if t1 = true then .tuple ps else .list ps) (if t1 = true then .tuple qs else .list qs) = PyData.eqvAll ps qs := by cases t1 <;> simp [PyData.eqv]
            rw [ee]
            split at e
            · rename_i hz
              cases e
              have : ps = [] := List.eq_nil_of_length_eq_zero (by omega)
              subst this
              have : qs = [] := List.eq_nil_of_length_eq_zero (by omega)
              subst this
              rfl
            · split at e
              · rename_i hz
                cases e
                have hf : PyData.eqvAll ps qs = false := by
                  rcases hz with hz | hz
                  · have : ps = [] := List.eq_nil_of_length_eq_zero (by omega)
                    subst this
                    cases qs with
                    | nil => simp at lq; omega
                    | cons _ _ => simp [PyData.eqvAll]
                  · have : qs = [] := List.eq_nil_of_length_eq_zero (by omega)
                    subst this
                    cases ps with
                    | nil => simp at lp; omega
                    | cons _ _ => simp [PyData.eqvAll]
                rw [hf]
                rfl
              · cases e; exact may_tt _
          · cases e; exact may_tt _
        · cases e; exact may_tt _
    · cases e
  · cases e
theorem int_vw (i : Int) (st : Store) : (D.int i).vw st = .at (.int i) := rfl
theorem inA_ok {a e : At} {v : AV} {t : Bool} {lo hi m n : Nat} {d1 d2 : D} {st : Store} (g1 : At.g a d1) (g2 : At.g (.seq t lo hi v) d2) (e1 : a.pd = some m) (e2 : v.pd = some n) (h : min n m ≤ 60) : ∃ r, isInV (d1.vw st) (d2.vw st) = some r := by
  obtain ⟨p, p1, p2⟩ := At.pd_ok e1 g1
  obtain ⟨xs, rfl, _, _, hx⟩ := g2
  obtain ⟨ps, h1, h2, _⟩ := pys_of fun x hx' => AV.pd_ok e2 (hx x hx')
  refine ⟨ps.any fun z => PyData.eqv z p, ?_⟩
  rw [seqD_vw]
  unfold isInV
  rw [D.vw_py st p1]
  dsimp only
  rw [h1]
  show (if min (PyData.depthAll ps) p.depth ≤ 60 then _ else _) = _
  rw [if_pos (by omega)]
theorem cmpA_ok {op : COp} {a b : At} {t f : Bool} {d1 d2 : D} {st : Store} (e : cmpA op a b = some (t, f)) (g1 : At.g a d1) (g2 : At.g b d2) : ∃ r, opCmp op (d1.vw st) (d2.vw st) = some r ∧ may t f r := by
  have ord : ∀ {x y : Option Int} {i j : Int}, (∀ l, x = some l → l ≤ i) → (∀ h, y = some h → j ≤ h) → leO y x = true → j ≤ i := by
    intro x y i j h1 h2 h
    unfold leO at h
    split at h
    · simp at h; have := h1 _ rfl; have := h2 _ rfl; omega
    · cases h
  have ord2 : ∀ {x y : Option Int} {i j : Int}, (∀ l, x = some l → l ≤ i) → (∀ h, y = some h → j ≤ h) → ltO y x = true → j < i := by
    intro x y i j h1 h2 h
    unfold ltO at h
    split at h
    · simp at h; have := h1 _ rfl; have := h2 _ rfl; omega
    · cases h
  have fin : ∀ {A B : Bool} {P : Prop} [Decidable P], (A = true → ¬ P) → (B = true → P) → may (!A) (!B) (decide P) := by
    intro A B P _ h1 h2
    by_cases hP : P
    · cases A
      · simp [may, hP]
      · exact absurd hP (h1 rfl)
    · cases B
      · simp [may, hP]
      · exact absurd (h2 rfl) hP
  unfold cmpA at e
  cases op with
  | eq => exact eqA_ok e g1 g2
  | ne =>
    simp only [Option.map_eq_some_iff] at e
    obtain ⟨⟨u, w⟩, e, e2⟩ := e
    cases e2
    obtain ⟨r, h1, h2⟩ := eqA_ok (st := st) e g1 g2
    exact ⟨!r, by simp [opCmp, h1], may_not h2⟩
  | lt =>
    dsimp only at e
    split at e
    · cases e
      obtain ⟨i, rfl, r1⟩ := g1
      obtain ⟨j, rfl, r2⟩ := g2
      exact ⟨_, rfl, fin (fun z => by have := ord r1.1 r2.2 z; omega) fun z => ord2 r2.1 r1.2 z⟩
    · cases e
      obtain ⟨i, rfl, _⟩ := g1
      obtain ⟨j, rfl, _⟩ := g2
      exact ⟨_, rfl, may_tt _⟩
    · cases e
  | le =>
    dsimp only at e
    split at e
    · cases e
      obtain ⟨i, rfl, r1⟩ := g1
      obtain ⟨j, rfl, r2⟩ := g2
      exact ⟨_, rfl, fin (fun z => by have := ord2 r1.1 r2.2 z; omega) fun z => ord r2.1 r1.2 z⟩
    · cases e
      obtain ⟨i, rfl, _⟩ := g1
      obtain ⟨j, rfl, _⟩ := g2
      exact ⟨_, rfl, may_tt _⟩
    · cases e
  | gt =>
    dsimp only at e
    split at e
    · cases e
      obtain ⟨i, rfl, r1⟩ := g1
      obtain ⟨j, rfl, r2⟩ := g2
      exact ⟨_, rfl, fin (fun z => by have := ord r2.1 r1.2 z; omega) fun z => ord2 r1.1 r2.2 z⟩
    · cases e
      obtain ⟨i, rfl, _⟩ := g1
      obtain ⟨j, rfl, _⟩ := g2
      exact ⟨_, rfl, may_tt _⟩
    · cases e
  | ge =>
    dsimp only at e
    split at e
    · cases e
      obtain ⟨i, rfl, r1⟩ := g1
      obtain ⟨j, rfl, r2⟩ := g2
      exact ⟨_, rfl, fin (fun z => by have := ord2 r2.1 r1.2 z; omega) fun z => ord r1.1 r2.2 z⟩
    · cases e
  | isN =>
    dsimp only at e
    split at e
    · simp only [At.g] at g2
      subst g2
      refine ⟨(d1.vw st).isN, rfl, ?_⟩
      split at e
      · cases e; simp only [At.g] at g1; subst g1; rfl
      · cases e
      · cases e
      · cases e
        cases a with
        | non => simp_all
        | feed => simp_all
        | any _ _ _ _ => rename_i q; exact (q _ _ _ _ rfl).elim
        | bl _ _ => obtain ⟨_, rfl, _⟩ := g1; rfl
        | int _ _ => obtain ⟨_, rfl, _⟩ := g1; rfl
        | str _ _ _ => obtain ⟨_, rfl, _⟩ := g1; rfl
        | seq tt _ _ _ => obtain ⟨_, rfl, _⟩ := g1; rw [seqD_vw]; rfl
        | tupx _ => obtain ⟨_, rfl, _⟩ := g1; rfl
    · cases e
  | notN =>
    dsimp only at e
    split at e
    · simp only [At.g] at g2
      subst g2
      refine ⟨!(d1.vw st).isN, rfl, ?_⟩
      split at e
      · cases e; simp only [At.g] at g1; subst g1; rfl
      · cases e
      · cases e
      · cases e
        cases a with
        | non => simp_all
        | feed => simp_all
        | any _ _ _ _ => rename_i q; exact (q _ _ _ _ rfl).elim
        | bl _ _ => obtain ⟨_, rfl, _⟩ := g1; rfl
        | int _ _ => obtain ⟨_, rfl, _⟩ := g1; rfl
        | str _ _ _ => obtain ⟨_, rfl, _⟩ := g1; rfl
        | seq tt _ _ _ => obtain ⟨_, rfl, _⟩ := g1; rw [seqD_vw]; rfl
        | tupx _ => obtain ⟨_, rfl, _⟩ := g1; rfl
    · cases e
  | isIn =>
    dsimp only at e
    split at e
    · cases e
      obtain ⟨i, rfl, _⟩ := g1
      obtain ⟨j, rfl, _⟩ := g2
      exact ⟨_, rfl, may_tt _⟩
    · split at e
      · split at e
        · rename_i e1 e2 hm
          cases e
          obtain ⟨r, h⟩ := inA_ok (e := a) (st := st) g1 g2 e1 e2 hm
          exact ⟨r, h, may_tt _⟩
        · cases e
      · cases e
    · cases e
  | notIn =>
    dsimp only at e
    split at e
    · cases e
      obtain ⟨i, rfl, _⟩ := g1
      obtain ⟨j, rfl, _⟩ := g2
      exact ⟨_, rfl, may_tt _⟩
    · split at e
      · split at e
        · rename_i e1 e2 hm
          cases e
          obtain ⟨r, h⟩ := inA_ok (e := a) (st := st) g1 g2 e1 e2 hm
          exact ⟨!r, by show (isInV _ _).map _ = _; rw [h]; rfl, may_tt _⟩
        · cases e
      · cases e
    · cases e
end Py
end

section
set_option maxRecDepth 100000
set_option maxHeartbeats 4000000
set_option linter.all false
/-! Shapes of which any two things can be put in order. -/
namespace Py
open PySem L2

mutual
def At.ak : At → Bool
  | .int _ _ => true
  | .str _ _ _ => true
  | .seq _ _ _ e => e.ak
  | .tupx es => es.ak
  | _ => false
def AV.ak : AV → Bool
  | .cons a .nil => a.ak
  | _ => false
def AVs.ak : AVs → Bool
  | .nil => true
  | .cons v vs => v.ak && vs.ak
end
/-- fit for sorted -/
def AV.srt (v : AV) : Bool := v.ak && (match v with | .cons (.int _ _) .nil => true | .cons (.str _ _ _) .nil => true | .cons (.tupx (.cons _ _)) .nil => true | _ => false)
theorem alikeAll_of : ∀ {ps qs : List PyData}, (∀ p ∈ ps, ∀ q ∈ qs, PySem.W.alike p q = true) → PySem.W.alikeAll ps qs = true
  | [], _, _ => by unfold PySem.W.alikeAll; rfl
  | _ :: _, [], _ => by unfold PySem.W.alikeAll; rfl
  | p :: ps, q :: qs, h => by
    unfold PySem.W.alikeAll
    rw [h p (by simp) q (by simp), alikeAll_of fun p hp q hq => h p (by simp [hp]) q (by simp [hq])]
    rfl
theorem py_seqD {t : Bool} {xs : List D} {p : PyData} (h : (seqD t xs).py = some p) : ∃ ps, D.pys xs = some ps ∧ p = (if t = true then .tuple ps else .list ps) := by
  cases t <;> simp only [seqD, D.py, Bool.false_eq_true, if_false, if_true, Option.map_eq_some_iff] at h
  · obtain ⟨ps, h1, rfl⟩ := h; exact ⟨ps, h1, rfl⟩
  · obtain ⟨ps, h1, rfl⟩ := h; exact ⟨ps, h1, rfl⟩
theorem pys_in {xs : List D} {ps : List PyData} (h : D.pys xs = some ps) : ∀ p ∈ ps, ∃ x ∈ xs, x.py = some p := by
  obtain ⟨e1, e2⟩ := enc_pys h
  intro p hp
  rw [← e1] at hp
  obtain ⟨x, hx, rfl⟩ := List.mem_map.mp hp
  exact ⟨x, hx, e2 x hx⟩
mutual
theorem At.ak_ok : ∀ {a : At} {d d' : D} {p p' : PyData}, a.ak = true → At.g a d → At.g a d' → d.py = some p → d'.py = some p' → PySem.W.alike p p' = true
  | .int _ _, _, _, _, _, _, g, g', h, h' => by
    obtain ⟨i, rfl, _⟩ := g
    obtain ⟨j, rfl, _⟩ := g'
    cases h; cases h'
    simp [PySem.W.alike]
  | .str _ _ _, _, _, _, _, _, g, g', h, h' => by
    obtain ⟨i, rfl, _⟩ := g
    obtain ⟨j, rfl, _⟩ := g'
    cases h; cases h'
    simp [PySem.W.alike]
  | .seq t _ _ e, _, _, p, p', k, g, g', h, h' => by
    obtain ⟨xs, rfl, _, _, g⟩ := g
    obtain ⟨ys, rfl, _, _, g'⟩ := g'
    obtain ⟨ps, h1, e1⟩ := py_seqD h
    obtain ⟨qs, h2, e2⟩ := py_seqD h'
    have al : PySem.W.alikeAll ps qs = true := alikeAll_of fun p hp q hq => by
      obtain ⟨x, hx, a1⟩ := pys_in h1 p hp
      obtain ⟨y, hy, a2⟩ := pys_in h2 q hq
      exact AV.ak_ok (by simpa [At.ak] using k) (g x hx) (g' y hy) a1 a2
    subst e1 e2
    cases t <;> simp [PySem.W.alike, al]
  | .tupx es, _, _, p, p', k, g, g', h, h' => by
    obtain ⟨xs, rfl, g⟩ := g
    obtain ⟨ys, rfl, g'⟩ := g'
    simp only [D.py, Option.map_eq_some_iff] at h h'
    obtain ⟨ps, h1, rfl⟩ := h
    obtain ⟨qs, h2, rfl⟩ := h'
    simpa [PySem.W.alike] using AVs.ak_ok (by simpa [At.ak] using k) g g' h1 h2
  | .non, _, _, _, _, k, _, _, _, _ => by simp [At.ak] at k
  | .bl _ _, _, _, _, _, k, _, _, _, _ => by simp [At.ak] at k
  | .feed, _, _, _, _, k, _, _, _, _ => by simp [At.ak] at k
theorem AV.ak_ok : ∀ {v : AV} {d d' : D} {p p' : PyData}, v.ak = true → AV.g v d → AV.g v d' → d.py = some p → d'.py = some p' → PySem.W.alike p p' = true
  | .cons a .nil, _, _, _, _, k, g, g', h, h' => by
    simp only [AV.g, or_false] at g g'
    exact At.ak_ok (by simpa [AV.ak] using k) g g' h h'
  | .nil, _, _, _, _, k, _, _, _, _ => by simp [AV.ak] at k
  | .cons _ (.cons _ _), _, _, _, _, k, _, _, _, _ => by simp [AV.ak] at k
theorem AVs.ak_ok : ∀ {v : AVs} {xs ys : List D} {p p' : List PyData}, v.ak = true → AVs.g v xs → AVs.g v ys → D.pys xs = some p → D.pys ys = some p' → PySem.W.alikeAll p p' = true
  | .nil, _, _, _, _, _, g, g', h, h' => by
    simp only [AVs.g] at g g'
    subst g; subst g'
    cases h; cases h'
    unfold PySem.W.alikeAll; rfl
  | .cons v vs, _, _, _, _, k, g, g', h, h' => by
    obtain ⟨x, r, rfl, g1, g2⟩ := g
    obtain ⟨y, r', rfl, g1', g2'⟩ := g'
    simp only [AVs.ak, Bool.and_eq_true] at k
    simp only [D.pys] at h h'
    cases e : x.py with
    | none => rw [e] at h; cases h
    | some p =>
      cases e2 : D.pys r with
      | none => rw [e, e2] at h; cases h
      | some ps =>
        rw [e, e2] at h
        cases h
        cases f : y.py with
        | none => rw [f] at h'; cases h'
        | some q =>
          cases f2 : D.pys r' with
          | none => rw [f, f2] at h'; cases h'
          | some qs =>
            rw [f, f2] at h'
            cases h'
            unfold PySem.W.alikeAll
            rw [AV.ak_ok k.1 g1 g1' e f, AVs.ak_ok k.2 g2 g2' e2 f2]
            rfl
end
theorem pys_all {xs : List D} {k : Nat} (h : ∀ x ∈ xs, ∃ p, x.py = some p ∧ p.depth ≤ k) : ∃ ps, D.pys xs = some ps ∧ PyData.depthAll ps ≤ k := by
  induction xs with
  | nil => exact ⟨[], rfl, Nat.zero_le _⟩
  | cons x xs ih =>
    obtain ⟨p, h1, h2⟩ := h x (by simp)
    obtain ⟨ps, h3, h4⟩ := ih fun y hy => h y (by simp [hy])
    refine ⟨p :: ps, by simp [D.pys, h1, h3], ?_⟩
    show max p.depth (PyData.depthAll ps) ≤ k
    omega
theorem srt_ok {v : AV} {k : Nat} {xs : List D} (h : v.srt = true) (hk : v.pd = some k) (h60 : k ≤ 60) (g : ∀ x ∈ xs, AV.g v x) : sortOk xs = true := by
  obtain ⟨ps, h1, h2⟩ := pys_all (k := k) fun x hx => AV.pd_ok hk (g x hx)
  unfold AV.srt at h
  rw [Bool.and_eq_true] at h
  unfold sortOk
  rw [h1]
  simp only [Bool.and_eq_true, decide_eq_true_eq]
  refine ⟨⟨?_, ?_⟩, by omega⟩
  · unfold alikeL
    rw [List.all_eq_true]
    intro p hp
    rw [List.all_eq_true]
    intro q hq
    obtain ⟨x, hx, a1⟩ := pys_in h1 p hp
    obtain ⟨y, hy, a2⟩ := pys_in h1 q hq
    exact AV.ak_ok h.1 (g x hx) (g y hy) a1 a2
  · unfold sortableL
    rw [Bool.or_eq_true, List.all_eq_true, List.all_eq_true]
    have h2 := h.2
    split at h2
    · right
      intro p hp
      obtain ⟨x, hx, a1⟩ := pys_in h1 p hp
      have := g x hx
      simp only [AV.g, or_false] at this
      obtain ⟨i, rfl, _⟩ := this
      cases a1
      rfl
    · right
      intro p hp
      obtain ⟨x, hx, a1⟩ := pys_in h1 p hp
      have := g x hx
      simp only [AV.g, or_false] at this
      obtain ⟨i, rfl, _⟩ := this
      cases a1
      rfl
    · left
      intro p hp
      obtain ⟨x, hx, a1⟩ := pys_in h1 p hp
      have := g x hx
      simp only [AV.g, or_false] at this
      obtain ⟨ys, rfl, y, r, rfl, _⟩ := this
      simp only [D.py, Option.map_eq_some_iff] at a1
      obtain ⟨qs, b1, rfl⟩ := a1
      cases qs with
      | nil => simp only [D.pys] at b1; split at b1 <;> cases b1
      | cons _ _ => rfl
    · cases h2
end Py
end

section
set_option maxRecDepth 100000
set_option maxHeartbeats 4000000
set_option linter.all false
/-! Subscripts, slices, built-ins on shapes. -/
namespace Py
open PySem L2

def AVs.at' : AVs → Nat → Option AV
  | .nil, _ => none
  | .cons v _, 0 => some v
  | .cons _ vs, n + 1 => vs.at' n
theorem AVs.at_ok : ∀ {vs : AVs} {xs : List D} {n : Nat} {v : AV}, AVs.g vs xs → vs.at' n = some v → ∃ x, xs[n]? = some x ∧ AV.g v x
  | .nil, _, _, _, _, e => by simp [AVs.at'] at e
  | .cons w vs, xs, 0, v, g, e => by
    simp only [AVs.at', Option.some.injEq] at e
    subst e
    obtain ⟨x, r, rfl, h, _⟩ := g
    exact ⟨x, rfl, h⟩
  | .cons w vs, xs, n + 1, v, g, e => by
    obtain ⟨x, r, rfl, _, h⟩ := g
    obtain ⟨y, h1, h2⟩ := AVs.at_ok (n := n) h e
    exact ⟨y, by simpa using h1, h2⟩
/-- a place within a sequence of at least n -/
def inB (n : Nat) (lo hi : Option Int) : Bool := match lo, hi with
  | some l, some h => decide (-(n : Int) ≤ l) && decide (h < n)
  | _, _ => false
theorem inB_ok {α : Type} {n : Nat} {lo hi : Option Int} {i : Int} {xs : List α} (e : inB n lo hi = true) (r : inR lo hi i) (hn : n ≤ xs.length) : ∃ x, atI xs i = some x ∧ x ∈ xs := by
  unfold inB at e
  split at e
  · simp only [Bool.and_eq_true, decide_eq_true_eq] at e
    have h1 := r.1 _ rfl
    have h2 := r.2 _ rfl
    unfold atI ixN
    by_cases h0 : 0 ≤ i
    · have hlt : i.toNat < xs.length := by omega
      rw [if_pos h0, if_pos (by omega)]
      exact ⟨xs[i.toNat], by simp [hlt], List.getElem_mem _⟩
    · have hlt : (i + xs.length).toNat < xs.length := by omega
      rw [if_neg h0, if_pos (by omega)]
      exact ⟨xs[(i + xs.length).toNat], by simp [hlt], List.getElem_mem _⟩
  · cases e
def ixA (a b : At) : Option AV :=
  match b with
  | .int lo hi => match a with
    | .tupx es => (match lo, hi with
      | some l, some h => if l = h ∧ 0 ≤ l then es.at' l.toNat else if inB es.len lo hi = true then some (allVs es) else none
      | _, _ => none)
    | .seq _ n _ e => if inB n lo hi = true then some e else none
    | .str n m p => if inB n lo hi = true ∧ m ≤ sizeLine then some (one (.str 1 1 p)) else none
    | _ => none
  | _ => none
theorem ixA_ok {a b : At} {v : AV} {d1 d2 : D} {st : Store} (e : ixA a b = some v) (g1 : At.g a d1) (g2 : At.g b d2) : ∃ d, opIx (d1.vw st) (d2.vw st) = some d ∧ AV.g v d := by
  unfold ixA at e
  split at e
  · obtain ⟨i, rfl, r⟩ := g2
    split at e
    · rename_i es
      obtain ⟨xs, rfl, h⟩ := g1
      split at e
      · rename_i l h'
        split at e
        · rename_i hl
          obtain ⟨rfl, h0⟩ := hl
          have h1 := r.1 _ rfl
          have h2 := r.2 _ rfl
          obtain rfl : i = l := by omega
          obtain ⟨x, hx, gx⟩ := AVs.at_ok h e
          refine ⟨x, ?_, gx⟩
          show atI xs i = some x
          have hlt := (List.getElem?_eq_some_iff.mp hx).1
          unfold atI ixN
          rw [if_pos h0, if_pos (by omega)]
          exact hx
        · split at e
          · rename_i hb
            cases e
            obtain ⟨x, h1, h2⟩ := inB_ok (xs := xs) hb r (by rw [AVs.g_len h]; exact Nat.le_refl _)
            exact ⟨x, h1, allVs_ok h x h2⟩
          · cases e
      · cases e
    · rename_i t n m v'
      obtain ⟨xs, rfl, h1, h2, h3⟩ := g1
      split at e
      · rename_i hb
        cases e
        obtain ⟨x, h4, h5⟩ := inB_ok hb r h1
        exact ⟨x, by rw [seqD_vw]; exact h4, h3 x h5⟩
      · cases e
    · rename_i n m p
      obtain ⟨z, rfl, h1, h2, h3⟩ := g1
      split at e
      · rename_i hb
        cases e
        obtain ⟨x, h4, h5⟩ := inB_ok (xs := z.cps.toList) hb.1 r (by rw [Array.length_toList]; exact h1)
        refine ⟨.str ⟨#[x]⟩, ?_, .inl ⟨_, rfl, Nat.le_refl _, Nat.le_refl _, fun q => ?_⟩⟩
        · show (if z.length ≤ sizeLine then _ else _) = _
          rw [if_pos (by omega), h4]
          rfl
        · have := h3 q
          unfold prS at this ⊢
          rw [List.all_eq_true] at this
          simpa using this x h5
      · cases e
    · cases e
  · cases e

/-! slices -/
/-- a bound from above on the length of [..:hi] -/
def cutN (n : Nat) (hi : Option (Option Int × Option Int)) : Nat := match hi with
  | some (some l, some h) => if 0 ≤ l ∧ h ≤ n then h.toNat else n
  | _ => n
def slA (a : At) (hi : Option (Option Int × Option Int)) : Option (Bool × At) :=
  match a with
  | .str _ m p => if m ≤ sizeLine then some (false, .str 0 (cutN m hi) p) else none
  | a => match asSeq a with
    | some (t, _, m, e) => some (!t, .seq t 0 (cutN m hi) e)
    | none => none
/-- a slice's bound -/
def inP (p : Option (Option Int × Option Int)) (o : Option Int) : Prop := match p, o with
  | none, none => True
  | some (l, h), some i => inR l h i
  | _, _ => False
theorem cut_len {n : Nat} {hi : Option (Option Int × Option Int)} {lo o : Option Int} {m : Nat} (h : inP hi o) (hm : m ≤ n) : HT.sIx m m o - HT.sIx m 0 lo ≤ cutN n hi := by
  have h0 : HT.sIx m m o ≤ m := HT.sIx_le _ _ (Nat.le_refl _) o
  unfold cutN
  split
  · rename_i l h'
    split
    · rename_i hc
      cases o with
      | none => exact h.elim
      | some i =>
        have h1 := h.1 _ rfl
        have h2 := h.2 _ rfl
        have : HT.sIx m m (some i) ≤ i.toNat := by
          show (if i < 0 then _ else min i.toNat m) ≤ _
          rw [if_neg (by omega)]
          exact Nat.min_le_left _ _
        omega
    · omega
  · omega
theorem slA_ok {a x : At} {o : Bool} {hi : Option (Option Int × Option Int)} {l u : Option Int} {d1 : D} {st : Store} (e : slA a hi = some (o, x)) (g1 : At.g a d1) (h : inP hi u) : ∃ d, opSl (d1.vw st) l u = some (resOf o d) ∧ At.g x d ∧ (o = true → ∃ xs, d = .lst xs) := by
  unfold slA at e
  split at e
  · obtain ⟨z, rfl, h1, h2, h3⟩ := g1
    split at e
    · rename_i hm
      cases e
      refine ⟨.str (cutS z l u), ?_, ⟨_, rfl, Nat.zero_le _, ?_, fun q => ?_⟩, fun q => nomatch q⟩
      · show (if z.length ≤ sizeLine then _ else _) = _
        rw [if_pos (by omega)]
        rfl
      · refine Nat.le_trans ?_ (cut_len (lo := l) h h2)
        show (List.toArray _).size ≤ _
        rw [List.size_toArray, List.length_take]
        exact Nat.min_le_left _ _
      · have := h3 q
        unfold prS at this ⊢
        rw [List.all_eq_true] at this ⊢
        intro c hc
        refine this c ?_
        have hc : c ∈ (z.cps.toList.drop (HT.sIx z.length 0 l)).take (HT.sIx z.length z.length u - HT.sIx z.length 0 l) := by simpa [cutS] using hc
        exact List.mem_of_mem_drop (List.mem_of_mem_take hc)
    · cases e
  · split at e
    · rename_i t n m v s1
      cases e
      obtain ⟨xs, rfl, h1, h2, h3⟩ := asSeq_ok s1 g1
      refine ⟨seqD t (cutD xs l u), ?_, ⟨_, rfl, Nat.zero_le _, ?_, fun z hz => ?_⟩, fun q => ?_⟩
      · rw [seqD_vw]
        cases t <;> rfl
      · refine Nat.le_trans ?_ (cut_len (lo := l) h h2)
        unfold cutD
        rw [List.length_take]
        exact Nat.min_le_left _ _
      · exact h3 z (List.mem_of_mem_drop (List.mem_of_mem_take hz))
      · cases t
        · exact ⟨_, rfl⟩
        · cases q
    · cases e
def revA (a : At) : Option (Bool × At) := match asSeq a with
  | some (t, n, m, e) => some (!t, .seq t n m e)
  | none => none
theorem revA_ok {a x : At} {o : Bool} {d1 : D} {st : Store} (e : revA a = some (o, x)) (g1 : At.g a d1) : ∃ d, opRev (d1.vw st) = some (resOf o d) ∧ At.g x d ∧ (o = true → ∃ xs, d = .lst xs) := by
  unfold revA at e
  split at e
  · rename_i t n m v s1
    cases e
    obtain ⟨xs, rfl, h1, h2, h3⟩ := asSeq_ok s1 g1
    refine ⟨seqD t xs.reverse, ?_, ⟨_, rfl, by simpa using h1, by simpa using h2, fun z hz => h3 z (by simpa using hz)⟩, fun q => ?_⟩
    · rw [seqD_vw]
      cases t <;> rfl
    · cases t
      · exact ⟨_, rfl⟩
      · cases q
  · cases e

/-! truth -/
def truA : At → Option (Bool × Bool)
  | .non => some (false, true)
  | .bl t f => some (t, f)
  | .int _ _ => some (true, true)
  | .str _ m _ => if m ≤ sizeLine then some (true, true) else none
  | .seq _ n m _ => some (decide (0 < m), decide (n = 0))
  | .tupx es => some (decide (0 < es.len), decide (es.len = 0))
  | .any _ _ _ _ => none
  | .feed => none
theorem truA_ok {a : At} {t f : Bool} {d : D} {st : Store} (e : truA a = some (t, f)) (g : At.g a d) : ∃ r, truth (d.vw st) = some r ∧ may t f r := by
  have sq : ∀ {xs : List D} {n m : Nat}, n ≤ xs.length → xs.length ≤ m → may (decide (0 < m)) (decide (n = 0)) (!xs.isEmpty) := by
    intro xs n m h1 h2
    cases xs with
    | nil => simp at h1; simp [may, h1]
    | cons x xs => simp at h2; simp [may]; omega
  cases a with
  | non => cases e; simp only [At.g] at g; subst g; exact ⟨_, rfl, rfl⟩
  | bl t f => cases e; obtain ⟨b, rfl, h⟩ := g; exact ⟨b, rfl, h⟩
  | int l h => cases e; obtain ⟨b, rfl, h⟩ := g; exact ⟨_, rfl, may_tt _⟩
  | str n m p =>
    simp only [truA] at e
    split at e
    · cases e
      obtain ⟨x, rfl, h1, h2, _⟩ := g
      refine ⟨x.length != 0, ?_, may_tt _⟩
      show (if x.length ≤ sizeLine then _ else _) = _
      rw [if_pos (by omega)]
    · cases e
  | seq tt n m v =>
    cases e
    obtain ⟨xs, rfl, h1, h2, _⟩ := g
    refine ⟨!xs.isEmpty, by rw [seqD_vw]; rfl, sq h1 h2⟩
  | tupx es =>
    cases e
    obtain ⟨xs, rfl, h⟩ := g
    have := AVs.g_len h
    exact ⟨!xs.isEmpty, rfl, sq (by omega) (by omega)⟩
  | any _ _ _ _ => cases e
  | feed => cases e

/-! types -/
def tyA : At → Option String
  | .non => some "NoneType"
  | .bl _ _ => some "bool"
  | .int _ _ => some "int"
  | .str _ _ _ => some "str"
  | .seq true _ _ _ => some "tuple"
  | .seq false _ _ _ => some "list"
  | .tupx _ => some "tuple"
  | .any _ _ _ _ => none
  | .feed => none
def isiA (a : At) (t : String) : Option Bool := (tyA a).bind fun n => kitB n t
theorem isiA_ok {a : At} {t : String} {b : Bool} {d : D} {st : Store} (e : isiA a t = some b) (g : At.g a d) : opIsi (d.vw st) t = some b := by
  unfold isiA at e
  cases a with
  | non => simp only [At.g] at g; subst g; exact e
  | bl _ _ => obtain ⟨_, rfl, _⟩ := g; exact e
  | int _ _ => obtain ⟨_, rfl, _⟩ := g; exact e
  | str _ _ _ => obtain ⟨_, rfl, _⟩ := g; exact e
  | seq tt _ _ _ => obtain ⟨_, rfl, _⟩ := g; rw [seqD_vw]; cases tt <;> exact e
  | tupx _ => obtain ⟨_, rfl, _⟩ := g; exact e
  | any _ _ _ _ => cases e
  | feed => cases e

/-! built-in functions of one thing -/
def digL : List Nat := [2, 4, 7, 10, 12, 20, 30, 62, 100, 200, 500]
def dig (lo hi : Option Int) : Option Nat := match lo, hi with
  | some l, some h => (digL.find? fun k => decide (-((10 : Int) ^ k) < l) && decide (h < (10 : Int) ^ k)).map (· + 1)
  | _, _ => none
def bi1A (f : BI) (a : At) : Option (Bool × At) :=
  match f with
  | .len => match a with
    | .str n m _ => if m ≤ sizeLine then some (false, .int (some n) (some m)) else none
    | a => match asSeq a with
      | some (_, n, m, _) => some (false, .int (some n) (some m))
      | none => none
  | .list => match asSeq a with
    | some (_, n, m, e) => some (true, .seq false n m e)
    | none => none
  | .tuple => match asSeq a with
    | some (_, n, m, e) => some (false, .seq true n m e)
    | none => none
  | .sorted => match asSeq a with
    | some (_, n, m, e) => if e.srt = true ∧ (match e.pd with | some k => decide (k ≤ 60) | none => false) = true then some (true, .seq false n m e) else none
    | none => none
  | .str => match a with
    | .int lo hi => (dig lo hi).map fun k => (false, .str 0 k true)
    | .bl _ _ => some (false, .str 4 5 true)
    | _ => none
  | _ => none
theorem log_of {i : Int} {k : Nat} (h : i.natAbs < 10 ^ k) (hk : k ≤ 500) : i.natAbs.log2 < 1920 := by
  by_cases h0 : i.natAbs = 0
  · rw [h0]; decide
  · rw [Nat.log2_lt h0]
    refine Nat.lt_of_lt_of_le h (Nat.le_trans (Nat.pow_le_pow_right (by decide) hk) ?_)
    decide +kernel
theorem dig_ok {lo hi : Option Int} {k : Nat} {i : Int} (e : dig lo hi = some k) (r : inR lo hi i) : i.natAbs.log2 < 1920 ∧ (Str.ofString (toString i)).length ≤ k := by
  have go : ∀ n : Nat, 0 < n → n ≤ 500 → i.natAbs < 10 ^ n → i.natAbs.log2 < 1920 ∧ (Str.ofString (toString i)).length ≤ n + 1 := by
    intro n h0 h1 h2
    refine ⟨log_of h2 h1, ?_⟩
    rw [ofString_length]
    exact int_text_length_le10 h0 h2
  unfold dig at e
  split at e
  · rename_i l h
    have h1 := r.1 _ rfl
    have h2 := r.2 _ rfl
    simp only [Option.map_eq_some_iff] at e
    obtain ⟨n, e, rfl⟩ := e
    have hp := List.find?_some e
    have hm := List.mem_of_find?_eq_some e
    simp only [Bool.and_eq_true, decide_eq_true_eq] at hp
    have hn : 0 < n ∧ n ≤ 500 := by
      simp only [digL, List.mem_cons, List.not_mem_nil, or_false] at hm
      omega
    refine go n hn.1 hn.2 ?_
    have e1 : ((10 ^ n : Nat) : Int) = 10 ^ n := by norm_cast
    omega
  · cases e
theorem prS_num (i : Int) : prS (Str.ofString (toString i)) = true := by
  have dg : ∀ (m : Nat), ∀ ch ∈ (Nat.repr m).toList, 48 ≤ ch.toNat ∧ ch.toNat ≤ 57 := by
    intro m ch hc
    rw [Nat.toList_repr] at hc
    exact PyProof.Rows.digit_range (Nat.isDigit_of_mem_toDigits (by decide) (by decide) hc)
  unfold prS
  rw [PyProof.Rows.signs_ofString, List.all_eq_true]
  intro c hc
  obtain ⟨ch, hch, rfl⟩ := List.mem_map.mp hc
  have : (48 ≤ ch.toNat ∧ ch.toNat ≤ 57) ∨ ch.toNat = 45 := by
    cases i with
    | ofNat m => exact .inl (dg m ch hch)
    | negSucc m =>
      have e : toString (Int.negSucc m) = "-" ++ Nat.repr (m + 1) := rfl
      rw [e, String.toList_append] at hch
      rcases List.mem_append.mp hch with h | h
      · right
        have : ch = '-' := by simpa using h
        rw [this]; rfl
      · exact .inl (dg _ ch h)
  simp only [Bool.and_eq_true, decide_eq_true_eq]
  omega
theorem bi1A_ok {f : BI} {a x : At} {o : Bool} {d1 : D} {st : Store} (e : bi1A f a = some (o, x)) (g1 : At.g a d1) : ∃ d, opBI f [d1.vw st] = some (resOf o d) ∧ At.g x d ∧ (o = true → ∃ xs, d = .lst xs) := by
  unfold bi1A at e
  split at e
  · split at e
    · obtain ⟨z, rfl, h1, h2, h3⟩ := g1
      split at e
      · rename_i hm
        cases e
        refine ⟨.int z.length, ?_, ⟨_, rfl, fun l e => by cases e; omega, fun l e => by cases e; omega⟩, fun q => nomatch q⟩
        show (if z.length ≤ sizeLine then _ else _) = _
        rw [if_pos (by omega)]
        rfl
      · cases e
    · split at e
      · rename_i t n m v s1
        cases e
        obtain ⟨xs, rfl, h1, h2, h3⟩ := asSeq_ok s1 g1
        exact ⟨.int xs.length, by rw [seqD_vw]; rfl, ⟨_, rfl, fun l e => by cases e; omega, fun l e => by cases e; omega⟩, fun q => nomatch q⟩
      · cases e
  · split at e
    · rename_i t n m v s1
      cases e
      obtain ⟨xs, rfl, h1, h2, h3⟩ := asSeq_ok s1 g1
      exact ⟨.lst xs, by rw [seqD_vw]; rfl, ⟨xs, rfl, h1, h2, h3⟩, fun _ => ⟨_, rfl⟩⟩
    · cases e
  · split at e
    · rename_i t n m v s1
      cases e
      obtain ⟨xs, rfl, h1, h2, h3⟩ := asSeq_ok s1 g1
      exact ⟨.tup xs, by rw [seqD_vw]; rfl, ⟨xs, rfl, h1, h2, h3⟩, fun q => nomatch q⟩
    · cases e
  · split at e
    · rename_i t n m v s1
      simp only [Option.ite_none_right_eq_some, Option.some.injEq, Prod.mk.injEq] at e
      obtain ⟨⟨h1, h2⟩, rfl, rfl⟩ := e
      obtain ⟨xs, rfl, h3, h4, h5⟩ := asSeq_ok s1 g1
      have hs : sortOk xs = true := by
        cases hp : v.pd with
        | none => rw [hp] at h2; cases h2
        | some k => rw [hp] at h2; exact srt_ok h1 hp (of_decide_eq_true h2) h5
      refine ⟨.lst (sortD xs), ?_, ⟨sortD xs, rfl, by rw [(sortD_perm xs).length_eq]; exact h3, by rw [(sortD_perm xs).length_eq]; exact h4, fun x hx => h5 x ((sortD_perm xs).mem_iff.mp hx)⟩, fun _ => ⟨_, rfl⟩⟩
      rw [seqD_vw]
      show (if sortOk xs = true then _ else _) = _
      rw [if_pos hs]
      rfl
    · cases e
  · split at e
    · simp only [Option.map_eq_some_iff] at e
      obtain ⟨k, e, e2⟩ := e
      cases e2
      obtain ⟨i, rfl, r⟩ := g1
      obtain ⟨h1, h2⟩ := dig_ok e r
      refine ⟨.str (Str.ofString (toString i)), ?_, ⟨_, rfl, Nat.zero_le _, h2, fun _ => prS_num i⟩, fun q => nomatch q⟩
      show (if i.natAbs.log2 < 1920 then _ else _) = _
      rw [if_pos h1]
      rfl
    · cases e
      obtain ⟨b, rfl, _⟩ := g1
      refine ⟨.str (if b then "True" else "False"), rfl, ⟨_, rfl, ?_, ?_, fun _ => ?_⟩, fun q => nomatch q⟩
      · cases b <;> decide +kernel
      · cases b <;> decide +kernel
      · cases b <;> decide +kernel
    · cases e
  · cases e
/-! raised letters -/
def upA : At → Option At
  | .str lo hi true => if hi ≤ 5592405 then some (.str lo hi true) else none
  | _ => none
theorem upA_ok {a x : At} {d : D} {st : Store} (e : upA a = some x) (g : At.g a d) : recv .upper (d.vw st) = true ∧ ∃ d', opM .upper (d.vw st) [] = some (.val d') ∧ At.g x d' := by
  unfold upA at e
  split at e
  · split at e
    · cases e
      obtain ⟨z, rfl, h1, h2, h3⟩ := g
      have hp := h3 rfl
      have hl : (upS z).length = z.length := by
        show (z.cps.toList.map upC).toArray.size = z.cps.size
        simp
      have ha : ascS z = true := by
        unfold ascS
        unfold prS at hp
        rw [List.all_eq_true] at hp ⊢
        intro c hc
        have := hp c hc
        simp only [Bool.and_eq_true, decide_eq_true_eq] at this ⊢
        omega
      refine ⟨rfl, .str (upS z), ?_, ⟨_, rfl, by rw [hl]; exact h1, by rw [hl]; exact h2, fun _ => ?_⟩⟩
      · show (if ascS z = true ∧ z.length ≤ 5592405 then some (Res.val (.str (upS z))) else none) = _
        rw [if_pos ⟨ha, by omega⟩]
      · unfold prS at hp ⊢
        simp only [upS, List.all_map, List.all_eq_true, Function.comp]
        rw [List.all_eq_true] at hp
        intro c hc
        have := hp c hc
        simp only [Bool.and_eq_true, decide_eq_true_eq] at this ⊢
        unfold upC
        split <;> omega
    · cases e
  · cases e
/-! join -/
def joinA (a b : At) : Option At :=
  match a with
  | .str 0 0 _ => match asSeq b with
    | some (_, _, m, .cons (.str _ k p) .nil) => if m * k ≤ 16777216 then some (.str 0 (m * k) p) else none
    | some (_, _, 0, .nil) => some (.str 0 0 true)
    | _ => none
  | _ => none
theorem tl_nil {x : Str} (h : x.length = 0) : x = ⟨#[]⟩ := by
  cases x with
  | mk c =>
    have : c = #[] := Array.eq_empty_of_size_eq_zero h
    rw [this]
theorem joinL_flat : ∀ (ps : List (List Nat)), TL.joinL [] ps = ps.flatten
  | [] => rfl
  | [p] => by simp [TL.joinL]
  | p :: q :: r => by
    show p ++ ([] ++ TL.joinL [] (q :: r)) = _
    rw [joinL_flat (q :: r)]
    rfl
theorem strAll_of {xs : List D} {n k : Nat} {p : Bool} (h : ∀ x ∈ xs, At.g (.str n k p) x) : ∃ ys, strAll xs = some ys ∧ ys.length = xs.length ∧ ∀ y ∈ ys, y.length ≤ k ∧ (p = true → prS y = true) := by
  induction xs with
  | nil => exact ⟨[], rfl, rfl, by simp⟩
  | cons x xs ih =>
    obtain ⟨y, rfl, h1, h2, h3⟩ := h x (by simp)
    obtain ⟨ys, e1, e2, e3⟩ := ih fun z hz => h z (by simp [hz])
    refine ⟨y :: ys, by simp [strAll, e1], by simp [e2], fun z hz => ?_⟩
    rcases List.mem_cons.mp hz with rfl | hz
    · exact ⟨h2, h3⟩
    · exact e3 z hz
theorem sum_le {ys : List Str} {k : Nat} (h : ∀ y ∈ ys, y.length ≤ k) : (ys.map (·.length)).sum ≤ ys.length * k := by
  induction ys with
  | nil => simp
  | cons y ys ih =>
    have h1 := h y (by simp)
    have h2 := ih fun z hz => h z (by simp [hz])
    rw [List.map_cons, List.sum_cons, List.length_cons, Nat.succ_mul]
    omega
theorem joinA_ok {a b x : At} {d1 d2 : D} {st : Store} (e : joinA a b = some x) (g1 : At.g a d1) (g2 : At.g b d2) : recv .join (d1.vw st) = true ∧ ∃ d, opM .join (d1.vw st) [d2.vw st] = some (.val d) ∧ At.g x d := by
  unfold joinA at e
  split at e
  · obtain ⟨z, rfl, h1, h2, h3⟩ := g1
    have hz : z.length = 0 := by omega
    refine ⟨rfl, ?_⟩
    have core : ∀ {t : Bool} {xs : List D} {m n k : Nat} {p : Bool}, xs.length ≤ m → m * k ≤ 16777216 → (∀ x ∈ xs, At.g (.str n k p) x) → ∃ d, opM .join ((D.str z).vw st) [(seqD t xs).vw st] = some (.val d) ∧ At.g (.str 0 (m * k) p) d := by
      intro t xs m n k p hm hk hx
      obtain ⟨ys, e1, e2, e3⟩ := strAll_of hx
      have hs : (ys.map (fun y : Str => y.length)).sum ≤ m * k := Nat.le_trans (sum_le fun y hy => (e3 y hy).1) (Nat.mul_le_mul_right _ (by rw [e2]; exact hm))
      have tlJ : (Txt.join z ys).cps.toList = (ys.map fun y : Str => y.cps.toList).flatten := by
        rw [TL.join_eq, tl_nil hz]
        have := TL.tl_join ⟨#[]⟩ ys
        rw [show TL.tl (⟨#[]⟩ : Str) = [] from rfl, joinL_flat] at this
        exact this
      refine ⟨.str (Txt.join z ys), ?_, ⟨_, rfl, Nat.zero_le _, ?_, fun q => ?_⟩⟩
      · rw [seqD_vw]
        show (match strAll xs with
          | some ys => if (ys.map (fun y : Str => y.length)).sum + ys.length * z.length ≤ 16777216 then some (Res.val (.str (Txt.join z ys))) else none
          | none => none) = _
        rw [e1]
        dsimp only
        rw [hz, Nat.mul_zero, Nat.add_zero, if_pos (by omega)]
      · have : (Txt.join z ys).length = (Txt.join z ys).cps.toList.length := by simp [Str.length]
        rw [this, tlJ, List.length_flatten, List.map_map]
        refine Nat.le_trans (Nat.le_of_eq ?_) hs
        congr 1
      · unfold prS
        rw [tlJ, List.all_eq_true]
        intro c hc
        obtain ⟨l, hl, hc⟩ := List.mem_flatten.mp hc
        obtain ⟨y, hy, rfl⟩ := List.mem_map.mp hl
        have := (e3 y hy).2 q
        unfold prS at this
        rw [List.all_eq_true] at this
        exact this c hc
    split at e
    · rename_i t n m n' k p s1
      obtain ⟨xs, rfl, p1, p2, p3⟩ := asSeq_ok s1 g2
      split at e
      · rename_i hk
        cases e
        exact core p2 hk fun x hx => by
          have := p3 x hx
          simpa [AV.g] using this
      · cases e
    · rename_i t n s1
      cases e
      obtain ⟨xs, rfl, p1, p2, p3⟩ := asSeq_ok s1 g2
      obtain ⟨d, h1, h2⟩ := core (t := t) (xs := xs) (m := 0) (n := 0) (k := 0) (p := true) (by omega) (by decide) fun x hx => by
        have := p3 x hx
        simp [AV.g] at this
      exact ⟨d, h1, h2⟩
    · cases e
  · cases e
end Py
end

section
set_option maxRecDepth 100000
set_option maxHeartbeats 4000000
set_option linter.all false
/-! The abstract run. -/
namespace Py
open PySem L2

/-- it ends well, with Q -/
def Out.W {α : Type} (o : Out α) (Q : α → Store → Prop) : Prop := match o with
  | .ok a st => Q a st
  | _ => False
theorem Out.W.bind {α β : Type} {o : Out α} {f : α → Store → Out β} {Q : β → Store → Prop} (h : o.W fun a st => (f a st).W Q) : (o.bind f).W Q := by
  cases o with
  | ok a st => exact h
  | exc c fs st => exact h.elim
  | bad => exact h.elim
theorem Out.W.imp {α : Type} {o : Out α} {Q Q' : α → Store → Prop} (h : o.W Q) (k : ∀ a st, Q a st → Q' a st) : o.W Q' := by
  cases o with
  | ok a st => exact k a st h
  | exc c fs st => exact h.elim
  | bad => exact h.elim

inductive AR where
  | val (v : AV)
  | own (v : AV)
  | bor (v : AV)
def AR.v : AR → AV
  | .val v => v
  | .own v => v
  | .bor v => v
def gR : AR → Res → Prop
  | .val v, r => ∃ d, r = .val d ∧ AV.g v d
  | .own v, r => ∃ xs, r = .own (.lst xs) ∧ AV.g v (.lst xs)
  | .bor v, r => ∃ xs, r = .bor (.lst xs) ∧ AV.g v (.lst xs)
theorem gR.seen {a : AR} {r : Res} (h : gR a r) : ∃ d, AV.g a.v d ∧ ∀ st, r.vw st = d.vw st := by
  cases a with
  | val v => obtain ⟨d, rfl, h⟩ := h; exact ⟨d, h, fun _ => rfl⟩
  | own v => obtain ⟨d, rfl, h⟩ := h; exact ⟨.lst d, h, fun _ => rfl⟩
  | bor v => obtain ⟨d, rfl, h⟩ := h; exact ⟨.lst d, h, fun _ => rfl⟩
def AR.toV : AR → Option AV
  | .val v => some v
  | .own v => some v
  | .bor _ => none
theorem gR.toD {a : AR} {r : Res} {v : AV} (h : gR a r) (e : a.toV = some v) : ∃ d, r.toD = some d ∧ AV.g v d := by
  cases a with
  | val w => cases e; obtain ⟨d, rfl, h⟩ := h; exact ⟨d, rfl, h⟩
  | own w => cases e; obtain ⟨d, rfl, h⟩ := h; exact ⟨.lst d, rfl, h⟩
  | bor w => cases e
def jnR (a b : AR) : Option AR := match a, b with
  | .val .nil, b => some b
  | a, .val .nil => some a
  | .val v, .val w => some (.val (jn v w))
  | .own v, .own w => some (.own (jn v w))
  | .bor v, .bor w => some (.bor (jn v w))
  | _, _ => none
theorem jnR_ok {a b c : AR} {r : Res} (e : jnR a b = some c) (h : gR a r ∨ gR b r) : gR c r := by
  unfold jnR at e
  split at e
  · cases e
    rcases h with ⟨d, rfl, h⟩ | h
    · simp [AV.g] at h
    · exact h
  · cases e
    rcases h with h | ⟨d, rfl, h⟩
    · exact h
    · simp [AV.g] at h
  · cases e
    rcases h with ⟨d, rfl, h⟩ | ⟨d, rfl, h⟩
    · exact ⟨d, rfl, jn_l h⟩
    · exact ⟨d, rfl, jn_r h⟩
  · cases e
    rcases h with ⟨d, rfl, h⟩ | ⟨d, rfl, h⟩
    · exact ⟨d, rfl, jn_l h⟩
    · exact ⟨d, rfl, jn_r h⟩
  · cases e
    rcases h with ⟨d, rfl, h⟩ | ⟨d, rfl, h⟩
    · exact ⟨d, rfl, jn_l h⟩
    · exact ⟨d, rfl, jn_r h⟩
  · cases e
/-- over all shapes -/
def mapR (f : At → Option AR) : AV → Option AR
  | .nil => some (.val .nil)
  | .cons a v => match f a, mapR f v with
    | some x, some y => jnR x y
    | _, _ => none
theorem mapR_ok {f : At → Option AR} : ∀ {v : AV} {c : AR} {d : D}, mapR f v = some c → AV.g v d → ∃ a x, At.g a d ∧ f a = some x ∧ ∀ r, gR x r → gR c r
  | .nil, _, _, _, h => by simp [AV.g] at h
  | .cons a v, c, d, e, h => by
    simp only [mapR] at e
    split at e
    · rename_i x y e1 e2
      simp only [AV.g] at h
      rcases h with h | h
      · exact ⟨a, x, h, e1, fun r z => jnR_ok e (.inl z)⟩
      · obtain ⟨a', x', h1, h2, h3⟩ := mapR_ok e2 h
        exact ⟨a', x', h1, h2, fun r z => jnR_ok e (.inr (h3 r z))⟩
    · cases e
def mapT (f : At → Option (Bool × Bool)) : AV → Option (Bool × Bool)
  | .nil => some (false, false)
  | .cons a v => match f a, mapT f v with
    | some x, some y => some (x.1 || y.1, x.2 || y.2)
    | _, _ => none
theorem may_or {t f t' f' b : Bool} (h : may t f b ∨ may t' f' b) : may (t || t') (f || f') b := by
  cases b <;> simp [may] at h ⊢ <;> exact h
theorem mapT_ok {f : At → Option (Bool × Bool)} : ∀ {v : AV} {t u : Bool} {d : D}, mapT f v = some (t, u) → AV.g v d → ∃ a x, At.g a d ∧ f a = some x ∧ ∀ b, may x.1 x.2 b → may t u b
  | .nil, _, _, _, _, h => by simp [AV.g] at h
  | .cons a v, t, u, d, e, h => by
    simp only [mapT] at e
    split at e
    · rename_i x y e1 e2
      cases e
      simp only [AV.g] at h
      rcases h with h | h
      · exact ⟨a, x, h, e1, fun r z => may_or (.inl z)⟩
      · obtain ⟨a', x', h1, h2, h3⟩ := mapT_ok e2 h
        exact ⟨a', x', h1, h2, fun r z => may_or (.inr (h3 r z))⟩
    · cases e
/-- what an operation made -/
def mk (p : Bool × At) : AR := if p.1 = true then .own (one p.2) else .val (one p.2)
theorem mk_ok {o : Bool} {x : At} {d : D} (g : At.g x d) (h : o = true → ∃ xs, d = .lst xs) : gR (mk (o, x)) (resOf o d) := by
  cases o with
  | false => exact ⟨d, rfl, one_g g⟩
  | true =>
    obtain ⟨xs, rfl⟩ := h rfl
    exact ⟨xs, rfl, one_g g⟩
def binV (op : BOp) (v w : AV) : Option AR := mapR (fun a => mapR (fun b => (binA op a b).map mk) w) v
theorem binV_ok {op : BOp} {v w : AV} {c : AR} {d1 d2 : D} {st : Store} (e : binV op v w = some c) (g1 : AV.g v d1) (g2 : AV.g w d2) : ∃ r, opBin op (d1.vw st) (d2.vw st) = some r ∧ gR c r := by
  obtain ⟨a, x, h1, h2, h3⟩ := mapR_ok e g1
  obtain ⟨b, y, k1, k2, k3⟩ := mapR_ok h2 g2
  simp only [Option.map_eq_some_iff] at k2
  obtain ⟨⟨o, z⟩, k2, rfl⟩ := k2
  obtain ⟨d, m1, m2, m3⟩ := binA_ok (st := st) k2 h1 k1
  exact ⟨_, m1, h3 _ (k3 _ (mk_ok m2 m3))⟩
def cmpV (op : COp) (v w : AV) : Option (Bool × Bool) := mapT (fun a => mapT (fun b => cmpA op a b) w) v
theorem cmpV_ok {op : COp} {v w : AV} {t f : Bool} {d1 d2 : D} {st : Store} (e : cmpV op v w = some (t, f)) (g1 : AV.g v d1) (g2 : AV.g w d2) : ∃ r, opCmp op (d1.vw st) (d2.vw st) = some r ∧ may t f r := by
  obtain ⟨a, ⟨x1, x2⟩, h1, h2, h3⟩ := mapT_ok e g1
  obtain ⟨b, ⟨y1, y2⟩, k1, k2, k3⟩ := mapT_ok h2 g2
  obtain ⟨r, m1, m2⟩ := cmpA_ok (st := st) k2 h1 k1
  exact ⟨r, m1, h3 _ (k3 _ m2)⟩
def ixV (v w : AV) : Option AR := mapR (fun a => mapR (fun b => (ixA a b).map .val) w) v
theorem ixV_ok {v w : AV} {c : AR} {d1 d2 : D} {st : Store} (e : ixV v w = some c) (g1 : AV.g v d1) (g2 : AV.g w d2) : ∃ d, opIx (d1.vw st) (d2.vw st) = some d ∧ gR c (.val d) := by
  obtain ⟨a, x, h1, h2, h3⟩ := mapR_ok e g1
  obtain ⟨b, y, k1, k2, k3⟩ := mapR_ok h2 g2
  simp only [Option.map_eq_some_iff] at k2
  obtain ⟨z, k2, rfl⟩ := k2
  obtain ⟨d, m1, m2⟩ := ixA_ok (st := st) k2 h1 k1
  exact ⟨_, m1, h3 _ (k3 _ ⟨d, rfl, m2⟩)⟩

/-- what is known of the names: their shapes; fx: which name is a place of which sequence -/
structure AEnv where
  sl : List (Option AR)
  fx : List (Nat × Nat)
def AEnv.put (E : AEnv) (i : Nat) (a : Option AR) : AEnv := ⟨E.sl.set i a, E.fx.filter fun p => !(p.1 == i) && !(p.2 == i)⟩
def AEnv.ref (E : AEnv) (i : Nat) (a : Option AR) : AEnv := ⟨E.sl.set i a, E.fx⟩
def AEnv.add (E : AEnv) (i j : Nat) : AEnv := ⟨E.sl, (i, j) :: E.fx⟩
def lenR : Res → Option Nat
  | .val (.tup xs) => some xs.length
  | .val (.lst xs) => some xs.length
  | .own (.lst xs) => some xs.length
  | .val (.str z) => some z.length
  | _ => none
def idxOf (env : Env) (i j : Nat) : Prop := ∃ (v : Int) (n : Nat) (r : Res), env[i]? = some (some (.val (.int v))) ∧ env[j]? = some (some r) ∧ lenR r = some n ∧ 0 ≤ v ∧ v < n
def gE (E : AEnv) (env : Env) : Prop := E.sl.length = env.length ∧ (∀ (i : Nat) a, E.sl[i]? = some (some a) → ∃ r, env[i]? = some (some r) ∧ gR a r) ∧ ∀ p ∈ E.fx, idxOf env p.1 p.2
theorem idx_set {env : Env} {i j k : Nat} {x : Option Res} (h : idxOf env i j) (h1 : i ≠ k) (h2 : j ≠ k) : idxOf (env.set k x) i j := by
  obtain ⟨v, n, r, a, b, c⟩ := h
  exact ⟨v, n, r, by rw [List.getElem?_set_ne (Ne.symm h1)]; exact a, by rw [List.getElem?_set_ne (Ne.symm h2)]; exact b, c⟩
theorem gE.set {E : AEnv} {env : Env} {i : Nat} {a : AR} {r : Res} (h : gE E env) (g : gR a r) : gE (E.put i (some a)) (env.set i (some r)) := by
  refine ⟨by simp [AEnv.put, h.1], fun j b e => ?_, fun p hp => ?_⟩
  · have e : (E.sl.set i (some a))[j]? = some (some b) := e
    by_cases hj : i = j
    · subst hj
      by_cases hl : i < E.sl.length
      · rw [List.getElem?_set_self hl] at e
        cases e
        exact ⟨r, by rw [List.getElem?_set_self (by rw [← h.1]; exact hl)], g⟩
      · rw [List.getElem?_eq_none (by simpa using hl)] at e; cases e
    · rw [List.getElem?_set_ne hj] at e ⊢
      exact h.2.1 j b e
  · obtain ⟨p1, p2⟩ := List.mem_filter.mp hp
    simp only [Bool.and_eq_true, Bool.not_eq_true', beq_eq_false_iff_ne] at p2
    exact idx_set (h.2.2 p p1) p2.1 p2.2
/-- a slot given up -/
theorem gE.del {E : AEnv} {env : Env} {i : Nat} {x : Option Res} (h : gE E env) : gE (E.put i none) (env.set i x) := by
  refine ⟨by simp [AEnv.put, h.1], fun j b e => ?_, fun p hp => ?_⟩
  · have e : (E.sl.set i none)[j]? = some (some b) := e
    by_cases hj : i = j
    · subst hj
      by_cases hl : i < E.sl.length
      · rw [List.getElem?_set_self hl] at e
        cases e
      · rw [List.getElem?_eq_none (by simpa using hl)] at e; cases e
    · rw [List.getElem?_set_ne hj] at e ⊢
      exact h.2.1 j b e
  · obtain ⟨p1, p2⟩ := List.mem_filter.mp hp
    simp only [Bool.and_eq_true, Bool.not_eq_true', beq_eq_false_iff_ne] at p2
    exact idx_set (h.2.2 p p1) p2.1 p2.2
/-- a place of a sequence -/
theorem gE.addF {E : AEnv} {env : Env} {i j : Nat} (h : gE E env) (k : idxOf env i j) : gE (E.add i j) env := by
  refine ⟨h.1, h.2.1, fun p hp => ?_⟩
  rcases List.mem_cons.mp hp with rfl | hp
  · exact k
  · exact h.2.2 p hp
def jnS (a b : Option AR) : Option AR := match a, b with
  | some x, some y => jnR x y
  | _, _ => none
def jnL : List (Option AR) → List (Option AR) → List (Option AR)
  | a :: as, b :: bs => jnS a b :: jnL as bs
  | _, _ => []
def jnE (E G : AEnv) : AEnv := ⟨jnL E.sl G.sl, E.fx.filter fun p => G.fx.contains p⟩
theorem jnL_at : ∀ {E G : List (Option AR)}, E.length = G.length → (jnL E G).length = E.length ∧ ∀ (i : Nat), (jnL E G)[i]? = (match E[i]?, G[i]? with | some a, some b => some (jnS a b) | _, _ => none)
  | [], [], _ => ⟨rfl, fun i => by simp [jnL]⟩
  | a :: as, b :: bs, h => by
    obtain ⟨h1, h2⟩ := jnL_at (E := as) (G := bs) (by simpa using h)
    refine ⟨by simp [jnL, h1], fun i => ?_⟩
    cases i with
    | zero => rfl
    | succ i => simpa [jnL] using h2 i
  | [], _ :: _, h => by simp at h
  | _ :: _, [], h => by simp at h
/-- either of two -/
def jnOE (a b : Option AEnv) : Option (Option AEnv) := match a, b with
  | none, b => some b
  | a, none => some a
  | some E, some G => if E.sl.length = G.sl.length then some (some (jnE E G)) else none
def gOE (a : Option AEnv) (env : Env) : Prop := match a with
  | some E => gE E env
  | none => False
theorem jnOE_ok {a b c : Option AEnv} {env : Env} (e : jnOE a b = some c) (h : gOE a env ∨ gOE b env) : gOE c env := by
  unfold jnOE at e
  split at e
  · cases e; exact h.elim False.elim id
  · cases e; exact h.elim id False.elim
  · rename_i E G
    split at e
    · rename_i hl
      cases e
      obtain ⟨l1, l2⟩ := jnL_at hl
      have go : ∀ {i : Nat} {a : AR}, (jnL E.sl G.sl)[i]? = some (some a) → ∃ x y, E.sl[i]? = some (some x) ∧ G.sl[i]? = some (some y) ∧ jnR x y = some a := by
        intro i a z
        rw [l2 i] at z
        split at z
        · rename_i p q e1 e2
          simp only [Option.some.injEq] at z
          unfold jnS at z
          split at z
          · rename_i x y
            exact ⟨x, y, e1, e2, z⟩
          · cases z
        · cases z
      rcases h with h | h
      · refine ⟨l1.trans h.1, fun i a z => ?_, fun p hp => h.2.2 p (List.mem_filter.mp hp).1⟩
        obtain ⟨x, y, e1, e2, e3⟩ := go z
        obtain ⟨r, r1, r2⟩ := h.2.1 i x e1
        exact ⟨r, r1, jnR_ok e3 (.inl r2)⟩
      · refine ⟨l1.trans (hl.trans h.1), fun i a z => ?_, fun p hp => h.2.2 p (by simpa using (List.mem_filter.mp hp).2)⟩
        obtain ⟨x, y, e1, e2, e3⟩ := go z
        obtain ⟨r, r1, r2⟩ := h.2.1 i y e2
        exact ⟨r, r1, jnR_ok e3 (.inr r2)⟩
    · cases e

def cstV : D → Option AV
  | .non => some (one .non)
  | .bl b => some (one (.bl b (!b)))
  | .int i => some (one (.int (some i) (some i)))
  | .str x => some (one (.str x.length x.length (prS x)))
  | _ => none
theorem cstV_ok {d : D} {v : AV} (e : cstV d = some v) : AV.g v d := by
  cases d with
  | non => cases e; exact one_g rfl
  | bl b => cases e; exact one_g ⟨b, rfl, by cases b <;> rfl⟩
  | int i => cases e; exact one_g ⟨i, rfl, fun l e => by cases e; exact Int.le_refl _, fun l e => by cases e; exact Int.le_refl _⟩
  | str x => cases e; exact one_g ⟨x, rfl, Nat.le_refl _, Nat.le_refl _, id⟩
  | _ => cases e
def negA : At → Option AR
  | .int lo hi => some (.val (one (.int (hi.map fun x => -x) (lo.map fun x => -x))))
  | _ => none
def vsOf : List AR → Option AVs
  | [] => some .nil
  | a :: as => match a.toV, vsOf as with
    | some v, some vs => some (.cons v vs)
    | _, _ => none
def gRs : List AR → List Res → Prop
  | [], rs => rs = []
  | a :: as, rs => ∃ r q, rs = r :: q ∧ gR a r ∧ gRs as q
theorem vsOf_ok : ∀ {as : List AR} {vs : AVs} {rs : List Res}, vsOf as = some vs → gRs as rs → ∃ ds, toDs rs = some ds ∧ AVs.g vs ds
  | [], vs, rs, e, h => by cases e; simp only [gRs] at h; subst h; exact ⟨[], rfl, rfl⟩
  | a :: as, vs, rs, e, h => by
    simp only [vsOf] at e
    split at e
    · rename_i v vs' e1 e2
      cases e
      obtain ⟨r, q, rfl, h1, h2⟩ := h
      obtain ⟨d, d1, d2⟩ := h1.toD e1
      obtain ⟨ds, d3, d4⟩ := vsOf_ok e2 h2
      exact ⟨d :: ds, by simp [toDs, d1, d3], d, ds, rfl, d2, d4⟩
    · cases e
def bi1V (f : BI) (v : AV) : Option AR := mapR (fun a => (bi1A f a).map mk) v
def slV (v : AV) (hi : Option (Option Int × Option Int)) : Option AR := mapR (fun a => (slA a hi).map mk) v
def revV (v : AV) : Option AR := mapR (fun a => (revA a).map mk) v
def upV (v : AV) : Option AR := mapR (fun a => (upA a).map fun x => .val (one x)) v
def joinV' (v w : AV) : Option AR := mapR (fun a => mapR (fun b => (joinA a b).map fun x => .val (one x)) w) v
def truV (v : AV) : Option (Bool × Bool) := mapT truA v
def isiV (v : AV) (t : String) : Option (Bool × Bool) := mapT (fun a => (isiA a t).map fun b => (b, !b)) v
def min2V (v w : AV) (mx : Bool) : Option AR := mapR (fun a => mapR (fun b => match a, b with
  | .int l1 h1, .int l2 h2 => some (.val (one (.int (minO l1 l2) (maxO h1 h2))))
  | _, _ => none) w) v

/-- the bounds of a number -/
def rngV : AV → Option (Option Int × Option Int)
  | .cons (.int lo hi) .nil => some (lo, hi)
  | _ => none
theorem rngV_ok {v : AV} {lo hi : Option Int} {d : D} (e : rngV v = some (lo, hi)) (g : AV.g v d) : ∃ i, d = .int i ∧ inR lo hi i := by
  unfold rngV at e
  split at e
  · cases e
    simp only [AV.g, or_false] at g
    exact g
  · cases e
/-- what is walked: the things, least and most how many -/
def wkA : At → Option (AV × Nat × Nat)
  | .str n m p => some (one (.str 1 1 p), n, m)
  | a => match asSeq a with
    | some (_, n, m, e) => some (e, n, m)
    | none => none
def wkV : AV → Option (AV × Nat × Nat)
  | .nil => none
  | .cons a .nil => wkA a
  | .cons a v => match wkA a, wkV v with
    | some (e, n, m), some (e', n', m') => some (jn e e', min n n', max m m')
    | _, _ => none
/-- several names -/
def putVs : List Nat → AVs → AEnv → Option AEnv
  | [], .nil, E => some E
  | i :: is, .cons v vs, E => putVs is vs (E.put i (some (.val v)))
  | _, _, _ => none
def repV (v : AV) : Nat → AVs
  | 0 => .nil
  | n + 1 => .cons v (repV v n)
def putA (tg : Tg) (v : AV) (E : AEnv) : Option AEnv :=
  match tg with
  | .name i => some (E.put i (some (.val v)))
  | .tup is => match v with
    | .cons (.tupx vs) .nil => putVs is vs E
    | .cons (.seq true n m e) .nil => if n = is.length ∧ m = is.length then putVs is (repV e n) E else none
    | _ => none
theorem putVs_ok : ∀ {is : List Nat} {vs : AVs} {E E' : AEnv} {env : Env} {ds : List D}, putVs is vs E = some E' → AVs.g vs ds → gE E env → is.length = ds.length ∧ gE E' ((is.zip ds).foldl (fun e p => e.set p.1 (some (.val p.2))) env)
  | [], .nil, E, E', env, ds, e, g, h => by cases e; simp only [AVs.g] at g; subst g; exact ⟨rfl, h⟩
  | i :: is, .cons v vs, E, E', env, ds, e, g, h => by
    obtain ⟨d, r, rfl, g1, g2⟩ := g
    obtain ⟨h1, h2⟩ := putVs_ok (is := is) (vs := vs) e g2 (h.set (i := i) (a := .val v) (r := .val d) ⟨d, rfl, g1⟩)
    exact ⟨by simp [h1], h2⟩
  | [], .cons _ _, _, _, _, _, e, _, _ => by simp [putVs] at e
  | _ :: _, .nil, _, _, _, _, e, _, _ => by simp [putVs] at e
theorem repV_ok {v : AV} : ∀ {n : Nat} {xs : List D}, xs.length = n → (∀ x ∈ xs, AV.g v x) → AVs.g (repV v n) xs
  | 0, [], _, _ => rfl
  | n + 1, x :: xs, h, g => ⟨x, xs, rfl, g x (by simp), repV_ok (by simpa using h) fun y hy => g y (by simp [hy])⟩
  | 0, _ :: _, h, _ => by simp at h
  | _ + 1, [], h, _ => by simp at h
theorem putA_ok {tg : Tg} {v : AV} {E E' : AEnv} {env : Env} {d : D} (e : putA tg v E = some E') (g : AV.g v d) (h : gE E env) : ∃ env', tg.put d env = some env' ∧ gE E' env' := by
  unfold putA at e
  split at e
  · cases e; exact ⟨_, rfl, h.set ⟨d, rfl, g⟩⟩
  · have core : ∀ {is : List Nat} {vs : AVs} {xs : List D}, putVs is vs E = some E' → AVs.g vs xs → ∃ env', (Tg.tup is).put (.tup xs) env = some env' ∧ gE E' env' := by
      intro is vs xs e g
      obtain ⟨h1, h2⟩ := putVs_ok e g h
      exact ⟨_, by show (if is.length = xs.length then _ else _) = _; rw [if_pos h1], h2⟩
    split at e
    · simp only [AV.g, or_false] at g
      obtain ⟨xs, rfl, g⟩ := g
      exact core e g
    · split at e
      · rename_i hn
        simp only [AV.g, or_false] at g
        obtain ⟨xs, rfl, g1, g2, g3⟩ := g
        exact core e (repV_ok (by omega) g3)
      · cases e
    · cases e
theorem wkA_ok {a : At} {e : AV} {n m : Nat} {d : D} (h : wkA a = some (e, n, m)) (g : At.g a d) : (∃ z : Str, d = .str z ∧ n ≤ z.length ∧ z.length ≤ m ∧ ∀ c ∈ z.cps.toList, AV.g e (.str ⟨#[c]⟩)) ∨ ∃ t xs, d = seqD t xs ∧ n ≤ xs.length ∧ xs.length ≤ m ∧ ∀ x ∈ xs, AV.g e x := by
  unfold wkA at h
  split at h
  · cases h
    obtain ⟨z, rfl, h1, h2, h3⟩ := g
    refine .inl ⟨z, rfl, h1, h2, fun c hc => one_g ⟨_, rfl, Nat.le_refl _, Nat.le_refl _, fun q => ?_⟩⟩
    have := h3 q
    unfold prS at this ⊢
    rw [List.all_eq_true] at this
    simpa using this c hc
  · split at h
    · rename_i t n' m' e' s1
      cases h
      obtain ⟨xs, h1, h2⟩ := asSeq_ok s1 g
      exact .inr ⟨t, xs, h1, h2⟩
    · cases h
theorem wkV_ok : ∀ {v e : AV} {n m : Nat} {d : D}, wkV v = some (e, n, m) → AV.g v d → (∃ z : Str, d = .str z ∧ n ≤ z.length ∧ z.length ≤ m ∧ ∀ c ∈ z.cps.toList, AV.g e (.str ⟨#[c]⟩)) ∨ ∃ t xs, d = seqD t xs ∧ n ≤ xs.length ∧ xs.length ≤ m ∧ ∀ x ∈ xs, AV.g e x
  | .nil, e, n, m, d, h, g => by cases h
  | .cons a .nil, e, n, m, d, h, g => by
    simp only [AV.g, or_false] at g
    exact wkA_ok h g
  | .cons a (.cons b v), e, n, m, d, h, g => by
    simp only [wkV] at h
    split at h
    · rename_i e1 n1 m1 e2 n2 m2 h1 h2
      cases h
      rw [AV.g] at g
      rcases g with g | g
      · rcases wkA_ok h1 g with ⟨z, rfl, p1, p2, p3⟩ | ⟨t, xs, rfl, p1, p2, p3⟩
        · exact .inl ⟨z, rfl, by omega, by omega, fun c hc => jn_l (p3 c hc)⟩
        · exact .inr ⟨t, xs, rfl, by omega, by omega, fun c hc => jn_l (p3 c hc)⟩
      · rcases wkV_ok h2 g with ⟨z, rfl, p1, p2, p3⟩ | ⟨t, xs, rfl, p1, p2, p3⟩
        · exact .inl ⟨z, rfl, by omega, by omega, fun c hc => jn_r (p3 c hc)⟩
        · exact .inr ⟨t, xs, rfl, by omega, by omega, fun c hc => jn_r (p3 c hc)⟩
    · cases h

/-! what a test tells of a name -/
def filtV (p : At → Option Bool) (b : Bool) : AV → AV
  | .nil => .nil
  | .cons a v => if p a = some (!b) then filtV p b v else .cons a (filtV p b v)
theorem filtV_ok {p : At → Option Bool} {b : Bool} : ∀ {v : AV} {d : D}, AV.g v d → (∀ a, At.g a d → p a ≠ some (!b)) → AV.g (filtV p b v) d
  | .nil, d, h, _ => by simp [AV.g] at h
  | .cons a v, d, h, hn => by
    rw [AV.g] at h
    rw [filtV]
    split
    · rename_i hp
      rcases h with h | h
      · exact absurd hp (hn a h)
      · exact filtV_ok h hn
    · exact h.imp id fun h => filtV_ok h hn
/-- not void -/
def neA (tup : Bool) : At → AV
  | .seq t n m e => if t = tup then (if m = 0 then .nil else one (.seq t (max 1 n) m e)) else one (.seq t n m e)
  | .tupx es => if tup = true ∧ es.len = 0 then .nil else one (.tupx es)
  | a => one a
def neV (tup : Bool) : AV → AV
  | .nil => .nil
  | .cons a v => appV (neA tup a) (neV tup v)
theorem neV_ok {tup : Bool} : ∀ {v : AV} {d : D}, AV.g v d → d ≠ seqD tup [] → AV.g (neV tup v) d
  | .nil, d, h, _ => by simp [AV.g] at h
  | .cons a v, d, h, hn => by
    rw [AV.g] at h
    rw [neV]
    refine appV_ok (h.imp (fun h => ?_) fun h => neV_ok h hn)
    unfold neA
    split
    · rename_i t n m e
      split
      · rename_i ht
        subst ht
        obtain ⟨xs, rfl, h1, h2, h3⟩ := h
        have hne : xs ≠ [] := fun z => hn (by rw [z])
        have hp : 0 < xs.length := List.length_pos_iff.mpr hne
        split
        · omega
        · exact one_g ⟨xs, rfl, by omega, h2, h3⟩
      · exact one_g h
    · rename_i es
      split
      · rename_i hz
        obtain ⟨xs, rfl, h⟩ := h
        have := AVs.g_len h
        have hx : xs = [] := List.eq_nil_of_length_eq_zero (by omega)
        subst hx
        exact absurd (by rw [hz.1]; rfl) hn
      · exact one_g h
    · exact one_g h
end Py
end

section
set_option maxRecDepth 100000
set_option maxHeartbeats 4000000
set_option linter.all false
/-! The abstract run of expressions, and its soundness. -/
namespace Py
open PySem L2

def varA (E : AEnv) (i : Nat) : Option AR := match E.sl[i]? with
  | some (some (.val v)) => some (.val v)
  | some (some (.own v)) => some (.bor v)
  | _ => none
def blA (p : Bool × Bool) : AR := .val (one (.bl p.1 p.2))
def wipeA (E : AEnv) : List Nat → AEnv
  | [] => E
  | v :: vs => (wipeA E vs).put v none
theorem wipeA_ok {E : AEnv} {env : Env} (h : gE E env) : ∀ vs : List Nat, gE (wipeA E vs) (wipeE env vs)
  | [] => h
  | v :: vs => (wipeA_ok h vs).del
/-- only texts -/
def strV : AV → Bool
  | .nil => true
  | .cons (.str _ _ _) v => strV v
  | _ => false
theorem strV_ok : ∀ {v : AV} {d : D}, strV v = true → AV.g v d → ∃ z, d = .str z
  | .nil, _, _, g => by simp [AV.g] at g
  | .cons a v, d, e, g => by
    cases a <;> simp only [strV, Bool.false_eq_true] at e
    rw [AV.g] at g
    rcases g with ⟨z, rfl, _⟩ | g
    · exact ⟨z, rfl⟩
    · exact strV_ok e g
/-- only truths -/
def blV : AV → Option (Bool × Bool)
  | .nil => some (false, false)
  | .cons (.bl t f) v => match blV v with
    | some p => some (t || p.1, f || p.2)
    | none => none
  | _ => none
theorem blV_ok : ∀ {v : AV} {t f : Bool} {d : D}, blV v = some (t, f) → AV.g v d → ∃ b, d = .bl b ∧ may t f b
  | .nil, _, _, _, _, g => by simp [AV.g] at g
  | .cons a v, t, f, d, e, g => by
    cases a <;> simp only [blV, reduceCtorEq] at e
    split at e
    · rename_i p e1
      cases e
      rw [AV.g] at g
      rcases g with ⟨b, rfl, h⟩ | g
      · exact ⟨b, rfl, may_or (.inl h)⟩
      · obtain ⟨b, rfl, h⟩ := blV_ok e1 g
        exact ⟨b, rfl, may_or (.inr h)⟩
    · cases e
/-- what a test of a name tells: its slot in either case -/
def refT (t : Te) (E : AEnv) : AEnv × AEnv := match t with
  | .val (.isi (.var i) ty) => (match E.sl[i]? with
    | some (some (.val v)) => (E.ref i (some (.val (filtV (fun a => isiA a ty) true v))), E.ref i (some (.val (filtV (fun a => isiA a ty) false v))))
    | _ => (E, E))
  | .cmp .ne (.var i) (.tup .nil) => (match E.sl[i]? with
    | some (some (.val v)) => (E.ref i (some (.val (neV true v))), E)
    | some (some (.own v)) => (E.ref i (some (.own (neV true v))), E)
    | _ => (E, E))
  | .cmp .ne (.var i) (.lst .nil) => (match E.sl[i]? with
    | some (some (.val v)) => (E.ref i (some (.val (neV false v))), E)
    | some (some (.own v)) => (E.ref i (some (.own (neV false v))), E)
    | _ => (E, E))
  | _ => (E, E)
def two (p : Bool × Bool) (E G : AEnv) : Option AEnv × Option AEnv := (if p.1 = true then some E else none, if p.2 = true then some G else none)

/-- one shape at a time -/
def atomsV : AV → List AV
  | .nil => []
  | .cons a v => one a :: atomsV v
def splitVs : AVs → List AVs
  | .nil => [.nil]
  | .cons v vs => (atomsV v).flatMap fun a => (splitVs vs).map (AVs.cons a)
def foldC (C : Nat → AVs → Option AR) (f : Nat) : List AVs → Option AR
  | [] => some (.val .nil)
  | x :: xs => match C f x, foldC C f xs with
    | some a, some b => jnR a b
    | _, _ => none
def callS (C : Nat → AVs → Option AR) (f : Nat) (vs : AVs) : Option AR := if (splitVs vs).length ≤ 40 then foldC C f (splitVs vs) else C f vs
theorem atomsV_ok : ∀ {v : AV} {d : D}, AV.g v d → ∃ a ∈ atomsV v, AV.g a d
  | .nil, d, h => by simp [AV.g] at h
  | .cons a v, d, h => by
    rw [AV.g] at h
    rcases h with h | h
    · exact ⟨one a, by simp [atomsV], one_g h⟩
    · obtain ⟨b, h1, h2⟩ := atomsV_ok h
      exact ⟨b, by simp [atomsV, h1], h2⟩
theorem splitVs_ok : ∀ {vs : AVs} {ds : List D}, AVs.g vs ds → ∃ w ∈ splitVs vs, AVs.g w ds
  | .nil, ds, h => ⟨.nil, by simp [splitVs], h⟩
  | .cons v vs, ds, h => by
    obtain ⟨d, r, rfl, h1, h2⟩ := h
    obtain ⟨a, a1, a2⟩ := atomsV_ok h1
    obtain ⟨w, w1, w2⟩ := splitVs_ok h2
    refine ⟨.cons a w, ?_, d, r, rfl, a2, w2⟩
    simp only [splitVs, List.mem_flatMap, List.mem_map]
    exact ⟨a, a1, w, w1, rfl⟩
theorem foldC_ok {C : Nat → AVs → Option AR} {f : Nat} : ∀ {l : List AVs} {r : AR}, foldC C f l = some r → ∀ w ∈ l, ∃ a, C f w = some a ∧ ∀ q, gR a q → gR r q
  | [], r, e, w, hw => by simp at hw
  | x :: xs, r, e, w, hw => by
    simp only [foldC] at e
    split at e
    · rename_i a b e1 e2
      rcases List.mem_cons.mp hw with rfl | hw
      · exact ⟨a, e1, fun q h => jnR_ok e (.inl h)⟩
      · obtain ⟨a', h1, h2⟩ := foldC_ok e2 w hw
        exact ⟨a', h1, fun q h => jnR_ok e (.inr (h2 q h))⟩
    · cases e
/-- the things of a sequence or a text -/
def elA : At → Option AR
  | .seq _ _ _ e => some (.val e)
  | .tupx es => some (.val (allVs es))
  | .str _ m p => if m ≤ sizeLine then some (.val (one (.str 1 1 p))) else none
  | _ => none
def elV (v : AV) : Option AR := mapR elA v
/-- least and most things -/
def lnA : At → Option (Nat × Nat)
  | .seq _ n m _ => some (n, m)
  | .tupx es => some (es.len, es.len)
  | .str n m _ => some (n, m)
  | _ => none
/-- all have between one thing and so many that one may be drawn -/
def ln1 : AV → Bool
  | .nil => true
  | .cons a v => (match lnA a with | some (n, m) => decide (0 < n) && decide (m ≤ sizeLine) | none => false) && ln1 v
/-- x[i], i known to be a place of x -/
def ixF (E : AEnv) : Ex → Ex → Option AR
  | .var j, .var i => if E.fx.contains (i, j) = true then (match E.sl[j]? with
    | some (some a) => elV a.v
    | _ => none) else none
  | _, _ => none
/-- x[draw(feed, len(x))] -/
def ixD (dr : Nat) (E : AEnv) : Ex → Ex → Option AR
  | .var j, .call f (.cons (.var u) (.cons (.bi .len (.cons (.var k) .nil)) .nil)) => if f = dr ∧ j = k then (match E.sl[u]?, E.sl[j]? with
    | some (some (.val (.cons .feed .nil))), some (some (.val v)) => if ln1 v = true then elV v else none
    | some (some (.val (.cons .feed .nil))), some (some (.own v)) => if ln1 v = true then elV v else none
    | _, _ => none) else none
  | _, _ => none
/-- x[:i] + .. + x[i + 1:], i a place of the tuple x -/
def repP (E : AEnv) : BOp → Ex → Ex → Option AV
  | .add, .bin .add (.sl (.var j) .nil (.cons (.var i) .nil)) _, .sl (.var j') (.cons (.bin .add (.var i') (.cst (.int 1))) .nil) .nil => if j = j' ∧ i = i' ∧ E.fx.contains (i, j) = true then (match E.sl[j]? with
    | some (some (.val v)) => some v
    | _ => none) else none
  | _, _, _ => none
def repA (a b : At) : Option AR := match asSeq a, asSeq b with
  | some (true, n, m, e), some (true, n', m', e') => if m + m' ≤ sizeLine then some (.val (one (.seq true (n - 1 + n') (m - 1 + m') (jn e e')))) else none
  | _, _ => none
def repR (v w : AV) : Option AR := mapR (fun a => mapR (fun b => repA a b) w) v
/-- the name whose length is walked -/
def rngOf : Itr → Option Nat
  | .rng (.cons (.bi .len (.cons (.var j) .nil)) .nil) => some j
  | _ => none
/-- a loop's target, with what is known of it -/
def putF (tg : Tg) (r : Option Nat) (v : AV) (E : AEnv) : Option AEnv := match putA tg v E with
  | some E1 => (match tg, r with
    | .name i, some j => if i = j ∨ E.sl.length ≤ i then some E1 else some (E1.add i j)
    | _, _ => some E1)
  | none => none
section
variable (C : Nat → AVs → Option AR) (dr : Nat)
mutual
def absE : Ex → AEnv → Option AR
  | .var i, E => varA E i
  | .cst d, _ => (cstV d).map .val
  | .glb _ d, _ => (cstV d).map .val
  | .bin op a b, E => match repP E op a b with
    | some v => (match absM a E with
      | some (.val w) => repR v w
      | _ => none)
    | none => (match absE a E, absE b E with
      | some x, some y => binV op x.v y.v
      | _, _ => none)
  | .neg a, E => match absE a E with
    | some (.val v) => mapR negA v
    | _ => none
  | .cmp op a b, E => match absE a E, absE b E with
    | some x, some y => (cmpV op x.v y.v).map blA
    | _, _ => none
  | .cmp2 op op2 a b c, E => match absE a E, absE b E, absE c E with
    | some x, some y, some z => (match cmpV op x.v y.v, cmpV op2 y.v z.v with
      | some p, some q => some (blA (q.1, p.2 || q.2))
      | _, _ => none)
    | _, _, _ => none
  | .not a, E => match absE a E with
    | some x => (truV x.v).map fun p => blA (p.2, p.1)
    | none => none
  | .and es, E => absAnd es E
  | .or es, E => absOr es E
  | .ife c a b, E => match absT c E with
    | some (T, G) => (match (match T with | some T => absE a T | none => some (.val .nil)), (match G with | some G => absE b G | none => some (.val .nil)) with
      | some x, some y => jnR x y
      | _, _ => none)
    | none => none
  | .tup es, E => match absRs es E with
    | some as => (match vsOf as with
      | some vs => if vs.len ≤ 1000 then some (.val (one (.tupx vs))) else none
      | none => none)
    | none => none
  | .lst es, E => match absRs es E with
    | some as => (match vsOf as with
      | some vs => if vs.len ≤ 1000 then some (.own (one (.seq false vs.len vs.len (allVs vs)))) else none
      | none => none)
    | none => none
  | .dct _, _ => none
  | .ix a b, E => match ixF E a b, ixD dr E a b with
    | some x, _ => some x
    | none, some x => some x
    | none, none => (match absE a E, absE b E with
      | some x, some y => ixV x.v y.v
      | _, _ => none)
  | .sl a lo hi, E => match absE a E, absP lo E, absP hi E with
    | some x, some _, some h => slV x.v h
    | _, _, _ => none
  | .rev a, E => match absE a E with
    | some x => revV x.v
    | none => none
  | .sset a, E => none
  | .call f es, E => match absRs es E with
    | some as => (match vsOf as with
      | some vs => callS C f vs
      | none => none)
    | none => none
  | .bi f es, E => match absRs es E with
    | some [x] => bi1V f x.v
    | _ => none
  | .isi a t, E => match absE a E with
    | some x => (isiV x.v t).map blA
    | none => none
  | .mth m o es, E => match m, absE o E, absRs es E with
    | .join, some x, some [y] => if strV x.v = true then joinV' x.v y.v else none
    | .upper, some x, some [] => upV x.v
    | _, _, _ => none
  | .comp own tg it ifs elt, E => match absI it E with
    | some (e, n, m) => if m ≤ sizeLine then (match putF tg (match rngOf it with | some j => if own.contains j = true then none else some j | none => none) e (wipeA E own) with
      | some E1 => (match absIfs ifs E1 with
        | some (some T, G) => (match absE elt T with
          | some x => (match x.toV with
            | some v => some (.own (one (.seq false (match ifs with | .nil => n | _ => 0) m v)))
            | none => none)
          | none => none)
        | _ => none)
      | none => none) else none
    | none => none
def absM : Ex → AEnv → Option AR
  | .bin _ _ x, E => absE x E
  | _, _ => none
def absT : Te → AEnv → Option (Option AEnv × Option AEnv)
  | .val e, E => match absE e E with
    | some x => (truV x.v).map fun p => two p (refT (.val e) E).1 (refT (.val e) E).2
    | none => none
  | .cmp op a b, E => match absE a E, absE b E with
    | some x, some y => (cmpV op x.v y.v).map fun p => two p (refT (.cmp op a b) E).1 (refT (.cmp op a b) E).2
    | _, _ => none
  | .cmp2 op op2 a b c, E => match absE a E, absE b E, absE c E with
    | some x, some y, some z => (match cmpV op x.v y.v, cmpV op2 y.v z.v with
      | some p, some q => some (two (q.1, p.2 || q.2) E E)
      | _, _ => none)
    | _, _, _ => none
  | .not t, E => (absT t E).map fun p => (p.2, p.1)
  | .and ts, E => absAndT ts E
  | .or ts, E => absOrT ts E
def absAnd : Exs → AEnv → Option AR
  | .nil, _ => none
  | .cons e .nil, E => absE e E
  | .cons e es, E => match absE e E with
    | some (.val v) => (match blV v with
      | some (t, f) => (match (if t = true then absAnd es E else some (.val .nil)) with
        | some y => jnR y (if f = true then blA (false, true) else .val .nil)
        | none => none)
      | none => none)
    | _ => none
def absOr : Exs → AEnv → Option AR
  | .nil, _ => none
  | .cons e .nil, E => absE e E
  | .cons e es, E => match absE e E with
    | some (.val v) => (match blV v with
      | some (t, f) => (match (if f = true then absOr es E else some (.val .nil)) with
        | some y => jnR y (if t = true then blA (true, false) else .val .nil)
        | none => none)
      | none => none)
    | _ => none
def absAndT : Tes → AEnv → Option (Option AEnv × Option AEnv)
  | .nil, _ => none
  | .cons t .nil, E => absT t E
  | .cons t ts, E => match absT t E with
    | some (some T, G) => (match absAndT ts T with
      | some (T2, G2) => (jnOE G G2).map fun g => (T2, g)
      | none => none)
    | some (none, G) => some (none, G)
    | none => none
def absOrT : Tes → AEnv → Option (Option AEnv × Option AEnv)
  | .nil, _ => none
  | .cons t .nil, E => absT t E
  | .cons t ts, E => match absT t E with
    | some (T, some G) => (match absOrT ts G with
      | some (T2, G2) => (jnOE T T2).map fun g => (g, G2)
      | none => none)
    | some (T, none) => some (T, none)
    | none => none
def absRs : Exs → AEnv → Option (List AR)
  | .nil, _ => some []
  | .cons e es, E => match absE e E, absRs es E with
    | some x, some xs => some (x :: xs)
    | _, _ => none
def absP : Exs → AEnv → Option (Option (Option Int × Option Int))
  | .nil, _ => some none
  | .cons e .nil, E => match absE e E with
    | some (.val v) => (rngV v).map some
    | _ => none
  | _, _ => none
def absIfs : Tes → AEnv → Option (Option AEnv × Option AEnv)
  | .nil, E => some (some E, none)
  | .cons t .nil, E => absT t E
  | _, _ => none
def absI : Itr → AEnv → Option (AV × Nat × Nat)
  | .it e, E => match absE e E with
    | some (.val v) => wkV v
    | some (.own v) => wkV v
    | _ => none
  | .rng (.cons a .nil), E => match absE a E with
    | some (.val v) => (match rngV v with
      | some (some l, some h) => if -4611686018427387904 ≤ l ∧ h < 4611686018427387904 then some (one (.int (some 0) (some (h - 1))), l.toNat, h.toNat) else none
      | _ => none)
    | _ => none
  | .rng (.cons a (.cons b .nil)), E => match absE a E, absE b E with
    | some (.val v), some (.val w) => (match rngV v, rngV w with
      | some (some l, some h), some (some l', some h') => if -4611686018427387904 ≤ l ∧ h < 4611686018427387904 ∧ -4611686018427387904 ≤ l' ∧ h' < 4611686018427387904 then some (one (.int (some l) (some (h' - 1))), (l' - h).toNat, (h' - l).toNat) else none
      | _, _ => none)
    | _, _ => none
  | _, _ => none
end
end

section
variable {C : Nat → AVs → Option AR} {F : Fsem} {I : Store → Prop}
variable (hC : ∀ f vs r, C f vs = some r → ∀ ds st, AVs.g vs ds → I st → (F f ds st).W fun r' st' => gR r r' ∧ I st')

theorem blA_ok {t f b : Bool} (h : may t f b) : gR (blA (t, f)) (.val (.bl b)) := ⟨_, rfl, one_g ⟨b, rfl, h⟩⟩
theorem two_ok {t f b : Bool} {E G : AEnv} {env : Env} (h : may t f b) (h1 : b = true → gE E env) (h2 : b = false → gE G env) : gOE (if b = true then (two (t, f) E G).1 else (two (t, f) E G).2) env := by
  cases b with
  | true =>
    have : t = true := h
    subst this
    exact h1 rfl
  | false =>
    have : f = true := h
    subst this
    exact h2 rfl
theorem W_of {α : Type} {o : Option α} {a : α} {st : Store} {Q : α → Store → Prop} (e : o = some a) (h : Q a st) : (Out.of o st).W Q := by
  subst e; exact h
end
end Py
end

section
set_option maxRecDepth 100000
set_option maxHeartbeats 4000000
set_option linter.all false
/-! The abstract run of expressions is sound. -/
namespace Py
open PySem L2

theorem W_bindI {α β : Type} {o : Out α} {f : α → Store → Out β} {P : α → Store → Prop} {Q : β → Store → Prop} (h : o.W P) (k : ∀ a st, P a st → (f a st).W Q) : (o.bind f).W Q := Out.W.bind (h.imp k)

section
variable {F : Fsem} {E : AEnv} {env : Env} {st st' : Store}
theorem rv_bl {b : Bool} : (Res.val (.bl b)).vw st = .at (.bl b) := rfl
theorem of_ok {α : Type} {o : Option α} {a : α} (h : Out.of o st = .ok a st') : o = some a := by
  cases o with
  | none => cases h
  | some x => cases h; rfl
theorem bind_of {α β : Type} {o : Out α} {f : α → Store → Out β} {b : β} (h : o.bind f = .ok b st') : ∃ a s, o = .ok a s ∧ f a s = .ok b st' := by
  cases o with
  | ok a s => exact ⟨a, s, rfl, h⟩
  | exc c fs s => cases h
  | bad => cases h
theorem set_self {α : Type} : ∀ {l : List α} {i : Nat} {x : α}, l[i]? = some x → l.set i x = l
  | [], _, _, h => by simp at h
  | y :: l, 0, x, h => by simp at h; subst h; rfl
  | y :: l, i + 1, x, h => by
    rw [List.set_cons_succ, set_self (by simpa using h)]
theorem ne_void {tup b : Bool} {d : D} (h : (opCmp .ne (d.vw st) (.sq tup [])) = some b) (hb : b = true) : d ≠ seqD tup [] := by
  rintro rfl
  rw [seqD_vw] at h
  subst hb
  cases tup <;> simp [opCmp, eqv2, Vw.py, D.pys, PyData.eqv, PyData.eqvAll, PyData.depth, PyData.depthAll] at h
theorem refT_ok (t : Te) {b : Bool} (h : gE E env) (e : evalT F t env st = .ok b st') : (b = true → gE (refT t E).1 env) ∧ (b = false → gE (refT t E).2 env) := by
  have same : (b = true → gE E env) ∧ (b = false → gE E env) := ⟨fun _ => h, fun _ => h⟩
  have slot : ∀ {i : Nat} {a a' : AR}, E.sl[i]? = some (some a) → (∀ r, env[i]? = some (some r) → gR a r → gR a' r) → gE (E.ref i (some a')) env := by
    intro i a a' e1 k
    obtain ⟨r, h1, h2⟩ := h.2.1 i a e1
    have := h.set (i := i) (k r h1 h2)
    rw [set_self h1] at this
    exact ⟨this.1, this.2.1, h.2.2⟩
  unfold refT
  split
  · rename_i i ty
    split
    · rename_i v e1
      obtain ⟨r, h1, d, rfl, gd⟩ := h.2.1 i _ e1
      have hi : opIsi (d.vw st) ty = some b := by
        simp only [evalT, evalE, h1] at e
        obtain ⟨r1, s1, e2, e3⟩ := bind_of e
        obtain ⟨r2, s2, e4, e5⟩ := bind_of e2
        cases e4
        have e6 := of_ok e5
        simp only [Option.map_eq_some_iff] at e6
        obtain ⟨b', e6, rfl⟩ := e6
        have e7 := of_ok e3
        rw [rv_bl] at e7
        cases e7
        exact e6
      have no : ∀ a, At.g a d → isiA a ty ≠ some (!b) := by
        intro a ga z
        have := isiA_ok (st := st) z ga
        rw [hi] at this
        cases b <;> cases this
      refine ⟨fun hb => ?_, fun hb => ?_⟩
      · subst hb
        exact slot e1 fun r' e2 _ => by rw [h1] at e2; cases e2; exact ⟨d, rfl, filtV_ok gd no⟩
      · subst hb
        exact slot e1 fun r' e2 _ => by rw [h1] at e2; cases e2; exact ⟨d, rfl, filtV_ok gd no⟩
    · exact same
  · rename_i i
    split
    · rename_i v e1
      obtain ⟨r, h1, d, rfl, gd⟩ := h.2.1 i _ e1
      refine ⟨fun hb => ?_, fun _ => h⟩
      have hn : d ≠ seqD true [] := by
        refine ne_void (st := st) (b := b) ?_ hb
        simp only [evalT, evalE, h1, evalRs, Out.bind_ok, toDs] at e
        rw [if_pos (by show 0 ≤ sizeLine; exact Nat.zero_le _), Out.bind_ok] at e
        exact of_ok e
      exact slot e1 fun r' e2 _ => by rw [h1] at e2; cases e2; exact ⟨d, rfl, neV_ok gd hn⟩
    · rename_i v e1
      obtain ⟨r, h1, xs, rfl, gd⟩ := h.2.1 i _ e1
      refine ⟨fun hb => ?_, fun _ => h⟩
      have hn : (D.lst xs) ≠ seqD true [] := by intro z; cases z
      exact slot e1 fun r' e2 _ => by rw [h1] at e2; cases e2; exact ⟨xs, rfl, neV_ok gd hn⟩
    · exact same
  · rename_i i
    have key : ∀ {r : Res} {d : D}, env[i]? = some (some r) → (∀ s, (match r with | .own c => Res.bor c | r => r).vw s = d.vw s) → b = true → d ≠ seqD false [] := by
      intro r d h1 hv hb
      refine ne_void (st := st) (b := b) ?_ hb
      cases r with
      | val d' =>
        simp only [evalT, evalE, h1, evalRs, Out.bind_ok, toDs] at e
        rw [if_pos (by show 0 ≤ sizeLine; exact Nat.zero_le _), Out.bind_ok] at e
        rw [← hv st]
        exact of_ok e
      | own c =>
        simp only [evalT, evalE, h1, evalRs, Out.bind_ok, toDs] at e
        rw [if_pos (by show 0 ≤ sizeLine; exact Nat.zero_le _), Out.bind_ok] at e
        rw [← hv st]
        exact of_ok e
      | bor c =>
        simp only [evalT, evalE, h1, Out.bind_bad, reduceCtorEq] at e
    split
    · rename_i v e1
      obtain ⟨r, h1, d, rfl, gd⟩ := h.2.1 i _ e1
      refine ⟨fun hb => ?_, fun _ => h⟩
      have hn := key h1 (d := d) (fun _ => rfl) hb
      exact slot e1 fun r' e2 _ => by rw [h1] at e2; cases e2; exact ⟨d, rfl, neV_ok gd hn⟩
    · rename_i v e1
      obtain ⟨r, h1, xs, rfl, gd⟩ := h.2.1 i _ e1
      refine ⟨fun hb => ?_, fun _ => h⟩
      have hn := key h1 (d := .lst xs) (fun _ => rfl) hb
      exact slot e1 fun r' e2 _ => by rw [h1] at e2; cases e2; exact ⟨xs, rfl, neV_ok gd hn⟩
    · exact same
  · exact same
end
end Py
end

section
set_option maxRecDepth 100000
set_option maxHeartbeats 4000000
set_option linter.all false
/-! The abstract run of expressions is sound: all forms. -/
namespace Py
open PySem L2

section
variable {C : Nat → AVs → Option AR} {F : Fsem} {I : Store → Prop}
def CallOk (C : Nat → AVs → Option AR) (F : Fsem) (I : Store → Prop) : Prop := ∀ f vs r, C f vs = some r → ∀ ds st, AVs.g vs ds → I st → (F f ds st).W fun r' st' => gR r r' ∧ I st'

theorem comp_ok {put : D → Env → Option Env} {cond : Env → Store → Out Bool} {elt : Env → Store → Out Res} {env : Env} {e : D → Prop} {v : AV} {m : Nat}
    (hput : ∀ d, e d → ∃ env', put d env = some env' ∧ ∀ st, I st → (cond env' st).W fun b st' => I st' ∧ (b = true → (elt env' st').W fun r st'' => I st'' ∧ ∃ d', r.toD = some d' ∧ AV.g v d')) :
    ∀ (xs acc : List D) (st : Store), (∀ x ∈ xs, e x) → (∀ x ∈ acc, AV.g v x) → I st → acc.length + xs.length ≤ m → m ≤ sizeLine →
      (compL put cond elt env xs acc st).W fun ds st' => I st' ∧ (∀ x ∈ ds, AV.g v x) ∧ ds.length ≤ acc.length + xs.length
  | [], acc, st, _, ha, hi, hl, hm => ⟨hi, ha, by simp⟩
  | x :: xs, acc, st, hx, ha, hi, hl, hm => by
    unfold compL
    obtain ⟨env', h1, h2⟩ := hput x (hx x (by simp))
    rw [h1]
    dsimp only
    rw [List.length_cons] at hl
    refine W_bindI (h2 st hi) fun b s1 ⟨i1, h3⟩ => ?_
    cases b with
    | false =>
      rw [if_neg Bool.false_ne_true]
      refine (comp_ok hput xs acc s1 (fun y hy => hx y (by simp [hy])) ha i1 (by omega) hm).imp fun ds s2 ⟨q1, q2, q3⟩ => ⟨q1, q2, by simp; omega⟩
    | true =>
      rw [if_pos rfl]
      refine W_bindI (h3 rfl) fun r s2 ⟨i2, d', e1, g1⟩ => ?_
      rw [e1]
      dsimp only
      rw [if_pos (by omega)]
      refine (comp_ok hput xs (acc ++ [d']) s2 (fun y hy => hx y (by simp [hy])) (fun y hy => ?_) i2 (by simp; omega) hm).imp fun ds s3 ⟨q1, q2, q3⟩ => ⟨q1, q2, by simp at q3 ⊢; omega⟩
      rcases List.mem_append.mp hy with hy | hy
      · exact ha y hy
      · rw [List.mem_singleton.mp hy]; exact g1
/-- no if: each thing is there -/
theorem comp_len {put : D → Env → Option Env} {elt : Env → Store → Out Res} {env : Env} : ∀ (xs acc : List D) (st : Store) (ds : List D) (st' : Store), compL put (fun _ s => .ok true s) elt env xs acc st = .ok ds st' → ds.length = acc.length + xs.length
  | [], acc, st, ds, st', h => by simp only [compL, Out.ok.injEq] at h; rw [← h.1]; simp
  | x :: xs, acc, st, ds, st', h => by
    unfold compL at h
    split at h
    · cases h
    · rw [Out.bind_ok, if_pos rfl] at h
      obtain ⟨r, s, e1, e2⟩ := bind_of h
      split at e2
      · split at e2
        · have := comp_len xs _ _ _ _ e2
          simp at this ⊢
          omega
        · cases e2
      · cases e2
theorem rng_ok {lo hi l h l' h' : Int} (a1 : -4611686018427387904 ≤ l) (a2 : l ≤ lo) (a3 : lo ≤ h) (a4 : h < 4611686018427387904) (b1 : -4611686018427387904 ≤ l') (b2 : l' ≤ hi) (b3 : hi ≤ h') (b4 : h' < 4611686018427387904) :
    ∃ xs, rngD lo hi 1 = some xs ∧ (l' - h).toNat ≤ xs.length ∧ xs.length ≤ (h' - l).toNat ∧ ∀ x ∈ xs, At.g (.int (some l) (some (h' - 1))) x := by
  refine ⟨_, by unfold rngD; rw [if_pos (by omega)], ?_, ?_, fun x hx => ?_⟩
  · rw [List.length_map, List.length_range]; omega
  · rw [List.length_map, List.length_range]; omega
  · obtain ⟨n, hn, rfl⟩ := List.mem_map.mp hx
    rw [List.mem_range] at hn
    exact ⟨_, rfl, fun y e => by cases e; omega, fun y e => by cases e; omega⟩

theorem callS_ok (hC : CallOk C F I) {f : Nat} {vs : AVs} {r : AR} {ds : List D} {st : Store} (e : callS C f vs = some r) (g : AVs.g vs ds) (hi : I st) : (F f ds st).W fun r' st' => gR r r' ∧ I st' := by
  unfold callS at e
  split at e
  · obtain ⟨w, w1, w2⟩ := splitVs_ok g
    obtain ⟨a, a1, a2⟩ := foldC_ok e w w1
    exact (hC f w a a1 ds st w2 hi).imp fun q s ⟨h1, h2⟩ => ⟨a2 q h1, h2⟩
  · exact hC f vs r e ds st g hi
variable {dr : Nat}
/-- the def that draws -/
def DrOk (dr : Nat) (F : Fsem) (I : Store → Prop) : Prop := ∀ (m : Int) st, I st → 0 < m → m < 1073741824 → (F dr [.ptr 0, .int m] st).W fun r st' => (∃ i, r = .val (.int i) ∧ 0 ≤ i ∧ i < m) ∧ I st'
theorem at_in {α : Type} {xs : List α} {i : Int} (h0 : 0 ≤ i) (h1 : i < xs.length) : ∃ x, atI xs i = some x ∧ x ∈ xs := by
  have hlt : i.toNat < xs.length := by omega
  unfold atI ixN
  rw [if_pos h0, if_pos h1]
  exact ⟨xs[i.toNat], by simp [hlt], List.getElem_mem _⟩
theorem elV_ok {v : AV} {c : AR} {d : D} {n : Nat} {i : Int} {st : Store} (e : elV v = some c) (g : AV.g v d) (hn : lenR (.val d) = some n) (h0 : 0 ≤ i) (h1 : i < n) : ∃ x, opIx (d.vw st) (.at (.int i)) = some x ∧ gR c (.val x) := by
  obtain ⟨a, y, k1, k2, k3⟩ := mapR_ok e g
  cases a <;> simp only [elA, reduceCtorEq, Option.some.injEq] at k2
  · rename_i lo m p
    split at k2
    · rename_i hm
      cases k2
      obtain ⟨z, rfl, q1, q2, q3⟩ := k1
      cases hn
      have h1' : i < z.cps.toList.length := by rw [Array.length_toList]; exact h1
      obtain ⟨x, x1, x2⟩ := at_in (xs := z.cps.toList) h0 h1'
      refine ⟨.str ⟨#[x]⟩, ?_, k3 _ ⟨_, rfl, one_g ⟨_, rfl, Nat.le_refl _, Nat.le_refl _, fun q => ?_⟩⟩⟩
      · show (if z.length ≤ sizeLine then _ else _) = _
        rw [if_pos (by omega), x1]
        rfl
      · have := q3 q
        unfold prS at this ⊢
        rw [List.all_eq_true] at this
        simpa using this x x2
    · cases k2
  · rename_i t lo m e'
    subst k2
    obtain ⟨xs, rfl, q1, q2, q3⟩ := k1
    have hl : n = xs.length := by cases t <;> cases hn <;> rfl
    subst hl
    obtain ⟨x, x1, x2⟩ := at_in (xs := xs) h0 h1
    exact ⟨x, by rw [seqD_vw]; exact x1, k3 _ ⟨x, rfl, q3 x x2⟩⟩
  · rename_i es
    subst k2
    obtain ⟨xs, rfl, q⟩ := k1
    cases hn
    obtain ⟨x, x1, x2⟩ := at_in (xs := xs) h0 h1
    exact ⟨x, x1, k3 _ ⟨x, rfl, allVs_ok q x x2⟩⟩
theorem ln1_ok : ∀ {v : AV} {d : D}, ln1 v = true → AV.g v d → ∃ n, lenR (.val d) = some n ∧ 0 < n ∧ n ≤ sizeLine ∧ ∀ st, opBI .len [d.vw st] = some (.val (.int n))
  | .nil, d, e, g => by simp [AV.g] at g
  | .cons a v, d, e, g => by
    simp only [ln1, Bool.and_eq_true] at e
    rw [AV.g] at g
    rcases g with g | g
    · obtain ⟨e, _⟩ := e
      cases a <;> simp only [lnA, Bool.false_eq_true] at e
      · rename_i lo m p
        simp only [Bool.and_eq_true, decide_eq_true_eq] at e
        obtain ⟨z, rfl, q1, q2, q3⟩ := g
        refine ⟨z.length, rfl, by omega, by omega, fun st => ?_⟩
        show (if z.length ≤ sizeLine then _ else _) = _
        rw [if_pos (by omega)]
      · rename_i t lo m e'
        simp only [Bool.and_eq_true, decide_eq_true_eq] at e
        obtain ⟨xs, rfl, q1, q2, q3⟩ := g
        exact ⟨xs.length, by cases t <;> rfl, by omega, by omega, fun st => by rw [seqD_vw]; rfl⟩
      · rename_i es
        simp only [Bool.and_eq_true, decide_eq_true_eq] at e
        obtain ⟨xs, rfl, q⟩ := g
        have := AVs.g_len q
        exact ⟨xs.length, rfl, by omega, by omega, fun st => rfl⟩
    · exact ln1_ok e.2 g
/-- what a name holds, read -/
theorem var_read {E : AEnv} {env : Env} {j : Nat} {a : AR} (g : gE E env) (e : E.sl[j]? = some (some a)) {r : Res} (h : env[j]? = some (some r)) (st : Store) (F : Fsem) : (∀ c, r ≠ .bor c) → ∃ r' d, evalE F (.var j) env st = .ok r' st ∧ (∀ s, r'.vw s = d.vw s) ∧ AV.g a.v d ∧ lenR (.val d) = lenR r := by
  intro nb
  obtain ⟨r0, h1, h2⟩ := g.2.1 j a e
  rw [h] at h1
  cases h1
  cases a with
  | val v =>
    obtain ⟨d, rfl, gd⟩ := h2
    exact ⟨.val d, d, by simp only [evalE, h], fun _ => rfl, gd, rfl⟩
  | own v =>
    obtain ⟨xs, rfl, gd⟩ := h2
    exact ⟨.bor (.lst xs), .lst xs, by simp only [evalE, h], fun _ => rfl, gd, rfl⟩
  | bor v =>
    obtain ⟨xs, rfl, gd⟩ := h2
    exact absurd rfl (nb _)
theorem lenR_nb {r : Res} {n : Nat} (h : lenR r = some n) : ∀ c, r ≠ .bor c := by
  rintro c rfl
  simp [lenR] at h
theorem a_len {F : Fsem} {x : Ex} {env : Env} {st : Store} : evalE F (.bi .len (.cons x .nil)) env st = (evalE F x env st).bind fun r st1 => Out.of (opBI .len [r.vw st1]) st1 := by
  simp only [evalE, evalRs]
  cases evalE F x env st <;> rfl
theorem a_call2 {F : Fsem} {f : Nat} {x y : Ex} {env : Env} {st : Store} : evalE F (.call f (.cons x (.cons y .nil))) env st = (evalE F x env st).bind fun r st1 => (evalE F y env st1).bind fun q st2 => match toDs [r, q] with
    | some ds => F f ds st2
    | none => .bad := by
  simp only [evalE, evalRs]
  cases evalE F x env st with
  | ok r s =>
    simp only [Out.bind_ok]
    cases evalE F y env s <;> rfl
  | exc c fs s => rfl
  | bad => rfl
theorem ixF_ok {E : AEnv} {env : Env} {st : Store} {x y : Ex} {c : AR} (e : ixF E x y = some c) (g : gE E env) (hi : I st) : (evalE F (.ix x y) env st).W fun r st' => gR c r ∧ I st' := by
  unfold ixF at e
  split at e
  · rename_i j i
    split at e
    · rename_i hf
      split at e
      · rename_i a e1
        obtain ⟨v, n, r, h1, h2, h3, h4, h5⟩ := g.2.2 (i, j) (by simpa using hf)
        obtain ⟨r', d, k1, k2, k3, k4⟩ := var_read g e1 h2 st F (lenR_nb h3)
        obtain ⟨z, z1, z2⟩ := elV_ok (st := st) e k3 (by rw [k4]; exact h3) h4 h5
        have hy : evalE F (.var i) env st = .ok (.val (.int v)) st := by simp only [evalE, h1]
        rw [show evalE F (.ix (.var j) (.var i)) env st = (evalE F (.var j) env st).bind fun ra st1 => (evalE F (.var i) env st1).bind fun rb st2 => Out.of ((opIx (ra.vw st2) (rb.vw st2)).map Res.val) st2 from by simp only [evalE], k1, Out.bind_ok, hy, Out.bind_ok, k2]
        show (Out.of ((opIx (d.vw st) (.at (.int v))).map Res.val) st).W _
        rw [z1]
        exact ⟨z2, hi⟩
      · cases e
    · cases e
  · cases e
theorem ixD_ok (hD : DrOk dr F I) {E : AEnv} {env : Env} {st : Store} {x y : Ex} {c : AR} (e : ixD dr E x y = some c) (g : gE E env) (hi : I st) : (evalE F (.ix x y) env st).W fun r st' => gR c r ∧ I st' := by
  unfold ixD at e
  split at e
  · rename_i j f u k
    split at e
    · rename_i hf
      obtain ⟨rfl, rfl⟩ := hf
      have core : ∀ {a : AR}, (∀ v, a ≠ .bor v) → E.sl[u]? = some (some (.val (.cons .feed .nil))) → E.sl[j]? = some (some a) → ln1 a.v = true → elV a.v = some c → (evalE F (.ix (.var j) (.call f (.cons (.var u) (.cons (.bi .len (.cons (.var j) .nil)) .nil)))) env st).W fun r st' => gR c r ∧ I st' := by
        intro a hnb e1 e2 hl e
        obtain ⟨r0, h1, d0, rfl, gd0⟩ := g.2.1 u _ e1
        simp only [AV.g, At.g, or_false] at gd0
        subst gd0
        obtain ⟨r, h2, gr⟩ := g.2.1 j _ e2
        have nb : ∀ c, r ≠ .bor c := by
          rintro c rfl
          cases a with
          | val v => obtain ⟨_, z, _⟩ := gr; cases z
          | own v => obtain ⟨_, z, _⟩ := gr; cases z
          | bor v => exact absurd rfl (hnb v)
        obtain ⟨r', d, k1, k2, k3, k4⟩ := var_read g e2 h2 st F nb
        obtain ⟨n, n1, n2, n3, n4⟩ := ln1_ok hl k3
        have hsz : sizeLine < 1073741824 := by decide
        have hu : ∀ s, evalE F (.var u) env s = .ok (.val (.ptr 0)) s := fun s => by simp only [evalE, h1]
        have hlen : evalE F (.bi .len (.cons (.var j) .nil)) env st = .ok (.val (.int n)) st := by
          rw [a_len]
          rw [k1, Out.bind_ok, k2, n4]
          rfl
        have hcall : evalE F (.call f (.cons (.var u) (.cons (.bi .len (.cons (.var j) .nil)) .nil))) env st = F f [.ptr 0, .int n] st := by
          rw [a_call2]
          rw [hu, Out.bind_ok, hlen]
          rfl
        rw [show evalE F (.ix (.var j) (.call f (.cons (.var u) (.cons (.bi .len (.cons (.var j) .nil)) .nil)))) env st = (evalE F (.var j) env st).bind fun ra st1 => (evalE F (.call f (.cons (.var u) (.cons (.bi .len (.cons (.var j) .nil)) .nil))) env st1).bind fun rb st2 => Out.of ((opIx (ra.vw st2) (rb.vw st2)).map Res.val) st2 from by simp only [evalE], k1, Out.bind_ok, hcall]
        refine W_bindI (hD n st hi (by omega) (by omega)) fun rb s2 ⟨⟨i, hr, i0, i1⟩, i2⟩ => ?_
        subst hr
        rw [k2]
        obtain ⟨z, z1, z2⟩ := elV_ok (st := s2) e k3 n1 i0 i1
        show (Out.of ((opIx (d.vw s2) (.at (.int i))).map Res.val) s2).W _
        rw [z1]
        exact ⟨z2, i2⟩
      split at e
      · rename_i v e1 e2
        split at e
        · rename_i hl
          exact core (fun _ z => by cases z) e1 e2 hl e
        · cases e
      · rename_i v e1 e2
        split at e
        · rename_i hl
          exact core (fun _ z => by cases z) e1 e2 hl e
        · cases e
      · cases e
    · cases e
  · cases e
/-- the thing walked is a place of the name -/
def plc (env : Env) (r : Option Nat) (d : D) : Prop := ∀ j, r = some j → ∃ (k : Int) (n : Nat) (q : Res), d = .int k ∧ env[j]? = some (some q) ∧ lenR q = some n ∧ 0 ≤ k ∧ k < n
theorem putF_ok {tg : Tg} {r : Option Nat} {v : AV} {E E' : AEnv} {env : Env} {d : D} (e : putF tg r v E = some E') (gd : AV.g v d) (g : gE E env) (hp : plc env r d) : ∃ env', tg.put d env = some env' ∧ gE E' env' := by
  unfold putF at e
  split at e
  · rename_i E1 e1
    obtain ⟨env', h1, h2⟩ := putA_ok e1 gd g
    split at e
    · rename_i i j
      split at e
      · cases e; exact ⟨env', h1, h2⟩
      · rename_i hij
        cases e
        refine ⟨env', h1, h2.addF ?_⟩
        cases h1
        obtain ⟨k, n, q, rfl, a1, a2, a3, a4⟩ := hp j rfl
        have hl : i < env.length := by rw [← g.1]; omega
        have hij' : i ≠ j := fun z => hij (.inl z)
        exact ⟨k, n, q, List.getElem?_set_self hl, by rw [List.getElem?_set_ne hij']; exact a1, a2, a3, a4⟩
    · cases e; exact ⟨env', h1, h2⟩
  · cases e

theorem W_and {α : Type} {o : Out α} {P : α → Store → Prop} {Q : α → Prop} (h : o.W P) (k : ∀ a s, o = .ok a s → Q a) : o.W fun a s => P a s ∧ Q a := by
  cases o with
  | ok a s => exact ⟨h, k a s rfl⟩
  | exc c fs s => exact h.elim
  | bad => exact h.elim
/-- what is walked in range(len(name)) are places of it -/
theorem rngOf_ok (it : Itr) {E : AEnv} {env : Env} {st : Store} {el : AV} {n m : Nat} (e : absI C dr it E = some (el, n, m)) (g : gE E env) : ∀ xs s, evalI F it env st = .ok xs s → ∀ x ∈ xs, plc env (rngOf it) x := by
  intro xs s h x hx j hj
  unfold rngOf at hj
  split at hj
  · rename_i k
    cases hj
    -- the name is a sequence or a text
    simp only [absI, absE, absRs] at e
    cases hv : varA E j with
    | none => rw [hv] at e; simp at e
    | some a0 =>
      rw [hv] at e
      dsimp only at e
      have hsl : ∃ a, E.sl[j]? = some (some a) ∧ a0.v = a.v ∧ ∀ c, a ≠ .bor c := by
        unfold varA at hv
        split at hv
        · rename_i v e1
          cases hv
          exact ⟨_, e1, rfl, fun c z => by cases z⟩
        · rename_i v e1
          cases hv
          exact ⟨_, e1, rfl, fun c z => by cases z⟩
        · cases hv
      obtain ⟨a, e1, e2, nb⟩ := hsl
      obtain ⟨r, h1, gr⟩ := g.2.1 j a e1
      have nbr : ∀ c, r ≠ .bor c := by
        rintro c rfl
        cases a with
        | val v => obtain ⟨_, z, _⟩ := gr; cases z
        | own v => obtain ⟨_, z, _⟩ := gr; cases z
        | bor v => exact nb v rfl
      obtain ⟨r', d, k1, k2, k3, k4⟩ := var_read g e1 h1 st F nbr
      cases hb : bi1V .len a0.v with
      | none => rw [hb] at e; simp at e
      | some b =>
        rw [e2] at hb
        obtain ⟨a', y, g1, g2, g3⟩ := mapR_ok hb k3
        simp only [Option.map_eq_some_iff] at g2
        obtain ⟨⟨o, z⟩, g2, _⟩ := g2
        have hd : ∃ n', lenR (.val d) = some n' ∧ opBI .len [d.vw st] = some (.val (.int n')) := by
          unfold bi1A at g2
          dsimp only at g2
          split at g2
          · obtain ⟨z, rfl, q1, q2, _⟩ := g1
            split at g2
            · exact ⟨z.length, rfl, by show (if z.length ≤ sizeLine then _ else _) = _; rw [if_pos (by omega)]⟩
            · cases g2
          · split at g2
            · rename_i t n1 m1 v1 s1
              obtain ⟨ys, rfl, _⟩ := asSeq_ok s1 g1
              exact ⟨ys.length, by cases t <;> rfl, by rw [seqD_vw]; rfl⟩
            · cases g2
        obtain ⟨n', d1, d2⟩ := hd
        have hl : evalE F (.bi .len (.cons (.var j) .nil)) env st = .ok (.val (.int n')) st := by
          rw [a_len, k1, Out.bind_ok, k2, d2]
          rfl
        simp only [evalI] at h
        rw [hl, Out.bind_ok] at h
        have h' := of_ok h
        obtain ⟨_, rfl⟩ := rng_some h'
        obtain ⟨i, hi, rfl⟩ := List.mem_map.mp hx
        rw [List.mem_range] at hi
        refine ⟨_, n', r, rfl, h1, by rw [← k4]; exact d1, by omega, by omega⟩
  · cases hj
variable (hC : CallOk C F I) (hD : DrOk dr F I)
include hC hD
mutual
theorem absE_ok : ∀ (e : Ex) {E : AEnv} {env : Env} {st : Store} {a : AR}, absE C dr e E = some a → gE E env → I st → (evalE F e env st).W fun r st' => gR a r ∧ I st'
  | .var i, E, env, st, a, e, g, hi => by
    simp only [absE, varA] at e
    split at e
    · rename_i v e1
      cases e
      obtain ⟨r, h1, d, rfl, h2⟩ := g.2.1 i _ e1
      simp only [evalE, h1]
      exact ⟨⟨d, rfl, h2⟩, hi⟩
    · rename_i v e1
      cases e
      obtain ⟨r, h1, d, rfl, h2⟩ := g.2.1 i _ e1
      simp only [evalE, h1]
      exact ⟨⟨d, rfl, h2⟩, hi⟩
    · cases e
  | .cst d, E, env, st, a, e, g, hi => by
    simp only [absE, Option.map_eq_some_iff] at e
    obtain ⟨v, e, rfl⟩ := e
    simp only [evalE]
    exact ⟨⟨d, rfl, cstV_ok e⟩, hi⟩
  | .glb x d, E, env, st, a, e, g, hi => by
    simp only [absE, Option.map_eq_some_iff] at e
    obtain ⟨v, e, rfl⟩ := e
    simp only [evalE]
    exact ⟨⟨d, rfl, cstV_ok e⟩, hi⟩
  | .bin op x y, E, env, st, a, e, g, hi => by
    simp only [absE] at e
    split at e
    · rename_i v er
      unfold repP at er
      split at er
      · rename_i j i z j' i'
        split at er
        · rename_i hc
          obtain ⟨rfl, rfl, hf⟩ := hc
          split at er
          · rename_i v' e1
            cases er
            split at e
            · rename_i w e2
              simp only [absM] at e2
              have hW := absE_ok z e2 g hi
              obtain ⟨r0, h1, d, rfl, gd⟩ := g.2.1 j _ e1
              obtain ⟨k, n, q, k1, k2, k3, k4, k5⟩ := g.2.2 (i, j) (by simpa using hf)
              have k2 : env[j]? = some (some q) := k2
              rw [h1] at k2
              cases k2
              have k1 : env[i]? = some (some (.val (.int k))) := k1
              obtain ⟨b, u, m1, m2, m3⟩ := mapR_ok e gd
              have key : ∀ (xs : List D), d = .tup xs → n = xs.length → ∀ (ys : List D) (s1 : Store), xs.length + ys.length ≤ sizeLine →
                  (evalE F z env st = .ok (.val (.tup ys)) s1) → evalE F (.bin .add (.bin .add (.sl (.var j) .nil (.cons (.var i) .nil)) z) (.sl (.var j) (.cons (.bin .add (.var i) (.cst (.int 1))) .nil) .nil)) env st = .ok (.val (.tup (xs.take k.toNat ++ ys ++ xs.drop (k.toNat + 1)))) s1 := by
                rintro xs rfl rfl ys s1 hsz hz
                have c1 : cutD xs none (some k) = xs.take k.toNat := by
                  unfold cutD
                  have e1 : HT.sIx xs.length 0 none = 0 := rfl
                  have e2 : HT.sIx xs.length xs.length (some k) = k.toNat := by
                    show (if k < 0 then _ else min k.toNat xs.length) = _
                    rw [if_neg (by omega)]
                    omega
                  rw [e1, e2, List.drop_zero, Nat.sub_zero]
                have c2 : cutD xs (some (k + 1)) none = xs.drop (k.toNat + 1) := by
                  unfold cutD
                  have e1 : HT.sIx xs.length 0 (some (k + 1)) = k.toNat + 1 := by
                    show (if k + 1 < 0 then _ else min (k + 1).toNat xs.length) = _
                    rw [if_neg (by omega)]
                    omega
                  have e2 : HT.sIx xs.length xs.length none = xs.length := rfl
                  rw [e1, e2]
                  exact List.take_of_length_le (by rw [List.length_drop]; exact Nat.le_refl _)
                have v1 : ∀ s, (Res.val (.tup xs)).vw s = .sq true xs := fun _ => rfl
                have v2 : ∀ (l : List D) s, (Res.val (.tup l)).vw s = .sq true l := fun _ _ => rfl
                have s1' : ∀ s, evalE F (.sl (.var j) .nil (.cons (.var i) .nil)) env s = .ok (.val (.tup (xs.take k.toNat))) s := by
                  intro s
                  simp only [evalE, evalPart, h1, k1, Out.bind_ok, v1, opSl, c1, Out.of_some]
                have s2' : ∀ s, evalE F (.sl (.var j) (.cons (.bin .add (.var i) (.cst (.int 1))) .nil) .nil) env s = .ok (.val (.tup (xs.drop (k.toNat + 1)))) s := by
                  intro s
                  have va : ∀ (a : Int) s, (Res.val (.int a)).vw s = .at (.int a) := fun _ _ => rfl
                  have oa : opBin .add (.at (.int k)) (.at (.int 1)) = some (.val (.int (k + 1))) := rfl
                  simp only [evalE, evalPart, h1, k1, Out.bind_ok, v1, va, oa, opSl, c2, Out.of_some]
                have o1 : opBin .add (.sq true (xs.take k.toNat)) (.sq true ys) = some (.val (.tup (xs.take k.toNat ++ ys))) := if_pos (by rw [List.length_take]; omega)
                have o2 : opBin .add (.sq true (xs.take k.toNat ++ ys)) (.sq true (xs.drop (k.toNat + 1))) = some (.val (.tup (xs.take k.toNat ++ ys ++ xs.drop (k.toNat + 1)))) := if_pos (by rw [List.length_append, List.length_take, List.length_drop]; omega)
                have b1 : ∀ (p q : Ex) s, evalE F (.bin .add p q) env s = (evalE F p env s).bind fun ra st1 => (evalE F q env st1).bind fun rb st2 => Out.of (opBin .add (ra.vw st2) (rb.vw st2)) st2 := fun p q s => by simp only [evalE]
                rw [b1, b1, s1', Out.bind_ok, hz, Out.bind_ok, v2, v2, o1]
                show ((Out.ok _ s1 : Out Res).bind _) = _
                rw [Out.bind_ok, s2', Out.bind_ok, v2, v2, o2]
                rfl
              cases hz : evalE F z env st with
              | bad => rw [hz] at hW; exact hW.elim
              | exc c fs s => rw [hz] at hW; exact hW.elim
              | ok r s1 =>
                rw [hz] at hW
                obtain ⟨⟨d2, rfl, gd2⟩, i1⟩ := hW
                obtain ⟨b2, u2, n1, n2, n3⟩ := mapR_ok m2 gd2
                unfold repA at n2
                split at n2
                · rename_i l1 u1 e3 l2 u2' e4 q1 q2
                  split at n2
                  · rename_i hsz
                    cases n2
                    obtain ⟨xs, rfl, x1, x2, x3⟩ := asSeq_ok q1 m1
                    obtain ⟨ys, rfl, y1, y2, y3⟩ := asSeq_ok q2 n1
                    have hn : n = xs.length := by cases k3; rfl
                    rw [key xs rfl hn ys s1 (by omega) hz]
                    refine ⟨m3 _ (n3 _ ⟨_, rfl, one_g ⟨_, rfl, ?_, ?_, fun p hp => ?_⟩⟩), i1⟩
                    · simp; omega
                    · simp; omega
                    · rcases List.mem_append.mp hp with hp | hp
                      · rcases List.mem_append.mp hp with hp | hp
                        · exact jn_l (x3 p (List.mem_of_mem_take hp))
                        · exact jn_r (y3 p hp)
                      · exact jn_l (x3 p (List.mem_of_mem_drop hp))
                  · cases n2
                · cases n2
            · cases e
          · cases er
        · cases er
      · cases er
    · split at e
      · rename_i va vb e1 e2
        simp only [evalE]
        refine W_bindI (absE_ok x e1 g hi) fun r1 s1 ⟨g1, i1⟩ => W_bindI (absE_ok y e2 g i1) fun r2 s2 ⟨g2, i2⟩ => ?_
        obtain ⟨d1, p1, p2⟩ := g1.seen
        obtain ⟨d2, q1, q2⟩ := g2.seen
        obtain ⟨r, h1, h2⟩ := binV_ok (st := s2) e p1 q1
        rw [p2, q2]
        exact W_of h1 ⟨h2, i2⟩
      · cases e
  | .neg x, E, env, st, a, e, g, hi => by
    simp only [absE] at e
    split at e
    · rename_i v e1
      simp only [evalE]
      refine W_bindI (absE_ok x e1 g hi) fun r1 s1 ⟨g1, i1⟩ => ?_
      obtain ⟨d, rfl, gd⟩ := g1
      obtain ⟨b, y, h1, h2, h3⟩ := mapR_ok e gd
      cases b <;> simp only [negA, reduceCtorEq, Option.some.injEq] at h2
      subst h2
      obtain ⟨i, rfl, r1, r2⟩ := h1
      refine ⟨h3 _ ⟨_, rfl, one_g ⟨_, rfl, fun l e => ?_, fun l e => ?_⟩⟩, i1⟩
      · simp only [Option.map_eq_some_iff] at e
        obtain ⟨z, e, rfl⟩ := e
        have := r2 z e
        omega
      · simp only [Option.map_eq_some_iff] at e
        obtain ⟨z, e, rfl⟩ := e
        have := r1 z e
        omega
    · cases e
  | .cmp op x y, E, env, st, a, e, g, hi => by
    simp only [absE] at e
    split at e
    · rename_i va vb e1 e2
      simp only [Option.map_eq_some_iff] at e
      obtain ⟨⟨t, f⟩, e, rfl⟩ := e
      simp only [evalE]
      refine W_bindI (absE_ok x e1 g hi) fun r1 s1 ⟨g1, i1⟩ => W_bindI (absE_ok y e2 g i1) fun r2 s2 ⟨g2, i2⟩ => ?_
      obtain ⟨d1, p1, p2⟩ := g1.seen
      obtain ⟨d2, q1, q2⟩ := g2.seen
      obtain ⟨r, h1, h2⟩ := cmpV_ok (st := s2) e p1 q1
      rw [p2, q2, h1]
      exact ⟨blA_ok h2, i2⟩
    · cases e
  | .cmp2 op op2 x y z, E, env, st, a, e, g, hi => by
    simp only [absE] at e
    split at e
    · rename_i va vb vc e1 e2 e3
      split at e
      · rename_i p q c1 c2
        obtain ⟨t1, f1⟩ := p
        obtain ⟨t2, f2⟩ := q
        cases e
        simp only [evalE]
        refine W_bindI (absE_ok x e1 g hi) fun r1 s1 ⟨g1, i1⟩ => W_bindI (absE_ok y e2 g i1) fun r2 s2 ⟨g2, i2⟩ => ?_
        obtain ⟨d1, p1, p2⟩ := g1.seen
        obtain ⟨d2, q1, q2⟩ := g2.seen
        obtain ⟨r, h1, h2⟩ := cmpV_ok (st := s2) c1 p1 q1
        rw [p2, q2, h1]
        cases r with
        | true =>
          dsimp only
          refine W_bindI (absE_ok z e3 g i2) fun r3 s3 ⟨g3, i3⟩ => ?_
          obtain ⟨d3, u1, u2⟩ := g3.seen
          obtain ⟨r', h3, h4⟩ := cmpV_ok (st := s3) c2 q1 u1
          rw [q2, u2, h3]
          refine ⟨blA_ok ?_, i3⟩
          have := may_or (t := false) (f := f1) (.inr h4)
          simpa using this
        | false =>
          refine ⟨blA_ok ?_, i2⟩
          have h2 : f1 = true := h2
          simp [may, h2]
      · cases e
    · cases e
  | .not x, E, env, st, a, e, g, hi => by
    simp only [absE] at e
    split at e
    · rename_i va e1
      simp only [Option.map_eq_some_iff] at e
      obtain ⟨⟨t, f⟩, e, rfl⟩ := e
      simp only [evalE]
      refine W_bindI (absE_ok x e1 g hi) fun r1 s1 ⟨g1, i1⟩ => ?_
      obtain ⟨d1, p1, p2⟩ := g1.seen
      obtain ⟨b, ⟨y1, y2⟩, h1, h2, h3⟩ := mapT_ok e p1
      obtain ⟨r, h4, h5⟩ := truA_ok (st := s1) h2 h1
      rw [p2, h4]
      exact ⟨blA_ok (may_not (h3 _ h5)), i1⟩
    · cases e
  | .and es, E, env, st, a, e, g, hi => by
    simp only [absE] at e
    simp only [evalE]
    exact absAnd_ok es e g hi
  | .or es, E, env, st, a, e, g, hi => by
    simp only [absE] at e
    simp only [evalE]
    exact absOr_ok es e g hi
  | .ife c x y, E, env, st, a, e, g, hi => by
    simp only [absE] at e
    split at e
    · rename_i T G e1
      split at e
      · rename_i va vb e2 e3
        simp only [evalE]
        refine W_bindI (absT_ok c e1 g hi) fun b s1 ⟨g1, i1⟩ => ?_
        cases b with
        | true =>
          rw [if_pos rfl] at g1 ⊢
          cases T with
          | none => exact g1.elim
          | some T => exact (absE_ok x e2 g1 i1).imp fun r s ⟨q1, q2⟩ => ⟨jnR_ok e (.inl q1), q2⟩
        | false =>
          rw [if_neg Bool.false_ne_true] at g1 ⊢
          cases G with
          | none => exact g1.elim
          | some G => exact (absE_ok y e3 g1 i1).imp fun r s ⟨q1, q2⟩ => ⟨jnR_ok e (.inr q1), q2⟩
      · cases e
    · cases e
  | .tup es, E, env, st, a, e, g, hi => by
    simp only [absE] at e
    split at e
    · rename_i as e1
      split at e
      · rename_i vs e2
        split at e
        · rename_i hl
          cases e
          simp only [evalE]
          refine W_bindI (absRs_ok es e1 g hi) fun rs s1 ⟨g1, i1⟩ => ?_
          obtain ⟨ds, h1, h2⟩ := vsOf_ok e2 g1
          rw [h1]
          dsimp only
          rw [if_pos (by rw [AVs.g_len h2]; exact Nat.le_trans hl (by decide))]
          exact ⟨⟨_, rfl, one_g ⟨ds, rfl, h2⟩⟩, i1⟩
        · cases e
      · cases e
    · cases e
  | .lst es, E, env, st, a, e, g, hi => by
    simp only [absE] at e
    split at e
    · rename_i as e1
      split at e
      · rename_i vs e2
        split at e
        · rename_i hl
          cases e
          simp only [evalE]
          refine W_bindI (absRs_ok es e1 g hi) fun rs s1 ⟨g1, i1⟩ => ?_
          obtain ⟨ds, h1, h2⟩ := vsOf_ok e2 g1
          have hn := AVs.g_len h2
          rw [h1]
          dsimp only
          rw [if_pos (by rw [hn]; exact Nat.le_trans hl (by decide))]
          exact ⟨⟨ds, rfl, one_g ⟨ds, rfl, by omega, by omega, allVs_ok h2⟩⟩, i1⟩
        · cases e
      · cases e
    · cases e
  | .dct es, E, env, st, a, e, g, hi => by simp [absE] at e
  | .ix x y, E, env, st, a, e, g, hi => by
    simp only [absE] at e
    split at e
    · rename_i z e1
      cases e
      exact ixF_ok e1 g hi
    · rename_i z e0 e1
      cases e
      exact ixD_ok hD e1 g hi
    · split at e
      · rename_i va vb e1 e2
        simp only [evalE]
        refine W_bindI (absE_ok x e1 g hi) fun r1 s1 ⟨g1, i1⟩ => W_bindI (absE_ok y e2 g i1) fun r2 s2 ⟨g2, i2⟩ => ?_
        obtain ⟨d1, p1, p2⟩ := g1.seen
        obtain ⟨d2, q1, q2⟩ := g2.seen
        obtain ⟨r, h1, h2⟩ := ixV_ok (st := s2) e p1 q1
        rw [p2, q2, h1]
        exact ⟨h2, i2⟩
      · cases e
  | .sl x lo up, E, env, st, a, e, g, hi => by
    simp only [absE] at e
    split at e
    · rename_i va pl ph e1 e2 e3
      simp only [evalE]
      refine W_bindI (absE_ok x e1 g hi) fun r1 s1 ⟨g1, i1⟩ => W_bindI (absP_ok lo e2 g i1) fun l s2 ⟨g2, i2⟩ => W_bindI (absP_ok up e3 g i2) fun u s3 ⟨g3, i3⟩ => ?_
      obtain ⟨d1, p1, p2⟩ := g1.seen
      obtain ⟨b, y, h1, h2, h3⟩ := mapR_ok e p1
      simp only [Option.map_eq_some_iff] at h2
      obtain ⟨⟨o, z⟩, h2, rfl⟩ := h2
      obtain ⟨d, m1, m2, m3⟩ := slA_ok (st := s3) (l := l) h2 h1 g3
      rw [p2]
      exact W_of m1 ⟨h3 _ (mk_ok m2 m3), i3⟩
    · cases e
  | .rev x, E, env, st, a, e, g, hi => by
    simp only [absE] at e
    split at e
    · rename_i va e1
      simp only [evalE]
      refine W_bindI (absE_ok x e1 g hi) fun r1 s1 ⟨g1, i1⟩ => ?_
      obtain ⟨d1, p1, p2⟩ := g1.seen
      obtain ⟨b, y, h1, h2, h3⟩ := mapR_ok e p1
      simp only [Option.map_eq_some_iff] at h2
      obtain ⟨⟨o, z⟩, h2, rfl⟩ := h2
      obtain ⟨d, m1, m2, m3⟩ := revA_ok (st := s1) h2 h1
      rw [p2]
      exact W_of m1 ⟨h3 _ (mk_ok m2 m3), i1⟩
    · cases e
  | .sset x, E, env, st, a, e, g, hi => by
    simp only [absE] at e
    cases e
  | .call f es, E, env, st, a, e, g, hi => by
    simp only [absE] at e
    split at e
    · rename_i as e1
      split at e
      · rename_i vs e2
        simp only [evalE]
        refine W_bindI (absRs_ok es e1 g hi) fun rs s1 ⟨g1, i1⟩ => ?_
        obtain ⟨ds, h1, h2⟩ := vsOf_ok e2 g1
        rw [h1]
        exact callS_ok hC e h2 i1
      · cases e
    · cases e
  | .bi f es, E, env, st, a, e, g, hi => by
    simp only [absE] at e
    split at e
    · rename_i x e1
      simp only [evalE]
      refine W_bindI (absRs_ok es e1 g hi) fun rs s1 ⟨g1, i1⟩ => ?_
      obtain ⟨r, q, rfl, g1, g2⟩ := g1
      simp only [gRs] at g2
      subst g2
      obtain ⟨d1, p1, p2⟩ := g1.seen
      obtain ⟨b, y, h1, h2, h3⟩ := mapR_ok e p1
      simp only [Option.map_eq_some_iff] at h2
      obtain ⟨⟨o, z⟩, h2, rfl⟩ := h2
      obtain ⟨d, m1, m2, m3⟩ := bi1A_ok (st := s1) h2 h1
      show (Out.of (opBI f [r.vw s1]) s1).W _
      rw [p2]
      exact W_of m1 ⟨h3 _ (mk_ok m2 m3), i1⟩
    · cases e
  | .isi x t, E, env, st, a, e, g, hi => by
    simp only [absE] at e
    split at e
    · rename_i va e1
      simp only [Option.map_eq_some_iff] at e
      obtain ⟨⟨t', f⟩, e, rfl⟩ := e
      simp only [evalE]
      refine W_bindI (absE_ok x e1 g hi) fun r1 s1 ⟨g1, i1⟩ => ?_
      obtain ⟨d1, p1, p2⟩ := g1.seen
      obtain ⟨b, y, h1, h2, h3⟩ := mapT_ok e p1
      simp only [Option.map_eq_some_iff] at h2
      obtain ⟨b', h2, rfl⟩ := h2
      have h4 := isiA_ok (st := s1) h2 h1
      rw [p2, h4]
      exact ⟨blA_ok (h3 _ (by cases b' <;> rfl)), i1⟩
    · cases e
  | .mth m o es, E, env, st, a, e, g, hi => by
    simp only [absE] at e
    split at e
    · rename_i x y e1 e2
      simp only [evalE]
      refine W_bindI (absE_ok o e1 g hi) fun r1 s1 ⟨g1, i1⟩ => ?_
      obtain ⟨d1, p1, p2⟩ := g1.seen
      split at e
      · rename_i hs
        obtain ⟨z, rfl⟩ := strV_ok hs p1
        rw [if_pos (by rw [p2]; rfl)]
        refine W_bindI (absRs_ok es e2 g i1) fun rs s2 ⟨g2, i2⟩ => ?_
        obtain ⟨r, q, rfl, g2, g3⟩ := g2
        simp only [gRs] at g3
        subst g3
        obtain ⟨d2, q1, q2⟩ := g2.seen
        obtain ⟨b, y', h1, h2, h3⟩ := mapR_ok e p1
        obtain ⟨b2, y2, k1, k2, k3⟩ := mapR_ok h2 q1
        simp only [Option.map_eq_some_iff] at k2
        obtain ⟨w, k2, rfl⟩ := k2
        obtain ⟨_, d, m1, m2⟩ := joinA_ok (st := s2) k2 h1 k1
        show (Out.of (opM .join (r1.vw s2) [r.vw s2]) s2).W _
        rw [p2, q2]
        exact W_of m1 ⟨h3 _ (k3 _ ⟨d, rfl, one_g m2⟩), i2⟩
      · cases e
    · rename_i x e1 e2
      simp only [evalE]
      refine W_bindI (absE_ok o e1 g hi) fun r1 s1 ⟨g1, i1⟩ => ?_
      obtain ⟨d1, p1, p2⟩ := g1.seen
      obtain ⟨b, y, h1, h2, h3⟩ := mapR_ok e p1
      simp only [Option.map_eq_some_iff] at h2
      obtain ⟨w, h2, rfl⟩ := h2
      rw [if_pos (by rw [p2]; exact (upA_ok h2 h1).1)]
      refine W_bindI (absRs_ok es e2 g i1) fun rs s2 ⟨g2, i2⟩ => ?_
      simp only [gRs] at g2
      subst g2
      obtain ⟨_, d, m1, m2⟩ := upA_ok (st := s2) h2 h1
      show (Out.of (opM .upper (r1.vw s2) []) s2).W _
      rw [p2]
      exact W_of m1 ⟨h3 _ ⟨d, rfl, one_g m2⟩, i2⟩
    · cases e
  | .comp own tg it ifs elt, E, env, st, a, e, g, hi => by
    simp only [absE] at e
    split at e
    · rename_i el n m e1
      split at e
      · rename_i hm
        split at e
        · rename_i E1 e2
          split at e
          · rename_i T G e3
            split at e
            · rename_i x e4
              split at e
              · rename_i v e5
                cases e
                simp only [evalE]
                refine W_bindI (W_and (absI_ok it e1 g hi) (rngOf_ok it e1 g)) fun xs s1 ⟨⟨l1, l2, hx, i1⟩, hpl⟩ => ?_
                have hput : ∀ d, (AV.g el d ∧ plc (wipeE env own) (match rngOf it with | some j => if own.contains j = true then none else some j | none => none) d) → ∃ env', tg.put d (wipeE env own) = some env' ∧ ∀ st, I st → ((fun e s => evalIfs F ifs e s) env' st).W fun b st' => I st' ∧ (b = true → ((fun e s => evalE F elt e s) env' st').W fun r st'' => I st'' ∧ ∃ d', r.toD = some d' ∧ AV.g v d') := by
                  intro d gd
                  obtain ⟨env', h1, h2⟩ := putF_ok e2 gd.1 (wipeA_ok g own) gd.2
                  refine ⟨env', h1, fun st hi => ?_⟩
                  refine (absIfs_ok ifs e3 h2 hi).imp fun b s ⟨q1, q2⟩ => ⟨q2, fun hb => ?_⟩
                  subst hb
                  rw [if_pos rfl] at q1
                  exact (absE_ok elt e4 q1 q2).imp fun r s ⟨u1, u2⟩ => ⟨u2, u1.toD e5⟩
                have hx2 : ∀ x ∈ xs, AV.g el x ∧ plc (wipeE env own) (match rngOf it with | some j => if own.contains j = true then none else some j | none => none) x := by
                  refine fun x h => ⟨hx x h, fun j hj => ?_⟩
                  split at hj
                  · rename_i j' hr
                    split at hj
                    · cases hj
                    · rename_i hno
                      cases hj
                      obtain ⟨k, n', q, a1, a2, a3⟩ := hpl x h j hr
                      refine ⟨k, n', q, a1, ?_, a3⟩
                      rw [wipeE_at, if_neg (by simpa using hno)]
                      exact a2
                  · cases hj
                have hW := comp_ok (m := m) hput xs [] s1 hx2 (by simp) i1 (by simpa using l2) hm
                cases hc : compL tg.put (fun e s => evalIfs F ifs e s) (fun e s => evalE F elt e s) (wipeE env own) xs [] s1 with
                | bad => rw [hc] at hW; exact hW.elim
                | exc c fs s => rw [hc] at hW; exact hW.elim
                | ok ds s2 =>
                  rw [hc] at hW
                  obtain ⟨q1, q2, q3⟩ := hW
                  refine ⟨⟨ds, rfl, one_g ⟨ds, rfl, ?_, by simp at q3; omega, q2⟩⟩, q1⟩
                  cases ifs with
                  | nil =>
                    have hcl : compL tg.put (fun _ s => .ok true s) (fun e s => evalE F elt e s) (wipeE env own) xs [] s1 = .ok ds s2 := by
                      rw [← hc]
                      congr 1
                    have hlen := comp_len xs [] s1 ds s2 hcl
                    show n ≤ ds.length
                    rw [hlen]
                    simpa using l1
                  | cons _ _ => exact Nat.zero_le _
              · cases e
            · cases e
          · cases e
        · cases e
      · cases e
    · cases e
theorem absT_ok : ∀ (t : Te) {E : AEnv} {env : Env} {st : Store} {p : Option AEnv × Option AEnv}, absT C dr t E = some p → gE E env → I st → (evalT F t env st).W fun b st' => gOE (if b = true then p.1 else p.2) env ∧ I st'
  | .val x, E, env, st, p, e, g, hi => by
    simp only [absT] at e
    split at e
    · rename_i va e1
      simp only [Option.map_eq_some_iff] at e
      obtain ⟨⟨t, f⟩, e, rfl⟩ := e
      have hW : (evalT F (.val x) env st).W fun b st' => may t f b ∧ I st' := by
        simp only [evalT]
        refine W_bindI (absE_ok x e1 g hi) fun r1 s1 ⟨g1, i1⟩ => ?_
        obtain ⟨d1, p1, p2⟩ := g1.seen
        obtain ⟨b, ⟨y1, y2⟩, h1, h2, h3⟩ := mapT_ok e p1
        obtain ⟨r, h4, h5⟩ := truA_ok (st := s1) h2 h1
        rw [p2]
        exact W_of h4 ⟨h3 _ h5, i1⟩
      cases hv : evalT F (.val x) env st with
      | bad => rw [hv] at hW; exact hW.elim
      | exc c fs s => rw [hv] at hW; exact hW.elim
      | ok b s =>
        rw [hv] at hW
        obtain ⟨k1, k2⟩ := refT_ok (.val x) g hv
        exact ⟨two_ok hW.1 k1 k2, hW.2⟩
    · cases e
  | .cmp op x y, E, env, st, p, e, g, hi => by
    simp only [absT] at e
    split at e
    · rename_i va vb e1 e2
      simp only [Option.map_eq_some_iff] at e
      obtain ⟨⟨t, f⟩, e, rfl⟩ := e
      have hW : (evalT F (.cmp op x y) env st).W fun b st' => may t f b ∧ I st' := by
        simp only [evalT]
        refine W_bindI (absE_ok x e1 g hi) fun r1 s1 ⟨g1, i1⟩ => W_bindI (absE_ok y e2 g i1) fun r2 s2 ⟨g2, i2⟩ => ?_
        obtain ⟨d1, p1, p2⟩ := g1.seen
        obtain ⟨d2, q1, q2⟩ := g2.seen
        obtain ⟨r, h1, h2⟩ := cmpV_ok (st := s2) e p1 q1
        rw [p2, q2]
        exact W_of h1 ⟨h2, i2⟩
      cases hv : evalT F (.cmp op x y) env st with
      | bad => rw [hv] at hW; exact hW.elim
      | exc c fs s => rw [hv] at hW; exact hW.elim
      | ok b s =>
        rw [hv] at hW
        obtain ⟨k1, k2⟩ := refT_ok (.cmp op x y) g hv
        exact ⟨two_ok hW.1 k1 k2, hW.2⟩
    · cases e
  | .cmp2 op op2 x y z, E, env, st, p, e, g, hi => by
    simp only [absT] at e
    split at e
    · rename_i va vb vc e1 e2 e3
      split at e
      · rename_i p q c1 c2
        obtain ⟨t1, f1⟩ := p
        obtain ⟨t2, f2⟩ := q
        cases e
        simp only [evalT]
        refine W_bindI (absE_ok x e1 g hi) fun r1 s1 ⟨g1, i1⟩ => W_bindI (absE_ok y e2 g i1) fun r2 s2 ⟨g2, i2⟩ => ?_
        obtain ⟨d1, p1, p2⟩ := g1.seen
        obtain ⟨d2, q1, q2⟩ := g2.seen
        obtain ⟨r, h1, h2⟩ := cmpV_ok (st := s2) c1 p1 q1
        rw [p2, q2, h1]
        cases r with
        | true =>
          dsimp only
          refine W_bindI (absE_ok z e3 g i2) fun r3 s3 ⟨g3, i3⟩ => ?_
          obtain ⟨d3, u1, u2⟩ := g3.seen
          obtain ⟨r', h3, h4⟩ := cmpV_ok (st := s3) c2 q1 u1
          rw [q2, u2]
          refine W_of h3 ⟨two_ok (b := r') ?_ (fun _ => g) (fun _ => g), i3⟩
          have := may_or (t := false) (f := f1) (.inr h4)
          simpa using this
        | false =>
          refine ⟨two_ok (b := false) ?_ (fun _ => g) (fun _ => g), i2⟩
          have h2 : f1 = true := h2
          simp [may, h2]
      · cases e
    · cases e
  | .not t, E, env, st, p, e, g, hi => by
    simp only [absT, Option.map_eq_some_iff] at e
    obtain ⟨q, e, rfl⟩ := e
    simp only [evalT]
    refine W_bindI (absT_ok t e g hi) fun b s ⟨g1, i1⟩ => ?_
    refine ⟨?_, i1⟩
    cases b <;> exact g1
  | .and ts, E, env, st, p, e, g, hi => by
    simp only [absT] at e
    simp only [evalT]
    exact absAndT_ok ts e g hi
  | .or ts, E, env, st, p, e, g, hi => by
    simp only [absT] at e
    simp only [evalT]
    exact absOrT_ok ts e g hi
theorem absAnd_ok : ∀ (es : Exs) {E : AEnv} {env : Env} {st : Store} {a : AR}, absAnd C dr es E = some a → gE E env → I st → (evalAnd F es env st).W fun r st' => gR a r ∧ I st'
  | .nil, E, env, st, a, e, g, hi => by simp [absAnd] at e
  | .cons x .nil, E, env, st, a, e, g, hi => by
    simp only [absAnd] at e
    simp only [evalAnd]
    exact absE_ok x e g hi
  | .cons x (.cons y es), E, env, st, a, e, g, hi => by
    simp only [absAnd] at e
    split at e
    · rename_i v e1
      split at e
      · rename_i t f e2
        split at e
        · rename_i z e3
          simp only [evalAnd]
          refine W_bindI (absE_ok x e1 g hi) fun r1 s1 ⟨g1, i1⟩ => ?_
          obtain ⟨d, rfl, gd⟩ := g1
          obtain ⟨b, rfl, hb⟩ := blV_ok e2 gd
          cases b with
          | true =>
            have ht : t = true := hb
            subst ht
            rw [if_pos rfl] at e3
            exact (absAnd_ok (.cons y es) e3 g i1).imp fun r s ⟨q1, q2⟩ => ⟨jnR_ok e (.inl q1), q2⟩
          | false =>
            have hf : f = true := hb
            subst hf
            exact ⟨jnR_ok e (.inr (by rw [if_pos rfl]; exact blA_ok (b := false) rfl)), i1⟩
        · cases e
      · cases e
    · cases e
theorem absOr_ok : ∀ (es : Exs) {E : AEnv} {env : Env} {st : Store} {a : AR}, absOr C dr es E = some a → gE E env → I st → (evalOr F es env st).W fun r st' => gR a r ∧ I st'
  | .nil, E, env, st, a, e, g, hi => by simp [absOr] at e
  | .cons x .nil, E, env, st, a, e, g, hi => by
    simp only [absOr] at e
    simp only [evalOr]
    exact absE_ok x e g hi
  | .cons x (.cons y es), E, env, st, a, e, g, hi => by
    simp only [absOr] at e
    split at e
    · rename_i v e1
      split at e
      · rename_i t f e2
        split at e
        · rename_i z e3
          simp only [evalOr]
          refine W_bindI (absE_ok x e1 g hi) fun r1 s1 ⟨g1, i1⟩ => ?_
          obtain ⟨d, rfl, gd⟩ := g1
          obtain ⟨b, rfl, hb⟩ := blV_ok e2 gd
          cases b with
          | false =>
            have hf : f = true := hb
            subst hf
            rw [if_pos rfl] at e3
            exact (absOr_ok (.cons y es) e3 g i1).imp fun r s ⟨q1, q2⟩ => ⟨jnR_ok e (.inl q1), q2⟩
          | true =>
            have ht : t = true := hb
            subst ht
            exact ⟨jnR_ok e (.inr (by rw [if_pos rfl]; exact blA_ok (b := true) rfl)), i1⟩
        · cases e
      · cases e
    · cases e
theorem absAndT_ok : ∀ (ts : Tes) {E : AEnv} {env : Env} {st : Store} {p : Option AEnv × Option AEnv}, absAndT C dr ts E = some p → gE E env → I st → (evalAndT F ts env st).W fun b st' => gOE (if b = true then p.1 else p.2) env ∧ I st'
  | .nil, E, env, st, p, e, g, hi => by simp [absAndT] at e
  | .cons t .nil, E, env, st, p, e, g, hi => by
    simp only [absAndT] at e
    simp only [evalAndT]
    exact absT_ok t e g hi
  | .cons t (.cons u ts), E, env, st, p, e, g, hi => by
    simp only [absAndT] at e
    split at e
    · rename_i T G e1
      split at e
      · rename_i T2 G2 e2
        simp only [Option.map_eq_some_iff] at e
        obtain ⟨z, e, rfl⟩ := e
        simp only [evalAndT]
        refine W_bindI (absT_ok t e1 g hi) fun b s1 ⟨g1, i1⟩ => ?_
        cases b with
        | true =>
          rw [if_pos rfl] at g1 ⊢
          refine (absAndT_ok (.cons u ts) e2 g1 i1).imp fun b s ⟨q1, q2⟩ => ⟨?_, q2⟩
          cases b with
          | true => exact q1
          | false => exact jnOE_ok e (.inr q1)
        | false =>
          rw [if_neg Bool.false_ne_true] at g1 ⊢
          exact ⟨jnOE_ok e (.inl g1), i1⟩
      · cases e
    · rename_i G e1
      cases e
      simp only [evalAndT]
      refine W_bindI (absT_ok t e1 g hi) fun b s1 ⟨g1, i1⟩ => ?_
      cases b with
      | true => exact (show False from g1).elim
      | false => exact ⟨g1, i1⟩
    · cases e
theorem absOrT_ok : ∀ (ts : Tes) {E : AEnv} {env : Env} {st : Store} {p : Option AEnv × Option AEnv}, absOrT C dr ts E = some p → gE E env → I st → (evalOrT F ts env st).W fun b st' => gOE (if b = true then p.1 else p.2) env ∧ I st'
  | .nil, E, env, st, p, e, g, hi => by simp [absOrT] at e
  | .cons t .nil, E, env, st, p, e, g, hi => by
    simp only [absOrT] at e
    simp only [evalOrT]
    exact absT_ok t e g hi
  | .cons t (.cons u ts), E, env, st, p, e, g, hi => by
    simp only [absOrT] at e
    split at e
    · rename_i T G e1
      split at e
      · rename_i T2 G2 e2
        simp only [Option.map_eq_some_iff] at e
        obtain ⟨z, e, rfl⟩ := e
        simp only [evalOrT]
        refine W_bindI (absT_ok t e1 g hi) fun b s1 ⟨g1, i1⟩ => ?_
        cases b with
        | true =>
          rw [if_pos rfl] at g1 ⊢
          exact ⟨jnOE_ok e (.inl g1), i1⟩
        | false =>
          rw [if_neg Bool.false_ne_true] at g1 ⊢
          refine (absOrT_ok (.cons u ts) e2 g1 i1).imp fun b s ⟨q1, q2⟩ => ⟨?_, q2⟩
          cases b with
          | true => exact jnOE_ok e (.inr q1)
          | false => exact q1
      · cases e
    · rename_i T e1
      cases e
      simp only [evalOrT]
      refine W_bindI (absT_ok t e1 g hi) fun b s1 ⟨g1, i1⟩ => ?_
      cases b with
      | true => exact ⟨g1, i1⟩
      | false => exact (show False from g1).elim
    · cases e
theorem absRs_ok : ∀ (es : Exs) {E : AEnv} {env : Env} {st : Store} {as : List AR}, absRs C dr es E = some as → gE E env → I st → (evalRs F es env st).W fun rs st' => gRs as rs ∧ I st'
  | .nil, E, env, st, a, e, g, hi => by
    simp only [absRs, Option.some.injEq] at e
    subst e
    simp only [evalRs]
    exact ⟨rfl, hi⟩
  | .cons x es, E, env, st, a, e, g, hi => by
    simp only [absRs] at e
    split at e
    · rename_i y ys e1 e2
      cases e
      simp only [evalRs]
      refine W_bindI (absE_ok x e1 g hi) fun r1 s1 ⟨g1, i1⟩ => W_bindI (absRs_ok es e2 g i1) fun rs s2 ⟨g2, i2⟩ => ?_
      exact ⟨⟨r1, rs, rfl, g1, g2⟩, i2⟩
    · cases e
theorem absP_ok : ∀ (es : Exs) {E : AEnv} {env : Env} {st : Store} {p : Option (Option Int × Option Int)}, absP C dr es E = some p → gE E env → I st → (evalPart F es env st).W fun o st' => inP p o ∧ I st'
  | .nil, E, env, st, a, e, g, hi => by
    simp only [absP, Option.some.injEq] at e
    subst e
    simp only [evalPart]
    exact ⟨trivial, hi⟩
  | .cons x .nil, E, env, st, a, e, g, hi => by
    simp only [absP] at e
    split at e
    · rename_i v e1
      simp only [Option.map_eq_some_iff] at e
      obtain ⟨⟨l, h⟩, e, rfl⟩ := e
      simp only [evalPart]
      refine W_bindI (absE_ok x e1 g hi) fun r1 s1 ⟨g1, i1⟩ => ?_
      obtain ⟨d, rfl, gd⟩ := g1
      obtain ⟨i, rfl, hr⟩ := rngV_ok e gd
      exact ⟨hr, i1⟩
    · cases e
  | .cons _ (.cons _ _), E, env, st, a, e, g, hi => by simp [absP] at e
theorem absIfs_ok : ∀ (ts : Tes) {E : AEnv} {env : Env} {st : Store} {p : Option AEnv × Option AEnv}, absIfs C dr ts E = some p → gE E env → I st → (evalIfs F ts env st).W fun b st' => gOE (if b = true then p.1 else p.2) env ∧ I st'
  | .nil, E, env, st, p, e, g, hi => by
    simp only [absIfs, Option.some.injEq] at e
    subst e
    simp only [evalIfs]
    exact ⟨g, hi⟩
  | .cons t .nil, E, env, st, p, e, g, hi => by
    simp only [absIfs] at e
    simp only [evalIfs]
    exact absT_ok t e g hi
  | .cons _ (.cons _ _), E, env, st, p, e, g, hi => by simp [absIfs] at e
theorem absI_ok : ∀ (it : Itr) {E : AEnv} {env : Env} {st : Store} {el : AV} {n m : Nat}, absI C dr it E = some (el, n, m) → gE E env → I st → (evalI F it env st).W fun xs st' => n ≤ xs.length ∧ xs.length ≤ m ∧ (∀ x ∈ xs, AV.g el x) ∧ I st'
  | .it x, E, env, st, el, n, m, e, g, hi => by
    simp only [absI] at e
    split at e
    · rename_i v e1
      simp only [evalI]
      refine W_bindI (absE_ok x e1 g hi) fun r1 s1 ⟨g1, i1⟩ => ?_
      obtain ⟨d, rfl, gd⟩ := g1
      rcases wkV_ok e gd with ⟨z, rfl, h1, h2, h3⟩ | ⟨t, xs, rfl, h1, h2, h3⟩
      · refine ⟨by rw [List.length_map, Array.length_toList]; exact h1, by rw [List.length_map, Array.length_toList]; exact h2, fun x hx => ?_, i1⟩
        obtain ⟨c, hc, rfl⟩ := List.mem_map.mp hx
        exact h3 c hc
      · cases t <;> exact ⟨h1, h2, h3, i1⟩
    · rename_i v e1
      simp only [evalI]
      refine W_bindI (absE_ok x e1 g hi) fun r1 s1 ⟨g1, i1⟩ => ?_
      obtain ⟨d, rfl, gd⟩ := g1
      rcases wkV_ok e gd with ⟨z, hz, _⟩ | ⟨t, xs, hx, h1, h2, h3⟩
      · cases hz
      · cases t
        · cases hx; exact ⟨h1, h2, h3, i1⟩
        · cases hx
    · cases e
  | .rng .nil, E, env, st, el, n, m, e, g, hi => by simp [absI] at e
  | .rng (.cons x .nil), E, env, st, el, n, m, e, g, hi => by
    simp only [absI] at e
    split at e
    · rename_i v e1
      split at e
      · rename_i l h e2
        split at e
        · rename_i hc
          cases e
          simp only [evalI]
          refine W_bindI (absE_ok x e1 g hi) fun r1 s1 ⟨g1, i1⟩ => ?_
          obtain ⟨d, rfl, gd⟩ := g1
          obtain ⟨i, rfl, hr⟩ := rngV_ok e2 gd
          have k1 := hr.1 _ rfl
          have k2 := hr.2 _ rfl
          obtain ⟨xs, h1, h2, h3, h4⟩ := rng_ok (lo := 0) (hi := i) (l := 0) (h := 0) (l' := l) (h' := h) (by decide) (Int.le_refl _) (Int.le_refl _) (by decide) hc.1 k1 k2 hc.2
          exact W_of h1 ⟨by simpa using h2, by simpa using h3, fun y hy => one_g (h4 y hy), i1⟩
        · cases e
      · cases e
    · cases e
  | .rng (.cons x (.cons y .nil)), E, env, st, el, n, m, e, g, hi => by
    simp only [absI] at e
    split at e
    · rename_i v w e1 e2
      split at e
      · rename_i l h l' h' e3 e4
        split at e
        · rename_i hc
          cases e
          simp only [evalI]
          refine W_bindI (absE_ok x e1 g hi) fun r1 s1 ⟨g1, i1⟩ => W_bindI (absE_ok y e2 g i1) fun r2 s2 ⟨g2, i2⟩ => ?_
          obtain ⟨d, rfl, gd⟩ := g1
          obtain ⟨d', rfl, gd'⟩ := g2
          obtain ⟨i, rfl, hr⟩ := rngV_ok e3 gd
          obtain ⟨j, rfl, hr'⟩ := rngV_ok e4 gd'
          obtain ⟨xs, h1, h2, h3, h4⟩ := rng_ok hc.1 (hr.1 _ rfl) (hr.2 _ rfl) hc.2.1 hc.2.2.1 (hr'.1 _ rfl) (hr'.2 _ rfl) hc.2.2.2
          exact W_of h1 ⟨h2, h3, fun y hy => one_g (h4 y hy), i2⟩
        · cases e
      · cases e
    · cases e
  | .rng (.cons _ (.cons _ (.cons _ _))), E, env, st, el, n, m, e, g, hi => by simp [absI] at e
  | .enum _, E, env, st, el, n, m, e, g, hi => by simp [absI] at e
  | .zip _ _, E, env, st, el, n, m, e, g, hi => by simp [absI] at e
end
end
end Py
end

section
set_option maxRecDepth 100000
set_option maxHeartbeats 4000000
set_option linter.all false
/-! The abstract run of statements and defs. -/
namespace Py
open PySem L2

structure AOut where
  nx : Option AEnv
  rt : Option AR
  bk : Option AEnv
  ct : Option AEnv
def jnOR (a b : Option AR) : Option (Option AR) := match a, b with
  | none, b => some b
  | a, none => some a
  | some x, some y => (jnR x y).map some
def gOR (a : Option AR) (r : Res) : Prop := match a with
  | some x => gR x r
  | none => False
theorem jnOR_ok {a b c : Option AR} {r : Res} (e : jnOR a b = some c) (h : gOR a r ∨ gOR b r) : gOR c r := by
  unfold jnOR at e
  split at e
  · cases e; exact h.elim False.elim id
  · cases e; exact h.elim id False.elim
  · simp only [Option.map_eq_some_iff] at e
    obtain ⟨x, e, rfl⟩ := e
    exact jnR_ok e h
def jnA (A B : AOut) : Option AOut := match jnOE A.nx B.nx, jnOR A.rt B.rt, jnOE A.bk B.bk, jnOE A.ct B.ct with
  | some a, some b, some c, some d => some ⟨a, b, c, d⟩
  | _, _, _, _ => none
def SOut.W (I : Store → Prop) (o : SOut) (A : AOut) : Prop := match o with
  | .nx env st => gOE A.nx env ∧ I st
  | .rt r st => gOR A.rt r ∧ I st
  | .bk env st => gOE A.bk env ∧ I st
  | .ct env st => gOE A.ct env ∧ I st
  | _ => False
theorem jnA_ok {I : Store → Prop} {A B D : AOut} {o : SOut} (e : jnA A B = some D) (h : o.W I A ∨ o.W I B) : o.W I D := by
  unfold jnA at e
  split at e
  · rename_i a b c d e1 e2 e3 e4
    cases e
    cases o with
    | nx env st => exact ⟨jnOE_ok e1 (h.imp (·.1) (·.1)), h.elim (·.2) (·.2)⟩
    | rt r st => exact ⟨jnOR_ok e2 (h.imp (·.1) (·.1)), h.elim (·.2) (·.2)⟩
    | bk env st => exact ⟨jnOE_ok e3 (h.imp (·.1) (·.1)), h.elim (·.2) (·.2)⟩
    | ct env st => exact ⟨jnOE_ok e4 (h.imp (·.1) (·.1)), h.elim (·.2) (·.2)⟩
    | exc c fs env st => exact h.elim id id
    | bad => exact h.elim id id
  · cases e

def mapA1 (f : At → Option At) : AV → Option AV
  | .nil => some .nil
  | .cons a v => match f a, mapA1 f v with
    | some x, some y => some (jn (one x) y)
    | _, _ => none
theorem mapA1_ok {f : At → Option At} : ∀ {v w : AV} {d : D}, mapA1 f v = some w → AV.g v d → ∃ a x, At.g a d ∧ f a = some x ∧ ∀ d', At.g x d' → AV.g w d'
  | .nil, _, _, _, h => by simp [AV.g] at h
  | .cons a v, w, d, e, h => by
    simp only [mapA1] at e
    split at e
    · rename_i x y e1 e2
      cases e
      rw [AV.g] at h
      rcases h with h | h
      · exact ⟨a, x, h, e1, fun d' z => jn_l (one_g z)⟩
      · obtain ⟨a', x', h1, h2, h3⟩ := mapA1_ok e2 h
        exact ⟨a', x', h1, h2, fun d' z => jn_r (h3 d' z)⟩
    · cases e
/-- more things behind -/
def addA (n2 m2 : Nat) (e2 : AV) : At → Option At
  | .seq false n m e => if m + m2 ≤ sizeLine then some (.seq false (n + n2) (m + m2) (jn e e2)) else none
  | _ => none
/-- lists alone -/
def lstV : AV → Option (AV × Nat × Nat)
  | .cons (.seq false n m e) .nil => some (e, n, m)
  | .cons (.seq false n m e) v => match lstV v with
    | some (e', n', m') => some (jn e e', min n n', max m m')
    | none => none
  | _ => none
theorem lstV_ok : ∀ {v e : AV} {n m : Nat} {d : D}, lstV v = some (e, n, m) → AV.g v d → ∃ xs, d = .lst xs ∧ n ≤ xs.length ∧ xs.length ≤ m ∧ ∀ x ∈ xs, AV.g e x
  | .nil, _, _, _, _, e, _ => by cases e
  | .cons a .nil, _, _, _, d, e, g => by
    cases a <;> try cases e
    rename_i t n m e'
    cases t
    · cases e
      simp only [AV.g, or_false] at g
      obtain ⟨xs, rfl, h⟩ := g
      exact ⟨xs, rfl, h⟩
    · cases e
  | .cons a (.cons b v), _, _, _, d, e, g => by
    cases a <;> try cases e
    rename_i t n m e'
    cases t
    · simp only [lstV] at e
      split at e
      · rename_i e2 n2 m2 h2
        cases e
        rw [AV.g] at g
        rcases g with ⟨xs, rfl, h1, h3, h4⟩ | g
        · exact ⟨xs, rfl, by omega, by omega, fun x hx => jn_l (h4 x hx)⟩
        · obtain ⟨xs, rfl, h1, h3, h4⟩ := lstV_ok h2 g
          exact ⟨xs, rfl, by omega, by omega, fun x hx => jn_r (h4 x hx)⟩
      · cases e
    · cases e
def forA (put : AEnv → Option AEnv) (body : AEnv → Option AOut) : Nat → Nat → AEnv → Option AOut
  | 0, _, E => some ⟨some E, none, none, none⟩
  | n + 1, m, E => match put E with
    | none => none
    | some E1 => match body E1 with
      | none => none
      | some B => match jnOE B.nx B.ct, jnA ⟨if m = 0 then some E else none, none, none, none⟩ ⟨B.bk, B.rt, none, none⟩ with
        | some none, some R => some R
        | some (some E2), some R => (match forA put body n (m - 1) E2 with
          | some R2 => jnA R R2
          | none => none)
        | _, _ => none

def Tg.sets (tg : Tg) (j : Nat) : Bool := match tg with
  | .name i => i == j
  | .tup is => is.contains j
mutual
def Sm.sets (j : Nat) : Sm → Bool
  | .set i _ => i == j
  | .vl i _ => i == j
  | .unp is _ => is.contains j
  | .sset i _ _ => i == j
  | .mut _ i _ => i == j
  | .ife _ a b => a.sets j || b.sets j
  | .for_ tg _ body => tg.sets j || body.sets j
  | .wh _ _ body => body.sets j
  | .frz i => i == j
  | .cell i => i == j
  | .move i k => i == j || k == j
  | _ => false
def Sms.sets (j : Nat) : Sms → Bool
  | .nil => false
  | .cons s ss => s.sets j || ss.sets j
end
def keepO (j : Nat) (env : Env) (o : SOut) : Prop := match o with
  | .nx e _ => e[j]? = env[j]?
  | .bk e _ => e[j]? = env[j]?
  | .ct e _ => e[j]? = env[j]?
  | _ => True
theorem keep_sb {α : Type} {j : Nat} {env : Env} {o : Out α} {f : α → Store → SOut} (h : ∀ a st, keepO j env (f a st)) : keepO j env (o.sbind env f) := by
  cases o with
  | ok a st => exact h a st
  | exc c fs st => trivial
  | bad => trivial
theorem keep_chg {j i : Nat} {env : Env} {st : Store} {f : Cell → Option Cell} (h : (i == j) = false) : keepO j env (chg f i env st) := by
  have hij : i ≠ j := by simpa using h
  unfold chg
  split
  · split
    · exact List.getElem?_set_ne hij
    · trivial
  · split
    · split
      · rfl
      · trivial
    · trivial
  · trivial
theorem fold_keep {j : Nat} : ∀ {is : List Nat} {ds : List D} {env : Env}, j ∉ is → ((is.zip ds).foldl (fun e p => e.set p.1 (some (Res.val p.2))) env)[j]? = env[j]?
  | [], ds, env, _ => rfl
  | i :: is, [], env, _ => rfl
  | i :: is, d :: ds, env, h => by
    show (((is.zip ds).foldl (fun e p => e.set p.1 (some (Res.val p.2))) (env.set i (some (.val d)))))[j]? = _
    rw [fold_keep (fun z => h (by simp [z])), List.getElem?_set_ne (fun z => h (by simp [z]))]
theorem keep_put {tg : Tg} {j : Nat} {d : D} {env env' : Env} (h : tg.sets j = false) (e : tg.put d env = some env') : env'[j]? = env[j]? := by
  cases tg with
  | name i =>
    cases e
    exact List.getElem?_set_ne (by simpa [Tg.sets] using h)
  | tup is =>
    simp only [Tg.put] at e
    split at e
    · split at e
      · cases e
        exact fold_keep (by simpa [Tg.sets] using h)
      · cases e
    · cases e
theorem keep_for {F : Fsem} {tg : Tg} {j : Nat} {bod : Env → Store → SOut} (h : tg.sets j = false) (hb : ∀ env st, keepO j env (bod env st)) : ∀ (xs : List D) (env : Env) (st : Store), keepO j env (forL tg.put bod xs env st)
  | [], env, st => rfl
  | x :: xs, env, st => by
    unfold forL
    split
    · trivial
    · rename_i e e1
      have h1 := keep_put h e1
      have h2 := hb e st
      split
      · rename_i e2 s2 e3
        rw [e3] at h2
        have h3 := keep_for (F := F) h hb xs e2 s2
        have h2 : e2[j]? = e[j]? := h2
        revert h3
        cases forL tg.put bod xs e2 s2 <;> intro h3 <;> first | exact h3.trans (h2.trans h1) | trivial
      · rename_i e2 s2 e3
        rw [e3] at h2
        have h3 := keep_for (F := F) h hb xs e2 s2
        have h2 : e2[j]? = e[j]? := h2
        revert h3
        cases forL tg.put bod xs e2 s2 <;> intro h3 <;> first | exact h3.trans (h2.trans h1) | trivial
      · rename_i e2 s2 e3
        rw [e3] at h2
        exact (show e2[j]? = e[j]? from h2).trans h1
      · rename_i n1 n2 n3
        cases eo : bod e st with
        | nx e2 s2 => exact absurd eo (n1 e2 s2)
        | ct e2 s2 => exact absurd eo (n2 e2 s2)
        | bk e2 s2 => exact absurd eo (n3 e2 s2)
        | rt r s => trivial
        | exc c fs e2 s => trivial
        | bad => trivial
theorem keep_wh {j : Nat} {test : Env → Store → Out Bool} {bod : Env → Store → SOut} (hb : ∀ env st, keepO j env (bod env st)) : ∀ (n : Nat) (env : Env) (st : Store), keepO j env (whL test bod n env st)
  | 0, env, st => trivial
  | n + 1, env, st => by
    unfold whL
    refine keep_sb fun b s => ?_
    split
    · have h2 := hb env s
      split
      · rename_i e2 s2 e3
        rw [e3] at h2
        have h3 := keep_wh (test := test) hb n e2 s2
        have h2 : e2[j]? = env[j]? := h2
        revert h3
        cases whL test bod n e2 s2 <;> intro h3 <;> first | exact h3.trans h2 | trivial
      · rename_i e2 s2 e3
        rw [e3] at h2
        have h3 := keep_wh (test := test) hb n e2 s2
        have h2 : e2[j]? = env[j]? := h2
        revert h3
        cases whL test bod n e2 s2 <;> intro h3 <;> first | exact h3.trans h2 | trivial
      · rename_i e2 s2 e3
        rw [e3] at h2
        exact h2
      · rename_i n1 n2 n3
        cases eo : bod env s with
        | nx e2 s2 => exact absurd eo (n1 e2 s2)
        | ct e2 s2 => exact absurd eo (n2 e2 s2)
        | bk e2 s2 => exact absurd eo (n3 e2 s2)
        | rt r s => trivial
        | exc c fs e2 s => trivial
        | bad => trivial
    · rfl
section
variable {F : Fsem} {j : Nat}
mutual
theorem exec_keep : ∀ (s : Sm), s.sets j = false → ∀ (env : Env) (st : Store), keepO j env (execS F s env st)
  | .set i e, h, env, st => by
    simp only [execS]
    refine keep_sb fun r s => ?_
    split
    · exact List.getElem?_set_ne (by simpa [Sm.sets] using h)
    · trivial
  | .vl i e, h, env, st => by
    simp only [execS]
    refine keep_sb fun r s => ?_
    split
    · exact List.getElem?_set_ne (by simpa [Sm.sets] using h)
    · trivial
  | .unp is e, h, env, st => by
    simp only [execS]
    refine keep_sb fun r s => ?_
    split
    · split
      · rename_i e2 e3
        exact keep_put (tg := .tup is) (by simpa [Sm.sets, Tg.sets] using h) e3
      · trivial
    · trivial
  | .sset i k v, h, env, st => by
    simp only [execS]
    refine keep_sb fun r s => ?_
    split
    · trivial
    · refine keep_sb fun r s => ?_
      split
      · exact keep_chg h
      · trivial
  | .mut m i es, h, env, st => by
    simp only [execS]
    split
    · exact keep_sb fun r s => keep_chg h
    · trivial
  | .expr e, h, env, st => by
    simp only [execS]
    exact keep_sb fun r s => rfl
  | .ret e, h, env, st => by
    simp only [execS]
    exact keep_sb fun r s => trivial
  | .retO i, h, env, st => by
    simp only [execS]
    split <;> trivial
  | .ife c a b, h, env, st => by
    simp only [Sm.sets, Bool.or_eq_false_iff] at h
    simp only [execS]
    refine keep_sb fun t s => ?_
    split
    · exact execs_keep a h.1 env s
    · exact execs_keep b h.2 env s
  | .for_ tg it body, h, env, st => by
    simp only [Sm.sets, Bool.or_eq_false_iff] at h
    simp only [execS]
    exact keep_sb fun xs s => keep_for (F := F) h.1 (execs_keep body h.2) xs env s
  | .wh n c body, h, env, st => by
    simp only [Sm.sets] at h
    simp only [execS]
    exact keep_wh (execs_keep body h) n env st
  | .brk, h, env, st => by simp only [execS]; rfl
  | .cont, h, env, st => by simp only [execS]; rfl
  | .pass, h, env, st => by simp only [execS]; rfl
  | .frz i, h, env, st => by
    simp only [execS]
    split
    · exact List.getElem?_set_ne (by simpa [Sm.sets] using h)
    · rfl
    · trivial
  | .cell i, h, env, st => by
    simp only [execS]
    split
    · exact List.getElem?_set_ne (by simpa [Sm.sets] using h)
    · trivial
  | .move i k, h, env, st => by
    simp only [Sm.sets, Bool.or_eq_false_iff, beq_eq_false_iff_ne] at h
    simp only [execS]
    split
    · show ((env.set k none).set i _)[j]? = _
      rw [List.getElem?_set_ne h.1, List.getElem?_set_ne h.2]
    · trivial
theorem execs_keep : ∀ (ss : Sms), ss.sets j = false → ∀ (env : Env) (st : Store), keepO j env (execSs F ss env st)
  | .nil, h, env, st => by simp only [execSs]; rfl
  | .cons s ss, h, env, st => by
    simp only [Sms.sets, Bool.or_eq_false_iff] at h
    simp only [execSs]
    have h1 := exec_keep s h.1 env st
    revert h1
    cases eo : execS F s env st with
    | nx e2 s2 =>
      intro h1
      have h2 := execs_keep ss h.2 e2 s2
      show keepO j env (execSs F ss e2 s2)
      revert h2
      cases execSs F ss e2 s2 <;> intro h2 <;> first | exact h2.trans h1 | trivial
    | _ => exact fun h1 => h1
end
end
/-- a name's place drawn: draw(feed, len(x)) -/
def drOf (dr : Nat) (E : AEnv) : Ex → Option Nat
  | .call f (.cons (.var u) (.cons (.bi .len (.cons (.var k) .nil)) .nil)) => if f = dr then (match E.sl[u]?, E.sl[k]? with
    | some (some (.val (.cons .feed .nil))), some (some (.val v)) => if ln1 v = true then some k else none
    | some (some (.val (.cons .feed .nil))), some (some (.own v)) => if ln1 v = true then some k else none
    | _, _ => none) else none
  | _ => none
def addIf (E : AEnv) (i : Nat) (r : Option Nat) : AEnv := match r with
  | some j => if i = j ∨ E.sl.length ≤ i then E else E.add i j
  | none => E
section
variable (C : Nat → AVs → Option AR) (dr : Nat)
mutual
def absS : Sm → AEnv → Option AOut
  | .set i e, E => match absE C dr e E with
    | some (.val v) => some ⟨some (E.put i (some (.val v))), none, none, none⟩
    | some (.own v) => some ⟨some (E.put i (some (.own v))), none, none, none⟩
    | _ => none
  | .vl i e, E => match absE C dr e E with
    | some x => (match x.toV with
      | some v => some ⟨some (addIf (E.put i (some (.val v))) i (drOf dr E e)), none, none, none⟩
      | none => none)
    | none => none
  | .unp is e, E => match absE C dr e E with
    | some (.val v) => (match putA (.tup is) v E with
      | some E1 => some ⟨some E1, none, none, none⟩
      | none => none)
    | _ => none
  | .mut .append i (.cons e .nil), E => match E.sl[i]?, absE C dr e E with
    | some (some (.own v)), some x => (match x.toV with
      | some w => (match mapA1 (addA 1 1 w) v with
        | some u => some ⟨some (E.put i (some (.own u))), none, none, none⟩
        | none => none)
      | none => none)
    | _, _ => none
  | .mut .extend i (.cons e .nil), E => match E.sl[i]?, absE C dr e E with
    | some (some (.own v)), some x => (match lstV x.v with
      | some (w, n, m) => (match mapA1 (addA n m w) v with
        | some u => some ⟨some (E.put i (some (.own u))), none, none, none⟩
        | none => none)
      | none => none)
    | _, _ => none
  | .expr e, E => match absE C dr e E with
    | some _ => some ⟨some E, none, none, none⟩
    | none => none
  | .ret e, E => match absE C dr e E with
    | some x => some ⟨none, some x, none, none⟩
    | none => none
  | .retO i, E => match E.sl[i]? with
    | some (some (.own v)) => some ⟨none, some (.own v), none, none⟩
    | _ => none
  | .ife c a b, E => match absT C dr c E with
    | some (T, G) => (match (match T with | some T => absSs a T | none => some ⟨none, none, none, none⟩), (match G with | some G => absSs b G | none => some ⟨none, none, none, none⟩) with
      | some x, some y => jnA x y
      | _, _ => none)
    | none => none
  | .for_ tg it body, E => match absI C dr it E with
    | some (e, n, m) => forA (putF tg (match rngOf it with | some j => if (tg.sets j || body.sets j) = true then none else some j | none => none) e) (absSs body) m n E
    | none => none
  | .brk, E => some ⟨none, none, some E, none⟩
  | .cont, E => some ⟨none, none, none, some E⟩
  | .pass, E => some ⟨some E, none, none, none⟩
  | .frz i, E => match E.sl[i]? with
    | some (some (.own v)) => some ⟨some (E.put i (some (.val v))), none, none, none⟩
    | some (some (.val _)) => some ⟨some E, none, none, none⟩
    | _ => none
  | _, _ => none
def absSs : Sms → AEnv → Option AOut
  | .nil, E => some ⟨some E, none, none, none⟩
  | .cons s ss, E => match absS s E with
    | some A => (match A.nx with
      | none => some A
      | some E1 => (match absSs ss E1 with
        | some B => jnA ⟨none, A.rt, A.bk, A.ct⟩ B
        | none => none))
    | none => none
end
end
def valsE : AVs → List (Option AR)
  | .nil => []
  | .cons v vs => some (.val v) :: valsE vs
def absB (C : Nat → AVs → Option AR) (dr : Nat) (n : Nat) (ms : Sms) (vs : AVs) : Option AR :=
  match absSs C dr ms ⟨valsE vs ++ List.replicate (n - vs.len) none, []⟩ with
  | some ⟨nx, rt, none, none⟩ => (match nx, rt with
    | none, some r => some r
    | some _, none => some (.val (one .non))
    | some _, some r => jnR (.val (one .non)) r
    | none, none => some (.val .nil))
  | _ => none
/-- dr: the def that draws -/
def absF (P : Nat → Option FDef) (dr : Nat) (sm : Nat → Nat → AVs → Option AR) : Nat → Nat → AVs → Option AR
  | 0, _, _ => none
  | k + 1, f, vs => if f = dr then (match vs with
    | .cons (.cons .feed .nil) (.cons v .nil) => (match rngV v with
      | some (some l, some h) => if 0 < l ∧ h < 1073741824 then some (.val (one (.int (some 0) (some (h - 1))))) else none
      | _ => none)
    | _ => none) else if k = 0 then none else match sm k f vs with
    | some r => some r
    | none => match P f with
      | some d => absB (absF P dr sm k) dr d.n d.body vs
      | none => none

section
variable {C : Nat → AVs → Option AR} {F : Fsem} {I : Store → Prop}
theorem sb_W {α : Type} {o : Out α} {env : Env} {f : α → Store → SOut} {P : α → Store → Prop} {A : AOut} (h : o.W P) (k : ∀ a st, P a st → (f a st).W I A) : (o.sbind env f).W I A := by
  cases o with
  | ok a st => exact k a st h
  | exc c fs st => exact h.elim
  | bad => exact h.elim
theorem forA_ok {put : AEnv → Option AEnv} {body : AEnv → Option AOut} {tput : D → Env → Option Env} {bod : Env → Store → SOut} {el : D → Prop} {K : Env → Prop}
    (hput : ∀ {E E1 env d}, put E = some E1 → el d → gE E env → K env → ∃ env1, tput d env = some env1 ∧ gE E1 env1 ∧ K env1)
    (hbody : ∀ {E A env st}, body E = some A → gE E env → I st → (bod env st).W I A)
    (hK : ∀ {env st env' st'}, K env → (bod env st = .nx env' st' ∨ bod env st = .ct env' st') → K env') :
    ∀ (n m : Nat) (E : AEnv) (A : AOut) (xs : List D) (env : Env) (st : Store), forA put body n m E = some A → m ≤ xs.length → xs.length ≤ n → (∀ x ∈ xs, el x) → gE E env → I st → K env → (forL tput bod xs env st).W I A
  | 0, m, E, A, [], env, st, e, _, _, _, g, hi, _ => by cases e; exact ⟨g, hi⟩
  | 0, m, E, A, _ :: _, env, st, e, _, h, _, g, hi, _ => by simp at h
  | n + 1, m, E, A, xs, env, st, e, h1, h2, hx, g, hi, hk => by
    simp only [forA] at e
    split at e
    · cases e
    · rename_i E1 e1
      split at e
      · cases e
      · rename_i B e2
        have core : ∀ {J : Option AEnv} {R R2 : AOut}, jnOE B.nx B.ct = some J → jnA ⟨if m = 0 then some E else none, none, none, none⟩ ⟨B.bk, B.rt, none, none⟩ = some R →
            (∀ o : SOut, o.W I R → o.W I A) → (∀ xs env st, gOE J env → I st → m - 1 ≤ xs.length → xs.length ≤ n → (∀ x ∈ xs, el x) → K env → (forL tput bod xs env st).W I A) → (forL tput bod xs env st).W I A := by
          intro J R R2 eJ eR hR hrec
          cases xs with
          | nil =>
            have hm : m = 0 := by simpa using h1
            refine hR _ (jnA_ok eR (.inl ⟨?_, hi⟩))
            rw [if_pos hm]
            exact g
          | cons x xs =>
            obtain ⟨env1, p1, p2, p3⟩ := hput e1 (hx x (by simp)) g hk
            have hb := hbody (st := st) e2 p2 hi
            unfold forL
            rw [p1]
            dsimp only
            have l1 : m - 1 ≤ xs.length := by simp at h1; omega
            have l2 : xs.length ≤ n := by simp at h2; omega
            have hx' : ∀ y ∈ xs, el y := fun y hy => hx y (by simp [hy])
            cases eb : bod env1 st with
            | nx env2 st2 => rw [eb] at hb; exact hrec xs env2 st2 (jnOE_ok eJ (.inl hb.1)) hb.2 l1 l2 hx' (hK p3 (.inl eb))
            | ct env2 st2 => rw [eb] at hb; exact hrec xs env2 st2 (jnOE_ok eJ (.inr hb.1)) hb.2 l1 l2 hx' (hK p3 (.inr eb))
            | bk env2 st2 => rw [eb] at hb; exact hR _ (jnA_ok eR (.inr hb))
            | rt r st2 => rw [eb] at hb; exact hR _ (jnA_ok eR (.inr hb))
            | exc c fs env2 st2 => rw [eb] at hb; exact hb.elim
            | bad => rw [eb] at hb; exact hb.elim
        split at e
        · rename_i R eJ eR
          cases e
          exact core (R2 := A) eJ eR (fun o h => h) fun xs env st z => z.elim
        · rename_i E2 R eJ eR
          split at e
          · rename_i R2 e3
            exact core (R2 := A) eJ eR (fun o h => jnA_ok e (.inl h)) fun xs env st z hi l1 l2 hx hk => jnA_ok e (.inr (forA_ok hput hbody hK n (m - 1) E2 R2 xs env st e3 l1 l2 hx z hi hk))
          · cases e
        · cases e
theorem addA_ok {n2 m2 : Nat} {e2 : AV} {a x : At} {xs ys : List D} (e : addA n2 m2 e2 a = some x) (g : At.g a (.lst xs)) (h1 : n2 ≤ ys.length) (h2 : ys.length ≤ m2) (h3 : ∀ y ∈ ys, AV.g e2 y) : xs.length + ys.length ≤ sizeLine ∧ At.g x (.lst (xs ++ ys)) := by
  cases a <;> try cases e
  rename_i t n m e1
  cases t
  · simp only [addA] at e
    split at e
    · cases e
      obtain ⟨zs, hz, g1, g2, g3⟩ := g
      cases hz
      refine ⟨by omega, xs ++ ys, rfl, by simp; omega, by simp; omega, fun z hz => ?_⟩
      rcases List.mem_append.mp hz with hz | hz
      · exact jn_l (g3 z hz)
      · exact jn_r (h3 z hz)
    · cases e
  · cases e
variable {dr : Nat}
theorem drOf_ok (hD : DrOk dr F I) {E : AEnv} {env : Env} {st : Store} {x : Ex} {j : Nat} (e : drOf dr E x = some j) (g : gE E env) (hi : I st) : (evalE F x env st).W fun r _ => ∃ (v : Int) (n : Nat) (q : Res), r = .val (.int v) ∧ env[j]? = some (some q) ∧ lenR q = some n ∧ 0 ≤ v ∧ v < n := by
  unfold drOf at e
  split at e
  · rename_i f u k
    split at e
    · rename_i hf
      subst hf
      have core : ∀ {a : AR}, (∀ v, a ≠ .bor v) → E.sl[u]? = some (some (.val (.cons .feed .nil))) → E.sl[k]? = some (some a) → ln1 a.v = true → k = j → (evalE F (.call f (.cons (.var u) (.cons (.bi .len (.cons (.var k) .nil)) .nil))) env st).W fun r _ => ∃ (v : Int) (n : Nat) (q : Res), r = .val (.int v) ∧ env[j]? = some (some q) ∧ lenR q = some n ∧ 0 ≤ v ∧ v < n := by
        rintro a hnb e1 e2 hl rfl
        obtain ⟨r0, h1, d0, rfl, gd0⟩ := g.2.1 u _ e1
        simp only [AV.g, At.g, or_false] at gd0
        subst gd0
        obtain ⟨r, h2, gr⟩ := g.2.1 k _ e2
        have nb : ∀ c, r ≠ .bor c := by
          rintro c rfl
          cases a with
          | val v => obtain ⟨_, z, _⟩ := gr; cases z
          | own v => obtain ⟨_, z, _⟩ := gr; cases z
          | bor v => exact absurd rfl (hnb v)
        obtain ⟨r', d, k1, k2, k3, k4⟩ := var_read g e2 h2 st F nb
        obtain ⟨n, n1, n2, n3, n4⟩ := ln1_ok hl k3
        have hsz : sizeLine < 1073741824 := by decide
        rw [a_call2, show evalE F (.var u) env st = .ok (.val (.ptr 0)) st from by simp only [evalE, h1], Out.bind_ok, a_len, k1, Out.bind_ok, k2, n4]
        exact (hD n st hi (by omega) (by omega)).imp fun rb s2 ⟨⟨i, hr, i0, i1⟩, i2⟩ => ⟨i, n, r, hr, h2, by rw [← k4]; exact n1, i0, i1⟩
      split at e
      · rename_i v e1 e2
        split at e
        · rename_i hl
          cases e
          exact core (fun _ z => by cases z) e1 e2 hl rfl
        · cases e
      · rename_i v e1 e2
        split at e
        · rename_i hl
          cases e
          exact core (fun _ z => by cases z) e1 e2 hl rfl
        · cases e
      · cases e
    · cases e
  · cases e
theorem W_two {α : Type} {o : Out α} {P Q : α → Store → Prop} (h : o.W P) (k : o.W Q) : o.W fun a s => P a s ∧ Q a s := by
  cases o with
  | ok a s => exact ⟨h, k⟩
  | exc c fs s => exact h.elim
  | bad => exact h.elim
theorem addIf_ok {E : AEnv} {env : Env} {i : Nat} {r : Option Nat} (g : gE E env) (h : ∀ j, r = some j → i ≠ j → i < env.length → idxOf env i j) : gE (addIf E i r) env := by
  unfold addIf
  split
  · rename_i j
    split
    · exact g
    · rename_i hij
      exact g.addF (h j rfl (fun z => hij (.inl z)) (by rw [← g.1]; omega))
  · exact g
variable (hC : CallOk C F I) (hD : DrOk dr F I)
include hC hD
mutual
theorem absS_ok : ∀ (s : Sm) {E : AEnv} {env : Env} {st : Store} {A : AOut}, absS C dr s E = some A → gE E env → I st → (execS F s env st).W I A
  | .set i x, E, env, st, A, e, g, hi => by
    simp only [absS] at e
    simp only [execS]
    split at e
    · rename_i v e1
      cases e
      refine sb_W (absE_ok hC hD x e1 g hi) fun r s ⟨h1, i1⟩ => ?_
      have h0 := h1
      obtain ⟨d, rfl, _⟩ := h1
      exact ⟨g.set h0, i1⟩
    · rename_i v e1
      cases e
      refine sb_W (absE_ok hC hD x e1 g hi) fun r s ⟨h1, i1⟩ => ?_
      have h0 := h1
      obtain ⟨d, rfl, _⟩ := h1
      exact ⟨g.set h0, i1⟩
    · cases e
  | .vl i x, E, env, st, A, e, g, hi => by
    simp only [absS] at e
    simp only [execS]
    split at e
    · rename_i a e1
      split at e
      · rename_i v e2
        cases e
        have hW : (evalE F x env st).W fun r s => (gR a r ∧ I s) ∧ ∀ j, drOf dr E x = some j → ∃ (v : Int) (n : Nat) (q : Res), r = .val (.int v) ∧ env[j]? = some (some q) ∧ lenR q = some n ∧ 0 ≤ v ∧ v < n := by
          cases ed : drOf dr E x with
          | none => exact (absE_ok hC hD x e1 g hi).imp fun r s h => ⟨h, fun j z => by cases z⟩
          | some k => exact (W_two (absE_ok hC hD x e1 g hi) (drOf_ok hD ed g hi)).imp fun r s h => ⟨h.1, fun j z => by cases z; exact h.2⟩
        refine sb_W hW fun r s ⟨⟨h1, i1⟩, hd⟩ => ?_
        obtain ⟨d, h2, h3⟩ := h1.toD e2
        rw [h2]
        refine ⟨addIf_ok (g.set ⟨d, rfl, h3⟩) fun j hj hij hl => ?_, i1⟩
        obtain ⟨v', n, q, rfl, k1, k2, k3⟩ := hd j hj
        cases h2
        rw [List.length_set] at hl
        exact ⟨v', n, q, List.getElem?_set_self hl, by rw [List.getElem?_set_ne hij]; exact k1, k2, k3⟩
      · cases e
    · cases e
  | .unp is x, E, env, st, A, e, g, hi => by
    simp only [absS] at e
    simp only [execS]
    split at e
    · rename_i v e1
      split at e
      · rename_i E1 e2
        cases e
        refine sb_W (absE_ok hC hD x e1 g hi) fun r s ⟨h1, i1⟩ => ?_
        obtain ⟨d, rfl, gd⟩ := h1
        obtain ⟨env1, h2, h3⟩ := putA_ok e2 gd g
        dsimp only
        rw [h2]
        exact ⟨h3, i1⟩
      · cases e
    · cases e
  | .sset i k v, E, env, st, A, e, g, hi => by simp [absS] at e
  | .mut .append i .nil, E, env, st, A, e, g, hi => by simp [absS] at e
  | .mut .append i (.cons x .nil), E, env, st, A, e, g, hi => by
    simp only [absS] at e
    split at e
    · rename_i v a e0 e1
      split at e
      · rename_i w e2
        split at e
        · rename_i u e3
          cases e
          obtain ⟨r0, h0, xs, rfl, gx⟩ := g.2.1 i _ e0
          simp only [execS, slotC, h0, evalRs]
          have hW := absE_ok hC hD x e1 g hi
          refine sb_W (P := fun rs st' => ∃ r, rs = [r] ∧ gR a r ∧ I st') (W_bindI hW fun r s ⟨h1, i1⟩ => ⟨r, rfl, h1, i1⟩) fun rs s ⟨r, hr, h1, i1⟩ => ?_
          subst hr
          obtain ⟨d, d1, d2⟩ := h1.toD e2
          obtain ⟨b, y, k1, k2, k3⟩ := mapA1_ok e3 gx
          obtain ⟨k4, k5⟩ := addA_ok (ys := [d]) k2 k1 (Nat.le_refl _) (Nat.le_refl _) (by simpa using d2)
          simp only [chg, h0, opMut, toDs, d1]
          rw [if_pos (show xs.length < sizeLine from k4)]
          exact ⟨g.set ⟨_, rfl, k3 _ k5⟩, i1⟩
        · cases e
      · cases e
    · cases e
  | .mut .append i (.cons x (.cons _ _)), E, env, st, A, e, g, hi => by simp [absS] at e
  | .mut .extend i .nil, E, env, st, A, e, g, hi => by simp [absS] at e
  | .mut .extend i (.cons x .nil), E, env, st, A, e, g, hi => by
    simp only [absS] at e
    split at e
    · rename_i v a e0 e1
      split at e
      · rename_i w n m e2
        split at e
        · rename_i u e3
          cases e
          obtain ⟨r0, h0, xs, rfl, gx⟩ := g.2.1 i _ e0
          simp only [execS, slotC, h0, evalRs]
          have hW := absE_ok hC hD x e1 g hi
          refine sb_W (P := fun rs st' => ∃ r, rs = [r] ∧ gR a r ∧ I st') (W_bindI hW fun r s ⟨h1, i1⟩ => ⟨r, rfl, h1, i1⟩) fun rs s ⟨r, hr, h1, i1⟩ => ?_
          subst hr
          obtain ⟨d, d1, d2⟩ := h1.seen
          obtain ⟨ys, rfl, l1, l2, l3⟩ := lstV_ok e2 d1
          obtain ⟨b, y, k1, k2, k3⟩ := mapA1_ok e3 gx
          obtain ⟨k4, k5⟩ := addA_ok (ys := ys) k2 k1 l1 l2 l3
          simp only [chg, h0, opMut, d2]
          show SOut.W I (match (if xs.length + ys.length ≤ sizeLine then some (Cell.lst (xs ++ ys)) else none) with
            | some c' => SOut.nx (env.set i (some (.own c'))) s
            | none => SOut.bad) _
          rw [if_pos k4]
          exact ⟨g.set ⟨_, rfl, k3 _ k5⟩, i1⟩
        · cases e
      · cases e
    · cases e
  | .mut .extend i (.cons x (.cons _ _)), E, env, st, A, e, g, hi => by simp [absS] at e
  | .mut .insert i es, E, env, st, A, e, g, hi => by simp [absS] at e
  | .expr x, E, env, st, A, e, g, hi => by
    simp only [absS] at e
    simp only [execS]
    split at e
    · rename_i a e1
      cases e
      exact sb_W (absE_ok hC hD x e1 g hi) fun r s ⟨h1, i1⟩ => ⟨g, i1⟩
    · cases e
  | .ret x, E, env, st, A, e, g, hi => by
    simp only [absS] at e
    simp only [execS]
    split at e
    · rename_i a e1
      cases e
      exact sb_W (absE_ok hC hD x e1 g hi) fun r s ⟨h1, i1⟩ => ⟨h1, i1⟩
    · cases e
  | .retO i, E, env, st, A, e, g, hi => by
    simp only [absS] at e
    split at e
    · rename_i v e0
      cases e
      obtain ⟨r0, h0, xs, rfl, gx⟩ := g.2.1 i _ e0
      simp only [execS, h0]
      exact ⟨⟨xs, rfl, gx⟩, hi⟩
    · cases e
  | .ife c a b, E, env, st, A, e, g, hi => by
    simp only [absS] at e
    split at e
    · rename_i T G e1
      split at e
      · rename_i x y e2 e3
        simp only [execS]
        refine sb_W (absT_ok hC hD c e1 g hi) fun t s ⟨h1, i1⟩ => ?_
        cases t with
        | true =>
          rw [if_pos rfl] at h1 ⊢
          cases T with
          | none => exact h1.elim
          | some T => exact jnA_ok e (.inl (absSs_ok a e2 h1 i1))
        | false =>
          rw [if_neg Bool.false_ne_true] at h1 ⊢
          cases G with
          | none => exact h1.elim
          | some G => exact jnA_ok e (.inr (absSs_ok b e3 h1 i1))
      · cases e
    · cases e
  | .for_ tg it body, E, env, st, A, e, g, hi => by
    simp only [absS] at e
    split at e
    · rename_i el n m e1
      simp only [execS]
      refine sb_W (W_and (absI_ok hC hD it e1 g hi) (rngOf_ok it e1 g)) fun xs s ⟨⟨h1, h2, h3, i1⟩, hpl⟩ => ?_
      cases hr : (match rngOf it with | some j => if (tg.sets j || body.sets j) = true then none else some j | none => none) with
      | none =>
        rw [hr] at e
        exact forA_ok (K := fun _ => True) (el := AV.g el) (fun e0 gd ge _ => by
          obtain ⟨env', q1, q2⟩ := putF_ok e0 gd ge (fun j z => by cases z)
          exact ⟨env', q1, q2, trivial⟩) (fun e0 ge i0 => absSs_ok body e0 ge i0) (fun _ _ => trivial) m n E A xs env s e h1 h2 h3 g i1 trivial
      | some j =>
        rw [hr] at e
        have hj : rngOf it = some j ∧ tg.sets j = false ∧ body.sets j = false := by
          split at hr
          · rename_i j' hj'
            split at hr
            · cases hr
            · rename_i hb
              cases hr
              exact ⟨hj', by simpa using hb⟩
          · cases hr
        refine forA_ok (K := fun env' => env'[j]? = env[j]?) (el := fun d => AV.g el d ∧ plc env (some j) d) (fun {E0 E1 env0 d} e0 gd ge hk => ?_) (fun e0 ge i0 => absSs_ok body e0 ge i0) (fun {env0 st0 env1 st1} hk ho => ?_) m n E A xs env s e h1 h2 (fun x hx => ⟨h3 x hx, by rw [← hj.1]; exact hpl x hx⟩) g i1 rfl
        · obtain ⟨env', q1, q2⟩ := putF_ok e0 gd.1 ge fun j' z => by
            cases z
            obtain ⟨k, n', q, a1, a2, a3⟩ := gd.2 j rfl
            exact ⟨k, n', q, a1, hk.trans a2, a3⟩
          refine ⟨env', q1, q2, ?_⟩
          exact (keep_put hj.2.1 q1).trans hk
        · have := execs_keep (F := F) body hj.2.2 env0 st0
          rcases ho with ho | ho <;> (rw [ho] at this; exact (show env1[j]? = env0[j]? from this).trans hk)
    · cases e
  | .wh _ _ _, E, env, st, A, e, g, hi => by simp [absS] at e
  | .brk, E, env, st, A, e, g, hi => by cases e; simp only [execS]; exact ⟨g, hi⟩
  | .cont, E, env, st, A, e, g, hi => by cases e; simp only [execS]; exact ⟨g, hi⟩
  | .pass, E, env, st, A, e, g, hi => by cases e; simp only [execS]; exact ⟨g, hi⟩
  | .frz i, E, env, st, A, e, g, hi => by
    simp only [absS] at e
    split at e
    · rename_i v e0
      cases e
      obtain ⟨r0, h0, xs, rfl, gx⟩ := g.2.1 i _ e0
      simp only [execS, h0]
      exact ⟨g.set ⟨.lst xs, rfl, gx⟩, hi⟩
    · rename_i v e0
      cases e
      obtain ⟨r0, h0, d, rfl, gx⟩ := g.2.1 i _ e0
      simp only [execS, h0]
      exact ⟨g, hi⟩
    · cases e
  | .cell i, E, env, st, A, e, g, hi => by simp [absS] at e
  | .move i j, E, env, st, A, e, g, hi => by simp [absS] at e
theorem absSs_ok : ∀ (ss : Sms) {E : AEnv} {env : Env} {st : Store} {A : AOut}, absSs C dr ss E = some A → gE E env → I st → (execSs F ss env st).W I A
  | .nil, E, env, st, A, e, g, hi => by
    simp only [absSs, Option.some.injEq] at e
    subst e
    simp only [execSs]
    exact ⟨g, hi⟩
  | .cons s ss, E, env, st, A, e, g, hi => by
    simp only [absSs] at e
    split at e
    · rename_i B e1
      have h1 := absS_ok s e1 g hi
      simp only [execSs]
      split at e
      · rename_i e2
        cases e
        cases eo : execS F s env st with
        | nx env1 st1 => rw [eo] at h1; rw [SOut.W, e2] at h1; exact h1.1.elim
        | rt r st1 => rw [eo] at h1; exact h1
        | bk env1 st1 => rw [eo] at h1; exact h1
        | ct env1 st1 => rw [eo] at h1; exact h1
        | exc c fs env1 st1 => rw [eo] at h1; exact h1.elim
        | bad => rw [eo] at h1; exact h1.elim
      · rename_i E1 e2
        split at e
        · rename_i B2 e3
          cases eo : execS F s env st with
          | nx env1 st1 =>
            rw [eo] at h1
            rw [SOut.W, e2] at h1
            exact jnA_ok e (.inr (absSs_ok ss e3 h1.1 h1.2))
          | rt r st1 => rw [eo] at h1; exact jnA_ok e (.inl h1)
          | bk env1 st1 => rw [eo] at h1; exact jnA_ok e (.inl h1)
          | ct env1 st1 => rw [eo] at h1; exact jnA_ok e (.inl h1)
          | exc c fs env1 st1 => rw [eo] at h1; exact h1.elim
          | bad => rw [eo] at h1; exact h1.elim
        · cases e
    · cases e
end
end
section
variable {C : Nat → AVs → Option AR} {F : Fsem} {I : Store → Prop}
theorem valsE_ok : ∀ {vs : AVs} {ds : List D}, AVs.g vs ds → (valsE vs).length = (ds.map fun d => some (Res.val d)).length ∧ ∀ (i : Nat) a, (valsE vs)[i]? = some (some a) → ∃ r, (ds.map fun d => some (Res.val d))[i]? = some (some r) ∧ gR a r
  | .nil, ds, h => by simp only [AVs.g] at h; subst h; exact ⟨rfl, fun i a e => by simp [valsE] at e⟩
  | .cons v vs, ds, h => by
    obtain ⟨d, r, rfl, h1, h2⟩ := h
    obtain ⟨l, k⟩ := valsE_ok h2
    refine ⟨by simp [valsE, l], fun i a e => ?_⟩
    cases i with
    | zero => simp [valsE] at e; subst e; exact ⟨_, rfl, d, rfl, h1⟩
    | succ i =>
      obtain ⟨r', h3, h4⟩ := k i a (by simpa [valsE] using e)
      exact ⟨r', by simpa using h3, h4⟩
theorem envA_ok {n : Nat} {vs : AVs} {ds : List D} (h : AVs.g vs ds) : gE ⟨valsE vs ++ List.replicate (n - vs.len) none, []⟩ (env0 n ds) := by
  obtain ⟨l, k⟩ := valsE_ok h
  refine ⟨by unfold env0; simp [l, AVs.g_len h], fun i a e => ?_, fun p hp => by simp at hp⟩
  have e : (valsE vs ++ List.replicate (n - vs.len) none)[i]? = some (some a) := e
  by_cases hi : i < (valsE vs).length
  · rw [List.getElem?_append_left hi] at e
    obtain ⟨r, h1, h2⟩ := k i a e
    refine ⟨r, ?_, h2⟩
    unfold env0
    rw [List.getElem?_append_left (by rw [← l]; exact hi)]
    exact h1
  · rw [List.getElem?_append_right (by omega), List.getElem?_replicate] at e
    split at e <;> cases e
theorem absB_ok {dr : Nat} (hC : CallOk C F I) (hD : DrOk dr F I) {n : Nat} {ms : Sms} {vs : AVs} {r : AR} {ds : List D} {st : Store} (e : absB C dr n ms vs = some r) (g : AVs.g vs ds) (hi : I st) : (runB F n ms ds st).W fun r' st' => gR r r' ∧ I st' := by
  unfold absB at e
  split at e
  · rename_i nx rt e1
    have h := absSs_ok hC hD ms e1 (envA_ok (n := n) g) hi
    unfold runB
    have non : gR (.val (one .non)) (.val .non) := ⟨.non, rfl, one_g rfl⟩
    cases eo : execSs F ms (env0 n ds) st with
    | nx env1 st1 =>
      rw [eo] at h
      refine ⟨?_, h.2⟩
      split at e
      · exact h.1.elim
      · cases e; exact non
      · exact jnR_ok e (.inl non)
      · exact h.1.elim
    | rt r1 st1 =>
      rw [eo] at h
      refine ⟨?_, h.2⟩
      split at e
      · cases e; exact h.1
      · exact h.1.elim
      · exact jnR_ok e (.inr h.1)
      · exact h.1.elim
    | bk env1 st1 => rw [eo] at h; exact h.1.elim
    | ct env1 st1 => rw [eo] at h; exact h.1.elim
    | exc c fs env1 st1 => rw [eo] at h; exact h.elim
    | bad => rw [eo] at h; exact h.elim
  · cases e
/-- the whole text, called to a depth -/
theorem absF_ok {P' P : Nat → Option FDef} (hsub : ∀ f d, P' f = some d → P f = some d) {dr : Nat} {sm : Nat → Nat → AVs → Option AR} (hs : ∀ k j, k ≤ j → CallOk (sm k) (run P (j + 1)) I) (hd : ∀ k (m : Int) st, I st → 0 < m → m < 1073741824 → (run P (k + 1) dr [.ptr 0, .int m] st).W fun r st' => (∃ i, r = .val (.int i) ∧ 0 ≤ i ∧ i < m) ∧ I st') :
    ∀ k j, k ≤ j → CallOk (absF P' dr sm k) (run P j) I
  | 0, j, _, f, vs, r, e, ds, st, g, hi => by simp [absF] at e
  | k + 1, 0, h, f, vs, r, e, ds, st, g, hi => by omega
  | k + 1, j + 1, h, f, vs, r, e, ds, st, g, hi => by
    simp only [absF] at e
    split at e
    · rename_i hf
      subst hf
      split at e
      · rename_i v
        obtain ⟨d1, r1, rfl, g1, g2⟩ := g
        obtain ⟨d2, r2, rfl, g2, g3⟩ := g2
        simp only [AVs.g] at g3
        subst g3
        simp only [AV.g, At.g, or_false] at g1
        subst g1
        split at e
        · rename_i l h' e1
          split at e
          · rename_i hc
            cases e
            obtain ⟨i, rfl, hr⟩ := rngV_ok e1 g2
            have k1 := hr.1 _ rfl
            have k2 := hr.2 _ rfl
            refine (hd j i st hi (by omega) (by omega)).imp fun r s ⟨⟨n, h1, h2, h3⟩, i1⟩ => ⟨?_, i1⟩
            subst h1
            exact ⟨_, rfl, one_g ⟨n, rfl, fun l e => by cases e; exact h2, fun l e => by cases e; omega⟩⟩
          · cases e
        · cases e
      · cases e
    · split at e
      · cases e
      rename_i hk0
      split at e
      · rename_i r0 es
        cases e
        exact hs k j (by omega) _ _ _ es ds st g hi
      split at e
      · rename_i d e1
        show (match P f with
          | some d => runB (run P j) d.n d.body ds st
          | none => .bad).W _
        rw [hsub _ _ e1]
        exact absB_ok (absF_ok hsub hs hd k j (by omega)) (fun m st i h0 h1 => by
          obtain ⟨j', rfl⟩ : ∃ j', j = j' + 1 := ⟨j - 1, by omega⟩
          exact hd j' m st i h0 h1) e g hi
      · cases e
end
end Py
end

section
set_option maxRecDepth 100000
set_option maxHeartbeats 4000000
set_option linter.all false
/-! How long a thing's repr may be. -/
namespace Py
open PySem L2

mutual
def At.wt : At → Option Nat
  | .non => some 4
  | .bl _ _ => some 5
  | .int lo hi => dig lo hi
  | .str _ hi pr => if pr = true then some (2 * hi + 2) else none
  | .seq _ _ hi e => e.wt.map fun w => hi * (w + 2) + 3
  | .tupx es => es.wt.map (· + 3)
  | .any w _ k _ => if k ≤ 500 then some w else none
  | .feed => none
def AV.wt : AV → Option Nat
  | .nil => some 0
  | .cons a v => match a.wt, v.wt with
    | some x, some y => some (max x y)
    | _, _ => none
def AVs.wt : AVs → Option Nat
  | .nil => some 0
  | .cons a v => match a.wt, v.wt with
    | some x, some y => some (x + 2 + y)
    | _, _ => none
end
def lsum : List Str → Nat
  | [] => 0
  | t :: ts => t.length + 2 + lsum ts
theorem textFrom_le : ∀ (ts : List Str) (k : Nat) (acc : Str), (PySem.textFrom k acc ts).length ≤ acc.length + lsum ts
  | [], k, acc => by show acc.length ≤ _; simp [lsum]
  | t :: ts, k, acc => by
    show (PySem.textFrom (k + 1) (acc ++ (if k > 0 then ", " else "" : String) ++ t) ts).length ≤ _
    refine Nat.le_trans (textFrom_le ts _ _) ?_
    rw [len_app, len_app]
    have : ((if k > 0 then ", " else "" : String) : Str).length ≤ 2 := by
      split <;> decide +kernel
    simp only [lsum]
    omega
theorem join_le : ∀ (ts : List Str), (Str.join ", " ts).length ≤ lsum ts
  | [] => Nat.zero_le _
  | [t] => by show t.length ≤ _; simp [lsum]
  | t :: u :: ts => by
    show (t ++ (", " : Str) ++ Str.join ", " (u :: ts)).length ≤ _
    have := join_le (u :: ts)
    rw [len_app, len_app]
    have h2 : ((", " : Str)).length = 2 := by decide +kernel
    rw [h2]
    simp only [lsum] at this ⊢
    omega
theorem repr_le {x : Str} (h : prS x = true) : (reprText x).length ≤ 2 * x.length + 2 := by
  have one' : ∀ q c : Nat, 32 ≤ c → c < 127 → (Builtin.Str.reprChar q c).length ≤ 2 := by
    intro q c h1 h2
    have hp : Unicode.isPrintable c = true := by
      have all : ∀ n : Fin 95, Unicode.isPrintable (n.val + 32) = true := by decide +kernel
      have := all ⟨c - 32, by omega⟩
      simpa [show c - 32 + 32 = c by omega] using this
    unfold Builtin.Str.reprChar
    dsimp only
    split
    · exact Nat.le_refl _
    · rw [if_neg (by simp; omega), if_neg (by simp; omega), if_neg (by simp; omega)]
      first
      | exact Nat.le_succ _
      | (rw [if_pos hp]; exact Nat.le_succ _)
  have go : ∀ (q : Nat) (l : List Nat) (n : Nat), (∀ c ∈ l, 32 ≤ c ∧ c < 127) → l.foldl (fun n c => n + (Builtin.Str.reprChar q c).length) n ≤ n + 2 * l.length := by
    intro q l
    induction l with
    | nil => intro n _; simp
    | cons c l ih =>
      intro n hl
      have h1 := one' q c (hl c (by simp)).1 (hl c (by simp)).2
      have h2 := ih (n + (Builtin.Str.reprChar q c).length) fun c' hc => hl c' (by simp [hc])
      rw [List.foldl_cons, List.length_cons]
      omega
  rw [← reprLen_eq, ← Array.foldl_toList]
  have hc : ∀ c ∈ x.cps.toList, 32 ≤ c ∧ c < 127 := by
    unfold prS at h
    rw [List.all_eq_true] at h
    intro c hc
    simpa using h c hc
  have := go (reprQuote x) x.cps.toList 2 hc
  have e : x.cps.toList.length = x.length := Array.length_toList
  omega

theorem tup_le (ts : List Str) : (tupleText ts).length ≤ lsum ts + 3 := by
  unfold tupleText
  have h1 := join_le ts
  have h2 : ((if ts.length == 1 then ",)" else ")" : String) : Str).length ≤ 2 := by split <;> decide +kernel
  have h3 : (("(" : Str)).length = 1 := by decide +kernel
  rw [len_app, len_app, h3]
  omega
theorem lst_le (ts : List Str) : (listText ts).length ≤ lsum ts + 3 := by
  unfold listText
  have h1 := textFrom_le ts 0 "["
  have h2 : (("[" : Str)).length = 1 := by decide +kernel
  have h3 : (("]" : Str)).length = 1 := by decide +kernel
  rw [len_app, h3]
  rw [h2] at h1
  omega
theorem shown_all : ∀ {xs : List D} {ps : List PyData} {n : Nat}, D.pys xs = some ps → (∀ x ∈ xs, ∃ p, x.py = some p ∧ p.showable = true ∧ p.shown.length ≤ n) → PyData.showableAll ps = true ∧ lsum (PyData.shownAll ps) ≤ xs.length * (n + 2)
  | [], ps, n, h, _ => by
    simp only [D.pys, Option.some.injEq] at h
    subst h
    exact ⟨rfl, Nat.zero_le _⟩
  | x :: xs, ps, n, h, hx => by
    simp only [D.pys] at h
    split at h
    · rename_i a b e1 e2
      cases h
      obtain ⟨p, h1, h2, h3⟩ := hx x (by simp)
      rw [e1] at h1
      cases h1
      obtain ⟨h4, h5⟩ := shown_all e2 fun y hy => hx y (by simp [hy])
      refine ⟨by simp [PyData.showableAll, h2, h4], ?_⟩
      show (PyData.shown a).length + 2 + lsum (PyData.shownAll b) ≤ _
      rw [List.length_cons, Nat.succ_mul]
      omega
    · cases h
mutual
theorem pn_shown {k : Nat} (hk : k ≤ 500) : ∀ {d : D}, d.pn k = true → ∃ p, d.py = some p ∧ p.showable = true ∧ p.shown.length ≤ d.wz
  | .non, _ => ⟨.none, rfl, rfl, by decide +kernel⟩
  | .bl b, _ => ⟨.bool b, rfl, rfl, by cases b <;> decide +kernel⟩
  | .int i, g => by
    simp only [D.pn, decide_eq_true_eq] at g
    exact ⟨.int i, rfl, by simpa [PyData.showable] using log_of g hk, Nat.le_refl _⟩
  | .str x, g => ⟨.str x, rfl, rfl, repr_le g⟩
  | .tup xs, g => by
    obtain ⟨ps, h1, h2, h3⟩ := pns_shown hk (ds := xs) (by simpa [D.pn] using g)
    refine ⟨.tuple ps, by simp [D.py, h1], h2, ?_⟩
    have := tup_le (PyData.shownAll ps)
    show (tupleText (PyData.shownAll ps)).length ≤ D.wzs xs + 3
    omega
  | .lst xs, g => by
    obtain ⟨ps, h1, h2, h3⟩ := pns_shown hk (ds := xs) (by simpa [D.pn] using g)
    refine ⟨.list ps, by simp [D.py, h1], h2, ?_⟩
    have := lst_le (PyData.shownAll ps)
    show (listText (PyData.shownAll ps)).length ≤ D.wzs xs + 3
    omega
  | .obj _ _, g => by simp [D.pn] at g
  | .ptr _, g => by simp [D.pn] at g
  | .scr _, g => by simp [D.pn] at g
theorem pns_shown {k : Nat} (hk : k ≤ 500) : ∀ {ds : List D}, D.pns k ds = true → ∃ ps, D.pys ds = some ps ∧ PyData.showableAll ps = true ∧ lsum (PyData.shownAll ps) ≤ D.wzs ds
  | [], _ => ⟨[], rfl, rfl, Nat.zero_le _⟩
  | d :: ds, g => by
    simp only [D.pns, Bool.and_eq_true] at g
    obtain ⟨p, h1, h2, h3⟩ := pn_shown hk g.1
    obtain ⟨ps, h4, h5, h6⟩ := pns_shown hk g.2
    refine ⟨p :: ps, by simp [D.pys, h1, h4], by simp [PyData.showableAll, h2, h5], ?_⟩
    show (PyData.shown p).length + 2 + lsum (PyData.shownAll ps) ≤ d.wz + 2 + D.wzs ds
    omega
end
mutual
theorem At.wt_ok : ∀ {a : At} {d : D} {n : Nat}, a.wt = some n → At.g a d → ∃ p, d.py = some p ∧ p.showable = true ∧ p.shown.length ≤ n
  | .non, d, n, e, g => by cases e; simp only [At.g] at g; subst g; exact ⟨.none, rfl, rfl, by decide +kernel⟩
  | .bl _ _, d, n, e, g => by
    cases e
    obtain ⟨b, rfl, _⟩ := g
    refine ⟨.bool b, rfl, rfl, ?_⟩
    cases b <;> decide +kernel
  | .int lo hi, d, n, e, g => by
    obtain ⟨i, rfl, r⟩ := g
    obtain ⟨h1, h2⟩ := dig_ok e r
    exact ⟨.int i, rfl, by simpa [PyData.showable] using h1, h2⟩
  | .str _ hi pr, d, n, e, g => by
    simp only [At.wt] at e
    split at e
    · rename_i hp
      cases e
      obtain ⟨x, rfl, _, h2, h3⟩ := g
      refine ⟨.str x, rfl, rfl, ?_⟩
      have := repr_le (h3 hp)
      show (reprText x).length ≤ _
      omega
    · cases e
  | .seq t lo hi v, d, n, e, g => by
    simp only [At.wt, Option.map_eq_some_iff] at e
    obtain ⟨m, e, rfl⟩ := e
    obtain ⟨xs, rfl, h0, h2, h3⟩ := g
    have hx : ∀ x ∈ xs, ∃ p, x.py = some p ∧ p.showable = true ∧ p.shown.length ≤ m := fun x hx => AV.wt_ok e (h3 x hx)
    obtain ⟨ps, hp⟩ : ∃ ps, D.pys xs = some ps := by
      clear h0 h2 h3
      induction xs with
      | nil => exact ⟨[], rfl⟩
      | cons x xs ih =>
        obtain ⟨p, h1, _⟩ := hx x (by simp)
        obtain ⟨ps, h2⟩ := ih fun y hy => hx y (by simp [hy])
        exact ⟨p :: ps, by simp [D.pys, h1, h2]⟩
    obtain ⟨h4, h5⟩ := shown_all hp hx
    have h6 : xs.length * (m + 2) ≤ hi * (m + 2) := Nat.mul_le_mul_right _ h2
    cases t
    · refine ⟨.list ps, by simp [seqD, D.py, hp], h4, ?_⟩
      have := lst_le (PyData.shownAll ps)
      show (listText (PyData.shownAll ps)).length ≤ _
      omega
    · refine ⟨.tuple ps, by simp [seqD, D.py, hp], h4, ?_⟩
      have := tup_le (PyData.shownAll ps)
      show (tupleText (PyData.shownAll ps)).length ≤ _
      omega
  | .tupx vs, d, n, e, g => by
    simp only [At.wt, Option.map_eq_some_iff] at e
    obtain ⟨m, e, rfl⟩ := e
    obtain ⟨xs, rfl, h⟩ := g
    obtain ⟨ps, h1, h2, h3⟩ := AVs.wt_ok e h
    refine ⟨.tuple ps, by simp [D.py, h1], h2, ?_⟩
    have := tup_le (PyData.shownAll ps)
    show (tupleText (PyData.shownAll ps)).length ≤ _
    omega
  | .any w _ k _, d, n, e, g => by
    simp only [At.wt] at e
    split at e
    · rename_i hk
      cases e
      obtain ⟨p, h1, h2, h3⟩ := pn_shown hk g.1
      exact ⟨p, h1, h2, Nat.le_trans h3 g.2.1⟩
    · cases e
  | .feed, d, n, e, g => by cases e
theorem AV.wt_ok : ∀ {v : AV} {d : D} {n : Nat}, v.wt = some n → AV.g v d → ∃ p, d.py = some p ∧ p.showable = true ∧ p.shown.length ≤ n
  | .nil, d, n, e, g => by simp [AV.g] at g
  | .cons a v, d, n, e, g => by
    simp only [AV.wt] at e
    split at e
    · rename_i x y e1 e2
      cases e
      rw [AV.g] at g
      rcases g with g | g
      · obtain ⟨p, h1, h2, h3⟩ := At.wt_ok e1 g; exact ⟨p, h1, h2, by omega⟩
      · obtain ⟨p, h1, h2, h3⟩ := AV.wt_ok e2 g; exact ⟨p, h1, h2, by omega⟩
    · cases e
theorem AVs.wt_ok : ∀ {v : AVs} {xs : List D} {n : Nat}, v.wt = some n → AVs.g v xs → ∃ ps, D.pys xs = some ps ∧ PyData.showableAll ps = true ∧ lsum (PyData.shownAll ps) ≤ n
  | .nil, xs, n, e, g => by simp only [AVs.g] at g; subst g; exact ⟨[], rfl, rfl, Nat.zero_le _⟩
  | .cons a v, xs, n, e, g => by
    simp only [AVs.wt] at e
    split at e
    · rename_i x y e1 e2
      cases e
      obtain ⟨d, r, rfl, g1, g2⟩ := g
      obtain ⟨p, h1, h2, h3⟩ := AV.wt_ok e1 g1
      obtain ⟨ps, h4, h5, h6⟩ := AVs.wt_ok e2 g2
      refine ⟨p :: ps, by simp [D.pys, h1, h4], by simp [PyData.showableAll, h2, h5], ?_⟩
      show (PyData.shown p).length + 2 + lsum (PyData.shownAll ps) ≤ _
      omega
    · cases e
end
/-! folded to any thing -/
structure Bd where
  w : Nat
  d : Nat
  k : Nat
  l : Nat
mutual
def At.fd : At → Option Bd
  | .non => some ⟨4, 0, 0, 0⟩
  | .bl _ _ => some ⟨5, 0, 0, 0⟩
  | .int lo hi => (dig lo hi).map fun k => ⟨k, 0, k - 1, 0⟩
  | .str _ hi pr => if pr = true then some ⟨2 * hi + 2, 0, 0, 0⟩ else none
  | .seq _ _ hi e => e.fd.map fun p => ⟨hi * (p.w + 2) + 3, p.d + 1, p.k, max hi p.l⟩
  | .tupx es => es.fd.map fun p => ⟨p.w + 3, p.d + 1, p.k, max es.len p.l⟩
  | .any w d k l => some ⟨w, d, k, l⟩
  | .feed => none
def AV.fd : AV → Option Bd
  | .nil => some ⟨0, 0, 0, 0⟩
  | .cons a v => match a.fd, v.fd with
    | some x, some y => some ⟨max x.w y.w, max x.d y.d, max x.k y.k, max x.l y.l⟩
    | _, _ => none
def AVs.fd : AVs → Option Bd
  | .nil => some ⟨0, 0, 0, 0⟩
  | .cons a v => match a.fd, v.fd with
    | some x, some y => some ⟨x.w + 2 + y.w, max x.d y.d, max x.k y.k, max x.l y.l⟩
    | _, _ => none
end
/-- a plain thing within bounds -/
structure Wn (p : Bd) (d : D) : Prop where
  pn : d.pn p.k = true
  wz : d.wz ≤ p.w
  dep : d.dep ≤ p.d
  ml : d.ml ≤ p.l
theorem Wn.mono {p q : Bd} {d : D} (h : Wn p d) (h1 : p.w ≤ q.w) (h2 : p.d ≤ q.d) (h3 : p.k ≤ q.k) (h4 : p.l ≤ q.l) : Wn q d :=
  ⟨D.pn_mono h3 h.pn, Nat.le_trans h.wz h1, Nat.le_trans h.dep h2, Nat.le_trans h.ml h4⟩
/-- several -/
structure Wns (p : Bd) (xs : List D) : Prop where
  pn : D.pns p.k xs = true
  wz : D.wzs xs ≤ p.w
  dep : D.deps xs ≤ p.d
  ml : D.mls xs ≤ p.l
theorem wn_seq {p : Bd} : ∀ {xs : List D}, (∀ x ∈ xs, Wn p x) → Wns ⟨xs.length * (p.w + 2), p.d, p.k, p.l⟩ xs
  | [], _ => ⟨rfl, Nat.zero_le _, Nat.zero_le _, Nat.zero_le _⟩
  | x :: xs, h => by
    have ih := wn_seq (xs := xs) fun y hy => h y (by simp [hy])
    have hx := h x (by simp)
    have a1 := ih.wz
    have a2 := hx.wz
    have b1 := ih.dep
    have b2 := hx.dep
    have c1 := ih.ml
    have c2 := hx.ml
    dsimp only at a1 b1 c1
    refine ⟨by have := ih.pn; dsimp only at this; simp [D.pns, hx.pn, this], ?_, ?_, ?_⟩
    · show x.wz + 2 + D.wzs xs ≤ (xs.length + 1) * (p.w + 2)
      rw [Nat.succ_mul]
      omega
    · show max x.dep (D.deps xs) ≤ p.d
      omega
    · show max x.ml (D.mls xs) ≤ p.l
      omega
theorem Wns.tup {p : Bd} {xs : List D} (h : Wns p xs) {q : Bd} (h1 : p.w + 3 ≤ q.w) (h2 : p.d + 1 ≤ q.d) (h3 : p.k ≤ q.k) (h4 : p.l ≤ q.l) (h5 : xs.length ≤ q.l) : Wn q (.tup xs) :=
  ⟨D.pns_mono h3 h.pn, by have := h.wz; show D.wzs xs + 3 ≤ _; omega, by have := h.dep; show D.deps xs + 1 ≤ _; omega, by have := h.ml; show max xs.length (D.mls xs) ≤ _; omega⟩
theorem Wns.lst {p : Bd} {xs : List D} (h : Wns p xs) {q : Bd} (h1 : p.w + 3 ≤ q.w) (h2 : p.d + 1 ≤ q.d) (h3 : p.k ≤ q.k) (h4 : p.l ≤ q.l) (h5 : xs.length ≤ q.l) : Wn q (.lst xs) :=
  ⟨D.pns_mono h3 h.pn, by have := h.wz; show D.wzs xs + 3 ≤ _; omega, by have := h.dep; show D.deps xs + 1 ≤ _; omega, by have := h.ml; show max xs.length (D.mls xs) ≤ _; omega⟩
theorem dig_lt {lo hi : Option Int} {k : Nat} {i : Int} (e : dig lo hi = some k) (r : inR lo hi i) : i.natAbs < 10 ^ (k - 1) := by
  unfold dig at e
  split at e
  · rename_i l h
    have h1 := r.1 _ rfl
    have h2 := r.2 _ rfl
    simp only [Option.map_eq_some_iff] at e
    obtain ⟨n, e, rfl⟩ := e
    have := List.find?_some e
    simp only [Bool.and_eq_true, decide_eq_true_eq] at this
    have hc : (((10 : Nat) ^ n : Nat) : Int) = (10 : Int) ^ n := by simp
    rw [Nat.add_sub_cancel]
    omega
  · cases e
mutual
theorem At.fd_ok : ∀ {a : At} {d : D} {p : Bd}, a.fd = some p → At.g a d → Wn p d
  | .non, d, p, e, g => by cases e; simp only [At.g] at g; subst g; exact ⟨rfl, Nat.le_refl _, Nat.le_refl _, Nat.le_refl _⟩
  | .bl _ _, d, p, e, g => by cases e; obtain ⟨b, rfl, _⟩ := g; exact ⟨rfl, Nat.le_refl _, Nat.le_refl _, Nat.le_refl _⟩
  | .int lo hi, d, p, e, g => by
    simp only [At.fd, Option.map_eq_some_iff] at e
    obtain ⟨k, e, rfl⟩ := e
    obtain ⟨i, rfl, r⟩ := g
    exact ⟨by simpa [D.pn] using dig_lt e r, (dig_ok e r).2, Nat.le_refl _, Nat.le_refl _⟩
  | .str _ hi pr, d, p, e, g => by
    simp only [At.fd, Option.ite_none_right_eq_some, Option.some.injEq] at e
    obtain ⟨hp, rfl⟩ := e
    obtain ⟨x, rfl, _, h2, h3⟩ := g
    exact ⟨h3 hp, by show 2 * x.length + 2 ≤ 2 * hi + 2; omega, Nat.le_refl _, Nat.le_refl _⟩
  | .seq t lo hi v, d, p, e, g => by
    simp only [At.fd, Option.map_eq_some_iff] at e
    obtain ⟨q, e, rfl⟩ := e
    obtain ⟨xs, rfl, _, h2, h3⟩ := g
    have k := wn_seq fun x hx => AV.fd_ok e (h3 x hx)
    have k4 : xs.length * (q.w + 2) ≤ hi * (q.w + 2) := Nat.mul_le_mul_right _ h2
    cases t
    · exact k.lst (by show _ + 3 ≤ hi * (q.w + 2) + 3; dsimp only; omega) (Nat.le_refl _) (Nat.le_refl _) (Nat.le_max_right _ _) (Nat.le_trans h2 (Nat.le_max_left _ _))
    · exact k.tup (by show _ + 3 ≤ hi * (q.w + 2) + 3; dsimp only; omega) (Nat.le_refl _) (Nat.le_refl _) (Nat.le_max_right _ _) (Nat.le_trans h2 (Nat.le_max_left _ _))
  | .tupx vs, d, p, e, g => by
    simp only [At.fd, Option.map_eq_some_iff] at e
    obtain ⟨q, e, rfl⟩ := e
    obtain ⟨xs, rfl, h⟩ := g
    have k := AVs.fd_ok e h
    exact k.tup (Nat.le_refl _) (Nat.le_refl _) (Nat.le_refl _) (Nat.le_max_right _ _) (by rw [← AVs.g_len h]; exact Nat.le_max_left _ _)
  | .any w dp k l, d, p, e, g => by cases e; exact ⟨g.1, g.2.1, g.2.2.1, g.2.2.2⟩
  | .feed, d, p, e, g => by cases e
theorem AV.fd_ok : ∀ {v : AV} {d : D} {p : Bd}, v.fd = some p → AV.g v d → Wn p d
  | .nil, d, p, e, g => by simp [AV.g] at g
  | .cons a v, d, p, e, g => by
    simp only [AV.fd] at e
    split at e
    · rename_i x y e1 e2
      cases e
      rw [AV.g] at g
      rcases g with g | g
      · exact (At.fd_ok e1 g).mono (Nat.le_max_left _ _) (Nat.le_max_left _ _) (Nat.le_max_left _ _) (Nat.le_max_left _ _)
      · exact (AV.fd_ok e2 g).mono (Nat.le_max_right _ _) (Nat.le_max_right _ _) (Nat.le_max_right _ _) (Nat.le_max_right _ _)
    · cases e
theorem AVs.fd_ok : ∀ {v : AVs} {xs : List D} {p : Bd}, v.fd = some p → AVs.g v xs → Wns p xs
  | .nil, xs, p, e, g => by cases e; simp only [AVs.g] at g; subst g; exact ⟨rfl, Nat.le_refl _, Nat.le_refl _, Nat.le_refl _⟩
  | .cons a v, xs, p, e, g => by
    simp only [AVs.fd] at e
    split at e
    · rename_i x y e1 e2
      cases e
      obtain ⟨d, r, rfl, g1, g2⟩ := g
      have h := AV.fd_ok e1 g1
      have t := AVs.fd_ok e2 g2
      have a1 := h.wz
      have a2 := t.wz
      have b1 := h.dep
      have b2 := t.dep
      have c1 := h.ml
      have c2 := t.ml
      refine ⟨?_, ?_, ?_, ?_⟩
      · simp only [D.pns, Bool.and_eq_true]
        exact ⟨D.pn_mono (Nat.le_max_left _ _) h.pn, D.pns_mono (Nat.le_max_right _ _) t.pn⟩
      · show d.wz + 2 + D.wzs r ≤ x.w + 2 + y.w
        omega
      · show max d.dep (D.deps r) ≤ max x.d y.d
        omega
      · show max d.ml (D.mls r) ≤ max x.l y.l
        omega
    · cases e
end
/-- any thing within bounds, by its shape -/
theorem any_wn {w d k l : Nat} {x : D} (h : At.g (.any w d k l) x) : Wn ⟨w, d, k, l⟩ x := ⟨h.1, h.2.1, h.2.2.1, h.2.2.2⟩
end Py
end

section
set_option maxRecDepth 100000
set_option maxHeartbeats 4000000
set_option linter.all false
/-! The feed, and the def that draws from it. -/
namespace Py
open PySem L2

def kC : Key := .inr "cells"
def kA : Key := .inr "at"
def kL : Key := .inr "left"
def kN : Key := .inr "count"
def fdC (c : List Int) (a l n : Int) : Cell := .dK [(kC, .lst (c.map .int)), (kA, .int a), (kL, .int l), (kN, .int n)]
/-- the feed stands first in the store -/
def FeedI (rest : Store) (st : Store) : Prop := ∃ c a l n, st = some (fdC c a l n) :: rest ∧ c.length ≤ 63 ∧ 0 ≤ a ∧ 0 ≤ l

def drawB : Sms :=
  .cons (.sset 0 (.cst (.str ("count" : Str))) (.bin .add (.ix (.var 0) (.cst (.str ("count" : Str)))) (.cst (.int 1)))) <|
  .cons (.ife (.cmp .gt (.ix (.var 0) (.cst (.str ("left" : Str)))) (.cst (.int 0))) (.cons (.vl 2 (.bin .mod (.ix (.var 0) (.cst (.str ("left" : Str)))) (.var 1))) (.cons (.sset 0 (.cst (.str ("left" : Str))) (.bin .fdiv (.ix (.var 0) (.cst (.str ("left" : Str)))) (.var 1))) (.cons (.ret (.var 2)) .nil))) .nil) <|
  .cons (.vl 3 (.ix (.var 0) (.cst (.str ("at" : Str))))) <|
  .cons (.sset 0 (.cst (.str ("at" : Str))) (.bin .add (.var 3) (.cst (.int 1)))) <|
  .cons (.vl 4 (.ife (.cmp .ne (.ix (.var 0) (.cst (.str ("cells" : Str)))) (.lst .nil)) (.ix (.ix (.var 0) (.cst (.str ("cells" : Str)))) (.bin .mod (.var 3) (.bi .len (.cons (.ix (.var 0) (.cst (.str ("cells" : Str)))) .nil)))) (.cst (.int 8)))) <|
  .cons (.ife (.and (.cons (.cmp .ge (.var 4) (.bin .pow (.cst (.int 10)) (.cst (.int 18)))) (.cons (.cmp .lt (.var 3) (.bi .len (.cons (.ix (.var 0) (.cst (.str ("cells" : Str)))) .nil))) .nil))) (.cons (.sset 0 (.cst (.str ("left" : Str))) (.bin .fdiv (.var 4) (.var 1))) (.cons (.ret (.bin .mod (.var 4) (.var 1))) .nil)) .nil) <|
  .cons (.vl 5 (.bin .mod (.bin .add (.bin .add (.bin .mod (.var 4) (.cst (.int 1000000033))) (.bin .mul (.cst (.int 70001)) (.ix (.var 0) (.cst (.str ("count" : Str)))))) (.cst (.int 37))) (.cst (.int 2147483587)))) <|
  .cons (.vl 5 (.bin .mod (.bin .add (.bin .add (.bin .mul (.var 5) (.var 5)) (.bin .mul (.cst (.int 6700417)) (.ix (.var 0) (.cst (.str ("count" : Str)))))) (.cst (.int 7))) (.cst (.int 2147483563)))) <|
  .cons (.ret (.bin .mod (.bin .fdiv (.bin .mod (.bin .add (.bin .mul (.var 5) (.var 5)) (.bin .mul (.cst (.int 17)) (.var 5))) (.cst (.int 2147483549))) (.cst (.int 8))) (.var 1))) <|
  .nil

section
variable {c : List Int} {a l n x : Int} {rest : Store} {F : Fsem} {env : Env} {i : Nat}
theorem ne1 : ¬ ("cells" : Str) = "at" := by decide +kernel
theorem ne2 : ¬ ("cells" : Str) = "left" := by decide +kernel
theorem ne3 : ¬ ("cells" : Str) = "count" := by decide +kernel
theorem ne4 : ¬ ("at" : Str) = "left" := by decide +kernel
theorem ne5 : ¬ ("at" : Str) = "count" := by decide +kernel
theorem ne6 : ¬ ("left" : Str) = "count" := by decide +kernel
theorem feed_vw : (Res.val (.ptr 0)).vw (some (fdC c a l n) :: rest) = (fdC c a l n).vw := rfl
theorem gx_cells (h : env[i]? = some (some (.val (.ptr 0)))) : evalE F (.ix (.var i) (.cst (.str ("cells" : Str)))) env (some (fdC c a l n) :: rest) = .ok (.val (.lst (c.map .int))) (some (fdC c a l n) :: rest) := by
  simp only [evalE, h, Out.bind_ok, feed_vw]
  simp [Res.vw, D.vw, fdC, Cell.vw, opIx, look, D.key, lookK, Out.of, kC, kA, kL, kN, ne1, ne2, ne3, ne4, ne5, ne6]
theorem gx_at (h : env[i]? = some (some (.val (.ptr 0)))) : evalE F (.ix (.var i) (.cst (.str ("at" : Str)))) env (some (fdC c a l n) :: rest) = .ok (.val (.int a)) (some (fdC c a l n) :: rest) := by
  simp only [evalE, h, Out.bind_ok, feed_vw]
  simp [Res.vw, D.vw, fdC, Cell.vw, opIx, look, D.key, lookK, Out.of, kC, kA, kL, kN, ne1, ne2, ne3, ne4, ne5, ne6, List.find?_cons]
theorem gx_left (h : env[i]? = some (some (.val (.ptr 0)))) : evalE F (.ix (.var i) (.cst (.str ("left" : Str)))) env (some (fdC c a l n) :: rest) = .ok (.val (.int l)) (some (fdC c a l n) :: rest) := by
  simp only [evalE, h, Out.bind_ok, feed_vw]
  simp [Res.vw, D.vw, fdC, Cell.vw, opIx, look, D.key, lookK, Out.of, kC, kA, kL, kN, ne1, ne2, ne3, ne4, ne5, ne6, List.find?_cons]
theorem gx_count (h : env[i]? = some (some (.val (.ptr 0)))) : evalE F (.ix (.var i) (.cst (.str ("count" : Str)))) env (some (fdC c a l n) :: rest) = .ok (.val (.int n)) (some (fdC c a l n) :: rest) := by
  simp only [evalE, h, Out.bind_ok, feed_vw]
  simp [Res.vw, D.vw, fdC, Cell.vw, opIx, look, D.key, lookK, Out.of, kC, kA, kL, kN, ne1, ne2, ne3, ne4, ne5, ne6, List.find?_cons]
theorem slot_feed (h : env[i]? = some (some (.val (.ptr 0)))) : slotC i env (some (fdC c a l n) :: rest) = some (fdC c a l n) := by
  simp [slotC, h]
theorem st_count (h : env[i]? = some (some (.val (.ptr 0)))) : chg (fun z => dictPut z (.str ("count" : Str)) (.int x)) i env (some (fdC c a l n) :: rest) = .nx env (some (fdC c a l x) :: rest) := by
  have hs : 4 < sizeLine := by decide
  simp [chg, h, fdC, dictPut, D.key, putD, kC, kA, kL, kN, ne1, ne2, ne3, ne4, ne5, ne6, hs]
theorem st_at (h : env[i]? = some (some (.val (.ptr 0)))) : chg (fun z => dictPut z (.str ("at" : Str)) (.int x)) i env (some (fdC c a l n) :: rest) = .nx env (some (fdC c x l n) :: rest) := by
  have hs : 4 < sizeLine := by decide
  simp [chg, h, fdC, dictPut, D.key, putD, kC, kA, kL, kN, ne1, ne2, ne3, ne4, ne5, ne6, hs, Ne.symm ne1, Ne.symm ne4, Ne.symm ne5]
theorem st_left (h : env[i]? = some (some (.val (.ptr 0)))) : chg (fun z => dictPut z (.str ("left" : Str)) (.int x)) i env (some (fdC c a l n) :: rest) = .nx env (some (fdC c a x n) :: rest) := by
  have hs : 4 < sizeLine := by decide
  simp [chg, h, fdC, dictPut, D.key, putD, kC, kA, kL, kN, ne1, ne2, ne3, ne4, ne5, ne6, hs, Ne.symm ne2, Ne.symm ne4, Ne.symm ne6]
end

/-! rules of symbolic running -/
section
variable {F : Fsem} {env : Env} {st : Store} {E : SOut} {f : Env → Store → SOut} {α : Type} {a : α} {g : α → Store → SOut}
theorem seq_nx : (SOut.nx env st).seq f = f env st := rfl
theorem seq_rt {r : Res} : (SOut.rt r st).seq f = .rt r st := rfl
theorem sb_ok : (Out.ok a st).sbind env g = g a st := rfl
theorem e_cst {d : D} : evalE F (.cst d) env st = .ok (.val d) st := by simp only [evalE]
theorem e_var {i : Nat} {d : D} (h : env[i]? = some (some (.val d))) : evalE F (.var i) env st = .ok (.val d) st := by simp only [evalE, h]
theorem e_bin {op : BOp} {x y : Ex} : evalE F (.bin op x y) env st = (evalE F x env st).bind fun ra st1 => (evalE F y env st1).bind fun rb st2 => Out.of (opBin op (ra.vw st2) (rb.vw st2)) st2 := by simp only [evalE]
theorem e_ix {x y : Ex} : evalE F (.ix x y) env st = (evalE F x env st).bind fun ra st1 => (evalE F y env st1).bind fun rb st2 => Out.of ((opIx (ra.vw st2) (rb.vw st2)).map .val) st2 := by simp only [evalE]
theorem e_len {x : Ex} : evalE F (.bi .len (.cons x .nil)) env st = (evalE F x env st).bind fun r st1 => Out.of (opBI .len [r.vw st1]) st1 := by
  simp only [evalE, evalRs]
  cases evalE F x env st <;> rfl
theorem e_ife {c : Te} {x y : Ex} : evalE F (.ife c x y) env st = (evalT F c env st).bind fun t st1 => if t = true then evalE F x env st1 else evalE F y env st1 := by simp only [evalE]
theorem e_nil : evalE F (.lst .nil) env st = .ok (.own (.lst [])) st := by
  simp only [evalE, evalRs, Out.bind_ok, toDs]
  exact if_pos (Nat.zero_le _)
theorem t_cmp {op : COp} {x y : Ex} : evalT F (.cmp op x y) env st = (evalE F x env st).bind fun ra st1 => (evalE F y env st1).bind fun rb st2 => Out.of (opCmp op (ra.vw st2) (rb.vw st2)) st2 := by simp only [evalT]
theorem t_and2 {x y : Te} : evalT F (.and (.cons x (.cons y .nil))) env st = (evalT F x env st).bind fun b st1 => if b = true then evalT F y env st1 else .ok false st1 := by simp only [evalT, evalAndT]
theorem toD_val {d : D} : (Res.val d).toD = some d := rfl
theorem toDs2 {x y : D} : toDs [.val x, .val y] = some [x, y] := rfl
theorem c_gt {i j : Int} : opCmp .gt (.at (.int i)) (.at (.int j)) = some (decide (j < i)) := rfl
theorem c_ge {i j : Int} : opCmp .ge (.at (.int i)) (.at (.int j)) = some (decide (j ≤ i)) := rfl
theorem c_lt {i j : Int} : opCmp .lt (.at (.int i)) (.at (.int j)) = some (decide (i < j)) := rfl
theorem i_vw {i : Int} : (Res.val (.int i)).vw st = .at (.int i) := rfl
theorem o_add {i j : Int} : opBin .add (.at (.int i)) (.at (.int j)) = some (.val (.int (i + j))) := rfl
theorem o_sub {i j : Int} : opBin .sub (.at (.int i)) (.at (.int j)) = some (.val (.int (i - j))) := rfl
theorem o_mod {i j : Int} (h : 0 < j) : opBin .mod (.at (.int i)) (.at (.int j)) = some (.val (.int (i % j))) := if_pos h
theorem o_fdiv {i j : Int} (h : 0 < j) (h2 : j < 1073741824) : opBin .fdiv (.at (.int i)) (.at (.int j)) = some (.val (.int (i / j))) := if_pos ⟨h, h2⟩
theorem o_mul {i j : Int} (h : smallMul i j = true) : opBin .mul (.at (.int i)) (.at (.int j)) = some (.val (.int (i * j))) := if_pos h
end
theorem sm_l {i j : Int} (h : -(2 ^ 64) < i ∧ i < 2 ^ 64) : smallMul i j = true := by
  unfold smallMul
  rw [decide_eq_true h]
  rfl
theorem pys_ints : ∀ c : List Int, ∃ ps, D.pys (c.map D.int) = some ps ∧ ps.length = c.length ∧ PyData.depthAll ps = 0
  | [] => ⟨[], rfl, rfl, rfl⟩
  | x :: c => by
    obtain ⟨ps, h1, h2, h3⟩ := pys_ints c
    refine ⟨.int x :: ps, by simp [D.pys, D.py, h1], by simp [h2], ?_⟩
    show max 0 (PyData.depthAll ps) = 0
    omega
/-- the cell that is looked at -/
theorem cellv_ok {F : Fsem} {env : Env} {c : List Int} {a a' l n : Int} {rest : Store} (h0 : env[0]? = some (some (.val (.ptr 0)))) (h3 : env[3]? = some (some (.val (.int a)))) (ha : 0 ≤ a) :
    ∃ x : Int, evalE F (.ife (.cmp .ne (.ix (.var 0) (.cst (.str ("cells" : Str)))) (.lst .nil)) (.ix (.ix (.var 0) (.cst (.str ("cells" : Str)))) (.bin .mod (.var 3) (.bi .len (.cons (.ix (.var 0) (.cst (.str ("cells" : Str)))) .nil)))) (.cst (.int 8))) env (some (fdC c a' l n) :: rest) = .ok (.val (.int x)) (some (fdC c a' l n) :: rest) := by
  have hv : (Res.val (.lst (c.map .int))).vw (some (fdC c a' l n) :: rest) = .sq false (c.map .int) := rfl
  have hw : (Res.own (.lst [])).vw (some (fdC c a' l n) :: rest) = .sq false [] := rfl
  have hne : opCmp .ne (.sq false (c.map D.int)) (.sq false []) = some (!c.isEmpty) := by
    obtain ⟨ps, h1, h2, h3⟩ := pys_ints c
    show (eqv2 _ _).map _ = _
    unfold eqv2
    simp only [Vw.py, h1, D.pys, Option.map_some]
    rw [if_pos (by show min (PyData.depthAll ps + 1) (0 + 1) ≤ 64; omega)]
    cases c with
    | nil =>
      have : ps = [] := List.eq_nil_of_length_eq_zero h2
      subst this
      rfl
    | cons y c =>
      cases ps with
      | nil => simp at h2
      | cons _ _ => rfl
  simp only [e_ife, t_cmp, ↓gx_cells (i := 0) h0, Out.bind_ok, e_nil, hv, hw, hne, Out.of_some]
  cases hc : c with
  | nil => exact ⟨8, by simp [e_cst]⟩
  | cons y c' =>
    rw [← hc]
    have hlen : 0 < (c.length : Int) := by rw [hc]; simp
    have hb : (!c.isEmpty) = true := by rw [hc]; rfl
    rw [if_pos hb]
    have hL : opBI .len [.sq false (c.map D.int)] = some (.val (.int c.length)) := by simp [opBI]
    rw [e_ix, gx_cells h0, Out.bind_ok]
    simp only [↓gx_cells (i := 0) h0, Out.bind_ok, e_bin, e_var h3, e_len, hv, hL, Out.of_some, i_vw, o_mod hlen]
    have hm := Int.emod_lt_of_pos a hlen
    have hm0 := Int.emod_nonneg a (b := (c.length : Int)) (by omega)
    have hi : (a % (c.length : Int)).toNat < c.length := by omega
    refine ⟨c[(a % (c.length : Int)).toNat], ?_⟩
    have : opIx (.sq false (c.map D.int)) (.at (.int (a % (c.length : Int)))) = some (.int c[(a % (c.length : Int)).toNat]) := by
      show atI (c.map D.int) _ = _
      unfold atI ixN
      rw [if_pos hm0, if_pos (by simpa using hm)]
      show (c.map D.int)[_]? = _
      rw [List.getElem?_map, List.getElem?_eq_getElem hi]
      rfl
    rw [this]
    rfl
/-- what is drawn -/
theorem draw_ok {P : Nat → Option FDef} {dr : Nat} {rest : Store} (hP : P dr = some ⟨6, 2, drawB⟩) : ∀ k (m : Int) st, FeedI rest st → 0 < m → m < 1073741824 → (run P (k + 1) dr [.ptr 0, .int m] st).W fun r st' => (∃ i, r = .val (.int i) ∧ 0 ≤ i ∧ i < m) ∧ FeedI rest st' := by
  rintro k m st ⟨c, a, l, n, rfl, hc, ha, hl⟩ h0 h1
  show (match P dr with
    | some d => runB (run P k) d.n d.body [.ptr 0, .int m] (some (fdC c a l n) :: rest)
    | none => .bad).W _
  rw [hP]
  show (endB (execSs (run P k) drawB [some (.val (.ptr 0)), some (.val (.int m)), none, none, none, none] (some (fdC c a l n) :: rest))).W _
  generalize run P k = F
  have hm : ∀ i : Int, 0 ≤ i % m ∧ i % m < m := fun i => ⟨Int.emod_nonneg _ (by omega), Int.emod_lt_of_pos _ h0⟩
  -- count
  simp only [drawB, execSs, execS, e_bin, e_cst, ↓gx_count (env := some (.val (.ptr 0)) :: _) (i := 0) rfl, Out.bind_ok, i_vw, o_add, Out.of_some, sb_ok, slot_feed (env := some (.val (.ptr 0)) :: _) (i := 0) rfl, toDs2, toD_val, st_count (env := some (.val (.ptr 0)) :: _) (i := 0) rfl, seq_nx,
    t_cmp, ↓gx_left (env := some (.val (.ptr 0)) :: _) (i := 0) rfl, c_gt]
  by_cases hp : 0 < l
  · -- a figure of what is left
    simp only [hp, decide_true, if_true, e_bin, e_cst, ↓gx_left (env := some (.val (.ptr 0)) :: _) (i := 0) rfl, Out.bind_ok, i_vw, Out.of_some, sb_ok, slot_feed (env := some (.val (.ptr 0)) :: _) (i := 0) rfl, toDs2, toD_val, seq_nx, seq_rt, e_var (i := 1) (d := .int m) (env := [_, some (.val (.int m)), none, none, none, none]) rfl,
      e_var (i := 1) (d := .int m) (env := _ :: some (.val (.int m)) :: _) rfl, o_mod h0, o_fdiv h0 h1, List.set_cons_succ, List.set_cons_zero, st_left (env := some (.val (.ptr 0)) :: _) (i := 0) rfl, e_var (i := 2) (d := .int (l % m)) (env := _ :: _ :: some (.val (.int (l % m))) :: _) rfl, endB]
    exact ⟨⟨_, rfl, (hm l).1, (hm l).2⟩, _, _, _, _, rfl, hc, ha, Int.ediv_nonneg hl (by omega)⟩
  · simp only [hp, decide_false, Bool.false_eq_true, if_false, seq_nx, ↓gx_at (env := some (.val (.ptr 0)) :: _) (i := 0) rfl, sb_ok, toD_val, List.set_cons_succ, List.set_cons_zero]
    obtain ⟨x, hx⟩ := cellv_ok (F := F) (env := [some (.val (.ptr 0)), some (.val (.int m)), none, some (.val (.int a)), none, none]) (c := c) (a := a) (a' := a + 1) (l := l) (n := n + 1) (rest := rest) rfl rfl ha
    have hL : ∀ st : Store, opBI .len [(Res.val (.lst (c.map .int))).vw st] = some (.val (.int c.length)) := fun st => by show some _ = _; rw [List.length_map]
    simp only [e_var (i := 3) (d := .int a) (env := _ :: _ :: _ :: some (.val (.int a)) :: _) rfl, Out.bind_ok, i_vw, o_add, Out.of_some, sb_ok, slot_feed (env := some (.val (.ptr 0)) :: _) (i := 0) rfl, toDs2, toD_val, st_at (env := some (.val (.ptr 0)) :: _) (i := 0) rfl, seq_nx, ↓hx, List.set_cons_succ, List.set_cons_zero]
    have hpow : opBin .pow (.at (.int 10)) (.at (.int 18)) = some (.val (.int 1000000000000000000)) := rfl
    have hlast : ∀ (fl : Bool), fl = true → (endB (.rt (.val (.int 0)) ([] : Store))).W fun _ _ => True := fun _ _ => trivial
    -- the end with a mixed number
    simp only [t_and2, t_cmp, e_bin, e_cst, e_var (i := 4) (d := .int x) (env := _ :: _ :: _ :: _ :: some (.val (.int x)) :: _) rfl, e_var (i := 3) (d := .int a) (env := _ :: _ :: _ :: some (.val (.int a)) :: _) rfl, Out.bind_ok, i_vw, hpow, Out.of_some, c_ge, e_len, ↓gx_cells (env := some (.val (.ptr 0)) :: _) (i := 0) rfl, hL, c_lt]
    have hI : ∀ (x' : Int) (l' : Int), 0 ≤ l' → FeedI rest (some (fdC c (a + 1) l' (n + 1)) :: rest) := fun _ l' h => ⟨c, a + 1, l', n + 1, rfl, hc, by omega, h⟩
    have mixed : ∀ st : Store, st = some (fdC c (a + 1) l (n + 1)) :: rest → (endB ((execS F (.vl 5 (.bin .mod (.bin .add (.bin .add (.bin .mod (.var 4) (.cst (.int 1000000033))) (.bin .mul (.cst (.int 70001)) (.ix (.var 0) (.cst (.str ("count" : Str)))))) (.cst (.int 37))) (.cst (.int 2147483587)))) [some (.val (.ptr 0)), some (.val (.int m)), none, some (.val (.int a)), some (.val (.int x)), none] st).seq fun e s =>
        (execS F (.vl 5 (.bin .mod (.bin .add (.bin .add (.bin .mul (.var 5) (.var 5)) (.bin .mul (.cst (.int 6700417)) (.ix (.var 0) (.cst (.str ("count" : Str)))))) (.cst (.int 7))) (.cst (.int 2147483563)))) e s).seq fun e s =>
        (execS F (.ret (.bin .mod (.bin .fdiv (.bin .mod (.bin .add (.bin .mul (.var 5) (.var 5)) (.bin .mul (.cst (.int 17)) (.var 5))) (.cst (.int 2147483549))) (.cst (.int 8))) (.var 1))) e s).seq fun e s => .nx e s)).W fun r st' => (∃ i, r = .val (.int i) ∧ 0 ≤ i ∧ i < m) ∧ FeedI rest st' := by
      rintro st rfl
      have m1 : ∀ z : Int, (0 : Int) ≤ z % 2147483587 ∧ z % 2147483587 < 2147483587 := fun z => ⟨Int.emod_nonneg _ (by decide), Int.emod_lt_of_pos _ (by decide)⟩
      have m2 : ∀ z : Int, (0 : Int) ≤ z % 2147483563 ∧ z % 2147483563 < 2147483563 := fun z => ⟨Int.emod_nonneg _ (by decide), Int.emod_lt_of_pos _ (by decide)⟩
      have q1 : ∀ z, smallMul 70001 z = true := fun z => sm_l (by decide)
      have q2 : ∀ z, smallMul 6700417 z = true := fun z => sm_l (by decide)
      have q3 : ∀ z, smallMul 17 z = true := fun z => sm_l (by decide)
      simp only [execS, e_bin, e_cst, e_var (i := 4) (d := .int x) (env := _ :: _ :: _ :: _ :: some (.val (.int x)) :: _) rfl, ↓gx_count (env := some (.val (.ptr 0)) :: _) (i := 0) rfl, Out.bind_ok, i_vw, o_add, o_mod (j := 1000000033) (by decide), o_mul (q1 _), o_mod (j := 2147483587) (by decide), Out.of_some, sb_ok, toD_val, seq_nx, List.set_cons_succ, List.set_cons_zero]
      generalize hz : (x % 1000000033 + 70001 * (n + 1) + 37) % 2147483587 = z
      have b1 := m1 (x % 1000000033 + 70001 * (n + 1) + 37)
      rw [hz] at b1
      have q4 : smallMul z z = true := sm_l (by omega)
      simp only [e_bin, e_cst, e_var (i := 5) (d := .int z) (env := _ :: _ :: _ :: _ :: _ :: some (.val (.int z)) :: _) rfl, ↓gx_count (env := some (.val (.ptr 0)) :: _) (i := 0) rfl, Out.bind_ok, i_vw, o_add, o_mul (q2 _), o_mul q4, o_mod (j := 2147483563) (by decide), Out.of_some, sb_ok, toD_val, seq_nx, List.set_cons_succ, List.set_cons_zero]
      generalize hy : (z * z + 6700417 * (n + 1) + 7) % 2147483563 = y
      have b2 := m2 (z * z + 6700417 * (n + 1) + 7)
      rw [hy] at b2
      have q5 : smallMul y y = true := sm_l (by omega)
      simp only [e_bin, e_cst, e_var (i := 5) (d := .int y) (env := _ :: _ :: _ :: _ :: _ :: some (.val (.int y)) :: _) rfl, e_var (i := 1) (d := .int m) (env := _ :: some (.val (.int m)) :: _) rfl, Out.bind_ok, i_vw, o_add, o_mul (q3 _), o_mul q5, o_mod (j := 2147483549) (by decide), o_fdiv (j := 8) (by decide) (by decide), o_mod h0, Out.of_some, sb_ok, seq_rt, endB]
      exact ⟨⟨_, rfl, (hm _).1, (hm _).2⟩, hI 0 l hl⟩
    by_cases hq : (1000000000000000000 : Int) ≤ x
    · by_cases hr : a < (c.length : Int)
      · simp only [hq, hr, decide_true, if_true, sb_ok, e_bin, e_var (i := 1) (d := .int m) (env := _ :: some (.val (.int m)) :: _) rfl, e_var (i := 4) (d := .int x) (env := _ :: _ :: _ :: _ :: some (.val (.int x)) :: _) rfl, Out.bind_ok, i_vw, o_fdiv h0 h1, o_mod h0, Out.of_some, slot_feed (env := some (.val (.ptr 0)) :: _) (i := 0) rfl, toDs2, st_left (env := some (.val (.ptr 0)) :: _) (i := 0) rfl, seq_nx, seq_rt, endB]
        exact ⟨⟨_, rfl, (hm x).1, (hm x).2⟩, hI 0 _ (Int.ediv_nonneg (by omega) (by omega))⟩
      · simp only [hq, hr, decide_true, decide_false, if_true, Bool.false_eq_true, if_false, sb_ok, seq_nx]
        have := mixed _ rfl
        simp only [execS] at this
        exact this
    · simp only [hq, decide_false, Bool.false_eq_true, if_false, sb_ok, seq_nx]
      have := mixed _ rfl
      simp only [execS] at this
      exact this
end Py
end

section
set_option maxRecDepth 100000
set_option maxHeartbeats 4000000
set_option linter.all false
/-! Rules for pure laws. -/
namespace Py
open PySem L2

/-- a comprehension of steps that end well and leave the store -/
theorem comp_pure {put : D → Env → Option Env} {cond : Env → Store → Out Bool} {elt : Env → Store → Out Res} {env : Env} {st : Store} {p : D → Bool} {f : D → D} :
    ∀ (xs acc : List D), (∀ x ∈ xs, ∃ e, put x env = some e ∧ cond e st = .ok (p x) st ∧ (p x = true → elt e st = .ok (.val (f x)) st)) → acc.length + xs.length ≤ sizeLine →
      compL put cond elt env xs acc st = .ok (acc ++ (xs.filter p).map f) st
  | [], acc, _, _ => by simp [compL]
  | x :: xs, acc, h, hl => by
    obtain ⟨e, h1, h2, h3⟩ := h x (by simp)
    rw [List.length_cons] at hl
    unfold compL
    rw [h1]
    dsimp only
    rw [h2, Out.bind_ok]
    cases hp : p x with
    | true =>
      rw [if_pos rfl, h3 hp, Out.bind_ok]
      dsimp only [Res.toD]
      rw [if_pos (by omega), comp_pure xs _ (fun y hy => h y (by simp [hy])) (by simp; omega), List.filter_cons_of_pos hp]
      simp
    | false =>
      rw [if_neg Bool.false_ne_true, comp_pure xs _ (fun y hy => h y (by simp [hy])) (by omega), List.filter_cons_of_neg (by simp [hp])]
/-- plain data's type -/
def tyD : D → Option String
  | .non => some "NoneType"
  | .bl _ => some "bool"
  | .int _ => some "int"
  | .str _ => some "str"
  | .tup _ => some "tuple"
  | .lst _ => some "list"
  | _ => none
theorem isi_ty {d : D} {n t : String} {b : Bool} {st : Store} (h : tyD d = some n) (k : kitB n t = some b) : opIsi (d.vw st) t = some b := by
  cases d <;> simp only [tyD, reduceCtorEq, Option.some.injEq] at h <;> subst h <;> exact k
theorem tyD_py {d : D} {p : PyData} (h : d.py = some p) : ∃ n, tyD d = some n := by
  cases d <;> first | exact ⟨_, rfl⟩ | (simp [D.py] at h)
section
variable {P : Nat → Option FDef} {k f : Nat} {ds : List D} {st : Store}
theorem run_eq {d : FDef} (h : P f = some d) : run P (k + 1) f ds st = endB (execSs (run P k) d.body (env0 d.n ds) st) := by
  show (match P f with
    | some d => runB (run P k) d.n d.body ds st
    | none => .bad) = _
  rw [h]
  rfl
end

/-! texts and sequences within the line -/
mutual
def D.sok : D → Bool
  | .str x => decide (x.length ≤ sizeLine)
  | .tup xs => decide (xs.length ≤ sizeLine) && D.soks xs
  | .lst xs => decide (xs.length ≤ sizeLine) && D.soks xs
  | _ => true
def D.soks : List D → Bool
  | [] => true
  | x :: xs => D.sok x && D.soks xs
end
theorem D.soks_of : ∀ {xs : List D}, (∀ x ∈ xs, D.sok x = true) → D.soks xs = true
  | [], _ => rfl
  | x :: xs, h => by rw [D.soks, h x (by simp), D.soks_of fun y hy => h y (by simp [hy])]; rfl
theorem D.soks_mem : ∀ {xs : List D}, D.soks xs = true → ∀ x ∈ xs, D.sok x = true
  | [], _, x, hx => by simp at hx
  | y :: xs, h, x, hx => by
    simp only [D.soks, Bool.and_eq_true] at h
    rcases List.mem_cons.mp hx with rfl | hx
    · exact h.1
    · exact D.soks_mem h.2 x hx
mutual
def At.sok : At → Bool
  | .str _ hi _ => decide (hi ≤ sizeLine)
  | .seq _ _ hi e => decide (hi ≤ sizeLine) && e.sok
  | .tupx es => decide (es.len ≤ sizeLine) && es.sok
  | .any w _ _ _ => decide (w ≤ sizeLine)
  | _ => true
def AV.sok : AV → Bool
  | .nil => true
  | .cons a v => a.sok && v.sok
def AVs.sok : AVs → Bool
  | .nil => true
  | .cons a v => a.sok && v.sok
end
mutual
theorem wz_sok : ∀ {d : D}, d.wz ≤ sizeLine → D.sok d = true
  | .non, _ => rfl
  | .bl _, _ => rfl
  | .int _, _ => rfl
  | .str x, h => by
    have h : 2 * x.length + 2 ≤ sizeLine := h
    simp only [D.sok, decide_eq_true_eq]
    omega
  | .tup xs, h => by
    have h : D.wzs xs + 3 ≤ sizeLine := h
    obtain ⟨h1, h2⟩ := wzs_soks (xs := xs) (by omega)
    simp only [D.sok, Bool.and_eq_true, decide_eq_true_eq]
    exact ⟨by omega, h2⟩
  | .lst xs, h => by
    have h : D.wzs xs + 3 ≤ sizeLine := h
    obtain ⟨h1, h2⟩ := wzs_soks (xs := xs) (by omega)
    simp only [D.sok, Bool.and_eq_true, decide_eq_true_eq]
    exact ⟨by omega, h2⟩
  | .obj _ _, _ => rfl
  | .ptr _, _ => rfl
  | .scr _, _ => rfl
theorem wzs_soks : ∀ {xs : List D}, D.wzs xs ≤ sizeLine → xs.length ≤ D.wzs xs ∧ D.soks xs = true
  | [], _ => ⟨Nat.le_refl _, rfl⟩
  | x :: xs, h => by
    have h : x.wz + 2 + D.wzs xs ≤ sizeLine := h
    obtain ⟨h1, h2⟩ := wzs_soks (xs := xs) (by omega)
    refine ⟨?_, ?_⟩
    · show xs.length + 1 ≤ x.wz + 2 + D.wzs xs
      omega
    · simp only [D.soks, Bool.and_eq_true]
      exact ⟨wz_sok (by omega), h2⟩
end
mutual
theorem At.sok_ok : ∀ {a : At} {d : D}, a.sok = true → At.g a d → D.sok d = true
  | .non, d, e, g => by simp only [At.g] at g; subst g; rfl
  | .bl _ _, d, e, g => by obtain ⟨b, rfl, _⟩ := g; rfl
  | .int _ _, d, e, g => by obtain ⟨b, rfl, _⟩ := g; rfl
  | .str _ hi _, d, e, g => by
    obtain ⟨x, rfl, _, h, _⟩ := g
    simp only [At.sok, decide_eq_true_eq] at e
    simp only [D.sok, decide_eq_true_eq]
    omega
  | .seq t lo hi v, d, e, g => by
    obtain ⟨xs, rfl, _, h1, h2⟩ := g
    simp only [At.sok, Bool.and_eq_true, decide_eq_true_eq] at e
    have hs : D.soks xs = true := D.soks_of fun x hx => AV.sok_ok e.2 (h2 x hx)
    cases t <;> simp [seqD, D.sok, hs] <;> omega
  | .tupx vs, d, e, g => by
    obtain ⟨xs, rfl, h⟩ := g
    simp only [At.sok, Bool.and_eq_true, decide_eq_true_eq] at e
    have hs := AVs.sok_ok e.2 h
    have hl := AVs.g_len h
    simp [D.sok, hs]
    omega
  | .any w _ _ _, d, e, g => by
    simp only [At.sok, decide_eq_true_eq] at e
    exact wz_sok (Nat.le_trans g.2.1 e)
  | .feed, d, e, g => by simp only [At.g] at g; subst g; rfl
theorem AV.sok_ok : ∀ {v : AV} {d : D}, v.sok = true → AV.g v d → D.sok d = true
  | .nil, d, e, g => by simp [AV.g] at g
  | .cons a v, d, e, g => by
    simp only [AV.sok, Bool.and_eq_true] at e
    rw [AV.g] at g
    rcases g with g | g
    · exact At.sok_ok e.1 g
    · exact AV.sok_ok e.2 g
theorem AVs.sok_ok : ∀ {v : AVs} {xs : List D}, v.sok = true → AVs.g v xs → D.soks xs = true
  | .nil, xs, e, g => by simp only [AVs.g] at g; subst g; rfl
  | .cons a v, xs, e, g => by
    simp only [AVs.sok, Bool.and_eq_true] at e
    obtain ⟨d, r, rfl, g1, g2⟩ := g
    rw [D.soks, AV.sok_ok e.1 g1, AVs.sok_ok e.2 g2]
    rfl
end
end Py
end

section
set_option maxRecDepth 1000000
set_option maxHeartbeats 4000000
set_option linter.all false
namespace Py
open PySem L2
/-- what is known of an own list in a slot -/
def goodOwn (o : Option AOut) (L i W M D : Nat) : Bool := match o with
  | some A => A.rt.isNone && A.bk.isNone && A.ct.isNone && (match A.nx with
    | some E => (match E.sl[i]? with
      | some (some (AR.own v)) => (match v.wt, v.pd, lstV v with
        | some w, some d, some (_, n, m) => decide (w ≤ W) && decide (m ≤ M) && decide (d ≤ D) && v.sok && decide (E.sl.length = L)
        | _, _, _ => false)
      | _ => false)
    | none => false)
  | none => false
theorem goodOwn_ok {I : Store → Prop} {o : SOut} {a : Option AOut} {L i W M Dp : Nat} (h : goodOwn a L i W M Dp = true) (hw : ∀ A, a = some A → o.W I A) :
    ∃ env st xs p q, o = .nx env st ∧ env[i]? = some (some (.own (.lst xs))) ∧ I st ∧ (D.lst xs).py = some p ∧ p.showable = true ∧ p.shown.length ≤ W ∧ (D.lst xs).py = some q ∧ q.depth ≤ Dp ∧ xs.length ≤ M ∧ D.sok (.lst xs) = true ∧ env.length = L := by
  cases a with
  | none => cases h
  | some A =>
    have hw := hw A rfl
    simp only [goodOwn, Bool.and_eq_true, Option.isNone_iff_eq_none] at h
    obtain ⟨⟨⟨h1, h2⟩, h3⟩, h4⟩ := h
    split at h4
    · rename_i E e1
      split at h4
      · rename_i v e2
        split at h4
        · rename_i w d x n m e3 e4 e5
          simp only [Bool.and_eq_true, decide_eq_true_eq] at h4
          obtain ⟨⟨⟨⟨k1, k2⟩, k3⟩, k4⟩, k5⟩ := h4
          cases o with
          | nx env st =>
            have g : gOE A.nx env := hw.1
            have hi : I st := hw.2
            rw [e1] at g
            obtain ⟨r, r1, xs, rfl, r2⟩ := g.2.1 i _ e2
            obtain ⟨p, p1, p2, p3⟩ := AV.wt_ok e3 r2
            obtain ⟨q, q1, q2⟩ := AV.pd_ok e4 r2
            obtain ⟨xs', z, z1, z2, z3⟩ := lstV_ok e5 r2
            cases z
            exact ⟨env, st, xs, p, q, rfl, r1, hi, p1, p2, by omega, q1, by omega, by omega, AV.sok_ok k4 r2, g.1.symm.trans k5⟩
          | rt r st => have g : gOR A.rt r := hw.1; rw [h1] at g; exact g.elim
          | bk env st => have g : gOE A.bk env := hw.1; rw [h2] at g; exact g.elim
          | ct env st => have g : gOE A.ct env := hw.1; rw [h3] at g; exact g.elim
          | exc _ _ _ _ => exact hw.elim
          | bad => exact hw.elim
        · cases h4
      · cases h4
    · cases h4
theorem ss_cons {F : Fsem} {s : Sm} {ss : Sms} {en : Env} {st : Store} : execSs F (.cons s ss) en st = (execS F s en st).seq fun e s => execSs F ss e s := by simp only [execSs]
def catS : Sms → Sms → Sms
  | .nil, b => b
  | .cons s a, b => .cons s (catS a b)
theorem cat_nx {F : Fsem} : ∀ {a b : Sms} {en en' : Env} {st st' : Store}, execSs F a en st = .nx en' st' → execSs F (catS a b) en st = execSs F b en' st'
  | .nil, b, en, en', st, st', h => by
    simp only [execSs, SOut.nx.injEq] at h
    rw [catS, h.1, h.2]
  | .cons s a, b, en, en', st, st', h => by
    rw [ss_cons] at h
    rw [catS, ss_cons]
    cases e : execS F s en st with
    | nx e1 s1 => rw [e] at h; exact cat_nx h
    | _ => rw [e] at h; cases h
theorem repr_of {v : Vw} {p q : PyData} (h1 : v.py = some p) (h2 : v.py = some q) (hs : p.showable = true) (hl : p.shown.length ≤ sizeLine) (hd : q.depth ≤ 64) : opBI .repr [v] = some (.val (.str p.shown)) := by
  rw [h1] at h2
  cases h2
  show (match v.py with
    | some p => (showD p).map fun s => Res.val (.str s)
    | none => none) = _
  rw [h1]
  dsimp only
  unfold showD
  rw [if_pos ⟨hd, hs, hl⟩]
  rfl
theorem e_repr {F : Fsem} {x : Ex} {en : Env} {st s : Store} {r : Res} (h : evalE F x en st = .ok r s) : evalE F (.bi .repr (.cons x .nil)) en st = Out.of (opBI .repr [r.vw s]) s := by
  simp only [evalE, evalRs, h, Out.bind_ok]
  rfl
theorem feed_of {ns : List Int} (h : ns.length ≤ 63) : cutD (ns.map D.int) none (some 63) = ns.map D.int := by
  unfold cutD
  rw [HT.sIx_none, show HT.sIx (ns.map D.int).length (ns.map D.int).length (some 63) = min 63 (ns.map D.int).length from HT.sIx_nat _ _ 63]
  rw [List.length_map, List.drop_zero, List.take_of_length_le (by simp; omega)]
theorem e_eqs {F : Fsem} {x y : Ex} {a b : Str} {en : Env} {st s t : Store} (h : evalE F x en st = .ok (.val (.str a)) s) (h2 : evalE F y en s = .ok (.val (.str b)) t) : evalE F (.cmp .eq x y) en st = .ok (.val (.bl (a == b))) t := by
  rw [show ∀ (a b : Ex) (en : Env), evalE F (.cmp .eq a b) en st = (evalE F a en st).bind fun ra st1 => (evalE F b en st1).bind fun rb st2 => Out.of ((opCmp .eq (ra.vw st2) (rb.vw st2)).map fun b => .val (.bl b)) st2 from fun a b en => by simp only [evalE]]
  rw [h, Out.bind_ok, h2, Out.bind_ok]
  rfl
theorem t_nes {F : Fsem} {x y : Ex} {a b : Str} {en : Env} {st s t : Store} (h : evalE F x en st = .ok (.val (.str a)) s) (h2 : evalE F y en s = .ok (.val (.str b)) t) : evalT F (.cmp .ne x y) en st = .ok (!(a == b)) t := by
  rw [t_cmp, h, Out.bind_ok, h2, Out.bind_ok]
  rfl
theorem e_tup3 {F : Fsem} {x y w : Ex} {a b c : D} {en : Env} {st s1 s2 s3 : Store} (h : evalE F x en st = .ok (.val a) s1) (h2 : evalE F y en s1 = .ok (.val b) s2) (h3 : evalE F w en s2 = .ok (.val c) s3) : evalE F (.tup (.cons x (.cons y (.cons w .nil)))) en st = .ok (.val (.tup [a, b, c])) s3 := by
  simp only [evalE, evalRs, h, h2, h3, Out.bind_ok]
  rfl
theorem s_ret {F : Fsem} {e : Ex} {en : Env} {st s : Store} {r : Res} (h : evalE F e en st = .ok r s) : execSs F (.cons (.ret e) .nil) en st = .rt r s := by
  simp only [execSs, execS, h, sb_ok, seq_rt]
theorem s_ife {F : Fsem} {c : Te} {x y : Sms} {en : Env} {st s : Store} {u : Bool} (h : evalT F c en st = .ok u s) : execS F (.ife c x y) en st = if u = true then execSs F x en s else execSs F y en s := by
  simp only [execS, h, sb_ok]
theorem s_vl {F : Fsem} {i : Nat} {e : Ex} {en : Env} {st s : Store} {d : D} (h : evalE F e en st = .ok (.val d) s) : execS F (.vl i e) en st = .nx (en.set i (some (.val d))) s := by
  simp only [execS, h, sb_ok]
  rfl
/-- a loop's steps keep what holds -/
theorem for_inv {put : D → Env → Option Env} {body : Env → Store → SOut} {J : Env → Prop} {st : Store} :
    ∀ (xs : List D) (env : Env), (∀ x ∈ xs, ∀ env, J env → ∃ e e1, put x env = some e ∧ body e st = .nx e1 st ∧ J e1) → J env → ∃ env', forL put body xs env st = .nx env' st ∧ J env'
  | [], env, _, j => ⟨env, by simp [forL], j⟩
  | x :: xs, env, h, j => by
    obtain ⟨e, e1, h1, h2, h3⟩ := h x (by simp) env j
    obtain ⟨env', k1, k2⟩ := for_inv xs e1 (fun y hy => h y (by simp [hy])) h3
    refine ⟨env', ?_, k2⟩
    unfold forL
    rw [h1]
    dsimp only
    rw [h2]
    exact k1
def feedB : Sms :=
  .cons (.ret (.dct (.cons (.cst (.str ("cells" : Str))) (.cons (.bi .list (.cons (.sl (.var 0) .nil (.cons (.cst (.int 63)) .nil)) .nil)) (.cons (.cst (.str ("at" : Str))) (.cons (.cst (.int 0)) (.cons (.cst (.str ("left" : Str))) (.cons (.cst (.int 0)) (.cons (.cst (.str ("count" : Str))) (.cons (.cst (.int 0)) .nil)))))))))) <|
  .nil
theorem feed_run {F : Fsem} {ns : List Int} (h : ns.length ≤ 63) (st : Store) : endB (execSs F feedB [some (.val (.scr ns))] st) = .ok (.own (fdC ns 0 0 0)) st := by
  have hl : evalE F (.bi .list (.cons (.sl (.var 0) .nil (.cons (.cst (.int 63)) .nil)) .nil)) [some (.val (.scr ns))] st = .ok (.own (.lst (ns.map .int))) st := by
    have : evalE F (.sl (.var 0) .nil (.cons (.cst (.int 63)) .nil)) [some (.val (.scr ns))] st = .ok (.own (.lst (ns.map .int))) st := by
      simp only [evalE, evalPart]
      show Out.of (opSl (.at (.scr ns)) none (some 63)) st = _
      show Out.ok (Res.own (.lst (cutD (ns.map D.int) none (some 63)))) st = _
      rw [feed_of h]
    simp only [evalE, evalRs] at this ⊢
    rw [this]
    rfl
  have : evalE F (.dct (.cons (.cst (.str ("cells" : Str))) (.cons (.bi .list (.cons (.sl (.var 0) .nil (.cons (.cst (.int 63)) .nil)) .nil)) (.cons (.cst (.str ("at" : Str))) (.cons (.cst (.int 0)) (.cons (.cst (.str ("left" : Str))) (.cons (.cst (.int 0)) (.cons (.cst (.str ("count" : Str))) (.cons (.cst (.int 0)) .nil))))))))) [some (.val (.scr ns))] st = .ok (.own (fdC ns 0 0 0)) st := by
    rw [show ∀ (es : Exs) (en : Env), evalE F (.dct es) en st = (evalRs F es en st).bind fun rs st1 => match toDs rs with
      | some ds => Out.of ((pairsD ds).map fun kvs => .own (.dK kvs)) st1
      | none => .bad from fun es en => by
        simp only [evalE] <;> congr 1]
    have hr : ∀ (x : Ex) (es : Exs) (en : Env) (r : Res), evalE F x en st = .ok r st → evalRs F (.cons x es) en st = (evalRs F es en st).bind fun rs st2 => .ok (r :: rs) st2 := fun x es en r h => by
      simp only [evalRs, h, Out.bind_ok]
    rw [hr _ _ _ _ e_cst, hr _ _ _ _ hl, hr _ _ _ _ e_cst, hr _ _ _ _ e_cst, hr _ _ _ _ e_cst, hr _ _ _ _ e_cst, hr _ _ _ _ e_cst, hr _ _ _ _ e_cst]
    simp only [evalRs, Out.bind_ok]
    simp [toDs, Res.toD, pairsD, D.key, ne1, ne2, ne3, ne4, ne5, ne6, Ne.symm ne1, Ne.symm ne2, Ne.symm ne3, Ne.symm ne4, Ne.symm ne5, Ne.symm ne6, fdC, kC, kA, kL, kN, Out.of]
  unfold feedB
  simp only [execSs, execS]
  rw [this, sb_ok, seq_rt]
  rfl
end Py
end

section
set_option maxRecDepth 100000
set_option maxHeartbeats 4000000
set_option linter.all false
/-! The evaluator's equations where the environment is written out: for rewriting from the outside in (printed by mkv.py). -/
namespace Py
open PySem L2
set_option autoImplicit true
section
variable {F : Fsem} {r0 : Option Res} {en : Py.Env} {st : Store}

theorem v_evalE_0 : evalE F (.var i) (r0 :: en) st = (match (r0 :: en)[i]? with
    | some (some (.val d)) => .ok (.val d) st
    | some (some (.own c)) => .ok (.bor c) st
    | _ => .bad) := by
  first | (simp only [evalE]; done) | (simp only [evalE]; rfl)
theorem v_evalE_1 : evalE F (.cst d) (r0 :: en) st = (.ok (.val d) st) := by
  first | (simp only [evalE]; done) | (simp only [evalE]; rfl)
theorem v_evalE_2 : evalE F (.glb y0 d) (r0 :: en) st = (.ok (.val d) st) := by
  first | (simp only [evalE]; done) | (simp only [evalE]; rfl)
theorem v_evalE_3 : evalE F (.bin op a b) (r0 :: en) st = ((evalE F a (r0 :: en) st).bind fun ra st1 => (evalE F b (r0 :: en) st1).bind fun rb st2 => Out.of (opBin op (ra.vw st2) (rb.vw st2)) st2) := by
  first | (simp only [evalE]; done) | (simp only [evalE]; rfl)
theorem v_evalE_4 : evalE F (.neg a) (r0 :: en) st = ((evalE F a (r0 :: en) st).bind fun ra st1 => match ra with
    | .val (.int i) => .ok (.val (.int (-i))) st1
    | _ => .bad) := by
  first | (simp only [evalE]; done) | (simp only [evalE]; rfl)
theorem v_evalE_5 : evalE F (.cmp op a b) (r0 :: en) st = ((evalE F a (r0 :: en) st).bind fun ra st1 => (evalE F b (r0 :: en) st1).bind fun rb st2 => Out.of ((opCmp op (ra.vw st2) (rb.vw st2)).map fun b => .val (.bl b)) st2) := by
  first | (simp only [evalE]; done) | (simp only [evalE]; rfl)
theorem v_evalE_6 : evalE F (.cmp2 op op2 a b c) (r0 :: en) st = ((evalE F a (r0 :: en) st).bind fun ra st1 => (evalE F b (r0 :: en) st1).bind fun rb st2 => match opCmp op (ra.vw st2) (rb.vw st2) with
    | some true => (evalE F c (r0 :: en) st2).bind fun rc st3 => Out.of ((opCmp op2 (rb.vw st3) (rc.vw st3)).map fun b => .val (.bl b)) st3
    | some false => .ok (.val (.bl false)) st2
    | none => .bad) := by
  first | (simp only [evalE]; done) | (simp only [evalE]; rfl)
theorem v_evalE_7 : evalE F (.not a) (r0 :: en) st = ((evalE F a (r0 :: en) st).bind fun r st1 => Out.of ((truth (r.vw st1)).map fun b => .val (.bl (!b))) st1) := by
  first | (simp only [evalE]; done) | (simp only [evalE]; rfl)
theorem v_evalE_8 : evalE F (.and es) (r0 :: en) st = (evalAnd F es (r0 :: en) st) := by
  first | (simp only [evalE]; done) | (simp only [evalE]; rfl)
theorem v_evalE_9 : evalE F (.or es) (r0 :: en) st = (evalOr F es (r0 :: en) st) := by
  first | (simp only [evalE]; done) | (simp only [evalE]; rfl)
theorem v_evalE_10 : evalE F (.ife c a b) (r0 :: en) st = ((evalT F c (r0 :: en) st).bind fun t st1 => if t = true then evalE F a (r0 :: en) st1 else evalE F b (r0 :: en) st1) := by
  first | (simp only [evalE]; done) | (simp only [evalE]; rfl)
theorem v_evalE_11 : evalE F (.tup es) (r0 :: en) st = ((evalRs F es (r0 :: en) st).bind fun rs st1 => match toDs rs with
    | some ds => if ds.length ≤ sizeLine then .ok (.val (.tup ds)) st1 else .bad
    | none => .bad) := by
  first | (simp only [evalE]; done) | (simp only [evalE]; rfl)
theorem v_evalE_12 : evalE F (.lst es) (r0 :: en) st = ((evalRs F es (r0 :: en) st).bind fun rs st1 => match toDs rs with
    | some ds => if ds.length ≤ sizeLine then .ok (.own (.lst ds)) st1 else .bad
    | none => .bad) := by
  first | (simp only [evalE]; done) | (simp only [evalE]; rfl)
theorem v_evalE_13 : evalE F (.dct es) (r0 :: en) st = ((evalRs F es (r0 :: en) st).bind fun rs st1 => match toDs rs with
    | some ds => Out.of ((pairsD ds).map fun kvs => .own (.dK kvs)) st1
    | none => .bad) := by
  first | (simp only [evalE]; done) | (simp only [evalE]; rfl)
theorem v_evalE_14 : evalE F (.ix a b) (r0 :: en) st = ((evalE F a (r0 :: en) st).bind fun ra st1 => (evalE F b (r0 :: en) st1).bind fun rb st2 => Out.of ((opIx (ra.vw st2) (rb.vw st2)).map .val) st2) := by
  first | (simp only [evalE]; done) | (simp only [evalE]; rfl)
theorem v_evalE_15 : evalE F (.sl a lo hi) (r0 :: en) st = ((evalE F a (r0 :: en) st).bind fun ra st1 => (Py.evalPart F lo (r0 :: en) st1).bind fun l st2 => (Py.evalPart F hi (r0 :: en) st2).bind fun h st3 => Out.of (opSl (ra.vw st3) l h) st3) := by
  first | (simp only [evalE]; done) | (simp only [evalE]; rfl)
theorem v_evalE_16 : evalE F (.sset a) (r0 :: en) st = ((evalE F a (r0 :: en) st).bind fun ra st1 => Out.of (opSS (ra.vw st1)) st1) := by
  first | (simp only [evalE]; done) | (simp only [evalE]; rfl)
theorem v_evalE_17 : evalE F (.rev a) (r0 :: en) st = ((evalE F a (r0 :: en) st).bind fun ra st1 => Out.of (opRev (ra.vw st1)) st1) := by
  first | (simp only [evalE]; done) | (simp only [evalE]; rfl)
theorem v_evalE_18 : evalE F (.call f es) (r0 :: en) st = ((evalRs F es (r0 :: en) st).bind fun rs st1 => match toDs rs with
    | some ds => F f ds st1
    | none => .bad) := by
  first | (simp only [evalE]; done) | (simp only [evalE]; rfl)
theorem v_evalE_19 : evalE F (.bi f es) (r0 :: en) st = ((evalRs F es (r0 :: en) st).bind fun rs st1 => Out.of (opBI f (rs.map (·.vw st1))) st1) := by
  first | (simp only [evalE]; done) | (simp only [evalE]; rfl)
theorem v_evalE_20 : evalE F (.isi a t) (r0 :: en) st = ((evalE F a (r0 :: en) st).bind fun ra st1 => Out.of ((opIsi (ra.vw st1) t).map fun b => .val (.bl b)) st1) := by
  first | (simp only [evalE]; done) | (simp only [evalE]; rfl)
theorem v_evalE_21 : evalE F (.mth m o es) (r0 :: en) st = ((evalE F o (r0 :: en) st).bind fun ro st1 => if recv m (ro.vw st1) = true then (evalRs F es (r0 :: en) st1).bind fun rs st2 => Out.of (opM m (ro.vw st2) (rs.map (·.vw st2))) st2 else .bad) := by
  first | (simp only [evalE]; done) | (simp only [evalE]; rfl)
theorem v_evalE_22 : evalE F (.comp own tg it ifs elt) (r0 :: en) st = ((evalI F it (r0 :: en) st).bind fun xs st1 =>
    (compL tg.put (fun e s => evalIfs F ifs e s) (fun e s => evalE F elt e s) (wipeE (r0 :: en) own) xs [] st1).nox.bind fun ds st2 => .ok (.own (.lst ds)) st2) := by
  first | (simp only [evalE]; done) | (simp only [evalE]; rfl)
theorem v_evalT_0 : evalT F (.val e) (r0 :: en) st = ((evalE F e (r0 :: en) st).bind fun r st1 => Out.of (truth (r.vw st1)) st1) := by
  first | (simp only [evalT]; done) | (simp only [evalT]; rfl)
theorem v_evalT_1 : evalT F (.cmp op a b) (r0 :: en) st = ((evalE F a (r0 :: en) st).bind fun ra st1 => (evalE F b (r0 :: en) st1).bind fun rb st2 => Out.of (opCmp op (ra.vw st2) (rb.vw st2)) st2) := by
  first | (simp only [evalT]; done) | (simp only [evalT]; rfl)
theorem v_evalT_2 : evalT F (.cmp2 op op2 a b c) (r0 :: en) st = ((evalE F a (r0 :: en) st).bind fun ra st1 => (evalE F b (r0 :: en) st1).bind fun rb st2 => match opCmp op (ra.vw st2) (rb.vw st2) with
    | some true => (evalE F c (r0 :: en) st2).bind fun rc st3 => Out.of (opCmp op2 (rb.vw st3) (rc.vw st3)) st3
    | some false => .ok false st2
    | none => .bad) := by
  first | (simp only [evalT]; done) | (simp only [evalT]; rfl)
theorem v_evalT_3 : evalT F (.not t) (r0 :: en) st = ((evalT F t (r0 :: en) st).bind fun b st1 => .ok (!b) st1) := by
  first | (simp only [evalT]; done) | (simp only [evalT]; rfl)
theorem v_evalT_4 : evalT F (.and ts) (r0 :: en) st = (evalAndT F ts (r0 :: en) st) := by
  first | (simp only [evalT]; done) | (simp only [evalT]; rfl)
theorem v_evalT_5 : evalT F (.or ts) (r0 :: en) st = (evalOrT F ts (r0 :: en) st) := by
  first | (simp only [evalT]; done) | (simp only [evalT]; rfl)
theorem v_evalAnd_1 : evalAnd F (.cons e .nil) (r0 :: en) st = (evalE F e (r0 :: en) st) := by
  first | (simp only [evalAnd]; done) | (simp only [evalAnd]; rfl)
theorem v_evalAnd_2 : evalAnd F (.cons e (.cons e2 es)) (r0 :: en) st = ((evalE F e (r0 :: en) st).bind fun r st1 => match r with
    | .val (.bl true) => evalAnd F (.cons e2 es) (r0 :: en) st1
    | .val (.bl false) => .ok (.val (.bl false)) st1
    | _ => .bad) := by
  first | (simp only [evalAnd]; done) | (simp only [evalAnd]; rfl)
theorem v_evalOr_1 : evalOr F (.cons e .nil) (r0 :: en) st = (evalE F e (r0 :: en) st) := by
  first | (simp only [evalOr]; done) | (simp only [evalOr]; rfl)
theorem v_evalOr_2 : evalOr F (.cons e (.cons e2 es)) (r0 :: en) st = ((evalE F e (r0 :: en) st).bind fun r st1 => match r with
    | .val (.bl false) => evalOr F (.cons e2 es) (r0 :: en) st1
    | .val (.bl true) => .ok (.val (.bl true)) st1
    | _ => .bad) := by
  first | (simp only [evalOr]; done) | (simp only [evalOr]; rfl)
theorem v_evalAndT_1 : evalAndT F (.cons e .nil) (r0 :: en) st = (evalT F e (r0 :: en) st) := by
  first | (simp only [evalAndT]; done) | (simp only [evalAndT]; rfl)
theorem v_evalAndT_2 : evalAndT F (.cons e (.cons e2 es)) (r0 :: en) st = ((evalT F e (r0 :: en) st).bind fun b st1 => if b = true then evalAndT F (.cons e2 es) (r0 :: en) st1 else .ok false st1) := by
  first | (simp only [evalAndT]; done) | (simp only [evalAndT]; rfl)
theorem v_evalOrT_1 : evalOrT F (.cons e .nil) (r0 :: en) st = (evalT F e (r0 :: en) st) := by
  first | (simp only [evalOrT]; done) | (simp only [evalOrT]; rfl)
theorem v_evalOrT_2 : evalOrT F (.cons e (.cons e2 es)) (r0 :: en) st = ((evalT F e (r0 :: en) st).bind fun b st1 => if b = true then .ok true st1 else evalOrT F (.cons e2 es) (r0 :: en) st1) := by
  first | (simp only [evalOrT]; done) | (simp only [evalOrT]; rfl)
theorem v_evalRs_0 : evalRs F (.nil) (r0 :: en) st = (.ok [] st) := by
  first | (simp only [evalRs]; done) | (simp only [evalRs]; rfl)
theorem v_evalRs_1 : evalRs F (.cons e es) (r0 :: en) st = ((evalE F e (r0 :: en) st).bind fun r st1 => (evalRs F es (r0 :: en) st1).bind fun rs st2 => .ok (r :: rs) st2) := by
  first | (simp only [evalRs]; done) | (simp only [evalRs]; rfl)
theorem v_evalPart_0 : Py.evalPart F (.nil) (r0 :: en) st = (.ok none st) := by
  first | (simp only [Py.evalPart]; done) | (simp only [Py.evalPart]; rfl)
theorem v_evalPart_1 : Py.evalPart F (.cons e .nil) (r0 :: en) st = ((evalE F e (r0 :: en) st).bind fun r st1 => match r with
    | .val (.int i) => .ok (some i) st1
    | _ => .bad) := by
  first | (simp only [Py.evalPart]; done) | (simp only [Py.evalPart]; rfl)
theorem v_evalIfs_0 : evalIfs F (.nil) (r0 :: en) st = (.ok true st) := by
  first | (simp only [evalIfs]; done) | (simp only [evalIfs]; rfl)
theorem v_evalIfs_1 : evalIfs F (.cons e .nil) (r0 :: en) st = (evalT F e (r0 :: en) st) := by
  first | (simp only [evalIfs]; done) | (simp only [evalIfs]; rfl)
theorem v_evalI_0 : evalI F (.it e) (r0 :: en) st = ((evalE F e (r0 :: en) st).bind fun r st1 => match r with
    | .val (.tup xs) => .ok xs st1
    | .val (.lst xs) => .ok xs st1
    | .own (.lst xs) => .ok xs st1
    | .val (.str z) => .ok (z.cps.toList.map fun c => .str ⟨#[c]⟩) st1
    | _ => .bad) := by
  first | (simp only [evalI]; done) | (simp only [evalI]; rfl)
theorem v_evalI_1 : evalI F (.rng (.cons a .nil)) (r0 :: en) st = ((evalE F a (r0 :: en) st).bind fun r st1 => match r with
    | .val (.int i) => Out.of (rngD 0 i 1) st1
    | _ => .bad) := by
  first | (simp only [evalI]; done) | (simp only [evalI]; rfl)
theorem v_evalI_2 : evalI F (.rng (.cons a (.cons b .nil))) (r0 :: en) st = ((evalE F a (r0 :: en) st).bind fun r st1 => (evalE F b (r0 :: en) st1).bind fun q st2 => match r, q with
    | .val (.int i), .val (.int j) => Out.of (rngD i j 1) st2
    | _, _ => .bad) := by
  first | (simp only [evalI]; done) | (simp only [evalI]; rfl)
theorem v_evalI_4 : evalI F (.enum e) (r0 :: en) st = ((evalE F e (r0 :: en) st).bind fun r st1 => match r with
    | .val (.lst xs) => .ok (enumD 0 xs) st1
    | .own (.lst xs) => .ok (enumD 0 xs) st1
    | .val (.tup xs) => .ok (enumD 0 xs) st1
    | _ => .bad) := by
  first | (simp only [evalI]; done) | (simp only [evalI]; rfl)
theorem v_evalI_5 : evalI F (.zip a b) (r0 :: en) st = ((evalE F a (r0 :: en) st).bind fun r st1 => (evalE F b (r0 :: en) st1).bind fun q st2 => match r, q with
    | .val (.lst xs), .val (.lst ys) => .ok (zipD xs ys) st2
    | .val (.tup xs), .val (.tup ys) => .ok (zipD xs ys) st2
    | _, _ => .bad) := by
  first | (simp only [evalI]; done) | (simp only [evalI]; rfl)
theorem v_execS_0 : execS F (.set i e) (r0 :: en) st = ((evalE F e (r0 :: en) st).sbind (r0 :: en) fun r st1 => match r.slot with
    | some r => .nx ((r0 :: en).set i (some r)) st1
    | none => .bad) := by
  first | (simp only [execS]; done) | (simp only [execS]; rfl)
theorem v_execS_1 : execS F (.vl i e) (r0 :: en) st = ((evalE F e (r0 :: en) st).sbind (r0 :: en) fun r st1 => match r.toD with
    | some d => .nx ((r0 :: en).set i (some (.val d))) st1
    | none => .bad) := by
  first | (simp only [execS]; done) | (simp only [execS]; rfl)
theorem v_execS_2 : execS F (.unp is e) (r0 :: en) st = ((evalE F e (r0 :: en) st).sbind (r0 :: en) fun r st1 => match r with
    | .val d => match (Tg.tup is).put d (r0 :: en) with
      | some e => .nx e st1
      | none => .bad
    | _ => .bad) := by
  first | (simp only [execS]; done) | (simp only [execS]; rfl)
theorem v_execS_3 : execS F (.sset i k v) (r0 :: en) st = ((evalE F v (r0 :: en) st).sbind (r0 :: en) fun rv st1 => match slotC i (r0 :: en) st1 with
    | none => .bad
    | some _ => (evalE F k (r0 :: en) st1).sbind (r0 :: en) fun rk st2 => match toDs [rv, rk] with
    | some [x, kd] => chg (fun c => dictPut c kd x) i (r0 :: en) st2
    | _ => .bad) := by
  first | (simp only [execS]; done) | (simp only [execS]; rfl)
theorem v_execS_4 : execS F (.mut m i es) (r0 :: en) st = (match slotC i (r0 :: en) st with
    | some (.lst _) => (evalRs F es (r0 :: en) st).sbind (r0 :: en) fun rs st1 => chg (fun c => opMut m c rs st1) i (r0 :: en) st1
    | _ => .bad) := by
  first | (simp only [execS]; done) | (simp only [execS]; rfl)
theorem v_execS_5 : execS F (.expr e) (r0 :: en) st = ((evalE F e (r0 :: en) st).sbind (r0 :: en) fun _ st1 => .nx (r0 :: en) st1) := by
  first | (simp only [execS]; done) | (simp only [execS]; rfl)
theorem v_execS_6 : execS F (.ret e) (r0 :: en) st = ((evalE F e (r0 :: en) st).sbind (r0 :: en) fun r st1 => .rt r st1) := by
  first | (simp only [execS]; done) | (simp only [execS]; rfl)
theorem v_execS_7 : execS F (.retO i) (r0 :: en) st = (match (r0 :: en)[i]? with
    | some (some (.own c)) => .rt (.own c) st
    | _ => .bad) := by
  first | (simp only [execS]; done) | (simp only [execS]; rfl)
theorem v_execS_8 : execS F (.ife c a b) (r0 :: en) st = ((evalT F c (r0 :: en) st).sbind (r0 :: en) fun t st1 => if t = true then execSs F a (r0 :: en) st1 else execSs F b (r0 :: en) st1) := by
  first | (simp only [execS]; done) | (simp only [execS]; rfl)
theorem v_execS_9 : execS F (.for_ tg it body) (r0 :: en) st = ((evalI F it (r0 :: en) st).sbind (r0 :: en) fun xs st1 => forL tg.put (fun e s => execSs F body e s) xs (r0 :: en) st1) := by
  first | (simp only [execS]; done) | (simp only [execS]; rfl)
theorem v_execS_10 : execS F (.wh n c body) (r0 :: en) st = (whL (fun e s => evalT F c e s) (fun e s => execSs F body e s) n (r0 :: en) st) := by
  first | (simp only [execS]; done) | (simp only [execS]; rfl)
theorem v_execS_11 : execS F (.brk) (r0 :: en) st = (.bk (r0 :: en) st) := by
  first | (simp only [execS]; done) | (simp only [execS]; rfl)
theorem v_execS_12 : execS F (.cont) (r0 :: en) st = (.ct (r0 :: en) st) := by
  first | (simp only [execS]; done) | (simp only [execS]; rfl)
theorem v_execS_13 : execS F (.pass) (r0 :: en) st = (.nx (r0 :: en) st) := by
  first | (simp only [execS]; done) | (simp only [execS]; rfl)
theorem v_execS_14 : execS F (.frz i) (r0 :: en) st = (match (r0 :: en)[i]? with
    | some (some (.own (.lst xs))) => .nx ((r0 :: en).set i (some (.val (.lst xs)))) st
    | some (some (.val _)) => .nx (r0 :: en) st
    | _ => .bad) := by
  first | (simp only [execS]; done) | (simp only [execS]; rfl)
theorem v_execS_15 : execS F (.cell i) (r0 :: en) st = (match (r0 :: en)[i]? with
    | some (some (.own c)) => .nx ((r0 :: en).set i (some (.val (.ptr st.length)))) (st ++ [some c])
    | _ => .bad) := by
  first | (simp only [execS]; done) | (simp only [execS]; rfl)
theorem v_execS_16 : execS F (.move i j) (r0 :: en) st = (match (r0 :: en)[j]? with
    | some (some (.own c)) => .nx (((r0 :: en).set j none).set i (some (.own c))) st
    | _ => .bad) := by
  first | (simp only [execS]; done) | (simp only [execS]; rfl)
theorem v_execSs_0 : execSs F (.nil) (r0 :: en) st = (.nx (r0 :: en) st) := by
  first | (simp only [execSs]; done) | (simp only [execSs]; rfl)
theorem v_execSs_1 : execSs F (.cons s ss) (r0 :: en) st = ((execS F s (r0 :: en) st).seq fun e s => execSs F ss e s) := by
  first | (simp only [execSs]; done) | (simp only [execSs]; rfl)
end
end Py
end

section
set_option maxRecDepth 100000
set_option maxHeartbeats 4000000
set_option linter.all false
/-! Rules of symbolic running, for rewriting. -/
namespace Py
open PySem L2

section
variable {F : Fsem} {en : Env} {st s s1 s2 : Store} {α β : Type}
/-! tests by value -/
theorem bool_of {b : Bool} : truth ((Res.val (.bl b)).vw st) = some b := rfl
theorem vw_bl {b : Bool} : (Res.val (.bl b)).vw st = .at (.bl b) := rfl
theorem vw_non : (Res.val .non).vw st = .at .non := rfl
theorem vw_str {x : Str} : (Res.val (.str x)).vw st = .at (.str x) := rfl
theorem vw_tup {xs : List D} : (Res.val (.tup xs)).vw st = .sq true xs := rfl
theorem vw_lst {xs : List D} : (Res.val (.lst xs)).vw st = .sq false xs := rfl
theorem vw_own {c : Cell} : (Res.own c).vw st = c.vw := rfl
theorem vw_bor {c : Cell} : (Res.bor c).vw st = c.vw := rfl
theorem cell_lst {xs : List D} : (Cell.lst xs).vw = .sq false xs := rfl
theorem toD_own {xs : List D} : (Res.own (.lst xs)).toD = some (.lst xs) := rfl
theorem slot_val {d : D} : (Res.val d).slot = some (.val d) := rfl
theorem slot_own {c : Cell} : (Res.own c).slot = some (.own c) := rfl
theorem toDs_nil : toDs [] = some [] := rfl
theorem toDs_cons {d : D} {r : Res} {rs : List Res} {ds : List D} (h : r.toD = some d) (h2 : toDs rs = some ds) : toDs (r :: rs) = some (d :: ds) := by
  simp only [toDs, h, h2]
theorem truth_bl {b : Bool} : truth (.at (.bl b)) = some b := rfl
theorem truth_sq {t : Bool} {xs : List D} : truth (.sq t xs) = some (!xs.isEmpty) := rfl
theorem truth_int {i : Int} : truth (.at (.int i)) = some (i != 0) := rfl
theorem truth_non : truth (.at .non) = some false := rfl
theorem seq_exc {c : Nat} {fs : List D} {f : Env → Store → SOut} : (SOut.exc c fs en st).seq f = .exc c fs en st := rfl
theorem endB_rt {r : Res} : endB (.rt r st) = .ok r st := rfl
theorem endB_nx : endB (.nx en st) = .ok (.val .non) st := rfl
theorem run1 {P : Nat → Option FDef} {k f : Nat} {ds : List D} {n np : Nat} {b : Sms} (h : P f = some ⟨n, np, b⟩) : run P (k + 1) f ds st = endB (execSs (run P k) b (env0 n ds) st) := run_eq h
theorem nil_vw : (Cell.lst ([] : List D)).vw = .sq false [] := rfl
theorem of_mapv {d : D} : (Out.of (some (Res.val d)) st) = .ok (.val d) st := rfl
end
section
variable {b : Bool} {i : Int} {x : Str} {xs : List D}
theorem isi_non_int : opIsi (.at .non) "int" = some false := by show kitB "NoneType" "int" = _; decide +kernel
theorem isi_non_bool : opIsi (.at .non) "bool" = some false := by show kitB "NoneType" "bool" = _; decide +kernel
theorem isi_non_str : opIsi (.at .non) "str" = some false := by show kitB "NoneType" "str" = _; decide +kernel
theorem isi_non_tuple : opIsi (.at .non) "tuple" = some false := by show kitB "NoneType" "tuple" = _; decide +kernel
theorem isi_non_list : opIsi (.at .non) "list" = some false := by show kitB "NoneType" "list" = _; decide +kernel
theorem isi_bl_int : opIsi (.at (.bl b)) "int" = some true := by show kitB "bool" "int" = _; decide +kernel
theorem isi_bl_bool : opIsi (.at (.bl b)) "bool" = some true := by show kitB "bool" "bool" = _; decide +kernel
theorem isi_bl_str : opIsi (.at (.bl b)) "str" = some false := by show kitB "bool" "str" = _; decide +kernel
theorem isi_bl_tuple : opIsi (.at (.bl b)) "tuple" = some false := by show kitB "bool" "tuple" = _; decide +kernel
theorem isi_bl_list : opIsi (.at (.bl b)) "list" = some false := by show kitB "bool" "list" = _; decide +kernel
theorem isi_int_int : opIsi (.at (.int i)) "int" = some true := by show kitB "int" "int" = _; decide +kernel
theorem isi_int_bool : opIsi (.at (.int i)) "bool" = some false := by show kitB "int" "bool" = _; decide +kernel
theorem isi_int_str : opIsi (.at (.int i)) "str" = some false := by show kitB "int" "str" = _; decide +kernel
theorem isi_int_tuple : opIsi (.at (.int i)) "tuple" = some false := by show kitB "int" "tuple" = _; decide +kernel
theorem isi_int_list : opIsi (.at (.int i)) "list" = some false := by show kitB "int" "list" = _; decide +kernel
theorem isi_str_int : opIsi (.at (.str x)) "int" = some false := by show kitB "str" "int" = _; decide +kernel
theorem isi_str_bool : opIsi (.at (.str x)) "bool" = some false := by show kitB "str" "bool" = _; decide +kernel
theorem isi_str_str : opIsi (.at (.str x)) "str" = some true := by show kitB "str" "str" = _; decide +kernel
theorem isi_str_tuple : opIsi (.at (.str x)) "tuple" = some false := by show kitB "str" "tuple" = _; decide +kernel
theorem isi_str_list : opIsi (.at (.str x)) "list" = some false := by show kitB "str" "list" = _; decide +kernel
theorem isi_tup_int : opIsi (.sq true xs) "int" = some false := by show kitB "tuple" "int" = _; decide +kernel
theorem isi_tup_bool : opIsi (.sq true xs) "bool" = some false := by show kitB "tuple" "bool" = _; decide +kernel
theorem isi_tup_str : opIsi (.sq true xs) "str" = some false := by show kitB "tuple" "str" = _; decide +kernel
theorem isi_tup_tuple : opIsi (.sq true xs) "tuple" = some true := by show kitB "tuple" "tuple" = _; decide +kernel
theorem isi_tup_list : opIsi (.sq true xs) "list" = some false := by show kitB "tuple" "list" = _; decide +kernel
theorem isi_lst_int : opIsi (.sq false xs) "int" = some false := by show kitB "list" "int" = _; decide +kernel
theorem isi_lst_bool : opIsi (.sq false xs) "bool" = some false := by show kitB "list" "bool" = _; decide +kernel
theorem isi_lst_str : opIsi (.sq false xs) "str" = some false := by show kitB "list" "str" = _; decide +kernel
theorem isi_lst_tuple : opIsi (.sq false xs) "tuple" = some false := by show kitB "list" "tuple" = _; decide +kernel
theorem isi_lst_list : opIsi (.sq false xs) "list" = some true := by show kitB "list" "list" = _; decide +kernel
end
theorem e_tupn {F : Fsem} {en : Env} {st : Store} : evalE F (.tup .nil) en st = .ok (.val (.tup [])) st := by
  simp only [evalE, evalRs, Out.bind_ok, toDs]
  exact if_pos (Nat.zero_le _)
theorem ne_nil {t : Bool} {xs : List D} {ps : List PyData} (h : D.pys xs = some ps) : opCmp .ne (.sq t xs) (.sq t []) = some (!xs.isEmpty) := by
  show (eqv2 _ _).map _ = _
  unfold eqv2
  cases t <;> simp only [Vw.py, h, D.pys, Option.map_some] <;> rw [if_pos (by show min _ 1 ≤ 64; omega)] <;> cases xs <;> cases ps <;> first | rfl | (simp [D.pys] at h; try (split at h <;> cases h))
theorem eq_nil {t : Bool} {xs : List D} {ps : List PyData} (h : D.pys xs = some ps) : opCmp .eq (.sq t xs) (.sq t []) = some xs.isEmpty := by
  have := ne_nil (t := t) h
  show eqv2 _ _ = _
  have e : (eqv2 (.sq t xs) (.sq t [])).map (!·) = some (!xs.isEmpty) := this
  cases q : eqv2 (.sq t xs) (.sq t []) with
  | none => rw [q] at e; cases e
  | some b =>
    rw [q] at e
    simp only [Option.map_some, Option.some.injEq] at e
    cases b <;> cases h2 : xs.isEmpty <;> rw [h2] at e <;> first | rfl | cases e
theorem o_len {t : Bool} {xs : List D} : opBI .len [.sq t xs] = some (.val (.int xs.length)) := rfl
theorem o_list {t : Bool} {xs : List D} : opBI .list [.sq t xs] = some (.own (.lst xs)) := rfl
theorem o_tuple {t : Bool} {xs : List D} : opBI .tuple [.sq t xs] = some (.val (.tup xs)) := rfl
theorem o_rev {xs : List D} : opRev (.sq true xs) = some (.val (.tup xs.reverse)) := rfl
theorem o_slT {xs : List D} {lo hi : Option Int} : opSl (.sq true xs) lo hi = some (.val (.tup (cutD xs lo hi))) := rfl
theorem o_addT {xs ys : List D} (h : xs.length + ys.length ≤ 16777216) : opBin .add (.sq true xs) (.sq true ys) = some (.val (.tup (xs ++ ys))) := if_pos h
theorem o_addL {xs ys : List D} (h : xs.length + ys.length ≤ 16777216) : opBin .add (.sq false xs) (.sq false ys) = some (.own (.lst (xs ++ ys))) := if_pos h
/-- a comprehension whose steps leave the store -/
theorem comp_of {put : D → Env → Option Env} {cond : Env → Store → Out Bool} {elt : Env → Store → Out Res} {env : Env} {st : Store} (p : D → Bool) (f : D → D) {xs : List D} (hl : xs.length ≤ 16777216)
    (h : ∀ x ∈ xs, ∃ e, put x env = some e ∧ cond e st = .ok (p x) st ∧ (p x = true → elt e st = .ok (.val (f x)) st)) : (compL put cond elt env xs [] st).nox = .ok ((xs.filter p).map f) st := by
  have := comp_pure (f := f) xs [] h (by rw [sizeLine_eq]; simpa using hl)
  rw [this]
  rfl
theorem comp_map {put : D → Env → Option Env} {cond : Env → Store → Out Bool} {elt : Env → Store → Out Res} {env : Env} {st : Store} (f : D → D) {xs : List D} (hl : xs.length ≤ 16777216)
    (h : ∀ x ∈ xs, ∃ e, put x env = some e ∧ cond e st = .ok true st ∧ elt e st = .ok (.val (f x)) st) : (compL put cond elt env xs [] st).nox = .ok (xs.map f) st := by
  have := comp_of (fun _ => true) f hl fun x hx => let ⟨e, a, b, c⟩ := h x hx; ⟨e, a, b, fun _ => c⟩
  rw [this, List.filter_eq_self.mpr (by simp)]
/-- things as data, within the line -/
structure Okd (d : D) : Prop where
  py : ∃ p, d.py = some p
  sok : d.sok = true
theorem Okd.tup {xs : List D} (h : Okd (.tup xs)) : (∀ x ∈ xs, Okd x) ∧ xs.length ≤ 16777216 := by
  obtain ⟨⟨p, hp⟩, hs⟩ := h
  simp only [D.py, Option.map_eq_some_iff] at hp
  obtain ⟨ps, hp, rfl⟩ := hp
  simp only [D.sok, Bool.and_eq_true, decide_eq_true_eq] at hs
  have := enc_pys hp
  exact ⟨fun x hx => ⟨⟨_, this.2 x hx⟩, D.soks_mem hs.2 x hx⟩, by rw [← sizeLine_eq]; exact hs.1⟩
theorem Okd.lst {xs : List D} (h : Okd (.lst xs)) : (∀ x ∈ xs, Okd x) ∧ xs.length ≤ 16777216 := by
  obtain ⟨⟨p, hp⟩, hs⟩ := h
  simp only [D.py, Option.map_eq_some_iff] at hp
  obtain ⟨ps, hp, rfl⟩ := hp
  simp only [D.sok, Bool.and_eq_true, decide_eq_true_eq] at hs
  have := enc_pys hp
  exact ⟨fun x hx => ⟨⟨_, this.2 x hx⟩, D.soks_mem hs.2 x hx⟩, by rw [← sizeLine_eq]; exact hs.1⟩
theorem Okd.str {x : Str} (h : Okd (.str x)) : x.length ≤ 16777216 := by
  have := h.sok
  simp only [D.sok, decide_eq_true_eq, sizeLine_eq] at this
  exact this
theorem pys_of_ok {xs : List D} (h : ∀ x ∈ xs, Okd x) : ∃ ps, D.pys xs = some ps ∧ ps.length = xs.length := by
  induction xs with
  | nil => exact ⟨[], rfl, rfl⟩
  | cons x xs ih =>
    obtain ⟨ps, h1, h2⟩ := ih fun y hy => h y (by simp [hy])
    obtain ⟨p, h3⟩ := (h x (by simp)).py
    exact ⟨p :: ps, by simp [D.pys, h3, h1], by simp [h2]⟩
theorem all_bl {α : Type} (f : α → Bool) : ∀ l : List α, blAll (l.map fun x => D.bl (f x)) = some (l.map f)
  | [] => rfl
  | x :: l => by
    show (blAll (l.map fun x => D.bl (f x))).map _ = _
    rw [all_bl f l]
    rfl
theorem o_all {α : Type} (f : α → Bool) (l : List α) : opBI .all [.sq false (l.map fun x => D.bl (f x))] = some (.val (.bl (l.all f))) := by
  show (blAll _).map _ = _
  rw [all_bl]
  show some (Res.val (.bl ((l.map f).all id))) = _
  rw [List.all_map]
  rfl
theorem o_any {α : Type} (f : α → Bool) (l : List α) : opBI .any [.sq false (l.map fun x => D.bl (f x))] = some (.val (.bl (l.any f))) := by
  show (blAll _).map _ = _
  rw [all_bl]
  show some (Res.val (.bl ((l.map f).any id))) = _
  rw [List.any_map]
  rfl
theorem c_eqi {i j : Int} : opCmp .eq (.at (.int i)) (.at (.int j)) = some (i == j) := rfl
theorem c_nei {i j : Int} : opCmp .ne (.at (.int i)) (.at (.int j)) = some (!(i == j)) := rfl
theorem c_lei {i j : Int} : opCmp .le (.at (.int i)) (.at (.int j)) = some (decide (i ≤ j)) := rfl
theorem c_eqs {x y : Str} : opCmp .eq (.at (.str x)) (.at (.str y)) = some (x == y) := rfl
theorem c_nes {x y : Str} : opCmp .ne (.at (.str x)) (.at (.str y)) = some (!(x == y)) := rfl
theorem o_lens {x : Str} (h : x.length ≤ 16777216) : opBI .len [.at (.str x)] = some (.val (.int x.length)) := if_pos h
theorem Okd.no_obj {c : Nat} {fs : List D} (h : Okd (.obj c fs)) : False := by obtain ⟨⟨p, hp⟩, _⟩ := h; simp [D.py] at hp
theorem Okd.no_ptr {c : Nat} (h : Okd (.ptr c)) : False := by obtain ⟨⟨p, hp⟩, _⟩ := h; simp [D.py] at hp
theorem Okd.no_scr {c : List Int} (h : Okd (.scr c)) : False := by obtain ⟨⟨p, hp⟩, _⟩ := h; simp [D.py] at hp
theorem ix0 {t : Bool} {x : D} {xs : List D} : opIx (.sq t (x :: xs)) (.at (.int 0)) = some x := by
  show atI (x :: xs) 0 = _
  unfold atI ixN
  rw [if_pos (by decide), if_pos (by rw [List.length_cons]; omega)]
  rfl
theorem ix1 {t : Bool} {x y : D} {xs : List D} : opIx (.sq t (x :: y :: xs)) (.at (.int 1)) = some y := by
  show atI (x :: y :: xs) 1 = _
  unfold atI ixN
  rw [if_pos (by decide), if_pos (by rw [List.length_cons, List.length_cons]; omega)]
  rfl
theorem ix2 {t : Bool} {x y z : D} {xs : List D} : opIx (.sq t (x :: y :: z :: xs)) (.at (.int 2)) = some z := by
  show atI (x :: y :: z :: xs) 2 = _
  unfold atI ixN
  rw [if_pos (by decide), if_pos (by rw [List.length_cons, List.length_cons, List.length_cons]; omega)]
  rfl
/-- a loop that may end it all -/
theorem for_search {put : D → Env → Option Env} {body : Env → Store → SOut} {J : Env → Prop} {st : Store} {r : Res} (b : D → Bool) :
    ∀ (xs : List D) (env : Env), (∀ x ∈ xs, ∀ env, J env → ∃ e, put x env = some e ∧ (if b x = true then ∃ e1, body e st = .nx e1 st ∧ J e1 else body e st = .rt r st)) → J env → if xs.all b = true then ∃ env', forL put body xs env st = .nx env' st ∧ J env' else forL put body xs env st = .rt r st
  | [], env, _, j => by
    rw [List.all_nil, if_pos rfl]
    exact ⟨env, by simp [forL], j⟩
  | x :: xs, env, h, j => by
    obtain ⟨e, h1, h2⟩ := h x (by simp) env j
    cases hb : b x with
    | false =>
      rw [hb, if_neg Bool.false_ne_true] at h2
      rw [List.all_cons, hb, Bool.false_and, if_neg Bool.false_ne_true]
      unfold forL
      rw [h1]
      dsimp only
      rw [h2]
    | true =>
      rw [hb, if_pos rfl] at h2
      obtain ⟨e1, h3, h4⟩ := h2
      have ih := for_search b xs e1 (fun y hy => h y (by simp [hy])) h4
      rw [List.all_cons, hb, Bool.true_and]
      unfold forL
      rw [h1]
      dsimp only
      rw [h3]
      exact ih
end Py
end

section
set_option maxRecDepth 100000
set_option maxHeartbeats 4000000
set_option linter.all false
/-! A law's drawing part: run in the abstract, and told by written shapes. -/
namespace Py
open PySem L2

/-! one shape within another -/
def loB (a b : Option Int) : Bool := match b with
  | none => true
  | some y => (match a with | some x => decide (y ≤ x) | none => false)
def hiB (a b : Option Int) : Bool := match b with
  | none => true
  | some y => (match a with | some x => decide (x ≤ y) | none => false)
def AV.anyB (p : At → Bool) : AV → Bool
  | .nil => false
  | .cons b w => p b || AV.anyB p w
theorem AV.anyB_ok {p : At → Bool} {d : D} (h : ∀ b, p b = true → At.g b d) : ∀ {w : AV}, w.anyB p = true → AV.g w d
  | .nil, e => by simp [AV.anyB] at e
  | .cons b w, e => by
    simp only [AV.anyB, Bool.or_eq_true] at e
    rw [AV.g]
    exact e.imp (h b) (AV.anyB_ok h)
mutual
def At.le : At → At → Bool
  | .non, .non => true
  | .bl t f, .bl t' f' => (!t || t') && (!f || f')
  | .int lo hi, .int lo' hi' => loB lo lo' && hiB hi hi'
  | .str lo hi p, .str lo' hi' p' => decide (lo' ≤ lo) && decide (hi ≤ hi') && (!p' || p)
  | .seq t lo hi e, .seq t' lo' hi' e' => (t == t') && decide (lo' ≤ lo) && decide (hi ≤ hi') && AV.le e e'
  | .tupx es, .tupx fs => AVs.le es fs
  | .any w d k l, .any w' d' k' l' => decide (w ≤ w') && decide (d ≤ d') && decide (k ≤ k') && decide (l ≤ l')
  | .tupx es, .seq t' lo' hi' e' => t' && decide (lo' ≤ es.len) && decide (es.len ≤ hi') && AVs.leA es e'
  | .feed, .feed => true
  | _, _ => false
def AV.le : AV → AV → Bool
  | .nil, _ => true
  | .cons a v, w => AV.anyB (fun b => At.le a b) w && AV.le v w
def AVs.le : AVs → AVs → Bool
  | .nil, .nil => true
  | .cons a v, .cons b w => AV.le a b && AVs.le v w
  | _, _ => false
def AVs.leA : AVs → AV → Bool
  | .nil, _ => true
  | .cons a v, w => AV.le a w && AVs.leA v w
end
theorem loB_ok {a b : Option Int} (h : loB a b = true) {i : Int} (g : ∀ l, a = some l → l ≤ i) : ∀ l, b = some l → l ≤ i := by
  rintro l rfl
  unfold loB at h
  cases a with
  | none => simp at h
  | some x => have := g x rfl; simp at h; omega
theorem hiB_ok {a b : Option Int} (h : hiB a b = true) {i : Int} (g : ∀ l, a = some l → i ≤ l) : ∀ l, b = some l → i ≤ l := by
  rintro l rfl
  unfold hiB at h
  cases a with
  | none => simp at h
  | some x => have := g x rfl; simp at h; omega
mutual
theorem At.le_ok : ∀ {a b : At} {d : D}, At.le a b = true → At.g a d → At.g b d
  | .non, .non, _, _, g => g
  | .bl t f, .bl t' f', _, h, g => by
    obtain ⟨b, rfl, g⟩ := g
    refine ⟨b, rfl, ?_⟩
    simp only [At.le, Bool.and_eq_true, Bool.or_eq_true, Bool.not_eq_true'] at h
    cases b
    · rcases h.2 with h | h
      · rw [h] at g; cases g
      · exact h
    · rcases h.1 with h | h
      · rw [h] at g; cases g
      · exact h
  | .int _ _, .int _ _, _, h, g => by
    obtain ⟨i, rfl, g1, g2⟩ := g
    simp only [At.le, Bool.and_eq_true] at h
    exact ⟨i, rfl, loB_ok h.1 g1, hiB_ok h.2 g2⟩
  | .str _ _ _, .str _ _ _, _, h, g => by
    obtain ⟨x, rfl, g1, g2, g3⟩ := g
    simp only [At.le, Bool.and_eq_true, decide_eq_true_eq, Bool.or_eq_true, Bool.not_eq_true'] at h
    obtain ⟨⟨h1, h2⟩, h3⟩ := h
    refine ⟨x, rfl, by omega, by omega, fun p => g3 ?_⟩
    rcases h3 with h3 | h3
    · rw [h3] at p; cases p
    · exact h3
  | .seq _ _ _ _, .seq _ _ _ _, _, h, g => by
    obtain ⟨xs, rfl, g1, g2, g3⟩ := g
    simp only [At.le, Bool.and_eq_true, decide_eq_true_eq, beq_iff_eq] at h
    obtain ⟨⟨⟨rfl, h1⟩, h2⟩, h3⟩ := h
    exact ⟨xs, rfl, by omega, by omega, fun x hx => AV.le_ok h3 (g3 x hx)⟩
  | .tupx es, .tupx fs, _, h, g => by
    obtain ⟨xs, rfl, g⟩ := g
    simp only [At.le] at h
    exact ⟨xs, rfl, AVs.le_ok h g⟩
  | .tupx es, .seq t _ _ _, _, h, g => by
    obtain ⟨xs, rfl, g⟩ := g
    simp only [At.le, Bool.and_eq_true, decide_eq_true_eq] at h
    obtain ⟨⟨⟨rfl, h1⟩, h2⟩, h3⟩ := h
    have hl := AVs.g_len g
    exact ⟨xs, rfl, by omega, by omega, AVs.leA_ok h3 g⟩
  | .any _ _ _ _, .any _ _ _ _, _, h, g => by
    simp only [At.le, Bool.and_eq_true, decide_eq_true_eq] at h
    exact ⟨D.pn_mono h.1.2 g.1, Nat.le_trans g.2.1 h.1.1.1, Nat.le_trans g.2.2.1 h.1.1.2, Nat.le_trans g.2.2.2 h.2⟩
  | .feed, .feed, _, _, g => g
  | .non, .bl _ _, _, h, _ | .non, .int _ _, _, h, _ | .non, .str _ _ _, _, h, _ | .non, .seq _ _ _ _, _, h, _ | .non, .tupx _, _, h, _ | .non, .feed, _, h, _ => by simp [At.le] at h
  | .bl _ _, .non, _, h, _ | .bl _ _, .int _ _, _, h, _ | .bl _ _, .str _ _ _, _, h, _ | .bl _ _, .seq _ _ _ _, _, h, _ | .bl _ _, .tupx _, _, h, _ | .bl _ _, .feed, _, h, _ => by simp [At.le] at h
  | .int _ _, .non, _, h, _ | .int _ _, .bl _ _, _, h, _ | .int _ _, .str _ _ _, _, h, _ | .int _ _, .seq _ _ _ _, _, h, _ | .int _ _, .tupx _, _, h, _ | .int _ _, .feed, _, h, _ => by simp [At.le] at h
  | .str _ _ _, .non, _, h, _ | .str _ _ _, .bl _ _, _, h, _ | .str _ _ _, .int _ _, _, h, _ | .str _ _ _, .seq _ _ _ _, _, h, _ | .str _ _ _, .tupx _, _, h, _ | .str _ _ _, .feed, _, h, _ => by simp [At.le] at h
  | .seq _ _ _ _, .non, _, h, _ | .seq _ _ _ _, .bl _ _, _, h, _ | .seq _ _ _ _, .int _ _, _, h, _ | .seq _ _ _ _, .str _ _ _, _, h, _ | .seq _ _ _ _, .tupx _, _, h, _ | .seq _ _ _ _, .feed, _, h, _ => by simp [At.le] at h
  | .tupx _, .non, _, h, _ | .tupx _, .bl _ _, _, h, _ | .tupx _, .int _ _, _, h, _ | .tupx _, .str _ _ _, _, h, _ | .tupx _, .feed, _, h, _ => by simp [At.le] at h
  | .feed, .non, _, h, _ | .feed, .bl _ _, _, h, _ | .feed, .int _ _, _, h, _ | .feed, .str _ _ _, _, h, _ | .feed, .seq _ _ _ _, _, h, _ | .feed, .tupx _, _, h, _ => by simp [At.le] at h
  | .non, .any _ _ _ _, _, h, _ => by simp [At.le] at h
  | .bl _ _, .any _ _ _ _, _, h, _ => by simp [At.le] at h
  | .int _ _, .any _ _ _ _, _, h, _ => by simp [At.le] at h
  | .str _ _ _, .any _ _ _ _, _, h, _ => by simp [At.le] at h
  | .seq _ _ _ _, .any _ _ _ _, _, h, _ => by simp [At.le] at h
  | .tupx _, .any _ _ _ _, _, h, _ => by simp [At.le] at h
  | .feed, .any _ _ _ _, _, h, _ => by simp [At.le] at h
  | .any _ _ _ _, .non, _, h, _ => by simp [At.le] at h
  | .any _ _ _ _, .bl _ _, _, h, _ => by simp [At.le] at h
  | .any _ _ _ _, .int _ _, _, h, _ => by simp [At.le] at h
  | .any _ _ _ _, .str _ _ _, _, h, _ => by simp [At.le] at h
  | .any _ _ _ _, .seq _ _ _ _, _, h, _ => by simp [At.le] at h
  | .any _ _ _ _, .tupx _, _, h, _ => by simp [At.le] at h
  | .any _ _ _ _, .feed, _, h, _ => by simp [At.le] at h
theorem AV.le_ok : ∀ {v w : AV} {d : D}, AV.le v w = true → AV.g v d → AV.g w d
  | .nil, _, _, _, g => by simp [AV.g] at g
  | .cons a v, w, _, h, g => by
    simp only [AV.le, Bool.and_eq_true] at h
    rw [AV.g] at g
    rcases g with g | g
    · exact AV.anyB_ok (fun b hb => At.le_ok hb g) h.1
    · exact AV.le_ok h.2 g
theorem AVs.le_ok : ∀ {v w : AVs} {xs : List D}, AVs.le v w = true → AVs.g v xs → AVs.g w xs
  | .nil, .nil, _, _, g => g
  | .cons a v, .cons b w, _, h, g => by
    simp only [AVs.le, Bool.and_eq_true] at h
    obtain ⟨x, r, rfl, g1, g2⟩ := g
    exact ⟨x, r, rfl, AV.le_ok h.1 g1, AVs.le_ok h.2 g2⟩
  | .nil, .cons _ _, _, h, _ => by simp [AVs.le] at h
  | .cons _ _, .nil, _, h, _ => by simp [AVs.le] at h
theorem AVs.leA_ok : ∀ {v : AVs} {w : AV} {xs : List D}, AVs.leA v w = true → AVs.g v xs → ∀ x ∈ xs, AV.g w x
  | .nil, _, _, _, g => by
    simp only [AVs.g] at g
    subst g
    intro x hx
    cases hx
  | .cons a v, w, _, h, g => by
    simp only [AVs.leA, Bool.and_eq_true] at h
    obtain ⟨x, r, rfl, g1, g2⟩ := g
    intro y hy
    rcases List.mem_cons.mp hy with rfl | hy
    · exact AV.le_ok h.1 g1
    · exact AVs.leA_ok h.2 g2 y hy
end

/-! a body in two parts -/
def takeS : Nat → Sms → Sms
  | 0, _ => .nil
  | _ + 1, .nil => .nil
  | n + 1, .cons s ss => .cons s (takeS n ss)
def dropS : Nat → Sms → Sms
  | 0, ss => ss
  | _ + 1, .nil => .nil
  | n + 1, .cons _ ss => dropS n ss
theorem cut_nx {F : Fsem} : ∀ (n : Nat) {b : Sms} {en en' : Env} {st st' : Store}, execSs F (takeS n b) en st = .nx en' st' → execSs F b en st = execSs F (dropS n b) en' st'
  | 0, b, en, en', st, st', h => by
    simp only [takeS, execSs, SOut.nx.injEq] at h
    rw [dropS, h.1, h.2]
  | n + 1, .nil, en, en', st, st', h => by
    simp only [takeS, execSs, SOut.nx.injEq] at h
    rw [dropS, h.1, h.2]
  | n + 1, .cons s ss, en, en', st, st', h => by
    rw [takeS, ss_cons] at h
    rw [dropS, ss_cons]
    cases e : execS F s en st with
    | nx e1 s1 => rw [e] at h; exact cut_nx n h
    | _ => rw [e] at h; cases h

/-- an abstract run that goes on to its end, and what is asked of its slots -/
def outB (o : Option AOut) (f : AEnv → Bool) : Bool := match o with
  | some A => A.rt.isNone && A.bk.isNone && A.ct.isNone && (match A.nx with
    | some E => f E
    | none => false)
  | none => false
theorem outB_ok {I : Store → Prop} {o : SOut} {a : Option AOut} {f : AEnv → Bool} (h : outB a f = true) (hw : ∀ A, a = some A → o.W I A) : ∃ env st E, o = .nx env st ∧ I st ∧ gE E env ∧ f E = true := by
  cases a with
  | none => cases h
  | some A =>
    have hw := hw A rfl
    simp only [outB, Bool.and_eq_true, Option.isNone_iff_eq_none] at h
    obtain ⟨⟨⟨h1, h2⟩, h3⟩, h4⟩ := h
    split at h4
    · rename_i E e1
      cases o with
      | nx env st =>
        have g : gOE A.nx env := hw.1
        rw [e1] at g
        exact ⟨env, st, E, rfl, hw.2, g, h4⟩
      | rt r st => have g : gOR A.rt r := hw.1; rw [h1] at g; exact g.elim
      | bk env st => have g : gOE A.bk env := hw.1; rw [h2] at g; exact g.elim
      | ct env st => have g : gOE A.ct env := hw.1; rw [h3] at g; exact g.elim
      | exc _ _ _ _ => exact hw.elim
      | bad => exact hw.elim
    · cases h4
/-- the slots at the start: the feed in slot 1 -/
def E0 (n : Nat) : AEnv := ⟨none :: some (.val (one .feed)) :: List.replicate n none, []⟩
theorem E0_ok {n : Nat} (r : Option Res) : gE (E0 n) (r :: some (.val (.ptr 0)) :: List.replicate n none) := by
  refine ⟨by simp [E0], fun i a e => ?_, fun p hp => by simp [E0] at hp⟩
  match i with
  | 0 => cases e
  | 1 => cases e; exact ⟨_, rfl, .ptr 0, rfl, one_g rfl⟩
  | i + 2 =>
    have e : (List.replicate n (none : Option AR))[i]? = some (some a) := e
    rw [List.getElem?_replicate] at e
    split at e <;> cases e
/-- the drawing part of a law -/
theorem drawn_run {P' P : Nat → Option FDef} (hsub : ∀ f d, P' f = some d → P f = some d) {dr j k n : Nat} {sm : Nat → Nat → AVs → Option AR} {ss : Sms} {f : AEnv → Bool} (hP : P dr = some ⟨6, 2, drawB⟩) (hs : ∀ k j, k ≤ j → CallOk (sm k) (run P (j + 1)) (FeedI [])) (h : outB (absSs (absF P' dr sm j) dr ss (E0 n)) f = true) (hk : j ≤ k) (h0 : 0 < k) (r : Option Res) {st : Store} (hi : FeedI [] st) :
    ∃ env st' E, execSs (run P k) ss (r :: some (.val (.ptr 0)) :: List.replicate n none) st = .nx env st' ∧ FeedI [] st' ∧ gE E env ∧ f E = true := by
  obtain ⟨k, rfl⟩ : ∃ m, k = m + 1 := ⟨k - 1, by omega⟩
  refine outB_ok (I := FeedI []) h fun A hA => ?_
  exact absSs_ok (C := absF P' dr sm j) (dr := dr) (I := FeedI []) (F := run P (k + 1)) (absF_ok hsub hs (draw_ok hP) j (k + 1) hk) (fun m st a b c => draw_ok hP k m st a b c) ss hA (E0_ok r) hi
/-! summaries: what a def gives for things of a shape -/
structure Sum where
  f : Nat
  need : Nat
  vin : AVs
  out : AR
def AR.le : AR → AR → Bool
  | .val v, .val w => AV.le v w
  | .own v, .own w => AV.le v w
  | _, _ => false
theorem AR.le_ok {a b : AR} {r : Res} (h : AR.le a b = true) (g : gR a r) : gR b r := by
  cases a <;> cases b <;> simp only [AR.le, Bool.false_eq_true] at h
  · obtain ⟨d, rfl, g⟩ := g; exact ⟨d, rfl, AV.le_ok h g⟩
  · obtain ⟨d, rfl, g⟩ := g; exact ⟨d, rfl, AV.le_ok h g⟩
def SumOk (P : Nat → Option FDef) (I : Store → Prop) (s : Sum) : Prop := ∀ j, s.need ≤ j → ∀ ds st, AVs.g s.vin ds → I st → (run P j s.f ds st).W fun r st' => gR s.out r ∧ I st'
def smT (l : List Sum) (k f : Nat) (vs : AVs) : Option AR := (l.find? fun s => s.f == f && decide (s.need ≤ k) && AVs.le vs s.vin).map (·.out)
theorem smT_ok {P : Nat → Option FDef} {I : Store → Prop} {l : List Sum} (h : ∀ s ∈ l, SumOk P I s) : ∀ k j, k ≤ j → CallOk (smT l k) (run P (j + 1)) I := by
  intro k j hk f vs r e ds st g hi
  unfold smT at e
  simp only [Option.map_eq_some_iff] at e
  obtain ⟨s, e, rfl⟩ := e
  have h1 := List.find?_some e
  simp only [Bool.and_eq_true, beq_iff_eq, decide_eq_true_eq] at h1
  obtain ⟨⟨rfl, h2⟩, h3⟩ := h1
  exact h s (List.mem_of_find?_eq_some e) (j + 1) (by omega) ds st (AVs.le_ok h3 g) hi
def smOr (a b : Nat → Nat → AVs → Option AR) (k f : Nat) (vs : AVs) : Option AR := match a k f vs with
  | some r => some r
  | none => b k f vs
theorem smOr_ok {P : Nat → Option FDef} {I : Store → Prop} {a b : Nat → Nat → AVs → Option AR} (h1 : ∀ k j, k ≤ j → CallOk (a k) (run P (j + 1)) I) (h2 : ∀ k j, k ≤ j → CallOk (b k) (run P (j + 1)) I) : ∀ k j, k ≤ j → CallOk (smOr a b k) (run P (j + 1)) I := by
  intro k j hk f vs r e ds st g hi
  unfold smOr at e
  split at e
  · rename_i r0 e1
    cases e
    exact h1 k j hk f vs _ e1 ds st g hi
  · exact h2 k j hk f vs r e ds st g hi
theorem sum_mk {P' P : Nat → Option FDef} (hsub : ∀ f d, P' f = some d → P f = some d) {dr : Nat} {sm : Nat → Nat → AVs → Option AR} (hP : P dr = some ⟨6, 2, drawB⟩) (hs : ∀ k j, k ≤ j → CallOk (sm k) (run P (j + 1)) (FeedI [])) {s : Sum}
    (h : (match absF P' dr sm s.need s.f s.vin with | some r => AR.le r s.out | none => false) = true) : SumOk P (FeedI []) s := by
  intro j hj ds st g hi
  split at h
  · rename_i r e
    exact (absF_ok (I := FeedI []) hsub hs (draw_ok hP) s.need j hj s.f s.vin r e ds st g hi).imp fun r' st' q => ⟨AR.le_ok h q.1, q.2⟩
  · cases h
theorem sub_list {l m : List (Nat × FDef)} (h : ∀ p ∈ l, List.lookup p.1 m = some p.2) : ∀ f d, List.lookup f l = some d → List.lookup f m = some d := by
  intro f d e
  obtain ⟨l1, l2, hl, _⟩ := List.lookup_eq_some_iff.mp e
  exact h (f, d) (by rw [hl]; simp)
/-- a slot's shape -/
def ownIn (i : Nat) (V : AV) (E : AEnv) : Bool := match E.sl[i]? with
  | some (some (AR.own v)) => AV.le v V
  | _ => false
def valIn (i : Nat) (V : AV) (E : AEnv) : Bool := match E.sl[i]? with
  | some (some (AR.val v)) => AV.le v V
  | _ => false
theorem ownIn_ok {i : Nat} {V : AV} {E : AEnv} {env : Env} (h : ownIn i V E = true) (g : gE E env) : ∃ xs, env[i]? = some (some (.own (.lst xs))) ∧ AV.g V (.lst xs) := by
  unfold ownIn at h
  split at h
  · rename_i v e
    obtain ⟨r, h1, xs, rfl, h2⟩ := g.2.1 i _ e
    exact ⟨xs, h1, AV.le_ok h h2⟩
  · cases h
theorem valIn_ok {i : Nat} {V : AV} {E : AEnv} {env : Env} (h : valIn i V E = true) (g : gE E env) : ∃ d, env[i]? = some (some (.val d)) ∧ AV.g V d := by
  unfold valIn at h
  split at h
  · rename_i v e
    obtain ⟨r, h1, d, rfl, h2⟩ := g.2.1 i _ e
    exact ⟨d, h1, AV.le_ok h h2⟩
  · cases h
/-- a slot's things: as data they are shown, within bounds -/
structure Plain (W Dp : Nat) (d : D) : Prop where
  ex : ∃ p, d.py = some p ∧ p.showable = true ∧ p.shown.length ≤ W ∧ p.depth ≤ Dp
  sok : d.sok = true
def plV (W Dp : Nat) (v : AV) : Bool := (match v.wt, v.pd with
  | some w, some d => decide (w ≤ W) && decide (d ≤ Dp)
  | _, _ => false) && v.sok
theorem plV_ok {W Dp : Nat} {v : AV} {d : D} (h : plV W Dp v = true) (g : AV.g v d) : Plain W Dp d := by
  unfold plV at h
  rw [Bool.and_eq_true] at h
  obtain ⟨h, hs⟩ := h
  split at h
  · rename_i w k e1 e2
    simp only [Bool.and_eq_true, decide_eq_true_eq] at h
    obtain ⟨p, p1, p2, p3⟩ := AV.wt_ok e1 g
    obtain ⟨q, q1, q2⟩ := AV.pd_ok e2 g
    rw [p1] at q1
    cases q1
    exact ⟨⟨p, p1, p2, by omega, by omega⟩, AV.sok_ok hs g⟩
  · cases h
def ownPl (i W Dp : Nat) (E : AEnv) : Bool := match E.sl[i]? with
  | some (some (AR.own v)) => plV W Dp v
  | _ => false
theorem ownPl_ok {i W Dp : Nat} {E : AEnv} {env : Env} (h : ownPl i W Dp E = true) (g : gE E env) : ∃ xs, env[i]? = some (some (.own (.lst xs))) ∧ Plain W Dp (.lst xs) := by
  unfold ownPl at h
  split at h
  · rename_i v e
    obtain ⟨r, h1, xs, rfl, h2⟩ := g.2.1 i _ e
    exact ⟨xs, h1, plV_ok h h2⟩
  · cases h
def ownWn (i : Nat) (b : Bd) (E : AEnv) : Bool := match E.sl[i]? with
  | some (some (AR.own v)) => (match v.fd with
    | some p => decide (p.w ≤ b.w) && decide (p.d ≤ b.d) && decide (p.k ≤ b.k) && decide (p.l ≤ b.l)
    | none => false)
  | _ => false
theorem ownWn_ok {i : Nat} {b : Bd} {E : AEnv} {env : Env} (h : ownWn i b E = true) (g : gE E env) : ∃ xs, env[i]? = some (some (.own (.lst xs))) ∧ Wn b (.lst xs) := by
  unfold ownWn at h
  split at h
  · rename_i v e
    obtain ⟨r, h1, xs, rfl, h2⟩ := g.2.1 i _ e
    split at h
    · rename_i p hp
      simp only [Bool.and_eq_true, decide_eq_true_eq] at h
      exact ⟨xs, h1, (AV.fd_ok hp h2).mono h.1.1.1 h.1.1.2 h.1.2 h.2⟩
    · cases h
  · cases h
theorem wns_mem {k : Nat} : ∀ {xs : List D}, D.pns k xs = true → ∀ x ∈ xs, x.pn k = true ∧ x.wz ≤ D.wzs xs ∧ x.dep ≤ D.deps xs ∧ x.ml ≤ D.mls xs
  | [], _, x, hx => by cases hx
  | y :: xs, h, x, hx => by
    simp only [D.pns, Bool.and_eq_true] at h
    show _ ∧ _ ≤ y.wz + 2 + D.wzs xs ∧ _ ≤ max y.dep (D.deps xs) ∧ _ ≤ max y.ml (D.mls xs)
    rcases List.mem_cons.mp hx with rfl | hx
    · exact ⟨h.1, by omega, by omega, by omega⟩
    · obtain ⟨a, b, c, d⟩ := wns_mem h.2 x hx
      exact ⟨a, by omega, by omega, by omega⟩
theorem Wn.mem {p : Bd} {xs : List D} (h : Wn p (.lst xs)) {x : D} (hx : x ∈ xs) : Wn p x := by
  have a : D.pns p.k xs = true := h.pn
  have b : D.wzs xs + 3 ≤ p.w := h.wz
  have c : D.deps xs + 1 ≤ p.d := h.dep
  have d : max xs.length (D.mls xs) ≤ p.l := h.ml
  obtain ⟨a1, b1, c1, d1⟩ := wns_mem a x hx
  exact ⟨a1, by omega, by omega, by omega⟩
theorem Wn.memT {p : Bd} {xs : List D} (h : Wn p (.tup xs)) {x : D} (hx : x ∈ xs) : Wn p x := Wn.mem (xs := xs) ⟨h.pn, h.wz, h.dep, h.ml⟩ hx
theorem Wn.len {p : Bd} {xs : List D} (h : Wn p (.tup xs)) : xs.length ≤ p.l := by
  have d : max xs.length (D.mls xs) ≤ p.l := h.ml
  omega
theorem Wn.lenL {p : Bd} {xs : List D} (h : Wn p (.lst xs)) : xs.length ≤ p.l := by
  have d : max xs.length (D.mls xs) ≤ p.l := h.ml
  omega
theorem ml_mem {x : D} : ∀ {xs : List D}, x ∈ xs → x.ml ≤ D.mls xs
  | [], h => by cases h
  | y :: xs, h => by
    show _ ≤ max y.ml (D.mls xs)
    rcases List.mem_cons.mp h with rfl | h
    · omega
    · have := ml_mem h; omega
theorem Wn.okd {p : Bd} {d : D} (h : Wn p d) (hw : p.w ≤ 16777216) : Okd d := by
  obtain ⟨q, h1, _⟩ := pn_py h.pn
  exact ⟨⟨q, h1⟩, wz_sok (by have := h.wz; rw [sizeLine_eq]; omega)⟩
/-- its repr -/
theorem Wn.repr {p : Bd} {d : D} (h : Wn p d) (hw : p.w ≤ 16777216) (hk : p.k ≤ 500) (hd : p.d ≤ 64) : ∃ s, ∀ v : Vw, v.py = d.py → opBI .repr [v] = some (.val (.str s)) := by
  obtain ⟨q, h1, h2, h3⟩ := pn_shown hk h.pn
  obtain ⟨q2, h4, h5⟩ := pn_py h.pn
  rw [h1] at h4
  cases h4
  refine ⟨q.shown, fun v hv => repr_of (hv.trans h1) (hv.trans h1) h2 (by have := h.wz; rw [sizeLine_eq]; omega) (by have := h.dep; omega)⟩
def lenIs (n : Nat) (E : AEnv) : Bool := decide (E.sl.length = n)
theorem lenIs_ok {n : Nat} {E : AEnv} {env : Env} (h : lenIs n E = true) (g : gE E env) : env.length = n := g.1.symm.trans (of_decide_eq_true h)
end Py
end

section
set_option maxRecDepth 100000
set_option maxHeartbeats 4000000
set_option linter.all false
/-! Defs in the small language, shared by laws (printed by g2.py). -/
namespace G
open PySem L2 Py
-- is_number(thing)
def b0 : Sms :=
  .cons (.ret (.and (.cons (.isi (.var 0) "int") (.cons (.not (.isi (.var 0) "bool")) .nil)))) <|
  .nil
def d0 : FDef := ⟨1, 1, b0⟩

-- is_word(thing)
def b1 : Sms :=
  .cons (.ife (.or (.cons (.not (.val (.isi (.var 0) "str"))) (.cons (.not (.cmp2 .le .le (.cst (.int 1)) (.bi .len (.cons (.var 0) .nil)) (.glb ("MOST_LETTERS" : Str) (.int 8)))) .nil))) (.cons (.ret (.cst (.bl false))) .nil) .nil) <|
  .cons (.ret (.bi .all (.cons (.comp [1] (.name 1) (.it (.var 0)) .nil (.cmp .isIn (.var 1) (.glb ("LETTERS" : Str) (.str ("abcdefghijklmnopqrstuvwxyz" : Str))))) .nil))) <|
  .nil
def d1 : FDef := ⟨2, 1, b1⟩

-- is_many(thing)
def b2 : Sms :=
  .cons (.ret (.and (.cons (.call 0 (.cons (.var 0) .nil)) (.cons (.cmp .ge (.var 0) (.cst (.int 1))) .nil)))) <|
  .nil
def d2 : FDef := ⟨1, 1, b2⟩

-- is_shades(thing)
def b3 : Sms :=
  .cons (.ife (.or (.cons (.not (.val (.isi (.var 0) "tuple"))) (.cons (.not (.val (.bi .all (.cons (.comp [1] (.name 1) (.it (.var 0)) .nil (.call 1 (.cons (.var 1) .nil))) .nil)))) .nil))) (.cons (.ret (.cst (.bl false))) .nil) .nil) <|
  .cons (.ret (.bi .all (.cons (.comp [2] (.name 2) (.rng (.cons (.bin .sub (.bi .len (.cons (.var 0) .nil)) (.cst (.int 1))) .nil)) .nil (.cmp .lt (.ix (.var 0) (.var 2)) (.ix (.var 0) (.bin .add (.var 2) (.cst (.int 1)))))) .nil))) <|
  .nil
def d3 : FDef := ⟨3, 1, b3⟩

-- is_want(thing)
def b4 : Sms :=
  .cons (.ife (.or (.cons (.not (.val (.isi (.var 0) "tuple"))) (.cons (.cmp .ne (.bi .len (.cons (.var 0) .nil)) (.cst (.int 3))) .nil))) (.cons (.ret (.cst (.bl false))) .nil) .nil) <|
  .cons (.ret (.and (.cons (.call 1 (.cons (.ix (.var 0) (.cst (.int 0))) .nil)) (.cons (.call 3 (.cons (.ix (.var 0) (.cst (.int 1))) .nil)) (.cons (.call 2 (.cons (.ix (.var 0) (.cst (.int 2))) .nil)) .nil))))) <|
  .nil
def d4 : FDef := ⟨1, 1, b4⟩

-- is_way(thing)
def b5 : Sms :=
  .cons (.ret (.and (.cons (.isi (.var 0) "tuple") (.cons (.bi .all (.cons (.comp [1] (.name 1) (.it (.var 0)) .nil (.call 4 (.cons (.var 1) .nil))) .nil)) .nil)))) <|
  .nil
def d5 : FDef := ⟨2, 1, b5⟩

-- is_row(thing)
def b6 : Sms :=
  .cons (.ret (.and (.cons (.isi (.var 0) "tuple") (.cons (.cmp .gt (.bi .len (.cons (.var 0) .nil)) (.cst (.int 0))) (.cons (.bi .all (.cons (.comp [1] (.name 1) (.it (.var 0)) .nil (.call 5 (.cons (.var 1) .nil))) .nil)) .nil))))) <|
  .nil
def d6 : FDef := ⟨2, 1, b6⟩

-- is_sheet(thing)
def b7 : Sms :=
  .cons (.ret (.and (.cons (.isi (.var 0) "tuple") (.cons (.bi .all (.cons (.comp [1] (.name 1) (.it (.var 0)) .nil (.call 6 (.cons (.var 1) .nil))) .nil)) .nil)))) <|
  .nil
def d7 : FDef := ⟨2, 1, b7⟩

-- is_plain(sheet)
def b8 : Sms :=
  .cons (.ret (.bi .all (.cons (.comp [1] (.name 1) (.it (.var 0)) .nil (.cmp .eq (.bi .len (.cons (.var 1) .nil)) (.cst (.int 1)))) .nil))) <|
  .nil
def d8 : FDef := ⟨2, 1, b8⟩
end G
end

section
set_option maxRecDepth 100000
set_option maxHeartbeats 4000000
set_option linter.all false
/-! Defs in the small language, shared by laws (printed by g2.py). -/
namespace G
open PySem L2 Py
-- _law_feed(_law_script)
def b9 : Sms :=
  .cons (.ret (.dct (.cons (.cst (.str ("cells" : Str))) (.cons (.bi .list (.cons (.sl (.var 0) .nil (.cons (.cst (.int 63)) .nil)) .nil)) (.cons (.cst (.str ("at" : Str))) (.cons (.cst (.int 0)) (.cons (.cst (.str ("left" : Str))) (.cons (.cst (.int 0)) (.cons (.cst (.str ("count" : Str))) (.cons (.cst (.int 0)) .nil)))))))))) <|
  .nil
def d9 : FDef := ⟨1, 1, b9⟩

-- _law_draw(_law_feed_here, _law_many_here)
def b10 : Sms :=
  .cons (.sset 0 (.cst (.str ("count" : Str))) (.bin .add (.ix (.var 0) (.cst (.str ("count" : Str)))) (.cst (.int 1)))) <|
  .cons (.ife (.cmp .gt (.ix (.var 0) (.cst (.str ("left" : Str)))) (.cst (.int 0))) (.cons (.vl 2 (.bin .mod (.ix (.var 0) (.cst (.str ("left" : Str)))) (.var 1))) (.cons (.sset 0 (.cst (.str ("left" : Str))) (.bin .fdiv (.ix (.var 0) (.cst (.str ("left" : Str)))) (.var 1))) (.cons (.ret (.var 2)) .nil))) .nil) <|
  .cons (.vl 3 (.ix (.var 0) (.cst (.str ("at" : Str))))) <|
  .cons (.sset 0 (.cst (.str ("at" : Str))) (.bin .add (.var 3) (.cst (.int 1)))) <|
  .cons (.vl 4 (.ife (.cmp .ne (.ix (.var 0) (.cst (.str ("cells" : Str)))) (.lst .nil)) (.ix (.ix (.var 0) (.cst (.str ("cells" : Str)))) (.bin .mod (.var 3) (.bi .len (.cons (.ix (.var 0) (.cst (.str ("cells" : Str)))) .nil)))) (.cst (.int 8)))) <|
  .cons (.ife (.and (.cons (.cmp .ge (.var 4) (.bin .pow (.cst (.int 10)) (.cst (.int 18)))) (.cons (.cmp .lt (.var 3) (.bi .len (.cons (.ix (.var 0) (.cst (.str ("cells" : Str)))) .nil))) .nil))) (.cons (.sset 0 (.cst (.str ("left" : Str))) (.bin .fdiv (.var 4) (.var 1))) (.cons (.ret (.bin .mod (.var 4) (.var 1))) .nil)) .nil) <|
  .cons (.vl 5 (.bin .mod (.bin .add (.bin .add (.bin .mod (.var 4) (.cst (.int 1000000033))) (.bin .mul (.cst (.int 70001)) (.ix (.var 0) (.cst (.str ("count" : Str)))))) (.cst (.int 37))) (.cst (.int 2147483587)))) <|
  .cons (.vl 5 (.bin .mod (.bin .add (.bin .add (.bin .mul (.var 5) (.var 5)) (.bin .mul (.cst (.int 6700417)) (.ix (.var 0) (.cst (.str ("count" : Str)))))) (.cst (.int 7))) (.cst (.int 2147483563)))) <|
  .cons (.ret (.bin .mod (.bin .fdiv (.bin .mod (.bin .add (.bin .mul (.var 5) (.var 5)) (.bin .mul (.cst (.int 17)) (.var 5))) (.cst (.int 2147483549))) (.cst (.int 8))) (.var 1))) <|
  .nil
def d10 : FDef := ⟨6, 2, b10⟩

-- _law_names(_law_feed_here, _law_many_here)
def b11 : Sms :=
  .cons (.vl 2 (.cst (.str ("abcdefghijklmnopqrstuvwxyz" : Str)))) <|
  .cons (.set 3 (.lst .nil)) <|
  .cons (.vl 4 (.call 10 (.cons (.var 0) (.cons (.cst (.int 26)) .nil)))) <|
  .cons (.for_ (.name 5) (.rng (.cons (.var 1) .nil)) (.cons (.ife (.and (.cons (.cmp .ne (.var 3) (.lst .nil)) (.cons (.cmp .lt (.bi .len (.cons (.ix (.var 3) (.neg (.cst (.int 1)))) .nil)) (.cst (.int 8))) (.cons (.cmp .eq (.call 10 (.cons (.var 0) (.cons (.cst (.int 3)) .nil))) (.cst (.int 0))) .nil)))) (.cons (.mut .append 3 (.cons (.bin .add (.ix (.var 3) (.neg (.cst (.int 1)))) (.ix (.var 2) (.call 10 (.cons (.var 0) (.cons (.cst (.int 26)) .nil))))) .nil)) .nil) (.cons (.vl 4 (.bin .add (.var 4) (.cst (.int 1)))) (.cons (.vl 6 (.comp [7] (.name 7) (.rng (.cons (.ix (.lst (.cons (.cst (.int 0)) (.cons (.cst (.int 0)) (.cons (.cst (.int 1)) (.cons (.cst (.int 7)) .nil))))) (.call 10 (.cons (.var 0) (.cons (.cst (.int 4)) .nil)))) .nil)) .nil (.ix (.var 2) (.call 10 (.cons (.var 0) (.cons (.cst (.int 26)) .nil)))))) (.cons (.mut .append 3 (.cons (.bin .add (.ix (.var 2) (.bin .mod (.var 4) (.cst (.int 26)))) (.mth .join (.cst (.str ("" : Str))) (.cons (.var 6) .nil))) .nil)) .nil)))) .nil)) <|
  .cons (.retO 3) <|
  .nil
def d11 : FDef := ⟨8, 2, b11⟩

-- _law_many(_law_feed_here)
def b12 : Sms :=
  .cons (.ret (.ix (.lst (.cons (.cst (.int 1)) (.cons (.bin .add (.cst (.int 1)) (.call 10 (.cons (.var 0) (.cons (.cst (.int 9)) .nil)))) (.cons (.bin .sub (.bin .pow (.cst (.int 10)) (.cst (.int 9))) (.call 10 (.cons (.var 0) (.cons (.cst (.int 3)) .nil)))) (.cons (.bin .add (.cst (.int 1)) (.call 10 (.cons (.var 0) (.cons (.bin .pow (.cst (.int 10)) (.cst (.int 6))) .nil)))) .nil))))) (.call 10 (.cons (.var 0) (.cons (.cst (.int 4)) .nil))))) <|
  .nil
def d12 : FDef := ⟨1, 1, b12⟩

-- _law_want(_law_feed_here, _law_forms, _law_shades)
def b13 : Sms :=
  .cons (.vl 3 (.ix (.var 1) (.call 10 (.cons (.var 0) (.cons (.bi .len (.cons (.var 1) .nil)) .nil))))) <|
  .cons (.vl 4 (.bi .tuple (.cons (.comp [5] (.name 5) (.it (.bi .sorted (.cons (.var 2) .nil))) (.cons (.cmp .eq (.call 10 (.cons (.var 0) (.cons (.cst (.int 2)) .nil))) (.cst (.int 0))) .nil) (.var 5)) .nil))) <|
  .cons (.ret (.tup (.cons (.var 3) (.cons (.var 4) (.cons (.call 12 (.cons (.var 0) .nil)) .nil))))) <|
  .nil
def d13 : FDef := ⟨6, 3, b13⟩

-- _law_sheet(_law_feed_here, _law_forms, _law_shades, _law_most_now)
def b14 : Sms :=
  .cons (.set 4 (.lst .nil)) <|
  .cons (.for_ (.name 5) (.rng (.cons (.call 10 (.cons (.var 0) (.cons (.cst (.int 4)) .nil))) .nil)) (.cons (.set 6 (.lst .nil)) (.cons (.for_ (.name 7) (.rng (.cons (.bin .add (.cst (.int 1)) (.call 10 (.cons (.var 0) (.cons (.cst (.int 3)) .nil)))) .nil)) (.cons (.mut .append 6 (.cons (.bi .tuple (.cons (.comp [8] (.name 8) (.rng (.cons (.call 10 (.cons (.var 0) (.cons (.bin .add (.var 3) (.cst (.int 1))) .nil))) .nil)) .nil (.call 13 (.cons (.var 0) (.cons (.var 1) (.cons (.var 2) .nil))))) .nil)) .nil)) .nil)) (.cons (.mut .append 4 (.cons (.bi .tuple (.cons (.var 6) .nil)) .nil)) .nil)))) <|
  .cons (.ret (.bi .tuple (.cons (.var 4) .nil))) <|
  .nil
def d14 : FDef := ⟨9, 4, b14⟩

-- _law_bent(_law_feed_here, _law_thing)
def b15 : Sms :=
  .cons (.ife (.and (.cons (.val (.isi (.var 1) "tuple")) (.cons (.cmp .ne (.var 1) (.tup .nil)) (.cons (.cmp .gt (.call 10 (.cons (.var 0) (.cons (.cst (.int 5)) .nil))) (.cst (.int 0))) .nil)))) (.cons (.vl 2 (.call 10 (.cons (.var 0) (.cons (.bi .len (.cons (.var 1) .nil)) .nil)))) (.cons (.ret (.bin .add (.bin .add (.sl (.var 1) .nil (.cons (.var 2) .nil)) (.tup (.cons (.call 15 (.cons (.var 0) (.cons (.ix (.var 1) (.var 2)) .nil))) .nil))) (.sl (.var 1) (.cons (.bin .add (.var 2) (.cst (.int 1))) .nil) .nil))) .nil)) .nil) <|
  .cons (.vl 3 (.call 10 (.cons (.var 0) (.cons (.cst (.int 9)) .nil)))) <|
  .cons (.ife (.val (.isi (.var 1) "tuple")) (.cons (.vl 4 (.lst (.cons (.bi .list (.cons (.var 1) .nil)) (.cons (.rev (.var 1)) (.cons (.tup (.cons (.var 1) .nil)) (.cons (.bin .add (.var 1) (.var 1)) (.cons (.tup .nil) (.cons (.cst (.non)) (.cons (.sl (.var 1) (.cons (.cst (.int 1)) .nil) .nil) (.cons (.sl (.var 1) .nil (.cons (.neg (.cst (.int 1))) .nil)) .nil)))))))))) (.cons (.ret (.ix (.bin .add (.var 4) (.lst (.cons (.bin .add (.var 1) (.tup (.cons (.cst (.non)) .nil))) .nil))) (.var 3))) .nil)) .nil) <|
  .cons (.ife (.val (.isi (.var 1) "int")) (.cons (.ret (.ix (.lst (.cons (.bin .add (.var 1) (.cst (.int 1))) (.cons (.bin .sub (.var 1) (.cst (.int 1))) (.cons (.cmp .eq (.var 1) (.cst (.int 1))) (.cons (.bi .str (.cons (.var 1) .nil)) (.cons (.cst (.non)) (.cons (.tup (.cons (.var 1) .nil)) (.cons (.cst (.int 0)) (.cons (.neg (.cst (.int 1))) (.cons (.bin .pow (.cst (.int 10)) (.cst (.int 60))) .nil)))))))))) (.var 3))) .nil) .nil) <|
  .cons (.ret (.ix (.lst (.cons (.cst (.non)) (.cons (.cst (.bl true)) (.cons (.cst (.int 0)) (.cons (.cst (.int 1)) (.cons (.cst (.str ("" : Str))) (.cons (.tup .nil) (.cons (.lst .nil) (.cons (.neg (.cst (.int 1))) (.cons (.cst (.str ("a" : Str))) .nil)))))))))) (.var 3))) <|
  .nil
def d15 : FDef := ⟨5, 2, b15⟩

-- _law_word(_law_thing)
def b16 : Sms :=
  .cons (.ife (.or (.cons (.not (.val (.isi (.var 0) "str"))) (.cons (.not (.cmp2 .lt .lt (.cst (.int 0)) (.bi .len (.cons (.var 0) .nil)) (.cst (.int 9)))) .nil))) (.cons (.ret (.cst (.bl false))) .nil) .nil) <|
  .cons (.ret (.cmp .eq (.comp [1] (.name 1) (.it (.var 0)) (.cons (.cmp .notIn (.var 1) (.cst (.str ("abcdefghijklmnopqrstuvwxyz" : Str)))) .nil) (.var 1)) (.lst .nil))) <|
  .nil
def d16 : FDef := ⟨2, 1, b16⟩

-- _law_wanted(_law_thing)
def b17 : Sms :=
  .cons (.ife (.or (.cons (.not (.val (.isi (.var 0) "tuple"))) (.cons (.cmp .ne (.bi .len (.cons (.var 0) .nil)) (.cst (.int 3))) .nil))) (.cons (.ret (.cst (.bl false))) .nil) .nil) <|
  .cons (.unp [1, 2, 3] (.var 0)) <|
  .cons (.ife (.or (.cons (.not (.val (.call 16 (.cons (.var 1) .nil)))) (.cons (.not (.val (.isi (.var 2) "tuple"))) (.cons (.cmp .ne (.comp [4] (.name 4) (.it (.var 2)) (.cons (.not (.val (.call 16 (.cons (.var 4) .nil)))) .nil) (.var 4)) (.lst .nil)) .nil)))) (.cons (.ret (.cst (.bl false))) .nil) .nil) <|
  .cons (.ife (.or (.cons (.cmp .ne (.sset (.var 2)) (.bi .list (.cons (.var 2) .nil))) (.cons (.val (.isi (.var 3) "bool")) .nil))) (.cons (.ret (.cst (.bl false))) .nil) .nil) <|
  .cons (.ret (.and (.cons (.isi (.var 3) "int") (.cons (.cmp .gt (.var 3) (.cst (.int 0))) .nil)))) <|
  .nil
def d17 : FDef := ⟨5, 1, b17⟩
end G
end

section
set_option maxRecDepth 100000
set_option maxHeartbeats 4000000
set_option linter.all false
/-! A thing bent by a step: what may come of it. -/
namespace G
open PySem L2 Py
local macro_rules | `(tactic| walk_at "ev") => `(tactic| simp only [v_evalE_0, v_evalE_1, v_evalE_2, v_evalE_3, v_evalE_4, v_evalE_5, v_evalE_6, v_evalE_7, v_evalE_8, v_evalE_9, v_evalE_10, v_evalE_11, v_evalE_12, v_evalE_13, v_evalE_14, v_evalE_15, v_evalE_16, v_evalE_17, v_evalE_18, v_evalE_19, v_evalE_20, v_evalE_21, v_evalE_22, v_evalT_0, v_evalT_1, v_evalT_2, v_evalT_3, v_evalT_4, v_evalT_5, v_evalAnd_1, v_evalAnd_2, v_evalOr_1, v_evalOr_2, v_evalAndT_1, v_evalAndT_2, v_evalOrT_1, v_evalOrT_2, v_evalRs_0, v_evalRs_1, v_evalPart_0, v_evalPart_1, v_evalIfs_0, v_evalIfs_1, v_evalI_0, v_evalI_1, v_evalI_2, v_evalI_4, v_evalI_5, v_execS_0, v_execS_1, v_execS_2, v_execS_3, v_execS_4, v_execS_5, v_execS_6, v_execS_7, v_execS_8, v_execS_9, v_execS_10, v_execS_11, v_execS_12, v_execS_13, v_execS_14, v_execS_15, v_execS_16, v_execSs_0, v_execSs_1, env0, List.map_cons, List.map_nil, List.cons_append, List.nil_append, List.length_cons, List.length_nil, List.replicate, Nat.reduceSub, Nat.reduceAdd, List.getElem?_cons_zero, List.getElem?_cons_succ, List.set_cons_zero, List.set_cons_succ, Out.bind_ok, Out.of_some, Option.map_some, sb_ok, seq_nx, seq_rt, endB_rt, endB_nx, vw_bl, vw_non, vw_str, vw_tup, vw_lst, vw_own, vw_bor, cell_lst, toD_own, toD_val, i_vw, slot_val, slot_own, truth_bl, truth_sq, if_true, if_false, Bool.false_eq_true, Bool.not_true, Bool.not_false, reduceIte, toDs, Res.toD, o_len, o_list, o_tuple, o_rev, o_slT, o_add, o_sub, c_gt, c_ge, c_lt, ix0, ix1, ix2, c_lei, c_eqi, c_nei, c_eqs, c_nes, Nat.zero_le, sizeLine_eq, Nat.reduceLeDiff, Int.reduceNeg, isi_non_int, isi_non_bool, isi_non_str, isi_non_tuple, isi_non_list, isi_bl_int, isi_bl_bool, isi_bl_str, isi_bl_tuple, isi_bl_list, isi_int_int, isi_int_bool, isi_int_str, isi_int_tuple, isi_int_list, isi_str_int, isi_str_bool, isi_str_str, isi_str_tuple, isi_str_list, isi_tup_int, isi_tup_bool, isi_tup_str, isi_tup_tuple, isi_tup_list, isi_lst_int, isi_lst_bool, isi_lst_str, isi_lst_tuple, isi_lst_list])

theorem ix_mem {t : Bool} {xs : List D} {i : Int} (h0 : 0 ≤ i) (h1 : i < xs.length) : ∃ x ∈ xs, opIx (.sq t xs) (.at (.int i)) = some x := by
  have hi : i.toNat < xs.length := by omega
  refine ⟨xs[i.toNat], List.getElem_mem hi, ?_⟩
  show atI xs i = _
  unfold atI ixN
  rw [if_pos h0, if_pos (by simpa using h1)]
  exact List.getElem?_eq_getElem hi
theorem ix_get {t : Bool} {xs : List D} {i : Int} (h0 : 0 ≤ i) (h1 : i < xs.length) : ∃ (h : i.toNat < xs.length), opIx (.sq t xs) (.at (.int i)) = some xs[i.toNat] := by
  have hi : i.toNat < xs.length := by omega
  refine ⟨hi, ?_⟩
  show atI xs i = _
  unfold atI ixN
  rw [if_pos h0, if_pos (by simpa using h1)]
  exact List.getElem?_eq_getElem hi
theorem cut_to {xs : List D} {i : Int} (h : 0 ≤ i) : cutD xs none (some i) = xs.take i.toNat := by
  obtain ⟨n, rfl⟩ := Int.eq_ofNat_of_zero_le h
  unfold cutD
  rw [HT.sIx_none, show HT.sIx xs.length xs.length (some (n : Int)) = min n xs.length from HT.sIx_nat _ _ n]
  simp only [List.drop_zero, Nat.sub_zero, Int.toNat_natCast]
  rw [List.take_eq_take_iff]
  omega
theorem cut_from {xs : List D} {i : Int} (h : 0 ≤ i) : cutD xs (some i) none = xs.drop i.toNat := by
  obtain ⟨n, rfl⟩ := Int.eq_ofNat_of_zero_le h
  unfold cutD
  rw [HT.sIx_none, show HT.sIx xs.length 0 (some (n : Int)) = min n xs.length from HT.sIx_nat _ _ n]
  simp only [Int.toNat_natCast]
  by_cases hn : n ≤ xs.length
  · rw [Nat.min_eq_left hn]
    exact List.take_of_length_le (by simp)
  · rw [Nat.min_eq_right (by omega)]
    simp
    omega
theorem wzs_app : ∀ xs ys : List D, D.wzs (xs ++ ys) = D.wzs xs + D.wzs ys
  | [], ys => by simp [D.wzs]
  | x :: xs, ys => by
    show x.wz + 2 + D.wzs (xs ++ ys) = x.wz + 2 + D.wzs xs + D.wzs ys
    rw [wzs_app xs ys]
    omega
theorem deps_app : ∀ xs ys : List D, D.deps (xs ++ ys) = max (D.deps xs) (D.deps ys)
  | [], ys => by show D.deps ys = max 0 _; omega
  | x :: xs, ys => by
    show max x.dep (D.deps (xs ++ ys)) = max (max x.dep (D.deps xs)) (D.deps ys)
    rw [deps_app xs ys]
    omega
theorem mls_app : ∀ xs ys : List D, D.mls (xs ++ ys) = max (D.mls xs) (D.mls ys)
  | [], ys => by show D.mls ys = max 0 _; omega
  | x :: xs, ys => by
    show max x.ml (D.mls (xs ++ ys)) = max (max x.ml (D.mls xs)) (D.mls ys)
    rw [mls_app xs ys]
    omega
theorem pns_app {k : Nat} : ∀ xs ys : List D, D.pns k (xs ++ ys) = (D.pns k xs && D.pns k ys)
  | [], ys => by simp [D.pns]
  | x :: xs, ys => by
    show (x.pn k && D.pns k (xs ++ ys)) = (x.pn k && D.pns k xs && D.pns k ys)
    rw [pns_app xs ys, Bool.and_assoc]
/-- parts of what is within bounds -/
theorem part_le {k : Nat} {xs ys : List D} (h : ∀ x ∈ ys, x ∈ xs) (hp : D.pns k xs = true) : D.pns k ys = true ∧ D.deps ys ≤ D.deps xs ∧ D.mls ys ≤ D.mls xs := by
  have pm : ∀ {l : List D}, D.pns k l = true → ∀ x ∈ l, x.pn k = true := by
    intro l
    induction l with
    | nil => intro _ x hx; cases hx
    | cons y l ih =>
      intro h x hx
      simp only [D.pns, Bool.and_eq_true] at h
      rcases List.mem_cons.mp hx with rfl | hx
      · exact h.1
      · exact ih h.2 x hx
  have dm : ∀ {l : List D}, ∀ x ∈ l, x.dep ≤ D.deps l := by
    intro l
    induction l with
    | nil => intro x hx; cases hx
    | cons y l ih =>
      intro x hx
      show _ ≤ max y.dep (D.deps l)
      rcases List.mem_cons.mp hx with rfl | hx
      · omega
      · have := ih x hx; omega
  have lm : ∀ {l : List D}, ∀ x ∈ l, x.ml ≤ D.mls l := by
    intro l
    induction l with
    | nil => intro x hx; cases hx
    | cons y l ih =>
      intro x hx
      show _ ≤ max y.ml (D.mls l)
      rcases List.mem_cons.mp hx with rfl | hx
      · omega
      · have := ih x hx; omega
  induction ys with
  | nil => exact ⟨rfl, Nat.zero_le _, Nat.zero_le _⟩
  | cons y ys ih =>
    obtain ⟨a, b, c⟩ := ih fun x hx => h x (List.mem_cons_of_mem _ hx)
    refine ⟨by simp [D.pns, pm hp y (h y List.mem_cons_self), a], ?_, ?_⟩
    · show max y.dep (D.deps ys) ≤ _
      have := dm y (h y List.mem_cons_self)
      omega
    · show max y.ml (D.mls ys) ≤ _
      have := lm y (h y List.mem_cons_self)
      omega
theorem wzs_take (xs : List D) (n : Nat) : D.wzs (xs.take n) + D.wzs (xs.drop n) = D.wzs xs := by
  rw [← wzs_app, List.take_append_drop]
theorem wzs_rev : ∀ xs : List D, D.wzs xs.reverse = D.wzs xs
  | [] => rfl
  | x :: xs => by
    rw [List.reverse_cons, wzs_app, wzs_rev xs]
    show D.wzs xs + (x.wz + 2 + 0) = x.wz + 2 + D.wzs xs
    omega
/-- the drawn number -/
theorem drawn {P : Nat → Option FDef} {dr k : Nat} {m : Int} {st : Store} (hP : P dr = some ⟨6, 2, drawB⟩) (hi : FeedI [] st) (h0 : 0 < m) (h1 : m < 1073741824) : ∃ i st', run P (k + 1) dr [.ptr 0, .int m] st = .ok (.val (.int i)) st' ∧ 0 ≤ i ∧ i < m ∧ FeedI [] st' := by
  have h := draw_ok hP k m st hi h0 h1
  cases e : run P (k + 1) dr [.ptr 0, .int m] st with
  | ok a s =>
    rw [e] at h
    obtain ⟨⟨i, rfl, a1, a2⟩, a3⟩ := h
    exact ⟨i, s, rfl, a1, a2, a3⟩
  | exc c fs s => rw [e] at h; exact h.elim
  | bad => rw [e] at h; exact h.elim

theorem wn_tup {W n k L : Nat} {xs : List D} (h : Wn ⟨W, n, k, L⟩ (.tup xs)) : D.pns k xs = true ∧ D.wzs xs + 3 ≤ W ∧ D.deps xs + 1 ≤ n ∧ xs.length ≤ L ∧ D.mls xs ≤ L := by
  have h4 := h.ml
  dsimp only [D.ml] at h4
  exact ⟨h.pn, h.wz, h.dep, by omega, by omega⟩
theorem wzs_len : ∀ xs : List D, 2 * xs.length ≤ D.wzs xs
  | [] => Nat.le_refl _
  | x :: xs => by
    have := wzs_len xs
    show 2 * (xs.length + 1) ≤ x.wz + 2 + D.wzs xs
    omega
theorem o_p1060 : opBin .pow (.at (.int 10)) (.at (.int 60)) = some (.val (.int (10 ^ 60))) := by
  show (if (0 : Int) ≤ 60 ∧ (60 : Int) ≤ 1000000 ∧ (10 : Int).natAbs < 2 ^ 64 then some (Res.val (.int (10 ^ (60 : Int).toNat))) else none) = _
  rw [if_pos ⟨by decide, by decide, by decide⟩]
  rfl
/-- a drawn place -/
theorem pick9 {xs : List D} {i : Int} (h0 : 0 ≤ i) (h1 : i < 9) (hl : xs.length = 9) {Q : D → Prop} (h : ∀ x ∈ xs, Q x) {t : Bool} : ∃ x, opIx (.sq t xs) (.at (.int i)) = some x ∧ Q x := by
  obtain ⟨x, hx, e⟩ := ix_mem (t := t) (xs := xs) h0 (by omega)
  exact ⟨x, e, h x hx⟩
theorem str_int {i : Int} {K : Nat} (h : i.natAbs < 10 ^ K) (hK : K ≤ 400) : opBI .str [.at (.int i)] = some (.val (.str (toString i))) := if_pos (log_of h (by omega))
theorem digits_le {i : Int} {K : Nat} (h : i.natAbs < 10 ^ K) (h0 : 0 < K) : (Str.ofString (toString i)).length ≤ K + 1 := by
  rw [ofString_length]
  exact int_text_length_le10 h0 h
section
variable {P : Nat → Option FDef} {k : Nat} {st : Store}
def bendB : Sms := dropS 1 b15
abbrev en15 (d : D) : Py.Env := [some (.val (.ptr 0)), some (.val d), none, none, none]
theorem wnB {w n k l : Nat} {d : D} (a : d.pn k = true) (b : d.wz ≤ w) (c : d.dep ≤ n) (e : d.ml ≤ l) : Wn ⟨w, n, k, l⟩ d := ⟨a, b, c, e⟩
theorem mode_tup (h10 : P 10 = some ⟨6, 2, drawB⟩) (hi : FeedI [] st) {xs : List D} {W n K L : Nat} (hW : W ≤ 4000000) (hd : Wn ⟨W, n, K, L⟩ (.tup xs)) :
    ∃ d' st', execSs (run P (k + 1)) bendB (en15 (.tup xs)) st = .rt (.val d') st' ∧ Wn ⟨2 * (D.tup xs).wz + K + 70, n + 1, max (K + 1) 61, 2 * L + 1⟩ d' ∧ FeedI [] st' := by
  obtain ⟨h1, h2, h3, h4, h5⟩ := wn_tup hd
  have hl := wzs_len xs
  obtain ⟨m, s1, e1, m0, m1, f1⟩ := drawn (k := k) h10 hi (m := 9) (by decide) (by decide)
  have hk : D.pns (max (K + 1) 61) xs = true := D.pns_mono (by omega) h1
  simp only [bendB, b15, dropS, en15]
  walk_at "ev"
  simp only [e1]
  walk_at "ev"
  simp only [o_addT (xs := xs) (ys := xs) (by omega), o_addT (xs := xs) (ys := [D.non]) (by simp; omega)]
  walk_at "ev"
  simp only [o_addT (xs := xs) (ys := [D.non]) (by simp; omega)]
  walk_at "ev"
  rw [o_addL (by simp)]
  walk_at "ev"
  have bd : ∀ (ys : List D) (c : Nat), D.pns (max (K + 1) 61) ys = true → D.wzs ys ≤ 2 * D.wzs xs + c → c ≤ 60 → D.deps ys ≤ D.deps xs → D.mls ys ≤ L → ys.length ≤ 2 * L + 1 → Wn ⟨2 * (D.tup xs).wz + K + 70, n + 1, max (K + 1) 61, 2 * L + 1⟩ (.tup ys) := fun ys c a b b1 c1 c2 c3 =>
    wnB a (by show D.wzs ys + 3 ≤ 2 * (D.wzs xs + 3) + K + 70; omega) (by show D.deps ys + 1 ≤ n + 1; omega) (by show max ys.length (D.mls ys) ≤ _; omega)
  have bc : ∀ lo hi, Wn ⟨2 * (D.tup xs).wz + K + 70, n + 1, max (K + 1) 61, 2 * L + 1⟩ (.tup (cutD xs lo hi)) := fun lo hi => by
    obtain ⟨a, b, c⟩ := part_le (xs := xs) (ys := cutD xs lo hi) (fun x hx => by unfold cutD at hx; exact List.mem_of_mem_drop (List.mem_of_mem_take hx)) hk
    refine bd _ 0 a ?_ (by omega) (by omega) (by omega) ?_
    · have w1 := wzs_take (xs.drop (HT.sIx xs.length 0 lo)) (HT.sIx xs.length xs.length hi - HT.sIx xs.length 0 lo)
      have w2 := wzs_take xs (HT.sIx xs.length 0 lo)
      unfold cutD
      omega
    · unfold cutD
      rw [List.length_take, List.length_drop]
      omega
  have al : ∀ x ∈ ([D.lst xs, D.tup xs.reverse, D.tup [D.tup xs], D.tup (xs ++ xs), D.tup [], D.non, D.tup (cutD xs (some 1) none), D.tup (cutD xs none (some (-1)))] ++ [D.tup (xs ++ [D.non])]), Wn ⟨2 * (D.tup xs).wz + K + 70, n + 1, max (K + 1) 61, 2 * L + 1⟩ x := by
    intro x hx
    obtain ⟨r1, r2, r3⟩ := part_le (xs := xs) (ys := xs.reverse) (fun x hx => by simpa using hx) hk
    simp only [List.cons_append, List.nil_append, List.mem_cons, List.not_mem_nil, or_false] at hx
    rcases hx with rfl | rfl | rfl | rfl | rfl | rfl | rfl | rfl | rfl
    · exact wnB hk (by show D.wzs xs + 3 ≤ 2 * (D.wzs xs + 3) + K + 70; omega) (by show D.deps xs + 1 ≤ n + 1; omega) (by show max xs.length (D.mls xs) ≤ _; omega)
    · exact bd _ 0 r1 (by rw [wzs_rev]; omega) (by omega) r2 (by omega) (by rw [List.length_reverse]; omega)
    · refine wnB (by simp [D.pn, D.pns, hk]) ?_ ?_ ?_
      · show D.wzs xs + 3 + 2 + 0 + 3 ≤ 2 * (D.wzs xs + 3) + K + 70; omega
      · show max (D.deps xs + 1) 0 + 1 ≤ n + 1; omega
      · show max 1 (max (max xs.length (D.mls xs)) 0) ≤ 2 * L + 1; omega
    · exact bd _ 0 (by rw [pns_app, hk]; rfl) (by rw [wzs_app]; omega) (by omega) (by rw [deps_app]; omega) (by rw [mls_app]; omega) (by rw [List.length_append]; omega)
    · exact bd [] 0 rfl (Nat.zero_le _) (by omega) (Nat.zero_le _) (Nat.zero_le _) (Nat.zero_le _)
    · exact wnB rfl (by show 4 ≤ _; omega) (Nat.zero_le _) (Nat.zero_le _)
    · exact bc _ _
    · exact bc _ _
    · exact bd _ 6 (by rw [pns_app, hk]; rfl) (by rw [wzs_app]; show _ + (4 + 2 + 0) ≤ _; omega) (by omega) (by rw [deps_app]; show max _ (max 0 0) ≤ _; omega) (by rw [mls_app]; show max _ (max 0 0) ≤ _; omega) (by rw [List.length_append]; show _ + 1 ≤ _; omega)
  obtain ⟨x, ex, hx⟩ := pick9 (t := false) m0 m1 (by simp) al
  simp only [List.cons_append, List.nil_append] at ex
  simp only [ex]
  walk_at "ev"
  exact ⟨x, s1, rfl, hx, f1⟩

theorem mode_int (h10 : P 10 = some ⟨6, 2, drawB⟩) (hi : FeedI [] st) {i : Int} {n K L : Nat} (hK : K ≤ 400) (hd : i.natAbs < 10 ^ K) :
    ∃ d' st', execSs (run P (k + 1)) bendB (en15 (.int i)) st = .rt (.val d') st' ∧ Wn ⟨2 * (D.int i).wz + K + 70, n + 1, max (K + 1) 61, 2 * L + 1⟩ d' ∧ FeedI [] st' := by
  obtain ⟨m, s1, e1, m0, m1, f1⟩ := drawn (k := k) h10 hi (m := 9) (by decide) (by decide)
  have hp : (10 : Int) ^ 60 = 1000000000000000000000000000000000000000000000000000000000000 := by decide +kernel
  simp only [bendB, b15, dropS, en15]
  walk_at "ev"
  simp only [e1]
  walk_at "ev"
  rw [str_int hd hK]
  walk_at "ev"
  rw [show opBin .pow (.at (.int 10)) (.at (.int 60)) = some (.val (.int (10 ^ 60))) from o_p1060]
  walk_at "ev"
  have k1 : 10 ^ K < 10 ^ (K + 1) := Nat.pow_lt_pow_right (by decide) (by omega)
  have k2 : 10 ^ (K + 1) ≤ 10 ^ (max (K + 1) 61) := Nat.pow_le_pow_right (by decide) (by omega)
  have k3 : 10 ^ 61 ≤ 10 ^ (max (K + 1) 61) := Nat.pow_le_pow_right (by decide) (by omega)
  have k0 : 0 < 10 ^ K := Nat.pos_of_ne_zero (by intro z; rw [z] at hd; omega)
  have k5 : 10 ^ (K + 1) = 10 * 10 ^ K := by rw [Nat.pow_succ, Nat.mul_comm]
  have up : ∀ j : Int, (j = i + 1 ∨ j = i - 1) → (D.int j).wz ≤ K + 2 := fun j hj => digits_le (K := K + 1) (by omega) (by omega)
  have al : ∀ x ∈ [D.int (i + 1), D.int (i - 1), D.bl (i == 1), D.str (toString i), D.non, D.tup [D.int i], D.int 0, D.int (-1), D.int (10 ^ 60)], Wn ⟨2 * (D.int i).wz + K + 70, n + 1, max (K + 1) 61, 2 * L + 1⟩ x := by
    intro x hx
    simp only [List.mem_cons, List.not_mem_nil, or_false] at hx
    rcases hx with rfl | rfl | rfl | rfl | rfl | rfl | rfl | rfl | rfl
    · exact wnB (by simp only [D.pn, decide_eq_true_eq]; omega) (by have := up (i + 1) (.inl rfl); show _ ≤ _ + K + 70; omega) (Nat.zero_le _) (Nat.zero_le _)
    · exact wnB (by simp only [D.pn, decide_eq_true_eq]; omega) (by have := up (i - 1) (.inr rfl); show _ ≤ _ + K + 70; omega) (Nat.zero_le _) (Nat.zero_le _)
    · exact wnB (rfl) (by show 5 ≤ _; omega) (Nat.zero_le _) (Nat.zero_le _)
    · exact wnB (prS_num i) (by show 2 * (D.int i).wz + 2 ≤ _; omega) (Nat.zero_le _) (Nat.zero_le _)
    · exact wnB (rfl) (by show 4 ≤ _; omega) (Nat.zero_le _) (Nat.zero_le _)
    · exact wnB (by simp [D.pn, D.pns]; omega) (by show (D.int i).wz + 2 + 0 + 3 ≤ _; omega) (by show max 0 0 + 1 ≤ n + 1; omega) (by show max 1 (max 0 0) ≤ _; omega)
    · exact wnB (by simp only [D.pn, decide_eq_true_eq]; show 0 < _; omega) (by show 1 ≤ _; omega) (Nat.zero_le _) (Nat.zero_le _)
    · exact wnB (by simp only [D.pn, decide_eq_true_eq]; show 1 < _; omega) (by show 2 ≤ _; omega) (Nat.zero_le _) (Nat.zero_le _)
    · refine wnB ?_ ?_ (Nat.zero_le _) (Nat.zero_le _)
      · simp only [D.pn, decide_eq_true_eq]
        refine Nat.lt_of_lt_of_le ?_ k3
        decide +kernel
      · have : (D.int (10 ^ 60)).wz = 61 := by decide +kernel
        rw [this]
        show 61 ≤ _
        omega
  obtain ⟨x, ex, hx⟩ := pick9 (t := false) m0 m1 (by simp) al
  simp only [ex]
  walk_at "ev"
  exact ⟨x, s1, rfl, hx, f1⟩
theorem mode_bl (h10 : P 10 = some ⟨6, 2, drawB⟩) (hi : FeedI [] st) {b : Bool} {n K L : Nat} :
    ∃ d' st', execSs (run P (k + 1)) bendB (en15 (.bl b)) st = .rt (.val d') st' ∧ Wn ⟨2 * (D.bl b).wz + K + 70, n + 1, max (K + 1) 61, 2 * L + 1⟩ d' ∧ FeedI [] st' := by
  obtain ⟨m, s1, e1, m0, m1, f1⟩ := drawn (k := k) h10 hi (m := 9) (by decide) (by decide)
  simp only [bendB, b15, dropS, en15]
  walk_at "ev"
  simp only [e1]
  walk_at "ev"
  obtain ⟨q, hq⟩ : ∃ q, opCmp .eq (.at (.bl b)) (.at (.int 1)) = some q := ⟨_, rfl⟩
  rw [show opBin .add (.at (.bl b)) (.at (.int 1)) = some (.val (.int (b2i b + 1))) from rfl, show opBin .sub (.at (.bl b)) (.at (.int 1)) = some (.val (.int (b2i b - 1))) from rfl, hq,
    show opBI .str [.at (.bl b)] = some (.val (.str (if b then "True" else "False"))) from rfl, show opBin .pow (.at (.int 10)) (.at (.int 60)) = some (.val (.int (10 ^ 60))) from o_p1060]
  walk_at "ev"
  have k3 : 10 ^ 61 ≤ 10 ^ (max (K + 1) 61) := Nat.pow_le_pow_right (by decide) (by omega)
  have k4 : (2 : Nat) < 10 ^ 61 := by decide +kernel
  have al : ∀ x ∈ [D.int (b2i b + 1), D.int (b2i b - 1), D.bl q, D.str (if b then "True" else "False"), D.non, D.tup [D.bl b], D.int 0, D.int (-1), D.int (10 ^ 60)], Wn ⟨2 * (D.bl b).wz + K + 70, n + 1, max (K + 1) 61, 2 * L + 1⟩ x := by
    intro x hx
    simp only [List.mem_cons, List.not_mem_nil, or_false] at hx
    rcases hx with rfl | rfl | rfl | rfl | rfl | rfl | rfl | rfl | rfl
    · refine wnB (by simp only [D.pn, decide_eq_true_eq]; cases b <;> simp [b2i] <;> omega) ?_ (Nat.zero_le _) (Nat.zero_le _)
      cases b <;> exact Nat.le_trans (by decide +kernel : _ ≤ 72) (by show 72 ≤ 10 + K + 70; omega)
    · refine wnB (by simp only [D.pn, decide_eq_true_eq]; cases b <;> simp [b2i] <;> omega) ?_ (Nat.zero_le _) (Nat.zero_le _)
      cases b <;> exact Nat.le_trans (by decide +kernel : _ ≤ 72) (by show 72 ≤ 10 + K + 70; omega)
    · exact wnB (rfl) (by show 5 ≤ _; omega) (Nat.zero_le _) (Nat.zero_le _)
    · refine wnB (by cases b; exact (by decide +kernel : prS "False" = true); exact (by decide +kernel : prS "True" = true)) ?_ (Nat.zero_le _) (Nat.zero_le _)
      cases b <;> exact Nat.le_trans (by decide +kernel : _ ≤ 72) (by show 72 ≤ 10 + K + 70; omega)
    · exact wnB (rfl) (by show 4 ≤ _; omega) (Nat.zero_le _) (Nat.zero_le _)
    · exact wnB rfl (by show 10 ≤ 10 + K + 70; omega) (by show 1 ≤ n + 1; omega) (by show 1 ≤ 2 * L + 1; omega)
    · exact wnB (by simp only [D.pn, decide_eq_true_eq]; show 0 < _; omega) (by show 1 ≤ _; omega) (Nat.zero_le _) (Nat.zero_le _)
    · exact wnB (by simp only [D.pn, decide_eq_true_eq]; show 1 < _; omega) (by show 2 ≤ _; omega) (Nat.zero_le _) (Nat.zero_le _)
    · refine wnB ?_ ?_ (Nat.zero_le _) (Nat.zero_le _)
      · simp only [D.pn, decide_eq_true_eq]
        refine Nat.lt_of_lt_of_le ?_ k3
        decide +kernel
      · have : (D.int (10 ^ 60)).wz = 61 := by decide +kernel
        rw [this]
        show 61 ≤ 10 + K + 70
        omega
  obtain ⟨x, ex, hx⟩ := pick9 (t := false) m0 m1 (by simp) al
  simp only [ex]
  walk_at "ev"
  exact ⟨x, s1, rfl, hx, f1⟩
theorem mode_else (h10 : P 10 = some ⟨6, 2, drawB⟩) (hi : FeedI [] st) {d : D} {n K L : Nat} (h1 : ∀ s, opIsi (d.vw s) "tuple" = some false) (h2 : ∀ s, opIsi (d.vw s) "int" = some false) :
    ∃ d' st', execSs (run P (k + 1)) bendB (en15 d) st = .rt (.val d') st' ∧ Wn ⟨2 * d.wz + K + 70, n + 1, max (K + 1) 61, 2 * L + 1⟩ d' ∧ FeedI [] st' := by
  obtain ⟨m, s1, e1, m0, m1, f1⟩ := drawn (k := k) h10 hi (m := 9) (by decide) (by decide)
  simp only [bendB, b15, dropS, en15]
  walk_at "ev"
  simp only [e1]
  walk_at "ev"
  have hv : ∀ s, (Res.val d).vw s = d.vw s := fun _ => rfl
  simp only [hv, h1]
  walk_at "ev"
  simp only [hv, h2]
  walk_at "ev"
  have k3 : 10 ^ 61 ≤ 10 ^ (max (K + 1) 61) := Nat.pow_le_pow_right (by decide) (by omega)
  have k4 : (2 : Nat) < 10 ^ 61 := by decide +kernel
  have al : ∀ x ∈ [D.non, D.bl true, D.int 0, D.int 1, D.str "", D.tup [], D.lst [], D.int (-1), D.str "a"], Wn ⟨2 * d.wz + K + 70, n + 1, max (K + 1) 61, 2 * L + 1⟩ x := by
    intro x hx
    have big : ∀ c, c ≤ 62 → c ≤ 2 * d.wz + K + 70 := fun c h => by omega
    simp only [List.mem_cons, List.not_mem_nil, or_false] at hx
    rcases hx with rfl | rfl | rfl | rfl | rfl | rfl | rfl | rfl | rfl
    · exact wnB (rfl) (big 4 (by omega)) (Nat.zero_le _) (Nat.zero_le _)
    · exact wnB (rfl) (big 5 (by omega)) (Nat.zero_le _) (Nat.zero_le _)
    · exact wnB (by simp only [D.pn, decide_eq_true_eq]; show 0 < _; omega) (big 1 (by omega)) (Nat.zero_le _) (Nat.zero_le _)
    · exact wnB (by simp only [D.pn, decide_eq_true_eq]; show 1 < _; omega) (big 1 (by omega)) (Nat.zero_le _) (Nat.zero_le _)
    · exact wnB ((by decide +kernel : prS "" = true)) (big 2 (by omega)) (Nat.zero_le _) (Nat.zero_le _)
    · exact wnB rfl (big 3 (by omega)) (by show 1 ≤ n + 1; omega) (Nat.zero_le _)
    · exact wnB rfl (big 3 (by omega)) (by show 1 ≤ n + 1; omega) (Nat.zero_le _)
    · exact wnB (by simp only [D.pn, decide_eq_true_eq]; show 1 < _; omega) (big 2 (by omega)) (Nat.zero_le _) (Nat.zero_le _)
    · exact wnB ((by decide +kernel : prS "a" = true)) (big 4 (by omega)) (Nat.zero_le _) (Nat.zero_le _)
  obtain ⟨x, ex, hx⟩ := pick9 (t := false) m0 m1 (by simp) al
  simp only [ex]
  walk_at "ev"
  exact ⟨x, s1, rfl, hx, f1⟩

theorem head_no {d : D} (h : ∀ s, opIsi (d.vw s) "tuple" = some false) : execSs (run P (k + 1)) b15 (en15 d) st = execSs (run P (k + 1)) bendB (en15 d) st := by
  have hv : ∀ s, (Res.val d).vw s = d.vw s := fun _ => rfl
  conv => lhs; unfold b15
  rw [ss_cons]
  have : execS (run P (k + 1)) (.ife (.and (.cons (.val (.isi (.var 1) "tuple")) (.cons (.cmp .ne (.var 1) (.tup .nil)) (.cons (.cmp .gt (.call 10 (.cons (.var 0) (.cons (.cst (.int 5)) .nil))) (.cst (.int 0))) .nil)))) (.cons (.vl 2 (.call 10 (.cons (.var 0) (.cons (.bi .len (.cons (.var 1) .nil)) .nil)))) (.cons (.ret (.bin .add (.bin .add (.sl (.var 1) .nil (.cons (.var 2) .nil)) (.tup (.cons (.call 15 (.cons (.var 0) (.cons (.ix (.var 1) (.var 2)) .nil))) .nil))) (.sl (.var 1) (.cons (.bin .add (.var 2) (.cst (.int 1))) .nil) .nil))) .nil)) .nil) (en15 d) st = .nx (en15 d) st := by
    simp only [en15]
    walk_at "ev"
    simp only [hv, h]
    walk_at "ev"
  rw [this, seq_nx]
  rfl
theorem head_nil : execSs (run P (k + 1)) b15 (en15 (.tup [])) st = execSs (run P (k + 1)) bendB (en15 (.tup [])) st := by
  conv => lhs; unfold b15
  rw [ss_cons]
  have : execS (run P (k + 1)) (.ife (.and (.cons (.val (.isi (.var 1) "tuple")) (.cons (.cmp .ne (.var 1) (.tup .nil)) (.cons (.cmp .gt (.call 10 (.cons (.var 0) (.cons (.cst (.int 5)) .nil))) (.cst (.int 0))) .nil)))) (.cons (.vl 2 (.call 10 (.cons (.var 0) (.cons (.bi .len (.cons (.var 1) .nil)) .nil)))) (.cons (.ret (.bin .add (.bin .add (.sl (.var 1) .nil (.cons (.var 2) .nil)) (.tup (.cons (.call 15 (.cons (.var 0) (.cons (.ix (.var 1) (.var 2)) .nil))) .nil))) (.sl (.var 1) (.cons (.bin .add (.var 2) (.cst (.int 1))) .nil) .nil))) .nil)) .nil) (en15 (.tup [])) st = .nx (en15 (.tup [])) st := by
    simp only [en15]
    walk_at "ev"
    simp only [ne_nil (t := true) (xs := []) (ps := []) rfl, List.isEmpty_nil]
    walk_at "ev"
  rw [this, seq_nx]
  rfl
theorem bent_run (h15 : P 15 = some d15) (h10 : P 10 = some ⟨6, 2, drawB⟩) {W K L : Nat} (hW : W ≤ 4000000) (hK : K ≤ 400) : ∀ n k, n + 2 ≤ k → ∀ (d : D) st, Wn ⟨W, n, K, L⟩ d → FeedI [] st →
    ∃ d' st', run P k 15 [.ptr 0, d] st = .ok (.val d') st' ∧ Wn ⟨2 * d.wz + K + 70, n + 1, max (K + 1) 61, 2 * L + 1⟩ d' ∧ FeedI [] st' := by
  intro n
  induction n with
  | zero =>
    intro k hk d st hd hi
    obtain ⟨k, rfl⟩ : ∃ m, k = m + 2 := ⟨k - 2, by omega⟩
    rw [run1 h15]
    show ∃ d' st', endB (execSs (run P (k + 1)) b15 (en15 d) st) = _ ∧ _
    have go : (∃ d' st', execSs (run P (k + 1)) bendB (en15 d) st = .rt (.val d') st' ∧ Wn ⟨2 * d.wz + K + 70, 0 + 1, max (K + 1) 61, 2 * L + 1⟩ d' ∧ FeedI [] st') → execSs (run P (k + 1)) b15 (en15 d) st = execSs (run P (k + 1)) bendB (en15 d) st → ∃ d' st', endB (execSs (run P (k + 1)) b15 (en15 d) st) = .ok (.val d') st' ∧ Wn ⟨2 * d.wz + K + 70, 0 + 1, max (K + 1) 61, 2 * L + 1⟩ d' ∧ FeedI [] st' :=
      fun ⟨d', st', e, h⟩ e2 => ⟨d', st', by rw [e2, e]; rfl, h⟩
    cases d with
    | non => exact go (mode_else h10 hi (fun _ => isi_non_tuple) fun _ => isi_non_int) (head_no fun _ => isi_non_tuple)
    | bl b => exact go (mode_bl h10 hi) (head_no fun _ => isi_bl_tuple)
    | int i => exact go (mode_int h10 hi hK (by simpa [D.pn] using hd.pn)) (head_no fun _ => isi_int_tuple)
    | str x => exact go (mode_else h10 hi (fun _ => isi_str_tuple) fun _ => isi_str_int) (head_no fun _ => isi_str_tuple)
    | tup xs => exact absurd hd.dep (by show ¬ (D.deps xs + 1 ≤ 0); omega)
    | lst xs => exact go (mode_else h10 hi (fun _ => isi_lst_tuple) fun _ => isi_lst_int) (head_no fun _ => isi_lst_tuple)
    | obj _ _ => exact absurd hd.pn (by simp [D.pn])
    | ptr _ => exact absurd hd.pn (by simp [D.pn])
    | scr _ => exact absurd hd.pn (by simp [D.pn])
  | succ n ih =>
    intro k hk d st hd hi
    obtain ⟨k, rfl⟩ : ∃ m, k = m + 2 := ⟨k - 2, by omega⟩
    rw [run1 h15]
    show ∃ d' st', endB (execSs (run P (k + 1)) b15 (en15 d) st) = _ ∧ _
    have go : (∃ d' st', execSs (run P (k + 1)) bendB (en15 d) st = .rt (.val d') st' ∧ Wn ⟨2 * d.wz + K + 70, n + 1 + 1, max (K + 1) 61, 2 * L + 1⟩ d' ∧ FeedI [] st') → execSs (run P (k + 1)) b15 (en15 d) st = execSs (run P (k + 1)) bendB (en15 d) st → ∃ d' st', endB (execSs (run P (k + 1)) b15 (en15 d) st) = .ok (.val d') st' ∧ Wn ⟨2 * d.wz + K + 70, n + 1 + 1, max (K + 1) 61, 2 * L + 1⟩ d' ∧ FeedI [] st' :=
      fun ⟨d', st', e, h⟩ e2 => ⟨d', st', by rw [e2, e]; rfl, h⟩
    cases d with
    | non => exact go (mode_else h10 hi (fun _ => isi_non_tuple) fun _ => isi_non_int) (head_no fun _ => isi_non_tuple)
    | bl b => exact go (mode_bl h10 hi) (head_no fun _ => isi_bl_tuple)
    | int i => exact go (mode_int h10 hi hK (by simpa [D.pn] using hd.pn)) (head_no fun _ => isi_int_tuple)
    | str x => exact go (mode_else h10 hi (fun _ => isi_str_tuple) fun _ => isi_str_int) (head_no fun _ => isi_str_tuple)
    | lst xs => exact go (mode_else h10 hi (fun _ => isi_lst_tuple) fun _ => isi_lst_int) (head_no fun _ => isi_lst_tuple)
    | obj _ _ => exact absurd hd.pn (by simp [D.pn])
    | ptr _ => exact absurd hd.pn (by simp [D.pn])
    | scr _ => exact absurd hd.pn (by simp [D.pn])
    | tup xs =>
      cases xs with
      | nil => exact go (mode_tup h10 hi hW hd) head_nil
      | cons y ys =>
        obtain ⟨q1, q2, q3, q4, q5⟩ := wn_tup hd
        have hl := wzs_len (y :: ys)
        obtain ⟨ps, hps, _⟩ := pns_pys q1
        obtain ⟨m, s1, e1, m0, m1, f1⟩ := drawn (k := k) h10 hi (m := 5) (by decide) (by decide)
        by_cases hm : 0 < m
        · obtain ⟨j, s2, e2, j0, j1, f2⟩ := drawn (k := k) h10 f1 (m := ((y :: ys).length : Int)) (by rw [List.length_cons]; omega) (by omega)
          obtain ⟨hj, ej⟩ := ix_get (t := true) (xs := y :: ys) j0 j1
          have hw : Wn ⟨W, n, K, L⟩ (y :: ys)[j.toNat] := by
            have h1 := part_le (xs := y :: ys) (ys := [(y :: ys)[j.toNat]]) (fun x hx => by rw [List.mem_singleton.mp hx]; exact List.getElem_mem hj) q1
            have h2 := wzs_take (y :: ys) j.toNat
            rw [List.drop_eq_getElem_cons hj] at h2
            have h3 : D.wzs ((y :: ys)[j.toNat] :: (y :: ys).drop (j.toNat + 1)) = (y :: ys)[j.toNat].wz + 2 + D.wzs ((y :: ys).drop (j.toNat + 1)) := rfl
            have h4 : max (y :: ys)[j.toNat].dep 0 ≤ D.deps (y :: ys) := h1.2.1
            have h5 : max (y :: ys)[j.toNat].ml 0 ≤ D.mls (y :: ys) := h1.2.2
            exact wnB (by simpa [D.pns] using h1.1) (by omega) (by omega) (by omega)
          obtain ⟨e', s3, e3, w3, f3⟩ := ih (k + 1) (by omega) (y :: ys)[j.toNat] s2 hw f2
          refine ⟨.tup ((y :: ys).take j.toNat ++ [e'] ++ (y :: ys).drop (j.toNat + 1)), s3, ?_, ?_, f3⟩
          · unfold b15
            simp only [en15]
            have le1 : ((y :: ys).take j.toNat).length ≤ (y :: ys).length := by simp; omega
            have le2 : ((y :: ys).drop (j.toNat + 1)).length ≤ (y :: ys).length := by rw [List.length_drop]; omega
            walk_at "ev"
            simp only [ne_nil (t := true) hps, List.isEmpty_cons]
            walk_at "ev"
            simp only [e1]
            walk_at "ev"
            rw [decide_eq_true hm]
            walk_at "ev"
            rw [List.length_cons] at e2
            simp only [e2]
            walk_at "ev"
            simp only [ej, cut_to j0]
            walk_at "ev"
            simp only [e3]
            walk_at "ev"
            rw [o_addT (by simp; simp at le1 hl; omega)]
            walk_at "ev"
            rw [cut_from (by omega), show (j + 1).toNat = j.toNat + 1 by omega, o_addT (by simp; simp at le1 le2 hl; omega)]
            walk_at "ev"
          · have h2 := wzs_take (y :: ys) j.toNat
            rw [List.drop_eq_getElem_cons hj] at h2
            have h3 : D.wzs ((y :: ys)[j.toNat] :: (y :: ys).drop (j.toNat + 1)) = (y :: ys)[j.toNat].wz + 2 + D.wzs ((y :: ys).drop (j.toNat + 1)) := rfl
            have a1 := part_le (xs := y :: ys) (ys := (y :: ys).take j.toNat) (fun x hx => List.mem_of_mem_take hx) q1
            have a2 := part_le (xs := y :: ys) (ys := (y :: ys).drop (j.toNat + 1)) (fun x hx => List.mem_of_mem_drop hx) q1
            have b1 : D.wzs [e'] = e'.wz + 2 := rfl
            have b2 := w3.wz
            have b3 := w3.dep
            have b5 := w3.ml
            have b6 : D.mls [e'] = e'.ml := Nat.max_eq_left (Nat.zero_le _)
            have b4 : D.deps [e'] = e'.dep := Nat.max_eq_left (Nat.zero_le _)
            dsimp only at b2 b3 b5
            refine wnB ?_ ?_ ?_ ?_
            · show D.pns _ _ = true
              rw [pns_app, pns_app, D.pns_mono (Nat.le_trans (Nat.le_succ K) (Nat.le_max_left _ _)) a1.1, D.pns_mono (Nat.le_trans (Nat.le_succ K) (Nat.le_max_left _ _)) a2.1]
              have := w3.pn; dsimp only at this; simp [D.pns, this]
            · show D.wzs _ + 3 ≤ 2 * (D.wzs (y :: ys) + 3) + K + 70
              rw [wzs_app, wzs_app, b1]
              omega
            · show D.deps _ + 1 ≤ n + 1 + 1
              rw [deps_app, deps_app, b4]
              omega
            · show max _ (D.mls _) ≤ _
              rw [mls_app, mls_app, b6, List.length_append, List.length_append, List.length_take, List.length_drop]
              simp only [List.length_cons, List.length_nil] at q4 ⊢
              omega
        · obtain ⟨d', st', e5, h5⟩ := mode_tup (k := k) h10 f1 hW hd
          refine ⟨d', st', ?_, h5⟩
          have : execSs (run P (k + 1)) b15 (en15 (.tup (y :: ys))) st = execSs (run P (k + 1)) bendB (en15 (.tup (y :: ys))) s1 := by
            conv => lhs; unfold b15
            simp only [en15]
            walk_at "ev"
            simp only [ne_nil (t := true) hps, List.isEmpty_cons]
            walk_at "ev"
            simp only [e1]
            walk_at "ev"
            rw [decide_eq_false hm]
            walk_at "ev"
            simp only [bendB, b15, dropS]
            walk_at "ev"
          rw [this, e5]
          rfl
end
/-- what comes of a thing bent, as a shape -/
def smBent (k f : Nat) (vs : AVs) : Option AR := if f = 15 then (match vs with
  | .cons (.cons .feed .nil) (.cons v .nil) => (match v.fd with
    | some p => if p.w ≤ 4000000 ∧ p.k ≤ 400 ∧ p.d + 1 ≤ k then some (.val (one (.any (2 * p.w + p.k + 70) (p.d + 1) (max (p.k + 1) 61) (2 * p.l + 1)))) else none
    | none => none)
  | _ => none) else none
theorem smBent_ok {P : Nat → Option FDef} (h15 : P 15 = some d15) (h10 : P 10 = some ⟨6, 2, drawB⟩) : ∀ k j, k ≤ j → CallOk (smBent k) (run P (j + 1)) (FeedI []) := by
  intro k j hk f vs r e ds st g hi
  unfold smBent at e
  split at e
  · rename_i hf
    subst hf
    split at e
    · rename_i v
      split at e
      · rename_i p hp
        split at e
        · rename_i hb
          cases e
          obtain ⟨a, q, rfl, g1, g2⟩ := g
          obtain ⟨d, q2, rfl, g3, g4⟩ := g2
          simp only [AVs.g] at g4
          subst g4
          simp only [AV.g, At.g, or_false] at g1
          subst g1
          have w := AV.fd_ok hp g3
          obtain ⟨w0, d0, k0, l0⟩ := p
          dsimp only at hb
          obtain ⟨d', st', e1, w1, f1⟩ := bent_run h15 h10 (W := w0) (K := k0) (L := l0) hb.1 hb.2.1 d0 (j + 1) (by omega) d st w hi
          rw [e1]
          refine ⟨⟨d', rfl, one_g ?_⟩, f1⟩
          have := w.wz
          dsimp only at this
          exact ⟨w1.pn, Nat.le_trans w1.wz (by show 2 * d.wz + k0 + 70 ≤ 2 * w0 + k0 + 70; omega), w1.dep, w1.ml⟩
        · cases e
      · cases e
    · cases e
  · cases e
end G
end

section
set_option maxRecDepth 1000000
set_option maxHeartbeats 4000000
set_option linter.all false
/-! What the drawing defs of the first laws give. -/
namespace G
open PySem L2 Py
def PA : Nat → Option FDef := fun i => List.lookup i [(10, d10), (11, d11), (12, d12), (13, d13), (14, d14), (15, d15)]
def intV (a b : Int) : AV := one (.int (some a) (some b))
def wordV : AV := one (.str 1 13 true)
def namesV : AV := one (.seq false 1 4 wordV)
def feedV : AV := one .feed
def sNames : Sum := ⟨11, 6, .cons feedV (.cons (intV 1 4) .nil), .own namesV⟩
def manyV : AV := intV 1 1000000000
def sMany : Sum := ⟨12, 4, .cons feedV .nil, .val manyV⟩
def wantV : AV := one (.tupx (.cons wordV (.cons (one (.seq true 0 4 wordV)) (.cons manyV .nil))))
def sWant : Sum := ⟨13, 6, .cons feedV (.cons namesV (.cons namesV .nil)), .val wantV⟩
def sheetV : AV := one (.seq true 0 3 (one (.seq true 0 3 (one (.seq true 0 4 wantV)))))
def sSheet : Sum := ⟨14, 8, .cons feedV (.cons namesV (.cons namesV (.cons (intV 1 4) .nil))), .val sheetV⟩
section
variable {P : Nat → Option FDef} (hs : ∀ f d, PA f = some d → P f = some d)
include hs
theorem names_ok : SumOk P (FeedI []) sNames := sum_mk (dr := 10) (sm := smT []) hs (hs 10 _ rfl) (smT_ok fun s h => by cases h) (by decide +kernel)
theorem many_ok : SumOk P (FeedI []) sMany := sum_mk (dr := 10) (sm := smT []) hs (hs 10 _ rfl) (smT_ok fun s h => by cases h) (by decide +kernel)
theorem want_ok : SumOk P (FeedI []) sWant := sum_mk (dr := 10) (sm := smT [sMany]) hs (hs 10 _ rfl) (smT_ok fun s h => by rw [List.mem_singleton.mp h]; exact many_ok hs) (by decide +kernel)
theorem sheet_ok : SumOk P (FeedI []) sSheet := sum_mk (dr := 10) (sm := smT [sWant]) hs (hs 10 _ rfl) (smT_ok fun s h => by rw [List.mem_singleton.mp h]; exact want_ok hs) (by decide +kernel)
end
end G
end

section
set_option maxRecDepth 1000000
set_option maxHeartbeats 4000000
set_option linter.all false
namespace G
open PySem L2 Py
local macro_rules | `(tactic| walk_at "ev") => `(tactic| simp only [v_evalE_0, v_evalE_1, v_evalE_2, v_evalE_3, v_evalE_4, v_evalE_5, v_evalE_6, v_evalE_7, v_evalE_8, v_evalE_9, v_evalE_10, v_evalE_11, v_evalE_12, v_evalE_13, v_evalE_14, v_evalE_15, v_evalE_16, v_evalE_17, v_evalE_18, v_evalE_19, v_evalE_20, v_evalE_21, v_evalE_22, v_evalT_0, v_evalT_1, v_evalT_2, v_evalT_3, v_evalT_4, v_evalT_5, v_evalAnd_1, v_evalAnd_2, v_evalOr_1, v_evalOr_2, v_evalAndT_1, v_evalAndT_2, v_evalOrT_1, v_evalOrT_2, v_evalRs_0, v_evalRs_1, v_evalPart_0, v_evalPart_1, v_evalIfs_0, v_evalIfs_1, v_evalI_0, v_evalI_1, v_evalI_2, v_evalI_4, v_evalI_5, v_execS_0, v_execS_1, v_execS_2, v_execS_3, v_execS_4, v_execS_5, v_execS_6, v_execS_7, v_execS_8, v_execS_9, v_execS_10, v_execS_11, v_execS_12, v_execS_13, v_execS_14, v_execS_15, v_execS_16, v_execSs_0, v_execSs_1, env0, List.map_cons, List.map_nil, List.cons_append, List.nil_append, List.length_cons, List.length_nil, List.replicate, Nat.reduceSub, Nat.reduceAdd, List.getElem?_cons_zero, List.getElem?_cons_succ, List.set_cons_zero, List.set_cons_succ, Out.bind_ok, Out.of_some, Option.map_some, sb_ok, seq_nx, seq_rt, endB_rt, endB_nx, vw_bl, vw_non, vw_str, vw_tup, vw_lst, vw_own, vw_bor, cell_lst, toD_own, toD_val, i_vw, slot_val, slot_own, truth_bl, truth_sq, if_true, if_false, Bool.false_eq_true, Bool.not_true, Bool.not_false, reduceIte, toDs, Res.toD, o_len, o_list, o_tuple, o_rev, o_slT, o_add, o_sub, c_gt, c_ge, c_lt, ix0, ix1, ix2, c_lei, c_eqi, c_nei, c_eqs, c_nes, Nat.zero_le, sizeLine_eq, Nat.reduceLeDiff, Int.reduceNeg, isi_non_int, isi_non_bool, isi_non_str, isi_non_tuple, isi_non_list, isi_bl_int, isi_bl_bool, isi_bl_str, isi_bl_tuple, isi_bl_list, isi_int_int, isi_int_bool, isi_int_str, isi_int_tuple, isi_int_list, isi_str_int, isi_str_bool, isi_str_str, isi_str_tuple, isi_str_list, isi_tup_int, isi_tup_bool, isi_tup_str, isi_tup_tuple, isi_tup_list, isi_lst_int, isi_lst_bool, isi_lst_str, isi_lst_tuple, isi_lst_list])
/-- a small letter -/
def low (c : Nat) : Bool := decide (97 ≤ c) && decide (c ≤ 122)
theorem letters : ("abcdefghijklmnopqrstuvwxyz" : Str).cps.toList = [97, 98, 99, 100, 101, 102, 103, 104, 105, 106, 107, 108, 109, 110, 111, 112, 113, 114, 115, 116, 117, 118, 119, 120, 121, 122] := by decide +kernel
theorem in_letters (c : Nat) : isInV (.at (.str ⟨#[c]⟩)) (.at (.str ("abcdefghijklmnopqrstuvwxyz" : Str))) = some (low c) := by
  show some (!(Builtin.Str.occurrences _ _ 0 _ 1).isEmpty) = _
  rw [StrLaws.found_one, letters]
  congr 1
  unfold low
  by_cases h : 97 ≤ c ∧ c ≤ 122
  · rw [decide_eq_true h.1, decide_eq_true h.2]
    apply decide_eq_true
    simp only [List.mem_cons, List.not_mem_nil, or_false]
    omega
  · have : (decide (97 ≤ c) && decide (c ≤ 122)) = false := by
      simp only [Bool.and_eq_false_iff, decide_eq_false_iff_not]
      omega
    rw [this]
    apply decide_eq_false
    simp only [List.mem_cons, List.not_mem_nil, or_false]
    omega
def wordS (x : Str) : Bool := decide (1 ≤ x.length) && decide (x.length ≤ 8) && x.cps.toList.all low
def isNum : D → Bool
  | .int _ => true
  | _ => false
def isWord : D → Bool
  | .str x => wordS x
  | _ => false
def isMany : D → Bool
  | .int i => decide (1 ≤ i)
  | _ => false
/-- rising -/
def rising : List D → Bool
  | .str x :: .str y :: l => decide (x.cps.toList < y.cps.toList) && rising (.str y :: l)
  | _ => true
def isShades : D → Bool
  | .tup xs => xs.all isWord && rising xs
  | _ => false
def isWant : D → Bool
  | .tup [a, b, c] => isWord a && isShades b && isMany c
  | _ => false
def isWay : D → Bool
  | .tup xs => xs.all isWant
  | _ => false
def isRow : D → Bool
  | .tup xs => !xs.isEmpty && xs.all isWay
  | _ => false
def isSheet : D → Bool
  | .tup xs => xs.all isRow
  | _ => false
section
variable {P : Nat → Option FDef} {st : Store}
theorem r0 (h0 : P 0 = some d0) {d : D} (h : Okd d) (k : Nat) : run P (k + 1) 0 [d] st = .ok (.val (.bl (isNum d))) st := by
  rw [run1 h0]
  unfold b0
  cases d with
  | obj _ _ => exact h.no_obj.elim
  | ptr _ => exact h.no_ptr.elim
  | scr _ => exact h.no_scr.elim
  | _ => walk_at "ev"; rfl
theorem r1 (h1 : P 1 = some d1) {d : D} (h : Okd d) (k : Nat) : run P (k + 1) 1 [d] st = .ok (.val (.bl (isWord d))) st := by
  rw [run1 h1]
  unfold b1
  cases d with
  | obj _ _ => exact h.no_obj.elim
  | ptr _ => exact h.no_ptr.elim
  | scr _ => exact h.no_scr.elim
  | str x =>
    have hl := h.str
    walk_at "ev"
    simp only [o_lens hl]
    walk_at "ev"
    have c1 : decide ((1 : Int) ≤ (x.length : Int)) = decide (1 ≤ x.length) := decide_eq_decide.mpr (by omega)
    have c2 : decide ((x.length : Int) ≤ 8) = decide (x.length ≤ 8) := decide_eq_decide.mpr (by omega)
    rw [c1, c2]
    have hc : (compL (Tg.name 1).put (fun e s => evalIfs (run P k) .nil e s) (fun e s => evalE (run P k) (.cmp .isIn (.var 1) (.glb ("LETTERS" : Str) (.str ("abcdefghijklmnopqrstuvwxyz" : Str)))) e s) (wipeE [some (.val (.str x)), none] [1]) (x.cps.toList.map fun c => D.str ⟨#[c]⟩) [] st).nox = .ok ((x.cps.toList.map fun c => D.str ⟨#[c]⟩).map fun d => .bl (match d with | .str z => low (z.cps.getD 0 0) | _ => false)) st := by
      refine comp_map _ (by simp only [List.length_map, Array.length_toList]; exact hl) fun y hy => ?_
      obtain ⟨c, hc, rfl⟩ := List.mem_map.mp hy
      refine ⟨_, rfl, rfl, ?_⟩
      show evalE _ _ [some (.val (.str x)), some (.val (.str ⟨#[c]⟩))] st = _
      walk_at "ev"
      rw [show opCmp .isIn (.at (.str ⟨#[c]⟩)) (.at (.str ("abcdefghijklmnopqrstuvwxyz" : Str))) = some (low c) from in_letters c]
      rfl
    cases a1 : decide (1 ≤ x.length) with
    | false =>
      walk_at "ev"
      simp [isWord, wordS, a1]
    | true =>
      dsimp only
      cases a2 : decide (x.length ≤ 8) with
      | false =>
        walk_at "ev"
        simp [isWord, wordS, a2]
      | true =>
        walk_at "ev"
        simp only [hc]
        walk_at "ev"
        rw [List.map_map, show (fun d => D.bl (match d with | .str z => low (z.cps.getD 0 0) | _ => false)) ∘ (fun c => D.str ⟨#[c]⟩) = fun c => D.bl (low c) from rfl, o_all]
        walk_at "ev"
        simp [isWord, wordS, a1, a2]
  | _ => walk_at "ev"; rfl
theorem r2 (h0 : P 0 = some d0) (h2 : P 2 = some d2) {d : D} (h : Okd d) (k : Nat) : run P (k + 2) 2 [d] st = .ok (.val (.bl (isMany d))) st := by
  rw [run1 h2]
  unfold b2
  walk_at "ev"
  rw [r0 h0 h]
  cases d <;> (simp only [isNum]; walk_at "ev"; rfl)
/-- a comprehension that asks each thing -/
theorem each_ok {F : Fsem} {f i : Nat} {en : Py.Env} {xs : List D} {t : D → Bool} (hi : i < en.length) (hl : xs.length ≤ 16777216) (h : ∀ x ∈ xs, F f [x] st = .ok (.val (.bl (t x))) st) :
    (compL (Tg.name i).put (fun e s => evalIfs F .nil e s) (fun e s => evalE F (.call f (.cons (.var i) .nil)) e s) (wipeE en [i]) xs [] st).nox = .ok (xs.map fun x => .bl (t x)) st := by
  refine comp_map _ hl fun y hy => ⟨_, rfl, by simp only [evalIfs], ?_⟩
  have hv : ((wipeE en [i]).set i (some (.val y)))[i]? = some (some (.val y)) := List.getElem?_set_self (by simpa [wipeE] using hi)
  show evalE F (.call f (.cons (.var i) .nil)) ((wipeE en [i]).set i (some (.val y))) st = _
  simp only [evalE, evalRs, hv, Out.bind_ok, toDs, Res.toD]
  exact h y hy
theorem rng0 {n : Nat} (h : n ≤ 16777216) : rngD 0 ((n : Int) - 1) 1 = some ((List.range (n - 1)).map fun i => D.int (i : Nat)) := by
  unfold rngD
  rw [if_pos ⟨by decide, by decide, by omega, by omega, rfl⟩, show ((n : Int) - 1 - 0).toNat = n - 1 by omega]
  simp only [Int.zero_add]
theorem rise_ok : ∀ (xs : List D), (∀ x ∈ xs, isWord x = true) → rising xs = (List.range (xs.length - 1)).all fun i => match xs[i]?, xs[i + 1]? with | some (.str x), some (.str y) => decide (x.cps.toList < y.cps.toList) | _, _ => false
  | [], _ => rfl
  | [x], _ => by cases x <;> rfl
  | x :: y :: l, h => by
    have ih := rise_ok (y :: l) fun z hz => h z (by simp [hz])
    have hx := h x (by simp)
    have hy := h y (by simp)
    cases x <;> simp only [isWord, Bool.false_eq_true] at hx
    cases y <;> simp only [isWord, Bool.false_eq_true] at hy
    rename_i a b
    rw [show (D.str a :: D.str b :: l).length - 1 = (l.length) + 1 by simp, List.range_succ_eq_map, List.all_cons, List.all_map]
    show (decide (a.cps.toList < b.cps.toList) && rising (D.str b :: l)) = _
    rw [ih]
    rfl
theorem r3 (h1 : P 1 = some d1) (h3 : P 3 = some d3) {d : D} (h : Okd d) (k : Nat) : run P (k + 2) 3 [d] st = .ok (.val (.bl (isShades d))) st := by
  rw [run1 h3]
  unfold b3
  cases d with
  | obj _ _ => exact h.no_obj.elim
  | ptr _ => exact h.no_ptr.elim
  | scr _ => exact h.no_scr.elim
  | tup xs =>
    obtain ⟨hx, hl⟩ := h.tup
    walk_at "ev"
    rw [each_ok (t := isWord) (by simp) hl fun x m => r1 h1 (hx x m) k]
    walk_at "ev"
    rw [o_all]
    walk_at "ev"
    cases a : xs.all isWord with
    | false =>
      walk_at "ev"
      simp [isShades, a]
    | true =>
      walk_at "ev"
      rw [show rngD 0 ((xs.length : Int) - 1) 1 = some ((List.range (xs.length - 1)).map fun i => .int (i : Nat)) from rng0 hl]
      walk_at "ev"
      rw [List.all_eq_true] at a
      rw [comp_map (f := fun d => .bl (match d with | .int i => (match xs[i.toNat]?, xs[i.toNat + 1]? with | some (.str x), some (.str y) => decide (x.cps.toList < y.cps.toList) | _, _ => false) | _ => false)) (by simp; omega) fun y hy => ?_]
      · walk_at "ev"
        rw [List.map_map]
        rw [show ((fun d => D.bl (match d with | .int i => (match xs[i.toNat]?, xs[i.toNat + 1]? with | some (.str x), some (.str y) => decide (x.cps.toList < y.cps.toList) | _, _ => false) | _ => false)) ∘ fun i : Nat => D.int (i : Nat)) = fun i : Nat => D.bl (match xs[i]?, xs[i + 1]? with | some (.str x), some (.str y) => decide (x.cps.toList < y.cps.toList) | _, _ => false) from rfl, o_all]
        walk_at "ev"
        rw [← rise_ok xs a]
        simp [isShades, List.all_eq_true.mpr a]
      · obtain ⟨i, hi, rfl⟩ := List.mem_map.mp hy
        rw [List.mem_range] at hi
        refine ⟨_, rfl, rfl, ?_⟩
        show evalE _ _ [some (.val (.tup xs)), none, some (.val (.int i))] st = _
        have i1 : i < xs.length := by omega
        have i2 : i + 1 < xs.length := by omega
        obtain ⟨_, e1⟩ := ix_get (t := true) (xs := xs) (i := (i : Int)) (by omega) (by omega)
        obtain ⟨_, e2⟩ := ix_get (t := true) (xs := xs) (i := (i : Int) + 1) (by omega) (by omega)
        walk_at "ev"
        rw [e1, e2]
        walk_at "ev"
        have w1 := a _ (List.getElem_mem i1)
        have w2 := a _ (List.getElem_mem i2)
        have q1 : xs[i]? = some xs[i] := List.getElem?_eq_getElem i1
        have q2 : xs[i + 1]? = some xs[i + 1] := List.getElem?_eq_getElem i2
        simp only [Int.toNat_natCast, q1, q2, show ((i : Int) + 1).toNat = i + 1 by omega]
        generalize xs[i] = u at w1
        generalize xs[i + 1] = v at w2
        cases u <;> simp only [isWord, Bool.false_eq_true] at w1
        cases v <;> simp only [isWord, Bool.false_eq_true] at w2
        rfl
  | _ => walk_at "ev"; rfl
theorem r4 (h0 : P 0 = some d0) (h1 : P 1 = some d1) (h2 : P 2 = some d2) (h3 : P 3 = some d3) (h4 : P 4 = some d4) {d : D} (h : Okd d) (k : Nat) : run P (k + 3) 4 [d] st = .ok (.val (.bl (isWant d))) st := by
  rw [run1 h4]
  unfold b4
  cases d with
  | obj _ _ => exact h.no_obj.elim
  | ptr _ => exact h.no_ptr.elim
  | scr _ => exact h.no_scr.elim
  | tup xs =>
    obtain ⟨hx, hl⟩ := h.tup
    walk_at "ev"
    match xs, hx with
    | [], _ => walk_at "ev"; rfl
    | [a], _ => walk_at "ev"; rfl
    | [a, b], _ => walk_at "ev"; rfl
    | [a, b, c], hx =>
      have e3 : (!((([a, b, c] : List D).length : Int) == 3)) = false := rfl
      rw [e3]
      walk_at "ev"
      rw [r1 h1 (hx a (by simp)) (k + 1)]
      walk_at "ev"
      cases p : isWord a with
      | false => walk_at "ev"; simp [isWant, p]
      | true =>
        walk_at "ev"
        rw [r3 h1 h3 (hx b (by simp)) k]
        walk_at "ev"
        cases q : isShades b with
        | false => walk_at "ev"; simp [isWant, p, q]
        | true =>
          walk_at "ev"
          rw [r2 h0 h2 (hx c (by simp)) k]
          walk_at "ev"
          simp [isWant, p, q]
    | a :: b :: c :: e :: l, _ =>
      have e3 : (!(((a :: b :: c :: e :: l : List D).length : Int) == 3)) = true := by
        rw [Bool.not_eq_true']
        apply beq_false_of_ne
        simp only [List.length_cons]
        omega
      rw [e3]
      walk_at "ev"
      rfl
  | _ => walk_at "ev"; rfl
theorem r5 (h0 : P 0 = some d0) (h1 : P 1 = some d1) (h2 : P 2 = some d2) (h3 : P 3 = some d3) (h4 : P 4 = some d4) (h5 : P 5 = some d5) {d : D} (h : Okd d) (k : Nat) : run P (k + 4) 5 [d] st = .ok (.val (.bl (isWay d))) st := by
  rw [run1 h5]
  unfold b5
  cases d with
  | obj _ _ => exact h.no_obj.elim
  | ptr _ => exact h.no_ptr.elim
  | scr _ => exact h.no_scr.elim
  | tup xs =>
    obtain ⟨hx, hl⟩ := h.tup
    walk_at "ev"
    rw [each_ok (t := isWant) (by simp) hl fun x m => r4 h0 h1 h2 h3 h4 (hx x m) k]
    walk_at "ev"
    rw [o_all]
    walk_at "ev"
    rfl
  | _ => walk_at "ev"; rfl
theorem r6 (h0 : P 0 = some d0) (h1 : P 1 = some d1) (h2 : P 2 = some d2) (h3 : P 3 = some d3) (h4 : P 4 = some d4) (h5 : P 5 = some d5) (h6 : P 6 = some d6) {d : D} (h : Okd d) (k : Nat) : run P (k + 5) 6 [d] st = .ok (.val (.bl (isRow d))) st := by
  rw [run1 h6]
  unfold b6
  cases d with
  | obj _ _ => exact h.no_obj.elim
  | ptr _ => exact h.no_ptr.elim
  | scr _ => exact h.no_scr.elim
  | tup xs =>
    obtain ⟨hx, hl⟩ := h.tup
    walk_at "ev"
    cases a : xs.isEmpty with
    | true =>
      obtain rfl := List.isEmpty_iff.mp a
      rfl
    | false =>
      have h0l : 0 < xs.length := List.length_pos_iff.mpr fun z => by rw [z] at a; cases a
      rw [show decide ((0 : Int) < (xs.length : Int)) = true from decide_eq_true (by omega)]
      walk_at "ev"
      rw [each_ok (t := isWay) (by simp) hl fun x m => r5 h0 h1 h2 h3 h4 h5 (hx x m) k]
      walk_at "ev"
      rw [o_all]
      walk_at "ev"
      simp [isRow, a]
  | _ => walk_at "ev"; rfl
theorem r7 (h0 : P 0 = some d0) (h1 : P 1 = some d1) (h2 : P 2 = some d2) (h3 : P 3 = some d3) (h4 : P 4 = some d4) (h5 : P 5 = some d5) (h6 : P 6 = some d6) (h7 : P 7 = some d7) {d : D} (h : Okd d) (k : Nat) : run P (k + 6) 7 [d] st = .ok (.val (.bl (isSheet d))) st := by
  rw [run1 h7]
  unfold b7
  cases d with
  | obj _ _ => exact h.no_obj.elim
  | ptr _ => exact h.no_ptr.elim
  | scr _ => exact h.no_scr.elim
  | tup xs =>
    obtain ⟨hx, hl⟩ := h.tup
    walk_at "ev"
    rw [each_ok (t := isRow) (by simp) hl fun x m => r6 h0 h1 h2 h3 h4 h5 h6 (hx x m) k]
    walk_at "ev"
    rw [o_all]
    walk_at "ev"
    rfl
  | _ => walk_at "ev"; rfl
end
end G
end

section
set_option maxRecDepth 1000000
set_option maxHeartbeats 4000000
set_option linter.all false
namespace G
open PySem L2 Py
local macro_rules | `(tactic| walk_at "ev") => `(tactic| simp only [v_evalE_0, v_evalE_1, v_evalE_2, v_evalE_3, v_evalE_4, v_evalE_5, v_evalE_6, v_evalE_7, v_evalE_8, v_evalE_9, v_evalE_10, v_evalE_11, v_evalE_12, v_evalE_13, v_evalE_14, v_evalE_15, v_evalE_16, v_evalE_17, v_evalE_18, v_evalE_19, v_evalE_20, v_evalE_21, v_evalE_22, v_evalT_0, v_evalT_1, v_evalT_2, v_evalT_3, v_evalT_4, v_evalT_5, v_evalAnd_1, v_evalAnd_2, v_evalOr_1, v_evalOr_2, v_evalAndT_1, v_evalAndT_2, v_evalOrT_1, v_evalOrT_2, v_evalRs_0, v_evalRs_1, v_evalPart_0, v_evalPart_1, v_evalIfs_0, v_evalIfs_1, v_evalI_0, v_evalI_1, v_evalI_2, v_evalI_4, v_evalI_5, v_execS_0, v_execS_1, v_execS_2, v_execS_3, v_execS_4, v_execS_5, v_execS_6, v_execS_7, v_execS_8, v_execS_9, v_execS_10, v_execS_11, v_execS_12, v_execS_13, v_execS_14, v_execS_15, v_execS_16, v_execSs_0, v_execSs_1, env0, List.map_cons, List.map_nil, List.cons_append, List.nil_append, List.length_cons, List.length_nil, List.replicate, Nat.reduceSub, Nat.reduceAdd, List.getElem?_cons_zero, List.getElem?_cons_succ, List.set_cons_zero, List.set_cons_succ, Out.bind_ok, Out.of_some, Option.map_some, sb_ok, seq_nx, seq_rt, endB_rt, endB_nx, vw_bl, vw_non, vw_str, vw_tup, vw_lst, vw_own, vw_bor, cell_lst, toD_own, toD_val, i_vw, slot_val, slot_own, truth_bl, truth_sq, if_true, if_false, Bool.false_eq_true, Bool.not_true, Bool.not_false, reduceIte, toDs, Res.toD, o_len, o_list, o_tuple, o_rev, o_slT, o_add, o_sub, c_gt, c_ge, c_lt, ix0, ix1, ix2, c_lei, c_eqi, c_nei, c_eqs, c_nes, Nat.zero_le, sizeLine_eq, Nat.reduceLeDiff, Int.reduceNeg, isi_non_int, isi_non_bool, isi_non_str, isi_non_tuple, isi_non_list, isi_bl_int, isi_bl_bool, isi_bl_str, isi_bl_tuple, isi_bl_list, isi_int_int, isi_int_bool, isi_int_str, isi_int_tuple, isi_int_list, isi_str_int, isi_str_bool, isi_str_str, isi_str_tuple, isi_str_list, isi_tup_int, isi_tup_bool, isi_tup_str, isi_tup_tuple, isi_tup_list, isi_lst_int, isi_lst_bool, isi_lst_str, isi_lst_tuple, isi_lst_list])
/-! texts that rise, and sorted(set()) of texts -/
def strD (ss : List Str) : List D := ss.map .str
abbrev ltS (x y : Str) : Prop := x.cps.toList < y.cps.toList
abbrev leS (x y : Str) : Prop := x.cps.toList ≤ y.cps.toList
theorem str_ext {x y : Str} (h : x.cps.toList = y.cps.toList) : x = y := by
  obtain ⟨x⟩ := x
  obtain ⟨y⟩ := y
  have : x = y := Array.toList_inj.mp h
  rw [this]
theorem le_str (x y : Str) : PySem.W.dataLe false encD (.str x) (.str y) = decide (leS x y) :=
  congrFun (congrFun (PySem.W.dataLe_str (fun d : D => match d with | .str i => i | _ => Str.empty)) (.str x)) (.str y)
theorem rising_iff : ∀ ss : List Str, rising (strD ss) = true ↔ ss.Pairwise ltS
  | [] => by simp [strD, rising]
  | [x] => by simp [strD, rising]
  | x :: y :: l => by
    have ih := rising_iff (y :: l)
    have e : rising (strD (x :: y :: l)) = (decide (ltS x y) && rising (strD (y :: l))) := rfl
    rw [e, Bool.and_eq_true, decide_eq_true_eq, ih]
    constructor
    · rintro ⟨h1, h2⟩
      refine List.pairwise_cons.mpr ⟨fun z hz => ?_, h2⟩
      rcases List.mem_cons.mp hz with rfl | hz
      · exact h1
      · exact List.lt_trans h1 ((List.pairwise_cons.mp h2).1 z hz)
    · intro h
      exact ⟨(List.pairwise_cons.mp h).1 y (by simp), (List.pairwise_cons.mp h).2⟩
theorem words_str : ∀ {xs : List D}, xs.all isWord = true → ∃ ss, xs = strD ss ∧ ss.all wordS = true
  | [], _ => ⟨[], rfl, rfl⟩
  | x :: xs, h => by
    rw [List.all_cons, Bool.and_eq_true] at h
    obtain ⟨ss, rfl, h2⟩ := words_str h.2
    cases x <;> simp only [isWord, Bool.false_eq_true, false_and] at h
    rename_i z
    exact ⟨z :: ss, rfl, by simp [h.1, h2]⟩
theorem keys_str : ∀ ss : List Str, D.keys (strD ss) = some (ss.map Sum.inr)
  | [] => rfl
  | x :: ss => by
    show (match (D.str x).key, D.keys (strD ss) with | some k, some ks => some (k :: ks) | _, _ => none) = _
    rw [keys_str ss]
    rfl
theorem pys_str : ∀ ss : List Str, D.pys (strD ss) = some (ss.map .str)
  | [] => rfl
  | x :: ss => by
    show (match (D.str x).py, D.pys (strD ss) with | some k, some ks => some (k :: ks) | _, _ => none) = _
    rw [pys_str ss]
    rfl
theorem depth_strs : ∀ ss : List Str, PyData.depthAll (ss.map PyData.str) = 0
  | [] => rfl
  | x :: ss => by
    show max 0 (PyData.depthAll (ss.map PyData.str)) = 0
    rw [depth_strs ss]
    rfl
theorem sortOk_str (ss : List Str) : sortOk (strD ss) = true := by
  unfold sortOk
  rw [pys_str]
  simp only [Bool.and_eq_true, decide_eq_true_eq]
  refine ⟨⟨?_, ?_⟩, by rw [depth_strs]; omega⟩
  · unfold alikeL
    rw [List.all_eq_true]
    intro p hp
    rw [List.all_eq_true]
    intro q hq
    obtain ⟨x, _, rfl⟩ := List.mem_map.mp hp
    obtain ⟨y, _, rfl⟩ := List.mem_map.mp hq
    simp [PySem.W.alike]
  · unfold sortableL
    rw [Bool.or_eq_true]
    right
    rw [List.all_eq_true]
    intro p hp
    obtain ⟨x, _, rfl⟩ := List.mem_map.mp hp
    rfl
def unS (d : D) : Option Str := match d with
  | .str x => some x
  | _ => none
theorem unS_str : ∀ ss : List Str, (strD ss).filterMap unS = ss
  | [] => rfl
  | x :: ss => by
    show List.filterMap unS (D.str x :: strD ss) = _
    rw [List.filterMap_cons]
    show x :: List.filterMap unS (strD ss) = _
    rw [unS_str ss]
def dedupS (ss : List Str) : List Str := (dedupK (ss.map Sum.inr)).filterMap fun k => match k with | .inr x => some x | _ => none
theorem dedup_inr (ss : List Str) : dedupK (ss.map Sum.inr) = (dedupS ss).map Sum.inr := by
  unfold dedupS
  have : ∀ ks : List Key, (∀ k ∈ ks, ∃ x, k = Sum.inr x) → ks = (ks.filterMap fun k => match k with | .inr x => some x | _ => none).map Sum.inr := by
    intro ks
    induction ks with
    | nil => intro _; rfl
    | cons k ks ih =>
      intro h
      obtain ⟨x, rfl⟩ := h k (by simp)
      have := ih fun j hj => h j (by simp [hj])
      rw [List.filterMap_cons]
      dsimp only
      rw [List.map_cons, ← this]
  refine this _ fun k hk => ?_
  obtain ⟨x, _, rfl⟩ := List.mem_map.mp (dedup_mem.mp hk)
  exact ⟨x, rfl⟩
theorem dedupS_mem {ss : List Str} {x : Str} : x ∈ dedupS ss ↔ x ∈ ss := by
  have h := dedup_mem (ks := ss.map Sum.inr) (j := Sum.inr x)
  rw [dedup_inr] at h
  simpa using h
theorem dedupS_nodup (ss : List Str) : (dedupS ss).Nodup := by
  have h := dedup_nodup (ss.map Sum.inr)
  rw [dedup_inr] at h
  exact List.Pairwise.of_map Sum.inr (fun a b hne e => hne (by rw [e])) h
/-- texts in order -/
def sortS (ss : List Str) : List Str := (sortD (strD ss)).filterMap unS
theorem sortD_str (ss : List Str) : sortD (strD ss) = strD (sortS ss) := by
  unfold sortS
  have : ∀ ds : List D, (∀ d ∈ ds, ∃ x, d = .str x) → ds = strD (ds.filterMap unS) := by
    intro ds
    induction ds with
    | nil => intro _; rfl
    | cons d ds ih =>
      intro h
      obtain ⟨x, rfl⟩ := h d (by simp)
      have := ih fun j hj => h j (by simp [hj])
      rw [List.filterMap_cons]
      show _ = D.str x :: strD (List.filterMap unS ds)
      rw [← this]
  refine this _ fun d hd => ?_
  obtain ⟨x, _, rfl⟩ := List.mem_map.mp ((sortD_perm _).mem_iff.mp hd)
  exact ⟨x, rfl⟩
theorem strD_inj {a b : List Str} (h : strD a = strD b) : a = b := by
  have := congrArg (List.filterMap unS) h
  have e : List.filterMap unS (strD a) = List.filterMap unS (strD b) := this
  rwa [unS_str, unS_str] at e
theorem sortS_perm (ss : List Str) : (sortS ss).Perm ss := by
  have h := sortD_perm (strD ss)
  rw [sortD_str] at h
  have := h.filterMap unS
  rwa [unS_str, unS_str] at this
theorem sortS_pw (ss : List Str) : (sortS ss).Pairwise leS := by
  have h := sortD_pw (strD ss)
  rw [sortD_str] at h
  unfold strD at h
  rw [List.pairwise_map] at h
  exact h.imp fun e => by rw [le_str] at e; exact of_decide_eq_true e
/-- sorted(set(xs)) of texts -/
def sset (ss : List Str) : List Str := sortS (dedupS ss)
theorem sset_mem {ss : List Str} {x : Str} : x ∈ sset ss ↔ x ∈ ss := (sortS_perm _).mem_iff.trans dedupS_mem
theorem sset_pw (ss : List Str) : (sset ss).Pairwise ltS := by
  have h1 := sortS_pw (dedupS ss)
  have h2 : (sset ss).Nodup := (sortS_perm _).nodup_iff.mpr (dedupS_nodup ss)
  refine (h1.and h2).imp fun {a b} ⟨x, y⟩ => ?_
  by_cases h : a.cps.toList < b.cps.toList
  · exact h
  · exact absurd (str_ext (List.le_antisymm x (List.not_lt.mp h))) y
theorem sset_uniq {ss l : List Str} (h : l.Pairwise ltS) (hm : ∀ x, x ∈ l ↔ x ∈ ss) : sset ss = l := by
  have nd : ∀ {l : List Str}, l.Pairwise ltS → l.Nodup := fun h => h.imp fun {a b} q e => by
    rw [e] at q
    exact List.lt_irrefl _ q
  have p : (sset ss).Perm l := (List.perm_ext_iff_of_nodup (nd (sset_pw ss)) (nd h)).mpr fun x => sset_mem.trans (hm x).symm
  exact List.Perm.eq_of_pairwise (le := ltS) (fun a b _ _ h1 h2 => absurd (List.lt_trans h1 h2) (List.lt_irrefl _)) (sset_pw ss) h p
theorem sset_rise {ss : List Str} : sset ss = ss ↔ ss.Pairwise ltS :=
  ⟨fun h => h ▸ sset_pw ss, fun h => sset_uniq h fun _ => Iff.rfl⟩
theorem o_sset {t : Bool} {ss : List Str} (h : ss.length ≤ 4000) : opSS (.sq t (strD ss)) = some (.own (.lst (strD (sset ss)))) := by
  unfold opSS
  dsimp only
  rw [keys_str]
  dsimp only
  rw [dedup_inr, List.map_map]
  have e : (kd ∘ Sum.inr : Str → D) = D.str := rfl
  rw [e]
  show (if sortOk (strD (dedupS ss)) = true ∧ (ss.map Sum.inr).length ≤ 4000 then _ else none) = _
  rw [if_pos ⟨sortOk_str _, by rw [List.length_map]; exact h⟩]
  show some (Res.own (.lst (sortD (strD (dedupS ss))))) = _
  rw [sortD_str]
  rfl
theorem o_sorted_str {t : Bool} {ss : List Str} : opBI .sorted [.sq t (strD ss)] = some (.own (.lst (strD (sortS ss)))) := by
  show (if sortOk (strD ss) = true then _ else none) = _
  rw [if_pos (sortOk_str ss), sortD_str]
theorem eqv_strs : ∀ (a b : List Str), PyData.eqvAll (a.map .str) (b.map .str) = decide (a = b)
  | [], [] => rfl
  | [], _ :: _ => rfl
  | _ :: _, [] => rfl
  | x :: a, y :: b => by
    show (x == y && PyData.eqvAll (a.map .str) (b.map .str)) = _
    rw [eqv_strs a b]
    by_cases e : x = y
    · subst e
      simp
    · have : (x == y) = false := beq_false_of_ne e
      rw [this]
      simp [e]
theorem c_ne_strs {t : Bool} {a b : List Str} : opCmp .ne (.sq t (strD a)) (.sq t (strD b)) = some (!decide (a = b)) := by
  show (eqv2 _ _).map _ = _
  unfold eqv2
  have e : PyData.eqvAll (a.map .str) (b.map .str) = decide (a = b) := eqv_strs a b
  cases t
  · simp only [Vw.py, pys_str, Option.map_some]
    rw [if_pos (by show min (PyData.depthAll _ + 1) (PyData.depthAll _ + 1) ≤ 64; rw [depth_strs, depth_strs]; decide)]
    show some (!PyData.eqvAll _ _) = _
    rw [e]
  · simp only [Vw.py, pys_str, Option.map_some]
    rw [if_pos (by show min (PyData.depthAll _ + 1) (PyData.depthAll _ + 1) ≤ 64; rw [depth_strs, depth_strs]; decide)]
    show some (!PyData.eqvAll _ _) = _
    rw [e]
theorem c_eq_strs {t : Bool} {a b : List Str} : opCmp .eq (.sq t (strD a)) (.sq t (strD b)) = some (decide (a = b)) := by
  have h := c_ne_strs (t := t) (a := a) (b := b)
  have h : (opCmp .eq (.sq t (strD a)) (.sq t (strD b))).map (!·) = some (!decide (a = b)) := h
  cases q : opCmp .eq (.sq t (strD a)) (.sq t (strD b)) with
  | none => rw [q] at h; cases h
  | some c =>
    rw [q] at h
    simp only [Option.map_some, Option.some.injEq] at h
    congr 1
    cases c <;> cases h2 : decide (a = b) <;> rw [h2] at h <;> first | rfl | cases h
end G
end

section
set_option maxRecDepth 1000000
set_option maxHeartbeats 4000000
set_option linter.all false
namespace G
open PySem L2 Py
local macro_rules | `(tactic| walk_at "ev") => `(tactic| simp only [v_evalE_0, v_evalE_1, v_evalE_2, v_evalE_3, v_evalE_4, v_evalE_5, v_evalE_6, v_evalE_7, v_evalE_8, v_evalE_9, v_evalE_10, v_evalE_11, v_evalE_12, v_evalE_13, v_evalE_14, v_evalE_15, v_evalE_16, v_evalE_17, v_evalE_18, v_evalE_19, v_evalE_20, v_evalE_21, v_evalE_22, v_evalT_0, v_evalT_1, v_evalT_2, v_evalT_3, v_evalT_4, v_evalT_5, v_evalAnd_1, v_evalAnd_2, v_evalOr_1, v_evalOr_2, v_evalAndT_1, v_evalAndT_2, v_evalOrT_1, v_evalOrT_2, v_evalRs_0, v_evalRs_1, v_evalPart_0, v_evalPart_1, v_evalIfs_0, v_evalIfs_1, v_evalI_0, v_evalI_1, v_evalI_2, v_evalI_4, v_evalI_5, v_execS_0, v_execS_1, v_execS_2, v_execS_3, v_execS_4, v_execS_5, v_execS_6, v_execS_7, v_execS_8, v_execS_9, v_execS_10, v_execS_11, v_execS_12, v_execS_13, v_execS_14, v_execS_15, v_execS_16, v_execSs_0, v_execSs_1, env0, List.map_cons, List.map_nil, List.cons_append, List.nil_append, List.length_cons, List.length_nil, List.replicate, Nat.reduceSub, Nat.reduceAdd, List.getElem?_cons_zero, List.getElem?_cons_succ, List.set_cons_zero, List.set_cons_succ, Out.bind_ok, Out.of_some, Option.map_some, sb_ok, seq_nx, seq_rt, endB_rt, endB_nx, vw_bl, vw_non, vw_str, vw_tup, vw_lst, vw_own, vw_bor, cell_lst, toD_own, toD_val, i_vw, slot_val, slot_own, truth_bl, truth_sq, if_true, if_false, Bool.false_eq_true, Bool.not_true, Bool.not_false, reduceIte, toDs, Res.toD, o_len, o_list, o_tuple, o_rev, o_slT, o_add, o_sub, c_gt, c_ge, c_lt, ix0, ix1, ix2, c_lei, c_eqi, c_nei, c_eqs, c_nes, Nat.zero_le, sizeLine_eq, Nat.reduceLeDiff, Int.reduceNeg, isi_non_int, isi_non_bool, isi_non_str, isi_non_tuple, isi_non_list, isi_bl_int, isi_bl_bool, isi_bl_str, isi_bl_tuple, isi_bl_list, isi_int_int, isi_int_bool, isi_int_str, isi_int_tuple, isi_int_list, isi_str_int, isi_str_bool, isi_str_str, isi_str_tuple, isi_str_list, isi_tup_int, isi_tup_bool, isi_tup_str, isi_tup_tuple, isi_tup_list, isi_lst_int, isi_lst_bool, isi_lst_str, isi_lst_tuple, isi_lst_list])
section
variable {P : Nat → Option FDef} {st : Store}
theorem o_notIn {v w : Vw} {b : Bool} (h : isInV v w = some b) : opCmp .notIn v w = some (!b) := by
  show (isInV v w).map (!·) = _
  rw [h]
  rfl
theorem chr_ok (c : Nat) : Okd (.str ⟨#[c]⟩) := ⟨⟨_, rfl⟩, by simp only [D.sok, decide_eq_true_eq, sizeLine_eq]; show 1 ≤ _; omega⟩
theorem filt_nil {xs : List D} {p : D → Bool} : (xs.filter p).isEmpty = xs.all fun x => !p x := by
  rw [Bool.eq_iff_iff, List.isEmpty_iff, List.filter_eq_nil_iff, List.all_eq_true]
  simp
theorem r16 (h16 : P 16 = some d16) {d : D} (h : Okd d) (k : Nat) : run P (k + 1) 16 [d] st = .ok (.val (.bl (isWord d))) st := by
  rw [run1 h16]
  unfold b16
  cases d with
  | obj _ _ => exact h.no_obj.elim
  | ptr _ => exact h.no_ptr.elim
  | scr _ => exact h.no_scr.elim
  | str x =>
    have hl := h.str
    walk_at "ev"
    simp only [o_lens hl]
    walk_at "ev"
    have c1 : decide ((0 : Int) < (x.length : Int)) = decide (1 ≤ x.length) := decide_eq_decide.mpr (by omega)
    have c2 : decide ((x.length : Int) < 9) = decide (x.length ≤ 8) := decide_eq_decide.mpr (by omega)
    rw [c1, c2]
    have hc : (compL (Tg.name 1).put (fun e s => evalIfs (run P k) (.cons (.cmp .notIn (.var 1) (.cst (.str ("abcdefghijklmnopqrstuvwxyz" : Str)))) .nil) e s) (fun e s => evalE (run P k) (.var 1) e s) (wipeE [some (.val (.str x)), none] [1]) (x.cps.toList.map fun c => D.str ⟨#[c]⟩) [] st).nox = .ok (((x.cps.toList.map fun c => D.str ⟨#[c]⟩).filter fun d => !(match d with | .str z => low (z.cps.getD 0 0) | _ => false)).map id) st := by
      refine comp_of _ _ (by simp only [List.length_map, Array.length_toList]; exact hl) fun y hy => ?_
      obtain ⟨c, hc, rfl⟩ := List.mem_map.mp hy
      refine ⟨_, rfl, ?_, fun _ => rfl⟩
      show evalIfs _ _ [some (.val (.str x)), some (.val (.str ⟨#[c]⟩))] st = _
      walk_at "ev"
      rw [o_notIn (in_letters c)]
      rfl
    cases a1 : decide (1 ≤ x.length) with
    | false =>
      walk_at "ev"
      simp [isWord, wordS, a1]
    | true =>
      dsimp only
      cases a2 : decide (x.length ≤ 8) with
      | false =>
        walk_at "ev"
        simp [isWord, wordS, a2]
      | true =>
        walk_at "ev"
        simp only [hc]
        walk_at "ev"
        obtain ⟨ps, hps, _⟩ := pys_of_ok (xs := ((x.cps.toList.map fun c => D.str ⟨#[c]⟩).filter fun d => !(match d with | .str z => low (z.cps.getD 0 0) | _ => false)).map id) fun y hy => by
          rw [List.map_id] at hy
          obtain ⟨c, hc, rfl⟩ := List.mem_map.mp (List.mem_filter.mp hy).1
          exact chr_ok c
        rw [eq_nil hps]
        walk_at "ev"
        rw [List.map_id, filt_nil, List.all_map]
        simp [isWord, wordS, a1, a2]
  | _ => walk_at "ev"; rfl
end
end G
end

section
set_option maxRecDepth 1000000
set_option maxHeartbeats 4000000
set_option linter.all false
namespace G
open PySem L2 Py
local macro_rules | `(tactic| walk_at "ev") => `(tactic| simp only [v_evalE_0, v_evalE_1, v_evalE_2, v_evalE_3, v_evalE_4, v_evalE_5, v_evalE_6, v_evalE_7, v_evalE_8, v_evalE_9, v_evalE_10, v_evalE_11, v_evalE_12, v_evalE_13, v_evalE_14, v_evalE_15, v_evalE_16, v_evalE_17, v_evalE_18, v_evalE_19, v_evalE_20, v_evalE_21, v_evalE_22, v_evalT_0, v_evalT_1, v_evalT_2, v_evalT_3, v_evalT_4, v_evalT_5, v_evalAnd_1, v_evalAnd_2, v_evalOr_1, v_evalOr_2, v_evalAndT_1, v_evalAndT_2, v_evalOrT_1, v_evalOrT_2, v_evalRs_0, v_evalRs_1, v_evalPart_0, v_evalPart_1, v_evalIfs_0, v_evalIfs_1, v_evalI_0, v_evalI_1, v_evalI_2, v_evalI_4, v_evalI_5, v_execS_0, v_execS_1, v_execS_2, v_execS_3, v_execS_4, v_execS_5, v_execS_6, v_execS_7, v_execS_8, v_execS_9, v_execS_10, v_execS_11, v_execS_12, v_execS_13, v_execS_14, v_execS_15, v_execS_16, v_execSs_0, v_execSs_1, env0, List.map_cons, List.map_nil, List.cons_append, List.nil_append, List.length_cons, List.length_nil, List.replicate, Nat.reduceSub, Nat.reduceAdd, List.getElem?_cons_zero, List.getElem?_cons_succ, List.set_cons_zero, List.set_cons_succ, Out.bind_ok, Out.of_some, Option.map_some, sb_ok, seq_nx, seq_rt, endB_rt, endB_nx, vw_bl, vw_non, vw_str, vw_tup, vw_lst, vw_own, vw_bor, cell_lst, toD_own, toD_val, i_vw, slot_val, slot_own, truth_bl, truth_sq, if_true, if_false, Bool.false_eq_true, Bool.not_true, Bool.not_false, reduceIte, toDs, Res.toD, o_len, o_list, o_tuple, o_rev, o_slT, o_add, o_sub, c_gt, c_ge, c_lt, ix0, ix1, ix2, c_lei, c_eqi, c_nei, c_eqs, c_nes, Nat.zero_le, sizeLine_eq, Nat.reduceLeDiff, Int.reduceNeg, isi_non_int, isi_non_bool, isi_non_str, isi_non_tuple, isi_non_list, isi_bl_int, isi_bl_bool, isi_bl_str, isi_bl_tuple, isi_bl_list, isi_int_int, isi_int_bool, isi_int_str, isi_int_tuple, isi_int_list, isi_str_int, isi_str_bool, isi_str_str, isi_str_tuple, isi_str_list, isi_tup_int, isi_tup_bool, isi_tup_str, isi_tup_tuple, isi_tup_list, isi_lst_int, isi_lst_bool, isi_lst_str, isi_lst_tuple, isi_lst_list])
section
variable {P : Nat → Option FDef} {st : Store}
/-- those of which a def says no -/
theorem none_ok {F : Fsem} {f i : Nat} {en : Py.Env} {xs : List D} {t : D → Bool} (hi : i < en.length) (hl : xs.length ≤ 16777216) (h : ∀ x ∈ xs, F f [x] st = .ok (.val (.bl (t x))) st) :
    (compL (Tg.name i).put (fun e s => evalIfs F (.cons (.not (.val (.call f (.cons (.var i) .nil)))) .nil) e s) (fun e s => evalE F (.var i) e s) (wipeE en [i]) xs [] st).nox = .ok (xs.filter fun x => !t x) st := by
  have := comp_of (put := (Tg.name i).put) (cond := fun e s => evalIfs F (.cons (.not (.val (.call f (.cons (.var i) .nil)))) .nil) e s) (elt := fun e s => evalE F (.var i) e s) (env := wipeE en [i]) (st := st) (fun x => !t x) id hl fun y hy => ⟨_, rfl, ?_, fun _ => ?_⟩
  · rw [this, List.map_id]
  · have hv : ((wipeE en [i]).set i (some (.val y)))[i]? = some (some (.val y)) := List.getElem?_set_self (by simpa [wipeE] using hi)
    show evalIfs F _ ((wipeE en [i]).set i (some (.val y))) st = _
    simp only [evalIfs, evalT, evalE, evalRs, hv, Out.bind_ok, toDs, Res.toD, h y hy, vw_bl, truth_bl, Out.of_some]
  · have hv : ((wipeE en [i]).set i (some (.val y)))[i]? = some (some (.val y)) := List.getElem?_set_self (by simpa [wipeE] using hi)
    show evalE F (.var i) ((wipeE en [i]).set i (some (.val y))) st = _
    simp only [evalE, hv]
    rfl
theorem filt_pys {xs : List D} {p : D → Bool} (h : ∀ x ∈ xs, Okd x) : ∃ ps, D.pys (xs.filter p) = some ps :=
  let ⟨ps, a, _⟩ := pys_of_ok fun x hx => h x (List.mem_filter.mp hx).1
  ⟨ps, a⟩
theorem put3 {i j k : Nat} {a b c : D} {en : Py.Env} : (Tg.tup [i, j, k]).put (.tup [a, b, c]) en = some (((en.set i (some (.val a))).set j (some (.val b))).set k (some (.val c))) := rfl
theorem r17 {n : Nat} (h16 : P 16 = some d16) (h17 : P n = some d17) {d : D} (h : Okd d) (hm : d.ml ≤ 4000) (k : Nat) : run P (k + 2) n [d] st = .ok (.val (.bl (isWant d))) st := by
  rw [run1 h17]
  unfold b17
  cases d with
  | obj _ _ => exact h.no_obj.elim
  | ptr _ => exact h.no_ptr.elim
  | scr _ => exact h.no_scr.elim
  | tup xs =>
    obtain ⟨hx, hl⟩ := h.tup
    walk_at "ev"
    match xs, hx, hm with
    | [], _, _ => walk_at "ev"; rfl
    | [a], _, _ => walk_at "ev"; rfl
    | [a, b], _, _ => walk_at "ev"; rfl
    | a :: b :: c :: e :: l, _, _ =>
      have e3 : (!(((a :: b :: c :: e :: l : List D).length : Int) == 3)) = true := by
        rw [Bool.not_eq_true']
        apply beq_false_of_ne
        simp only [List.length_cons]
        omega
      rw [e3]
      walk_at "ev"
      rfl
    | [a, b, c], hx, hm =>
      have e3 : (!((([a, b, c] : List D).length : Int) == 3)) = false := rfl
      rw [e3]
      walk_at "ev"
      simp only [put3]
      walk_at "ev"
      rw [r16 h16 (hx a (by simp)) k]
      walk_at "ev"
      cases p : isWord a with
      | false => walk_at "ev"; simp [isWant, p]
      | true =>
        walk_at "ev"
        have hb := hx b (by simp)
        cases b with
        | obj _ _ => exact hb.no_obj.elim
        | ptr _ => exact hb.no_ptr.elim
        | scr _ => exact hb.no_scr.elim
        | tup ss =>
          obtain ⟨hs, hl2⟩ := hb.tup
          have l4 : ss.length ≤ 4000 := by
            have hm : max 3 (max a.ml (max (max ss.length (D.mls ss)) (max c.ml 0))) ≤ 4000 := hm
            omega
          walk_at "ev"
          rw [none_ok (t := isWord) (by simp) hl2 fun x m => r16 h16 (hs x m) k]
          walk_at "ev"
          obtain ⟨ps, hps⟩ := filt_pys (p := fun x => !isWord x) hs
          rw [ne_nil hps]
          walk_at "ev"
          rw [filt_nil]
          simp only [Bool.not_not]
          cases q : ss.all isWord with
          | false => walk_at "ev"; simp [isWant, isShades, p, q]
          | true =>
            walk_at "ev"
            obtain ⟨zs, rfl, hz⟩ := words_str q
            rw [o_sset (by simpa [strD] using l4)]
            walk_at "ev"
            rw [c_ne_strs]
            walk_at "ev"
            have hr : rising (strD zs) = decide (sset zs = zs) := by
              rw [Bool.eq_iff_iff, rising_iff, decide_eq_true_eq, sset_rise]
            cases r : decide (sset zs = zs) with
            | false => walk_at "ev"; simp [isWant, isShades, p, q, hr, r]
            | true =>
              walk_at "ev"
              have hc := hx c (by simp)
              cases c with
              | obj _ _ => exact hc.no_obj.elim
              | ptr _ => exact hc.no_ptr.elim
              | scr _ => exact hc.no_scr.elim
              | int i =>
                walk_at "ev"
                simp [isWant, isShades, p, q, hr, r, isMany]
                omega
              | _ => walk_at "ev"; simp [isWant, isShades, p, q, hr, r, isMany]
        | _ => walk_at "ev"; simp [isWant, isShades]
  | _ => walk_at "ev"; rfl
def isTup : D → Bool
  | .tup _ => true
  | _ => false
theorem o_isT {d : D} (h : Okd d) (s : Store) : opIsi ((Res.val d).vw s) "tuple" = some (isTup d) := by
  show opIsi (d.vw s) "tuple" = _
  cases d with
  | obj _ _ => exact h.no_obj.elim
  | ptr _ => exact h.no_ptr.elim
  | scr _ => exact h.no_scr.elim
  | non => exact isi_non_tuple
  | bl _ => exact isi_bl_tuple
  | int _ => exact isi_int_tuple
  | str _ => exact isi_str_tuple
  | tup _ => exact isi_tup_tuple
  | lst _ => exact isi_lst_tuple
/-- a row of just one way -/
def isOne : D → Bool
  | .tup ws => ws.length == 1
  | _ => false
theorem r8 (h8 : P 8 = some d8) {rows : List D} (hl : rows.length ≤ 16777216) (h : ∀ r ∈ rows, isTup r = true) (k : Nat) : run P (k + 1) 8 [.tup rows] st = .ok (.val (.bl (rows.all isOne))) st := by
  rw [run1 h8]
  unfold b8
  walk_at "ev"
  rw [comp_map (f := fun r => .bl (isOne r)) hl fun y hy => ?_]
  · walk_at "ev"
    rw [o_all]
    walk_at "ev"
  · refine ⟨_, rfl, rfl, ?_⟩
    have := h y hy
    cases y <;> simp only [isTup, Bool.false_eq_true] at this
    rename_i ws
    show evalE _ _ [some (.val (.tup rows)), some (.val (.tup ws))] st = _
    walk_at "ev"
    simp only [isOne]
    congr 3
    rw [Bool.eq_iff_iff, beq_iff_eq, beq_iff_eq]
    omega
end
end G
end

section
set_option maxRecDepth 1000000
set_option maxHeartbeats 4000000
set_option linter.all false
namespace G
open PySem L2 Py
local macro_rules | `(tactic| walk_at "ev") => `(tactic| simp only [v_evalE_0, v_evalE_1, v_evalE_2, v_evalE_3, v_evalE_4, v_evalE_5, v_evalE_6, v_evalE_7, v_evalE_8, v_evalE_9, v_evalE_10, v_evalE_11, v_evalE_12, v_evalE_13, v_evalE_14, v_evalE_15, v_evalE_16, v_evalE_17, v_evalE_18, v_evalE_19, v_evalE_20, v_evalE_21, v_evalE_22, v_evalT_0, v_evalT_1, v_evalT_2, v_evalT_3, v_evalT_4, v_evalT_5, v_evalAnd_1, v_evalAnd_2, v_evalOr_1, v_evalOr_2, v_evalAndT_1, v_evalAndT_2, v_evalOrT_1, v_evalOrT_2, v_evalRs_0, v_evalRs_1, v_evalPart_0, v_evalPart_1, v_evalIfs_0, v_evalIfs_1, v_evalI_0, v_evalI_1, v_evalI_2, v_evalI_4, v_evalI_5, v_execS_0, v_execS_1, v_execS_2, v_execS_3, v_execS_4, v_execS_5, v_execS_6, v_execS_7, v_execS_8, v_execS_9, v_execS_10, v_execS_11, v_execS_12, v_execS_13, v_execS_14, v_execS_15, v_execS_16, v_execSs_0, v_execSs_1, env0, List.map_cons, List.map_nil, List.cons_append, List.nil_append, List.length_cons, List.length_nil, List.replicate, Nat.reduceSub, Nat.reduceAdd, List.getElem?_cons_zero, List.getElem?_cons_succ, List.set_cons_zero, List.set_cons_succ, Out.bind_ok, Out.of_some, Option.map_some, sb_ok, seq_nx, seq_rt, endB_rt, endB_nx, vw_bl, vw_non, vw_str, vw_tup, vw_lst, vw_own, vw_bor, cell_lst, toD_own, toD_val, i_vw, slot_val, slot_own, truth_bl, truth_sq, if_true, if_false, Bool.false_eq_true, Bool.not_true, Bool.not_false, reduceIte, toDs, Res.toD, o_len, o_list, o_tuple, o_rev, o_slT, o_add, o_sub, c_gt, c_ge, c_lt, ix0, ix1, ix2, c_lei, c_eqi, c_nei, c_eqs, c_nes, Nat.zero_le, sizeLine_eq, Nat.reduceLeDiff, Int.reduceNeg, isi_non_int, isi_non_bool, isi_non_str, isi_non_tuple, isi_non_list, isi_bl_int, isi_bl_bool, isi_bl_str, isi_bl_tuple, isi_bl_list, isi_int_int, isi_int_bool, isi_int_str, isi_int_tuple, isi_int_list, isi_str_int, isi_str_bool, isi_str_str, isi_str_tuple, isi_str_list, isi_tup_int, isi_tup_bool, isi_tup_str, isi_tup_tuple, isi_tup_list, isi_lst_int, isi_lst_bool, isi_lst_str, isi_lst_tuple, isi_lst_list])
theorem soks_of : ∀ {xs : List D}, (∀ x ∈ xs, Okd x) → D.soks xs = true
  | [], _ => rfl
  | x :: xs, h => by
    simp only [D.soks, Bool.and_eq_true]
    exact ⟨(h x (by simp)).sok, soks_of fun y hy => h y (by simp [hy])⟩
theorem okd_tup {xs : List D} (h : ∀ x ∈ xs, Okd x) (hl : xs.length ≤ 16777216) : Okd (.tup xs) := by
  obtain ⟨ps, hp, _⟩ := pys_of_ok h
  refine ⟨⟨.tuple ps, by simp [D.py, hp]⟩, ?_⟩
  simp only [D.sok, Bool.and_eq_true, decide_eq_true_eq]
  exact ⟨by rw [sizeLine_eq]; exact hl, soks_of h⟩
theorem okd_cut {xs : List D} {a b : Option Int} (h : Okd (.tup xs)) : Okd (.tup (cutD xs a b)) := by
  obtain ⟨h1, h2⟩ := h.tup
  refine okd_tup (fun x hx => h1 x ?_) ?_
  · exact List.mem_of_mem_drop (List.mem_of_mem_take hx)
  · unfold cutD
    rw [List.length_take, List.length_drop]
    omega
theorem wn_of {v : AV} {b : Bd} {d : D} (h : (match v.fd with
    | some p => decide (p.w ≤ b.w) && decide (p.d ≤ b.d) && decide (p.k ≤ b.k) && decide (p.l ≤ b.l)
    | none => false) = true) (g : AV.g v d) : Wn b d := by
  split at h
  · rename_i p hp
    simp only [Bool.and_eq_true, decide_eq_true_eq] at h
    exact (AV.fd_ok hp g).mono h.1.1.1 h.1.1.2 h.1.2 h.2
  · cases h
theorem reprB : ∃ f : Bool → Str, ∀ b, opBI .repr [.at (.bl b)] = some (.val (.str (f b))) := by
  have : ∀ b, ∃ s : Str, opBI .repr [.at (.bl b)] = some (.val (.str s)) := fun b => by
    obtain ⟨s, h⟩ := Wn.repr (p := ⟨100, 1, 1, 1⟩) (d := .bl b) ⟨by cases b <;> rfl, by cases b <;> decide, by cases b <;> decide, by cases b <;> decide⟩ (by decide) (by decide) (by decide)
    exact ⟨s, h _ rfl⟩
  exact Classical.axiomOfChoice this
theorem e_call1 {F : Fsem} {f : Nat} {x : Ex} {en : Py.Env} {st st1 : Store} {d : Py.D} (h : evalE F x en st = .ok (.val d) st1) : evalE F (.call f (.cons x .nil)) en st = F f [d] st1 := by
  simp only [evalE, evalRs, h, Out.bind_ok]
  rfl
theorem start2 {P : Nat → Option FDef} {k n : Nat} {b : Sms} {ns : List Int} (h9 : P 9 = some d9) (hb : takeS 2 b = .cons (.set 1 (.call 9 (.cons (.var 0) .nil))) (.cons (.cell 1) .nil)) (h : ns.length ≤ 63) :
    execSs (run P (k + 2)) (takeS 2 b) (some (.val (.scr ns)) :: none :: List.replicate n none) [] = .nx (some (.val (.scr ns)) :: some (.val (.ptr 0)) :: List.replicate n none) [some (fdC ns 0 0 0)] := by
  rw [hb, ss_cons]
  have v0 : evalE (run P (k + 2)) (.call 9 (.cons (.var 0) .nil)) (some (.val (.scr ns)) :: none :: List.replicate n none) [] = .ok (.own (fdC ns 0 0 0)) [] := by
    rw [e_call1 (d := .scr ns) (e_var rfl), run_eq (d := d9) h9]
    exact feed_run h []
  rw [show execS (run P (k + 2)) (.set 1 (.call 9 (.cons (.var 0) .nil))) (some (.val (.scr ns)) :: none :: List.replicate n none) [] = .nx (some (.val (.scr ns)) :: some (.own (fdC ns 0 0 0)) :: List.replicate n none) [] from by
    simp only [execS, v0, sb_ok]
    rfl]
  rfl
end G
end

section
set_option maxRecDepth 100000
set_option maxHeartbeats 4000000
set_option linter.all false
namespace K07
open PySem L2 Py G

-- _law_due(_law_thing)
def b18 : Sms :=
  .cons (.ife (.not (.val (.isi (.var 0) "tuple"))) (.cons (.ret (.cst (.bl false))) .nil) .nil) <|
  .cons (.for_ (.name 1) (.it (.var 0)) (.cons (.ife (.or (.cons (.not (.val (.isi (.var 1) "tuple"))) (.cons (.cmp .eq (.var 1) (.tup .nil)) (.cons (.cmp .ne (.comp [2] (.name 2) (.it (.var 1)) (.cons (.not (.val (.isi (.var 2) "tuple"))) .nil) (.var 2)) (.lst .nil)) .nil)))) (.cons (.ret (.cst (.bl false))) .nil) .nil) (.cons (.ife (.cmp .ne (.comp [2] (.name 2) (.it (.var 1)) (.cons (.cmp .ne (.comp [3] (.name 3) (.it (.var 2)) (.cons (.not (.val (.call 17 (.cons (.var 3) .nil)))) .nil) (.var 3)) (.lst .nil)) .nil) (.var 2)) (.lst .nil)) (.cons (.ret (.cst (.bl false))) .nil) .nil) .nil))) <|
  .cons (.ret (.cst (.bl true))) <|
  .nil
def d18 : FDef := ⟨4, 1, b18⟩

-- _law_otherwise(_law_thing)
def b19 : Sms :=
  .cons (.ife (.not (.val (.isi (.var 0) "tuple"))) (.cons (.ret (.lst (.cons (.cst (.non)) (.cons (.lst (.cons (.var 0) .nil)) (.cons (.tup (.cons (.var 0) .nil)) .nil))))) .nil) .nil) <|
  .cons (.ret (.lst (.cons (.bi .list (.cons (.var 0) .nil)) (.cons (.tup (.cons (.var 0) .nil)) (.cons (.tup .nil) (.cons (.sl (.var 0) (.cons (.cst (.int 1)) .nil) .nil) (.cons (.bin .add (.var 0) (.sl (.var 0) .nil (.cons (.cst (.int 1)) .nil))) (.cons (.ife (.cmp .ne (.var 0) (.tup .nil)) (.ix (.var 0) (.cst (.int 0))) (.cst (.non))) (.cons (.bin .add (.var 0) (.tup (.cons (.tup .nil) .nil))) .nil))))))))) <|
  .nil
def d19 : FDef := ⟨1, 1, b19⟩

-- _law_near(_law_feed_here, _law_sheet_here)
def b20 : Sms :=
  .cons (.set 2 (.bin .add (.bin .add (.lst (.cons (.var 1) .nil)) (.call 19 (.cons (.var 1) .nil))) (.comp [3] (.name 3) (.rng (.cons (.cst (.int 3)) .nil)) .nil (.call 15 (.cons (.var 0) (.cons (.var 1) .nil)))))) <|
  .cons (.mut .append 2 (.cons (.call 15 (.cons (.var 0) (.cons (.call 15 (.cons (.var 0) (.cons (.var 1) .nil))) .nil))) .nil)) <|
  .cons (.for_ (.name 3) (.rng (.cons (.bi .len (.cons (.var 1) .nil)) .nil)) (.cons (.vl 4 (.ix (.var 1) (.var 3))) (.cons (.mut .extend 2 (.cons (.comp [6] (.name 6) (.it (.call 19 (.cons (.var 4) .nil))) .nil (.bin .add (.bin .add (.sl (.var 1) .nil (.cons (.var 3) .nil)) (.tup (.cons (.var 6) .nil))) (.sl (.var 1) (.cons (.bin .add (.var 3) (.cst (.int 1))) .nil) .nil))) .nil)) (.cons (.for_ (.name 5) (.rng (.cons (.bi .len (.cons (.var 4) .nil)) .nil)) (.cons (.for_ (.name 6) (.it (.call 19 (.cons (.ix (.var 4) (.var 5)) .nil))) (.cons (.mut .append 2 (.cons (.bin .add (.bin .add (.sl (.var 1) .nil (.cons (.var 3) .nil)) (.tup (.cons (.bin .add (.bin .add (.sl (.var 4) .nil (.cons (.var 5) .nil)) (.tup (.cons (.var 6) .nil))) (.sl (.var 4) (.cons (.bin .add (.var 5) (.cst (.int 1))) .nil) .nil)) .nil))) (.sl (.var 1) (.cons (.bin .add (.var 3) (.cst (.int 1))) .nil) .nil)) .nil)) .nil)) .nil)) .nil)))) <|
  .cons (.retO 2) <|
  .nil
def d20 : FDef := ⟨7, 2, b20⟩

-- law(_law_script)
def b21 : Sms :=
  .cons (.set 1 (.call 9 (.cons (.var 0) .nil))) <|
  .cons (.cell 1) <|
  .cons (.unp [2, 3] (.tup (.cons (.call 11 (.cons (.var 1) (.cons (.bin .add (.cst (.int 1)) (.call 10 (.cons (.var 1) (.cons (.cst (.int 4)) .nil)))) .nil))) (.cons (.call 11 (.cons (.var 1) (.cons (.bin .add (.cst (.int 1)) (.call 10 (.cons (.var 1) (.cons (.cst (.int 4)) .nil)))) .nil))) .nil)))) <|
  .cons (.set 4 (.lst (.cons (.tup .nil) (.cons (.lst .nil) (.cons (.cst (.non)) (.cons (.cst (.int 0)) (.cons (.cst (.str ("" : Str))) (.cons (.cst (.bl true)) (.cons (.tup (.cons (.tup .nil) .nil)) (.cons (.tup (.cons (.tup (.cons (.tup .nil) .nil)) .nil)) (.cons (.tup (.cons (.tup (.cons (.tup (.cons (.tup .nil) .nil)) .nil)) .nil)) (.cons (.tup (.cons (.tup (.cons (.tup (.cons (.tup .nil) (.cons (.tup .nil) .nil))) .nil)) .nil)) (.cons (.tup (.cons (.tup (.cons (.tup (.cons (.tup (.cons (.cst (.str ("a" : Str))) (.cons (.tup .nil) (.cons (.cst (.int 1)) .nil)))) .nil)) .nil)) .nil)) .nil))))))))))))) <|
  .cons (.mut .extend 4 (.cons (.lst (.cons (.tup (.cons (.tup (.cons (.tup (.cons (.cst (.str ("a" : Str))) (.cons (.tup .nil) (.cons (.cst (.int 1)) .nil)))) .nil)) .nil)) (.cons (.tup (.cons (.cst (.str ("a" : Str))) (.cons (.tup .nil) (.cons (.cst (.int 1)) .nil)))) (.cons (.tup (.cons (.tup (.cons (.cst (.str ("a" : Str))) (.cons (.tup .nil) (.cons (.cst (.int 1)) .nil)))) .nil)) (.cons (.bin .mul (.tup (.cons (.tup (.cons (.tup (.cons (.tup (.cons (.cst (.str ("a" : Str))) (.cons (.tup .nil) (.cons (.cst (.int 1)) .nil)))) (.cons (.tup (.cons (.cst (.str ("a" : Str))) (.cons (.tup .nil) (.cons (.cst (.int 1)) .nil)))) .nil))) (.cons (.tup .nil) .nil))) .nil)) (.cst (.int 70))) .nil))))) .nil)) <|
  .cons (.vl 5 (.comp [11] (.name 11) (.rng (.cons (.cst (.int 2)) .nil)) .nil (.call 14 (.cons (.var 1) (.cons (.var 2) (.cons (.var 3) (.cons (.cst (.int 3)) .nil))))))) <|
  .cons (.for_ (.name 6) (.it (.var 5)) (.cons (.mut .extend 4 (.cons (.call 20 (.cons (.var 1) (.cons (.var 6) .nil))) .nil)) .nil)) <|
  .cons (.unp [7, 8] (.tup (.cons (.bin .mul (.tup (.cons (.tup (.cons (.tup (.cons (.tup (.cons (.cst (.str ("a" : Str))) (.cons (.tup .nil) (.cons (.cst (.int 1)) .nil)))) .nil)) .nil)) .nil)) (.cst (.int 70))) (.cons (.call 10 (.cons (.var 1) (.cons (.cst (.int 70)) .nil))) .nil)))) <|
  .cons (.mut .extend 4 (.cons (.lst (.cons (.var 7) (.cons (.bin .add (.bin .add (.sl (.var 7) .nil (.cons (.var 8) .nil)) (.tup (.cons (.tup .nil) .nil))) (.sl (.var 7) (.cons (.bin .add (.var 8) (.cst (.int 1))) .nil) .nil)) (.cons (.bin .add (.bin .add (.sl (.var 7) .nil (.cons (.var 8) .nil)) (.tup (.cons (.cst (.non)) .nil))) (.sl (.var 7) (.cons (.bin .add (.var 8) (.cst (.int 1))) .nil) .nil)) .nil)))) .nil)) <|
  .cons (.vl 9 (.bi .repr (.cons (.var 4) .nil))) <|
  .cons (.frz 4) <|
  .cons (.for_ (.name 10) (.it (.var 4)) (.cons (.ife (.cmp .ne (.bi .repr (.cons (.call 7 (.cons (.var 10) .nil)) .nil)) (.bi .repr (.cons (.call 18 (.cons (.var 10) .nil)) .nil))) (.cons (.ret (.cst (.bl false))) .nil) .nil) .nil)) <|
  .cons (.for_ (.name 6) (.it (.bin .add (.bin .add (.var 5) (.comp [6] (.name 6) (.it (.var 5)) .nil (.bi .tuple (.cons (.comp [12] (.name 12) (.it (.var 6)) .nil (.sl (.var 12) .nil (.cons (.cst (.int 1)) .nil))) .nil)))) (.lst (.cons (.tup .nil) .nil)))) (.cons (.ife (.cmp .ne (.bi .repr (.cons (.call 8 (.cons (.var 6) .nil)) .nil)) (.bi .repr (.cons (.cmp .eq (.comp [12] (.name 12) (.it (.var 6)) (.cons (.cmp .ne (.bi .len (.cons (.var 12) .nil)) (.cst (.int 1))) .nil) (.var 12)) (.lst .nil)) .nil))) (.cons (.ret (.cst (.bl false))) .nil) .nil) .nil)) <|
  .cons (.ret (.cmp .eq (.bi .repr (.cons (.var 4) .nil)) (.var 9))) <|
  .nil
def d21 : FDef := ⟨13, 1, b21⟩

def P : Nat → Option FDef := fun i => List.lookup i [(0, d0), (1, d1), (2, d2), (3, d3), (4, d4), (5, d5), (6, d6), (7, d7), (8, d8), (9, d9), (10, d10), (11, d11), (12, d12), (13, d13), (14, d14), (15, d15), (16, d16), (17, d17), (18, d18), (19, d19), (20, d20), (21, d21)]
end K07
end

section
set_option maxRecDepth 1000000
set_option maxHeartbeats 4000000
set_option linter.all false
namespace K07
open PySem L2 Py G
local macro_rules | `(tactic| walk_at "ev") => `(tactic| simp only [v_evalE_0, v_evalE_1, v_evalE_2, v_evalE_3, v_evalE_4, v_evalE_5, v_evalE_6, v_evalE_7, v_evalE_8, v_evalE_9, v_evalE_10, v_evalE_11, v_evalE_12, v_evalE_13, v_evalE_14, v_evalE_15, v_evalE_16, v_evalE_17, v_evalE_18, v_evalE_19, v_evalE_20, v_evalE_21, v_evalE_22, v_evalT_0, v_evalT_1, v_evalT_2, v_evalT_3, v_evalT_4, v_evalT_5, v_evalAnd_1, v_evalAnd_2, v_evalOr_1, v_evalOr_2, v_evalAndT_1, v_evalAndT_2, v_evalOrT_1, v_evalOrT_2, v_evalRs_0, v_evalRs_1, v_evalPart_0, v_evalPart_1, v_evalIfs_0, v_evalIfs_1, v_evalI_0, v_evalI_1, v_evalI_2, v_evalI_4, v_evalI_5, v_execS_0, v_execS_1, v_execS_2, v_execS_3, v_execS_4, v_execS_5, v_execS_6, v_execS_7, v_execS_8, v_execS_9, v_execS_10, v_execS_11, v_execS_12, v_execS_13, v_execS_14, v_execS_15, v_execS_16, v_execSs_0, v_execSs_1, env0, List.map_cons, List.map_nil, List.cons_append, List.nil_append, List.length_cons, List.length_nil, List.replicate, Nat.reduceSub, Nat.reduceAdd, List.getElem?_cons_zero, List.getElem?_cons_succ, List.set_cons_zero, List.set_cons_succ, Out.bind_ok, Out.of_some, Option.map_some, sb_ok, seq_nx, seq_rt, endB_rt, endB_nx, vw_bl, vw_non, vw_str, vw_tup, vw_lst, vw_own, vw_bor, cell_lst, toD_own, toD_val, i_vw, slot_val, slot_own, truth_bl, truth_sq, if_true, if_false, Bool.false_eq_true, Bool.not_true, Bool.not_false, reduceIte, toDs, Res.toD, o_len, o_list, o_tuple, o_rev, o_slT, o_add, o_sub, c_gt, c_ge, c_lt, ix0, ix1, ix2, c_lei, c_eqi, c_nei, c_eqs, c_nes, Nat.zero_le, sizeLine_eq, Nat.reduceLeDiff, Int.reduceNeg, isi_non_int, isi_non_bool, isi_non_str, isi_non_tuple, isi_non_list, isi_bl_int, isi_bl_bool, isi_bl_str, isi_bl_tuple, isi_bl_list, isi_int_int, isi_int_bool, isi_int_str, isi_int_tuple, isi_int_list, isi_str_int, isi_str_bool, isi_str_str, isi_str_tuple, isi_str_list, isi_tup_int, isi_tup_bool, isi_tup_str, isi_tup_tuple, isi_tup_list, isi_lst_int, isi_lst_bool, isi_lst_str, isi_lst_tuple, isi_lst_list])
--NS K07
section
variable {P : Nat → Option FDef} {st : Store}
def rowB : Sms := match b18 with
  | .cons _ (.cons (.for_ _ _ b) _) => b
  | _ => .nil
theorem row_step (h16 : P 16 = some d16) (h17 : P 17 = some d17) {T x : D} (h : Okd x) (hm : x.ml ≤ 4000) (k : Nat) :
    execSs (run P (k + 2)) rowB [some (.val T), some (.val x), none, none] st = if isRow x = true then .nx [some (.val T), some (.val x), none, none] st else .rt (.val (.bl false)) st := by
  unfold rowB b18
  dsimp only
  cases x with
  | obj _ _ => exact h.no_obj.elim
  | ptr _ => exact h.no_ptr.elim
  | scr _ => exact h.no_scr.elim
  | tup ws =>
    obtain ⟨hw, hl⟩ := h.tup
    obtain ⟨ps, hps, _⟩ := pys_of_ok hw
    walk_at "ev"
    rw [eq_nil hps]
    walk_at "ev"
    cases a : ws.isEmpty with
    | true => walk_at "ev"; simp [isRow, a]
    | false =>
      walk_at "ev"
      rw [comp_of (p := fun w => !isTup w) (f := id) hl fun y hy => ?_]
      · rw [List.map_id]
        walk_at "ev"
        obtain ⟨qs, hqs⟩ := filt_pys (p := fun x => !isTup x) hw
        rw [ne_nil hqs]
        walk_at "ev"
        rw [filt_nil]
        simp only [Bool.not_not]
        cases q : ws.all isTup with
        | false =>
          walk_at "ev"
          have : ws.all isWay = false := by
            rw [← Bool.not_eq_true, List.all_eq_true] at q ⊢
            intro z
            exact q fun x hx => by have := z x hx; cases x <;> first | rfl | cases this
          simp [isRow, this]
        | true =>
          walk_at "ev"
          rw [List.all_eq_true] at q
          rw [comp_of (p := fun w => !isWay w) (f := id) hl fun y hy => ?_]
          · rw [List.map_id]
            walk_at "ev"
            obtain ⟨qs, hqs⟩ := filt_pys (p := fun x => !isWay x) hw
            rw [ne_nil hqs]
            walk_at "ev"
            rw [filt_nil]
            simp only [Bool.not_not]
            cases q2 : ws.all isWay with
            | false => walk_at "ev"; simp [isRow, q2]
            | true => walk_at "ev"; simp [isRow, q2, a]
          · refine ⟨_, rfl, ?_, fun _ => rfl⟩
            have hy2 := hw y hy
            have ty := q y hy
            cases y <;> simp only [isTup, Bool.false_eq_true] at ty
            rename_i us
            obtain ⟨hu, hlu⟩ := hy2.tup
            have mu : ∀ u ∈ us, u.ml ≤ 4000 := fun u hu' => by
              have h1 := ml_mem hy
              have h2 := ml_mem hu'
              have h3 : (D.tup us).ml = max us.length (D.mls us) := rfl
              have h4 : (D.tup ws).ml = max ws.length (D.mls ws) := rfl
              omega
            show evalIfs _ _ [some (.val T), some (.val (.tup ws)), some (.val (.tup us)), none] st = _
            walk_at "ev"
            rw [none_ok (t := isWant) (by simp) hlu fun x m => r17 h16 h17 (hu x m) (mu x m) k]
            walk_at "ev"
            obtain ⟨qs, hqs⟩ := filt_pys (p := fun x => !isWant x) hu
            rw [ne_nil hqs]
            walk_at "ev"
            rw [filt_nil]
            simp [isWay]
      · refine ⟨_, rfl, ?_, fun _ => rfl⟩
        show evalIfs _ _ [some (.val T), some (.val (.tup ws)), some (.val y), none] st = _
        walk_at "ev"
        rw [o_isT (hw y hy)]
        walk_at "ev"
  | _ => walk_at "ev"; simp [isRow]
end
theorem r18 {P : Nat → Option FDef} {st : Store} (h16 : P 16 = some d16) (h17 : P 17 = some d17) (h18 : P 18 = some d18) {d : D} (h : Okd d) (hm : d.ml ≤ 4000) (k : Nat) : run P (k + 3) 18 [d] st = .ok (.val (.bl (isSheet d))) st := by
  rw [run1 h18]
  unfold b18
  cases d with
  | obj _ _ => exact h.no_obj.elim
  | ptr _ => exact h.no_ptr.elim
  | scr _ => exact h.no_scr.elim
  | tup rs =>
    obtain ⟨hw, hl⟩ := h.tup
    walk_at "ev"
    have s := for_search (put := (Tg.name 1).put) (body := fun e s => execSs (run P (k + 2)) rowB e s) (J := fun e => ∃ o, e = [some (.val (.tup rs)), o, none, none]) (st := st) (r := .val (.bl false)) isRow rs [some (.val (.tup rs)), none, none, none] (fun x hx e j => by
      obtain ⟨o, rfl⟩ := j
      refine ⟨_, rfl, ?_⟩
      have mx : x.ml ≤ 4000 := by
        have h1 := ml_mem hx
        have h3 : (D.tup rs).ml = max rs.length (D.mls rs) := rfl
        omega
      have := row_step (st := st) h16 h17 (T := .tup rs) (hw x hx) mx k
      simp only [List.set_cons_succ, List.set_cons_zero]
      cases q : isRow x with
      | true =>
        rw [q, if_pos rfl] at this
        rw [if_pos rfl]
        exact ⟨_, this, _, rfl⟩
      | false =>
        rw [q, if_neg Bool.false_ne_true] at this
        rw [if_neg Bool.false_ne_true]
        exact this) ⟨none, rfl⟩
    simp only [rowB, b18] at s
    cases q : rs.all isRow with
    | true =>
      rw [q, if_pos rfl] at s
      obtain ⟨e1, s1, o, rfl⟩ := s
      rw [s1]
      walk_at "ev"
      simp [isSheet, q]
    | false =>
      rw [q, if_neg Bool.false_ne_true] at s
      rw [s]
      walk_at "ev"
      simp [isSheet, q]
  | _ => walk_at "ev"; simp [isSheet]
def smP := smOr smBent (smT [sNames, sSheet])
def okE (E : AEnv) : Bool := lenIs 13 E && (valIn 5 (one (.seq false 2 2 sheetV)) E && ownWn 4 ⟨16700000, 20, 500, 4000⟩ E)
theorem pre_good : outB (absSs (absF P 10 smP 20) 10 (takeS 7 (dropS 2 b21)) (E0 11)) okE = true := by decide +kernel
theorem subA : ∀ f d, G.PA f = some d → P f = some d := sub_list (l := [(10, d10), (11, d11), (12, d12), (13, d13), (14, d14), (15, d15)]) (m := [(0, d0), (1, d1), (2, d2), (3, d3), (4, d4), (5, d5), (6, d6), (7, d7), (8, d8), (9, d9), (10, d10), (11, d11), (12, d12), (13, d13), (14, d14), (15, d15), (16, d16), (17, d17), (18, d18), (19, d19), (20, d20), (21, d21)]) (by simp [List.lookup])
theorem smP_ok : ∀ k j, k ≤ j → CallOk (smP k) (run P (j + 1)) (FeedI []) := smOr_ok (smBent_ok rfl rfl) (smT_ok fun s h => by
  rcases List.mem_cons.mp h with rfl | h
  · exact names_ok subA
  · rw [List.mem_singleton.mp h]; exact sheet_ok subA)
def thingB : Sms := match b21 with
  | .cons _ (.cons _ (.cons _ (.cons _ (.cons _ (.cons _ (.cons _ (.cons _ (.cons _ (.cons _ (.cons _ (.cons (.for_ _ _ b) _))))))))))) => b
  | _ => .nil
theorem loop1 {k : Nat} {st : Store} {xs : List D} {e0 e1 e2 e3 e5 e6 e7 e8 e9 e10 e11 e12 : Option Res} {fb : Bool → Str} (hb : ∀ b, opBI .repr [.at (.bl b)] = some (.val (.str (fb b)))) (hx : Wn ⟨16700000, 20, 500, 4000⟩ (.lst xs)) :
    ∃ o, forL (Tg.name 10).put (fun e s => execSs (run P (k + 7)) thingB e s) xs [e0, e1, e2, e3, some (.val (.lst xs)), e5, e6, e7, e8, e9, e10, e11, e12] st = .nx [e0, e1, e2, e3, some (.val (.lst xs)), e5, e6, e7, e8, e9, o, e11, e12] st := by
  obtain ⟨e, h1, o, rfl⟩ := for_inv (put := (Tg.name 10).put) (body := fun e s => execSs (run P (k + 7)) thingB e s) (J := fun e => ∃ o, e = [e0, e1, e2, e3, some (.val (.lst xs)), e5, e6, e7, e8, e9, o, e11, e12]) (st := st) xs [e0, e1, e2, e3, some (.val (.lst xs)), e5, e6, e7, e8, e9, e10, e11, e12] (fun x hm e j => by
    obtain ⟨o, rfl⟩ := j
    have wx := hx.mem hm
    refine ⟨_, [e0, e1, e2, e3, some (.val (.lst xs)), e5, e6, e7, e8, e9, some (.val x), e11, e12], rfl, ?_, _, rfl⟩
    simp only [thingB, b21]
    walk_at "ev"
    rw [r7 rfl rfl rfl rfl rfl rfl rfl rfl (wx.okd (by decide)) (k + 1)]
    walk_at "ev"
    rw [hb]
    walk_at "ev"
    rw [r18 rfl rfl rfl (wx.okd (by decide)) wx.ml (k + 4)]
    walk_at "ev"
    rw [hb]
    walk_at "ev"
    simp only [beq_self_eq_true]
    walk_at "ev") ⟨_, rfl⟩
  exact ⟨o, h1⟩
def cutR : D → D
  | .tup ws => .tup (cutD ws none (some 1))
  | d => d
def cutS : D → D
  | .tup rows => .tup (rows.map cutR)
  | d => d
theorem sheet_shape {x : D} (h : AV.g sheetV x) : ∃ rows, x = .tup rows ∧ rows.length ≤ 3 ∧ (∀ r ∈ rows, isTup r = true) ∧ ∀ r ∈ rows, Okd r := by
  have w : Wn ⟨16700000, 20, 500, 4000⟩ x := wn_of (by decide +kernel) h
  simp only [sheetV, one, AV.g, At.g, or_false] at h
  obtain ⟨rows, rfl, h1, h2, h3⟩ := h
  refine ⟨rows, rfl, h2, fun r hr => ?_, (w.okd (by decide)).tup.1⟩
  obtain ⟨ws, rfl, _⟩ := h3 r hr
  rfl
def oneB : Sms := match b21 with
  | .cons _ (.cons _ (.cons _ (.cons _ (.cons _ (.cons _ (.cons _ (.cons _ (.cons _ (.cons _ (.cons _ (.cons _ (.cons (.for_ _ _ b) _)))))))))))) => b
  | _ => .nil
theorem loop2 {k : Nat} {st : Store} {e0 e1 e2 e3 e4 e5 e6 e7 e8 e9 e10 e11 e12 : Option Res} {fb : Bool → Str} (hb : ∀ b, opBI .repr [.at (.bl b)] = some (.val (.str (fb b)))) (zs : List D) (hz : ∀ z ∈ zs, ∃ rows, z = .tup rows ∧ rows.length ≤ 3 ∧ (∀ r ∈ rows, isTup r = true) ∧ ∀ r ∈ rows, Okd r) :
    ∃ o, forL (Tg.name 6).put (fun e s => execSs (run P (k + 7)) oneB e s) zs [e0, e1, e2, e3, e4, e5, e6, e7, e8, e9, e10, e11, e12] st = .nx [e0, e1, e2, e3, e4, e5, o, e7, e8, e9, e10, e11, e12] st := by
  obtain ⟨e, h1, o, rfl⟩ := for_inv (put := (Tg.name 6).put) (body := fun e s => execSs (run P (k + 7)) oneB e s) (J := fun e => ∃ o, e = [e0, e1, e2, e3, e4, e5, o, e7, e8, e9, e10, e11, e12]) (st := st) zs [e0, e1, e2, e3, e4, e5, e6, e7, e8, e9, e10, e11, e12] (fun x hm e j => by
    obtain ⟨o, rfl⟩ := j
    obtain ⟨rows, rfl, hl, ht, ho⟩ := hz x hm
    refine ⟨_, [e0, e1, e2, e3, e4, e5, some (.val (.tup rows)), e7, e8, e9, e10, e11, e12], rfl, ?_, _, rfl⟩
    simp only [oneB, b21]
    walk_at "ev"
    rw [r8 rfl (by omega) ht (k + 6)]
    walk_at "ev"
    rw [hb]
    walk_at "ev"
    rw [comp_of (p := fun r => !isOne r) (f := id) (by omega) fun y hy => ?_]
    · rw [List.map_id]
      walk_at "ev"
      obtain ⟨qs, hqs⟩ := filt_pys (p := fun r => !isOne r) ho
      rw [eq_nil hqs]
      walk_at "ev"
      rw [filt_nil]
      simp only [Bool.not_not]
      rw [hb]
      walk_at "ev"
      simp only [beq_self_eq_true]
      walk_at "ev"
    · refine ⟨_, rfl, ?_, fun _ => rfl⟩
      have := ht y hy
      cases y <;> simp only [isTup, Bool.false_eq_true] at this
      rename_i ws
      show evalIfs _ _ [e0, e1, e2, e3, e4, e5, some (.val (.tup rows)), e7, e8, e9, e10, e11, some (.val (.tup ws))] st = _
      walk_at "ev"
      simp only [isOne]
      congr 2
      rw [Bool.eq_iff_iff, beq_iff_eq, beq_iff_eq]
      omega) ⟨_, rfl⟩
  exact ⟨o, h1⟩
theorem post_run {k : Nat} {st : Store} {xs ss : List D} {e0 e1 e2 e3 e6 e7 e8 e9 e10 e11 e12 : Option Res} (hx : Wn ⟨16700000, 20, 500, 4000⟩ (.lst xs)) (hs : ∀ x ∈ ss, AV.g sheetV x) (hl : ss.length ≤ 2) :
    execSs (run P (k + 7)) (dropS 9 b21) [e0, e1, e2, e3, some (.own (.lst xs)), some (.val (.lst ss)), e6, e7, e8, e9, e10, e11, e12] st = .rt (.val (.bl true)) st := by
  obtain ⟨s, hr⟩ := hx.repr (by decide) (by decide) (by decide)
  obtain ⟨fb, hb⟩ := reprB
  simp only [dropS, b21]
  walk_at "ev"
  rw [hr (.sq false xs) rfl]
  walk_at "ev"
  obtain ⟨o1, h1⟩ := loop1 (k := k) (st := st) (e0 := e0) (e1 := e1) (e2 := e2) (e3 := e3) (e5 := some (.val (.lst ss))) (e6 := e6) (e7 := e7) (e8 := e8) (e9 := some (.val (.str s))) (e10 := e10) (e11 := e11) (e12 := e12) hb hx
  simp only [thingB, b21] at h1
  rw [h1]
  walk_at "ev"
  have hl2 : ∀ {n : Nat}, n ≤ 3 → n ≤ 16777216 := fun h => by omega
  rw [comp_map (f := cutS) (by omega) fun y hy => ?_]
  · walk_at "ev"
    rw [o_addL (by simp only [List.length_map]; omega)]
    walk_at "ev"
    rw [o_addL (by simp only [List.length_append, List.length_map, List.length_cons, List.length_nil]; omega)]
    walk_at "ev"
    obtain ⟨o2, h2⟩ := loop2 (k := k) (st := st) (e0 := e0) (e1 := e1) (e2 := e2) (e3 := e3) (e4 := some (.val (.lst xs))) (e5 := some (.val (.lst ss))) (e6 := e6) (e7 := e7) (e8 := e8) (e9 := some (.val (.str s))) (e10 := o1) (e11 := e11) (e12 := e12) hb (ss ++ ss.map cutS ++ [.tup []]) fun z hz => by
      rw [List.mem_append, List.mem_append] at hz
      rcases hz with (hz | hz) | hz
      · exact sheet_shape (hs z hz)
      · obtain ⟨y, hy, rfl⟩ := List.mem_map.mp hz
        obtain ⟨rows, rfl, h1, h2, h3⟩ := sheet_shape (hs y hy)
        refine ⟨rows.map cutR, rfl, by rw [List.length_map]; exact h1, fun r hr => ?_, fun r hr => ?_⟩
        all_goals
          obtain ⟨q, hq, rfl⟩ := List.mem_map.mp hr
          have := h2 q hq
          have h3 := h3 q hq
          cases q <;> simp only [isTup, Bool.false_eq_true] at this
        · rfl
        · exact okd_cut h3
      · rw [List.mem_singleton.mp hz]
        exact ⟨[], rfl, Nat.zero_le _, (fun r hr => by cases hr), fun r hr => by cases hr⟩
    simp only [oneB, b21] at h2
    rw [h2]
    walk_at "ev"
    rw [hr (.sq false xs) rfl]
    walk_at "ev"
    simp only [beq_self_eq_true]
  · obtain ⟨rows, rfl, h1, h2, _⟩ := sheet_shape (hs y hy)
    refine ⟨_, rfl, rfl, ?_⟩
    show evalE _ _ [e0, e1, e2, e3, some (.val (.lst xs)), some (.val (.lst ss)), some (.val (.tup rows)), e7, e8, some (.val (.str s)), o1, e11, e12] st = _
    walk_at "ev"
    rw [comp_map (f := cutR) (by omega) fun z hz => ?_]
    · walk_at "ev"
      simp only [cutS]
    · refine ⟨_, rfl, rfl, ?_⟩
      have := h2 z hz
      cases z <;> simp only [isTup, Bool.false_eq_true] at this
      rename_i ws
      show evalE _ _ [e0, e1, e2, e3, some (.val (.lst xs)), some (.val (.lst ss)), some (.val (.tup rows)), e7, e8, some (.val (.str s)), o1, e11, some (.val (.tup ws))] st = _
      walk_at "ev"
      simp only [cutR]
theorem pure_law (ns : List Int) (h : ns.length ≤ 63) : ∃ st, run P 220 21 [.scr ns] [] = .ok (.val (.bl true)) st := by
  rw [run_eq (k := 219) (d := d21) rfl]
  obtain ⟨en, st', E, a1, a2, a3, a4⟩ := drawn_run (P := P) (k := 219) (fun f d e => e) rfl smP_ok pre_good (by decide) (by decide) (some (.val (.scr ns))) (st := [some (fdC ns 0 0 0)]) ⟨ns, 0, 0, 0, rfl, h, by omega, by omega⟩
  simp only [okE, Bool.and_eq_true] at a4
  have hn := lenIs_ok a4.1 a3
  obtain ⟨d5, v5, g5⟩ := valIn_ok a4.2.1 a3
  obtain ⟨xs, v4, g4⟩ := ownWn_ok a4.2.2 a3
  refine ⟨st', ?_⟩
  show endB (execSs (run P 219) b21 (some (.val (.scr ns)) :: none :: List.replicate 11 none) []) = _
  have := start2 (P := P) (k := 217) (b := b21) (n := 11) rfl rfl h
  rw [cut_nx 2 this, cut_nx 7 a1]
  simp only [one, AV.g, At.g, or_false] at g5
  obtain ⟨ss, rfl, l1, l2, g5⟩ := g5
  match en, hn with
  | [e0, e1, e2, e3, e4, e5, e6, e7, e8, e9, e10, e11, e12], _ =>
    simp only [List.getElem?_cons_zero, List.getElem?_cons_succ, Option.some.injEq] at v4 v5
    subst v4 v5
    show endB (execSs (run P 219) (dropS 9 b21) [e0, e1, e2, e3, some (.own (.lst xs)), some (.val (.lst ss)), e6, e7, e8, e9, e10, e11, e12] st') = _
    rw [post_run (k := 212) g4 g5 l2]
    rfl
end K07
end

section
set_option maxRecDepth 100000
set_option maxHeartbeats 4000000
set_option linter.all false
namespace K07
open PySem L2 Py G PySem.Spec PyProof.Rows

def sg : Sg := ⟨[(0, ("is_number" : Str), ["thing"]), (1, ("is_word" : Str), ["thing"]), (2, ("is_many" : Str), ["thing"]), (3, ("is_shades" : Str), ["thing"]), (4, ("is_want" : Str), ["thing"]), (5, ("is_way" : Str), ["thing"]), (6, ("is_row" : Str), ["thing"]), (7, ("is_sheet" : Str), ["thing"]), (8, ("is_plain" : Str), ["sheet"]), (9, ("_law_feed" : Str), ["_law_script"]), (10, ("_law_draw" : Str), ["_law_feed_here", "_law_many_here"]), (11, ("_law_names" : Str), ["_law_feed_here", "_law_many_here"]), (12, ("_law_many" : Str), ["_law_feed_here"]), (13, ("_law_want" : Str), ["_law_feed_here", "_law_forms", "_law_shades"]), (14, ("_law_sheet" : Str), ["_law_feed_here", "_law_forms", "_law_shades", "_law_most_now"]), (15, ("_law_bent" : Str), ["_law_feed_here", "_law_thing"]), (16, ("_law_word" : Str), ["_law_thing"]), (17, ("_law_wanted" : Str), ["_law_thing"]), (18, ("_law_due" : Str), ["_law_thing"]), (19, ("_law_otherwise" : Str), ["_law_thing"]), (20, ("_law_near" : Str), ["_law_feed_here", "_law_sheet_here"]), (21, ("law" : Str), ["_law_script"])], [(("LETTERS" : Str), .str ("abcdefghijklmnopqrstuvwxyz" : Str)), (("MOST_LETTERS" : Str), .int 8)]⟩
def s0 : Stmt := PySem.Challenge.pw_partkits_k07_sheets_by_kind.main.body.getD 3 (.Pass ⟨0, 0, 0, 0⟩)
def N0 : List Str := ["thing"]
theorem c0 : chkSs sg N0 (defScope s0) b0 (defBody s0) = true := by decide +kernel
theorem z0 : FnScope N0 ["thing"] (defScope s0) := ⟨rfl, rfl, rfl, by decide +kernel, rfl, by decide +kernel, by decide +kernel⟩
def s1 : Stmt := PySem.Challenge.pw_partkits_k07_sheets_by_kind.main.body.getD 4 (.Pass ⟨0, 0, 0, 0⟩)
def N1 : List Str := ["thing", "sign"]
theorem c1 : chkSs sg N1 (defScope s1) b1 (defBody s1) = true := by decide +kernel
theorem z1 : FnScope N1 ["thing"] (defScope s1) := ⟨rfl, rfl, rfl, by decide +kernel, rfl, by decide +kernel, by decide +kernel⟩
def s2 : Stmt := PySem.Challenge.pw_partkits_k07_sheets_by_kind.main.body.getD 5 (.Pass ⟨0, 0, 0, 0⟩)
def N2 : List Str := ["thing"]
theorem c2 : chkSs sg N2 (defScope s2) b2 (defBody s2) = true := by decide +kernel
theorem z2 : FnScope N2 ["thing"] (defScope s2) := ⟨rfl, rfl, rfl, by decide +kernel, rfl, by decide +kernel, by decide +kernel⟩
def s3 : Stmt := PySem.Challenge.pw_partkits_k07_sheets_by_kind.main.body.getD 7 (.Pass ⟨0, 0, 0, 0⟩)
def N3 : List Str := ["thing", "one", "k"]
theorem c3 : chkSs sg N3 (defScope s3) b3 (defBody s3) = true := by decide +kernel
theorem z3 : FnScope N3 ["thing"] (defScope s3) := ⟨rfl, rfl, rfl, by decide +kernel, rfl, by decide +kernel, by decide +kernel⟩
def s4 : Stmt := PySem.Challenge.pw_partkits_k07_sheets_by_kind.main.body.getD 8 (.Pass ⟨0, 0, 0, 0⟩)
def N4 : List Str := ["thing"]
theorem c4 : chkSs sg N4 (defScope s4) b4 (defBody s4) = true := by decide +kernel
theorem z4 : FnScope N4 ["thing"] (defScope s4) := ⟨rfl, rfl, rfl, by decide +kernel, rfl, by decide +kernel, by decide +kernel⟩
def s5 : Stmt := PySem.Challenge.pw_partkits_k07_sheets_by_kind.main.body.getD 9 (.Pass ⟨0, 0, 0, 0⟩)
def N5 : List Str := ["thing", "one"]
theorem c5 : chkSs sg N5 (defScope s5) b5 (defBody s5) = true := by decide +kernel
theorem z5 : FnScope N5 ["thing"] (defScope s5) := ⟨rfl, rfl, rfl, by decide +kernel, rfl, by decide +kernel, by decide +kernel⟩
def s6 : Stmt := PySem.Challenge.pw_partkits_k07_sheets_by_kind.main.body.getD 10 (.Pass ⟨0, 0, 0, 0⟩)
def N6 : List Str := ["thing", "one"]
theorem c6 : chkSs sg N6 (defScope s6) b6 (defBody s6) = true := by decide +kernel
theorem z6 : FnScope N6 ["thing"] (defScope s6) := ⟨rfl, rfl, rfl, by decide +kernel, rfl, by decide +kernel, by decide +kernel⟩
def s7 : Stmt := PySem.Challenge.pw_partkits_k07_sheets_by_kind.main.body.getD 11 (.Pass ⟨0, 0, 0, 0⟩)
def N7 : List Str := ["thing", "one"]
theorem c7 : chkSs sg N7 (defScope s7) b7 (defBody s7) = true := by decide +kernel
theorem z7 : FnScope N7 ["thing"] (defScope s7) := ⟨rfl, rfl, rfl, by decide +kernel, rfl, by decide +kernel, by decide +kernel⟩
def s8 : Stmt := PySem.Challenge.pw_partkits_k07_sheets_by_kind.main.body.getD 12 (.Pass ⟨0, 0, 0, 0⟩)
def N8 : List Str := ["sheet", "row"]
theorem c8 : chkSs sg N8 (defScope s8) b8 (defBody s8) = true := by decide +kernel
theorem z8 : FnScope N8 ["sheet"] (defScope s8) := ⟨rfl, rfl, rfl, by decide +kernel, rfl, by decide +kernel, by decide +kernel⟩
def s9 : Stmt := PySem.Challenge.pw_partkits_k07_sheets_by_kind.main.body.getD 14 (.Pass ⟨0, 0, 0, 0⟩)
def N9 : List Str := ["_law_script"]
theorem c9 : chkSs sg N9 (defScope s9) b9 (defBody s9) = true := by decide +kernel
theorem z9 : FnScope N9 ["_law_script"] (defScope s9) := ⟨rfl, rfl, rfl, by decide +kernel, rfl, by decide +kernel, by decide +kernel⟩
def s10 : Stmt := PySem.Challenge.pw_partkits_k07_sheets_by_kind.main.body.getD 15 (.Pass ⟨0, 0, 0, 0⟩)
def N10 : List Str := ["_law_feed_here", "_law_many_here", "_law_figure", "_law_at", "_law_cell", "_law_mixed"]
theorem c10 : chkSs sg N10 (defScope s10) b10 (defBody s10) = true := by decide +kernel
theorem z10 : FnScope N10 ["_law_feed_here", "_law_many_here"] (defScope s10) := ⟨rfl, rfl, rfl, by decide +kernel, rfl, by decide +kernel, by decide +kernel⟩
def s11 : Stmt := PySem.Challenge.pw_partkits_k07_sheets_by_kind.main.body.getD 16 (.Pass ⟨0, 0, 0, 0⟩)
def N11 : List Str := ["_law_feed_here", "_law_many_here", "_law_letters", "_law_found", "_law_at", "_law_k", "_law_tail", "_law_j"]
theorem c11 : chkSs sg N11 (defScope s11) b11 (defBody s11) = true := by decide +kernel
theorem z11 : FnScope N11 ["_law_feed_here", "_law_many_here"] (defScope s11) := ⟨rfl, rfl, rfl, by decide +kernel, rfl, by decide +kernel, by decide +kernel⟩
def s12 : Stmt := PySem.Challenge.pw_partkits_k07_sheets_by_kind.main.body.getD 17 (.Pass ⟨0, 0, 0, 0⟩)
def N12 : List Str := ["_law_feed_here"]
theorem c12 : chkSs sg N12 (defScope s12) b12 (defBody s12) = true := by decide +kernel
theorem z12 : FnScope N12 ["_law_feed_here"] (defScope s12) := ⟨rfl, rfl, rfl, by decide +kernel, rfl, by decide +kernel, by decide +kernel⟩
def s13 : Stmt := PySem.Challenge.pw_partkits_k07_sheets_by_kind.main.body.getD 18 (.Pass ⟨0, 0, 0, 0⟩)
def N13 : List Str := ["_law_feed_here", "_law_forms", "_law_shades", "_law_form", "_law_some", "_law_shade"]
theorem c13 : chkSs sg N13 (defScope s13) b13 (defBody s13) = true := by decide +kernel
theorem z13 : FnScope N13 ["_law_feed_here", "_law_forms", "_law_shades"] (defScope s13) := ⟨rfl, rfl, rfl, by decide +kernel, rfl, by decide +kernel, by decide +kernel⟩
def s14 : Stmt := PySem.Challenge.pw_partkits_k07_sheets_by_kind.main.body.getD 19 (.Pass ⟨0, 0, 0, 0⟩)
def N14 : List Str := ["_law_feed_here", "_law_forms", "_law_shades", "_law_most_now", "_law_rows", "_law_k", "_law_ways", "_law_j", "_law_i"]
theorem c14 : chkSs sg N14 (defScope s14) b14 (defBody s14) = true := by decide +kernel
theorem z14 : FnScope N14 ["_law_feed_here", "_law_forms", "_law_shades", "_law_most_now"] (defScope s14) := ⟨rfl, rfl, rfl, by decide +kernel, rfl, by decide +kernel, by decide +kernel⟩
def s15 : Stmt := PySem.Challenge.pw_partkits_k07_sheets_by_kind.main.body.getD 20 (.Pass ⟨0, 0, 0, 0⟩)
def N15 : List Str := ["_law_feed_here", "_law_thing", "_law_at", "_law_mode", "_law_odd"]
theorem c15 : chkSs sg N15 (defScope s15) b15 (defBody s15) = true := by decide +kernel
theorem z15 : FnScope N15 ["_law_feed_here", "_law_thing"] (defScope s15) := ⟨rfl, rfl, rfl, by decide +kernel, rfl, by decide +kernel, by decide +kernel⟩
def s16 : Stmt := PySem.Challenge.pw_partkits_k07_sheets_by_kind.main.body.getD 21 (.Pass ⟨0, 0, 0, 0⟩)
def N16 : List Str := ["_law_thing", "_law_sign"]
theorem c16 : chkSs sg N16 (defScope s16) b16 (defBody s16) = true := by decide +kernel
theorem z16 : FnScope N16 ["_law_thing"] (defScope s16) := ⟨rfl, rfl, rfl, by decide +kernel, rfl, by decide +kernel, by decide +kernel⟩
def s17 : Stmt := PySem.Challenge.pw_partkits_k07_sheets_by_kind.main.body.getD 22 (.Pass ⟨0, 0, 0, 0⟩)
def N17 : List Str := ["_law_thing", "_law_form", "_law_some", "_law_many_here", "_law_one"]
theorem c17 : chkSs sg N17 (defScope s17) b17 (defBody s17) = true := by decide +kernel
theorem z17 : FnScope N17 ["_law_thing"] (defScope s17) := ⟨rfl, rfl, rfl, by decide +kernel, rfl, by decide +kernel, by decide +kernel⟩
def s18 : Stmt := PySem.Challenge.pw_partkits_k07_sheets_by_kind.main.body.getD 23 (.Pass ⟨0, 0, 0, 0⟩)
def N18 : List Str := ["_law_thing", "_law_row", "_law_way", "_law_one"]
theorem c18 : chkSs sg N18 (defScope s18) b18 (defBody s18) = true := by decide +kernel
theorem z18 : FnScope N18 ["_law_thing"] (defScope s18) := ⟨rfl, rfl, rfl, by decide +kernel, rfl, by decide +kernel, by decide +kernel⟩
def s19 : Stmt := PySem.Challenge.pw_partkits_k07_sheets_by_kind.main.body.getD 24 (.Pass ⟨0, 0, 0, 0⟩)
def N19 : List Str := ["_law_thing"]
theorem c19 : chkSs sg N19 (defScope s19) b19 (defBody s19) = true := by decide +kernel
theorem z19 : FnScope N19 ["_law_thing"] (defScope s19) := ⟨rfl, rfl, rfl, by decide +kernel, rfl, by decide +kernel, by decide +kernel⟩
def s20 : Stmt := PySem.Challenge.pw_partkits_k07_sheets_by_kind.main.body.getD 25 (.Pass ⟨0, 0, 0, 0⟩)
def N20 : List Str := ["_law_feed_here", "_law_sheet_here", "_law_found", "_law_k", "_law_row", "_law_j", "_law_one"]
theorem c20 : chkSs sg N20 (defScope s20) b20 (defBody s20) = true := by decide +kernel
theorem z20 : FnScope N20 ["_law_feed_here", "_law_sheet_here"] (defScope s20) := ⟨rfl, rfl, rfl, by decide +kernel, rfl, by decide +kernel, by decide +kernel⟩
def s21 : Stmt := PySem.Challenge.pw_partkits_k07_sheets_by_kind.main.body.getD 26 (.Pass ⟨0, 0, 0, 0⟩)
def N21 : List Str := ["_law_script", "_law_feed_here", "_law_forms", "_law_shades", "_law_things", "_law_some", "_law_sheet_here", "_law_wide", "_law_at", "_law_before", "_law_thing", "_law_k", "_law_row"]
theorem c21 : chkSs sg N21 (defScope s21) b21 (defBody s21) = true := by decide +kernel
theorem z21 : FnScope N21 ["_law_script"] (defScope s21) := ⟨rfl, rfl, rfl, by decide +kernel, rfl, by decide +kernel, by decide +kernel⟩
/-- all defs, behind the top -/
theorem all_of {w : World} {K : PySem.W.Frag} {h : Heap} {mg : Str → Option Value} {fa : Addr} (KX : K.In h) (G : h.Ns mainGlobals mg) (hfa : mg "law" = some (.ref fa))
    (a0 : ∃ (f : Addr) (fd : FuncData), DF K s0 ("is_number" : Str) f fd)
    (a1 : ∃ (f : Addr) (fd : FuncData), DF K s1 ("is_word" : Str) f fd)
    (a2 : ∃ (f : Addr) (fd : FuncData), DF K s2 ("is_many" : Str) f fd)
    (a3 : ∃ (f : Addr) (fd : FuncData), DF K s3 ("is_shades" : Str) f fd)
    (a4 : ∃ (f : Addr) (fd : FuncData), DF K s4 ("is_want" : Str) f fd)
    (a5 : ∃ (f : Addr) (fd : FuncData), DF K s5 ("is_way" : Str) f fd)
    (a6 : ∃ (f : Addr) (fd : FuncData), DF K s6 ("is_row" : Str) f fd)
    (a7 : ∃ (f : Addr) (fd : FuncData), DF K s7 ("is_sheet" : Str) f fd)
    (a8 : ∃ (f : Addr) (fd : FuncData), DF K s8 ("is_plain" : Str) f fd)
    (a9 : ∃ (f : Addr) (fd : FuncData), DF K s9 ("_law_feed" : Str) f fd)
    (a10 : ∃ (f : Addr) (fd : FuncData), DF K s10 ("_law_draw" : Str) f fd)
    (a11 : ∃ (f : Addr) (fd : FuncData), DF K s11 ("_law_names" : Str) f fd)
    (a12 : ∃ (f : Addr) (fd : FuncData), DF K s12 ("_law_many" : Str) f fd)
    (a13 : ∃ (f : Addr) (fd : FuncData), DF K s13 ("_law_want" : Str) f fd)
    (a14 : ∃ (f : Addr) (fd : FuncData), DF K s14 ("_law_sheet" : Str) f fd)
    (a15 : ∃ (f : Addr) (fd : FuncData), DF K s15 ("_law_bent" : Str) f fd)
    (a16 : ∃ (f : Addr) (fd : FuncData), DF K s16 ("_law_word" : Str) f fd)
    (a17 : ∃ (f : Addr) (fd : FuncData), DF K s17 ("_law_wanted" : Str) f fd)
    (a18 : ∃ (f : Addr) (fd : FuncData), DF K s18 ("_law_due" : Str) f fd)
    (a19 : ∃ (f : Addr) (fd : FuncData), DF K s19 ("_law_otherwise" : Str) f fd)
    (a20 : ∃ (f : Addr) (fd : FuncData), DF K s20 ("_law_near" : Str) f fd)
    (a21 : ∃ (f : Addr) (fd : FuncData), DF K s21 ("law" : Str) f fd)
    (e0 : ∃ t : Value, PySem.W.nsIn K mainGlobals ("LETTERS" : Str) = some (some t) ∧ RelV (.str ("abcdefghijklmnopqrstuvwxyz" : Str)) t)
    (e1 : ∃ t : Value, PySem.W.nsIn K mainGlobals ("MOST_LETTERS" : Str) = some (some t) ∧ RelV (.int 8) t)
    (bn : ∀ x ∈ biNames, PySem.W.nsIn K mainGlobals x = some none) :
    ∃ fd : FuncData, (∀ (s : Shared) (u : Value), BindsTo s fd ⟨[u], []⟩ [("_law_script", u)]) ∧ ∀ base : Heap, K.In base → base.Ns mainGlobals mg → ∃ Γ : Py.Ctx, Γ.prog = PySem.Challenge.pw_partkits_k07_sheets_by_kind ∧ Γ.w = w ∧ Γ.K = K ∧ Γ.mg = mg ∧ Γ.base = base ∧ FnG Γ 220 fa fd ["_law_script"] (spD Γ (run P 220 21) 1) := by
  obtain ⟨f0, g0, a0⟩ := a0
  obtain ⟨f1, g1, a1⟩ := a1
  obtain ⟨f2, g2, a2⟩ := a2
  obtain ⟨f3, g3, a3⟩ := a3
  obtain ⟨f4, g4, a4⟩ := a4
  obtain ⟨f5, g5, a5⟩ := a5
  obtain ⟨f6, g6, a6⟩ := a6
  obtain ⟨f7, g7, a7⟩ := a7
  obtain ⟨f8, g8, a8⟩ := a8
  obtain ⟨f9, g9, a9⟩ := a9
  obtain ⟨f10, g10, a10⟩ := a10
  obtain ⟨f11, g11, a11⟩ := a11
  obtain ⟨f12, g12, a12⟩ := a12
  obtain ⟨f13, g13, a13⟩ := a13
  obtain ⟨f14, g14, a14⟩ := a14
  obtain ⟨f15, g15, a15⟩ := a15
  obtain ⟨f16, g16, a16⟩ := a16
  obtain ⟨f17, g17, a17⟩ := a17
  obtain ⟨f18, g18, a18⟩ := a18
  obtain ⟨f19, g19, a19⟩ := a19
  obtain ⟨f20, g20, a20⟩ := a20
  obtain ⟨f21, g21, a21⟩ := a21
  obtain ⟨t0, e0, r0⟩ := e0
  obtain ⟨t1, e1, r1⟩ := e1
  have e := hfa.symm.trans (PySem.W.mg_of KX G a21.a)
  cases e
  have bl : Binds K g21 ["_law_script"] [] := a21.F.binds fun _ _ _ _ _ _ us hl => match us, hl with | [_], _ => rfl
  refine ⟨g21, fun s u => ?_, fun base hK hG => ?_⟩
  · obtain ⟨oc, od, kV, doc, pm, an, cdv, ct, osl, rfl, lk, hcd⟩ := a21.F.ex
    exact .of_eq rfl
  obtain ⟨adr, hadr⟩ : ∃ adr : Nat → Addr, adr = fun i => (List.lookup i [(0, f0), (1, f1), (2, f2), (3, f3), (4, f4), (5, f5), (6, f6), (7, f7), (8, f8), (9, f9), (10, f10), (11, f11), (12, f12), (13, f13), (14, f14), (15, f15), (16, f16), (17, f17), (18, f18), (19, f19), (20, f20), (21, fa)]).getD fa := ⟨_, rfl⟩
  obtain ⟨fdf, hfdf⟩ : ∃ fdf : Nat → FuncData, fdf = fun i => (List.lookup i [(0, g0), (1, g1), (2, g2), (3, g3), (4, g4), (5, g5), (6, g6), (7, g7), (8, g8), (9, g9), (10, g10), (11, g11), (12, g12), (13, g13), (14, g14), (15, g15), (16, g16), (17, g17), (18, g18), (19, g19), (20, g20), (21, g21)]).getD g21 := ⟨_, rfl⟩
  let Γ : Py.Ctx := ⟨PySem.Challenge.pw_partkits_k07_sheets_by_kind, w, K, mg, base, fun _ => none, fun _ => none⟩
  have bi : BiOk Γ := biOk_of fun x hx => PySem.W.mg_none_of KX G (bn x hx)
  have cs : CsOk Γ (sg.tab adr fdf) := by
    refine ⟨fun x d hx => ?_⟩
    have hx : sg.cs.lookup x = some d := hx
    unfold sg at hx
    rw [List.lookup_cons] at hx
    split at hx
    · rename_i ex
      have ex : x = ("LETTERS" : Str) := by simpa using ex
      cases hx
      subst ex
      exact ⟨t0, _, PySem.W.mg_of KX G e0, r0, fun _ _ => .str _ (by decide +kernel)⟩
    rw [List.lookup_cons] at hx
    split at hx
    · rename_i ex
      have ex : x = ("MOST_LETTERS" : Str) := by simpa using ex
      cases hx
      subst ex
      exact ⟨t1, _, PySem.W.mg_of KX G e1, r1, fun _ _ => .int _⟩
    cases hx
  have fs : ∀ f i, (sg.tab adr fdf).fn f = some i → DefAt Γ (sg.tab adr fdf) P f i := by
    intro f i hi
    subst hadr hfdf
    obtain ⟨p, hp, rfl, rfl⟩ := Sg.tab_fn hi
    simp only [sg, List.mem_cons, List.not_mem_nil, or_false] at hp
    rcases hp with rfl | rfl | rfl | rfl | rfl | rfl | rfl | rfl | rfl | rfl | rfl | rfl | rfl | rfl | rfl | rfl | rfl | rfl | rfl | rfl | rfl | rfl
    · exact defAt_of (h := h) KX G a0 rfl z0 rfl c0 fun _ _ _ _ _ _ us hl => match us, hl with | [_], _ => rfl
    · exact defAt_of (h := h) KX G a1 rfl z1 rfl c1 fun _ _ _ _ _ _ us hl => match us, hl with | [_], _ => rfl
    · exact defAt_of (h := h) KX G a2 rfl z2 rfl c2 fun _ _ _ _ _ _ us hl => match us, hl with | [_], _ => rfl
    · exact defAt_of (h := h) KX G a3 rfl z3 rfl c3 fun _ _ _ _ _ _ us hl => match us, hl with | [_], _ => rfl
    · exact defAt_of (h := h) KX G a4 rfl z4 rfl c4 fun _ _ _ _ _ _ us hl => match us, hl with | [_], _ => rfl
    · exact defAt_of (h := h) KX G a5 rfl z5 rfl c5 fun _ _ _ _ _ _ us hl => match us, hl with | [_], _ => rfl
    · exact defAt_of (h := h) KX G a6 rfl z6 rfl c6 fun _ _ _ _ _ _ us hl => match us, hl with | [_], _ => rfl
    · exact defAt_of (h := h) KX G a7 rfl z7 rfl c7 fun _ _ _ _ _ _ us hl => match us, hl with | [_], _ => rfl
    · exact defAt_of (h := h) KX G a8 rfl z8 rfl c8 fun _ _ _ _ _ _ us hl => match us, hl with | [_], _ => rfl
    · exact defAt_of (h := h) KX G a9 rfl z9 rfl c9 fun _ _ _ _ _ _ us hl => match us, hl with | [_], _ => rfl
    · exact defAt_of (h := h) KX G a10 rfl z10 rfl c10 fun _ _ _ _ _ _ us hl => match us, hl with | [_, _], _ => rfl
    · exact defAt_of (h := h) KX G a11 rfl z11 rfl c11 fun _ _ _ _ _ _ us hl => match us, hl with | [_, _], _ => rfl
    · exact defAt_of (h := h) KX G a12 rfl z12 rfl c12 fun _ _ _ _ _ _ us hl => match us, hl with | [_], _ => rfl
    · exact defAt_of (h := h) KX G a13 rfl z13 rfl c13 fun _ _ _ _ _ _ us hl => match us, hl with | [_, _, _], _ => rfl
    · exact defAt_of (h := h) KX G a14 rfl z14 rfl c14 fun _ _ _ _ _ _ us hl => match us, hl with | [_, _, _, _], _ => rfl
    · exact defAt_of (h := h) KX G a15 rfl z15 rfl c15 fun _ _ _ _ _ _ us hl => match us, hl with | [_, _], _ => rfl
    · exact defAt_of (h := h) KX G a16 rfl z16 rfl c16 fun _ _ _ _ _ _ us hl => match us, hl with | [_], _ => rfl
    · exact defAt_of (h := h) KX G a17 rfl z17 rfl c17 fun _ _ _ _ _ _ us hl => match us, hl with | [_], _ => rfl
    · exact defAt_of (h := h) KX G a18 rfl z18 rfl c18 fun _ _ _ _ _ _ us hl => match us, hl with | [_], _ => rfl
    · exact defAt_of (h := h) KX G a19 rfl z19 rfl c19 fun _ _ _ _ _ _ us hl => match us, hl with | [_], _ => rfl
    · exact defAt_of (h := h) KX G a20 rfl z20 rfl c20 fun _ _ _ _ _ _ us hl => match us, hl with | [_, _], _ => rfl
    · exact defAt_of (h := h) KX G a21 rfl z21 rfl c21 fun _ _ _ _ _ _ us hl => match us, hl with | [_], _ => rfl
  have wd := (world_of (P := P) bi cs fs 220).fn 21 ⟨"law", adr 21, fdf 21, ["_law_script"]⟩ rfl
  subst hadr hfdf
  exact ⟨Γ, rfl, rfl, rfl, rfl, rfl, wd.fn⟩
end K07

open PySem PySem.W PyProof.Rows in
set_option maxRecDepth 100000 in
set_option maxHeartbeats 0 in
theorem PySem.Challenge.cw_partkits_k07_sheets_by_kind_holds : PySem.Challenge.rw_partkits_k07_sheets_by_kind.Holds := by
  w_on; o_law; k_head; (case hw => w_witness2)
  k_fill
  refine Py.walk_G (l := PySem.Challenge.rw_partkits_k07_sheets_by_kind) (k := 220) (x := "_law_script") (Fl := Py.run K07.P 220 21) rfl rfl ⟨rfl, by decide, by decide⟩ (fun w h Y => PySem.W.kIn_of Y) ?F K07.pure_law
  case F =>
    intro w mg fa h KX G hmg
    refine K07.all_of KX G hmg ?a0 ?a1 ?a2 ?a3 ?a4 ?a5 ?a6 ?a7 ?a8 ?a9 ?a10 ?a11 ?a12 ?a13 ?a14 ?a15 ?a16 ?a17 ?a18 ?a19 ?a20 ?a21 ?e0 ?e1 ?bn
    case a0 => (refine' Py.df_mk ?pa0 ?pl0 ?pc0 ?pk0; (case pa0 => k_is); (case pl0 => k_is); (case pc0 => k_is); (case pk0 => k_is))
    case a1 => (refine' Py.df_mk ?pa1 ?pl1 ?pc1 ?pk1; (case pa1 => k_is); (case pl1 => k_is); (case pc1 => k_is); (case pk1 => k_is))
    case a2 => (refine' Py.df_mk ?pa2 ?pl2 ?pc2 ?pk2; (case pa2 => k_is); (case pl2 => k_is); (case pc2 => k_is); (case pk2 => k_is))
    case a3 => (refine' Py.df_mk ?pa3 ?pl3 ?pc3 ?pk3; (case pa3 => k_is); (case pl3 => k_is); (case pc3 => k_is); (case pk3 => k_is))
    case a4 => (refine' Py.df_mk ?pa4 ?pl4 ?pc4 ?pk4; (case pa4 => k_is); (case pl4 => k_is); (case pc4 => k_is); (case pk4 => k_is))
    case a5 => (refine' Py.df_mk ?pa5 ?pl5 ?pc5 ?pk5; (case pa5 => k_is); (case pl5 => k_is); (case pc5 => k_is); (case pk5 => k_is))
    case a6 => (refine' Py.df_mk ?pa6 ?pl6 ?pc6 ?pk6; (case pa6 => k_is); (case pl6 => k_is); (case pc6 => k_is); (case pk6 => k_is))
    case a7 => (refine' Py.df_mk ?pa7 ?pl7 ?pc7 ?pk7; (case pa7 => k_is); (case pl7 => k_is); (case pc7 => k_is); (case pk7 => k_is))
    case a8 => (refine' Py.df_mk ?pa8 ?pl8 ?pc8 ?pk8; (case pa8 => k_is); (case pl8 => k_is); (case pc8 => k_is); (case pk8 => k_is))
    case a9 => (refine' Py.df_mk ?pa9 ?pl9 ?pc9 ?pk9; (case pa9 => k_is); (case pl9 => k_is); (case pc9 => k_is); (case pk9 => k_is))
    case a10 => (refine' Py.df_mk ?pa10 ?pl10 ?pc10 ?pk10; (case pa10 => k_is); (case pl10 => k_is); (case pc10 => k_is); (case pk10 => k_is))
    case a11 => (refine' Py.df_mk ?pa11 ?pl11 ?pc11 ?pk11; (case pa11 => k_is); (case pl11 => k_is); (case pc11 => k_is); (case pk11 => k_is))
    case a12 => (refine' Py.df_mk ?pa12 ?pl12 ?pc12 ?pk12; (case pa12 => k_is); (case pl12 => k_is); (case pc12 => k_is); (case pk12 => k_is))
    case a13 => (refine' Py.df_mk ?pa13 ?pl13 ?pc13 ?pk13; (case pa13 => k_is); (case pl13 => k_is); (case pc13 => k_is); (case pk13 => k_is))
    case a14 => (refine' Py.df_mk ?pa14 ?pl14 ?pc14 ?pk14; (case pa14 => k_is); (case pl14 => k_is); (case pc14 => k_is); (case pk14 => k_is))
    case a15 => (refine' Py.df_mk ?pa15 ?pl15 ?pc15 ?pk15; (case pa15 => k_is); (case pl15 => k_is); (case pc15 => k_is); (case pk15 => k_is))
    case a16 => (refine' Py.df_mk ?pa16 ?pl16 ?pc16 ?pk16; (case pa16 => k_is); (case pl16 => k_is); (case pc16 => k_is); (case pk16 => k_is))
    case a17 => (refine' Py.df_mk ?pa17 ?pl17 ?pc17 ?pk17; (case pa17 => k_is); (case pl17 => k_is); (case pc17 => k_is); (case pk17 => k_is))
    case a18 => (refine' Py.df_mk ?pa18 ?pl18 ?pc18 ?pk18; (case pa18 => k_is); (case pl18 => k_is); (case pc18 => k_is); (case pk18 => k_is))
    case a19 => (refine' Py.df_mk ?pa19 ?pl19 ?pc19 ?pk19; (case pa19 => k_is); (case pl19 => k_is); (case pc19 => k_is); (case pk19 => k_is))
    case a20 => (refine' Py.df_mk ?pa20 ?pl20 ?pc20 ?pk20; (case pa20 => k_is); (case pl20 => k_is); (case pc20 => k_is); (case pk20 => k_is))
    case a21 => (refine' Py.df_mk ?pa21 ?pl21 ?pc21 ?pk21; (case pa21 => k_is); (case pl21 => k_is); (case pc21 => k_is); (case pk21 => k_is))
    case e0 => (refine' Py.gl_mk ?qa0 ?qb0; (case qa0 => k_is); (case qb0 => exact ⟨_, rfl⟩))
    case e1 => (refine' Py.gl_mk ?qa1 ?qb1; (case qa1 => k_is); (case qb1 => exact ⟨_, rfl⟩))
    case bn =>
      intro x hx
      simp only [Py.biNames, List.mem_cons, List.not_mem_nil, or_false] at hx
      rcases hx with rfl | rfl | rfl | rfl | rfl | rfl | rfl | rfl | rfl | rfl | rfl | rfl | rfl | rfl | rfl | rfl | rfl | rfl | rfl <;> k_is
end
